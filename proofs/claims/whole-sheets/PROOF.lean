import PyProof.Rows.All
import Wide.All
import OpenK.AllK
import Wide.FinOn
import HandS.ForExc
import HandS.Codes
import HandS.Defaults
import HandS.Star
import HandS.Property
import HandS.HeadEnd
import HandS.HeadHook1
import HandS.HeadHook2
import KE.KStateDown
import Lean
import HandS.Head0
import HandS.Head1
import HandS.Head2
import HandS.ForMost
import HandS.Walk
import HandS.IsInst
import HandS.TupAny
import HandS.Style
import HandS.FStr
import KE.DataCmp
import HandS.CallLocal
import HandS.OwnEq
import KE.KWithOwn
import KE.KCallOwn
import PyProof.RulesMatch
import PyProof.DictUpdate
import HandS.DictEq
import HandS.MakeKw
import KE.KParD
import HandS.SortKw
import HandS.Wide
import HandS.TupLe
import PySem.Challenge.RW_laytwice_k79_whole_sheets_and_runs
set_option Elab.async false
set_option linter.all false
set_option maxRecDepth 100000
set_option maxHeartbeats 4000000
/-! The text by places; the facts that the head gives. -/
namespace Lt
open PySem PySem.Spec PyProof.Rows L2
abbrev Fg := PySem.W.Frag
def top (i : Nat) : Stmt := PySem.Challenge.pw_laytwice_k79_whole_sheets_and_runs.main.body.getD i (.Pass ⟨0, 0, 0, 0⟩)
/-! ### addresses, facts as Bools -/
abbrev ga := He.ga
abbrev ma := He.ma
/-- the getter of a property -/
def pAt (K : Fg) (c f : Str) : Addr := match PySem.W.findIn K (.ref (ga K c)) f with
  | some (some (.ref p)) => p
  | _ => 0
def pga (K : Fg) (c f : Str) : Addr := match PySem.W.recIn K (pAt K c f) "property" with
  | some (.ref g :: _) => g
  | _ => 0
def gloB (x : Str) (K : Fg) : Bool := (He.Fa.glo x).ok K && (He.Fa.keep x).ok K
def glo2B (x y : Str) (K : Fg) : Bool := He.eqO (PySem.W.nsIn K mainGlobals x) (some (some (.ref (ga K y))))
def freeB (x : Str) (K : Fg) : Bool := (He.Fa.free x).ok K
def intB (x : Str) (i : Int) (K : Fg) : Bool := (He.Fa.int x i).ok K
def strB (x z : Str) (K : Fg) : Bool := (He.Fa.str x z).ok K
def clsB (x : Str) (K : Fg) : Bool := (He.Fa.cls x).ok K
def mkrB (x : Str) (K : Fg) : Bool := (He.Fa.mkr x).ok K
def noatB (x f : Str) (K : Fg) : Bool := (He.Fa.noat x f).ok K
def methB (x f : Str) (K : Fg) : Bool := (He.Fa.meth x f).ok K
/-- an instance's class is told: what isinstance asks -/
def objB (x : Str) (K : Fg) : Bool := He.eqO (PySem.W.findIn K (.ref (ga K x)) "__class__") (some (some (.builtin "object.__class__"))) && (decide (PySem.W.mroIn K (ga K x) (.type "object") = some true) && (decide (PySem.W.kitOne K (.ref (ga K x)) (.ref (ga K x)) = some true) && (decide (PySem.W.specialIn K (.builtin "object.__class__") "__get__" = some (some (.builtin "getset_descriptor.__get__"))) && decide (PySem.W.takesIn K (.builtin "object.__class__") = some true))))
def propB (x f : Str) (K : Fg) : Bool := He.eqO (PySem.W.findIn K (.ref (ga K x)) f) (some (some (.ref (pAt K x f)))) && (decide (PySem.W.specialIn K (.ref (pAt K x f)) "__get__" = some (some (.builtin "property.__get__"))) && (decide (PySem.W.takesIn K (.ref (pAt K x f)) = some true) &&
  (match PySem.W.recIn K (pAt K x f) "property" with
    | some (.ref g :: _) => decide (g = pga K x f)
    | _ => false)))
def tupB (x : Str) (vs : List Str) (K : Fg) : Bool := He.eqO (PySem.W.nsIn K mainGlobals x) (some (some (.ref (ga K x)))) && He.tupB K x (vs.map He.Dv.str)
/-- the i-th default of the def at ad, if it is an object -/
def dflA (ad : Fg → Addr) (i : Nat) (K : Fg) : Addr := match K.lookup (ad K) with
  | some ⟨_, _, .func fd, _⟩ => (match fd.defaults with
    | .ref T => (match K.lookup T with
      | some ⟨_, _, .seq its _, _⟩ => (match its.toList[i]? with
        | some (.ref a) => a
        | _ => 0)
      | _ => 0)
    | _ => 0)
  | _ => 0
def neB (x : Str) (K : Fg) : Bool := He.eqO (PySem.W.findIn K (.ref (ga K x)) "__ne__") (some (some (.builtin "object.__ne__")))
/-! ### defs -/
structure Dm where
  ad : Fg → Addr
  name : Str
  qual : Str
  st : Stmt
  dfl : List He.Dv := []
def Dm.val (d : Dm) : He.FnW := some (d.name, d.qual, defArgs d.st, .stmts (defBody d.st), defScope d.st, mainGlobals, [], builtinsNs)
def fnA (K : Fg) (a : Addr) : He.FnW := match K.lookup a with
  | some ⟨_, _, .func fd, _⟩ => some (fd.name, fd.qualname, fd.params, fd.body, fd.scope, fd.globals, fd.closure, fd.builtins)
  | _ => none
def Dm.dvs (K : Fg) (d : Dm) : List V := d.dfl.map (He.Dv.v K)
def Dm.ok (K : Fg) (d : Dm) : Bool := PySem.W.keepIn K (.ref (d.ad K)) && (match K.lookup (d.ad K) with
  | some ⟨_, _, .func fd, _⟩ => PySem.W.codeIn K fd.code d.qual && He.dflB K fd.defaults (d.dvs K)
  | _ => false)
abbrev FnD (K : Fg) (d : Dm) (fd : FuncData) : Prop := FunD K d.name d.qual (defArgs d.st) (defBody d.st) (defScope d.st) (d.dvs K) [] (d.ad K) fd
theorem Dm.funD {K : Fg} {d : Dm} (e : fnA K (d.ad K) = d.val) (c : d.ok K = true) : ∃ fd, FnD K d fd := by
  obtain ⟨kp, c2⟩ := He.ba c
  unfold fnA at e
  cases q : K.lookup (d.ad K) with
  | none =>
    rw [q] at c2
    cases c2
  | some o =>
    obtain ⟨oc, od, dt, osl⟩ := o
    rw [q] at c2 e
    cases dt with
    | func fd =>
      obtain ⟨n1, n2, n3, n4, n5, n6, n7, n8, n9, n10, n11, n12, n13, n14, n15⟩ := fd
      have e2 : (some (n1, n2, n3, n4, n5, n6, n7, n15) : He.FnW) = some (d.name, d.qual, defArgs d.st, .stmts (defBody d.st), defScope d.st, mainGlobals, [], builtinsNs) := e
      simp only [Option.some.injEq, Prod.mk.injEq] at e2
      obtain ⟨h1, h2, h3, h4, h5, h6, h7, h8⟩ := e2
      subst h1 h2 h3 h4 h5 h6 h7 h8
      have c3 : (PySem.W.codeIn K n13 d.qual && He.dflB K n8 (d.dvs K)) = true := c2
      obtain ⟨k1, k2⟩ := He.ba c3
      exact ⟨_, ⟨oc, od, n8, n9, n10, n11, n12, n13, n14, osl, rfl, q, k1, He.dflB_ok k2, .inl rfl⟩, kp⟩
    | _ => cases c2
/-! ### the Hook -/
abbrev Al : Type := Bool × List He.FnW
def obsM (fa : List (Fg → Bool)) (fn : List Dm) (K : Fg) : Al := ((fa.all fun f => f K) && fn.all fun d => d.ok K, fn.map fun d => fnA K (d.ad K))
def valM (fn : List Dm) : Al := (true, fn.map Dm.val)
def SaysM (fa : List (Fg → Bool)) (fn : List Dm) (K : Fg) : Prop := obsM fa fn K = valM fn
/-! the addresses: globals' values, defs' codes and defaults, classes' dicts, what stands in these, properties' getters -/
def rfFn (g : Addr → Option Obj) (a : Addr) : List Addr := match g a with
  | some ⟨_, _, .func fd, _⟩ => He.refV fd.code ++ He.refV fd.defaults
  | some ⟨_, _, .cls cd, _⟩ => [cd.ns]
  | _ => []
def rfDict (g : Addr → Option Obj) (a : Addr) : List Addr := match g a with
  | some ⟨_, _, .dict es _, _⟩ => es.toList.flatMap fun e => He.refV e.val
  | _ => []
def rfFld (g : Addr → Option Obj) (a : Addr) : List Addr := match g a with
  | some ⟨_, _, .fields vs, _⟩ => vs.toList.flatMap He.refV
  | _ => []
def asM (g : Addr → Option Obj) : List Addr :=
  let l1 := rfDict g mainGlobals
  let l2 := l1.flatMap (rfFn g)
  let l3 := l2.flatMap (rfDict g)
  let l4 := l3.flatMap (rfFn g) ++ l3.flatMap (rfFld g)
  mainGlobals :: (l1 ++ (l2 ++ (l3 ++ (l4 ++ l4.flatMap (rfFn g)))))
def obsMG (fa : List (Fg → Bool)) (fn : List Dm) (g : Addr → Option Obj) : Al := obsM fa fn (He.frG g (asM g))
def hookM (fa : List (Fg → Bool)) (fn : List Dm) : PySem.W.Hook where
  α := Al
  obs := fun s => obsMG fa fn s.heap.get?
  val := fun _ => valM fn
  says := fun _ h => ∃ K : Fg, K.In h ∧ SaysM fa fn K
  of := fun _ _ e => ⟨_, He.frG_in, e⟩
  keeps := fun _ _ _ ⟨K, hK, c⟩ k => ⟨K, PySem.W.Frag.In.keeps hK k, c⟩
theorem obsMG_eq {fa : List (Fg → Bool)} {fn : List Dm} {g : Addr → Option Obj} {s : Shared} (h : ∀ a, g a = s.heap.get? a) : obsMG fa fn g = (hookM fa fn).obs s := by
  have e : g = s.heap.get? := funext h
  rw [e] <;> rfl
section
variable {fa : List (Fg → Bool)} {fn : List Dm} {K : Fg}
theorem SaysM.fact (c : SaysM fa fn K) (i : Nat) {f : Fg → Bool} (h : fa[i]? = some f := by rfl) : f K = true := by
  have c1 := (He.ba (show ((fa.all fun f => f K) && fn.all fun d => d.ok K) = true from congrArg (fun z : Al => z.1) c)).1
  exact List.all_eq_true.mp c1 f (List.mem_of_getElem? h)
theorem SaysM.def_ (c : SaysM fa fn K) (i : Nat) {d : Dm} (h : fn[i]? = some d := by rfl) : ∃ fd, FnD K d fd := by
  have c2 := (He.ba (show ((fa.all fun f => f K) && fn.all fun d => d.ok K) = true from congrArg (fun z : Al => z.1) c)).2
  have e : fn.map (fun d => fnA K (d.ad K)) = fn.map Dm.val := congrArg (fun z : Al => z.2) c
  have e2 : (fn.map fun d => fnA K (d.ad K))[i]? = (fn.map Dm.val)[i]? := by rw [e]
  rw [List.getElem?_map, List.getElem?_map, h] at e2
  exact Dm.funD (Option.some.inj e2) (List.all_eq_true.mp c2 d (List.mem_of_getElem? h))
end
/-! ### this text's defs and facts -/
def d_is_integer : Dm := { ad := fun K => ga K "is_integer", name := "is_integer", qual := "is_integer", st := top 15 }
def d_is_name : Dm := { ad := fun K => ga K "is_name", name := "is_name", qual := "is_name", st := top 16 }
def d_is_sequence : Dm := { ad := fun K => ga K "is_sequence", name := "is_sequence", qual := "is_sequence", st := top 17 }
def d_is_word : Dm := { ad := fun K => ga K "is_word", name := "is_word", qual := "is_word", st := top 18 }
def d_is_test : Dm := { ad := fun K => ga K "is_test", name := "is_test", qual := "is_test", st := top 19 }
def d_is_remark : Dm := { ad := fun K => ga K "is_remark", name := "is_remark", qual := "is_remark", st := top 22 }
def d_fault_of : Dm := { ad := fun K => ga K "fault_of", name := "fault_of", qual := "fault_of", st := top 23 }
def d_Piece_init : Dm := { ad := fun K => ma K (ga K "Piece") "__init__", name := "__init__", qual := "Piece.__init__", st := inClass (top 24) 0, dfl := [.bl false, .bl false, .str "", .str "", .int 0, .bl false] }
def d_Piece_bare : Dm := { ad := fun K => pga K "Piece" "bare", name := "bare", qual := "Piece.bare", st := inClass (top 24) 1 }
def d_Piece_told : Dm := { ad := fun K => ma K (ga K "Piece") "told", name := "told", qual := "Piece.told", st := inClass (top 24) 2 }
def d_Piece_but : Dm := { ad := fun K => ma K (ga K "Piece") "but", name := "but", qual := "Piece.but", st := inClass (top 24) 3 }
def d_Piece_written : Dm := { ad := fun K => ma K (ga K "Piece") "written", name := "written", qual := "Piece.written", st := inClass (top 24) 4 }
def d_Piece_eq : Dm := { ad := fun K => ma K (ga K "Piece") "__eq__", name := "__eq__", qual := "Piece.__eq__", st := inClass (top 24) 5 }
def d_row_of : Dm := { ad := fun K => ga K "row_of", name := "row_of", qual := "row_of", st := top 25 }
def d_Program_init : Dm := { ad := fun K => ma K (ga K "Program") "__init__", name := "__init__", qual := "Program.__init__", st := inClass (top 27) 0, dfl := [.adr (dflA (fun K => ma K (ga K "Program") "__init__") 0)] }
def d_Program_len : Dm := { ad := fun K => ma K (ga K "Program") "__len__", name := "__len__", qual := "Program.__len__", st := inClass (top 27) 3 }
def d_Program_eq : Dm := { ad := fun K => ma K (ga K "Program") "__eq__", name := "__eq__", qual := "Program.__eq__", st := inClass (top 27) 7 }
def d_text_of : Dm := { ad := fun K => ga K "text_of", name := "text_of", qual := "text_of", st := top 28 }
def d_is_fence : Dm := { ad := fun K => ga K "is_fence", name := "is_fence", qual := "is_fence", st := top 32 }
def d_key_of : Dm := { ad := fun K => ga K "key_of", name := "key_of", qual := "key_of", st := top 33 }
def d_in_order : Dm := { ad := fun K => ga K "in_order", name := "in_order", qual := "in_order", st := top 34 }
def d_is_long : Dm := { ad := fun K => ga K "is_long", name := "is_long", qual := "is_long", st := top 35 }
def d_holds : Dm := { ad := fun K => ga K "holds", name := "holds", qual := "holds", st := top 36 }
def d_done_to : Dm := { ad := fun K => ga K "done_to", name := "done_to", qual := "done_to", st := top 37 }
def d_laid_out : Dm := { ad := fun K => ga K "laid_out", name := "laid_out", qual := "laid_out", st := top 38 }
def d_rows_done : Dm := { ad := fun K => ga K "rows_done", name := "rows_done", qual := "rows_done", st := top 39 }
def d_run : Dm := { ad := fun K => ga K "run", name := "run", qual := "run", st := top 40 }
def d_Trial_init : Dm := { ad := fun K => ma K (ga K "Trial") "__init__", name := "__init__", qual := "Trial.__init__", st := inClass (top 43) 0 }
def d_Trial_enter : Dm := { ad := fun K => ma K (ga K "Trial") "__enter__", name := "__enter__", qual := "Trial.__enter__", st := inClass (top 43) 1 }
def d_Trial_exit : Dm := { ad := fun K => ma K (ga K "Trial") "__exit__", name := "__exit__", qual := "Trial.__exit__", st := inClass (top 43) 2 }
def d_Sheet_init : Dm := { ad := fun K => ma K (ga K "Sheet") "__init__", name := "__init__", qual := "Sheet.__init__", st := inClass (top 44) 0 }
def d_Sheet_program : Dm := { ad := fun K => pga K "Sheet" "program", name := "program", qual := "Sheet.program", st := inClass (top 44) 1 }
def d_Sheet_tool : Dm := { ad := fun K => pga K "Sheet" "tool", name := "tool", qual := "Sheet.tool", st := inClass (top 44) 2 }
def d_Sheet_stand : Dm := { ad := fun K => ma K (ga K "Sheet") "stand", name := "stand", qual := "Sheet.stand", st := inClass (top 44) 4 }
def d_Sheet_go_on : Dm := { ad := fun K => ma K (ga K "Sheet") "go_on", name := "go_on", qual := "Sheet.go_on", st := inClass (top 44) 5 }
def d_Sheet_need_spot : Dm := { ad := fun K => ma K (ga K "Sheet") "need_spot", name := "need_spot", qual := "Sheet.need_spot", st := inClass (top 44) 6 }
def d_Sheet_with_pieces : Dm := { ad := fun K => ma K (ga K "Sheet") "with_pieces", name := "with_pieces", qual := "Sheet.with_pieces", st := inClass (top 44) 7 }
def d_Sheet_put : Dm := { ad := fun K => ma K (ga K "Sheet") "put", name := "put", qual := "Sheet.put", st := inClass (top 44) 8 }
def d_Sheet_take : Dm := { ad := fun K => ma K (ga K "Sheet") "take", name := "take", qual := "Sheet.take", st := inClass (top 44) 9 }
def d_Sheet_change : Dm := { ad := fun K => ma K (ga K "Sheet") "change", name := "change", qual := "Sheet.change", st := inClass (top 44) 10 }
def d_Sheet_run : Dm := { ad := fun K => ma K (ga K "Sheet") "run", name := "run", qual := "Sheet.run", st := inClass (top 44) 11 }
def d_Sheet_undo : Dm := { ad := fun K => ma K (ga K "Sheet") "undo", name := "undo", qual := "Sheet.undo", st := inClass (top 44) 13 }
def d_Sheet_trial : Dm := { ad := fun K => ma K (ga K "Sheet") "trial", name := "trial", qual := "Sheet.trial", st := inClass (top 44) 14 }
def d_Sheet_within : Dm := { ad := fun K => ma K (ga K "Sheet") "within", name := "within", qual := "Sheet.within", st := inClass (top 44) 15 }
def d_Sheet_len : Dm := { ad := fun K => ma K (ga K "Sheet") "__len__", name := "__len__", qual := "Sheet.__len__", st := inClass (top 44) 16 }
def d_need_piece : Dm := { ad := fun K => ga K "need_piece", name := "need_piece", qual := "need_piece", st := top 45 }
def d_Row_init : Dm := { ad := fun K => ma K (ga K "Row") "__init__", name := "__init__", qual := "Row.__init__", st := inClass (top 47) 0, dfl := [.adr (dflA (fun K => ma K (ga K "Row") "__init__") 0), .adr (dflA (fun K => ma K (ga K "Row") "__init__") 1)] }
def d_Row_str : Dm := { ad := fun K => ma K (ga K "Row") "__str__", name := "__str__", qual := "Row.__str__", st := inClass (top 47) 2 }
def d_Tool_init : Dm := { ad := fun K => ma K (ga K "Tool") "__init__", name := "__init__", qual := "Tool.__init__", st := inClass (top 49) 0, dfl := [.adr (dflA (fun K => ma K (ga K "Tool") "__init__") 0), .bl false] }
def d_Tool_str : Dm := { ad := fun K => ma K (ga K "Tool") "__str__", name := "__str__", qual := "Tool.__str__", st := inClass (top 49) 9 }
def d_law_feed : Dm := { ad := fun K => ga K "_law_feed", name := "_law_feed", qual := "_law_feed", st := top 51 }
def d_law_take : Dm := { ad := fun K => ga K "_law_take", name := "_law_take", qual := "_law_take", st := top 52 }
def d_law_pick : Dm := { ad := fun K => ga K "_law_pick", name := "_law_pick", qual := "_law_pick", st := top 53 }
def d_law_mixed : Dm := { ad := fun K => ga K "_law_mixed", name := "_law_mixed", qual := "_law_mixed", st := top 54 }
def d_law_tests : Dm := { ad := fun K => ga K "_law_tests", name := "_law_tests", qual := "_law_tests", st := top 55 }
def d_law_deeds : Dm := { ad := fun K => ga K "_law_deeds", name := "_law_deeds", qual := "_law_deeds", st := top 56 }
def d_law_usual : Dm := { ad := fun K => ga K "_law_usual", name := "_law_usual", qual := "_law_usual", st := top 57 }
def d_law_tool : Dm := { ad := fun K => ga K "_law_tool", name := "_law_tool", qual := "_law_tool", st := top 58 }
def d_law_row_text : Dm := { ad := fun K => ga K "_law_row_text", name := "_law_row_text", qual := "_law_row_text", st := top 59 }
def d_law_tool_text : Dm := { ad := fun K => ga K "_law_tool_text", name := "_law_tool_text", qual := "_law_tool_text", st := top 60 }
def d_law_tool_of : Dm := { ad := fun K => ga K "_law_tool_of", name := "_law_tool_of", qual := "_law_tool_of", st := top 61 }
def d_law_name : Dm := { ad := fun K => ga K "_law_name", name := "_law_name", qual := "_law_name", st := top 62 }
def d_law_piece : Dm := { ad := fun K => ga K "_law_piece", name := "_law_piece", qual := "_law_piece", st := top 63 }
def d_law_pieces : Dm := { ad := fun K => ga K "_law_pieces", name := "_law_pieces", qual := "_law_pieces", st := top 64 }
def d_law_program : Dm := { ad := fun K => ga K "_law_program", name := "_law_program", qual := "_law_program", st := top 65 }
def d_law_told : Dm := { ad := fun K => ga K "_law_told", name := "_law_told", qual := "_law_told", st := top 66 }
def d_law_bare : Dm := { ad := fun K => ga K "_law_bare", name := "_law_bare", qual := "_law_bare", st := top 67 }
def d_law_is_long : Dm := { ad := fun K => ga K "_law_is_long", name := "_law_is_long", qual := "_law_is_long", st := top 68 }
def d_law_holds : Dm := { ad := fun K => ga K "_law_holds", name := "_law_holds", qual := "_law_holds", st := top 69 }
def d_law_did : Dm := { ad := fun K => ga K "_law_did", name := "_law_did", qual := "_law_did", st := top 70 }
def d_law_laid : Dm := { ad := fun K => ga K "_law_laid", name := "_law_laid", qual := "_law_laid", st := top 71 }
def d_law_is_fence : Dm := { ad := fun K => ga K "_law_is_fence", name := "_law_is_fence", qual := "_law_is_fence", st := top 72 }
def d_law_in_order : Dm := { ad := fun K => ga K "_law_in_order", name := "_law_in_order", qual := "_law_in_order", st := top 73 }
def d_law_rows_done : Dm := { ad := fun K => ga K "_law_rows_done", name := "_law_rows_done", qual := "_law_rows_done", st := top 74 }
def d_law_run : Dm := { ad := fun K => ga K "_law_run", name := "_law_run", qual := "_law_run", st := top 75 }
def d_law_width : Dm := { ad := fun K => ga K "_law_width", name := "_law_width", qual := "_law_width", st := top 76 }
def d_law_within : Dm := { ad := fun K => ga K "_law_within", name := "_law_within", qual := "_law_within", st := top 77 }
def d_law : Dm := { ad := fun K => ga K "law", name := "law", qual := "law", st := top 78 }
def fn0 : List Dm := [d_is_integer, d_is_name, d_is_sequence, d_is_word, d_is_test, d_is_remark, d_fault_of, d_Piece_init, d_Piece_bare, d_Piece_told, d_Piece_but, d_Piece_written, d_Piece_eq, d_row_of, d_Program_init, d_Program_len, d_Program_eq, d_text_of, d_is_fence, d_key_of, d_in_order, d_is_long, d_holds, d_done_to, d_laid_out, d_rows_done, d_run, d_Trial_init, d_Trial_enter, d_Trial_exit]
def fn1 : List Dm := [d_Sheet_init, d_Sheet_program, d_Sheet_tool, d_Sheet_stand, d_Sheet_go_on, d_Sheet_need_spot, d_Sheet_with_pieces, d_Sheet_put, d_Sheet_take, d_Sheet_change, d_Sheet_run, d_Sheet_undo, d_Sheet_trial, d_Sheet_within, d_Sheet_len, d_need_piece, d_Row_init, d_Row_str, d_Tool_init, d_Tool_str, d_law_feed, d_law_take, d_law_pick, d_law_mixed, d_law_tests, d_law_deeds, d_law_usual, d_law_tool, d_law_row_text, d_law_tool_text]
def fn2 : List Dm := [d_law_tool_of, d_law_name, d_law_piece, d_law_pieces, d_law_program, d_law_told, d_law_bare, d_law_is_long, d_law_holds, d_law_did, d_law_laid, d_law_is_fence, d_law_in_order, d_law_rows_done, d_law_run, d_law_width, d_law_within, d_law]
def fn : List Dm := fn0 ++ fn1 ++ fn2
def fa0 : List (Fg → Bool) := [gloB "is_integer", gloB "is_name", gloB "is_sequence", gloB "is_word", gloB "is_test", gloB "is_remark", gloB "fault_of", gloB "Piece", gloB "row_of", gloB "Program", gloB "text_of", gloB "is_fence", gloB "key_of", gloB "in_order", gloB "is_long", gloB "holds", gloB "done_to", gloB "laid_out", gloB "rows_done", gloB "run", gloB "Trial", gloB "Sheet", gloB "need_piece", gloB "Row", gloB "Tool", gloB "_law_feed", gloB "_law_take", gloB "_law_pick", gloB "_law_mixed", gloB "_law_tests"]
def fa1 : List (Fg → Bool) := [gloB "_law_deeds", gloB "_law_usual", gloB "_law_tool", gloB "_law_row_text", gloB "_law_tool_text", gloB "_law_tool_of", gloB "_law_name", gloB "_law_piece", gloB "_law_pieces", gloB "_law_program", gloB "_law_told", gloB "_law_bare", gloB "_law_is_long", gloB "_law_holds", gloB "_law_did", gloB "_law_laid", gloB "_law_is_fence", gloB "_law_in_order", gloB "_law_rows_done", gloB "_law_run", gloB "_law_width", gloB "_law_within", gloB "law", tupB "TESTS" ["broken", "marked", "left", "ahead", "behind", "blank", "long", "first", "afterbroken", "afterbehind"], tupB "DEEDS" ["break", "join", "mark", "unmark", "lift", "lower", "space", "close"], glo2B "run_running" "run", freeB "len", freeB "isinstance", freeB "all", freeB "int"]
def fa2 : List (Fg → Bool) := [freeB "tuple", freeB "list", freeB "range", freeB "enumerate", freeB "sorted", freeB "sum", freeB "str", freeB "repr", freeB "abs", freeB "max", freeB "min", freeB "bool", freeB "ValueError", freeB "TypeError", intB "MOST_LETTERS" 6, intB "MOST_BLANKS" 2, strB "NOT" "not ", strB "LETTERS" "abcdefghijklmnopqrstuvwxyz", clsB "Piece", mkrB "Piece", objB "Piece", noatB "Piece" "word", noatB "Piece" "parts", noatB "Piece" "broken", noatB "Piece" "marked", noatB "Piece" "ahead", noatB "Piece" "behind", noatB "Piece" "blanks", noatB "Piece" "left", noatB "Piece" "text"]
def fa3 : List (Fg → Bool) := [methB "Piece" "told", methB "Piece" "but", methB "Piece" "written", methB "Piece" "__eq__", propB "Piece" "bare", clsB "Program", mkrB "Program", objB "Program", noatB "Program" "pieces", noatB "Program" "text", methB "Program" "__len__", methB "Program" "__eq__", clsB "Trial", mkrB "Trial", objB "Trial", noatB "Trial" "given", noatB "Trial" "old_stand", noatB "Trial" "old_past", methB "Trial" "__enter__", methB "Trial" "__exit__", clsB "Sheet", mkrB "Sheet", objB "Sheet", noatB "Sheet" "width", noatB "Sheet" "at_hand", noatB "Sheet" "past", methB "Sheet" "stand", methB "Sheet" "go_on", methB "Sheet" "need_spot", methB "Sheet" "with_pieces"]
def fa4 : List (Fg → Bool) := [methB "Sheet" "put", methB "Sheet" "take", methB "Sheet" "change", methB "Sheet" "run", methB "Sheet" "undo", methB "Sheet" "trial", methB "Sheet" "within", methB "Sheet" "__len__", propB "Sheet" "program", propB "Sheet" "tool", clsB "Row", mkrB "Row", objB "Row", noatB "Row" "tests", noatB "Row" "deeds", methB "Row" "__str__", clsB "Tool", mkrB "Tool", objB "Tool", noatB "Tool" "rows", noatB "Tool" "sorts", methB "Tool" "__str__", neB "Piece", neB "Program"]
def fa : List (Fg → Bool) := fa0 ++ fa1 ++ fa2 ++ fa3 ++ fa4
/-- what the top has left -/
structure Txt (K : Fg) (mg : Str → Option Value) : Prop where
  st : ∃ h : Heap, K.In h ∧ h.Ns mainGlobals mg
  says : SaysM fa fn K
section
variable {K : Fg} {mg : Str → Option Value}
theorem Txt.d_is_integer (T : Txt K mg) : ∃ fd, FnD K Lt.d_is_integer fd := T.says.def_ 0
theorem Txt.d_is_name (T : Txt K mg) : ∃ fd, FnD K Lt.d_is_name fd := T.says.def_ 1
theorem Txt.d_is_sequence (T : Txt K mg) : ∃ fd, FnD K Lt.d_is_sequence fd := T.says.def_ 2
theorem Txt.d_is_word (T : Txt K mg) : ∃ fd, FnD K Lt.d_is_word fd := T.says.def_ 3
theorem Txt.d_is_test (T : Txt K mg) : ∃ fd, FnD K Lt.d_is_test fd := T.says.def_ 4
theorem Txt.d_is_remark (T : Txt K mg) : ∃ fd, FnD K Lt.d_is_remark fd := T.says.def_ 5
theorem Txt.d_fault_of (T : Txt K mg) : ∃ fd, FnD K Lt.d_fault_of fd := T.says.def_ 6
theorem Txt.d_Piece_init (T : Txt K mg) : ∃ fd, FnD K Lt.d_Piece_init fd := T.says.def_ 7
theorem Txt.d_Piece_bare (T : Txt K mg) : ∃ fd, FnD K Lt.d_Piece_bare fd := T.says.def_ 8
theorem Txt.d_Piece_told (T : Txt K mg) : ∃ fd, FnD K Lt.d_Piece_told fd := T.says.def_ 9
theorem Txt.d_Piece_but (T : Txt K mg) : ∃ fd, FnD K Lt.d_Piece_but fd := T.says.def_ 10
theorem Txt.d_Piece_written (T : Txt K mg) : ∃ fd, FnD K Lt.d_Piece_written fd := T.says.def_ 11
theorem Txt.d_Piece_eq (T : Txt K mg) : ∃ fd, FnD K Lt.d_Piece_eq fd := T.says.def_ 12
theorem Txt.d_row_of (T : Txt K mg) : ∃ fd, FnD K Lt.d_row_of fd := T.says.def_ 13
theorem Txt.d_Program_init (T : Txt K mg) : ∃ fd, FnD K Lt.d_Program_init fd := T.says.def_ 14
theorem Txt.d_Program_len (T : Txt K mg) : ∃ fd, FnD K Lt.d_Program_len fd := T.says.def_ 15
theorem Txt.d_Program_eq (T : Txt K mg) : ∃ fd, FnD K Lt.d_Program_eq fd := T.says.def_ 16
theorem Txt.d_text_of (T : Txt K mg) : ∃ fd, FnD K Lt.d_text_of fd := T.says.def_ 17
theorem Txt.d_is_fence (T : Txt K mg) : ∃ fd, FnD K Lt.d_is_fence fd := T.says.def_ 18
theorem Txt.d_key_of (T : Txt K mg) : ∃ fd, FnD K Lt.d_key_of fd := T.says.def_ 19
theorem Txt.d_in_order (T : Txt K mg) : ∃ fd, FnD K Lt.d_in_order fd := T.says.def_ 20
theorem Txt.d_is_long (T : Txt K mg) : ∃ fd, FnD K Lt.d_is_long fd := T.says.def_ 21
theorem Txt.d_holds (T : Txt K mg) : ∃ fd, FnD K Lt.d_holds fd := T.says.def_ 22
theorem Txt.d_done_to (T : Txt K mg) : ∃ fd, FnD K Lt.d_done_to fd := T.says.def_ 23
theorem Txt.d_laid_out (T : Txt K mg) : ∃ fd, FnD K Lt.d_laid_out fd := T.says.def_ 24
theorem Txt.d_rows_done (T : Txt K mg) : ∃ fd, FnD K Lt.d_rows_done fd := T.says.def_ 25
theorem Txt.d_run (T : Txt K mg) : ∃ fd, FnD K Lt.d_run fd := T.says.def_ 26
theorem Txt.d_Trial_init (T : Txt K mg) : ∃ fd, FnD K Lt.d_Trial_init fd := T.says.def_ 27
theorem Txt.d_Trial_enter (T : Txt K mg) : ∃ fd, FnD K Lt.d_Trial_enter fd := T.says.def_ 28
theorem Txt.d_Trial_exit (T : Txt K mg) : ∃ fd, FnD K Lt.d_Trial_exit fd := T.says.def_ 29
theorem Txt.d_Sheet_init (T : Txt K mg) : ∃ fd, FnD K Lt.d_Sheet_init fd := T.says.def_ 30
theorem Txt.d_Sheet_program (T : Txt K mg) : ∃ fd, FnD K Lt.d_Sheet_program fd := T.says.def_ 31
theorem Txt.d_Sheet_tool (T : Txt K mg) : ∃ fd, FnD K Lt.d_Sheet_tool fd := T.says.def_ 32
theorem Txt.d_Sheet_stand (T : Txt K mg) : ∃ fd, FnD K Lt.d_Sheet_stand fd := T.says.def_ 33
theorem Txt.d_Sheet_go_on (T : Txt K mg) : ∃ fd, FnD K Lt.d_Sheet_go_on fd := T.says.def_ 34
theorem Txt.d_Sheet_need_spot (T : Txt K mg) : ∃ fd, FnD K Lt.d_Sheet_need_spot fd := T.says.def_ 35
theorem Txt.d_Sheet_with_pieces (T : Txt K mg) : ∃ fd, FnD K Lt.d_Sheet_with_pieces fd := T.says.def_ 36
theorem Txt.d_Sheet_put (T : Txt K mg) : ∃ fd, FnD K Lt.d_Sheet_put fd := T.says.def_ 37
theorem Txt.d_Sheet_take (T : Txt K mg) : ∃ fd, FnD K Lt.d_Sheet_take fd := T.says.def_ 38
theorem Txt.d_Sheet_change (T : Txt K mg) : ∃ fd, FnD K Lt.d_Sheet_change fd := T.says.def_ 39
theorem Txt.d_Sheet_run (T : Txt K mg) : ∃ fd, FnD K Lt.d_Sheet_run fd := T.says.def_ 40
theorem Txt.d_Sheet_undo (T : Txt K mg) : ∃ fd, FnD K Lt.d_Sheet_undo fd := T.says.def_ 41
theorem Txt.d_Sheet_trial (T : Txt K mg) : ∃ fd, FnD K Lt.d_Sheet_trial fd := T.says.def_ 42
theorem Txt.d_Sheet_within (T : Txt K mg) : ∃ fd, FnD K Lt.d_Sheet_within fd := T.says.def_ 43
theorem Txt.d_Sheet_len (T : Txt K mg) : ∃ fd, FnD K Lt.d_Sheet_len fd := T.says.def_ 44
theorem Txt.d_need_piece (T : Txt K mg) : ∃ fd, FnD K Lt.d_need_piece fd := T.says.def_ 45
theorem Txt.d_Row_init (T : Txt K mg) : ∃ fd, FnD K Lt.d_Row_init fd := T.says.def_ 46
theorem Txt.d_Row_str (T : Txt K mg) : ∃ fd, FnD K Lt.d_Row_str fd := T.says.def_ 47
theorem Txt.d_Tool_init (T : Txt K mg) : ∃ fd, FnD K Lt.d_Tool_init fd := T.says.def_ 48
theorem Txt.d_Tool_str (T : Txt K mg) : ∃ fd, FnD K Lt.d_Tool_str fd := T.says.def_ 49
theorem Txt.d_law_feed (T : Txt K mg) : ∃ fd, FnD K Lt.d_law_feed fd := T.says.def_ 50
theorem Txt.d_law_take (T : Txt K mg) : ∃ fd, FnD K Lt.d_law_take fd := T.says.def_ 51
theorem Txt.d_law_pick (T : Txt K mg) : ∃ fd, FnD K Lt.d_law_pick fd := T.says.def_ 52
theorem Txt.d_law_mixed (T : Txt K mg) : ∃ fd, FnD K Lt.d_law_mixed fd := T.says.def_ 53
theorem Txt.d_law_tests (T : Txt K mg) : ∃ fd, FnD K Lt.d_law_tests fd := T.says.def_ 54
theorem Txt.d_law_deeds (T : Txt K mg) : ∃ fd, FnD K Lt.d_law_deeds fd := T.says.def_ 55
theorem Txt.d_law_usual (T : Txt K mg) : ∃ fd, FnD K Lt.d_law_usual fd := T.says.def_ 56
theorem Txt.d_law_tool (T : Txt K mg) : ∃ fd, FnD K Lt.d_law_tool fd := T.says.def_ 57
theorem Txt.d_law_row_text (T : Txt K mg) : ∃ fd, FnD K Lt.d_law_row_text fd := T.says.def_ 58
theorem Txt.d_law_tool_text (T : Txt K mg) : ∃ fd, FnD K Lt.d_law_tool_text fd := T.says.def_ 59
theorem Txt.d_law_tool_of (T : Txt K mg) : ∃ fd, FnD K Lt.d_law_tool_of fd := T.says.def_ 60
theorem Txt.d_law_name (T : Txt K mg) : ∃ fd, FnD K Lt.d_law_name fd := T.says.def_ 61
theorem Txt.d_law_piece (T : Txt K mg) : ∃ fd, FnD K Lt.d_law_piece fd := T.says.def_ 62
theorem Txt.d_law_pieces (T : Txt K mg) : ∃ fd, FnD K Lt.d_law_pieces fd := T.says.def_ 63
theorem Txt.d_law_program (T : Txt K mg) : ∃ fd, FnD K Lt.d_law_program fd := T.says.def_ 64
theorem Txt.d_law_told (T : Txt K mg) : ∃ fd, FnD K Lt.d_law_told fd := T.says.def_ 65
theorem Txt.d_law_bare (T : Txt K mg) : ∃ fd, FnD K Lt.d_law_bare fd := T.says.def_ 66
theorem Txt.d_law_is_long (T : Txt K mg) : ∃ fd, FnD K Lt.d_law_is_long fd := T.says.def_ 67
theorem Txt.d_law_holds (T : Txt K mg) : ∃ fd, FnD K Lt.d_law_holds fd := T.says.def_ 68
theorem Txt.d_law_did (T : Txt K mg) : ∃ fd, FnD K Lt.d_law_did fd := T.says.def_ 69
theorem Txt.d_law_laid (T : Txt K mg) : ∃ fd, FnD K Lt.d_law_laid fd := T.says.def_ 70
theorem Txt.d_law_is_fence (T : Txt K mg) : ∃ fd, FnD K Lt.d_law_is_fence fd := T.says.def_ 71
theorem Txt.d_law_in_order (T : Txt K mg) : ∃ fd, FnD K Lt.d_law_in_order fd := T.says.def_ 72
theorem Txt.d_law_rows_done (T : Txt K mg) : ∃ fd, FnD K Lt.d_law_rows_done fd := T.says.def_ 73
theorem Txt.d_law_run (T : Txt K mg) : ∃ fd, FnD K Lt.d_law_run fd := T.says.def_ 74
theorem Txt.d_law_width (T : Txt K mg) : ∃ fd, FnD K Lt.d_law_width fd := T.says.def_ 75
theorem Txt.d_law_within (T : Txt K mg) : ∃ fd, FnD K Lt.d_law_within fd := T.says.def_ 76
theorem Txt.d_law (T : Txt K mg) : ∃ fd, FnD K Lt.d_law fd := T.says.def_ 77
theorem Txt.g_is_integer (T : Txt K mg) : mg "is_integer" = some (.ref (ga K "is_integer")) := let ⟨_, X, G⟩ := T.st; He.glo_ok X G (He.ba (show gloB "is_integer" K = true from T.says.fact 0)).1
theorem Txt.kp_is_integer (T : Txt K mg) : PySem.W.keepIn K (.ref (ga K "is_integer")) = true := (He.ba (show gloB "is_integer" K = true from T.says.fact 0)).2
theorem Txt.g_is_name (T : Txt K mg) : mg "is_name" = some (.ref (ga K "is_name")) := let ⟨_, X, G⟩ := T.st; He.glo_ok X G (He.ba (show gloB "is_name" K = true from T.says.fact 1)).1
theorem Txt.kp_is_name (T : Txt K mg) : PySem.W.keepIn K (.ref (ga K "is_name")) = true := (He.ba (show gloB "is_name" K = true from T.says.fact 1)).2
theorem Txt.g_is_sequence (T : Txt K mg) : mg "is_sequence" = some (.ref (ga K "is_sequence")) := let ⟨_, X, G⟩ := T.st; He.glo_ok X G (He.ba (show gloB "is_sequence" K = true from T.says.fact 2)).1
theorem Txt.kp_is_sequence (T : Txt K mg) : PySem.W.keepIn K (.ref (ga K "is_sequence")) = true := (He.ba (show gloB "is_sequence" K = true from T.says.fact 2)).2
theorem Txt.g_is_word (T : Txt K mg) : mg "is_word" = some (.ref (ga K "is_word")) := let ⟨_, X, G⟩ := T.st; He.glo_ok X G (He.ba (show gloB "is_word" K = true from T.says.fact 3)).1
theorem Txt.kp_is_word (T : Txt K mg) : PySem.W.keepIn K (.ref (ga K "is_word")) = true := (He.ba (show gloB "is_word" K = true from T.says.fact 3)).2
theorem Txt.g_is_test (T : Txt K mg) : mg "is_test" = some (.ref (ga K "is_test")) := let ⟨_, X, G⟩ := T.st; He.glo_ok X G (He.ba (show gloB "is_test" K = true from T.says.fact 4)).1
theorem Txt.kp_is_test (T : Txt K mg) : PySem.W.keepIn K (.ref (ga K "is_test")) = true := (He.ba (show gloB "is_test" K = true from T.says.fact 4)).2
theorem Txt.g_is_remark (T : Txt K mg) : mg "is_remark" = some (.ref (ga K "is_remark")) := let ⟨_, X, G⟩ := T.st; He.glo_ok X G (He.ba (show gloB "is_remark" K = true from T.says.fact 5)).1
theorem Txt.kp_is_remark (T : Txt K mg) : PySem.W.keepIn K (.ref (ga K "is_remark")) = true := (He.ba (show gloB "is_remark" K = true from T.says.fact 5)).2
theorem Txt.g_fault_of (T : Txt K mg) : mg "fault_of" = some (.ref (ga K "fault_of")) := let ⟨_, X, G⟩ := T.st; He.glo_ok X G (He.ba (show gloB "fault_of" K = true from T.says.fact 6)).1
theorem Txt.kp_fault_of (T : Txt K mg) : PySem.W.keepIn K (.ref (ga K "fault_of")) = true := (He.ba (show gloB "fault_of" K = true from T.says.fact 6)).2
theorem Txt.g_Piece (T : Txt K mg) : mg "Piece" = some (.ref (ga K "Piece")) := let ⟨_, X, G⟩ := T.st; He.glo_ok X G (He.ba (show gloB "Piece" K = true from T.says.fact 7)).1
theorem Txt.kp_Piece (T : Txt K mg) : PySem.W.keepIn K (.ref (ga K "Piece")) = true := (He.ba (show gloB "Piece" K = true from T.says.fact 7)).2
theorem Txt.g_row_of (T : Txt K mg) : mg "row_of" = some (.ref (ga K "row_of")) := let ⟨_, X, G⟩ := T.st; He.glo_ok X G (He.ba (show gloB "row_of" K = true from T.says.fact 8)).1
theorem Txt.kp_row_of (T : Txt K mg) : PySem.W.keepIn K (.ref (ga K "row_of")) = true := (He.ba (show gloB "row_of" K = true from T.says.fact 8)).2
theorem Txt.g_Program (T : Txt K mg) : mg "Program" = some (.ref (ga K "Program")) := let ⟨_, X, G⟩ := T.st; He.glo_ok X G (He.ba (show gloB "Program" K = true from T.says.fact 9)).1
theorem Txt.kp_Program (T : Txt K mg) : PySem.W.keepIn K (.ref (ga K "Program")) = true := (He.ba (show gloB "Program" K = true from T.says.fact 9)).2
theorem Txt.g_text_of (T : Txt K mg) : mg "text_of" = some (.ref (ga K "text_of")) := let ⟨_, X, G⟩ := T.st; He.glo_ok X G (He.ba (show gloB "text_of" K = true from T.says.fact 10)).1
theorem Txt.kp_text_of (T : Txt K mg) : PySem.W.keepIn K (.ref (ga K "text_of")) = true := (He.ba (show gloB "text_of" K = true from T.says.fact 10)).2
theorem Txt.g_is_fence (T : Txt K mg) : mg "is_fence" = some (.ref (ga K "is_fence")) := let ⟨_, X, G⟩ := T.st; He.glo_ok X G (He.ba (show gloB "is_fence" K = true from T.says.fact 11)).1
theorem Txt.kp_is_fence (T : Txt K mg) : PySem.W.keepIn K (.ref (ga K "is_fence")) = true := (He.ba (show gloB "is_fence" K = true from T.says.fact 11)).2
theorem Txt.g_key_of (T : Txt K mg) : mg "key_of" = some (.ref (ga K "key_of")) := let ⟨_, X, G⟩ := T.st; He.glo_ok X G (He.ba (show gloB "key_of" K = true from T.says.fact 12)).1
theorem Txt.kp_key_of (T : Txt K mg) : PySem.W.keepIn K (.ref (ga K "key_of")) = true := (He.ba (show gloB "key_of" K = true from T.says.fact 12)).2
theorem Txt.g_in_order (T : Txt K mg) : mg "in_order" = some (.ref (ga K "in_order")) := let ⟨_, X, G⟩ := T.st; He.glo_ok X G (He.ba (show gloB "in_order" K = true from T.says.fact 13)).1
theorem Txt.kp_in_order (T : Txt K mg) : PySem.W.keepIn K (.ref (ga K "in_order")) = true := (He.ba (show gloB "in_order" K = true from T.says.fact 13)).2
theorem Txt.g_is_long (T : Txt K mg) : mg "is_long" = some (.ref (ga K "is_long")) := let ⟨_, X, G⟩ := T.st; He.glo_ok X G (He.ba (show gloB "is_long" K = true from T.says.fact 14)).1
theorem Txt.kp_is_long (T : Txt K mg) : PySem.W.keepIn K (.ref (ga K "is_long")) = true := (He.ba (show gloB "is_long" K = true from T.says.fact 14)).2
theorem Txt.g_holds (T : Txt K mg) : mg "holds" = some (.ref (ga K "holds")) := let ⟨_, X, G⟩ := T.st; He.glo_ok X G (He.ba (show gloB "holds" K = true from T.says.fact 15)).1
theorem Txt.kp_holds (T : Txt K mg) : PySem.W.keepIn K (.ref (ga K "holds")) = true := (He.ba (show gloB "holds" K = true from T.says.fact 15)).2
theorem Txt.g_done_to (T : Txt K mg) : mg "done_to" = some (.ref (ga K "done_to")) := let ⟨_, X, G⟩ := T.st; He.glo_ok X G (He.ba (show gloB "done_to" K = true from T.says.fact 16)).1
theorem Txt.kp_done_to (T : Txt K mg) : PySem.W.keepIn K (.ref (ga K "done_to")) = true := (He.ba (show gloB "done_to" K = true from T.says.fact 16)).2
theorem Txt.g_laid_out (T : Txt K mg) : mg "laid_out" = some (.ref (ga K "laid_out")) := let ⟨_, X, G⟩ := T.st; He.glo_ok X G (He.ba (show gloB "laid_out" K = true from T.says.fact 17)).1
theorem Txt.kp_laid_out (T : Txt K mg) : PySem.W.keepIn K (.ref (ga K "laid_out")) = true := (He.ba (show gloB "laid_out" K = true from T.says.fact 17)).2
theorem Txt.g_rows_done (T : Txt K mg) : mg "rows_done" = some (.ref (ga K "rows_done")) := let ⟨_, X, G⟩ := T.st; He.glo_ok X G (He.ba (show gloB "rows_done" K = true from T.says.fact 18)).1
theorem Txt.kp_rows_done (T : Txt K mg) : PySem.W.keepIn K (.ref (ga K "rows_done")) = true := (He.ba (show gloB "rows_done" K = true from T.says.fact 18)).2
theorem Txt.g_run (T : Txt K mg) : mg "run" = some (.ref (ga K "run")) := let ⟨_, X, G⟩ := T.st; He.glo_ok X G (He.ba (show gloB "run" K = true from T.says.fact 19)).1
theorem Txt.kp_run (T : Txt K mg) : PySem.W.keepIn K (.ref (ga K "run")) = true := (He.ba (show gloB "run" K = true from T.says.fact 19)).2
theorem Txt.g_Trial (T : Txt K mg) : mg "Trial" = some (.ref (ga K "Trial")) := let ⟨_, X, G⟩ := T.st; He.glo_ok X G (He.ba (show gloB "Trial" K = true from T.says.fact 20)).1
theorem Txt.kp_Trial (T : Txt K mg) : PySem.W.keepIn K (.ref (ga K "Trial")) = true := (He.ba (show gloB "Trial" K = true from T.says.fact 20)).2
theorem Txt.g_Sheet (T : Txt K mg) : mg "Sheet" = some (.ref (ga K "Sheet")) := let ⟨_, X, G⟩ := T.st; He.glo_ok X G (He.ba (show gloB "Sheet" K = true from T.says.fact 21)).1
theorem Txt.kp_Sheet (T : Txt K mg) : PySem.W.keepIn K (.ref (ga K "Sheet")) = true := (He.ba (show gloB "Sheet" K = true from T.says.fact 21)).2
theorem Txt.g_need_piece (T : Txt K mg) : mg "need_piece" = some (.ref (ga K "need_piece")) := let ⟨_, X, G⟩ := T.st; He.glo_ok X G (He.ba (show gloB "need_piece" K = true from T.says.fact 22)).1
theorem Txt.kp_need_piece (T : Txt K mg) : PySem.W.keepIn K (.ref (ga K "need_piece")) = true := (He.ba (show gloB "need_piece" K = true from T.says.fact 22)).2
theorem Txt.g_Row (T : Txt K mg) : mg "Row" = some (.ref (ga K "Row")) := let ⟨_, X, G⟩ := T.st; He.glo_ok X G (He.ba (show gloB "Row" K = true from T.says.fact 23)).1
theorem Txt.kp_Row (T : Txt K mg) : PySem.W.keepIn K (.ref (ga K "Row")) = true := (He.ba (show gloB "Row" K = true from T.says.fact 23)).2
theorem Txt.g_Tool (T : Txt K mg) : mg "Tool" = some (.ref (ga K "Tool")) := let ⟨_, X, G⟩ := T.st; He.glo_ok X G (He.ba (show gloB "Tool" K = true from T.says.fact 24)).1
theorem Txt.kp_Tool (T : Txt K mg) : PySem.W.keepIn K (.ref (ga K "Tool")) = true := (He.ba (show gloB "Tool" K = true from T.says.fact 24)).2
theorem Txt.g_law_feed (T : Txt K mg) : mg "_law_feed" = some (.ref (ga K "_law_feed")) := let ⟨_, X, G⟩ := T.st; He.glo_ok X G (He.ba (show gloB "_law_feed" K = true from T.says.fact 25)).1
theorem Txt.kp_law_feed (T : Txt K mg) : PySem.W.keepIn K (.ref (ga K "_law_feed")) = true := (He.ba (show gloB "_law_feed" K = true from T.says.fact 25)).2
theorem Txt.g_law_take (T : Txt K mg) : mg "_law_take" = some (.ref (ga K "_law_take")) := let ⟨_, X, G⟩ := T.st; He.glo_ok X G (He.ba (show gloB "_law_take" K = true from T.says.fact 26)).1
theorem Txt.kp_law_take (T : Txt K mg) : PySem.W.keepIn K (.ref (ga K "_law_take")) = true := (He.ba (show gloB "_law_take" K = true from T.says.fact 26)).2
theorem Txt.g_law_pick (T : Txt K mg) : mg "_law_pick" = some (.ref (ga K "_law_pick")) := let ⟨_, X, G⟩ := T.st; He.glo_ok X G (He.ba (show gloB "_law_pick" K = true from T.says.fact 27)).1
theorem Txt.kp_law_pick (T : Txt K mg) : PySem.W.keepIn K (.ref (ga K "_law_pick")) = true := (He.ba (show gloB "_law_pick" K = true from T.says.fact 27)).2
theorem Txt.g_law_mixed (T : Txt K mg) : mg "_law_mixed" = some (.ref (ga K "_law_mixed")) := let ⟨_, X, G⟩ := T.st; He.glo_ok X G (He.ba (show gloB "_law_mixed" K = true from T.says.fact 28)).1
theorem Txt.kp_law_mixed (T : Txt K mg) : PySem.W.keepIn K (.ref (ga K "_law_mixed")) = true := (He.ba (show gloB "_law_mixed" K = true from T.says.fact 28)).2
theorem Txt.g_law_tests (T : Txt K mg) : mg "_law_tests" = some (.ref (ga K "_law_tests")) := let ⟨_, X, G⟩ := T.st; He.glo_ok X G (He.ba (show gloB "_law_tests" K = true from T.says.fact 29)).1
theorem Txt.kp_law_tests (T : Txt K mg) : PySem.W.keepIn K (.ref (ga K "_law_tests")) = true := (He.ba (show gloB "_law_tests" K = true from T.says.fact 29)).2
theorem Txt.g_law_deeds (T : Txt K mg) : mg "_law_deeds" = some (.ref (ga K "_law_deeds")) := let ⟨_, X, G⟩ := T.st; He.glo_ok X G (He.ba (show gloB "_law_deeds" K = true from T.says.fact 30)).1
theorem Txt.kp_law_deeds (T : Txt K mg) : PySem.W.keepIn K (.ref (ga K "_law_deeds")) = true := (He.ba (show gloB "_law_deeds" K = true from T.says.fact 30)).2
theorem Txt.g_law_usual (T : Txt K mg) : mg "_law_usual" = some (.ref (ga K "_law_usual")) := let ⟨_, X, G⟩ := T.st; He.glo_ok X G (He.ba (show gloB "_law_usual" K = true from T.says.fact 31)).1
theorem Txt.kp_law_usual (T : Txt K mg) : PySem.W.keepIn K (.ref (ga K "_law_usual")) = true := (He.ba (show gloB "_law_usual" K = true from T.says.fact 31)).2
theorem Txt.g_law_tool (T : Txt K mg) : mg "_law_tool" = some (.ref (ga K "_law_tool")) := let ⟨_, X, G⟩ := T.st; He.glo_ok X G (He.ba (show gloB "_law_tool" K = true from T.says.fact 32)).1
theorem Txt.kp_law_tool (T : Txt K mg) : PySem.W.keepIn K (.ref (ga K "_law_tool")) = true := (He.ba (show gloB "_law_tool" K = true from T.says.fact 32)).2
theorem Txt.g_law_row_text (T : Txt K mg) : mg "_law_row_text" = some (.ref (ga K "_law_row_text")) := let ⟨_, X, G⟩ := T.st; He.glo_ok X G (He.ba (show gloB "_law_row_text" K = true from T.says.fact 33)).1
theorem Txt.kp_law_row_text (T : Txt K mg) : PySem.W.keepIn K (.ref (ga K "_law_row_text")) = true := (He.ba (show gloB "_law_row_text" K = true from T.says.fact 33)).2
theorem Txt.g_law_tool_text (T : Txt K mg) : mg "_law_tool_text" = some (.ref (ga K "_law_tool_text")) := let ⟨_, X, G⟩ := T.st; He.glo_ok X G (He.ba (show gloB "_law_tool_text" K = true from T.says.fact 34)).1
theorem Txt.kp_law_tool_text (T : Txt K mg) : PySem.W.keepIn K (.ref (ga K "_law_tool_text")) = true := (He.ba (show gloB "_law_tool_text" K = true from T.says.fact 34)).2
theorem Txt.g_law_tool_of (T : Txt K mg) : mg "_law_tool_of" = some (.ref (ga K "_law_tool_of")) := let ⟨_, X, G⟩ := T.st; He.glo_ok X G (He.ba (show gloB "_law_tool_of" K = true from T.says.fact 35)).1
theorem Txt.kp_law_tool_of (T : Txt K mg) : PySem.W.keepIn K (.ref (ga K "_law_tool_of")) = true := (He.ba (show gloB "_law_tool_of" K = true from T.says.fact 35)).2
theorem Txt.g_law_name (T : Txt K mg) : mg "_law_name" = some (.ref (ga K "_law_name")) := let ⟨_, X, G⟩ := T.st; He.glo_ok X G (He.ba (show gloB "_law_name" K = true from T.says.fact 36)).1
theorem Txt.kp_law_name (T : Txt K mg) : PySem.W.keepIn K (.ref (ga K "_law_name")) = true := (He.ba (show gloB "_law_name" K = true from T.says.fact 36)).2
theorem Txt.g_law_piece (T : Txt K mg) : mg "_law_piece" = some (.ref (ga K "_law_piece")) := let ⟨_, X, G⟩ := T.st; He.glo_ok X G (He.ba (show gloB "_law_piece" K = true from T.says.fact 37)).1
theorem Txt.kp_law_piece (T : Txt K mg) : PySem.W.keepIn K (.ref (ga K "_law_piece")) = true := (He.ba (show gloB "_law_piece" K = true from T.says.fact 37)).2
theorem Txt.g_law_pieces (T : Txt K mg) : mg "_law_pieces" = some (.ref (ga K "_law_pieces")) := let ⟨_, X, G⟩ := T.st; He.glo_ok X G (He.ba (show gloB "_law_pieces" K = true from T.says.fact 38)).1
theorem Txt.kp_law_pieces (T : Txt K mg) : PySem.W.keepIn K (.ref (ga K "_law_pieces")) = true := (He.ba (show gloB "_law_pieces" K = true from T.says.fact 38)).2
theorem Txt.g_law_program (T : Txt K mg) : mg "_law_program" = some (.ref (ga K "_law_program")) := let ⟨_, X, G⟩ := T.st; He.glo_ok X G (He.ba (show gloB "_law_program" K = true from T.says.fact 39)).1
theorem Txt.kp_law_program (T : Txt K mg) : PySem.W.keepIn K (.ref (ga K "_law_program")) = true := (He.ba (show gloB "_law_program" K = true from T.says.fact 39)).2
theorem Txt.g_law_told (T : Txt K mg) : mg "_law_told" = some (.ref (ga K "_law_told")) := let ⟨_, X, G⟩ := T.st; He.glo_ok X G (He.ba (show gloB "_law_told" K = true from T.says.fact 40)).1
theorem Txt.kp_law_told (T : Txt K mg) : PySem.W.keepIn K (.ref (ga K "_law_told")) = true := (He.ba (show gloB "_law_told" K = true from T.says.fact 40)).2
theorem Txt.g_law_bare (T : Txt K mg) : mg "_law_bare" = some (.ref (ga K "_law_bare")) := let ⟨_, X, G⟩ := T.st; He.glo_ok X G (He.ba (show gloB "_law_bare" K = true from T.says.fact 41)).1
theorem Txt.kp_law_bare (T : Txt K mg) : PySem.W.keepIn K (.ref (ga K "_law_bare")) = true := (He.ba (show gloB "_law_bare" K = true from T.says.fact 41)).2
theorem Txt.g_law_is_long (T : Txt K mg) : mg "_law_is_long" = some (.ref (ga K "_law_is_long")) := let ⟨_, X, G⟩ := T.st; He.glo_ok X G (He.ba (show gloB "_law_is_long" K = true from T.says.fact 42)).1
theorem Txt.kp_law_is_long (T : Txt K mg) : PySem.W.keepIn K (.ref (ga K "_law_is_long")) = true := (He.ba (show gloB "_law_is_long" K = true from T.says.fact 42)).2
theorem Txt.g_law_holds (T : Txt K mg) : mg "_law_holds" = some (.ref (ga K "_law_holds")) := let ⟨_, X, G⟩ := T.st; He.glo_ok X G (He.ba (show gloB "_law_holds" K = true from T.says.fact 43)).1
theorem Txt.kp_law_holds (T : Txt K mg) : PySem.W.keepIn K (.ref (ga K "_law_holds")) = true := (He.ba (show gloB "_law_holds" K = true from T.says.fact 43)).2
theorem Txt.g_law_did (T : Txt K mg) : mg "_law_did" = some (.ref (ga K "_law_did")) := let ⟨_, X, G⟩ := T.st; He.glo_ok X G (He.ba (show gloB "_law_did" K = true from T.says.fact 44)).1
theorem Txt.kp_law_did (T : Txt K mg) : PySem.W.keepIn K (.ref (ga K "_law_did")) = true := (He.ba (show gloB "_law_did" K = true from T.says.fact 44)).2
theorem Txt.g_law_laid (T : Txt K mg) : mg "_law_laid" = some (.ref (ga K "_law_laid")) := let ⟨_, X, G⟩ := T.st; He.glo_ok X G (He.ba (show gloB "_law_laid" K = true from T.says.fact 45)).1
theorem Txt.kp_law_laid (T : Txt K mg) : PySem.W.keepIn K (.ref (ga K "_law_laid")) = true := (He.ba (show gloB "_law_laid" K = true from T.says.fact 45)).2
theorem Txt.g_law_is_fence (T : Txt K mg) : mg "_law_is_fence" = some (.ref (ga K "_law_is_fence")) := let ⟨_, X, G⟩ := T.st; He.glo_ok X G (He.ba (show gloB "_law_is_fence" K = true from T.says.fact 46)).1
theorem Txt.kp_law_is_fence (T : Txt K mg) : PySem.W.keepIn K (.ref (ga K "_law_is_fence")) = true := (He.ba (show gloB "_law_is_fence" K = true from T.says.fact 46)).2
theorem Txt.g_law_in_order (T : Txt K mg) : mg "_law_in_order" = some (.ref (ga K "_law_in_order")) := let ⟨_, X, G⟩ := T.st; He.glo_ok X G (He.ba (show gloB "_law_in_order" K = true from T.says.fact 47)).1
theorem Txt.kp_law_in_order (T : Txt K mg) : PySem.W.keepIn K (.ref (ga K "_law_in_order")) = true := (He.ba (show gloB "_law_in_order" K = true from T.says.fact 47)).2
theorem Txt.g_law_rows_done (T : Txt K mg) : mg "_law_rows_done" = some (.ref (ga K "_law_rows_done")) := let ⟨_, X, G⟩ := T.st; He.glo_ok X G (He.ba (show gloB "_law_rows_done" K = true from T.says.fact 48)).1
theorem Txt.kp_law_rows_done (T : Txt K mg) : PySem.W.keepIn K (.ref (ga K "_law_rows_done")) = true := (He.ba (show gloB "_law_rows_done" K = true from T.says.fact 48)).2
theorem Txt.g_law_run (T : Txt K mg) : mg "_law_run" = some (.ref (ga K "_law_run")) := let ⟨_, X, G⟩ := T.st; He.glo_ok X G (He.ba (show gloB "_law_run" K = true from T.says.fact 49)).1
theorem Txt.kp_law_run (T : Txt K mg) : PySem.W.keepIn K (.ref (ga K "_law_run")) = true := (He.ba (show gloB "_law_run" K = true from T.says.fact 49)).2
theorem Txt.g_law_width (T : Txt K mg) : mg "_law_width" = some (.ref (ga K "_law_width")) := let ⟨_, X, G⟩ := T.st; He.glo_ok X G (He.ba (show gloB "_law_width" K = true from T.says.fact 50)).1
theorem Txt.kp_law_width (T : Txt K mg) : PySem.W.keepIn K (.ref (ga K "_law_width")) = true := (He.ba (show gloB "_law_width" K = true from T.says.fact 50)).2
theorem Txt.g_law_within (T : Txt K mg) : mg "_law_within" = some (.ref (ga K "_law_within")) := let ⟨_, X, G⟩ := T.st; He.glo_ok X G (He.ba (show gloB "_law_within" K = true from T.says.fact 51)).1
theorem Txt.kp_law_within (T : Txt K mg) : PySem.W.keepIn K (.ref (ga K "_law_within")) = true := (He.ba (show gloB "_law_within" K = true from T.says.fact 51)).2
theorem Txt.g_law (T : Txt K mg) : mg "law" = some (.ref (ga K "law")) := let ⟨_, X, G⟩ := T.st; He.glo_ok X G (He.ba (show gloB "law" K = true from T.says.fact 52)).1
theorem Txt.kp_law (T : Txt K mg) : PySem.W.keepIn K (.ref (ga K "law")) = true := (He.ba (show gloB "law" K = true from T.says.fact 52)).2
theorem Txt.t_TESTS (T : Txt K mg) : tupB "TESTS" ["broken", "marked", "left", "ahead", "behind", "blank", "long", "first", "afterbroken", "afterbehind"] K = true := T.says.fact 53
theorem Txt.t_DEEDS (T : Txt K mg) : tupB "DEEDS" ["break", "join", "mark", "unmark", "lift", "lower", "space", "close"] K = true := T.says.fact 54
theorem Txt.g_run_running (T : Txt K mg) : mg "run_running" = some (.ref (ga K "run")) := let ⟨_, X, G⟩ := T.st; PySem.W.mg_of X G (He.eqO_ok (T.says.fact 55))
theorem Txt.b_len (T : Txt K mg) : mg "len" = none := let ⟨_, X, G⟩ := T.st; He.free_ok X G (T.says.fact 56)
theorem Txt.b_isinstance (T : Txt K mg) : mg "isinstance" = none := let ⟨_, X, G⟩ := T.st; He.free_ok X G (T.says.fact 57)
theorem Txt.b_all (T : Txt K mg) : mg "all" = none := let ⟨_, X, G⟩ := T.st; He.free_ok X G (T.says.fact 58)
theorem Txt.b_int (T : Txt K mg) : mg "int" = none := let ⟨_, X, G⟩ := T.st; He.free_ok X G (T.says.fact 59)
theorem Txt.b_tuple (T : Txt K mg) : mg "tuple" = none := let ⟨_, X, G⟩ := T.st; He.free_ok X G (T.says.fact 60)
theorem Txt.b_list (T : Txt K mg) : mg "list" = none := let ⟨_, X, G⟩ := T.st; He.free_ok X G (T.says.fact 61)
theorem Txt.b_range (T : Txt K mg) : mg "range" = none := let ⟨_, X, G⟩ := T.st; He.free_ok X G (T.says.fact 62)
theorem Txt.b_enumerate (T : Txt K mg) : mg "enumerate" = none := let ⟨_, X, G⟩ := T.st; He.free_ok X G (T.says.fact 63)
theorem Txt.b_sorted (T : Txt K mg) : mg "sorted" = none := let ⟨_, X, G⟩ := T.st; He.free_ok X G (T.says.fact 64)
theorem Txt.b_sum (T : Txt K mg) : mg "sum" = none := let ⟨_, X, G⟩ := T.st; He.free_ok X G (T.says.fact 65)
theorem Txt.b_str (T : Txt K mg) : mg "str" = none := let ⟨_, X, G⟩ := T.st; He.free_ok X G (T.says.fact 66)
theorem Txt.b_repr (T : Txt K mg) : mg "repr" = none := let ⟨_, X, G⟩ := T.st; He.free_ok X G (T.says.fact 67)
theorem Txt.b_abs (T : Txt K mg) : mg "abs" = none := let ⟨_, X, G⟩ := T.st; He.free_ok X G (T.says.fact 68)
theorem Txt.b_max (T : Txt K mg) : mg "max" = none := let ⟨_, X, G⟩ := T.st; He.free_ok X G (T.says.fact 69)
theorem Txt.b_min (T : Txt K mg) : mg "min" = none := let ⟨_, X, G⟩ := T.st; He.free_ok X G (T.says.fact 70)
theorem Txt.b_bool (T : Txt K mg) : mg "bool" = none := let ⟨_, X, G⟩ := T.st; He.free_ok X G (T.says.fact 71)
theorem Txt.b_ValueError (T : Txt K mg) : mg "ValueError" = none := let ⟨_, X, G⟩ := T.st; He.free_ok X G (T.says.fact 72)
theorem Txt.b_TypeError (T : Txt K mg) : mg "TypeError" = none := let ⟨_, X, G⟩ := T.st; He.free_ok X G (T.says.fact 73)
theorem Txt.i_MOST_LETTERS (T : Txt K mg) : ∃ u, mg "MOST_LETTERS" = some u ∧ RelV (.int 6) u := let ⟨_, X, G⟩ := T.st; let ⟨t, e⟩ := He.int_ok X G (T.says.fact 74); ⟨_, e, t, rfl⟩
theorem Txt.i_MOST_BLANKS (T : Txt K mg) : ∃ u, mg "MOST_BLANKS" = some u ∧ RelV (.int 2) u := let ⟨_, X, G⟩ := T.st; let ⟨t, e⟩ := He.int_ok X G (T.says.fact 75); ⟨_, e, t, rfl⟩
theorem Txt.s_NOT (T : Txt K mg) : ∃ u, mg "NOT" = some u ∧ RelV (.str "not ") u := let ⟨_, X, G⟩ := T.st; let ⟨t, e⟩ := He.str_ok X G (T.says.fact 76); ⟨_, e, t, rfl⟩
theorem Txt.s_LETTERS (T : Txt K mg) : ∃ u, mg "LETTERS" = some u ∧ RelV (.str "abcdefghijklmnopqrstuvwxyz") u := let ⟨_, X, G⟩ := T.st; let ⟨t, e⟩ := He.str_ok X G (T.says.fact 77); ⟨_, e, t, rfl⟩
theorem Txt.c_Piece (T : Txt K mg) : Cls K (ga K "Piece") := He.cls_ok (T.says.fact 78)
theorem Txt.k_Piece (T : Txt K mg) : Mk K (ga K "Piece") (ma K (ga K "Piece") "__init__") := He.mkr_ok (T.says.fact 79)
theorem Txt.o_Piece (T : Txt K mg) : objB "Piece" K = true := T.says.fact 80
theorem Txt.n_Piece_word (T : Txt K mg) : NoAttr K (ga K "Piece") "word" := He.noat_ok (T.says.fact 81)
theorem Txt.n_Piece_parts (T : Txt K mg) : NoAttr K (ga K "Piece") "parts" := He.noat_ok (T.says.fact 82)
theorem Txt.n_Piece_broken (T : Txt K mg) : NoAttr K (ga K "Piece") "broken" := He.noat_ok (T.says.fact 83)
theorem Txt.n_Piece_marked (T : Txt K mg) : NoAttr K (ga K "Piece") "marked" := He.noat_ok (T.says.fact 84)
theorem Txt.n_Piece_ahead (T : Txt K mg) : NoAttr K (ga K "Piece") "ahead" := He.noat_ok (T.says.fact 85)
theorem Txt.n_Piece_behind (T : Txt K mg) : NoAttr K (ga K "Piece") "behind" := He.noat_ok (T.says.fact 86)
theorem Txt.n_Piece_blanks (T : Txt K mg) : NoAttr K (ga K "Piece") "blanks" := He.noat_ok (T.says.fact 87)
theorem Txt.n_Piece_left (T : Txt K mg) : NoAttr K (ga K "Piece") "left" := He.noat_ok (T.says.fact 88)
theorem Txt.n_Piece_text (T : Txt K mg) : NoAttr K (ga K "Piece") "text" := He.noat_ok (T.says.fact 89)
theorem Txt.m_Piece_told (T : Txt K mg) : Meth K (ga K "Piece") "told" (ma K (ga K "Piece") "told") := He.meth_ok (T.says.fact 90)
theorem Txt.m_Piece_but (T : Txt K mg) : Meth K (ga K "Piece") "but" (ma K (ga K "Piece") "but") := He.meth_ok (T.says.fact 91)
theorem Txt.m_Piece_written (T : Txt K mg) : Meth K (ga K "Piece") "written" (ma K (ga K "Piece") "written") := He.meth_ok (T.says.fact 92)
theorem Txt.m_Piece_eq (T : Txt K mg) : Meth K (ga K "Piece") "__eq__" (ma K (ga K "Piece") "__eq__") := He.meth_ok (T.says.fact 93)
theorem Txt.p_Piece_bare (T : Txt K mg) : propB "Piece" "bare" K = true := T.says.fact 94
theorem Txt.c_Program (T : Txt K mg) : Cls K (ga K "Program") := He.cls_ok (T.says.fact 95)
theorem Txt.k_Program (T : Txt K mg) : Mk K (ga K "Program") (ma K (ga K "Program") "__init__") := He.mkr_ok (T.says.fact 96)
theorem Txt.o_Program (T : Txt K mg) : objB "Program" K = true := T.says.fact 97
theorem Txt.n_Program_pieces (T : Txt K mg) : NoAttr K (ga K "Program") "pieces" := He.noat_ok (T.says.fact 98)
theorem Txt.n_Program_text (T : Txt K mg) : NoAttr K (ga K "Program") "text" := He.noat_ok (T.says.fact 99)
theorem Txt.m_Program_len (T : Txt K mg) : Meth K (ga K "Program") "__len__" (ma K (ga K "Program") "__len__") := He.meth_ok (T.says.fact 100)
theorem Txt.m_Program_eq (T : Txt K mg) : Meth K (ga K "Program") "__eq__" (ma K (ga K "Program") "__eq__") := He.meth_ok (T.says.fact 101)
theorem Txt.c_Trial (T : Txt K mg) : Cls K (ga K "Trial") := He.cls_ok (T.says.fact 102)
theorem Txt.k_Trial (T : Txt K mg) : Mk K (ga K "Trial") (ma K (ga K "Trial") "__init__") := He.mkr_ok (T.says.fact 103)
theorem Txt.o_Trial (T : Txt K mg) : objB "Trial" K = true := T.says.fact 104
theorem Txt.n_Trial_given (T : Txt K mg) : NoAttr K (ga K "Trial") "given" := He.noat_ok (T.says.fact 105)
theorem Txt.n_Trial_old_stand (T : Txt K mg) : NoAttr K (ga K "Trial") "old_stand" := He.noat_ok (T.says.fact 106)
theorem Txt.n_Trial_old_past (T : Txt K mg) : NoAttr K (ga K "Trial") "old_past" := He.noat_ok (T.says.fact 107)
theorem Txt.m_Trial_enter (T : Txt K mg) : Meth K (ga K "Trial") "__enter__" (ma K (ga K "Trial") "__enter__") := He.meth_ok (T.says.fact 108)
theorem Txt.m_Trial_exit (T : Txt K mg) : Meth K (ga K "Trial") "__exit__" (ma K (ga K "Trial") "__exit__") := He.meth_ok (T.says.fact 109)
theorem Txt.c_Sheet (T : Txt K mg) : Cls K (ga K "Sheet") := He.cls_ok (T.says.fact 110)
theorem Txt.k_Sheet (T : Txt K mg) : Mk K (ga K "Sheet") (ma K (ga K "Sheet") "__init__") := He.mkr_ok (T.says.fact 111)
theorem Txt.o_Sheet (T : Txt K mg) : objB "Sheet" K = true := T.says.fact 112
theorem Txt.n_Sheet_width (T : Txt K mg) : NoAttr K (ga K "Sheet") "width" := He.noat_ok (T.says.fact 113)
theorem Txt.n_Sheet_at_hand (T : Txt K mg) : NoAttr K (ga K "Sheet") "at_hand" := He.noat_ok (T.says.fact 114)
theorem Txt.n_Sheet_past (T : Txt K mg) : NoAttr K (ga K "Sheet") "past" := He.noat_ok (T.says.fact 115)
theorem Txt.m_Sheet_stand (T : Txt K mg) : Meth K (ga K "Sheet") "stand" (ma K (ga K "Sheet") "stand") := He.meth_ok (T.says.fact 116)
theorem Txt.m_Sheet_go_on (T : Txt K mg) : Meth K (ga K "Sheet") "go_on" (ma K (ga K "Sheet") "go_on") := He.meth_ok (T.says.fact 117)
theorem Txt.m_Sheet_need_spot (T : Txt K mg) : Meth K (ga K "Sheet") "need_spot" (ma K (ga K "Sheet") "need_spot") := He.meth_ok (T.says.fact 118)
theorem Txt.m_Sheet_with_pieces (T : Txt K mg) : Meth K (ga K "Sheet") "with_pieces" (ma K (ga K "Sheet") "with_pieces") := He.meth_ok (T.says.fact 119)
theorem Txt.m_Sheet_put (T : Txt K mg) : Meth K (ga K "Sheet") "put" (ma K (ga K "Sheet") "put") := He.meth_ok (T.says.fact 120)
theorem Txt.m_Sheet_take (T : Txt K mg) : Meth K (ga K "Sheet") "take" (ma K (ga K "Sheet") "take") := He.meth_ok (T.says.fact 121)
theorem Txt.m_Sheet_change (T : Txt K mg) : Meth K (ga K "Sheet") "change" (ma K (ga K "Sheet") "change") := He.meth_ok (T.says.fact 122)
theorem Txt.m_Sheet_run (T : Txt K mg) : Meth K (ga K "Sheet") "run" (ma K (ga K "Sheet") "run") := He.meth_ok (T.says.fact 123)
theorem Txt.m_Sheet_undo (T : Txt K mg) : Meth K (ga K "Sheet") "undo" (ma K (ga K "Sheet") "undo") := He.meth_ok (T.says.fact 124)
theorem Txt.m_Sheet_trial (T : Txt K mg) : Meth K (ga K "Sheet") "trial" (ma K (ga K "Sheet") "trial") := He.meth_ok (T.says.fact 125)
theorem Txt.m_Sheet_within (T : Txt K mg) : Meth K (ga K "Sheet") "within" (ma K (ga K "Sheet") "within") := He.meth_ok (T.says.fact 126)
theorem Txt.m_Sheet_len (T : Txt K mg) : Meth K (ga K "Sheet") "__len__" (ma K (ga K "Sheet") "__len__") := He.meth_ok (T.says.fact 127)
theorem Txt.p_Sheet_program (T : Txt K mg) : propB "Sheet" "program" K = true := T.says.fact 128
theorem Txt.p_Sheet_tool (T : Txt K mg) : propB "Sheet" "tool" K = true := T.says.fact 129
theorem Txt.c_Row (T : Txt K mg) : Cls K (ga K "Row") := He.cls_ok (T.says.fact 130)
theorem Txt.k_Row (T : Txt K mg) : Mk K (ga K "Row") (ma K (ga K "Row") "__init__") := He.mkr_ok (T.says.fact 131)
theorem Txt.o_Row (T : Txt K mg) : objB "Row" K = true := T.says.fact 132
theorem Txt.n_Row_tests (T : Txt K mg) : NoAttr K (ga K "Row") "tests" := He.noat_ok (T.says.fact 133)
theorem Txt.n_Row_deeds (T : Txt K mg) : NoAttr K (ga K "Row") "deeds" := He.noat_ok (T.says.fact 134)
theorem Txt.m_Row_str (T : Txt K mg) : Meth K (ga K "Row") "__str__" (ma K (ga K "Row") "__str__") := He.meth_ok (T.says.fact 135)
theorem Txt.c_Tool (T : Txt K mg) : Cls K (ga K "Tool") := He.cls_ok (T.says.fact 136)
theorem Txt.k_Tool (T : Txt K mg) : Mk K (ga K "Tool") (ma K (ga K "Tool") "__init__") := He.mkr_ok (T.says.fact 137)
theorem Txt.o_Tool (T : Txt K mg) : objB "Tool" K = true := T.says.fact 138
theorem Txt.n_Tool_rows (T : Txt K mg) : NoAttr K (ga K "Tool") "rows" := He.noat_ok (T.says.fact 139)
theorem Txt.n_Tool_sorts (T : Txt K mg) : NoAttr K (ga K "Tool") "sorts" := He.noat_ok (T.says.fact 140)
theorem Txt.m_Tool_str (T : Txt K mg) : Meth K (ga K "Tool") "__str__" (ma K (ga K "Tool") "__str__") := He.meth_ok (T.says.fact 141)
theorem Txt.ne_Piece (T : Txt K mg) : PySem.W.findIn K (.ref (ga K "Piece")) "__ne__" = some (some (.builtin "object.__ne__")) := He.eqO_ok (T.says.fact 142)
theorem Txt.ne_Program (T : Txt K mg) : PySem.W.findIn K (.ref (ga K "Program")) "__ne__" = some (some (.builtin "object.__ne__")) := He.eqO_ok (T.says.fact 143)
end
end Lt
set_option Elab.async false
set_option linter.all false
set_option maxRecDepth 100000
set_option maxHeartbeats 0
namespace Lt
open PySem PySem.Spec PyProof.Rows L2
abbrev R : PySem.W.OpenRow := PySem.W.OpenLaw.row PySem.Challenge.rw_laytwice_k79_whole_sheets_and_runs
abbrev hk : PySem.W.Hook := hookM fa fn
def ob (s : PySem.W.SharedT) : Al := obsMG fa fn (HandSHeadRun.getT s)
theorem ob_eq (s : PySem.W.SharedT) : ob s = hk.obs s.abs := obsMG_eq (HandSHeadRun.getT_eq s)
def loose0 : List PySem.Str := [("LayError" : PySem.Str), ("InvalidPiece" : PySem.Str), ("InvalidProgram" : PySem.Str), ("InvalidText" : PySem.Str), ("InvalidRow" : PySem.Str), ("InvalidTool" : PySem.Str), ("NoPiece" : PySem.Str), ("NoRow" : PySem.Str), ("TESTS" : PySem.Str), ("DEEDS" : PySem.Str), ("LETTERS" : PySem.Str), ("NOT" : PySem.Str), ("MOST_LETTERS" : PySem.Str), ("is_integer" : PySem.Str), ("is_name" : PySem.Str), ("is_sequence" : PySem.Str), ("is_word" : PySem.Str), ("is_test" : PySem.Str), ("MOST_BLANKS" : PySem.Str), ("is_remark" : PySem.Str)]
def loose1 : List PySem.Str := [("fault_of" : PySem.Str), ("Piece" : PySem.Str), ("row_of" : PySem.Str), ("Program" : PySem.Str), ("text_of" : PySem.Str), ("remark_in" : PySem.Str), ("Pages" : PySem.Str), ("is_fence" : PySem.Str), ("key_of" : PySem.Str), ("in_order" : PySem.Str), ("is_long" : PySem.Str), ("holds" : PySem.Str), ("done_to" : PySem.Str), ("laid_out" : PySem.Str), ("rows_done" : PySem.Str), ("run" : PySem.Str), ("run_running" : PySem.Str), ("Trial" : PySem.Str), ("Sheet" : PySem.Str), ("need_piece" : PySem.Str)]
def loose2 : List PySem.Str := [("Row" : PySem.Str), ("row_in" : PySem.Str), ("Tool" : PySem.Str), ("_law_feed" : PySem.Str), ("_law_take" : PySem.Str), ("_law_pick" : PySem.Str), ("_law_mixed" : PySem.Str), ("_law_tests" : PySem.Str), ("_law_deeds" : PySem.Str), ("_law_usual" : PySem.Str), ("_law_tool" : PySem.Str), ("_law_row_text" : PySem.Str), ("_law_tool_text" : PySem.Str), ("_law_tool_of" : PySem.Str), ("_law_name" : PySem.Str), ("_law_piece" : PySem.Str), ("_law_pieces" : PySem.Str), ("_law_program" : PySem.Str), ("_law_told" : PySem.Str), ("_law_bare" : PySem.Str)]
def loose3 : List PySem.Str := [("_law_is_long" : PySem.Str), ("_law_holds" : PySem.Str), ("_law_did" : PySem.Str), ("_law_laid" : PySem.Str), ("_law_is_fence" : PySem.Str), ("_law_in_order" : PySem.Str), ("_law_rows_done" : PySem.Str), ("_law_run" : PySem.Str), ("_law_width" : PySem.Str), ("_law_within" : PySem.Str)]
def loose : List PySem.Str := loose0 ++ loose1 ++ loose2 ++ loose3
abbrev qv : Program := PySem.W.view R.prog [78]
theorem run (w : World) : HandSHeadRun.RunEq R qv hk ob 30000 loose w := by
  intro os
  kernel_rfl
end Lt
set_option Elab.async false
set_option linter.all false
set_option maxRecDepth 100000
set_option maxHeartbeats 4000000
/-! Heaps under a mask; data; the short ways to a def's promise. -/
namespace Lt
open PySem PySem.Spec PyProof.Rows L2
open C8 (Cal Met Mak pe_c pe_mk pe_mt pe_mt0 pe_gc)
/-! ### a heap without what is owned -/
abbrev Sg := Addr → Bool
def msk (S : Sg) (H : Hp) : Hp := fun a => if S a = true then none else H a
def insS (S : Sg) (p : Addr) : Sg := fun a => S a || a == p
def noS : Sg := fun _ => false
/-- the kinds of things that are owned: lists, dicts, sheets, trials -/
def Kd : HO → Bool
  | .lst _ => true
  | .dK _ => true
  | .ins _ _ fs => fs.any fun p => p.1 == ("width" : Str) || p.1 == ("given" : Str)
  | _ => false
/-- what is owned stands -/
def Ow (S : Sg) (H : Hp) : Prop := ∀ a, S a = true → ∃ o, H a = some o ∧ Kd o = true
theorem Ow.no {H : Hp} : Ow noS H := fun _ h => by cases h
theorem Ow.same {S : Sg} {H H' : Hp} (o : Ow S H) (e : Same H H') : Ow S H' := fun a h => by
  obtain ⟨u, h1, h2⟩ := o a h
  exact ⟨u, e _ _ h1, h2⟩
theorem Ow.ins {S : Sg} {H : Hp} {p : Addr} {o : HO} (w : Ow S H) (h : H p = some o) (hk : Kd o = true) : Ow (insS S p) H := fun a ha => by
  rcases Bool.or_eq_true_iff.mp (show (S a || a == p) = true from ha) with h1 | h1
  · exact w a h1
  · rw [beq_iff_eq.mp h1]
    exact ⟨o, h, hk⟩
theorem Ow.upd {S : Sg} {H : Hp} {p : Addr} {o : HO} (w : Ow S H) (hk : Kd o = true) : Ow S (upd H p o) := fun a ha => by
  by_cases e : a = p
  · rw [e, upd_same]
    exact ⟨o, rfl, hk⟩
  · rw [upd_ne e]
    exact w a ha
theorem Ow.not {S : Sg} {H : Hp} {p : Addr} (w : Ow S H) (h : H p = none) : S p = false := by
  cases e : S p with
  | false => rfl
  | true =>
    obtain ⟨o, z, _⟩ := w p e
    rw [h] at z
    cases z
/-- what stands and is of no such kind is not owned -/
theorem Ow.kd {S : Sg} {H : Hp} {p : Addr} {o : HO} (w : Ow S H) (h : H p = some o) (hk : Kd o = false) : S p = false := by
  cases e : S p with
  | false => rfl
  | true =>
    obtain ⟨u, z, z2⟩ := w p e
    rw [h] at z
    cases z
    rw [hk] at z2
    cases z2
theorem msk_some {S : Sg} {H : Hp} {a : Addr} {o : HO} (h : msk S H a = some o) : S a = false ∧ H a = some o := by
  unfold msk at h
  cases e : S a with
  | false =>
    rw [e, if_neg Bool.false_ne_true] at h
    exact ⟨rfl, h⟩
  | true =>
    rw [e, if_pos rfl] at h
    cases h
theorem msk_at {S : Sg} {H : Hp} {a : Addr} (h : S a = false) : msk S H a = H a := by
  unfold msk
  rw [h, if_neg Bool.false_ne_true]
theorem msk_le {S : Sg} {H : Hp} : Same (msk S H) H := fun a o h => (msk_some h).2
theorem msk_same {S : Sg} {H H' : Hp} (e : Same H H') : Same (msk S H) (msk S H') := fun a o h => by
  obtain ⟨h1, h2⟩ := msk_some h
  rw [msk_at h1]
  exact e a o h2
theorem same_new {H : Hp} {p : Addr} {o : HO} (h : H p = none) : Same H (upd H p o) := fun a u e => by
  rw [upd_ne (ne_of_none e h)]
  exact e
theorem _root_.L2.Same.grow {H H' : Hp} {p : Addr} {o : HO} (e : Same H H') (h : H' p = none) : Same H (L2.upd H' p o) := e.trans (same_new h)
/-- an object that H does not know may change -/
theorem _root_.L2.Same.mut {H H' : Hp} {p : Addr} {o : HO} (e : Same H H') (h : H p = none) : Same H (L2.upd H' p o) := fun a u ha => by
  rw [upd_ne (ne_of_none ha h)]
  exact e a u ha
theorem msk_new {S : Sg} {H : Hp} {p : Addr} {o : HO} (w : Ow S H) (h : H p = none) : msk S (upd H p o) p = some o := by
  rw [msk_at (w.not h), upd_same]
theorem msk_ins {S : Sg} {H : Hp} {p : Addr} : Same (msk (insS S p) H) (msk S H) := fun a o h => by
  obtain ⟨h1, h2⟩ := msk_some h
  rw [msk_at (Bool.or_eq_false_iff.mp (show (S a || a == p) = false from h1)).1]
  exact h2
theorem ins_at {S : Sg} {p : Addr} : insS S p p = true := by
  show (S p || p == p) = true
  rw [beq_self_eq_true, Bool.or_true]
/-- what is owned is written: the rest is as it was -/
theorem msk_own {S : Sg} {H : Hp} {p : Addr} {o : HO} (h : S p = true) : msk S (upd H p o) = msk S H := by
  funext a
  unfold msk
  by_cases e : S a = true
  · rw [if_pos e, if_pos e]
  · rw [if_neg e, if_neg e, upd_ne (fun z => e (by rw [z]; exact h))]
/-- facts of a smaller heap -/
theorem Rd.mono {H H' : Hp} {a : Addr} {u : HO} (e : Same H H') (h : Rd H a u) : Rd H' a u := by
  rcases h with h | ⟨o, h⟩
  · exact .inl (e a _ h)
  · exact .inr ⟨o, e a _ h⟩
theorem SqLm {K : Fg} {H H' : Hp} {a : Addr} {xs : List V} (e : Same H H') (h : SqL K H a xs) : SqL K H' a xs := by
  rcases h with h | h
  · exact .inl (Rd.mono e h)
  · exact .inr h
theorem SqTm {K : Fg} {H H' : Hp} {a : Addr} {xs : List V} (e : Same H H') (h : SqT K H a xs) : SqT K H' a xs := by
  rcases h with h | h
  · exact .inl (Rd.mono e h)
  · exact .inr h
mutual
theorem Dpm {K : Fg} {H H' : Hp} (e : Same H H') : ∀ (d : PyData) (v : V), Dp K H v d → Dp K H' v d
  | .none, _, h => by cases h; exact .non
  | .bool b, _, h => by cases h; exact .bl b
  | .int i, _, h => by cases h; exact .int i
  | .str x, _, h => by cases h; exact .str x
  | .list ds, _, h => by
    cases h with
    | lst hs ha => exact .lst (SqLm e hs) (DpAllm e ds _ ha)
  | .tuple ds, _, h => by
    cases h with
    | tup hs ha => exact .tup (SqTm e hs) (DpAllm e ds _ ha)
  | .dict _, _, h => by cases h
theorem DpAllm {K : Fg} {H H' : Hp} (e : Same H H') : ∀ (ds : List PyData) (vs : List V), DpAll K H vs ds → DpAll K H' vs ds
  | [], _, h => by cases h; exact .nil
  | d :: ds, _, h => by
    cases h with
    | cons h1 h2 => exact .cons (Dpm e d _ h1) (DpAllm e ds _ h2)
end
theorem DpAll.len {K : Fg} {H : Hp} : ∀ {vs : List V} {ds : List PyData}, DpAll K H vs ds → vs.length = ds.length
  | _, _, .nil => rfl
  | _, _, .cons _ t => congrArg Nat.succ (DpAll.len t)
theorem DpAll.get {K : Fg} {H : Hp} : ∀ {vs : List V} {ds : List PyData} {i : Nat} {d : PyData}, DpAll K H vs ds → ds[i]? = some d → ∃ v, vs[i]? = some v ∧ Dp K H v d
  | _, _, i, d, .nil, e => by simp at e
  | _, _, 0, d, .cons h _, e => by simp at e; subst e; exact ⟨_, rfl, h⟩
  | _, _, i + 1, d, .cons _ t, e => by
    obtain ⟨v, h1, h2⟩ := DpAll.get (i := i) (d := d) t (by simpa using e)
    exact ⟨v, by simpa using h1, h2⟩
theorem DpAll.app {K : Fg} {H : Hp} : ∀ {vs ws : List V} {ds es : List PyData}, DpAll K H vs ds → DpAll K H ws es → DpAll K H (vs ++ ws) (ds ++ es)
  | _, _, _, _, .nil, s => s
  | _, _, _, _, .cons r t, s => .cons r (DpAll.app t s)
theorem DpAll.take {K : Fg} {H : Hp} : ∀ {vs : List V} {ds : List PyData} (n : Nat), DpAll K H vs ds → DpAll K H (vs.take n) (ds.take n)
  | _, _, 0, _ => .nil
  | _, _, _ + 1, .nil => .nil
  | _, _, n + 1, .cons r t => .cons r (DpAll.take n t)
theorem DpAll.drop {K : Fg} {H : Hp} : ∀ {vs : List V} {ds : List PyData} (n : Nat), DpAll K H vs ds → DpAll K H (vs.drop n) (ds.drop n)
  | _, _, 0, r => r
  | _, _, _ + 1, .nil => .nil
  | _, _, n + 1, .cons _ t => DpAll.drop n t
theorem DpAll.strs {K : Fg} {H : Hp} : ∀ (l : List Str), DpAll K H (l.map V.str) (l.map PyData.str)
  | [] => .nil
  | x :: r => .cons (.str x) (DpAll.strs r)
theorem DpAll.strs_eq {K : Fg} {H : Hp} : ∀ {l : List Str} {vs : List V}, DpAll K H vs (l.map PyData.str) → vs = l.map V.str
  | [], _, h => by cases h; rfl
  | x :: r, _, h => by
    cases h with
    | cons h1 h2 =>
      cases h1
      rw [DpAll.strs_eq h2]
      rfl
/-! ### the short way to a def's promise -/
section
variable {P : Program} {w : World} {K : Fg} {mg : Str → Option Value} {base : Heap}
/-- a def's body keeps a promise -/
def BodyOk (P : Program) (w : World) (K : Fg) (mg : Str → Option Value) (base : Heap) (k : Nat) (N : List Str) (d : Dm) (sp : Sp) : Prop :=
  ∀ (cdv : Value) (A : Around) (outer : List Env) (s : Shared) (H : Hp) (vs : List V) (Q : VK) (E : XK), Room k (A.deeper (envOfC d.qual (defScope d.st) s.heap.objs.size (d.ad K) cdv)) → sp vs H Q E →
    ∃ t, PSs (cxOf CX0 P w K mg base N d.qual (defScope d.st) (d.ad K) cdv A outer s H E).nox (defBody d.st) t ∧ t { nx := fun _ H' => Q .non H', rt := Q } (start N vs) H
theorem mkFn {d : Dm} {fd : FuncData} {k : Nat} {N ps : List Str} {sp : Sp} (F : FnD K d fd) (S : FnScope N ps (defScope d.st)) (len : ∀ vs H Q E, sp vs H Q E → vs.length = ps.length) (b : BodyOk P w K mg base k N d sp) :
    FnOk P w K mg base CX0 (k + 1) (d.ad K) fd ps sp := F.ok S len fun cdv A outer s H vs Q E hr h => by
  obtain ⟨t, h1, h2⟩ := b cdv A outer s H vs Q E hr h
  exact ⟨t, h1.nox, h2⟩
/-- a def of the module -/
theorem mkCal {x : Str} {d : Dm} {fd : FuncData} {k : Nat} {N ps : List Str} {sp : Sp} (F : FnD K d fd) (hm : mg x = some (.ref (d.ad K))) (bi : Binds K fd ps []) (S : FnScope N ps (defScope d.st)) (len : ∀ vs H Q E, sp vs H Q E → vs.length = ps.length)
    (b : BodyOk P w K mg base k N d sp) : Cal P w K mg base (k + 1) x sp [] := ⟨d.ad K, fd, ps, [], mkFn F S len b, hm, F.kp, bi, .nil⟩
/-- a method -/
theorem mkMet {C : Addr} {m : Str} {d : Dm} {fd : FuncData} {k : Nat} {N ps : List Str} {sp : Sp} (c : Cls K C) (me : Meth K C m (d.ad K)) (F : FnD K d fd) (bi : Binds K fd ps []) (S : FnScope N ps (defScope d.st)) (len : ∀ vs H Q E, sp vs H Q E → vs.length = ps.length)
    (b : BodyOk P w K mg base k N d sp) : Met P w K mg base (k + 1) C m sp [] := ⟨d.ad K, fd, ps, [], c, me, mkFn F S len b, bi, .nil⟩
/-- a class made by its __init__ -/
theorem mkMak {x : Str} {C : Addr} {d : Dm} {fd : FuncData} {k : Nat} {N ps : List Str} {sp : Sp} (M : Mk K C (d.ad K)) (hm : mg x = some (.ref C)) (F : FnD K d fd) (bi : Binds K fd ps []) (S : FnScope N ps (defScope d.st)) (len : ∀ vs H Q E, sp vs H Q E → vs.length = ps.length)
    (b : BodyOk P w K mg base k N d sp) : Mak P w K mg base (k + 1) x C sp [] := ⟨d.ad K, fd, ps, [], M, mkFn F S len b, hm, bi, .nil⟩
/-- a property -/
structure Prp (P : Program) (w : World) (K : Fg) (mg : Str → Option Value) (base : Heap) (k : Nat) (C : Addr) (f : Str) (sp : Sp) : Prop where
  ex : ∃ (p g : Addr) (fd : FuncData) (ps : List Str), Cls K C ∧ PropOf K C f p g ∧ FnOk P w K mg base CX0 k g fd ps sp ∧ Binds K fd ps []
theorem propB_ok {c f : Str} (h : propB c f K = true) : PropOf K (ga K c) f (pAt K c f) (pga K c f) := by
  obtain ⟨h1, h⟩ := He.ba h
  obtain ⟨h2, h⟩ := He.ba h
  obtain ⟨h3, h4⟩ := He.ba h
  refine ⟨He.eqO_ok h1, of_decide_eq_true h2, of_decide_eq_true h3, ?_⟩
  cases e : PySem.W.recIn K (pAt K c f) "property" with
  | none =>
    rw [e] at h4
    cases h4
  | some l =>
    rw [e] at h4
    cases l with
    | nil => cases h4
    | cons x r =>
      cases x with
      | ref g => exact ⟨r, by rw [of_decide_eq_true h4]⟩
      | _ => cases h4
theorem mkPrp {c f : Str} {d : Dm} {fd : FuncData} {k : Nat} {N ps : List Str} {sp : Sp} (cl : Cls K (ga K c)) (h : propB c f K = true) (e : d.ad K = pga K c f) (F : FnD K d fd) (bi : Binds K fd ps []) (S : FnScope N ps (defScope d.st)) (len : ∀ vs H Q E, sp vs H Q E → vs.length = ps.length)
    (b : BodyOk P w K mg base k N d sp) : Prp P w K mg base (k + 1) (ga K c) f sp := ⟨pAt K c f, pga K c f, fd, ps, cl, propB_ok h, by rw [← e]; exact mkFn F S len b, bi⟩
end
theorem pe_pr {X : Cx} {k j : Nat} {C : Addr} {f : Str} {sp : Sp} {e : Expr} {pos : Pos} {ta : TE} (c : Prp X.prog X.w X.K X.mg X.base k C f sp) (hr : Room j X.A) (hk : k + 1 ≤ j) (he : PE X e ta)
    (hab : attributeBase e f X.env (eval e X.env) = eval e X.env := by rfl) : PE X (.Attribute e f pos) (tProp C sp [] E0 ta) := by
  obtain ⟨p, g, fd, ps, cl, hp, F, b⟩ := c.ex
  exact pe_prop he cl hp F (hr.mono hk) b .nil (fun _ _ _ _ _ _ _ h => h.elim) hab
/-! ### comprehensions, by what is made so far -/
/-- a comprehension without a test -/
theorem yes {A B : Hp → Prop} {σ : L2.St} {H : Hp} (h : A H) : tYes σ H fun b H3 => if b = true then A H3 else B H3 := by
  show if true = true then A H else B H
  exact iteT h
/-- D holds what is made so far -/
def Lcv (Pv : Nat → List V → Hp → Prop) (D : Addr) (i : Nat) (H : Hp) : Prop := ∃ acc, acc.length ≤ i ∧ H D = some (.lst acc) ∧ Pv i acc H
theorem lc_put {Pv : Nat → List V → Hp → Prop} {D : Addr} {i : Nat} {H : Hp} {acc : List V} {y : V} (h : H D = some (.lst acc)) (hl : acc.length ≤ i) (hz : i < 100000) (p : Pv (i + 1) (acc ++ [y]) (upd H D (.lst (acc ++ [y])))) :
    ∃ acc, H D = some (.lst acc) ∧ acc.length < sizeLine ∧ Lcv Pv D (i + 1) (upd H D (.lst (acc ++ [y]))) :=
  ⟨acc, h, Nat.lt_of_le_of_lt hl (Nat.lt_of_lt_of_le hz (by decide)), acc ++ [y], by rw [List.length_append]; exact Nat.succ_le_succ hl, upd_same, p⟩
theorem lc_go {J : It} {n : Nat} {G : Hp → Prop} {Y : Nat → Hp → V → Hp → Prop} (wk : Walk J n G Y) {g : TG} {tt : TT} {te : TE} {vs : List Nat} {σ : L2.St} {H1 : Hp} {D : Addr} {Qd : Hp → Prop} (Pv : Nat → List V → Hp → Prop) (h0 : Pv 0 [] (upd H1 D (.lst [])))
    (hG : ∀ i acc H, i ≤ n → Pv i acc H → H D = some (.lst acc) → G H)
    (hs : ∀ i x acc H H', i < n → acc.length ≤ i → Pv i acc H → H D = some (.lst acc) → Y i H x H' → g x (wipe σ vs) H' fun σ2 H2 => wipe σ2 vs = wipe σ vs ∧ tt σ2 H2 fun b H3 =>
      if b = true then te σ2 H3 fun y H4 => ∃ acc, H4 D = some (.lst acc) ∧ acc.length < sizeLine ∧ Lcv Pv D (i + 1) (upd H4 D (.lst (acc ++ [y]))) else Lcv Pv D (i + 1) H3)
    (hd : ∀ acc H, acc.length ≤ n → Pv n acc H → H D = some (.lst acc) → Qd H) :
    ∃ W : Nat → Nat → Hp → Prop, (∃ m, W 0 m (upd H1 D (.lst []))) ∧ ∀ i m H, W i m H →
      (J.stop i H ∧ Qd H) ∨ (J.go i H ∧ ∃ Nx : Hp → Prop, (∀ H', Nx H' → ∃ m', m' < m ∧ W (i + 1) m' H') ∧ ∀ x H', J.yld i H x H' → g x (wipe σ vs) H' fun σ2 H2 => wipe σ2 vs = wipe σ vs ∧ tt σ2 H2 fun b H3 =>
        if b = true then te σ2 H3 fun y H4 => ∃ acc, H4 D = some (.lst acc) ∧ acc.length < sizeLine ∧ Nx (upd H4 D (.lst (acc ++ [y]))) else Nx H3) :=
  lc_it wk (Lcv Pv D) ⟨[], Nat.le_refl _, upd_same, h0⟩ (fun i H hi ⟨acc, _, h1, h2⟩ => hG i acc H hi h2 h1) (fun i x H H' hi ⟨acc, hl, h1, h2⟩ y => hs i x acc H H' hi hl h2 h1 y) (fun H ⟨acc, hl, h1, h2⟩ => hd acc H hl h2 h1)
end Lt
set_option Elab.async false
set_option linter.all false
set_option maxRecDepth 100000
set_option maxHeartbeats 4000000
/-! What the program and the law compute, over plain data. -/
namespace Lt
open PySem PySem.Spec PyProof.Rows L2
/-! ### names, tests, deeds -/
def nameOk (z : Str) : Prop := 1 ≤ z.length ∧ z.length ≤ 6 ∧ ∀ c ∈ z.cps.toList, c ∈ ("abcdefghijklmnopqrstuvwxyz" : Str).cps.toList
def tests10 : List Str := ["broken", "marked", "left", "ahead", "behind", "blank", "long", "first", "afterbroken", "afterbehind"]
def tests20 : List Str := tests10 ++ tests10.map fun t => ("not " : Str) ++ t
def deeds8 : List Str := ["break", "join", "mark", "unmark", "lift", "lower", "space", "close"]
/-- a text without its first four signs; its first four signs -/
def tl4 (z : Str) : Str := cutS z (some 4) none
def hd4 (z : Str) : Str := cutS z none (some 4)
/-! ### pieces -/
structure PcD where
  word : Str
  parts : List Str
  broken : Bool
  marked : Bool
  ahead : Str
  behind : Str
  blanks : Int
  left : Bool
deriving DecidableEq
structure PcD.ok (d : PcD) : Prop where
  word : nameOk d.word
  ne : d.parts ≠ []
  few : d.parts.length ≤ 8
  parts : ∀ p ∈ d.parts, nameOk p
  ahead : d.ahead = "" ∨ nameOk d.ahead
  behind : d.behind = "" ∨ nameOk d.behind
  b0 : 0 ≤ d.blanks
  b2 : d.blanks ≤ 2
def b2i (b : Bool) : Int := if b then 1 else 0
def bare (d : PcD) : Int := b2i d.left + (d.word.length : Int) + 2 + (d.parts.map fun p => (p.length : Int) + 2).sum - 2
def room (d : PcD) : Int := bare d + b2i d.marked + (if d.behind = "" then 0 else 4 + (d.behind.length : Int))
def isLong (w : Int) (d : PcD) : Bool := decide (w < room d)
def holdsB (t : Str) (w : Int) (e : Option PcD) (d : PcD) : Bool :=
  if t = "broken" then d.broken else if t = "marked" then d.marked else if t = "left" then d.left else if t = "ahead" then !decide (d.ahead = "") else if t = "behind" then !decide (d.behind = "")
  else if t = "blank" then decide (0 < d.blanks) else if t = "long" then isLong w d else if t = "first" then e.isNone
  else if t = "afterbroken" then (match e with | some x => x.broken | none => false)
  else (match e with | some x => !decide (x.behind = "") | none => false)
def holds (t : Str) (w : Int) (e : Option PcD) (d : PcD) : Bool := if hd4 t = "not " then !holdsB (tl4 t) w e d else holdsB t w e d
def did (x : Str) (d : PcD) : PcD :=
  if x = "break" ∨ x = "join" then { d with broken := decide (x = "break") }
  else if x = "mark" ∨ x = "unmark" then { d with marked := decide (x = "mark") }
  else if x = "lift" then (if ¬ d.behind = "" ∧ d.ahead = "" then { d with ahead := d.behind, behind := "" } else d)
  else if x = "lower" then (if ¬ d.ahead = "" ∧ d.behind = "" then { d with ahead := "", behind := d.ahead } else d)
  else { d with blanks := b2i (decide (x = "space")) }
def dids (xs : List Str) (d : PcD) : PcD := xs.foldl (fun d x => did x d) d
abbrev RwD := List Str × List Str
def laid1 (w : Int) (e : Option PcD) (r : RwD) (d : PcD) : PcD := if r.1.all (fun t => holds t w e d) = true then dids r.2 d else d
def laid (rows : List RwD) (w : Int) (e : Option PcD) (d : PcD) : PcD := rows.foldl (fun d r => laid1 w e r d) d
def fence (d : PcD) : Bool := !decide (d.ahead = "") || (decide (0 < d.blanks) || d.left)
structure TlD where
  rows : List RwD
  sorts : Bool
structure RwOk (r : RwD) : Prop where
  tests : ∀ t ∈ r.1, t ∈ tests20
  few : r.1.length ≤ 4
  ne : r.2 ≠ []
  deeds : ∀ x ∈ r.2, x ∈ deeds8
  less : r.2.length ≤ 4
structure TlD.ok (t : TlD) : Prop where
  rows : ∀ r ∈ t.rows, RwOk r
  few : t.rows.length ≤ 16
def stepR (rows : List RwD) (w : Int) (acc : List PcD) (d : PcD) : List PcD := acc ++ [laid rows w acc.getLast? d]
def rowsDone (rows : List RwD) (w : Int) (ps : List PcD) : List PcD := ps.foldl (stepR rows w) []
/-! ### order -/
def strsD (l : List Str) : PyData := .tuple (l.map .str)
def cpsLt (x y : Str) : Bool := decide (x.cps.toList < y.cps.toList)
def ltParts (xs ys : List Str) : Bool := PySem.W.dataLt (strsD xs) (strsD ys)
def ltK (w : Str) (ps : List Str) (w' : Str) (ps' : List Str) : Bool := if w = w' then ltParts ps ps' else cpsLt w w'
/-- by word, then by items -/
def ltKey (a b : PcD) : Bool := ltK a.word a.parts b.word b.parts
/-- x goes ahead of the greater ones at the end -/
def insG {α : Type} (lt : α → α → Bool) (x : α) : List α → List α
  | [] => [x]
  | y :: r => if ((y :: r).all fun z => lt x z) = true then x :: y :: r else y :: insG lt x r
def srtG {α : Type} (lt : α → α → Bool) (l : List α) : List α := l.foldl (fun acc x => insG lt x acc) []
def srt (l : List PcD) : List PcD := srtG ltKey l
/-- the program's way: done, waiting -/
def inO (st : List PcD × List PcD) (d : PcD) : List PcD × List PcD := if fence d = true then (st.1 ++ srt st.2 ++ [d], []) else (st.1, st.2 ++ [d])
def inOrder (ps : List PcD) : List PcD := let st := ps.foldl inO ([], []); st.1 ++ srt st.2
def runD (t : TlD) (w : Int) (ps : List PcD) : List PcD := rowsDone t.rows w (if t.sorts = true then inOrder ps else ps)
/-! ### as Python's data -/
def pcData (d : PcD) : PyData := .tuple [.str d.word, strsD d.parts, .bool d.broken, .bool d.marked, .str d.ahead, .str d.behind, .int d.blanks, .bool d.left]
def pcsData (ps : List PcD) : PyData := .list (ps.map pcData)
def rwData (r : RwD) : PyData := .tuple [strsD r.1, strsD r.2]
def tlData (t : TlD) : PyData := .tuple [.tuple (t.rows.map rwData), .bool t.sorts]
/-! ### as the program's objects -/
def pcF (d : PcD) (pa : Addr) (z : Str) : List (Str × V) :=
  [("word", .str d.word), ("parts", .ref pa), ("broken", .bl d.broken), ("marked", .bl d.marked), ("ahead", .str d.ahead), ("behind", .str d.behind), ("blanks", .int d.blanks), ("left", .bl d.left), ("text", .str z)]
def PcAt (K : Fg) (G : Hp) (v : V) (d : PcD) : Prop := ∃ a dx pa z, v = .ref a ∧ G a = some (.ins (ga K "Piece") dx (pcF d pa z)) ∧ SqT K G pa (d.parts.map V.str) ∧ z.length ≤ 2000 ∧ d.ok
def PcAll (K : Fg) (G : Hp) : List V → List PcD → Prop := Paired (PcAt K G)
def pgF (pa : Addr) (z : Str) : List (Str × V) := [("pieces", .ref pa), ("text", .str z)]
def PgAt (K : Fg) (G : Hp) (v : V) (ps : List PcD) : Prop := ∃ a dx pa vs z, v = .ref a ∧ G a = some (.ins (ga K "Program") dx (pgF pa z)) ∧ SqT K G pa vs ∧ PcAll K G vs ps ∧ ps.length ≤ 40
def rwF (ta da : Addr) : List (Str × V) := [("tests", .ref ta), ("deeds", .ref da)]
def RwAt (K : Fg) (G : Hp) (v : V) (r : RwD) : Prop := ∃ a dx ta da, v = .ref a ∧ G a = some (.ins (ga K "Row") dx (rwF ta da)) ∧ SqT K G ta (r.1.map V.str) ∧ SqT K G da (r.2.map V.str)
def tlF (ra : Addr) (b : Bool) : List (Str × V) := [("rows", .ref ra), ("sorts", .bl b)]
def TlAt (K : Fg) (G : Hp) (v : V) (t : TlD) : Prop := ∃ a dx ra vs, v = .ref a ∧ G a = some (.ins (ga K "Tool") dx (tlF ra t.sorts)) ∧ SqT K G ra vs ∧ Paired (RwAt K G) vs t.rows ∧ t.ok
section
variable {K : Fg} {G G' : Hp} {v : V}
theorem pairedM {α β : Type} {F F' : α → β → Prop} (h : ∀ a b, F a b → F' a b) : ∀ {xs : List α} {ys : List β}, Paired F xs ys → Paired F' xs ys
  | _, _, .nil => .nil
  | _, _, .cons r t => .cons (h _ _ r) (pairedM h t)
theorem PcAt.mono {d : PcD} (e : Same G G') (h : PcAt K G v d) : PcAt K G' v d := by
  obtain ⟨a, dx, pa, z, e1, e2, e3, e4⟩ := h
  exact ⟨a, dx, pa, z, e1, e _ _ e2, SqTm e e3, e4⟩
theorem PcAt.isOk {d : PcD} (h : PcAt K G v d) : d.ok := by
  obtain ⟨_, _, _, _, _, _, _, _, e⟩ := h
  exact e
theorem PcAll.mono {vs : List V} {ds : List PcD} (e : Same G G') (h : PcAll K G vs ds) : PcAll K G' vs ds := pairedM (fun _ _ z => z.mono e) h
theorem PgAt.mono {ps : List PcD} (e : Same G G') (h : PgAt K G v ps) : PgAt K G' v ps := by
  obtain ⟨a, dx, pa, vs, z, e1, e2, e3, e4, e5⟩ := h
  exact ⟨a, dx, pa, vs, z, e1, e _ _ e2, SqTm e e3, e4.mono e, e5⟩
theorem RwAt.mono {r : RwD} (e : Same G G') (h : RwAt K G v r) : RwAt K G' v r := by
  obtain ⟨a, dx, ta, da, e1, e2, e3, e4⟩ := h
  exact ⟨a, dx, ta, da, e1, e _ _ e2, SqTm e e3, SqTm e e4⟩
theorem TlAt.mono {t : TlD} (e : Same G G') (h : TlAt K G v t) : TlAt K G' v t := by
  obtain ⟨a, dx, ra, vs, e1, e2, e3, e4, e5⟩ := h
  exact ⟨a, dx, ra, vs, e1, e _ _ e2, SqTm e e3, pairedM (fun _ _ z => z.mono e) e4, e5⟩
theorem Paired.get1 {α β : Type} {F : α → β → Prop} : ∀ {xs : List α} {ys : List β} {i : Nat} {y : β}, Paired F xs ys → ys[i]? = some y → ∃ x, xs[i]? = some x ∧ F x y
  | _, _, i, y, .nil, e => by simp at e
  | _, _, 0, y, .cons h _, e => by simp at e; subst e; exact ⟨_, rfl, h⟩
  | _, _, i + 1, y, .cons _ t, e => by
    obtain ⟨v, h1, h2⟩ := Paired.get1 (i := i) (y := y) t (by simpa using e)
    exact ⟨v, by simpa using h1, h2⟩
theorem Paired.get0 {α β : Type} {F : α → β → Prop} : ∀ {xs : List α} {ys : List β} {i : Nat} {x : α}, Paired F xs ys → xs[i]? = some x → ∃ y, ys[i]? = some y ∧ F x y
  | _, _, i, y, .nil, e => by simp at e
  | _, _, 0, y, .cons h _, e => by simp at e; subst e; exact ⟨_, rfl, h⟩
  | _, _, i + 1, y, .cons _ t, e => by
    obtain ⟨v, h1, h2⟩ := Paired.get0 (i := i) (x := y) t (by simpa using e)
    exact ⟨v, by simpa using h1, h2⟩
theorem Paired.lenE {α β : Type} {F : α → β → Prop} : ∀ {xs : List α} {ys : List β}, Paired F xs ys → xs.length = ys.length
  | _, _, .nil => rfl
  | _, _, .cons _ t => congrArg Nat.succ (Paired.lenE t)
theorem Paired.app {α β : Type} {F : α → β → Prop} : ∀ {xs xs' : List α} {ys ys' : List β}, Paired F xs ys → Paired F xs' ys' → Paired F (xs ++ xs') (ys ++ ys')
  | _, _, _, _, .nil, s => s
  | _, _, _, _, .cons r t, s => .cons r (Paired.app t s)
theorem Paired.tk {α β : Type} {F : α → β → Prop} : ∀ {xs : List α} {ys : List β} (n : Nat), Paired F xs ys → Paired F (xs.take n) (ys.take n)
  | _, _, 0, _ => .nil
  | _, _, _ + 1, .nil => .nil
  | _, _, n + 1, .cons r t => .cons r (Paired.tk n t)
theorem Paired.dr {α β : Type} {F : α → β → Prop} : ∀ {xs : List α} {ys : List β} (n : Nat), Paired F xs ys → Paired F (xs.drop n) (ys.drop n)
  | _, _, 0, r => r
  | _, _, _ + 1, .nil => .nil
  | _, _, n + 1, .cons _ t => Paired.dr n t
/-- a piece whose fields may be read (its text may be missing) -/
structure PcR (K : Fg) (H : Hp) (a : Addr) (d : PcD) : Prop where
  ex : ∃ dx pa fs, H a = some (.ins (ga K "Piece") dx fs) ∧ SqT K H pa (d.parts.map V.str) ∧ fs.lookup ("word" : Str) = some (.str d.word) ∧ fs.lookup ("parts" : Str) = some (.ref pa) ∧ fs.lookup ("broken" : Str) = some (.bl d.broken) ∧
    fs.lookup ("marked" : Str) = some (.bl d.marked) ∧ fs.lookup ("ahead" : Str) = some (.str d.ahead) ∧ fs.lookup ("behind" : Str) = some (.str d.behind) ∧ fs.lookup ("blanks" : Str) = some (.int d.blanks) ∧ fs.lookup ("left" : Str) = some (.bl d.left) ∧
    fs.lookup ("told" : Str) = none ∧ fs.lookup ("but" : Str) = none ∧ fs.lookup ("written" : Str) = none
theorem PcR.mono {H H' : Hp} {a : Addr} {d : PcD} (e : Same H H') (h : PcR K H a d) : PcR K H' a d := by
  obtain ⟨dx, pa, fs, h1, h2, h3⟩ := h
  exact ⟨dx, pa, fs, e _ _ h1, SqTm e h2, h3⟩
theorem PcAt.r {H : Hp} {d : PcD} (h : PcAt K H v d) : ∃ a, v = .ref a ∧ PcR K H a d := by
  obtain ⟨a, dx, pa, z, e1, e2, e3, e4⟩ := h
  exact ⟨a, e1, dx, pa, _, e2, e3, by rfl, by rfl, by rfl, by rfl, by rfl, by rfl, by rfl, by rfl, by rfl, by rfl, by rfl⟩
/-- a list's, a tuple's type -/
theorem tyL {H : Hp} {a : Addr} {xs : List V} (h : SqL K H a xs) : TyX K H (.ref a) (.type "list") := by
  rcases h with (h | ⟨o, h⟩) | ⟨o, its, n, h, c, _⟩
  · exact .base (.lst h)
  · exact .base (.frz h)
  · exact .kList h c
theorem tyT {H : Hp} {a : Addr} {xs : List V} (h : SqT K H a xs) : TyX K H (.ref a) (.type "tuple") := by
  rcases h with (h | ⟨o, h⟩) | ⟨o, its, n, h, c, _⟩
  · exact .base (.tup h)
  · exact .fTuple h
  · exact .kTuple h c
end
end Lt
set_option Elab.async false
set_option linter.all false
set_option maxRecDepth 100000
set_option maxHeartbeats 4000000
/-! Short answers to the readings' questions. -/
namespace Lt
open PySem PySem.Spec PyProof.Rows L2
open C8 (Cal Met Mak pe_c pe_mk pe_mt pe_mt0 pe_gc)
section
variable {K : Fg} {mg : Str → Option Value} {H H' : Hp} {Q : VK}
/-! ### a new object -/
theorem newAt {p : Addr} {o : HO} (n : H p = none) : Same H (upd H p o) ∧ (upd H p o) p = some o := ⟨same_new n, upd_same⟩
/-! ### two ways joined -/
theorem ifE {c : Prop} [Decidable c] {ta tb : TE} {σ : L2.St} {H : Hp} {Q : VK} (P : VK) (h1 : c → ∀ Q : VK, (∀ v H', P v H' → Q v H') → ta σ H Q) (h2 : ¬ c → ∀ Q : VK, (∀ v H', P v H' → Q v H') → tb σ H Q) (k : ∀ v H', P v H' → Q v H') :
    if c then ta σ H Q else tb σ H Q := by
  by_cases e : c
  · rw [if_pos e]
    exact h1 e Q k
  · rw [if_neg e]
    exact h2 e Q k
theorem ifS {c : Prop} [Decidable c] {t u : TS} {σ : L2.St} {H : Hp} {D : Ends} (P : L2.St → Hp → Prop) (h1 : c → ∀ D : Ends, (∀ σ' H', P σ' H' → D.nx σ' H') → t D σ H) (h2 : ¬ c → ∀ D : Ends, (∀ σ' H', P σ' H' → D.nx σ' H') → u D σ H) (k : ∀ σ' H', P σ' H' → D.nx σ' H') :
    if c then t D σ H else u D σ H := by
  by_cases e : c
  · rw [if_pos e]
    exact h1 e D k
  · rw [if_neg e]
    exact h2 e D k
/-! ### isinstance -/
theorem kb_str : kitB "str" "str" = some true := by decide +kernel
theorem kb_bool : kitB "bool" "bool" = some true := by decide +kernel
theorem kb_int : kitB "int" "int" = some true := by decide +kernel
theorem kb_intbool : kitB "int" "bool" = some false := by decide +kernel
theorem kb_tl : kitB "tuple" "list" = some false := by decide +kernel
theorem kb_tt : kitB "tuple" "tuple" = some true := by decide +kernel
theorem kb_ll : kitB "list" "list" = some true := by decide +kernel
/-- a list or a tuple -/
def Seq (K : Fg) (H : Hp) (a : Addr) : Prop := (∃ xs, SqL K H a xs) ∨ ∃ xs, SqT K H a xs
theorem seqKit {a : Addr} (h : Seq K H a) : ∃ t, TyX K H (.ref a) (.type t) ∧ PySem.W.kitAny K (.type t) [.type "list", .type "tuple"] = some true := by
  rcases h with ⟨xs, h⟩ | ⟨xs, h⟩
  · exact ⟨"list", tyL h, kitAny_cons (kit_ty kb_ll) (fun z => by cases z) (fun _ => rfl)⟩
  · exact ⟨"tuple", tyT h, kitAny_cons (kit_ty kb_tl) (fun _ => kitAny_cons (kit_ty kb_tt) (fun z => by cases z) (fun _ => rfl)) (fun z => by cases z)⟩
theorem objKit {c : Str} {a dx : Addr} {fs : List (Str × V)} (cl : Cls K (ga K c)) (h : objB c K = true) (e : H a = some (.ins (ga K c) dx fs)) : TyX K H (.ref a) (.ref (ga K c)) ∧ PySem.W.kitOne K (.ref (ga K c)) (.ref (ga K c)) = some true := by
  obtain ⟨h1, h⟩ := He.ba h
  obtain ⟨h2, h⟩ := He.ba h
  obtain ⟨h3, h⟩ := He.ba h
  obtain ⟨h4, h5⟩ := He.ba h
  exact ⟨.base (.ins e cl (He.eqO_ok h1) (of_decide_eq_true h4) (of_decide_eq_true h5) (of_decide_eq_true h2)), of_decide_eq_true h3⟩
/-! ### in a table of texts -/
theorem inV_strs {z : Str} {ws : List Str} (h : z ∈ ws) : inV (.str z) (ws.map V.str) = true := by
  unfold inV
  rw [List.any_map, List.any_eq_true]
  refine ⟨z, h, ?_⟩
  show (z == z) = true
  exact beq_self_eq_true z
theorem flat_strs (ws : List Str) : (ws.map V.str).all flatV = true := by
  rw [List.all_map, List.all_eq_true]
  intro z _
  rfl
theorem tupB_ok {x : Str} {ws : List Str} (h : tupB x ws K = true) (H : Hp) : SqT K H (ga K x) (ws.map V.str) := by
  have h2 := He.tupB_ok (He.ba h).2 H
  rw [List.map_map] at h2
  exact h2
theorem tupB_mg {x : Str} {ws : List Str} {h : Heap} (X : K.In h) (G : h.Ns mainGlobals mg) (e : tupB x ws K = true) : mg x = some (.ref (ga K x)) := PySem.W.mg_of X G (He.eqO_ok (He.ba e).1)
end
section
variable {K : Fg} {mg : Str → Option Value}
theorem Txt.v_TESTS (T : Txt K mg) : ∃ u, mg "TESTS" = some u ∧ RelV (.ref (ga K "TESTS")) u := let ⟨_, X, G⟩ := T.st; ⟨_, tupB_mg X G T.t_TESTS, rfl⟩
theorem Txt.v_DEEDS (T : Txt K mg) : ∃ u, mg "DEEDS" = some u ∧ RelV (.ref (ga K "DEEDS")) u := let ⟨_, X, G⟩ := T.st; ⟨_, tupB_mg X G T.t_DEEDS, rfl⟩
theorem Txt.q_TESTS (T : Txt K mg) (H : Hp) : SqT K H (ga K "TESTS") (tests10.map V.str) := tupB_ok T.t_TESTS H
theorem Txt.q_DEEDS (T : Txt K mg) (H : Hp) : SqT K H (ga K "DEEDS") (deeds8.map V.str) := tupB_ok T.t_DEEDS H
end
/-! ### an instance is written: lists and tuples stand -/
theorem SqT_w {K : Fg} {H : Hp} {a p : Addr} {xs : List V} {o u : HO} (h : SqT K H a xs) (e : H p = some u) (h1 : ∀ ys, u ≠ .tup ys) (h2 : ∀ o v, u ≠ .frz o v) : SqT K (upd H p o) a xs := by
  rcases h with (h | ⟨q, h⟩) | h
  · exact .inl (.inl (by rw [upd_ne (ne_of h e (h1 _).symm)]; exact h))
  · exact .inl (.inr ⟨q, by rw [upd_ne (ne_of h e (h2 _ _).symm)]; exact h⟩)
  · exact .inr h
theorem SqT_i {K : Fg} {H : Hp} {a p C dx : Addr} {fs : List (Str × V)} {xs : List V} {o : HO} (h : SqT K H a xs) (e : H p = some (.ins C dx fs)) : SqT K (upd H p o) a xs := SqT_w h e (fun _ z => by cases z) (fun _ _ z => by cases z)
theorem lt1000 {n : Nat} (h : decide (n < 1000) = true) : n < 1000 := of_decide_eq_true h
/-! ### f-strings, by a name -/
def tJoin (ts : List TE) : TE := fun σ H Q => tJs ts Str.empty σ H fun out H1 => Q (.str out) H1
theorem pe_jn {X : Cx} {v1 v2 : Expr} {rest : List Expr} {ts : List TE} {pos : Pos} (h : PJ X (v1 :: v2 :: rest) ts) : PE X (.JoinedStr (v1 :: v2 :: rest) pos) (tJoin ts) := pe_joined h
/-! ### items -/
theorem at0 {xs : List V} {v : V} : atI (v :: xs) 0 = some v := atI_nat (j := 0) rfl
theorem at1 {xs : List V} {u v : V} : atI (u :: v :: xs) 1 = some v := atI_nat (j := 1) rfl
theorem at2 {xs : List V} {t u v : V} : atI (t :: u :: v :: xs) 2 = some v := atI_nat (j := 2) rfl
theorem sz {n : Nat} (h : n ≤ 100000) : n ≤ sizeLine := Nat.le_trans h (by decide)
theorem szl {n : Nat} (h : n < 100000) : n < sizeLine := Nat.lt_of_lt_of_le h (by decide)
/-! ### for over a list or a tuple -/
def iSeq (K : Fg) (tl : TE) : TI := fun σ H R => tl σ H fun x H1 => ∃ a, x = .ref a ∧ (((∃ xs, SqL K H1 a xs) ∧ R (Itl K a) H1) ∨ ((∃ xs, SqT K H1 a xs) ∧ R (Itt K a) H1))
theorem pi_seq {X : Cx} {tg l : Expr} {tl : TE} (hl : PE X l tl) : PI X tg l (iSeq X.K tl) := by
  refine ⟨fun pins s σ H R I h => ?_⟩
  refine thn (hl.run pins s σ H _ I h) fun v s1 ⟨x, H1, I1, r1, q1⟩ => ?_
  obtain ⟨a, e, q⟩ := q1
  subst e
  cases r1
  have fin : ∀ (it : Addr), it = s1.heap.objs.size → ∀ b ∈ [it], FpOk X pins H1 b := fun it e b hb => by
    have e : b = s1.heap.objs.size := by rw [← e]; simpa using hb
    subst e
    exact I1.fpOk (Nat.le_refl _) (I1.hok.fresh (Nat.le_refl _))
  rcases q with ⟨⟨xs, hq⟩, q⟩ | ⟨⟨xs, hq⟩, q⟩
  · obtain ⟨its, rv, p, hz⟩ := I1.list hq
    refine wpAny_pyIter_list p.isList ?_
    exact ⟨s1.heap.objs.size, [s1.heap.objs.size], _, _, H1, rfl, I1.kept (t' := s1.toks) fun b o e => Heap.get?_push_of_some _ e, turn_list a _, ⟨_, Heap.get?_push_size _ rfl, rfl, rfl⟩, fin _ rfl, q⟩
  · obtain ⟨its, rv, p, hz⟩ := I1.tuple hq
    refine wpAny_pyIter_tuple (show s1.heap.IsTuple a its.toArray from p) ?_
    exact ⟨s1.heap.objs.size, [s1.heap.objs.size], _, _, H1, rfl, I1.kept (t' := s1.toks) fun b o e => Heap.get?_push_of_some _ e, turn_tuple a _, ⟨_, Heap.get?_push_size _ rfl, rfl, rfl⟩, fin _ rfl, q⟩
/-- a walk over either -/
structure WkS (K : Fg) (a : Addr) (J : It) (xs : List V) (G : Hp → Prop) : Prop where
  wk : Walk J xs.length G (YAt xs)
  gm : ∀ H H', Same H H' → G H → G H'
theorem iSeq_L {K : Fg} {σ : L2.St} {H : Hp} {a : Addr} {xs : List V} {R : It → Hp → Prop} (h : SqL K H a xs ∨ SqT K H a xs) (r : ∀ J G, WkS K a J xs G → G H → R J H) :
    ((∃ xs, SqL K H a xs) ∧ R (Itl K a) H) ∨ ((∃ xs, SqT K H a xs) ∧ R (Itt K a) H) := by
  rcases h with h | h
  · exact .inl ⟨⟨xs, h⟩, r _ _ ⟨walk_list, fun _ _ e z => SqLm e z⟩ h⟩
  · exact .inr ⟨⟨xs, h⟩, r _ _ ⟨walk_tup, fun _ _ e z => SqTm e z⟩ h⟩
/-! ### lookups in an instance -/
section
variable {d : PcD} {pa ta da ra : Addr} {z : Str} {b : Bool}
theorem pcF_word : (pcF d pa z).lookup ("word" : Str) = some (.str d.word) := by rfl
theorem pcF_parts : (pcF d pa z).lookup ("parts" : Str) = some (.ref pa) := by rfl
theorem pcF_broken : (pcF d pa z).lookup ("broken" : Str) = some (.bl d.broken) := by rfl
theorem pcF_marked : (pcF d pa z).lookup ("marked" : Str) = some (.bl d.marked) := by rfl
theorem pcF_ahead : (pcF d pa z).lookup ("ahead" : Str) = some (.str d.ahead) := by rfl
theorem pcF_behind : (pcF d pa z).lookup ("behind" : Str) = some (.str d.behind) := by rfl
theorem pcF_blanks : (pcF d pa z).lookup ("blanks" : Str) = some (.int d.blanks) := by rfl
theorem pcF_left : (pcF d pa z).lookup ("left" : Str) = some (.bl d.left) := by rfl
theorem pcF_text : (pcF d pa z).lookup ("text" : Str) = some (.str z) := by rfl
end
section
variable {K : Fg} {mg : Str → Option Value} {H : Hp} {Q : VK} {a dx pa : Addr} {d : PcD} {z : Str}
/-- a piece's fields read -/
abbrev Rf (K : Fg) (c f : Str) (a : Addr) (v : V) (H : Hp) (Q : VK) : Prop := ∃ a1 C dx fs v1, V.ref a = .ref a1 ∧ H a1 = some (.ins C dx fs) ∧ Cls K C ∧ NoAttr K C f ∧ fs.lookup f = some v1 ∧ Q v1 H
theorem rf {c f : Str} {v : V} {fs : List (Str × V)} (cl : Cls K (ga K c)) (n : NoAttr K (ga K c) f) (e : H a = some (.ins (ga K c) dx fs)) (l : fs.lookup f = some v) (q : Q v H) :
    ∃ a1 C dx fs v1, V.ref a = .ref a1 ∧ H a1 = some (.ins C dx fs) ∧ Cls K C ∧ NoAttr K C f ∧ fs.lookup f = some v1 ∧ Q v1 H := ⟨a, _, dx, fs, v, rfl, e, cl, n, l, q⟩
end
end Lt
set_option Elab.async false
set_option linter.all false
set_option maxRecDepth 100000
set_option maxHeartbeats 4000000
/-! names, sequences, tests; what is wrong with a piece -/
namespace Lt
open PySem PySem.Spec PyProof.Rows L2
open C8 (Cal Met Mak pe_c pe_mk pe_mt pe_mt0 pe_gc)
section
variable {P : Program} {w : World} {K : Fg} {mg : Str → Option Value} {base : Heap}
def sp_is_integer (K : Fg) : Sp := fun vs H Q _ => ∃ i : Int, vs = [.int i] ∧ Q (.bl true) H
theorem len_is_integer {vs H Q E} (h : sp_is_integer K vs H Q E) : vs.length = 1 := by
  obtain ⟨z, rfl, _⟩ := h
  rfl
theorem sc_is_integer : FnScope ["value"] ["value"] (defScope d_is_integer.st) := ⟨rfl, rfl, rfl, by decide +kernel, rfl, by decide +kernel, by decide +kernel⟩
theorem bi_is_integer {K : Fg} {fd : FuncData} (F : FnD K d_is_integer fd) : Binds K fd ["value"] [] := FunD.bindsN F fun _ _ _ _ _ _ us hl => match us, hl with | [_], _ => rfl
theorem body_is_integer (T : Txt K mg) : BodyOk P w K mg base 0 ["value"] d_is_integer (sp_is_integer K) := by
  intro cdv A outer s H vs Q E hr h
  obtain ⟨i, rfl, k⟩ := h
  refine ⟨_, (pss_one (ps_ret (pe_and (pe_callB call_isi (by rfl) T.b_isinstance PyProof.Rows.boot_isinstance (pa_cons (pv 0) (pa_cons (pe_bltn (v := .ty "int") (by rfl) T.b_int PyProof.Rows.boot_int rfl) pa_nil))) (pe_one (pe_not (pe_callB call_isi (by rfl) T.b_isinstance PyProof.Rows.boot_isinstance (pa_cons (pv 0) (pa_cons (pe_bltn (v := .ty "bool") (by rfl) T.b_bool PyProof.Rows.boot_bool rfl) pa_nil)))))))), ?_⟩
  exact ⟨_, rfl, .int i, .ty "int", .type "int", .type "int", true, rfl, .ty _, .base (.int i), kit_ty kb_int, true, rfl, iteT ⟨_, rfl, .int i, .ty "bool", .type "int", .type "bool", false, rfl, .ty _, .base (.int i), kit_ty kb_intbool, false, rfl, k⟩⟩
theorem cal_is_integer (T : Txt K mg) : Cal P w K mg base 1 "is_integer" (sp_is_integer K) [] := by
  obtain ⟨fd, F⟩ := T.d_is_integer
  exact mkCal F T.g_is_integer (bi_is_integer F) sc_is_integer (fun vs H Q E h => len_is_integer h) (body_is_integer T)
def sp_is_name (K : Fg) : Sp := fun vs H Q _ => ∃ z : Str, vs = [.str z] ∧ nameOk z ∧ ∀ H', Same H H' → Q (.bl true) H'
theorem len_is_name {vs H Q E} (h : sp_is_name K vs H Q E) : vs.length = 1 := by
  obtain ⟨z, rfl, _⟩ := h
  rfl
theorem sc_is_name : FnScope ["value", "sign"] ["value"] (defScope d_is_name.st) := ⟨rfl, rfl, rfl, by decide +kernel, rfl, by decide +kernel, by decide +kernel⟩
theorem bi_is_name {K : Fg} {fd : FuncData} (F : FnD K d_is_name fd) : Binds K fd ["value"] [] := FunD.bindsN F fun _ _ _ _ _ _ us hl => match us, hl with | [_], _ => rfl
theorem body_is_name (T : Txt K mg) : BodyOk P w K mg base 0 ["value", "sign"] d_is_name (sp_is_name K) := by
  intro cdv A outer s H vs Q E hr h
  obtain ⟨z, rfl, ⟨h1, h2, h3⟩, k⟩ := h
  have nd := sc_is_name.nd
  refine ⟨_, (pss_one (ps_ret (pe_and (pe_callB call_isi (by rfl) T.b_isinstance PyProof.Rows.boot_isinstance (pa_cons (pv 0) (pa_cons (pe_bltn (v := .ty "str") (by rfl) T.b_str PyProof.Rows.boot_str rfl) pa_nil))) (pe_and (pe_chain op_le op_le pe_int (pe_callB call_len_str (by rfl) T.b_len PySem.boot_len (pa_cons (pv 0) pa_nil)) (pe_gc (by rfl) T.i_MOST_LETTERS)) (pe_one (pe_callB (cr_all rfl) (by rfl) T.b_all PyProof.Rows.boot_all (pa_cons (pe_lc (own := [("sign", 1)]) (g := gName 1) (tt := tYes) rfl nd (pi_str (pv 0)) (blkOk_by (N := ["value", "sign"]) (sc := defScope d_is_name.st) (by decide +kernel)) (fun _ _ _ _ _ => (pg_name (i := 1) nd rfl (Or.inl rfl))) (fun _ _ _ _ _ => pts_nil) (fun _ _ _ _ _ => (pe_cmpR op_in_sign (pv 1) (pe_gc (by rfl) T.s_LETTERS) rfl))) pa_nil))))))), ?_⟩
  have hz : z.cps.size = z.length := rfl
  have e1 : decide ((1 : Int) ≤ (z.length : Int)) = true := decide_eq_true (by omega)
  have e2 : decide ((z.length : Int) ≤ 6) = true := decide_eq_true (by omega)
  refine ⟨_, rfl, .str z, .ty "str", .type "str", .type "str", true, rfl, .ty _, .base (.str z), kit_ty kb_str, true, rfl, iteT ?_⟩
  refine ⟨_, rfl, z, rfl, Nat.le_trans h2 (by decide), 1, (z.length : Int), rfl, rfl, _, rfl, ?_⟩
  rw [e1]
  refine iteT ⟨(z.length : Int), 6, rfl, rfl, _, rfl, ?_⟩
  rw [e2]
  refine iteT ⟨_, rfl, z, rfl, fun D hD => ?_⟩
  refine lc_go walk_str (fun i acc H' => Same H H' ∧ acc = List.replicate i (V.bl true)) ⟨same_new hD, rfl⟩ (fun _ _ _ _ _ _ => trivial) (fun i x acc H1 H2 hi hl ⟨p1, p2⟩ hD1 y => ?_) (fun acc H1 hl ⟨p1, p2⟩ hD1 => ?_)
  · obtain ⟨rfl, c, hc, rfl⟩ := y
    have hm : c ∈ z.cps.toList := by
      have h4 : z.cps.toList[i]? = some c := by rw [Array.getElem?_toList]; exact hc
      exact List.mem_of_getElem? h4
    refine ⟨rfl, yes ⟨_, rfl, c, _, rfl, rfl, lc_put hD1 hl (by omega) ⟨p1.mut hD, ?_⟩⟩⟩
    rw [p2, decide_eq_true (h3 c hm), List.replicate_succ']
  · refine ⟨D, List.replicate z.cps.size true, rfl, ?_, ?_⟩
    · rw [List.map_replicate, ← p2]
      exact SqL.of hD1
    · have e : (List.replicate z.cps.size true).all id = true := by simp
      rw [e]
      exact k _ p1
theorem cal_is_name (T : Txt K mg) : Cal P w K mg base 1 "is_name" (sp_is_name K) [] := by
  obtain ⟨fd, F⟩ := T.d_is_name
  exact mkCal F T.g_is_name (bi_is_name F) sc_is_name (fun vs H Q E h => len_is_name h) (body_is_name T)
def sp_is_sequence (K : Fg) : Sp := fun vs H Q _ => ∃ a : Addr, vs = [.ref a] ∧ Seq K H a ∧ ∀ H', Same H H' → Q (.bl true) H'
theorem len_is_sequence {vs H Q E} (h : sp_is_sequence K vs H Q E) : vs.length = 1 := by
  obtain ⟨z, rfl, _⟩ := h
  rfl
theorem Seq.mono {H H' : Hp} {a : Addr} (e : Same H H') (h : Seq K H a) : Seq K H' a := by
  rcases h with ⟨xs, h⟩ | ⟨xs, h⟩
  · exact .inl ⟨xs, SqLm e h⟩
  · exact .inr ⟨xs, SqTm e h⟩
theorem sc_is_sequence : FnScope ["value"] ["value"] (defScope d_is_sequence.st) := ⟨rfl, rfl, rfl, by decide +kernel, rfl, by decide +kernel, by decide +kernel⟩
theorem bi_is_sequence {K : Fg} {fd : FuncData} (F : FnD K d_is_sequence fd) : Binds K fd ["value"] [] := FunD.bindsN F fun _ _ _ _ _ _ us hl => match us, hl with | [_], _ => rfl
theorem body_is_sequence (T : Txt K mg) : BodyOk P w K mg base 0 ["value"] d_is_sequence (sp_is_sequence K) := by
  intro cdv A outer s H vs Q E hr h
  obtain ⟨a, rfl, h1, k⟩ := h
  refine ⟨_, (pss_one (ps_ret (pe_callB call_isiT (by rfl) T.b_isinstance PyProof.Rows.boot_isinstance (pa_cons (pv 0) (pa_cons (pe_tup (pa_cons (pe_bltn (v := .ty "list") (by rfl) T.b_list PyProof.Rows.boot_list rfl) (pa_cons (pe_bltn (v := .ty "tuple") (by rfl) T.b_tuple PyProof.Rows.boot_tuple rfl) pa_nil))) pa_nil))))), ?_⟩
  refine ⟨_, rfl, sz (by decide), fun t ht => ?_⟩
  obtain ⟨ty, h2, h3⟩ := seqKit (h1.mono (same_new ht))
  exact ⟨.ref a, t, _, .type ty, _, true, rfl, upd_same, .cons (.ty _) (.cons (.ty _) .nil), h2, h3, k _ (same_new ht)⟩
theorem cal_is_sequence (T : Txt K mg) : Cal P w K mg base 1 "is_sequence" (sp_is_sequence K) [] := by
  obtain ⟨fd, F⟩ := T.d_is_sequence
  exact mkCal F T.g_is_sequence (bi_is_sequence F) sc_is_sequence (fun vs H Q E h => len_is_sequence h) (body_is_sequence T)
def sp_is_word (K : Fg) : Sp := fun vs H Q _ => ∃ (z : Str) (a : Addr) (ws : List Str), vs = [.str z, .ref a] ∧ SqT K H a (ws.map V.str) ∧ z ∈ ws ∧ Q (.bl true) H
theorem len_is_word {vs H Q E} (h : sp_is_word K vs H Q E) : vs.length = 2 := by
  obtain ⟨_, _, _, rfl, _⟩ := h
  rfl
theorem sc_is_word : FnScope ["value", "some"] ["value", "some"] (defScope d_is_word.st) := ⟨rfl, rfl, rfl, by decide +kernel, rfl, by decide +kernel, by decide +kernel⟩
theorem bi_is_word {K : Fg} {fd : FuncData} (F : FnD K d_is_word fd) : Binds K fd ["value", "some"] [] := FunD.bindsN F fun _ _ _ _ _ _ us hl => match us, hl with | [_, _], _ => rfl
theorem body_is_word (T : Txt K mg) : BodyOk P w K mg base 0 ["value", "some"] d_is_word (sp_is_word K) := by
  intro cdv A outer s H vs Q E hr h
  obtain ⟨z, a, ws, rfl, h1, h2, k⟩ := h
  refine ⟨_, (pss_one (ps_ret (pe_and (pe_callB call_isi (by rfl) T.b_isinstance PyProof.Rows.boot_isinstance (pa_cons (pv 0) (pa_cons (pe_bltn (v := .ty "str") (by rfl) T.b_str PyProof.Rows.boot_str rfl) pa_nil))) (pe_one (pe_cmpR op_in_seq (pv 0) (pv 1) (by rfl)))))), ?_⟩
  exact ⟨_, rfl, .str z, .ty "str", .type "str", .type "str", true, rfl, .ty _, .base (.str z), kit_ty kb_str, true, rfl, iteT ⟨_, rfl, _, rfl, _, _, rfl, .inr h1, rfl, flat_strs ws, by rw [inV_strs h2]; exact k⟩⟩
theorem cal_is_word (T : Txt K mg) : Cal P w K mg base 1 "is_word" (sp_is_word K) [] := by
  obtain ⟨fd, F⟩ := T.d_is_word
  exact mkCal F T.g_is_word (bi_is_word F) sc_is_word (fun vs H Q E h => len_is_word h) (body_is_word T)
theorem test_split : ∀ z ∈ tests20, z.length ≤ 100 ∧ ((hd4 z = "not " ∧ tl4 z ∈ tests10) ∨ (hd4 z ≠ "not " ∧ z ∈ tests10)) := by decide +kernel
def sp_is_test (K : Fg) : Sp := fun vs H Q _ => ∃ z : Str, vs = [.str z] ∧ z ∈ tests20 ∧ Q (.bl true) H
theorem len_is_test {vs H Q E} (h : sp_is_test K vs H Q E) : vs.length = 1 := by
  obtain ⟨_, rfl, _⟩ := h
  rfl
theorem sc_is_test : FnScope ["value"] ["value"] (defScope d_is_test.st) := ⟨rfl, rfl, rfl, by decide +kernel, rfl, by decide +kernel, by decide +kernel⟩
theorem bi_is_test {K : Fg} {fd : FuncData} (F : FnD K d_is_test fd) : Binds K fd ["value"] [] := FunD.bindsN F fun _ _ _ _ _ _ us hl => match us, hl with | [_], _ => rfl
theorem body_is_test (T : Txt K mg) : BodyOk P w K mg base 0 ["value"] d_is_test (sp_is_test K) := by
  intro cdv A outer s H vs Q E hr h
  obtain ⟨z, rfl, h1, k⟩ := h
  refine ⟨_, (pss_cons (ps_if (pt_not (pt_val (pe_callB call_isi (by rfl) T.b_isinstance PyProof.Rows.boot_isinstance (pa_cons (pv 0) (pa_cons (pe_bltn (v := .ty "str") (by rfl) T.b_str PyProof.Rows.boot_str rfl) pa_nil))))) (pss_one (ps_ret pe_bl)) pss_nil)
      (pss_one (ps_ret (pe_cmpR op_in_seq (pe_ifExp (pt_cmpR op_eq (pe_slice sl_str (pv 0) po_none (po_some (pe_callB call_len_str (by rfl) T.b_len PySem.boot_len (pa_cons (pe_gc (by rfl) T.s_NOT) pa_nil)))) (pe_gc (by rfl) T.s_NOT) (nomark _)) (pe_slice sl_str (pv 0) (po_some (pe_callB call_len_str (by rfl) T.b_len PySem.boot_len (pa_cons (pe_gc (by rfl) T.s_NOT) pa_nil))) po_none) (pv 0)) (pe_gc (by rfl) T.v_TESTS) (by rfl))))), ?_⟩
  obtain ⟨hz, h2⟩ := test_split z h1
  refine ⟨_, rfl, .str z, .ty "str", .type "str", .type "str", true, rfl, .ty _, .base (.str z), kit_ty kb_str, true, rfl, iteF ?_⟩
  have l4 : ("not " : Str).length ≤ sizeLine := by decide +kernel
  refine ⟨_, rfl, _, rfl, l4, 4, rfl, z, rfl, sz (by omega), rfl, _, rfl, ?_⟩
  rcases h2 with ⟨h2, h3⟩ | ⟨h2, h3⟩
  · have e : decide (V.str (cutS z none (some 4)) = V.str "not ") = true := decide_eq_true (by rw [show cutS z none (some 4) = "not " from h2])
    refine ite2 (fun _ => ?_) (fun n => absurd e n)
    exact ⟨_, rfl, _, rfl, l4, 4, rfl, z, rfl, sz (by omega), _, _, rfl, .inr (T.q_TESTS H), rfl, flat_strs _, by rw [show cutS z (some 4) none = tl4 z from rfl, inV_strs h3]; exact k⟩
  · have e : ¬ decide (V.str (cutS z none (some 4)) = V.str "not ") = true := fun n => h2 (V.str.inj (of_decide_eq_true n))
    refine ite2 (fun n => absurd n e) (fun _ => ?_)
    exact ⟨_, rfl, _, _, rfl, .inr (T.q_TESTS H), rfl, flat_strs _, by rw [inV_strs h3]; exact k⟩
theorem cal_is_test (T : Txt K mg) : Cal P w K mg base 1 "is_test" (sp_is_test K) [] := by
  obtain ⟨fd, F⟩ := T.d_is_test
  exact mkCal F T.g_is_test (bi_is_test F) sc_is_test (fun vs H Q E h => len_is_test h) (body_is_test T)
def sp_is_remark (K : Fg) : Sp := fun vs H Q _ => ∃ z : Str, vs = [.str z] ∧ (z = "" ∨ nameOk z) ∧ ∀ H', Same H H' → Q (.bl true) H'
theorem len_is_remark {vs H Q E} (h : sp_is_remark K vs H Q E) : vs.length = 1 := by
  obtain ⟨_, rfl, _⟩ := h
  rfl
theorem sc_is_remark : FnScope ["value"] ["value"] (defScope d_is_remark.st) := ⟨rfl, rfl, rfl, by decide +kernel, rfl, by decide +kernel, by decide +kernel⟩
theorem bi_is_remark {K : Fg} {fd : FuncData} (F : FnD K d_is_remark fd) : Binds K fd ["value"] [] := FunD.bindsN F fun _ _ _ _ _ _ us hl => match us, hl with | [_], _ => rfl
theorem body_is_remark (T : Txt K mg) : BodyOk P w K mg base 1 ["value"] d_is_remark (sp_is_remark K) := by
  intro cdv A outer s H vs Q E hr h
  obtain ⟨z, rfl, h1, k⟩ := h
  refine ⟨_, (pss_one (ps_ret (pe_and (pe_callB call_isi (by rfl) T.b_isinstance PyProof.Rows.boot_isinstance (pa_cons (pv 0) (pa_cons (pe_bltn (v := .ty "str") (by rfl) T.b_str PyProof.Rows.boot_str rfl) pa_nil))) (pe_one (pe_or (pe_cmpR op_eq (pv 0) pe_str (nomark _)) (pe_one (pe_c (cal_is_name T) hr (by decide) (by rfl) (pa_cons (pv 0) pa_nil)))))))), ?_⟩
  refine ⟨_, rfl, .str z, .ty "str", .type "str", .type "str", true, rfl, .ty _, .base (.str z), kit_ty kb_str, true, rfl, iteT ⟨_, rfl, rfl, _, rfl, ?_⟩⟩
  refine ite2 (fun _ => k _ (Same.refl _)) (fun n => ?_)
  rcases h1 with h1 | h1
  · exact absurd (decide_eq_true (by rw [h1])) n
  · exact ⟨_, rfl, z, rfl, h1, k⟩
theorem cal_is_remark (T : Txt K mg) : Cal P w K mg base 2 "is_remark" (sp_is_remark K) [] := by
  obtain ⟨fd, F⟩ := T.d_is_remark
  exact mkCal F T.g_is_remark (bi_is_remark F) sc_is_remark (fun vs H Q E h => len_is_remark h) (body_is_remark T)
end
end Lt
set_option Elab.async false
set_option linter.all false
set_option maxRecDepth 100000
set_option maxHeartbeats 4000000
/-! what is wrong with a piece -/
namespace Lt
open PySem PySem.Spec PyProof.Rows L2
open C8 (Cal Met Mak pe_c pe_mk pe_mt pe_mt0 pe_gc)
section
variable {P : Program} {w : World} {K : Fg} {mg : Str → Option Value} {base : Heap}
def sp_fault_of (K : Fg) : Sp := fun vs H Q _ => ∃ (d : PcD) (pa fl rm : Addr), vs = [.str d.word, .ref pa, .ref fl, .ref rm, .int d.blanks] ∧ d.ok ∧ SqT K H pa (d.parts.map V.str) ∧
  H fl = some (.tup [.bl d.broken, .bl d.marked, .bl d.left]) ∧ H rm = some (.tup [.str d.ahead, .str d.behind]) ∧ ∀ H', Same H H' → Q .non H'
theorem len_fault_of {vs H Q E} (h : sp_fault_of K vs H Q E) : vs.length = 5 := by
  obtain ⟨_, _, _, _, rfl, _⟩ := h
  rfl
theorem sc_fault_of : FnScope ["word", "parts", "flags", "remarks", "blanks", "checks", "wrong", "name", "is_right", "part"] ["word", "parts", "flags", "remarks", "blanks"] (defScope d_fault_of.st) := ⟨rfl, rfl, rfl, by decide +kernel, rfl, by decide +kernel, by decide +kernel⟩
theorem bi_fault_of {K : Fg} {fd : FuncData} (F : FnD K d_fault_of fd) : Binds K fd ["word", "parts", "flags", "remarks", "blanks"] [] := FunD.bindsN F fun _ _ _ _ _ _ us hl => match us, hl with | [_, _, _, _, _], _ => rfl
theorem body_fault_of (T : Txt K mg) : BodyOk P w K mg base 2 ["word", "parts", "flags", "remarks", "blanks", "checks", "wrong", "name", "is_right", "part"] d_fault_of (sp_fault_of K) := by
  intro cdv A outer s H vs Q E hr h
  obtain ⟨d, pa, fl, rm, rfl, ok, hp, hf, hm, k⟩ := h
  have nd := sc_fault_of.nd
  refine ⟨_, (pss_cons (ps_if (pt_not (pt_val (pe_c (cal_is_name T) hr (by decide) (by rfl) (pa_cons (pv 0) pa_nil)))) (pss_one (ps_ret pe_str)) pss_nil)
      (pss_cons (ps_if (PW.pt (pw_or (pt_not (pt_val (pe_c (cal_is_sequence T) hr (by decide) (by rfl) (pa_cons (pv 1) pa_nil)))) (pw_or (pt_cmpR op_eq (pe_callB call_len_seq (by rfl) T.b_len PySem.boot_len (pa_cons (pv 1) pa_nil)) pe_int (nomark _)) (pw_or1 (pt_not (pt_val (pe_callB (cr_all rfl) (by rfl) T.b_all PyProof.Rows.boot_all (pa_cons (pe_lc (own := [("part", 9)]) (g := gName 9) (tt := tYes) rfl nd (pi_tup (pv 1)) (blkOk_by (N := ["word", "parts", "flags", "remarks", "blanks", "checks", "wrong", "name", "is_right", "part"]) (sc := defScope d_fault_of.st) (by decide +kernel)) (fun _ _ _ _ _ => (pg_name (i := 9) nd rfl (Or.inl rfl))) (fun _ _ _ _ _ => pts_nil) (fun _ _ _ _ _ => (pe_c (cal_is_name T) hr (by decide) (by rfl) (pa_cons (pv 9) pa_nil)))) pa_nil)))))))) (pss_one (ps_ret pe_str)) pss_nil)
      (pss_cons (ps_set (i := 5) nd rfl (Or.inl rfl) (pe_lst (pa_cons (pe_tup (pa_cons pe_str (pa_cons (pe_callB call_isi (by rfl) T.b_isinstance PyProof.Rows.boot_isinstance (pa_cons (pe_ix ix_tup (pv 2) pe_int (fun _ _ => rfl)) (pa_cons (pe_bltn (v := .ty "bool") (by rfl) T.b_bool PyProof.Rows.boot_bool rfl) pa_nil))) pa_nil))) (pa_cons (pe_tup (pa_cons pe_str (pa_cons (pe_callB call_isi (by rfl) T.b_isinstance PyProof.Rows.boot_isinstance (pa_cons (pe_ix ix_tup (pv 2) pe_int (fun _ _ => rfl)) (pa_cons (pe_bltn (v := .ty "bool") (by rfl) T.b_bool PyProof.Rows.boot_bool rfl) pa_nil))) pa_nil))) pa_nil))))
      (pss_cons (ps_aug (i := 5) nd rfl (Or.inl rfl) (pe_lst (pa_cons (pe_tup (pa_cons pe_str (pa_cons (pe_c (cal_is_remark T) hr (by decide) (by rfl) (pa_cons (pe_ix ix_tup (pv 3) pe_int (fun _ _ => rfl)) pa_nil)) pa_nil))) (pa_cons (pe_tup (pa_cons pe_str (pa_cons (pe_c (cal_is_remark T) hr (by decide) (by rfl) (pa_cons (pe_ix ix_tup (pv 3) pe_int (fun _ _ => rfl)) pa_nil)) pa_nil))) pa_nil))) iop_ext)
      (pss_cons (ps_aug (i := 5) nd rfl (Or.inl rfl) (pe_lst (pa_cons (pe_tup (pa_cons pe_str (pa_cons (pe_and (pe_c (cal_is_integer T) hr (by decide) (by rfl) (pa_cons (pv 4) pa_nil)) (pe_one (pe_chain op_le op_le pe_int (pv 4) (pe_gc (by rfl) T.i_MOST_BLANKS)))) pa_nil))) (pa_cons (pe_tup (pa_cons pe_str (pa_cons (pe_callB call_isi (by rfl) T.b_isinstance PyProof.Rows.boot_isinstance (pa_cons (pe_ix ix_tup (pv 2) pe_int (fun _ _ => rfl)) (pa_cons (pe_bltn (v := .ty "bool") (by rfl) T.b_bool PyProof.Rows.boot_bool rfl) pa_nil))) pa_nil))) pa_nil))) iop_ext)
      (pss_cons (ps_setLc (i := 6) (own := [("name", 7), ("is_right", 8)]) (g := gTup _ 2 (gCons (gName 7) (gCons (gName 8) gNil))) rfl nd rfl rfl (sw_true rfl rfl rfl (by decide +kernel)) (pi_list (pv 5)) (blkOk_by (N := ["word", "parts", "flags", "remarks", "blanks", "checks", "wrong", "name", "is_right", "part"]) (sc := defScope d_fault_of.st) (by decide +kernel)) (fun _ _ _ _ _ => (pg_tup rfl (pgs_cons (pg_name (i := 7) nd rfl (Or.inl rfl)) (pgs_cons (pg_name (i := 8) nd rfl (Or.inl rfl)) pgs_nil)))) (fun _ _ _ _ _ => pts_one (pt_not (pt_val (pv 8)))) (fun _ _ _ _ _ => (pv 7)))
      (pss_one (ps_ret (pe_ifExp (pt_cmpR op_gt (pe_callB call_len_seq (by rfl) T.b_len PySem.boot_len (pa_cons (pv 6) pa_nil)) pe_int (nomark _)) (pe_ix ix_list (pv 6) pe_int (fun _ _ => rfl)) pe_non))))))))), ?_⟩
  -- if not is_name(word)
  refine ⟨_, rfl, d.word, rfl, ok.word, fun H1 s1 => ⟨_, rfl, iteF ?_⟩⟩
  -- if not is_sequence(parts) or ..
  refine ⟨_, rfl, pa, rfl, .inr ⟨_, SqTm s1 hp⟩, fun H2 s2 => ⟨_, rfl, ?_⟩⟩
  have t2 := s1.trans s2
  refine iteF ⟨_, rfl, pa, _, rfl, .inr (SqTm t2 hp), rfl, _, rfl, ?_⟩
  have e0 : decide (V.int ((d.parts.map V.str).length : Int) = V.int 0) = false := decide_eq_false fun z => by
    have z1 : ((d.parts.map V.str).length : Int) = 0 := V.int.inj z
    rw [List.length_map] at z1
    exact ok.ne (List.eq_nil_of_length_eq_zero (by omega))
  rw [e0]
  refine iteF ?_
  -- all([is_name(part) for part in parts])
  refine ⟨_, rfl, pa, rfl, ⟨_, SqTm t2 hp⟩, fun D hD => ?_⟩
  refine lc_go walk_tup (fun i acc H' => Same H2 H' ∧ acc = List.replicate i (V.bl true)) ⟨same_new hD, rfl⟩ (fun i acc H' _ p _ => SqTm (t2.trans p.1) hp) (fun i x acc Ha Hb hi hl ⟨p1, p2⟩ hD1 y => ?_) (fun acc H3 hl ⟨p1, p2⟩ hD1 => ?_)
  · obtain ⟨rfl, hx⟩ := y
    rw [List.getElem?_map] at hx
    obtain ⟨q, hq, rfl⟩ := Option.map_eq_some_iff.mp hx
    have hq8 : i < 100000 := by
      have := ok.few
      rw [List.length_map] at hi
      omega
    refine ⟨rfl, yes ⟨_, rfl, q, rfl, ok.parts q (List.mem_of_getElem? hq), fun Hc sc => ?_⟩⟩
    refine lc_put (sc _ _ hD1) hl hq8 ⟨(p1.trans sc).mut hD, ?_⟩
    rw [p2, List.replicate_succ']
  · refine ⟨D, List.replicate (d.parts.map V.str).length true, rfl, by rw [List.map_replicate, ← p2]; exact SqL.of hD1, ?_⟩
    have e : (List.replicate (d.parts.map V.str).length true).all id = true := by simp
    refine ⟨_, rfl, ?_⟩
    rw [e]
    refine iteF ?_
    have t3 := t2.trans p1
    have hf3 := t3 _ _ hf
    have hm3 := t3 _ _ hm
    -- checks = [..]
    refine ⟨_, rfl, fl, _, _, _, rfl, rfl, SqT.of hf3, at0, .bl d.broken, .ty "bool", .type "bool", .type "bool", true, rfl, .ty _, .base (.bl _), kit_ty kb_bool, sz (by decide), fun a1 n1 => ?_⟩
    generalize e1 : upd H3 a1 _ = Ha
    obtain ⟨sa, va⟩ : Same H3 Ha ∧ Ha a1 = some _ := by rw [← e1]; exact newAt n1
    refine ⟨_, rfl, fl, _, _, _, rfl, rfl, SqT.of (sa _ _ hf3), at1, .bl d.marked, .ty "bool", .type "bool", .type "bool", true, rfl, .ty _, .base (.bl _), kit_ty kb_bool, sz (by decide), fun a2 n2 => ?_⟩
    generalize e2 : upd Ha a2 _ = Hb
    obtain ⟨sb, vb⟩ : Same Ha Hb ∧ Hb a2 = some _ := by rw [← e2]; exact newAt n2
    refine ⟨sz (by simp), fun c nc => ?_⟩
    generalize e3 : upd Hb c _ = Hc
    obtain ⟨sc, vc⟩ : Same Hb Hc ∧ Hc c = some _ := by rw [← e3]; exact newAt nc
    have nc3 : H3 c = none := (sa.trans sb).free nc
    -- checks += [ahead, behind]
    refine ⟨_, rfl, ?_⟩
    have sc3 : Same H3 Hc := (sa.trans sb).trans sc
    refine ⟨_, rfl, rm, _, _, _, rfl, rfl, SqT.of (sc3 _ _ hm3), at0, d.ahead, rfl, ok.ahead, fun Hd sd => ⟨sz (by decide), fun a3 n3 => ?_⟩⟩
    generalize e4 : upd Hd a3 _ = He
    obtain ⟨se, ve⟩ : Same Hd He ∧ He a3 = some _ := by rw [← e4]; exact newAt n3
    have sce : Same Hc He := sd.trans se
    refine ⟨_, rfl, rm, _, _, _, rfl, rfl, SqT.of (sce _ _ (sc3 _ _ hm3)), at1, d.behind, rfl, ok.behind, fun Hf sf => ⟨sz (by decide), fun a4 n4 => ?_⟩⟩
    generalize e5 : upd Hf a4 _ = Hg
    obtain ⟨sg, vg⟩ : Same Hf Hg ∧ Hg a4 = some _ := by rw [← e5]; exact newAt n4
    refine ⟨sz (by simp), fun c2 nc2 => ?_⟩
    generalize e6 : upd Hg c2 _ = Hh
    obtain ⟨sh, vh⟩ : Same Hg Hh ∧ Hh c2 = some _ := by rw [← e6]; exact newAt nc2
    have sch : Same Hc Hh := ((sce.trans sf).trans sg).trans sh
    refine ⟨c, c2, _, _, rfl, rfl, sch _ _ vc, vh, sz (by simp), ?_⟩
    generalize e7 : upd Hh c _ = Hi
    have vi : Hi c = some (.lst [.ref a1, .ref a2, .ref a3, .ref a4]) := by rw [← e7]; exact upd_same
    have si : Same H3 Hi := by rw [← e7]; exact (sc3.trans sch).mut nc3
    have keep : ∀ a o, a ≠ c → Hh a = some o → Hi a = some o := fun a o ha z => by rw [← e7, upd_ne ha]; exact z
    have i1 : Hi a1 = some (.tup [.str "broken", .bl true]) := keep _ _ (ne_of_none va (sb.free nc)) (sch _ _ (sc _ _ (sb _ _ va)))
    have i2 : Hi a2 = some (.tup [.str "marked", .bl true]) := keep _ _ (ne_of_none vb nc) (sch _ _ (sc _ _ vb))
    have i3 : Hi a3 = some (.tup [.str "ahead", .bl true]) := keep _ _ (fun z => by subst z; rw [sd _ _ vc] at n3; cases n3) (sh _ _ (sg _ _ (sf _ _ ve)))
    have i4 : Hi a4 = some (.tup [.str "behind", .bl true]) := keep _ _ (fun z => by subst z; rw [(sce.trans sf) _ _ vc] at n4; cases n4) (sh _ _ vg)
    -- checks += [blanks, left]
    refine ⟨_, rfl, ?_⟩
    have b0 : decide ((0 : Int) ≤ d.blanks) = true := decide_eq_true ok.b0
    have b2 : decide (d.blanks ≤ 2) = true := decide_eq_true ok.b2
    refine ⟨_, rfl, d.blanks, rfl, true, rfl, iteT ⟨_, rfl, 0, d.blanks, rfl, rfl, _, rfl, ?_⟩⟩
    rw [b0]
    refine iteT ⟨d.blanks, 2, rfl, rfl, sz (by simp), fun a5 n5 => ?_⟩
    generalize e8 : upd Hi a5 _ = Hj
    obtain ⟨sj, vj⟩ : Same Hi Hj ∧ Hj a5 = some _ := by rw [← e8]; exact newAt n5
    refine ⟨_, rfl, fl, _, _, _, rfl, rfl, SqT.of (sj _ _ (si _ _ hf3)), at2, .bl d.left, .ty "bool", .type "bool", .type "bool", true, rfl, .ty _, .base (.bl _), kit_ty kb_bool, sz (by decide), fun a6 n6 => ?_⟩
    generalize e9 : upd Hj a6 _ = Hk
    obtain ⟨sk, vk⟩ : Same Hj Hk ∧ Hk a6 = some _ := by rw [← e9]; exact newAt n6
    refine ⟨sz (by simp), fun c3 nc3' => ?_⟩
    generalize e10 : upd Hk c3 _ = Hl
    obtain ⟨sl, vl⟩ : Same Hk Hl ∧ Hl c3 = some _ := by rw [← e10]; exact newAt nc3'
    have sil : Same Hi Hl := (sj.trans sk).trans sl
    refine ⟨c, c3, _, _, rfl, rfl, sil _ _ vi, vl, sz (by simp), ?_⟩
    generalize e11 : upd Hl c _ = Hm
    have vm : Hm c = some (.lst [.ref a1, .ref a2, .ref a3, .ref a4, .ref a5, .ref a6]) := by rw [← e11]; exact upd_same
    have sm : Same H3 Hm := by rw [← e11]; exact (si.trans sil).mut nc3
    have keep2 : ∀ a o, a ≠ c → Hl a = some o → Hm a = some o := fun a o ha z => by rw [← e11, upd_ne ha]; exact z
    have hnc : ∀ a ys, Hi a = some (.tup ys) → a ≠ c := fun a ys z => ne_of z vi (by intro q; cases q)
    have vj2 : Hj a5 = some (.tup [.str "blanks", .bl (decide (d.blanks ≤ 2))]) := vj
    rw [b2] at vj2
    have j5 : Hm a5 = some (.tup [.str "blanks", .bl true]) := keep2 _ _ (fun z => by subst z; rw [vi] at n5; cases n5) (sl _ _ (sk _ _ vj2))
    have j6 : Hm a6 = some (.tup [.str "left", .bl true]) := keep2 _ _ (fun z => by subst z; rw [sj _ _ vi] at n6; cases n6) (sl _ _ vk)
    have j1 := keep2 _ _ (hnc _ _ i1) (sil _ _ i1)
    have j2 := keep2 _ _ (hnc _ _ i2) (sil _ _ i2)
    have j3 := keep2 _ _ (hnc _ _ i3) (sil _ _ i3)
    have j4 := keep2 _ _ (hnc _ _ i4) (sil _ _ i4)
    have all : ∀ (i : Nat) x, ([.ref a1, .ref a2, .ref a3, .ref a4, .ref a5, .ref a6] : List V)[i]? = some x → ∃ a n, x = .ref a ∧ Hm a = some (.tup [.str n, .bl true]) := fun i x hx => by
      have hx' := List.mem_of_getElem? hx
      simp only [List.mem_cons, List.not_mem_nil, or_false] at hx'
      rcases hx' with rfl | rfl | rfl | rfl | rfl | rfl
      · exact ⟨_, _, rfl, j1⟩
      · exact ⟨_, _, rfl, j2⟩
      · exact ⟨_, _, rfl, j3⟩
      · exact ⟨_, _, rfl, j4⟩
      · exact ⟨_, _, rfl, j5⟩
      · exact ⟨_, _, rfl, j6⟩
    -- wrong = [name for name, is_right in checks if not is_right]
    refine ⟨_, rfl, c, rfl, ⟨_, SqL.of vm⟩, fun D2 hD2 => ?_⟩
    refine lc_go walk_list (fun i acc H' => Same Hm H' ∧ acc = []) ⟨same_new hD2, rfl⟩ (fun i acc H' _ p _ => SqL.of (p.1 _ _ vm)) (fun i x acc Hp Hq hi hl ⟨p1, p2⟩ hD3 y => ?_) (fun acc H5 hl ⟨p1, p2⟩ hD3 => ?_)
    · obtain ⟨rfl, hx⟩ := y
      obtain ⟨a, n, rfl, ha⟩ := all i x hx
      refine ⟨a, _, rfl, SqT.of (p1 _ _ ha), rfl, _, _, rfl, _, _, rfl, rfl, ?_⟩
      exact ⟨rfl, _, rfl, _, rfl, acc, Nat.le_succ_of_le hl, hD3, p1, p2⟩
    · subst p2
      refine ⟨_, rfl, D2, _, rfl, .inl (SqL.of hD3), _, _, rfl, rfl, _, rfl, ?_⟩
      exact k _ ((t3.trans sm).trans p1)
theorem cal_fault_of (T : Txt K mg) : Cal P w K mg base 3 "fault_of" (sp_fault_of K) [] := by
  obtain ⟨fd, F⟩ := T.d_fault_of
  exact mkCal F T.g_fault_of (bi_fault_of F) sc_fault_of (fun vs H Q E h => len_fault_of h) (body_fault_of T)
end
end Lt
set_option Elab.async false
set_option linter.all false
set_option maxRecDepth 100000
set_option maxHeartbeats 4000000
/-! a piece's rows -/
namespace Lt
open PySem PySem.Spec PyProof.Rows L2
open C8 (Cal Met Mak pe_c pe_mk pe_mt pe_mt0 pe_gc)
theorem lenA (a b : Str) : (a ++ b).length = a.length + b.length := Str.length_append a b
theorem len0 : Str.empty.length = 0 := rfl
theorem cut1 {x : V} {xs : List V} : cutV (x :: xs) (some 1) none = xs := by
  unfold cutV
  rw [HT.sIx_none, show HT.sIx (x :: xs).length 0 (some 1) = 1 from by rw [show (some (1 : Int)) = some ((1 : Nat) : Int) from rfl, HT.sIx_nat]; simp]
  simp
theorem cutInit {xs : List V} {v : V} : cutV (xs ++ [v]) none (some (-1)) = xs := by
  unfold cutV
  have e : HT.sIx (xs ++ [v]).length (xs ++ [v]).length (some (-1)) = xs.length := by
    show (if ((-1 : Int) < 0) then ((-1 : Int) + ((xs ++ [v]).length : Int)).toNat else min (-1 : Int).toNat (xs ++ [v]).length) = xs.length
    rw [if_pos (by decide), List.length_append]
    simp only [List.length_cons, List.length_nil]
    omega
  rw [e, HT.sIx_none]
  simp
theorem cutInit_ne {xs : List V} {v : V} : ¬ (HT.sIx (xs ++ [v]).length 0 none = 0 ∧ HT.sIx (xs ++ [v]).length (xs ++ [v]).length (some (-1)) = (xs ++ [v]).length) := fun z => by
  have z1 := z.2
  rw [show HT.sIx (xs ++ [v]).length (xs ++ [v]).length (some (-1)) = (if ((-1 : Int) < 0) then ((-1 : Int) + ((xs ++ [v]).length : Int)).toNat else min (-1 : Int).toNat (xs ++ [v]).length) from rfl, if_pos (by decide), List.length_append] at z1
  simp only [List.length_cons, List.length_nil] at z1
  omega
section
variable {P : Program} {w : World} {K : Fg} {mg : Str → Option Value} {base : Heap}
def sp_row_of (K : Fg) : Sp := fun vs H Q _ => ∃ (a : Addr) (ps : List Str), vs = [.ref a] ∧ SqT K H a (ps.map V.str) ∧ ps ≠ [] ∧ ps.length ≤ 8 ∧ (∀ p ∈ ps, nameOk p) ∧ ∀ z H', z.length ≤ 80 → Same H H' → Q (.str z) H'
theorem len_row_of {vs H Q E} (h : sp_row_of K vs H Q E) : vs.length = 1 := by
  obtain ⟨_, _, rfl, _⟩ := h
  rfl
theorem sc_row_of : FnScope ["parts", "found", "part"] ["parts"] (defScope d_row_of.st) := ⟨rfl, rfl, rfl, by decide +kernel, rfl, by decide +kernel, by decide +kernel⟩
theorem bi_row_of {K : Fg} {fd : FuncData} (F : FnD K d_row_of fd) : Binds K fd ["parts"] [] := FunD.bindsN F fun _ _ _ _ _ _ us hl => match us, hl with | [_], _ => rfl
theorem body_row_of (T : Txt K mg) : BodyOk P w K mg base 0 ["parts", "found", "part"] d_row_of (sp_row_of K) := by
  intro cdv A outer s H vs Q E hr h
  obtain ⟨a, ps, rfl, hp, hne, h8, hok, k⟩ := h
  have nd := sc_row_of.nd
  obtain ⟨q, r, rfl⟩ : ∃ q r, ps = q :: r := by
    cases ps with
    | nil => exact absurd rfl hne
    | cons q r => exact ⟨q, r, rfl⟩
  refine ⟨_, (pss_cons (ps_set (i := 1) nd rfl (Or.inl rfl) (pe_ix ix_tup (pv 0) pe_int (fun _ _ => rfl)))
      (pss_cons (ps_for PassesOwn.never rfl (pi_tup (pe_slice sl_tupA (pv 0) (po_some pe_int) po_none)) (pg_name (i := 2) nd rfl (Or.inl rfl)) (pss_one (ps_set (i := 1) nd rfl (Or.inl rfl) (pe_jn (.cons (pe_fmt (pv 1)) (.cons pe_str (.cons (pe_fmt (pv 2)) .nil)))))))
      (pss_one (ps_ret (pv 1))))), ?_⟩
  refine ⟨_, rfl, a, _, _, _, rfl, rfl, hp, at0, _, rfl, 1, rfl, a, _, rfl, hp, fun z => ?_, fun _ p np => ?_⟩
  · have z1 := z.1
    rw [show (some (1 : Int)) = some ((1 : Nat) : Int) from rfl, HT.sIx_nat] at z1
    simp only [List.map_cons, List.length_cons] at z1
    omega
  have e : cutV (V.str q :: r.map V.str) (some 1) none = r.map V.str := cut1
  have hp2 : (upd H p (.tup (cutV ((q :: r).map V.str) (some 1) none))) p = some (.tup (r.map V.str)) := by
    rw [upd_same]
    exact congrArg (fun l => some (HO.tup l)) e
  generalize e1 : upd H p _ = H1 at hp2 ⊢
  have s1 : Same H H1 := by rw [← e1]; exact same_new np
  have hr8 : r.length ≤ 7 := by simp only [List.length_cons] at h8; omega
  refine ⟨p, rfl, ⟨_, SqT.of hp2⟩, for_tup (xs := r.map V.str) (fun i σ H' => ∃ z v, σ = [some (.ref a), some (.str z), v] ∧ z.length ≤ 6 + 8 * i ∧ H' = H1) ⟨q, none, rfl, (hok q List.mem_cons_self).2.1, rfl⟩ (fun i σ H' _ ⟨_, _, _, _, e⟩ => by rw [e]; exact SqT.of hp2) ?_ ?_⟩
  · rintro i x σ H' hx ⟨z, v, rfl, hz, rfl⟩
    rw [List.getElem?_map] at hx
    obtain ⟨y, hy, rfl⟩ := Option.map_eq_some_iff.mp hx
    have hi : i < r.length := (List.getElem?_eq_some_iff.mp hy).1
    have hy6 := (hok y (List.mem_cons_of_mem _ (List.mem_of_getElem? hy))).2.1
    have lc : (", " : Str).length = 2 := by decide +kernel
    refine ⟨_, rfl, .inl ⟨z, rfl, sz (by omega), _, rfl, sz (by rw [lenA, len0]; omega), _, rfl, sz (by rw [lenA, lenA, len0, lc]; omega), _, rfl, .inl ⟨y, rfl, sz (by omega), _, rfl, sz (by rw [lenA, lenA, lenA, len0, lc]; omega), ?_⟩⟩⟩
    exact ⟨_, _, rfl, by rw [lenA, lenA, lenA, len0, lc]; omega, rfl⟩
  · rintro σ H' ⟨z, v, rfl, hz, rfl⟩
    rw [List.length_map] at hz
    exact ⟨_, rfl, k z _ (by omega) s1⟩
theorem cal_row_of (T : Txt K mg) : Cal P w K mg base 1 "row_of" (sp_row_of K) [] := by
  obtain ⟨fd, F⟩ := T.d_row_of
  exact mkCal F T.g_row_of (bi_row_of F) sc_row_of (fun vs H Q E h => len_row_of h) (body_row_of T)
/-- short texts -/
def Shorts (ys : List Str) (n : Nat) : Prop := ys.length ≤ n ∧ ∀ y ∈ ys, y.length ≤ 100
theorem Shorts.app {xs ys : List Str} {m n : Nat} (a : Shorts xs m) (b : Shorts ys n) : Shorts (xs ++ ys) (m + n) :=
  ⟨by rw [List.length_append]; have := a.1; have := b.1; omega, fun y hy => (List.mem_append.mp hy).elim (a.2 y) (b.2 y)⟩
theorem Shorts.le {ys : List Str} {m n : Nat} (a : Shorts ys m) (h : m ≤ n) : Shorts ys n := ⟨Nat.le_trans a.1 h, a.2⟩
theorem Shorts.one {y : Str} (h : y.length ≤ 100) : Shorts [y] 1 := ⟨Nat.le_refl _, fun z hz => by rw [List.mem_singleton.mp hz]; exact h⟩
theorem Shorts.none : Shorts [] 0 := ⟨Nat.le_refl _, fun z hz => by cases hz⟩
def sp_Piece_written (K : Fg) : Sp := fun vs H Q _ => ∃ (a : Addr) (d : PcD), vs = [.ref a] ∧ PcR K H a d ∧ d.ok ∧ ∀ p ys H', Shorts ys 15 → Same H H' → H' p = some (.lst (ys.map V.str)) → Q (.ref p) H'
theorem len_Piece_written {vs H Q E} (h : sp_Piece_written K vs H Q E) : vs.length = 1 := by
  obtain ⟨_, _, rfl, _⟩ := h
  rfl
theorem rem_len {z : Str} (h : z = "" ∨ nameOk z) : z.length ≤ 6 := by
  rcases h with rfl | h
  · exact Nat.zero_le _
  · exact h.2.1
theorem rep_flat {α : Type} (n : Nat) (x : α) : (List.replicate n [x]).flatten = List.replicate n x := by
  induction n with
  | zero => rfl
  | succ n ih => rw [List.replicate_succ, List.flatten_cons, ih, List.replicate_succ] <;> rfl
theorem sc_Piece_written : FnScope ["self", "found", "comma", "front", "end", "part"] ["self"] (defScope d_Piece_written.st) := ⟨rfl, rfl, rfl, by decide +kernel, rfl, by decide +kernel, by decide +kernel⟩
theorem bi_Piece_written {K : Fg} {fd : FuncData} (F : FnD K d_Piece_written fd) : Binds K fd ["self"] [] := FunD.bindsN F fun _ _ _ _ _ _ us hl => match us, hl with | [_], _ => rfl
set_option maxHeartbeats 8000000 in
theorem body_Piece_written (T : Txt K mg) : BodyOk P w K mg base 1 ["self", "found", "comma", "front", "end", "part"] d_Piece_written (sp_Piece_written K) := by
  intro cdv A outer s H vs Q E hr h
  obtain ⟨a, d, rfl, ⟨dx, pa, fs, e, hp, lw, lp, lb, lm, la, lh, ll, lf, _⟩, ok, k⟩ := h
  have nd := sc_Piece_written.nd
  refine ⟨_, (pss_cons (ps_set (i := 1) nd rfl (Or.inl rfl) (pe_op op_cat (pe_op op_rep (pe_lst (pa_cons pe_str pa_nil)) (pe_fld (pv 0) rfl)) (pe_ifExp (pt_cmpR op_ne (pe_fld (pv 0) rfl) pe_str (nomark _)) (pe_lst (pa_cons (pe_jn (.cons pe_str (.cons (pe_fmt (pe_fld (pv 0) rfl)) .nil))) pa_nil)) (pe_lst pa_nil))))
      (pss_cons (ps_par (i := 3) (j := 4) rfl nd rfl rfl (by decide) rfl rfl (pa_cons (pe_ifExp (pt_val (pe_fld (pv 0) rfl)) pe_str pe_str) (pa_cons (pe_ifExp (pt_cmpR op_ne (pe_fld (pv 0) rfl) pe_str (nomark _)) (pe_jn (.cons pe_str (.cons (pe_fmt (pe_fld (pv 0) rfl)) .nil))) pe_str) pa_nil)) (by rfl))
      (pss_cons (ps_set (i := 2) nd rfl (Or.inl rfl) (pe_ifExp (pt_val (pe_fld (pv 0) rfl)) pe_str pe_str))
      (pss_cons (ps_if (pt_not (pt_val (pe_fld (pv 0) rfl))) (pss_one (ps_ret (pe_lst (StX.pa_star (pv 1) (pa_cons (pe_jn (.cons (pe_fmt (pv 3)) (.cons (pe_fmt (pe_fld (pv 0) rfl)) (.cons pe_str (.cons (pe_fmt (pe_c (cal_row_of T) hr (by decide) (by rfl) (pa_cons (pe_fld (pv 0) rfl) pa_nil))) (.cons (pe_fmt (pv 2)) (.cons pe_str (.cons (pe_fmt (pv 4)) .nil)))))))) pa_nil))))) pss_nil)
      (pss_cons (ps_expr (pe_bm PySem.F.plainAttrs_list PySem.F.slot_list_append PySem.F.type_list_append mt_append (pv 1) (pa_cons (pe_jn (.cons (pe_fmt (pv 3)) (.cons (pe_fmt (pe_fld (pv 0) rfl)) (.cons pe_str .nil)))) pa_nil)))
      (pss_cons (ps_expr (pe_bm PySem.F.plainAttrs_list PySem.F.slot_list_extend PySem.F.type_list_extend mt_extend (pv 1) (pa_cons (pe_lc (own := [("part", 5)]) (g := gName 5) (tt := tYes) rfl nd (pi_tup (pe_slice sl_tupA (pe_fld (pv 0) rfl) po_none (po_some (pe_un un_neg pe_int)))) (blkOk_by (N := ["self", "found", "comma", "front", "end", "part"]) (sc := defScope d_Piece_written.st) (by decide +kernel)) (fun _ _ _ _ _ => (pg_name (i := 5) nd rfl (Or.inl rfl))) (fun _ _ _ _ _ => pts_nil) (fun _ _ _ _ _ => (pe_jn (.cons pe_str (.cons (pe_fmt (pv 5)) (.cons pe_str .nil)))))) pa_nil)))
      (pss_one (ps_ret (pe_lst (StX.pa_star (pv 1) (pa_cons (pe_jn (.cons pe_str (.cons (pe_fmt (pe_ix ix_tup (pe_fld (pv 0) rfl) (pe_un un_neg pe_int) (fun _ _ => rfl))) (.cons (pe_fmt (pv 2)) .nil)))) (pa_cons (pe_jn (.cons pe_str (.cons (pe_fmt (pv 4)) .nil))) pa_nil)))))))))))), ?_⟩
  have cl := T.c_Piece
  have c1 : ("# " : Str).length = 2 := by decide +kernel
  have c2 : ("  # " : Str).length = 4 := by decide +kernel
  have c3 : ("!" : Str).length = 1 := by decide +kernel
  have c4 : ("," : Str).length = 1 := by decide +kernel
  have c5 : ("(" : Str).length = 1 := by decide +kernel
  have c6 : (")" : Str).length = 1 := by decide +kernel
  have c7 : ("  " : Str).length = 2 := by decide +kernel
  have ca := rem_len ok.ahead
  have ch := rem_len ok.behind
  have cw := ok.word.2.1
  -- found
  refine ⟨sz (by simp), fun l1 n1 => ?_⟩
  have s1 := same_new (o := HO.lst [.str ""]) n1
  refine ⟨_, rfl, a, _, dx, _, _, rfl, s1 _ _ e, cl, T.n_Piece_blanks, ll, l1, d.blanks, _, rfl, rfl, upd_same, by have := ok.b0; omega, by have := ok.b2; omega, sz (by have := ok.b2; have := ok.b0; simp; omega), fun p2 n2 => ?_⟩
  generalize e2 : upd _ p2 _ = H2
  obtain ⟨s2', v2⟩ : Same (upd H l1 (.lst [.str ""])) H2 ∧ H2 p2 = some _ := by rw [← e2]; exact newAt n2
  have s2 := s1.trans s2'
  rw [rep_flat] at v2
  refine ⟨_, rfl, a, _, dx, _, _, rfl, s2 _ _ e, cl, T.n_Piece_ahead, la, rfl, _, rfl, ?_⟩
  refine ifE (fun v H' => ∃ b ys, v = .ref b ∧ Shorts ys 1 ∧ Same H2 H' ∧ H' b = some (.lst (ys.map V.str))) (fun _ Q q => ?_) (fun _ Q q => ?_) ?_
  · refine ⟨_, rfl, sz (by rw [lenA, len0, c1]; omega), _, rfl, a, _, dx, _, _, rfl, s2 _ _ e, cl, T.n_Piece_ahead, la, .inl ⟨d.ahead, rfl, sz (by omega), _, rfl, sz (by rw [lenA, lenA, len0, c1]; omega), ?_⟩⟩
    exact ⟨sz (by simp), fun b nb => q _ _ ⟨b, [_], rfl, .one (by rw [lenA, lenA, len0, c1]; omega), same_new nb, upd_same⟩⟩
  · exact ⟨sz (by simp), fun b nb => q _ _ ⟨b, [], rfl, ⟨by simp, fun y hy => by cases hy⟩, same_new nb, upd_same⟩⟩
  rintro v H3 ⟨b, ys, rfl, h1, s3, v3⟩
  have hb := ok.b2
  have hb0 := ok.b0
  refine ⟨p2, b, _, _, rfl, rfl, s3 _ _ v2, v3, sz (by rw [List.length_replicate, List.length_map]; have := h1.1; omega), fun f nf => ?_⟩
  generalize e4 : upd H3 f _ = H4
  obtain ⟨s4', v4⟩ : Same H3 H4 ∧ H4 f = some _ := by rw [← e4]; exact newAt nf
  have s4 := (s2.trans s3).trans s4'
  obtain ⟨zs, h2, v4⟩ : ∃ zs : List Str, Shorts zs 3 ∧ H4 f = some (.lst (zs.map V.str)) := by
    refine ⟨List.replicate d.blanks.toNat ("" : Str) ++ ys, ⟨?_, fun y hy => ?_⟩, ?_⟩
    · rw [List.length_append, List.length_replicate]
      have := h1.1
      omega
    · rcases List.mem_append.mp hy with hy | hy
      · rw [(List.mem_replicate.mp hy).2]
        decide +kernel
      · exact h1.2 y hy
    · rw [v4, List.map_append, List.map_replicate]
  -- front, end
  refine ⟨_, rfl, a, _, dx, _, _, rfl, s4 _ _ e, cl, T.n_Piece_left, lf, d.left, rfl, ?_⟩
  refine ifE (fun v H' => H' = H4 ∧ ∃ z : Str, v = .str z ∧ z.length ≤ 1) (fun _ Q q => ?_) (fun _ Q q => ?_) ?_
  · exact q _ _ ⟨rfl, _, rfl, Nat.le_of_eq c3⟩
  · exact q _ _ ⟨rfl, _, rfl, Nat.zero_le _⟩
  rintro _ H9 ⟨q9, z1, rfl, hz1⟩
  rw [q9]
  clear q9 H9
  refine ⟨_, rfl, a, _, dx, _, _, rfl, s4 _ _ e, cl, T.n_Piece_behind, lh, rfl, _, rfl, ?_⟩
  refine ifE (fun v H' => H' = H4 ∧ ∃ z : Str, v = .str z ∧ z.length ≤ 10) (fun _ Q q => ?_) (fun _ Q q => ?_) ?_
  · refine ⟨_, rfl, sz (by rw [lenA, len0, c2]; omega), _, rfl, a, _, dx, _, _, rfl, s4 _ _ e, cl, T.n_Piece_behind, lh, .inl ⟨d.behind, rfl, sz (by omega), _, rfl, sz (by rw [lenA, lenA, len0, c2]; omega), ?_⟩⟩
    exact q _ _ ⟨rfl, _, rfl, by rw [lenA, lenA, len0, c2]; omega⟩
  · exact q _ _ ⟨rfl, _, rfl, Nat.zero_le _⟩
  rintro _ H9 ⟨q9, z2, rfl, hz2⟩
  rw [q9]
  clear q9 H9
  refine ⟨_, _, rfl, ?_⟩
  -- comma
  refine ⟨_, rfl, a, _, dx, _, _, rfl, s4 _ _ e, cl, T.n_Piece_marked, lm, d.marked, rfl, ?_⟩
  refine ifE (fun v H' => H' = H4 ∧ ∃ z : Str, v = .str z ∧ z.length ≤ 1) (fun _ Q q => ?_) (fun _ Q q => ?_) ?_
  · exact q _ _ ⟨rfl, _, rfl, Nat.le_of_eq c4⟩
  · exact q _ _ ⟨rfl, _, rfl, Nat.zero_le _⟩
  rintro _ H9 ⟨q9, z3, rfl, hz3⟩
  rw [q9]
  clear q9 H9
  -- if not self.broken
  refine ⟨_, rfl, a, _, dx, _, _, rfl, s4 _ _ e, cl, T.n_Piece_broken, lb, d.broken, rfl, ?_⟩
  refine ite2 (fun _ => ?_) (fun _ => ?_)
  · refine ⟨_, rfl, f, _, rfl, .inr (SqL.of v4), ?_⟩
    refine ⟨_, rfl, .inl ⟨z1, rfl, sz (by omega), _, rfl, sz (by rw [lenA, len0]; omega), _, rfl, a, _, dx, _, _, rfl, s4 _ _ e, cl, T.n_Piece_word, lw, .inl ⟨d.word, rfl, sz (by omega), _, rfl, sz (by rw [lenA, lenA, len0]; omega), ?_⟩⟩⟩
    refine ⟨_, rfl, sz (by rw [lenA, lenA, lenA, len0, c5]; omega), _, rfl, a, _, dx, _, _, rfl, s4 _ _ e, cl, T.n_Piece_parts, lp, pa, d.parts, rfl, SqTm s4 hp, ok.ne, ok.few, ok.parts, fun z H5 hz s5 => ?_⟩
    refine .inl ⟨z, rfl, sz (by omega), _, rfl, sz (by rw [lenA, lenA, lenA, lenA, len0, c5]; omega), ?_⟩
    refine ⟨_, rfl, .inl ⟨z3, rfl, sz (by omega), _, rfl, sz (by rw [lenA, lenA, lenA, lenA, lenA, len0, c5]; omega), ?_⟩⟩
    refine ⟨_, rfl, sz (by rw [lenA, lenA, lenA, lenA, lenA, lenA, len0, c5, c6]; omega), _, rfl, .inl ⟨z2, rfl, sz (by omega), _, rfl, sz (by rw [lenA, lenA, lenA, lenA, lenA, lenA, lenA, len0, c5, c6]; omega), ?_⟩⟩
    refine ⟨sz (by rw [List.length_append, List.length_map]; have := h2.1; simp; omega), fun p np => ?_⟩
    refine k p (zs ++ [_]) _ ((h2.app (.one ?_)).le (by omega)) (s4.trans (s5.grow np)) (by rw [upd_same, List.map_append] <;> rfl)
    rw [lenA, lenA, lenA, lenA, lenA, lenA, lenA, len0, c5, c6]
    omega
  · obtain ⟨ini, lst, ep⟩ : ∃ ini lst, d.parts = ini ++ [lst] := ⟨d.parts.dropLast, d.parts.getLast ok.ne, (List.dropLast_concat_getLast ok.ne).symm⟩
    have hp4 : SqT K H4 pa (ini.map V.str ++ [V.str lst]) := by
      have z := SqTm s4 hp
      rw [ep, List.map_append] at z
      exact z
    have h8 : ini.length ≤ 7 := by
      have z := ok.few
      rw [ep, List.length_append] at z
      simp only [List.length_cons, List.length_nil] at z
      omega
    have hok : ∀ p ∈ ini ++ [lst], p.length ≤ 6 := fun p m => (ok.parts p (by rw [ep]; exact m)).2.1
    have hl6 : lst.length ≤ 6 := hok lst (by simp)
    have nf0 : H f = none := (s2.trans s3).free nf
    -- found.append
    refine ⟨_, rfl, .inl ⟨rfl, _, SqL.of v4⟩, ?_⟩
    refine ⟨_, rfl, .inl ⟨z1, rfl, sz (by omega), _, rfl, sz (by rw [lenA, len0]; omega), _, rfl, a, _, dx, _, _, rfl, s4 _ _ e, cl, T.n_Piece_word, lw, .inl ⟨d.word, rfl, sz (by omega), _, rfl, sz (by rw [lenA, lenA, len0]; omega), ?_⟩⟩⟩
    refine ⟨_, rfl, sz (by rw [lenA, lenA, lenA, len0, c5]; omega), f, _, _, rfl, rfl, v4, szl (by rw [List.length_map]; have := h2.1; omega), ?_⟩
    generalize e6 : upd H4 f _ = H6
    have v6 : ∃ ws : List Str, Shorts ws 4 ∧ H6 f = some (.lst (ws.map V.str)) := by
      refine ⟨zs ++ [Str.empty ++ z1 ++ d.word ++ ("(" : Str)], h2.app (.one ?_), ?_⟩
      · rw [lenA, lenA, lenA, len0, c5]
        omega
      · rw [← e6, upd_same, List.map_append]
        rfl
    obtain ⟨ws, h6, v6⟩ := v6
    have s6 : Same H H6 := by rw [← e6]; exact s4.mut nf0
    have npf : pa ≠ f ∨ True := .inr trivial
    have hp6 : SqT K H6 pa (ini.map V.str ++ [V.str lst]) := by
      have z := SqTm s6 hp
      rw [ep, List.map_append] at z
      exact z
    -- found.extend
    refine ⟨_, rfl, .inl ⟨rfl, _, SqL.of v6⟩, ?_⟩
    refine ⟨_, rfl, a, _, dx, _, _, rfl, s6 _ _ e, cl, T.n_Piece_parts, lp, 1, rfl, -1, rfl, pa, _, rfl, hp6, fun z => absurd z cutInit_ne, fun _ p np => ?_⟩
    have e7 : (upd H6 p (.tup (cutV (ini.map V.str ++ [V.str lst]) none (some (-1))))) p = some (.tup (ini.map V.str)) := by rw [upd_same, cutInit]
    generalize e8 : upd H6 p _ = H7 at e7 ⊢
    have s7' : Same H6 H7 := by rw [← e8]; exact same_new np
    have s7 := s6.trans s7'
    refine ⟨p, rfl, ⟨_, SqT.of e7⟩, fun D hD => ?_⟩
    refine lc_go walk_tup (fun i acc H' => Same H7 H' ∧ ∃ ys : List Str, acc = ys.map V.str ∧ ∀ y ∈ ys, y.length ≤ 100) ⟨same_new hD, [], rfl, fun y hy => by cases hy⟩ (fun i acc H' _ p _ => SqT.of (p.1 _ _ e7)) (fun i x acc Ha Hb hi hl ⟨p1, ys, p2, p3⟩ hD1 y => ?_) (fun acc H8 hl ⟨p1, ys, p2, p3⟩ hD1 => ?_)
    · obtain ⟨rfl, hx⟩ := y
      rw [List.getElem?_map] at hx
      obtain ⟨q, hq, rfl⟩ := Option.map_eq_some_iff.mp hx
      have hq6 : q.length ≤ 6 := hok q (List.mem_append_left _ (List.mem_of_getElem? hq))
      rw [List.length_map] at hi
      refine ⟨rfl, yes ⟨_, rfl, sz (by rw [lenA, len0, c7]; omega), _, rfl, .inl ⟨q, rfl, sz (by omega), _, rfl, sz (by rw [lenA, lenA, len0, c7]; omega), _, rfl, sz (by rw [lenA, lenA, lenA, len0, c7, c4]; omega), ?_⟩⟩⟩
      refine lc_put hD1 hl (by omega) ⟨p1.mut hD, ys ++ [_], by rw [p2, List.map_append] <;> rfl, fun y hy => (List.mem_append.mp hy).elim (p3 y) fun m => ?_⟩
      rw [List.mem_singleton.mp m, lenA, lenA, lenA, len0, c7, c4]
      omega
    · subst p2
      rw [List.length_map, List.length_map] at hl
      have v8 := p1 _ _ (s7' _ _ v6)
      refine ⟨f, D, _, _, rfl, rfl, v8, hD1, sz (by rw [List.length_map, List.length_map]; have := h6.1; omega), ?_⟩
      generalize e9 : upd H8 f _ = H9
      have s9 : Same H H9 := by rw [← e9]; exact (s7.trans p1).mut nf0
      have v9 : H9 f = some (.lst ((ws ++ ys).map V.str)) := by rw [← e9, upd_same, List.map_append]
      have h9 : Shorts (ws ++ ys) (4 + 7) := h6.app ⟨by omega, p3⟩
      have hp9 : SqT K H9 pa (ini.map V.str ++ [V.str lst]) := by
        have z := SqTm s9 hp
        rw [ep, List.map_append] at z
        exact z
      -- return
      refine ⟨_, rfl, f, _, rfl, .inr (SqL.of v9), ?_⟩
      refine ⟨_, rfl, sz (by rw [lenA, len0, c7]; omega), _, rfl, a, _, dx, _, _, rfl, s9 _ _ e, cl, T.n_Piece_parts, lp, 1, rfl, pa, _, _, _, rfl, rfl, hp9, atI_last _ _, ?_⟩
      refine .inl ⟨lst, rfl, sz (by omega), _, rfl, sz (by rw [lenA, lenA, len0, c7]; omega), _, rfl, .inl ⟨z3, rfl, sz (by omega), _, rfl, sz (by rw [lenA, lenA, lenA, len0, c7]; omega), ?_⟩⟩
      refine ⟨_, rfl, sz (by rw [lenA, len0, c6]; omega), _, rfl, .inl ⟨z2, rfl, sz (by omega), _, rfl, sz (by rw [lenA, lenA, len0, c6]; omega), ?_⟩⟩
      refine ⟨sz (by rw [List.length_append, List.length_map]; have := h9.1; simp only [List.length_cons, List.length_nil]; omega), fun p np => ?_⟩
      refine k p ((ws ++ ys) ++ [Str.empty ++ ("  " : Str) ++ lst ++ z3, Str.empty ++ (")" : Str) ++ z2]) _ ((h9.app (n := 2) ⟨by simp, fun y hy => ?_⟩).le (by omega)) (s9.grow np) (by rw [upd_same]; simp only [List.map_append, List.map_cons, List.map_nil])
      simp only [List.mem_cons, List.not_mem_nil, or_false] at hy
      rcases hy with rfl | rfl
      · rw [lenA, lenA, lenA, len0, c7]
        omega
      · rw [lenA, lenA, len0, c6]
        omega
theorem met_Piece_written (T : Txt K mg) : Met P w K mg base 2 (ga K "Piece") "written" (sp_Piece_written K) [] := by
  obtain ⟨fd, F⟩ := T.d_Piece_written
  exact mkMet T.c_Piece T.m_Piece_written F (bi_Piece_written F) sc_Piece_written (fun vs H Q E h => len_Piece_written h) (body_Piece_written T)
end
end Lt
set_option Elab.async false
set_option linter.all false
set_option maxRecDepth 100000
set_option maxHeartbeats 4000000
/-! a piece made; its length, what is told of it -/
namespace Lt
open PySem PySem.Spec PyProof.Rows L2
open C8 (Cal Met Mak pe_c pe_mk pe_mt pe_mt0 pe_gc)
theorem sum_le {ys : List Str} {n : Nat} (h : ∀ y ∈ ys, y.length ≤ n) : (ys.map (·.length)).sum ≤ ys.length * n := by
  induction ys with
  | nil => simp
  | cons y r ih =>
    have h1 := ih fun z m => h z (List.mem_cons_of_mem _ m)
    have h2 := h y List.mem_cons_self
    simp only [List.map_cons, List.sum_cons, List.length_cons, Nat.succ_mul]
    omega
theorem join_le {sep : Str} {ys : List Str} {n : Nat} (h : ∀ y ∈ ys, y.length ≤ n) : (Txt.join sep ys).length ≤ ys.length * n + ys.length * sep.length := by
  rw [TL.join_eq]
  have h1 := StrLaws.join_length_le sep ys
  have h2 := sum_le h
  omega
def pcF8 (d : PcD) (pa : Addr) : List (Str × V) :=
  [("word", .str d.word), ("parts", .ref pa), ("broken", .bl d.broken), ("marked", .bl d.marked), ("ahead", .str d.ahead), ("behind", .str d.behind), ("blanks", .int d.blanks), ("left", .bl d.left)]
section
variable {P : Program} {w : World} {K : Fg} {mg : Str → Option Value} {base : Heap}
def pcArgs (d : PcD) (pa : Addr) : List V := [.str d.word, .ref pa, .bl d.broken, .bl d.marked, .str d.ahead, .str d.behind, .int d.blanks, .bl d.left]
def sp_Piece_init (K : Fg) : Sp := fun vs H Q _ => ∃ (p dx pa : Addr) (d : PcD), vs = .ref p :: pcArgs d pa ∧ H p = some (.ins (ga K "Piece") dx []) ∧ SqT K H pa (d.parts.map V.str) ∧ d.ok ∧
  ∀ H' z, z.length ≤ 2000 → (∀ b o, b ≠ p → H b = some o → H' b = some o) → H' p = some (.ins (ga K "Piece") dx (pcF d pa z)) → Q .non H'
theorem len_Piece_init {vs H Q E} (h : sp_Piece_init K vs H Q E) : vs.length = 9 := by
  obtain ⟨_, _, _, _, rfl, _⟩ := h
  rfl
theorem sc_Piece_init : FnScope ["self", "word", "parts", "broken", "marked", "ahead", "behind", "blanks", "left", "fault"] ["self", "word", "parts", "broken", "marked", "ahead", "behind", "blanks", "left"] (defScope d_Piece_init.st) := ⟨rfl, rfl, rfl, by decide +kernel, rfl, by decide +kernel, by decide +kernel⟩
theorem bi_Piece_init {K : Fg} {fd : FuncData} (F : FnD K d_Piece_init fd) : Binds K fd ["self", "word", "parts", "broken", "marked", "ahead", "behind", "blanks", "left"] [] := by
  obtain ⟨ds, r, b⟩ := FunD.binds1 (ps := ["self", "word", "parts", "broken", "marked", "ahead", "behind", "blanks", "left"]) F 9 6 (by show ([_, _, _, _, _, _] : List V) ≠ []; exact List.cons_ne_nil _ _) rfl (fun _ _ _ _ _ _ _ us its hl hi => match us, hl, its, hi with | [_, _, _, _, _, _, _, _, _], _, [_, _, _, _, _, _], _ => ⟨_, rfl, by kernel_rfl⟩)
  cases r
  exact b
theorem body_Piece_init (T : Txt K mg) : BodyOk P w K mg base 3 ["self", "word", "parts", "broken", "marked", "ahead", "behind", "blanks", "left", "fault"] d_Piece_init (sp_Piece_init K) := by
  intro cdv A outer s H vs Q E hr h
  obtain ⟨p, dx, pa, d, rfl, e, hp, ok, k⟩ := h
  have nd := sc_Piece_init.nd
  refine ⟨_, (pss_cons (ps_set (i := 9) nd rfl (Or.inl rfl) (pe_c (cal_fault_of T) hr (by decide) (by rfl) (pa_cons (pv 1) (pa_cons (pv 2) (pa_cons (pe_tup (pa_cons (pv 3) (pa_cons (pv 4) (pa_cons (pv 8) pa_nil)))) (pa_cons (pe_tup (pa_cons (pv 5) (pa_cons (pv 6) pa_nil))) (pa_cons (pv 7) pa_nil)))))))
      (pss_cons (ps_if (pt_cmpR op_notN (pv 9) pe_non (nomark _)) (pss_one ps_never) pss_nil)
      (pss_cons (ps_fld (pv 0) (pv 1) rfl)
      (pss_cons (ps_fld (pv 0) (pe_callTy call_tuple_of (by rfl) T.b_tuple PyProof.Rows.boot_tuple (pa_cons (pv 2) pa_nil)) rfl)
      (pss_cons (ps_fld (pv 0) (pv 3) rfl)
      (pss_cons (ps_fld (pv 0) (pv 4) rfl)
      (pss_cons (ps_fld (pv 0) (pv 5) rfl)
      (pss_cons (ps_fld (pv 0) (pv 6) rfl)
      (pss_cons (ps_fld (pv 0) (pv 7) rfl)
      (pss_cons (ps_fld (pv 0) (pv 8) rfl)
      (pss_one (ps_fld (pv 0) (pe_join pe_str (pe_mt0 (met_Piece_written T) hr (by decide) (pv 0))) rfl)))))))))))), ?_⟩
  have cl := T.c_Piece
  refine ⟨_, rfl, _, rfl, _, rfl, _, rfl, _, rfl, sz (by simp), fun t1 n1 => ?_⟩
  generalize e1 : upd H t1 _ = H1
  obtain ⟨s1, v1⟩ : Same H H1 ∧ H1 t1 = some _ := by rw [← e1]; exact newAt n1
  refine ⟨_, rfl, _, rfl, sz (by simp), fun t2 n2 => ?_⟩
  generalize e2 : upd H1 t2 _ = H2
  obtain ⟨s2, v2⟩ : Same H1 H2 ∧ H2 t2 = some _ := by rw [← e2]; exact newAt n2
  refine ⟨_, rfl, d, pa, t1, t2, rfl, ok, SqTm (s1.trans s2) hp, s2 _ _ v1, v2, fun H3 s3 => ?_⟩
  have s := (s1.trans s2).trans s3
  refine ⟨_, rfl, rfl, _, rfl, iteNS rfl ?_⟩
  have e3 := s _ _ e
  refine ⟨_, rfl, _, rfl, p, _, dx, _, rfl, e3, cl, T.n_Piece_word, by simp, ?_⟩
  refine ⟨_, rfl, pa, _, rfl, .inr ⟨SqT_i (SqTm s hp) e3, _, rfl, p, _, dx, _, rfl, upd_same, cl, T.n_Piece_parts, lt1000 rfl, ?_⟩⟩
  refine ⟨_, rfl, _, rfl, p, _, dx, _, rfl, upd_same, cl, T.n_Piece_broken, lt1000 rfl, ?_⟩
  refine ⟨_, rfl, _, rfl, p, _, dx, _, rfl, upd_same, cl, T.n_Piece_marked, lt1000 rfl, ?_⟩
  refine ⟨_, rfl, _, rfl, p, _, dx, _, rfl, upd_same, cl, T.n_Piece_ahead, lt1000 rfl, ?_⟩
  refine ⟨_, rfl, _, rfl, p, _, dx, _, rfl, upd_same, cl, T.n_Piece_behind, lt1000 rfl, ?_⟩
  refine ⟨_, rfl, _, rfl, p, _, dx, _, rfl, upd_same, cl, T.n_Piece_blanks, lt1000 rfl, ?_⟩
  refine ⟨_, rfl, _, rfl, p, _, dx, _, rfl, upd_same, cl, T.n_Piece_left, lt1000 rfl, ?_⟩
  simp only [upd_upd]
  generalize e4 : upd H3 p _ = H4
  have v4 : H4 p = some (.ins (ga K "Piece") dx (pcF8 d pa)) := by rw [← e4, upd_same] <;> rfl
  have k4 : ∀ b o, b ≠ p → H3 b = some o → H4 b = some o := fun b o hb z => by rw [← e4, upd_ne hb]; exact z
  have hp4 : SqT K H4 pa (d.parts.map V.str) := by rw [← e4]; exact SqT_i (SqTm s hp) e3
  refine ⟨⟨_, rfl⟩, _, rfl, p, dx, _, rfl, v4, rfl, p, d, rfl, ⟨dx, pa, _, v4, hp4, rfl, rfl, rfl, rfl, rfl, rfl, rfl, rfl, rfl, rfl, rfl⟩, ok, fun q ys H5 hs s5 hq => ?_⟩
  have h1 := sum_le hs.2
  have h2 := hs.1
  have cn : ("\n" : Str).length = 1 := by decide +kernel
  refine ⟨_, q, ys, rfl, rfl, .inl (SqL.of hq), by rw [cn]; omega, _, rfl, p, _, dx, _, rfl, s5 _ _ v4, cl, T.n_Piece_text, lt1000 rfl, ?_⟩
  refine k _ (Txt.join "\n" ys) ?_ (fun b o hb z => ?_) (by rw [upd_same] <;> rfl)
  · have h3 := join_le (sep := "\n") hs.2
    rw [cn] at h3
    omega
  · rw [upd_ne hb]
    exact s5 _ _ (k4 _ _ hb (s _ _ z))
theorem mak_Piece (T : Txt K mg) : Mak P w K mg base 4 "Piece" (ga K "Piece") (sp_Piece_init K) [] := by
  obtain ⟨fd, F⟩ := T.d_Piece_init
  exact mkMak T.k_Piece T.g_Piece F (bi_Piece_init F) sc_Piece_init (fun vs H Q E h => len_Piece_init h) (body_Piece_init T)
end
end Lt
set_option Elab.async false
set_option linter.all false
set_option maxRecDepth 100000
set_option maxHeartbeats 4000000
/-! Rules: match over texts; with; repr of a bool; len, str of own instances; a def in a slot; dict.update. -/
namespace Lt
open PySem PySem.Spec PyProof.Rows L2
open C8 (Cal Met Mak pe_c pe_mk pe_mt pe_mt0 pe_gc)
/-! ### a def called anywhere below the body -/
theorem run_in {X : Cx} {A : Around} {k : Nat} {f : Addr} {fd : FuncData} {ps : List Str} {sp : Sp} {E : XK} {pins : List (Addr × Obj)} {σ : L2.St} {H : Hp} {s : Shared} {us : List Value} {vs : List V} {Q : VK} {Ex : Value → Shared → Prop} (fr : A.frames = X.A.frames) (hr : Room k A)
    (F : FnOk X.prog X.w X.K X.mg X.base CX0 k f fd ps sp) (hb : Binds X.K fd ps []) (I : Inv X pins σ H s) (r : Vals vs us) (h : sp vs H Q E) : wpAny (model X.prog X.w) A (call (.ref f) us) (EP X pins σ Q) Ex s := by
  have e0 : Env0 X.prog X.w X.K X.mg X.base A X.stack s H := by
    have e := I.env0
    exact ⟨by rw [fr]; exact e.frames, e.mod, e.bs, e.bsz, e.funs, e.frf, e.hok, e.bare⟩
  have hl : (us ++ []).length = ps.length := by rw [List.append_nil, ← r.length]; exact F.len _ _ _ _ h
  have b := hb s us I.kIn hl
  rw [List.append_nil] at b
  refine wpAny_call (codeAny_mono (F.run A X.stack s H ⟨us, []⟩ us vs Q E hr e0 b r h) fun r s' hq => ?_)
  cases r with
  | error e => exact False.elim hq
  | ok fl =>
    cases fl with
    | ret u => exact I.after hq
    | next => exact False.elim hq
    | brk => exact False.elim hq
    | cont => exact False.elim hq
theorem inst_of {X : Cx} {pins : List (Addr × Obj)} {σ : L2.St} {H : Hp} {s : Shared} {a C dx : Addr} {fs : List (Str × V)} (I : Inv X pins σ H s) (h : H a = some (.ins C dx fs)) : ∃ ox od, PySem.W.InstAt s.heap a ox C od := by
  obtain ⟨mA, O, _⟩ := ins_get I.hok h
  obtain ⟨od, J, _⟩ := O.look
  exact ⟨_, _, J⟩
theorem call_isiK {X : Cx} (K : Fg) (h : X.K = K) : CallR X (.builtin "isinstance") (rIsi K) := h ▸ call_isi
/-! ### repr of a bool -/
theorem cr_reprB {X : Cx} : CallR X (.builtin "repr") (fun xs H Q => ∃ b : Bool, xs = [.bl b] ∧ Q (.str (if b then "True" else "False")) H) := by
  intro pins s σ H xs us Q I r h
  obtain ⟨b, rfl, q⟩ := h
  obtain ⟨u, rfl, ru⟩ := vals1 r
  cases (show u = Value.bool b from ru)
  exact PySem.P.repr_of_bool ⟨.str (if b then "True" else "False"), H, I.tok _, ⟨_, rfl⟩, q⟩
/-! ### len, str of own instances -/
section
variable {X : Cx} {j k : Nat} {C : Addr} {sp : Sp} {pins : List (Addr × Obj)} {σ : L2.St} {H : Hp} {s : Shared}
theorem call_lenM (c : Met X.prog X.w X.K X.mg X.base k C "__len__" sp []) (hr : Room j X.A) (hk : k + 1 ≤ j) :
    CallR X (.builtin "len") (fun xs H Q => ∃ a dx fs, xs = [.ref a] ∧ H a = some (.ins C dx fs) ∧ sp [.ref a] H (fun v H' => ∃ n : Nat, v = .int n ∧ n ≤ 100000 ∧ Q (.int n) H') E0) := by
  intro pins s σ H xs us Q I r h
  obtain ⟨a, dx, fs, rfl, e, q⟩ := h
  obtain ⟨u, rfl, ru⟩ := vals1 r
  cases (show u = Value.ref a from ru)
  obtain ⟨f, fd, ps, ds, cl, me, F, hb, hd⟩ := c.ex
  cases hd
  obtain ⟨ox, od, J⟩ := inst_of I e
  obtain ⟨m, hF⟩ := I.fr
  refine PySem.W.len_K hF I.ok.mod.kin J me.at_ me.fn (wpAny_mono (run_in (A := X.A.in1) (us := [.ref a]) (vs := [.ref a]) rfl (hr.mono hk).in1 F hb I (.cons rfl .nil) q) (fun v s' z => ?_) fun _ _ z => z)
  obtain ⟨v', H', I', rv, n, rfl, hn, q'⟩ := z
  obtain ⟨t, rfl⟩ := rv
  refine ⟨⟨Int.natCast_nonneg _, ?_⟩, .int n, H', I'.tok _, ⟨_, rfl⟩, q'⟩
  have e2 : (2 : Int) ^ 63 = 9223372036854775808 := by decide
  omega
theorem call_strM (c : Met X.prog X.w X.K X.mg X.base k C "__str__" sp []) (hr : Room j X.A) (hk : k + 2 ≤ j) :
    CallR X (.type "str") (fun xs H Q => ∃ a dx fs, xs = [.ref a] ∧ H a = some (.ins C dx fs) ∧ sp [.ref a] H (fun v H' => ∃ z, v = .str z ∧ Q (.str z) H') E0) := by
  intro pins s σ H xs us Q I r h
  obtain ⟨a, dx, fs, rfl, e, q⟩ := h
  obtain ⟨u, rfl, ru⟩ := vals1 r
  cases (show u = Value.ref a from ru)
  obtain ⟨f, fd, ps, ds, cl, me, F, hb, hd⟩ := c.ex
  cases hd
  obtain ⟨ox, od, J⟩ := inst_of I e
  have r2 : Room k X.A.in1.in1 := (hr.mono hk).in1.in1
  refine PySem.W.kso_call r2.units0 I.kIn J me.at_ me.fn (wpAny_mono (run_in (A := X.A.in1.in1) (us := [.ref a]) (vs := [.ref a]) rfl r2 F hb I (.cons rfl .nil) q) (fun v s' z => ?_) fun _ _ z => z)
  obtain ⟨v', H', I', rv, z, rfl, q'⟩ := z
  obtain ⟨t, rfl⟩ := rv
  exact ⟨.str z, H', I', ⟨_, rfl⟩, q'⟩
end
/-! ### a def in a slot -/
theorem pe_wk {X : Cx} {j k i : Nat} {g : Addr} {x y : Str} {sp : Sp} {e : Expr} {es : List Expr} {t : TA} {p pos : Pos} (c : Cal X.prog X.w X.K X.mg X.base k x sp []) (hm : X.mg x = some (.ref g)) (hr : Room j X.A) (hk : k ≤ j) (hN : X.N[i]? = some y) (hv : Vis X.env.scope y) (ha : PA X (e :: es) t)
    (hdb : (y == ("__debug__" : Str)) = false := by decide) (hcd : (y == ("__classdict__" : Str)) = false := by decide)
    (he : starEach (e :: es) X.env = (false, eval e X.env) :: starEach es X.env := by rfl) (hpl : (backTo pos (starEach es X.env)).any (·.1) = false := by rfl) : PE X (.Call (.Name y p) (e :: es) [] pos) (tCallL i g sp [] E0 t) := by
  obtain ⟨f, fd, ps, ds, F, e1, kp, hb, hd⟩ := c.ex
  cases hd
  rw [hm] at e1
  cases e1
  exact pe_callL F (hr.mono hk) hN hv kp hb .nil (fun _ _ _ _ _ _ _ z => z.elim) ha hdb hcd he hpl
/-! ### match over texts -/
inductive PtL : List Pattern → List Str → Prop
  | nil : PtL [] []
  | cons {z : Str} {j : Nat} {p1 p2 : Pos} {ps : List Pattern} {zs : List Str} (r : PtL ps zs) : PtL (.MatchValue (.Constant (.str z) j p1) p2 :: ps) (z :: zs)
inductive PtS : Pattern → List Str → Prop
  | val {z : Str} {j : Nat} {p1 p2 : Pos} : PtS (.MatchValue (.Constant (.str z) j p1) p2) [z]
  | or {ps : List Pattern} {pos : Pos} {zs : List Str} (h : PtL ps zs) : PtS (.MatchOr ps pos) zs
inductive PCs (X : Cx) : List MatchCase → List (List Str × TS) → Prop
  | nil : PCs X [] []
  | cons {p : Pattern} {zs : List Str} {body : List Stmt} {t : TS} {rest : List MatchCase} {l : List (List Str × TS)} (hp : PtS p zs) (hb : PSs X body t) (r : PCs X rest l) : PCs X (⟨p, none, body⟩ :: rest) ((zs, t) :: l)
def tCases : List (List Str × TS) → Str → TS
  | [], _, D, σ, H => D.nx σ H
  | (zs, t) :: l, z, D, σ, H => if z ∈ zs then t D σ H else tCases l z D σ H
def tMatch (te : TE) (l : List (List Str × TS)) : TS := fun D σ H => te σ H fun x H1 => ∃ z, x = .str z ∧ tCases l z D σ H1
section
variable {X : Cx} {pins : List (Addr × Obj)} {σ : L2.St} {H : Hp} {s : Shared}
theorem match_val {z y : Str} {tk : Tok} {j : Nat} {p1 p2 : Pos} {R : Option (List (Str × Value)) → Shared → Prop} (I : Inv X pins σ H s) (hy : ∀ s', Inv X pins σ H s' → z = y → R (some []) s') (hn : ∀ s', Inv X pins σ H s' → z ≠ y → R none s') :
    wpAny (model X.prog X.w) X.A (matchPattern (.MatchValue (.Constant (.str y) j p1) p2) X.env (.str z tk)) R X.xe s := by
  refine wpAny_matchPattern_Value (thn (pe_str.run pins s σ H (fun v H' => v = .str y ∧ H' = H) I ⟨rfl, rfl⟩) fun u s1 ⟨v, H1, I1, rv, e1, e2⟩ => ?_)
  subst e1 e2
  refine thn (op_eq pins s1 σ H1 (.str z) (.str y) (.str z tk) u (fun v H' => v = .bl (decide (V.str z = V.str y)) ∧ H' = H1) I1 ⟨tk, rfl⟩ rv ⟨rfl, rfl, rfl⟩) fun c s2 ⟨v, H2, I2, rc, e1, e2⟩ => ?_
  subst e1 e2
  cases rc
  refine wpAny_truthy_bool ?_
  by_cases e : z = y
  · rw [decide_eq_true (by rw [e])]
    exact hy s2 I2 e
  · rw [decide_eq_false (fun q => e (V.str.inj q))]
    exact hn s2 I2 e
theorem match_first {z : Str} {tk : Tok} {R : Option (List (Str × Value)) → Shared → Prop} : ∀ {ps : List Pattern} {zs : List Str} (_ : PtL ps zs) {s : Shared} (_ : Inv X pins σ H s) (_ : ∀ s', Inv X pins σ H s' → z ∈ zs → R (some []) s') (_ : ∀ s', Inv X pins σ H s' → ¬ z ∈ zs → R none s'),
    wpAny (model X.prog X.w) X.A (matchFirst ps X.env (.str z tk)) R X.xe s
  | _, _, .nil, s, I, hy, hn => wpAny_matchFirst_nil (hn s I (by simp))
  | _, _, .cons (z := y) (zs := zs) r, s, I, hy, hn => wpAny_matchFirst_cons (match_val I (fun s' I' e => hy s' I' (by rw [e]; exact List.mem_cons_self)) fun s' I' e =>
      match_first r I' (fun s2 I2 m => hy s2 I2 (List.mem_cons_of_mem _ m)) fun s2 I2 m => hn s2 I2 fun q => (List.mem_cons.mp q).elim e m)
theorem match_pat {p : Pattern} {z : Str} {tk : Tok} {zs : List Str} {R : Option (List (Str × Value)) → Shared → Prop} (hp : PtS p zs) (I : Inv X pins σ H s) (hy : ∀ s', Inv X pins σ H s' → z ∈ zs → R (some []) s') (hn : ∀ s', Inv X pins σ H s' → ¬ z ∈ zs → R none s') :
    wpAny (model X.prog X.w) X.A (matchPattern p X.env (.str z tk)) R X.xe s := by
  cases hp with
  | val => exact match_val I (fun s' I' e => hy s' I' (by rw [e]; exact List.mem_cons_self)) fun s' I' e => hn s' I' fun q => e (List.mem_singleton.mp q)
  | or h =>
    refine wpAny_matchPattern_Or (match_first h I (fun s' I' m => ?_) fun s' I' m => hn s' I' m)
    have nb : ∀ l : List Str, (l.filterMap fun n => (List.lookup n ([] : List (Str × Value))).map fun x => (n, x)) = [] := fun l => by
      induction l with
      | nil => rfl
      | cons a r ih =>
        rw [List.filterMap_cons]
        exact ih
    show R (some ((namesOfAll (_ : List Pattern)).filterMap fun n => (List.lookup n ([] : List (Str × Value))).map fun x => (n, x))) s'
    rw [nb]
    exact hy s' I' m
theorem match_cases {D : Ends} {z : Str} {tk : Tok} : ∀ {cs : List MatchCase} {l : List (List Str × TS)} (_ : PCs X cs l) {first : Bool} {s : Shared} (_ : Inv X pins σ H s) (_ : tCases l z D σ H), wpAny (model X.prog X.w) X.A (matchCases cs X.env (.str z tk) first) (SP X pins D) X.xe s
  | _, _, .nil, _, s, I, h => wpAny_matchCases_nil ⟨σ, H, I, h⟩
  | _, _, .cons (zs := zs) (t := t) (l := l) hp hb r, _, s, I, h => by
    have h : if z ∈ zs then t D σ H else tCases l z D σ H := h
    refine wpAny_matchCases_cons (match_pat hp I (fun s' I' m => ?_) fun s' I' m => ?_)
    · rw [if_pos m] at h
      exact wpAny_assignInOrder_none (hb.run pins s' σ H D I' h)
    · rw [if_neg m] at h
      exact match_cases r I' h
theorem ps_match {e : Expr} {te : TE} {cs : List MatchCase} {l : List (List Str × TS)} {pos : Pos} (he : PE X e te) (hc : PCs X cs l) : PS X (.Match e cs pos) (tMatch te l) := by
  refine ⟨fun pins s σ H D I h => wpAny_Match (thn (he.run pins s σ H _ I h) fun u s1 ⟨x, H1, I1, r, z, ex, q⟩ => ?_)⟩
  subst ex
  obtain ⟨tk, rfl⟩ := r
  exact match_cases hc I1 q
end
/-! ### with -/
def atExit (spX : Sp) (a : Addr) (P : Hp → Prop) (H : Hp) : Prop := spX [.ref a, .non, .non, .non] H (fun _ H' => P H') E0
def tWith (C : Addr) (spE spX : Sp) (te : TE) (tb : TS) : TS := fun D σ H => te σ H fun x H1 => ∃ a dx fs, x = .ref a ∧ H1 a = some (.ins C dx fs) ∧ spE [.ref a] H1 (fun _ H2 =>
  tb { nx := fun σ' H3 => atExit spX a (D.nx σ') H3, rt := fun v H3 => atExit spX a (D.rt v) H3, bk := fun σ' H3 => atExit spX a (D.bk σ') H3, ct := fun σ' H3 => atExit spX a (D.ct σ') H3 } σ H2) E0
theorem ps_with {X : Cx} {j k k2 : Nat} {C : Addr} {spE spX : Sp} {e : Expr} {te : TE} {body : List Stmt} {tb : TS} {pos : Pos} (cE : Met X.prog X.w X.K X.mg X.base k C "__enter__" spE []) (cX : Met X.prog X.w X.K X.mg X.base k2 C "__exit__" spX []) (hr : Room j X.A) (h1 : k ≤ j) (h2 : k2 ≤ j)
    (he : PE X e te) (hb : PSs X body tb) (hx : X.xe = fun _ _ => False := by rfl) : PS X (.With [⟨e, none⟩] body pos) (tWith C spE spX te tb) := by
  refine ⟨fun pins s σ H D I h => PySem.W.kw_exec0 (thn (he.run pins s σ H _ I h) fun u s1 ⟨x, H1, I1, r, a, dx, fs, ex, ea, q⟩ => ?_)⟩
  subst ex
  cases (show u = Value.ref a from r)
  obtain ⟨f, fd, ps, ds, cl, me, F, bb, hd⟩ := cE.ex
  cases hd
  obtain ⟨f2, fd2, ps2, ds2, cl2, me2, F2, bb2, hd2⟩ := cX.ex
  cases hd2
  obtain ⟨ox, od, J⟩ := inst_of I1 ea
  obtain ⟨m, hF⟩ := I1.fr
  refine PySem.W.kw_in0 hF I1.ok.mod.kin J me.at_ me.fn me2.at_ me2.fn (thn (run_in (us := [.ref a]) (vs := [.ref a]) rfl (hr.mono h1) F bb I1 (.cons rfl .nil) q) fun v s2 ⟨v2, H2, I2, rv, q2⟩ => ?_)
  have hb2 := hb.run pins s2 σ H2 _ I2 q2
  rw [hx] at hb2
  have out : ∀ {σ' : L2.St} {H3 : Hp} {s3 : Shared} {P : Hp → Prop} {R : Shared → Prop}, Inv X pins σ' H3 s3 → atExit spX a P H3 → (∀ H4 s4, Inv X pins σ' H4 s4 → P H4 → R s4) →
      wpAny (model X.prog X.w) X.A (call (.ref f2) [.ref a, .none, .none, .none]) (fun _ s' => R s') X.xe s3 := fun {σ' H3 s3 P R} I3 q3 z =>
    thn (run_in (us := [.ref a, .none, .none, .none]) (vs := [.ref a, .non, .non, .non]) rfl (hr.mono h2) F2 bb2 I3 (.cons rfl (.cons rfl (.cons rfl (.cons rfl .nil)))) q3) fun _ s4 ⟨_, H4, I4, _, q4⟩ => z H4 s4 I4 q4
  refine wpAny_mono hb2 (fun fl s3 q3 => ?_) fun _ _ z => z
  show wpAny (model X.prog X.w) X.A (call (.ref f2) [.ref a, .none, .none, .none]) (fun _ s' => SP X pins D fl s') X.xe s3
  cases fl with
  | next =>
    obtain ⟨σ', H3, I3, q3⟩ := q3
    exact out I3 q3 fun H4 s4 I4 q4 => ⟨σ', H4, I4, q4⟩
  | brk =>
    obtain ⟨σ', H3, I3, q3⟩ := q3
    exact out I3 q3 fun H4 s4 I4 q4 => ⟨σ', H4, I4, q4⟩
  | cont =>
    obtain ⟨σ', H3, I3, q3⟩ := q3
    exact out I3 q3 fun H4 s4 I4 q4 => ⟨σ', H4, I4, q4⟩
  | ret u =>
    obtain ⟨v3, σ', H3, I3, rv3, q3⟩ := q3
    exact out I3 q3 fun H4 s4 I4 q4 => ⟨v3, σ', H4, I4, rv3, q4⟩
/-! ### d.update(e), dicts -/
theorem d_update {X : Cx} {pins : List (Addr × Obj)} {σ : L2.St} {H : Hp} {s : Shared} {a b : Addr} {kvs more : List (Key × V)} {A : Around} {E : Value → Shared → Prop} {Q : Value → Shared → Prop} (I : Inv X pins σ H s) (e : H a = some (.dK kvs)) (e2 : H b = some (.dK more)) (hne : a ≠ b) (hz : kvs.length + more.length ≤ sizeLine)
    (h : ∀ s', Inv X pins σ (upd H a (.dK (mergeK kvs more))) s' → Q .none s') : wpAny (model X.prog X.w) A (call (.builtin "dict.update") [.ref a, .ref b]) Q E s := by
  obtain ⟨z, hd, vs, rel, dd⟩ := dk_of I.hok e
  obtain ⟨z2, hd2, vs2, rel2, dd2⟩ := dk_of I.hok e2
  refine call_meetsIn PySem.F.slot_dict_update dd.typeIs PySem.F.entry_dict_update (PySem.F.args_dict_update_2 _ _) (meets_dict_update (mixKind X.prog X.w) a b hne hd2)
    ⟨vs, vs2, dd, dd2, by rw [← rel.length, ← rel2.length]; exact hz, fun h' dd' _ hs => h _ ?_⟩
  have he : ∃ q, h'.get? a = some q := let ⟨q, _, _, hq, _⟩ := dd'; ⟨q, hq⟩
  exact d_write (t' := s.toks) I (by rw [e]; exact True.intro) hs he (dk_new (Nat.le_trans (length_mergeK _ _) hz) hd (rel2.merge rel) dd')
end Lt
set_option Elab.async false
set_option linter.all false
set_option maxRecDepth 100000
set_option maxHeartbeats 4000000
/-! Rules: == and != with both answers: tables, instances, tuples of instances. -/
namespace Lq
open PySem PySem.SeqAt
open AutoSeq1 (wpAny_loadPart')
open MeetsSeq MeetsSeq2 MeetsSeq3 SeqRoads2
section
variable {prog : Program} {w : World} {A : Around} {R : Result → Shared → Prop} {E : Value → Shared → Prop} {s : Shared}
/-- item by item; J is kept; e tells each answer -/
theorem tuple_eqB (l b : Addr) (items items2 : Array Value) (n n2 : Nat) (dd dd2 : Option Addr) (sl sl2 : Array (Option Value)) (hsz : items.size = items2.size) (J : Shared → Prop) (e : Nat → Bool)
    (turn : ∀ i (h1 : i < items.size) (h2 : i < items2.size) s, J s → wpAny (model prog w) A.in1 (eqBool items[i] items2[i]) (fun r s' => r = e i ∧ J s') (fun e s' => R (.error e) s') s)
    (fin : ∀ s, J s → R (.ok (.ret (.bool ((List.range items.size).all e)))) s) {s : Shared} (hl1 : s.heap.get? l = some { cls := .type "tuple", dict := dd, data := .seq items n, slots := sl }) (hb1 : s.heap.get? b = some { cls := .type "tuple", dict := dd2, data := .seq items2 n2, slots := sl2 }) (h : J s) :
    wpAny (model prog w) A.in1 (Builtin.«tuple.__eq__» ⟨[.ref l, .ref b], []⟩) (GQ.FinOf prog w A R) (fun e s' => R (.error e) s') s := by
  have f2 := AutoSeq1.sub_tuple_tuple
  have hZ : (items.toList.zip items2.toList).length = items.size := by simp [hsz]
  have h0 := h
  obtain ⟨hp, g, d, tk, os⟩ := s
  wp_walk using wpAny_loadPart' hl1, wpAny_loadPart' hb1, wpAny_forIn_list _ (fun rest b s' => b.1 = none ∧ ∃ i, rest = (items.toList.zip items2.toList).drop i ∧ i ≤ items.size ∧ ((List.range items.size).all e = ((List.range items.size).drop i).all e) ∧ J s') _
  case turn =>
    rintro ⟨y, x⟩ rest b s' ⟨hb', i, hz, hi, ha, hI⟩
    have hlt : i < (items.toList.zip items2.toList).length := by
      rcases Nat.lt_or_ge i (items.toList.zip items2.toList).length with h' | h'
      · exact h'
      · rw [List.drop_of_length_le h'] at hz; cases hz
    have h1 : i < items.size := hZ ▸ hlt
    have h2 : i < items2.size := hsz ▸ h1
    rw [List.drop_eq_getElem_cons hlt] at hz
    injection hz with hyx hrest
    have hy : y = items[i] := by have := congrArg Prod.fst hyx; simpa using this
    have hx : x = items2[i] := by have := congrArg Prod.snd hyx; simpa using this
    subst hy hx
    have hd : (List.range items.size).drop i = i :: (List.range items.size).drop (i + 1) := by simp [List.drop_eq_getElem_cons, h1]
    rw [hd, List.all_cons] at ha
    refine wpAny_bind (wpAny_mono (turn i h1 h2 s' hI) (fun r s2 q2 => ?_) fun _ _ x => x)
    obtain ⟨hr, q2⟩ := q2
    subst hr
    have hfin := fin s2 q2
    cases hy : e i with
    | true =>
      rw [hy, Bool.true_and] at ha
      wp_walk
      exact ⟨rfl, i + 1, hrest, h1, ha, q2⟩
    | false =>
      rw [hy, Bool.false_and] at ha
      rw [ha] at hfin
      wp_walk
      exact hfin
  case fin =>
    rintro ⟨b1, b2⟩ s' ⟨hb', i, hz, hi, ha, hI⟩
    simp only at hb'
    subst hb'
    have hge : items.size ≤ i := by
      rcases Nat.lt_or_ge i (items.toList.zip items2.toList).length with h' | h'
      · rw [List.drop_eq_getElem_cons h'] at hz; cases hz
      · exact hZ ▸ h'
    have hR := fin s' hI
    rw [ha, List.drop_of_length_le (by simpa using hge), List.all_nil] at hR
    wp_walk
    simpa [Builtin.Tuple.tupleCompareSizes, hsz] using hR
  case h =>
    exact ⟨rfl, 0, rfl, Nat.zero_le _, rfl, h0⟩
theorem rc_tupB {l b : Addr} {items items2 : Array Value} {Q : Value → Shared → Prop} (hsz : items.size = items2.size) (hu : A.units < cLine) (J : Shared → Prop) (e : Nat → Bool)
    (hl : s.heap.IsTuple l items) (hb : s.heap.IsTuple b items2)
    (turn : ∀ i (h1 : i < items.size) (h2 : i < items2.size) s, J s → wpAny (model prog w) A.in1 (eqBool items[i] items2[i]) (fun r s' => r = e i ∧ J s') E s)
    (fin : ∀ s, J s → Q (.bool ((List.range items.size).all e)) s) (h : J s) : wpAny (model prog w) A (richCompare .Eq (.ref l) (.ref b)) Q E s := by
  obtain ⟨⟨cls, dd, data, sl⟩, ho, hc, n, hd⟩ := id hl
  obtain ⟨⟨cls2, dd2, data2, sl2⟩, ho2, hc2, n2, hd2⟩ := id hb
  simp only at hc hd hc2 hd2
  subst hc hd hc2 hd2
  refine wpAny_richCompare_same_room (op := .Eq) ⟨_, ho, rfl⟩ ⟨_, ho2, rfl⟩ F.slot_tuple_eq (GQ.call_here F.slot_tuple_eq ⟨_, ho, rfl⟩ F.entry_tuple_eq (F.args_tuple_eq_2 _ _) ?_) hu
  exact tuple_eqB (R := wants (fun v s' => v ≠ .notImplemented ∧ Q v s') E) l b items items2 n n2 dd dd2 sl sl2 hsz J e turn (fun s' q => ⟨(fun x => nomatch x), fin s' q⟩) ho ho2 h
/-- == inside a builtin -/
theorem eqBool_refB {l b : Addr} {Q : Bool → Shared → Prop} (hs : l = b → Q true s) (h : l ≠ b → wpAny (model prog w) A (richCompare .Eq (.ref l) (.ref b)) (fun v s' => ∃ r, v = .bool r ∧ Q r s') E s) : wpAny (model prog w) A (eqBool (.ref l) (.ref b)) Q E s := by
  by_cases e : l = b
  · subst e
    exact SeqAt.EqAt.same (A := A) (s := s) (.ref l) prog w E _ (hs rfl)
  · exact GQ.eqBool_refG e (h e)
end
end Lq
namespace Lt
open PySem PySem.Spec PyProof.Rows L2
open C8 (Cal Met Mak pe_c pe_mk pe_mt pe_mt0 pe_gc)
/-! ### an own == -/
section
variable {X : Cx} {j k : Nat} {C : Addr} {sp : Sp} {pins : List (Addr × Obj)} {σ : L2.St} {H : Hp} {s : Shared} {A : Around} {a b dx dy : Addr} {fs gs : List (Str × V)} {Q : Bool → Hp → Prop} {Ex : Value → Shared → Prop}
theorem rc_eqI (c : Met X.prog X.w X.K X.mg X.base k C "__eq__" sp []) (fr : A.frames = X.A.frames) (hr : Room k A) (I : Inv X pins σ H s) (ea : H a = some (.ins C dx fs)) (eb : H b = some (.ins C dy gs)) (h : sp [.ref a, .ref b] H (fun v H' => ∃ r, v = .bl r ∧ Q r H') E0) :
    wpAny (model X.prog X.w) A (richCompare .Eq (.ref a) (.ref b)) (fun v s' => ∃ r, v = .bool r ∧ ∃ H', Inv X pins σ H' s' ∧ Q r H') Ex s := by
  obtain ⟨f, fd, ps, ds, cl, me, F, hb, hd⟩ := c.ex
  cases hd
  obtain ⟨ox, od, J⟩ := inst_of I ea
  obtain ⟨ox', od', J'⟩ := inst_of I eb
  obtain ⟨m, hF⟩ := I.fr
  refine PySem.W.cmp_K (op := .Eq) (tb := .ref C) hr.units0 hF I.ok.mod.kin J J'.type (by simp [PySem.W.notFirst]) me.at_ me.fn (wpAny_mono (run_in (us := [.ref a, .ref b]) (vs := [.ref a, .ref b]) fr hr F hb I (.cons rfl (.cons rfl .nil)) h) (fun v s' z => ?_) fun _ _ z => z)
  obtain ⟨v', H', I', rv, r, rfl, q⟩ := z
  cases rv
  exact ⟨r, rfl, H', I', q⟩
/-- a != b where the class has == alone -/
theorem rc_neI (c : Met X.prog X.w X.K X.mg X.base k C "__eq__" sp []) (hne : PySem.W.findIn X.K (.ref C) "__ne__" = some (some (.builtin "object.__ne__"))) (hob : PySem.W.mroIn X.K C (.type "object") = some true) (fr : A.frames = X.A.frames) (hr : Room (k + 2) A) (I : Inv X pins σ H s)
    (ea : H a = some (.ins C dx fs)) (eb : H b = some (.ins C dy gs)) (h : sp [.ref a, .ref b] H (fun v H' => ∃ r, v = .bl r ∧ Q (!r) H') E0) :
    wpAny (model X.prog X.w) A (richCompare .NotEq (.ref a) (.ref b)) (fun v s' => ∃ r, v = .bool r ∧ ∃ H', Inv X pins σ H' s' ∧ Q r H') Ex s := by
  obtain ⟨f, fd, ps, ds, cl, me, F, hb, hd⟩ := c.ex
  cases hd
  obtain ⟨ox, od, J⟩ := inst_of I ea
  obtain ⟨ox', od', J'⟩ := inst_of I eb
  have Xk := I.kIn
  have r1 : Room (k + 1) A.in1 := hr.in1
  have sub : PySem.W.Looks (model X.prog X.w) s.heap (isInstance (.ref a) (.type "object")) true := J.type.andThen (PySem.W.looks_mroIn Xk hob)
  have run : ∀ {Ex : Value → Shared → Prop}, wpAny (model X.prog X.w) A.in1 (call (.ref f) [.ref a, .ref b]) (fun v s' => ∃ r, v = .bool r ∧ ∃ H', Inv X pins σ H' s' ∧ Q (!r) H') Ex s := fun {Ex} =>
    wpAny_mono (run_in (A := A.in1) (us := [.ref a, .ref b]) (vs := [.ref a, .ref b]) fr (r1.mono (Nat.le_succ _)) F hb I (.cons rfl (.cons rfl .nil)) h) (fun v s' ⟨v', H', I', rv, r, e, q⟩ => by
      subst e
      cases rv
      exact ⟨r, rfl, H', I', q⟩) fun _ _ z => z
  have ne : ∀ {P : Value → Shared → Prop}, (∀ r s', (∃ H', Inv X pins σ H' s' ∧ Q r H') → P (.bool r) s') → wpAny (model X.prog X.w) A (call (.builtin "object.__ne__") [.ref a, .ref b]) P Ex s := fun {P} hP => by
    refine wpAny_call (codeAny_call_builtin PySem.F.cmp_object.ne.plain PySem.F.cmpEntry_ne (@PySem.W.check_slot (model X.prog X.w) _ _ s "object.__ne__" "object" "__ne__" (.ref a) [.ref b] [] _ PySem.F.cmpKind_ne PySem.F.cmpSplit_ne sub (PySem.F.cmpArgs_ne _ _) ?_))
    unfold Builtin.«object.__ne__»
    refine wpAny_bind (wpAny_pure ?_)
    dsimp only
    refine wpAny_bind (wpAny_cRoomFor r1.units0 ?_)
    refine wpAny_bind (PySem.W.ifBound_K Xk J me.at_ me.fn (wpAny_mono run (fun v s' z => ?_) fun _ _ z => z))
    obtain ⟨r, rfl, z⟩ := z
    dsimp only
    refine wpAny_bind (wpAny_truthy_bool ?_)
    exact wpAny_pure (hP _ _ z)
  have one : wpAny (model X.prog X.w) A (tryCompare (.ref a) "__ne__" (.ref b)) (fun r s' => ∃ v, r = some v ∧ ∃ t, v = .bool t ∧ ∃ H', Inv X pins σ H' s' ∧ Q t H') Ex s := by
    unfold tryCompare
    refine wpAny_bind ?_
    simp only [callSpecialIfBound?, bindSpecialIfBound?]
    refine wpAny_holding (wpAny_bind (wpAny_bind (wpAny_bind (J.type.here ((PySem.W.looks_findIn Xk hne).here ?_)))))
    refine wpAny_bind (wpAny_askSetting (wpAny_ite ?_))
    have fin : ∀ {P : Option Value → Shared → Prop}, (∀ r s', (∃ H', Inv X pins σ H' s' ∧ Q r H') → P (some (.bool r)) s') → wpAny (model X.prog X.w) A (call (.builtin "object.__ne__") ([.ref a] ++ [.ref b]) >>= fun v => pure (some v)) P Ex s := fun hP => wpAny_bind (ne fun r s' z => wpAny_pure (hP r s' z))
    have last : ∀ r s', (∃ H', Inv X pins σ H' s' ∧ Q r H') → wpAny (model X.prog X.w) A (match some (Value.bool r) with | some .notImplemented | none => pure none | some v => pure (some v)) (fun r s' => ∃ v, r = some v ∧ ∃ t, v = .bool t ∧ ∃ H', Inv X pins σ H' s' ∧ Q t H') Ex s' := fun r s' z =>
      wpAny_pure ⟨_, rfl, r, rfl, z⟩
    split
    · exact wpAny_bind (wpAny_of_eq (PySem.F.cmp_object.ne.bind _) (wpAny_pure (by exact fin last)))
    · exact wpAny_tryCatch (wpAny_bind (wpAny_of_eq (PySem.F.cmp_object.ne.bind _) (wpAny_pure (by exact fin last))))
  unfold richCompare
  simp only [oneThing_ref]
  refine wpAny_holding (wpAny_bind (wpAny_cRoomFor hr.units0 ?_))
  rw [cmpInfo_NotEq]
  dsimp only
  refine wpAny_bind (J.type.here (wpAny_bind (J'.type.here ?_)))
  rw [show (Value.ref C != Value.ref C) = false from by simp]
  simp only [Bool.false_eq_true, if_false]
  refine wpAny_bind (wpAny_pure ?_)
  simp only [Bool.false_eq_true, if_false]
  refine wpAny_bind (wpAny_mono one (fun r s' z => ?_) fun _ _ e => e)
  obtain ⟨v, rfl, hq⟩ := z
  exact wpAny_pure hq
def rNeI (C : Addr) (sp : Sp) : R2 := fun x y H Q => ∃ a b dx fs dy gs, x = .ref a ∧ y = .ref b ∧ H a = some (.ins C dx fs) ∧ H b = some (.ins C dy gs) ∧ sp [.ref a, .ref b] H (fun v H' => ∃ r, v = .bl r ∧ Q (.bl (!r)) H') E0
theorem op_neI (c : Met X.prog X.w X.K X.mg X.base k C "__eq__" sp []) (hne : PySem.W.findIn X.K (.ref C) "__ne__" = some (some (.builtin "object.__ne__"))) (hob : PySem.W.mroIn X.K C (.type "object") = some true) (hr : Room j X.A) (hk : k + 2 ≤ j) : OpR X (compareOp .NotEq) (rNeI C sp) := by
  intro pins s σ H x y v u Q I rx ry h
  obtain ⟨a, b, dx, fs, dy, gs, rfl, rfl, ea, eb, q⟩ := h
  cases rx
  cases ry
  show wpAny (model X.prog X.w) X.A (richCompare .NotEq (.ref a) (.ref b)) (EP X pins σ Q) X.xe s
  refine wpAny_mono (rc_neI (Q := fun r H' => Q (.bl r) H') (Ex := X.xe) c hne hob rfl (hr.mono hk) I ea eb q) (fun v s' z => ?_) fun _ _ z => z
  obtain ⟨r, rfl, H', I', q'⟩ := z
  exact ⟨.bl r, H', I', rfl, q'⟩
end
theorem objB_ob {K : Fg} {c : Str} (h : objB c K = true) : PySem.W.mroIn K (ga K c) (.type "object") = some true := of_decide_eq_true (He.ba (He.ba h).2).1
/-! ### a piece is one piece -/
def toV : Value → Option V
  | .none => some .non
  | .bool b => some (.bl b)
  | .int i _ => some (.int i)
  | .str x _ => some (.str x)
  | .bytes b _ => some (.byt b)
  | .float b _ => some (.flt b)
  | .ref a => some (.ref a)
  | .type n => some (.ty n)
  | _ => none
theorem toV_of {x : V} {u : Value} (h : RelV x u) : toV u = some x := by
  cases x with
  | non => cases (show u = .none from h); rfl
  | bl b => cases (show u = .bool b from h); rfl
  | int i => obtain ⟨t, rfl⟩ := h; rfl
  | str i => obtain ⟨t, rfl⟩ := h; rfl
  | byt i => obtain ⟨t, rfl⟩ := h; rfl
  | flt i => obtain ⟨t, rfl⟩ := h; rfl
  | ref b => cases (show u = .ref b from h); rfl
  | ty b => cases (show u = .type b from h); rfl
theorem relV_inj {x y : V} {u : Value} (h1 : RelV x u) (h2 : RelV y u) : x = y := Option.some.inj ((toV_of h1).symm.trans (toV_of h2))
theorem vals_inj : ∀ {xs ys : List V} {us : List Value}, Vals xs us → Vals ys us → xs = ys
  | _, _, _, .nil, .nil => rfl
  | _, _, _, .cons r1 t1, .cons r2 t2 => by rw [relV_inj r1 r2, vals_inj t1 t2]
theorem sqT_inj {X : Cx} {pins : List (Addr × Obj)} {σ : L2.St} {H : Hp} {s : Shared} {a : Addr} {xs ys : List V} (I : Inv X pins σ H s) (h1 : SqT X.K H a xs) (h2 : SqT X.K H a ys) : xs = ys := by
  obtain ⟨its, r, ⟨o, e, c, n, d⟩, z⟩ := I.tuple h1
  obtain ⟨its2, r2, ⟨o2, e2, c2, n2, d2⟩, z2⟩ := I.tuple h2
  cases e.symm.trans e2
  have q := d.symm.trans d2
  injection q with q1 q2
  have q3 : its = its2 := by simpa using q1
  rw [← q3] at r2
  exact vals_inj r r2
theorem map_str_inj : ∀ {xs ys : List Str}, xs.map V.str = ys.map V.str → xs = ys
  | [], [], _ => rfl
  | [], _ :: _, h => by cases h
  | _ :: _, [], h => by cases h
  | x :: xs, y :: ys, h => by
    rw [List.map_cons, List.map_cons] at h
    injection h with h1 h2
    injection h1 with h1
    rw [h1, map_str_inj h2]
theorem pc_inj {X : Cx} {pins : List (Addr × Obj)} {σ : L2.St} {H : Hp} {s : Shared} {v : V} {d e : PcD} (I : Inv X pins σ H s) (h1 : PcAt X.K H v d) (h2 : PcAt X.K H v e) : d = e := by
  obtain ⟨a, dx, pa, z, rfl, e1, e2, _⟩ := h1
  obtain ⟨a', dx', pa', z', e0, e1', e2', _⟩ := h2
  cases e0
  rw [e1] at e1'
  obtain ⟨w, ps, br, mk, ah, bh, bl, lf⟩ := d
  obtain ⟨w', ps', br', mk', ah', bh', bl', lf'⟩ := e
  simp only [pcF, Option.some.injEq, HO.ins.injEq, List.cons.injEq, Prod.mk.injEq, V.str.injEq, V.ref.injEq, V.bl.injEq, V.int.injEq, true_and, and_true] at e1'
  obtain ⟨_, rfl, rfl, rfl, rfl, rfl, rfl, rfl, rfl, _⟩ := e1'
  have e3 : ps = ps' := map_str_inj (sqT_inj I e2 e2')
  rw [e3]
/-! ### tuples of pieces -/
/-- what Piece.__eq__ promises -/
def sp_Piece_eq (K : Fg) : Sp := fun vs H Q _ => ∃ (a b : Addr) (d e : PcD), vs = [.ref a, .ref b] ∧ PcAt K H (.ref a) d ∧ PcAt K H (.ref b) e ∧ ∀ H', Same H H' → Q (.bl (decide (d = e))) H'
def rEqPcs (K : Fg) : R2 := fun x y H Q => ∃ a b vs ws ds es, x = .ref a ∧ y = .ref b ∧ SqT K H a vs ∧ SqT K H b ws ∧ PcAll K H vs ds ∧ PcAll K H ws es ∧ ds.length = es.length ∧ ∀ H', Same H H' → Q (.bl (decide (ds = es))) H'
def eqAtI (ds es : List PcD) (i : Nat) : Bool := decide (ds[i]? = es[i]?)
theorem all_eqAtI : ∀ (n : Nat) (ds es : List PcD), ds.length = n → es.length = n → (List.range n).all (eqAtI ds es) = decide (ds = es) := by
  intro n ds es h1 h2
  rw [Bool.eq_iff_iff]
  simp only [List.all_eq_true, List.mem_range, decide_eq_true_eq, eqAtI]
  constructor
  · intro h
    refine List.ext_getElem? fun i => ?_
    by_cases hi : i < n
    · exact h i hi
    · rw [List.getElem?_eq_none (by omega), List.getElem?_eq_none (by omega)]
  · rintro rfl i _
    rfl
theorem op_eqPcs {X : Cx} {j k : Nat} (c : Met X.prog X.w X.K X.mg X.base k (ga X.K "Piece") "__eq__" (sp_Piece_eq X.K) []) (hr : Room j X.A) (hk : k + 1 ≤ j) : OpR X (compareOp .Eq) (rEqPcs X.K) := by
  intro pins s σ H x y v u Q I rx ry h
  obtain ⟨a, b, vs, ws, ds, es, rfl, rfl, ha, hb, pd, pe, hl, q⟩ := h
  cases rx
  cases ry
  show wpAny (model X.prog X.w) X.A (richCompare .Eq (.ref a) (.ref b)) (EP X pins σ Q) X.xe s
  obtain ⟨its, r, e, z⟩ := I.tuple ha
  obtain ⟨its2, r2, e2, z2⟩ := I.tuple hb
  have n1 : its.toArray.size = ds.length := by rw [List.size_toArray, ← r.length, Paired.lenE pd]
  have n2 : its2.toArray.size = es.length := by rw [List.size_toArray, ← r2.length, Paired.lenE pe]
  refine Lq.rc_tupB (E := X.xe) (e := eqAtI ds es) (J := fun s' => ∃ H', Inv X pins σ H' s' ∧ Same H H') (by rw [n1, n2, hl]) (hr.mono (Nat.zero_le _)).units0 e e2 (fun i h1 h2 s' ⟨H1, I1, s1⟩ => ?_) (fun s' ⟨H1, I1, s1⟩ => ?_) ⟨H, I, fun _ _ z => z⟩
  · have k1 : i < ds.length := by rw [← n1]; exact h1
    have k2 : i < es.length := by rw [← n2]; exact h2
    obtain ⟨v1, g1, p1⟩ := Paired.get1 pd (List.getElem?_eq_getElem k1)
    obtain ⟨v2, g2, p2⟩ := Paired.get1 pe (List.getElem?_eq_getElem k2)
    obtain ⟨u1, f1, r1⟩ := r.get g1
    obtain ⟨u2, f2, r2'⟩ := r2.get g2
    have w1 : its.toArray[i] = u1 := by
      have h1' : i < its.length := by simpa using h1
      rw [List.getElem?_eq_getElem h1'] at f1
      simpa using Option.some.inj f1
    have w2 : its2.toArray[i] = u2 := by
      have h2' : i < its2.length := by simpa using h2
      rw [List.getElem?_eq_getElem h2'] at f2
      simpa using Option.some.inj f2
    rw [w1, w2]
    have p1' := p1.mono s1
    have p2' := p2.mono s1
    obtain ⟨a1, dx1, pa1, z1, rfl, e1, _⟩ := id p1'
    obtain ⟨a2, dx2, pa2, z2, rfl, e2, _⟩ := id p2'
    cases r1
    cases r2'
    have ea : eqAtI ds es i = decide (ds[i] = es[i]) := by
      unfold eqAtI
      rw [List.getElem?_eq_getElem k1, List.getElem?_eq_getElem k2]
      simp
    rw [ea]
    refine Lq.eqBool_refB (fun q => ?_) fun hne => wpAny_mono (rc_eqI (Q := fun r H' => r = decide (ds[i] = es[i]) ∧ Same H H') (Ex := X.xe) c rfl (hr.mono hk).in1 I1 e1 e2 ⟨a1, a2, _, _, rfl, p1', p2', fun H' sm => ⟨_, rfl, rfl, s1.trans sm⟩⟩) (fun v s2 ⟨r, er, H2, I2, e3, s3⟩ => ⟨r, er, e3, H2, I2, s3⟩) fun _ _ z => z
    subst q
    exact ⟨(decide_eq_true (pc_inj I1 p1' p2')).symm, H1, I1, s1⟩
  · rw [n1, all_eqAtI _ _ _ rfl hl.symm]
    exact ⟨.bl (decide (ds = es)), H1, I1, rfl, q H1 s1⟩
/-! ### what == of data answers -/
theorem eqvAll_strs : ∀ xs ys : List Str, PyData.eqvAll (xs.map .str) (ys.map .str) = decide (xs = ys)
  | [], [] => rfl
  | [], _ :: _ => rfl
  | _ :: _, [] => rfl
  | x :: xs, y :: ys => by
    show (PyData.eqv (.str x) (.str y) && PyData.eqvAll (xs.map .str) (ys.map .str)) = _
    rw [eqvAll_strs xs ys]
    show ((x == y) && decide (xs = ys)) = _
    rw [Bool.eq_iff_iff]
    simp
theorem eqv_strs (xs ys : List Str) : PyData.eqv (strsD xs) (strsD ys) = decide (xs = ys) := eqvAll_strs xs ys
theorem eqv_pc (d e : PcD) : PyData.eqv (pcData d) (pcData e) = decide (d = e) := by
  obtain ⟨w, ps, br, mk, ah, bh, bl, lf⟩ := d
  obtain ⟨w', ps', br', mk', ah', bh', bl', lf'⟩ := e
  show ((w == w') && (PyData.eqv (strsD ps) (strsD ps') && ((br == br') && ((mk == mk') && ((ah == ah') && ((bh == bh') && ((bl == bl') && ((lf == lf') && true)))))))) = _
  rw [eqv_strs, Bool.eq_iff_iff]
  simp
theorem eqvAll_pcs : ∀ xs ys : List PcD, PyData.eqvAll (xs.map pcData) (ys.map pcData) = decide (xs = ys)
  | [], [] => rfl
  | [], _ :: _ => rfl
  | _ :: _, [] => rfl
  | x :: xs, y :: ys => by
    show (PyData.eqv (pcData x) (pcData y) && PyData.eqvAll (xs.map pcData) (ys.map pcData)) = _
    rw [eqvAll_pcs xs ys, eqv_pc, Bool.eq_iff_iff]
    simp
theorem eqv_pcs (xs ys : List PcD) : PyData.eqv (pcsData xs) (pcsData ys) = decide (xs = ys) := eqvAll_pcs xs ys
/-! ### the tables that told makes -/
def toldD (d : PcD) (pa : Addr) : List (Key × V) := [(.inr "word", .str d.word), (.inr "parts", .ref pa), (.inr "broken", .bl d.broken), (.inr "marked", .bl d.marked), (.inr "ahead", .str d.ahead), (.inr "behind", .str d.behind), (.inr "blanks", .int d.blanks), (.inr "left", .bl d.left)]
def rEqTold (K : Fg) : R2 := fun x y H Q => ∃ a b pa pb d e, PcD.ok d ∧ PcD.ok e ∧ x = .ref a ∧ y = .ref b ∧ H a = some (.dK (toldD d pa)) ∧ H b = some (.dK (toldD e pb)) ∧ SqT K H pa (d.parts.map V.str) ∧ SqT K H pb (e.parts.map V.str) ∧ Q (.bl (decide (d = e))) H
theorem strOk_name {z : Str} (h : nameOk z) : PyData.canLay0 (.str z) = true := by
  have t : ∀ c ∈ ("abcdefghijklmnopqrstuvwxyz" : Str).cps.toList, PyData.strOk ⟨#[c]⟩ = true := by decide +kernel
  have h2 : ∀ c ∈ z.cps.toList, PyData.strOk ⟨#[c]⟩ = true := fun c hc => t c (h.2.2 c hc)
  simp only [PyData.canLay0]
  unfold PyData.strOk at h2 ⊢
  rw [Array.all_eq_true']
  intro c hc
  have h3 := h2 c (Array.mem_toList_iff.mpr hc)
  simpa using h3
theorem strOk_rem {z : Str} (h : z = "" ∨ nameOk z) : PyData.canLay0 (.str z) = true := by
  rcases h with rfl | h
  · decide +kernel
  · exact strOk_name h
theorem lay_strs {xs : List Str} (h : ∀ x ∈ xs, nameOk x) : PyData.canLayAll0 (xs.map .str) = true := by
  induction xs with
  | nil => rfl
  | cons x r ih => exact Bool.and_eq_true_iff.mpr ⟨strOk_name (h x List.mem_cons_self), ih fun y hy => h y (List.mem_cons_of_mem _ hy)⟩
theorem depth_strs (xs : List Str) : PyData.depthAll (xs.map .str) = 0 := by
  induction xs with
  | nil => rfl
  | cons x r ih => exact Nat.max_eq_zero_iff.mpr ⟨rfl, ih⟩
theorem shaped_strs {xs : List Str} (h : ∀ x ∈ xs, nameOk x) : SeqAt.shaped (strsD xs) = true := by
  refine Bool.and_eq_true_iff.mpr ⟨lay_strs h, decide_eq_true ?_⟩
  show PyData.depthAll (xs.map .str) + 1 ≤ 64
  rw [depth_strs]
  decide
theorem eqP_data {X : Cx} {pins : List (Addr × Obj)} {σ : L2.St} {H : Hp} {s : Shared} {A : Around} {x y : V} {u v : Value} {d e : PyData} (I : Inv X pins σ H s) (hu : A.units + 64 < cLine) (hx : Dp X.K H x d) (hy : Dp X.K H y e) (rx : RelV x u) (ry : RelV y v) (sx : SeqAt.shaped d = true) (sy : SeqAt.shaped e = true) :
    SeqAt.EqP X.prog X.w A s u v (PyData.eqv d e) := by
  obtain ⟨as, r1⟩ := Dp.reads I d x u hx rx
  obtain ⟨bs, r2⟩ := Dp.reads I e y v hy ry
  exact SeqAt.EqAt.eqP (SeqAt.eqAt_reads d e A s u v as bs r1 r2 (SeqAt.canLay_of_shaped sx) (SeqAt.canLay_of_shaped sy) (SeqAt.room_of_shaped sx hu))
theorem hits_e {P : Program} {w : World} {A : Around} {s : Shared} {ls : List (Key × V)} {vb : List (Key × Value)} (rb : KV ls vb) : ∀ {ks : List (Key × V)} {va : List (Key × Value)} {bs : List Bool}, KV ks va →
    Paired (fun (p : Key × V) (b : Bool) => ∃ y, valV ls p.1 = some y ∧ ∀ u v, RelV p.2 u → RelV y v → SeqAt.EqP P w A s u v b) ks bs → PySem.W.KeqHitsP P w A s vb va (bs.foldr (fun a b => a && b) true)
  | _, _, _, .nil, .nil => .nil
  | _, _, _, .cons (b := q) ⟨e, r⟩ t, .cons ⟨y, hy, f⟩ t2 => by
    obtain ⟨v, hv, rv⟩ := RelO.some_of (v := y) (by rw [← hy]; exact rb.val _)
    obtain ⟨q1, q2⟩ := q
    have e : _ = q1 := e
    exact .hit (by rw [← e]; exact hv) (f _ _ r rv) (hits_e rb t t2)
/-- == of two such tables -/
theorem op_eqTold {X : Cx} {j : Nat} (hr : Room j X.A) : OpR X (compareOp .Eq) (rEqTold X.K) := by
  intro pins s σ H x y v u Q I rx ry h
  obtain ⟨a, b, pa, pb, d, e, od, oe, rfl, rfl, ea, eb, hpa, hpb, q⟩ := h
  cases rx
  cases ry
  obtain ⟨_, ya, va, ra, da⟩ := dk_of I.hok ea
  obtain ⟨_, yb, vb, rb, db⟩ := dk_of I.hok eb
  show wpAny (model X.prog X.w) X.A (richCompare .Eq (.ref a) (.ref b)) (EP X pins σ Q) X.xe s
  have hu : X.A.in1.units + 64 < cLine := by have := hr.un; show X.A.units + 1 + 64 < _; omega
  have sc : ∀ {x y : V} {d e : PyData}, Dp X.K H x d → Dp X.K H y e → SeqAt.shaped d = true → SeqAt.shaped e = true → ∀ u v, RelV x u → RelV y v → SeqAt.EqP X.prog X.w X.A.in1 s u v (PyData.eqv d e) := fun hx hy sx sy u v rx ry => eqP_data I hu hx hy rx ry sx sy
  have st : ∀ {z : Str}, PyData.canLay0 (.str z) = true → SeqAt.shaped (.str z) = true := fun h => Bool.and_eq_true_iff.mpr ⟨h, rfl⟩
  have dv : ∀ ps : List Str, DpAll X.K H (ps.map V.str) (ps.map PyData.str) := DpAll.strs
  have hits := hits_e (A := X.A.in1) (s := s) (P := X.prog) (w := X.w) rb (bs := [PyData.eqv (.str d.word) (.str e.word), PyData.eqv (strsD d.parts) (strsD e.parts), PyData.eqv (.bool d.broken) (.bool e.broken), PyData.eqv (.bool d.marked) (.bool e.marked), PyData.eqv (.str d.ahead) (.str e.ahead), PyData.eqv (.str d.behind) (.str e.behind), PyData.eqv (.int d.blanks) (.int e.blanks), PyData.eqv (.bool d.left) (.bool e.left)]) ra
    (.cons ⟨.str e.word, by rfl, sc (.str _) (.str _) (st (strOk_name od.word)) (st (strOk_name oe.word))⟩ (.cons ⟨.ref pb, by rfl, sc (.tup hpa (dv _)) (.tup hpb (dv _)) (shaped_strs od.parts) (shaped_strs oe.parts)⟩ (.cons ⟨.bl e.broken, by rfl, sc (.bl _) (.bl _) rfl rfl⟩ (.cons ⟨.bl e.marked, by rfl, sc (.bl _) (.bl _) rfl rfl⟩
      (.cons ⟨.str e.ahead, by rfl, sc (.str _) (.str _) (st (strOk_rem od.ahead)) (st (strOk_rem oe.ahead))⟩ (.cons ⟨.str e.behind, by rfl, sc (.str _) (.str _) (st (strOk_rem od.behind)) (st (strOk_rem oe.behind))⟩ (.cons ⟨.int e.blanks, by rfl, sc (.int _) (.int _) rfl rfl⟩ (.cons ⟨.bl e.left, by rfl, sc (.bl _) (.bl _) rfl rfl⟩ .nil))))))))
  refine PySem.W.rcP_dicts ya yb da db (hr.mono (Nat.zero_le _)).units0 (fun _ => hits) _ _ (fin_bl I q ?_)
  have hl : va.length = vb.length := by rw [← ra.length, ← rb.length]; rfl
  rw [← eqv_pc d e, hl, beq_self_eq_true, Bool.true_and]
  rfl
end Lt
set_option Elab.async false
set_option linter.all false
set_option maxRecDepth 100000
set_option maxHeartbeats 4000000
/-! Rules: {**a, **b}, C(**d), o.m(k = v) of a def that takes the rest of the keywords. -/
namespace Lq
open PySem
section
variable {prog : Program} {w : World} {K : Type} [DecidableEq K] {knd : KeyKind prog w K} {A : Around} {E : Value → Shared → Prop} {s : Shared}
/-- one pair put into a dict -/
theorem put_pairs {d : Addr} {kvs : List (K × Value)} {k : K} {key v : Value} {Q : Unit → Shared → Prop} (hkey : knd.is k key = true) (hm : s.heap.DictOf knd d kvs) (hsz : kvs.length ≤ sizeLine)
    (hQ : ∀ h', h'.DictOf knd d (stored kvs k v) → Heap.SameBut d s.heap h' → Q () { s with heap := h' }) : wpAny (model prog w) A (dictPut d (knd.hash k) key v) Q E s := by
  obtain ⟨o, es, ep, ho, hc, hd, hk, hp, hn⟩ := hm
  have hz : es.size ≤ sizeLine := by
    have l1 := hp.length
    rw [Array.length_toList] at l1
    omega
  have hx : (es.findIdx? fun e => knd.is k e.key) = kvs.findIdx? fun kv => decide (kv.1 = k) := by
    have q := hp.findIdx k
    rw [← q]
    cases es
    simp
  unfold dictPut
  refine wpAny_bind (wpAny_dictFind_of hkey ho hd hk ?_)
  generalize hi : (es.findIdx? fun e => knd.is k e.key) = r
  rw [hi] at hx
  cases r with
  | some i =>
    have hany : (kvs.any fun kv => decide (kv.1 = k)) = true := any_of_findIdx_some hx.symm
    refine wpAny_updateDict ho hd (hQ _ ⟨_, _, ep, Heap.get?_update_self _ ho (Obj.isFreed_of_dict (Obj.data_mapDict hd _)), hc.mapDict _, Obj.data_mapDict hd _, hk.modify _ _, ?_, ?_⟩ (Heap.SameBut.update ..))
    · have hl : (es.toList.findIdx? fun e => knd.is k e.key) = some i := by
        rw [← hi]
        cases es
        simp
      have q := hp.modify hn hl v
      rw [stored, if_pos hany]
      cases es
      simpa using q
    · rw [stored, if_pos hany, keys_map_store]
      exact hn
  | none =>
    have hnot : k ∉ kvs.map (·.1) := not_mem_of_findIdx_none hx.symm
    have hany : ¬ (kvs.any fun kv => decide (kv.1 = k)) = true := fun q => by
      obtain ⟨kv, m, e⟩ := List.any_eq_true.mp q
      exact hnot (List.mem_map.mpr ⟨kv, m, of_decide_eq_true e⟩)
    refine wpAny_updateDictKeys (hz := hz) ho hd (hQ _ ⟨_, _, ep + 1, Heap.get?_update_self _ ho (Obj.isFreed_of_dict (Obj.data_mapDictKeys hd _)), hc.mapDictKeys _, Obj.data_mapDictKeys hd _, hk.push hkey _, ?_, ?_⟩ (Heap.SameBut.update ..))
    · have q := hp.append hkey (knd.hash k) v
      rw [stored, if_neg hany]
      cases es
      simpa using q
    · rw [stored, if_neg hany, List.map_append, List.nodup_append]
      refine ⟨hn, by simp, fun a ha b hb e => hnot ?_⟩
      rw [List.map_singleton, List.mem_singleton] at hb
      have q : a = k := e.trans hb
      rw [← q]
      exact ha
end
end Lq
namespace Lt
open PySem PySem.Spec PyProof.Rows L2
open C8 (Cal Met Mak pe_c pe_mk pe_mt pe_mt0 pe_gc)
section
variable {P : Program} {w : World} {A : Around} {E : Value → Shared → Prop} {s : Shared}
/-- a dict's pairs put into another one; unique: into an empty one -/
theorem merge_pairs {d m : Addr} {kvs more : List (Key × Value)} {u : Bool} {Q : Unit → Shared → Prop} (hdm : d ≠ m) (hS : (m == sysModules) = false) (hd : s.heap.DictOf (mixKind P w) d kvs) (hm : s.heap.DictOf (mixKind P w) m more) (hu : u = true → kvs = []) (hsz : kvs.length + more.length ≤ sizeLine)
    (hQ : ∀ h', h'.DictOf (mixKind P w) d (merged kvs more) → Heap.SameBut d s.heap h' → Q () { s with heap := h' }) : wpAny (model P w) A (mergeMapping d (.ref m) u) Q E s := by
  obtain ⟨od, esd, epd, hod, hcd, hdd, hkd, hpd, hnd⟩ := id hd
  obtain ⟨om, esm, epm, hom, hcm, hdm', hkm, hpm, hnm⟩ := id hm
  have hlen : more.length = esm.size := by rw [← hpm.length, Array.length_toList]
  unfold mergeMapping
  refine wpAny_bind (wpAny_isInstance hm.typeIs isSubtype_dict_dict ?_)
  simp only [if_true]
  refine wpAny_bind (wpAny_bind (wpAny_typeOf hm.typeIs (wpAny_of_eq F.slot_dict_iter.lookup ?_)))
  refine wpAny_bind (wpAny_pure ?_)
  simp only [beq_self_eq_true]
  rw [if_neg (by rw [hS]; exact Bool.false_ne_true)]
  refine wpAny_bind (wpAny_dictEntries hod hdd ?_)
  split
  case' isTrue =>
    refine wpAny_bind (wpAny_dictEntries hom hdm' ?_)
    rw [← Array.forIn_toList]
    refine wpAny_bind (wpAny_forIn_list _ (fun rest _ s' => s' = s ∧ ∀ e ∈ rest, e ∈ esm) _ ?_ ?_ _ _ ⟨rfl, fun e he => Array.mem_toList_iff.mp he⟩)
  case isTrue.refine_1 =>
    intro x rest _ s' ⟨e1, hx⟩
    obtain ⟨k, hk, _⟩ := hkm x (hx x List.mem_cons_self)
    rcases keyIs_shape hk with ⟨i, t, _, e2⟩ | ⟨z, t, _, e2⟩ <;> rw [e2] <;> exact wpAny_pure ⟨e1, fun e he => hx e (List.mem_cons_of_mem _ he)⟩
  case' isTrue.refine_2 =>
    intro _ s' ⟨e, _⟩
    rw [e]
  all_goals
    refine wpAny_bind (wpAny_dictEntries hom hdm' ?_)
    refine wpAny_bind (wpAny_dictEpoch hom hdm' ?_)
    refine wpAny_bind (wpAny_forIn_list _
      (fun rest _ s' => ∃ h' i, s' = { s with heap := h' } ∧ rest = List.range' i (esm.size - i) ∧ i ≤ esm.size ∧ h'.DictOf (mixKind P w) d (merged kvs (more.take i)) ∧ h'.get? m = some om ∧ Heap.SameBut d s.heap h')
      _ ?_ ?_ _ _ ⟨s.heap, 0, rfl, by rw [List.range_eq_range', Nat.sub_zero], Nat.zero_le _, by simpa [merged] using hd, hom, Heap.SameBut.refl _ _⟩)
  case isTrue.refine_2.refine_1 | isFalse.refine_1 =>
    rintro x rest b s' ⟨h', i, rfl, hr, hi, hd', hom', hs'⟩
    have hlt : i < esm.size := by
      rcases Nat.lt_or_ge i esm.size with q | q
      · exact q
      · rw [Nat.sub_eq_zero_of_le q] at hr
        simp at hr
    obtain ⟨e1, e2⟩ : x = i ∧ rest = List.range' (i + 1) (esm.size - (i + 1)) := by
      rw [show esm.size - i = (esm.size - (i + 1)) + 1 from by omega, List.range'_succ] at hr
      injection hr with q1 q2
      exact ⟨q1, q2⟩
    subst e1
    refine wpAny_bind (wpAny_dictEntries hom' hdm' ?_)
    rw [Array.getElem?_eq_getElem hlt]
    have hl2 : x < more.length := by rw [hlen]; exact hlt
    obtain ⟨k, v, hkv⟩ : ∃ k v, more[x] = (k, v) := ⟨_, _, rfl⟩
    have hkv2 : more[x]? = some (k, v) := by rw [List.getElem?_eq_getElem hl2, hkv]
    obtain ⟨hkey, hval⟩ := hpm.get? (i := x) (e := esm[x]) (by rw [Array.getElem?_toList]; exact Array.getElem?_eq_getElem hlt) hkv2
    obtain ⟨k', hk2, hh⟩ := hkm esm[x] (Array.getElem_mem hlt)
    obtain rfl : k' = k := (mixKind P w).inj _ _ _ hk2 hkey
    have hz : (merged kvs (more.take x)).length ≤ sizeLine := by
      have q1 := merged_length_le kvs (more.take x)
      rw [List.length_take] at q1
      omega
    dsimp only
    rw [hh, hval]
    have put : wpAny (model P w) A (dictPut d ((mixKind P w).hash k') esm[x].key v) (fun _ s2 => ∃ h2, s2 = { s with heap := h2 } ∧ h2.DictOf (mixKind P w) d (merged kvs (more.take (x + 1))) ∧ h2.get? m = some om ∧ Heap.SameBut d s.heap h2) E { s with heap := h' } :=
      Lq.put_pairs hkey hd' hz fun h2 hd2 hs2 => ⟨h2, rfl, by rw [merged_take_succ kvs more x (k', v) hkv2]; exact hd2, (hs2.2 m (Ne.symm hdm)).trans hom', hs'.trans hs2⟩
    refine wpAny_bind (wpAny_holding ?_)
    have go : wpAny (model P w) A (if u = true then do
        let __do_lift ← dictFind d esm[x].key ((mixKind P w).hash k')
        if __do_lift.isSome = true then do
            rule "dict.merge.duplicate-key"
            let __do_lift ← newExc (Value.type "KeyError") [esm[x].key]
            raiseNew __do_lift
            dictPut d ((mixKind P w).hash k') esm[x].key v
          else dictPut d ((mixKind P w).hash k') esm[x].key v
      else dictPut d ((mixKind P w).hash k') esm[x].key v) (fun _ s2 => ∃ h2, s2 = { s with heap := h2 } ∧ h2.DictOf (mixKind P w) d (merged kvs (more.take (x + 1))) ∧ h2.get? m = some om ∧ Heap.SameBut d s.heap h2) E { s with heap := h' } := by
      by_cases hu2 : u = true
      · rw [if_pos hu2]
        have kn := hu hu2
        obtain ⟨o2, es2, ep2, ho2, hc2, hd2, hk2', hp2, hn2⟩ := id hd'
        refine wpAny_bind (wpAny_dictFind_of hkey ho2 hd2 hk2' ?_)
        have nn : (more.take x).map (·.1) |>.Nodup := by
          rw [List.map_take]
          exact hnm.sublist (List.take_sublist _ _)
        have q1 : (es2.findIdx? fun e => (mixKind P w).is k' e.key) = none := by
          have q := hp2.findIdx k'
          rw [kn, merged_nil_of_nodup _ nn] at q
          have q2 : (es2.findIdx? fun e => (mixKind P w).is k' e.key) = (more.take x).findIdx? fun kv => decide (kv.1 = k') := by
            rw [← q]
            cases es2
            simp
          rw [q2, List.findIdx?_eq_none_iff]
          intro kv hkv'
          refine decide_eq_false fun e => ?_
          obtain ⟨i, hi, ei⟩ := List.getElem_of_mem hkv'
          rw [List.length_take] at hi
          have hi2 : i < x := by omega
          rw [List.getElem_take] at ei
          have a1 : (more.map (·.1))[i]'(by rw [List.length_map]; omega) = k' := by rw [List.getElem_map, ei, e]
          have a2 : (more.map (·.1))[x]'(by rw [List.length_map]; omega) = k' := by rw [List.getElem_map, hkv]
          exact (List.pairwise_iff_getElem.mp hnm) i x (by rw [List.length_map]; omega) (by rw [List.length_map]; omega) hi2 (a1.trans a2.symm)
        rw [q1]
        exact put
      · rw [if_neg hu2]
        exact put
    refine wpAny_mono go (fun _ s2 z => ?_) fun _ _ z => z
    obtain ⟨h2, rfl, hd2, hom2, hs2⟩ := z
    refine wpAny_bind (wpAny_dictEpoch hom2 hdm' ?_)
    rw [if_neg (by simp)]
    exact wpAny_pure ⟨h2, x + 1, rfl, e2, hlt, hd2, hom2, hs2⟩
  all_goals
    intro _ s' ⟨h', i, e, hr, hi, hd', _, hs'⟩
    have hin : i = esm.size := by
      rcases Nat.lt_or_ge i esm.size with q | q
      · rw [show esm.size - i = (esm.size - (i + 1)) + 1 from by omega, List.range'_succ] at hr
        exact nomatch hr
      · exact Nat.le_antisymm hi q
    rw [hin, ← hlen, List.take_length] at hd'
    rw [e]
    exact wpAny_pure (hQ h' hd' hs')
end
section
variable {X : Cx} {pins : List (Addr × Obj)} {σ : L2.St} {H : Hp} {s : Shared}
theorem d_merge {a b : Addr} {kvs more : List (Key × V)} {u : Bool} {A : Around} {E : Value → Shared → Prop} {Q : Unit → Shared → Prop} (I : Inv X pins σ H s) (e : H a = some (.dK kvs)) (e2 : H b = some (.dK more)) (hne : a ≠ b) (hz : kvs.length + more.length ≤ sizeLine) (hu : u = true → kvs = [])
    (h : ∀ s', Inv X pins σ (upd H a (.dK (mergeK kvs more))) s' → Q () s') : wpAny (model X.prog X.w) A (mergeMapping a (.ref b) u) Q E s := by
  obtain ⟨z, hd, vs, rel, dd⟩ := dk_of I.hok e
  obtain ⟨z2, hd2, vs2, rel2, dd2⟩ := dk_of I.hok e2
  refine merge_pairs hne hd2 dd dd2 (fun q => ?_) (by rw [← rel.length, ← rel2.length]; exact hz) fun h' dd' hs => h _ ?_
  · have q2 := hu q
    subst q2
    cases rel
    rfl
  · have he : ∃ q, h'.get? a = some q := let ⟨q, _, _, hq, _⟩ := dd'; ⟨q, hq⟩
    exact d_write (t' := s.toks) I (by rw [e]; exact True.intro) hs he (dk_new (Nat.le_trans (length_mergeK _ _) hz) hd (rel2.merge rel) dd')
def tMerge2 (ta tb : TE) : TE := fun σ H Q => ∀ p, H p = none → ta σ (upd H p (.dK [])) fun x H1 => ∃ m ks, x = .ref m ∧ p ≠ m ∧ H1 p = some (.dK []) ∧ H1 m = some (.dK ks) ∧ ks.length ≤ 1000 ∧ tb σ (upd H1 p (.dK (mergeK [] ks))) fun y H2 =>
  ∃ n ls, y = .ref n ∧ p ≠ n ∧ H2 p = some (.dK (mergeK [] ks)) ∧ H2 n = some (.dK ls) ∧ ls.length ≤ 1000 ∧ Q (.ref p) (upd H2 p (.dK (mergeK (mergeK [] ks) ls)))
theorem pe_merge2 {a b : Expr} {ta tb : TE} {pos : Pos} (ha : PE X a ta) (hb : PE X b tb) : PE X (.Dict [none, none] [a, b] pos) (tMerge2 ta tb) := by
  refine ⟨fun pins s σ H Q I h => ?_⟩
  rw [arm_eval_Dict]
  refine wpAny_bind (wpAny_standAt ?_)
  show wpAny (model X.prog X.w) X.A (dictDisplay [(none, do let x ← eval a X.env; standAt pos; pure x), (none, do let x ← eval b X.env; standAt pos; pure x)]) (EP X pins σ Q) X.xe s
  have hn := I.hok.fresh (Nat.le_refl s.heap.objs.size)
  have I1 := I.laid (a := s.heap.objs.size) (o := .dK []) (h' := s.heap.push { cls := .type "dict", data := .dict #[] }) (t' := s.toks) (fun _ _ q => Heap.get?_push_of_some _ q) (Nat.le_refl _) (dk_empty s.heap I.big)
  unfold dictDisplay
  simp only [List.forIn_cons, List.forIn_nil]
  have l1 : ∀ {ks : List (Key × V)}, ks.length ≤ 1000 → ([] : List (Key × V)).length + ks.length ≤ sizeLine := fun z => by rw [List.length_nil, sizeLine_eq]; omega
  refine wpAny_bind (wpAny_bind (wpAny_bind ?_))
  simp only [List.isEmpty_nil, if_true]
  refine wpAny_pure ?_
  dsimp only
  refine wpAny_bind (wpAny_alloc ?_)
  refine wpAny_bind (wpAny_holding (wpAny_bind (thn (ha.run pins _ σ _ _ I1 (h _ hn)) fun u s1 ⟨x, H1, I2, rx, m, ks, ex, hne, e1, e2, hz, q⟩ => wpAny_bind (wpAny_standAt (wpAny_pure ?_)))))
  subst ex
  cases (show u = Value.ref m from rx)
  refine wpAny_bind (wpAny_onRaise (wpAny_tryCatch (wpAny_onRaise (wpAny_holding (d_merge I2 e1 e2 hne (l1 hz) (fun z => by cases z) fun s2 I3 => ?_)))))
  refine wpAny_pure ?_
  dsimp only
  refine wpAny_bind (wpAny_bind ?_)
  simp only [List.isEmpty_nil, if_true]
  refine wpAny_pure ?_
  dsimp only
  refine wpAny_bind (wpAny_pure ?_)
  refine wpAny_bind (wpAny_holding (wpAny_bind (thn (hb.run pins _ σ _ _ I3 q) fun u s3 ⟨y, H2, I4, ry, n, ls, ey, hne2, e3, e4, hz2, q2⟩ => wpAny_bind (wpAny_standAt (wpAny_pure ?_)))))
  subst ey
  cases (show u = Value.ref n from ry)
  have l2 : (mergeK [] ks).length + ls.length ≤ sizeLine := by
    have := length_mergeK ks []
    rw [List.length_nil] at this
    rw [sizeLine_eq]
    omega
  refine wpAny_bind (wpAny_onRaise (wpAny_tryCatch (wpAny_onRaise (wpAny_holding (d_merge I4 e3 e4 hne2 l2 (fun z => by cases z) fun s4 I5 => ?_)))))
  refine wpAny_pure ?_
  dsimp only
  refine wpAny_pure ?_
  refine wpAny_bind ?_
  simp only [List.isEmpty_nil, if_true]
  refine wpAny_pure ?_
  dsimp only
  exact wpAny_pure ⟨.ref s.heap.objs.size, _, I5, rfl, q2⟩
end
/-! ### C(**d) -/
/-- a text's letters -/
def keyStr : Value → Str
  | .str z _ => z
  | _ => ""
theorem kwIn_run {M : Model} {A : Around} {E : Value → Shared → Prop} {s : Shared} {f : Value} {d : Addr} {o : Obj} {es : Array DictEntry} {ep : Nat} {Q : List (Str × Value) → Shared → Prop} (ho : s.heap.get? d = some o) (hd : o.data = .dict es ep) (hk : ∀ e ∈ es, ∃ z t, e.key = .str z t)
    (h : Q (es.toList.map fun e => (keyStr e.key, e.val)) s) : wpAny M A (keywordsIn f d) Q E s := by
  unfold keywordsIn
  refine wpAny_bind (wpAny_dictEntries ho hd ?_)
  rw [← Array.forIn_toList]
  refine wpAny_bind (wpAny_forIn_list _ (fun rest acc s' => s' = s ∧ (∀ e ∈ rest, e ∈ es) ∧ acc ++ (rest.map fun e => (keyStr e.key, e.val)) = es.toList.map fun e => (keyStr e.key, e.val)) _ ?_ ?_ _ _ ⟨rfl, fun e he => Array.mem_toList_iff.mp he, by rw [List.nil_append]⟩)
  · intro x rest acc s' ⟨e1, hx, e2⟩
    obtain ⟨z, t, e3⟩ := hk x (hx x List.mem_cons_self)
    have e4 : keyStr x.key = z := by rw [e3]; rfl
    rw [List.map_cons, e4] at e2
    rw [e3]
    exact wpAny_pure ⟨e1, fun e he => hx e (List.mem_cons_of_mem _ he), by rw [List.append_assoc]; exact e2⟩
  · intro acc s' ⟨e1, _, e2⟩
    rw [List.map_nil, List.append_nil] at e2
    rw [e2, e1]
    exact wpAny_pure h
theorem forIn1 {M : Model} {A : Around} {E : Value → Shared → Prop} {s : Shared} {α β : Type} {f : α → β → Sem (ForInStep β)} {a : α} {b : β} {Q : β → Shared → Prop} (h : wpAny M A (f a b) (fun r s' => match r with | .yield b' => Q b' s' | .done b' => Q b' s') E s) : wpAny M A (forIn [a] b f) Q E s := by
  rw [List.forIn_cons]
  refine wpAny_bind (wpAny_mono h (fun r s' z => ?_) fun _ _ z => z)
  cases r with
  | yield b' =>
    show wpAny M A (forIn [] b' f) Q E s'
    rw [List.forIn_nil]
    exact wpAny_pure z
  | done b' => exact wpAny_pure z
theorem mergedK_run {M : Model} {A : Around} {E : Value → Shared → Prop} {s : Shared} {f : Value} {x : Sem Value} {Q : Addr → Shared → Prop} (h : wpAny M A x (fun v s1 => wpAny M A (mergeMapping s.heap.objs.size v true) (fun _ s2 => Q s.heap.objs.size s2) (fun _ _ => False) s1) E { s with heap := s.heap.push { cls := .type "dict", data := .dict #[] } }) :
    wpAny M A (mergedKeywords f [(none, x)]) Q E s := by
  unfold mergedKeywords
  refine wpAny_bind (wpAny_alloc ?_)
  refine wpAny_bind (wpAny_holding ?_)
  refine wpAny_bind (forIn1 ?_)
  refine wpAny_bind (wpAny_pure ?_)
  refine wpAny_bind (wpAny_mono h (fun v s1 z => ?_) fun _ _ z => z)
  refine wpAny_bind (wpAny_onRaise (wpAny_holding (wpAny_tryCatch (wpAny_onRaise (wpAny_mono z (fun _ s2 z2 => ?_) fun _ _ z => z.elim)))))
  refine wpAny_pure ?_
  refine wpAny_bind (wpAny_pure ?_)
  exact wpAny_pure (wpAny_pure z2)
theorem evalArgs_dd {M : Model} {A : Around} {E : Value → Shared → Prop} {s : Shared} {f : Value} {x : Sem Value} {Q : Args → Shared → Prop} (h : wpAny M A x (fun v s1 => wpAny M A (mergeMapping s.heap.objs.size v true) (fun _ s2 => ∃ o es ep, s2.heap.get? s.heap.objs.size = some o ∧ o.data = .dict es ep ∧ (∀ e ∈ es, ∃ z t, e.key = .str z t) ∧ Q ⟨[], es.toList.map fun e => (keyStr e.key, e.val)⟩ s2) (fun _ _ => False) s1) E { s with heap := s.heap.push { cls := .type "dict", data := .dict #[] } }) :
    wpAny M A (evalArgs f true [] [(none, x)]) Q E s := by
  unfold evalArgs
  refine wpAny_bind ?_
  refine wpAny_bind (wpAny_pure ?_)
  refine wpAny_pure ?_
  refine wpAny_bind (wpAny_pure ?_)
  refine wpAny_holding ?_
  show wpAny M A (mergedKeywords f [(none, x)] >>= _) Q E s
  refine wpAny_bind (mergedK_run (wpAny_mono h (fun v s1 z => wpAny_mono z (fun _ s2 z2 => ?_) fun _ _ z => z) fun _ _ z => z))
  obtain ⟨o, es, ep, ho, hd, hk, q⟩ := z2
  refine wpAny_bind (wpAny_pure ?_)
  exact wpAny_bind (wpAny_holding (kwIn_run ho hd hk (wpAny_pure q)))
theorem callWith_st {M : Model} {A : Around} {E : Value → Shared → Prop} {s : Shared} {f : Value} {first : List Value} {pos : Pos} {Q : Value → Shared → Prop} {P : Heap → Prop} {args : List (Bool × Sem Value)} {kws : List (Option Str × Sem Value)} (hst : (args.any (·.1) || kws.any (·.1.isNone)) = true)
    (hk : ∀ h, P h → ∃ k, (k = Keeper.frame ∨ k = Keeper.machine ∨ k = Keeper.boundFrame) ∧ PySem.W.Looks M h (keeperOf f) k)
    (h : wpAny M A (evalArgs f true args kws) (fun a s1 => P s1.heap ∧ wpAny M A (call f (first ++ a.pos) a.kw) Q E s1) E s) : wpAny M A (callWith pos f first args kws) Q E s := by
  unfold callWith
  refine wpAny_bind (wpAny_holding (wpAny_mono h (fun a s1 z => wpAny_bind (wpAny_standAt ?_)) fun _ _ z => z))
  obtain ⟨k, hk', L⟩ := hk _ z.1
  simp only [hst]
  refine wpAny_bind (L.here ?_)
  have tail : ∀ {t : Sem Value}, wpAny M A t Q E s1 → wpAny M A (t >>= fun r => holding [r] point >>= fun _ => pure r) Q E s1 := fun ht => wpAny_bind (wpAny_mono ht (fun r s2 hr => wpAny_bind (wpAny_holding (wpAny_point (wpAny_pure hr)))) fun _ _ x => x)
  have marked (mk : Value) : wpAny M A (callMarked mk f (first ++ a.pos) a.kw) Q E s1 := by
    unfold callMarked
    exact Calls.wpAny_keep z.2
  rcases hk' with rfl | rfl | rfl <;> dsimp only <;> first | exact tail (marked _) | exact tail (PySem.W.wpAny_operating z.2) | exact tail (wpAny_operateT z.2)
theorem key_strs {P : Program} {w : World} : ∀ {ks : List Str} {zs : List V} {vs : List (Key × Value)} {es : List DictEntry}, zs.length = ks.length → KV ((ks.zip zs).map fun p => ((Sum.inr p.1 : Key), p.2)) vs → Pairs (mixKind P w) es vs →
    (∀ e ∈ es, ∃ z t, e.key = .str z t) ∧ ∃ ws, Vals zs ws ∧ (es.map fun e => (keyStr e.key, e.val)) = ks.zip ws
  | [], [], _, _, _, .nil, .nil => ⟨fun e he => (nomatch he), [], .nil, rfl⟩
  | k :: ks, z :: zs, _, _, hl, .cons (b := q) r t, .cons (e := e) h1 h2 h3 => by
    obtain ⟨r1, r2⟩ := r
    obtain ⟨a1, ws, a2, a3⟩ := key_strs (ks := ks) (zs := zs) (Nat.succ.inj hl) t h3
    have r1 : (Sum.inr k : Key) = q.1 := r1
    rw [← r1] at h1
    obtain ⟨t, et⟩ := Value.isStrOf_shape (x := k) (v := e.key) h1
    refine ⟨fun e' he => ?_, e.val :: ws, .cons (by rw [h2]; exact r2) a2, ?_⟩
    · rcases List.mem_cons.mp he with rfl | he
      · exact ⟨k, t, et⟩
      · exact a1 e' he
    · rw [List.map_cons, a3, et]
      rfl
def tMakeKw (C : Addr) (ks : List Str) (sp : Sp) (te : TE) : TE := fun σ H Q => ∀ p, H p = Option.none → te σ (upd H p (.dK [])) fun x H1 => ∃ b kvs zs, x = .ref b ∧ p ≠ b ∧ H1 p = some (.dK []) ∧ H1 b = some (.dK kvs) ∧ kvs.length ≤ 1000 ∧ zs.length = ks.length ∧ mergeK [] kvs = ((ks.zip zs).map fun q => ((Sum.inr q.1 : Key), q.2)) ∧
  ∀ H2, H2 = upd H1 p (.dK (mergeK [] kvs)) → ∀ x dx, H2 x = Option.none → H2 dx = Option.none → dx ≠ x → sp (.ref x :: zs) (upd (upd H2 dx (.own x)) x (.ins C dx [])) (fun v H3 => v = .non ∧ Q (.ref x) H3) E0
theorem pe_makeKwM {X : Cx} {j k : Nat} {C f : Addr} {fd : FuncData} {ps ks : List Str} {sp : Sp} {x : Str} {e : Expr} {te : TE} {p kp pos : Pos} {g : List Value → List Value → List Value} {gV : List V → List V → List V} (M : Mk X.K C f) (F : FnOk X.prog X.w X.K X.mg X.base CX0 k f fd ps sp) (hb : KBn X.K fd ps 1 ks g gV) (hgV : ∀ v zs, gV [v] zs = v :: zs) (hm : X.mg x = some (.ref C))
    (hr : Room j X.A) (hk : k + 1 ≤ j) (hg : Gl X x) (he : PE X e te) (hdb : (x == ("__debug__" : Str)) = false := by decide) : PE X (.Call (.Name x p) [] [⟨none, e, kp⟩] pos) (tMakeKw C ks sp te) := by
  refine ⟨fun pins s σ H Q I h => ?_⟩
  refine wpAny_Call_Name_kw (ld_glob I hg hm ?_ hdb)
  have hn := I.hok.fresh (Nat.le_refl s.heap.objs.size)
  have I1 := I.laid (a := s.heap.objs.size) (o := .dK []) (h' := s.heap.push { cls := .type "dict", data := .dict #[] }) (t' := s.toks) (fun _ _ q => Heap.get?_push_of_some _ q) (Nat.le_refl _) (dk_empty s.heap I.big)
  refine callWith_st (P := X.K.In) rfl (PySem.W.keeps_K M.kp) (evalArgs_dd (wpAny_bind (thn (he.run pins _ σ _ _ I1 (h _ hn)) fun u s1 ⟨y, H1, I2, ry, b, kvs, zs, ey, hne, e1, e2, hz, hl, em, q⟩ => wpAny_bind (wpAny_standAt (wpAny_pure ?_)))))
  subst ey
  cases (show u = Value.ref b from ry)
  refine d_merge I2 e1 e2 hne (by rw [List.length_nil, sizeLine_eq]; omega) (fun _ => rfl) fun s2 I3 => ?_
  obtain ⟨z, hd, vs, rel, dd⟩ := dk_of I3.hok upd_same
  obtain ⟨o, es, ep, ho, hc, hdd, hkk, hp, hnn⟩ := dd
  rw [em] at rel
  obtain ⟨a1, ws, a2, a3⟩ := key_strs hl rel hp
  refine ⟨o, es, ep, ho, hdd, fun e he => a1 e (Array.mem_toList_iff.mpr he), I3.kIn, ?_⟩
  rw [a3]
  refine run_makeN (n := 0) (us := []) (vs := []) (E := E0) M F (hr.mono hk) hb pass0 I3 .nil a2 rfl hl ?_
  intro x dx nx nd hne2
  rw [hgV]
  exact q _ rfl x dx nx nd hne2
end Lt
set_option Elab.async false
set_option linter.all false
set_option maxRecDepth 100000
set_option maxHeartbeats 4000000
/-! Rules: o.m(k = v) of a def that takes the rest of the keywords. -/
namespace Lt
open PySem PySem.Spec PyProof.Rows L2
open PySem.W (dictOf kwEs putL putN)
open C8 (Cal Met Mak pe_c pe_mk pe_mt pe_mt0 pe_gc)
section
variable {P : Program} {w : World} {A : Around} {E : Value → Shared → Prop} {s : Shared}
/-- a new name in a dict of texts -/
theorem nsSet_new {d : Addr} {es : List DictEntry} {n : Nat} {k : Str} {v : Value} {Q : Unit → Shared → Prop} (D : s.heap.get? d = some (dictOf es n)) (hs : ∀ e ∈ es, e.key.isStr k = false) (hr : ∀ e ∈ es, e.refKey = false)
    (h : ∀ h', h'.get? d = some (dictOf (es ++ [⟨PyData.keyHash w.params k, .str k s.toks, v⟩]) (n + 1)) → Heap.SameBut d s.heap h' → Q () { s with heap := h', toks := s.toks + 1 }) : wpAny (model P w) A (nsSet d k v) Q E s := by
  have e1 : es.any (·.key.isStr k) = false := List.any_eq_false.mpr fun e he => by rw [hs e he]; exact Bool.false_ne_true
  have e2 : es.any (·.refKey) = false := List.any_eq_false.mpr fun e he => by rw [hr e he]; exact Bool.false_ne_true
  have c : aRefKeyMayBeTheName k es.toArray = false := by
    rw [aRefKeyMayBeTheName_at, ← Array.any_toList, ← Array.any_toList]
    show (!es.any (·.key.isStr k) && es.any (·.refKey)) = false
    rw [e2, Bool.and_false]
  have q : Obj.putName k (PyData.keyHash w.params k) (.str k s.toks) v (dictOf es n) = dictOf (es ++ [⟨PyData.keyHash w.params k, .str k s.toks, v⟩]) (n + 1) := by
    rw [PySem.W.putName_dict, PySem.W.putL_new hs]
    show dictOf _ (if es.any (·.key.isStr k) then n else n + 1) = _
    rw [e1, if_neg Bool.false_ne_true]
  unfold nsSet
  refine wpAny_bind (wpAny_bind (wpAny_askSetting (wpAny_pure (wpAny_bind (wpAny_mkText (wpAny_bind (wpAny_loadPart D ?_)))))))
  dsimp only
  rw [c]
  refine wpAny_updatePart D (h _ ?_ (Heap.SameBut.update ..))
  rw [← q]
  refine Heap.get?_update_self _ D ?_
  show (Obj.putName k (PyData.keyHash w.params k) (.str k s.toks) v (dictOf es n)).isFreed = false
  rw [q]
  rfl
theorem fill_new {Q : PUnit → Shared → Prop} {d : Addr} : ∀ (ex : List (Str × Value)) (s : Shared) (es : List DictEntry) (n : Nat), s.heap.get? d = some (dictOf es n) → (∀ e ∈ es, ∀ x ∈ ex, e.key.isStr x.1 = false) → (∀ e ∈ es, e.refKey = false) → (ex.map (·.1)).Nodup →
    (∀ h', h'.get? d = some (dictOf (es ++ kwEs w.params s.toks ex) (n + ex.length)) → Heap.SameBut d s.heap h' → Q ⟨⟩ { s with heap := h', toks := s.toks + ex.length }) →
    wpAny (model P w) A (forIn ex PUnit.unit fun x _ => (nsSet d x.1 x.2 >>= fun _ => pure (ForInStep.yield PUnit.unit))) Q E s
  | [], s, es, n, D, _, _, _, h => by
    rw [List.forIn_nil]
    refine wpAny_pure (h s.heap ?_ (Heap.SameBut.refl _ _))
    show _ = some (dictOf (es ++ []) n)
    rw [List.append_nil]
    exact D
  | x :: r, s, es, n, D, hs, hr, hn, h => by
    obtain ⟨n1, n2⟩ := List.nodup_cons.mp (show (x.1 :: r.map (·.1)).Nodup from hn)
    rw [List.forIn_cons]
    refine wpAny_bind (wpAny_bind (nsSet_new D (fun e he => hs e he x List.mem_cons_self) hr fun h' D' sb => wpAny_pure ?_))
    refine fill_new r { s with heap := h', toks := s.toks + 1 } _ _ D' (fun e he y hy => ?_) (fun e he => ?_) n2 fun h2 D2 sb2 => ?_
    · rcases List.mem_append.mp he with he | he
      · exact hs e he y (List.mem_cons_of_mem _ hy)
      · rw [List.mem_singleton.mp he]
        exact beq_eq_false_iff_ne.mpr fun q => n1 (by rw [q]; exact List.mem_map_of_mem hy)
    · rcases List.mem_append.mp he with he | he
      · exact hr e he
      · rw [List.mem_singleton.mp he]
        rfl
    · rw [show s.toks + 1 + r.length = s.toks + (r.length + 1) from by omega]
      refine h h2 ?_ (sb.trans sb2)
      rw [D2, List.append_assoc, show n + 1 + r.length = n + (r.length + 1) from by omega]
      rfl
theorem kw_dict {d : Addr} {h : Heap} {ks : List Str} {ws : List Value} {zs : List V} {t : Tok} {n : Nat} (hd : h.get? d = some (dictOf (kwEs w.params t (ks.zip ws)) n)) (hS : (d == sysModules) = false) (r : Vals zs ws) (hl : zs.length = ks.length) (nd : ks.Nodup) (hz : ks.length ≤ 1000) {H : Hp} :
    ObjOk P w H h d (.dK ((ks.zip zs).map fun p => ((Sum.inr p.1 : Key), p.2))) := by
  have l2 : ws.length = ks.length := by rw [← r.length, hl]
  refine ⟨by rw [List.length_map, List.length_zip, hl, Nat.min_self, sizeLine_eq]; omega, hS, (ks.zip ws).map fun p => ((Sum.inr p.1 : Key), p.2), ?_, ?_⟩
  · clear hd nd hz l2
    induction ks generalizing zs ws with
    | nil => exact .nil
    | cons k ks ih =>
      cases r with
      | nil => cases hl
      | cons r1 r2 => exact .cons ⟨rfl, r1⟩ (ih r2 (Nat.succ.inj hl))
  · refine ⟨_, _, n, hd, ⟨rfl, rfl, rfl⟩, rfl, fun e he => ?_, ?_, ?_⟩
    · obtain ⟨k, u, hk, hh⟩ := PySem.W.kwEs_key _ t e (List.mem_toArray.mp he)
      exact ⟨.inr k, by rw [hk]; exact mixKind_str P w k u, hh.trans rfl⟩
    · have g : ∀ (l : List (Str × Value)) (t : Tok), Pairs (mixKind P w) (kwEs w.params t l) (l.map fun p => ((Sum.inr p.1 : Key), p.2)) := fun l => by
        induction l with
        | nil => exact fun _ => .nil
        | cons x r ih => exact fun t => .cons (mixKind_str P w x.1 t) rfl (ih (t + 1))
      exact g _ t
    · rw [List.map_map]
      have e : (ks.zip ws).map ((fun x : Key × Value => x.1) ∘ fun p : Str × Value => ((Sum.inr p.1 : Key), p.2)) = ((ks.zip ws).map Prod.fst).map Sum.inr := by
        rw [List.map_map]
        rfl
      rw [e, List.map_fst_zip (Nat.le_of_eq l2.symm)]
      exact List.pairwise_map.mpr (List.Pairwise.imp (fun h q => h (Sum.inr.inj q)) nd)
end
/-- a def of self and the rest of the keywords -/
structure FnKw (P : Program) (w : World) (K : Fg) (mg : Str → Option Value) (base : Heap) (k : Nat) (f : Addr) (ks : List Str) (sp : Sp) : Prop where
  run : ∀ (A : Around) (outer : List Env) (s : Shared) (H : Hp) (a : Addr) (ws : List Value) (zs : List V) (Q : VK) (E : XK), Room k A → Env0 P w K mg base A outer s H → Vals zs ws → zs.length = ks.length →
    (∀ o, H o = none → sp [.ref a, .ref o] (upd H o (.dK ((ks.zip zs).map fun p => ((Sum.inr p.1 : Key), p.2)))) Q E) → codeAny (model P w) A (.call (.ref f) ⟨[.ref a], ks.zip ws⟩) (CR CX0 outer P w H s Q E) s
section
variable {P : Program} {w : World} {K : Fg} {mg : Str → Option Value} {base : Heap}
theorem fnKw_of {d : Dm} {fd : FuncData} {k : Nat} {N ks : List Str} {p1 p2 : Str} {sp : Sp} (F : FnD K d fd) (S : FnScope N [p1, p2] (defScope d.st)) (b : BodyOk P w K mg base k N d sp) (hdf : d.dvs K = []) (nd : ks.Nodup) (hz : ks.length ≤ 1000)
    (hb : ∀ (kV doc pm : Value) (an : Option Addr) (cdv ct u : Value) (ws : List Value), ws.length = ks.length → bindArgs (PySem.W.fnOf d.name d.qual (defArgs d.st) (defBody d.st) (defScope d.st) .none kV doc pm an cdv ct) ⟨[u], ks.zip ws⟩ =
      ((alloc ({ cls := .type "dict", data := .dict #[] } : Obj) : Sem Addr) >>= fun D => (forIn (ks.zip ws) PUnit.unit fun x _ => (nsSet D x.1 x.2 >>= fun _ => pure (ForInStep.yield PUnit.unit))) >>= fun _ => pure [(p1, u), (p2, Value.ref D)])) :
    FnKw P w K mg base (k + 1) (d.ad K) ks sp := by
  refine ⟨fun A outer s H a ws zs Q E hr e0 r hl hsp => ?_⟩
  obtain ⟨oc, od, dV, kV, doc, pm, an, cdv, ct, osl, rfl, lk, hcd, hD, hK⟩ := F.ex
  have hdV : dV = .none := by
    rcases hD with ⟨_, e⟩ | ⟨e, _⟩
    · exact e
    · exact absurd hdf e
  subst hdV
  have hn : H s.heap.objs.size = none := e0.hok.fresh (Nat.le_refl _)
  have l2 : ws.length = ks.length := by rw [← r.length, hl]
  refine StX.run_bnd lk hcd S hr e0 (G := fun xs H2 => ∃ o, H o = none ∧ xs = [.ref a, .ref o] ∧ H2 = upd H o (.dK ((ks.zip zs).map fun p => ((Sum.inr p.1 : Key), p.2)))) (fun A' Ex Q' h => ?_) fun s2 H2 xs ⟨o, ho, ex, eH⟩ hr' => ?_
  · rw [hb kV doc pm an cdv ct (.ref a) ws l2]
    refine wpAny_bind (wpAny_alloc ?_)
    have D0 : (s.heap.push ({ cls := .type "dict", data := .dict #[] } : Obj)).get? s.heap.objs.size = some (dictOf [] 0) := Heap.get?_push_size _ rfl
    refine wpAny_bind (fill_new (ks.zip ws) { s with heap := s.heap.push ({ cls := .type "dict", data := .dict #[] } : Obj) } [] 0 D0 (fun e he => nomatch he) (fun e he => nomatch he) (by
      rw [List.map_fst_zip (Nat.le_of_eq l2.symm)]
      exact nd) fun h' D' sb => wpAny_pure ?_)
    have kp : ∀ b x, s.heap.get? b = some x → h'.get? b = some x := fun b x e => (sb.2 b (Nat.ne_of_lt (Heap.lt_size e))).trans (Heap.get?_push_of_some _ e)
    have hS : (s.heap.objs.size == sysModules) = false := beq_eq_false_iff_ne.mpr (Ne.symm (Nat.ne_of_lt (StX.env0_big e0)))
    have new : ObjOk P w (upd H s.heap.objs.size (.dK ((ks.zip zs).map fun p => ((Sum.inr p.1 : Key), p.2)))) h' s.heap.objs.size (.dK ((ks.zip zs).map fun p => ((Sum.inr p.1 : Key), p.2))) := kw_dict D' hS r hl nd hz
    have e2 : Env0 P w K mg base A outer { s with heap := h', toks := s.toks + (ks.zip ws).length } (upd H s.heap.objs.size (.dK ((ks.zip zs).map fun p => ((Sum.inr p.1 : Key), p.2)))) := by
      refine ⟨e0.frames, e0.mod, fun b x e => ⟨kp b x (e0.bs b x e).1, ?_⟩, ?_, Heap.FunFrames.of_keeps (fun b x e _ => ⟨x, kp b x e, rfl⟩) e0.funs, fun b hb => ?_, e0.hok.laid kp (Nat.le_refl _) new, e0.bare⟩
      · rw [upd_ne (Nat.ne_of_lt (Heap.lt_size (e0.bs b x e).1))]
        exact (e0.bs b x e).2
      · show base.objs.size ≤ h'.objs.size
        exact Nat.le_trans e0.bsz (Nat.le_of_lt (Heap.lt_size D'))
      · obtain ⟨_, x, hx, _⟩ := e0.funs.mem hb
        rw [upd_ne (Nat.ne_of_lt (Heap.lt_size hx))]
        exact e0.frf b hb
    exact h _ _ [.ref a, .ref s.heap.objs.size] [.ref a, .ref s.heap.objs.size] e2 (Un.laid kp (Nat.le_refl _) hn) rfl (fun _ _ z => z) (.cons rfl (.cons rfl .nil)) rfl ⟨_, hn, rfl, rfl⟩
  · subst ex eH
    obtain ⟨t, h1, h2⟩ := b cdv A outer s2 _ _ Q E hr' (hsp o ho)
    exact ⟨t, h1.nox, h2⟩
end
/-- o.m(k = v, ..) -/
def tBut (C : Addr) (m : Str) (ks : List Str) (sp : Sp) (te : TE) (tk : TA) : TE := fun σ H Q => te σ H fun x H1 => ∃ a dx fs, x = .ref a ∧ H1 a = some (.ins C dx fs) ∧ fs.lookup m = none ∧ tk σ H1 fun zs H2 => zs.length = ks.length ∧
  ∀ o, H2 o = none → sp [.ref a, .ref o] (upd H2 o (.dK ((ks.zip zs).map fun p => ((Sum.inr p.1 : Key), p.2)))) Q E0
theorem pe_butM {X : Cx} {j k : Nat} {C f : Addr} {m : Str} {ks : List Str} {sp : Sp} {o : Expr} {kws : List Keyword} {ta : TE} {tk : TA} {apos pos : Pos} {pl : Sem Bool} (F : FnKw X.prog X.w X.K X.mg X.base k f ks sp) (c : Cls X.K C) (hm : Meth X.K C m f) (hr : Room j X.A) (hk : k ≤ j) (he : PE X o ta) (hkw : PK X kws tk)
    (hall : (backToKw pos (keywordEach kws X.env)).all (·.1.isSome) = true := by rfl) (hks : (backToKw pos (keywordEach kws X.env)).filterMap (·.1) = ks := by rfl)
    (hpl : ((backTo pos (starEach [] X.env)).any (·.1) || (backToKw pos (keywordEach kws X.env)).any (·.1.isNone)) = false := by rfl)
    (ht : eval (.Call (.Attribute o m apos) [] kws pos) X.env = (do
      let ov ← eval o X.env
      standAt apos.atName
      let (f, first) ← holding [ov] (getMethod ov m pl)
      callWith pos f first (backTo pos (starEach [] X.env)) (backToKw pos (keywordEach kws X.env))) := by rfl) :
    PE X (.Call (.Attribute o m apos) [] kws pos) (tBut C m ks sp ta tk) := by
  refine ⟨fun pins s σ H Q I h => ?_⟩
  refine PySem.W.methodCall_KW (pl := pl) (thn (he.run pins s σ H _ I h) fun u s1 ⟨x, H1, I1, rx, a, dx, fs, ex, ea, l, q⟩ => ?_) ht
  subst ex
  obtain rfl : u = Value.ref a := rx
  refine getmeth_ok I1 ea c hm l ?_
  refine PySem.W.callWith_KW0 (first := [.ref a]) (h₀ := X.base) I.ok.mod.kin hm.kp hall (thn (hkw.run pos pins s1 σ H1 _ I1 q) fun ws s2 ⟨zs, H2, I2, rz, hl, q2⟩ => ⟨I2.kIn, ?_⟩) hpl
  rw [hks]
  refine wpAny_call (codeAny_mono (F.run X.A X.stack s2 H2 a ws zs Q E0 (hr.mono hk) I2.env0 rz hl q2) fun r s' hq => ?_)
  cases r with
  | error e => exact False.elim hq
  | ok fl =>
    cases fl with
    | ret u => exact I2.after hq
    | next => exact False.elim hq
    | brk => exact False.elim hq
    | cont => exact False.elim hq
/-! ### d.update -/
theorem mt_update {X : Cx} : MtM X "dict.update" (fun x vs H Q => ∃ a b kvs more, x = .ref a ∧ vs = [.ref b] ∧ a ≠ b ∧ H a = some (.dK kvs) ∧ H b = some (.dK more) ∧ kvs.length + more.length ≤ 1000 ∧ Q .non (upd H a (.dK (mergeK kvs more)))) := by
  intro pins s σ H x vs v us Q I rx rv h
  obtain ⟨a, b, kvs, more, rfl, rfl, hne, ea, eb, hz, q⟩ := h
  cases rx
  obtain ⟨u, rfl, ru⟩ := rv.one
  cases ru
  exact d_update I ea eb hne (by rw [sizeLine_eq]; omega) fun s' I' => ⟨.non, _, I', rfl, q⟩
end Lt
set_option Elab.async false
set_option linter.all false
set_option maxRecDepth 100000
set_option maxHeartbeats 4000000
/-! a piece's length, what is told of it, a piece changed, two pieces -/
namespace Lt
open PySem PySem.Spec PyProof.Rows L2
open C8 (Cal Met Mak pe_c pe_mk pe_mt pe_mt0 pe_gc)
section
variable {P : Program} {w : World} {K : Fg} {mg : Str → Option Value} {base : Heap}
/-- a piece is made -/
theorem make_pc {d : PcD} {pa x dx : Addr} {H1 : Hp} {vs : List V} {R : Hp → Prop} {E : XK} (nx : H1 x = none) (nd : H1 dx = none) (hne : dx ≠ x) (hp : SqT K H1 pa (d.parts.map V.str)) (ok : d.ok) (ev : vs = .ref x :: pcArgs d pa) (q : ∀ H', Same H1 H' → PcAt K H' (.ref x) d → R H') :
    sp_Piece_init K vs (upd (upd H1 dx (.own x)) x (.ins (ga K "Piece") dx [])) (fun v H2 => v = .non ∧ R H2) E := by
  have nx2 : upd H1 dx (.own x) x = none := by rw [upd_ne (Ne.symm hne)]; exact nx
  have s1 : Same H1 (upd (upd H1 dx (.own x)) x (.ins (ga K "Piece") dx [])) := (same_new nd).trans (same_new nx2)
  refine ⟨x, dx, pa, d, ev, upd_same, SqTm s1 hp, ok, fun H' z hz k1 k2 => ⟨rfl, ?_⟩⟩
  have s2 : Same H1 H' := fun b o h => k1 b o (ne_of_none h nx) (s1 b o h)
  exact q H' s2 ⟨x, dx, pa, z, rfl, k2, SqTm s2 hp, hz, ok⟩
def sp_Piece_bare (K : Fg) : Sp := fun vs H Q _ => ∃ (a : Addr) (d : PcD), vs = [.ref a] ∧ PcAt K H (.ref a) d ∧ ∀ H', Same H H' → Q (.int (bare d)) H'
theorem len_Piece_bare {vs H Q E} (h : sp_Piece_bare K vs H Q E) : vs.length = 1 := by
  obtain ⟨_, _, rfl, _⟩ := h
  rfl
theorem sc_Piece_bare : FnScope ["self", "part"] ["self"] (defScope d_Piece_bare.st) := ⟨rfl, rfl, rfl, by decide +kernel, rfl, by decide +kernel, by decide +kernel⟩
theorem bi_Piece_bare {K : Fg} {fd : FuncData} (F : FnD K d_Piece_bare fd) : Binds K fd ["self"] [] := FunD.bindsN F fun _ _ _ _ _ _ us hl => match us, hl with | [_], _ => rfl
theorem body_Piece_bare (T : Txt K mg) : BodyOk P w K mg base 0 ["self", "part"] d_Piece_bare (sp_Piece_bare K) := by
  intro cdv A outer s H vs Q E hr h
  obtain ⟨a, d, rfl, ⟨_, dx, pa, z, e0, e, hp, hz, ok⟩, k⟩ := h
  cases e0
  have nd := sc_Piece_bare.nd
  refine ⟨_, (pss_one (ps_ret (pe_op op_sub (pe_op op_add (pe_op op_add (pe_op op_add (pe_callTy call_int1 (by rfl) T.b_int PyProof.Rows.boot_int (pa_cons (pe_fld (pv 0) rfl) pa_nil)) (pe_callB call_len_str (by rfl) T.b_len PySem.boot_len (pa_cons (pe_fld (pv 0) rfl) pa_nil))) pe_int) (pe_callB (cr_sum rfl) (by rfl) T.b_sum PyProof.Rows.boot_sum (pa_cons (pe_lc (own := [("part", 1)]) (g := gName 1) (tt := tYes) rfl nd (pi_tup (pe_fld (pv 0) rfl)) (blkOk_by (N := ["self", "part"]) (sc := defScope d_Piece_bare.st) (by decide +kernel)) (fun _ _ _ _ _ => (pg_name (i := 1) nd rfl (Or.inl rfl))) (fun _ _ _ _ _ => pts_nil) (fun _ _ _ _ _ => (pe_op op_add (pe_callB call_len_str (by rfl) T.b_len PySem.boot_len (pa_cons (pv 1) pa_nil)) pe_int))) pa_nil))) pe_int))), ?_⟩
  have cl := T.c_Piece
  refine ⟨_, rfl, a, _, dx, _, _, rfl, e, cl, T.n_Piece_left, pcF_left, .inr ⟨d.left, rfl, ?_⟩⟩
  refine ⟨_, rfl, a, _, dx, _, _, rfl, e, cl, T.n_Piece_word, pcF_word, d.word, rfl, sz (by have := ok.word.2.1; omega), _, _, rfl, rfl, _, _, rfl, rfl, ?_⟩
  refine ⟨_, rfl, a, _, dx, _, _, rfl, e, cl, T.n_Piece_parts, pcF_parts, pa, rfl, ⟨_, hp⟩, fun D hD => ?_⟩
  refine lc_go walk_tup (fun i acc H' => Same H H' ∧ acc = (d.parts.take i).map fun p => V.int ((p.length : Int) + 2)) ⟨same_new hD, rfl⟩ (fun i acc H' _ p _ => SqTm p.1 hp) (fun i x acc Ha Hb hi hl ⟨p1, p2⟩ hD1 y => ?_) (fun acc H3 hl ⟨p1, p2⟩ hD1 => ?_)
  · obtain ⟨rfl, hx⟩ := y
    rw [List.getElem?_map] at hx
    obtain ⟨q, hq, rfl⟩ := Option.map_eq_some_iff.mp hx
    rw [List.length_map] at hi
    have hq6 := (ok.parts q (List.mem_of_getElem? hq)).2.1
    have h8 := ok.few
    refine ⟨rfl, yes ⟨_, rfl, q, rfl, sz (by omega), _, _, rfl, rfl, ?_⟩⟩
    refine lc_put hD1 hl (by omega) ⟨p1.mut hD, ?_⟩
    rw [p2, List.take_add_one, hq, List.map_append]
    rfl
  · rw [List.length_map, List.take_length] at p2
    refine ⟨D, d.parts.map fun p => (p.length : Int) + 2, rfl, by rw [List.map_map]; exact SqL.of (by rw [hD1, p2]; rfl), ?_⟩
    refine ⟨_, _, rfl, rfl, _, _, rfl, rfl, ?_⟩
    exact k _ p1
theorem prp_Piece_bare (T : Txt K mg) : Prp P w K mg base 1 (ga K "Piece") "bare" (sp_Piece_bare K) := by
  obtain ⟨fd, F⟩ := T.d_Piece_bare
  exact mkPrp T.c_Piece T.p_Piece_bare rfl F (bi_Piece_bare F) sc_Piece_bare (fun vs H Q E h => len_Piece_bare h) (body_Piece_bare T)
/-- a piece's told table -/
def sp_Piece_told (K : Fg) : Sp := fun vs H Q _ => ∃ (a : Addr) (d : PcD), vs = [.ref a] ∧ PcAt K H (.ref a) d ∧ ∀ p pa H', Same H H' → H p = none → H' p = some (.dK (toldD d pa)) → SqT K H' pa (d.parts.map V.str) → Q (.ref p) H'
theorem len_Piece_told {vs H Q E} (h : sp_Piece_told K vs H Q E) : vs.length = 1 := by
  obtain ⟨_, _, rfl, _⟩ := h
  rfl
theorem mergeK_told (d : PcD) (pa : Addr) : mergeK [] (toldD d pa) = toldD d pa := by rfl
theorem sc_Piece_told : FnScope ["self"] ["self"] (defScope d_Piece_told.st) := ⟨rfl, rfl, rfl, by decide +kernel, rfl, by decide +kernel, by decide +kernel⟩
theorem bi_Piece_told {K : Fg} {fd : FuncData} (F : FnD K d_Piece_told fd) : Binds K fd ["self"] [] := FunD.bindsN F fun _ _ _ _ _ _ us hl => match us, hl with | [_], _ => rfl
theorem body_Piece_told (T : Txt K mg) : BodyOk P w K mg base 0 ["self"] d_Piece_told (sp_Piece_told K) := by
  intro cdv A outer s H vs Q E hr h
  obtain ⟨a, d, rfl, ⟨_, dx, pa, z, e0, e, hp, hz, ok⟩, k⟩ := h
  cases e0
  have nd := sc_Piece_told.nd
  refine ⟨_, (pss_one (ps_ret (pe_disp (pps_cons pe_str (pe_fld (pv 0) rfl) (pps_cons pe_str (pe_fld (pv 0) rfl) (pps_cons pe_str (pe_fld (pv 0) rfl) (pps_cons pe_str (pe_fld (pv 0) rfl) (pps_cons pe_str (pe_fld (pv 0) rfl) (pps_cons pe_str (pe_fld (pv 0) rfl) (pps_cons pe_str (pe_fld (pv 0) rfl) (pps_cons pe_str (pe_fld (pv 0) rfl) pps_nil)))))))) (by rfl) (by rfl) (fun z => by cases z) (by decide)))), ?_⟩
  have cl := T.c_Piece
  intro p np
  have s1 : Same H (upd H p (.dK [])) := same_new np
  have e1 := s1 _ _ e
  refine ⟨_, rfl, a, _, dx, _, _, rfl, e1, cl, T.n_Piece_word, pcF_word, ?_⟩
  refine ⟨_, rfl, a, _, dx, _, _, rfl, e1, cl, T.n_Piece_parts, pcF_parts, ?_⟩
  refine ⟨_, rfl, a, _, dx, _, _, rfl, e1, cl, T.n_Piece_broken, pcF_broken, ?_⟩
  refine ⟨_, rfl, a, _, dx, _, _, rfl, e1, cl, T.n_Piece_marked, pcF_marked, ?_⟩
  refine ⟨_, rfl, a, _, dx, _, _, rfl, e1, cl, T.n_Piece_ahead, pcF_ahead, ?_⟩
  refine ⟨_, rfl, a, _, dx, _, _, rfl, e1, cl, T.n_Piece_behind, pcF_behind, ?_⟩
  refine ⟨_, rfl, a, _, dx, _, _, rfl, e1, cl, T.n_Piece_blanks, pcF_blanks, ?_⟩
  refine ⟨_, rfl, a, _, dx, _, _, rfl, e1, cl, T.n_Piece_left, pcF_left, ?_⟩
  refine ⟨upd_same, toldD d pa, rfl, by simp [toldD], ?_⟩
  rw [mergeK_told, upd_upd]
  exact k p pa _ (same_new np) np upd_same (SqTm (same_new np) hp)
theorem met_Piece_told (T : Txt K mg) : Met P w K mg base 1 (ga K "Piece") "told" (sp_Piece_told K) [] := by
  obtain ⟨fd, F⟩ := T.d_Piece_told
  exact mkMet T.c_Piece T.m_Piece_told F (bi_Piece_told F) sc_Piece_told (fun vs H Q E h => len_Piece_told h) (body_Piece_told T)
/-- what the keywords say of a piece -/
def sp_Piece_but (K : Fg) : Sp := fun vs H Q _ => ∃ (a o : Addr) (d e : PcD) (ots : List (Key × V)), vs = [.ref a, .ref o] ∧ PcAt K H (.ref a) d ∧ H o = some (.dK ots) ∧ ots.length ≤ 8 ∧ (∀ pa, mergeK (toldD d pa) ots = toldD e pa) ∧ e.parts = d.parts ∧ e.ok ∧ ∀ p H', Same H H' → PcAt K H' (.ref p) e → Q (.ref p) H'
def pcKs : List Str := ["word", "parts", "broken", "marked", "ahead", "behind", "blanks", "left"]
theorem kb_Piece {fd : FuncData} (F : FnD K d_Piece_init fd) : ∃ its : List Value, KBn K fd ["self", "word", "parts", "broken", "marked", "ahead", "behind", "blanks", "left"] 1 pcKs (fun us ws => us ++ ws) (fun vs zs => vs ++ zs) :=
  FunD.kbindsD (ps := ["self", "word", "parts", "broken", "marked", "ahead", "behind", "blanks", "left"]) F 1 pcKs (fun a _ c => a ++ c) (by show ([_, _, _, _, _, _] : List V) ≠ []; exact List.cons_ne_nil _ _) (fun r1 _ r3 => r1.append r3)
    (fun _ _ _ _ _ _ _ us its ws hl hi hw => match us, hl, its, hi, ws, hw with | [_], _, [_, _, _, _, _, _], _, [_, _, _, _, _, _, _, _], _ => ⟨_, rfl, by kernel_rfl⟩)
theorem pe_pcKw {X : Cx} {j : Nat} (T : Txt X.K X.mg) (hr : Room j X.A) (hk : 3 + 2 ≤ j) (hg : Gl X "Piece") {e : Expr} {te : TE} {p kp pos : Pos} (he : PE X e te) : PE X (.Call (.Name "Piece" p) [] [⟨none, e, kp⟩] pos) (tMakeKw (ga X.K "Piece") pcKs (sp_Piece_init X.K) te) := by
  obtain ⟨fd, F⟩ := T.d_Piece_init
  obtain ⟨its, hb⟩ := kb_Piece F
  exact pe_makeKwM T.k_Piece (mkFn F sc_Piece_init (fun vs H Q E h => len_Piece_init h) (body_Piece_init T)) hb (fun _ _ => rfl) T.g_Piece hr hk hg he
theorem sc_Piece_but : FnScope ["self", "others", "told"] ["self", "others"] (defScope d_Piece_but.st) := ⟨rfl, rfl, rfl, by decide +kernel, rfl, by decide +kernel, by decide +kernel⟩
theorem body_Piece_but (T : Txt K mg) : BodyOk P w K mg base 5 ["self", "others", "told"] d_Piece_but (sp_Piece_but K) := by
  intro cdv A outer s H vs Q E hr h
  obtain ⟨a, o, d, e, ots, rfl, hd, ho, hl, hm, hpe, oke, k⟩ := h
  have nd := sc_Piece_but.nd
  refine ⟨_, (pss_cons (ps_set (i := 2) nd rfl (Or.inl rfl) (pe_merge2 (pe_mt0 (met_Piece_told T) hr (by decide) (pv 0)) (pv 1)))
      (pss_one (ps_ret (pe_pcKw T hr (by decide) (by rfl) (pv 2))))), ?_⟩
  intro p np
  have s1 : Same H (upd H p (.dK [])) := same_new np
  have hd1 := hd.mono s1
  obtain ⟨_, dx, pa0, z, e0, e1, _⟩ := id hd1
  cases e0
  refine ⟨_, rfl, a, dx, _, rfl, e1, rfl, a, d, rfl, hd1, fun q pa H1 s2 nq hq hp => ?_⟩
  have hpq : p ≠ q := fun z => by subst z; rw [upd_same] at nq; cases nq
  refine ⟨q, _, rfl, hpq, s2 _ _ upd_same, hq, by simp [toldD], ?_⟩
  rw [mergeK_told]
  have hpo : p ≠ o := fun z => by subst z; rw [np] at ho; cases ho
  refine ⟨_, rfl, o, ots, rfl, hpo, upd_same, by rw [upd_ne (Ne.symm hpo)]; exact s2 _ _ (s1 _ _ ho), by omega, ?_⟩
  rw [hm, upd_upd]
  have s3 : Same H (upd H1 p (.dK (toldD e pa))) := (s1.trans s2).mut np
  have v3 : (upd H1 p (.dK (toldD e pa))) p = some (.dK (toldD e pa)) := upd_same
  have hp3 : SqT K (upd H1 p (.dK (toldD e pa))) pa (e.parts.map V.str) := by
    rw [hpe]
    exact SqT_w hp (s2 _ _ upd_same) (fun _ z => by cases z) (fun _ _ z => by cases z)
  generalize upd H1 p (.dK (toldD e pa)) = H3 at s3 v3 hp3
  intro p2 np2
  have s4 : Same H3 (upd H3 p2 (.dK [])) := same_new np2
  have hp2 : p2 ≠ p := fun z => by subst z; rw [v3] at np2; cases np2
  refine ⟨_, rfl, p, toldD e pa, pcArgs e pa, rfl, hp2, upd_same, s4 _ _ v3, by simp [toldD], rfl, rfl, fun H4 e4 x dx' nx ndx hne => ?_⟩
  have s5 : Same H3 H4 := by
    rw [e4, upd_upd]
    exact same_new np2
  exact make_pc nx ndx hne (SqTm s5 hp3) oke rfl fun H5 s6 h5 => k x H5 ((s3.trans s5).trans s6) h5
/-- piece.but(..) -/
theorem but_of (T : Txt K mg) {ks : List Str} (nd : ks.Nodup) (hz : ks.length ≤ 1000)
    (hb : ∀ (kV doc pm : Value) (an : Option Addr) (cdv ct u : Value) (ws : List Value), ws.length = ks.length → bindArgs (PySem.W.fnOf d_Piece_but.name d_Piece_but.qual (defArgs d_Piece_but.st) (defBody d_Piece_but.st) (defScope d_Piece_but.st) .none kV doc pm an cdv ct) ⟨[u], ks.zip ws⟩ =
      ((alloc ({ cls := .type "dict", data := .dict #[] } : Obj) : Sem Addr) >>= fun D => (forIn (ks.zip ws) PUnit.unit fun x _ => (nsSet D x.1 x.2 >>= fun _ => pure (ForInStep.yield PUnit.unit))) >>= fun _ => pure [(("self" : Str), u), (("others" : Str), Value.ref D)])) :
    FnKw P w K mg base (5 + 1) (ma K (ga K "Piece") "but") ks (sp_Piece_but K) := by
  obtain ⟨fd, F⟩ := T.d_Piece_but
  exact fnKw_of F sc_Piece_but (body_Piece_but T) rfl nd hz hb
theorem but_br (T : Txt K mg) : FnKw P w K mg base (5 + 1) (ma K (ga K "Piece") "but") ["broken"] (sp_Piece_but K) := but_of T (by decide +kernel) (by decide) fun _ _ _ _ _ _ u ws hl => match ws, hl with | [_], _ => by kernel_rfl
theorem but_ma (T : Txt K mg) : FnKw P w K mg base (5 + 1) (ma K (ga K "Piece") "but") ["marked"] (sp_Piece_but K) := but_of T (by decide +kernel) (by decide) fun _ _ _ _ _ _ u ws hl => match ws, hl with | [_], _ => by kernel_rfl
theorem but_bl (T : Txt K mg) : FnKw P w K mg base (5 + 1) (ma K (ga K "Piece") "but") ["blanks"] (sp_Piece_but K) := but_of T (by decide +kernel) (by decide) fun _ _ _ _ _ _ u ws hl => match ws, hl with | [_], _ => by kernel_rfl
theorem but_ahbe (T : Txt K mg) : FnKw P w K mg base (5 + 1) (ma K (ga K "Piece") "but") ["ahead", "behind"] (sp_Piece_but K) := but_of T (by decide +kernel) (by decide) fun _ _ _ _ _ _ u ws hl => match ws, hl with | [_, _], _ => by kernel_rfl
theorem but_beah (T : Txt K mg) : FnKw P w K mg base (5 + 1) (ma K (ga K "Piece") "but") ["behind", "ahead"] (sp_Piece_but K) := but_of T (by decide +kernel) (by decide) fun _ _ _ _ _ _ u ws hl => match ws, hl with | [_, _], _ => by kernel_rfl
theorem len_Piece_eq {vs H Q E} (h : sp_Piece_eq K vs H Q E) : vs.length = 2 := by
  obtain ⟨_, _, _, _, rfl, _⟩ := h
  rfl
theorem sc_Piece_eq : FnScope ["self", "other"] ["self", "other"] (defScope d_Piece_eq.st) := ⟨rfl, rfl, rfl, by decide +kernel, rfl, by decide +kernel, by decide +kernel⟩
theorem bi_Piece_eq {K : Fg} {fd : FuncData} (F : FnD K d_Piece_eq fd) : Binds K fd ["self", "other"] [] := FunD.bindsN F fun _ _ _ _ _ _ us hl => match us, hl with | [_, _], _ => rfl
theorem body_Piece_eq (T : Txt K mg) : BodyOk P w K mg base 1 ["self", "other"] d_Piece_eq (sp_Piece_eq K) := by
  intro cdv A outer s H vs Q E hr h
  obtain ⟨a, b, d, e, rfl, ha, hb, k⟩ := h
  have nd := sc_Piece_eq.nd
  refine ⟨_, (pss_one (ps_ret (pe_and (pe_callB call_isi (by rfl) T.b_isinstance PyProof.Rows.boot_isinstance (pa_cons (pv 1) (pa_cons (pe_gc (v := .ref (ga _ "Piece")) (by rfl) ⟨_, T.g_Piece, rfl⟩) pa_nil))) (pe_one (pe_cmpR (op_eqTold hr) (pe_mt0 (met_Piece_told T) hr (by decide) (pv 0)) (pe_mt0 (met_Piece_told T) hr (by decide) (pv 1)) (nomark _)))))), ?_⟩
  obtain ⟨_, dx, pa, z, q1, ea, hpa, _⟩ := id ha
  cases q1
  obtain ⟨_, dy, pb, z2, q2, eb, hpb, _⟩ := id hb
  cases q2
  obtain ⟨ty, kit⟩ := objKit T.c_Piece T.o_Piece eb
  refine ⟨_, rfl, .ref b, .ref (ga K "Piece"), .ref (ga K "Piece"), .ref (ga K "Piece"), true, rfl, .own _, ty, kit, true, rfl, iteT ?_⟩
  refine ⟨_, rfl, a, dx, _, rfl, ea, rfl, a, d, rfl, ha, fun p pa' H1 s1 np hp hpa' => ?_⟩
  have hb1 := hb.mono s1
  refine ⟨_, rfl, b, dy, _, rfl, s1 _ _ eb, rfl, b, e, rfl, hb1, fun q pb' H2 s2 nq hq hpb' => ?_⟩
  exact ⟨p, q, pa', pb', d, e, ha.isOk, hb.isOk, rfl, rfl, s2 _ _ hp, hq, SqTm s2 hpa', hpb', k _ (s1.trans s2)⟩
theorem met_Piece_eq (T : Txt K mg) : Met P w K mg base 2 (ga K "Piece") "__eq__" (sp_Piece_eq K) [] := by
  obtain ⟨fd, F⟩ := T.d_Piece_eq
  exact mkMet T.c_Piece T.m_Piece_eq F (bi_Piece_eq F) sc_Piece_eq (fun vs H Q E h => len_Piece_eq h) (body_Piece_eq T)
end
end Lt
set_option Elab.async false
set_option linter.all false
set_option maxRecDepth 100000
set_option maxHeartbeats 4000000
/-! programs -/
namespace Lt
open PySem PySem.Spec PyProof.Rows L2
open C8 (Cal Met Mak pe_c pe_mk pe_mt pe_mt0 pe_gc)
section
variable {P : Program} {w : World} {K : Fg} {mg : Str → Option Value} {base : Heap}
def sp_text_of (K : Fg) : Sp := fun vs H Q _ => ∃ (l : Addr) (us : List V) (ps : List PcD), vs = [.ref l] ∧ SqL K H l us ∧ PcAll K H us ps ∧ ps.length ≤ 40 ∧ ∀ z H', Same H H' → Q (.str z) H'
theorem len_text_of {vs H Q E} (h : sp_text_of K vs H Q E) : vs.length = 1 := by
  obtain ⟨_, _, _, rfl, _⟩ := h
  rfl
theorem sc_text_of : FnScope ["pieces", "found", "at", "piece"] ["pieces"] (defScope d_text_of.st) := ⟨rfl, rfl, rfl, by decide +kernel, rfl, by decide +kernel, by decide +kernel⟩
theorem bi_text_of {K : Fg} {fd : FuncData} (F : FnD K d_text_of fd) : Binds K fd ["pieces"] [] := FunD.bindsN F fun _ _ _ _ _ _ us hl => match us, hl with | [_], _ => rfl
theorem body_text_of (T : Txt K mg) : BodyOk P w K mg base 0 ["pieces", "found", "at", "piece"] d_text_of (sp_text_of K) := by
  intro cdv A outer s H vs Q E hr h
  obtain ⟨l, us, ps, rfl, hl, hp, h40, k⟩ := h
  have nd := sc_text_of.nd
  refine ⟨_, (pss_cons (ps_set (i := 1) nd rfl (Or.inl rfl) pe_str)
      (pss_cons (ps_for PassesOwn.never rfl (pi_enum (by rfl) T.b_enumerate (pa_cons (pv 0) pa_nil)) (pg_tup rfl (pgs_cons (pg_name (i := 2) nd rfl (Or.inl rfl)) (pgs_cons (pg_name (i := 3) nd rfl (Or.inl rfl)) pgs_nil))) (pss_one (ps_set (i := 1) nd rfl (Or.inl rfl) (pe_ifExp (pt_cmpR op_eq (pv 2) pe_int (nomark _)) (pe_fld (pv 3) rfl) (pe_jn (.cons (pe_fmt (pv 1)) (.cons pe_str (.cons (pe_fmt (pe_fld (pv 3) rfl)) .nil))))))))
      (pss_one (ps_ret (pv 1))))), ?_⟩
  have cl := T.c_Piece
  have lu : us.length = ps.length := Paired.lenE hp
  have cn : ("\n" : Str).length = 1 := by decide +kernel
  refine ⟨_, rfl, l, _, rfl, hl, ?_⟩
  refine for_it walk_enum (fun i σ H' => ∃ z v2 v3, σ = [some (.ref l), some (.str z), v2, v3] ∧ z.length ≤ 2001 * i ∧ Same H H') ⟨"", none, none, rfl, Nat.zero_le _, Same.refl _⟩ (fun i σ H' _ ⟨_, _, _, _, _, e⟩ => SqLm e hl) ?_ ?_
  · rintro i x σ H1 H2 hi ⟨z, v2, v3, rfl, hz, s1⟩ ⟨t, x1, x2, rfl, nt, rfl, e1, e2⟩
    cases e1
    have s2 : Same H1 (upd H1 t (.tup [.int (i : Nat), x2])) := same_new nt
    refine ⟨t, _, rfl, SqT.of upd_same, rfl, _, _, rfl, _, _, rfl, rfl, ?_⟩
    obtain ⟨d, _, hd⟩ := Paired.get0 hp e2
    obtain ⟨a, dx, pa, y, rfl, ea, hpa, hy, ok⟩ := hd.mono (s1.trans s2)
    refine ⟨_, rfl, rfl, _, rfl, ?_⟩
    refine ifE (fun v H' => H' = upd H1 t (.tup [.int (i : Nat), .ref a]) ∧ ∃ y : Str, v = .str y ∧ y.length ≤ 2001 * (i + 1)) (fun _ Q q => ?_) (fun _ Q q => ?_) ?_
    · exact ⟨_, rfl, a, _, dx, _, _, rfl, ea, cl, T.n_Piece_text, pcF_text, q _ _ ⟨rfl, y, rfl, by omega⟩⟩
    · refine ⟨_, rfl, .inl ⟨z, rfl, sz (by omega), _, rfl, sz (by rw [lenA, len0]; omega), ?_⟩⟩
      refine ⟨_, rfl, sz (by rw [lenA, lenA, len0, cn]; omega), _, rfl, a, _, dx, _, _, rfl, ea, cl, T.n_Piece_text, pcF_text, .inl ⟨y, rfl, sz (by omega), _, rfl, sz (by rw [lenA, lenA, lenA, len0, cn]; omega), ?_⟩⟩
      exact q _ _ ⟨rfl, _, rfl, by rw [lenA, lenA, lenA, len0, cn]; omega⟩
    rintro _ H9 ⟨q9, y2, rfl, hy2⟩
    rw [q9]
    exact ⟨_, _, _, rfl, hy2, s1.trans s2⟩
  · rintro σ H' ⟨z, v2, v3, rfl, hz, s1⟩
    exact ⟨_, rfl, k z _ s1⟩
theorem cal_text_of (T : Txt K mg) : Cal P w K mg base 1 "text_of" (sp_text_of K) [] := by
  obtain ⟨fd, F⟩ := T.d_text_of
  exact mkCal F T.g_text_of (bi_text_of F) sc_text_of (fun vs H Q E h => len_text_of h) (body_text_of T)
def sp_Program_init (K : Fg) : Sp := fun vs H Q _ => ∃ (p dx l : Addr) (us : List V) (ps : List PcD), vs = [.ref p, .ref l] ∧ H p = some (.ins (ga K "Program") dx []) ∧ SqL K H l us ∧ PcAll K H us ps ∧ ps.length ≤ 40 ∧
  ∀ H' pa z, H pa = none → (∀ b o, b ≠ p → H b = some o → H' b = some o) → H' p = some (.ins (ga K "Program") dx (pgF pa z)) → SqT K H' pa us → Q .non H'
theorem len_Program_init {vs H Q E} (h : sp_Program_init K vs H Q E) : vs.length = 2 := by
  obtain ⟨_, _, _, _, _, rfl, _⟩ := h
  rfl
theorem sc_Program_init : FnScope ["self", "pieces", "at", "piece"] ["self", "pieces"] (defScope d_Program_init.st) := ⟨rfl, rfl, rfl, by decide +kernel, rfl, by decide +kernel, by decide +kernel⟩
theorem bi_Program_init {K : Fg} {fd : FuncData} (F : FnD K d_Program_init fd) : Binds K fd ["self", "pieces"] [] := by
  obtain ⟨ds, r, b⟩ := FunD.binds1 (ps := ["self", "pieces"]) F 2 1 (by show ([_] : List V) ≠ []; exact List.cons_ne_nil _ _) rfl (fun _ _ _ _ _ _ _ us its hl hi => match us, hl, its, hi with | [_, _], _, [_], _ => ⟨_, rfl, by kernel_rfl⟩)
  cases r
  exact b
theorem body_Program_init (T : Txt K mg) : BodyOk P w K mg base 1 ["self", "pieces", "at", "piece"] d_Program_init (sp_Program_init K) := by
  intro cdv A outer s H vs Q E hr h
  obtain ⟨p, dx, l, us, ps, rfl, ep, hl, hp, h40, k⟩ := h
  have nd := sc_Program_init.nd
  refine ⟨_, (pss_cons (ps_if (pt_not (pt_val (pe_c (cal_is_sequence T) hr (by decide) (by rfl) (pa_cons (pv 1) pa_nil)))) (pss_one ps_never) pss_nil)
      (pss_cons (ps_for PassesOwn.never rfl (pi_enum (by rfl) T.b_enumerate (pa_cons (pv 1) pa_nil)) (pg_tup rfl (pgs_cons (pg_name (i := 2) nd rfl (Or.inl rfl)) (pgs_cons (pg_name (i := 3) nd rfl (Or.inl rfl)) pgs_nil))) (pss_one (ps_if (pt_not (pt_val (pe_callB call_isi (by rfl) T.b_isinstance PyProof.Rows.boot_isinstance (pa_cons (pv 3) (pa_cons (pe_gc (v := .ref (ga _ "Piece")) (by rfl) ⟨_, T.g_Piece, rfl⟩) pa_nil))))) (pss_one ps_never) pss_nil)))
      (pss_cons (ps_fld (pv 0) (pe_callTy call_tuple_of (by rfl) T.b_tuple PyProof.Rows.boot_tuple (pa_cons (pv 1) pa_nil)) rfl)
      (pss_one (ps_fld (pv 0) (pe_c (cal_text_of T) hr (by decide) (by rfl) (pa_cons (pv 1) pa_nil)) rfl))))), ?_⟩
  have cl := T.c_Program
  have lu : us.length = ps.length := Paired.lenE hp
  refine ⟨_, rfl, l, rfl, .inl ⟨_, hl⟩, fun H1 s1 => ⟨_, rfl, iteF ?_⟩⟩
  refine ⟨_, rfl, l, _, rfl, SqLm s1 hl, ?_⟩
  refine for_it walk_enum (fun i σ H' => ∃ v2 v3, σ = [some (.ref p), some (.ref l), v2, v3] ∧ Same H H') ⟨none, none, rfl, s1⟩ (fun i σ H' _ ⟨_, _, _, e⟩ => SqLm e hl) ?_ ?_
  · rintro i x σ H2 H3 hi ⟨v2, v3, rfl, s2⟩ ⟨t, x1, x2, rfl, nt, rfl, e1, e2⟩
    cases e1
    have s3 : Same H2 (upd H2 t (.tup [.int (i : Nat), x2])) := same_new nt
    refine ⟨t, _, rfl, SqT.of upd_same, rfl, _, _, rfl, _, _, rfl, rfl, ?_⟩
    obtain ⟨d, _, hd⟩ := Paired.get0 hp e2
    obtain ⟨a, dy, pa, y, rfl, ea, hpa, hy, ok⟩ := hd.mono (s2.trans s3)
    obtain ⟨ty, kit⟩ := objKit T.c_Piece T.o_Piece ea
    refine ⟨_, rfl, .ref a, .ref (ga K "Piece"), .ref (ga K "Piece"), .ref (ga K "Piece"), true, rfl, .own _, ty, kit, true, rfl, iteF ?_⟩
    exact ⟨_, _, rfl, s2.trans s3⟩
  · rintro σ H2 ⟨v2, v3, rfl, s2⟩
    refine ⟨_, rfl, l, us, rfl, .inl ⟨SqLm s2 hl, fun t nt => ?_⟩⟩
    have s3 : Same H2 (upd H2 t (.tup us)) := same_new nt
    have s4 := s2.trans s3
    have vt : (upd H2 t (.tup us)) t = some (.tup us) := upd_same
    generalize upd H2 t (.tup us) = H3 at s3 s4 vt
    have ep3 := s4 _ _ ep
    refine ⟨_, rfl, p, _, dx, _, rfl, ep3, cl, T.n_Program_pieces, by simp, ?_⟩
    have hl4 : SqL K (upd H3 p (.ins (ga K "Program") dx (putF "pieces" (.ref t) []))) l us := by
      rcases SqLm s4 hl with (h | ⟨q, h⟩) | h
      · exact .inl (.inl (by rw [upd_ne (ne_of h ep3 (fun z => by cases z))]; exact h))
      · exact .inl (.inr ⟨q, by rw [upd_ne (ne_of h ep3 (fun z => by cases z))]; exact h⟩)
      · exact .inr h
    have hp4 : PcAll K (upd H3 p (.ins (ga K "Program") dx (putF "pieces" (.ref t) []))) us ps := pairedM (fun v d h => by
      obtain ⟨a, dy, pa, y, e0, ea, hpa, hy, ok⟩ := h.mono s4
      have hne : a ≠ p := ne_of ea ep3 (fun z => by
        injection z with _ _ z3
        cases z3)
      exact ⟨a, dy, pa, y, e0, by rw [upd_ne hne]; exact ea, SqT_i hpa ep3, hy, ok⟩) hp
    refine ⟨_, rfl, l, us, ps, rfl, hl4, hp4, h40, fun z H5 s5 => ?_⟩
    refine ⟨_, rfl, p, _, dx, _, rfl, s5 _ _ upd_same, cl, T.n_Program_text, lt1000 rfl, ?_⟩
    refine k _ t z (s2.free nt) (fun b o hb h => ?_) (by rw [upd_same] <;> rfl) ?_
    · rw [upd_ne hb]
      refine s5 _ _ ?_
      rw [upd_ne hb]
      exact s4 _ _ h
    · refine SqT.of ?_
      have htp : t ≠ p := ne_of vt ep3 (fun z => by cases z)
      rw [upd_ne htp]
      refine s5 _ _ ?_
      rw [upd_ne htp]
      exact vt
theorem mak_Program (T : Txt K mg) : Mak P w K mg base 2 "Program" (ga K "Program") (sp_Program_init K) [] := by
  obtain ⟨fd, F⟩ := T.d_Program_init
  exact mkMak T.k_Program T.g_Program F (bi_Program_init F) sc_Program_init (fun vs H Q E h => len_Program_init h) (body_Program_init T)
/-- a program is made -/
theorem make_pg {ps : List PcD} {us : List V} {l x dx : Addr} {H1 : Hp} {vs : List V} {R : Hp → Prop} {E : XK} (nx : H1 x = none) (nd : H1 dx = none) (hne : dx ≠ x) (hl : SqL K H1 l us) (hp : PcAll K H1 us ps) (h40 : ps.length ≤ 40) (ev : vs = [.ref x, .ref l]) (q : ∀ H', Same H1 H' → PgAt K H' (.ref x) ps → R H') :
    sp_Program_init K vs (upd (upd H1 dx (.own x)) x (.ins (ga K "Program") dx [])) (fun v H2 => v = .non ∧ R H2) E := by
  have nx2 : upd H1 dx (.own x) x = none := by rw [upd_ne (Ne.symm hne)]; exact nx
  have s1 : Same H1 (upd (upd H1 dx (.own x)) x (.ins (ga K "Program") dx [])) := (same_new nd).trans (same_new nx2)
  refine ⟨x, dx, l, us, ps, ev, upd_same, SqLm s1 hl, hp.mono s1, h40, fun H' pa z _ k1 k2 k3 => ⟨rfl, ?_⟩⟩
  have s2 : Same H1 H' := fun b o h => k1 b o (ne_of_none h nx) (s1 b o h)
  exact q H' s2 ⟨x, dx, pa, us, z, rfl, k2, k3, hp.mono s2, h40⟩
def sp_Program_len (K : Fg) : Sp := fun vs H Q _ => ∃ (p : Addr) (ps : List PcD), vs = [.ref p] ∧ PgAt K H (.ref p) ps ∧ Q (.int (ps.length : Int)) H
theorem len_Program_len {vs H Q E} (h : sp_Program_len K vs H Q E) : vs.length = 1 := by
  obtain ⟨_, _, rfl, _⟩ := h
  rfl
theorem sc_Program_len : FnScope ["self"] ["self"] (defScope d_Program_len.st) := ⟨rfl, rfl, rfl, by decide +kernel, rfl, by decide +kernel, by decide +kernel⟩
theorem bi_Program_len {K : Fg} {fd : FuncData} (F : FnD K d_Program_len fd) : Binds K fd ["self"] [] := FunD.bindsN F fun _ _ _ _ _ _ us hl => match us, hl with | [_], _ => rfl
theorem body_Program_len (T : Txt K mg) : BodyOk P w K mg base 0 ["self"] d_Program_len (sp_Program_len K) := by
  intro cdv A outer s H vs Q E hr h
  obtain ⟨p, ps, rfl, ⟨_, dx, pa, us, z, e0, ep, ht, hp, h40⟩, k⟩ := h
  cases e0
  have nd := sc_Program_len.nd
  refine ⟨_, (pss_one (ps_ret (pe_callB call_len_seq (by rfl) T.b_len PySem.boot_len (pa_cons (pe_fld (pv 0) rfl) pa_nil)))), ?_⟩
  refine ⟨_, rfl, p, _, dx, _, _, rfl, ep, T.c_Program, T.n_Program_pieces, rfl, pa, us, rfl, .inr ht, ?_⟩
  rw [Paired.lenE hp]
  exact k
theorem met_Program_len (T : Txt K mg) : Met P w K mg base 1 (ga K "Program") "__len__" (sp_Program_len K) [] := by
  obtain ⟨fd, F⟩ := T.d_Program_len
  exact mkMet T.c_Program T.m_Program_len F (bi_Program_len F) sc_Program_len (fun vs H Q E h => len_Program_len h) (body_Program_len T)
def sp_Program_eq (K : Fg) : Sp := fun vs H Q _ => ∃ (a b : Addr) (ps qs : List PcD), vs = [.ref a, .ref b] ∧ PgAt K H (.ref a) ps ∧ PgAt K H (.ref b) qs ∧ ps.length = qs.length ∧ ∀ H', Same H H' → Q (.bl (decide (ps = qs))) H'
theorem len_Program_eq {vs H Q E} (h : sp_Program_eq K vs H Q E) : vs.length = 2 := by
  obtain ⟨_, _, _, _, rfl, _⟩ := h
  rfl
theorem sc_Program_eq : FnScope ["self", "other"] ["self", "other"] (defScope d_Program_eq.st) := ⟨rfl, rfl, rfl, by decide +kernel, rfl, by decide +kernel, by decide +kernel⟩
theorem bi_Program_eq {K : Fg} {fd : FuncData} (F : FnD K d_Program_eq fd) : Binds K fd ["self", "other"] [] := FunD.bindsN F fun _ _ _ _ _ _ us hl => match us, hl with | [_, _], _ => rfl
theorem body_Program_eq (T : Txt K mg) : BodyOk P w K mg base 8 ["self", "other"] d_Program_eq (sp_Program_eq K) := by
  intro cdv A outer s H vs Q E hr h
  obtain ⟨a, b, ps, qs, rfl, ⟨_, dx, pa, us, z, e0, ea, ha, hpa, h40⟩, ⟨_, dy, pb, ws, z2, e1, eb, hb, hpb, _⟩, hl, k⟩ := h
  cases e0
  cases e1
  have nd := sc_Program_eq.nd
  refine ⟨_, (pss_one (ps_ret (pe_and (pe_callB call_isi (by rfl) T.b_isinstance PyProof.Rows.boot_isinstance (pa_cons (pv 1) (pa_cons (pe_gc (v := .ref (ga _ "Program")) (by rfl) ⟨_, T.g_Program, rfl⟩) pa_nil))) (pe_one (pe_cmpR (op_eqPcs (met_Piece_eq T) hr (by decide)) (pe_fld (pv 0) rfl) (pe_fld (pv 1) rfl) (nomark _)))))), ?_⟩
  obtain ⟨ty, kit⟩ := objKit T.c_Program T.o_Program eb
  refine ⟨_, rfl, .ref b, .ref (ga K "Program"), .ref (ga K "Program"), .ref (ga K "Program"), true, rfl, .own _, ty, kit, true, rfl, iteT ?_⟩
  refine ⟨_, rfl, a, _, dx, _, _, rfl, ea, T.c_Program, T.n_Program_pieces, rfl, ?_⟩
  refine ⟨_, rfl, b, _, dy, _, _, rfl, eb, T.c_Program, T.n_Program_pieces, rfl, ?_⟩
  exact ⟨pa, pb, us, ws, ps, qs, rfl, rfl, ha, hb, hpa, hpb, hl, k⟩
theorem met_Program_eq (T : Txt K mg) : Met P w K mg base 9 (ga K "Program") "__eq__" (sp_Program_eq K) [] := by
  obtain ⟨fd, F⟩ := T.d_Program_eq
  exact mkMet T.c_Program T.m_Program_eq F (bi_Program_eq F) sc_Program_eq (fun vs H Q E h => len_Program_eq h) (body_Program_eq T)
def sp_need_piece (K : Fg) : Sp := fun vs H Q _ => ∃ (a : Addr) (d : PcD), vs = [.ref a] ∧ PcAt K H (.ref a) d ∧ Q .non H
theorem len_need_piece {vs H Q E} (h : sp_need_piece K vs H Q E) : vs.length = 1 := by
  obtain ⟨_, _, rfl, _⟩ := h
  rfl
theorem sc_need_piece : FnScope ["value"] ["value"] (defScope d_need_piece.st) := ⟨rfl, rfl, rfl, by decide +kernel, rfl, by decide +kernel, by decide +kernel⟩
theorem bi_need_piece {K : Fg} {fd : FuncData} (F : FnD K d_need_piece fd) : Binds K fd ["value"] [] := FunD.bindsN F fun _ _ _ _ _ _ us hl => match us, hl with | [_], _ => rfl
theorem body_need_piece (T : Txt K mg) : BodyOk P w K mg base 0 ["value"] d_need_piece (sp_need_piece K) := by
  intro cdv A outer s H vs Q E hr h
  obtain ⟨a, d, rfl, ⟨_, dx, pa, z, e0, ea, _⟩, k⟩ := h
  cases e0
  have nd := sc_need_piece.nd
  refine ⟨_, (pss_one (ps_if (pt_not (pt_val (pe_callB call_isi (by rfl) T.b_isinstance PyProof.Rows.boot_isinstance (pa_cons (pv 0) (pa_cons (pe_gc (v := .ref (ga _ "Piece")) (by rfl) ⟨_, T.g_Piece, rfl⟩) pa_nil))))) (pss_one ps_never) pss_nil)), ?_⟩
  obtain ⟨ty, kit⟩ := objKit T.c_Piece T.o_Piece ea
  exact ⟨_, rfl, .ref a, .ref (ga K "Piece"), .ref (ga K "Piece"), .ref (ga K "Piece"), true, rfl, .own _, ty, kit, true, rfl, iteF k⟩
theorem cal_need_piece (T : Txt K mg) : Cal P w K mg base 1 "need_piece" (sp_need_piece K) [] := by
  obtain ⟨fd, F⟩ := T.d_need_piece
  exact mkCal F T.g_need_piece (bi_need_piece F) sc_need_piece (fun vs H Q E h => len_need_piece h) (body_need_piece T)
end
end Lt
set_option Elab.async false
set_option linter.all false
set_option maxRecDepth 100000
set_option maxHeartbeats 4000000
/-! what holds of a piece -/
namespace Lt
open PySem PySem.Spec PyProof.Rows L2
open C8 (Cal Met Mak pe_c pe_mk pe_mt pe_mt0 pe_gc)
theorem neV (a b : Str) : (!decide (V.str a = V.str b)) = !decide (a = b) := by
  by_cases e : a = b
  · rw [e]; simp
  · rw [decide_eq_false e, decide_eq_false (fun q => e (V.str.inj q))]
theorem eqV' (a b : Str) : decide (V.str a = V.str b) = decide (a = b) := by
  by_cases e : a = b
  · rw [e]; simp
  · rw [decide_eq_false e, decide_eq_false (fun q => e (V.str.inj q))]
section
variable {P : Program} {w : World} {K : Fg} {mg : Str → Option Value} {base : Heap}
def sp_is_fence (K : Fg) : Sp := fun vs H Q _ => ∃ (a : Addr) (d : PcD), vs = [.ref a] ∧ PcAt K H (.ref a) d ∧ Q (.bl (fence d)) H
theorem len_is_fence {vs H Q E} (h : sp_is_fence K vs H Q E) : vs.length = 1 := by
  obtain ⟨_, _, rfl, _⟩ := h
  rfl
theorem sc_is_fence : FnScope ["piece"] ["piece"] (defScope d_is_fence.st) := ⟨rfl, rfl, rfl, by decide +kernel, rfl, by decide +kernel, by decide +kernel⟩
theorem bi_is_fence {K : Fg} {fd : FuncData} (F : FnD K d_is_fence fd) : Binds K fd ["piece"] [] := FunD.bindsN F fun _ _ _ _ _ _ us hl => match us, hl with | [_], _ => rfl
theorem body_is_fence (T : Txt K mg) : BodyOk P w K mg base 0 ["piece"] d_is_fence (sp_is_fence K) := by
  intro cdv A outer s H vs Q E hr h
  obtain ⟨a, d, rfl, ⟨_, dx, pa, z, e0, ea, hp, hz, ok⟩, k⟩ := h
  cases e0
  have nd := sc_is_fence.nd
  refine ⟨_, (pss_one (ps_ret (pe_or (pe_cmpR op_ne (pe_fld (pv 0) rfl) pe_str (nomark _)) (pe_or (pe_cmpR op_gt (pe_fld (pv 0) rfl) pe_int (nomark _)) (pe_one (pe_fld (pv 0) rfl)))))), ?_⟩
  have cl := T.c_Piece
  refine ⟨_, rfl, a, _, dx, _, _, rfl, ea, cl, T.n_Piece_ahead, pcF_ahead, rfl, _, rfl, ?_⟩
  have k' : Q (.bl (!decide (d.ahead = "") || (decide (0 < d.blanks) || d.left))) H := k
  rw [neV]
  refine ite2 (fun q => ?_) (fun q => ?_)
  · rw [q, Bool.true_or] at k'
    exact k'
  · rw [Bool.eq_false_iff.mpr q, Bool.false_or] at k'
    refine ⟨_, rfl, a, _, dx, _, _, rfl, ea, cl, T.n_Piece_blanks, pcF_blanks, _, _, rfl, rfl, _, rfl, ?_⟩
    refine ite2 (fun q => ?_) (fun q => ?_)
    · rw [show decide (0 < d.blanks) = true from q, Bool.true_or] at k'
      exact k'
    · rw [show decide (0 < d.blanks) = false from Bool.eq_false_iff.mpr q, Bool.false_or] at k'
      exact ⟨_, rfl, a, _, dx, _, _, rfl, ea, cl, T.n_Piece_left, pcF_left, k'⟩
theorem cal_is_fence (T : Txt K mg) : Cal P w K mg base 1 "is_fence" (sp_is_fence K) [] := by
  obtain ⟨fd, F⟩ := T.d_is_fence
  exact mkCal F T.g_is_fence (bi_is_fence F) sc_is_fence (fun vs H Q E h => len_is_fence h) (body_is_fence T)
def sp_key_of (K : Fg) : Sp := fun vs H Q _ => ∃ (a : Addr) (d : PcD), vs = [.ref a] ∧ PcAt K H (.ref a) d ∧ ∀ t pa, H t = none → SqT K H pa (d.parts.map V.str) → Q (.ref t) (upd H t (.tup [.str d.word, .ref pa]))
theorem len_key_of {vs H Q E} (h : sp_key_of K vs H Q E) : vs.length = 1 := by
  obtain ⟨_, _, rfl, _⟩ := h
  rfl
theorem sc_key_of : FnScope ["piece"] ["piece"] (defScope d_key_of.st) := ⟨rfl, rfl, rfl, by decide +kernel, rfl, by decide +kernel, by decide +kernel⟩
theorem bi_key_of {K : Fg} {fd : FuncData} (F : FnD K d_key_of fd) : Binds K fd ["piece"] [] := FunD.bindsN F fun _ _ _ _ _ _ us hl => match us, hl with | [_], _ => rfl
theorem body_key_of (T : Txt K mg) : BodyOk P w K mg base 0 ["piece"] d_key_of (sp_key_of K) := by
  intro cdv A outer s H vs Q E hr h
  obtain ⟨a, d, rfl, ⟨_, dx, pa, z, e0, ea, hp, hz, ok⟩, k⟩ := h
  cases e0
  have nd := sc_key_of.nd
  refine ⟨_, (pss_one (ps_ret (pe_tup (pa_cons (pe_fld (pv 0) rfl) (pa_cons (pe_fld (pv 0) rfl) pa_nil))))), ?_⟩
  refine ⟨_, rfl, a, _, dx, _, _, rfl, ea, T.c_Piece, T.n_Piece_word, pcF_word, ?_⟩
  exact ⟨_, rfl, a, _, dx, _, _, rfl, ea, T.c_Piece, T.n_Piece_parts, pcF_parts, sz (by simp), fun t nt => k t pa nt hp⟩
theorem cal_key_of (T : Txt K mg) : Cal P w K mg base 1 "key_of" (sp_key_of K) [] := by
  obtain ⟨fd, F⟩ := T.d_key_of
  exact mkCal F T.g_key_of (bi_key_of F) sc_key_of (fun vs H Q E h => len_key_of h) (body_key_of T)
def sp_is_long (K : Fg) : Sp := fun vs H Q _ => ∃ (a : Addr) (wd : Int) (d : PcD), vs = [.ref a, .int wd] ∧ PcAt K H (.ref a) d ∧ ∀ H', Same H H' → Q (.bl (isLong wd d)) H'
theorem len_is_long {vs H Q E} (h : sp_is_long K vs H Q E) : vs.length = 2 := by
  obtain ⟨_, _, _, rfl, _⟩ := h
  rfl
theorem sc_is_long : FnScope ["piece", "width", "room"] ["piece", "width"] (defScope d_is_long.st) := ⟨rfl, rfl, rfl, by decide +kernel, rfl, by decide +kernel, by decide +kernel⟩
theorem bi_is_long {K : Fg} {fd : FuncData} (F : FnD K d_is_long fd) : Binds K fd ["piece", "width"] [] := FunD.bindsN F fun _ _ _ _ _ _ us hl => match us, hl with | [_, _], _ => rfl
theorem body_is_long (T : Txt K mg) : BodyOk P w K mg base 2 ["piece", "width", "room"] d_is_long (sp_is_long K) := by
  intro cdv A outer s H vs Q E hr h
  obtain ⟨a, wd, d, rfl, hd, k⟩ := h
  have nd := sc_is_long.nd
  refine ⟨_, (pss_cons (ps_set (i := 2) nd rfl (Or.inl rfl) (pe_op op_add (pe_pr (prp_Piece_bare T) hr (by decide) (pv 0)) (pe_callTy call_int1 (by rfl) T.b_int PyProof.Rows.boot_int (pa_cons (pe_fld (pv 0) rfl) pa_nil))))
      (pss_cons (ps_if (pt_cmpR op_ne (pe_fld (pv 0) rfl) pe_str (nomark _)) (pss_one (ps_set (i := 2) nd rfl (Or.inl rfl) (pe_op op_add (pe_op op_add (pv 2) pe_int) (pe_callB call_len_str (by rfl) T.b_len PySem.boot_len (pa_cons (pe_fld (pv 0) rfl) pa_nil))))) pss_nil)
      (pss_one (ps_ret (pe_cmpR op_gt (pv 2) (pv 1) (nomark _)))))), ?_⟩
  have cl := T.c_Piece
  obtain ⟨_, dx, pa, z, e0, ea, hp, hz, ok⟩ := id hd
  cases e0
  refine ⟨_, rfl, a, dx, _, rfl, ea, a, d, rfl, hd, fun H1 s1 => ?_⟩
  have e1 := s1 _ _ ea
  refine ⟨_, rfl, a, _, dx, _, _, rfl, e1, cl, T.n_Piece_marked, pcF_marked, .inr ⟨_, rfl, _, _, rfl, rfl, ?_⟩⟩
  refine ⟨_, rfl, a, _, dx, _, _, rfl, e1, cl, T.n_Piece_behind, pcF_behind, rfl, _, rfl, ?_⟩
  rw [neV]
  have hb := rem_len ok.behind
  refine ifS (fun σ' H' => H' = H1 ∧ σ' = [some (.ref a), some (.int wd), some (.int (room d))]) (fun q D q2 => ?_) (fun q D q2 => ?_) ?_
  · refine ⟨_, rfl, _, _, rfl, rfl, _, rfl, a, _, dx, _, _, rfl, e1, cl, T.n_Piece_behind, pcF_behind, d.behind, rfl, sz (by omega), _, _, rfl, rfl, ?_⟩
    refine q2 _ _ ⟨rfl, ?_⟩
    have nb : ¬ d.behind = "" := by simpa using q
    have er : room d = bare d + (if d.marked then 1 else 0) + 4 + (d.behind.length : Int) := by
      unfold room
      rw [if_neg nb]
      show bare d + b2i d.marked + _ = _
      unfold b2i
      omega
    rw [er]
    rfl
  · refine q2 _ _ ⟨rfl, ?_⟩
    have nb : d.behind = "" := by simpa using q
    have er : room d = bare d + (if d.marked then 1 else 0) := by
      unfold room
      rw [if_pos nb]
      show bare d + b2i d.marked + _ = _
      unfold b2i
      omega
    rw [er]
    rfl
  · rintro _ _ ⟨rfl, rfl⟩
    exact ⟨_, rfl, _, rfl, _, _, rfl, rfl, k _ s1⟩
theorem cal_is_long (T : Txt K mg) : Cal P w K mg base 3 "is_long" (sp_is_long K) [] := by
  obtain ⟨fd, F⟩ := T.d_is_long
  exact mkCal F T.g_is_long (bi_is_long F) sc_is_long (fun vs H Q E h => len_is_long h) (body_is_long T)
end
end Lt
set_option Elab.async false
set_option linter.all false
set_option maxRecDepth 100000
set_option maxHeartbeats 4000000
/-! The order of pieces; sorted lists are one; keys compared. -/
namespace Lt
open PySem PySem.Spec PyProof.Rows L2
open SrtO (Swo Srtd Stb)
/-! ### one sorted list -/
section
variable {α : Type} {lt : α → α → Bool}
theorem insG_split (O : Swo lt) (x : α) : ∀ {l : List α}, Srtd lt l → ∃ M N, l = M ++ N ∧ insG lt x l = M ++ x :: N ∧ (∀ m ∈ M, lt x m = false) ∧ ∀ n ∈ N, lt x n = true
  | [], _ => ⟨[], [], rfl, rfl, fun m h => (nomatch h), fun m h => (nomatch h)⟩
  | y :: r, h => by
    by_cases c : ((y :: r).all fun z => lt x z) = true
    · refine ⟨[], y :: r, rfl, ?_, fun m h => (nomatch h), fun n hn => List.all_eq_true.mp c n hn⟩
      rw [insG, if_pos c] <;> rfl
    · obtain ⟨M, N, e1, e2, h1, h2⟩ := insG_split O x (List.pairwise_cons.mp h).2
      refine ⟨y :: M, N, by rw [e1]; rfl, by rw [insG, if_neg c, e2]; rfl, fun m hm => ?_, h2⟩
      rcases List.mem_cons.mp hm with rfl | hm
      · cases q : lt x m with
        | false => rfl
        | true =>
          exfalso
          apply c
          refine List.all_eq_true.mpr fun z hz => ?_
          exact O.lt_all h q z hz
      · exact h1 m hm
theorem srtG_ok (O : Swo lt) : ∀ (l acc O1 : List α), Srtd lt acc → Stb lt acc O1 → Srtd lt (l.foldl (fun a x => insG lt x a) acc) ∧ Stb lt (l.foldl (fun a x => insG lt x a) acc) (O1 ++ l)
  | [], acc, O1, h1, h2 => by
    rw [List.append_nil]
    exact ⟨h1, h2⟩
  | x :: r, acc, O1, h1, h2 => by
    obtain ⟨M, N, e1, e2, k1, k2⟩ := insG_split O x h1
    rw [e1] at h1 h2
    have q1 := SrtO.ins_srtd O h1 k1 k2
    have q2 := SrtO.ins_stb O k2 h2
    have q := srtG_ok O r (insG lt x acc) (O1 ++ [x]) (by rw [e2]; exact q1) (by rw [e2]; exact q2)
    rw [List.append_assoc] at q
    exact q
theorem stb_uniq (O : Swo lt) : ∀ {a b : List α}, Srtd lt a → Srtd lt b → Stb lt a b → a = b
  | [], b, _, _, s => by
    have := s.len
    rw [List.length_nil] at this
    exact (List.eq_nil_of_length_eq_zero this.symm).symm
  | x :: a, [], _, _, s => by
    have := s.len
    cases this
  | x :: a, y :: b, h1, h2, s => by
    have hx : x ∈ y :: b := s.perm.mem_iff.mp List.mem_cons_self
    have hy : y ∈ x :: a := s.perm.mem_iff.mpr List.mem_cons_self
    have n1 : lt y x = false := by
      rcases List.mem_cons.mp hy with e | hy
      · rw [e]; exact O.refl x
      · exact SrtO.srtd_head h1 y hy
    have n2 : lt x y = false := by
      rcases List.mem_cons.mp hx with e | hx
      · rw [e]; exact O.refl y
      · exact SrtO.srtd_head h2 x hx
    have e1 : SrtO.eqv lt x x = true := SrtO.eqv_iff.mpr ⟨O.refl x, O.refl x⟩
    have e2 : SrtO.eqv lt x y = true := SrtO.eqv_iff.mpr ⟨n2, n1⟩
    have c := s.cls x
    rw [List.filter_cons_of_pos e1, List.filter_cons_of_pos e2] at c
    injection c with c1 c2
    subst c1
    have s2 : Stb lt a b := ⟨List.Perm.cons_inv s.perm, fun z => by
      have q := s.cls z
      by_cases e : SrtO.eqv lt z x = true
      · rw [List.filter_cons_of_pos e, List.filter_cons_of_pos e] at q
        injection q
      · rw [List.filter_cons_of_neg e, List.filter_cons_of_neg e] at q
        exact q⟩
    rw [stb_uniq O (List.pairwise_cons.mp h1).2 (List.pairwise_cons.mp h2).2 s2]
/-- a sorted stable rearrangement of l -/
theorem srt_uniq (O : Swo lt) {l ps : List α} (h1 : Srtd lt ps) (h2 : Stb lt ps l) : ps = srtG lt l := by
  obtain ⟨k1, k2⟩ := srtG_ok O l [] [] List.Pairwise.nil (Stb.refl [])
  rw [List.nil_append] at k2
  exact stb_uniq O h1 k1 (h2.trans ⟨k2.perm.symm, fun x => (k2.cls x).symm⟩)
end
section
variable {α β : Type} {lt : α → α → Bool} {lt' : β → β → Bool} {R : α → β → Prop}
theorem insG_rel (h : ∀ a b a' b', R a b → R a' b' → lt a a' = lt' b b') {x : α} {y : β} (r : R x y) : ∀ {xs : List α} {ys : List β}, Paired R xs ys → Paired R (insG lt x xs) (insG lt' y ys)
  | _, _, .nil => .cons r .nil
  | a :: as, b :: bs, .cons q t => by
    have ea : ∀ {us : List α} {vs : List β}, Paired R us vs → (us.all fun z => lt x z) = (vs.all fun z => lt' y z) := fun {us vs} p => by
      induction p with
      | nil => rfl
      | cons q _ ih => rw [List.all_cons, List.all_cons, ih, h _ _ _ _ r q]
    rw [insG, insG, ea (.cons q t)]
    split
    · exact .cons r (.cons q t)
    · exact .cons q (insG_rel h r t)
theorem srtG_rel (h : ∀ a b a' b', R a b → R a' b' → lt a a' = lt' b b') : ∀ {xs : List α} {ys : List β} {us : List α} {vs : List β}, Paired R xs ys → Paired R us vs → Paired R (xs.foldl (fun a x => insG lt x a) us) (ys.foldl (fun a x => insG lt' x a) vs)
  | _, _, _, _, .nil, q => q
  | _, _, _, _, .cons r t, q => by
    rw [List.foldl_cons, List.foldl_cons]
    exact srtG_rel h t (insG_rel h r q)
end
/-! ### keys -/
def keyD (w : Str) (ps : List Str) : PyData := .tuple [.str w, strsD ps]
theorem alike_strs : ∀ xs ys : List Str, PySem.W.alikeAll (xs.map .str) (ys.map .str) = true
  | [], _ => by rw [List.map_nil, PySem.W.alikeAll]
  | x :: xs, [] => by rw [List.map_nil, List.map_cons, PySem.W.alikeAll] <;> simp
  | x :: xs, y :: ys => by
    rw [List.map_cons, List.map_cons, PySem.W.alikeAll, alike_strs xs ys, Bool.and_true, PySem.W.alike]
theorem alike_strsD (xs ys : List Str) : PySem.W.alike (strsD xs) (strsD ys) = true := by
  unfold strsD
  rw [PySem.W.alike]
  exact alike_strs xs ys
theorem alike_key (w w' : Str) (ps ps' : List Str) : PySem.W.alike (keyD w ps) (keyD w' ps') = true := by
  unfold keyD
  rw [PySem.W.alike, PySem.W.alikeAll, PySem.W.alikeAll, PySem.W.alikeAll, PySem.W.alike, alike_strsD] <;> rfl
theorem toks_key (w : Str) (ps : List Str) : PySem.W.keyToks (keyD w ps) = .inl 1 :: .inr w.cps.toList :: .inl 1 :: (PySem.W.keyToks (strsD ps) ++ [.inl 0]) := by
  unfold keyD
  rw [PySem.W.keyToks, PySem.W.keyToksAll, PySem.W.keyToksAll, PySem.W.keyToksAll, PySem.W.keyToks] <;> rfl
theorem keyD_lt (w w' : Str) (ps ps' : List Str) : PySem.W.dataLt (keyD w ps) (keyD w' ps') = ltK w ps w' ps' := by
  unfold PySem.W.dataLt ltK
  rw [toks_key, toks_key, lex_self]
  by_cases e : w = w'
  · subst e
    rw [if_pos rfl, lex_self, lex_self]
    unfold ltParts PySem.W.dataLt
    cases q : PyData.eqv (strsD ps) (strsD ps') with
    | true =>
      have := (PySem.W.toks_eqv _ _ (alike_strsD ps ps')).1 q
      rw [this, lex_irrefl, lex_irrefl]
    | false => exact (PySem.W.toks_eqv _ _ (alike_strsD ps ps')).2 q _ _
  · rw [if_neg e, lex_diff (fun z => e (PySem.W.str_of_cps (Sum.inr.inj z)))]
    rfl
theorem swo_key : Swo ltKey := by
  have h : ∀ a b : PcD, ltKey a b = PySem.W.dataLt (keyD a.word a.parts) (keyD b.word b.parts) := fun a b => (keyD_lt _ _ _ _).symm
  refine ⟨fun x y q => ?_, fun x y z q1 q2 => ?_⟩
  · rw [h] at q ⊢
    cases c : PySem.W.dataLt (keyD y.word y.parts) (keyD x.word x.parts) with
    | false => rfl
    | true =>
      have t := lex_trans _ _ _ q c
      rw [lex_irrefl] at t
      cases t
  · rw [h] at q1 q2 ⊢
    cases c : PySem.W.dataLt (keyD z.word z.parts) (keyD x.word x.parts) with
    | false => rfl
    | true =>
      rcases lex_negTrans _ (PySem.W.keyToks (keyD y.word y.parts)) _ c with t | t
      · exact absurd (show PySem.W.dataLt (keyD z.word z.parts) (keyD y.word y.parts) = true from t) (by rw [q2]; exact Bool.false_ne_true)
      · exact absurd (show PySem.W.dataLt (keyD y.word y.parts) (keyD x.word x.parts) = true from t) (by rw [q1]; exact Bool.false_ne_true)
theorem depth_strsD (xs : List Str) : PyData.depth (strsD xs) = 1 := by
  show PyData.depthAll (xs.map .str) + 1 = 1
  rw [depth_strs]
/-! ### a key > a key -/
def rGtKey (K : Fg) : R2 := fun x y H Q => ∃ w ps w' ps', Dp K H x (keyD w ps) ∧ Dp K H y (keyD w' ps') ∧ Q (.bl (ltK w' ps' w ps)) H
theorem op_gtKey {X : Cx} (hu : X.A.units + 64 < cLine) : OpR X (compareOp .Gt) (rGtKey X.K) := by
  intro pins s σ H x y v u Q I rx ry h
  obtain ⟨w, ps, w', ps', hx, hy, q⟩ := h
  obtain ⟨as, r1⟩ := Dp.reads I _ x v hx rx
  obtain ⟨bs, r2⟩ := Dp.reads I _ y u hy ry
  have hd : PyData.depth (keyD w ps) ≤ 64 := by
    show max (PyData.depth (.str w)) (max (PyData.depth (strsD ps)) 0) + 1 ≤ 64
    rw [depth_strsD]
    show max 0 (max 1 0) + 1 ≤ 64
    omega
  refine PySem.W.gt_data r1 r2 (alike_key _ _ _ _) (fun z => by cases z) ?_ (fin_bl I q ?_)
  · have := Nat.min_le_left (PyData.depth (keyD w ps)) (PyData.depth (keyD w' ps'))
    omega
  · rw [keyD_lt]
end Lt
set_option Elab.async false
set_option linter.all false
set_option maxRecDepth 100000
set_option maxHeartbeats 8000000
/-! what holds of a piece, what is done to it, rows -/
namespace Lt
open PySem PySem.Spec PyProof.Rows L2
open C8 (Cal Met Mak pe_c pe_mk pe_mt pe_mt0 pe_gc)
section
variable {P : Program} {w : World} {K : Fg} {mg : Str → Option Value} {base : Heap}
/-- the piece ahead, if any -/
def ElAt (K : Fg) (H : Hp) (v : V) (e : Option PcD) : Prop := (e = none ∧ v = .non) ∨ ∃ x b, e = some x ∧ v = .ref b ∧ PcAt K H (.ref b) x
theorem ElAt.mono {H H' : Hp} {v : V} {e : Option PcD} (s : Same H H') (h : ElAt K H v e) : ElAt K H' v e := by
  rcases h with h | ⟨x, b, h1, h2, h3⟩
  · exact .inl h
  · exact .inr ⟨x, b, h1, h2, h3.mono s⟩
def sp_holdsIn (Ts : List Str) (K : Fg) : Sp := fun vs H Q _ => ∃ (t : Str) (wd : Int) (ev : V) (a : Addr) (e : Option PcD) (d : PcD), vs = [.str t, .int wd, ev, .ref a] ∧ t ∈ Ts ∧ ElAt K H ev e ∧ PcAt K H (.ref a) d ∧ ∀ H', Same H H' → Q (.bl (holds t wd e d)) H'
abbrev sp_holds (K : Fg) : Sp := sp_holdsIn tests20 K
theorem len_holdsIn {Ts vs H Q E} (h : sp_holdsIn Ts K vs H Q E) : vs.length = 4 := by
  obtain ⟨_, _, _, _, _, _, rfl, _⟩ := h
  rfl
theorem sc_holds : FnScope ["test", "width", "elder", "piece"] ["test", "width", "elder", "piece"] (defScope d_holds.st) := ⟨rfl, rfl, rfl, by decide +kernel, rfl, by decide +kernel, by decide +kernel⟩
theorem bi_holds {K : Fg} {fd : FuncData} (F : FnD K d_holds fd) : Binds K fd ["test", "width", "elder", "piece"] [] := FunD.bindsN F fun _ _ _ _ _ _ us hl => match us, hl with | [_, _, _, _], _ => rfl
theorem body_holds {L kk : Nat} (T : Txt K mg) (h3 : 3 ≤ L) (hkk : kk ≤ L) {spS : Sp} (c_self : Cal P w K mg base kk "holds" spS []) {Ts : List Str} (hT : ∀ t ∈ Ts, t.length ≤ 100 ∧ ((hd4 t = "not " ∧ tl4 t ∈ tests10) ∨ (hd4 t ≠ "not " ∧ t ∈ tests10)))
    (hS : ∀ t ∈ Ts, hd4 t = "not " → ∀ vs H Q E, sp_holdsIn tests10 K vs H Q E → spS vs H Q E) : BodyOk P w K mg base L ["test", "width", "elder", "piece"] d_holds (sp_holdsIn Ts K) := by
  intro cdv A outer s H vs Q E hr h
  obtain ⟨t, wd, ev, a, e, d, rfl, ht, he, hd, k⟩ := h
  have nd := sc_holds.nd
  refine ⟨_, (pss_cons (ps_if (pt_cmpR op_eq (pe_slice sl_str (pv 0) po_none (po_some (pe_callB call_len_str (by rfl) T.b_len PySem.boot_len (pa_cons (pe_gc (by rfl) T.s_NOT) pa_nil)))) (pe_gc (by rfl) T.s_NOT) (nomark _)) (pss_one (ps_ret (pe_not (pe_c c_self hr (by omega) (by rfl) (pa_cons (pe_slice sl_str (pv 0) (po_some (pe_callB call_len_str (by rfl) T.b_len PySem.boot_len (pa_cons (pe_gc (by rfl) T.s_NOT) pa_nil))) po_none) (pa_cons (pv 1) (pa_cons (pv 2) (pa_cons (pv 3) pa_nil)))))))) pss_nil)
      (pss_cons (ps_match (pv 0) (.cons .val (pss_one (ps_ret (pe_fld (pv 3) rfl))) (.cons .val (pss_one (ps_ret (pe_fld (pv 3) rfl))) (.cons .val (pss_one (ps_ret (pe_fld (pv 3) rfl))) (.cons .val (pss_one (ps_ret (pe_cmpR op_ne (pe_fld (pv 3) rfl) pe_str (nomark _)))) (.cons .val (pss_one (ps_ret (pe_cmpR op_ne (pe_fld (pv 3) rfl) pe_str (nomark _)))) (.cons .val (pss_one (ps_ret (pe_cmpR op_gt (pe_fld (pv 3) rfl) pe_int (nomark _)))) (.cons .val (pss_one (ps_ret (pe_c (cal_is_long T) hr (by omega) (by rfl) (pa_cons (pv 3) (pa_cons (pv 1) pa_nil))))) (.cons .val (pss_one (ps_ret (pe_cmpR op_isN (pv 2) pe_non (nomark _)))) (.cons .val (pss_one (ps_ret (pe_and (pe_cmpR op_notN (pv 2) pe_non (nomark _)) (pe_one (pe_fld (pv 2) rfl))))) .nil))))))))))
      (pss_one (ps_ret (pe_and (pe_cmpR op_notN (pv 2) pe_non (nomark _)) (pe_one (pe_cmpR op_ne (pe_fld (pv 2) rfl) pe_str (nomark _)))))))), ?_⟩
  have cl := T.c_Piece
  obtain ⟨_, dx, pa, z, e0, ea, hp, hz, ok⟩ := id hd
  cases e0
  obtain ⟨h100, h2⟩ := hT t ht
  have l4 : ("not " : Str).length ≤ sizeLine := by decide +kernel
  refine ⟨_, rfl, _, rfl, l4, 4, rfl, t, rfl, sz (by omega), rfl, _, rfl, ?_⟩
  rcases h2 with ⟨h2, h3'⟩ | ⟨h2, h3'⟩
  · have en : decide (V.str (cutS t none (some 4)) = V.str "not ") = true := decide_eq_true (by rw [show cutS t none (some 4) = "not " from h2])
    refine ite2 (fun _ => ?_) (fun n => absurd en n)
    have hn : ∀ x ∈ tests10, hd4 x ≠ "not " := by decide +kernel
    refine ⟨_, rfl, _, rfl, l4, 4, rfl, t, rfl, sz (by omega), _, rfl, _, rfl, _, rfl, hS t ht h2 _ _ _ _ ⟨tl4 t, wd, ev, a, e, d, rfl, h3', he, hd, fun H' s' => ⟨_, rfl, ?_⟩⟩⟩
    have k' := k H' s'
    unfold holds at k'
    rw [if_pos h2] at k'
    unfold holds
    rw [if_neg (hn _ h3')]
    exact k'
  · have en : ¬ decide (V.str (cutS t none (some 4)) = V.str "not ") = true := fun n => h2 (V.str.inj (of_decide_eq_true n))
    refine ite2 (fun n => absurd n en) (fun _ => ?_)
    have kB : ∀ H', Same H H' → Q (.bl (holdsB t wd e d)) H' := fun H' s' => by
      have k' := k H' s'
      unfold holds at k'
      rw [if_neg h2] at k'
      exact k'
    unfold holdsB at kB
    have fin : ∀ b : Bool, Q (.bl b) H → True := fun _ _ => trivial
    refine ⟨_, rfl, t, rfl, ?_⟩
    refine ite2 (fun q => ?_) (fun q => ?_)
    · rw [if_pos (List.mem_singleton.mp q)] at kB
      exact ⟨_, rfl, a, _, dx, _, _, rfl, ea, cl, T.n_Piece_broken, pcF_broken, kB _ (Same.refl _)⟩
    rw [if_neg (fun z => q (List.mem_singleton.mpr z))] at kB
    refine ite2 (fun q => ?_) (fun q => ?_)
    · rw [if_pos (List.mem_singleton.mp q)] at kB
      exact ⟨_, rfl, a, _, dx, _, _, rfl, ea, cl, T.n_Piece_marked, pcF_marked, kB _ (Same.refl _)⟩
    rw [if_neg (fun z => q (List.mem_singleton.mpr z))] at kB
    refine ite2 (fun q => ?_) (fun q => ?_)
    · rw [if_pos (List.mem_singleton.mp q)] at kB
      exact ⟨_, rfl, a, _, dx, _, _, rfl, ea, cl, T.n_Piece_left, pcF_left, kB _ (Same.refl _)⟩
    rw [if_neg (fun z => q (List.mem_singleton.mpr z))] at kB
    refine ite2 (fun q => ?_) (fun q => ?_)
    · rw [if_pos (List.mem_singleton.mp q)] at kB
      refine ⟨_, rfl, a, _, dx, _, _, rfl, ea, cl, T.n_Piece_ahead, pcF_ahead, rfl, ?_⟩
      rw [neV]
      exact kB _ (Same.refl _)
    rw [if_neg (fun z => q (List.mem_singleton.mpr z))] at kB
    refine ite2 (fun q => ?_) (fun q => ?_)
    · rw [if_pos (List.mem_singleton.mp q)] at kB
      refine ⟨_, rfl, a, _, dx, _, _, rfl, ea, cl, T.n_Piece_behind, pcF_behind, rfl, ?_⟩
      rw [neV]
      exact kB _ (Same.refl _)
    rw [if_neg (fun z => q (List.mem_singleton.mpr z))] at kB
    refine ite2 (fun q => ?_) (fun q => ?_)
    · rw [if_pos (List.mem_singleton.mp q)] at kB
      exact ⟨_, rfl, a, _, dx, _, _, rfl, ea, cl, T.n_Piece_blanks, pcF_blanks, _, _, rfl, rfl, kB _ (Same.refl _)⟩
    rw [if_neg (fun z => q (List.mem_singleton.mpr z))] at kB
    refine ite2 (fun q => ?_) (fun q => ?_)
    · rw [if_pos (List.mem_singleton.mp q)] at kB
      exact ⟨_, rfl, _, rfl, a, wd, d, rfl, hd, kB⟩
    rw [if_neg (fun z => q (List.mem_singleton.mpr z))] at kB
    refine ite2 (fun q => ?_) (fun q => ?_)
    · rw [if_pos (List.mem_singleton.mp q)] at kB
      rcases he with ⟨rfl, rfl⟩ | ⟨x, b, rfl, rfl, hx⟩
      · exact ⟨_, rfl, rfl, kB _ (Same.refl _)⟩
      · exact ⟨_, rfl, rfl, kB _ (Same.refl _)⟩
    rw [if_neg (fun z => q (List.mem_singleton.mpr z))] at kB
    refine ite2 (fun q => ?_) (fun q => ?_)
    · rw [if_pos (List.mem_singleton.mp q)] at kB
      rcases he with ⟨rfl, rfl⟩ | ⟨x, b, rfl, rfl, hx⟩
      · exact ⟨_, rfl, rfl, _, rfl, iteF (kB _ (Same.refl _))⟩
      · obtain ⟨_, dy, pb, zz, f0, eb, _⟩ := id hx
        cases f0
        exact ⟨_, rfl, rfl, _, rfl, iteT ⟨_, rfl, b, _, dy, _, _, rfl, eb, cl, T.n_Piece_broken, pcF_broken, kB _ (Same.refl _)⟩⟩
    rw [if_neg (fun z => q (List.mem_singleton.mpr z))] at kB
    rcases he with ⟨rfl, rfl⟩ | ⟨x, b, rfl, rfl, hx⟩
    · exact ⟨_, rfl, rfl, _, rfl, iteF (kB _ (Same.refl _))⟩
    · obtain ⟨_, dy, pb, zz, f0, eb, _⟩ := id hx
      cases f0
      refine ⟨_, rfl, rfl, _, rfl, iteT ⟨_, rfl, b, _, dy, _, _, rfl, eb, cl, T.n_Piece_behind, pcF_behind, rfl, ?_⟩⟩
      rw [neV]
      exact kB _ (Same.refl _)
def sp_no : Sp := fun _ _ _ _ => False
theorem cal_no (T : Txt K mg) : Cal P w K mg base 0 "holds" sp_no [] := by
  obtain ⟨fd, F⟩ := T.d_holds
  exact ⟨_, fd, _, [], ⟨fun _ _ _ _ h => h.elim, fun _ _ _ _ _ _ _ _ _ _ _ _ _ h => h.elim⟩, T.g_holds, F.kp, bi_holds F, .nil⟩
theorem cal_holds1 (T : Txt K mg) : Cal P w K mg base 4 "holds" (sp_holdsIn tests10 K) [] := by
  obtain ⟨fd, F⟩ := T.d_holds
  have h1 : ∀ t ∈ tests10, t.length ≤ 100 ∧ hd4 t ≠ "not " := by decide +kernel
  exact mkCal F T.g_holds (bi_holds F) sc_holds (fun vs H Q E h => len_holdsIn h) (body_holds T (Nat.le_refl 3) (Nat.zero_le 3) (cal_no T) (fun t m => ⟨(h1 t m).1, .inr ⟨(h1 t m).2, m⟩⟩) fun t m e => absurd e (h1 t m).2)
theorem cal_holds (T : Txt K mg) : Cal P w K mg base 5 "holds" (sp_holds K) [] := by
  obtain ⟨fd, F⟩ := T.d_holds
  exact mkCal F T.g_holds (bi_holds F) sc_holds (fun vs H Q E h => len_holdsIn h) (body_holds T (by decide) (Nat.le_refl 4) (cal_holds1 T) test_split fun t m e vs H Q E h => h)
/-! ### what is done -/
def sp_done_to (K : Fg) : Sp := fun vs H Q _ => ∃ (a : Addr) (x : Str) (d : PcD), vs = [.ref a, .str x] ∧ x ∈ deeds8 ∧ PcAt K H (.ref a) d ∧ ∀ b H', Same H H' → PcAt K H' (.ref b) (did x d) → Q (.ref b) H'
theorem len_done_to {vs H Q E} (h : sp_done_to K vs H Q E) : vs.length = 2 := by
  obtain ⟨_, _, _, rfl, _⟩ := h
  rfl
theorem ok_but {d : PcD} (ok : d.ok) {br mk lf : Bool} {ah bh : Str} {bl : Int} (h1 : ah = "" ∨ nameOk ah) (h2 : bh = "" ∨ nameOk bh) (h3 : 0 ≤ bl) (h4 : bl ≤ 2) : PcD.ok { d with broken := br, marked := mk, left := lf, ahead := ah, behind := bh, blanks := bl } :=
  ⟨ok.word, ok.ne, ok.few, ok.parts, h1, h2, h3, h4⟩
theorem but_sp {H : Hp} {a o : Addr} {d e : PcD} {ots : List (Key × V)} {Q : VK} {E : XK} (hd : PcAt K H (.ref a) d) (no : H o = none) (hm : ∀ pa, mergeK (toldD d pa) ots = toldD e pa) (hl : ots.length ≤ 8) (hp : e.parts = d.parts) (ok : e.ok) (k : ∀ p H', Same H H' → PcAt K H' (.ref p) e → Q (.ref p) H') :
    sp_Piece_but K [.ref a, .ref o] (upd H o (.dK ots)) Q E :=
  ⟨a, o, d, e, ots, rfl, hd.mono (same_new no), upd_same, hl, hm, hp, ok, fun p H' s1 h1 => k p H' ((same_new no).trans s1) h1⟩
theorem sc_done_to : FnScope ["piece", "deed"] ["piece", "deed"] (defScope d_done_to.st) := ⟨rfl, rfl, rfl, by decide +kernel, rfl, by decide +kernel, by decide +kernel⟩
theorem bi_done_to {K : Fg} {fd : FuncData} (F : FnD K d_done_to fd) : Binds K fd ["piece", "deed"] [] := FunD.bindsN F fun _ _ _ _ _ _ us hl => match us, hl with | [_, _], _ => rfl
theorem body_done_to (T : Txt K mg) : BodyOk P w K mg base 6 ["piece", "deed"] d_done_to (sp_done_to K) := by
  intro cdv A outer s H vs Q E hr h
  obtain ⟨a, x, d, rfl, hx, hd, k⟩ := h
  have nd := sc_done_to.nd
  refine ⟨_, (pss_cons (ps_match (pv 1) (.cons (.or (.cons (.cons .nil))) (pss_one (ps_ret (pe_butM (but_br T) T.c_Piece T.m_Piece_but hr (by decide) (pv 0) (pk_cons (pe_cmpR op_eq (pv 1) pe_str (nomark _)) pk_nil)))) (.cons (.or (.cons (.cons .nil))) (pss_one (ps_ret (pe_butM (but_ma T) T.c_Piece T.m_Piece_but hr (by decide) (pv 0) (pk_cons (pe_cmpR op_eq (pv 1) pe_str (nomark _)) pk_nil)))) (.cons .val (pss_one (ps_ret (pe_ifExp (PW.pt (pw_and (pt_cmpR op_ne (pe_fld (pv 0) rfl) pe_str (nomark _)) (pw_and1 (pt_cmpR op_eq (pe_fld (pv 0) rfl) pe_str (nomark _))))) (pe_butM (but_ahbe T) T.c_Piece T.m_Piece_but hr (by decide) (pv 0) (pk_cons (pe_fld (pv 0) rfl) (pk_cons pe_str pk_nil))) (pv 0)))) (.cons .val (pss_one (ps_ret (pe_ifExp (PW.pt (pw_and (pt_cmpR op_ne (pe_fld (pv 0) rfl) pe_str (nomark _)) (pw_and1 (pt_cmpR op_eq (pe_fld (pv 0) rfl) pe_str (nomark _))))) (pe_butM (but_beah T) T.c_Piece T.m_Piece_but hr (by decide) (pv 0) (pk_cons (pe_fld (pv 0) rfl) (pk_cons pe_str pk_nil))) (pv 0)))) .nil)))))
      (pss_one (ps_ret (pe_butM (but_bl T) T.c_Piece T.m_Piece_but hr (by decide) (pv 0) (pk_cons (pe_callTy call_int1 (by rfl) T.b_int PyProof.Rows.boot_int (pa_cons (pe_cmpR op_eq (pv 1) pe_str (nomark _)) pa_nil)) pk_nil))))), ?_⟩
  have cl := T.c_Piece
  obtain ⟨_, dx, pa, z, e0, ea, hp, hz, ok⟩ := id hd
  cases e0
  have ka : Same H H → PcAt K H (.ref a) (did x d) → Q (.ref a) H := k a H
  unfold did at k ka
  refine ⟨_, rfl, x, rfl, ?_⟩
  refine ite2 (fun q => ?_) (fun q => ?_)
  · have q1 : x = "break" ∨ x = "join" := by simpa using q
    rw [if_pos q1] at k
    refine ⟨_, rfl, a, dx, _, rfl, ea, rfl, _, rfl, rfl, rfl, fun o no => ?_⟩
    rw [eqV']
    exact but_sp (e := { d with broken := decide (x = "break") }) hd no (fun _ => rfl) (Nat.le_of_ble_eq_true rfl) rfl (ok_but ok ok.ahead ok.behind ok.b0 ok.b2) k
  rw [if_neg (fun z => q (by simpa using z))] at k ka
  refine ite2 (fun q => ?_) (fun q => ?_)
  · have q1 : x = "mark" ∨ x = "unmark" := by simpa using q
    rw [if_pos q1] at k
    refine ⟨_, rfl, a, dx, _, rfl, ea, rfl, _, rfl, rfl, rfl, fun o no => ?_⟩
    rw [eqV']
    exact but_sp (e := { d with marked := decide (x = "mark") }) hd no (fun _ => rfl) (Nat.le_of_ble_eq_true rfl) rfl (ok_but ok ok.ahead ok.behind ok.b0 ok.b2) k
  rw [if_neg (fun z => q (by simpa using z))] at k ka
  refine ite2 (fun q => ?_) (fun q => ?_)
  · have q1 : x = "lift" := by simpa using q
    rw [if_pos q1] at k ka
    refine ⟨_, rfl, a, _, dx, _, _, rfl, ea, cl, T.n_Piece_behind, pcF_behind, rfl, _, rfl, ?_⟩
    rw [neV]
    refine ite2 (fun q2 => ?_) (fun q2 => ?_)
    · have n2 : ¬ d.behind = "" := by simpa using q2
      refine ⟨_, rfl, a, _, dx, _, _, rfl, ea, cl, T.n_Piece_ahead, pcF_ahead, rfl, _, rfl, ?_⟩
      rw [eqV']
      refine ite2 (fun q3 => ?_) (fun q3 => ?_)
      · have n3 : d.ahead = "" := of_decide_eq_true q3
        rw [if_pos ⟨n2, n3⟩] at k
        refine ⟨_, rfl, a, dx, _, rfl, ea, rfl, _, rfl, a, _, dx, _, _, rfl, ea, cl, T.n_Piece_behind, pcF_behind, rfl, fun o no => ?_⟩
        exact but_sp (e := { d with ahead := d.behind, behind := "" }) hd no (fun _ => rfl) (Nat.le_of_ble_eq_true rfl) rfl (ok_but ok ok.behind (.inl rfl) ok.b0 ok.b2) k
      · rw [if_neg (fun z => q3 (decide_eq_true z.2))] at ka
        exact ⟨_, rfl, ka (Same.refl _) hd⟩
    · have n2 : d.behind = "" := by simpa using q2
      rw [if_neg (fun z => z.1 n2)] at ka
      exact ⟨_, rfl, ka (Same.refl _) hd⟩
  rw [if_neg (fun z => q (by simpa using z))] at k ka
  refine ite2 (fun q => ?_) (fun q => ?_)
  · have q1 : x = "lower" := by simpa using q
    rw [if_pos q1] at k ka
    refine ⟨_, rfl, a, _, dx, _, _, rfl, ea, cl, T.n_Piece_ahead, pcF_ahead, rfl, _, rfl, ?_⟩
    rw [neV]
    refine ite2 (fun q2 => ?_) (fun q2 => ?_)
    · have n2 : ¬ d.ahead = "" := by simpa using q2
      refine ⟨_, rfl, a, _, dx, _, _, rfl, ea, cl, T.n_Piece_behind, pcF_behind, rfl, _, rfl, ?_⟩
      rw [eqV']
      refine ite2 (fun q3 => ?_) (fun q3 => ?_)
      · have n3 : d.behind = "" := of_decide_eq_true q3
        rw [if_pos ⟨n2, n3⟩] at k
        refine ⟨_, rfl, a, dx, _, rfl, ea, rfl, _, rfl, a, _, dx, _, _, rfl, ea, cl, T.n_Piece_ahead, pcF_ahead, rfl, fun o no => ?_⟩
        exact but_sp (e := { d with ahead := "", behind := d.ahead }) hd no (fun _ => rfl) (Nat.le_of_ble_eq_true rfl) rfl (ok_but ok (.inl rfl) ok.ahead ok.b0 ok.b2) k
      · rw [if_neg (fun z => q3 (decide_eq_true z.2))] at ka
        exact ⟨_, rfl, ka (Same.refl _) hd⟩
    · have n2 : d.ahead = "" := by simpa using q2
      rw [if_neg (fun z => z.1 n2)] at ka
      exact ⟨_, rfl, ka (Same.refl _) hd⟩
  rw [if_neg (fun z => q (by simpa using z))] at k ka
  refine ⟨_, rfl, a, dx, _, rfl, ea, rfl, _, rfl, rfl, .inr ⟨_, rfl, rfl, fun o no => ?_⟩⟩
  rw [eqV']
  exact but_sp (e := { d with blanks := b2i (decide (x = "space")) }) hd no (fun _ => rfl) (Nat.le_of_ble_eq_true rfl) rfl (ok_but ok ok.ahead ok.behind (by unfold b2i; split <;> decide) (by unfold b2i; split <;> decide)) k
theorem cal_done_to (T : Txt K mg) : Cal P w K mg base 7 "done_to" (sp_done_to K) [] := by
  obtain ⟨fd, F⟩ := T.d_done_to
  exact mkCal F T.g_done_to (bi_done_to F) sc_done_to (fun vs H Q E h => len_done_to h) (body_done_to T)
end
end Lt
set_option Elab.async false
set_option linter.all false
set_option maxRecDepth 100000
set_option maxHeartbeats 8000000
/-! pieces laid out, rows done -/
namespace Lt
open PySem PySem.Spec PyProof.Rows L2
open C8 (Cal Met Mak pe_c pe_mk pe_mt pe_mt0 pe_gc)
theorem laid_succ {rows : List RwD} {wd : Int} {e : Option PcD} {d : PcD} {i : Nat} {r : RwD} (h : rows[i]? = some r) : laid (rows.take (i + 1)) wd e d = laid1 wd e r (laid (rows.take i) wd e d) := by
  unfold laid
  rw [List.take_add_one, h, List.foldl_append]
  rfl
theorem dids_succ {xs : List Str} {d : PcD} {i : Nat} {x : Str} (h : xs[i]? = some x) : dids (xs.take (i + 1)) d = did x (dids (xs.take i) d) := by
  unfold dids
  rw [List.take_add_one, h, List.foldl_append]
  rfl
theorem all_map (f : Str → Bool) (l : List Str) : (l.map f).all id = l.all f := by
  rw [List.all_map]
  rfl
section
variable {P : Program} {w : World} {K : Fg} {mg : Str → Option Value} {base : Heap}
def sp_laid_out (K : Fg) : Sp := fun vs H Q _ => ∃ (t : Addr) (wd : Int) (ev : V) (a : Addr) (tl : TlD) (e : Option PcD) (d : PcD), vs = [.ref t, .int wd, ev, .ref a] ∧ TlAt K H (.ref t) tl ∧ ElAt K H ev e ∧ PcAt K H (.ref a) d ∧
  ∀ b H', Same H H' → PcAt K H' (.ref b) (laid tl.rows wd e d) → Q (.ref b) H'
theorem len_laid_out {vs H Q E} (h : sp_laid_out K vs H Q E) : vs.length = 4 := by
  obtain ⟨_, _, _, _, _, _, _, rfl, _⟩ := h
  rfl
theorem sc_laid_out : FnScope ["tool", "width", "elder", "piece", "row", "deed", "test"] ["tool", "width", "elder", "piece"] (defScope d_laid_out.st) := ⟨rfl, rfl, rfl, by decide +kernel, rfl, by decide +kernel, by decide +kernel⟩
theorem bi_laid_out {K : Fg} {fd : FuncData} (F : FnD K d_laid_out fd) : Binds K fd ["tool", "width", "elder", "piece"] [] := FunD.bindsN F fun _ _ _ _ _ _ us hl => match us, hl with | [_, _, _, _], _ => rfl
theorem body_laid_out (T : Txt K mg) : BodyOk P w K mg base 7 ["tool", "width", "elder", "piece", "row", "deed", "test"] d_laid_out (sp_laid_out K) := by
  intro cdv A outer s H vs Q E hr h
  obtain ⟨t, wd, ev, a, tl, e, d, rfl, ⟨_, dx, ra, us, e0, et, hra, hrs, okt⟩, he, hd, k⟩ := h
  cases e0
  have nd := sc_laid_out.nd
  refine ⟨_, (pss_cons (ps_for PassesOwn.never rfl (pi_tup (pe_fld (pv 0) rfl)) (pg_name (i := 4) nd rfl (Or.inl rfl)) (pss_one (ps_if (pt_val (pe_callB (cr_all rfl) (by rfl) T.b_all PyProof.Rows.boot_all (pa_cons (pe_lc (own := [("test", 6)]) (g := gName 6) (tt := tYes) rfl nd (pi_tup (pe_fld (pv 4) rfl)) (blkOk_by (N := ["tool", "width", "elder", "piece", "row", "deed", "test"]) (sc := defScope d_laid_out.st) (by decide +kernel)) (fun _ _ _ _ _ => (pg_name (i := 6) nd rfl (Or.inl rfl))) (fun _ _ _ _ _ => pts_nil) (fun _ _ _ _ _ => (pe_c (cal_holds T) hr (by decide) (by rfl) (pa_cons (pv 6) (pa_cons (pv 1) (pa_cons (pv 2) (pa_cons (pv 3) pa_nil))))))) pa_nil))) (pss_one (ps_for PassesOwn.never rfl (pi_tup (pe_fld (pv 4) rfl)) (pg_name (i := 5) nd rfl (Or.inl rfl)) (pss_one (ps_set (i := 3) nd rfl (Or.inr rfl) (pe_c (cal_done_to T) hr (by decide) (by rfl) (pa_cons (pv 3) (pa_cons (pv 5) pa_nil))))))) pss_nil)))
      (pss_one (ps_ret (pv 3)))), ?_⟩
  have lu : us.length = tl.rows.length := Paired.lenE hrs
  refine ⟨_, rfl, t, _, dx, _, _, rfl, et, T.c_Tool, T.n_Tool_rows, rfl, ra, rfl, ⟨_, hra⟩, ?_⟩
  refine for_tup (xs := us) (fun i σ H' => ∃ b v4 v5 v6, σ = [some (.ref t), some (.int wd), some ev, some (.ref b), v4, v5, v6] ∧ Same H H' ∧ PcAt K H' (.ref b) (laid (tl.rows.take i) wd e d)) ⟨a, none, none, none, rfl, Same.refl _, hd⟩ (fun i σ H' _ ⟨_, _, _, _, _, s1, _⟩ => SqTm s1 hra) ?_ ?_
  · rintro i x σ H1 hx ⟨b, v4, v5, v6, rfl, s1, hb⟩
    obtain ⟨r, hr', hrow⟩ := Paired.get0 hrs hx
    obtain ⟨q, dq, ta, da, rfl, eq, hta, hda⟩ := hrow.mono s1
    have okr := okt.rows r (List.mem_of_getElem? hr')
    rw [laid_succ hr']
    generalize laid (tl.rows.take i) wd e d = d1 at hb ⊢
    refine ⟨_, rfl, q, _, dq, _, _, rfl, eq, T.c_Row, T.n_Row_tests, rfl, ta, rfl, ⟨_, hta⟩, fun D hD => ?_⟩
    refine lc_go walk_tup (fun j acc H' => Same H1 H' ∧ acc = (r.1.take j).map fun z => V.bl (holds z wd e d1)) ⟨same_new hD, rfl⟩ (fun j acc H' _ p _ => SqTm p.1 hta) (fun j x acc Ha Hb hj hl ⟨p1, p2⟩ hD1 y => ?_) (fun acc H2 hl ⟨p1, p2⟩ hD1 => ?_)
    · obtain ⟨rfl, hx2⟩ := y
      rw [List.getElem?_map] at hx2
      obtain ⟨z, hz, rfl⟩ := Option.map_eq_some_iff.mp hx2
      rw [List.length_map] at hj
      have h4 := okr.few
      refine ⟨rfl, yes ⟨_, rfl, _, rfl, _, rfl, _, rfl, z, wd, ev, b, e, d1, rfl, okr.tests z (List.mem_of_getElem? hz), (he.mono (s1.trans p1)), hb.mono p1, fun Hc sc => ?_⟩⟩
      refine lc_put (sc _ _ hD1) hl (by omega) ⟨(p1.trans sc).mut hD, ?_⟩
      rw [p2, List.take_add_one, hz, List.map_append]
      rfl
    · rw [List.length_map, List.take_length] at p2
      refine ⟨D, r.1.map fun z => holds z wd e d1, rfl, by rw [List.map_map]; exact SqL.of (by rw [hD1, p2]; rfl), ?_⟩
      refine ⟨_, rfl, ?_⟩
      rw [all_map]
      have s2 := s1.trans p1
      refine ite2 (fun g => ?_) (fun g => ?_)
      · have el : laid1 wd e r d1 = dids r.2 d1 := by
          unfold laid1
          rw [if_pos g]
        rw [el]
        refine ⟨_, rfl, q, _, dq, _, _, rfl, p1 _ _ eq, T.c_Row, T.n_Row_deeds, rfl, da, rfl, ⟨_, SqTm p1 hda⟩, ?_⟩
        refine for_tup (xs := r.2.map V.str) (fun j σ H' => ∃ b v5, σ = [some (.ref t), some (.int wd), some ev, some (.ref b), some (.ref q), v5, v6] ∧ Same H2 H' ∧ PcAt K H' (.ref b) (dids (r.2.take j) d1)) ⟨b, _, rfl, Same.refl _, hb.mono p1⟩ (fun j σ H' _ ⟨_, _, _, s3, _⟩ => SqTm (p1.trans s3) hda) ?_ ?_
        · rintro j x σ H3 hx3 ⟨b3, v5, rfl, s3, hb3⟩
          rw [List.getElem?_map] at hx3
          obtain ⟨z, hz, rfl⟩ := Option.map_eq_some_iff.mp hx3
          rw [dids_succ hz]
          refine ⟨_, rfl, _, rfl, b3, z, _, rfl, okr.deeds z (List.mem_of_getElem? hz), hb3, fun b4 H4 s4 hb4 => ?_⟩
          exact ⟨b4, _, rfl, s3.trans s4, hb4⟩
        · rintro σ H3 ⟨b3, v5, rfl, s3, hb3⟩
          rw [List.length_map, List.take_length] at hb3
          exact ⟨b3, _, _, _, rfl, s2.trans s3, hb3⟩
      · have el : laid1 wd e r d1 = d1 := by
          unfold laid1
          rw [if_neg g]
        rw [el]
        exact ⟨b, _, _, _, rfl, s2, hb.mono p1⟩
  · rintro σ H1 ⟨b, v4, v5, v6, rfl, s1, hb⟩
    rw [lu, List.take_length] at hb
    exact ⟨_, rfl, k b _ s1 hb⟩
theorem cal_laid_out (T : Txt K mg) : Cal P w K mg base 8 "laid_out" (sp_laid_out K) [] := by
  obtain ⟨fd, F⟩ := T.d_laid_out
  exact mkCal F T.g_laid_out (bi_laid_out F) sc_laid_out (fun vs H Q E h => len_laid_out h) (body_laid_out T)
theorem rowsDone_succ {rows : List RwD} {wd : Int} {ps : List PcD} {i : Nat} {d : PcD} (h : ps[i]? = some d) : rowsDone rows wd (ps.take (i + 1)) = stepR rows wd (rowsDone rows wd (ps.take i)) d := by
  unfold rowsDone
  rw [List.take_add_one, h, List.foldl_append]
  rfl
theorem paired_last {α β : Type} {F : α → β → Prop} {xs : List α} {ys : List β} (h : Paired F xs ys) : (xs = [] ∧ ys = []) ∨ ∃ ini x jni y, xs = ini ++ [x] ∧ ys = jni ++ [y] ∧ F x y := by
  induction h with
  | nil => exact .inl ⟨rfl, rfl⟩
  | cons r t ih =>
    rcases ih with ⟨rfl, rfl⟩ | ⟨ini, x, jni, y, rfl, rfl, f⟩
    · exact .inr ⟨[], _, [], _, rfl, rfl, r⟩
    · exact .inr ⟨_ :: ini, x, _ :: jni, y, rfl, rfl, f⟩
def sp_rows_done (K : Fg) : Sp := fun vs H Q _ => ∃ (t : Addr) (wd : Int) (l : Addr) (tl : TlD) (us : List V) (ps : List PcD), vs = [.ref t, .int wd, .ref l] ∧ TlAt K H (.ref t) tl ∧ (SqL K H l us ∨ SqT K H l us) ∧ PcAll K H us ps ∧ ps.length ≤ 40 ∧
  ∀ f ws H', Same H H' → H f = none → H' f = some (.lst ws) → PcAll K H' ws (rowsDone tl.rows wd ps) → Q (.ref f) H'
theorem len_rows_done {vs H Q E} (h : sp_rows_done K vs H Q E) : vs.length = 3 := by
  obtain ⟨_, _, _, _, _, _, rfl, _⟩ := h
  rfl
theorem rowsDone_len (rows : List RwD) (wd : Int) (ps : List PcD) : (rowsDone rows wd ps).length = ps.length := by
  have g : ∀ (l acc : List PcD), (l.foldl (stepR rows wd) acc).length = acc.length + l.length := fun l => by
    induction l with
    | nil => exact fun acc => rfl
    | cons x r ih =>
      intro acc
      rw [List.foldl_cons, ih]
      unfold stepR
      simp only [List.length_append, List.length_cons, List.length_nil]
      omega
  have := g ps []
  simpa [rowsDone] using this
def rdInv (K : Fg) (t : Addr) (wd : Int) (l f : Addr) (H : Hp) (tl : TlD) (ps : List PcD) (i : Nat) (σ : L2.St) (H' : Hp) : Prop :=
  ∃ acc v4, σ = [some (.ref t), some (.int wd), some (.ref l), some (.ref f), v4] ∧ Same H H' ∧ H' f = some (.lst acc) ∧ PcAll K H' acc (rowsDone tl.rows wd (ps.take i))
theorem sc_rows_done : FnScope ["tool", "width", "pieces", "found", "piece"] ["tool", "width", "pieces"] (defScope d_rows_done.st) := ⟨rfl, rfl, rfl, by decide +kernel, rfl, by decide +kernel, by decide +kernel⟩
theorem bi_rows_done {K : Fg} {fd : FuncData} (F : FnD K d_rows_done fd) : Binds K fd ["tool", "width", "pieces"] [] := FunD.bindsN F fun _ _ _ _ _ _ us hl => match us, hl with | [_, _, _], _ => rfl
theorem body_rows_done (T : Txt K mg) : BodyOk P w K mg base 8 ["tool", "width", "pieces", "found", "piece"] d_rows_done (sp_rows_done K) := by
  intro cdv A outer s H vs Q E hr h
  obtain ⟨t, wd, l, tl, us, ps, rfl, ht, hl, hps, h40, k⟩ := h
  have nd := sc_rows_done.nd
  refine ⟨_, (pss_cons (ps_set (i := 3) nd rfl (Or.inl rfl) (pe_lst pa_nil))
      (pss_cons (ps_for PassesOwn.never rfl (pi_seq (pv 2)) (pg_name (i := 4) nd rfl (Or.inl rfl)) (pss_one (ps_expr (pe_bm PySem.F.plainAttrs_list PySem.F.slot_list_append PySem.F.type_list_append mt_append (pv 3) (pa_cons (pe_c (cal_laid_out T) hr (by decide) (by rfl) (pa_cons (pv 0) (pa_cons (pv 1) (pa_cons (pe_ifExp (pt_cmpR op_gt (pe_callB call_len_seq (by rfl) T.b_len PySem.boot_len (pa_cons (pv 3) pa_nil)) pe_int (nomark _)) (pe_ix ix_list (pv 3) (pe_un un_neg pe_int) (fun _ _ => rfl)) pe_non) (pa_cons (pv 4) pa_nil))))) pa_nil)))))
      (pss_one (ps_ret (pv 3))))), ?_⟩
  have lu : us.length = ps.length := Paired.lenE hps
  refine ⟨sz (by simp), fun f nf => ?_⟩
  have s0 : Same H (upd H f (.lst [])) := same_new nf
  have v0 : (upd H f (.lst [])) f = some (.lst []) := upd_same
  generalize upd H f (.lst []) = H0 at s0 v0
  rcases hl with hl | hl
  case' inl =>
    refine ⟨_, rfl, l, rfl, .inl ⟨⟨_, SqLm s0 hl⟩, ?_⟩⟩
    refine for_it walk_list (rdInv K t wd l f H tl ps) ⟨[], none, rfl, s0, v0, .nil⟩ (fun i σ H' _ ⟨_, _, _, e, _⟩ => SqLm e hl) ?_ ?_
  case' inr =>
    refine ⟨_, rfl, l, rfl, .inr ⟨⟨_, SqTm s0 hl⟩, ?_⟩⟩
    refine for_it walk_tup (rdInv K t wd l f H tl ps) ⟨[], none, rfl, s0, v0, .nil⟩ (fun i σ H' _ ⟨_, _, _, e, _⟩ => SqTm e hl) ?_ ?_
  case inl.refine_1 | inr.refine_1 =>
    rintro i x σ H1 H2 hi ⟨acc, v4, rfl, s1, vf, ha⟩ ⟨rfl, hx⟩
    obtain ⟨d, hd, hxd⟩ := Paired.get0 hps hx
    have e9 := rowsDone_succ (rows := tl.rows) (wd := wd) hd
    have la := Paired.lenE ha
    rw [rowsDone_len, List.length_take] at la
    generalize rowsDone tl.rows wd (ps.take i) = rd at ha e9
    obtain ⟨a, ea⟩ : ∃ a, x = .ref a := by
      obtain ⟨a, _, _, _, e, _⟩ := hxd
      exact ⟨a, e⟩
    subst ea
    refine ⟨_, rfl, .inl ⟨rfl, _, SqL.of vf⟩, _, rfl, _, rfl, _, rfl, f, acc, rfl, .inl (SqL.of vf), _, _, rfl, rfl, _, rfl, ?_⟩
    refine ifE (fun v H' => H' = H2 ∧ ElAt K H2 v rd.getLast?) (fun q Q q2 => ?_) (fun q Q q2 => ?_) ?_
    · rcases paired_last ha with ⟨e1, e2⟩ | ⟨ini, y, jni, z, e1, e2, fy⟩
      · rw [e1] at q
        simp at q
      · subst e1 e2
        refine ⟨_, rfl, 1, rfl, f, _, _, _, rfl, rfl, SqL.of vf, atI_last _ _, q2 _ _ ⟨rfl, .inr ?_⟩⟩
        obtain ⟨b, _, _, _, e3, _⟩ := id fy
        exact ⟨z, b, by simp, e3, by rw [← e3]; exact fy⟩
    · rcases paired_last ha with ⟨e1, e2⟩ | ⟨ini, y, jni, z, e1, e2, fy⟩
      · exact q2 _ _ ⟨rfl, .inl ⟨by rw [e2]; rfl, rfl⟩⟩
      · rw [e1] at q
        exfalso
        apply q
        simp only [List.length_append, List.length_cons, List.length_nil, decide_eq_true_eq]
        omega
    rintro ev H3 ⟨e3, he⟩
    rw [e3]
    refine ⟨_, rfl, t, wd, ev, a, tl, rd.getLast?, d, rfl, ht.mono s1, he, hxd.mono s1, fun b H4 s4 hb => ?_⟩
    refine ⟨f, acc, _, rfl, rfl, s4 _ _ vf, szl (by omega), ?_⟩
    have s5 : Same H (upd H4 f (.lst (acc ++ [.ref b]))) := (s1.trans s4).mut nf
    refine ⟨_, _, rfl, s5, upd_same, ?_⟩
    have up : ∀ v d, PcAt K H4 v d → PcAt K (upd H4 f (.lst (acc ++ [.ref b]))) v d := fun v d hv => by
      obtain ⟨a1, dx1, pa1, z1, q0, q1, q2, q3⟩ := hv
      exact ⟨a1, dx1, pa1, z1, q0, by rw [upd_ne (ne_of q1 (s4 _ _ vf) (fun z => by cases z))]; exact q1, SqT_w q2 (s4 _ _ vf) (fun _ z => by cases z) (fun _ _ z => by cases z), q3⟩
    rw [e9]
    exact Paired.app (pairedM (fun v d hv => up v d (hv.mono s4)) ha) (.cons (up _ _ hb) .nil)
  case inl.refine_2 | inr.refine_2 =>
    rintro σ H1 ⟨acc, v4, rfl, s1, vf, ha⟩
    rw [lu, List.take_length] at ha
    exact ⟨_, rfl, k f acc _ s1 nf vf ha⟩
theorem cal_rows_done (T : Txt K mg) : Cal P w K mg base 9 "rows_done" (sp_rows_done K) [] := by
  obtain ⟨fd, F⟩ := T.d_rows_done
  exact mkCal F T.g_rows_done (bi_rows_done F) sc_rows_done (fun vs H Q E h => len_rows_done h) (body_rows_done T)
end
end Lt
set_option Elab.async false
set_option linter.all false
set_option maxRecDepth 100000
set_option maxHeartbeats 4000000
/-! sorted(pieces, key=key_of) -/
namespace Lt
open PySem PySem.Spec PyProof.Rows L2 Srt
open SrtO (Swo Srtd Stb Cmp AllL swo_int wpS_sortO)
open C8 (Cal Met Mak pe_c pe_mk pe_mt pe_mt0 pe_gc)
/-- the key of a piece, made -/
def KeyAt (K : Fg) (H : Hp) (t : Addr) (d : PcD) : Prop := ∃ pa, H t = some (.tup [.str d.word, .ref pa]) ∧ SqT K H pa (d.parts.map V.str)
theorem KeyAt.mono {K : Fg} {H H' : Hp} {t : Addr} {d : PcD} (e : Same H H') (h : KeyAt K H t d) : KeyAt K H' t d := by
  obtain ⟨pa, h1, h2⟩ := h
  exact ⟨pa, e _ _ h1, SqTm e h2⟩
/-- a pair that is sorted: a key and its piece -/
def KyR (K : Fg) (H : Hp) (p : Keyed) (d : PcD) : Prop := (∃ t, p.1 = .ref t ∧ KeyAt K H t d) ∧ ∃ b, p.2 = .ref b ∧ PcAt K H (.ref b) d
def dflD : PcD := ⟨"", [], false, false, "", "", 0, false⟩
noncomputable def kOf (K : Fg) (H : Hp) (p : Keyed) : PcD := @Classical.epsilon PcD ⟨dflD⟩ (KyR K H p)
section
variable {X : Cx} {pins : List (Addr × Obj)} {σ : L2.St} {H : Hp} {s : Shared}
theorem kOf_eq (I : Inv X pins σ H s) {p : Keyed} {d : PcD} (h : KyR X.K H p d) : kOf X.K H p = d := by
  have q : KyR X.K H p (kOf X.K H p) := Classical.epsilon_spec ⟨d, h⟩
  obtain ⟨_, b, e1, h1⟩ := h
  obtain ⟨_, b', e2, h2⟩ := q
  rw [e1] at e2
  cases e2
  exact pc_inj I h2 h1
theorem key_obj (I : Inv X pins σ H s) {t : Addr} {d : PcD} (h : KeyAt X.K H t d) : ∃ (o : Obj) (tk : Tok) (pa : Addr) (n : Nat), s.heap.get? t = some o ∧ o.cls = .type "tuple" ∧ o.data = .seq #[.str d.word tk, .ref pa] n ∧ SqT X.K H pa (d.parts.map V.str) := by
  obtain ⟨pa, h1, h2⟩ := h
  obtain ⟨_, its, r, o, e, c, n, dd⟩ := I.hok _ _ h1
  obtain ⟨u1, u2, rfl, ⟨tk, rfl⟩, r2⟩ := vals2 r
  cases r2
  exact ⟨o, tk, pa, n, e, c, dd, h2⟩
theorem key_lt (I : Inv X pins σ H s) {A : Around} (hu : A.units + 64 < cLine) {b : Bool} {t u : Addr} {d e : PcD} (h1 : KeyAt X.K H t d) (h2 : KeyAt X.K H u e) (od : d.ok) (oe : e.ok) : wpAny (model X.prog X.w) A (keyLt' (tuples' true) (.ref t) (.ref u)) (fun r s' => s' = s ∧ r = ltKey d e) (fun _ _ => False) s := by
  obtain ⟨o, tk, pa, n, g, c, dd, hp⟩ := key_obj I h1
  obtain ⟨o', tk', pa', n', g', c', dd', hp'⟩ := key_obj I h2
  refine PySem.W.kat_lt g dd g' dd' ?_
  show PySem.W.KatLex X.prog X.w A true (decide (2 < 2)) _ [(.str d.word tk, .str e.word tk'), (.ref pa, .ref pa')] 0 s
  unfold ltKey ltK
  have x1 : Dp X.K H (.ref pa) (strsD d.parts) := .tup hp (DpAll.strs _)
  have x2 : Dp X.K H (.ref pa') (strsD e.parts) := .tup hp' (DpAll.strs _)
  obtain ⟨as, r1⟩ := Dp.reads I _ _ (Value.ref pa) x1 rfl
  obtain ⟨bs, r2⟩ := Dp.reads I _ _ (Value.ref pa') x2 rfl
  refine PySem.W.kat_cons (SeqAt.EqAt.str_str d.word tk e.word tk' X.prog X.w _ _ ?_)
  refine PySem.W.kat_go (fun q => ?_) (fun q => ?_)
  · have ew : d.word = e.word := by simpa using q
    rw [if_pos ew]
    refine PySem.W.kat_yes (PySem.W.kat_cons (SeqAt.eqAt_reads _ _ A s _ _ _ _ r1 r2 (SeqAt.canLay_of_shaped (shaped_strs od.parts)) (SeqAt.canLay_of_shaped (shaped_strs oe.parts)) (SeqAt.room_of_shaped (shaped_strs od.parts) hu) X.prog X.w _ _ ?_))
    refine PySem.W.kat_go (fun q2 => ?_) (fun q2 => ?_)
    · refine PySem.W.kat_yes (PySem.W.kat_nil ⟨rfl, ?_⟩)
      rw [eqv_strs] at q2
      have e3 : d.parts = e.parts := of_decide_eq_true q2
      rw [e3]
      unfold ltParts PySem.W.dataLt
      rw [lex_irrefl]
      rfl
    · refine PySem.W.kat_no (PySem.W.kat_one _ _ (PySem.W.lt_data r1 r2 (alike_strsD _ _) (fun z => by cases z) ?_ ?_))
      · have := Nat.min_le_left (PyData.depth (strsD d.parts)) (PyData.depth (strsD e.parts))
        rw [depth_strsD] at this ⊢
        omega
      · exact ⟨rfl, rfl⟩
  · have ew : ¬ d.word = e.word := by simpa using q
    rw [if_neg ew]
    exact PySem.W.kat_no (oneLt_str ⟨rfl, rfl⟩)
/-- the keys' kind -/
theorem key_kind (I : Inv X pins σ H s) {A : Around} {E : Value → Shared → Prop} {ts : List Addr} {ds : List PcD} (h : Paired (KeyAt X.K H) ts ds) (hne : 0 < ts.length) {Q : SortKind → Shared → Prop} (q : Q (tuples' true) s) :
    wpAny (model X.prog X.w) A (keyKind' (ts.map Value.ref).toArray) Q E s := by
  have g : ∀ {ts : List Addr} {ds : List PcD}, Paired (KeyAt X.K H) ts ds → ∃ fs, PySem.W.KatTups s.heap (ts.map Value.ref) fs ∧ fs.length = ts.length ∧ ∀ v ∈ fs, ∃ z t, v = Value.str z t := fun {ts ds} h => by
    induction h with
    | nil => exact ⟨[], .nil, rfl, fun v hv => (nomatch hv)⟩
    | cons r _ ih =>
      obtain ⟨fs, k1, k2, k3⟩ := ih
      obtain ⟨o, tk, pa, n, g, c, dd, _⟩ := key_obj I r
      refine ⟨_ :: fs, .cons g c dd rfl k1, congrArg Nat.succ k2, fun v hv => ?_⟩
      rcases List.mem_cons.mp hv with rfl | hv
      · exact ⟨_, _, rfl⟩
      · exact k3 v hv
  obtain ⟨fs, k1, k2, k3⟩ := g h
  refine PySem.W.kat_kind (T := .type "str") k1 (by omega) (fun v hv => ?_) (by rfl) ?_
  · obtain ⟨z, t, rfl⟩ := k3 v hv
    exact PySem.W.Looks.of_pure rfl
  · have e : (Value.type "str" != Value.type "tuple") = true := by decide
    rw [e]
    exact q
/-- any two of the pairs compare -/
theorem key_cmp (I : Inv X pins σ H s) {A : Around} (hu : A.units + 64 < cLine) : Cmp X.prog X.w A s (tuples' true) (fun p => ∃ d, KyR X.K H p d) (fun p q => ltKey (kOf X.K H p) (kOf X.K H q)) := by
  intro p q ⟨d, hp⟩ ⟨e, hq⟩
  show wpAny (model X.prog X.w) A (keyLt' (tuples' true) p.1 q.1) (fun r s' => s' = s ∧ r = ltKey (kOf X.K H p) (kOf X.K H q)) (fun _ _ => False) s
  rw [kOf_eq I hp, kOf_eq I hq]
  obtain ⟨⟨t, e1, k1⟩, b, _, h1⟩ := hp
  obtain ⟨⟨u, e2, k2⟩, c, _, h2⟩ := hq
  rw [e1, e2]
  exact key_lt (b := true) I hu k1 k2 h1.isOk h2.isOk
theorem swo_kOf {K : Fg} {H : Hp} : Swo (fun p q : Keyed => ltKey (kOf K H p) (kOf K H q)) := ⟨fun x y => swo_key.asym _ _, fun x y z => swo_key.tr _ _ _⟩
theorem kyr_out {K : Fg} {H : Hp} : ∀ {ps : List Keyed} {ds : List PcD}, Paired (KyR K H) ps ds → ∃ ws : List V, Vals ws (ps.map (·.2)) ∧ PcAll K H ws ds
  | _, _, .nil => ⟨[], .nil, .nil⟩
  | _, _, .cons r t => by
    obtain ⟨ws, h1, h2⟩ := kyr_out t
    obtain ⟨_, b, e, h⟩ := r
    exact ⟨.ref b :: ws, .cons e h1, .cons h h2⟩
theorem kyr_zip {K : Fg} {H : Hp} : ∀ {ts : List Addr} {us : List V} {its : List Value} {ds : List PcD}, Paired (KeyAt K H) ts ds → PcAll K H us ds → Vals us its → Paired (KyR K H) ((ts.map Value.ref).zip its) ds
  | _, _, _, _, .nil, .nil, .nil => .nil
  | _, _, _, _, .cons k t, .cons p t2, .cons r t3 => by
    refine .cons ⟨⟨_, rfl, k⟩, ?_⟩ (kyr_zip t t2 t3)
    obtain ⟨b, dx, pa, z, e, p2⟩ := id p
    subst e
    exact ⟨b, r, p⟩
/-- behind the keys: the order is found, the list is filled -/
theorem sort_end {A : Around} {E : Value → Shared → Prop} {R : PySem.Fin → Shared → Prop} {a kS : Addr} {ts : List Addr} {us : List V} {its : List Value} {ds : List PcD} {od : Obj} {e1 : Nat} (hu : A.units + 64 < cLine) (I : Inv X pins σ H s) (ha : H a = some (.frz od (.lst []))) (hod : od = seqObj "list" #[] e1) (hk : H kS = some (.lst (ts.map V.ref)))
    (hne : a ≠ kS) (hn : ∀ o' u', X.H_0 a ≠ some (.frz o' u')) (h1 : Paired (KeyAt X.K H) ts ds) (h2 : PcAll X.K H us ds) (rv : Vals us its) (h40 : ds.length ≤ 40)
    (h : ∀ ws s', PcAll X.K H ws (srt ds) → Inv X pins σ (upd (upd H kS (.lst [])) a (.lst ws)) s' → R (.done (.ret .none)) s') : wpAny (model X.prog X.w) A (ksk_end a false its.toArray e1 (.ref kS) (ts.map Value.ref).toArray) R E s := by
  have lt : ts.length = ds.length := Paired.lenE h1
  have lu : us.length = ds.length := Paired.lenE h2
  have li : its.length = ds.length := by rw [← rv.length, lu]
  have zr := kyr_zip h1 h2 rv
  have zz : (((ts.map Value.ref).toArray.zip its.toArray : Array Keyed)).toList = (ts.map Value.ref).zip its := ksk_zip _ _
  have fin : ∀ st : SortSt, Srtd (fun p q => ltKey (kOf X.K H p) (kOf X.K H q)) (arrOf st).toList → Stb (fun p q => ltKey (kOf X.K H p) (kOf X.K H q)) (arrOf st).toList ((ts.map Value.ref).zip its) → failedOf st = none →
      wpAny (model X.prog X.w) A (ksk_tail a false e1 (.ref kS) st) R E s := fun st q1 q2 q3 => by
    have eo := srt_uniq swo_kOf q1 q2
    have zo : Paired (KyR X.K H) (arrOf st).toList (srt ds) := by
      rw [eo]
      exact srtG_rel (fun p d p' d' r r' => by rw [kOf_eq I r, kOf_eq I r']) zr .nil
    obtain ⟨ws, w1, w2⟩ := kyr_out zo
    have hl : (arrOf st).toList.length = ds.length := by rw [q2.len, List.length_zip, List.length_map, lt, li, Nat.min_self]
    have lw : ws.length = ds.length := by rw [w1.length, List.length_map, hl]
    obtain ⟨zk, itk, nk, rk, ek⟩ := (show ObjOk X.prog X.w H s.heap kS (.lst (ts.map V.ref)) from I.hok kS _ hk)
    unfold ksk_tail
    try dsimp only
    have lk : itk.toArray.size ≤ sizeLine := by rw [List.size_toArray, ← rk.length]; exact zk
    refine wpAny_bind (listUpdate_at ek rfl ?_ lk (Nat.zero_le _))
    have I2 := I.lset (its' := []) (ys := []) (f := fun _ => (#[] : Array Value)) (t' := s.toks) hk ek rfl .nil (Nat.zero_le _)
    refine wpAny_bind (wpAny_letGo ?_)
    have ha2 : (upd H kS (.lst [])) a = some (.frz od (.lst [])) := by rw [upd_ne hne]; exact ha
    have ga : (s.heap.update kS (Obj.mapSeq fun _ => (#[] : Array Value))).get? a = some (seqObj "list" #[] e1) := by
      have q := (I2.hok a _ ha2).1
      rw [hod] at q
      exact q
    refine wpAny_bind (seqEpoch_at ga rfl ?_)
    have I3 := I2.unlock ha2 hn
    have ew : ((arrOf st).map (·.2)) = ((arrOf st).toList.map (·.2)).toArray := by
      rw [← Array.toList_map, Array.toArray_toList]
    have sw : ((arrOf st).map (·.2)).size ≤ sizeLine + 1 := by
      rw [ew, List.size_toArray, List.length_map, hl, sizeLine_eq]
      omega
    refine wpAny_bind (listUpdate_at ga rfl ?_ (Nat.zero_le _) sw)
    have I4 := I3.lset (its := []) (its' := (arrOf st).toList.map (·.2)) (ys := ws) (f := fun _ => (arrOf st).map (·.2)) (t' := s.toks) upd_same ga ew w1 (by rw [lw, sizeLine_eq]; omega)
    rw [q3]
    simp only [bne_self_eq_false, Bool.false_eq_true, if_false]
    rw [upd_upd] at I4
    exact wpAny_pure (h ws _ w2 I4)
  unfold ksk_end
  simp only [Bool.false_eq_true, if_false]
  by_cases hs : its.toArray.size < 2
  · rw [if_pos hs, if_pos hs]
    refine wpAny_bind (wpAny_pure ?_)
    rw [StateT.run_pure]
    refine wpAny_bind (wpAny_pure ?_)
    try dsimp only
    refine fin (SortSt.mk' general' ((ts.map Value.ref).toArray.zip its.toArray) #[] 7 none) ?_ (by show Stb _ ((ts.map Value.ref).toArray.zip its.toArray : Array Keyed).toList _; rw [zz]; exact Stb.refl _) rfl
    show Srtd _ ((ts.map Value.ref).toArray.zip its.toArray : Array Keyed).toList
    rw [zz]
    rw [List.size_toArray] at hs
    have hz : ((ts.map Value.ref).zip its).length < 2 := by
      rw [List.length_zip, List.length_map]
      omega
    match (ts.map Value.ref).zip its, hz with
    | [], _ => exact List.Pairwise.nil
    | [v], _ => exact List.pairwise_singleton _ _
    | _ :: _ :: l, hz => exact absurd hz (by rw [List.length_cons, List.length_cons]; omega)
  · rw [if_neg hs, if_neg hs]
    rw [List.size_toArray] at hs
    refine wpAny_bind (key_kind I h1 (by omega) ?_)
    have hall : AllL (fun p => ∃ d, KyR X.K H p d) ((ts.map Value.ref).toArray.zip its.toArray : Array Keyed).toList := fun p hm => by
      rw [zz] at hm
      obtain ⟨i, hi, e⟩ := List.getElem_of_mem hm
      obtain ⟨d, _, hd⟩ := Paired.get0 zr (by rw [List.getElem?_eq_getElem hi, e])
      exact ⟨d, hd⟩
    refine wpAny_bind (wpAny_mono (wpS_sortO (st0 := SortSt.mk' (tuples' true) ((ts.map Value.ref).toArray.zip its.toArray) #[] 7 none)
      (Q := fun _ st' => Srtd (fun p q => ltKey (kOf X.K H p) (kOf X.K H q)) (arrOf st').toList ∧ Stb (fun p q => ltKey (kOf X.K H p) (kOf X.K H q)) (arrOf st').toList ((ts.map Value.ref).toArray.zip its.toArray : Array Keyed).toList ∧ failedOf st' = none)
      swo_kOf (key_cmp I hu) rfl hall rfl rfl fun st' a1 a2 a3 => ⟨a1, a2, a3⟩) ?_ fun _ _ e => e)
    rintro ⟨⟨⟩, st'⟩ s' ⟨rfl, hp1, hp2, hf⟩
    try dsimp only
    rw [zz] at hp2
    exact fin st' hp1 hp2 hf
theorem refs_of : ∀ {ts : List Addr} {us : List Value}, Vals (ts.map V.ref) us → us = ts.map Value.ref
  | [], _, r => by
    rw [List.map_nil] at r
    cases r
    rfl
  | t :: ts, _, r => by
    rw [List.map_cons] at r
    cases r with
    | cons h q =>
      cases h
      rw [List.map_cons, ← refs_of q]
/-- the keys are made -/
theorem sort_rest {k : Nat} {A : Around} {E : Value → Shared → Prop} {R : PySem.Fin → Shared → Prop} {f : Addr} {fd : FuncData} {ps : List Str} {a kS : Addr} {us : List V} {its : List Value} {ds : List PcD} {od : Obj} {e1 : Nat} (fr : A.frames = X.A.frames) (hr : Room k A) (F : FnOk X.prog X.w X.K X.mg X.base CX0 k f fd ps (sp_key_of X.K)) (hb : Binds X.K fd ps [])
    {H0 : Hp} (I : Inv X pins σ H s) (s0 : Same H0 H) (n0 : H0 kS = none) (ha : H a = some (.frz od (.lst []))) (hod : od = seqObj "list" #[] e1) (hk : H kS = some (.lst [])) (hne : a ≠ kS) (hn : ∀ o' u', X.H_0 a ≠ some (.frz o' u')) (h2 : PcAll X.K H0 us ds) (rv : Vals us its) (h40 : ds.length ≤ 40)
    (h : ∀ H' ws s', Same H0 H' → H' a = some (.frz od (.lst [])) → (∃ l, H' kS = some (.lst l)) → PcAll X.K H' ws (srt ds) → Inv X pins σ (upd (upd H' kS (.lst [])) a (.lst ws)) s' → R (.done (.ret .none)) s') : wpAny (model X.prog X.w) A (ksk_rest a (.ref f) false its.toArray e1 (.ref kS)) R E s := by
  have lu : us.length = ds.length := Paired.lenE h2
  have li : its.length = ds.length := by rw [← rv.length, lu]
  have hu : A.units + 64 < cLine := by have := hr.un; omega
  unfold ksk_rest
  refine wpAny_bind (wpAny_rule ?_)
  first
    | rw [List.forIn_toArray]
    | (rw [← Array.forIn_toList]; simp only [List.toList_toArray])
    | rw [← Array.forIn_toList]
  refine wpAny_bind (ksk_fold (fun i s' => ∃ H' ts, Inv X pins σ H' s' ∧ Same H0 H' ∧ H' a = some (.frz od (.lst [])) ∧ H' kS = some (.lst (ts.map V.ref)) ∧ Paired (KeyAt X.K H') ts (ds.take i)) its 0 s ⟨H, [], I, s0, ha, hk, .nil⟩ ?step ?done)
  case step =>
    rintro j x s' hx ⟨H', ts, I', sm, ha', hk', hts⟩
    simp only [Nat.zero_add] at hts ⊢
    have hj : j < its.length := (List.getElem?_eq_some_iff.mp hx).1
    obtain ⟨d, hd⟩ : ∃ d, ds[j]? = some d := ⟨_, List.getElem?_eq_getElem (by omega)⟩
    obtain ⟨v, hv, hvd⟩ := Paired.get1 h2 hd
    obtain ⟨u, hu1, ru⟩ := rv.get hv
    rw [hx] at hu1
    cases hu1
    obtain ⟨b, _, _, _, ev, _⟩ := id hvd
    subst ev
    cases ru
    have lts : ts.length ≤ j := by
      rw [Paired.lenE hts, List.length_take]
      exact Nat.min_le_left _ _
    refine wpAny_bind (wpAny_attempt (wpAny_mono (run_in (us := [.ref b]) (vs := [.ref b]) (E := E0) (Q := fun v H2 => ∃ t pa, v = .ref t ∧ H' t = none ∧ SqT X.K H' pa (d.parts.map V.str) ∧ H2 = upd H' t (.tup [.str d.word, .ref pa])) fr hr F hb I' (.cons rfl .nil) ⟨b, d, rfl, hvd.mono sm, fun t pa nt hp => ⟨t, pa, rfl, nt, hp, rfl⟩⟩) (fun v s2 z => ?_) fun _ _ z => z))
    obtain ⟨v, H2, I2, rv2, t, pa, rfl, nt, hpa, rfl⟩ := z
    cases rv2
    dsimp only
    have sm2 : Same H' (upd H' t (.tup [.str d.word, .ref pa])) := same_new nt
    have hk2 := sm2 _ _ hk'
    have ha2 := sm2 _ _ ha'
    obtain ⟨zk, itk, nk, rk, ek⟩ := (show ObjOk X.prog X.w _ s2.heap kS (.lst (ts.map V.ref)) from I2.hok kS _ hk2)
    have lk : itk.length = ts.length := by rw [← rk.length, List.length_map]
    have vt : (upd H' t (.tup [.str d.word, .ref pa])) t = some (.tup [.str d.word, .ref pa]) := upd_same
    generalize upd H' t (.tup [.str d.word, .ref pa]) = H2 at I2 sm2 hk2 ha2 vt
    refine wpAny_bind (listUpdate_at ek rfl ?_ (by rw [List.size_toArray, lk, sizeLine_eq]; omega) (by rw [Array.size_push, List.size_toArray, lk, sizeLine_eq]; omega))
    have I3 := I2.lset (its' := itk ++ [.ref t]) (ys := (ts ++ [t]).map V.ref) (f := (·.push (.ref t))) (t' := s2.toks) hk2 ek (by simp) (by rw [List.map_append]; exact rk.append (.cons rfl .nil)) (by rw [List.length_map, List.length_append, sizeLine_eq]; simp; omega)
    have tk : t ≠ kS := ne_of vt hk2 (fun z => by cases z)
    have up : ∀ {u : Addr} {e : PcD}, KeyAt X.K H2 u e → KeyAt X.K (upd H2 kS (.lst ((ts ++ [t]).map V.ref))) u e := fun {u e} ⟨pb, q1, q2⟩ =>
      ⟨pb, by rw [upd_ne (ne_of q1 hk2 (fun z => by cases z))]; exact q1, SqT_w q2 hk2 (fun _ z => by cases z) (fun _ _ z => by cases z)⟩
    refine wpAny_pure ⟨rfl, _, ts ++ [t], I3, (sm.trans sm2).mut n0, by rw [upd_ne hne]; exact ha2, upd_same, ?_⟩
    rw [List.take_add_one, hd]
    exact Paired.app (pairedM (fun u e q => up (q.mono sm2)) hts) (.cons (up ⟨pa, vt, SqTm sm2 hpa⟩) .nil)
  case done =>
    rintro s' ⟨H', ts, I', sm, ha', hk', hts⟩
    have e3 : ds.take (0 + its.length) = ds := List.take_of_length_le (by omega)
    rw [e3] at hts
    obtain ⟨zk, itk, nk, rk, ek⟩ := (show ObjOk X.prog X.w H' s'.heap kS (.lst (ts.map V.ref)) from I'.hok kS _ hk')
    have ei : itk = ts.map Value.ref := refs_of rk
    subst ei
    refine wpAny_bind (listItems_at ek rfl ?_)
    exact sort_end hu I' ha' hod hk' hne hn hts (h2.mono sm) rv h40 fun ws s2 w1 I2 => h H' ws s2 sm ha' ⟨_, hk'⟩ w1 I2
/-- sorted(xs, key=key_of) -/
theorem cr_sortedOwn {k j : Nat} (c : Cal X.prog X.w X.K X.mg X.base k "key_of" (sp_key_of X.K) []) (hm : X.mg "key_of" = some (.ref (ga X.K "key_of"))) (hr : Room j X.A) (hk : k + 2 ≤ j) : CallRK X (.builtin "sorted") [Str.ofString "key"] (fun xs zs H Q => ∃ l us ds, xs = [.ref l] ∧ zs = [.ref (ga X.K "key_of")] ∧ SqL X.K H l us ∧ PcAll X.K H us ds ∧ ds.length ≤ 40 ∧
    ∀ q ws H2, Same H H2 → H q = none → H2 q = some (.lst ws) → PcAll X.K H2 ws (srt ds) → Q (.ref q) H2) := by
  intro pins s σ H xs zs us' ws' Q I r rz h
  obtain ⟨l, us, ds, rfl, rfl, hl, hp, h40, q⟩ := h
  obtain rfl := Vals.ref1 r
  obtain ⟨w1, rfl, e1⟩ := vals1 rz
  obtain rfl : w1 = Value.ref (ga X.K "key_of") := e1
  obtain ⟨f, fd, ps, ds', F, em, kp, hb, hd⟩ := c.ex
  cases hd
  rw [hm] at em
  cases em
  obtain ⟨its, rv, pl, hz⟩ := I.list hl
  have lu : us.length = ds.length := Paired.lenE hp
  have li : its.length = ds.length := by rw [← rv.length, lu]
  have hz2 : its.length ≤ sizeLine := by rw [li, sizeLine_eq]; omega
  show wpAny (model X.prog X.w) X.A (call (.builtin "sorted") [.ref l] [(Str.ofString "key", .ref (ga X.K "key_of"))]) (EP X pins σ Q) X.xe s
  refine call_function_entry_kw kind_sorted plain_sorted entry_sorted (ksk_s1 _ _) ?_
  unfold Builtin.«sorted»
  refine wpAny_bind (m := checkCount "sorted" 1 1 _) (wpAny_pure ?_)
  refine wpAny_bind (collect_list pl.isList ?_ hz2)
  refine wpAny_bind (wpAny_newList ?_ hz2)
  have hsz : ((s.heap.push (seqObj "list" #[] 0)).update s.heap.objs.size (Obj.mapSeq (· ++ its.toArray))).objs.size = s.heap.objs.size + 1 := by
    rw [Heap.size_update, size_push']
  have hoL : (((s.heap.push (seqObj "list" #[] 0)).update s.heap.objs.size (Obj.mapSeq (· ++ its.toArray))).push (seqObj "list" its.toArray 0)).get? (s.heap.objs.size + 1) = some (seqObj "list" its.toArray 0) := by
    rw [← hsz]
    exact Heap.get?_push_size _ rfl
  have keep : ∀ b o, s.heap.get? b = some o → (((s.heap.push (seqObj "list" #[] 0)).update s.heap.objs.size (Obj.mapSeq (· ++ its.toArray))).push (seqObj "list" its.toArray 0)).get? b = some o := fun b o q => by
    refine Heap.get?_push_of_some _ ?_
    rw [Heap.get?_update_ne _ _ _ _ (Nat.ne_of_lt (Heap.lt_size q))]
    exact Heap.get?_push_of_some _ q
  have n1 : H (s.heap.objs.size + 1) = none := I.hok.fresh (Nat.le_succ _)
  have I2 := I.laid (a := s.heap.objs.size + 1) (o := .lst us) (t' := s.toks) keep (Nat.le_succ _) ⟨by rw [lu, sizeLine_eq]; omega, its, 0, rv, hoL⟩
  rw [hsz]
  refine wpAny_bind (wpAny_holding (wpAny_call_entry_kw slot_list_sort ⟨_, hoL, rfl⟩ entry_list_sort ?_ (ksk_l1 _ _)))
  rw [ksk_t1]
  unfold ksk_tree
  refine wpAny_bind (listItems_at hoL rfl ?_)
  refine wpAny_bind (listUpdate_at hoL rfl ?_ (by rw [List.size_toArray]; exact hz2) (Nat.zero_le _))
  have I3 := I2.lset (its' := []) (ys := []) (f := fun _ => (#[] : Array Value)) (t' := s.toks) upd_same hoL rfl .nil (Nat.zero_le _)
  rw [upd_upd] at I3
  obtain ⟨e1, ho1⟩ : ∃ e1, ((((s.heap.push (seqObj "list" #[] 0)).update s.heap.objs.size (Obj.mapSeq (· ++ its.toArray))).push (seqObj "list" its.toArray 0)).update (s.heap.objs.size + 1) (Obj.mapSeq fun _ => #[])).get? (s.heap.objs.size + 1) = some (seqObj "list" #[] e1) := ⟨_, get?_update_seq hoL (fun _ => #[])⟩
  generalize (((s.heap.push (seqObj "list" #[] 0)).update s.heap.objs.size (Obj.mapSeq (· ++ its.toArray))).push (seqObj "list" its.toArray 0)).update (s.heap.objs.size + 1) (Obj.mapSeq fun _ => #[]) = h3 at I3 ho1 ⊢
  refine wpAny_bind (seqEpoch_at ho1 rfl ?_)
  refine wpAny_bind (wpAny_newTuple ?_ (by show its.length ≤ _; exact hz2))
  have hn := I3.nofrz (d := s.heap.objs.size + 1) (u := .lst []) upd_same True.intro
  obtain ⟨od, I4⟩ := I3.lock (d := s.heap.objs.size + 1) (u := .lst []) upd_same True.intro
  rw [upd_upd] at I4
  have hod : od = seqObj "list" #[] e1 := by
    have q := (I4.hok _ _ upd_same).1
    exact Option.some.inj (q.symm.trans ho1)
  have I5 := I4.kept (h' := h3.push { cls := .type "tuple", data := .seq its.toArray }) (t' := s.toks) fun b o e => Heap.get?_push_of_some _ e
  refine wpAny_bind (wpAny_newList ?_ (Nat.zero_le _))
  have n5 := I5.fresh
  have I6 := I5.lnew (its := []) (ys := []) (t' := s.toks) .nil (Nat.zero_le _)
  generalize (h3.push { cls := .type "tuple", data := .seq its.toArray }).objs.size = kS at I6 n5 ⊢
  have hne : s.heap.objs.size + 1 ≠ kS := fun z => by
    rw [← z, upd_same] at n5
    cases n5
  have nk : H kS = none := by
    rw [upd_ne (Ne.symm hne)] at n5
    exact n5
  refine wpAny_holding ?_
  have r2 : Room k X.A.in1.in1 := (hr.mono hk).in1.in1
  refine sort_rest (H0 := H) rfl r2 F hb I6 (((same_new n1)).trans (same_new n5)) nk (by rw [upd_ne hne, upd_same]) hod upd_same hne hn hp rv h40 fun H' ws s' sm ea ⟨lk, ek⟩ w1 I7 => ⟨_, rfl, wpAny_pure ⟨_, rfl, ?_⟩⟩
  refine ⟨.ref (s.heap.objs.size + 1), _, I7, rfl, q _ ws _ ((sm.mut nk).mut n1) n1 upd_same ?_⟩
  refine pairedM (fun v d hv => ?_) w1
  obtain ⟨b, dx, pa, z, q1, q2, q3, q4⟩ := hv
  have b1 : b ≠ kS := ne_of q2 ek (fun z => by cases z)
  have b2 : b ≠ s.heap.objs.size + 1 := ne_of q2 ea (fun z => by cases z)
  have ea2 : (upd H' kS (.lst [])) (s.heap.objs.size + 1) = some (.frz od (.lst [])) := by rw [upd_ne hne]; exact ea
  refine ⟨b, dx, pa, z, q1, by rw [upd_ne b2, upd_ne b1]; exact q2, ?_, q4⟩
  have q5 := SqT_w (o := .lst []) q3 ek (fun _ z => by cases z) (fun _ _ z => by cases z)
  rcases q5 with (q5 | ⟨o, q5⟩) | q5
  · exact .inl (.inl (by rw [upd_ne (ne_of q5 ea2 (fun z => by cases z))]; exact q5))
  · exact .inl (.inr ⟨o, by
      rw [upd_ne (ne_of q5 ea2 (fun z => by
        injection z with _ z2
        cases z2))]
      exact q5⟩)
  · exact .inr q5
end
end Lt
set_option Elab.async false
set_option linter.all false
set_option maxRecDepth 100000
set_option maxHeartbeats 8000000
/-! in order; a run -/
namespace Lt
open PySem PySem.Spec PyProof.Rows L2
open C8 (Cal Met Mak pe_c pe_mk pe_mt pe_mt0 pe_gc)
theorem srt_len (l : List PcD) : (srt l).length = l.length := by
  obtain ⟨_, h⟩ := srtG_ok swo_key l [] [] List.Pairwise.nil (SrtO.Stb.refl [])
  have := h.len
  rw [List.nil_append] at this
  exact this
theorem inO_len (ps : List PcD) : ∀ st : List PcD × List PcD, (ps.foldl inO st).1.length + (ps.foldl inO st).2.length = st.1.length + st.2.length + ps.length := by
  induction ps with
  | nil => exact fun st => rfl
  | cons d r ih =>
    intro st
    rw [List.foldl_cons, ih]
    unfold inO
    split
    · simp only [List.length_append, srt_len, List.length_cons, List.length_nil]
      omega
    · simp only [List.length_append, List.length_cons, List.length_nil]
      omega
theorem inOrder_len (ps : List PcD) : (inOrder ps).length = ps.length := by
  have := inO_len ps ([], [])
  unfold inOrder
  simp only [List.length_append, srt_len]
  simpa using this
theorem runD_len (t : TlD) (w : Int) (ps : List PcD) : (runD t w ps).length = ps.length := by
  unfold runD
  rw [rowsDone_len]
  split
  · exact inOrder_len ps
  · rfl
section
variable {P : Program} {w : World} {K : Fg} {mg : Str → Option Value} {base : Heap}
/-- pieces stand while a list is written -/
theorem PcAt.wr {H : Hp} {v : V} {d : PcD} {l : Addr} {xs ys : List V} (h : PcAt K H v d) (e : H l = some (.lst xs)) : PcAt K (upd H l (.lst ys)) v d := by
  obtain ⟨a1, dx1, pa1, z1, q0, q1, q2, q3⟩ := h
  exact ⟨a1, dx1, pa1, z1, q0, by rw [upd_ne (ne_of q1 e (fun z => by cases z))]; exact q1, SqT_w q2 e (fun _ z => by cases z) (fun _ _ z => by cases z), q3⟩
theorem PcAll.wr {H : Hp} {vs : List V} {ds : List PcD} {l : Addr} {xs ys : List V} (h : PcAll K H vs ds) (e : H l = some (.lst xs)) : PcAll K (upd H l (.lst ys)) vs ds := pairedM (fun _ _ z => z.wr e) h
def sp_in_order (K : Fg) : Sp := fun vs H Q _ => ∃ (t : Addr) (us : List V) (ps : List PcD), vs = [.ref t] ∧ SqT K H t us ∧ PcAll K H us ps ∧ ps.length ≤ 40 ∧ ∀ l ws H', Same H H' → H l = none → H' l = some (.lst ws) → PcAll K H' ws (inOrder ps) → Q (.ref l) H'
theorem len_in_order {vs H Q E} (h : sp_in_order K vs H Q E) : vs.length = 1 := by
  obtain ⟨_, _, _, rfl, _⟩ := h
  rfl
theorem sc_in_order : FnScope ["pieces", "piece", "found", "some"] ["pieces"] (defScope d_in_order.st) := ⟨rfl, rfl, rfl, by decide +kernel, rfl, by decide +kernel, by decide +kernel⟩
theorem bi_in_order {K : Fg} {fd : FuncData} (F : FnD K d_in_order fd) : Binds K fd ["pieces"] [] := FunD.bindsN F fun _ _ _ _ _ _ us hl => match us, hl with | [_], _ => rfl
def ioInv (K : Fg) (t : Addr) (H : Hp) (ps : List PcD) (i : Nat) (σ : L2.St) (H' : Hp) : Prop :=
  ∃ v1 f sb fa sa, σ = [some (.ref t), v1, some (.ref f), some (.ref sb)] ∧ Same H H' ∧ H f = none ∧ H sb = none ∧ f ≠ sb ∧ H' f = some (.lst fa) ∧ H' sb = some (.lst sa) ∧ PcAll K H' fa ((ps.take i).foldl inO ([], [])).1 ∧ PcAll K H' sa ((ps.take i).foldl inO ([], [])).2 ∧ fa.length + sa.length = i
theorem body_in_order (T : Txt K mg) : BodyOk P w K mg base 5 ["pieces", "piece", "found", "some"] d_in_order (sp_in_order K) := by
  intro cdv A outer s H vs Q E hr h
  obtain ⟨t, us, ps, rfl, ht, hps, h40, k⟩ := h
  have nd := sc_in_order.nd
  refine ⟨_, (pss_cons (ps_par (i := 2) (j := 3) rfl nd rfl rfl (by decide) rfl rfl (pa_cons (pe_lst pa_nil) (pa_cons (pe_lst pa_nil) pa_nil)) (by rfl))
      (pss_cons (ps_for PassesOwn.never rfl (pi_tup (pv 0)) (pg_name (i := 1) nd rfl (Or.inl rfl)) (pss_one (ps_if (pt_val (pe_c (cal_is_fence T) hr (by decide) (by rfl) (pa_cons (pv 1) pa_nil))) (pss_cons (ps_set (i := 2) nd rfl (Or.inl rfl) (pe_lst (StX.pa_star (pv 2) (StX.pa_star (pe_callBK (cr_sortedOwn (cal_key_of T) T.g_key_of hr (by decide)) (by rfl) T.b_sorted PyProof.Rows.boot_sorted (pa_cons (pv 3) pa_nil) (pk_cons (pe_gc (v := .ref (ga _ "key_of")) (by rfl) ⟨_, T.g_key_of, rfl⟩) pk_nil)) (pa_cons (pv 1) pa_nil)))))
      (pss_one (ps_set (i := 3) nd rfl (Or.inl rfl) (pe_lst pa_nil)))) (pss_one (ps_expr (pe_bm PySem.F.plainAttrs_list PySem.F.slot_list_append PySem.F.type_list_append mt_append (pv 3) (pa_cons (pv 1) pa_nil)))))))
      (pss_one (ps_ret (pe_lst (StX.pa_star (pv 2) (StX.pa_star (pe_callBK (cr_sortedOwn (cal_key_of T) T.g_key_of hr (by decide)) (by rfl) T.b_sorted PyProof.Rows.boot_sorted (pa_cons (pv 3) pa_nil) (pk_cons (pe_gc (v := .ref (ga _ "key_of")) (by rfl) ⟨_, T.g_key_of, rfl⟩) pk_nil)) pa_nil))))))), ?_⟩
  have lu : us.length = ps.length := Paired.lenE hps
  refine ⟨sz (by simp), fun f nf => ⟨sz (by simp), fun sb nsb => ?_⟩⟩
  have nsb2 : H sb = none := (same_new nf).free nsb
  have hne : f ≠ sb := fun z => by
    subst z
    rw [upd_same] at nsb
    cases nsb
  refine ⟨_, _, rfl, ?_⟩
  refine ⟨_, rfl, t, rfl, ⟨_, SqTm ((same_new nf).trans (same_new nsb)) ht⟩, ?_⟩
  refine for_tup (xs := us) (ioInv K t H ps) ⟨none, f, sb, [], [], rfl, (same_new nf).trans (same_new nsb), nf, nsb2, hne, by rw [upd_ne hne, upd_same], upd_same, .nil, .nil, rfl⟩ (fun i σ H' _ ⟨_, _, _, _, _, _, s1, _⟩ => SqTm s1 ht) ?_ ?_
  · rintro i x σ H1 hx ⟨v1, f, sb, fa, sa, rfl, s1, nf, nsb, hne, hf, hs, pf, pq, hi⟩
    obtain ⟨d, hd, hxd⟩ := Paired.get0 hps hx
    have hi40 : i < 40 := by
      have := (List.getElem?_eq_some_iff.mp hd).1
      omega
    have e9 : (ps.take (i + 1)).foldl inO ([], []) = inO ((ps.take i).foldl inO ([], [])) d := by
      rw [List.take_add_one, hd, List.foldl_append]
      rfl
    obtain ⟨a, ea⟩ : ∃ a, x = .ref a := by
      obtain ⟨a, _, _, _, e, _⟩ := hxd
      exact ⟨a, e⟩
    subst ea
    have hd1 := hxd.mono s1
    refine ⟨_, rfl, a, d, rfl, hd1, ?_⟩
    refine ⟨_, rfl, ?_⟩
    refine ite2 (fun q => ?_) (fun q => ?_)
    · have e8 : inO ((ps.take i).foldl inO ([], [])) d = (((ps.take i).foldl inO ([], [])).1 ++ srt ((ps.take i).foldl inO ([], [])).2 ++ [d], []) := by
        unfold inO
        rw [if_pos q]
      have lsa := Paired.lenE pq
      refine ⟨_, rfl, f, fa, rfl, .inr (SqL.of hf), ?_⟩
      refine ⟨_, rfl, sb, sa, _, rfl, rfl, SqL.of hs, pq, by omega, fun l ws H2 s2 nl hl pw => ?_⟩
      have lw := Paired.lenE pw
      rw [srt_len] at lw
      refine ⟨l, ws, rfl, .inr (SqL.of hl), _, rfl, sz (by simp only [List.length_append, List.length_cons, List.length_nil]; omega), fun g ng => ?_⟩
      refine ⟨sz (by simp), fun e ne => ?_⟩
      have s3 : Same H2 (upd H2 g (.lst (fa ++ (ws ++ [.ref a])))) := same_new ng
      have v3 : (upd H2 g (.lst (fa ++ (ws ++ [.ref a])))) g = some (.lst (fa ++ (ws ++ [.ref a]))) := upd_same
      generalize upd H2 g (.lst (fa ++ (ws ++ [.ref a]))) = H3 at s3 v3 ne ⊢
      have s4 : Same H3 (upd H3 e (.lst [])) := same_new ne
      have s24 := (s2.trans s3).trans s4
      have ng0 : H g = none := (s1.trans s2).free ng
      have ne0 : H e = none := ((s1.trans s2).trans s3).free ne
      have hge : g ≠ e := fun z => by
        subst z
        rw [v3] at ne
        cases ne
      refine ⟨_, g, e, _, [], rfl, s1.trans s24, ng0, ne0, hge, s4 _ _ v3, upd_same, ?_, ?_, by simp only [List.length_append, List.length_cons, List.length_nil]; omega⟩
      · rw [e9, e8, List.append_assoc]
        exact Paired.app (pf.mono s24) (Paired.app (pw.mono (s3.trans s4)) (.cons (hd1.mono s24) .nil))
      · rw [e9, e8]
        exact .nil
    · have e8 : inO ((ps.take i).foldl inO ([], [])) d = (((ps.take i).foldl inO ([], [])).1, ((ps.take i).foldl inO ([], [])).2 ++ [d]) := by
        unfold inO
        rw [if_neg q]
      refine ⟨_, rfl, .inl ⟨rfl, _, SqL.of hs⟩, _, rfl, sb, sa, _, rfl, rfl, hs, szl (by omega), ?_⟩
      refine ⟨_, f, sb, fa, sa ++ [.ref a], rfl, s1.mut nsb, nf, nsb, hne, by rw [upd_ne hne]; exact hf, upd_same, ?_, ?_, by simp only [List.length_append, List.length_cons, List.length_nil]; omega⟩
      · rw [e9, e8]
        exact PcAll.wr pf hs
      · rw [e9, e8]
        exact Paired.app (PcAll.wr pq hs) (.cons (hd1.wr hs) .nil)
  · rintro σ H1 ⟨v1, f, sb, fa, sa, rfl, s1, nf, nsb, hne, hf, hs, pf, pq, hi⟩
    rw [lu, List.take_length] at pf pq
    have lsa := Paired.lenE pq
    refine ⟨_, rfl, f, fa, rfl, .inr (SqL.of hf), ?_⟩
    refine ⟨_, rfl, sb, sa, _, rfl, rfl, SqL.of hs, pq, by omega, fun l ws H2 s2 nl hl pw => ?_⟩
    have lw := Paired.lenE pw
    rw [srt_len] at lw
    refine ⟨l, ws, rfl, .inr (SqL.of hl), sz (by simp only [List.length_append, List.length_nil]; omega), fun g ng => ?_⟩
    refine k g _ _ (s1.trans (s2.grow ng)) ((s1.trans s2).free ng) upd_same ?_
    rw [List.append_nil]
    unfold inOrder
    exact Paired.app (pf.mono (s2.grow ng)) (pw.mono (same_new ng))
theorem cal_in_order (T : Txt K mg) : Cal P w K mg base 6 "in_order" (sp_in_order K) [] := by
  obtain ⟨fd, F⟩ := T.d_in_order
  exact mkCal F T.g_in_order (bi_in_order F) sc_in_order (fun vs H Q E h => len_in_order h) (body_in_order T)
def sp_run (K : Fg) : Sp := fun vs H Q _ => ∃ (t : Addr) (wd : Int) (p : Addr) (tl : TlD) (ps : List PcD), vs = [.ref t, .int wd, .ref p] ∧ TlAt K H (.ref t) tl ∧ PgAt K H (.ref p) ps ∧ ∀ q H', Same H H' → PgAt K H' (.ref q) (runD tl wd ps) → Q (.ref q) H'
theorem len_run {vs H Q E} (h : sp_run K vs H Q E) : vs.length = 3 := by
  obtain ⟨_, _, _, _, _, rfl, _⟩ := h
  rfl
theorem sc_run : FnScope ["tool", "width", "program", "pieces"] ["tool", "width", "program"] (defScope d_run.st) := ⟨rfl, rfl, rfl, by decide +kernel, rfl, by decide +kernel, by decide +kernel⟩
theorem bi_run {K : Fg} {fd : FuncData} (F : FnD K d_run fd) : Binds K fd ["tool", "width", "program"] [] := FunD.bindsN F fun _ _ _ _ _ _ us hl => match us, hl with | [_, _, _], _ => rfl
theorem body_run (T : Txt K mg) : BodyOk P w K mg base 9 ["tool", "width", "program", "pieces"] d_run (sp_run K) := by
  intro cdv A outer s H vs Q E hr h
  obtain ⟨t, wd, p, tl, ps, rfl, ht, hp, k⟩ := h
  have nd := sc_run.nd
  refine ⟨_, (pss_cons (ps_set (i := 3) nd rfl (Or.inl rfl) (pe_ifExp (pt_val (pe_fld (pv 0) rfl)) (pe_c (cal_in_order T) hr (by decide) (by rfl) (pa_cons (pe_fld (pv 2) rfl) pa_nil)) (pe_fld (pv 2) rfl)))
      (pss_one (ps_ret (pe_mk (mak_Program T) hr (by decide) (by rfl) (pa_cons (pe_c (cal_rows_done T) hr (by decide) (by rfl) (pa_cons (pv 0) (pa_cons (pv 1) (pa_cons (pv 3) pa_nil)))) pa_nil))))), ?_⟩
  obtain ⟨_, dt, ra, rs, e0, et, _⟩ := id ht
  cases e0
  obtain ⟨_, dp, pa, us, z, e0, ep, hpa, hus, h40⟩ := id hp
  cases e0
  refine ⟨_, rfl, t, _, dt, _, _, rfl, et, T.c_Tool, T.n_Tool_sorts, rfl, tl.sorts, rfl, ?_⟩
  refine ifE (fun v H' => Same H H' ∧ ∃ l ws, v = .ref l ∧ (SqL K H' l ws ∨ SqT K H' l ws) ∧ PcAll K H' ws (if tl.sorts = true then inOrder ps else ps)) (fun q Q q2 => ?_) (fun q Q q2 => ?_) ?_
  · refine ⟨_, rfl, p, _, dp, _, _, rfl, ep, T.c_Program, T.n_Program_pieces, rfl, pa, us, ps, rfl, hpa, hus, h40, fun l ws H' s1 nl hl pw => q2 _ _ ⟨s1, l, ws, rfl, .inl (SqL.of hl), ?_⟩⟩
    rw [if_pos q]
    exact pw
  · refine ⟨_, rfl, p, _, dp, _, _, rfl, ep, T.c_Program, T.n_Program_pieces, rfl, q2 _ _ ⟨Same.refl _, pa, us, rfl, .inr hpa, ?_⟩⟩
    rw [if_neg q]
    exact hus
  rintro v H1 ⟨s1, l, ws, rfl, hl, pw⟩
  have lw : (if tl.sorts = true then inOrder ps else ps).length ≤ 40 := by
    split
    · rw [inOrder_len]; exact h40
    · exact h40
  refine ⟨_, rfl, _, rfl, _, rfl, t, wd, l, tl, ws, _, rfl, ht.mono s1, hl, pw, lw, fun f us2 H2 s2 nf hf pf => ?_⟩
  intro x dx nx ndx hne
  exact make_pg nx ndx hne (SqL.of hf) pf (by rw [rowsDone_len]; exact lw) rfl fun H3 s3 h3 => k x H3 ((s1.trans s2).trans s3) h3
theorem cal_run (T : Txt K mg) : Cal P w K mg base 10 "run" (sp_run K) [] := by
  obtain ⟨fd, F⟩ := T.d_run
  exact mkCal F T.g_run (bi_run F) sc_run (fun vs H Q E h => len_run h) (body_run T)
theorem cal_run_running (T : Txt K mg) : Cal P w K mg base (9 + 1) "run_running" (sp_run K) [] := by
  obtain ⟨fd, F⟩ := T.d_run
  exact mkCal F T.g_run_running (bi_run F) sc_run (fun vs H Q E h => len_run h) (body_run T)
end
end Lt
set_option Elab.async false
set_option linter.all false
set_option maxRecDepth 100000
set_option maxHeartbeats 8000000
/-! rows and tools -/
namespace Lt
open PySem PySem.Spec PyProof.Rows L2
open C8 (Cal Met Mak pe_c pe_mk pe_mt pe_mt0 pe_gc)
def rowText (r : RwD) : Str := (if r.1 = [] then ("" : Str) else ("if " : Str) ++ Txt.join " and " r.1 ++ (" " : Str)) ++ ("do " : Str) ++ Txt.join " then " r.2
def toolText (t : TlD) : Str := Txt.join "\n" ((if t.sorts = true then "tool sorts" else "tool") :: t.rows.map rowText)
theorem rowText0 {r : RwD} (h : r.1 = []) : Str.empty ++ ("do " : Str) ++ Txt.join " then " r.2 = rowText r := by
  unfold rowText
  rw [if_pos h]
  rfl
theorem rowText1 {r : RwD} (h : ¬ r.1 = []) : Str.empty ++ ("if " : Str) ++ Txt.join " and " r.1 ++ (" do " : Str) ++ Txt.join " then " r.2 = rowText r := by
  unfold rowText
  rw [if_neg h]
  have e1 : (" do " : Str) = (" " : Str) ++ ("do " : Str) := by decide +kernel
  have e2 : Str.empty ++ ("if " : Str) = ("if " : Str) := by decide +kernel
  rw [e1, e2]
  simp only [Str.append_assoc]
theorem t20_len : ∀ t ∈ tests20, t.length ≤ 20 := by decide +kernel
theorem d8_len : ∀ t ∈ deeds8, t.length ≤ 20 := by decide +kernel
theorem rowText_len {r : RwD} (ok : RwOk r) : (rowText r).length ≤ 300 := by
  have h1 := join_le (sep := " and ") (fun t m => t20_len t (ok.tests t m))
  have h2 := join_le (sep := " then ") (fun t m => d8_len t (ok.deeds t m))
  have l1 : (" and " : Str).length = 5 := by decide +kernel
  have l2 : (" then " : Str).length = 6 := by decide +kernel
  have l3 : ("if " : Str).length = 3 := by decide +kernel
  have l4 : (" " : Str).length = 1 := by decide +kernel
  have l5 : ("do " : Str).length = 3 := by decide +kernel
  have l6 : ("" : Str).length = 0 := by decide +kernel
  have f1 := ok.few
  have f2 := ok.less
  rw [l1] at h1
  rw [l2] at h2
  unfold rowText
  rw [lenA, lenA]
  split
  · rw [l6, l5]
    omega
  · rw [lenA, lenA, l3, l4, l5]
    omega
section
variable {P : Program} {w : World} {K : Fg} {mg : Str → Option Value} {base : Heap}
def sp_Row_init (K : Fg) : Sp := fun vs H Q _ => ∃ (x dx ta da : Addr) (r : RwD), vs = [.ref x, .ref ta, .ref da] ∧ H x = some (.ins (ga K "Row") dx []) ∧ SqT K H ta (r.1.map V.str) ∧ SqT K H da (r.2.map V.str) ∧ RwOk r ∧
  ∀ H', (∀ b o, b ≠ x → H b = some o → H' b = some o) → H' x = some (.ins (ga K "Row") dx (rwF ta da)) → Q .non H'
theorem len_Row_init {vs H Q E} (h : sp_Row_init K vs H Q E) : vs.length = 3 := by
  obtain ⟨_, _, _, _, _, rfl, _⟩ := h
  rfl
theorem sc_Row_init : FnScope ["self", "tests", "deeds", "test", "deed"] ["self", "tests", "deeds"] (defScope d_Row_init.st) := ⟨rfl, rfl, rfl, by decide +kernel, rfl, by decide +kernel, by decide +kernel⟩
theorem bi_Row_init {K : Fg} {fd : FuncData} (F : FnD K d_Row_init fd) : Binds K fd ["self", "tests", "deeds"] [] := by
  obtain ⟨ds, r, b⟩ := FunD.binds1 (ps := ["self", "tests", "deeds"]) F 3 2 (by show ([_, _] : List V) ≠ []; exact List.cons_ne_nil _ _) rfl (fun _ _ _ _ _ _ _ us its hl hi => match us, hl, its, hi with | [_, _, _], _, [_, _], _ => ⟨_, rfl, by kernel_rfl⟩)
  cases r
  exact b
theorem body_Row_init (T : Txt K mg) : BodyOk P w K mg base 1 ["self", "tests", "deeds", "test", "deed"] d_Row_init (sp_Row_init K) := by
  intro cdv A outer s H vs Q E hr h
  obtain ⟨x, dx, ta, da, r, rfl, ex, ht, hd, ok, k⟩ := h
  have nd := sc_Row_init.nd
  refine ⟨_, (pss_cons (ps_if (PW.pt (pw_or (pt_not (pt_val (pe_c (cal_is_sequence T) hr (by decide) (by rfl) (pa_cons (pv 1) pa_nil)))) (pw_or1 (pt_not (pt_val (pe_callB (cr_all rfl) (by rfl) T.b_all PyProof.Rows.boot_all (pa_cons (pe_lc (own := [("test", 3)]) (g := gName 3) (tt := tYes) rfl nd (pi_tup (pv 1)) (blkOk_by (N := ["self", "tests", "deeds", "test", "deed"]) (sc := defScope d_Row_init.st) (by decide +kernel)) (fun _ _ _ _ _ => (pg_name (i := 3) nd rfl (Or.inl rfl))) (fun _ _ _ _ _ => pts_nil) (fun _ _ _ _ _ => (pe_c (cal_is_test T) hr (by decide) (by rfl) (pa_cons (pv 3) pa_nil)))) pa_nil))))))) (pss_one ps_never) pss_nil)
      (pss_cons (ps_if (PW.pt (pw_or (pt_not (pt_val (pe_c (cal_is_sequence T) hr (by decide) (by rfl) (pa_cons (pv 2) pa_nil)))) (pw_or (pt_cmpR op_eq (pe_callB call_len_seq (by rfl) T.b_len PySem.boot_len (pa_cons (pv 2) pa_nil)) pe_int (nomark _)) (pw_or1 (pt_not (pt_val (pe_callB (cr_all rfl) (by rfl) T.b_all PyProof.Rows.boot_all (pa_cons (pe_lc (own := [("deed", 4)]) (g := gName 4) (tt := tYes) rfl nd (pi_tup (pv 2)) (blkOk_by (N := ["self", "tests", "deeds", "test", "deed"]) (sc := defScope d_Row_init.st) (by decide +kernel)) (fun _ _ _ _ _ => (pg_name (i := 4) nd rfl (Or.inl rfl))) (fun _ _ _ _ _ => pts_nil) (fun _ _ _ _ _ => (pe_c (cal_is_word T) hr (by decide) (by rfl) (pa_cons (pv 4) (pa_cons (pe_gc (by rfl) T.v_DEEDS) pa_nil))))) pa_nil)))))))) (pss_one ps_never) pss_nil)
      (pss_cons (ps_fld (pv 0) (pe_callTy call_tuple_of (by rfl) T.b_tuple PyProof.Rows.boot_tuple (pa_cons (pv 1) pa_nil)) rfl)
      (pss_one (ps_fld (pv 0) (pe_callTy call_tuple_of (by rfl) T.b_tuple PyProof.Rows.boot_tuple (pa_cons (pv 2) pa_nil)) rfl))))), ?_⟩
  have cl := T.c_Row
  have f1 := ok.few
  have f2 := ok.less
  refine ⟨_, rfl, ta, rfl, .inr ⟨_, ht⟩, fun H1 s1 => ⟨_, rfl, ?_⟩⟩
  refine iteF ⟨_, rfl, ta, rfl, ⟨_, SqTm s1 ht⟩, fun D hD => ?_⟩
  refine lc_go walk_tup (fun i acc H' => Same H1 H' ∧ acc = List.replicate i (V.bl true)) ⟨same_new hD, rfl⟩ (fun i acc H' _ p _ => SqTm (s1.trans p.1) ht) (fun i y acc Ha Hb hi hl ⟨p1, p2⟩ hD1 q => ?_) (fun acc H3 hl ⟨p1, p2⟩ hD1 => ?_)
  · obtain ⟨rfl, hx⟩ := q
    rw [List.getElem?_map] at hx
    obtain ⟨z, hz, rfl⟩ := Option.map_eq_some_iff.mp hx
    rw [List.length_map] at hi
    refine ⟨rfl, yes ⟨_, rfl, z, rfl, ok.tests z (List.mem_of_getElem? hz), ?_⟩⟩
    refine lc_put hD1 hl (by omega) ⟨p1.mut hD, ?_⟩
    rw [p2, List.replicate_succ']
  refine ⟨D, List.replicate (r.1.map V.str).length true, rfl, by rw [List.map_replicate, ← p2]; exact SqL.of hD1, ?_⟩
  have e : (List.replicate (r.1.map V.str).length true).all id = true := by simp
  refine ⟨_, rfl, ?_⟩
  rw [e]
  refine iteF ?_
  have s3 := s1.trans p1
  refine ⟨_, rfl, da, rfl, .inr ⟨_, SqTm s3 hd⟩, fun H4 s4 => ⟨_, rfl, ?_⟩⟩
  have s5 := s3.trans s4
  refine iteF ⟨_, rfl, da, _, rfl, .inr (SqTm s5 hd), rfl, _, rfl, ?_⟩
  have e0 : decide (V.int ((r.2.map V.str).length : Int) = V.int 0) = false := decide_eq_false fun z => by
    have z1 : ((r.2.map V.str).length : Int) = 0 := V.int.inj z
    rw [List.length_map] at z1
    exact ok.ne (List.eq_nil_of_length_eq_zero (by omega))
  rw [e0]
  refine iteF ⟨_, rfl, da, rfl, ⟨_, SqTm s5 hd⟩, fun D2 hD2 => ?_⟩
  refine lc_go walk_tup (fun i acc H' => Same H4 H' ∧ acc = List.replicate i (V.bl true)) ⟨same_new hD2, rfl⟩ (fun i acc H' _ p _ => SqTm (s5.trans p.1) hd) (fun i y acc Ha Hb hi hl ⟨p1, p2⟩ hD1 q => ?_) (fun acc H6 hl ⟨p3, p4⟩ hD3 => ?_)
  · obtain ⟨rfl, hx⟩ := q
    rw [List.getElem?_map] at hx
    obtain ⟨z, hz, rfl⟩ := Option.map_eq_some_iff.mp hx
    rw [List.length_map] at hi
    refine ⟨rfl, yes ⟨_, rfl, z, _, deeds8, rfl, T.q_DEEDS _, ok.deeds z (List.mem_of_getElem? hz), ?_⟩⟩
    refine lc_put hD1 hl (by omega) ⟨p1.mut hD2, ?_⟩
    rw [p2, List.replicate_succ']
  refine ⟨D2, List.replicate (r.2.map V.str).length true, rfl, by rw [List.map_replicate, ← p4]; exact SqL.of hD3, ?_⟩
  have e2 : (List.replicate (r.2.map V.str).length true).all id = true := by simp
  refine ⟨_, rfl, ?_⟩
  rw [e2]
  refine iteF ?_
  have s6 := s5.trans p3
  have ex6 := s6 _ _ ex
  refine ⟨_, rfl, ta, _, rfl, .inr ⟨SqTm s6 ht, _, rfl, x, _, dx, _, rfl, ex6, cl, T.n_Row_tests, by simp, ?_⟩⟩
  refine ⟨_, rfl, da, _, rfl, .inr ⟨SqT_i (SqTm s6 hd) ex6, _, rfl, x, _, dx, _, rfl, upd_same, cl, T.n_Row_deeds, lt1000 rfl, ?_⟩⟩
  rw [upd_upd]
  exact k _ (fun b o hb z => by rw [upd_ne hb]; exact s6 _ _ z) (by rw [upd_same] <;> rfl)
theorem mak_Row (T : Txt K mg) : Mak P w K mg base 2 "Row" (ga K "Row") (sp_Row_init K) [] := by
  obtain ⟨fd, F⟩ := T.d_Row_init
  exact mkMak T.k_Row T.g_Row F (bi_Row_init F) sc_Row_init (fun vs H Q E h => len_Row_init h) (body_Row_init T)
theorem make_rw {r : RwD} {ta da x dx : Addr} {H1 : Hp} {vs : List V} {R : Hp → Prop} {E : XK} (nx : H1 x = none) (nd : H1 dx = none) (hne : dx ≠ x) (ht : SqT K H1 ta (r.1.map V.str)) (hd : SqT K H1 da (r.2.map V.str)) (ok : RwOk r) (ev : vs = [.ref x, .ref ta, .ref da]) (q : ∀ H', Same H1 H' → RwAt K H' (.ref x) r → R H') :
    sp_Row_init K vs (upd (upd H1 dx (.own x)) x (.ins (ga K "Row") dx [])) (fun v H2 => v = .non ∧ R H2) E := by
  have nx2 : upd H1 dx (.own x) x = none := by rw [upd_ne (Ne.symm hne)]; exact nx
  have s1 : Same H1 (upd (upd H1 dx (.own x)) x (.ins (ga K "Row") dx [])) := (same_new nd).trans (same_new nx2)
  refine ⟨x, dx, ta, da, r, ev, upd_same, SqTm s1 ht, SqTm s1 hd, ok, fun H' k1 k2 => ⟨rfl, ?_⟩⟩
  have s2 : Same H1 H' := fun b o h => k1 b o (ne_of_none h nx) (s1 b o h)
  exact q H' s2 ⟨x, dx, ta, da, rfl, k2, SqTm s2 ht, SqTm s2 hd⟩
def sp_Row_str (K : Fg) : Sp := fun vs H Q _ => ∃ (a : Addr) (r : RwD), vs = [.ref a] ∧ RwAt K H (.ref a) r ∧ RwOk r ∧ Q (.str (rowText r)) H
theorem len_Row_str {vs H Q E} (h : sp_Row_str K vs H Q E) : vs.length = 1 := by
  obtain ⟨_, _, rfl, _⟩ := h
  rfl
theorem sc_Row_str : FnScope ["self"] ["self"] (defScope d_Row_str.st) := ⟨rfl, rfl, rfl, by decide +kernel, rfl, by decide +kernel, by decide +kernel⟩
theorem bi_Row_str {K : Fg} {fd : FuncData} (F : FnD K d_Row_str fd) : Binds K fd ["self"] [] := FunD.bindsN F fun _ _ _ _ _ _ us hl => match us, hl with | [_], _ => rfl
theorem body_Row_str (T : Txt K mg) : BodyOk P w K mg base 0 ["self"] d_Row_str (sp_Row_str K) := by
  intro cdv A outer s H vs Q E hr h
  obtain ⟨a, r, rfl, ⟨_, dx, ta, da, e0, ea, ht, hd⟩, ok, k⟩ := h
  cases e0
  have nd := sc_Row_str.nd
  refine ⟨_, (pss_cons (ps_if (pt_cmpR op_eq (pe_callB call_len_seq (by rfl) T.b_len PySem.boot_len (pa_cons (pe_fld (pv 0) rfl) pa_nil)) pe_int (nomark _)) (pss_one (ps_ret (pe_jn (.cons pe_str (.cons (pe_fmt (pe_join pe_str (pe_fld (pv 0) rfl))) .nil))))) pss_nil)
      (pss_one (ps_ret (pe_jn (.cons pe_str (.cons (pe_fmt (pe_join pe_str (pe_fld (pv 0) rfl))) (.cons pe_str (.cons (pe_fmt (pe_join pe_str (pe_fld (pv 0) rfl))) .nil)))))))), ?_⟩
  have cl := T.c_Row
  have h1 := join_le (sep := " and ") (fun t m => t20_len t (ok.tests t m))
  have h2 := join_le (sep := " then ") (fun t m => d8_len t (ok.deeds t m))
  have g1 := sum_le (fun t m => t20_len t (ok.tests t m))
  have g2 := sum_le (fun t m => d8_len t (ok.deeds t m))
  have l1 : (" and " : Str).length = 5 := by decide +kernel
  have l2 : (" then " : Str).length = 6 := by decide +kernel
  have l3 : ("if " : Str).length = 3 := by decide +kernel
  have l4 : (" do " : Str).length = 4 := by decide +kernel
  have l5 : ("do " : Str).length = 3 := by decide +kernel
  have f1 := ok.few
  have f2 := ok.less
  rw [l1] at h1
  rw [l2] at h2
  refine ⟨_, rfl, a, _, dx, _, _, rfl, ea, cl, T.n_Row_tests, rfl, ta, _, rfl, .inr ht, rfl, _, rfl, ?_⟩
  rw [List.length_map]
  refine ite2 (fun q => ?_) (fun q => ?_)
  · have e0 : r.1 = [] := by
      have q1 := V.int.inj (of_decide_eq_true q)
      exact List.eq_nil_of_length_eq_zero (by omega)
    rw [← rowText0 e0] at k
    refine ⟨_, rfl, sz (by rw [lenA, len0, l5]; omega), ⟨_, rfl⟩, _, rfl, a, _, dx, _, _, rfl, ea, cl, T.n_Row_deeds, rfl, _, da, r.2, rfl, rfl, .inr hd, by rw [l2]; omega, ?_⟩
    exact .inl ⟨_, rfl, sz (by omega), _, rfl, sz (by rw [lenA, lenA, len0, l5]; omega), k⟩
  · have e0 : ¬ r.1 = [] := fun z => q (by rw [z]; rfl)
    rw [← rowText1 e0] at k
    refine ⟨_, rfl, sz (by rw [lenA, len0, l3]; omega), ⟨_, rfl⟩, _, rfl, a, _, dx, _, _, rfl, ea, cl, T.n_Row_tests, rfl, _, ta, r.1, rfl, rfl, .inr ht, by rw [l1]; omega, ?_⟩
    refine .inl ⟨_, rfl, sz (by omega), _, rfl, sz (by rw [lenA, lenA, len0, l3]; omega), ?_⟩
    refine ⟨_, rfl, sz (by rw [lenA, lenA, lenA, len0, l3, l4]; omega), ⟨_, rfl⟩, _, rfl, a, _, dx, _, _, rfl, ea, cl, T.n_Row_deeds, rfl, _, da, r.2, rfl, rfl, .inr hd, by rw [l2]; omega, ?_⟩
    exact .inl ⟨_, rfl, sz (by omega), _, rfl, sz (by rw [lenA, lenA, lenA, lenA, len0, l3, l4]; omega), k⟩
theorem met_Row_str (T : Txt K mg) : Met P w K mg base 1 (ga K "Row") "__str__" (sp_Row_str K) [] := by
  obtain ⟨fd, F⟩ := T.d_Row_str
  exact mkMet T.c_Row T.m_Row_str F (bi_Row_str F) sc_Row_str (fun vs H Q E h => len_Row_str h) (body_Row_str T)
def sp_Tool_init (K : Fg) : Sp := fun vs H Q _ => ∃ (x dx l : Addr) (us : List V) (t : TlD), vs = [.ref x, .ref l, .bl t.sorts] ∧ H x = some (.ins (ga K "Tool") dx []) ∧ SqL K H l us ∧ Paired (RwAt K H) us t.rows ∧ t.ok ∧
  ∀ H' ra, H ra = none → (∀ b o, b ≠ x → H b = some o → H' b = some o) → H' x = some (.ins (ga K "Tool") dx (tlF ra t.sorts)) → SqT K H' ra us → Q .non H'
theorem len_Tool_init {vs H Q E} (h : sp_Tool_init K vs H Q E) : vs.length = 3 := by
  obtain ⟨_, _, _, _, _, rfl, _⟩ := h
  rfl
theorem sc_Tool_init : FnScope ["self", "rows", "sorts", "row"] ["self", "rows", "sorts"] (defScope d_Tool_init.st) := ⟨rfl, rfl, rfl, by decide +kernel, rfl, by decide +kernel, by decide +kernel⟩
theorem bi_Tool_init {K : Fg} {fd : FuncData} (F : FnD K d_Tool_init fd) : Binds K fd ["self", "rows", "sorts"] [] := by
  obtain ⟨ds, r, b⟩ := FunD.binds1 (ps := ["self", "rows", "sorts"]) F 3 2 (by show ([_, _] : List V) ≠ []; exact List.cons_ne_nil _ _) rfl (fun _ _ _ _ _ _ _ us its hl hi => match us, hl, its, hi with | [_, _, _], _, [_, _], _ => ⟨_, rfl, by kernel_rfl⟩)
  cases r
  exact b
theorem body_Tool_init (T : Txt K mg) : BodyOk P w K mg base 1 ["self", "rows", "sorts", "row"] d_Tool_init (sp_Tool_init K) := by
  intro cdv A outer s H vs Q E hr h
  obtain ⟨x, dx, l, us, t, rfl, ex, hl, hrs, ok, k⟩ := h
  have nd := sc_Tool_init.nd
  refine ⟨_, (pss_cons (ps_if (PW.pt (pw_or (pt_not (pt_val (pe_c (cal_is_sequence T) hr (by decide) (by rfl) (pa_cons (pv 1) pa_nil)))) (pw_or1 (pt_not (pt_val (pe_callB (cr_all rfl) (by rfl) T.b_all PyProof.Rows.boot_all (pa_cons (pe_lc (own := [("row", 3)]) (g := gName 3) (tt := tYes) rfl nd (pi_list (pv 1)) (blkOk_by (N := ["self", "rows", "sorts", "row"]) (sc := defScope d_Tool_init.st) (by decide +kernel)) (fun _ _ _ _ _ => (pg_name (i := 3) nd rfl (Or.inl rfl))) (fun _ _ _ _ _ => pts_nil) (fun _ _ _ _ _ => (pe_callB (call_isiK K rfl) (by rfl) T.b_isinstance PyProof.Rows.boot_isinstance (pa_cons (pv 3) (pa_cons (pe_gc (v := .ref (ga _ "Row")) (by rfl) ⟨_, T.g_Row, rfl⟩) pa_nil))))) pa_nil))))))) (pss_one ps_never) pss_nil)
      (pss_cons (ps_if (pt_not (pt_val (pe_callB call_isi (by rfl) T.b_isinstance PyProof.Rows.boot_isinstance (pa_cons (pv 2) (pa_cons (pe_bltn (v := .ty "bool") (by rfl) T.b_bool PyProof.Rows.boot_bool rfl) pa_nil))))) (pss_one ps_never) pss_nil)
      (pss_cons (ps_fld (pv 0) (pe_callTy call_tuple_of (by rfl) T.b_tuple PyProof.Rows.boot_tuple (pa_cons (pv 1) pa_nil)) rfl)
      (pss_one (ps_fld (pv 0) (pv 2) rfl))))), ?_⟩
  have cl := T.c_Tool
  have f1 := ok.few
  have lu : us.length = t.rows.length := Paired.lenE hrs
  refine ⟨_, rfl, l, rfl, .inl ⟨_, hl⟩, fun H1 s1 => ⟨_, rfl, ?_⟩⟩
  refine iteF ⟨_, rfl, l, rfl, ⟨_, SqLm s1 hl⟩, fun D hD => ?_⟩
  refine lc_go walk_list (fun i acc H' => Same H1 H' ∧ acc = List.replicate i (V.bl true)) ⟨same_new hD, rfl⟩ (fun i acc H' _ p _ => SqLm (s1.trans p.1) hl) (fun i y acc Ha Hb hi hla ⟨p1, p2⟩ hD1 q => ?_) (fun acc H3 hla ⟨p1, p2⟩ hD1 => ?_)
  · obtain ⟨rfl, hx⟩ := q
    obtain ⟨r, hr', hrow⟩ := Paired.get0 hrs hx
    obtain ⟨q, dq, ta, da, rfl, eq, _⟩ := hrow.mono (s1.trans p1)
    obtain ⟨ty, kit⟩ := objKit T.c_Row T.o_Row eq
    refine ⟨rfl, yes ⟨_, rfl, .ref q, .ref (ga K "Row"), .ref (ga K "Row"), .ref (ga K "Row"), true, rfl, .own _, ty, kit, ?_⟩⟩
    refine lc_put hD1 hla (by omega) ⟨p1.mut hD, ?_⟩
    rw [p2, List.replicate_succ']
  refine ⟨D, List.replicate us.length true, rfl, by rw [List.map_replicate, ← p2]; exact SqL.of hD1, ?_⟩
  have e : (List.replicate us.length true).all id = true := by simp
  refine ⟨_, rfl, ?_⟩
  rw [e]
  refine iteF ?_
  have s3 := s1.trans p1
  refine ⟨_, rfl, .bl t.sorts, .ty "bool", .type "bool", .type "bool", true, rfl, .ty _, .base (.bl _), kit_ty kb_bool, _, rfl, iteF ?_⟩
  refine ⟨_, rfl, l, us, rfl, .inl ⟨SqLm s3 hl, fun ra nra => ?_⟩⟩
  have s4 : Same H3 (upd H3 ra (.tup us)) := same_new nra
  have v4 : (upd H3 ra (.tup us)) ra = some (.tup us) := upd_same
  generalize upd H3 ra (.tup us) = H4 at s4 v4
  have s5 := s3.trans s4
  have ex4 := s5 _ _ ex
  refine ⟨_, rfl, x, _, dx, _, rfl, ex4, cl, T.n_Tool_rows, by simp, ?_⟩
  refine ⟨_, rfl, _, rfl, x, _, dx, _, rfl, upd_same, cl, T.n_Tool_sorts, lt1000 rfl, ?_⟩
  rw [upd_upd]
  refine k _ ra (s3.free nra) (fun b o hb z => by rw [upd_ne hb]; exact s5 _ _ z) (by rw [upd_same] <;> rfl) (SqT.of ?_)
  rw [upd_ne (ne_of v4 ex4 (fun z => by cases z))]
  exact v4
theorem mak_Tool (T : Txt K mg) : Mak P w K mg base 2 "Tool" (ga K "Tool") (sp_Tool_init K) [] := by
  obtain ⟨fd, F⟩ := T.d_Tool_init
  exact mkMak T.k_Tool T.g_Tool F (bi_Tool_init F) sc_Tool_init (fun vs H Q E h => len_Tool_init h) (body_Tool_init T)
theorem make_tl {t : TlD} {l x dx : Addr} {us : List V} {H1 : Hp} {vs : List V} {R : Hp → Prop} {E : XK} (nx : H1 x = none) (nd : H1 dx = none) (hne : dx ≠ x) (hl : SqL K H1 l us) (hrs : Paired (RwAt K H1) us t.rows) (ok : t.ok) (ev : vs = [.ref x, .ref l, .bl t.sorts]) (q : ∀ H', Same H1 H' → TlAt K H' (.ref x) t → R H') :
    sp_Tool_init K vs (upd (upd H1 dx (.own x)) x (.ins (ga K "Tool") dx [])) (fun v H2 => v = .non ∧ R H2) E := by
  have nx2 : upd H1 dx (.own x) x = none := by rw [upd_ne (Ne.symm hne)]; exact nx
  have s1 : Same H1 (upd (upd H1 dx (.own x)) x (.ins (ga K "Tool") dx [])) := (same_new nd).trans (same_new nx2)
  refine ⟨x, dx, l, us, t, ev, upd_same, SqLm s1 hl, pairedM (fun _ _ z => z.mono s1) hrs, ok, fun H' ra _ k1 k2 k3 => ⟨rfl, ?_⟩⟩
  have s2 : Same H1 H' := fun b o h => k1 b o (ne_of_none h nx) (s1 b o h)
  exact q H' s2 ⟨x, dx, ra, us, rfl, k2, k3, pairedM (fun _ _ z => z.mono s2) hrs, ok⟩
def sp_Tool_str (K : Fg) : Sp := fun vs H Q _ => ∃ (a : Addr) (t : TlD), vs = [.ref a] ∧ TlAt K H (.ref a) t ∧ ∀ H', Same H H' → Q (.str (toolText t)) H'
theorem len_Tool_str {vs H Q E} (h : sp_Tool_str K vs H Q E) : vs.length = 1 := by
  obtain ⟨_, _, rfl, _⟩ := h
  rfl
theorem sc_Tool_str : FnScope ["self", "row"] ["self"] (defScope d_Tool_str.st) := ⟨rfl, rfl, rfl, by decide +kernel, rfl, by decide +kernel, by decide +kernel⟩
theorem bi_Tool_str {K : Fg} {fd : FuncData} (F : FnD K d_Tool_str fd) : Binds K fd ["self"] [] := FunD.bindsN F fun _ _ _ _ _ _ us hl => match us, hl with | [_], _ => rfl
theorem body_Tool_str (T : Txt K mg) : BodyOk P w K mg base 4 ["self", "row"] d_Tool_str (sp_Tool_str K) := by
  intro cdv A outer s H vs Q E hr h
  obtain ⟨a, t, rfl, ⟨_, dx, ra, us, e0, ea, hra, hrs, ok⟩, k⟩ := h
  cases e0
  have nd := sc_Tool_str.nd
  refine ⟨_, (pss_one (ps_ret (pe_join pe_str (pe_lst (pa_cons (pe_ifExp (pt_val (pe_fld (pv 0) rfl)) pe_str pe_str) (StX.pa_star (pe_lc (own := [("row", 1)]) (g := gName 1) (tt := tYes) rfl nd (pi_tup (pe_fld (pv 0) rfl)) (blkOk_by (N := ["self", "row"]) (sc := defScope d_Tool_str.st) (by decide +kernel)) (fun _ _ _ _ _ => (pg_name (i := 1) nd rfl (Or.inl rfl))) (fun _ _ _ _ _ => pts_nil) (fun _ _ _ _ _ => (pe_callTy (call_strM (met_Row_str T) hr (by decide)) (by rfl) T.b_str PyProof.Rows.boot_str (pa_cons (pv 1) pa_nil)))) pa_nil)))))), ?_⟩
  have cl := T.c_Tool
  have f1 := ok.few
  have lu : us.length = t.rows.length := Paired.lenE hrs
  refine ⟨⟨_, rfl⟩, _, rfl, a, _, dx, _, _, rfl, ea, cl, T.n_Tool_sorts, rfl, t.sorts, rfl, ?_⟩
  refine ifE (fun v H' => H' = H ∧ v = .str (if t.sorts = true then "tool sorts" else "tool")) (fun q Q q2 => ?_) (fun q Q q2 => ?_) ?_
  · exact q2 _ _ ⟨rfl, by rw [if_pos q]⟩
  · exact q2 _ _ ⟨rfl, by rw [if_neg q]⟩
  rintro _ H9 ⟨e9, rfl⟩
  rw [e9]
  clear e9 H9
  refine ⟨_, rfl, a, _, dx, _, _, rfl, ea, cl, T.n_Tool_rows, rfl, ra, rfl, ⟨_, hra⟩, fun D hD => ?_⟩
  refine lc_go walk_tup (fun i acc H' => Same H H' ∧ acc = (t.rows.take i).map fun r => V.str (rowText r)) ⟨same_new hD, rfl⟩ (fun i acc H' _ p _ => SqTm p.1 hra) (fun i y acc Ha Hb hi hla ⟨p1, p2⟩ hD1 q => ?_) (fun acc H3 hla ⟨p1, p2⟩ hD1 => ?_)
  · obtain ⟨rfl, hx⟩ := q
    obtain ⟨r, hr', hrow⟩ := Paired.get0 hrs hx
    have hrow1 := hrow.mono p1
    obtain ⟨q, dq, ta, da, rfl, eq, _⟩ := id hrow1
    have okr := ok.rows r (List.mem_of_getElem? hr')
    refine ⟨rfl, yes ⟨_, rfl, q, dq, _, rfl, eq, q, r, rfl, hrow1, okr, _, rfl, ?_⟩⟩
    refine lc_put hD1 hla (by omega) ⟨p1.mut hD, ?_⟩
    rw [p2, List.take_add_one, hr', List.map_append]
    rfl
  rw [lu, List.take_length] at p2
  refine ⟨D, acc, rfl, .inr (SqL.of hD1), sz (by simp only [List.length_append, List.length_cons, List.length_nil]; omega), fun g ng => ?_⟩
  have es : (V.str (if t.sorts = true then "tool sorts" else "tool") :: (acc ++ [])) = ((if t.sorts = true then ("tool sorts" : Str) else "tool") :: t.rows.map rowText).map V.str := by
    rw [p2, List.append_nil, List.map_cons, List.map_map]
    rfl
  have vg : (upd H3 g (.lst (V.str (if t.sorts = true then "tool sorts" else "tool") :: (acc ++ [])))) g = some (.lst (((if t.sorts = true then ("tool sorts" : Str) else "tool") :: t.rows.map rowText).map V.str)) := by rw [upd_same, es]
  refine ⟨_, g, _, rfl, rfl, .inl (SqL.of vg), ?_, k _ (p1.grow ng)⟩
  have hl : ∀ y ∈ ((if t.sorts = true then ("tool sorts" : Str) else "tool") :: t.rows.map rowText), y.length ≤ 300 := fun y hy => by
    rcases List.mem_cons.mp hy with rfl | hy
    · split
      · exact Nat.le_trans (Nat.le_of_eq (by decide +kernel : ("tool sorts" : Str).length = 10)) (by decide)
      · exact Nat.le_trans (Nat.le_of_eq (by decide +kernel : ("tool" : Str).length = 4)) (by decide)
    · obtain ⟨r, hr1, rfl⟩ := List.mem_map.mp hy
      exact rowText_len (ok.rows r hr1)
  have h1 := sum_le hl
  have cn : ("\n" : Str).length = 1 := by decide +kernel
  rw [cn]
  simp only [List.length_cons, List.length_map] at h1 ⊢
  omega
theorem met_Tool_str (T : Txt K mg) : Met P w K mg base 5 (ga K "Tool") "__str__" (sp_Tool_str K) [] := by
  obtain ⟨fd, F⟩ := T.d_Tool_str
  exact mkMet T.c_Tool T.m_Tool_str F (bi_Tool_str F) sc_Tool_str (fun vs H Q E h => len_Tool_str h) (body_Tool_str T)
end
end Lt
set_option Elab.async false
set_option linter.all false
set_option maxRecDepth 100000
set_option maxHeartbeats 8000000
/-! sheets: what stands, steps on -/
namespace Lt
open PySem PySem.Spec PyProof.Rows L2
open C8 (Cal Met Mak pe_c pe_mk pe_mt pe_mt0 pe_gc)
/-- all but p stays -/
def Fr1 (p : Addr) (H H' : Hp) : Prop := ∀ b o, b ≠ p → H b = some o → H' b = some o
theorem Fr1.of {p : Addr} {H H' : Hp} (e : Same H H') : Fr1 p H H' := fun b o _ h => e b o h
theorem Fr1.trans {p : Addr} {H H1 H2 : Hp} (a : Fr1 p H H1) (b : Fr1 p H1 H2) : Fr1 p H H2 := fun c o hc h => b c o hc (a c o hc h)
theorem Fr1.upd {p : Addr} {H : Hp} {o : HO} : Fr1 p H (upd H p o) := fun b u hb h => by rw [upd_ne hb]; exact h
theorem Fr1.msk {S : Sg} {p : Addr} {H H' : Hp} (f : Fr1 p H H') (h : S p = true) : Same (msk S H) (msk S H') := fun a o e => by
  obtain ⟨h1, h2⟩ := msk_some e
  rw [msk_at h1]
  exact f a o (fun z => by rw [z, h] at h1; cases h1) h2
theorem Fr1.ow {S : Sg} {p : Addr} {H H' : Hp} {u : HO} (f : Fr1 p H H') (w : Ow S H) (h : H' p = some u) (hk : Kd u = true) : Ow S H' := fun a ha => by
  by_cases e : a = p
  · rw [e]
    exact ⟨u, h, hk⟩
  · obtain ⟨o, z, z2⟩ := w a ha
    exact ⟨o, f a o e z, z2⟩
theorem Ow.tup {K : Fg} {S : Sg} {H : Hp} {a : Addr} {xs : List V} (w : Ow S H) (h : SqT K H a xs) : SqT K (msk S H) a xs := by
  rcases h with (h | ⟨o, h⟩) | h
  · exact .inl (.inl (by rw [msk_at (w.kd h rfl)]; exact h))
  · exact .inl (.inr ⟨o, by rw [msk_at (w.kd h rfl)]; exact h⟩)
  · exact .inr h
theorem Ow.pc {K : Fg} {S : Sg} {H : Hp} {v : V} {d : PcD} (w : Ow S H) (h : PcAt K H v d) : PcAt K (msk S H) v d := by
  obtain ⟨a, dx, pa, z, h1, h2, h3, h4⟩ := h
  exact ⟨a, dx, pa, z, h1, by rw [msk_at (w.kd h2 rfl)]; exact h2, w.tup h3, h4⟩
theorem Ow.pg {K : Fg} {S : Sg} {H : Hp} {v : V} {ps : List PcD} (w : Ow S H) (h : PgAt K H v ps) : PgAt K (msk S H) v ps := by
  obtain ⟨a, dx, pa, vs, z, h1, h2, h3, h4, h5⟩ := h
  exact ⟨a, dx, pa, vs, z, h1, by rw [msk_at (w.kd h2 rfl)]; exact h2, w.tup h3, pairedM (fun _ _ z => w.pc z) h4, h5⟩
theorem Ow.rw {K : Fg} {S : Sg} {H : Hp} {v : V} {r : RwD} (w : Ow S H) (h : RwAt K H v r) : RwAt K (msk S H) v r := by
  obtain ⟨a, dx, ta, da, h1, h2, h3, h4⟩ := h
  exact ⟨a, dx, ta, da, h1, by rw [msk_at (w.kd h2 rfl)]; exact h2, w.tup h3, w.tup h4⟩
theorem Ow.tl {K : Fg} {S : Sg} {H : Hp} {v : V} {t : TlD} (w : Ow S H) (h : TlAt K H v t) : TlAt K (msk S H) v t := by
  obtain ⟨a, dx, ra, vs, h1, h2, h3, h4, h5⟩ := h
  exact ⟨a, dx, ra, vs, h1, by rw [msk_at (w.kd h2 rfl)]; exact h2, w.tup h3, pairedM (fun _ _ z => w.rw z) h4, h5⟩
theorem SqT.m {K : Fg} {S : Sg} {H : Hp} {a : Addr} {xs : List V} (h : SqT K (msk S H) a xs) : SqT K H a xs := SqTm msk_le h
theorem msk_put {S : Sg} {H : Hp} {p : Addr} {o : HO} (h : S p = true) : Same (msk S H) (msk S (upd H p o)) := by
  rw [msk_own h]
  exact Same.refl _
theorem SqT.new {K : Fg} {S : Sg} {H : Hp} {p : Addr} {xs : List V} (w : Ow S H) (h : H p = none) : SqT K (msk S (upd H p (.tup xs))) p xs := SqT.of (msk_new w h)
def shF (wd : Int) (ha pa : Addr) : List (Str × V) := [("width", .int wd), ("at_hand", .ref ha), ("past", .ref pa)]
/-- a tool and a program, at hand -/
def StAt (K : Fg) (G : Hp) (v : V) (tl : TlD) (ps : List PcD) : Prop := ∃ h t p, v = .ref h ∧ SqT K G h [.ref t, .ref p] ∧ TlAt K G (.ref t) tl ∧ PgAt K G (.ref p) ps
theorem StAt.mono {K : Fg} {G G' : Hp} {v : V} {tl : TlD} {ps : List PcD} (e : Same G G') (h : StAt K G v tl ps) : StAt K G' v tl ps := by
  obtain ⟨h, t, p, h1, h2, h3, h4⟩ := h
  exact ⟨h, t, p, h1, SqTm e h2, h3.mono e, h4.mono e⟩
/-- a sheet: its width, tool, program, past -/
structure ShAt (K : Fg) (S : Sg) (H : Hp) (sa : Addr) (wd : Int) (tl : TlD) (ps : List PcD) (past : List (List PcD)) : Prop where
  own : S sa = true
  few : past.length ≤ 60
  ex : ∃ dx ha pa pvs, H sa = some (.ins (ga K "Sheet") dx (shF wd ha pa)) ∧ StAt K (msk S H) (.ref ha) tl ps ∧ SqT K (msk S H) pa pvs ∧ Paired (fun v qs => StAt K (msk S H) v tl qs) pvs past
theorem ShAt.mono {K : Fg} {S : Sg} {H H' : Hp} {sa : Addr} {wd : Int} {tl : TlD} {ps : List PcD} {past : List (List PcD)} (e : Same (msk S H) (msk S H')) (e2 : ∀ o, H sa = some o → H' sa = some o) (h : ShAt K S H sa wd tl ps past) : ShAt K S H' sa wd tl ps past := by
  obtain ⟨h0, h1, dx, ha, pa, pvs, h2, h3, h4, h5⟩ := h
  exact ⟨h0, h1, dx, ha, pa, pvs, e2 _ h2, h3.mono e, SqTm e h4, pairedM (fun _ _ z => z.mono e) h5⟩
theorem ShAt.same {K : Fg} {S : Sg} {H H' : Hp} {sa : Addr} {wd : Int} {tl : TlD} {ps : List PcD} {past : List (List PcD)} (e : Same H H') (h : ShAt K S H sa wd tl ps past) : ShAt K S H' sa wd tl ps past := h.mono (msk_same e) fun o z => e _ _ z
section
variable {P : Program} {w : World} {K : Fg} {mg : Str → Option Value} {base : Heap}
/-! ### made under a mask -/
theorem msk_up {S : Sg} {H H' : Hp} {p : Addr} {o : HO} (w0 : Ow S H) (n : H p = none) (e : H' p = some o) : msk S H' p = some o := by
  rw [msk_at (w0.not n)]
  exact e
theorem make_pcS {S : Sg} {d : PcD} {pa x dx : Addr} {H1 : Hp} {vs : List V} {R : Hp → Prop} {E : XK} (w0 : Ow S H1) (nx : H1 x = none) (nd : H1 dx = none) (hne : dx ≠ x) (hp : SqT K (msk S H1) pa (d.parts.map V.str)) (ok : d.ok) (ev : vs = .ref x :: pcArgs d pa) (q : ∀ H', Same H1 H' → PcAt K (msk S H') (.ref x) d → R H') :
    sp_Piece_init K vs (upd (upd H1 dx (.own x)) x (.ins (ga K "Piece") dx [])) (fun v H2 => v = .non ∧ R H2) E := by
  have nx2 : upd H1 dx (.own x) x = none := by rw [upd_ne (Ne.symm hne)]; exact nx
  have s1 : Same H1 (upd (upd H1 dx (.own x)) x (.ins (ga K "Piece") dx [])) := (same_new nd).trans (same_new nx2)
  refine ⟨x, dx, pa, d, ev, upd_same, SqTm (msk_le.trans s1) hp, ok, fun H' z hz k1 k2 => ⟨rfl, ?_⟩⟩
  have s2 : Same H1 H' := fun b o h => k1 b o (ne_of_none h nx) (s1 b o h)
  exact q H' s2 ⟨x, dx, pa, z, rfl, msk_up w0 nx k2, SqTm (msk_same s2) hp, hz, ok⟩
theorem make_pgS {S : Sg} {ps : List PcD} {us : List V} {l x dx : Addr} {H1 : Hp} {vs : List V} {R : Hp → Prop} {E : XK} (w0 : Ow S H1) (nx : H1 x = none) (nd : H1 dx = none) (hne : dx ≠ x) (hl : SqL K H1 l us) (hp : PcAll K (msk S H1) us ps) (h40 : ps.length ≤ 40) (ev : vs = [.ref x, .ref l]) (q : ∀ H', Same H1 H' → PgAt K (msk S H') (.ref x) ps → R H') :
    sp_Program_init K vs (upd (upd H1 dx (.own x)) x (.ins (ga K "Program") dx [])) (fun v H2 => v = .non ∧ R H2) E := by
  have nx2 : upd H1 dx (.own x) x = none := by rw [upd_ne (Ne.symm hne)]; exact nx
  have s1 : Same H1 (upd (upd H1 dx (.own x)) x (.ins (ga K "Program") dx [])) := (same_new nd).trans (same_new nx2)
  refine ⟨x, dx, l, us, ps, ev, upd_same, SqLm s1 hl, PcAll.mono (msk_le.trans s1) hp, h40, fun H' pa z np k1 k2 k3 => ⟨rfl, ?_⟩⟩
  have s2 : Same H1 H' := fun b o h => k1 b o (ne_of_none h nx) (s1 b o h)
  have np1 := s1.free np
  have k4 : SqT K (msk S H') pa us := by
    rcases k3 with (k3 | ⟨o, k3⟩) | k3
    · exact .inl (.inl (msk_up w0 np1 k3))
    · exact .inl (.inr ⟨o, msk_up w0 np1 k3⟩)
    · exact .inr k3
  exact q H' s2 ⟨x, dx, pa, us, z, rfl, msk_up w0 nx k2, k4, PcAll.mono (msk_same s2) hp, h40⟩
theorem make_rwS {S : Sg} {r : RwD} {ta da x dx : Addr} {H1 : Hp} {vs : List V} {R : Hp → Prop} {E : XK} (w0 : Ow S H1) (nx : H1 x = none) (nd : H1 dx = none) (hne : dx ≠ x) (ht : SqT K (msk S H1) ta (r.1.map V.str)) (hd : SqT K (msk S H1) da (r.2.map V.str)) (ok : RwOk r) (ev : vs = [.ref x, .ref ta, .ref da]) (q : ∀ H', Same H1 H' → RwAt K (msk S H') (.ref x) r → R H') :
    sp_Row_init K vs (upd (upd H1 dx (.own x)) x (.ins (ga K "Row") dx [])) (fun v H2 => v = .non ∧ R H2) E := by
  have nx2 : upd H1 dx (.own x) x = none := by rw [upd_ne (Ne.symm hne)]; exact nx
  have s1 : Same H1 (upd (upd H1 dx (.own x)) x (.ins (ga K "Row") dx [])) := (same_new nd).trans (same_new nx2)
  refine ⟨x, dx, ta, da, r, ev, upd_same, SqTm (msk_le.trans s1) ht, SqTm (msk_le.trans s1) hd, ok, fun H' k1 k2 => ⟨rfl, ?_⟩⟩
  have s2 : Same H1 H' := fun b o h => k1 b o (ne_of_none h nx) (s1 b o h)
  exact q H' s2 ⟨x, dx, ta, da, rfl, msk_up w0 nx k2, SqTm (msk_same s2) ht, SqTm (msk_same s2) hd⟩
theorem make_tlS {S : Sg} {t : TlD} {l x dx : Addr} {us : List V} {H1 : Hp} {vs : List V} {R : Hp → Prop} {E : XK} (w0 : Ow S H1) (nx : H1 x = none) (nd : H1 dx = none) (hne : dx ≠ x) (hl : SqL K H1 l us) (hrs : Paired (RwAt K (msk S H1)) us t.rows) (ok : t.ok) (ev : vs = [.ref x, .ref l, .bl t.sorts]) (q : ∀ H', Same H1 H' → TlAt K (msk S H') (.ref x) t → R H') :
    sp_Tool_init K vs (upd (upd H1 dx (.own x)) x (.ins (ga K "Tool") dx [])) (fun v H2 => v = .non ∧ R H2) E := by
  have nx2 : upd H1 dx (.own x) x = none := by rw [upd_ne (Ne.symm hne)]; exact nx
  have s1 : Same H1 (upd (upd H1 dx (.own x)) x (.ins (ga K "Tool") dx [])) := (same_new nd).trans (same_new nx2)
  refine ⟨x, dx, l, us, t, ev, upd_same, SqLm s1 hl, pairedM (fun _ _ z => z.mono (msk_le.trans s1)) hrs, ok, fun H' ra np k1 k2 k3 => ⟨rfl, ?_⟩⟩
  have s2 : Same H1 H' := fun b o h => k1 b o (ne_of_none h nx) (s1 b o h)
  have np1 := s1.free np
  have k4 : SqT K (msk S H') ra us := by
    rcases k3 with (k3 | ⟨o, k3⟩) | k3
    · exact .inl (.inl (msk_up w0 np1 k3))
    · exact .inl (.inr ⟨o, msk_up w0 np1 k3⟩)
    · exact .inr k3
  exact q H' s2 ⟨x, dx, ra, us, rfl, msk_up w0 nx k2, k4, pairedM (fun _ _ z => z.mono (msk_same s2)) hrs, ok⟩
def sp_Sheet_init (K : Fg) : Sp := fun vs H Q _ => ∃ (x dx t p : Addr) (wd : Int), vs = [.ref x, .ref t, .int wd, .ref p] ∧ H x = some (.ins (ga K "Sheet") dx []) ∧
  ∀ H' ha pa, Fr1 x H H' → H ha = none → H pa = none → H' x = some (.ins (ga K "Sheet") dx (shF wd ha pa)) → H' ha = some (.tup [.ref t, .ref p]) → H' pa = some (.tup []) → Q .non H'
theorem len_Sheet_init {vs H Q E} (h : sp_Sheet_init K vs H Q E) : vs.length = 4 := by
  obtain ⟨_, _, _, _, _, rfl, _⟩ := h
  rfl
theorem sc_Sheet_init : FnScope ["self", "tool", "width", "program"] ["self", "tool", "width", "program"] (defScope d_Sheet_init.st) := ⟨rfl, rfl, rfl, by decide +kernel, rfl, by decide +kernel, by decide +kernel⟩
theorem bi_Sheet_init {K : Fg} {fd : FuncData} (F : FnD K d_Sheet_init fd) : Binds K fd ["self", "tool", "width", "program"] [] := FunD.bindsN F fun _ _ _ _ _ _ us hl => match us, hl with | [_, _, _, _], _ => rfl
theorem body_Sheet_init (T : Txt K mg) : BodyOk P w K mg base 0 ["self", "tool", "width", "program"] d_Sheet_init (sp_Sheet_init K) := by
  intro cdv A outer s H vs Q E hr h
  obtain ⟨x, dx, t, p, wd, rfl, ex, k⟩ := h
  have nd := sc_Sheet_init.nd
  refine ⟨_, (pss_cons (ps_fld (pv 0) (pv 2) rfl)
      (pss_cons (ps_fld (pv 0) (pe_tup (pa_cons (pv 1) (pa_cons (pv 3) pa_nil))) rfl)
      (pss_one (ps_fld (pv 0) (pe_tup pa_nil) rfl)))), ?_⟩
  have cl := T.c_Sheet
  refine ⟨_, rfl, _, rfl, x, _, dx, _, rfl, ex, cl, T.n_Sheet_width, by simp, ?_⟩
  have hx1 : (upd H x (.ins (ga K "Sheet") dx (putF "width" (.int wd) []))) x = some (.ins (ga K "Sheet") dx [("width", .int wd)]) := by rw [upd_same] <;> rfl
  have f1 : Fr1 x H (upd H x (.ins (ga K "Sheet") dx (putF "width" (.int wd) []))) := Fr1.upd
  have b1 : ∀ b, (upd H x (.ins (ga K "Sheet") dx (putF "width" (.int wd) []))) b = none → H b = none := fun b z => by
    by_cases e : b = x
    · rw [e, upd_same] at z
      cases z
    · rw [upd_ne e] at z
      exact z
  generalize upd H x (.ins (ga K "Sheet") dx (putF "width" (.int wd) [])) = H1 at hx1 f1 b1
  refine ⟨_, rfl, _, rfl, sz (by simp), fun ha na => ?_⟩
  have s2 : Same H1 (upd H1 ha (.tup [.ref t, .ref p])) := same_new na
  have va : (upd H1 ha (.tup [.ref t, .ref p])) ha = some (.tup [.ref t, .ref p]) := upd_same
  generalize upd H1 ha (.tup [.ref t, .ref p]) = H2 at s2 va
  refine ⟨_, rfl, x, _, dx, _, rfl, s2 _ _ hx1, cl, T.n_Sheet_at_hand, lt1000 rfl, ?_⟩
  have hax : ha ≠ x := fun z => by subst z; rw [hx1] at na; cases na
  have hx3 : (upd H2 x (.ins (ga K "Sheet") dx (putF "at_hand" (.ref ha) [("width", .int wd)]))) x = some (.ins (ga K "Sheet") dx [("width", .int wd), ("at_hand", .ref ha)]) := by rw [upd_same] <;> rfl
  have va3 : (upd H2 x (.ins (ga K "Sheet") dx (putF "at_hand" (.ref ha) [("width", .int wd)]))) ha = some (.tup [.ref t, .ref p]) := by rw [upd_ne hax]; exact va
  have f3 : Fr1 x H2 (upd H2 x (.ins (ga K "Sheet") dx (putF "at_hand" (.ref ha) [("width", .int wd)]))) := Fr1.upd
  have b3 : ∀ b, (upd H2 x (.ins (ga K "Sheet") dx (putF "at_hand" (.ref ha) [("width", .int wd)]))) b = none → H2 b = none := fun b z => by
    by_cases e : b = x
    · rw [e, upd_same] at z
      cases z
    · rw [upd_ne e] at z
      exact z
  generalize upd H2 x (.ins (ga K "Sheet") dx (putF "at_hand" (.ref ha) [("width", .int wd)])) = H3 at hx3 va3 f3 b3
  refine ⟨sz (by simp), fun pa np => ?_⟩
  have s4 : Same H3 (upd H3 pa (.tup [])) := same_new np
  have vp : (upd H3 pa (.tup [])) pa = some (.tup []) := upd_same
  generalize upd H3 pa (.tup []) = H4 at s4 vp
  refine ⟨_, rfl, x, _, dx, _, rfl, s4 _ _ hx3, cl, T.n_Sheet_past, lt1000 rfl, ?_⟩
  have hpx : pa ≠ x := fun z => by subst z; rw [hx3] at np; cases np
  refine k _ ha pa (((f1.trans (.of s2)).trans (f3.trans (.of s4))).trans Fr1.upd) (b1 _ na) (b1 _ (s2.free (b3 _ np))) (by rw [upd_same] <;> rfl) ?_ ?_
  · rw [upd_ne hax]
    exact s4 _ _ va3
  · rw [upd_ne hpx]
    exact vp
theorem mak_Sheet (T : Txt K mg) : Mak P w K mg base 1 "Sheet" (ga K "Sheet") (sp_Sheet_init K) [] := by
  obtain ⟨fd, F⟩ := T.d_Sheet_init
  exact mkMak T.k_Sheet T.g_Sheet F (bi_Sheet_init F) sc_Sheet_init (fun vs H Q E h => len_Sheet_init h) (body_Sheet_init T)
/-- a sheet is made -/
theorem make_sh {S : Sg} {tl : TlD} {ps : List PcD} {wd : Int} {t p x dx : Addr} {H1 : Hp} {vs : List V} {R : Hp → Prop} {E : XK} (w0 : Ow S H1) (nx : H1 x = none) (nd : H1 dx = none) (hne : dx ≠ x) (ht : TlAt K (msk S H1) (.ref t) tl) (hp : PgAt K (msk S H1) (.ref p) ps) (ev : vs = [.ref x, .ref t, .int wd, .ref p])
    (q : ∀ H', Same H1 H' → H1 x = none → Ow (insS S x) H' → ShAt K (insS S x) H' x wd tl ps [] → R H') :
    sp_Sheet_init K vs (upd (upd H1 dx (.own x)) x (.ins (ga K "Sheet") dx [])) (fun v H2 => v = .non ∧ R H2) E := by
  have nx2 : upd H1 dx (.own x) x = none := by rw [upd_ne (Ne.symm hne)]; exact nx
  have s1 : Same H1 (upd (upd H1 dx (.own x)) x (.ins (ga K "Sheet") dx [])) := (same_new nd).trans (same_new nx2)
  refine ⟨x, dx, t, p, wd, ev, upd_same, fun H' ha pa f na np ex va vp => ⟨rfl, ?_⟩⟩
  have s2 : Same H1 H' := fun b o h => f b o (ne_of_none h nx) (s1 b o h)
  have w1 : Ow (insS S x) H' := (w0.same s2).ins ex rfl
  have na1 := s1.free na
  have np1 := s1.free np
  have sx := w0.not nx
  have sa := w0.not na1
  have sp := w0.not np1
  have hax : ha ≠ x := fun z => by subst z; rw [upd_same] at na; cases na
  have hpx : pa ≠ x := fun z => by subst z; rw [upd_same] at np; cases np
  have m1 : Same (msk S H1) (msk (insS S x) H') := fun a o h => by
    obtain ⟨h1, h2⟩ := msk_some h
    have hx : a ≠ x := ne_of_none h2 nx
    have e1 : insS S x a = false := by
      show (S a || a == x) = false
      rw [h1, beq_eq_false_iff_ne.mpr hx] <;> rfl
    rw [msk_at e1]
    exact s2 _ _ h2
  have va2 : msk (insS S x) H' ha = some (.tup [.ref t, .ref p]) := by
    rw [msk_at (by show (S ha || ha == x) = false; rw [sa, beq_eq_false_iff_ne.mpr hax] <;> rfl)]
    exact va
  have vp2 : msk (insS S x) H' pa = some (.tup []) := by
    rw [msk_at (by show (S pa || pa == x) = false; rw [sp, beq_eq_false_iff_ne.mpr hpx] <;> rfl)]
    exact vp
  exact q H' s2 nx w1 ⟨ins_at, Nat.zero_le _, dx, ha, pa, [], ex, ⟨ha, t, p, rfl, SqT.of va2, ht.mono m1, hp.mono m1⟩, SqT.of vp2, .nil⟩
def sp_Sheet_program (K : Fg) : Sp := fun vs H Q _ => ∃ (sa : Addr) (S : Sg) (wd : Int) (tl : TlD) (ps : List PcD) (past : List (List PcD)), vs = [.ref sa] ∧ ShAt K S H sa wd tl ps past ∧ ∀ p, PgAt K (msk S H) (.ref p) ps → Q (.ref p) H
theorem len_Sheet_program {vs H Q E} (h : sp_Sheet_program K vs H Q E) : vs.length = 1 := by
  obtain ⟨_, _, _, _, _, _, rfl, _⟩ := h
  rfl
theorem sc_Sheet_program : FnScope ["self"] ["self"] (defScope d_Sheet_program.st) := ⟨rfl, rfl, rfl, by decide +kernel, rfl, by decide +kernel, by decide +kernel⟩
theorem bi_Sheet_program {K : Fg} {fd : FuncData} (F : FnD K d_Sheet_program fd) : Binds K fd ["self"] [] := FunD.bindsN F fun _ _ _ _ _ _ us hl => match us, hl with | [_], _ => rfl
theorem body_Sheet_program (T : Txt K mg) : BodyOk P w K mg base 0 ["self"] d_Sheet_program (sp_Sheet_program K) := by
  intro cdv A outer s H vs Q E hr h
  obtain ⟨sa, S, wd, tl, ps, past, rfl, ⟨h0, h1, dx, ha, pa, pvs, e, ⟨_, t, p, e0, hh, ht, hp⟩, _⟩, k⟩ := h
  cases e0
  have nd := sc_Sheet_program.nd
  refine ⟨_, (pss_one (ps_ret (pe_ix ix_tup (pe_fld (pv 0) rfl) pe_int (fun _ _ => rfl)))), ?_⟩
  exact ⟨_, rfl, sa, _, dx, _, _, rfl, e, T.c_Sheet, T.n_Sheet_at_hand, rfl, ha, _, _, _, rfl, rfl, SqT.m hh, at1, k p hp⟩
theorem prp_Sheet_program (T : Txt K mg) : Prp P w K mg base 1 (ga K "Sheet") "program" (sp_Sheet_program K) := by
  obtain ⟨fd, F⟩ := T.d_Sheet_program
  exact mkPrp T.c_Sheet T.p_Sheet_program rfl F (bi_Sheet_program F) sc_Sheet_program (fun vs H Q E h => len_Sheet_program h) (body_Sheet_program T)
def sp_Sheet_tool (K : Fg) : Sp := fun vs H Q _ => ∃ (sa : Addr) (S : Sg) (wd : Int) (tl : TlD) (ps : List PcD) (past : List (List PcD)), vs = [.ref sa] ∧ ShAt K S H sa wd tl ps past ∧ ∀ t, TlAt K (msk S H) (.ref t) tl → Q (.ref t) H
theorem len_Sheet_tool {vs H Q E} (h : sp_Sheet_tool K vs H Q E) : vs.length = 1 := by
  obtain ⟨_, _, _, _, _, _, rfl, _⟩ := h
  rfl
theorem sc_Sheet_tool : FnScope ["self"] ["self"] (defScope d_Sheet_tool.st) := ⟨rfl, rfl, rfl, by decide +kernel, rfl, by decide +kernel, by decide +kernel⟩
theorem bi_Sheet_tool {K : Fg} {fd : FuncData} (F : FnD K d_Sheet_tool fd) : Binds K fd ["self"] [] := FunD.bindsN F fun _ _ _ _ _ _ us hl => match us, hl with | [_], _ => rfl
theorem body_Sheet_tool (T : Txt K mg) : BodyOk P w K mg base 0 ["self"] d_Sheet_tool (sp_Sheet_tool K) := by
  intro cdv A outer s H vs Q E hr h
  obtain ⟨sa, S, wd, tl, ps, past, rfl, ⟨h0, h1, dx, ha, pa, pvs, e, ⟨_, t, p, e0, hh, ht, hp⟩, _⟩, k⟩ := h
  cases e0
  have nd := sc_Sheet_tool.nd
  refine ⟨_, (pss_one (ps_ret (pe_ix ix_tup (pe_fld (pv 0) rfl) pe_int (fun _ _ => rfl)))), ?_⟩
  exact ⟨_, rfl, sa, _, dx, _, _, rfl, e, T.c_Sheet, T.n_Sheet_at_hand, rfl, ha, _, _, _, rfl, rfl, SqT.m hh, at0, k t ht⟩
theorem prp_Sheet_tool (T : Txt K mg) : Prp P w K mg base 1 (ga K "Sheet") "tool" (sp_Sheet_tool K) := by
  obtain ⟨fd, F⟩ := T.d_Sheet_tool
  exact mkPrp T.c_Sheet T.p_Sheet_tool rfl F (bi_Sheet_tool F) sc_Sheet_tool (fun vs H Q E h => len_Sheet_tool h) (body_Sheet_tool T)
def sp_Sheet_stand (K : Fg) : Sp := fun vs H Q _ => ∃ (sa dx ha pa : Addr) (wd : Int), vs = [.ref sa] ∧ H sa = some (.ins (ga K "Sheet") dx (shF wd ha pa)) ∧ Q (.ref ha) H
theorem len_Sheet_stand {vs H Q E} (h : sp_Sheet_stand K vs H Q E) : vs.length = 1 := by
  obtain ⟨_, _, _, _, _, rfl, _⟩ := h
  rfl
theorem sc_Sheet_stand : FnScope ["self"] ["self"] (defScope d_Sheet_stand.st) := ⟨rfl, rfl, rfl, by decide +kernel, rfl, by decide +kernel, by decide +kernel⟩
theorem bi_Sheet_stand {K : Fg} {fd : FuncData} (F : FnD K d_Sheet_stand fd) : Binds K fd ["self"] [] := FunD.bindsN F fun _ _ _ _ _ _ us hl => match us, hl with | [_], _ => rfl
theorem body_Sheet_stand (T : Txt K mg) : BodyOk P w K mg base 0 ["self"] d_Sheet_stand (sp_Sheet_stand K) := by
  intro cdv A outer s H vs Q E hr h
  obtain ⟨sa, dx, ha, pa, wd, rfl, e, k⟩ := h
  have nd := sc_Sheet_stand.nd
  refine ⟨_, (pss_one (ps_ret (pe_fld (pv 0) rfl))), ?_⟩
  exact ⟨_, rfl, sa, _, dx, _, _, rfl, e, T.c_Sheet, T.n_Sheet_at_hand, rfl, k⟩
theorem met_Sheet_stand (T : Txt K mg) : Met P w K mg base 1 (ga K "Sheet") "stand" (sp_Sheet_stand K) [] := by
  obtain ⟨fd, F⟩ := T.d_Sheet_stand
  exact mkMet T.c_Sheet T.m_Sheet_stand F (bi_Sheet_stand F) sc_Sheet_stand (fun vs H Q E h => len_Sheet_stand h) (body_Sheet_stand T)
def sp_Sheet_len (K : Fg) : Sp := fun vs H Q _ => ∃ (sa : Addr) (S : Sg) (wd : Int) (tl : TlD) (ps : List PcD) (past : List (List PcD)), vs = [.ref sa] ∧ ShAt K S H sa wd tl ps past ∧ Q (.int (past.length : Int)) H
theorem len_Sheet_len {vs H Q E} (h : sp_Sheet_len K vs H Q E) : vs.length = 1 := by
  obtain ⟨_, _, _, _, _, _, rfl, _⟩ := h
  rfl
theorem sc_Sheet_len : FnScope ["self"] ["self"] (defScope d_Sheet_len.st) := ⟨rfl, rfl, rfl, by decide +kernel, rfl, by decide +kernel, by decide +kernel⟩
theorem bi_Sheet_len {K : Fg} {fd : FuncData} (F : FnD K d_Sheet_len fd) : Binds K fd ["self"] [] := FunD.bindsN F fun _ _ _ _ _ _ us hl => match us, hl with | [_], _ => rfl
theorem body_Sheet_len (T : Txt K mg) : BodyOk P w K mg base 0 ["self"] d_Sheet_len (sp_Sheet_len K) := by
  intro cdv A outer s H vs Q E hr h
  obtain ⟨sa, S, wd, tl, ps, past, rfl, ⟨h0, h1, dx, ha, pa, pvs, e, _, hq, hps⟩, k⟩ := h
  have nd := sc_Sheet_len.nd
  refine ⟨_, (pss_one (ps_ret (pe_callB call_len_seq (by rfl) T.b_len PySem.boot_len (pa_cons (pe_fld (pv 0) rfl) pa_nil)))), ?_⟩
  refine ⟨_, rfl, sa, _, dx, _, _, rfl, e, T.c_Sheet, T.n_Sheet_past, rfl, pa, pvs, rfl, .inr (SqT.m hq), ?_⟩
  rw [Paired.lenE hps]
  exact k
theorem met_Sheet_len (T : Txt K mg) : Met P w K mg base 1 (ga K "Sheet") "__len__" (sp_Sheet_len K) [] := by
  obtain ⟨fd, F⟩ := T.d_Sheet_len
  exact mkMet T.c_Sheet T.m_Sheet_len F (bi_Sheet_len F) sc_Sheet_len (fun vs H Q E h => len_Sheet_len h) (body_Sheet_len T)
/-- one step on -/
def sp_Sheet_go_on (K : Fg) : Sp := fun vs H Q _ => ∃ (sa t p : Addr) (S : Sg) (wd : Int) (tl : TlD) (ps qs : List PcD) (past : List (List PcD)), vs = [.ref sa, .ref t, .ref p] ∧ Ow S H ∧ ShAt K S H sa wd tl ps past ∧ TlAt K (msk S H) (.ref t) tl ∧ PgAt K (msk S H) (.ref p) qs ∧ past.length ≤ 59 ∧
  ∀ H', Fr1 sa H H' → ShAt K S H' sa wd tl qs (past ++ [ps]) → Q .non H'
theorem len_Sheet_go_on {vs H Q E} (h : sp_Sheet_go_on K vs H Q E) : vs.length = 3 := by
  obtain ⟨_, _, _, _, _, _, _, _, _, rfl, _⟩ := h
  rfl
theorem sc_Sheet_go_on : FnScope ["self", "tool", "program"] ["self", "tool", "program"] (defScope d_Sheet_go_on.st) := ⟨rfl, rfl, rfl, by decide +kernel, rfl, by decide +kernel, by decide +kernel⟩
theorem bi_Sheet_go_on {K : Fg} {fd : FuncData} (F : FnD K d_Sheet_go_on fd) : Binds K fd ["self", "tool", "program"] [] := FunD.bindsN F fun _ _ _ _ _ _ us hl => match us, hl with | [_, _, _], _ => rfl
theorem body_Sheet_go_on (T : Txt K mg) : BodyOk P w K mg base 0 ["self", "tool", "program"] d_Sheet_go_on (sp_Sheet_go_on K) := by
  intro cdv A outer s H vs Q E hr h
  obtain ⟨sa, t, p, S, wd, tl, ps, qs, past, rfl, w0, ⟨h0, h1, dx, ha, pa, pvs, e, hst, hq, hps⟩, ht, hp, h59, k⟩ := h
  have nd := sc_Sheet_go_on.nd
  refine ⟨_, (pss_cons (ps_fld (pv 0) (pe_tup (StX.pa_star (pe_fld (pv 0) rfl) (pa_cons (pe_fld (pv 0) rfl) pa_nil))) rfl)
      (pss_one (ps_fld (pv 0) (pe_tup (pa_cons (pv 1) (pa_cons (pv 2) pa_nil))) rfl))), ?_⟩
  have cl := T.c_Sheet
  have lp := Paired.lenE hps
  refine ⟨_, rfl, sa, _, dx, _, _, rfl, e, cl, T.n_Sheet_past, rfl, pa, pvs, rfl, .inl (SqT.m hq), ?_⟩
  refine ⟨_, rfl, sa, _, dx, _, _, rfl, e, cl, T.n_Sheet_at_hand, rfl, sz (by simp only [List.length_append, List.length_cons, List.length_nil]; omega), fun pa2 np => ?_⟩
  have s1 : Same H (upd H pa2 (.tup (pvs ++ [.ref ha]))) := same_new np
  have v1 : SqT K (msk S (upd H pa2 (.tup (pvs ++ [.ref ha])))) pa2 (pvs ++ [.ref ha]) := SqT.new w0 np
  have w1 := w0.same s1
  generalize upd H pa2 (.tup (pvs ++ [.ref ha])) = H1 at s1 v1 w1
  refine ⟨_, rfl, sa, _, dx, _, rfl, s1 _ _ e, cl, T.n_Sheet_past, lt1000 rfl, ?_⟩
  have m1 : Same (msk S H) (msk S (upd H1 sa (.ins (ga K "Sheet") dx (putF "past" (.ref pa2) (shF wd ha pa))))) := (msk_same s1).trans (msk_put h0)
  have v2 : SqT K (msk S (upd H1 sa (.ins (ga K "Sheet") dx (putF "past" (.ref pa2) (shF wd ha pa))))) pa2 (pvs ++ [.ref ha]) := SqTm (msk_put h0) v1
  have w2 : Ow S (upd H1 sa (.ins (ga K "Sheet") dx (putF "past" (.ref pa2) (shF wd ha pa)))) := w1.upd rfl
  have e2 : (upd H1 sa (.ins (ga K "Sheet") dx (putF "past" (.ref pa2) (shF wd ha pa)))) sa = some (.ins (ga K "Sheet") dx (shF wd ha pa2)) := by rw [upd_same] <;> rfl
  have f2 : Fr1 sa H (upd H1 sa (.ins (ga K "Sheet") dx (putF "past" (.ref pa2) (shF wd ha pa)))) := (Fr1.of s1).trans Fr1.upd
  generalize upd H1 sa (.ins (ga K "Sheet") dx (putF "past" (.ref pa2) (shF wd ha pa))) = H2 at m1 v2 w2 e2 f2
  refine ⟨_, rfl, _, rfl, sz (by simp), fun h2 nh => ?_⟩
  have s3 : Same H2 (upd H2 h2 (.tup [.ref t, .ref p])) := same_new nh
  have v3 : SqT K (msk S (upd H2 h2 (.tup [.ref t, .ref p]))) h2 [.ref t, .ref p] := SqT.new w2 nh
  generalize upd H2 h2 (.tup [.ref t, .ref p]) = H3 at s3 v3
  refine ⟨_, rfl, sa, _, dx, _, rfl, s3 _ _ e2, cl, T.n_Sheet_at_hand, lt1000 rfl, ?_⟩
  have m3 : Same (msk S H2) (msk S (upd H3 sa (.ins (ga K "Sheet") dx (putF "at_hand" (.ref h2) (shF wd ha pa2))))) := (msk_same s3).trans (msk_put h0)
  have m4 := m1.trans m3
  refine k _ (f2.trans ((Fr1.of s3).trans Fr1.upd)) ⟨h0, by simp only [List.length_append, List.length_cons, List.length_nil]; omega, dx, h2, pa2, pvs ++ [.ref ha], by rw [upd_same] <;> rfl, ⟨h2, t, p, rfl, SqTm (msk_put h0) v3, ht.mono m4, hp.mono m4⟩, SqTm m3 v2, ?_⟩
  exact Paired.app (pairedM (fun _ _ z => z.mono m4) hps) (.cons (hst.mono m4) .nil)
theorem met_Sheet_go_on (T : Txt K mg) : Met P w K mg base 1 (ga K "Sheet") "go_on" (sp_Sheet_go_on K) [] := by
  obtain ⟨fd, F⟩ := T.d_Sheet_go_on
  exact mkMet T.c_Sheet T.m_Sheet_go_on F (bi_Sheet_go_on F) sc_Sheet_go_on (fun vs H Q E h => len_Sheet_go_on h) (body_Sheet_go_on T)
end
end Lt
set_option Elab.async false
set_option linter.all false
set_option maxRecDepth 100000
set_option maxHeartbeats 8000000
/-! sheets: pieces put in, taken out, changed; runs; taken back -/
namespace Lt
open PySem PySem.Spec PyProof.Rows L2
open C8 (Cal Met Mak pe_c pe_mk pe_mt pe_mt0 pe_gc)
theorem cutV_nat {xs : List V} {i j : Nat} : cutV xs (some (i : Int)) (some (j : Int)) = (xs.drop (min i xs.length)).take (min j xs.length - min i xs.length) := by
  unfold cutV
  rw [HT.sIx_nat, HT.sIx_nat]
theorem cutV_to {xs : List V} {j : Nat} (h : j ≤ xs.length) : cutV xs none (some (j : Int)) = xs.take j := by
  unfold cutV
  rw [HT.sIx_none, HT.sIx_nat, Nat.min_eq_left h, List.drop_zero, Nat.sub_zero]
theorem cutV_from {xs : List V} {i : Nat} (h : i ≤ xs.length) : cutV xs (some (i : Int)) none = xs.drop i := by
  unfold cutV
  rw [HT.sIx_none, HT.sIx_nat, Nat.min_eq_left h]
  exact List.take_of_length_le (by rw [List.length_drop]; omega)
section
variable {K : Fg} {H : Hp} {Q : VK} {a : Addr} {xs : List V} {lo hi : Option Int}
/-- a slice of a tuple: it itself or a new one -/
theorem slA (hx : SqT K H a xs) (k : ∀ p H', Same H H' → SqT K H' p (cutV xs lo hi) → (∀ S, Ow S H → SqT K (msk S H) a xs → SqT K (msk S H') p (cutV xs lo hi)) → Q (.ref p) H') : rSlA K (.ref a) lo hi H Q := by
  refine ⟨a, xs, rfl, hx, fun z => ?_, fun z p np => ?_⟩
  · have e : cutV xs lo hi = xs := by
      unfold cutV
      rw [z.1, z.2, List.drop_zero, Nat.sub_zero, List.take_length]
    refine k a H (Same.refl _) (by rw [e]; exact hx) fun S _ h => by rw [e]; exact h
  · exact k p _ (same_new np) (SqT.of upd_same) fun S w _ => SqT.new w np
end
section
variable {P : Program} {w : World} {K : Fg} {mg : Str → Option Value} {base : Heap}
def sp_Sheet_need_spot (K : Fg) : Sp := fun vs H Q _ => ∃ (sa : Addr) (i n : Int), vs = [.ref sa, .int i, .int n] ∧ 0 ≤ i ∧ i ≤ n ∧ Q .non H
theorem len_Sheet_need_spot {vs H Q E} (h : sp_Sheet_need_spot K vs H Q E) : vs.length = 3 := by
  obtain ⟨_, _, _, rfl, _⟩ := h
  rfl
theorem sc_Sheet_need_spot : FnScope ["self", "at", "most"] ["self", "at", "most"] (defScope d_Sheet_need_spot.st) := ⟨rfl, rfl, rfl, by decide +kernel, rfl, by decide +kernel, by decide +kernel⟩
theorem bi_Sheet_need_spot {K : Fg} {fd : FuncData} (F : FnD K d_Sheet_need_spot fd) : Binds K fd ["self", "at", "most"] [] := FunD.bindsN F fun _ _ _ _ _ _ us hl => match us, hl with | [_, _, _], _ => rfl
theorem body_Sheet_need_spot (T : Txt K mg) : BodyOk P w K mg base 1 ["self", "at", "most"] d_Sheet_need_spot (sp_Sheet_need_spot K) := by
  intro cdv A outer s H vs Q E hr h
  obtain ⟨sa, i, n, rfl, h0, h1, k⟩ := h
  have nd := sc_Sheet_need_spot.nd
  refine ⟨_, (pss_one (ps_if (PW.pt (pw_or (pt_not (pt_val (pe_c (cal_is_integer T) hr (by decide) (by rfl) (pa_cons (pv 1) pa_nil)))) (pw_or1 (pt_not (pt_chain op_le op_le pe_int (pv 1) (pv 2)))))) (pss_one ps_never) pss_nil)), ?_⟩
  have b0 : decide ((0 : Int) ≤ i) = true := decide_eq_true h0
  have b1 : decide (i ≤ n) = true := decide_eq_true h1
  refine ⟨_, rfl, i, rfl, _, rfl, iteF ⟨_, rfl, 0, i, rfl, rfl, _, rfl, ?_⟩⟩
  rw [b0]
  refine iteT ⟨_, rfl, i, n, rfl, rfl, _, rfl, ?_⟩
  rw [b1]
  exact iteF k
theorem met_Sheet_need_spot (T : Txt K mg) : Met P w K mg base 2 (ga K "Sheet") "need_spot" (sp_Sheet_need_spot K) [] := by
  obtain ⟨fd, F⟩ := T.d_Sheet_need_spot
  exact mkMet T.c_Sheet T.m_Sheet_need_spot F (bi_Sheet_need_spot F) sc_Sheet_need_spot (fun vs H Q E h => len_Sheet_need_spot h) (body_Sheet_need_spot T)
def sp_Sheet_with_pieces (K : Fg) : Sp := fun vs H Q _ => ∃ (sa l : Addr) (i n : Nat) (S : Sg) (wd : Int) (tl : TlD) (ps ns : List PcD) (us : List V) (past : List (List PcD)), vs = [.ref sa, .int i, .int n, .ref l] ∧ Ow S H ∧ ShAt K S H sa wd tl ps past ∧ SqL K (msk S H) l us ∧ PcAll K (msk S H) us ns ∧
  i + n ≤ ps.length ∧ (ps.take i ++ (ns ++ ps.drop (i + n))).length ≤ 40 ∧ past.length ≤ 59 ∧ ∀ H', Fr1 sa H H' → ShAt K S H' sa wd tl (ps.take i ++ (ns ++ ps.drop (i + n))) (past ++ [ps]) → Q .non H'
theorem len_Sheet_with_pieces {vs H Q E} (h : sp_Sheet_with_pieces K vs H Q E) : vs.length = 4 := by
  obtain ⟨_, _, _, _, _, _, _, _, _, _, _, rfl, _⟩ := h
  rfl
theorem sc_Sheet_with_pieces : FnScope ["self", "at", "width", "pieces", "some"] ["self", "at", "width", "pieces"] (defScope d_Sheet_with_pieces.st) := ⟨rfl, rfl, rfl, by decide +kernel, rfl, by decide +kernel, by decide +kernel⟩
theorem bi_Sheet_with_pieces {K : Fg} {fd : FuncData} (F : FnD K d_Sheet_with_pieces fd) : Binds K fd ["self", "at", "width", "pieces"] [] := FunD.bindsN F fun _ _ _ _ _ _ us hl => match us, hl with | [_, _, _, _], _ => rfl
theorem body_Sheet_with_pieces (T : Txt K mg) : BodyOk P w K mg base 3 ["self", "at", "width", "pieces", "some"] d_Sheet_with_pieces (sp_Sheet_with_pieces K) := by
  intro cdv A outer s H vs Q E hr h
  obtain ⟨sa, l, i, n, S, wd, tl, ps, ns, us, past, rfl, w0, hsh, hl, hus, hin, h40, h59, k⟩ := h
  have nd := sc_Sheet_with_pieces.nd
  refine ⟨_, (pss_cons (ps_set (i := 4) nd rfl (Or.inl rfl) (pe_fld (pe_pr (prp_Sheet_program T) hr (by decide) (pv 0)) rfl))
      (pss_one (ps_expr (pe_mt (met_Sheet_go_on T) hr (by decide) (pv 0) (pa_cons (pe_pr (prp_Sheet_tool T) hr (by decide) (pv 0)) (pa_cons (pe_mk (mak_Program T) hr (by decide) (by rfl) (pa_cons (pe_lst (StX.pa_star (pe_slice sl_tupA (pv 4) po_none (po_some (pv 1))) (StX.pa_star (pv 3) (StX.pa_star (pe_slice sl_tupA (pv 4) (po_some (pe_op op_add (pv 1) (pv 2))) po_none) pa_nil)))) pa_nil)) pa_nil)))))), ?_⟩
  obtain ⟨dx, _, _, _, e, _⟩ := hsh.ex
  refine ⟨_, rfl, sa, dx, _, rfl, e, sa, S, wd, tl, ps, past, rfl, hsh, fun p hp => ?_⟩
  obtain ⟨_, dp, pa, vs, z, e0, ep, hpa, hvs, _⟩ := id hp
  cases e0
  have lv : vs.length = ps.length := Paired.lenE hvs
  refine ⟨p, _, dp, _, _, rfl, msk_le _ _ ep, T.c_Program, T.n_Program_pieces, rfl, ?_⟩
  refine ⟨_, rfl, sa, dx, _, rfl, e, rfl, _, rfl, sa, dx, _, rfl, e, sa, S, wd, tl, ps, past, rfl, hsh, fun t ht => ?_⟩
  -- the new list
  refine ⟨_, rfl, _, rfl, _, rfl, ?_⟩
  show rSlA _ _ _ _ _ _
  refine slA (SqT.m hpa) fun q1 H1 s1 hq1 _ => ?_
  refine ⟨q1, _, rfl, .inl hq1, ?_⟩
  refine ⟨_, rfl, l, us, rfl, .inr (SqLm (msk_le.trans s1) hl), ?_⟩
  refine ⟨_, rfl, _, rfl, _, rfl, (i : Int), (n : Int), rfl, rfl, _, rfl, ?_⟩
  dsimp only [tNoPart]
  refine slA (SqTm s1 (SqT.m hpa)) fun q2 H2 s2 hq2 _ => ?_
  refine ⟨q2, _, rfl, .inl hq2, ?_⟩
  have ej : ((i : Int) + (n : Int)) = ((i + n : Nat) : Int) := by omega
  have e1 : cutV vs none (some (i : Int)) = vs.take i := cutV_to (by omega)
  have e2 : cutV vs (some ((i : Int) + (n : Int))) none = vs.drop (i + n) := by rw [ej, cutV_from (by omega)]
  have ln : us.length = ns.length := Paired.lenE hus
  simp only [List.length_append, List.length_take, List.length_drop] at h40
  refine ⟨sz (by rw [e1, e2]; simp only [List.length_append, List.length_take, List.length_drop, List.length_nil]; omega), fun g ng => ?_⟩
  have s3 := (s1.trans s2).grow (o := .lst (cutV vs none (some (i : Int)) ++ (us ++ (cutV vs (some ((i : Int) + (n : Int))) none ++ [])))) ng
  have v3 : (upd H2 g (.lst (cutV vs none (some (i : Int)) ++ (us ++ (cutV vs (some ((i : Int) + (n : Int))) none ++ []))))) g = some (.lst (vs.take i ++ (us ++ vs.drop (i + n)))) := by rw [upd_same, e1, e2, List.append_nil]
  generalize upd H2 g (.lst (cutV vs none (some (i : Int)) ++ (us ++ (cutV vs (some ((i : Int) + (n : Int))) none ++ [])))) = H3 at s3 v3
  have m3 := msk_same (S := S) s3
  have pn : PcAll K (msk S H3) (vs.take i ++ (us ++ vs.drop (i + n))) (ps.take i ++ (ns ++ ps.drop (i + n))) := PcAll.mono m3 (Paired.app (Paired.tk i hvs) (Paired.app hus (Paired.dr (i + n) hvs)))
  intro x dxn nx ndx hne
  exact make_pgS (w0.same s3) nx ndx hne (SqL.of v3) pn (by simp only [List.length_append, List.length_take, List.length_drop]; exact h40) rfl fun H4 s4 h4 => ⟨sa, t, x, S, wd, tl, ps, _, past, rfl, w0.same (s3.trans s4), hsh.same (s3.trans s4), ht.mono (msk_same (s3.trans s4)), h4, h59, fun H5 f5 h5 => k H5 ((Fr1.of (s3.trans s4)).trans f5) h5⟩
theorem met_Sheet_with_pieces (T : Txt K mg) : Met P w K mg base 4 (ga K "Sheet") "with_pieces" (sp_Sheet_with_pieces K) [] := by
  obtain ⟨fd, F⟩ := T.d_Sheet_with_pieces
  exact mkMet T.c_Sheet T.m_Sheet_with_pieces F (bi_Sheet_with_pieces F) sc_Sheet_with_pieces (fun vs H Q E h => len_Sheet_with_pieces h) (body_Sheet_with_pieces T)
end
end Lt
set_option Elab.async false
set_option linter.all false
set_option maxRecDepth 100000
set_option maxHeartbeats 8000000
/-! sheets: put, take, change -/
namespace Lt
open PySem PySem.Spec PyProof.Rows L2
open C8 (Cal Met Mak pe_c pe_mk pe_mt pe_mt0 pe_gc)
theorem cutV_init {xs : List V} {v : V} : cutV (xs ++ [v]) none (some (-1)) = xs := by
  unfold cutV
  have e : HT.sIx (xs ++ [v]).length (xs ++ [v]).length (some (-1)) = xs.length := by
    show (if (-1 : Int) < 0 then (-1 + (((xs ++ [v]).length : Nat) : Int)).toNat else min (-1 : Int).toNat (xs ++ [v]).length) = _
    rw [if_pos (by omega)]
    simp only [List.length_append, List.length_cons, List.length_nil]
    omega
  rw [e, HT.sIx_none, List.drop_zero, Nat.sub_zero, List.take_left]
section
variable {P : Program} {w : World} {K : Fg} {mg : Str → Option Value} {base : Heap}
def sp_Sheet_put (K : Fg) : Sp := fun vs H Q _ => ∃ (sa a : Addr) (i : Nat) (S : Sg) (wd : Int) (tl : TlD) (ps : List PcD) (d : PcD) (past : List (List PcD)), vs = [.ref sa, .int i, .ref a] ∧ Ow S H ∧ ShAt K S H sa wd tl ps past ∧ PcAt K (msk S H) (.ref a) d ∧
  i ≤ ps.length ∧ ps.length ≤ 39 ∧ past.length ≤ 59 ∧ ∀ H', Fr1 sa H H' → ShAt K S H' sa wd tl (ps.take i ++ (d :: ps.drop i)) (past ++ [ps]) → Q .non H'
theorem len_Sheet_put {vs H Q E} (h : sp_Sheet_put K vs H Q E) : vs.length = 3 := by
  obtain ⟨_, _, _, _, _, _, _, _, _, rfl, _⟩ := h
  rfl
theorem sc_Sheet_put : FnScope ["self", "at", "piece"] ["self", "at", "piece"] (defScope d_Sheet_put.st) := ⟨rfl, rfl, rfl, by decide +kernel, rfl, by decide +kernel, by decide +kernel⟩
theorem bi_Sheet_put {K : Fg} {fd : FuncData} (F : FnD K d_Sheet_put fd) : Binds K fd ["self", "at", "piece"] [] := FunD.bindsN F fun _ _ _ _ _ _ us hl => match us, hl with | [_, _, _], _ => rfl
theorem body_Sheet_put (T : Txt K mg) : BodyOk P w K mg base 4 ["self", "at", "piece"] d_Sheet_put (sp_Sheet_put K) := by
  intro cdv A outer s H vs Q E hr h
  obtain ⟨sa, a, i, S, wd, tl, ps, d, past, rfl, w0, hsh, hd, hi, h40, h59, k⟩ := h
  have nd := sc_Sheet_put.nd
  refine ⟨_, (pss_cons (ps_expr (pe_mt (met_Sheet_need_spot T) hr (by decide) (pv 0) (pa_cons (pv 1) (pa_cons (pe_callB (call_lenM (met_Program_len T) hr (by decide)) (by rfl) T.b_len PySem.boot_len (pa_cons (pe_pr (prp_Sheet_program T) hr (by decide) (pv 0)) pa_nil)) pa_nil))))
      (pss_cons (ps_expr (pe_c (cal_need_piece T) hr (by decide) (by rfl) (pa_cons (pv 2) pa_nil)))
      (pss_one (ps_expr (pe_mt (met_Sheet_with_pieces T) hr (by decide) (pv 0) (pa_cons (pv 1) (pa_cons pe_int (pa_cons (pe_lst (pa_cons (pv 2) pa_nil)) pa_nil)))))))), ?_⟩
  obtain ⟨dx, _, _, _, e, _⟩ := hsh.ex
  refine ⟨_, rfl, sa, dx, _, rfl, e, rfl, _, rfl, ?_⟩
  refine ⟨_, rfl, sa, dx, _, rfl, e, sa, S, wd, tl, ps, past, rfl, hsh, fun p hp => ?_⟩
  obtain ⟨_, dp, _, _, _, e0, ep, _⟩ := id hp
  cases e0
  refine ⟨p, dp, _, rfl, msk_le _ _ ep, p, ps, rfl, hp.mono msk_le, ps.length, rfl, by omega, ?_⟩
  refine ⟨sa, i, ps.length, rfl, by omega, by omega, ?_⟩
  refine ⟨_, rfl, a, d, rfl, hd.mono msk_le, ?_⟩
  refine ⟨_, rfl, sa, dx, _, rfl, e, rfl, _, rfl, _, rfl, sz (by simp), fun l nl => ?_⟩
  have s1 : Same H (upd H l (.lst [.ref a])) := same_new nl
  have v1 : msk S (upd H l (.lst [.ref a])) l = some (.lst [.ref a]) := msk_new w0 nl
  generalize upd H l (.lst [.ref a]) = H1 at s1 v1
  refine ⟨sa, l, i, 0, S, wd, tl, ps, [d], [.ref a], past, rfl, w0.same s1, hsh.same s1, SqL.of v1, .cons (hd.mono (msk_same s1)) .nil, by omega, ?_, h59, fun H2 f2 h2 => k H2 ((Fr1.of s1).trans f2) h2⟩
  simp only [List.length_append, List.length_take, List.length_drop, List.length_cons, List.length_nil]
  omega
theorem met_Sheet_put (T : Txt K mg) : Met P w K mg base 5 (ga K "Sheet") "put" (sp_Sheet_put K) [] := by
  obtain ⟨fd, F⟩ := T.d_Sheet_put
  exact mkMet T.c_Sheet T.m_Sheet_put F (bi_Sheet_put F) sc_Sheet_put (fun vs H Q E h => len_Sheet_put h) (body_Sheet_put T)
def sp_Sheet_change (K : Fg) : Sp := fun vs H Q _ => ∃ (sa a : Addr) (i : Nat) (S : Sg) (wd : Int) (tl : TlD) (ps : List PcD) (d : PcD) (past : List (List PcD)), vs = [.ref sa, .int i, .ref a] ∧ Ow S H ∧ ShAt K S H sa wd tl ps past ∧ PcAt K (msk S H) (.ref a) d ∧
  i < ps.length ∧ ps.length ≤ 40 ∧ past.length ≤ 59 ∧ ∀ H', Fr1 sa H H' → ShAt K S H' sa wd tl (ps.take i ++ (d :: ps.drop (i + 1))) (past ++ [ps]) → Q .non H'
theorem len_Sheet_change {vs H Q E} (h : sp_Sheet_change K vs H Q E) : vs.length = 3 := by
  obtain ⟨_, _, _, _, _, _, _, _, _, rfl, _⟩ := h
  rfl
theorem sc_Sheet_change : FnScope ["self", "at", "piece"] ["self", "at", "piece"] (defScope d_Sheet_change.st) := ⟨rfl, rfl, rfl, by decide +kernel, rfl, by decide +kernel, by decide +kernel⟩
theorem bi_Sheet_change {K : Fg} {fd : FuncData} (F : FnD K d_Sheet_change fd) : Binds K fd ["self", "at", "piece"] [] := FunD.bindsN F fun _ _ _ _ _ _ us hl => match us, hl with | [_, _, _], _ => rfl
theorem body_Sheet_change (T : Txt K mg) : BodyOk P w K mg base 4 ["self", "at", "piece"] d_Sheet_change (sp_Sheet_change K) := by
  intro cdv A outer s H vs Q E hr h
  obtain ⟨sa, a, i, S, wd, tl, ps, d, past, rfl, w0, hsh, hd, hi, h40, h59, k⟩ := h
  have nd := sc_Sheet_change.nd
  refine ⟨_, (pss_cons (ps_expr (pe_mt (met_Sheet_need_spot T) hr (by decide) (pv 0) (pa_cons (pv 1) (pa_cons (pe_op op_sub (pe_callB (call_lenM (met_Program_len T) hr (by decide)) (by rfl) T.b_len PySem.boot_len (pa_cons (pe_pr (prp_Sheet_program T) hr (by decide) (pv 0)) pa_nil)) pe_int) pa_nil))))
      (pss_cons (ps_expr (pe_c (cal_need_piece T) hr (by decide) (by rfl) (pa_cons (pv 2) pa_nil)))
      (pss_one (ps_expr (pe_mt (met_Sheet_with_pieces T) hr (by decide) (pv 0) (pa_cons (pv 1) (pa_cons pe_int (pa_cons (pe_lst (pa_cons (pv 2) pa_nil)) pa_nil)))))))), ?_⟩
  obtain ⟨dx, _, _, _, e, _⟩ := hsh.ex
  refine ⟨_, rfl, sa, dx, _, rfl, e, rfl, _, rfl, ?_⟩
  refine ⟨_, rfl, sa, dx, _, rfl, e, sa, S, wd, tl, ps, past, rfl, hsh, fun p hp => ?_⟩
  obtain ⟨_, dp, _, _, _, e0, ep, _⟩ := id hp
  cases e0
  refine ⟨p, dp, _, rfl, msk_le _ _ ep, p, ps, rfl, hp.mono msk_le, ps.length, rfl, by omega, ?_⟩
  refine ⟨(ps.length : Int), 1, rfl, rfl, ?_⟩
  refine ⟨sa, i, _, rfl, by omega, by omega, ?_⟩
  refine ⟨_, rfl, a, d, rfl, hd.mono msk_le, ?_⟩
  refine ⟨_, rfl, sa, dx, _, rfl, e, rfl, _, rfl, _, rfl, sz (by simp), fun l nl => ?_⟩
  have s1 : Same H (upd H l (.lst [.ref a])) := same_new nl
  have v1 : msk S (upd H l (.lst [.ref a])) l = some (.lst [.ref a]) := msk_new w0 nl
  generalize upd H l (.lst [.ref a]) = H1 at s1 v1
  refine ⟨sa, l, i, 1, S, wd, tl, ps, [d], [.ref a], past, rfl, w0.same s1, hsh.same s1, SqL.of v1, .cons (hd.mono (msk_same s1)) .nil, by omega, ?_, h59, fun H2 f2 h2 => k H2 ((Fr1.of s1).trans f2) h2⟩
  simp only [List.length_append, List.length_take, List.length_drop, List.length_cons, List.length_nil]
  omega
theorem met_Sheet_change (T : Txt K mg) : Met P w K mg base 5 (ga K "Sheet") "change" (sp_Sheet_change K) [] := by
  obtain ⟨fd, F⟩ := T.d_Sheet_change
  exact mkMet T.c_Sheet T.m_Sheet_change F (bi_Sheet_change F) sc_Sheet_change (fun vs H Q E h => len_Sheet_change h) (body_Sheet_change T)
def sp_Sheet_take (K : Fg) : Sp := fun vs H Q _ => ∃ (sa : Addr) (i : Nat) (S : Sg) (wd : Int) (tl : TlD) (ps : List PcD) (d : PcD) (past : List (List PcD)), vs = [.ref sa, .int i] ∧ Ow S H ∧ ShAt K S H sa wd tl ps past ∧
  ps[i]? = some d ∧ ps.length ≤ 40 ∧ past.length ≤ 59 ∧ ∀ a H', Fr1 sa H H' → PcAt K (msk S H') (.ref a) d → ShAt K S H' sa wd tl (ps.take i ++ ps.drop (i + 1)) (past ++ [ps]) → Q (.ref a) H'
theorem len_Sheet_take {vs H Q E} (h : sp_Sheet_take K vs H Q E) : vs.length = 2 := by
  obtain ⟨_, _, _, _, _, _, _, _, rfl, _⟩ := h
  rfl
theorem sc_Sheet_take : FnScope ["self", "at", "found"] ["self", "at"] (defScope d_Sheet_take.st) := ⟨rfl, rfl, rfl, by decide +kernel, rfl, by decide +kernel, by decide +kernel⟩
theorem bi_Sheet_take {K : Fg} {fd : FuncData} (F : FnD K d_Sheet_take fd) : Binds K fd ["self", "at"] [] := FunD.bindsN F fun _ _ _ _ _ _ us hl => match us, hl with | [_, _], _ => rfl
theorem body_Sheet_take (T : Txt K mg) : BodyOk P w K mg base 4 ["self", "at", "found"] d_Sheet_take (sp_Sheet_take K) := by
  intro cdv A outer s H vs Q E hr h
  obtain ⟨sa, i, S, wd, tl, ps, d, past, rfl, w0, hsh, hd, h40, h59, k⟩ := h
  have nd := sc_Sheet_take.nd
  refine ⟨_, (pss_cons (ps_expr (pe_mt (met_Sheet_need_spot T) hr (by decide) (pv 0) (pa_cons (pv 1) (pa_cons (pe_op op_sub (pe_callB (call_lenM (met_Program_len T) hr (by decide)) (by rfl) T.b_len PySem.boot_len (pa_cons (pe_pr (prp_Sheet_program T) hr (by decide) (pv 0)) pa_nil)) pe_int) pa_nil))))
      (pss_cons (ps_set (i := 2) nd rfl (Or.inl rfl) (pe_ix ix_tup (pe_fld (pe_pr (prp_Sheet_program T) hr (by decide) (pv 0)) rfl) (pv 1) (fun _ _ => rfl)))
      (pss_cons (ps_expr (pe_mt (met_Sheet_with_pieces T) hr (by decide) (pv 0) (pa_cons (pv 1) (pa_cons pe_int (pa_cons (pe_lst pa_nil) pa_nil)))))
      (pss_one (ps_ret (pv 2)))))), ?_⟩
  obtain ⟨dx, _, _, _, e, _⟩ := hsh.ex
  have hi : i < ps.length := (List.getElem?_eq_some_iff.mp hd).1
  refine ⟨_, rfl, sa, dx, _, rfl, e, rfl, _, rfl, ?_⟩
  refine ⟨_, rfl, sa, dx, _, rfl, e, sa, S, wd, tl, ps, past, rfl, hsh, fun p hp => ?_⟩
  obtain ⟨_, dp, _, _, _, e0, ep, _⟩ := id hp
  cases e0
  refine ⟨p, dp, _, rfl, msk_le _ _ ep, p, ps, rfl, hp.mono msk_le, ps.length, rfl, by omega, ?_⟩
  refine ⟨(ps.length : Int), 1, rfl, rfl, ?_⟩
  refine ⟨sa, i, _, rfl, by omega, by omega, ?_⟩
  refine ⟨_, rfl, sa, dx, _, rfl, e, sa, S, wd, tl, ps, past, rfl, hsh, fun p hp => ?_⟩
  obtain ⟨_, dp, pa, vs, z, e0, ep, hpa, hvs, _⟩ := id hp
  cases e0
  obtain ⟨x, hx, hxd⟩ := Paired.get1 hvs hd
  obtain ⟨a, da, ba, za, e1, ea, ra⟩ := id hxd
  subst e1
  refine ⟨p, _, dp, _, _, rfl, msk_le _ _ ep, T.c_Program, T.n_Program_pieces, rfl, _, rfl, pa, vs, i, .ref a, rfl, rfl, SqT.m hpa, ?_, ?_⟩
  · exact atI_nat hx
  refine ⟨_, rfl, sa, dx, _, rfl, e, rfl, _, rfl, sz (by simp), fun l nl => ?_⟩
  have s1 : Same H (upd H l (.lst [])) := same_new nl
  have v1 : msk S (upd H l (.lst [])) l = some (.lst []) := msk_new w0 nl
  generalize upd H l (.lst []) = H1 at s1 v1
  have e1 : (ps.take i ++ ([] ++ ps.drop (i + 1))).length ≤ 40 := by
    simp only [List.length_append, List.length_take, List.length_drop, List.length_nil]
    omega
  refine ⟨sa, l, i, 1, S, wd, tl, ps, [], [], past, rfl, w0.same s1, hsh.same s1, SqL.of v1, .nil, by omega, e1, h59, fun H2 f2 h2 => ⟨_, rfl, k a H2 ((Fr1.of s1).trans f2) (hxd.mono ((msk_same s1).trans (f2.msk hsh.own))) h2⟩⟩
theorem met_Sheet_take (T : Txt K mg) : Met P w K mg base 5 (ga K "Sheet") "take" (sp_Sheet_take K) [] := by
  obtain ⟨fd, F⟩ := T.d_Sheet_take
  exact mkMet T.c_Sheet T.m_Sheet_take F (bi_Sheet_take F) sc_Sheet_take (fun vs H Q E h => len_Sheet_take h) (body_Sheet_take T)
def sp_Sheet_run (K : Fg) : Sp := fun vs H Q _ => ∃ (sa : Addr) (S : Sg) (wd : Int) (tl : TlD) (ps : List PcD) (past : List (List PcD)), vs = [.ref sa] ∧ Ow S H ∧ ShAt K S H sa wd tl ps past ∧ past.length ≤ 59 ∧
  ∀ H', Fr1 sa H H' → ShAt K S H' sa wd tl (runD tl wd ps) (past ++ [ps]) → Q (.bl (!decide (runD tl wd ps = ps))) H'
theorem len_Sheet_run {vs H Q E} (h : sp_Sheet_run K vs H Q E) : vs.length = 1 := by
  obtain ⟨_, _, _, _, _, _, rfl, _⟩ := h
  rfl
theorem sc_Sheet_run : FnScope ["self", "before"] ["self"] (defScope d_Sheet_run.st) := ⟨rfl, rfl, rfl, by decide +kernel, rfl, by decide +kernel, by decide +kernel⟩
theorem bi_Sheet_run {K : Fg} {fd : FuncData} (F : FnD K d_Sheet_run fd) : Binds K fd ["self"] [] := FunD.bindsN F fun _ _ _ _ _ _ us hl => match us, hl with | [_], _ => rfl
theorem body_Sheet_run (T : Txt K mg) : BodyOk P w K mg base 13 ["self", "before"] d_Sheet_run (sp_Sheet_run K) := by
  intro cdv A outer s H vs Q E hr h
  obtain ⟨sa, S, wd, tl, ps, past, rfl, w0, hsh, h59, k⟩ := h
  have nd := sc_Sheet_run.nd
  refine ⟨_, (pss_cons (ps_set (i := 1) nd rfl (Or.inl rfl) (pe_pr (prp_Sheet_program T) hr (by decide) (pv 0)))
      (pss_cons (ps_expr (pe_mt (met_Sheet_go_on T) hr (by decide) (pv 0) (pa_cons (pe_pr (prp_Sheet_tool T) hr (by decide) (pv 0)) (pa_cons (pe_c (cal_run_running T) hr (by decide) (by rfl) (pa_cons (pe_pr (prp_Sheet_tool T) hr (by decide) (pv 0)) (pa_cons (pe_fld (pv 0) rfl) (pa_cons (pv 1) pa_nil)))) pa_nil))))
      (pss_one (ps_ret (pe_cmpR (op_neI (met_Program_eq T) T.ne_Program (objB_ob T.o_Program) hr (by decide)) (pe_pr (prp_Sheet_program T) hr (by decide) (pv 0)) (pv 1) (nomark _)))))), ?_⟩
  obtain ⟨dx, _, _, _, e, _⟩ := hsh.ex
  refine ⟨_, rfl, sa, dx, _, rfl, e, sa, S, wd, tl, ps, past, rfl, hsh, fun p hp => ?_⟩
  refine ⟨_, rfl, sa, dx, _, rfl, e, rfl, _, rfl, sa, dx, _, rfl, e, sa, S, wd, tl, ps, past, rfl, hsh, fun t ht => ?_⟩
  refine ⟨_, rfl, sa, dx, _, rfl, e, sa, S, wd, tl, ps, past, rfl, hsh, fun t2 ht2 => ?_⟩
  refine ⟨_, rfl, sa, _, dx, _, _, rfl, e, T.c_Sheet, T.n_Sheet_width, rfl, ?_⟩
  refine ⟨_, rfl, t2, wd, p, tl, ps, rfl, ht2.mono msk_le, hp.mono msk_le, fun q H1 s1 hq => ?_⟩
  have w1 := w0.same s1
  refine ⟨sa, t, q, S, wd, tl, ps, runD tl wd ps, past, rfl, w1, hsh.same s1, ht.mono (msk_same s1), w1.pg hq, h59, fun H2 f2 h2 => ?_⟩
  obtain ⟨dx2, _, _, _, e2, _⟩ := h2.ex
  refine ⟨_, rfl, sa, dx2, _, rfl, e2, sa, S, wd, tl, runD tl wd ps, past ++ [ps], rfl, h2, fun q2 hq2 => ?_⟩
  have hp2 : PgAt K (msk S H2) (.ref p) ps := hp.mono ((msk_same s1).trans (f2.msk hsh.own))
  obtain ⟨_, dp, _, _, _, e0, ep, _⟩ := id hp2
  cases e0
  obtain ⟨_, dq, _, _, _, e0, eq, _⟩ := id hq2
  cases e0
  exact ⟨_, rfl, q2, p, dq, _, dp, _, rfl, rfl, msk_le _ _ eq, msk_le _ _ ep, q2, p, runD tl wd ps, ps, rfl, hq2.mono msk_le, hp2.mono msk_le, runD_len _ _ _, fun H3 s3 => ⟨_, rfl, k H3 (((Fr1.of s1).trans f2).trans (.of s3)) (h2.same s3)⟩⟩
theorem met_Sheet_run (T : Txt K mg) : Met P w K mg base 14 (ga K "Sheet") "run" (sp_Sheet_run K) [] := by
  obtain ⟨fd, F⟩ := T.d_Sheet_run
  exact mkMet T.c_Sheet T.m_Sheet_run F (bi_Sheet_run F) sc_Sheet_run (fun vs H Q E h => len_Sheet_run h) (body_Sheet_run T)
def sp_Sheet_undo (K : Fg) : Sp := fun vs H Q _ => ∃ (sa : Addr) (S : Sg) (wd : Int) (tl : TlD) (ps : List PcD) (past : List (List PcD)), vs = [.ref sa] ∧ Ow S H ∧ ShAt K S H sa wd tl ps past ∧
  (past = [] → Q (.bl false) H) ∧ ∀ pre qs, past = pre ++ [qs] → ∀ H', Fr1 sa H H' → ShAt K S H' sa wd tl qs pre → Q (.bl true) H'
theorem len_Sheet_undo {vs H Q E} (h : sp_Sheet_undo K vs H Q E) : vs.length = 1 := by
  obtain ⟨_, _, _, _, _, _, rfl, _⟩ := h
  rfl
theorem sc_Sheet_undo : FnScope ["self"] ["self"] (defScope d_Sheet_undo.st) := ⟨rfl, rfl, rfl, by decide +kernel, rfl, by decide +kernel, by decide +kernel⟩
theorem bi_Sheet_undo {K : Fg} {fd : FuncData} (F : FnD K d_Sheet_undo fd) : Binds K fd ["self"] [] := FunD.bindsN F fun _ _ _ _ _ _ us hl => match us, hl with | [_], _ => rfl
theorem body_Sheet_undo (T : Txt K mg) : BodyOk P w K mg base 0 ["self"] d_Sheet_undo (sp_Sheet_undo K) := by
  intro cdv A outer s H vs Q E hr h
  obtain ⟨sa, S, wd, tl, ps, past, rfl, w0, hsh, k0, k1⟩ := h
  have nd := sc_Sheet_undo.nd
  refine ⟨_, (pss_cons (ps_if (pt_cmpR op_eq (pe_callB call_len_seq (by rfl) T.b_len PySem.boot_len (pa_cons (pe_fld (pv 0) rfl) pa_nil)) pe_int (nomark _)) (pss_one (ps_ret pe_bl)) pss_nil)
      (pss_cons (ps_fld (pv 0) (pe_ix ix_tup (pe_fld (pv 0) rfl) (pe_un un_neg pe_int) (fun _ _ => rfl)) rfl)
      (pss_cons (ps_fld (pv 0) (pe_slice sl_tupA (pe_fld (pv 0) rfl) po_none (po_some (pe_un un_neg pe_int))) rfl)
      (pss_one (ps_ret pe_bl))))), ?_⟩
  obtain ⟨h0, h1, dx, ha, pa, pvs, e, hst, hq, hps⟩ := id hsh
  have cl := T.c_Sheet
  have lp := Paired.lenE hps
  refine ⟨_, rfl, sa, _, dx, _, _, rfl, e, cl, T.n_Sheet_past, rfl, pa, pvs, rfl, .inr (SqT.m hq), ?_⟩
  refine ⟨rfl, _, rfl, ?_⟩
  have neg1 : ∀ (pre : List (List PcD)) (qs : List PcD), past = pre ++ [qs] → ∃ vpre vx, pvs = vpre ++ [vx] ∧ Paired (fun v qs => StAt K (msk S H) v tl qs) vpre pre ∧ StAt K (msk S H) vx tl qs := fun pre qs z => by
    rcases paired_last hps with ⟨_, z2⟩ | ⟨ini, x, jni, y, z1, z2, z3⟩
    · rw [z2] at z
      cases pre <;> cases z
    · rw [z2] at z
      obtain ⟨z4, z5⟩ := List.append_inj' z rfl
      cases z5
      subst z4
      subst z1
      subst z2
      have hl : ini.length = jni.length := by simpa using lp
      refine ⟨ini, x, rfl, ?_, z3⟩
      have := Paired.tk ini.length hps
      rw [List.take_left, hl, List.take_left] at this
      exact this
  rcases List.eq_nil_or_concat past with z | ⟨pre, qs, z⟩
  · have z9 : pvs = [] := List.length_eq_zero_iff.mp (by rw [lp, z]; rfl)
    subst z9
    exact iteT (k0 z)
  · rw [List.concat_eq_append] at z
    obtain ⟨vpre, vx, z1, z2, z3⟩ := neg1 pre qs z
    subst z1
    subst z
    have b0 : decide (V.int ((vpre ++ [vx]).length : Int) = V.int 0) = false := decide_eq_false fun z => by
      injection z with z
      simp only [List.length_append, List.length_cons, List.length_nil] at z
      omega
    rw [b0]
    refine iteF ?_
    refine ⟨_, rfl, sa, _, dx, _, _, rfl, e, cl, T.n_Sheet_past, rfl, 1, rfl, pa, vpre ++ [vx], -1, vx, rfl, rfl, SqT.m hq, atI_last vpre vx, ?_⟩
    obtain ⟨ha2, t2, p2, e2, hh2, ht2, hp2⟩ := id z3
    subst e2
    refine ⟨_, rfl, sa, _, dx, _, rfl, e, cl, T.n_Sheet_at_hand, lt1000 rfl, ?_⟩
    have m1 : Same (msk S H) (msk S (upd H sa (.ins (ga K "Sheet") dx (putF "at_hand" (.ref ha2) (shF wd ha pa))))) := msk_put h0
    have w1 : Ow S (upd H sa (.ins (ga K "Sheet") dx (putF "at_hand" (.ref ha2) (shF wd ha pa)))) := w0.upd rfl
    have e1 : (upd H sa (.ins (ga K "Sheet") dx (putF "at_hand" (.ref ha2) (shF wd ha pa)))) sa = some (.ins (ga K "Sheet") dx (shF wd ha2 pa)) := by rw [upd_same] <;> rfl
    have f1 : Fr1 sa H (upd H sa (.ins (ga K "Sheet") dx (putF "at_hand" (.ref ha2) (shF wd ha pa)))) := Fr1.upd
    generalize upd H sa (.ins (ga K "Sheet") dx (putF "at_hand" (.ref ha2) (shF wd ha pa))) = H1 at m1 w1 e1 f1
    refine ⟨_, rfl, sa, _, dx, _, _, rfl, e1, cl, T.n_Sheet_past, rfl, ?_⟩
    dsimp only [tNoPart]
    refine ⟨1, rfl, -1, rfl, ?_⟩
    refine slA (SqT.m (SqTm m1 hq)) fun pa2 H2 s2 _ hp3 => ?_
    have v2 := hp3 S w1 (SqTm m1 hq)
    rw [cutV_init] at v2
    refine ⟨_, rfl, sa, _, dx, _, rfl, s2 _ _ e1, cl, T.n_Sheet_past, lt1000 rfl, ?_⟩
    have m2 : Same (msk S H) (msk S (upd H2 sa (.ins (ga K "Sheet") dx (putF "past" (.ref pa2) (shF wd ha2 pa))))) := (m1.trans (msk_same s2)).trans (msk_put h0)
    have h1' : (pre ++ [qs]).length ≤ 60 := h1
    refine k1 pre qs rfl _ ((f1.trans (.of s2)).trans Fr1.upd) ⟨h0, by simp only [List.length_append, List.length_cons, List.length_nil] at h1'; omega, dx, ha2, pa2, vpre, by rw [upd_same] <;> rfl, z3.mono m2, SqTm (msk_put h0) v2, pairedM (fun _ _ z => z.mono m2) z2⟩
theorem met_Sheet_undo (T : Txt K mg) : Met P w K mg base 1 (ga K "Sheet") "undo" (sp_Sheet_undo K) [] := by
  obtain ⟨fd, F⟩ := T.d_Sheet_undo
  exact mkMet T.c_Sheet T.m_Sheet_undo F (bi_Sheet_undo F) sc_Sheet_undo (fun vs H Q E h => len_Sheet_undo h) (body_Sheet_undo T)
def trF (sa : Addr) (o p : V) : List (Str × V) := [("given", .ref sa), ("old_stand", o), ("old_past", p)]
def sp_Trial_init (K : Fg) : Sp := fun vs H Q _ => ∃ (x dx sa : Addr), vs = [.ref x, .ref sa] ∧ H x = some (.ins (ga K "Trial") dx []) ∧
  ∀ H' p, Fr1 x H H' → H' x = some (.ins (ga K "Trial") dx (trF sa .non (.ref p))) → Q .non H'
theorem len_Trial_init {vs H Q E} (h : sp_Trial_init K vs H Q E) : vs.length = 2 := by
  obtain ⟨_, _, _, rfl, _⟩ := h
  rfl
theorem sc_Trial_init : FnScope ["self", "sheet"] ["self", "sheet"] (defScope d_Trial_init.st) := ⟨rfl, rfl, rfl, by decide +kernel, rfl, by decide +kernel, by decide +kernel⟩
theorem bi_Trial_init {K : Fg} {fd : FuncData} (F : FnD K d_Trial_init fd) : Binds K fd ["self", "sheet"] [] := FunD.bindsN F fun _ _ _ _ _ _ us hl => match us, hl with | [_, _], _ => rfl
theorem body_Trial_init (T : Txt K mg) : BodyOk P w K mg base 0 ["self", "sheet"] d_Trial_init (sp_Trial_init K) := by
  intro cdv A outer s H vs Q E hr h
  obtain ⟨x, dx, sa, rfl, ex, k⟩ := h
  have nd := sc_Trial_init.nd
  refine ⟨_, (pss_cons (ps_fld (pv 0) (pv 1) rfl)
      (pss_cons (ps_fld (pv 0) pe_non rfl)
      (pss_one (ps_fld (pv 0) (pe_tup pa_nil) rfl)))), ?_⟩
  have cl := T.c_Trial
  refine ⟨_, rfl, _, rfl, x, _, dx, _, rfl, ex, cl, T.n_Trial_given, by simp, ?_⟩
  have hx1 : (upd H x (.ins (ga K "Trial") dx (putF "given" (.ref sa) []))) x = some (.ins (ga K "Trial") dx [("given", .ref sa)]) := by rw [upd_same] <;> rfl
  have f1 : Fr1 x H (upd H x (.ins (ga K "Trial") dx (putF "given" (.ref sa) []))) := Fr1.upd
  generalize upd H x (.ins (ga K "Trial") dx (putF "given" (.ref sa) [])) = H1 at hx1 f1
  refine ⟨_, rfl, x, _, dx, _, rfl, hx1, cl, T.n_Trial_old_stand, lt1000 rfl, ?_⟩
  have hx3 : (upd H1 x (.ins (ga K "Trial") dx (putF "old_stand" .non [("given", .ref sa)]))) x = some (.ins (ga K "Trial") dx [("given", .ref sa), ("old_stand", .non)]) := by rw [upd_same] <;> rfl
  have f3 : Fr1 x H1 (upd H1 x (.ins (ga K "Trial") dx (putF "old_stand" .non [("given", .ref sa)]))) := Fr1.upd
  generalize upd H1 x (.ins (ga K "Trial") dx (putF "old_stand" .non [("given", .ref sa)])) = H3 at hx3 f3
  refine ⟨sz (by simp), fun pa np => ?_⟩
  have s4 : Same H3 (upd H3 pa (.tup [])) := same_new np
  generalize upd H3 pa (.tup []) = H4 at s4
  refine ⟨_, rfl, x, _, dx, _, rfl, s4 _ _ hx3, cl, T.n_Trial_old_past, lt1000 rfl, ?_⟩
  exact k _ pa ((f1.trans f3).trans ((Fr1.of s4).trans Fr1.upd)) (by rw [upd_same] <;> rfl)
theorem mak_Trial (T : Txt K mg) : Mak P w K mg base 1 "Trial" (ga K "Trial") (sp_Trial_init K) [] := by
  obtain ⟨fd, F⟩ := T.d_Trial_init
  exact mkMak T.k_Trial T.g_Trial F (bi_Trial_init F) sc_Trial_init (fun vs H Q E h => len_Trial_init h) (body_Trial_init T)
def sp_Trial_enter (K : Fg) : Sp := fun vs H Q _ => ∃ (x dx sa ds ha pa : Addr) (wd : Int) (o p : V), vs = [.ref x] ∧ H x = some (.ins (ga K "Trial") dx (trF sa o p)) ∧ H sa = some (.ins (ga K "Sheet") ds (shF wd ha pa)) ∧
  ∀ H', Fr1 x H H' → H' x = some (.ins (ga K "Trial") dx (trF sa (.ref ha) (.ref pa))) → Q (.ref sa) H'
theorem len_Trial_enter {vs H Q E} (h : sp_Trial_enter K vs H Q E) : vs.length = 1 := by
  obtain ⟨_, _, _, _, _, _, _, _, _, rfl, _⟩ := h
  rfl
theorem sc_Trial_enter : FnScope ["self"] ["self"] (defScope d_Trial_enter.st) := ⟨rfl, rfl, rfl, by decide +kernel, rfl, by decide +kernel, by decide +kernel⟩
theorem bi_Trial_enter {K : Fg} {fd : FuncData} (F : FnD K d_Trial_enter fd) : Binds K fd ["self"] [] := FunD.bindsN F fun _ _ _ _ _ _ us hl => match us, hl with | [_], _ => rfl
theorem body_Trial_enter (T : Txt K mg) : BodyOk P w K mg base 1 ["self"] d_Trial_enter (sp_Trial_enter K) := by
  intro cdv A outer s H vs Q E hr h
  obtain ⟨x, dx, sa, ds, ha, pa, wd, o, p, rfl, ex, es, k⟩ := h
  have nd := sc_Trial_enter.nd
  refine ⟨_, (pss_cons (ps_fld (pv 0) (pe_mt0 (met_Sheet_stand T) hr (by decide) (pe_fld (pv 0) rfl)) rfl)
      (pss_cons (ps_fld (pv 0) (pe_fld (pe_fld (pv 0) rfl) rfl) rfl)
      (pss_one (ps_ret (pe_fld (pv 0) rfl))))), ?_⟩
  have cl := T.c_Trial
  have hne : x ≠ sa := fun z => by
    subst z
    rw [ex] at es
    injection es with es
    injection es with _ _ es
    injection es with es _
    injection es with es _
    exact absurd es (by decide)
  have cs := T.c_Sheet
  refine ⟨_, rfl, x, _, dx, _, _, rfl, ex, cl, T.n_Trial_given, rfl, sa, ds, _, rfl, es, rfl, sa, ds, ha, pa, wd, rfl, es, ?_⟩
  refine ⟨_, rfl, x, _, dx, _, rfl, ex, cl, T.n_Trial_old_stand, lt1000 rfl, ?_⟩
  have e1 : (upd H x (.ins (ga K "Trial") dx (putF "old_stand" (.ref ha) (trF sa o p)))) x = some (.ins (ga K "Trial") dx (trF sa (.ref ha) p)) := by rw [upd_same] <;> rfl
  have es1 : (upd H x (.ins (ga K "Trial") dx (putF "old_stand" (.ref ha) (trF sa o p)))) sa = some (.ins (ga K "Sheet") ds (shF wd ha pa)) := by rw [upd_ne (Ne.symm hne)]; exact es
  have f1 : Fr1 x H (upd H x (.ins (ga K "Trial") dx (putF "old_stand" (.ref ha) (trF sa o p)))) := Fr1.upd
  generalize upd H x (.ins (ga K "Trial") dx (putF "old_stand" (.ref ha) (trF sa o p))) = H1 at e1 es1 f1
  refine ⟨_, rfl, x, _, dx, _, _, rfl, e1, cl, T.n_Trial_given, rfl, sa, _, ds, _, _, rfl, es1, cs, T.n_Sheet_past, rfl, ?_⟩
  refine ⟨_, rfl, x, _, dx, _, rfl, e1, cl, T.n_Trial_old_past, lt1000 rfl, ?_⟩
  have e2 : (upd H1 x (.ins (ga K "Trial") dx (putF "old_past" (.ref pa) (trF sa (.ref ha) p)))) x = some (.ins (ga K "Trial") dx (trF sa (.ref ha) (.ref pa))) := by rw [upd_same] <;> rfl
  exact ⟨_, rfl, x, _, dx, _, _, rfl, e2, cl, T.n_Trial_given, rfl, k _ (f1.trans Fr1.upd) e2⟩
theorem met_Trial_enter (T : Txt K mg) : Met P w K mg base 2 (ga K "Trial") "__enter__" (sp_Trial_enter K) [] := by
  obtain ⟨fd, F⟩ := T.d_Trial_enter
  exact mkMet T.c_Trial T.m_Trial_enter F (bi_Trial_enter F) sc_Trial_enter (fun vs H Q E h => len_Trial_enter h) (body_Trial_enter T)
def sp_Trial_exit (K : Fg) : Sp := fun vs H Q _ => ∃ (x dx sa ds h2 p2 ha pa : Addr) (wd : Int) (u1 u2 u3 : V), vs = [.ref x, u1, u2, u3] ∧ H x = some (.ins (ga K "Trial") dx (trF sa (.ref ha) (.ref pa))) ∧ H sa = some (.ins (ga K "Sheet") ds (shF wd h2 p2)) ∧
  ∀ H', Fr1 sa H H' → H' sa = some (.ins (ga K "Sheet") ds (shF wd ha pa)) → Q (.bl false) H'
theorem len_Trial_exit {vs H Q E} (h : sp_Trial_exit K vs H Q E) : vs.length = 4 := by
  obtain ⟨_, _, _, _, _, _, _, _, _, _, _, _, rfl, _⟩ := h
  rfl
theorem sc_Trial_exit : FnScope ["self", "kind", "error", "trace"] ["self", "kind", "error", "trace"] (defScope d_Trial_exit.st) := ⟨rfl, rfl, rfl, by decide +kernel, rfl, by decide +kernel, by decide +kernel⟩
theorem bi_Trial_exit {K : Fg} {fd : FuncData} (F : FnD K d_Trial_exit fd) : Binds K fd ["self", "kind", "error", "trace"] [] := FunD.bindsN F fun _ _ _ _ _ _ us hl => match us, hl with | [_, _, _, _], _ => rfl
theorem body_Trial_exit (T : Txt K mg) : BodyOk P w K mg base 0 ["self", "kind", "error", "trace"] d_Trial_exit (sp_Trial_exit K) := by
  intro cdv A outer s H vs Q E hr h
  obtain ⟨x, dx, sa, ds, h2, p2, ha, pa, wd, u1, u2, u3, rfl, ex, es, k⟩ := h
  have nd := sc_Trial_exit.nd
  refine ⟨_, (pss_cons (ps_fld (pe_fld (pv 0) rfl) (pe_fld (pv 0) rfl) rfl)
      (pss_cons (ps_fld (pe_fld (pv 0) rfl) (pe_fld (pv 0) rfl) rfl)
      (pss_one (ps_ret pe_bl)))), ?_⟩
  have cl := T.c_Trial
  have hne : x ≠ sa := fun z => by
    subst z
    rw [ex] at es
    injection es with es
    injection es with _ _ es
    injection es with es _
    injection es with es _
    exact absurd es (by decide)
  have cs := T.c_Sheet
  refine ⟨_, rfl, x, _, dx, _, _, rfl, ex, cl, T.n_Trial_old_stand, rfl, ?_⟩
  refine ⟨_, rfl, x, _, dx, _, _, rfl, ex, cl, T.n_Trial_given, rfl, sa, _, ds, _, rfl, es, cs, T.n_Sheet_at_hand, lt1000 rfl, ?_⟩
  have e1 : (upd H sa (.ins (ga K "Sheet") ds (putF "at_hand" (.ref ha) (shF wd h2 p2)))) sa = some (.ins (ga K "Sheet") ds (shF wd ha p2)) := by rw [upd_same] <;> rfl
  have ex1 : (upd H sa (.ins (ga K "Sheet") ds (putF "at_hand" (.ref ha) (shF wd h2 p2)))) x = some (.ins (ga K "Trial") dx (trF sa (.ref ha) (.ref pa))) := by rw [upd_ne hne]; exact ex
  have f1 : Fr1 sa H (upd H sa (.ins (ga K "Sheet") ds (putF "at_hand" (.ref ha) (shF wd h2 p2)))) := Fr1.upd
  generalize upd H sa (.ins (ga K "Sheet") ds (putF "at_hand" (.ref ha) (shF wd h2 p2))) = H1 at e1 ex1 f1
  refine ⟨_, rfl, x, _, dx, _, _, rfl, ex1, cl, T.n_Trial_old_past, rfl, ?_⟩
  refine ⟨_, rfl, x, _, dx, _, _, rfl, ex1, cl, T.n_Trial_given, rfl, sa, _, ds, _, rfl, e1, cs, T.n_Sheet_past, lt1000 rfl, ?_⟩
  exact k _ (f1.trans Fr1.upd) (by rw [upd_same] <;> rfl)
theorem met_Trial_exit (T : Txt K mg) : Met P w K mg base 1 (ga K "Trial") "__exit__" (sp_Trial_exit K) [] := by
  obtain ⟨fd, F⟩ := T.d_Trial_exit
  exact mkMet T.c_Trial T.m_Trial_exit F (bi_Trial_exit F) sc_Trial_exit (fun vs H Q E h => len_Trial_exit h) (body_Trial_exit T)
def sp_Sheet_trial (K : Fg) : Sp := fun vs H Q _ => ∃ (sa : Addr), vs = [.ref sa] ∧
  ∀ x dx p H', Same H H' → H x = none → H' x = some (.ins (ga K "Trial") dx (trF sa .non (.ref p))) → Q (.ref x) H'
theorem len_Sheet_trial {vs H Q E} (h : sp_Sheet_trial K vs H Q E) : vs.length = 1 := by
  obtain ⟨_, rfl, _⟩ := h
  rfl
theorem sc_Sheet_trial : FnScope ["self"] ["self"] (defScope d_Sheet_trial.st) := ⟨rfl, rfl, rfl, by decide +kernel, rfl, by decide +kernel, by decide +kernel⟩
theorem bi_Sheet_trial {K : Fg} {fd : FuncData} (F : FnD K d_Sheet_trial fd) : Binds K fd ["self"] [] := FunD.bindsN F fun _ _ _ _ _ _ us hl => match us, hl with | [_], _ => rfl
theorem body_Sheet_trial (T : Txt K mg) : BodyOk P w K mg base 2 ["self"] d_Sheet_trial (sp_Sheet_trial K) := by
  intro cdv A outer s H vs Q E hr h
  obtain ⟨sa, rfl, k⟩ := h
  have nd := sc_Sheet_trial.nd
  refine ⟨_, (pss_one (ps_ret (pe_mk (mak_Trial T) hr (by decide) (by rfl) (pa_cons (pv 0) pa_nil)))), ?_⟩
  refine ⟨_, rfl, ?_⟩
  intro x dx nx ndx hne
  have nx2 : upd H dx (.own x) x = none := by rw [upd_ne (Ne.symm hne)]; exact nx
  have s1 : Same H (upd (upd H dx (.own x)) x (.ins (ga K "Trial") dx [])) := (same_new ndx).trans (same_new nx2)
  exact ⟨x, dx, sa, rfl, upd_same, fun H' p f e => ⟨rfl, k x dx p H' (fun b o h => f b o (ne_of_none h nx) (s1 b o h)) nx e⟩⟩
theorem met_Sheet_trial (T : Txt K mg) : Met P w K mg base 3 (ga K "Sheet") "trial" (sp_Sheet_trial K) [] := by
  obtain ⟨fd, F⟩ := T.d_Sheet_trial
  exact mkMet T.c_Sheet T.m_Sheet_trial F (bi_Sheet_trial F) sc_Sheet_trial (fun vs H Q E h => len_Sheet_trial h) (body_Sheet_trial T)
end
end Lt
set_option Elab.async false
set_option linter.all false
set_option maxRecDepth 100000
set_option maxHeartbeats 8000000
/-! the law's own pieces: bare, long, fences -/
namespace Lt
open PySem PySem.Spec PyProof.Rows L2
open C8 (Cal Met Mak pe_c pe_mk pe_mt pe_mt0 pe_gc)
/-- a piece as a tuple -/
def PtAt (K : Fg) (G : Hp) (v : V) (d : PcD) : Prop := ∃ a pa, v = .ref a ∧ SqT K G a (pcArgs d pa) ∧ SqT K G pa (d.parts.map V.str) ∧ d.ok
theorem PtAt.mono {K : Fg} {G G' : Hp} {v : V} {d : PcD} (e : Same G G') (h : PtAt K G v d) : PtAt K G' v d := by
  obtain ⟨a, pa, h1, h2, h3, h4⟩ := h
  exact ⟨a, pa, h1, SqTm e h2, SqTm e h3, h4⟩
theorem Ow.pt {K : Fg} {S : Sg} {H : Hp} {v : V} {d : PcD} (w : Ow S H) (h : PtAt K H v d) : PtAt K (msk S H) v d := by
  obtain ⟨a, pa, h1, h2, h3, h4⟩ := h
  exact ⟨a, pa, h1, w.tup h2, w.tup h3, h4⟩
def PtAll (K : Fg) (G : Hp) : List V → List PcD → Prop := Paired (PtAt K G)
theorem PtAll.mono {K : Fg} {G G' : Hp} {vs : List V} {ds : List PcD} (e : Same G G') (h : PtAll K G vs ds) : PtAll K G' vs ds := pairedM (fun _ _ z => z.mono e) h
theorem Ow.pts {K : Fg} {S : Sg} {H : Hp} {vs : List V} {ds : List PcD} (w : Ow S H) (h : PtAll K H vs ds) : PtAll K (msk S H) vs ds := pairedM (fun _ _ z => w.pt z) h
/-- how long a row of names is -/
theorem commaLen : ∀ ts : List Str, ts ≠ [] → (((Str.join ", " ts).length : Nat) : Int) = (ts.map fun p => (p.length : Int) + 2).sum - 2
  | [], h => absurd rfl h
  | [x], _ => by
    show ((x.length : Nat) : Int) = ((x.length : Int) + 2 + 0) - 2
    omega
  | x :: y :: r, _ => by
    have ih := commaLen (y :: r) (by simp)
    rw [PyProof.Rows.join_cons_cons, lenA, lenA, List.map_cons, List.sum_cons]
    have e2 : (", " : Str).length = 2 := by decide +kernel
    omega
theorem bareLen {d : PcD} (ok : d.ok) : (((d.word ++ "(" ++ Txt.join ", " d.parts ++ ")" : Str).length : Nat) : Int) + b2i d.left = bare d := by
  rw [lenA, lenA, lenA, TL.join_eq]
  have h := commaLen d.parts ok.ne
  have e1 : ("(" : Str).length = 1 := by decide +kernel
  have e2 : (")" : Str).length = 1 := by decide +kernel
  unfold bare
  omega
theorem bareMost {d : PcD} (ok : d.ok) : (d.word ++ "(" : Str).length + (Txt.join ", " d.parts).length ≤ 1000 ∧ (d.word ++ "(" ++ Txt.join ", " d.parts : Str).length ≤ 1000 ∧ (d.word ++ "(" ++ Txt.join ", " d.parts ++ ")" : Str).length ≤ 1001 ∧ (d.parts.map fun x => x.length).sum + d.parts.length * (", " : Str).length ≤ 1000 := by
  have h1 := join_le (sep := ", ") (ys := d.parts) (n := 6) fun y m => (ok.parts y m).2.1
  have h2 := ok.few
  have h3 := ok.word.2.1
  have h4 := sum_le (ys := d.parts) (n := 6) fun y m => (ok.parts y m).2.1
  have e1 : ("(" : Str).length = 1 := by decide +kernel
  have e2 : (")" : Str).length = 1 := by decide +kernel
  have e3 : (", " : Str).length = 2 := by decide +kernel
  rw [e3] at h1 ⊢
  simp only [lenA]
  omega
section
variable {d : PcD} {pa : Addr}
theorem pi0 : atI (pcArgs d pa) 0 = some (.str d.word) := atI_nat (j := 0) rfl
theorem pi1 : atI (pcArgs d pa) 1 = some (.ref pa) := atI_nat (j := 1) rfl
theorem pi2 : atI (pcArgs d pa) 2 = some (.bl d.broken) := atI_nat (j := 2) rfl
theorem pi3 : atI (pcArgs d pa) 3 = some (.bl d.marked) := atI_nat (j := 3) rfl
theorem pi4 : atI (pcArgs d pa) 4 = some (.str d.ahead) := atI_nat (j := 4) rfl
theorem pi5 : atI (pcArgs d pa) 5 = some (.str d.behind) := atI_nat (j := 5) rfl
theorem pi6 : atI (pcArgs d pa) 6 = some (.int d.blanks) := atI_nat (j := 6) rfl
theorem pi7 : atI (pcArgs d pa) 7 = some (.bl d.left) := atI_nat (j := 7) rfl
end
section
variable {P : Program} {w : World} {K : Fg} {mg : Str → Option Value} {base : Heap}
def sp_law_bare (K : Fg) : Sp := fun vs H Q _ => ∃ (v : V) (d : PcD), vs = [v] ∧ PtAt K H v d ∧ Q (.int (bare d)) H
theorem len_law_bare {vs H Q E} (h : sp_law_bare K vs H Q E) : vs.length = 1 := by
  obtain ⟨_, _, rfl, _⟩ := h
  rfl
theorem sc_law_bare : FnScope ["_law_piece_here"] ["_law_piece_here"] (defScope d_law_bare.st) := ⟨rfl, rfl, rfl, by decide +kernel, rfl, by decide +kernel, by decide +kernel⟩
theorem bi_law_bare {K : Fg} {fd : FuncData} (F : FnD K d_law_bare fd) : Binds K fd ["_law_piece_here"] [] := FunD.bindsN F fun _ _ _ _ _ _ us hl => match us, hl with | [_], _ => rfl
theorem body_law_bare (T : Txt K mg) : BodyOk P w K mg base 0 ["_law_piece_here"] d_law_bare (sp_law_bare K) := by
  intro cdv A outer s H vs Q E hr h
  obtain ⟨v, d, rfl, ⟨a, pa, rfl, ha, hp, ok⟩, k⟩ := h
  have nd := sc_law_bare.nd
  refine ⟨_, (pss_one (ps_ret (pe_op op_add (pe_callB call_len_str (by rfl) T.b_len PySem.boot_len (pa_cons (pe_op op_add_str (pe_op op_add_str (pe_op op_add_str (pe_ix ix_tup (pv 0) pe_int (fun _ _ => rfl)) pe_str) (pe_join pe_str (pe_ix ix_tup (pv 0) pe_int (fun _ _ => rfl)))) pe_str) pa_nil)) (pe_callTy call_int1 (by rfl) T.b_int PyProof.Rows.boot_int (pa_cons (pe_ix ix_tup (pv 0) pe_int (fun _ _ => rfl)) pa_nil))))), ?_⟩
  obtain ⟨m1, m2, m3, m4⟩ := bareMost ok
  have hw := ok.word.2.1
  have e1 : ("(" : Str).length = 1 := by decide +kernel
  refine ⟨_, rfl, a, _, _, _, rfl, rfl, ha, pi0, d.word, _, rfl, rfl, sz (by omega), ?_⟩
  refine ⟨⟨_, rfl⟩, _, rfl, a, _, _, _, rfl, rfl, ha, pi1, ", ", pa, d.parts, rfl, rfl, .inr hp, by omega, _, _, rfl, rfl, sz (by omega), ?_⟩
  have e2 : (")" : Str).length = 1 := by decide +kernel
  refine ⟨_, _, rfl, rfl, sz (by omega), _, rfl, sz (by omega), _, rfl, a, _, _, _, rfl, rfl, ha, pi7, .inr ⟨d.left, rfl, _, _, rfl, rfl, ?_⟩⟩
  have e := bareLen ok
  unfold b2i at e
  rw [← e] at k
  exact k
theorem cal_law_bare (T : Txt K mg) : Cal P w K mg base 1 "_law_bare" (sp_law_bare K) [] := by
  obtain ⟨fd, F⟩ := T.d_law_bare
  exact mkCal F T.g_law_bare (bi_law_bare F) sc_law_bare (fun vs H Q E h => len_law_bare h) (body_law_bare T)
def sp_law_is_long (K : Fg) : Sp := fun vs H Q _ => ∃ (v : V) (wd : Int) (d : PcD), vs = [v, .int wd] ∧ PtAt K H v d ∧ Q (.bl (isLong wd d)) H
theorem len_law_is_long {vs H Q E} (h : sp_law_is_long K vs H Q E) : vs.length = 2 := by
  obtain ⟨_, _, _, rfl, _⟩ := h
  rfl
theorem sc_law_is_long : FnScope ["_law_piece_here", "_law_width_here", "_law_room"] ["_law_piece_here", "_law_width_here"] (defScope d_law_is_long.st) := ⟨rfl, rfl, rfl, by decide +kernel, rfl, by decide +kernel, by decide +kernel⟩
theorem bi_law_is_long {K : Fg} {fd : FuncData} (F : FnD K d_law_is_long fd) : Binds K fd ["_law_piece_here", "_law_width_here"] [] := FunD.bindsN F fun _ _ _ _ _ _ us hl => match us, hl with | [_, _], _ => rfl
theorem body_law_is_long (T : Txt K mg) : BodyOk P w K mg base 1 ["_law_piece_here", "_law_width_here", "_law_room"] d_law_is_long (sp_law_is_long K) := by
  intro cdv A outer s H vs Q E hr h
  obtain ⟨v, wd, d, rfl, hd, k⟩ := h
  have nd := sc_law_is_long.nd
  refine ⟨_, (pss_cons (ps_set (i := 2) nd rfl (Or.inl rfl) (pe_op op_add (pe_c (cal_law_bare T) hr (by decide) (by rfl) (pa_cons (pv 0) pa_nil)) (pe_callTy call_int1 (by rfl) T.b_int PyProof.Rows.boot_int (pa_cons (pe_ix ix_tup (pv 0) pe_int (fun _ _ => rfl)) pa_nil))))
      (pss_one (ps_ret (pe_cmpR op_gt (pe_op op_add (pv 2) (pe_ifExp (pt_cmpR op_ne (pe_ix ix_tup (pv 0) pe_int (fun _ _ => rfl)) pe_str (nomark _)) (pe_op op_add pe_int (pe_callB call_len_str (by rfl) T.b_len PySem.boot_len (pa_cons (pe_ix ix_tup (pv 0) pe_int (fun _ _ => rfl)) pa_nil))) pe_int)) (pv 1) (nomark _))))), ?_⟩
  obtain ⟨a, pa, rfl, ha, hp, ok⟩ := id hd
  refine ⟨_, rfl, .ref a, d, rfl, hd, ?_⟩
  refine ⟨_, rfl, a, _, _, _, rfl, rfl, ha, pi3, .inr ⟨d.marked, rfl, _, _, rfl, rfl, ?_⟩⟩
  have hb := rem_len ok.behind
  refine ⟨_, rfl, _, rfl, a, _, _, _, rfl, rfl, ha, pi5, rfl, _, rfl, ?_⟩
  rw [neV]
  refine ifE (fun v H' => H' = H ∧ v = .int (if d.behind = "" then 0 else 4 + (d.behind.length : Int))) (fun q Q q2 => ?_) (fun q Q q2 => ?_) ?_
  · have nb : ¬ d.behind = "" := by simpa using q
    refine ⟨_, rfl, a, _, _, _, rfl, rfl, ha, pi5, d.behind, rfl, sz (by omega), _, _, rfl, rfl, ?_⟩
    refine q2 _ _ ⟨rfl, ?_⟩
    rw [if_neg nb]
  · have nb : d.behind = "" := by simpa using q
    refine q2 _ _ ⟨rfl, ?_⟩
    rw [if_pos nb]
  rintro _ _ ⟨rfl, rfl⟩
  refine ⟨_, _, rfl, rfl, _, rfl, _, _, rfl, rfl, ?_⟩
  exact k
theorem cal_law_is_long (T : Txt K mg) : Cal P w K mg base 2 "_law_is_long" (sp_law_is_long K) [] := by
  obtain ⟨fd, F⟩ := T.d_law_is_long
  exact mkCal F T.g_law_is_long (bi_law_is_long F) sc_law_is_long (fun vs H Q E h => len_law_is_long h) (body_law_is_long T)
def sp_law_is_fence (K : Fg) : Sp := fun vs H Q _ => ∃ (v : V) (d : PcD), vs = [v] ∧ PtAt K H v d ∧ Q (.bl (fence d)) H
theorem len_law_is_fence {vs H Q E} (h : sp_law_is_fence K vs H Q E) : vs.length = 1 := by
  obtain ⟨_, _, rfl, _⟩ := h
  rfl
theorem sc_law_is_fence : FnScope ["_law_piece_here"] ["_law_piece_here"] (defScope d_law_is_fence.st) := ⟨rfl, rfl, rfl, by decide +kernel, rfl, by decide +kernel, by decide +kernel⟩
theorem bi_law_is_fence {K : Fg} {fd : FuncData} (F : FnD K d_law_is_fence fd) : Binds K fd ["_law_piece_here"] [] := FunD.bindsN F fun _ _ _ _ _ _ us hl => match us, hl with | [_], _ => rfl
theorem body_law_is_fence (T : Txt K mg) : BodyOk P w K mg base 0 ["_law_piece_here"] d_law_is_fence (sp_law_is_fence K) := by
  intro cdv A outer s H vs Q E hr h
  obtain ⟨v, d, rfl, ⟨a, pa, rfl, ha, hp, ok⟩, k⟩ := h
  have nd := sc_law_is_fence.nd
  refine ⟨_, (pss_one (ps_ret (pe_or (pe_cmpR op_ne (pe_ix ix_tup (pv 0) pe_int (fun _ _ => rfl)) pe_str (nomark _)) (pe_or (pe_cmpR op_gt (pe_ix ix_tup (pv 0) pe_int (fun _ _ => rfl)) pe_int (nomark _)) (pe_one (pe_ix ix_tup (pv 0) pe_int (fun _ _ => rfl))))))), ?_⟩
  refine ⟨_, rfl, a, _, _, _, rfl, rfl, ha, pi4, rfl, _, rfl, ?_⟩
  have k' : Q (.bl (!decide (d.ahead = "") || (decide (0 < d.blanks) || d.left))) H := k
  rw [neV]
  refine ite2 (fun q => ?_) (fun q => ?_)
  · rw [q, Bool.true_or] at k'
    exact k'
  · rw [Bool.eq_false_iff.mpr q, Bool.false_or] at k'
    refine ⟨_, rfl, a, _, _, _, rfl, rfl, ha, pi6, _, _, rfl, rfl, _, rfl, ?_⟩
    refine ite2 (fun q => ?_) (fun q => ?_)
    · rw [show decide (0 < d.blanks) = true from q, Bool.true_or] at k'
      exact k'
    · rw [show decide (0 < d.blanks) = false from Bool.eq_false_iff.mpr q, Bool.false_or] at k'
      exact ⟨_, rfl, a, _, _, _, rfl, rfl, ha, pi7, k'⟩
theorem cal_law_is_fence (T : Txt K mg) : Cal P w K mg base 1 "_law_is_fence" (sp_law_is_fence K) [] := by
  obtain ⟨fd, F⟩ := T.d_law_is_fence
  exact mkCal F T.g_law_is_fence (bi_law_is_fence F) sc_law_is_fence (fun vs H Q E h => len_law_is_fence h) (body_law_is_fence T)
end
end Lt
set_option Elab.async false
set_option linter.all false
set_option maxRecDepth 100000
set_option maxHeartbeats 8000000
/-! the law's deeds -/
namespace Lt
open PySem PySem.Spec PyProof.Rows L2
open C8 (Cal Met Mak pe_c pe_mk pe_mt pe_mt0 pe_gc)
theorem did_ok {x : Str} {d : PcD} (ok : d.ok) : (did x d).ok ∧ (did x d).word = d.word ∧ (did x d).parts = d.parts := by
  unfold did
  split
  · exact ⟨ok_but ok ok.ahead ok.behind ok.b0 ok.b2, rfl, rfl⟩
  split
  · exact ⟨ok_but ok ok.ahead ok.behind ok.b0 ok.b2, rfl, rfl⟩
  split
  · split
    · exact ⟨ok_but ok ok.behind (.inl rfl) ok.b0 ok.b2, rfl, rfl⟩
    · exact ⟨ok, rfl, rfl⟩
  split
  · split
    · exact ⟨ok_but ok (.inl rfl) ok.ahead ok.b0 ok.b2, rfl, rfl⟩
    · exact ⟨ok, rfl, rfl⟩
  · refine ⟨ok_but ok ok.ahead ok.behind ?_ ?_, rfl, rfl⟩
    · unfold b2i
      split <;> decide
    · unfold b2i
      split <;> decide
theorem inV2 {x a b : Str} : inV (.str x) [.str a, .str b] = decide (x = a ∨ x = b) := by
  unfold inV
  simp only [List.any_cons, List.any_nil, Bool.or_false]
  rw [Bool.eq_iff_iff]
  simp only [Bool.or_eq_true, decide_eq_true_eq, eqV, beq_iff_eq]
  constructor
  · rintro (h | h)
    · exact .inl h.symm
    · exact .inr h.symm
  · rintro (h | h)
    · exact .inl h.symm
    · exact .inr h.symm
section
variable {P : Program} {w : World} {K : Fg} {mg : Str → Option Value} {base : Heap}
def sp_law_did (K : Fg) : Sp := fun vs H Q _ => ∃ (x : Str) (v : V) (d : PcD), vs = [.str x, v] ∧ x ∈ deeds8 ∧ PtAt K H v d ∧ ∀ u H', Same H H' → PtAt K H' u (did x d) → Q u H'
theorem len_law_did {vs H Q E} (h : sp_law_did K vs H Q E) : vs.length = 2 := by
  obtain ⟨_, _, _, rfl, _⟩ := h
  rfl
theorem sc_law_did : FnScope ["_law_deed", "_law_piece_here", "_law_word", "_law_parts", "_law_broken", "_law_marked", "_law_ahead", "_law_behind", "_law_blanks", "_law_left"] ["_law_deed", "_law_piece_here"] (defScope d_law_did.st) := ⟨rfl, rfl, rfl, by decide +kernel, rfl, by decide +kernel, by decide +kernel⟩
theorem bi_law_did {K : Fg} {fd : FuncData} (F : FnD K d_law_did fd) : Binds K fd ["_law_deed", "_law_piece_here"] [] := FunD.bindsN F fun _ _ _ _ _ _ us hl => match us, hl with | [_, _], _ => rfl
theorem body_law_did (T : Txt K mg) : BodyOk P w K mg base 0 ["_law_deed", "_law_piece_here", "_law_word", "_law_parts", "_law_broken", "_law_marked", "_law_ahead", "_law_behind", "_law_blanks", "_law_left"] d_law_did (sp_law_did K) := by
  intro cdv A outer s H vs Q E hr h
  obtain ⟨x, v, d, rfl, hx, ⟨a, pa, rfl, ha, hp, ok⟩, k⟩ := h
  have nd := sc_law_did.nd
  refine ⟨_, (pss_cons (ps_asg (pv 1) (pg_tup rfl (pgs_cons (pg_name (i := 2) nd rfl (Or.inl rfl)) (pgs_cons (pg_name (i := 3) nd rfl (Or.inl rfl)) (pgs_cons (pg_name (i := 4) nd rfl (Or.inl rfl)) (pgs_cons (pg_name (i := 5) nd rfl (Or.inl rfl)) (pgs_cons (pg_name (i := 6) nd rfl (Or.inl rfl)) (pgs_cons (pg_name (i := 7) nd rfl (Or.inl rfl)) (pgs_cons (pg_name (i := 8) nd rfl (Or.inl rfl)) (pgs_cons (pg_name (i := 9) nd rfl (Or.inl rfl)) pgs_nil))))))))))
      (pss_cons (ps_if (pt_cmpR op_in_seq (pv 0) (pe_tup (pa_cons pe_str (pa_cons pe_str pa_nil))) (by rfl)) (pss_one (ps_set (i := 4) nd rfl (Or.inl rfl) (pe_cmpR op_eq (pv 0) pe_str (nomark _)))) (pss_one (ps_if (pt_cmpR op_in_seq (pv 0) (pe_tup (pa_cons pe_str (pa_cons pe_str pa_nil))) (by rfl)) (pss_one (ps_set (i := 5) nd rfl (Or.inl rfl) (pe_cmpR op_eq (pv 0) pe_str (nomark _)))) (pss_one (ps_if (pt_cmpR op_in_seq (pv 0) (pe_tup (pa_cons pe_str (pa_cons pe_str pa_nil))) (by rfl)) (pss_one (ps_set (i := 8) nd rfl (Or.inl rfl) (pe_ifExp (pt_cmpR op_eq (pv 0) pe_str (nomark _)) pe_int pe_int))) (pss_one (ps_if (PW.pt (pw_or (PW.pt (pw_and (pt_cmpR op_eq (pv 0) pe_str (nomark _)) (pw_and1 (pt_cmpR op_eq (pv 6) pe_str (nomark _))))) (pw_or1 (PW.pt (pw_and (pt_cmpR op_eq (pv 0) pe_str (nomark _)) (pw_and1 (pt_cmpR op_eq (pv 7) pe_str (nomark _)))))))) (pss_one (ps_par (i := 6) (j := 7) rfl nd rfl rfl (by decide) rfl rfl (pa_cons (pv 7) (pa_cons (pv 6) pa_nil)) (by rfl))) pss_nil)))))))
      (pss_one (ps_ret (pe_tup (pa_cons (pv 2) (pa_cons (pv 3) (pa_cons (pv 4) (pa_cons (pv 5) (pa_cons (pv 6) (pa_cons (pv 7) (pa_cons (pv 8) (pa_cons (pv 9) pa_nil))))))))))))), ?_⟩
  refine ⟨_, rfl, a, _, rfl, ha, rfl, _, _, rfl, ?_⟩
  refine ⟨_, _, rfl, _, _, rfl, _, _, rfl, _, _, rfl, _, _, rfl, _, _, rfl, _, _, rfl, rfl, ?_⟩
  refine ⟨_, rfl, sz (by simp), fun t1 n1 => ⟨t1, _, rfl, .inr (SqT.of upd_same), rfl, rfl, _, rfl, ?_⟩⟩
  have e1 := did_ok (x := x) ok
  have s1 : Same H (upd H t1 (.tup [.str "break", .str "join"])) := same_new n1
  generalize upd H t1 (.tup [.str "break", .str "join"]) = H1 at s1
  refine ifS (fun σ' H' => Same H H' ∧ σ' = [some (.str x), some (.ref a), some (.str d.word), some (.ref pa), some (.bl (did x d).broken), some (.bl (did x d).marked), some (.str (did x d).ahead), some (.str (did x d).behind), some (.int (did x d).blanks), some (.bl (did x d).left)]) (fun q D q2 => ?_) (fun q D q2 => ?_) ?_
  · rw [if_neg Bool.false_ne_true, inV2] at q
    have q1 : x = "break" ∨ x = "join" := of_decide_eq_true q
    refine ⟨_, rfl, rfl, q2 _ _ ⟨s1, ?_⟩⟩
    have ed : did x d = { d with broken := decide (x = "break") } := by unfold did; rw [if_pos q1]
    rw [ed, eqV']
    rfl
  rw [if_neg Bool.false_ne_true, inV2] at q
  have n1 : ¬ (x = "break" ∨ x = "join") := fun z => q (decide_eq_true z)
  refine ⟨_, rfl, sz (by simp), fun t2 m2 => ⟨t2, _, rfl, .inr (SqT.of upd_same), rfl, rfl, _, rfl, ?_⟩⟩
  have s2 : Same H (upd H1 t2 (.tup [.str "mark", .str "unmark"])) := s1.grow m2
  generalize upd H1 t2 (.tup [.str "mark", .str "unmark"]) = H2 at s2
  refine ite2 (fun q => ?_) (fun q => ?_)
  · rw [if_neg Bool.false_ne_true, inV2] at q
    have q1 : x = "mark" ∨ x = "unmark" := of_decide_eq_true q
    refine ⟨_, rfl, rfl, q2 _ _ ⟨s2, ?_⟩⟩
    have ed : did x d = { d with marked := decide (x = "mark") } := by unfold did; rw [if_neg n1, if_pos q1]
    rw [ed, eqV']
    rfl
  rw [if_neg Bool.false_ne_true, inV2] at q
  have n2 : ¬ (x = "mark" ∨ x = "unmark") := fun z => q (decide_eq_true z)
  refine ⟨_, rfl, sz (by simp), fun t3 m3 => ⟨t3, _, rfl, .inr (SqT.of upd_same), rfl, rfl, _, rfl, ?_⟩⟩
  have s3 : Same H (upd H2 t3 (.tup [.str "space", .str "close"])) := s2.grow m3
  generalize upd H2 t3 (.tup [.str "space", .str "close"]) = H3 at s3
  refine ite2 (fun q => ?_) (fun q => ?_)
  · rw [if_neg Bool.false_ne_true, inV2] at q
    have q1 : x = "space" ∨ x = "close" := of_decide_eq_true q
    have h1 : x ≠ "lift" := fun z => by rw [z] at q1; exact absurd q1 (by decide +kernel)
    have h2 : x ≠ "lower" := fun z => by rw [z] at q1; exact absurd q1 (by decide +kernel)
    have ed : did x d = { d with blanks := b2i (decide (x = "space")) } := by unfold did; rw [if_neg n1, if_neg n2, if_neg h1, if_neg h2]
    refine ⟨_, rfl, rfl, _, rfl, ?_⟩
    rw [eqV']
    refine ifE (fun v H' => H' = H3 ∧ v = .int (b2i (decide (x = "space")))) (fun q Q q2 => ?_) (fun q Q q2 => ?_) ?_
    · exact q2 _ _ ⟨rfl, by rw [q] <;> rfl⟩
    · exact q2 _ _ ⟨rfl, by rw [Bool.eq_false_iff.mpr q] <;> rfl⟩
    rintro _ _ ⟨rfl, rfl⟩
    refine q2 _ _ ⟨s3, ?_⟩
    rw [ed]
    rfl
  rw [if_neg Bool.false_ne_true, inV2] at q
  have n3 : ¬ (x = "space" ∨ x = "close") := fun z => q (decide_eq_true z)
  have hl : x = "lift" ∨ x = "lower" := by
    unfold deeds8 at hx
    simp only [List.mem_cons, List.not_mem_nil, or_false] at hx
    rcases hx with h | h | h | h | h | h | h | h
    · exact absurd (.inl h) n1
    · exact absurd (.inr h) n1
    · exact absurd (.inl h) n2
    · exact absurd (.inr h) n2
    · exact .inl h
    · exact .inr h
    · exact absurd (.inl h) n3
    · exact absurd (.inr h) n3
  have nll : ¬ (V.str "lower" = V.str "lift") := fun z => absurd (V.str.inj z) (by decide +kernel)
  refine ⟨_, rfl, rfl, _, rfl, ?_⟩
  rcases hl with rfl | rfl
  · have ed : did "lift" d = if ¬ d.behind = "" ∧ d.ahead = "" then { d with ahead := d.behind, behind := "" } else d := by
      unfold did
      rw [if_neg n1, if_neg n2, if_pos rfl]
    rw [show decide (V.str "lift" = V.str "lift") = true from decide_eq_true rfl]
    refine iteT ⟨_, rfl, rfl, _, rfl, ?_⟩
    rw [eqV']
    refine ite2 (fun q => ?_) (fun q => ?_)
    · have q1 : d.ahead = "" := of_decide_eq_true q
      refine iteT ⟨_, rfl, _, rfl, _, _, rfl, q2 _ _ ⟨s3, ?_⟩⟩
      rw [ed]
      by_cases q3 : d.behind = ""
      · rw [if_neg (fun z => z.1 q3), q1, q3]
        rfl
      · rw [if_pos ⟨q3, q1⟩, q1]
        rfl
    · have q1 : ¬ d.ahead = "" := fun z => q (decide_eq_true z)
      refine ⟨_, rfl, rfl, _, rfl, ?_⟩
      rw [show decide (V.str "lift" = V.str "lower") = false from decide_eq_false (fun z => nll z.symm)]
      refine iteF (iteF (q2 _ _ ⟨s3, ?_⟩))
      rw [ed, if_neg (fun z => q1 z.2)]
      rfl
  · have ed : did "lower" d = if ¬ d.ahead = "" ∧ d.behind = "" then { d with ahead := "", behind := d.ahead } else d := by
      unfold did
      rw [if_neg n1, if_neg n2, if_neg (by decide +kernel), if_pos rfl]
    rw [show decide (V.str "lower" = V.str "lift") = false from decide_eq_false nll]
    refine iteF ⟨_, rfl, rfl, _, rfl, ?_⟩
    rw [show decide (V.str "lower" = V.str "lower") = true from decide_eq_true rfl]
    refine iteT ⟨_, rfl, rfl, _, rfl, ?_⟩
    rw [eqV']
    refine ite2 (fun q => ?_) (fun q => ?_)
    · have q1 : d.behind = "" := of_decide_eq_true q
      refine ⟨_, rfl, _, rfl, _, _, rfl, q2 _ _ ⟨s3, ?_⟩⟩
      rw [ed]
      by_cases q3 : d.ahead = ""
      · rw [if_neg (fun z => z.1 q3), q1, q3]
        rfl
      · rw [if_pos ⟨q3, q1⟩, q1]
        rfl
    · have q1 : ¬ d.behind = "" := fun z => q (decide_eq_true z)
      refine q2 _ _ ⟨s3, ?_⟩
      rw [ed, if_neg (fun z => q1 z.2)]
      rfl
  rintro _ H2 ⟨s2, rfl⟩
  refine ⟨_, rfl, _, rfl, _, rfl, _, rfl, _, rfl, _, rfl, _, rfl, _, rfl, sz (by simp), fun t nt => ?_⟩
  refine k _ _ (s2.grow nt) ⟨t, pa, rfl, SqT.of ?_, SqTm (s2.grow nt) (by rw [e1.2.2]; exact hp), e1.1⟩
  rw [upd_same]
  unfold pcArgs
  rw [e1.2.1]
theorem cal_law_did (T : Txt K mg) : Cal P w K mg base 1 "_law_did" (sp_law_did K) [] := by
  obtain ⟨fd, F⟩ := T.d_law_did
  exact mkCal F T.g_law_did (bi_law_did F) sc_law_did (fun vs H Q E h => len_law_did h) (body_law_did T)
end
end Lt
set_option Elab.async false
set_option linter.all false
set_option maxRecDepth 100000
set_option maxHeartbeats 8000000
/-! what holds, by the law -/
namespace Lt
open PySem PySem.Spec PyProof.Rows L2
open C8 (Cal Met Mak pe_c pe_mk pe_mt pe_mt0 pe_gc)
theorem hB_afterbroken (wd : Int) (e : Option PcD) (d : PcD) : holdsB "afterbroken" wd e d = (match e with | some x => x.broken | none => false) := by
  unfold holdsB
  rw [if_neg (show ¬ ("afterbroken" : Str) = "broken" by decide +kernel)]
  rw [if_neg (show ¬ ("afterbroken" : Str) = "marked" by decide +kernel)]
  rw [if_neg (show ¬ ("afterbroken" : Str) = "left" by decide +kernel)]
  rw [if_neg (show ¬ ("afterbroken" : Str) = "ahead" by decide +kernel)]
  rw [if_neg (show ¬ ("afterbroken" : Str) = "behind" by decide +kernel)]
  rw [if_neg (show ¬ ("afterbroken" : Str) = "blank" by decide +kernel)]
  rw [if_neg (show ¬ ("afterbroken" : Str) = "long" by decide +kernel)]
  rw [if_neg (show ¬ ("afterbroken" : Str) = "first" by decide +kernel)]
  rw [if_pos rfl]
  first | done | (cases e <;> rfl)
theorem hB_afterbehind (wd : Int) (e : Option PcD) (d : PcD) : holdsB "afterbehind" wd e d = (match e with | some x => !decide (x.behind = "") | none => false) := by
  unfold holdsB
  rw [if_neg (show ¬ ("afterbehind" : Str) = "broken" by decide +kernel)]
  rw [if_neg (show ¬ ("afterbehind" : Str) = "marked" by decide +kernel)]
  rw [if_neg (show ¬ ("afterbehind" : Str) = "left" by decide +kernel)]
  rw [if_neg (show ¬ ("afterbehind" : Str) = "ahead" by decide +kernel)]
  rw [if_neg (show ¬ ("afterbehind" : Str) = "behind" by decide +kernel)]
  rw [if_neg (show ¬ ("afterbehind" : Str) = "blank" by decide +kernel)]
  rw [if_neg (show ¬ ("afterbehind" : Str) = "long" by decide +kernel)]
  rw [if_neg (show ¬ ("afterbehind" : Str) = "first" by decide +kernel)]
  rw [if_neg (show ¬ ("afterbehind" : Str) = "afterbroken" by decide +kernel)]
  first | done | (cases e <;> rfl)
theorem dg {H : Hp} {p : Addr} {kvs : List (Key × V)} {k : Key} {v : V} (e : H p = some (.dK kvs)) (h : valV kvs k = some v) : DGet H p (kV k) (some v) := by
  rw [← h]
  exact DGet.k e
section
variable {P : Program} {w : World} {K : Fg} {mg : Str → Option Value} {base : Heap}
/-- the piece ahead, if any -/
def EtAt (K : Fg) (H : Hp) (v : V) (e : Option PcD) : Prop := (e = none ∧ v = .non) ∨ ∃ x, e = some x ∧ PtAt K H v x
theorem EtAt.mono {H H' : Hp} {v : V} {e : Option PcD} (s : Same H H') (h : EtAt K H v e) : EtAt K H' v e := by
  rcases h with h | ⟨x, h1, h3⟩
  · exact .inl h
  · exact .inr ⟨x, h1, h3.mono s⟩
def sp_law_holdsIn (Ts : List Str) (K : Fg) : Sp := fun vs H Q _ => ∃ (t : Str) (wd : Int) (ev v : V) (e : Option PcD) (d : PcD), vs = [.str t, .int wd, ev, v] ∧ t ∈ Ts ∧ EtAt K H ev e ∧ PtAt K H v d ∧ ∀ H', Same H H' → Q (.bl (holds t wd e d)) H'
abbrev sp_law_holds (K : Fg) : Sp := sp_law_holdsIn tests20 K
theorem len_law_holdsIn {Ts vs H Q E} (h : sp_law_holdsIn Ts K vs H Q E) : vs.length = 4 := by
  obtain ⟨_, _, _, _, _, _, rfl, _⟩ := h
  rfl
theorem sc_law_holds : FnScope ["_law_test", "_law_width_here", "_law_elder", "_law_piece_here", "_law_known"] ["_law_test", "_law_width_here", "_law_elder", "_law_piece_here"] (defScope d_law_holds.st) := ⟨rfl, rfl, rfl, by decide +kernel, rfl, by decide +kernel, by decide +kernel⟩
theorem bi_law_holds {K : Fg} {fd : FuncData} (F : FnD K d_law_holds fd) : Binds K fd ["_law_test", "_law_width_here", "_law_elder", "_law_piece_here"] [] := FunD.bindsN F fun _ _ _ _ _ _ us hl => match us, hl with | [_, _, _, _], _ => rfl
theorem body_law_holds {L kk : Nat} (T : Txt K mg) (h3 : 2 ≤ L) (hkk : kk ≤ L) {spS : Sp} (c_self : Cal P w K mg base kk "_law_holds" spS []) {Ts : List Str} (hT : ∀ t ∈ Ts, t.length ≤ 100 ∧ ((hd4 t = "not " ∧ tl4 t ∈ tests10) ∨ (hd4 t ≠ "not " ∧ t ∈ tests10)))
    (hS : ∀ t ∈ Ts, hd4 t = "not " → ∀ vs H Q E, sp_law_holdsIn tests10 K vs H Q E → spS vs H Q E) : BodyOk P w K mg base L ["_law_test", "_law_width_here", "_law_elder", "_law_piece_here", "_law_known"] d_law_holds (sp_law_holdsIn Ts K) := by
  intro cdv A outer s H vs Q E hr h
  obtain ⟨t, wd, ev, v, e, d, rfl, ht, he, hd, k⟩ := h
  have nd := sc_law_holds.nd
  refine ⟨_, (pss_cons (ps_if (pt_cmpR op_eq (pe_slice sl_str (pv 0) po_none (po_some pe_int)) pe_str (nomark _)) (pss_one (ps_ret (pe_not (pe_c c_self hr (by omega) (by rfl) (pa_cons (pe_slice sl_str (pv 0) (po_some pe_int) po_none) (pa_cons (pv 1) (pa_cons (pv 2) (pa_cons (pv 3) pa_nil)))))))) pss_nil)
      (pss_cons (ps_set (i := 4) nd rfl (Or.inl rfl) (pe_disp (pps_cons pe_str (pe_ix ix_tup (pv 3) pe_int (fun _ _ => rfl)) (pps_cons pe_str (pe_ix ix_tup (pv 3) pe_int (fun _ _ => rfl)) (pps_cons pe_str (pe_ix ix_tup (pv 3) pe_int (fun _ _ => rfl)) (pps_cons pe_str (pe_cmpR op_ne (pe_ix ix_tup (pv 3) pe_int (fun _ _ => rfl)) pe_str (nomark _)) pps_nil)))) (by rfl) (by rfl) (fun z => by cases z) (by decide)))
      (pss_cons (ps_expr (pe_bm PySem.F.plainAttrs_dict PySem.F.slot_dict_update PySem.F.type_dict_update mt_update (pv 4) (pa_cons (pe_disp (pps_cons pe_str (pe_cmpR op_ne (pe_ix ix_tup (pv 3) pe_int (fun _ _ => rfl)) pe_str (nomark _)) (pps_cons pe_str (pe_cmpR op_gt (pe_ix ix_tup (pv 3) pe_int (fun _ _ => rfl)) pe_int (nomark _)) (pps_cons pe_str (pe_cmpR op_isN (pv 2) pe_non (nomark _)) pps_nil))) (by rfl) (by rfl) (fun z => by cases z) (by decide)) pa_nil)))
      (pss_cons (ps_dput (hu_of hr) (pv 4) pe_str (pe_c (cal_law_is_long T) hr (by omega) (by rfl) (pa_cons (pv 3) (pa_cons (pv 1) pa_nil))) rfl)
      (pss_cons (ps_if (pt_cmpR op_eq (pe_slice sl_str (pv 0) po_none (po_some pe_int)) pe_str (nomark _)) (pss_one (ps_ret (pe_and (pe_cmpR op_notN (pv 2) pe_non (nomark _)) (pe_one (pe_ifExp (pt_cmpR op_eq (pv 0) pe_str (nomark _)) (pe_ix ix_tup (pv 2) pe_int (fun _ _ => rfl)) (pe_cmpR op_ne (pe_ix ix_tup (pv 2) pe_int (fun _ _ => rfl)) pe_str (nomark _))))))) pss_nil)
      (pss_one (ps_ret (pe_dget (hu_of hr) (pv 4) (pv 0) (fun _ _ => rfl))))))))), ?_⟩
  obtain ⟨a, pa, rfl, ha, hp, ok⟩ := id hd
  obtain ⟨h100, h2⟩ := hT t ht
  have l4 : ("not " : Str).length ≤ sizeLine := by decide +kernel
  refine ⟨_, rfl, 4, rfl, t, rfl, sz (by omega), rfl, _, rfl, ?_⟩
  rcases h2 with ⟨h2, h3'⟩ | ⟨h2, h3'⟩
  · have en : decide (V.str (cutS t none (some 4)) = V.str "not ") = true := decide_eq_true (by rw [show cutS t none (some 4) = "not " from h2])
    refine ite2 (fun _ => ?_) (fun n => absurd en n)
    have hn : ∀ x ∈ tests10, hd4 x ≠ "not " := by decide +kernel
    refine ⟨_, rfl, 4, rfl, t, rfl, sz (by omega), _, rfl, _, rfl, _, rfl, hS t ht h2 _ _ _ _ ⟨tl4 t, wd, ev, .ref a, e, d, rfl, h3', he, hd, fun H' s' => ⟨_, rfl, ?_⟩⟩⟩
    have k' := k H' s'
    unfold holds at k'
    rw [if_pos h2] at k'
    unfold holds
    rw [if_neg (hn _ h3')]
    exact k'
  have en : ¬ decide (V.str (cutS t none (some 4)) = V.str "not ") = true := fun n => h2 (V.str.inj (of_decide_eq_true n))
  refine ite2 (fun n => absurd n en) (fun _ => ?_)
  have kB : ∀ H', Same H H' → Q (.bl (holdsB t wd e d)) H' := fun H' s' => by
    have k' := k H' s'
    unfold holds at k'
    rw [if_neg h2] at k'
    exact k'
  intro p np
  have s1 : Same H (upd H p (.dK [])) := same_new np
  have ha1 := SqTm s1 ha
  refine ⟨_, rfl, a, _, _, _, rfl, rfl, ha1, pi2, ?_⟩
  refine ⟨_, rfl, a, _, _, _, rfl, rfl, ha1, pi3, ?_⟩
  refine ⟨_, rfl, a, _, _, _, rfl, rfl, ha1, pi7, ?_⟩
  refine ⟨_, rfl, a, _, _, _, rfl, rfl, ha1, pi4, rfl, ?_⟩
  rw [neV]
  refine ⟨upd_same, [(.inr "broken", .bl d.broken), (.inr "marked", .bl d.marked), (.inr "left", .bl d.left), (.inr "ahead", .bl (!decide (d.ahead = "")))], rfl, by simp, ?_⟩
  rw [upd_upd]
  generalize hk1 : mergeK [] _ = k1
  have e1 : k1 = [(.inr "broken", .bl d.broken), (.inr "marked", .bl d.marked), (.inr "left", .bl d.left), (.inr "ahead", .bl (!decide (d.ahead = "")))] := hk1.symm.trans rfl
  subst e1
  clear hk1
  have s2 : Same H (upd H p (.dK [(.inr "broken", .bl d.broken), (.inr "marked", .bl d.marked), (.inr "left", .bl d.left), (.inr "ahead", .bl (!decide (d.ahead = "")))])) := same_new np
  have v2 : (upd H p (.dK [(.inr "broken", .bl d.broken), (.inr "marked", .bl d.marked), (.inr "left", .bl d.left), (.inr "ahead", .bl (!decide (d.ahead = "")))])) p = some (.dK [(.inr "broken", .bl d.broken), (.inr "marked", .bl d.marked), (.inr "left", .bl d.left), (.inr "ahead", .bl (!decide (d.ahead = "")))]) := upd_same
  generalize upd H p (.dK [(.inr "broken", .bl d.broken), (.inr "marked", .bl d.marked), (.inr "left", .bl d.left), (.inr "ahead", .bl (!decide (d.ahead = "")))]) = H2 at s2 v2
  refine ⟨_, rfl, .inr (.inr (.inl ⟨rfl, .inl ⟨_, v2⟩⟩)), fun p2 np2 => ?_⟩
  have s3 : Same H2 (upd H2 p2 (.dK [])) := same_new np2
  have ha3 := SqTm (s2.trans s3) ha
  refine ⟨_, rfl, a, _, _, _, rfl, rfl, ha3, pi5, rfl, ?_⟩
  rw [neV]
  refine ⟨_, rfl, a, _, _, _, rfl, rfl, ha3, pi6, _, _, rfl, rfl, ?_⟩
  refine ⟨_, rfl, rfl, ?_⟩
  refine ⟨upd_same, [(.inr "behind", .bl (!decide (d.behind = ""))), (.inr "blank", .bl (decide (0 < d.blanks))), (.inr "first", .bl (decide (ev = .non)))], rfl, by simp, ?_⟩
  rw [upd_upd]
  generalize hk1 : mergeK [] _ = k1
  have e1 : k1 = [(.inr "behind", .bl (!decide (d.behind = ""))), (.inr "blank", .bl (decide (0 < d.blanks))), (.inr "first", .bl (decide (ev = .non)))] := hk1.symm.trans rfl
  subst e1
  clear hk1
  have s4 : Same H2 (upd H2 p2 (.dK [(.inr "behind", .bl (!decide (d.behind = ""))), (.inr "blank", .bl (decide (0 < d.blanks))), (.inr "first", .bl (decide (ev = .non)))])) := same_new np2
  have v4 : (upd H2 p2 (.dK [(.inr "behind", .bl (!decide (d.behind = ""))), (.inr "blank", .bl (decide (0 < d.blanks))), (.inr "first", .bl (decide (ev = .non)))])) p2 = some (.dK [(.inr "behind", .bl (!decide (d.behind = ""))), (.inr "blank", .bl (decide (0 < d.blanks))), (.inr "first", .bl (decide (ev = .non)))]) := upd_same
  have hne : p ≠ p2 := fun z => by
    subst z
    rw [v2] at np2
    cases np2
  generalize upd H2 p2 (.dK [(.inr "behind", .bl (!decide (d.behind = ""))), (.inr "blank", .bl (decide (0 < d.blanks))), (.inr "first", .bl (decide (ev = .non)))]) = H4 at s4 v4
  refine ⟨p, p2, _, _, rfl, rfl, hne, s4 _ _ v2, v4, by simp, ?_⟩
  generalize hk1 : mergeK _ _ = k1
  have e1 : k1 = [(.inr "broken", .bl d.broken), (.inr "marked", .bl d.marked), (.inr "left", .bl d.left), (.inr "ahead", .bl (!decide (d.ahead = ""))), (.inr "behind", .bl (!decide (d.behind = ""))), (.inr "blank", .bl (decide (0 < d.blanks))), (.inr "first", .bl (decide (ev = .non)))] := hk1.symm.trans rfl
  subst e1
  clear hk1
  have s5 : Same H (upd H4 p (.dK ([(.inr "broken", .bl d.broken), (.inr "marked", .bl d.marked), (.inr "left", .bl d.left), (.inr "ahead", .bl (!decide (d.ahead = ""))), (.inr "behind", .bl (!decide (d.behind = ""))), (.inr "blank", .bl (decide (0 < d.blanks))), (.inr "first", .bl (decide (ev = .non)))]))) := (s2.trans s4).mut np
  have v5 : (upd H4 p (.dK ([(.inr "broken", .bl d.broken), (.inr "marked", .bl d.marked), (.inr "left", .bl d.left), (.inr "ahead", .bl (!decide (d.ahead = ""))), (.inr "behind", .bl (!decide (d.behind = ""))), (.inr "blank", .bl (decide (0 < d.blanks))), (.inr "first", .bl (decide (ev = .non)))]))) p = some (.dK ([(.inr "broken", .bl d.broken), (.inr "marked", .bl d.marked), (.inr "left", .bl d.left), (.inr "ahead", .bl (!decide (d.ahead = ""))), (.inr "behind", .bl (!decide (d.behind = ""))), (.inr "blank", .bl (decide (0 < d.blanks))), (.inr "first", .bl (decide (ev = .non)))])) := upd_same
  generalize upd H4 p (.dK ([(.inr "broken", .bl d.broken), (.inr "marked", .bl d.marked), (.inr "left", .bl d.left), (.inr "ahead", .bl (!decide (d.ahead = ""))), (.inr "behind", .bl (!decide (d.behind = ""))), (.inr "blank", .bl (decide (0 < d.blanks))), (.inr "first", .bl (decide (ev = .non)))])) = H5 at s5 v5
  refine ⟨_, rfl, _, rfl, .ref a, wd, d, rfl, hd.mono s5, ?_⟩
  refine ⟨_, rfl, p, _, rfl, DPut.k (k := .inr "long") v5 (szl (by simp)), ?_⟩
  generalize hk1 : putK (κ := Key) _ _ _ = k1
  have e1 : k1 = [(.inr "broken", .bl d.broken), (.inr "marked", .bl d.marked), (.inr "left", .bl d.left), (.inr "ahead", .bl (!decide (d.ahead = ""))), (.inr "behind", .bl (!decide (d.behind = ""))), (.inr "blank", .bl (decide (0 < d.blanks))), (.inr "first", .bl (decide (ev = .non))), (.inr "long", .bl (isLong wd d))] := hk1.symm.trans rfl
  subst e1
  clear hk1
  have s6 : Same H (upd H5 p (.dK ([(.inr "broken", .bl d.broken), (.inr "marked", .bl d.marked), (.inr "left", .bl d.left), (.inr "ahead", .bl (!decide (d.ahead = ""))), (.inr "behind", .bl (!decide (d.behind = ""))), (.inr "blank", .bl (decide (0 < d.blanks))), (.inr "first", .bl (decide (ev = .non))), (.inr "long", .bl (isLong wd d))]))) := s5.mut np
  have v6 : (upd H5 p (.dK ([(.inr "broken", .bl d.broken), (.inr "marked", .bl d.marked), (.inr "left", .bl d.left), (.inr "ahead", .bl (!decide (d.ahead = ""))), (.inr "behind", .bl (!decide (d.behind = ""))), (.inr "blank", .bl (decide (0 < d.blanks))), (.inr "first", .bl (decide (ev = .non))), (.inr "long", .bl (isLong wd d))]))) p = some (.dK ([(.inr "broken", .bl d.broken), (.inr "marked", .bl d.marked), (.inr "left", .bl d.left), (.inr "ahead", .bl (!decide (d.ahead = ""))), (.inr "behind", .bl (!decide (d.behind = ""))), (.inr "blank", .bl (decide (0 < d.blanks))), (.inr "first", .bl (decide (ev = .non))), (.inr "long", .bl (isLong wd d))])) := upd_same
  generalize upd H5 p (.dK ([(.inr "broken", .bl d.broken), (.inr "marked", .bl d.marked), (.inr "left", .bl d.left), (.inr "ahead", .bl (!decide (d.ahead = ""))), (.inr "behind", .bl (!decide (d.behind = ""))), (.inr "blank", .bl (decide (0 < d.blanks))), (.inr "first", .bl (decide (ev = .non))), (.inr "long", .bl (isLong wd d))])) = H6 at s6 v6
  have l5 : ("after" : Str).length ≤ sizeLine := by decide +kernel
  refine ⟨_, rfl, 5, rfl, t, rfl, sz (by omega), rfl, _, rfl, ?_⟩
  unfold tests10 at h3'
  simp only [List.mem_cons, List.not_mem_nil, or_false] at h3'
  rcases h3' with rfl | rfl | rfl | rfl | rfl | rfl | rfl | rfl | rfl | rfl
  · refine ite2 (fun q => absurd (of_decide_eq_true q) (fun z => absurd (V.str.inj z) (by decide +kernel))) (fun _ => ?_)
    refine ⟨_, rfl, _, rfl, p, .bl d.broken, rfl, dg (k := .inr "broken") v6 rfl, ?_⟩
    have hB : holdsB "broken" wd e d = d.broken := by
      unfold holdsB
      rw [if_pos rfl]
    rw [hB] at kB
    exact kB _ s6
  · refine ite2 (fun q => absurd (of_decide_eq_true q) (fun z => absurd (V.str.inj z) (by decide +kernel))) (fun _ => ?_)
    refine ⟨_, rfl, _, rfl, p, .bl d.marked, rfl, dg (k := .inr "marked") v6 rfl, ?_⟩
    have hB : holdsB "marked" wd e d = d.marked := by
      unfold holdsB
      rw [if_neg (show ¬ ("marked" : Str) = "broken" by decide +kernel)]
      rw [if_pos rfl]
    rw [hB] at kB
    exact kB _ s6
  · refine ite2 (fun q => absurd (of_decide_eq_true q) (fun z => absurd (V.str.inj z) (by decide +kernel))) (fun _ => ?_)
    refine ⟨_, rfl, _, rfl, p, .bl d.left, rfl, dg (k := .inr "left") v6 rfl, ?_⟩
    have hB : holdsB "left" wd e d = d.left := by
      unfold holdsB
      rw [if_neg (show ¬ ("left" : Str) = "broken" by decide +kernel)]
      rw [if_neg (show ¬ ("left" : Str) = "marked" by decide +kernel)]
      rw [if_pos rfl]
    rw [hB] at kB
    exact kB _ s6
  · refine ite2 (fun q => absurd (of_decide_eq_true q) (fun z => absurd (V.str.inj z) (by decide +kernel))) (fun _ => ?_)
    refine ⟨_, rfl, _, rfl, p, .bl (!decide (d.ahead = "")), rfl, dg (k := .inr "ahead") v6 rfl, ?_⟩
    have hB : holdsB "ahead" wd e d = (!decide (d.ahead = "")) := by
      unfold holdsB
      rw [if_neg (show ¬ ("ahead" : Str) = "broken" by decide +kernel)]
      rw [if_neg (show ¬ ("ahead" : Str) = "marked" by decide +kernel)]
      rw [if_neg (show ¬ ("ahead" : Str) = "left" by decide +kernel)]
      rw [if_pos rfl]
    rw [hB] at kB
    exact kB _ s6
  · refine ite2 (fun q => absurd (of_decide_eq_true q) (fun z => absurd (V.str.inj z) (by decide +kernel))) (fun _ => ?_)
    refine ⟨_, rfl, _, rfl, p, .bl (!decide (d.behind = "")), rfl, dg (k := .inr "behind") v6 rfl, ?_⟩
    have hB : holdsB "behind" wd e d = (!decide (d.behind = "")) := by
      unfold holdsB
      rw [if_neg (show ¬ ("behind" : Str) = "broken" by decide +kernel)]
      rw [if_neg (show ¬ ("behind" : Str) = "marked" by decide +kernel)]
      rw [if_neg (show ¬ ("behind" : Str) = "left" by decide +kernel)]
      rw [if_neg (show ¬ ("behind" : Str) = "ahead" by decide +kernel)]
      rw [if_pos rfl]
    rw [hB] at kB
    exact kB _ s6
  · refine ite2 (fun q => absurd (of_decide_eq_true q) (fun z => absurd (V.str.inj z) (by decide +kernel))) (fun _ => ?_)
    refine ⟨_, rfl, _, rfl, p, .bl (decide (0 < d.blanks)), rfl, dg (k := .inr "blank") v6 rfl, ?_⟩
    have hB : holdsB "blank" wd e d = (decide (0 < d.blanks)) := by
      unfold holdsB
      rw [if_neg (show ¬ ("blank" : Str) = "broken" by decide +kernel)]
      rw [if_neg (show ¬ ("blank" : Str) = "marked" by decide +kernel)]
      rw [if_neg (show ¬ ("blank" : Str) = "left" by decide +kernel)]
      rw [if_neg (show ¬ ("blank" : Str) = "ahead" by decide +kernel)]
      rw [if_neg (show ¬ ("blank" : Str) = "behind" by decide +kernel)]
      rw [if_pos rfl]
    rw [hB] at kB
    exact kB _ s6
  · refine ite2 (fun q => absurd (of_decide_eq_true q) (fun z => absurd (V.str.inj z) (by decide +kernel))) (fun _ => ?_)
    refine ⟨_, rfl, _, rfl, p, .bl (isLong wd d), rfl, dg (k := .inr "long") v6 rfl, ?_⟩
    have hB : holdsB "long" wd e d = (isLong wd d) := by
      unfold holdsB
      rw [if_neg (show ¬ ("long" : Str) = "broken" by decide +kernel)]
      rw [if_neg (show ¬ ("long" : Str) = "marked" by decide +kernel)]
      rw [if_neg (show ¬ ("long" : Str) = "left" by decide +kernel)]
      rw [if_neg (show ¬ ("long" : Str) = "ahead" by decide +kernel)]
      rw [if_neg (show ¬ ("long" : Str) = "behind" by decide +kernel)]
      rw [if_neg (show ¬ ("long" : Str) = "blank" by decide +kernel)]
      rw [if_pos rfl]
    rw [hB] at kB
    exact kB _ s6
  · refine ite2 (fun q => absurd (of_decide_eq_true q) (fun z => absurd (V.str.inj z) (by decide +kernel))) (fun _ => ?_)
    refine ⟨_, rfl, _, rfl, p, .bl (decide (ev = .non)), rfl, dg (k := .inr "first") v6 rfl, ?_⟩
    have hB : holdsB "first" wd e d = e.isNone := by
      unfold holdsB
      rw [if_neg (show ¬ ("first" : Str) = "broken" by decide +kernel)]
      rw [if_neg (show ¬ ("first" : Str) = "marked" by decide +kernel)]
      rw [if_neg (show ¬ ("first" : Str) = "left" by decide +kernel)]
      rw [if_neg (show ¬ ("first" : Str) = "ahead" by decide +kernel)]
      rw [if_neg (show ¬ ("first" : Str) = "behind" by decide +kernel)]
      rw [if_neg (show ¬ ("first" : Str) = "blank" by decide +kernel)]
      rw [if_neg (show ¬ ("first" : Str) = "long" by decide +kernel)]
      rw [if_pos rfl]
    rw [hB] at kB
    have ef : decide (ev = .non) = e.isNone := by
      rcases he with ⟨rfl, rfl⟩ | ⟨x, rfl, ⟨_, _, rfl, _⟩⟩
      · exact decide_eq_true rfl
      · exact decide_eq_false (fun z => by cases z)
    rw [ef]
    exact kB _ s6
  · refine ite2 (fun _ => ?_) (fun q => absurd (decide_eq_true (congrArg V.str (by decide +kernel))) q)
    have hB := hB_afterbroken wd e d
    rw [hB] at kB
    rcases he with ⟨rfl, rfl⟩ | ⟨x, rfl, ⟨b, pb, rfl, hb, _⟩⟩
    · exact ⟨_, rfl, rfl, _, rfl, iteF (kB _ s6)⟩
    · refine ⟨_, rfl, rfl, _, rfl, iteT ⟨_, rfl, rfl, _, rfl, ?_⟩⟩
      refine ite2 (fun _ => ?_) (fun q => absurd (decide_eq_true rfl) q)
      exact ⟨_, rfl, b, _, _, _, rfl, rfl, SqTm s6 hb, pi2, kB _ s6⟩
  · refine ite2 (fun _ => ?_) (fun q => absurd (decide_eq_true (congrArg V.str (by decide +kernel))) q)
    have hB := hB_afterbehind wd e d
    rw [hB] at kB
    rcases he with ⟨rfl, rfl⟩ | ⟨x, rfl, ⟨b, pb, rfl, hb, _⟩⟩
    · exact ⟨_, rfl, rfl, _, rfl, iteF (kB _ s6)⟩
    · refine ⟨_, rfl, rfl, _, rfl, iteT ⟨_, rfl, rfl, _, rfl, ?_⟩⟩
      refine ite2 (fun q => absurd (V.str.inj (of_decide_eq_true q)) (by decide +kernel)) (fun _ => ?_)
      refine ⟨_, rfl, b, _, _, _, rfl, rfl, SqTm s6 hb, pi5, rfl, ?_⟩
      rw [neV]
      exact kB _ s6
def sp_law_no : Sp := fun _ _ _ _ => False
theorem cal_law_no (T : Txt K mg) : Cal P w K mg base 0 "_law_holds" sp_law_no [] := by
  obtain ⟨fd, F⟩ := T.d_law_holds
  exact ⟨_, fd, _, [], ⟨fun _ _ _ _ h => h.elim, fun _ _ _ _ _ _ _ _ _ _ _ _ _ h => h.elim⟩, T.g_law_holds, F.kp, bi_law_holds F, .nil⟩
theorem cal_law_holds1 (T : Txt K mg) : Cal P w K mg base 3 "_law_holds" (sp_law_holdsIn tests10 K) [] := by
  obtain ⟨fd, F⟩ := T.d_law_holds
  have h1 : ∀ t ∈ tests10, t.length ≤ 100 ∧ hd4 t ≠ "not " := by decide +kernel
  exact mkCal F T.g_law_holds (bi_law_holds F) sc_law_holds (fun vs H Q E h => len_law_holdsIn h) (body_law_holds T (Nat.le_refl 2) (Nat.zero_le 2) (cal_law_no T) (fun t m => ⟨(h1 t m).1, .inr ⟨(h1 t m).2, m⟩⟩) fun t m e => absurd e (h1 t m).2)
theorem cal_law_holds (T : Txt K mg) : Cal P w K mg base 4 "_law_holds" (sp_law_holds K) [] := by
  obtain ⟨fd, F⟩ := T.d_law_holds
  exact mkCal F T.g_law_holds (bi_law_holds F) sc_law_holds (fun vs H Q E h => len_law_holdsIn h) (body_law_holds T (by decide) (Nat.le_refl 3) (cal_law_holds1 T) test_split fun t m e vs H Q E h => h)
end
end Lt
set_option Elab.async false
set_option linter.all false
set_option maxRecDepth 100000
set_option maxHeartbeats 8000000
/-! data of the law; rows laid by the law -/
namespace Lt
open PySem PySem.Spec PyProof.Rows L2
open C8 (Cal Met Mak pe_c pe_mk pe_mt pe_mt0 pe_gc)
/-! ### data -/
theorem ix_tupK {X : Cx} (K : Fg) (h : X.K = K) : IxR X (rIxT K) := h ▸ ix_tup
theorem dpAll_of {α : Type} {K : Fg} {H : Hp} {F : V → α → Prop} {f : α → PyData} (h : ∀ v d, F v d → Dp K H v (f d)) : ∀ {vs : List V} {ds : List α}, Paired F vs ds → DpAll K H vs (ds.map f)
  | _, _, .nil => .nil
  | _, _, .cons a b => .cons (h _ _ a) (dpAll_of h b)
theorem dp_strs {K : Fg} {H : Hp} : ∀ xs : List Str, DpAll K H (xs.map V.str) (xs.map .str)
  | [] => .nil
  | x :: r => .cons (.str x) (dp_strs r)
theorem dp_ints {K : Fg} {H : Hp} : ∀ xs : List Int, DpAll K H (xs.map V.int) (xs.map .int)
  | [] => .nil
  | x :: r => .cons (.int x) (dp_ints r)
theorem dp_pt {K : Fg} {H : Hp} {v : V} {d : PcD} (h : PtAt K H v d) : Dp K H v (pcData d) := by
  obtain ⟨a, pa, rfl, ha, hp, ok⟩ := h
  exact .tup ha (.cons (.str _) (.cons (.tup hp (dp_strs _)) (.cons (.bl _) (.cons (.bl _) (.cons (.str _) (.cons (.str _) (.cons (.int _) (.cons (.bl _) .nil))))))))
/-- data that is laid out, not deep -/
def Fine (n : Nat) (d : PyData) : Prop := PyData.canLay0 d = true ∧ PyData.depth d ≤ n
theorem fine_all {n : Nat} {α : Type} {f : α → PyData} : ∀ {xs : List α}, (∀ x ∈ xs, Fine n (f x)) → PyData.canLayAll0 (xs.map f) = true ∧ PyData.depthAll (xs.map f) ≤ n
  | [], _ => ⟨rfl, Nat.zero_le _⟩
  | x :: r, h => by
    obtain ⟨h1, h2⟩ := h x List.mem_cons_self
    obtain ⟨h3, h4⟩ := fine_all (xs := r) fun y hy => h y (List.mem_cons_of_mem _ hy)
    exact ⟨Bool.and_eq_true_iff.mpr ⟨h1, h3⟩, Nat.max_le.mpr ⟨h2, h4⟩⟩
theorem fine_list {n : Nat} {α : Type} {f : α → PyData} {xs : List α} (h : ∀ x ∈ xs, Fine n (f x)) : Fine (n + 1) (.list (xs.map f)) := by
  obtain ⟨h1, h2⟩ := fine_all h
  exact ⟨h1, Nat.succ_le_succ h2⟩
theorem fine_tup {n : Nat} {α : Type} {f : α → PyData} {xs : List α} (h : ∀ x ∈ xs, Fine n (f x)) : Fine (n + 1) (.tuple (xs.map f)) := by
  obtain ⟨h1, h2⟩ := fine_all h
  exact ⟨h1, Nat.succ_le_succ h2⟩
theorem Fine.shaped {n : Nat} {d : PyData} (h : Fine n d) (hn : n ≤ 64) : SeqAt.shaped d = true := Bool.and_eq_true_iff.mpr ⟨h.1, decide_eq_true (Nat.le_trans h.2 hn)⟩
theorem fine_str {n : Nat} {z : Str} (h : z = "" ∨ nameOk z) : Fine n (.str z) := ⟨strOk_rem h, Nat.zero_le _⟩
theorem fine_word {n : Nat} {z : Str} (h : PyData.strOk z = true) : Fine n (.str z) := ⟨h, Nat.zero_le _⟩
theorem fine_int {n : Nat} {i : Int} : Fine n (.int i) := ⟨rfl, Nat.zero_le _⟩
theorem fine_bool {n : Nat} {b : Bool} : Fine n (.bool b) := ⟨rfl, Nat.zero_le _⟩
theorem fine_strs {n : Nat} {xs : List Str} (h : ∀ x ∈ xs, x = "" ∨ nameOk x) : Fine (n + 1) (strsD xs) := fine_tup fun x m => fine_str (h x m)
theorem fine_cons {n : Nat} {d : PyData} {ds : List PyData} (h1 : Fine n d) (h2 : Fine (n + 1) (.tuple ds)) : Fine (n + 1) (.tuple (d :: ds)) :=
  ⟨Bool.and_eq_true_iff.mpr ⟨h1.1, h2.1⟩, Nat.succ_le_succ (Nat.max_le.mpr ⟨h1.2, Nat.le_of_succ_le_succ h2.2⟩)⟩
theorem fine_nil {n : Nat} : Fine (n + 1) (.tuple []) := ⟨rfl, Nat.succ_le_succ (Nat.zero_le _)⟩
theorem fine_pc {d : PcD} (ok : d.ok) : Fine 2 (pcData d) :=
  fine_cons (fine_str (.inr ok.word)) (fine_cons (fine_strs fun x m => .inr (ok.parts x m)) (fine_cons fine_bool (fine_cons fine_bool (fine_cons (fine_str ok.ahead) (fine_cons (fine_str ok.behind) (fine_cons fine_int (fine_cons fine_bool fine_nil)))))))
theorem fine_pcs {ds : List PcD} (ok : ∀ d ∈ ds, d.ok) : Fine 3 (pcsData ds) := fine_list fun d m => fine_pc (ok d m)
theorem PtAt.isOk {K : Fg} {H : Hp} {v : V} {d : PcD} (h : PtAt K H v d) : d.ok := by
  obtain ⟨_, _, _, _, _, ok⟩ := h
  exact ok
theorem PtAll.oks {K : Fg} {H : Hp} {vs : List V} {ds : List PcD} (h : PtAll K H vs ds) : ∀ d ∈ ds, d.ok := by
  intro d m
  obtain ⟨i, hi⟩ := List.getElem?_of_mem m
  obtain ⟨v, _, hv⟩ := Paired.get1 h hi
  exact hv.isOk
theorem dp_pts {K : Fg} {H : Hp} {l : Addr} {vs : List V} {ds : List PcD} (hl : SqL K H l vs) (h : PtAll K H vs ds) : Dp K H (.ref l) (pcsData ds) := .lst hl (dpAll_of (F := PtAt K H) (fun _ _ z => dp_pt z) h)
theorem eqv_nil {ds : List PyData} : PyData.eqv (.list ds) (.list []) = decide (ds = []) := by
  cases ds with
  | nil => rfl
  | cons => rfl
theorem dmono (K : Fg) {H H' : Hp} (e : Same H H') : (∀ v d, Dp K H v d → Dp K H' v d) ∧ ∀ vs ds, DpAll K H vs ds → DpAll K H' vs ds := by
  constructor
  · intro v d h
    refine Dp.rec (motive_1 := fun v d _ => Dp K H' v d) (motive_2 := fun vs ds _ => DpAll K H' vs ds) ?_ ?_ ?_ ?_ ?_ ?_ ?_ ?_ h
    · exact .non
    · exact fun b => .bl b
    · exact fun i => .int i
    · exact fun x => .str x
    · exact fun h _ r => .lst (SqLm e h) r
    · exact fun h _ r => .tup (SqTm e h) r
    · exact .nil
    · exact fun _ _ a b => .cons a b
  · intro v d h
    refine DpAll.rec (motive_1 := fun v d _ => Dp K H' v d) (motive_2 := fun vs ds _ => DpAll K H' vs ds) ?_ ?_ ?_ ?_ ?_ ?_ ?_ ?_ h
    · exact .non
    · exact fun b => .bl b
    · exact fun i => .int i
    · exact fun x => .str x
    · exact fun h _ r => .lst (SqLm e h) r
    · exact fun h _ r => .tup (SqTm e h) r
    · exact .nil
    · exact fun _ _ a b => .cons a b
theorem Dp.up {K : Fg} {H H' : Hp} {v : V} {d : PyData} (e : Same H H') (h : Dp K H v d) : Dp K H' v d := (dmono K e).1 v d h
/-- a list and the empty list -/
theorem eq0 {K : Fg} {H : Hp} {Q : VK} {x : V} {ds : List PyData} {g : Addr} {n : Nat} (hx : Dp K H x (.list ds)) (hs : Fine n (.list ds)) (hn : n ≤ 64) (ng : H g = none) (k : Q (.bl (decide (ds = []))) (upd H g (.lst []))) : rEqD K x (.ref g) (upd H g (.lst [])) Q := by
  refine ⟨.list ds, .list [], Dp.up (same_new ng) hx, .lst (SqL.of upd_same) .nil, hs.shaped hn, rfl, ?_⟩
  rw [eqv_nil]
  exact k
theorem ne0 {K : Fg} {H : Hp} {Q : VK} {x : V} {ds : List PyData} {g : Addr} {n : Nat} (hx : Dp K H x (.list ds)) (hs : Fine n (.list ds)) (hn : n ≤ 64) (ng : H g = none) (k : Q (.bl (!decide (ds = []))) (upd H g (.lst []))) : rNeD K x (.ref g) (upd H g (.lst [])) Q := by
  refine ⟨.list ds, .list [], Dp.up (same_new ng) hx, .lst (SqL.of upd_same) .nil, hs.shaped hn, rfl, ?_⟩
  rw [eqv_nil]
  exact k
/-! ### rows, tools as tuples -/
def RtAt (K : Fg) (G : Hp) (v : V) (r : RwD) : Prop := ∃ a ta da, v = .ref a ∧ SqT K G a [.ref ta, .ref da] ∧ SqT K G ta (r.1.map V.str) ∧ SqT K G da (r.2.map V.str) ∧ RwOk r
theorem RtAt.mono {K : Fg} {G G' : Hp} {v : V} {r : RwD} (e : Same G G') (h : RtAt K G v r) : RtAt K G' v r := by
  obtain ⟨a, ta, da, h1, h2, h3, h4, h5⟩ := h
  exact ⟨a, ta, da, h1, SqTm e h2, SqTm e h3, SqTm e h4, h5⟩
theorem Ow.rt {K : Fg} {S : Sg} {H : Hp} {v : V} {r : RwD} (w : Ow S H) (h : RtAt K H v r) : RtAt K (msk S H) v r := by
  obtain ⟨a, ta, da, h1, h2, h3, h4, h5⟩ := h
  exact ⟨a, ta, da, h1, w.tup h2, w.tup h3, w.tup h4, h5⟩
def TtAt (K : Fg) (G : Hp) (v : V) (t : TlD) : Prop := ∃ a ra vs, v = .ref a ∧ SqT K G a [.ref ra, .bl t.sorts] ∧ SqT K G ra vs ∧ Paired (RtAt K G) vs t.rows ∧ t.ok
theorem TtAt.mono {K : Fg} {G G' : Hp} {v : V} {t : TlD} (e : Same G G') (h : TtAt K G v t) : TtAt K G' v t := by
  obtain ⟨a, ra, vs, h1, h2, h3, h4, h5⟩ := h
  exact ⟨a, ra, vs, h1, SqTm e h2, SqTm e h3, pairedM (fun _ _ z => z.mono e) h4, h5⟩
theorem Ow.tt {K : Fg} {S : Sg} {H : Hp} {v : V} {t : TlD} (w : Ow S H) (h : TtAt K H v t) : TtAt K (msk S H) v t := by
  obtain ⟨a, ra, vs, h1, h2, h3, h4, h5⟩ := h
  exact ⟨a, ra, vs, h1, w.tup h2, w.tup h3, pairedM (fun _ _ z => w.rt z) h4, h5⟩
theorem test_fine {n : Nat} {t : Str} (h : t ∈ tests20) : Fine n (.str t) := by
  have g : ∀ t ∈ tests20, PyData.strOk t = true := by decide +kernel
  exact fine_word (g t h)
section
variable {P : Program} {w : World} {K : Fg} {mg : Str → Option Value} {base : Heap}
end
end Lt
set_option Elab.async false
set_option linter.all false
set_option maxRecDepth 100000
set_option maxHeartbeats 8000000
/-! rows laid by the law -/
namespace Lt
open PySem PySem.Spec PyProof.Rows L2
open C8 (Cal Met Mak pe_c pe_mk pe_mt pe_mt0 pe_gc)
section
variable {P : Program} {w : World} {K : Fg} {mg : Str → Option Value} {base : Heap}
def sp_law_laid (K : Fg) : Sp := fun vs H Q _ => ∃ (wd : Int) (tv ev v : V) (tl : TlD) (e : Option PcD) (d : PcD), vs = [tv, .int wd, ev, v] ∧ TtAt K H tv tl ∧ EtAt K H ev e ∧ PtAt K H v d ∧
  ∀ u H', Same H H' → PtAt K H' u (laid tl.rows wd e d) → Q u H'
theorem len_law_laid {vs H Q E} (h : sp_law_laid K vs H Q E) : vs.length = 4 := by
  obtain ⟨_, _, _, _, _, _, _, rfl, _⟩ := h
  rfl
theorem filt_yes {f : Str → Bool} {xs : List Str} {z : Str} (h : f z = true) : (xs ++ [z]).filter f = xs.filter f ++ [z] := by
  rw [List.filter_append, List.filter_cons_of_pos h, List.filter_nil]
theorem filt_no {f : Str → Bool} {xs : List Str} {z : Str} (h : ¬ f z = true) : (xs ++ [z]).filter f = xs.filter f := by
  rw [List.filter_append, List.filter_cons_of_neg h, List.filter_nil, List.append_nil]
theorem filter_nil {f : Str → Bool} {l : List Str} : (l.filter fun t => !f t) = [] ↔ l.all f = true := by
  rw [List.filter_eq_nil_iff, List.all_eq_true]
  constructor
  · intro h x m
    have := h x m
    simpa using this
  · intro h x m
    rw [h x m]
    decide
theorem sc_law_laid : FnScope ["_law_tool_here", "_law_width_here", "_law_elder", "_law_piece_here", "_law_tests_here", "_law_deeds_here", "_law_deed", "_law_test"] ["_law_tool_here", "_law_width_here", "_law_elder", "_law_piece_here"] (defScope d_law_laid.st) := ⟨rfl, rfl, rfl, by decide +kernel, rfl, by decide +kernel, by decide +kernel⟩
theorem bi_law_laid {K : Fg} {fd : FuncData} (F : FnD K d_law_laid fd) : Binds K fd ["_law_tool_here", "_law_width_here", "_law_elder", "_law_piece_here"] [] := FunD.bindsN F fun _ _ _ _ _ _ us hl => match us, hl with | [_, _, _, _], _ => rfl
theorem body_law_laid (T : Txt K mg) : BodyOk P w K mg base 4 ["_law_tool_here", "_law_width_here", "_law_elder", "_law_piece_here", "_law_tests_here", "_law_deeds_here", "_law_deed", "_law_test"] d_law_laid (sp_law_laid K) := by
  intro cdv A outer s H vs Q E hr h
  obtain ⟨wd, tv, ev, v, tl, e, d, rfl, ⟨t, ra, us, rfl, ht, hra, hrs, okt⟩, he, hd, k⟩ := h
  have nd := sc_law_laid.nd
  refine ⟨_, (pss_cons (ps_for PassesOwn.never rfl (pi_tup (pe_ix ix_tup (pv 0) pe_int (fun _ _ => rfl))) (pg_tup rfl (pgs_cons (pg_name (i := 4) nd rfl (Or.inl rfl)) (pgs_cons (pg_name (i := 5) nd rfl (Or.inl rfl)) pgs_nil))) (pss_one (ps_if (pt_cmpR (op_eqD hr.units) (pe_lc (own := [("_law_test", 7)]) (g := gName 7) rfl nd (pi_tup (pv 4)) (blkOk_by (N := ["_law_tool_here", "_law_width_here", "_law_elder", "_law_piece_here", "_law_tests_here", "_law_deeds_here", "_law_deed", "_law_test"]) (sc := defScope d_law_laid.st) (by decide +kernel)) (fun _ _ _ _ _ => (pg_name (i := 7) nd rfl (Or.inl rfl))) (fun _ _ _ _ _ => pts_one (pt_not (pt_val (pe_c (cal_law_holds T) hr (by decide) (by rfl) (pa_cons (pv 7) (pa_cons (pv 1) (pa_cons (pv 2) (pa_cons (pv 3) pa_nil)))))))) (fun _ _ _ _ _ => (pv 7))) (pe_lst pa_nil) (nomark _)) (pss_one (ps_for PassesOwn.never rfl (pi_tup (pv 5)) (pg_name (i := 6) nd rfl (Or.inl rfl)) (pss_one (ps_set (i := 3) nd rfl (Or.inr rfl) (pe_c (cal_law_did T) hr (by decide) (by rfl) (pa_cons (pv 6) (pa_cons (pv 3) pa_nil))))))) pss_nil)))
      (pss_one (ps_ret (pv 3)))), ?_⟩
  have lu : us.length = tl.rows.length := Paired.lenE hrs
  refine ⟨_, rfl, t, _, _, _, rfl, rfl, ht, at0, ra, rfl, ⟨_, hra⟩, ?_⟩
  refine for_tup (xs := us) (fun i σ H' => ∃ b v4 v5 v6 v7, σ = [some (.ref t), some (.int wd), some ev, some b, v4, v5, v6, v7] ∧ Same H H' ∧ PtAt K H' b (laid (tl.rows.take i) wd e d)) ⟨v, none, none, none, none, rfl, Same.refl _, hd⟩ (fun i σ H' _ ⟨_, _, _, _, _, _, s1, _⟩ => SqTm s1 hra) ?_ ?_
  · rintro i x σ H1 hx ⟨b, v4, v5, v6, v7, rfl, s1, hb⟩
    obtain ⟨r, hr', hrow⟩ := Paired.get0 hrs hx
    obtain ⟨q, ta, da, rfl, hq, hta, hda, okr⟩ := hrow.mono s1
    rw [laid_succ hr']
    generalize laid (tl.rows.take i) wd e d = d1 at hb ⊢
    refine ⟨q, _, rfl, hq, rfl, _, _, rfl, _, _, rfl, rfl, ?_⟩
    refine ⟨_, rfl, ta, rfl, ⟨_, hta⟩, fun D hD => ?_⟩
    refine lc_go walk_tup (fun j acc H' => Same H1 H' ∧ acc = ((r.1.take j).filter fun z => !holds z wd e d1).map V.str) ⟨same_new hD, rfl⟩ (fun j acc H' _ p _ => SqTm p.1 hta) (fun j x acc Ha Hb hj hl ⟨p1, p2⟩ hD1 y => ?_) (fun acc H2 hl ⟨p1, p2⟩ hD1 => ?_)
    · obtain ⟨rfl, hx2⟩ := y
      rw [List.getElem?_map] at hx2
      obtain ⟨z, hz, rfl⟩ := Option.map_eq_some_iff.mp hx2
      rw [List.length_map] at hj
      have h4 := okr.few
      refine ⟨rfl, ?_⟩
      refine ⟨_, rfl, _, rfl, _, rfl, _, rfl, z, wd, ev, b, e, d1, rfl, okr.tests z (List.mem_of_getElem? hz), he.mono (s1.trans p1), hb.mono p1, fun Hc sc => ⟨_, rfl, ?_⟩⟩
      refine ite2 (fun g => ?_) (fun g => ?_)
      · refine ⟨_, rfl, ?_⟩
        refine lc_put (sc _ _ hD1) hl (by omega) ⟨(p1.trans sc).mut hD, ?_⟩
        have g' : (!holds z wd e d1) = true := g
        rw [p2, List.take_add_one, hz, Option.toList_some, filt_yes (f := fun z => !holds z wd e d1) g', List.map_append]
        rfl
      · refine ⟨acc, Nat.le_succ_of_le hl, sc _ _ hD1, p1.trans sc, ?_⟩
        have g' : ¬ (!holds z wd e d1) = true := g
        rw [p2, List.take_add_one, hz, Option.toList_some, filt_no (f := fun z => !holds z wd e d1) g']
    · rw [List.length_map, List.take_length] at p2
      have hf : ∀ x ∈ r.1.filter fun z => !holds z wd e d1, Fine 1 (PyData.str x) := fun x m => test_fine (okr.tests x (List.mem_filter.mp m).1)
      have hDp : Dp K H2 (.ref D) (.list ((r.1.filter fun z => !holds z wd e d1).map .str)) := .lst (SqL.of (by rw [hD1, p2])) (dp_strs _)
      refine ⟨sz (by simp), fun g ng => eq0 (n := 2) hDp (fine_list hf) (by decide) ng ⟨_, rfl, ?_⟩⟩
      have s2 : Same H1 (upd H2 g (.lst [])) := p1.grow ng
      generalize upd H2 g (.lst []) = H3 at s2
      refine ite2 (fun q => ?_) (fun q => ?_)
      · have q1 : r.1.all (fun t => holds t wd e d1) = true := filter_nil.mp (List.map_eq_nil_iff.mp (of_decide_eq_true q))
        have el : laid1 wd e r d1 = dids r.2 d1 := by
          unfold laid1
          rw [if_pos q1]
        rw [el]
        refine ⟨_, rfl, da, rfl, ⟨_, SqTm s2 hda⟩, ?_⟩
        refine for_tup (xs := r.2.map V.str) (fun j σ H' => ∃ b v6, σ = [some (.ref t), some (.int wd), some ev, some b, some (.ref ta), some (.ref da), v6, v7] ∧ Same H3 H' ∧ PtAt K H' b (dids (r.2.take j) d1)) ⟨b, _, rfl, Same.refl _, hb.mono s2⟩ (fun j σ H' _ ⟨_, _, _, s3, _⟩ => SqTm (s2.trans s3) hda) ?_ ?_
        · rintro j x σ H4 hx3 ⟨b3, v6, rfl, s3, hb3⟩
          rw [List.getElem?_map] at hx3
          obtain ⟨z, hz, rfl⟩ := Option.map_eq_some_iff.mp hx3
          rw [dids_succ hz]
          exact ⟨_, rfl, _, rfl, z, b3, _, rfl, okr.deeds z (List.mem_of_getElem? hz), hb3, fun b4 H4 s4 hb4 => ⟨b4, _, rfl, s3.trans s4, hb4⟩⟩
        · rintro σ H4 ⟨b3, v6, rfl, s3, hb3⟩
          rw [List.length_map, List.take_length] at hb3
          exact ⟨b3, _, _, _, _, rfl, (s1.trans s2).trans s3, hb3⟩
      · have q1 : ¬ r.1.all (fun t => holds t wd e d1) = true := fun z => q (decide_eq_true (List.map_eq_nil_iff.mpr (filter_nil.mpr z)))
        have el : laid1 wd e r d1 = d1 := by
          unfold laid1
          rw [if_neg q1]
        rw [el]
        exact ⟨b, _, _, _, _, rfl, s1.trans s2, hb.mono s2⟩
  · rintro σ H1 ⟨b, v4, v5, v6, v7, rfl, s1, hb⟩
    rw [lu, List.take_length] at hb
    exact ⟨_, rfl, k b _ s1 hb⟩
theorem cal_law_laid (T : Txt K mg) : Cal P w K mg base 5 "_law_laid" (sp_law_laid K) [] := by
  obtain ⟨fd, F⟩ := T.d_law_laid
  exact mkCal F T.g_law_laid (bi_law_laid F) sc_law_laid (fun vs H Q E h => len_law_laid h) (body_law_laid T)
def sp_law_rows_done (K : Fg) : Sp := fun vs H Q _ => ∃ (tv : V) (wd : Int) (l : Addr) (tl : TlD) (us : List V) (ps : List PcD), vs = [tv, .int wd, .ref l] ∧ TtAt K H tv tl ∧ SqL K H l us ∧ PtAll K H us ps ∧ ps.length ≤ 40 ∧
  ∀ f ws H', Same H H' → H f = none → H' f = some (.lst ws) → PtAll K H' ws (rowsDone tl.rows wd ps) → Q (.ref f) H'
theorem len_law_rows_done {vs H Q E} (h : sp_law_rows_done K vs H Q E) : vs.length = 3 := by
  obtain ⟨_, _, _, _, _, _, rfl, _⟩ := h
  rfl
def lrInv (K : Fg) (tv : V) (wd : Int) (l f : Addr) (H : Hp) (tl : TlD) (ps : List PcD) (i : Nat) (σ : L2.St) (H' : Hp) : Prop :=
  ∃ acc v4, σ = [some tv, some (.int wd), some (.ref l), some (.ref f), v4] ∧ Same H H' ∧ H' f = some (.lst acc) ∧ PtAll K H' acc (rowsDone tl.rows wd (ps.take i))
theorem PtAt.wr {K : Fg} {H : Hp} {v : V} {d : PcD} {f : Addr} {xs ys : List V} (h : PtAt K H v d) (e : H f = some (.lst xs)) : PtAt K (upd H f (.lst ys)) v d := by
  obtain ⟨a, pa, h1, h2, h3, h4⟩ := h
  exact ⟨a, pa, h1, SqT_w h2 e (fun _ z => by cases z) (fun _ _ z => by cases z), SqT_w h3 e (fun _ z => by cases z) (fun _ _ z => by cases z), h4⟩
theorem PtAll.wr {K : Fg} {H : Hp} {vs : List V} {ds : List PcD} {f : Addr} {xs ys : List V} (h : PtAll K H vs ds) (e : H f = some (.lst xs)) : PtAll K (upd H f (.lst ys)) vs ds := pairedM (fun _ _ z => z.wr e) h
theorem TtAt.wr {K : Fg} {H : Hp} {v : V} {t : TlD} {f : Addr} {xs ys : List V} (h : TtAt K H v t) (e : H f = some (.lst xs)) : TtAt K (upd H f (.lst ys)) v t := by
  obtain ⟨a, ra, vs, h1, h2, h3, h4, h5⟩ := h
  refine ⟨a, ra, vs, h1, SqT_w h2 e (fun _ z => by cases z) (fun _ _ z => by cases z), SqT_w h3 e (fun _ z => by cases z) (fun _ _ z => by cases z), pairedM (fun v r ⟨a, ta, da, k1, k2, k3, k4, k5⟩ => ⟨a, ta, da, k1, SqT_w k2 e (fun _ z => by cases z) (fun _ _ z => by cases z), SqT_w k3 e (fun _ z => by cases z) (fun _ _ z => by cases z), SqT_w k4 e (fun _ z => by cases z) (fun _ _ z => by cases z), k5⟩) h4, h5⟩
theorem sc_law_rows_done : FnScope ["_law_tool_here", "_law_width_here", "_law_pieces_here", "_law_found", "_law_piece_here"] ["_law_tool_here", "_law_width_here", "_law_pieces_here"] (defScope d_law_rows_done.st) := ⟨rfl, rfl, rfl, by decide +kernel, rfl, by decide +kernel, by decide +kernel⟩
theorem bi_law_rows_done {K : Fg} {fd : FuncData} (F : FnD K d_law_rows_done fd) : Binds K fd ["_law_tool_here", "_law_width_here", "_law_pieces_here"] [] := FunD.bindsN F fun _ _ _ _ _ _ us hl => match us, hl with | [_, _, _], _ => rfl
theorem body_law_rows_done (T : Txt K mg) : BodyOk P w K mg base 5 ["_law_tool_here", "_law_width_here", "_law_pieces_here", "_law_found", "_law_piece_here"] d_law_rows_done (sp_law_rows_done K) := by
  intro cdv A outer s H vs Q E hr h
  obtain ⟨tv, wd, l, tl, us, ps, rfl, ht, hl, hps, h40, k⟩ := h
  have nd := sc_law_rows_done.nd
  refine ⟨_, (pss_cons (ps_set (i := 3) nd rfl (Or.inl rfl) (pe_lst pa_nil))
      (pss_cons (ps_for PassesOwn.never rfl (pi_list (pv 2)) (pg_name (i := 4) nd rfl (Or.inl rfl)) (pss_one (ps_expr (pe_bm PySem.F.plainAttrs_list PySem.F.slot_list_append PySem.F.type_list_append mt_append (pv 3) (pa_cons (pe_c (cal_law_laid T) hr (by decide) (by rfl) (pa_cons (pv 0) (pa_cons (pv 1) (pa_cons (pe_ifExp (pt_cmpR (op_neD hr.units) (pv 3) (pe_lst pa_nil) (nomark _)) (pe_ix ix_list (pv 3) (pe_un un_neg pe_int) (fun _ _ => rfl)) pe_non) (pa_cons (pv 4) pa_nil))))) pa_nil)))))
      (pss_one (ps_ret (pv 3))))), ?_⟩
  have lu : us.length = ps.length := Paired.lenE hps
  refine ⟨sz (by simp), fun f nf => ?_⟩
  have s0 : Same H (upd H f (.lst [])) := same_new nf
  have v0 : (upd H f (.lst [])) f = some (.lst []) := upd_same
  generalize upd H f (.lst []) = H0 at s0 v0
  refine ⟨_, rfl, l, rfl, ⟨_, SqLm s0 hl⟩, ?_⟩
  refine for_it walk_list (lrInv K tv wd l f H tl ps) ⟨[], none, rfl, s0, v0, .nil⟩ (fun i σ H' _ ⟨_, _, _, e, _⟩ => SqLm e hl) ?_ ?_
  · rintro i x σ H1 H2 hi ⟨acc, v4, rfl, s1, vf, ha⟩ ⟨rfl, hx⟩
    obtain ⟨d, hd, hxd⟩ := Paired.get0 hps hx
    have e9 := rowsDone_succ (rows := tl.rows) (wd := wd) hd
    have la := Paired.lenE ha
    rw [rowsDone_len, List.length_take] at la
    generalize rowsDone tl.rows wd (ps.take i) = rd at ha e9
    refine ⟨_, rfl, .inl ⟨rfl, _, SqL.of vf⟩, _, rfl, _, rfl, _, rfl, sz (by simp), fun g ng => ?_⟩
    refine ne0 (dp_pts (SqL.of vf) ha) (fine_pcs ha.oks) (by decide) ng ⟨_, rfl, ?_⟩
    have s1' : Same H2 (upd H2 g (.lst [])) := same_new ng
    generalize upd H2 g (.lst []) = H3 at s1'
    refine ifE (fun v H' => H' = H3 ∧ EtAt K H3 v rd.getLast?) (fun q Q q2 => ?_) (fun q Q q2 => ?_) ?_
    · rcases paired_last ha with ⟨e1, e2⟩ | ⟨ini, y, jni, z, e1, e2, fy⟩
      · rw [e2] at q
        exact absurd q (by decide)
      · subst e1 e2
        exact ⟨_, rfl, 1, rfl, f, _, _, _, rfl, rfl, SqL.of (s1' _ _ vf), atI_last _ _, q2 _ _ ⟨rfl, .inr ⟨z, by simp, fy.mono s1'⟩⟩⟩
    · rcases paired_last ha with ⟨e1, e2⟩ | ⟨ini, y, jni, z, e1, e2, fy⟩
      · exact q2 _ _ ⟨rfl, .inl ⟨by rw [e2]; rfl, rfl⟩⟩
      · exfalso
        apply q
        rw [e2]
        simp
    rintro ev H4 ⟨e3, he⟩
    rw [e3]
    refine ⟨_, rfl, wd, tv, ev, x, tl, rd.getLast?, d, rfl, ht.mono (s1.trans s1'), he, hxd.mono (s1.trans s1'), fun u H5 s5 hu => ?_⟩
    have vf5 := s5 _ _ (s1' _ _ vf)
    refine ⟨f, acc, _, rfl, rfl, vf5, szl (by omega), ?_⟩
    refine ⟨_, _, rfl, ((s1.trans s1').trans s5).mut nf, upd_same, ?_⟩
    rw [e9]
    exact Paired.app (PtAll.wr (ha.mono (s1'.trans s5)) vf5) (.cons (hu.wr vf5) .nil)
  · rintro σ H1 ⟨acc, v4, rfl, s1, vf, ha⟩
    rw [lu, List.take_length] at ha
    exact ⟨_, rfl, k f acc _ s1 nf vf ha⟩
theorem cal_law_rows_done (T : Txt K mg) : Cal P w K mg base 6 "_law_rows_done" (sp_law_rows_done K) [] := by
  obtain ⟨fd, F⟩ := T.d_law_rows_done
  exact mkCal F T.g_law_rows_done (bi_law_rows_done F) sc_law_rows_done (fun vs H Q E h => len_law_rows_done h) (body_law_rows_done T)
end
end Lt
set_option Elab.async false
set_option linter.all false
set_option maxRecDepth 100000
set_option maxHeartbeats 8000000
/-! order and runs by the law -/
namespace Lt
open PySem PySem.Spec PyProof.Rows L2
open C8 (Cal Met Mak pe_c pe_mk pe_mt pe_mt0 pe_gc)
theorem inO_succ {ps : List PcD} {i : Nat} {d : PcD} (h : ps[i]? = some d) : (ps.take (i + 1)).foldl inO ([], []) = inO ((ps.take i).foldl inO ([], [])) d := by
  rw [List.take_add_one, h, List.foldl_append]
  rfl
theorem srt_snoc (l : List PcD) (x : PcD) : srt (l ++ [x]) = insG ltKey x (srt l) := by
  unfold srt srtG
  rw [List.foldl_append]
  rfl
theorem srt_srtd (l : List PcD) : SrtO.Srtd ltKey (srt l) := (srtG_ok swo_key l [] [] List.Pairwise.nil (SrtO.Stb.refl [])).1
theorem cut2 {d : PcD} {pa : Addr} : cutV (pcArgs d pa) none (some 2) = [.str d.word, .ref pa] := by
  rfl
theorem dp_key {K : Fg} {H : Hp} {p pa : Addr} {d : PcD} (h : SqT K H p [.str d.word, .ref pa]) (hp : SqT K H pa (d.parts.map V.str)) : Dp K H (.ref p) (keyD d.word d.parts) := .tup h (.cons (.str _) (.cons (.tup hp (dp_strs _)) .nil))
section
variable {P : Program} {w : World} {K : Fg} {mg : Str → Option Value} {base : Heap}
def sp_law_in_order (K : Fg) : Sp := fun vs H Q _ => ∃ (l : Addr) (us : List V) (ps : List PcD), vs = [.ref l] ∧ SqL K H l us ∧ PtAll K H us ps ∧ ps.length ≤ 40 ∧
  ∀ f ws H', Same H H' → H f = none → H' f = some (.lst ws) → PtAll K H' ws (inOrder ps) → Q (.ref f) H'
theorem len_law_in_order {vs H Q E} (h : sp_law_in_order K vs H Q E) : vs.length = 1 := by
  obtain ⟨_, _, _, rfl, _⟩ := h
  rfl
def liInv (K : Fg) (l f : Addr) (H : Hp) (ps : List PcD) (i : Nat) (σ : L2.St) (H' : Hp) : Prop :=
  ∃ acc v1 v4, σ = [some (.ref l), v1, some (.ref f), some (.int (((ps.take i).foldl inO ([], [])).1.length : Nat)), v4] ∧ Same H H' ∧ H' f = some (.lst acc) ∧ PtAll K H' acc (((ps.take i).foldl inO ([], [])).1 ++ srt ((ps.take i).foldl inO ([], [])).2)
theorem sc_law_in_order : FnScope ["_law_pieces_here", "_law_piece_here", "_law_found", "_law_begin", "_law_at"] ["_law_pieces_here"] (defScope d_law_in_order.st) := ⟨rfl, rfl, rfl, by decide +kernel, rfl, by decide +kernel, by decide +kernel⟩
theorem bi_law_in_order {K : Fg} {fd : FuncData} (F : FnD K d_law_in_order fd) : Binds K fd ["_law_pieces_here"] [] := FunD.bindsN F fun _ _ _ _ _ _ us hl => match us, hl with | [_], _ => rfl
theorem body_law_in_order (T : Txt K mg) : BodyOk P w K mg base 1 ["_law_pieces_here", "_law_piece_here", "_law_found", "_law_begin", "_law_at"] d_law_in_order (sp_law_in_order K) := by
  intro cdv A outer s H vs Q E hr h
  obtain ⟨l, us, ps, rfl, hl, hps, h40, k⟩ := h
  have nd := sc_law_in_order.nd
  refine ⟨_, (pss_cons (ps_par (i := 2) (j := 3) rfl nd rfl rfl (by decide) rfl rfl (pa_cons (pe_lst pa_nil) (pa_cons pe_int pa_nil)) (by rfl))
      (pss_cons (ps_for PassesOwn.never rfl (pi_list (pv 0)) (pg_name (i := 1) nd rfl (Or.inl rfl)) (pss_cons (ps_set (i := 4) nd rfl (Or.inl rfl) (pe_callB call_len_seq (by rfl) T.b_len PySem.boot_len (pa_cons (pv 2) pa_nil)))
      (pss_cons (ps_if (pt_val (pe_c (cal_law_is_fence T) hr (by decide) (by rfl) (pa_cons (pv 1) pa_nil))) (pss_one (ps_set (i := 3) nd rfl (Or.inl rfl) (pe_op op_add (pv 4) pe_int))) (pss_one (ps_while PassesOwn.never (PW.pt (pw_and (pt_cmpR op_gt (pv 4) (pv 3) (nomark _)) (pw_and1 (pt_cmpR (op_gtKey hr.units) (pe_slice sl_tupA (pe_ix ix_list (pv 2) (pe_op op_sub (pv 4) pe_int) (fun _ _ => rfl)) po_none (po_some pe_int)) (pe_slice sl_tupA (pv 1) po_none (po_some pe_int)) (nomark _))))) (pss_one (ps_set (i := 4) nd rfl (Or.inl rfl) (pe_op op_sub (pv 4) pe_int))))))
      (pss_one (ps_expr (pe_bm PySem.F.plainAttrs_list PySem.F.slot_list_insert PySem.F.type_list_insert mt_insert (pv 2) (pa_cons (pv 4) (pa_cons (pv 1) pa_nil))))))))
      (pss_one (ps_ret (pv 2))))), ?_⟩
  have lu : us.length = ps.length := Paired.lenE hps
  refine ⟨sz (by simp), fun f nf => ⟨_, _, rfl, ?_⟩⟩
  have s0 : Same H (upd H f (.lst [])) := same_new nf
  have v0 : (upd H f (.lst [])) f = some (.lst []) := upd_same
  generalize upd H f (.lst []) = H0 at s0 v0
  refine ⟨_, rfl, l, rfl, ⟨_, SqLm s0 hl⟩, ?_⟩
  refine for_it walk_list (liInv K l f H ps) ⟨[], _, none, rfl, s0, v0, .nil⟩ (fun i σ H' _ ⟨_, _, _, _, e, _⟩ => SqLm e hl) ?_ ?_
  · rintro i x σ H1 H2 hi ⟨acc, v1, v4, rfl, s1, vf, ha⟩ ⟨rfl, hx⟩
    obtain ⟨d, hd, hxd⟩ := Paired.get0 hps hx
    have e9 := inO_succ hd
    have la := Paired.lenE ha
    rw [List.length_append, srt_len] at la
    have lb := inO_len (ps.take i) ([], [])
    simp only [List.length_nil, List.length_take, Nat.zero_add] at lb
    generalize (ps.take i).foldl inO ([], []) = st at ha e9 la lb ⊢
    refine ⟨_, rfl, f, acc, rfl, .inl (SqL.of vf), ?_⟩
    refine ⟨_, rfl, x, d, rfl, hxd.mono s1, ?_⟩
    have l11 : (st.1 ++ srt st.2).length = acc.length := by rw [List.length_append, srt_len]; exact la.symm
    refine ⟨_, rfl, ?_⟩
    refine ifS (fun σ' H' => ∃ b a : Nat, σ' = [some (.ref l), some x, some (.ref f), some (.int b), some (.int a)] ∧ Same H2 H' ∧ H' f = some (.lst acc) ∧ b = (inO st d).1.length ∧ a ≤ acc.length ∧ (st.1 ++ srt st.2).take a ++ (d :: (st.1 ++ srt st.2).drop a) = (inO st d).1 ++ srt (inO st d).2) (fun q D q2 => ?_) (fun q D q2 => ?_) ?_
    · refine ⟨_, rfl, _, _, rfl, rfl, q2 _ _ ⟨acc.length + 1, acc.length, rfl, Same.refl _, vf, ?_, Nat.le_refl _, ?_⟩⟩
      · unfold inO
        rw [if_pos q]
        simp only [List.length_append, List.length_cons, List.length_nil, srt_len]
        omega
      · unfold inO
        rw [if_pos q, ← l11, List.take_length, List.drop_length]
        show _ = (st.1 ++ srt st.2 ++ [d]) ++ []
        rw [List.append_nil]
    · obtain ⟨M, N, e1, e2, hM, hN⟩ := insG_split swo_key d (srt_srtd st.2)
      have ei : inO st d = (st.1, st.2 ++ [d]) := by
        unfold inO
        rw [if_neg q]
      have lMN : M.length + N.length = st.2.length := by
        have := srt_len st.2
        rw [e1, List.length_append] at this
        exact this
      have fin : ∀ H' : Hp, Same H2 H' → H' f = some (.lst acc) → D.nx [some (.ref l), some x, some (.ref f), some (.int (st.1.length : Nat)), some (.int ((st.1.length + M.length : Nat) : Nat))] H' := fun H' s' v' => by
        refine q2 _ _ ⟨st.1.length, st.1.length + M.length, rfl, s', v', by rw [ei], by omega, ?_⟩
        rw [ei]
        show _ = st.1 ++ srt (st.2 ++ [d])
        rw [srt_snoc, e2, e1, ← List.append_assoc, ← List.length_append, List.take_left, List.drop_left, List.append_assoc]
      refine ⟨fun j σ H' => j ≤ N.length ∧ σ = [some (.ref l), some x, some (.ref f), some (.int (st.1.length : Nat)), some (.int ((st.1.length + M.length + j : Nat) : Nat))] ∧ Same H2 H' ∧ H' f = some (.lst acc), ⟨N.length, Nat.le_refl _, ?_, Same.refl _, vf⟩, ?_⟩
      · have : acc.length = st.1.length + M.length + N.length := by omega
        rw [this]
        rfl
      rintro j σ H3 ⟨hj, rfl, s2, v2⟩
      refine ⟨_, rfl, _, rfl, _, _, rfl, rfl, _, rfl, ?_⟩
      refine ite2 (fun g => ?_) (fun g => ?_)
      · have g1 : st.1.length < st.1.length + M.length + j := by
          have := of_decide_eq_true g
          omega
        have hlt : st.1.length + M.length + j - 1 < (st.1 ++ srt st.2).length := by omega
        obtain ⟨e, he⟩ : ∃ e, (st.1 ++ srt st.2)[st.1.length + M.length + j - 1]? = some e := ⟨_, List.getElem?_eq_getElem hlt⟩
        obtain ⟨y, hy, hye⟩ := Paired.get1 (ha.mono s2) he
        have hcls : (0 < j → e ∈ N) ∧ (j = 0 → e ∈ M) := by
          rw [e1, List.getElem?_append_right (by omega)] at he
          constructor
          · intro hj0
            rw [List.getElem?_append_right (by omega)] at he
            exact List.mem_of_getElem? he
          · intro hj0
            rw [List.getElem?_append_left (by omega)] at he
            exact List.mem_of_getElem? he
        have ei1 : (((st.1.length + M.length + j : Nat) : Int)) - 1 = ((st.1.length + M.length + j - 1 : Nat) : Int) := by omega
        obtain ⟨ya, yp, rfl, hya, hyp, _⟩ := id hye
        obtain ⟨xa, xp, rfl, hxa, hxp, _⟩ := (hxd.mono s1).mono s2
        refine ⟨_, rfl, _, rfl, _, _, rfl, rfl, f, acc, _, .ref ya, rfl, rfl, SqL.of v2, by rw [ei1]; exact atI_nat hy, ?_⟩
        dsimp only [tNoPart]
        refine ⟨2, rfl, ?_⟩
        refine slA hya fun q3 H4 s4 hq3 _ => ?_
        refine ⟨_, rfl, ?_⟩
        dsimp only [tNoPart]
        refine ⟨2, rfl, ?_⟩
        refine slA (SqTm s4 hxa) fun q4 H5 s5 hq4 _ => ?_
        rw [cut2] at hq3 hq4
        have s45 := s4.trans s5
        refine ⟨e.word, e.parts, d.word, d.parts, dp_key (SqTm s5 hq3) (SqTm s45 hyp), dp_key hq4 (SqTm s45 hxp), _, rfl, ?_⟩
        refine ite2 (fun t => ?_) (fun t => ?_)
        · have hj0 : 0 < j := by
            rcases Nat.eq_zero_or_pos j with h | h
            · have := hM e (hcls.2 h)
              unfold ltKey at this
              rw [this] at t
              cases t
            · exact h
          refine ⟨fun σ H' => j - 1 ≤ N.length ∧ σ = [some (.ref l), some (.ref xa), some (.ref f), some (.int (st.1.length : Nat)), some (.int ((st.1.length + M.length + (j - 1) : Nat) : Nat))] ∧ Same H2 H' ∧ H' f = some (.lst acc), fun σ' H' w => ⟨j - 1, by omega, w⟩, _, rfl, _, _, rfl, rfl, by omega, ?_, s2.trans s45, s45 _ _ v2⟩
          have e3 : (((st.1.length + M.length + j : Nat) : Int)) - 1 = ((st.1.length + M.length + (j - 1) : Nat) : Int) := by omega
          rw [← e3]
          rfl
        · have hj0 : j = 0 := by
            rcases Nat.eq_zero_or_pos j with h | h
            · exact h
            · have := hN e (hcls.1 h)
              unfold ltKey at this
              rw [this] at t
              exact absurd rfl t
          subst hj0
          exact fin H5 (s2.trans s45) (s45 _ _ v2)
      · have g1 : ¬ st.1.length < st.1.length + M.length + j := fun z => g (decide_eq_true (by omega))
        have hj0 : j = 0 := by omega
        subst hj0
        exact fin H3 s2 v2
    rintro σ H3 ⟨b, a, rfl, s2, v2, eb, hal, ep⟩
    have hz : (acc.length : Int) ≤ 100 := by omega
    refine ⟨_, rfl, .inl ⟨rfl, _, SqL.of v2⟩, _, rfl, _, rfl, f, acc, _, x, rfl, rfl, v2, szl (by omega), by omega, by omega, ?_⟩
    refine ⟨_, some x, some (.int (a : Nat)), ?_, (s1.trans s2).mut nf, upd_same, ?_⟩
    · rw [e9, ← eb]
    · rw [e9, ← ep, Int.toNat_natCast]
      have hh := PtAll.wr (ys := acc.take a ++ ([x] ++ acc.drop a)) (ha.mono s2) v2
      have hx' := ((hxd.mono s1).mono s2).wr (ys := acc.take a ++ ([x] ++ acc.drop a)) v2
      rw [List.append_assoc]
      exact Paired.app (Paired.tk a hh) (.cons hx' (Paired.dr a hh))
  · rintro σ H1 ⟨acc, v1, v4, rfl, s1, vf, ha⟩
    rw [lu, List.take_length] at ha
    exact ⟨_, rfl, k f acc _ s1 nf vf ha⟩
theorem cal_law_in_order (T : Txt K mg) : Cal P w K mg base 2 "_law_in_order" (sp_law_in_order K) [] := by
  obtain ⟨fd, F⟩ := T.d_law_in_order
  exact mkCal F T.g_law_in_order (bi_law_in_order F) sc_law_in_order (fun vs H Q E h => len_law_in_order h) (body_law_in_order T)
def sp_law_run (K : Fg) : Sp := fun vs H Q _ => ∃ (tv : V) (wd : Int) (l : Addr) (tl : TlD) (us : List V) (ps : List PcD), vs = [tv, .int wd, .ref l] ∧ TtAt K H tv tl ∧ SqL K H l us ∧ PtAll K H us ps ∧ ps.length ≤ 40 ∧
  ∀ f ws H', Same H H' → H f = none → H' f = some (.lst ws) → PtAll K H' ws (runD tl wd ps) → Q (.ref f) H'
theorem len_law_run {vs H Q E} (h : sp_law_run K vs H Q E) : vs.length = 3 := by
  obtain ⟨_, _, _, _, _, _, rfl, _⟩ := h
  rfl
theorem sc_law_run : FnScope ["_law_tool_here", "_law_width_here", "_law_pieces_here"] ["_law_tool_here", "_law_width_here", "_law_pieces_here"] (defScope d_law_run.st) := ⟨rfl, rfl, rfl, by decide +kernel, rfl, by decide +kernel, by decide +kernel⟩
theorem bi_law_run {K : Fg} {fd : FuncData} (F : FnD K d_law_run fd) : Binds K fd ["_law_tool_here", "_law_width_here", "_law_pieces_here"] [] := FunD.bindsN F fun _ _ _ _ _ _ us hl => match us, hl with | [_, _, _], _ => rfl
theorem body_law_run (T : Txt K mg) : BodyOk P w K mg base 6 ["_law_tool_here", "_law_width_here", "_law_pieces_here"] d_law_run (sp_law_run K) := by
  intro cdv A outer s H vs Q E hr h
  obtain ⟨tv, wd, l, tl, us, ps, rfl, ht, hl, hps, h40, k⟩ := h
  have nd := sc_law_run.nd
  refine ⟨_, (pss_one (ps_ret (pe_c (cal_law_rows_done T) hr (by decide) (by rfl) (pa_cons (pv 0) (pa_cons (pv 1) (pa_cons (pe_ifExp (pt_val (pe_ix ix_tup (pv 0) pe_int (fun _ _ => rfl))) (pe_c (cal_law_in_order T) hr (by decide) (by rfl) (pa_cons (pv 2) pa_nil)) (pv 2)) pa_nil)))))), ?_⟩
  obtain ⟨t, ra, rs, rfl, htt, _⟩ := id ht
  refine ⟨_, rfl, _, rfl, _, rfl, t, _, _, _, rfl, rfl, htt, at1, tl.sorts, rfl, ?_⟩
  refine ifE (fun v H' => Same H H' ∧ ∃ f ws, v = .ref f ∧ SqL K H' f ws ∧ PtAll K H' ws (if tl.sorts = true then inOrder ps else ps)) (fun q Q q2 => ?_) (fun q Q q2 => ?_) ?_
  · refine ⟨_, rfl, l, us, ps, rfl, hl, hps, h40, fun f ws H' s1 nf vf pw => q2 _ _ ⟨s1, f, ws, rfl, SqL.of vf, ?_⟩⟩
    rw [if_pos q]
    exact pw
  · refine ⟨_, rfl, q2 _ _ ⟨Same.refl _, l, us, rfl, hl, ?_⟩⟩
    rw [if_neg q]
    exact hps
  rintro v H1 ⟨s1, f, ws, rfl, hf, pw⟩
  have lw : (if tl.sorts = true then inOrder ps else ps).length ≤ 40 := by
    split
    · rw [inOrder_len]; exact h40
    · exact h40
  exact ⟨.ref t, wd, f, tl, ws, _, rfl, ht.mono s1, hf, pw, lw, fun g us2 H2 s2 ng hg pg => k g us2 H2 (s1.trans s2) (s1.free ng) hg pg⟩
theorem cal_law_run (T : Txt K mg) : Cal P w K mg base 7 "_law_run" (sp_law_run K) [] := by
  obtain ⟨fd, F⟩ := T.d_law_run
  exact mkCal F T.g_law_run (bi_law_run F) sc_law_run (fun vs H Q E h => len_law_run h) (body_law_run T)
end
end Lt
set_option Elab.async false
set_option linter.all false
set_option maxRecDepth 100000
set_option maxHeartbeats 8000000
/-! the law's programs, tools, texts -/
namespace Lt
open PySem PySem.Spec PyProof.Rows L2
open C8 (Cal Met Mak pe_c pe_mk pe_mt pe_mt0 pe_gc)
section
variable {P : Program} {w : World} {K : Fg} {mg : Str → Option Value} {base : Heap}
def sp_law_told (K : Fg) : Sp := fun vs H Q _ => ∃ (p : Addr) (ps : List PcD), vs = [.ref p] ∧ PgAt K H (.ref p) ps ∧ ∀ f ws H', Same H H' → H f = none → H' f = some (.lst ws) → PtAll K H' ws ps → Q (.ref f) H'
theorem len_law_told {vs H Q E} (h : sp_law_told K vs H Q E) : vs.length = 1 := by
  obtain ⟨_, _, rfl, _⟩ := h
  rfl
theorem sc_law_told : FnScope ["_law_program_here", "_law_found", "_law_one"] ["_law_program_here"] (defScope d_law_told.st) := ⟨rfl, rfl, rfl, by decide +kernel, rfl, by decide +kernel, by decide +kernel⟩
theorem bi_law_told {K : Fg} {fd : FuncData} (F : FnD K d_law_told fd) : Binds K fd ["_law_program_here"] [] := FunD.bindsN F fun _ _ _ _ _ _ us hl => match us, hl with | [_], _ => rfl
theorem body_law_told (T : Txt K mg) : BodyOk P w K mg base 0 ["_law_program_here", "_law_found", "_law_one"] d_law_told (sp_law_told K) := by
  intro cdv A outer s H vs Q E hr h
  obtain ⟨p, ps, rfl, hp, k⟩ := h
  have nd := sc_law_told.nd
  refine ⟨_, (pss_cons (ps_set (i := 1) nd rfl (Or.inl rfl) (pe_lst pa_nil))
      (pss_cons (ps_for PassesOwn.never rfl (pi_tup (pe_fld (pv 0) rfl)) (pg_name (i := 2) nd rfl (Or.inl rfl)) (pss_one (ps_expr (pe_bm PySem.F.plainAttrs_list PySem.F.slot_list_append PySem.F.type_list_append mt_append (pv 1) (pa_cons (pe_tup (pa_cons (pe_fld (pv 2) rfl) (pa_cons (pe_fld (pv 2) rfl) (pa_cons (pe_fld (pv 2) rfl) (pa_cons (pe_fld (pv 2) rfl) (pa_cons (pe_fld (pv 2) rfl) (pa_cons (pe_fld (pv 2) rfl) (pa_cons (pe_fld (pv 2) rfl) (pa_cons (pe_fld (pv 2) rfl) pa_nil))))))))) pa_nil)))))
      (pss_one (ps_ret (pv 1))))), ?_⟩
  have cl := T.c_Piece
  obtain ⟨_, dp, pa, us, z, e0, ep, hpa, hus, h40⟩ := id hp
  cases e0
  have lu : us.length = ps.length := Paired.lenE hus
  refine ⟨sz (by simp), fun f nf => ?_⟩
  have s0 : Same H (upd H f (.lst [])) := same_new nf
  have v0 : (upd H f (.lst [])) f = some (.lst []) := upd_same
  generalize upd H f (.lst []) = H0 at s0 v0
  refine ⟨_, rfl, p, _, dp, _, _, rfl, s0 _ _ ep, T.c_Program, T.n_Program_pieces, rfl, pa, rfl, ⟨_, SqTm s0 hpa⟩, ?_⟩
  refine for_tup (xs := us) (fun i σ H' => ∃ acc v2, σ = [some (.ref p), some (.ref f), v2] ∧ Same H H' ∧ H' f = some (.lst acc) ∧ PtAll K H' acc (ps.take i)) ⟨[], none, rfl, s0, v0, .nil⟩ (fun i σ H' _ ⟨_, _, _, e, _⟩ => SqTm e hpa) ?_ ?_
  · rintro i x σ H1 hx ⟨acc, v2, rfl, s1, vf, ha⟩
    obtain ⟨d, hd, hxd⟩ := Paired.get0 hus hx
    have la := Paired.lenE ha
    rw [List.length_take] at la
    obtain ⟨a, dx, qa, zz, rfl, e, hq, hz, ok⟩ := hxd.mono s1
    refine ⟨_, rfl, .inl ⟨rfl, _, SqL.of vf⟩, ?_⟩
    refine ⟨_, rfl, a, _, dx, _, _, rfl, e, cl, T.n_Piece_word, pcF_word, ?_⟩
    refine ⟨_, rfl, a, _, dx, _, _, rfl, e, cl, T.n_Piece_parts, pcF_parts, ?_⟩
    refine ⟨_, rfl, a, _, dx, _, _, rfl, e, cl, T.n_Piece_broken, pcF_broken, ?_⟩
    refine ⟨_, rfl, a, _, dx, _, _, rfl, e, cl, T.n_Piece_marked, pcF_marked, ?_⟩
    refine ⟨_, rfl, a, _, dx, _, _, rfl, e, cl, T.n_Piece_ahead, pcF_ahead, ?_⟩
    refine ⟨_, rfl, a, _, dx, _, _, rfl, e, cl, T.n_Piece_behind, pcF_behind, ?_⟩
    refine ⟨_, rfl, a, _, dx, _, _, rfl, e, cl, T.n_Piece_blanks, pcF_blanks, ?_⟩
    refine ⟨_, rfl, a, _, dx, _, _, rfl, e, cl, T.n_Piece_left, pcF_left, ?_⟩
    refine ⟨sz (by simp), fun g ng => ?_⟩
    have s2 : Same H1 (upd H1 g (.tup [V.str d.word, V.ref qa, V.bl d.broken, V.bl d.marked, V.str d.ahead, V.str d.behind, V.int d.blanks, V.bl d.left])) := same_new ng
    have vg : PtAt K (upd H1 g (.tup [V.str d.word, V.ref qa, V.bl d.broken, V.bl d.marked, V.str d.ahead, V.str d.behind, V.int d.blanks, V.bl d.left])) (.ref g) d := ⟨g, qa, rfl, SqT.of upd_same, SqTm s2 hq, ok⟩
    generalize upd H1 g (.tup [V.str d.word, V.ref qa, V.bl d.broken, V.bl d.marked, V.str d.ahead, V.str d.behind, V.int d.blanks, V.bl d.left]) = H2 at s2 vg
    have vf2 := s2 _ _ vf
    refine ⟨f, acc, _, rfl, rfl, vf2, szl (by omega), ?_⟩
    refine ⟨_, _, rfl, (s1.trans s2).mut nf, upd_same, ?_⟩
    rw [List.take_add_one, hd]
    exact Paired.app (PtAll.wr (ha.mono s2) vf2) (.cons (vg.wr vf2) .nil)
  · rintro σ H1 ⟨acc, v2, rfl, s1, vf, ha⟩
    rw [lu, List.take_length] at ha
    exact ⟨_, rfl, k f acc _ s1 nf vf ha⟩
theorem cal_law_told (T : Txt K mg) : Cal P w K mg base 1 "_law_told" (sp_law_told K) [] := by
  obtain ⟨fd, F⟩ := T.d_law_told
  exact mkCal F T.g_law_told (bi_law_told F) sc_law_told (fun vs H Q E h => len_law_told h) (body_law_told T)
def sp_law_program (K : Fg) : Sp := fun vs H Q _ => ∃ (l : Addr) (us : List V) (ps : List PcD), vs = [.ref l] ∧ SqL K H l us ∧ PtAll K H us ps ∧ ps.length ≤ 40 ∧ ∀ p H', Same H H' → PgAt K H' (.ref p) ps → Q (.ref p) H'
theorem len_law_program {vs H Q E} (h : sp_law_program K vs H Q E) : vs.length = 1 := by
  obtain ⟨_, _, _, rfl, _⟩ := h
  rfl
theorem sc_law_program : FnScope ["_law_pieces_here", "_law_one"] ["_law_pieces_here"] (defScope d_law_program.st) := ⟨rfl, rfl, rfl, by decide +kernel, rfl, by decide +kernel, by decide +kernel⟩
theorem bi_law_program {K : Fg} {fd : FuncData} (F : FnD K d_law_program fd) : Binds K fd ["_law_pieces_here"] [] := FunD.bindsN F fun _ _ _ _ _ _ us hl => match us, hl with | [_], _ => rfl
theorem body_law_program (T : Txt K mg) : BodyOk P w K mg base 5 ["_law_pieces_here", "_law_one"] d_law_program (sp_law_program K) := by
  intro cdv A outer s H vs Q E hr h
  obtain ⟨l, us, ps, rfl, hl, hps, h40, k⟩ := h
  have nd := sc_law_program.nd
  refine ⟨_, (pss_one (ps_ret (pe_mk (mak_Program T) hr (by decide) (by rfl) (pa_cons (pe_lc (own := [("_law_one", 1)]) (g := gName 1) (tt := tYes) rfl nd (pi_list (pv 0)) (blkOk_by (N := ["_law_pieces_here", "_law_one"]) (sc := defScope d_law_program.st) (by decide +kernel)) (fun _ _ _ _ _ => (pg_name (i := 1) nd rfl (Or.inl rfl))) (fun _ _ _ _ _ => pts_nil) (fun _ _ _ _ _ => (pe_mk (mak_Piece T) hr (by decide) (by rfl) (pa_cons (pe_ix (ix_tupK K rfl) (pv 1) pe_int (fun _ _ => rfl)) (pa_cons (pe_ix (ix_tupK K rfl) (pv 1) pe_int (fun _ _ => rfl)) (pa_cons (pe_ix (ix_tupK K rfl) (pv 1) pe_int (fun _ _ => rfl)) (pa_cons (pe_ix (ix_tupK K rfl) (pv 1) pe_int (fun _ _ => rfl)) (pa_cons (pe_ix (ix_tupK K rfl) (pv 1) pe_int (fun _ _ => rfl)) (pa_cons (pe_ix (ix_tupK K rfl) (pv 1) pe_int (fun _ _ => rfl)) (pa_cons (pe_ix (ix_tupK K rfl) (pv 1) pe_int (fun _ _ => rfl)) (pa_cons (pe_ix (ix_tupK K rfl) (pv 1) pe_int (fun _ _ => rfl)) pa_nil))))))))))) pa_nil)))), ?_⟩
  have lu : us.length = ps.length := Paired.lenE hps
  refine ⟨_, rfl, l, rfl, ⟨_, hl⟩, fun D hD => ?_⟩
  refine lc_go walk_list (fun i acc H' => Same H H' ∧ PcAll K H' acc (ps.take i)) ⟨same_new hD, .nil⟩ (fun i acc H' _ p _ => SqLm p.1 hl) (fun i x acc Ha Hb hi hl2 ⟨p1, p2⟩ hD1 y => ?_) (fun acc H3 hl2 ⟨p1, p2⟩ hD1 => ?_)
  · obtain ⟨rfl, hx⟩ := y
    obtain ⟨d, hd, hxd⟩ := Paired.get0 hps hx
    obtain ⟨a, pa, rfl, ha, hp, ok⟩ := hxd.mono p1
    refine ⟨rfl, yes ?_⟩
    refine ⟨_, rfl, a, _, _, _, rfl, rfl, ha, pi0, ?_⟩
    refine ⟨_, rfl, a, _, _, _, rfl, rfl, ha, pi1, ?_⟩
    refine ⟨_, rfl, a, _, _, _, rfl, rfl, ha, pi2, ?_⟩
    refine ⟨_, rfl, a, _, _, _, rfl, rfl, ha, pi3, ?_⟩
    refine ⟨_, rfl, a, _, _, _, rfl, rfl, ha, pi4, ?_⟩
    refine ⟨_, rfl, a, _, _, _, rfl, rfl, ha, pi5, ?_⟩
    refine ⟨_, rfl, a, _, _, _, rfl, rfl, ha, pi6, ?_⟩
    refine ⟨_, rfl, a, _, _, _, rfl, rfl, ha, pi7, ?_⟩
    intro x dx nx ndx hne
    refine make_pc (d := d) nx ndx hne hp ok rfl fun H4 s4 h4 => ?_
    refine lc_put (s4 _ _ hD1) hl2 (by omega) ⟨(p1.trans s4).mut hD, ?_⟩
    rw [List.take_add_one, hd]
    exact Paired.app (PcAll.wr (p2.mono s4) (s4 _ _ hD1)) (.cons (h4.wr (s4 _ _ hD1)) .nil)
  · rw [lu, List.take_length] at p2
    intro x dx nx ndx hne
    exact make_pg nx ndx hne (SqL.of hD1) p2 h40 rfl fun H4 s4 h4 => k x H4 (p1.trans s4) h4
theorem cal_law_program (T : Txt K mg) : Cal P w K mg base 6 "_law_program" (sp_law_program K) [] := by
  obtain ⟨fd, F⟩ := T.d_law_program
  exact mkCal F T.g_law_program (bi_law_program F) sc_law_program (fun vs H Q E h => len_law_program h) (body_law_program T)
end
end Lt
set_option Elab.async false
set_option linter.all false
set_option maxRecDepth 100000
set_option maxHeartbeats 8000000
/-! the law's tools and their texts -/
namespace Lt
open PySem PySem.Spec PyProof.Rows L2
open C8 (Cal Met Mak pe_c pe_mk pe_mt pe_mt0 pe_gc)
theorem dp_rt {K : Fg} {H : Hp} {v : V} {r : RwD} (h : RtAt K H v r) : Dp K H v (rwData r) := by
  obtain ⟨a, ta, da, rfl, ha, ht, hd, ok⟩ := h
  exact .tup ha (.cons (.tup ht (dp_strs _)) (.cons (.tup hd (dp_strs _)) .nil))
section
variable {P : Program} {w : World} {K : Fg} {mg : Str → Option Value} {base : Heap}
def sp_law_tool_of (K : Fg) : Sp := fun vs H Q _ => ∃ (v : V) (t : TlD), vs = [v] ∧ TtAt K H v t ∧ ∀ p H', Same H H' → TlAt K H' (.ref p) t → Q (.ref p) H'
theorem len_law_tool_of {vs H Q E} (h : sp_law_tool_of K vs H Q E) : vs.length = 1 := by
  obtain ⟨_, _, rfl, _⟩ := h
  rfl
theorem RwAt.wr {H : Hp} {v : V} {d : RwD} {l : Addr} {xs ys : List V} (h : RwAt K H v d) (e : H l = some (.lst xs)) : RwAt K (upd H l (.lst ys)) v d := by
  obtain ⟨a1, dx1, pa1, z1, q0, q1, q2, q3⟩ := h
  exact ⟨a1, dx1, pa1, z1, q0, by rw [upd_ne (ne_of q1 e (fun z => by cases z))]; exact q1, SqT_w q2 e (fun _ z => by cases z) (fun _ _ z => by cases z), SqT_w q3 e (fun _ z => by cases z) (fun _ _ z => by cases z)⟩
theorem sc_law_tool_of : FnScope ["_law_tool_here", "_law_tests_here", "_law_deeds_here"] ["_law_tool_here"] (defScope d_law_tool_of.st) := ⟨rfl, rfl, rfl, by decide +kernel, rfl, by decide +kernel, by decide +kernel⟩
theorem bi_law_tool_of {K : Fg} {fd : FuncData} (F : FnD K d_law_tool_of fd) : Binds K fd ["_law_tool_here"] [] := FunD.bindsN F fun _ _ _ _ _ _ us hl => match us, hl with | [_], _ => rfl
theorem body_law_tool_of (T : Txt K mg) : BodyOk P w K mg base 3 ["_law_tool_here", "_law_tests_here", "_law_deeds_here"] d_law_tool_of (sp_law_tool_of K) := by
  intro cdv A outer s H vs Q E hr h
  obtain ⟨v, t, rfl, ⟨a, ra, us, rfl, ha, hra, hrs, ok⟩, k⟩ := h
  have nd := sc_law_tool_of.nd
  refine ⟨_, (pss_one (ps_ret (pe_mk (mak_Tool T) hr (by decide) (by rfl) (pa_cons (pe_lc (own := [("_law_tests_here", 1), ("_law_deeds_here", 2)]) (g := gTup _ 2 (gCons (gName 1) (gCons (gName 2) gNil))) (tt := tYes) rfl nd (pi_tup (pe_ix ix_tup (pv 0) pe_int (fun _ _ => rfl))) (blkOk_by (N := ["_law_tool_here", "_law_tests_here", "_law_deeds_here"]) (sc := defScope d_law_tool_of.st) (by decide +kernel)) (fun _ _ _ _ _ => (pg_tup rfl (pgs_cons (pg_name (i := 1) nd rfl (Or.inl rfl)) (pgs_cons (pg_name (i := 2) nd rfl (Or.inl rfl)) pgs_nil)))) (fun _ _ _ _ _ => pts_nil) (fun _ _ _ _ _ => (pe_mk (mak_Row T) hr (by decide) (by rfl) (pa_cons (pv 1) (pa_cons (pv 2) pa_nil))))) (pa_cons (pe_ix ix_tup (pv 0) pe_int (fun _ _ => rfl)) pa_nil))))), ?_⟩
  have lu : us.length = t.rows.length := Paired.lenE hrs
  have f1 := ok.few
  refine ⟨_, rfl, a, _, _, _, rfl, rfl, ha, at0, ra, rfl, ⟨_, hra⟩, fun D hD => ?_⟩
  refine lc_go walk_tup (fun i acc H' => Same H H' ∧ Paired (RwAt K H') acc (t.rows.take i)) ⟨same_new hD, .nil⟩ (fun i acc H' _ p _ => SqTm p.1 hra) (fun i x acc Ha Hb hi hl2 ⟨p1, p2⟩ hD1 y => ?_) (fun acc H3 hl2 ⟨p1, p2⟩ hD1 => ?_)
  · obtain ⟨rfl, hx⟩ := y
    obtain ⟨r, hd, hxd⟩ := Paired.get0 hrs hx
    obtain ⟨b, ta, da, rfl, hb, hta, hda, okr⟩ := hxd.mono p1
    refine ⟨b, _, rfl, hb, rfl, _, _, rfl, _, _, rfl, rfl, rfl, yes ?_⟩
    refine ⟨_, rfl, _, rfl, ?_⟩
    intro x dx nx ndx hne
    refine make_rw (r := r) nx ndx hne hta hda okr rfl fun H4 s4 h4 => ?_
    refine lc_put (s4 _ _ hD1) hl2 (by omega) ⟨(p1.trans s4).mut hD, ?_⟩
    rw [List.take_add_one, hd]
    exact Paired.app (pairedM (fun _ _ z => (z.mono s4).wr (s4 _ _ hD1)) p2) (.cons (h4.wr (s4 _ _ hD1)) .nil)
  · rw [lu, List.take_length] at p2
    refine ⟨_, rfl, a, _, _, _, rfl, rfl, SqTm p1 ha, at1, ?_⟩
    intro x dx nx ndx hne
    exact make_tl nx ndx hne (SqL.of hD1) p2 ok rfl fun H4 s4 h4 => k x H4 (p1.trans s4) h4
theorem cal_law_tool_of (T : Txt K mg) : Cal P w K mg base 4 "_law_tool_of" (sp_law_tool_of K) [] := by
  obtain ⟨fd, F⟩ := T.d_law_tool_of
  exact mkCal F T.g_law_tool_of (bi_law_tool_of F) sc_law_tool_of (fun vs H Q E h => len_law_tool_of h) (body_law_tool_of T)
def sp_law_row_text (K : Fg) : Sp := fun vs H Q _ => ∃ (v : V) (r : RwD), vs = [v] ∧ RtAt K H v r ∧ ∀ H', Same H H' → Q (.str (rowText r)) H'
theorem len_law_row_text {vs H Q E} (h : sp_law_row_text K vs H Q E) : vs.length = 1 := by
  obtain ⟨_, _, rfl, _⟩ := h
  rfl
theorem sc_law_row_text : FnScope ["_law_row"] ["_law_row"] (defScope d_law_row_text.st) := ⟨rfl, rfl, rfl, by decide +kernel, rfl, by decide +kernel, by decide +kernel⟩
theorem bi_law_row_text {K : Fg} {fd : FuncData} (F : FnD K d_law_row_text fd) : Binds K fd ["_law_row"] [] := FunD.bindsN F fun _ _ _ _ _ _ us hl => match us, hl with | [_], _ => rfl
theorem body_law_row_text (T : Txt K mg) : BodyOk P w K mg base 0 ["_law_row"] d_law_row_text (sp_law_row_text K) := by
  intro cdv A outer s H vs Q E hr h
  obtain ⟨v, r, rfl, ⟨a, ta, da, rfl, ha, ht, hd, ok⟩, k⟩ := h
  have nd := sc_law_row_text.nd
  refine ⟨_, (pss_one (ps_ret (pe_op op_add_str (pe_op op_add_str (pe_ifExp (pt_cmpR (op_neD hr.units) (pe_ix ix_tup (pv 0) pe_int (fun _ _ => rfl)) (pe_tup pa_nil) (nomark _)) (pe_op op_add_str (pe_op op_add_str pe_str (pe_join pe_str (pe_ix ix_tup (pv 0) pe_int (fun _ _ => rfl)))) pe_str) pe_str) pe_str) (pe_join pe_str (pe_ix ix_tup (pv 0) pe_int (fun _ _ => rfl)))))), ?_⟩
  have h1 := join_le (sep := " and ") (fun t m => t20_len t (ok.tests t m))
  have h2 := join_le (sep := " then ") (fun t m => d8_len t (ok.deeds t m))
  have g1 := sum_le (fun t m => t20_len t (ok.tests t m))
  have g2 := sum_le (fun t m => d8_len t (ok.deeds t m))
  have l1 : (" and " : Str).length = 5 := by decide +kernel
  have l2 : (" then " : Str).length = 6 := by decide +kernel
  have l3 : ("if " : Str).length = 3 := by decide +kernel
  have l4 : (" " : Str).length = 1 := by decide +kernel
  have l5 : ("do " : Str).length = 3 := by decide +kernel
  have l6 : ("" : Str).length = 0 := by decide +kernel
  have f1 := ok.few
  have f2 := ok.less
  rw [l1] at h1
  rw [l2] at h2
  refine ⟨_, rfl, a, _, _, _, rfl, rfl, ha, at0, ?_⟩
  refine ⟨sz (by simp), fun g ng => ?_⟩
  have s1 : Same H (upd H g (.tup [])) := same_new ng
  refine ⟨strsD r.1, .tuple [], .tup (SqTm s1 ht) (dp_strs _), .tup (SqT.of upd_same) .nil, Fine.shaped (fine_tup (n := 1) fun x m => test_fine (ok.tests x m)) (by decide), rfl, _, rfl, ?_⟩
  rw [show PyData.eqv (strsD r.1) (.tuple []) = decide (r.1 = []) from eqv_strs r.1 []]
  generalize upd H g (.tup []) = H1 at s1
  refine ifE (fun v H' => H' = H1 ∧ v = .str (if r.1 = [] then ("" : Str) else ("if " : Str) ++ Txt.join " and " r.1 ++ (" " : Str))) (fun q Q q2 => ?_) (fun q Q q2 => ?_) ?_
  · have e0 : ¬ r.1 = [] := by simpa using q
    refine ⟨⟨_, rfl⟩, _, rfl, a, _, _, _, rfl, rfl, SqTm s1 ha, at0, _, ta, r.1, rfl, rfl, .inr (SqTm s1 ht), by rw [l1]; omega, _, _, rfl, rfl, sz (by rw [l3]; omega), ?_⟩
    refine ⟨_, _, rfl, rfl, sz (by rw [lenA, l3, l4]; omega), q2 _ _ ⟨rfl, ?_⟩⟩
    rw [if_neg e0]
  · have e0 : r.1 = [] := by simpa using q
    refine q2 _ _ ⟨rfl, ?_⟩
    rw [if_pos e0]
  rintro _ H9 ⟨e9, rfl⟩
  rw [e9]
  have lx : (if r.1 = [] then ("" : Str) else ("if " : Str) ++ Txt.join " and " r.1 ++ (" " : Str)).length ≤ 1000 := by
    split
    · rw [l6]; omega
    · rw [lenA, lenA, l3, l4]; omega
  refine ⟨_, _, rfl, rfl, sz (by omega), ⟨_, rfl⟩, _, rfl, a, _, _, _, rfl, rfl, SqTm s1 ha, at1, _, da, r.2, rfl, rfl, .inr (SqTm s1 hd), by rw [l2]; omega, _, _, rfl, rfl, sz (by rw [lenA, l5]; omega), ?_⟩
  exact k _ s1
theorem cal_law_row_text (T : Txt K mg) : Cal P w K mg base 1 "_law_row_text" (sp_law_row_text K) [] := by
  obtain ⟨fd, F⟩ := T.d_law_row_text
  exact mkCal F T.g_law_row_text (bi_law_row_text F) sc_law_row_text (fun vs H Q E h => len_law_row_text h) (body_law_row_text T)
def sp_law_tool_text (K : Fg) : Sp := fun vs H Q _ => ∃ (v : V) (t : TlD), vs = [v] ∧ TtAt K H v t ∧ ∀ H', Same H H' → Q (.str (toolText t)) H'
theorem len_law_tool_text {vs H Q E} (h : sp_law_tool_text K vs H Q E) : vs.length = 1 := by
  obtain ⟨_, _, rfl, _⟩ := h
  rfl
theorem sc_law_tool_text : FnScope ["_law_tool_here", "_law_row"] ["_law_tool_here"] (defScope d_law_tool_text.st) := ⟨rfl, rfl, rfl, by decide +kernel, rfl, by decide +kernel, by decide +kernel⟩
theorem bi_law_tool_text {K : Fg} {fd : FuncData} (F : FnD K d_law_tool_text fd) : Binds K fd ["_law_tool_here"] [] := FunD.bindsN F fun _ _ _ _ _ _ us hl => match us, hl with | [_], _ => rfl
theorem body_law_tool_text (T : Txt K mg) : BodyOk P w K mg base 1 ["_law_tool_here", "_law_row"] d_law_tool_text (sp_law_tool_text K) := by
  intro cdv A outer s H vs Q E hr h
  obtain ⟨v, t, rfl, ⟨a, ra, us, rfl, ha, hra, hrs, ok⟩, k⟩ := h
  have nd := sc_law_tool_text.nd
  refine ⟨_, (pss_one (ps_ret (pe_join pe_str (pe_op op_cat (pe_lst (pa_cons (pe_ifExp (pt_val (pe_ix ix_tup (pv 0) pe_int (fun _ _ => rfl))) pe_str pe_str) pa_nil)) (pe_lc (own := [("_law_row", 1)]) (g := gName 1) (tt := tYes) rfl nd (pi_tup (pe_ix ix_tup (pv 0) pe_int (fun _ _ => rfl))) (blkOk_by (N := ["_law_tool_here", "_law_row"]) (sc := defScope d_law_tool_text.st) (by decide +kernel)) (fun _ _ _ _ _ => (pg_name (i := 1) nd rfl (Or.inl rfl))) (fun _ _ _ _ _ => pts_nil) (fun _ _ _ _ _ => (pe_c (cal_law_row_text T) hr (by decide) (by rfl) (pa_cons (pv 1) pa_nil)))))))), ?_⟩
  have f1 := ok.few
  have lu : us.length = t.rows.length := Paired.lenE hrs
  refine ⟨⟨_, rfl⟩, _, rfl, a, _, _, _, rfl, rfl, ha, at1, t.sorts, rfl, ?_⟩
  refine ifE (fun v H' => H' = H ∧ v = .str (if t.sorts = true then "tool sorts" else "tool")) (fun q Q q2 => ?_) (fun q Q q2 => ?_) ?_
  · exact q2 _ _ ⟨rfl, by rw [if_pos q]⟩
  · exact q2 _ _ ⟨rfl, by rw [if_neg q]⟩
  rintro _ H9 ⟨e9, rfl⟩
  rw [e9]
  clear e9 H9
  refine ⟨sz (by simp), fun g ng => ?_⟩
  have s1 : Same H (upd H g (.lst [V.str (if t.sorts = true then "tool sorts" else "tool")])) := same_new ng
  have vg : (upd H g (.lst [V.str (if t.sorts = true then "tool sorts" else "tool")])) g = some (.lst [V.str (if t.sorts = true then "tool sorts" else "tool")]) := upd_same
  generalize upd H g (.lst [V.str (if t.sorts = true then "tool sorts" else "tool")]) = H1 at s1 vg
  refine ⟨_, rfl, a, _, _, _, rfl, rfl, SqTm s1 ha, at0, ra, rfl, ⟨_, SqTm s1 hra⟩, fun D hD => ?_⟩
  refine lc_go walk_tup (fun i acc H' => Same H1 H' ∧ acc = (t.rows.take i).map fun r => V.str (rowText r)) ⟨same_new hD, rfl⟩ (fun i acc H' _ p _ => SqTm (s1.trans p.1) hra) (fun i y acc Ha Hb hi hla ⟨p1, p2⟩ hD1 q => ?_) (fun acc H3 hla ⟨p1, p2⟩ hD1 => ?_)
  · obtain ⟨rfl, hx⟩ := q
    obtain ⟨r, hr', hrow⟩ := Paired.get0 hrs hx
    refine ⟨rfl, yes ⟨_, rfl, y, r, rfl, hrow.mono (s1.trans p1), fun H4 s4 => ?_⟩⟩
    refine lc_put (s4 _ _ hD1) hla (by omega) ⟨(p1.trans s4).mut hD, ?_⟩
    rw [p2, List.take_add_one, hr', List.map_append]
    rfl
  rw [lu, List.take_length] at p2
  have es : [V.str (if t.sorts = true then "tool sorts" else "tool")] ++ acc = ((if t.sorts = true then ("tool sorts" : Str) else "tool") :: t.rows.map rowText).map V.str := by
    rw [p2, List.map_cons, List.map_map]
    rfl
  refine ⟨g, D, _, _, rfl, rfl, p1 _ _ vg, hD1, sz (by simp only [List.length_append, List.length_cons, List.length_nil]; omega), fun q nq => ?_⟩
  refine ⟨_, q, _, rfl, rfl, .inl (SqL.of (by rw [upd_same, es])), ?_, k _ ((s1.trans p1).grow nq)⟩
  have hl : ∀ y ∈ ((if t.sorts = true then ("tool sorts" : Str) else "tool") :: t.rows.map rowText), y.length ≤ 300 := fun y hy => by
    rcases List.mem_cons.mp hy with rfl | hy
    · split
      · exact Nat.le_trans (Nat.le_of_eq (by decide +kernel : ("tool sorts" : Str).length = 10)) (by decide)
      · exact Nat.le_trans (Nat.le_of_eq (by decide +kernel : ("tool" : Str).length = 4)) (by decide)
    · obtain ⟨r, hr1, rfl⟩ := List.mem_map.mp hy
      exact rowText_len (ok.rows r hr1)
  have h1 := sum_le hl
  have cn : ("\n" : Str).length = 1 := by decide +kernel
  rw [cn]
  simp only [List.length_cons, List.length_map] at h1 ⊢
  omega
theorem cal_law_tool_text (T : Txt K mg) : Cal P w K mg base 2 "_law_tool_text" (sp_law_tool_text K) [] := by
  obtain ⟨fd, F⟩ := T.d_law_tool_text
  exact mkCal F T.g_law_tool_text (bi_law_tool_text F) sc_law_tool_text (fun vs H Q E h => len_law_tool_text h) (body_law_tool_text T)
end
end Lt
set_option Elab.async false
set_option linter.all false
set_option maxRecDepth 100000
set_option maxHeartbeats 8000000
/-! draws: some number below a bound -/
namespace Lt
open PySem PySem.Spec PyProof.Rows L2
open C8 (Cal Met Mak pe_c pe_mk pe_mt pe_mt0 pe_gc)
/-- the box: great cells, a mixed number -/
structure BxAt (S : Sg) (H : Hp) (bx gl : Addr) (cs : List Int) (m : Int) : Prop where
  ow : Ow S H
  sb : S bx = true
  sg : S gl = true
  ne : gl ≠ bx
  vb : H bx = some (.dK [(.inr "great", .ref gl), (.inr "mixed", .int m)])
  vg : H gl = some (.lst (cs.map V.int))
  c0 : ∀ c ∈ cs, 0 ≤ c
  few : cs.length ≤ 60
  m0 : 0 ≤ m
  m1 : m < 2147483647
def BoxOk (S : Sg) (H : Hp) (bx : Addr) : Prop := ∃ gl cs m, BxAt S H bx gl cs m
theorem BxAt.same {S : Sg} {H H' : Hp} {bx gl : Addr} {cs : List Int} {m : Int} (e : Same H H') (h : BxAt S H bx gl cs m) : BxAt S H' bx gl cs m :=
  ⟨h.ow.same e, h.sb, h.sg, h.ne, e _ _ h.vb, e _ _ h.vg, h.c0, h.few, h.m0, h.m1⟩
theorem BoxOk.same {S : Sg} {H H' : Hp} {bx : Addr} (e : Same H H') (h : BoxOk S H bx) : BoxOk S H' bx := by
  obtain ⟨gl, cs, m, h⟩ := h
  exact ⟨gl, cs, m, h.same e⟩
theorem BxAt.wg {S : Sg} {H : Hp} {bx gl : Addr} {cs : List Int} {m : Int} (ds : List Int) (h : BxAt S H bx gl cs m) (d0 : ∀ c ∈ ds, 0 ≤ c) (few : ds.length ≤ 60) : BxAt S (upd H gl (.lst (ds.map V.int))) bx gl ds m :=
  ⟨h.ow.upd rfl, h.sb, h.sg, h.ne, by rw [upd_ne (Ne.symm h.ne)]; exact h.vb, upd_same, d0, few, h.m0, h.m1⟩
theorem BxAt.wm {S : Sg} {H : Hp} {bx gl : Addr} {cs : List Int} {m : Int} (n : Int) (h : BxAt S H bx gl cs m) (n0 : 0 ≤ n) (n1 : n < 2147483647) : BxAt S (upd H bx (.dK [(.inr "great", .ref gl), (.inr "mixed", .int n)])) bx gl cs n :=
  ⟨h.ow.upd rfl, h.sb, h.sg, h.ne, upd_same, by rw [upd_ne h.ne]; exact h.vg, h.c0, h.few, n0, n1⟩
theorem seqJ {j n : Nat} (h : j < n) : seqIndex? (j : Int) n = some j := by
  unfold seqIndex?
  have h1 : ¬ (j : Int) < 0 := by omega
  have h2 : (decide ((0 : Int) ≤ j) && decide ((j : Int) < n)) = true := Bool.and_eq_true_iff.mpr ⟨decide_eq_true (by omega), decide_eq_true (by omega)⟩
  simp only [if_neg h1]
  rw [if_pos h2]
  rfl
theorem wide_log {w : Int} (h1 : 1 ≤ w) (h2 : w ≤ 1000) : w.natAbs.log2 < 9000 := Nat.lt_of_le_of_lt (Nat.log2_le_self _) (by omega)
/-- a thing that is not owned, new since H, is written -/
theorem msk_mut {S : Sg} {H H1 : Hp} {q : Addr} {o : HO} (f : Same (msk S H) (msk S H1)) (n : H q = none) : Same (msk S H) (msk S (upd H1 q o)) := fun a u h => by
  have h1 := f a u h
  obtain ⟨h2, h3⟩ := msk_some h1
  have hq : a ≠ q := ne_of_none (msk_some h).2 n
  rw [msk_at h2, upd_ne hq]
  exact h3
theorem BxAt.wo {S : Sg} {H : Hp} {bx gl q : Addr} {cs : List Int} {m : Int} {o : HO} (h : BxAt S H bx gl cs m) (hq : S q = false) : BxAt S (upd H q o) bx gl cs m := by
  have n1 : bx ≠ q := fun z => by have := h.sb; rw [z, hq] at this; cases this
  have n2 : gl ≠ q := fun z => by have := h.sg; rw [z, hq] at this; cases this
  refine ⟨fun a ha => ?_, h.sb, h.sg, h.ne, by rw [upd_ne n1]; exact h.vb, by rw [upd_ne n2]; exact h.vg, h.c0, h.few, h.m0, h.m1⟩
  have n3 : a ≠ q := fun z => by rw [z, hq] at ha; cases ha
  rw [upd_ne n3]
  exact h.ow a ha
theorem BoxOk.wo {S : Sg} {H : Hp} {bx q : Addr} {o : HO} (h : BoxOk S H bx) (hq : S q = false) : BoxOk S (upd H q o) bx := by
  obtain ⟨gl, cs, m, h⟩ := h
  exact ⟨gl, cs, m, h.wo hq⟩
theorem BoxOk.ow {S : Sg} {H : Hp} {bx : Addr} (h : BoxOk S H bx) : Ow S H := by
  obtain ⟨gl, cs, m, h⟩ := h
  exact h.ow
theorem same_at {S : Sg} {H H1 : Hp} {q : Addr} {o : HO} (f : Same (msk S H) (msk S H1)) (hq : S q = false) (e : H q = some o) : H1 q = some o := (msk_some (f q o (by rw [msk_at hq]; exact e))).2
theorem DpAll.up {K : Fg} {H H' : Hp} {v : List V} {d : List PyData} (e : Same H H') (h : DpAll K H v d) : DpAll K H' v d := (dmono K e).2 v d h
theorem dp_erase {K : Fg} {H : Hp} {vs : List V} {ds : List PyData} (n : Nat) (h : DpAll K H vs ds) : DpAll K H (vs.eraseIdx n) (ds.eraseIdx n) := by
  rw [List.eraseIdx_eq_take_drop_succ, List.eraseIdx_eq_take_drop_succ]
  exact Lt.DpAll.app (Lt.DpAll.take n h) (Lt.DpAll.drop (n + 1) h)
/-- a while loop, by what holds at each turn and at the end -/
theorem wh {c : TT} {tb : TS} {D : Ends} {σ : L2.St} {H : Hp} (W : Nat → L2.St → Hp → Prop) (B : L2.St → Hp → Prop) (m : Nat) (w0 : W m σ H) (hB : ∀ σ H, B σ H → D.nx σ H)
    (hs : ∀ (D : Ends), (∀ σ H, B σ H → D.nx σ H) → ∀ m σ H, W m σ H → c σ H fun b H1 => if b = true then ∃ N : L2.St → Hp → Prop, (∀ σ' H', N σ' H' → ∃ m', m' < m ∧ W m' σ' H') ∧ tb { nx := N, rt := D.rt, bk := D.nx, ct := N } σ H1 else D.nx σ H1) : tWhile c tb D σ H :=
  ⟨W, ⟨m, w0⟩, fun m σ H w => hs D hB m σ H w⟩
section
variable {P : Program} {w : World} {K : Fg} {mg : Str → Option Value} {base : Heap}
def sp_law_take (K : Fg) : Sp := fun vs H Q _ => ∃ (bx : Addr) (wide : Int) (S : Sg), vs = [.ref bx, .int wide] ∧ BoxOk S H bx ∧ 1 ≤ wide ∧ wide ≤ 1000 ∧ ∀ k H', 0 ≤ k → k < wide → BoxOk S H' bx → Same (msk S H) (msk S H') → Q (.int k) H'
theorem len_law_take {vs H Q E} (h : sp_law_take K vs H Q E) : vs.length = 2 := by
  obtain ⟨_, _, _, rfl, _⟩ := h
  rfl
theorem sc_law_take : FnScope ["_law_box", "_law_wide", "_law_great", "_law_cell"] ["_law_box", "_law_wide"] (defScope d_law_take.st) := ⟨rfl, rfl, rfl, by decide +kernel, rfl, by decide +kernel, by decide +kernel⟩
theorem bi_law_take {K : Fg} {fd : FuncData} (F : FnD K d_law_take fd) : Binds K fd ["_law_box", "_law_wide"] [] := FunD.bindsN F fun _ _ _ _ _ _ us hl => match us, hl with | [_, _], _ => rfl
theorem body_law_take (T : Txt K mg) : BodyOk P w K mg base 0 ["_law_box", "_law_wide", "_law_great", "_law_cell"] d_law_take (sp_law_take K) := by
  intro cdv A outer s H vs Q E hr h
  obtain ⟨bx, wide, S, rfl, ⟨gl, cs, m, hb⟩, hw, hw2, k⟩ := h
  have nd := sc_law_take.nd
  refine ⟨_, (pss_cons (ps_set (i := 2) nd rfl (Or.inl rfl) (pe_dget (hu_of hr) (pv 0) pe_str (fun _ _ => rfl)))
      (pss_cons (ps_while PassesOwn.never (PW.pt (pw_and (pt_cmpR (op_neD hr.units) (pv 2) (pe_lst pa_nil) (nomark _)) (pw_and1 (pt_cmpR op_eq (pe_ix ix_list (pv 2) (pe_un un_neg pe_int) (fun _ _ => rfl)) pe_int (nomark _))))) (pss_one (ps_expr (pe_bm0 PySem.F.plainAttrs_list PySem.F.slot_list_pop PySem.F.type_list_pop mt_pop (pv 2)))))
      (pss_cons (ps_if (pt_cmpR (op_neD hr.units) (pv 2) (pe_lst pa_nil) (nomark _)) (pss_cons (ps_set (i := 3) nd rfl (Or.inl rfl) (pe_bm0 PySem.F.plainAttrs_list PySem.F.slot_list_pop PySem.F.type_list_pop mt_pop (pv 2)))
      (pss_cons (ps_expr (pe_bm PySem.F.plainAttrs_list PySem.F.slot_list_append PySem.F.type_list_append mt_append (pv 2) (pa_cons (pe_op op_fdivW (pv 3) (pv 1)) pa_nil)))
      (pss_one (ps_ret (pe_op op_mod (pe_callTy call_int1 (by rfl) T.b_int PyProof.Rows.boot_int (pa_cons (pv 3) pa_nil)) (pv 1)))))) pss_nil)
      (pss_cons (ps_dput (hu_of hr) (pv 0) pe_str (pe_op op_mod (pe_callTy call_int1 (by rfl) T.b_int PyProof.Rows.boot_int (pa_cons (pe_op op_add (pe_op op_mul (pe_dget (hu_of hr) (pv 0) pe_str (fun _ _ => rfl)) pe_int) pe_int) pa_nil)) pe_int) rfl)
      (pss_one (ps_ret (pe_op op_mod (pe_callTy call_int1 (by rfl) T.b_int PyProof.Rows.boot_int (pa_cons (pe_op op_fdivW (pe_dget (hu_of hr) (pv 0) pe_str (fun _ _ => rfl)) pe_int) pa_nil)) (pv 1)))))))), ?_⟩
  refine ⟨_, rfl, bx, .ref gl, rfl, dg (k := .inr "great") hb.vb rfl, ?_⟩
  refine wh (fun n σ H' => ∃ cs, n = cs.length ∧ σ = [some (.ref bx), some (.int wide), some (.ref gl), none] ∧ BxAt S H' bx gl cs m ∧ Same (msk S H) (msk S H')) (fun σ H' => ∃ cs, σ = [some (.ref bx), some (.int wide), some (.ref gl), none] ∧ BxAt S H' bx gl cs m ∧ Same (msk S H) (msk S H')) cs.length ⟨cs, rfl, rfl, hb, Same.refl _⟩ ?_ ?_
  · rintro σ H1 ⟨cs1, rfl, h1, f1⟩
    refine ⟨_, rfl, sz (by simp), fun g ng => ?_⟩
    refine ne0 (n := 1) (.lst (SqL.of h1.vg) (dp_ints _)) (fine_list fun _ _ => fine_int) (by decide) ng ⟨_, rfl, ?_⟩
    have s2 : Same H1 (upd H1 g (.lst [])) := same_new ng
    generalize upd H1 g (.lst []) = H2 at s2
    have h2 := h1.same s2
    have f2 := f1.trans (msk_same (S := S) s2)
    clear h1 f1 s2
    refine ite2 (fun q => ?_) (fun q => ?_)
    · rcases List.eq_nil_or_concat cs1 with z | ⟨ini, c, z⟩
      · rw [z] at q
        exact absurd q (by decide)
      rw [List.concat_eq_append] at z
      subst z
      have em : (ini ++ [c]).map V.int = ini.map V.int ++ [V.int c] := by rw [List.map_append] <;> rfl
      have hc := h2.c0 c (by simp)
      have hi : ∀ x ∈ ini, 0 ≤ x := fun x mx => h2.c0 x (by simp [mx])
      have hf := h2.few
      simp only [List.length_append, List.length_cons, List.length_nil] at hf
      refine ⟨_, rfl, .inl ⟨rfl, _, SqL.of h2.vg⟩, gl, _, .int c, rfl, rfl, h2.vg, by rw [em]; simp, ?_⟩
      rw [em, List.dropLast_concat]
      have h3 := h2.wg ini hi (by omega)
      have f3 : Same (msk S H) (msk S (upd H2 gl (.lst (ini.map V.int)))) := f2.trans (msk_put h2.sg)
      generalize upd H2 gl (.lst (ini.map V.int)) = H3 at h3 f3
      refine ⟨_, rfl, .inl ⟨rfl, _, SqL.of h3.vg⟩, _, rfl, _, rfl, _, _, rfl, rfl, ⟨by omega, wide_log hw hw2⟩, gl, _, _, rfl, rfl, h3.vg, szl (by rw [List.length_map]; omega), ?_⟩
      have em2 : ini.map V.int ++ [V.int (c / wide)] = (ini ++ [c / wide]).map V.int := by rw [List.map_append] <;> rfl
      rw [em2]
      have h4 := h3.wg (ini ++ [c / wide]) (fun x mx => by
        rcases List.mem_append.mp mx with h | h
        · exact hi x h
        · rw [List.mem_singleton.mp h]
          exact Int.ediv_nonneg hc (by omega)) (by simp only [List.length_append, List.length_cons, List.length_nil]; omega)
      have f4 : Same (msk S H) (msk S (upd H3 gl (.lst ((ini ++ [c / wide]).map V.int)))) := f3.trans (msk_put h3.sg)
      generalize upd H3 gl (.lst ((ini ++ [c / wide]).map V.int)) = H4 at h4 f4
      refine ⟨_, rfl, .inl ⟨_, rfl, _, rfl, _, _, rfl, rfl, by omega, ?_⟩⟩
      exact k _ _ (Int.emod_nonneg _ (by omega)) (Int.emod_lt_of_pos _ (by omega)) ⟨gl, _, m, h4⟩ f4
    · refine ⟨_, rfl, bx, .int m, rfl, dg (k := .inr "mixed") h2.vb rfl, _, _, rfl, rfl, .inr ⟨by decide, by decide⟩, _, _, rfl, rfl, .inl ⟨_, rfl, _, _, rfl, rfl, by omega, _, rfl, bx, _, rfl, DPut.k (k := .inr "mixed") h2.vb (szl (by simp)), ?_⟩⟩
      generalize hk1 : putK (κ := Key) _ _ _ = k1
      have e1 : k1 = [(.inr "great", .ref gl), (.inr "mixed", .int ((m * 48271 + 23) % 2147483647))] := hk1.symm.trans rfl
      subst e1
      clear hk1
      have h3 := h2.wm ((m * 48271 + 23) % 2147483647) (Int.emod_nonneg _ (by omega)) (Int.emod_lt_of_pos _ (by omega))
      have f3 : Same (msk S H) (msk S (upd H2 bx (.dK [(.inr "great", .ref gl), (.inr "mixed", .int ((m * 48271 + 23) % 2147483647))]))) := f2.trans (msk_put h2.sb)
      generalize upd H2 bx (.dK [(.inr "great", .ref gl), (.inr "mixed", .int ((m * 48271 + 23) % 2147483647))]) = H3 at h3 f3
      refine ⟨_, rfl, bx, .int _, rfl, dg (k := .inr "mixed") h3.vb rfl, _, _, rfl, rfl, ⟨by omega, by decide +kernel⟩, .inl ⟨_, rfl, _, rfl, _, _, rfl, rfl, by omega, ?_⟩⟩
      exact k _ _ (Int.emod_nonneg _ (by omega)) (Int.emod_lt_of_pos _ (by omega)) ⟨gl, _, _, h3⟩ f3
  · rintro D hB n σ H1 ⟨cs1, rfl, rfl, h1, f1⟩
    refine ⟨_, rfl, sz (by simp), fun g ng => ?_⟩
    refine ne0 (n := 1) (.lst (SqL.of h1.vg) (dp_ints _)) (fine_list fun _ _ => fine_int) (by decide) ng ⟨_, rfl, ?_⟩
    have s2 : Same H1 (upd H1 g (.lst [])) := same_new ng
    generalize upd H1 g (.lst []) = H2 at s2
    have h2 := h1.same s2
    have f2 := f1.trans (msk_same (S := S) s2)
    refine ite2 (fun q => ?_) (fun q => hB _ _ ⟨cs1, rfl, h2, f2⟩)
    rcases List.eq_nil_or_concat cs1 with z | ⟨ini, c, z⟩
    · rw [z] at q
      exact absurd q (by decide)
    rw [List.concat_eq_append] at z
    subst z
    have em : (ini ++ [c]).map V.int = ini.map V.int ++ [V.int c] := by rw [List.map_append] <;> rfl
    refine ⟨_, rfl, 1, rfl, gl, _, -1, .int c, rfl, rfl, SqL.of h2.vg, by rw [em]; exact atI_last _ _, rfl, _, rfl, ?_⟩
    refine ite2 (fun q => ?_) (fun q => hB _ _ ⟨_, rfl, h2, f2⟩)
    refine ⟨fun σ H' => σ = [some (.ref bx), some (.int wide), some (.ref gl), none] ∧ BxAt S H' bx gl ini m ∧ Same (msk S H) (msk S H'), fun σ' H' ⟨w1, w2, w3⟩ => ⟨ini.length, by simp, ini, rfl, w1, w2, w3⟩, ?_⟩
    refine ⟨_, rfl, .inl ⟨rfl, _, SqL.of h2.vg⟩, gl, _, .int c, rfl, rfl, h2.vg, by rw [em]; simp, rfl, ?_⟩
    rw [em, List.dropLast_concat]
    have hf := h2.few
    simp only [List.length_append, List.length_cons, List.length_nil] at hf
    exact ⟨h2.wg ini (fun x mx => h2.c0 x (by simp [mx])) (by omega), f2.trans (msk_put h2.sg)⟩
theorem cal_law_take (T : Txt K mg) : Cal P w K mg base 1 "_law_take" (sp_law_take K) [] := by
  obtain ⟨fd, F⟩ := T.d_law_take
  exact mkCal F T.g_law_take (bi_law_take F) sc_law_take (fun vs H Q E h => len_law_take h) (body_law_take T)
def sp_law_pick (K : Fg) : Sp := fun vs H Q _ => ∃ (bx l : Addr) (xs : List V) (S : Sg), vs = [.ref bx, .ref l] ∧ BoxOk S H bx ∧ SqL K (msk S H) l xs ∧ xs ≠ [] ∧ xs.length ≤ 1000 ∧ ∀ x H', x ∈ xs → BoxOk S H' bx → Same (msk S H) (msk S H') → Q x H'
theorem len_law_pick {vs H Q E} (h : sp_law_pick K vs H Q E) : vs.length = 2 := by
  obtain ⟨_, _, _, _, rfl, _⟩ := h
  rfl
theorem sc_law_pick : FnScope ["_law_box", "_law_some"] ["_law_box", "_law_some"] (defScope d_law_pick.st) := ⟨rfl, rfl, rfl, by decide +kernel, rfl, by decide +kernel, by decide +kernel⟩
theorem bi_law_pick {K : Fg} {fd : FuncData} (F : FnD K d_law_pick fd) : Binds K fd ["_law_box", "_law_some"] [] := FunD.bindsN F fun _ _ _ _ _ _ us hl => match us, hl with | [_, _], _ => rfl
theorem body_law_pick (T : Txt K mg) : BodyOk P w K mg base 1 ["_law_box", "_law_some"] d_law_pick (sp_law_pick K) := by
  intro cdv A outer s H vs Q E hr h
  obtain ⟨bx, l, xs, S, rfl, hb, hl, hne, h1000, k⟩ := h
  have nd := sc_law_pick.nd
  refine ⟨_, (pss_one (ps_ret (pe_ix ix_list (pv 1) (pe_c (cal_law_take T) hr (by decide) (by rfl) (pa_cons (pv 0) (pa_cons (pe_callB call_len_seq (by rfl) T.b_len PySem.boot_len (pa_cons (pv 1) pa_nil)) pa_nil))) (fun _ _ => rfl)))), ?_⟩
  have hp : 0 < xs.length := List.length_pos_iff.mpr hne
  refine ⟨_, rfl, _, rfl, _, rfl, l, xs, rfl, .inl (SqLm msk_le hl), bx, _, S, rfl, hb, by omega, by omega, fun i H' h0 h1 hb' f' => ?_⟩
  obtain ⟨n, rfl⟩ : ∃ n : Nat, i = n := ⟨i.toNat, by omega⟩
  have hn : n < xs.length := by omega
  exact ⟨l, xs, n, xs[n], rfl, rfl, SqLm msk_le (SqLm f' hl), atI_nat (List.getElem?_eq_getElem hn), k _ H' (List.getElem_mem hn) hb' f'⟩
theorem cal_law_pick (T : Txt K mg) : Cal P w K mg base 2 "_law_pick" (sp_law_pick K) [] := by
  obtain ⟨fd, F⟩ := T.d_law_pick
  exact mkCal F T.g_law_pick (bi_law_pick F) sc_law_pick (fun vs H Q E h => len_law_pick h) (body_law_pick T)
def sp_law_mixed (K : Fg) : Sp := fun vs H Q _ => ∃ (bx l : Addr) (xs : List V) (ds : List PyData) (S : Sg), vs = [.ref bx, .ref l] ∧ BoxOk S H bx ∧ SqL K (msk S H) l xs ∧ DpAll K (msk S H) xs ds ∧ (∀ d ∈ ds, Fine 9 d) ∧ xs.length ≤ 1000 ∧
  ∀ f ys H', (∀ y ∈ ys, y ∈ xs) → ys.length = xs.length → BoxOk S H' bx → Same (msk S H) (msk S H') → H f = none → H' f = some (.lst ys) → Q (.ref f) H'
theorem len_law_mixed {vs H Q E} (h : sp_law_mixed K vs H Q E) : vs.length = 2 := by
  obtain ⟨_, _, _, _, _, rfl, _⟩ := h
  rfl
theorem sc_law_mixed : FnScope ["_law_box", "_law_some", "_law_left", "_law_found"] ["_law_box", "_law_some"] (defScope d_law_mixed.st) := ⟨rfl, rfl, rfl, by decide +kernel, rfl, by decide +kernel, by decide +kernel⟩
theorem bi_law_mixed {K : Fg} {fd : FuncData} (F : FnD K d_law_mixed fd) : Binds K fd ["_law_box", "_law_some"] [] := FunD.bindsN F fun _ _ _ _ _ _ us hl => match us, hl with | [_, _], _ => rfl
theorem body_law_mixed (T : Txt K mg) : BodyOk P w K mg base 1 ["_law_box", "_law_some", "_law_left", "_law_found"] d_law_mixed (sp_law_mixed K) := by
  intro cdv A outer s H vs Q E hr h
  obtain ⟨bx, l, xs, ds, S, rfl, hb, hl, hd, hfine, h1000, k⟩ := h
  have nd := sc_law_mixed.nd
  refine ⟨_, (pss_cons (ps_par (i := 2) (j := 3) rfl nd rfl rfl (by decide) rfl rfl (pa_cons (pe_callTy call_list_of (by rfl) T.b_list PyProof.Rows.boot_list (pa_cons (pv 1) pa_nil)) (pa_cons (pe_lst pa_nil) pa_nil)) (by rfl))
      (pss_cons (ps_while PassesOwn.never (pt_cmpR (op_neD hr.units) (pv 2) (pe_lst pa_nil) (nomark _)) (pss_one (ps_expr (pe_bm PySem.F.plainAttrs_list PySem.F.slot_list_append PySem.F.type_list_append mt_append (pv 3) (pa_cons (pe_bm PySem.F.plainAttrs_list PySem.F.slot_list_pop PySem.F.type_list_pop mt_popAt (pv 2) (pa_cons (pe_c (cal_law_take T) hr (by decide) (by rfl) (pa_cons (pv 0) (pa_cons (pe_callB call_len_seq (by rfl) T.b_len PySem.boot_len (pa_cons (pv 2) pa_nil)) pa_nil))) pa_nil)) pa_nil)))))
      (pss_one (ps_ret (pv 3))))), ?_⟩
  refine ⟨_, rfl, l, xs, rfl, .inl (SqLm msk_le hl), fun q nq => ?_⟩
  have s1 : Same H (upd H q (.lst xs)) := same_new nq
  have v1 : (upd H q (.lst xs)) q = some (.lst xs) := upd_same
  generalize upd H q (.lst xs) = H1 at s1 v1
  refine ⟨sz (by simp), fun f nf => ⟨_, _, rfl, ?_⟩⟩
  have hne : f ≠ q := fun z => by
    subst z
    rw [v1] at nf
    cases nf
  have nf0 : H f = none := s1.free nf
  have s2 : Same H (upd H1 f (.lst [])) := s1.grow nf
  have vq : (upd H1 f (.lst [])) q = some (.lst xs) := by rw [upd_ne (Ne.symm hne)]; exact v1
  have vf : (upd H1 f (.lst [])) f = some (.lst []) := upd_same
  generalize upd H1 f (.lst []) = H2 at s2 vq vf
  have Sq : S q = false := hb.ow.not nq
  have Sf : S f = false := hb.ow.not nf0
  refine wh (fun n σ H' => ∃ left found es, n = left.length ∧ σ = [some (.ref bx), some (.ref l), some (.ref q), some (.ref f)] ∧ H' q = some (.lst left) ∧ H' f = some (.lst found) ∧ left.length + found.length = xs.length ∧ (∀ y ∈ left, y ∈ xs) ∧ (∀ y ∈ found, y ∈ xs) ∧ DpAll K (msk S H) left es ∧ (∀ d ∈ es, Fine 9 d) ∧ BoxOk S H' bx ∧ Same (msk S H) (msk S H'))
    (fun σ H' => ∃ found, σ = [some (.ref bx), some (.ref l), some (.ref q), some (.ref f)] ∧ H' f = some (.lst found) ∧ found.length = xs.length ∧ (∀ y ∈ found, y ∈ xs) ∧ BoxOk S H' bx ∧ Same (msk S H) (msk S H')) xs.length ⟨xs, [], ds, rfl, rfl, vq, vf, by simp, fun y m => m, fun y m => (List.not_mem_nil m).elim, hd, hfine, hb.same s2, msk_same s2⟩ ?_ ?_
  · rintro σ H3 ⟨found, rfl, vf3, hlen, hin, hb3, f3⟩
    exact ⟨_, rfl, k f found H3 hin hlen hb3 f3 nf0 vf3⟩
  · rintro D hB n σ H3 ⟨left, found, es, rfl, rfl, vq3, vf3, hlen, hinl, hinf, hd3, hfine3, hb3, f3⟩
    refine ⟨_, rfl, sz (by simp), fun g ng => ?_⟩
    have lde := Lt.DpAll.len hd3
    refine ne0 (n := 10) (.lst (SqL.of vq3) (DpAll.up (f3.trans msk_le) hd3)) (by have := fine_list (f := id) hfine3; rw [List.map_id] at this; exact this) (by decide) ng ⟨_, rfl, ?_⟩
    have s4 : Same H3 (upd H3 g (.lst [])) := same_new ng
    generalize upd H3 g (.lst []) = H4 at s4
    have f4 := f3.trans (msk_same (S := S) s4)
    have hb4 := hb3.same s4
    have vq4 := s4 _ _ vq3
    have vf4 := s4 _ _ vf3
    refine ite2 (fun q1 => ?_) (fun q1 => ?_)
    · have hp : 0 < left.length := by
        rw [lde]
        rcases es with _ | ⟨e, es⟩
        · exact absurd q1 (by decide)
        · exact Nat.succ_pos _
      refine ⟨fun σ H' => ∃ left' found es, left'.length + 1 = left.length ∧ σ = [some (.ref bx), some (.ref l), some (.ref q), some (.ref f)] ∧ H' q = some (.lst left') ∧ H' f = some (.lst found) ∧ left'.length + found.length = xs.length ∧ (∀ y ∈ left', y ∈ xs) ∧ (∀ y ∈ found, y ∈ xs) ∧ DpAll K (msk S H) left' es ∧ (∀ d ∈ es, Fine 9 d) ∧ BoxOk S H' bx ∧ Same (msk S H) (msk S H'), fun σ' H' ⟨left', found', es', w0, w⟩ => ⟨left'.length, by omega, left', found', es', rfl, w⟩, ?_⟩
      refine ⟨_, rfl, .inl ⟨rfl, _, SqL.of vf4⟩, _, rfl, .inl ⟨rfl, _, SqL.of vq4⟩, _, rfl, _, rfl, q, left, rfl, .inl (SqL.of vq4), ?_⟩
      refine ⟨bx, _, S, rfl, hb4, by omega, by omega, fun i H5 h0 h1 hb5 f5 => ?_⟩
      have vq5 := same_at f5 Sq vq4
      have vf5 := same_at f5 Sf vf4
      obtain ⟨j, rfl⟩ : ∃ j : Nat, i = j := ⟨i.toNat, by omega⟩
      have hj : j < left.length := by omega
      refine ⟨q, left, j, j, left[j], rfl, rfl, vq5, by omega, by omega, seqJ hj, List.getElem?_eq_getElem hj, ?_⟩
      have hb6 := hb5.wo (o := .lst (left.eraseIdx j)) Sq
      have f6 : Same (msk S H) (msk S (upd H5 q (.lst (left.eraseIdx j)))) := msk_mut (f4.trans f5) nq
      have vq6 : (upd H5 q (.lst (left.eraseIdx j))) q = some (.lst (left.eraseIdx j)) := upd_same
      have vf6 : (upd H5 q (.lst (left.eraseIdx j))) f = some (.lst found) := by rw [upd_ne hne]; exact vf5
      generalize upd H5 q (.lst (left.eraseIdx j)) = H6 at hb6 f6 vq6 vf6
      refine ⟨f, found, _, rfl, rfl, vf6, szl (by omega), ?_⟩
      have le := List.length_eraseIdx_of_lt hj
      refine ⟨left.eraseIdx j, found ++ [left[j]], es.eraseIdx j, by omega, rfl, by rw [upd_ne (Ne.symm hne)]; exact vq6, upd_same, by simp only [List.length_append, List.length_cons, List.length_nil]; omega, fun y m => hinl y (List.mem_of_mem_eraseIdx m), fun y m => ?_, dp_erase j hd3, fun d m => hfine3 d (List.mem_of_mem_eraseIdx m), hb6.wo Sf, msk_mut f6 nf0⟩
      rcases List.mem_append.mp m with h | h
      · exact hinf y h
      · rw [List.mem_singleton.mp h]
        exact hinl _ (List.getElem_mem hj)
    · have e0 : es = [] := by simpa using q1
      rw [e0] at lde
      have lde' : left.length = 0 := lde
      exact hB _ _ ⟨found, rfl, vf4, by omega, hinf, hb4, f4⟩
theorem cal_law_mixed (T : Txt K mg) : Cal P w K mg base 2 "_law_mixed" (sp_law_mixed K) [] := by
  obtain ⟨fd, F⟩ := T.d_law_mixed
  exact mkCal F T.g_law_mixed (bi_law_mixed F) sc_law_mixed (fun vs H Q E h => len_law_mixed h) (body_law_mixed T)
end
end Lt
set_option Elab.async false
set_option linter.all false
set_option maxRecDepth 100000
set_option maxHeartbeats 8000000
/-! draws: names, deeds, tests -/
namespace Lt
open PySem PySem.Spec PyProof.Rows L2
open C8 (Cal Met Mak pe_c pe_mk pe_mt pe_mt0 pe_gc)
theorem letter4 : ∀ z : Str, z ∈ (["a", "b", "c", "z"] : List Str) → z.length = 1 ∧ ∀ c ∈ z.cps.toList, c ∈ ("abcdefghijklmnopqrstuvwxyz" : Str).cps.toList := by decide +kernel
theorem msk_mut2 {S : Sg} {H H1 H2 : Hp} {D : Addr} {o : HO} (f1 : Same (msk S H) (msk S H1)) (n : H1 D = none) (f : Same (msk S H) (msk S H2)) : Same (msk S H) (msk S (upd H2 D o)) := fun a u hu => by
  have h7 := f a u hu
  obtain ⟨h8, h9⟩ := msk_some h7
  have ha : a ≠ D := ne_of_none (msk_some (f1 a u hu)).2 n
  rw [msk_at h8, upd_ne ha]
  exact h9
theorem ones_len : ∀ ts : List Str, (∀ t ∈ ts, t.length = 1) → (Str.join "" ts).length = ts.length
  | [], _ => rfl
  | [x], h => h x (by simp)
  | x :: y :: r, h => by
    have ih := ones_len (y :: r) fun t m => h t (List.mem_cons_of_mem _ m)
    rw [PyProof.Rows.join_cons_cons, lenA, lenA, ih, h x (by simp)]
    have e0 : ("" : Str).length = 0 := by decide +kernel
    rw [e0]
    simp only [List.length_cons]
    omega
theorem name_of {zs : List Str} (h : ∀ z ∈ zs, z ∈ (["a", "b", "c", "z"] : List Str)) (h1 : 1 ≤ zs.length) (h6 : zs.length ≤ 6) : nameOk (Txt.join "" zs) := by
  have hl : (Txt.join "" zs).length = zs.length := by
    rw [TL.join_eq]
    exact ones_len zs fun t m => (letter4 t (h t m)).1
  refine ⟨by omega, by omega, fun c hc => ?_⟩
  rw [TL.join_eq] at hc
  rcases (PyProof.Rows.mem_join "" c zs).mp hc with ⟨t, m, ht⟩ | ⟨_, hc2⟩
  · exact (letter4 t (h t m)).2 c ht
  · exact absurd hc2 (by
      show ¬ c ∈ ([] : List Nat)
      exact List.not_mem_nil)
section
variable {P : Program} {w : World} {K : Fg} {mg : Str → Option Value} {base : Heap}
def sp_law_name (K : Fg) : Sp := fun vs H Q _ => ∃ (bx : Addr) (size : Int) (S : Sg), vs = [.ref bx, .int size] ∧ BoxOk S H bx ∧ 1 ≤ size ∧ size ≤ 5 ∧ ∀ z H', nameOk z → BoxOk S H' bx → Same (msk S H) (msk S H') → Q (.str z) H'
theorem len_law_name {vs H Q E} (h : sp_law_name K vs H Q E) : vs.length = 2 := by
  obtain ⟨_, _, _, rfl, _⟩ := h
  rfl
theorem sc_law_name : FnScope ["_law_box", "_law_size", "_law_turn"] ["_law_box", "_law_size"] (defScope d_law_name.st) := ⟨rfl, rfl, rfl, by decide +kernel, rfl, by decide +kernel, by decide +kernel⟩
theorem bi_law_name {K : Fg} {fd : FuncData} (F : FnD K d_law_name fd) : Binds K fd ["_law_box", "_law_size"] [] := FunD.bindsN F fun _ _ _ _ _ _ us hl => match us, hl with | [_, _], _ => rfl
theorem body_law_name (T : Txt K mg) : BodyOk P w K mg base 2 ["_law_box", "_law_size", "_law_turn"] d_law_name (sp_law_name K) := by
  intro cdv A outer s H vs Q E hr h
  obtain ⟨bx, size, S, rfl, hb, h0, h5, k⟩ := h
  have nd := sc_law_name.nd
  refine ⟨_, (pss_one (ps_ret (pe_join pe_str (pe_lc (own := [("_law_turn", 2)]) (g := gName 2) (tt := tYes) rfl nd (pi_range1 (by rfl) T.b_range (pa_cons (pe_op op_add pe_int (pe_c (cal_law_take T) hr (by decide) (by rfl) (pa_cons (pv 0) (pa_cons (pv 1) pa_nil)))) pa_nil)) (blkOk_by (N := ["_law_box", "_law_size", "_law_turn"]) (sc := defScope d_law_name.st) (by decide +kernel)) (fun _ _ _ _ _ => (pg_name (i := 2) nd rfl (Or.inl rfl))) (fun _ _ _ _ _ => pts_nil) (fun _ _ _ _ _ => (pe_c (cal_law_pick T) hr (by decide) (by rfl) (pa_cons (pv 0) (pa_cons (pe_lst (pa_cons pe_str (pa_cons pe_str (pa_cons pe_str (pa_cons pe_str pa_nil))))) pa_nil)))))))), ?_⟩
  refine ⟨⟨_, rfl⟩, _, rfl, _, rfl, bx, _, S, rfl, hb, by omega, by omega, fun i H1 i0 i1 hb1 f1 => ?_⟩
  have SD : ∀ {D : Addr}, H1 D = none → S D = false := fun hD => hb1.ow.not hD
  refine ⟨_, _, rfl, rfl, _, rfl, by omega, by omega, fun D hD => ?_⟩
  refine lc_go walk_range (fun j acc H' => BoxOk S H' bx ∧ Same (msk S H) (msk S H') ∧ ∃ zs : List Str, acc = zs.map V.str ∧ zs.length = j ∧ ∀ z ∈ zs, z ∈ (["a", "b", "c", "z"] : List Str)) ⟨hb1.same (same_new hD), f1.trans (msk_same (same_new hD)), [], rfl, rfl, fun z m => (List.not_mem_nil m).elim⟩ (fun _ _ _ _ _ _ => trivial) (fun j x acc Ha Hb hj hl ⟨hb2, f2, zs, ez, lz, hz⟩ hD1 y => ?_) (fun acc H3 hl ⟨hb2, f2, zs, ez, lz, hz⟩ hD1 => ?_)
  · obtain ⟨rfl, rfl⟩ := y
    refine ⟨rfl, yes ?_⟩
    refine ⟨_, rfl, sz (by simp), fun l nl => ?_⟩
    have s4 : Same Hb (upd Hb l (.lst [.str "a", .str "b", .str "c", .str "z"])) := same_new nl
    have v4 : msk S (upd Hb l (.lst [.str "a", .str "b", .str "c", .str "z"])) l = some (.lst [.str "a", .str "b", .str "c", .str "z"]) := msk_new hb2.ow nl
    generalize upd Hb l (.lst [.str "a", .str "b", .str "c", .str "z"]) = H4 at s4 v4
    refine ⟨bx, l, _, S, rfl, hb2.same s4, SqL.of v4, by simp, by simp, fun z H5 hz5 hb5 f5 => ?_⟩
    have hz6 : ∃ z', z = .str z' ∧ z' ∈ (["a", "b", "c", "z"] : List Str) := by
      simp only [List.mem_cons, List.not_mem_nil, or_false] at hz5
      rcases hz5 with rfl | rfl | rfl | rfl
      · exact ⟨_, rfl, by simp⟩
      · exact ⟨_, rfl, by simp⟩
      · exact ⟨_, rfl, by simp⟩
      · exact ⟨_, rfl, by simp⟩
    obtain ⟨z', rfl, hz7⟩ := hz6
    have hD5 := same_at f5 (SD hD) (s4 _ _ hD1)
    refine lc_put hD5 hl (by omega) ⟨hb5.wo (SD hD), ?_, zs ++ [z'], ?_, by simp [lz], fun t m => ?_⟩
    · have f6 := (f2.trans (msk_same s4)).trans f5
      intro a u hu
      have h7 := f6 a u hu
      obtain ⟨h8, h9⟩ := msk_some h7
      have ha : a ≠ D := ne_of_none (msk_some (f1 a u hu)).2 hD
      rw [msk_at h8, upd_ne ha]
      exact h9
    · rw [ez, List.map_append]
      rfl
    · rcases List.mem_append.mp m with h | h
      · exact hz t h
      · rw [List.mem_singleton.mp h]
        exact hz7
  · refine ⟨_, D, zs, rfl, rfl, .inl (SqL.of (by rw [hD1, ez])), ?_, ?_⟩
    · have hs := sum_le (ys := zs) (n := 1) fun t m => by rw [(letter4 t (hz t m)).1]; exact Nat.le_refl 1
      have e0 : ("" : Str).length = 0 := by decide +kernel
      rw [e0]
      omega
    · exact k _ _ (name_of hz (by omega) (by omega)) hb2 f2
theorem cal_law_name (T : Txt K mg) : Cal P w K mg base 3 "_law_name" (sp_law_name K) [] := by
  obtain ⟨fd, F⟩ := T.d_law_name
  exact mkCal F T.g_law_name (bi_law_name F) sc_law_name (fun vs H Q E h => len_law_name h) (body_law_name T)
def sp_law_deeds (K : Fg) : Sp := fun vs H Q _ => ∃ (bx : Addr) (most : Int) (S : Sg), vs = [.ref bx, .int most] ∧ BoxOk S H bx ∧ 1 ≤ most ∧ most ≤ 4 ∧ ∀ (t : Addr) (xs : List Str) H', xs ≠ [] → xs.length ≤ 4 → (∀ x ∈ xs, x ∈ deeds8) → SqT K H' t (xs.map V.str) → BoxOk S H' bx → Same (msk S H) (msk S H') → Q (.ref t) H'
theorem len_law_deeds {vs H Q E} (h : sp_law_deeds K vs H Q E) : vs.length = 2 := by
  obtain ⟨_, _, _, rfl, _⟩ := h
  rfl
theorem sc_law_deeds : FnScope ["_law_box", "_law_most", "_law_every", "_law_turn"] ["_law_box", "_law_most"] (defScope d_law_deeds.st) := ⟨rfl, rfl, rfl, by decide +kernel, rfl, by decide +kernel, by decide +kernel⟩
theorem bi_law_deeds {K : Fg} {fd : FuncData} (F : FnD K d_law_deeds fd) : Binds K fd ["_law_box", "_law_most"] [] := FunD.bindsN F fun _ _ _ _ _ _ us hl => match us, hl with | [_, _], _ => rfl
theorem body_law_deeds (T : Txt K mg) : BodyOk P w K mg base 2 ["_law_box", "_law_most", "_law_every", "_law_turn"] d_law_deeds (sp_law_deeds K) := by
  intro cdv A outer s H vs Q E hr h
  obtain ⟨bx, most, S, rfl, hb, h0, h5, k⟩ := h
  have nd := sc_law_deeds.nd
  refine ⟨_, (pss_cons (ps_set (i := 2) nd rfl (Or.inr rfl) (pe_lst (pa_cons pe_str (pa_cons pe_str (pa_cons pe_str (pa_cons pe_str (pa_cons pe_str (pa_cons pe_str (pa_cons pe_str (pa_cons pe_str pa_nil))))))))))
      (pss_one (ps_ret (pe_callTy call_tuple_of (by rfl) T.b_tuple PyProof.Rows.boot_tuple (pa_cons (pe_lc (own := [("_law_turn", 3)]) (g := gName 3) (tt := tYes) rfl nd (pi_range1 (by rfl) T.b_range (pa_cons (pe_op op_add pe_int (pe_c (cal_law_take T) hr (by decide) (by rfl) (pa_cons (pv 0) (pa_cons (pv 1) pa_nil)))) pa_nil)) (blkOk_by (N := ["_law_box", "_law_most", "_law_every", "_law_turn"]) (sc := defScope d_law_deeds.st) (by decide +kernel)) (fun _ _ _ _ _ => (pg_name (i := 3) nd rfl (Or.inl rfl))) (fun _ _ _ _ _ => pts_nil) (fun _ _ _ _ _ => (pe_c (cal_law_pick T) hr (by decide) (by rfl) (pa_cons (pv 0) (pa_cons (pv 2) pa_nil))))) pa_nil))))), ?_⟩
  refine ⟨sz (by simp), fun l nl => ?_⟩
  have s0 : Same H (upd H l (.lst (deeds8.map V.str))) := same_new nl
  have v0 : msk S (upd H l (.lst (deeds8.map V.str))) l = some (.lst (deeds8.map V.str)) := msk_new hb.ow nl
  have hb0 := hb.same s0
  have f0 := msk_same (S := S) s0
  have ee : upd H l (.lst (deeds8.map V.str)) = upd H l (.lst [.str "break", .str "join", .str "mark", .str "unmark", .str "lift", .str "lower", .str "space", .str "close"]) := rfl
  rw [ee] at s0 v0 hb0 f0
  clear ee
  generalize upd H l (.lst [.str "break", .str "join", .str "mark", .str "unmark", .str "lift", .str "lower", .str "space", .str "close"]) = H0 at s0 v0 hb0 f0
  refine ⟨_, rfl, _, rfl, bx, most, S, rfl, hb0, by omega, by omega, fun i H1 i0 i1 hb1 f1' => ?_⟩
  have f1 := f0.trans f1'
  have SD : ∀ {D : Addr}, H1 D = none → S D = false := fun hD => hb1.ow.not hD
  refine ⟨_, _, rfl, rfl, _, rfl, by omega, by omega, fun D hD => ?_⟩
  refine lc_go walk_range (fun j acc H' => BoxOk S H' bx ∧ Same (msk S H0) (msk S H') ∧ ∃ zs : List Str, acc = zs.map V.str ∧ zs.length = j ∧ ∀ z ∈ zs, z ∈ deeds8) ⟨hb1.same (same_new hD), f1'.trans (msk_same (same_new hD)), [], rfl, rfl, fun z m => (List.not_mem_nil m).elim⟩ (fun _ _ _ _ _ _ => trivial) (fun j x acc Ha Hb hj hl ⟨hb2, f2, zs, ez, lz, hz⟩ hD1 y => ?_) (fun acc H3 hl ⟨hb2, f2, zs, ez, lz, hz⟩ hD1 => ?_)
  · obtain ⟨rfl, rfl⟩ := y
    refine ⟨rfl, yes ?_⟩
    refine ⟨_, rfl, _, rfl, bx, l, _, S, rfl, hb2, SqLm f2 (SqL.of v0), by decide, by decide, fun z H5 hz5 hb5 f5 => ?_⟩
    obtain ⟨z', hz7, rfl⟩ := List.mem_map.mp hz5
    have hD5 := same_at f5 (SD hD) hD1
    refine lc_put hD5 hl (by omega) ⟨hb5.wo (SD hD), msk_mut2 f1' hD (f2.trans f5), zs ++ [z'], ?_, by simp [lz], fun t m => ?_⟩
    · rw [ez, List.map_append]
      rfl
    · rcases List.mem_append.mp m with h | h
      · exact hz t h
      · rw [List.mem_singleton.mp h]
        exact hz7
  · refine ⟨D, acc, rfl, .inl ⟨SqL.of hD1, fun t nt => ?_⟩⟩
    have lz' : 1 ≤ zs.length ∧ zs.length ≤ 4 := by omega
    exact k t zs _ (fun z => by rw [z] at lz'; exact absurd lz'.1 (by decide)) lz'.2 hz (by rw [ez]; exact SqT.of upd_same) (hb2.same (same_new nt)) ((f0.trans f2).trans (msk_same (same_new nt)))
theorem cal_law_deeds (T : Txt K mg) : Cal P w K mg base 3 "_law_deeds" (sp_law_deeds K) [] := by
  obtain ⟨fd, F⟩ := T.d_law_deeds
  exact mkCal F T.g_law_deeds (bi_law_deeds F) sc_law_deeds (fun vs H Q E h => len_law_deeds h) (body_law_deeds T)
def sp_law_tests (K : Fg) : Sp := fun vs H Q _ => ∃ (bx : Addr) (most : Int) (S : Sg), vs = [.ref bx, .int most] ∧ BoxOk S H bx ∧ 0 ≤ most ∧ most ≤ 4 ∧ ∀ (t : Addr) (xs : List Str) H', xs.length ≤ 4 → (∀ x ∈ xs, x ∈ tests20) → SqT K H' t (xs.map V.str) → BoxOk S H' bx → Same (msk S H) (msk S H') → Q (.ref t) H'
theorem len_law_tests {vs H Q E} (h : sp_law_tests K vs H Q E) : vs.length = 2 := by
  obtain ⟨_, _, _, rfl, _⟩ := h
  rfl
def every10 : List Str := ["broken", "marked", "left", "ahead", "behind", "blank", "long", "long", "first", "afterbroken"]
theorem sc_law_tests : FnScope ["_law_box", "_law_most", "_law_every", "_law_found", "_law_turn", "_law_word"] ["_law_box", "_law_most"] (defScope d_law_tests.st) := ⟨rfl, rfl, rfl, by decide +kernel, rfl, by decide +kernel, by decide +kernel⟩
theorem bi_law_tests {K : Fg} {fd : FuncData} (F : FnD K d_law_tests fd) : Binds K fd ["_law_box", "_law_most"] [] := FunD.bindsN F fun _ _ _ _ _ _ us hl => match us, hl with | [_, _], _ => rfl
theorem body_law_tests (T : Txt K mg) : BodyOk P w K mg base 2 ["_law_box", "_law_most", "_law_every", "_law_found", "_law_turn", "_law_word"] d_law_tests (sp_law_tests K) := by
  intro cdv A outer s H vs Q E hr h
  obtain ⟨bx, most, S, rfl, hb, h0, h5, k⟩ := h
  have nd := sc_law_tests.nd
  refine ⟨_, (pss_cons (ps_set (i := 2) nd rfl (Or.inl rfl) (pe_lst (pa_cons pe_str (pa_cons pe_str (pa_cons pe_str (pa_cons pe_str (pa_cons pe_str (pa_cons pe_str (pa_cons pe_str (pa_cons pe_str (pa_cons pe_str (pa_cons pe_str pa_nil))))))))))))
      (pss_cons (ps_set (i := 3) nd rfl (Or.inl rfl) (pe_lst pa_nil))
      (pss_cons (ps_for PassesOwn.never rfl (pi_range1 (by rfl) T.b_range (pa_cons (pe_c (cal_law_take T) hr (by decide) (by rfl) (pa_cons (pv 0) (pa_cons (pe_op op_add (pv 1) pe_int) pa_nil))) pa_nil)) (pg_name (i := 4) nd rfl (Or.inl rfl)) (pss_cons (ps_set (i := 5) nd rfl (Or.inl rfl) (pe_c (cal_law_pick T) hr (by decide) (by rfl) (pa_cons (pv 0) (pa_cons (pe_op op_cat (pv 2) (pe_lst (pa_cons pe_str pa_nil))) pa_nil))))
      (pss_one (ps_expr (pe_bm PySem.F.plainAttrs_list PySem.F.slot_list_append PySem.F.type_list_append mt_append (pv 3) (pa_cons (pe_ifExp (pt_cmpR op_eq (pe_c (cal_law_take T) hr (by decide) (by rfl) (pa_cons (pv 0) (pa_cons pe_int pa_nil))) pe_int (nomark _)) (pe_op op_add_str pe_str (pv 5)) (pv 5)) pa_nil))))))
      (pss_one (ps_ret (pe_callTy call_tuple_of (by rfl) T.b_tuple PyProof.Rows.boot_tuple (pa_cons (pv 3) pa_nil))))))), ?_⟩
  refine ⟨sz (by simp), fun l nl => ?_⟩
  have s0 : Same H (upd H l (.lst [.str "broken", .str "marked", .str "left", .str "ahead", .str "behind", .str "blank", .str "long", .str "long", .str "first", .str "afterbroken"])) := same_new nl
  have v0 : (upd H l (.lst [.str "broken", .str "marked", .str "left", .str "ahead", .str "behind", .str "blank", .str "long", .str "long", .str "first", .str "afterbroken"])) l = some (.lst (every10.map V.str)) := upd_same
  generalize upd H l (.lst [.str "broken", .str "marked", .str "left", .str "ahead", .str "behind", .str "blank", .str "long", .str "long", .str "first", .str "afterbroken"]) = H0 at s0 v0
  refine ⟨sz (by simp), fun f nf => ?_⟩
  have Sl : S l = false := hb.ow.not nl
  have nf0 : H f = none := s0.free nf
  have Sf : S f = false := hb.ow.not nf0
  have s1 : Same H (upd H0 f (.lst [])) := s0.grow nf
  have v1 : (upd H0 f (.lst [])) l = some (.lst (every10.map V.str)) := same_new nf _ _ v0
  have vf : (upd H0 f (.lst [])) f = some (.lst []) := upd_same
  generalize upd H0 f (.lst []) = H1 at s1 v1 vf
  refine ⟨_, rfl, _, rfl, _, _, rfl, rfl, bx, _, S, rfl, hb.same s1, by omega, by omega, fun i H2 i0 i1 hb2 f2' => ?_⟩
  have f2 := (msk_same (S := S) s1).trans f2'
  have vl2 := same_at f2' Sl v1
  have vf2 := same_at f2' Sf vf
  have hlf : l ≠ f := fun z => by
    subst z
    rw [v0] at nf
    cases nf
  refine ⟨_, rfl, by omega, by omega, ?_⟩
  refine for_it walk_range (fun j σ H' => ∃ zs v4 v5, σ = [some (.ref bx), some (.int most), some (.ref l), some (.ref f), v4, v5] ∧ BoxOk S H' bx ∧ Same (msk S H) (msk S H') ∧ H' l = some (.lst (every10.map V.str)) ∧ H' f = some (.lst (zs.map V.str)) ∧ zs.length = j ∧ ∀ z ∈ zs, z ∈ tests20) ⟨[], none, none, rfl, hb2, f2, vl2, vf2, rfl, fun z m => (List.not_mem_nil m).elim⟩ (fun _ _ _ _ _ => trivial) ?_ ?_
  · rintro j x σ Ha Hb hj ⟨zs, v4, v5, rfl, hb3, f3, vl3, vf3, lz, hz⟩ ⟨rfl, rfl⟩
    refine ⟨_, rfl, _, rfl, sz (by simp), fun g ng => ?_⟩
    have s4 : Same Hb (upd Hb g (.lst [.str "afterbehind"])) := same_new ng
    have vg : (upd Hb g (.lst [.str "afterbehind"])) g = some (.lst [.str "afterbehind"]) := upd_same
    generalize upd Hb g (.lst [.str "afterbehind"]) = H4 at s4 vg
    refine ⟨l, g, _, _, rfl, rfl, s4 _ _ vl3, vg, by decide +kernel, fun c nc => ?_⟩
    have s5 : Same Hb (upd H4 c (.lst (every10.map V.str ++ [.str "afterbehind"]))) := s4.grow nc
    have vc : msk S (upd H4 c (.lst (every10.map V.str ++ [.str "afterbehind"]))) c = some (.lst ((every10 ++ [("afterbehind" : Str)]).map V.str)) := by
      rw [msk_new (hb3.same s4).ow nc, List.map_append]
      rfl
    generalize upd H4 c (.lst (every10.map V.str ++ [.str "afterbehind"])) = H5 at s5 vc
    have hm : ∀ z ∈ every10 ++ [("afterbehind" : Str)], z ∈ tests10 := by decide +kernel
    refine ⟨bx, c, _, S, rfl, hb3.same s5, SqL.of vc, by decide, by decide, fun z H6 hz6 hb6 f6 => ?_⟩
    obtain ⟨z', hz7, rfl⟩ := List.mem_map.mp hz6
    have hz8 := hm z' hz7
    refine ⟨_, rfl, .inl ⟨rfl, _, SqL.of (same_at f6 Sf (s5 _ _ vf3))⟩, _, rfl, bx, 3, S, rfl, hb6, by omega, by omega, fun n H7 n0 n1 hb7 f7 => ⟨rfl, _, rfl, ?_⟩⟩
    have f67 := f6.trans f7
    have f3' := (f3.trans (msk_same s5)).trans f67
    have vl7 := same_at f67 Sl (s5 _ _ vl3)
    have vf7 := same_at f67 Sf (s5 _ _ vf3)
    refine ifE (fun v H' => H' = H7 ∧ ∃ u : Str, v = .str u ∧ u ∈ tests20) (fun q Q q2 => ?_) (fun q Q q2 => ?_) ?_
    · have l20 := t20_len z' (List.mem_append_left _ hz8)
      have l4 : ("not " : Str).length = 4 := by decide +kernel
      exact ⟨_, rfl, _, _, rfl, rfl, sz (by omega), q2 _ _ ⟨rfl, _, rfl, List.mem_append_right _ (List.mem_map.mpr ⟨z', hz8, rfl⟩)⟩⟩
    · exact ⟨_, rfl, q2 _ _ ⟨rfl, _, rfl, List.mem_append_left _ hz8⟩⟩
    rintro v H8 ⟨e8, u, rfl, hu⟩
    rw [e8]
    refine ⟨f, _, _, rfl, rfl, vf7, szl (by rw [List.length_map]; omega), ?_⟩
    refine ⟨zs ++ [u], _, _, rfl, hb7.wo Sf, msk_mut f3' nf0, by rw [upd_ne hlf]; exact vl7, by rw [upd_same, List.map_append] <;> rfl, by simp [lz], fun t m => ?_⟩
    rcases List.mem_append.mp m with h | h
    · exact hz t h
    · rw [List.mem_singleton.mp h]
      exact hu
  · rintro σ H3 ⟨zs, v4, v5, rfl, hb3, f3, vl3, vf3, lz, hz⟩
    refine ⟨_, rfl, f, _, rfl, .inl ⟨SqL.of vf3, fun t nt => ?_⟩⟩
    exact k t zs _ (by omega) hz (SqT.of upd_same) (hb3.same (same_new nt)) (f3.trans (msk_same (same_new nt)))
theorem cal_law_tests (T : Txt K mg) : Cal P w K mg base 3 "_law_tests" (sp_law_tests K) [] := by
  obtain ⟨fd, F⟩ := T.d_law_tests
  exact mkCal F T.g_law_tests (bi_law_tests F) sc_law_tests (fun vs H Q E h => len_law_tests h) (body_law_tests T)
end
end Lt
set_option Elab.async false
set_option linter.all false
set_option maxRecDepth 100000
set_option maxHeartbeats 8000000
/-! draws: pieces -/
namespace Lt
open PySem PySem.Spec PyProof.Rows L2
open C8 (Cal Met Mak pe_c pe_mk pe_mt pe_mt0 pe_gc)
section
variable {P : Program} {w : World} {K : Fg} {mg : Str → Option Value} {base : Heap}
theorem catA {H : Hp} {Q : VK} {a b : Addr} {xs ys : List V} (ha : SqT K H a xs) (hb : SqT K H b ys) (hx : xs ≠ []) (hy : ys ≠ []) (hz : xs.length + ys.length ≤ 100000) (k : ∀ p, H p = none → Q (.ref p) (upd H p (.tup (xs ++ ys)))) : rCatA K (.ref a) (.ref b) H Q :=
  ⟨a, b, xs, ys, rfl, rfl, ha, hb, sz hz, fun z => absurd z hx, fun _ z => absurd z hy, fun _ _ => k⟩
def sp_law_piece (K : Fg) : Sp := fun vs H Q _ => ∃ (bx : Addr) (S : Sg), vs = [.ref bx] ∧ BoxOk S H bx ∧ ∀ v d H', PtAt K H' v d → BoxOk S H' bx → Same (msk S H) (msk S H') → Q v H'
theorem len_law_piece {vs H Q E} (h : sp_law_piece K vs H Q E) : vs.length = 1 := by
  obtain ⟨_, _, rfl, _⟩ := h
  rfl
theorem sc_law_piece : FnScope ["_law_box", "_law_many", "_law_parts", "_law_flags", "_law_remarks", "_law_blanks", "_law_turn"] ["_law_box"] (defScope d_law_piece.st) := ⟨rfl, rfl, rfl, by decide +kernel, rfl, by decide +kernel, by decide +kernel⟩
theorem bi_law_piece {K : Fg} {fd : FuncData} (F : FnD K d_law_piece fd) : Binds K fd ["_law_box"] [] := FunD.bindsN F fun _ _ _ _ _ _ us hl => match us, hl with | [_], _ => rfl
theorem body_law_piece (T : Txt K mg) : BodyOk P w K mg base 3 ["_law_box", "_law_many", "_law_parts", "_law_flags", "_law_remarks", "_law_blanks", "_law_turn"] d_law_piece (sp_law_piece K) := by
  intro cdv A outer s H vs Q E hr h
  obtain ⟨bx, S, rfl, hb, k⟩ := h
  have nd := sc_law_piece.nd
  refine ⟨_, (pss_cons (ps_set (i := 1) nd rfl (Or.inl rfl) (pe_op op_add pe_int (pe_c (cal_law_take T) hr (by decide) (by rfl) (pa_cons (pv 0) (pa_cons (pe_c (cal_law_pick T) hr (by decide) (by rfl) (pa_cons (pv 0) (pa_cons (pe_lst (pa_cons pe_int (pa_cons pe_int (pa_cons pe_int (pa_cons pe_int pa_nil))))) pa_nil))) pa_nil)))))
      (pss_cons (ps_set (i := 2) nd rfl (Or.inl rfl) (pe_callTy call_tuple_of (by rfl) T.b_tuple PyProof.Rows.boot_tuple (pa_cons (pe_lc (own := [("_law_turn", 6)]) (g := gName 6) (tt := tYes) rfl nd (pi_range1 (by rfl) T.b_range (pa_cons (pv 1) pa_nil)) (blkOk_by (N := ["_law_box", "_law_many", "_law_parts", "_law_flags", "_law_remarks", "_law_blanks", "_law_turn"]) (sc := defScope d_law_piece.st) (by decide +kernel)) (fun _ _ _ _ _ => (pg_name (i := 6) nd rfl (Or.inl rfl))) (fun _ _ _ _ _ => pts_nil) (fun _ _ _ _ _ => (pe_c (cal_law_name T) hr (by decide) (by rfl) (pa_cons (pv 0) (pa_cons pe_int pa_nil))))) pa_nil)))
      (pss_cons (ps_set (i := 3) nd rfl (Or.inl rfl) (pe_tup (pa_cons (pe_cmpR op_eq (pe_c (cal_law_take T) hr (by decide) (by rfl) (pa_cons (pv 0) (pa_cons pe_int pa_nil))) pe_int (nomark _)) (pa_cons (pe_cmpR op_eq (pe_c (cal_law_take T) hr (by decide) (by rfl) (pa_cons (pv 0) (pa_cons pe_int pa_nil))) pe_int (nomark _)) pa_nil))))
      (pss_cons (ps_set (i := 4) nd rfl (Or.inl rfl) (pe_callTy call_tuple_of (by rfl) T.b_tuple PyProof.Rows.boot_tuple (pa_cons (pe_lc (own := [("_law_turn", 6)]) (g := gName 6) (tt := tYes) rfl nd (pi_range1 (by rfl) T.b_range (pa_cons pe_int pa_nil)) (blkOk_by (N := ["_law_box", "_law_many", "_law_parts", "_law_flags", "_law_remarks", "_law_blanks", "_law_turn"]) (sc := defScope d_law_piece.st) (by decide +kernel)) (fun _ _ _ _ _ => (pg_name (i := 6) nd rfl (Or.inl rfl))) (fun _ _ _ _ _ => pts_nil) (fun _ _ _ _ _ => (pe_ifExp (pt_cmpR op_eq (pe_c (cal_law_take T) hr (by decide) (by rfl) (pa_cons (pv 0) (pa_cons pe_int pa_nil))) pe_int (nomark _)) (pe_c (cal_law_name T) hr (by decide) (by rfl) (pa_cons (pv 0) (pa_cons pe_int pa_nil))) pe_str))) pa_nil)))
      (pss_cons (ps_set (i := 5) nd rfl (Or.inl rfl) (pe_c (cal_law_pick T) hr (by decide) (by rfl) (pa_cons (pv 0) (pa_cons (pe_lst (pa_cons pe_int (pa_cons pe_int (pa_cons pe_int (pa_cons pe_int (pa_cons pe_int pa_nil)))))) pa_nil))))
      (pss_one (ps_ret (pe_op op_catA (pe_op op_catA (pe_op op_catA (pe_tup (pa_cons (pe_c (cal_law_name T) hr (by decide) (by rfl) (pa_cons (pv 0) (pa_cons pe_int pa_nil))) (pa_cons (pv 2) pa_nil))) (pv 3)) (pv 4)) (pe_tup (pa_cons (pv 5) (pa_cons (pe_cmpR op_eq (pe_c (cal_law_take T) hr (by decide) (by rfl) (pa_cons (pv 0) (pa_cons pe_int pa_nil))) pe_int (nomark _)) pa_nil))))))))))), ?_⟩
  refine ⟨_, rfl, _, rfl, sz (by simp), fun g ng => ?_⟩
  have s1 : Same H (upd H g (.lst [.int 3, .int 3, .int 3, .int 8])) := same_new ng
  have v1 : msk S (upd H g (.lst [.int 3, .int 3, .int 3, .int 8])) g = some (.lst [.int 3, .int 3, .int 3, .int 8]) := msk_new hb.ow ng
  generalize upd H g (.lst [.int 3, .int 3, .int 3, .int 8]) = H1 at s1 v1
  refine ⟨bx, g, _, S, rfl, hb.same s1, SqL.of v1, by simp, by simp, fun x H2 hx hb2 f2' => ?_⟩
  have f2 := (msk_same (S := S) s1).trans f2'
  obtain ⟨m, rfl, m1, m8⟩ : ∃ m : Int, x = .int m ∧ 1 ≤ m ∧ m ≤ 8 := by
    simp only [List.mem_cons, List.not_mem_nil, or_false] at hx
    rcases hx with rfl | rfl | rfl | rfl
    · exact ⟨3, rfl, by decide, by decide⟩
    · exact ⟨3, rfl, by decide, by decide⟩
    · exact ⟨3, rfl, by decide, by decide⟩
    · exact ⟨8, rfl, by decide, by decide⟩
  refine ⟨bx, m, S, rfl, hb2, by omega, by omega, fun n H3 n0 n1 hb3 f3' => ?_⟩
  have f3 := f2.trans f3'
  clear f2 f2' f3' s1 v1 ng hb2
  refine ⟨_, _, rfl, rfl, ?_⟩
  refine ⟨_, rfl, _, rfl, by omega, by omega, fun D hD => ?_⟩
  have SD : S D = false := hb3.ow.not hD
  refine lc_go walk_range (fun j acc H' => BoxOk S H' bx ∧ Same (msk S H3) (msk S H') ∧ ∃ zs : List Str, acc = zs.map V.str ∧ zs.length = j ∧ ∀ z ∈ zs, nameOk z) ⟨hb3.same (same_new hD), msk_same (same_new hD), [], rfl, rfl, fun z m => (List.not_mem_nil m).elim⟩ (fun _ _ _ _ _ _ => trivial) (fun j x acc Ha Hb hj hl ⟨hb4, f4, zs, ez, lz, hz⟩ hD1 y => ?_) (fun acc H4 hl ⟨hb4, f4, zs, ez, lz, hz⟩ hD1 => ?_)
  · obtain ⟨rfl, rfl⟩ := y
    refine ⟨rfl, yes ⟨_, rfl, bx, 3, S, rfl, hb4, by decide, by decide, fun z H5 hz5 hb5 f5 => ?_⟩⟩
    refine lc_put (same_at f5 SD hD1) hl (by omega) ⟨hb5.wo SD, msk_mut2 (Same.refl _) hD (f4.trans f5), zs ++ [z], ?_, by simp [lz], fun t m => ?_⟩
    · rw [ez, List.map_append]
      rfl
    · rcases List.mem_append.mp m with h | h
      · exact hz t h
      · rw [List.mem_singleton.mp h]
        exact hz5
  refine ⟨D, acc, rfl, .inl ⟨SqL.of hD1, fun pa na => ?_⟩⟩
  have s5 : Same H4 (upd H4 pa (.tup acc)) := same_new na
  have v5 : SqT K (msk S (upd H4 pa (.tup acc))) pa (zs.map V.str) := by
    rw [← ez]
    exact SqT.of (msk_new hb4.ow na)
  have hb5 := hb4.same s5
  have f5 := (f3.trans f4).trans (msk_same s5)
  generalize upd H4 pa (.tup acc) = H5 at s5 v5 hb5 f5
  clear s5 na hb4 f4 hD1 hl hD f3 hb3
  refine ⟨_, rfl, bx, 3, S, rfl, hb5, by decide, by decide, fun a6 H6 _ _ hb6 f6' => ⟨rfl, _, rfl, bx, 3, S, rfl, hb6, by decide, by decide, fun a7 H7 _ _ hb7 f7' => ⟨rfl, ?_⟩⟩⟩
  refine ⟨sz (by simp), fun fl nfl => ?_⟩
  generalize decide (V.int a6 = V.int 0) = b6
  generalize decide (V.int a7 = V.int 0) = b7
  have s8 : Same H7 (upd H7 fl (.tup [.bl b6, .bl b7])) := same_new nfl
  have v8 : SqT K (msk S (upd H7 fl (.tup [.bl b6, .bl b7]))) fl [.bl b6, .bl b7] := SqT.of (msk_new hb7.ow nfl)
  have hb8 := hb7.same s8
  have f58 := (f6'.trans f7').trans (msk_same s8)
  have f8 := f5.trans f58
  have p8 := SqTm f58 v5
  generalize upd H7 fl (.tup [.bl b6, .bl b7]) = H8 at s8 v8 hb8 f8 p8
  clear f58 s8 nfl hb7 f7' hb6 f6' hb5 v5 f5
  refine ⟨_, rfl, by omega, by omega, fun D hD => ?_⟩
  have SD : S D = false := hb8.ow.not hD
  refine lc_go walk_range (fun j acc H' => BoxOk S H' bx ∧ Same (msk S H8) (msk S H') ∧ ∃ zs : List Str, acc = zs.map V.str ∧ zs.length = j ∧ ∀ z ∈ zs, z = "" ∨ nameOk z) ⟨hb8.same (same_new hD), msk_same (same_new hD), [], rfl, rfl, fun z m => (List.not_mem_nil m).elim⟩ (fun _ _ _ _ _ _ => trivial) (fun j x acc Ha Hb hj hl ⟨hb4, f4, rs, ez, lz2, hrs⟩ hD1 y => ?_) (fun acc H9 hl ⟨hb9, f9, rs, ez, lz2, hrs⟩ hD1 => ?_)
  · obtain ⟨rfl, rfl⟩ := y
    refine ⟨rfl, yes ⟨_, rfl, bx, 3, S, rfl, hb4, by decide, by decide, fun a5 H5 _ _ hb5 f5 => ⟨rfl, _, rfl, ?_⟩⟩⟩
    refine ifE (fun v H' => ∃ z : Str, v = .str z ∧ (z = "" ∨ nameOk z) ∧ BoxOk S H' bx ∧ Same (msk S H5) (msk S H')) (fun q Q q2 => ?_) (fun q Q q2 => ?_) ?_
    · exact ⟨_, rfl, bx, 3, S, rfl, hb5, by decide, by decide, fun z H6 hz6 hb6 f6 => q2 _ _ ⟨z, rfl, .inr hz6, hb6, f6⟩⟩
    · exact q2 _ _ ⟨"", rfl, .inl rfl, hb5, Same.refl _⟩
    rintro v H6 ⟨z, rfl, hz6, hb6, f6⟩
    refine lc_put (same_at (f5.trans f6) SD hD1) hl (by omega) ⟨hb6.wo SD, msk_mut2 (Same.refl _) hD ((f4.trans f5).trans f6), rs ++ [z], ?_, by simp [lz2], fun t m => ?_⟩
    · rw [ez, List.map_append]
      rfl
    · rcases List.mem_append.mp m with h | h
      · exact hrs t h
      · rw [List.mem_singleton.mp h]
        exact hz6
  refine ⟨D, acc, rfl, .inl ⟨SqL.of hD1, fun rm nr => ?_⟩⟩
  obtain ⟨ah, bh, ers⟩ : ∃ ah bh : Str, rs = [ah, bh] := by
    match rs, lz2 with
    | [a, b], _ => exact ⟨a, b, rfl⟩
  subst ers
  subst ez
  have s10 : Same H9 (upd H9 rm (.tup ([ah, bh].map V.str))) := same_new nr
  have v10 : SqT K (msk S (upd H9 rm (.tup ([ah, bh].map V.str)))) rm [.str ah, .str bh] := SqT.of (msk_new hb9.ow nr)
  have hb10 := hb9.same s10
  have f810 := f9.trans (msk_same s10)
  have f10 := f8.trans f810
  have p10 := SqTm f810 p8
  have w10 := SqTm f810 v8
  generalize upd H9 rm (.tup ([ah, bh].map V.str)) = H10 at s10 v10 hb10 f10 p10 w10
  clear f810 s10 nr hb9 f9 hD1 hl hD p8 v8 f8 hb8
  have hah := hrs ah (by simp)
  have hbh := hrs bh (by simp)
  refine ⟨_, rfl, sz (by simp), fun g ng => ?_⟩
  have s1 : Same H10 (upd H10 g (.lst [.int 0, .int 0, .int 0, .int 1, .int 2])) := same_new ng
  have v1 : msk S (upd H10 g (.lst [.int 0, .int 0, .int 0, .int 1, .int 2])) g = some (.lst [.int 0, .int 0, .int 0, .int 1, .int 2]) := msk_new hb10.ow ng
  generalize upd H10 g (.lst [.int 0, .int 0, .int 0, .int 1, .int 2]) = H11 at s1 v1
  refine ⟨bx, g, _, S, rfl, hb10.same s1, SqL.of v1, by simp, by simp, fun x H12 hx hb12 f12' => ?_⟩
  obtain ⟨bk, rfl, bk0, bk2⟩ : ∃ m : Int, x = .int m ∧ 0 ≤ m ∧ m ≤ 2 := by
    simp only [List.mem_cons, List.not_mem_nil, or_false] at hx
    rcases hx with rfl | rfl | rfl | rfl | rfl
    · exact ⟨0, rfl, by decide, by decide⟩
    · exact ⟨0, rfl, by decide, by decide⟩
    · exact ⟨0, rfl, by decide, by decide⟩
    · exact ⟨1, rfl, by decide, by decide⟩
    · exact ⟨2, rfl, by decide, by decide⟩
  refine ⟨_, rfl, bx, 2, S, rfl, hb12, by decide, by decide, fun wo H13 hwo hb13 f13' => ?_⟩
  have fx := ((msk_same (S := S) s1).trans f12').trans f13'
  have f13 := f10.trans fx
  have p13 := SqTm fx p10
  have w13 := SqTm fx w10
  have r13 := SqTm fx v10
  clear fx f12' f13' s1 v1 ng p10 w10 v10 f10 hb10 hb12
  refine ⟨_, rfl, sz (by simp), fun t1 n1 => ⟨_, rfl, ?_⟩⟩
  have s1 : Same H13 (upd H13 t1 (.tup [.str wo, .ref pa])) := same_new n1
  have v1 : SqT K (upd H13 t1 (.tup [.str wo, .ref pa])) t1 [.str wo, .ref pa] := SqT.of upd_same
  generalize upd H13 t1 (.tup [.str wo, .ref pa]) = H14 at s1 v1
  refine catA v1 (SqTm s1 (SqT.m w13)) (by simp) (by simp) (by simp) fun t2 n2 => ⟨_, rfl, ?_⟩
  have s2 : Same H13 (upd H14 t2 (.tup ([.str wo, .ref pa] ++ [.bl b6, .bl b7]))) := s1.grow n2
  have v2 : SqT K (upd H14 t2 (.tup ([.str wo, .ref pa] ++ [.bl b6, .bl b7]))) t2 ([.str wo, .ref pa] ++ [.bl b6, .bl b7]) := SqT.of upd_same
  generalize upd H14 t2 (.tup ([.str wo, .ref pa] ++ [.bl b6, .bl b7])) = H15 at s2 v2
  refine catA v2 (SqTm s2 (SqT.m r13)) (by simp) (by simp) (by simp) fun t3 n3 => ⟨_, rfl, ?_⟩
  have s3 : Same H13 (upd H15 t3 (.tup ([.str wo, .ref pa] ++ [.bl b6, .bl b7] ++ [.str ah, .str bh]))) := s2.grow n3
  have hb16 := hb13.same s3
  have v3 : SqT K (msk S (upd H15 t3 (.tup ([.str wo, .ref pa] ++ [.bl b6, .bl b7] ++ [.str ah, .str bh])))) t3 ([.str wo, .ref pa] ++ [.bl b6, .bl b7] ++ [.str ah, .str bh]) := hb16.ow.tup (SqT.of upd_same)
  generalize upd H15 t3 (.tup ([.str wo, .ref pa] ++ [.bl b6, .bl b7] ++ [.str ah, .str bh])) = H16 at s3 v3 hb16
  have f16 := f13.trans (msk_same s3)
  have p16 := SqTm (msk_same s3) p13
  clear s2 v2 s1 v1 n1 n2 n3 w13 r13 p13 f13 hb13
  refine ⟨_, rfl, bx, 6, S, rfl, hb16, by decide, by decide, fun a17 H17 _ _ hb17 f17 => ⟨rfl, ?_⟩⟩
  generalize decide (V.int a17 = V.int 0) = bl
  refine ⟨sz (by simp), fun t4 n4 => ?_⟩
  have s4 : Same H17 (upd H17 t4 (.tup [.int bk, .bl bl])) := same_new n4
  have v4 : SqT K (upd H17 t4 (.tup [.int bk, .bl bl])) t4 [.int bk, .bl bl] := SqT.of upd_same
  generalize upd H17 t4 (.tup [.int bk, .bl bl]) = H18 at s4 v4
  refine catA (SqT.m (SqTm (f17.trans (msk_same s4)) v3)) v4 (by simp) (by simp) (by simp) fun t5 n5 => ?_
  have s5 := s4.grow (o := .tup ([.str wo, .ref pa] ++ [.bl b6, .bl b7] ++ [.str ah, .str bh] ++ [.int bk, .bl bl])) n5
  have fx := f17.trans (msk_same (S := S) s5)
  have lz1 : 1 ≤ zs.length ∧ zs.length ≤ 8 := by omega
  have zne : zs ≠ [] := fun z => by rw [z] at lz1; exact absurd lz1.1 (by decide)
  exact k (.ref t5) ⟨wo, zs, b6, b7, ah, bh, bk, bl⟩ _ ⟨t5, pa, rfl, SqT.of upd_same, SqT.m (SqTm fx p16), ⟨hwo, zne, lz1.2, hz, hah, hbh, bk0, bk2⟩⟩ (hb17.same s5) (f16.trans fx)
theorem cal_law_piece (T : Txt K mg) : Cal P w K mg base 4 "_law_piece" (sp_law_piece K) [] := by
  obtain ⟨fd, F⟩ := T.d_law_piece
  exact mkCal F T.g_law_piece (bi_law_piece F) sc_law_piece (fun vs H Q E h => len_law_piece h) (body_law_piece T)
def sp_law_pieces (K : Fg) : Sp := fun vs H Q _ => ∃ (bx : Addr) (most : Int) (S : Sg), vs = [.ref bx, .int most] ∧ BoxOk S H bx ∧ 0 ≤ most ∧ most ≤ 6 ∧ ∀ f us ps H', H f = none → H' f = some (.lst us) → PtAll K H' us ps → ps.length ≤ 6 → BoxOk S H' bx → Same (msk S H) (msk S H') → Q (.ref f) H'
theorem len_law_pieces {vs H Q E} (h : sp_law_pieces K vs H Q E) : vs.length = 2 := by
  obtain ⟨_, _, _, rfl, _⟩ := h
  rfl
theorem sc_law_pieces : FnScope ["_law_box", "_law_most", "_law_turn"] ["_law_box", "_law_most"] (defScope d_law_pieces.st) := ⟨rfl, rfl, rfl, by decide +kernel, rfl, by decide +kernel, by decide +kernel⟩
theorem bi_law_pieces {K : Fg} {fd : FuncData} (F : FnD K d_law_pieces fd) : Binds K fd ["_law_box", "_law_most"] [] := FunD.bindsN F fun _ _ _ _ _ _ us hl => match us, hl with | [_, _], _ => rfl
theorem body_law_pieces (T : Txt K mg) : BodyOk P w K mg base 4 ["_law_box", "_law_most", "_law_turn"] d_law_pieces (sp_law_pieces K) := by
  intro cdv A outer s H vs Q E hr h
  obtain ⟨bx, most, S, rfl, hb, m0, m6, k⟩ := h
  have nd := sc_law_pieces.nd
  refine ⟨_, (pss_one (ps_ret (pe_lc (own := [("_law_turn", 2)]) (g := gName 2) (tt := tYes) rfl nd (pi_range1 (by rfl) T.b_range (pa_cons (pe_c (cal_law_take T) hr (by decide) (by rfl) (pa_cons (pv 0) (pa_cons (pe_op op_add (pv 1) pe_int) pa_nil))) pa_nil)) (blkOk_by (N := ["_law_box", "_law_most", "_law_turn"]) (sc := defScope d_law_pieces.st) (by decide +kernel)) (fun _ _ _ _ _ => (pg_name (i := 2) nd rfl (Or.inl rfl))) (fun _ _ _ _ _ => pts_nil) (fun _ _ _ _ _ => (pe_c (cal_law_piece T) hr (by decide) (by rfl) (pa_cons (pv 0) pa_nil)))))), ?_⟩
  refine ⟨_, rfl, _, rfl, _, _, rfl, rfl, bx, _, S, rfl, hb, by omega, by omega, fun n H3 n0 n1 hb3 f3 => ?_⟩
  refine ⟨_, rfl, by omega, by omega, fun D hD => ?_⟩
  have SD : S D = false := hb3.ow.not hD
  have hD0 : H D = none := by
    cases q : H D with
    | none => rfl
    | some o =>
      have := same_at f3 SD q
      rw [hD] at this
      cases this
  refine lc_go walk_range (fun j acc H' => BoxOk S H' bx ∧ Same (msk S H3) (msk S H') ∧ ∃ ps : List PcD, PtAll K (msk S H') acc ps ∧ ps.length = j) ⟨hb3.same (same_new hD), msk_same (same_new hD), [], .nil, rfl⟩ (fun _ _ _ _ _ _ => trivial) (fun j x acc Ha Hb hj hl ⟨hb4, f4, ps, hps, lp⟩ hD1 y => ?_) (fun acc H4 hl ⟨hb4, f4, ps, hps, lp⟩ hD1 => ?_)
  · obtain ⟨rfl, rfl⟩ := y
    refine ⟨rfl, yes ⟨_, rfl, bx, S, rfl, hb4, fun v d H5 hv hb5 f5 => ?_⟩⟩
    have hD5 := same_at f5 SD hD1
    have hb6 := hb5.wo (o := .lst (acc ++ [v])) SD
    refine lc_put hD5 hl (by omega) ⟨hb6, msk_mut2 (Same.refl _) hD (f4.trans f5), ps ++ [d], ?_, by simp [lp]⟩
    exact hb6.ow.pts (Paired.app (PtAll.wr ((hps.mono f5).mono msk_le) hD5) (.cons (hv.wr hD5) .nil))
  · exact k D acc ps H4 hD0 hD1 (hps.mono msk_le) (by omega) hb4 (f3.trans f4)
theorem cal_law_pieces (T : Txt K mg) : Cal P w K mg base 5 "_law_pieces" (sp_law_pieces K) [] := by
  obtain ⟨fd, F⟩ := T.d_law_pieces
  exact mkCal F T.g_law_pieces (bi_law_pieces F) sc_law_pieces (fun vs H Q E h => len_law_pieces h) (body_law_pieces T)
end
end Lt
set_option Elab.async false
set_option linter.all false
set_option maxRecDepth 100000
set_option maxHeartbeats 8000000
/-! draws: usual rows -/
namespace Lt
open PySem PySem.Spec PyProof.Rows L2
open C8 (Cal Met Mak pe_c pe_mk pe_mt pe_mt0 pe_gc)
theorem row3 {K : Fg} {H : Hp} {ta tb r : Addr} {as bs : List Str} (na : H ta = none) (nb : upd H ta (.tup (as.map V.str)) tb = none) (nr : upd (upd H ta (.tup (as.map V.str))) tb (.tup (bs.map V.str)) r = none) (ok : RwOk (as, bs)) :
    Same H (upd (upd (upd H ta (.tup (as.map V.str))) tb (.tup (bs.map V.str))) r (.tup [.ref ta, .ref tb])) ∧ RtAt K (upd (upd (upd H ta (.tup (as.map V.str))) tb (.tup (bs.map V.str))) r (.tup [.ref ta, .ref tb])) (.ref r) (as, bs) := by
  have s1 := same_new (o := .tup (as.map V.str)) na
  have s2 := same_new (o := .tup (bs.map V.str)) nb
  have s3 := same_new (o := .tup [.ref ta, .ref tb]) nr
  exact ⟨(s1.trans s2).trans s3, r, ta, tb, rfl, SqT.of upd_same, SqT.of ((s2.trans s3) _ _ upd_same), SqT.of (s3 _ _ upd_same), ok⟩
theorem paired_ex {F : V → RwD → Prop} : ∀ {ys : List V}, (∀ y ∈ ys, ∃ r, F y r) → ∃ rs, Paired F ys rs
  | [], _ => ⟨[], .nil⟩
  | y :: r, h => by
    obtain ⟨a, ha⟩ := h y List.mem_cons_self
    obtain ⟨as, has⟩ := paired_ex (ys := r) fun z m => h z (List.mem_cons_of_mem _ m)
    exact ⟨a :: as, .cons ha has⟩
theorem fine_rw {r : RwD} (ok : RwOk r) : Fine 2 (rwData r) := by
  have d8 : ∀ t ∈ deeds8, PyData.strOk t = true := by decide +kernel
  exact fine_cons (fine_tup (n := 0) fun x m => test_fine (ok.tests x m)) (fine_cons (fine_tup (n := 0) fun x m => fine_word (d8 x (ok.deeds x m))) fine_nil)
theorem Fine.up {n m : Nat} {d : PyData} (h : Fine n d) (e : n ≤ m) : Fine m d := ⟨h.1, Nat.le_trans h.2 e⟩
theorem rwOk_by {r : RwD} (h : (r.1.all (fun t => tests20.contains t) && (decide (r.1.length ≤ 4) && (decide (r.2 ≠ []) && (r.2.all (fun t => deeds8.contains t) && decide (r.2.length ≤ 4))))) = true) : RwOk r := by
  obtain ⟨h1, h⟩ := Bool.and_eq_true_iff.mp h
  obtain ⟨h2, h⟩ := Bool.and_eq_true_iff.mp h
  obtain ⟨h3, h⟩ := Bool.and_eq_true_iff.mp h
  obtain ⟨h4, h5⟩ := Bool.and_eq_true_iff.mp h
  exact ⟨fun t m => List.contains_iff_mem.mp (List.all_eq_true.mp h1 t m), of_decide_eq_true h2, of_decide_eq_true h3, fun t m => List.contains_iff_mem.mp (List.all_eq_true.mp h4 t m), of_decide_eq_true h5⟩
section
variable {P : Program} {w : World} {K : Fg} {mg : Str → Option Value} {base : Heap}
def sp_law_usual (K : Fg) : Sp := fun vs H Q _ => ∃ (bx : Addr) (S : Sg), vs = [.ref bx] ∧ BoxOk S H bx ∧ ∀ f us rs H', H f = none → H' f = some (.lst us) → Paired (RtAt K H') us rs → rs.length ≤ 4 → BoxOk S H' bx → Same (msk S H) (msk S H') → Q (.ref f) H'
theorem len_law_usual {vs H Q E} (h : sp_law_usual K vs H Q E) : vs.length = 1 := by
  obtain ⟨_, _, rfl, _⟩ := h
  rfl
theorem sc_law_usual : FnScope ["_law_box", "_law_some"] ["_law_box"] (defScope d_law_usual.st) := ⟨rfl, rfl, rfl, by decide +kernel, rfl, by decide +kernel, by decide +kernel⟩
theorem bi_law_usual {K : Fg} {fd : FuncData} (F : FnD K d_law_usual fd) : Binds K fd ["_law_box"] [] := FunD.bindsN F fun _ _ _ _ _ _ us hl => match us, hl with | [_], _ => rfl
theorem body_law_usual (T : Txt K mg) : BodyOk P w K mg base 2 ["_law_box", "_law_some"] d_law_usual (sp_law_usual K) := by
  intro cdv A outer s H vs Q E hr h
  obtain ⟨bx, S, rfl, hb, k⟩ := h
  have nd := sc_law_usual.nd
  refine ⟨_, (pss_cons (ps_set (i := 1) nd rfl (Or.inl rfl) (pe_lst (pa_cons (pe_tup (pa_cons (pe_tup (pa_cons pe_str pa_nil)) (pa_cons (pe_tup (pa_cons pe_str (pa_cons pe_str pa_nil))) pa_nil))) (pa_cons (pe_tup (pa_cons (pe_tup (pa_cons pe_str pa_nil)) (pa_cons (pe_tup (pa_cons pe_str pa_nil)) pa_nil))) (pa_cons (pe_tup (pa_cons (pe_tup (pa_cons pe_str (pa_cons pe_str pa_nil))) (pa_cons (pe_tup (pa_cons pe_str pa_nil)) pa_nil))) pa_nil)))))
      (pss_cons (ps_set (i := 1) nd rfl (Or.inl rfl) (pe_op op_cat (pv 1) (pe_lst (pa_cons (pe_tup (pa_cons (pe_tup (pa_cons pe_str (pa_cons pe_str pa_nil))) (pa_cons (pe_tup (pa_cons pe_str pa_nil)) pa_nil))) (pa_cons (pe_tup (pa_cons (pe_tup (pa_cons pe_str (pa_cons pe_str pa_nil))) (pa_cons (pe_tup (pa_cons pe_str pa_nil)) pa_nil))) (pa_cons (pe_tup (pa_cons (pe_tup (pa_cons pe_str pa_nil)) (pa_cons (pe_tup (pa_cons pe_str pa_nil)) pa_nil))) pa_nil))))))
      (pss_cons (ps_set (i := 1) nd rfl (Or.inl rfl) (pe_op op_cat (pv 1) (pe_lst (pa_cons (pe_tup (pa_cons (pe_tup (pa_cons pe_str pa_nil)) (pa_cons (pe_tup (pa_cons pe_str pa_nil)) pa_nil))) (pa_cons (pe_tup (pa_cons (pe_tup (pa_cons pe_str pa_nil)) (pa_cons (pe_tup (pa_cons pe_str pa_nil)) pa_nil))) (pa_cons (pe_tup (pa_cons (pe_tup (pa_cons pe_str pa_nil)) (pa_cons (pe_tup (pa_cons pe_str pa_nil)) pa_nil))) pa_nil))))))
      (pss_one (ps_ret (pe_slice sl_list (pe_c (cal_law_mixed T) hr (by decide) (by rfl) (pa_cons (pv 0) (pa_cons (pv 1) pa_nil))) po_none (po_some (pe_op op_add pe_int (pe_c (cal_law_take T) hr (by decide) (by rfl) (pa_cons (pv 0) (pa_cons pe_int pa_nil))))))))))), ?_⟩
  have z0 : Same H H := Same.refl H
  refine ⟨sz (by simp), fun ta0 na0 => ⟨sz (by simp), fun tb0 nb0 => ⟨sz (by simp), fun r0 nr0 => ?_⟩⟩⟩
  obtain ⟨s0, q0⟩ := row3 (K := K) (as := (["long"] : List Str)) (bs := (["break", "mark"] : List Str)) na0 nb0 nr0 (rwOk_by (by decide +kernel))
  have e0 : upd (upd (upd H ta0 (.tup (List.map V.str (["long"] : List Str)))) tb0 (.tup (List.map V.str (["break", "mark"] : List Str)))) r0 (.tup [.ref ta0, .ref tb0]) = upd (upd (upd H ta0 (.tup [.str "long"])) tb0 (.tup [.str "break", .str "mark"])) r0 (.tup [.ref ta0, .ref tb0]) := rfl
  rw [e0] at s0 q0
  clear e0 na0 nb0 nr0
  generalize upd (upd (upd H ta0 (.tup [.str "long"])) tb0 (.tup [.str "break", .str "mark"])) r0 (.tup [.ref ta0, .ref tb0]) = H0 at s0 q0 ⊢
  refine ⟨sz (by simp), fun ta1 na1 => ⟨sz (by simp), fun tb1 nb1 => ⟨sz (by simp), fun r1 nr1 => ?_⟩⟩⟩
  obtain ⟨s1, q1⟩ := row3 (K := K) (as := (["marked"] : List Str)) (bs := (["break"] : List Str)) na1 nb1 nr1 (rwOk_by (by decide +kernel))
  have e1 : upd (upd (upd H0 ta1 (.tup (List.map V.str (["marked"] : List Str)))) tb1 (.tup (List.map V.str (["break"] : List Str)))) r1 (.tup [.ref ta1, .ref tb1]) = upd (upd (upd H0 ta1 (.tup [.str "marked"])) tb1 (.tup [.str "break"])) r1 (.tup [.ref ta1, .ref tb1]) := rfl
  rw [e1] at s1 q1
  clear e1 na1 nb1 nr1
  generalize upd (upd (upd H0 ta1 (.tup [.str "marked"])) tb1 (.tup [.str "break"])) r1 (.tup [.ref ta1, .ref tb1]) = H1 at s1 q1 ⊢
  refine ⟨sz (by simp), fun ta2 na2 => ⟨sz (by simp), fun tb2 nb2 => ⟨sz (by simp), fun r2 nr2 => ?_⟩⟩⟩
  obtain ⟨s2, q2⟩ := row3 (K := K) (as := (["not long", "not marked"] : List Str)) (bs := (["join"] : List Str)) na2 nb2 nr2 (rwOk_by (by decide +kernel))
  have e2 : upd (upd (upd H1 ta2 (.tup (List.map V.str (["not long", "not marked"] : List Str)))) tb2 (.tup (List.map V.str (["join"] : List Str)))) r2 (.tup [.ref ta2, .ref tb2]) = upd (upd (upd H1 ta2 (.tup [.str "not long", .str "not marked"])) tb2 (.tup [.str "join"])) r2 (.tup [.ref ta2, .ref tb2]) := rfl
  rw [e2] at s2 q2
  clear e2 na2 nb2 nr2
  generalize upd (upd (upd H1 ta2 (.tup [.str "not long", .str "not marked"])) tb2 (.tup [.str "join"])) r2 (.tup [.ref ta2, .ref tb2]) = H2 at s2 q2 ⊢
  refine ⟨sz (by simp), fun l1 nl1 => ?_⟩
  have t1 := same_new (o := .lst [.ref r0, .ref r1, .ref r2]) nl1
  have v1 : (upd H2 l1 (.lst [.ref r0, .ref r1, .ref r2])) l1 = some (.lst [.ref r0, .ref r1, .ref r2]) := upd_same
  generalize upd H2 l1 (.lst [.ref r0, .ref r1, .ref r2]) = G1 at t1 v1 ⊢
  clear nl1
  refine ⟨_, rfl, ?_⟩
  refine ⟨sz (by simp), fun ta3 na3 => ⟨sz (by simp), fun tb3 nb3 => ⟨sz (by simp), fun r3 nr3 => ?_⟩⟩⟩
  obtain ⟨s3, q3⟩ := row3 (K := K) (as := (["behind", "long"] : List Str)) (bs := (["lift"] : List Str)) na3 nb3 nr3 (rwOk_by (by decide +kernel))
  have e3 : upd (upd (upd G1 ta3 (.tup (List.map V.str (["behind", "long"] : List Str)))) tb3 (.tup (List.map V.str (["lift"] : List Str)))) r3 (.tup [.ref ta3, .ref tb3]) = upd (upd (upd G1 ta3 (.tup [.str "behind", .str "long"])) tb3 (.tup [.str "lift"])) r3 (.tup [.ref ta3, .ref tb3]) := rfl
  rw [e3] at s3 q3
  clear e3 na3 nb3 nr3
  generalize upd (upd (upd G1 ta3 (.tup [.str "behind", .str "long"])) tb3 (.tup [.str "lift"])) r3 (.tup [.ref ta3, .ref tb3]) = H3 at s3 q3 ⊢
  refine ⟨sz (by simp), fun ta4 na4 => ⟨sz (by simp), fun tb4 nb4 => ⟨sz (by simp), fun r4 nr4 => ?_⟩⟩⟩
  obtain ⟨s4, q4⟩ := row3 (K := K) (as := (["ahead", "not long"] : List Str)) (bs := (["lower"] : List Str)) na4 nb4 nr4 (rwOk_by (by decide +kernel))
  have e4 : upd (upd (upd H3 ta4 (.tup (List.map V.str (["ahead", "not long"] : List Str)))) tb4 (.tup (List.map V.str (["lower"] : List Str)))) r4 (.tup [.ref ta4, .ref tb4]) = upd (upd (upd H3 ta4 (.tup [.str "ahead", .str "not long"])) tb4 (.tup [.str "lower"])) r4 (.tup [.ref ta4, .ref tb4]) := rfl
  rw [e4] at s4 q4
  clear e4 na4 nb4 nr4
  generalize upd (upd (upd H3 ta4 (.tup [.str "ahead", .str "not long"])) tb4 (.tup [.str "lower"])) r4 (.tup [.ref ta4, .ref tb4]) = H4 at s4 q4 ⊢
  refine ⟨sz (by simp), fun ta5 na5 => ⟨sz (by simp), fun tb5 nb5 => ⟨sz (by simp), fun r5 nr5 => ?_⟩⟩⟩
  obtain ⟨s5, q5⟩ := row3 (K := K) (as := (["first"] : List Str)) (bs := (["close"] : List Str)) na5 nb5 nr5 (rwOk_by (by decide +kernel))
  have e5 : upd (upd (upd H4 ta5 (.tup (List.map V.str (["first"] : List Str)))) tb5 (.tup (List.map V.str (["close"] : List Str)))) r5 (.tup [.ref ta5, .ref tb5]) = upd (upd (upd H4 ta5 (.tup [.str "first"])) tb5 (.tup [.str "close"])) r5 (.tup [.ref ta5, .ref tb5]) := rfl
  rw [e5] at s5 q5
  clear e5 na5 nb5 nr5
  generalize upd (upd (upd H4 ta5 (.tup [.str "first"])) tb5 (.tup [.str "close"])) r5 (.tup [.ref ta5, .ref tb5]) = H5 at s5 q5 ⊢
  refine ⟨sz (by simp), fun l2 nl2 => ?_⟩
  have t2 := same_new (o := .lst [.ref r3, .ref r4, .ref r5]) nl2
  have v2 : (upd H5 l2 (.lst [.ref r3, .ref r4, .ref r5])) l2 = some (.lst [.ref r3, .ref r4, .ref r5]) := upd_same
  generalize upd H5 l2 (.lst [.ref r3, .ref r4, .ref r5]) = G2 at t2 v2 ⊢
  clear nl2
  have m2 := (((s3.trans s4).trans s5).trans t2)
  refine ⟨l1, l2, _, _, rfl, rfl, m2 _ _ v1, v2, sz (by simp), fun l3 nl3 => ?_⟩
  have t3 := same_new (o := .lst [.ref r0, .ref r1, .ref r2, .ref r3, .ref r4, .ref r5]) nl3
  have v3 : (upd G2 l3 (.lst [.ref r0, .ref r1, .ref r2, .ref r3, .ref r4, .ref r5])) l3 = some (.lst [.ref r0, .ref r1, .ref r2, .ref r3, .ref r4, .ref r5]) := upd_same
  change _ at t3
  have x3 : upd G2 l3 (.lst ([.ref r0, .ref r1, .ref r2] ++ [.ref r3, .ref r4, .ref r5])) = upd G2 l3 (.lst [.ref r0, .ref r1, .ref r2, .ref r3, .ref r4, .ref r5]) := rfl
  rw [x3]
  clear x3
  generalize upd G2 l3 (.lst [.ref r0, .ref r1, .ref r2, .ref r3, .ref r4, .ref r5]) = G3 at t3 v3 ⊢
  refine ⟨_, rfl, ?_⟩
  refine ⟨sz (by simp), fun ta6 na6 => ⟨sz (by simp), fun tb6 nb6 => ⟨sz (by simp), fun r6 nr6 => ?_⟩⟩⟩
  obtain ⟨s6, q6⟩ := row3 (K := K) (as := (["afterbroken"] : List Str)) (bs := (["space"] : List Str)) na6 nb6 nr6 (rwOk_by (by decide +kernel))
  have e6 : upd (upd (upd G3 ta6 (.tup (List.map V.str (["afterbroken"] : List Str)))) tb6 (.tup (List.map V.str (["space"] : List Str)))) r6 (.tup [.ref ta6, .ref tb6]) = upd (upd (upd G3 ta6 (.tup [.str "afterbroken"])) tb6 (.tup [.str "space"])) r6 (.tup [.ref ta6, .ref tb6]) := rfl
  rw [e6] at s6 q6
  clear e6 na6 nb6 nr6
  generalize upd (upd (upd G3 ta6 (.tup [.str "afterbroken"])) tb6 (.tup [.str "space"])) r6 (.tup [.ref ta6, .ref tb6]) = H6 at s6 q6 ⊢
  refine ⟨sz (by simp), fun ta7 na7 => ⟨sz (by simp), fun tb7 nb7 => ⟨sz (by simp), fun r7 nr7 => ?_⟩⟩⟩
  obtain ⟨s7, q7⟩ := row3 (K := K) (as := (["broken"] : List Str)) (bs := (["mark"] : List Str)) na7 nb7 nr7 (rwOk_by (by decide +kernel))
  have e7 : upd (upd (upd H6 ta7 (.tup (List.map V.str (["broken"] : List Str)))) tb7 (.tup (List.map V.str (["mark"] : List Str)))) r7 (.tup [.ref ta7, .ref tb7]) = upd (upd (upd H6 ta7 (.tup [.str "broken"])) tb7 (.tup [.str "mark"])) r7 (.tup [.ref ta7, .ref tb7]) := rfl
  rw [e7] at s7 q7
  clear e7 na7 nb7 nr7
  generalize upd (upd (upd H6 ta7 (.tup [.str "broken"])) tb7 (.tup [.str "mark"])) r7 (.tup [.ref ta7, .ref tb7]) = H7 at s7 q7 ⊢
  refine ⟨sz (by simp), fun ta8 na8 => ⟨sz (by simp), fun tb8 nb8 => ⟨sz (by simp), fun r8 nr8 => ?_⟩⟩⟩
  obtain ⟨s8, q8⟩ := row3 (K := K) (as := (["not left"] : List Str)) (bs := (["unmark"] : List Str)) na8 nb8 nr8 (rwOk_by (by decide +kernel))
  have e8 : upd (upd (upd H7 ta8 (.tup (List.map V.str (["not left"] : List Str)))) tb8 (.tup (List.map V.str (["unmark"] : List Str)))) r8 (.tup [.ref ta8, .ref tb8]) = upd (upd (upd H7 ta8 (.tup [.str "not left"])) tb8 (.tup [.str "unmark"])) r8 (.tup [.ref ta8, .ref tb8]) := rfl
  rw [e8] at s8 q8
  clear e8 na8 nb8 nr8
  generalize upd (upd (upd H7 ta8 (.tup [.str "not left"])) tb8 (.tup [.str "unmark"])) r8 (.tup [.ref ta8, .ref tb8]) = H8 at s8 q8 ⊢
  refine ⟨sz (by simp), fun l4 nl4 => ?_⟩
  have t4 := same_new (o := .lst [.ref r6, .ref r7, .ref r8]) nl4
  have v4 : (upd H8 l4 (.lst [.ref r6, .ref r7, .ref r8])) l4 = some (.lst [.ref r6, .ref r7, .ref r8]) := upd_same
  generalize upd H8 l4 (.lst [.ref r6, .ref r7, .ref r8]) = G4 at t4 v4 ⊢
  clear nl4
  have m4 := (((s6.trans s7).trans s8).trans t4)
  refine ⟨l3, l4, _, _, rfl, rfl, m4 _ _ v3, v4, sz (by simp), fun l5 nl5 => ?_⟩
  have t5 := same_new (o := .lst [.ref r0, .ref r1, .ref r2, .ref r3, .ref r4, .ref r5, .ref r6, .ref r7, .ref r8]) nl5
  have v5 : (upd G4 l5 (.lst [.ref r0, .ref r1, .ref r2, .ref r3, .ref r4, .ref r5, .ref r6, .ref r7, .ref r8])) l5 = some (.lst [.ref r0, .ref r1, .ref r2, .ref r3, .ref r4, .ref r5, .ref r6, .ref r7, .ref r8]) := upd_same
  change _ at t5
  have x5 : upd G4 l5 (.lst ([.ref r0, .ref r1, .ref r2, .ref r3, .ref r4, .ref r5] ++ [.ref r6, .ref r7, .ref r8])) = upd G4 l5 (.lst [.ref r0, .ref r1, .ref r2, .ref r3, .ref r4, .ref r5, .ref r6, .ref r7, .ref r8]) := rfl
  rw [x5]
  clear x5
  generalize upd G4 l5 (.lst [.ref r0, .ref r1, .ref r2, .ref r3, .ref r4, .ref r5, .ref r6, .ref r7, .ref r8]) = G5 at t5 v5 ⊢
  have z5 : Same H5 G2 := t2
  have y3 : Same G3 G5 := m4.trans t5
  have y2 : Same H2 G5 := ((t1.trans m2).trans t3).trans y3
  have hq : Paired (RtAt K G5) [.ref r0, .ref r1, .ref r2, .ref r3, .ref r4, .ref r5, .ref r6, .ref r7, .ref r8] [((["long"] : List Str), (["break", "mark"] : List Str)), ((["marked"] : List Str), (["break"] : List Str)), ((["not long", "not marked"] : List Str), (["join"] : List Str)), ((["behind", "long"] : List Str), (["lift"] : List Str)), ((["ahead", "not long"] : List Str), (["lower"] : List Str)), ((["first"] : List Str), (["close"] : List Str)), ((["afterbroken"] : List Str), (["space"] : List Str)), ((["broken"] : List Str), (["mark"] : List Str)), ((["not left"] : List Str), (["unmark"] : List Str))] :=
    .cons (q0.mono ((s1.trans s2).trans y2)) (.cons (q1.mono (s2.trans y2)) (.cons (q2.mono y2) (.cons (q3.mono (((s4.trans s5).trans t2).trans (t3.trans y3))) (.cons (q4.mono ((s5.trans t2).trans (t3.trans y3))) (.cons (q5.mono (t2.trans (t3.trans y3))) (.cons (q6.mono (((s7.trans s8).trans t4).trans t5)) (.cons (q7.mono ((s8.trans t4).trans t5)) (.cons (q8.mono (t4.trans t5)) .nil))))))))
  have sG : Same H G5 := ((s0.trans s1).trans s2).trans y2
  clear q0 q1 q2 q3 q4 q5 q6 q7 q8
  have hb5 := hb.same sG
  have hqm := pairedM (fun _ _ z => hb5.ow.rt z) hq
  have sG4 : Same H G4 := ((s0.trans s1).trans s2).trans (((t1.trans m2).trans t3).trans m4)
  have Sl5 : S l5 = false := hb.ow.not (sG4.free nl5)
  have v5m : SqL K (msk S G5) l5 [.ref r0, .ref r1, .ref r2, .ref r3, .ref r4, .ref r5, .ref r6, .ref r7, .ref r8] := SqL.of (by rw [msk_at Sl5]; exact v5)
  have fG := msk_same (S := S) sG
  have okR : ∀ r ∈ ([((["long"] : List Str), (["break", "mark"] : List Str)), ((["marked"] : List Str), (["break"] : List Str)), ((["not long", "not marked"] : List Str), (["join"] : List Str)), ((["behind", "long"] : List Str), (["lift"] : List Str)), ((["ahead", "not long"] : List Str), (["lower"] : List Str)), ((["first"] : List Str), (["close"] : List Str)), ((["afterbroken"] : List Str), (["space"] : List Str)), ((["broken"] : List Str), (["mark"] : List Str)), ((["not left"] : List Str), (["unmark"] : List Str))] : List RwD), RwOk r := by
    intro r m
    obtain ⟨i, hi⟩ := List.getElem?_of_mem m
    obtain ⟨v, _, hv⟩ := Paired.get1 hq hi
    obtain ⟨_, _, _, _, _, _, _, ok⟩ := hv
    exact ok
  clear y3 y2 z5 sG4 v1 v2 v3 v4 m2 m4 t1 t2 t3 t4 t5 s0 s1 s2 s3 s4 s5 s6 s7 s8 nl3 nl5
  refine ⟨_, rfl, _, rfl, bx, l5, _, _, S, rfl, hb5, v5m, dpAll_of (F := RtAt K (msk S G5)) (f := rwData) (fun _ _ z => dp_rt z) hqm, fun d m => ?_, by simp, fun f ys H1 hin hlen hb1 f1 nf vf => ?_⟩
  · obtain ⟨r, mr, rfl⟩ := List.mem_map.mp m
    exact Fine.up (fine_rw (okR r mr)) (by decide)
  dsimp only [tNoPart]
  refine ⟨_, rfl, bx, 4, S, rfl, hb1, by decide, by decide, fun n H2 n0 n1 hb2 f2 => ?_⟩
  refine ⟨_, _, rfl, rfl, _, rfl, f, ys, rfl, ?_, fun p np => ?_⟩
  · exact SqL.of (same_at f2 (hb5.ow.not nf) vf)
  obtain ⟨j, rfl⟩ : ∃ j : Nat, n = j := ⟨n.toNat, by omega⟩
  have e1 : (1 : Int) + (j : Int) = ((1 + j : Nat) : Int) := by omega
  have e2 : cutV ys none (some ((1 : Int) + (j : Int))) = ys.take (1 + j) := by
    rw [e1, cutV_to (by rw [hlen]; simp only [List.length_cons, List.length_nil]; omega)]
  rw [e2]
  have s9 := same_new (o := .lst (ys.take (1 + j))) np
  have f12 := f1.trans f2
  obtain ⟨rs, hrs⟩ := paired_ex (F := RtAt K (msk S H2)) (ys := ys.take (1 + j)) fun y m => by
    have m2 := hin y (List.mem_of_mem_take m)
    obtain ⟨i, hi⟩ := List.getElem?_of_mem m2
    obtain ⟨r, _, hr9⟩ := Paired.get0 hqm hi
    exact ⟨r, hr9.mono f12⟩
  have lrs := Paired.lenE hrs
  rw [List.length_take] at lrs
  have np0 : H p = none := by
    have hSp := hb2.ow.not np
    cases q : H p with
    | none => rfl
    | some o =>
      have := same_at ((fG.trans f1).trans f2) hSp q
      rw [np] at this
      cases this
  exact k p _ rs _ np0 upd_same (pairedM (fun _ _ z => z.mono (msk_le.trans s9)) hrs) (by omega) (hb2.same s9) (((fG.trans f1).trans f2).trans (msk_same s9))
theorem cal_law_usual (T : Txt K mg) : Cal P w K mg base 3 "_law_usual" (sp_law_usual K) [] := by
  obtain ⟨fd, F⟩ := T.d_law_usual
  exact mkCal F T.g_law_usual (bi_law_usual F) sc_law_usual (fun vs H Q E h => len_law_usual h) (body_law_usual T)
end
end Lt
set_option Elab.async false
set_option linter.all false
set_option maxRecDepth 100000
set_option maxHeartbeats 8000000
/-! draws: tools -/
namespace Lt
open PySem PySem.Spec PyProof.Rows L2
open C8 (Cal Met Mak pe_c pe_mk pe_mt pe_mt0 pe_gc)
theorem cutV_min {xs : List V} {j : Nat} : cutV xs none (some (j : Int)) = xs.take (min j xs.length) := by
  unfold cutV
  rw [HT.sIx_none, HT.sIx_nat, List.drop_zero, Nat.sub_zero]
section
variable {P : Program} {w : World} {K : Fg} {mg : Str → Option Value} {base : Heap}
def sp_law_tool (K : Fg) : Sp := fun vs H Q _ => ∃ (bx : Addr) (most : Int) (S : Sg), vs = [.ref bx, .int most] ∧ BoxOk S H bx ∧ 1 ≤ most ∧ most ≤ 5 ∧ ∀ v t H', TtAt K H' v t → BoxOk S H' bx → Same (msk S H) (msk S H') → Q v H'
theorem len_law_tool {vs H Q E} (h : sp_law_tool K vs H Q E) : vs.length = 2 := by
  obtain ⟨_, _, _, rfl, _⟩ := h
  rfl
theorem sc_law_tool : FnScope ["_law_box", "_law_most", "_law_rows", "_law_turn", "_law_at"] ["_law_box", "_law_most"] (defScope d_law_tool.st) := ⟨rfl, rfl, rfl, by decide +kernel, rfl, by decide +kernel, by decide +kernel⟩
theorem bi_law_tool {K : Fg} {fd : FuncData} (F : FnD K d_law_tool fd) : Binds K fd ["_law_box", "_law_most"] [] := FunD.bindsN F fun _ _ _ _ _ _ us hl => match us, hl with | [_, _], _ => rfl
theorem body_law_tool (T : Txt K mg) : BodyOk P w K mg base 3 ["_law_box", "_law_most", "_law_rows", "_law_turn", "_law_at"] d_law_tool (sp_law_tool K) := by
  intro cdv A outer s H vs Q E hr h
  obtain ⟨bx, most, S, rfl, hb, m1, m5, k⟩ := h
  have nd := sc_law_tool.nd
  refine ⟨_, (pss_cons (ps_set (i := 2) nd rfl (Or.inl rfl) (pe_ifExp (pt_cmpR op_eq (pe_c (cal_law_take T) hr (by decide) (by rfl) (pa_cons (pv 0) (pa_cons pe_int pa_nil))) pe_int (nomark _)) (pe_slice sl_list (pe_c (cal_law_usual T) hr (by decide) (by rfl) (pa_cons (pv 0) pa_nil)) po_none (po_some (pv 1))) (pe_lst pa_nil)))
      (pss_cons (ps_for PassesOwn.never rfl (pi_range1 (by rfl) T.b_range (pa_cons (pe_c (cal_law_take T) hr (by decide) (by rfl) (pa_cons (pv 0) (pa_cons (pe_op op_sub (pe_op op_add (pv 1) pe_int) (pe_callB call_len_seq (by rfl) T.b_len PySem.boot_len (pa_cons (pv 2) pa_nil))) pa_nil))) pa_nil)) (pg_name (i := 3) nd rfl (Or.inl rfl)) (pss_cons (ps_set (i := 4) nd rfl (Or.inl rfl) (pe_c (cal_law_take T) hr (by decide) (by rfl) (pa_cons (pv 0) (pa_cons (pe_op op_add (pe_callB call_len_seq (by rfl) T.b_len PySem.boot_len (pa_cons (pv 2) pa_nil)) pe_int) pa_nil))))
      (pss_one (ps_set (i := 2) nd rfl (Or.inl rfl) (pe_op op_cat (pe_op op_cat (pe_slice sl_list (pv 2) po_none (po_some (pv 4))) (pe_lst (pa_cons (pe_tup (pa_cons (pe_c (cal_law_tests T) hr (by decide) (by rfl) (pa_cons (pv 0) (pa_cons pe_int pa_nil))) (pa_cons (pe_c (cal_law_deeds T) hr (by decide) (by rfl) (pa_cons (pv 0) (pa_cons pe_int pa_nil))) pa_nil))) pa_nil))) (pe_slice sl_list (pv 2) (po_some (pv 4)) po_none))))))
      (pss_one (ps_ret (pe_tup (pa_cons (pe_callTy call_tuple_of (by rfl) T.b_tuple PyProof.Rows.boot_tuple (pa_cons (pv 2) pa_nil)) (pa_cons (pe_cmpR op_eq (pe_c (cal_law_take T) hr (by decide) (by rfl) (pa_cons (pv 0) (pa_cons pe_int pa_nil))) pe_int (nomark _)) pa_nil))))))), ?_⟩
  refine ⟨_, rfl, bx, 2, S, rfl, hb, by decide, by decide, fun a H1 _ _ hb1 f1 => ⟨rfl, _, rfl, ?_⟩⟩
  refine ifE (fun v H' => ∃ f us rs, v = .ref f ∧ S f = false ∧ H' f = some (.lst us) ∧ Paired (RtAt K H') us rs ∧ rs.length ≤ most.toNat ∧ BoxOk S H' bx ∧ Same (msk S H) (msk S H')) (fun q Q q2 => ?_) (fun q Q q2 => ?_) ?_
  · refine ⟨_, rfl, bx, S, rfl, hb1, fun f us rs H2 nf vf hrs lrs hb2 f2 => ?_⟩
    obtain ⟨m, rfl⟩ : ∃ m : Nat, most = m := ⟨most.toNat, by omega⟩
    dsimp only [tNoPart]
    refine ⟨_, rfl, _, rfl, f, us, rfl, SqL.of vf, fun p np => q2 _ _ ⟨p, _, rs.take (min m us.length), rfl, hb2.ow.not np, upd_same, ?_, ?_, hb2.same (same_new np), (f1.trans f2).trans (msk_same (same_new np))⟩⟩
    · rw [cutV_min]
      exact pairedM (fun _ _ z => z.mono (same_new np)) (Paired.tk _ hrs)
    · rw [List.length_take]
      omega
  · refine ⟨sz (by simp), fun f nf => q2 _ _ ⟨f, [], [], rfl, hb1.ow.not nf, upd_same, .nil, Nat.zero_le _, hb1.same (same_new nf), f1.trans (msk_same (same_new nf))⟩⟩
  rintro v H2 ⟨f, us, rs, rfl, Sf, vf, hrs, lrs, hb2, f2⟩
  have lu : us.length = rs.length := Paired.lenE hrs
  refine ⟨_, rfl, _, rfl, _, _, rfl, rfl, _, rfl, f, us, rfl, .inl (SqL.of vf), _, _, rfl, rfl, bx, _, S, rfl, hb2, by omega, by omega, fun n H3 n0 n1 hb3 f3 => ?_⟩
  refine ⟨_, rfl, by omega, by omega, ?_⟩
  have hrsm := pairedM (fun _ _ z => hb2.ow.rt z) hrs
  refine for_it walk_range (fun j σ H' => ∃ f us rs' v3 v4, σ = [some (.ref bx), some (.int most), some (.ref f), v3, v4] ∧ S f = false ∧ H' f = some (.lst us) ∧ Paired (RtAt K (msk S H')) us rs' ∧ rs'.length ≤ rs.length + j ∧ BoxOk S H' bx ∧ Same (msk S H) (msk S H')) ⟨f, us, rs, none, none, rfl, Sf, same_at f3 Sf vf, pairedM (fun _ _ z => z.mono f3) hrsm, Nat.le_refl _, hb3, f2.trans f3⟩ (fun _ _ _ _ _ => trivial) ?_ ?_
  · rintro j x σ Ha Hb hj ⟨f, us, rs', v3, v4, rfl, Sf, vf, hr9, lr, hb4, f4⟩ ⟨rfl, rfl⟩
    have lu2 : us.length = rs'.length := Paired.lenE hr9
    refine ⟨_, rfl, _, rfl, f, us, rfl, .inl (SqL.of vf), _, _, rfl, rfl, bx, _, S, rfl, hb4, by omega, by omega, fun p H5 p0 p1 hb5 f5 => ?_⟩
    obtain ⟨i, rfl⟩ : ∃ i : Nat, p = i := ⟨p.toNat, by omega⟩
    have hi : i ≤ us.length := by omega
    have vf5 := same_at f5 Sf vf
    refine ⟨_, rfl, ?_⟩
    dsimp only [tNoPart]
    refine ⟨_, rfl, _, rfl, f, us, rfl, SqL.of vf5, fun la na => ?_⟩
    rw [cutV_to hi]
    have s6 : Same H5 (upd H5 la (.lst (us.take i))) := same_new na
    have va : (upd H5 la (.lst (us.take i))) la = some (.lst (us.take i)) := upd_same
    have Sa : S la = false := hb5.ow.not na
    generalize upd H5 la (.lst (us.take i)) = H6 at s6 va
    refine ⟨_, rfl, bx, 3, S, rfl, hb5.same s6, by decide, by decide, fun tt ts H7 hts1 hts2 ht7 hb7 f7 => ?_⟩
    refine ⟨_, rfl, bx, 2, S, rfl, hb7, by decide, by decide, fun dt dl H8 hd0 hd1 hd2 hd8 hb8 f8 => ?_⟩
    have f68 := f7.trans f8
    refine ⟨sz (by simp), fun q nq => ?_⟩
    have s9 : Same H8 (upd H8 q (.tup [.ref tt, .ref dt])) := same_new nq
    have vq : (upd H8 q (.tup [.ref tt, .ref dt])) q = some (.tup [.ref tt, .ref dt]) := upd_same
    generalize upd H8 q (.tup [.ref tt, .ref dt]) = H9 at s9 vq
    refine ⟨sz (by simp), fun lb nb => ?_⟩
    have s10 : Same H9 (upd H9 lb (.lst [.ref q])) := same_new nb
    have vb : (upd H9 lb (.lst [.ref q])) lb = some (.lst [.ref q]) := upd_same
    generalize upd H9 lb (.lst [.ref q]) = H10 at s10 vb
    have s810 := s9.trans s10
    refine ⟨la, lb, _, _, rfl, rfl, s810 _ _ (same_at f68 Sa va), vb, sz (by simp only [List.length_take, List.length_cons, List.length_nil]; omega), fun lc nc => ?_⟩
    have s11 : Same H10 (upd H10 lc (.lst (us.take i ++ [.ref q]))) := same_new nc
    have vc : (upd H10 lc (.lst (us.take i ++ [.ref q]))) lc = some (.lst (us.take i ++ [.ref q])) := upd_same
    generalize upd H10 lc (.lst (us.take i ++ [.ref q])) = H11 at s11 vc
    have s811 := s810.trans s11
    have vf11 := s811 _ _ (same_at f68 Sf (s6 _ _ vf5))
    refine ⟨_, rfl, _, rfl, _, rfl, ?_⟩
    dsimp only [tNoPart]
    refine ⟨f, us, rfl, SqL.of vf11, fun ld nd' => ?_⟩
    rw [cutV_from hi]
    have s12 : Same H11 (upd H11 ld (.lst (us.drop i))) := same_new nd'
    have vd : (upd H11 ld (.lst (us.drop i))) ld = some (.lst (us.drop i)) := upd_same
    generalize upd H11 ld (.lst (us.drop i)) = H12 at s12 vd
    refine ⟨lc, ld, _, _, rfl, rfl, s12 _ _ vc, vd, sz (by simp only [List.length_append, List.length_take, List.length_drop, List.length_cons, List.length_nil]; omega), fun le ne => ?_⟩
    have s13 : Same H12 (upd H12 le (.lst (us.take i ++ [.ref q] ++ us.drop i))) := same_new ne
    have s813 := (s811.trans s12).trans s13
    have hb12 := hb8.same (s811.trans s12)
    have hb13 := hb12.same s13
    have Se : S le = false := hb12.ow.not ne
    have fx := ((f5.trans (msk_same (S := S) s6)).trans f68).trans (msk_same s813)
    have hq : RtAt K (upd H12 le (.lst (us.take i ++ [.ref q] ++ us.drop i))) (.ref q) (ts, dl) := ⟨q, tt, dt, rfl, SqT.of ((((s10.trans s11).trans s12).trans s13) _ _ vq), SqTm s813 (SqT.m (SqTm f8 (hb7.ow.tup ht7))), SqTm s813 hd8, ⟨hts2, hts1, hd0, hd2, hd1⟩⟩
    refine ⟨le, _, rs'.take i ++ (ts, dl) :: rs'.drop i, _, _, rfl, Se, upd_same, ?_, ?_, hb13, f4.trans fx⟩
    · rw [List.append_assoc]
      rw [List.append_assoc] at hq hb13 fx
      have hr10 := pairedM (fun _ _ z => RtAt.mono fx z) hr9
      exact Paired.app (Paired.tk i hr10) (.cons (hb13.ow.rt hq) (Paired.dr i hr10))
    · simp only [List.length_append, List.length_take, List.length_drop, List.length_cons]
      omega
  · rintro σ H4 ⟨f, us, rs', v3, v4, rfl, Sf, vf, hr9, lr, hb4, f4⟩
    refine ⟨_, rfl, f, us, rfl, .inl ⟨SqL.of vf, fun ra nra => ?_⟩⟩
    have s5 : Same H4 (upd H4 ra (.tup us)) := same_new nra
    have v5 : SqT K (msk S (upd H4 ra (.tup us))) ra us := SqT.of (msk_new hb4.ow nra)
    generalize upd H4 ra (.tup us) = H5 at s5 v5
    refine ⟨_, rfl, bx, 4, S, rfl, hb4.same s5, by decide, by decide, fun a6 H6 _ _ hb6 f6 => ⟨rfl, ?_⟩⟩
    generalize decide (V.int a6 = V.int 0) = so
    refine ⟨sz (by simp), fun t nt => ?_⟩
    have s7 : Same H6 (upd H6 t (.tup [.ref ra, .bl so])) := same_new nt
    have hr6 := pairedM (fun _ _ z => RtAt.mono (((msk_same (S := S) s5).trans f6).trans (msk_le.trans s7)) z) hr9
    have okR : ∀ r ∈ rs', RwOk r := by
      intro r m
      obtain ⟨i, hi⟩ := List.getElem?_of_mem m
      obtain ⟨v, _, hv⟩ := Paired.get1 hr9 hi
      obtain ⟨_, _, _, _, _, _, _, ok⟩ := hv
      exact ok
    exact k (.ref t) ⟨rs', so⟩ _ ⟨t, ra, us, rfl, SqT.of upd_same, SqTm (f6.trans (msk_le.trans s7)) v5, hr6, ⟨okR, by show rs'.length ≤ 16; omega⟩⟩ (hb6.same s7) ((f4.trans ((msk_same s5).trans f6)).trans (msk_same s7))
theorem cal_law_tool (T : Txt K mg) : Cal P w K mg base 4 "_law_tool" (sp_law_tool K) [] := by
  obtain ⟨fd, F⟩ := T.d_law_tool
  exact mkCal F T.g_law_tool (bi_law_tool F) sc_law_tool (fun vs H Q E h => len_law_tool h) (body_law_tool T)
end
end Lt
set_option Elab.async false
set_option linter.all false
set_option maxRecDepth 100000
set_option maxHeartbeats 8000000
/-! draws: widths; the box -/
namespace Lt
open PySem PySem.Spec PyProof.Rows L2
open C8 (Cal Met Mak pe_c pe_mk pe_mt pe_mt0 pe_gc)
section
variable {P : Program} {w : World} {K : Fg} {mg : Str → Option Value} {base : Heap}
def sp_law_width (K : Fg) : Sp := fun vs H Q _ => ∃ (bx l : Addr) (us : List V) (ps : List PcD) (S : Sg), vs = [.ref bx, .ref l] ∧ BoxOk S H bx ∧ SqL K (msk S H) l us ∧ PtAll K (msk S H) us ps ∧ ps.length ≤ 40 ∧ ∀ wd H', BoxOk S H' bx → Same (msk S H) (msk S H') → Q (.int wd) H'
theorem len_law_width {vs H Q E} (h : sp_law_width K vs H Q E) : vs.length = 2 := by
  obtain ⟨_, _, _, _, _, rfl, _⟩ := h
  rfl
theorem sc_law_width : FnScope ["_law_box", "_law_pieces_here", "_law_piece_here", "_law_gap"] ["_law_box", "_law_pieces_here"] (defScope d_law_width.st) := ⟨rfl, rfl, rfl, by decide +kernel, rfl, by decide +kernel, by decide +kernel⟩
theorem bi_law_width {K : Fg} {fd : FuncData} (F : FnD K d_law_width fd) : Binds K fd ["_law_box", "_law_pieces_here"] [] := FunD.bindsN F fun _ _ _ _ _ _ us hl => match us, hl with | [_, _], _ => rfl
theorem body_law_width (T : Txt K mg) : BodyOk P w K mg base 2 ["_law_box", "_law_pieces_here", "_law_piece_here", "_law_gap"] d_law_width (sp_law_width K) := by
  intro cdv A outer s H vs Q E hr h
  obtain ⟨bx, l, us, ps, S, rfl, hb, hl, hps, h40, k⟩ := h
  have nd := sc_law_width.nd
  refine ⟨_, (pss_cons (ps_if (PW.pt (pw_or (pt_cmpR (op_eqD hr.units) (pv 1) (pe_lst pa_nil) (nomark _)) (pw_or1 (pt_cmpR op_eq (pe_c (cal_law_take T) hr (by decide) (by rfl) (pa_cons (pv 0) (pa_cons pe_int pa_nil))) pe_int (nomark _))))) (pss_one (ps_ret (pe_op op_add pe_int (pe_c (cal_law_take T) hr (by decide) (by rfl) (pa_cons (pv 0) (pa_cons pe_int pa_nil)))))) pss_nil)
      (pss_cons (ps_set (i := 2) nd rfl (Or.inl rfl) (pe_c (cal_law_pick T) hr (by decide) (by rfl) (pa_cons (pv 0) (pa_cons (pv 1) pa_nil))))
      (pss_cons (ps_set (i := 3) nd rfl (Or.inl rfl) (pe_c (cal_law_pick T) hr (by decide) (by rfl) (pa_cons (pv 0) (pa_cons (pe_lst (pa_cons (pe_op op_add pe_int (pe_callB call_len_str (by rfl) T.b_len PySem.boot_len (pa_cons (pe_ix ix_tup (pv 2) pe_int (fun _ _ => rfl)) pa_nil))) (pa_cons (pe_op op_add pe_int (pe_callB call_len_str (by rfl) T.b_len PySem.boot_len (pa_cons (pe_ix ix_tup (pv 2) pe_int (fun _ _ => rfl)) pa_nil))) (pa_cons pe_int (pa_cons pe_int pa_nil))))) pa_nil))))
      (pss_one (ps_ret (pe_callB (call_max2 rfl) (by rfl) T.b_max PyProof.Rows.boot_max (pa_cons pe_int (pa_cons (pe_callB (call_min2 rfl) (by rfl) T.b_min PyProof.Rows.boot_min (pa_cons pe_int (pa_cons (pe_callTy call_int1 (by rfl) T.b_int PyProof.Rows.boot_int (pa_cons (pe_op op_add (pe_op op_sub (pe_op op_add (pe_c (cal_law_bare T) hr (by decide) (by rfl) (pa_cons (pv 2) pa_nil)) (pe_c (cal_law_take T) hr (by decide) (by rfl) (pa_cons (pv 0) (pa_cons pe_int pa_nil)))) pe_int) (pv 3)) pa_nil)) pa_nil))) pa_nil)))))))), ?_⟩
  refine ⟨_, rfl, sz (by simp), fun g ng => ?_⟩
  refine eq0 (dp_pts (SqLm msk_le hl) (hps.mono msk_le)) (fine_pcs hps.oks) (by decide) ng ⟨_, rfl, ?_⟩
  have s1 : Same H (upd H g (.lst [])) := same_new ng
  generalize upd H g (.lst []) = H1 at s1
  have hb1 := hb.same s1
  have f1 := msk_same (S := S) s1
  refine ite2 (fun q => ?_) (fun q => ?_)
  · exact ⟨_, rfl, bx, 87, S, rfl, hb1, by decide, by decide, fun n H2 _ _ hb2 f2 => ⟨_, _, rfl, rfl, k _ H2 hb2 (f1.trans f2)⟩⟩
  have hne : ps ≠ [] := fun z => q (decide_eq_true (by rw [z] <;> rfl))
  refine ⟨_, rfl, bx, 4, S, rfl, hb1, by decide, by decide, fun n H2 _ _ hb2 f2 => ⟨rfl, _, rfl, ?_⟩⟩
  refine ite2 (fun q => ?_) (fun q => ?_)
  · exact ⟨_, rfl, bx, 87, S, rfl, hb2, by decide, by decide, fun n H3 _ _ hb3 f3 => ⟨_, _, rfl, rfl, k _ H3 hb3 ((f1.trans f2).trans f3)⟩⟩
  have lu : us.length = ps.length := Paired.lenE hps
  have hp : 0 < ps.length := List.length_pos_iff.mpr hne
  have f12 := f1.trans f2
  refine ⟨_, rfl, _, rfl, bx, l, us, S, rfl, hb2, SqLm f12 hl, List.length_pos_iff.mp (by omega), by omega, fun x H3 hx hb3 f3 => ?_⟩
  obtain ⟨i, hi⟩ := List.getElem?_of_mem hx
  obtain ⟨d, _, hd⟩ := Paired.get0 hps hi
  have f13 := f12.trans f3
  obtain ⟨a, pa, rfl, ha, hpa, ok⟩ := id (hd.mono f13)
  have ha3 := SqT.m ha
  have l1 := rem_len ok.ahead
  have l2 := rem_len ok.behind
  refine ⟨_, rfl, _, rfl, a, _, _, _, rfl, rfl, ha3, pi4, d.ahead, rfl, sz (by omega), _, _, rfl, rfl, ?_⟩
  refine ⟨_, rfl, a, _, _, _, rfl, rfl, ha3, pi5, d.behind, rfl, sz (by omega), _, _, rfl, rfl, ?_⟩
  refine ⟨sz (by simp), fun g2 ng2 => ?_⟩
  have s4 := same_new (o := .lst [.int (4 + (d.ahead.length : Int)), .int (4 + (d.behind.length : Int)), .int 0, .int 1]) ng2
  have v4 : msk S (upd H3 g2 (.lst [.int (4 + (d.ahead.length : Int)), .int (4 + (d.behind.length : Int)), .int 0, .int 1])) g2 = some (.lst [.int (4 + (d.ahead.length : Int)), .int (4 + (d.behind.length : Int)), .int 0, .int 1]) := msk_new hb3.ow ng2
  refine ⟨bx, g2, _, S, rfl, hb3.same s4, SqL.of v4, by simp, by simp, fun y H5 hy hb5 f5 => ?_⟩
  have f15 := (f13.trans (msk_same s4)).trans f5
  obtain ⟨gap, rfl⟩ : ∃ gap : Int, y = .int gap := by
    simp only [List.mem_cons, List.not_mem_nil, or_false] at hy
    rcases hy with rfl | rfl | rfl | rfl
    · exact ⟨_, rfl⟩
    · exact ⟨_, rfl⟩
    · exact ⟨_, rfl⟩
    · exact ⟨_, rfl⟩
  refine ⟨_, rfl, .ref a, d, rfl, (hd.mono f15).mono msk_le, ?_⟩
  refine ⟨_, rfl, bx, 4, S, rfl, hb5, by decide, by decide, fun n H6 _ _ hb6 f6 => ?_⟩
  refine ⟨_, _, rfl, rfl, _, _, rfl, rfl, _, rfl, _, _, rfl, rfl, .inl ⟨_, rfl, ?_⟩⟩
  exact ⟨_, _, rfl, _, _, rfl, k _ H6 hb6 (f15.trans f6)⟩
theorem cal_law_width (T : Txt K mg) : Cal P w K mg base 3 "_law_width" (sp_law_width K) [] := by
  obtain ⟨fd, F⟩ := T.d_law_width
  exact mkCal F T.g_law_width (bi_law_width F) sc_law_width (fun vs H Q E h => len_law_width h) (body_law_width T)
def sp_law_feed (K : Fg) : Sp := fun vs H Q _ => ∃ (l : Addr) (xs : List Int) (base : Nat), vs = [.ref l, .int base] ∧ SqL K H l (xs.map V.int) ∧ base ≤ 1000 ∧ ∀ b gl H', H b = none → H gl = none → BoxOk (insS (insS noS b) gl) H' b → Same H H' → Q (.ref b) H'
theorem len_law_feed {vs H Q E} (h : sp_law_feed K vs H Q E) : vs.length = 2 := by
  obtain ⟨_, _, _, rfl, _⟩ := h
  rfl
theorem sc_law_feed : FnScope ["_law_script", "_law_base", "_law_cells", "_law_mixed_here", "_law_cell"] ["_law_script", "_law_base"] (defScope d_law_feed.st) := ⟨rfl, rfl, rfl, by decide +kernel, rfl, by decide +kernel, by decide +kernel⟩
theorem bi_law_feed {K : Fg} {fd : FuncData} (F : FnD K d_law_feed fd) : Binds K fd ["_law_script", "_law_base"] [] := FunD.bindsN F fun _ _ _ _ _ _ us hl => match us, hl with | [_, _], _ => rfl
theorem body_law_feed (T : Txt K mg) : BodyOk P w K mg base 0 ["_law_script", "_law_base", "_law_cells", "_law_mixed_here", "_law_cell"] d_law_feed (sp_law_feed K) := by
  intro cdv A outer s H vs Q E hr h
  obtain ⟨l, xs, b0, rfl, hl, hb0, k⟩ := h
  have nd := sc_law_feed.nd
  refine ⟨_, (pss_cons (ps_setLc (i := 2) (own := [("_law_cell", 4)]) (g := gName 4) (tt := tYes) rfl nd rfl rfl (sw_true rfl rfl rfl (by decide +kernel)) (pi_list (pe_slice sl_list (pv 0) (po_some (pv 1)) (po_some (pe_op op_add (pv 1) pe_int)))) (blkOk_by (N := ["_law_script", "_law_base", "_law_cells", "_law_mixed_here", "_law_cell"]) (sc := defScope d_law_feed.st) (by decide +kernel)) (fun _ _ _ _ _ => (pg_name (i := 4) nd rfl (Or.inl rfl))) (fun _ _ _ _ _ => pts_nil) (fun _ _ _ _ _ => (pe_callB call_abs (by rfl) T.b_abs PyProof.Rows.boot_abs (pa_cons (pe_callTy call_int1 (by rfl) T.b_int PyProof.Rows.boot_int (pa_cons (pv 4) pa_nil)) pa_nil))))
      (pss_cons (ps_set (i := 3) nd rfl (Or.inl rfl) (pe_op op_add pe_int (pe_op op_mul pe_int (pv 1))))
      (pss_cons (ps_for PassesOwn.never rfl (pi_list (pv 2)) (pg_name (i := 4) nd rfl (Or.inl rfl)) (pss_one (ps_set (i := 3) nd rfl (Or.inl rfl) (pe_op op_mod (pe_callTy call_int1 (by rfl) T.b_int PyProof.Rows.boot_int (pa_cons (pe_op op_add (pe_op op_add (pe_callTy call_int1 (by rfl) T.b_int PyProof.Rows.boot_int (pa_cons (pe_op op_mul (pv 3) pe_int) pa_nil)) (pe_op op_mod (pe_callTy call_int1 (by rfl) T.b_int PyProof.Rows.boot_int (pa_cons (pv 4) pa_nil)) pe_int)) pe_int) pa_nil)) pe_int))))
      (pss_one (ps_ret (pe_disp (pps_cons pe_str (pe_revL (pe_lc (own := [("_law_cell", 4)]) (g := gName 4) rfl nd (pi_list (pv 2)) (blkOk_by (N := ["_law_script", "_law_base", "_law_cells", "_law_mixed_here", "_law_cell"]) (sc := defScope d_law_feed.st) (by decide +kernel)) (fun _ _ _ _ _ => (pg_name (i := 4) nd rfl (Or.inl rfl))) (fun _ _ _ _ _ => pts_one (pt_cmpR op_ge (pv 4) (pe_op op_pow pe_int pe_int) (nomark _))) (fun _ _ _ _ _ => (pv 4)))) (pps_cons pe_str (pv 3) pps_nil)) (by rfl) (by rfl) (fun z => by cases z) (by decide))))))), ?_⟩
  refine ⟨_, rfl, _, rfl, _, rfl, _, rfl, _, _, rfl, rfl, _, rfl, l, _, rfl, hl, fun c nc => ?_⟩
  obtain ⟨cs, ecs, lcs⟩ : ∃ cs : List Int, cutV (xs.map V.int) (some (b0 : Int)) (some ((b0 : Int) + 60)) = cs.map V.int ∧ cs.length ≤ 60 := by
    have e1 : (b0 : Int) + 60 = ((b0 + 60 : Nat) : Int) := by omega
    rw [e1, cutV_nat]
    refine ⟨(xs.drop (min b0 (xs.map V.int).length)).take (min (b0 + 60) (xs.map V.int).length - min b0 (xs.map V.int).length), by rw [List.map_take, List.map_drop], ?_⟩
    rw [List.length_take]
    omega
  rw [ecs]
  have s1 : Same H (upd H c (.lst (cs.map V.int))) := same_new nc
  have v1 : SqL K (upd H c (.lst (cs.map V.int))) c (cs.map V.int) := SqL.of upd_same
  generalize upd H c (.lst (cs.map V.int)) = H1 at s1 v1
  refine ⟨c, rfl, ⟨_, v1⟩, fun D hD => ?_⟩
  refine lc_go walk_list (fun i acc H' => Same H1 H' ∧ ∃ ds : List Int, acc = ds.map V.int ∧ ds.length = i ∧ ∀ d ∈ ds, 0 ≤ d) ⟨same_new hD, [], rfl, rfl, fun d m => (List.not_mem_nil m).elim⟩ (fun i acc H' _ p _ => SqLm p.1 v1) (fun i x acc Ha Hb hi hl2 ⟨p1, ds, ed, ld, hd⟩ hD1 y => ?_) (fun acc H2 hl2 ⟨p1, ds, ed, ld, hd⟩ hD1 => ?_)
  · obtain ⟨rfl, hx⟩ := y
    rw [List.getElem?_map] at hx
    obtain ⟨z, hz, rfl⟩ := Option.map_eq_some_iff.mp hx
    rw [List.length_map] at hi
    refine ⟨rfl, yes ?_⟩
    refine ⟨_, rfl, .inl ⟨_, rfl, _, rfl, ?_⟩⟩
    refine lc_put hD1 hl2 (by omega) ⟨p1.mut hD, ds ++ [if z < 0 then -z else z], by rw [ed, List.map_append] <;> rfl, by simp [ld], fun t m => ?_⟩
    rcases List.mem_append.mp m with h | h
    · exact hd t h
    · rw [List.mem_singleton.mp h]
      split <;> omega
  · rw [List.length_map] at hl2 ld
    subst ed
    have s2 : Same H H2 := s1.trans p1
    clear p1 v1 s1
    refine ⟨_, rfl, _, _, rfl, rfl, .inl ⟨by decide, by decide⟩, _, _, rfl, rfl, ?_⟩
    refine ⟨_, rfl, D, rfl, ⟨_, SqL.of hD1⟩, ?_⟩
    refine for_it walk_list (fun i σ H' => ∃ m v4, σ = [some (.ref l), some (.int b0), some (.ref D), some (.int m), v4] ∧ H' = H2 ∧ 0 ≤ m ∧ m < 2147483647) ⟨_, none, rfl, rfl, by omega, by omega⟩ (fun i σ H' _ ⟨_, _, _, e, _⟩ => by rw [e]; exact SqL.of hD1) ?_ ?_
    · rintro i x σ Ha Hb hi ⟨m, v4, rfl, rfl, m0, m1⟩ ⟨rfl, hx⟩
      rw [List.getElem?_map] at hx
      obtain ⟨z, hz, rfl⟩ := Option.map_eq_some_iff.mp hx
      refine ⟨_, rfl, _, _, rfl, rfl, .inr ⟨by decide, by decide⟩, .inl ⟨_, rfl, _, rfl, .inl ⟨_, rfl, _, _, rfl, rfl, by omega, _, _, rfl, rfl, _, _, rfl, rfl, .inl ⟨_, rfl, _, _, rfl, rfl, by omega, ?_⟩⟩⟩⟩
      exact ⟨_, _, rfl, rfl, Int.emod_nonneg _ (by omega), Int.emod_lt_of_pos _ (by omega)⟩
    · rintro σ H3 ⟨m, v4, rfl, rfl, m0, m1⟩
      intro p np
      have s3 : Same H3 (upd H3 p (.dK [])) := same_new np
      have vp : (upd H3 p (.dK [])) p = some (.dK []) := upd_same
      generalize upd H3 p (.dK []) = H4 at s3 vp
      refine ⟨_, rfl, D, rfl, ⟨_, SqL.of (s3 _ _ hD1)⟩, fun D2 hD2 => ?_⟩
      refine lc_go walk_list (fun i acc H' => Same H4 H' ∧ ∃ es : List Int, acc = es.map V.int ∧ es.length ≤ i ∧ ∀ d ∈ es, 0 ≤ d) ⟨same_new hD2, [], rfl, Nat.le_refl _, fun d m => (List.not_mem_nil m).elim⟩ (fun i acc H' _ p _ => SqL.of (p.1 _ _ (s3 _ _ hD1))) (fun i x acc Ha Hb hi hl3 ⟨p1, es, ee, le, he⟩ hD3 y => ?_) (fun acc H5 hl3 ⟨p1, es, ee, le, he⟩ hD3 => ?_)
      · obtain ⟨rfl, hx⟩ := y
        rw [List.getElem?_map] at hx
        obtain ⟨z, hz, rfl⟩ := Option.map_eq_some_iff.mp hx
        rw [List.length_map] at hi
        refine ⟨rfl, ?_⟩
        refine ⟨_, rfl, _, _, rfl, rfl, ⟨by decide, by decide, by decide⟩, _, _, rfl, rfl, _, rfl, ?_⟩
        refine ite2 (fun g => ?_) (fun g => ?_)
        · refine ⟨_, rfl, lc_put hD3 hl3 (by omega) ⟨p1.mut hD2, es ++ [z], by rw [ee, List.map_append] <;> rfl, by simp only [List.length_append, List.length_cons, List.length_nil]; omega, fun t m => ?_⟩⟩
          rcases List.mem_append.mp m with h | h
          · exact he t h
          · rw [List.mem_singleton.mp h]
            exact hd z (List.mem_of_getElem? hz)
        · exact ⟨acc, Nat.le_succ_of_le hl3, hD3, p1, es, ee, Nat.le_succ_of_le le, he⟩
      · subst ee
        rw [List.length_map] at hl3 le
        refine ⟨D2, _, rfl, SqL.of hD3, fun q nq => ?_⟩
        have s6 : Same H5 (upd H5 q (.lst (es.map V.int).reverse)) := same_new nq
        have vq : (upd H5 q (.lst (es.map V.int).reverse)) q = some (.lst (es.reverse.map V.int)) := by rw [upd_same, List.map_reverse]
        have vp5 := p1 _ _ vp
        generalize upd H5 q (.lst (es.map V.int).reverse) = H6 at s6 vq
        refine ⟨_, rfl, s6 _ _ vp5, [(.inr "great", .ref q), (.inr "mixed", .int m)], rfl, by simp, ?_⟩
        generalize hk1 : mergeK [] _ = k1
        have e1 : k1 = [(.inr "great", .ref q), (.inr "mixed", .int m)] := hk1.symm.trans rfl
        subst e1
        clear hk1
        have nqp : q ≠ p := fun z => by
          subst z
          rw [vp5] at nq
          cases nq
        have s5 := (s2.trans s3).trans p1
        have vb : (upd H6 p (.dK [(.inr "great", .ref q), (.inr "mixed", .int m)])) p = some (.dK [(.inr "great", .ref q), (.inr "mixed", .int m)]) := upd_same
        have vg : (upd H6 p (.dK [(.inr "great", .ref q), (.inr "mixed", .int m)])) q = some (.lst (es.reverse.map V.int)) := by rw [upd_ne nqp]; exact vq
        refine k p q _ (s2.free np) (s5.free nq) ⟨q, es.reverse, m, (Ow.no.ins vb rfl).ins vg rfl, ?_, ins_at, nqp, vb, vg, fun c mc => he c (List.mem_reverse.mp mc), by rw [List.length_reverse]; omega, m0, m1⟩ ((s5.trans s6).mut (s2.free np))
        show ((false || p == p) || p == q) = true
        rw [beq_self_eq_true] <;> rfl
theorem cal_law_feed (T : Txt K mg) : Cal P w K mg base 1 "_law_feed" (sp_law_feed K) [] := by
  obtain ⟨fd, F⟩ := T.d_law_feed
  exact mkCal F T.g_law_feed (bi_law_feed F) sc_law_feed (fun vs H Q E h => len_law_feed h) (body_law_feed T)
end
end Lt
set_option Elab.async false
set_option linter.all false
set_option maxRecDepth 100000
set_option maxHeartbeats 8000000
/-! work within a sheet -/
namespace Lt
open PySem PySem.Spec PyProof.Rows L2
open C8 (Cal Met Mak pe_c pe_mk pe_mt pe_mt0 pe_gc)
/-- a list of pieces and a number -/
def wnData (ps : List PcD) (n : Int) : PyData := .list [pcsData ps, .int n]
def aPc : PcD := ⟨"a", ["b"], false, false, "", "", 0, false⟩
theorem aPc_ok : aPc.ok := by
  refine ⟨?_, by decide, by decide, ?_, .inl rfl, .inl rfl, by decide, by decide⟩
  · exact name_of (zs := ["a"]) (by decide +kernel) (by decide) (by decide)
  · intro p m
    rw [List.mem_singleton.mp m]
    exact ⟨by decide +kernel, by decide +kernel, by decide +kernel⟩
section
variable {P : Program} {w : World} {K : Fg} {mg : Str → Option Value} {base : Heap}
def sp_law_within (K : Fg) : Sp := fun vs H Q _ => ∃ (sa : Addr) (S : Sg) (wd : Int) (tl : TlD) (ps : List PcD) (past : List (List PcD)), vs = [.ref sa] ∧ Ow S H ∧ ShAt K S H sa wd tl ps past ∧ ps.length ≤ 39 ∧ past.length ≤ 57 ∧
  ∀ v H', Fr1 sa H H' → (∃ dx h2 p2, H' sa = some (.ins (ga K "Sheet") dx (shF wd h2 p2))) → Dp K (msk S H') v (wnData (runD tl wd ps) ((past.length : Int) + 2)) → Q v H'
theorem len_law_within {vs H Q E} (h : sp_law_within K vs H Q E) : vs.length = 1 := by
  obtain ⟨_, _, _, _, _, _, rfl, _⟩ := h
  rfl
theorem sc_law_within : FnScope ["_law_sheet"] ["_law_sheet"] (defScope d_law_within.st) := ⟨rfl, rfl, rfl, by decide +kernel, rfl, by decide +kernel, by decide +kernel⟩
theorem bi_law_within {K : Fg} {fd : FuncData} (F : FnD K d_law_within fd) : Binds K fd ["_law_sheet"] [] := FunD.bindsN F fun _ _ _ _ _ _ us hl => match us, hl with | [_], _ => rfl
theorem body_law_within (T : Txt K mg) : BodyOk P w K mg base 14 ["_law_sheet"] d_law_within (sp_law_within K) := by
  intro cdv A outer s H vs Q E hr h
  obtain ⟨sa, S, wd, tl, ps, past, rfl, w0, hsh, h39, h57, k⟩ := h
  have nd := sc_law_within.nd
  refine ⟨_, (pss_cons (ps_expr (pe_mt0 (met_Sheet_run T) hr (by decide) (pv 0)))
      (pss_cons (ps_expr (pe_mt (met_Sheet_put T) hr (by decide) (pv 0) (pa_cons pe_int (pa_cons (pe_ix ix_tup (pe_fld (pe_c (cal_law_program T) hr (by decide) (by rfl) (pa_cons (pe_lst (pa_cons (pe_tup (pa_cons pe_str (pa_cons (pe_tup (pa_cons pe_str pa_nil)) (pa_cons pe_bl (pa_cons pe_bl (pa_cons pe_str (pa_cons pe_str (pa_cons pe_int (pa_cons pe_bl pa_nil))))))))) pa_nil)) pa_nil)) rfl) pe_int (fun _ _ => rfl)) pa_nil))))
      (pss_one (ps_ret (pe_lst (pa_cons (pe_slice sl_list (pe_c (cal_law_told T) hr (by decide) (by rfl) (pa_cons (pe_pr (prp_Sheet_program T) hr (by decide) (pv 0)) pa_nil)) (po_some pe_int) po_none) (pa_cons (pe_callB (call_lenM (met_Sheet_len T) hr (by decide)) (by rfl) T.b_len PySem.boot_len (pa_cons (pv 0) pa_nil)) pa_nil))))))), ?_⟩
  obtain ⟨dx, _, _, _, e, _⟩ := id hsh.ex
  refine ⟨_, rfl, sa, dx, _, rfl, e, rfl, sa, S, wd, tl, ps, past, rfl, w0, hsh, by omega, fun H1 f1 h1 => ?_⟩
  obtain ⟨dx1, _, _, _, e1, _⟩ := id h1.ex
  have w1 := f1.ow w0 e1 rfl
  have m1 := f1.msk hsh.own
  refine ⟨_, rfl, sa, dx1, _, rfl, e1, rfl, sz (by simp), fun q nq => ?_⟩
  have s2 : Same H1 (upd H1 q (.tup [.str "b"])) := same_new nq
  have vq : SqT K (upd H1 q (.tup [.str "b"])) q (aPc.parts.map V.str) := SqT.of upd_same
  generalize upd H1 q (.tup [.str "b"]) = H2 at s2 vq
  refine ⟨sz (by simp), fun u nu => ?_⟩
  have s3 : Same H2 (upd H2 u (.tup [.str "a", .ref q, .bl false, .bl false, .str "", .str "", .int 0, .bl false])) := same_new nu
  have vu : PtAt K (upd H2 u (.tup [.str "a", .ref q, .bl false, .bl false, .str "", .str "", .int 0, .bl false])) (.ref u) aPc := ⟨u, q, rfl, SqT.of upd_same, SqTm s3 vq, aPc_ok⟩
  generalize upd H2 u (.tup [.str "a", .ref q, .bl false, .bl false, .str "", .str "", .int 0, .bl false]) = H3 at s3 vu
  refine ⟨sz (by simp), fun l nl => ?_⟩
  have s4 : Same H3 (upd H3 l (.lst [.ref u])) := same_new nl
  have vl : (upd H3 l (.lst [.ref u])) l = some (.lst [.ref u]) := upd_same
  generalize upd H3 l (.lst [.ref u]) = H4 at s4 vl
  refine ⟨l, _, [aPc], rfl, SqL.of vl, .cons (vu.mono s4) .nil, by decide, fun p H5 s5 hp => ?_⟩
  have s15 := ((s2.trans s3).trans s4).trans s5
  have w5 := w1.same s15
  obtain ⟨_, dp, pa, us, z, e0, ep, hpa, hus, _⟩ := w5.pg hp
  cases e0
  cases hus with | cons ha hnil => ?_
  cases hnil
  obtain ⟨a, da, qa, za, rfl, ra⟩ := id ha
  refine ⟨p, _, dp, _, _, rfl, msk_le _ _ ep, T.c_Program, T.n_Program_pieces, rfl, pa, _, 0, _, rfl, rfl, SqT.m hpa, at0, ?_⟩
  have lr := runD_len tl wd ps
  refine ⟨sa, a, 0, S, wd, tl, runD tl wd ps, aPc, past ++ [ps], rfl, w5, h1.same s15, ha, Nat.zero_le _, by omega, by simp only [List.length_append, List.length_cons, List.length_nil]; omega, fun H6 f6 h6 => ?_⟩
  have f16 := (f1.trans (.of s15)).trans f6
  obtain ⟨dx6, h2, p2, _, e6, _⟩ := id h6.ex
  have w6 := f6.ow w5 e6 rfl
  clear ha ra hp ep hpa vl vu vq s2 s3 s4 s5 nq nu nl
  refine ⟨_, rfl, sa, dx6, _, rfl, e6, sa, S, wd, tl, _, _, rfl, h6, fun r hr6 => ?_⟩
  refine ⟨r, _, rfl, hr6.mono msk_le, fun f ws H7 s7 nf vf hws => ?_⟩
  refine ⟨1, rfl, ?_⟩
  dsimp only [tNoPart]
  refine ⟨f, ws, rfl, SqL.of vf, fun g ng => ?_⟩
  have hws : PtAll K H7 ws (aPc :: runD tl wd ps) := hws
  cases hws with | @cons u0 _ us _ hu0 hus => ?_
  rw [cut1]
  have s8 : Same H7 (upd H7 g (.lst us)) := same_new ng
  have vg : (upd H7 g (.lst us)) g = some (.lst us) := upd_same
  generalize upd H7 g (.lst us) = H8 at s8 vg
  have s68 := s7.trans s8
  have w8 := w6.same s68
  have ll : (past ++ [ps] ++ [runD tl wd ps]).length = past.length + 2 := by simp only [List.length_append, List.length_cons, List.length_nil]
  refine ⟨_, rfl, sa, dx6, _, rfl, s68 _ _ e6, sa, S, wd, tl, _, _, rfl, h6.same s68, _, rfl, by rw [ll]; omega, ?_⟩
  refine ⟨sz (by simp), fun z nz => ?_⟩
  rw [ll]
  have s9 : Same H8 (upd H8 z (.lst [.ref g, .int ((past.length + 2 : Nat) : Int)])) := same_new nz
  have vz : msk S (upd H8 z (.lst [.ref g, .int ((past.length + 2 : Nat) : Int)])) z = some (.lst [.ref g, .int ((past.length + 2 : Nat) : Int)]) := msk_new w8 nz
  have Sg' : S g = false := (w6.same s7).not ng
  generalize upd H8 z (.lst [.ref g, .int ((past.length + 2 : Nat) : Int)]) = H9 at s9 vz
  have w9 := w8.same s9
  refine k _ H9 (f16.trans (.of (s68.trans s9))) ⟨dx6, h2, p2, (s68.trans s9) _ _ e6⟩ (.lst (SqL.of vz) (.cons (dp_pts (SqL.of (by rw [msk_at Sg']; exact s9 _ _ vg)) (w9.pts (PtAll.mono (s8.trans s9) hus))) (.cons (.int _) .nil)))
theorem cal_law_within (T : Txt K mg) : Cal P w K mg base 15 "_law_within" (sp_law_within K) [] := by
  obtain ⟨fd, F⟩ := T.d_law_within
  exact mkCal F T.g_law_within (bi_law_within F) sc_law_within (fun vs H Q E h => len_law_within h) (body_law_within T)
def sp_Sheet_within (K : Fg) : Sp := fun vs H Q _ => ∃ (sa : Addr) (S : Sg) (wd : Int) (tl : TlD) (ps : List PcD) (past : List (List PcD)), vs = [.ref sa, .ref (ga K "_law_within")] ∧ Ow S H ∧ ShAt K S H sa wd tl ps past ∧ ps.length ≤ 39 ∧ past.length ≤ 57 ∧
  ∀ v H', Fr1 sa H H' → ShAt K S H' sa wd tl ps past → Dp K (msk S H') v (wnData (runD tl wd ps) ((past.length : Int) + 2)) → Q v H'
theorem len_Sheet_within {vs H Q E} (h : sp_Sheet_within K vs H Q E) : vs.length = 2 := by
  obtain ⟨_, _, _, _, _, _, rfl, _⟩ := h
  rfl
theorem sc_Sheet_within : FnScope ["self", "work"] ["self", "work"] (defScope d_Sheet_within.st) := ⟨rfl, rfl, rfl, by decide +kernel, rfl, by decide +kernel, by decide +kernel⟩
theorem bi_Sheet_within {K : Fg} {fd : FuncData} (F : FnD K d_Sheet_within fd) : Binds K fd ["self", "work"] [] := FunD.bindsN F fun _ _ _ _ _ _ us hl => match us, hl with | [_, _], _ => rfl
theorem body_Sheet_within (T : Txt K mg) : BodyOk P w K mg base 15 ["self", "work"] d_Sheet_within (sp_Sheet_within K) := by
  intro cdv A outer s H vs Q E hr h
  obtain ⟨sa, S, wd, tl, ps, past, rfl, w0, hsh, h39, h57, k⟩ := h
  have nd := sc_Sheet_within.nd
  refine ⟨_, (pss_one (ps_with (met_Trial_enter T) (met_Trial_exit T) hr (by decide) (by decide) (pe_mt0 (met_Sheet_trial T) hr (by decide) (pv 0)) (pss_one (ps_ret (pe_wk (i := 1) (cal_law_within T) T.g_law_within hr (by decide) rfl (Or.inl rfl) (pa_cons (pv 0) pa_nil)))))), ?_⟩
  obtain ⟨dx, ha, pa, pvs, e, hst, hq, hps⟩ := id hsh.ex
  refine ⟨_, rfl, sa, dx, _, rfl, e, rfl, sa, rfl, fun x dt p H1 s1 nx ex => ?_⟩
  refine ⟨x, dt, _, rfl, ex, x, dt, sa, dx, ha, pa, wd, .non, .ref p, rfl, ex, s1 _ _ e, fun H2 f2 ex2 => ?_⟩
  have s2 : Same H H2 := fun b o h => f2 b o (ne_of_none h nx) (s1 b o h)
  have hxs : x ≠ sa := fun z => by
    subst z
    rw [nx] at e
    cases e
  have w2 := w0.same s2
  have h2 := hsh.same s2
  refine ⟨rfl, _, rfl, sa, S, wd, tl, ps, past, rfl, w2, h2, h39, h57, fun v H3 f3 ⟨ds3, h3, p3, e3⟩ dp => ?_⟩
  refine ⟨x, dt, sa, ds3, h3, p3, ha, pa, wd, .non, .non, .non, rfl, f3 _ _ hxs ex2, e3, fun H4 f4 e4 => ?_⟩
  have m4 := f4.msk (S := S) hsh.own
  have m := (msk_same s2).trans ((f3.msk hsh.own).trans m4)
  exact k v H4 (((Fr1.of s2).trans f3).trans f4) ⟨hsh.own, hsh.few, ds3, ha, pa, pvs, e4, hst.mono m, SqTm m hq, pairedM (fun _ _ z => z.mono m) hps⟩ (Dp.up m4 dp)
theorem met_Sheet_within (T : Txt K mg) : Met P w K mg base 16 (ga K "Sheet") "within" (sp_Sheet_within K) [] := by
  obtain ⟨fd, F⟩ := T.d_Sheet_within
  exact mkMet T.c_Sheet T.m_Sheet_within F (bi_Sheet_within F) sc_Sheet_within (fun vs H Q E h => len_Sheet_within h) (body_Sheet_within T)
end
end Lt
set_option Elab.async false
set_option linter.all false
set_option maxRecDepth 100000
set_option maxHeartbeats 4000000
/-! what stands while the law runs -/
namespace Lt
open PySem PySem.Spec PyProof.Rows L2
/-- a list of pieces -/
def LpAt (K : Fg) (G : Hp) (v : V) (ps : List PcD) : Prop := ∃ l us, v = .ref l ∧ G l = some (.lst us) ∧ PtAll K G us ps
theorem LpAt.mono {K : Fg} {G G' : Hp} {v : V} {ps : List PcD} (e : Same G G') (h : LpAt K G v ps) : LpAt K G' v ps := by
  obtain ⟨l, us, h1, h2, h3⟩ := h
  exact ⟨l, us, h1, e _ _ h2, h3.mono e⟩
theorem LpAt.dp {K : Fg} {G : Hp} {v : V} {ps : List PcD} (h : LpAt K G v ps) : Dp K G v (pcsData ps) := by
  obtain ⟨l, us, rfl, h2, h3⟩ := h
  exact dp_pts (SqL.of h2) h3
theorem LpAt.oks {K : Fg} {G : Hp} {v : V} {ps : List PcD} (h : LpAt K G v ps) : ∀ d ∈ ps, d.ok := by
  obtain ⟨l, us, rfl, h2, h3⟩ := h
  exact h3.oks
/-- a new list of pieces under a mask -/
theorem lp_new {K : Fg} {S : Sg} {H : Hp} {p : Addr} {us : List V} {ps : List PcD} (w : Ow S H) (n : H p = none) (h : PtAll K (msk S H) us ps) : LpAt K (msk S (upd H p (.lst us))) (.ref p) ps :=
  ⟨p, us, rfl, msk_new w n, h.mono (msk_same (same_new n))⟩
theorem lps_dp {K : Fg} {G : Hp} : ∀ {vs : List V} {qs : List (List PcD)}, Paired (LpAt K G) vs qs → DpAll K G vs (qs.map pcsData)
  | _, _, .nil => .nil
  | _, _, .cons a b => .cons a.dp (lps_dp b)
theorem msk_more {S S' : Sg} {H H' : Hp} (h : ∀ a, S a = true → S' a = true) (f : Same (msk S H) (msk S H')) : Same (msk S' H) (msk S' H') := fun a o e => by
  obtain ⟨h1, h2⟩ := msk_some e
  have h3 : S a = false := by
    cases q : S a with
    | false => rfl
    | true =>
      rw [h a q] at h1
      cases h1
  rw [msk_at h1]
  exact (msk_some (f a o (by rw [msk_at h3]; exact h2))).2
theorem BoxOk.fr {S : Sg} {H H' : Hp} {bx p : Addr} (f : Fr1 p H H') (hp : S p = false) (h : BoxOk S H bx) : BoxOk S H' bx := by
  obtain ⟨gl, cs, m, h⟩ := h
  have n : ∀ a, S a = true → a ≠ p := fun a ha z => by
    rw [z, hp] at ha
    cases ha
  refine ⟨gl, cs, m, fun a ha => ?_, h.sb, h.sg, h.ne, f _ _ (n _ h.sb) h.vb, f _ _ (n _ h.sg) h.vg, h.c0, h.few, h.m0, h.m1⟩
  obtain ⟨o, z, z2⟩ := h.ow a ha
  exact ⟨o, f a o (n a ha) z, z2⟩
abbrev Sd (b gl : Addr) : Sg := insS (insS noS b) gl
abbrev S4 (b gl sa e : Addr) : Sg := insS (insS (Sd b gl) e) sa
theorem s4_of {b gl sa e a : Addr} (h : Sd b gl a = true) : S4 b gl sa e a = true := by
  show ((Sd b gl a || a == e) || a == sa) = true
  rw [h] <;> rfl
theorem s4_e {b gl sa e : Addr} : S4 b gl sa e e = true := by
  show ((Sd b gl e || e == e) || e == sa) = true
  rw [beq_self_eq_true, Bool.or_true] <;> rfl
/-- the box, the sheet, the elder list -/
structure Lw (K : Fg) (H : Hp) (b gl sa e : Addr) (wd : Int) (tl : TlD) (ps : List PcD) (past : List (List PcD)) (evs : List V) : Prop where
  hb : BoxOk (Sd b gl) H b
  d1 : Sd b gl sa = false
  d2 : Sd b gl e = false
  d3 : e ≠ sa
  sh : ShAt K (S4 b gl sa e) H sa wd tl ps past
  ev : H e = some (.lst evs)
section
variable {K : Fg} {H H' : Hp} {b gl sa e : Addr} {wd : Int} {tl : TlD} {ps : List PcD} {past : List (List PcD)} {evs : List V}
theorem Lw.ow (h : Lw K H b gl sa e wd tl ps past evs) : Ow (S4 b gl sa e) H := by
  obtain ⟨dx, _, _, _, z, _⟩ := h.sh.ex
  exact (h.hb.ow.ins h.ev rfl).ins z rfl
theorem Lw.same (s : Same H H') (h : Lw K H b gl sa e wd tl ps past evs) : Lw K H' b gl sa e wd tl ps past evs := ⟨h.hb.same s, h.d1, h.d2, h.d3, h.sh.same s, s _ _ h.ev⟩
theorem Lw.draw (h : Lw K H b gl sa e wd tl ps past evs) (hb : BoxOk (Sd b gl) H' b) (f : Same (msk (Sd b gl) H) (msk (Sd b gl) H')) : Lw K H' b gl sa e wd tl ps past evs ∧ Same (msk (S4 b gl sa e) H) (msk (S4 b gl sa e) H') := by
  have f4 : Same (msk (S4 b gl sa e) H) (msk (S4 b gl sa e) H') := msk_more (fun a z => s4_of z) f
  exact ⟨⟨hb, h.d1, h.d2, h.d3, h.sh.mono f4 fun o z => same_at f h.d1 z, same_at f h.d2 h.ev⟩, f4⟩
theorem Lw.fr {qs : List PcD} {past' : List (List PcD)} (h : Lw K H b gl sa e wd tl ps past evs) (f : Fr1 sa H H') (sh : ShAt K (S4 b gl sa e) H' sa wd tl qs past') : Lw K H' b gl sa e wd tl qs past' evs ∧ Same (msk (S4 b gl sa e) H) (msk (S4 b gl sa e) H') :=
  ⟨⟨h.hb.fr f h.d1, h.d1, h.d2, h.d3, sh, f _ _ h.d3 h.ev⟩, f.msk h.sh.own⟩
theorem Lw.el {ys : List V} (h : Lw K H b gl sa e wd tl ps past evs) : Lw K (upd H e (.lst ys)) b gl sa e wd tl ps past ys ∧ Same (msk (S4 b gl sa e) H) (msk (S4 b gl sa e) (upd H e (.lst ys))) := by
  have f : Same (msk (S4 b gl sa e) H) (msk (S4 b gl sa e) (upd H e (.lst ys))) := msk_put s4_e
  exact ⟨⟨h.hb.wo h.d2, h.d1, h.d2, h.d3, h.sh.mono f fun o z => by rw [upd_ne (Ne.symm h.d3)]; exact z, upd_same⟩, f⟩
end
/-- the law's names and things, a turn done -/
def LwI (K : Fg) (sc b gl sa e : Addr) (vb tv : V) (wd : Int) (tl : TlD) (Hs : Hp) (N : Nat) (past : List (List PcD)) (σ : L2.St) (H : Hp) : Prop :=
  ∃ v5 l v9 v10 v11 v12 v13 ps evs, σ = [some (.ref sc), some vb, some (.ref b), some (.int wd), some (.ref sa), v5, some tv, some (.ref l), some (.ref e), v9, v10, v11, v12, v13] ∧ Lw K H b gl sa e wd tl ps past evs ∧
    LpAt K (msk (S4 b gl sa e) H) (.ref l) ps ∧ Paired (LpAt K (msk (S4 b gl sa e) H)) evs past ∧ TtAt K (msk (S4 b gl sa e) H) tv tl ∧ ps.length ≤ N ∧ Same (msk (S4 b gl sa e) Hs) (msk (S4 b gl sa e) H)
theorem sd_same {H0 H1 H' : Hp} {b gl : Addr} (s : Same H0 H1) (nb : H0 b = none) (ng : H0 gl = none) (f : Same (msk (Sd b gl) H1) (msk (Sd b gl) H')) : Same H0 H' := fun a o h => by
  have h1 : Sd b gl a = false := by
    show ((false || a == b) || a == gl) = false
    rw [beq_eq_false_iff_ne.mpr (ne_of_none h nb), beq_eq_false_iff_ne.mpr (ne_of_none h ng)] <;> rfl
  exact same_at f h1 (s a o h)
/-- what stood before the box was made stands -/
theorem s4_same {H0 Hs H' : Hp} {b gl sa e : Addr} (s : Same H0 Hs) (nb : H0 b = none) (ng : H0 gl = none) (ns : H0 sa = none) (ne : H0 e = none) (f : Same (msk (S4 b gl sa e) Hs) (msk (S4 b gl sa e) H')) : Same H0 H' := fun a o h => by
  have h1 : S4 b gl sa e a = false := by
    show ((((false || a == b) || a == gl) || a == e) || a == sa) = false
    rw [beq_eq_false_iff_ne.mpr (ne_of_none h nb), beq_eq_false_iff_ne.mpr (ne_of_none h ng), beq_eq_false_iff_ne.mpr (ne_of_none h ne), beq_eq_false_iff_ne.mpr (ne_of_none h ns)] <;> rfl
  exact same_at f h1 (s a o h)
theorem paired_snoc {α β : Type} {F : α → β → Prop} {vs : List α} {pre : List β} {q : β} (h : Paired F vs (pre ++ [q])) : ∃ ini x, vs = ini ++ [x] ∧ Paired F ini pre ∧ F x q := by
  rcases paired_last h with ⟨_, z2⟩ | ⟨ini, x, jni, y, z1, z2, z3⟩
  · cases pre <;> cases z2
  · obtain ⟨z4, z5⟩ := List.append_inj' z2 rfl
    cases z5
    subst z4
    subst z1
    have hl : ini.length = pre.length := by simpa using Paired.lenE h
    refine ⟨ini, x, rfl, ?_, z3⟩
    have := Paired.tk ini.length h
    rw [List.take_left, hl, List.take_left] at this
    exact this
theorem lps_fine {K : Fg} {G : Hp} {vs : List V} {qs : List (List PcD)} (h : Paired (LpAt K G) vs qs) : ∀ x ∈ qs, Fine 3 (pcsData x) := by
  intro x m
  obtain ⟨i, hi⟩ := List.getElem?_of_mem m
  obtain ⟨v, _, hv⟩ := Paired.get1 h hi
  exact fine_pcs hv.oks
theorem dup {G E : Prop} (h : E → G) (e : E) : G := h e
/-! ### equal data -/
theorem eqv_wn (a : List PcD) (n : Int) : PyData.eqv (wnData a n) (wnData a n) = true := by
  show (PyData.eqv (pcsData a) (pcsData a) && (PyData.eqv (.int n) (.int n) && true)) = true
  rw [eqv_pcs, decide_eq_true rfl]
  show (true && (decide (n = n) && true)) = true
  rw [decide_eq_true rfl] <;> rfl
theorem fine_wn {a : List PcD} {n : Int} (ok : ∀ d ∈ a, d.ok) : Fine 4 (wnData a n) := by
  obtain ⟨h1, h2⟩ := fine_pcs ok
  refine ⟨Bool.and_eq_true_iff.mpr ⟨h1, rfl⟩, Nat.succ_le_succ (Nat.max_le.mpr ⟨h2, Nat.max_le.mpr ⟨Nat.zero_le _, Nat.zero_le _⟩⟩)⟩
/-- two lists of the same pieces -/
theorem nePs {K : Fg} {H : Hp} {Q : VK} {x y : V} {ps qs : List PcD} (hx : LpAt K H x ps) (hy : LpAt K H y qs) (k : Q (.bl (!decide (ps = qs))) H) : rNeD K x y H Q := by
  refine ⟨pcsData ps, pcsData qs, hx.dp, hy.dp, (fine_pcs hx.oks).shaped (by decide), (fine_pcs hy.oks).shaped (by decide), ?_⟩
  rw [eqv_pcs]
  exact k
end Lt
set_option Elab.async false
set_option linter.all false
set_option maxRecDepth 100000
set_option maxHeartbeats 8000000
/-! the law -/
namespace Lt
open PySem PySem.Spec PyProof.Rows L2
open C8 (Cal Met Mak pe_c pe_mk pe_mt pe_mt0 pe_gc)
section
variable {P : Program} {w : World} {K : Fg} {mg : Str → Option Value} {base : Heap}
def sp_law (K : Fg) : Sp := fun vs H Q _ => ∃ (a : Addr) (xs : List Int), vs = [.ref a] ∧ SqL K H a (xs.map V.int) ∧ xs.length ≤ 63 ∧ ∀ H', Q (.bl true) H'
theorem len_law {vs H Q E} (h : sp_law K vs H Q E) : vs.length = 1 := by
  obtain ⟨_, _, rfl, _⟩ := h
  rfl
theorem sc_law : FnScope ["_law_script", "_law_base", "_law_box", "_law_width_here", "_law_sheet", "_law_turn", "_law_tool_here", "_law_pieces_here", "_law_elder", "_law_form", "_law_before", "_law_fresh", "_law_one", "_law_at"] ["_law_script"] (defScope d_law.st) := ⟨rfl, rfl, rfl, by decide +kernel, rfl, by decide +kernel, by decide +kernel⟩
theorem bi_law {K : Fg} {fd : FuncData} (F : FnD K d_law fd) : Binds K fd ["_law_script"] [] := FunD.bindsN F fun _ _ _ _ _ _ us hl => match us, hl with | [_], _ => rfl
theorem body_law (T : Txt K mg) : BodyOk P w K mg base 16 ["_law_script", "_law_base", "_law_box", "_law_width_here", "_law_sheet", "_law_turn", "_law_tool_here", "_law_pieces_here", "_law_elder", "_law_form", "_law_before", "_law_fresh", "_law_one", "_law_at"] d_law (sp_law K) := by
  intro cdv A outer s H vs Q E hr h
  obtain ⟨sc, xs, rfl, hsc, hlen, k⟩ := h
  have nd := sc_law.nd
  refine ⟨_, (pss_cons (ps_for PassesOwn.never rfl (pi_range1 (by rfl) T.b_range (pa_cons (pe_callB (call_max2 rfl) (by rfl) T.b_max PyProof.Rows.boot_max (pa_cons pe_int (pa_cons (pe_callB (call_min2 rfl) (by rfl) T.b_min PyProof.Rows.boot_min (pa_cons pe_int (pa_cons (pe_callB call_len_seq (by rfl) T.b_len PySem.boot_len (pa_cons (pv 0) pa_nil)) pa_nil))) pa_nil))) pa_nil)) (pg_name (i := 1) nd rfl (Or.inl rfl)) (pss_cons (ps_set (i := 2) nd rfl (Or.inl rfl) (pe_c (cal_law_feed T) hr (by decide) (by rfl) (pa_cons (pv 0) (pa_cons (pv 1) pa_nil))))
      (pss_cons (ps_par3 (i := 6) (j := 7) (l := 8) rfl nd rfl rfl rfl (by decide) (by decide) (by decide) rfl rfl rfl (pa_cons (pe_c (cal_law_tool T) hr (by decide) (by rfl) (pa_cons (pv 2) (pa_cons pe_int pa_nil))) (pa_cons (pe_c (cal_law_pieces T) hr (by decide) (by rfl) (pa_cons (pv 2) (pa_cons pe_int pa_nil))) (pa_cons (pe_lst pa_nil) pa_nil))) (by rfl))
      (pss_cons (ps_set (i := 3) nd rfl (Or.inl rfl) (pe_c (cal_law_width T) hr (by decide) (by rfl) (pa_cons (pv 2) (pa_cons (pv 7) pa_nil))))
      (pss_cons (ps_set (i := 4) nd rfl (Or.inl rfl) (pe_mk (mak_Sheet T) hr (by decide) (by rfl) (pa_cons (pe_c (cal_law_tool_of T) hr (by decide) (by rfl) (pa_cons (pv 6) pa_nil)) (pa_cons (pv 3) (pa_cons (pe_c (cal_law_program T) hr (by decide) (by rfl) (pa_cons (pv 7) pa_nil)) pa_nil)))))
      (pss_cons (ps_for PassesOwn.never rfl (pi_range1 (by rfl) T.b_range (pa_cons (pe_op op_add pe_int (pe_c (cal_law_take T) hr (by decide) (by rfl) (pa_cons (pv 2) (pa_cons pe_int pa_nil)))) pa_nil)) (pg_name (i := 5) nd rfl (Or.inl rfl)) (pss_cons (ps_par3 (i := 9) (j := 10) (l := 11) rfl nd rfl rfl rfl (by decide) (by decide) (by decide) rfl rfl rfl (pa_cons (pe_c (cal_law_take T) hr (by decide) (by rfl) (pa_cons (pv 2) (pa_cons pe_int pa_nil))) (pa_cons (pv 7) (pa_cons (pe_c (cal_law_piece T) hr (by decide) (by rfl) (pa_cons (pv 2) pa_nil)) pa_nil))) (by rfl))
      (pss_cons (ps_par (i := 12) (j := 13) rfl nd rfl rfl (by decide) rfl rfl (pa_cons (pe_ix ix_tup (pe_fld (pe_c (cal_law_program T) hr (by decide) (by rfl) (pa_cons (pe_lst (pa_cons (pv 11) pa_nil)) pa_nil)) rfl) pe_int (fun _ _ => rfl)) (pa_cons (pe_c (cal_law_take T) hr (by decide) (by rfl) (pa_cons (pv 2) (pa_cons (pe_op op_add (pe_callB call_len_seq (by rfl) T.b_len PySem.boot_len (pa_cons (pv 7) pa_nil)) pe_int) pa_nil))) pa_nil)) (by rfl))
      (pss_cons (ps_if (pt_cmpR op_eq (pv 9) pe_int (nomark _)) (pss_cons (ps_expr (pe_mt (met_Sheet_put T) hr (by decide) (pv 4) (pa_cons (pv 13) (pa_cons (pv 12) pa_nil))))
      (pss_one (ps_set (i := 7) nd rfl (Or.inl rfl) (pe_op op_cat (pe_op op_cat (pe_slice sl_list (pv 7) po_none (po_some (pv 13))) (pe_lst (pa_cons (pv 11) pa_nil))) (pe_slice sl_list (pv 7) (po_some (pv 13)) po_none))))) (pss_one (ps_if (PW.pt (pw_and (pt_cmpR op_eq (pv 9) pe_int (nomark _)) (pw_and1 (pt_cmpR op_lt (pv 13) (pe_callB call_len_seq (by rfl) T.b_len PySem.boot_len (pa_cons (pv 7) pa_nil)) (nomark _))))) (pss_cons (ps_if (pt_cmpR (op_neI (met_Piece_eq T) T.ne_Piece (objB_ob T.o_Piece) hr (by decide)) (pe_mt (met_Sheet_take T) hr (by decide) (pv 4) (pa_cons (pv 13) pa_nil)) (pe_ix ix_tup (pe_fld (pe_c (cal_law_program T) hr (by decide) (by rfl) (pa_cons (pv 7) pa_nil)) rfl) (pv 13) (fun _ _ => rfl)) (nomark _)) (pss_one (ps_ret pe_bl)) pss_nil)
      (pss_one (ps_set (i := 7) nd rfl (Or.inl rfl) (pe_op op_cat (pe_slice sl_list (pv 7) po_none (po_some (pv 13))) (pe_slice sl_list (pv 7) (po_some (pe_op op_add (pv 13) pe_int)) po_none))))) (pss_one (ps_if (PW.pt (pw_and (pt_cmpR op_eq (pv 9) pe_int (nomark _)) (pw_and1 (pt_cmpR op_lt (pv 13) (pe_callB call_len_seq (by rfl) T.b_len PySem.boot_len (pa_cons (pv 7) pa_nil)) (nomark _))))) (pss_cons (ps_expr (pe_mt (met_Sheet_change T) hr (by decide) (pv 4) (pa_cons (pv 13) (pa_cons (pv 12) pa_nil))))
      (pss_one (ps_set (i := 7) nd rfl (Or.inl rfl) (pe_op op_cat (pe_op op_cat (pe_slice sl_list (pv 7) po_none (po_some (pv 13))) (pe_lst (pa_cons (pv 11) pa_nil))) (pe_slice sl_list (pv 7) (po_some (pe_op op_add (pv 13) pe_int)) po_none))))) (pss_cons (ps_set (i := 7) nd rfl (Or.inl rfl) (pe_c (cal_law_run T) hr (by decide) (by rfl) (pa_cons (pv 6) (pa_cons (pv 3) (pa_cons (pv 7) pa_nil)))))
      (pss_one (ps_if (pt_cmpR op_ne (pe_callB cr_reprB (by rfl) T.b_repr PyProof.Rows.boot_repr (pa_cons (pe_mt0 (met_Sheet_run T) hr (by decide) (pv 4)) pa_nil)) (pe_callB cr_reprB (by rfl) T.b_repr PyProof.Rows.boot_repr (pa_cons (pe_cmpR (op_neD hr.units) (pv 7) (pv 10) (nomark _)) pa_nil)) (nomark _)) (pss_one (ps_ret pe_bl)) pss_nil))))))))
      (pss_cons (ps_expr (pe_bm PySem.F.plainAttrs_list PySem.F.slot_list_append PySem.F.type_list_append mt_append (pv 8) (pa_cons (pv 10) pa_nil)))
      (pss_one (ps_if (PW.pt (pw_or (pt_cmpR (op_neD hr.units) (pe_c (cal_law_told T) hr (by decide) (by rfl) (pa_cons (pe_pr (prp_Sheet_program T) hr (by decide) (pv 4)) pa_nil)) (pv 7) (nomark _)) (pw_or (pt_cmpR op_ne (pe_callB (call_lenM (met_Sheet_len T) hr (by decide)) (by rfl) T.b_len PySem.boot_len (pa_cons (pv 4) pa_nil)) (pe_callB call_len_seq (by rfl) T.b_len PySem.boot_len (pa_cons (pv 8) pa_nil)) (nomark _)) (pw_or1 (pt_cmpR op_ne (pe_fld (pv 4) rfl) (pv 3) (nomark _)))))) (pss_one (ps_ret pe_bl)) pss_nil)))))))
      (pss_cons (ps_if (pt_cmpR (op_neD hr.units) (pe_mt (met_Sheet_within T) hr (by decide) (pv 4) (pa_cons (pe_gc (v := .ref (ga _ "_law_within")) (by rfl) ⟨_, T.g_law_within, rfl⟩) pa_nil)) (pe_lst (pa_cons (pe_c (cal_law_run T) hr (by decide) (by rfl) (pa_cons (pv 6) (pa_cons (pv 3) (pa_cons (pv 7) pa_nil)))) (pa_cons (pe_op op_add (pe_callB call_len_seq (by rfl) T.b_len PySem.boot_len (pa_cons (pv 8) pa_nil)) pe_int) pa_nil))) (nomark _)) (pss_one (ps_ret pe_bl)) pss_nil)
      (pss_cons (ps_while PassesOwn.never (pt_cmpR (op_neD hr.units) (pv 8) (pe_lst pa_nil) (nomark _)) (pss_cons (ps_if (PW.pt (pw_or (pt_cmpR (op_neD hr.units) (pe_c (cal_law_told T) hr (by decide) (by rfl) (pa_cons (pe_pr (prp_Sheet_program T) hr (by decide) (pv 4)) pa_nil)) (pv 7) (nomark _)) (pw_or (pt_cmpR op_ne (pe_callB (call_lenM (met_Sheet_len T) hr (by decide)) (by rfl) T.b_len PySem.boot_len (pa_cons (pv 4) pa_nil)) (pe_callB call_len_seq (by rfl) T.b_len PySem.boot_len (pa_cons (pv 8) pa_nil)) (nomark _)) (pw_or1 (pt_cmpR op_isnot_bl (pe_mt0 (met_Sheet_undo T) hr (by decide) (pv 4)) pe_bl (nomark _)))))) (pss_one (ps_ret pe_bl)) pss_nil)
      (pss_one (ps_set (i := 7) nd rfl (Or.inl rfl) (pe_bm0 PySem.F.plainAttrs_list PySem.F.slot_list_pop PySem.F.type_list_pop mt_pop (pv 8))))))
      (pss_cons (ps_if (PW.pt (pw_or (pt_cmpR (op_neD hr.units) (pe_c (cal_law_told T) hr (by decide) (by rfl) (pa_cons (pe_pr (prp_Sheet_program T) hr (by decide) (pv 4)) pa_nil)) (pv 7) (nomark _)) (pw_or1 (pt_cmpR op_isnot_bl (pe_mt0 (met_Sheet_undo T) hr (by decide) (pv 4)) pe_bl (nomark _))))) (pss_one (ps_ret pe_bl)) pss_nil)
      (pss_one (ps_if (pt_cmpR op_ne (pe_callTy (call_strM (met_Tool_str T) hr (by decide)) (by rfl) T.b_str PyProof.Rows.boot_str (pa_cons (pe_pr (prp_Sheet_tool T) hr (by decide) (pv 4)) pa_nil)) (pe_c (cal_law_tool_text T) hr (by decide) (by rfl) (pa_cons (pv 6) pa_nil)) (nomark _)) (pss_one (ps_ret pe_bl)) pss_nil)))))))))))
      (pss_one (ps_ret pe_bl))), ?_⟩
  refine ⟨_, rfl, sc, _, rfl, .inl hsc, _, _, rfl, _, _, rfl, _, rfl, ?_, ?_, ?_⟩
  · rw [List.length_map]
    split <;> split <;> omega
  · rw [List.length_map]
    split <;> split <;> omega
  have hn : (if (if ((xs.map V.int).length : Int) < 3 then ((xs.map V.int).length : Int) else 3) > 1 then (if ((xs.map V.int).length : Int) < 3 then ((xs.map V.int).length : Int) else 3) else 1).toNat ≤ 3 := by split <;> split <;> omega
  generalize (if (if ((xs.map V.int).length : Int) < 3 then ((xs.map V.int).length : Int) else 3) > 1 then (if ((xs.map V.int).length : Int) < 3 then ((xs.map V.int).length : Int) else 3) else 1).toNat = n at hn ⊢
  refine for_it walk_range (fun j σ H' => ∃ v1 v2 v3 v4 v5 v6 v7 v8 v9 v10 v11 v12 v13, σ = [some (.ref sc), v1, v2, v3, v4, v5, v6, v7, v8, v9, v10, v11, v12, v13] ∧ Same H H') ⟨none, none, none, none, none, none, none, none, none, none, none, none, none, rfl, Same.refl _⟩ (fun _ _ _ _ _ => trivial) ?_ ?_
  · rintro j x σ Hb H0 hj ⟨v1, v2, v3, v4, v5, v6, v7, v8, v9, v10, v11, v12, v13, rfl, s0⟩ ⟨rfl, rfl⟩
    refine ⟨_, rfl, _, rfl, sc, xs, j, by show [V.ref sc, V.int (0 + (j : Int))] = _; rw [Int.zero_add], SqLm s0 hsc, by omega, fun b gl H1 nb ng hb1 s1 => ?_⟩
    refine ⟨_, rfl, b, 5, Sd b gl, rfl, hb1, by decide, by decide, fun tv tl H2 ht2 hb2 f2 => ?_⟩
    refine ⟨_, rfl, b, 6, Sd b gl, rfl, hb2, by decide, by decide, fun l us ps H3 nl vl hps lps hb3 f3 => ?_⟩
    refine ⟨sz (by simp), fun e ne => ⟨_, _, _, rfl, ?_⟩⟩
    have s4 : Same H3 (upd H3 e (.lst [])) := same_new ne
    have ve : (upd H3 e (.lst [])) e = some (.lst []) := upd_same
    have Se : Sd b gl e = false := hb3.ow.not ne
    have Sl : Sd b gl l = false := hb2.ow.not nl
    have hel : l ≠ e := fun z => by
      subst z
      rw [vl] at ne
      cases ne
    have vl4 := s4 _ _ vl
    have ht4 := (hb2.ow.tt ht2).mono (f3.trans (msk_same s4))
    have hps4 := (hb3.ow.pts hps).mono (msk_same s4)
    have hb4 := hb3.same s4
    have g14 := (f2.trans f3).trans (msk_same (S := Sd b gl) s4)
    generalize upd H3 e (.lst []) = H4 at s4 ve vl4 ht4 hps4 hb4 g14
    refine ⟨_, rfl, _, rfl, b, l, us, ps, Sd b gl, rfl, hb4, SqL.of (by rw [msk_at Sl]; exact vl4), hps4, by omega, fun wd H5 hb5 f5 => ?_⟩
    have ht5 := ht4.mono f5
    have hps5 := hps4.mono f5
    have vl5 := same_at f5 Sl vl4
    have ve5 := same_at f5 Se ve
    refine ⟨_, rfl, tv, tl, rfl, ht5.mono msk_le, fun t H6 s6 ht6 => ⟨_, rfl, _, rfl, l, us, ps, rfl, SqL.of (s6 _ _ vl5), hps5.mono (msk_le.trans s6), by omega, fun p H7 s7 hp7 => ?_⟩⟩
    intro sa dx nsa ndx hne
    have s57 := s6.trans s7
    have hb7 := hb5.same s57
    have w7 : Ow (insS (Sd b gl) e) H7 := hb7.ow.ins (s57 _ _ ve5) rfl
    refine make_sh w7 nsa ndx hne (w7.tl (ht6.mono s7)) (w7.pg hp7) rfl fun H8 s8 nsa ow8 sh8 => ?_
    have ve7 := s57 _ _ ve5
    have vl7 := s57 _ _ vl5
    have hw8 : Lw K H8 b gl sa e wd tl ps [] [] := ⟨hb7.same s8, hb7.ow.not nsa, Se, ne_of_none ve7 nsa, sh8, s8 _ _ ve7⟩
    have Sl4 : S4 b gl sa e l = false := by
      show ((Sd b gl l || l == e) || l == sa) = false
      rw [Sl, beq_eq_false_iff_ne.mpr hel, beq_eq_false_iff_ne.mpr (ne_of_none vl7 nsa)] <;> rfl
    have hl8 : LpAt K (msk (S4 b gl sa e) H8) (.ref l) ps := ⟨l, us, rfl, by rw [msk_at Sl4]; exact s8 _ _ vl7, ow8.pts (hps5.mono (msk_le.trans (s57.trans s8)))⟩
    have ht8 : TtAt K (msk (S4 b gl sa e) H8) tv tl := ow8.tt (ht5.mono (msk_le.trans (s57.trans s8)))
    have m7 : Same H0 H7 := sd_same s1 nb ng ((g14.trans f5).trans (msk_same s57))
    have ne0' : H0 e = none := (sd_same s1 nb ng (f2.trans f3)).free ne
    have nsa0 : H0 sa = none := m7.free nsa
    have m8 := m7.trans s8
    clear hps hps4 hps5 ht2 ht4 ht5 ht6 hp7 vl vl4 vl5 vl7 ve ve5 ve7 sh8 ow8 w7 hb1 hb2 hb3 hb4 hb5 hb7 f2 f3 f5 g14 s4 s6 s7 s8 s57 nl ne ndx hne m7 hel Sl Sl4 Se
    refine ⟨_, rfl, b, 10, Sd b gl, rfl, hw8.hb, by decide, by decide, fun n2 H9 n0 n1 hb9 f9 => ⟨_, _, rfl, rfl, _, rfl, by omega, by omega, ?_⟩⟩
    obtain ⟨hw9, g9⟩ := hw8.draw hb9 f9
    refine for_it walk_range (fun i σ H' => ∃ past, past.length = i ∧ LwI K sc b gl sa e (.int (0 + (j : Int))) tv wd tl H8 (6 + i) past σ H') ⟨[], rfl, _, l, _, _, _, _, _, ps, [], rfl, hw9, hl8.mono g9, .nil, ht8.mono g9, by omega, g9⟩ (fun _ _ _ _ _ => trivial) ?_ ?_
    · rintro i x σ Hc Hd hi ⟨past, lp, v5, l, v9, v10, v11, v12, v13, ps, evs, rfl, hw, hl, hes, ht, hlen, g0⟩ ⟨rfl, rfl⟩
      refine ⟨_, rfl, b, 6, Sd b gl, rfl, hw.hb, by decide, by decide, fun fm H1 _ _ hb1 f1 => ⟨_, rfl, _, rfl, b, Sd b gl, rfl, hb1, fun fv fd H2 hfd hb2 f2 => ⟨_, _, _, rfl, ?_⟩⟩⟩
      obtain ⟨hw2, g2⟩ := hw.draw hb2 (f1.trans f2)
      refine ⟨_, rfl, sz (by simp), fun q nq => ?_⟩
      have s3 : Same H2 (upd H2 q (.lst [fv])) := same_new nq
      have vq : (upd H2 q (.lst [fv])) q = some (.lst [fv]) := upd_same
      generalize upd H2 q (.lst [fv]) = H3 at s3 vq
      refine ⟨q, _, [fd], rfl, SqL.of vq, .cons (hfd.mono s3) .nil, by simp, fun p H4 s4 hp => ?_⟩
      have s24 := s3.trans s4
      have hw4 := hw2.same s24
      obtain ⟨_, dp, pa, us, z, e0, ep, hpa, hus, _⟩ := hw4.ow.pg hp
      cases e0
      cases hus with | cons ha hnil => ?_
      cases hnil
      obtain ⟨a, da, qa, za, rfl, ra⟩ := id ha
      refine ⟨p, _, dp, _, _, rfl, msk_le _ _ ep, T.c_Program, T.n_Program_pieces, rfl, pa, _, 0, _, rfl, rfl, SqT.m hpa, at0, ?_⟩
      have g4 := g2.trans (msk_same s24)
      obtain ⟨_, us, e1, vl4, hpl4⟩ := hl.mono g4
      cases e1
      have lu : us.length = ps.length := Paired.lenE hpl4
      refine ⟨_, rfl, _, rfl, l, us, rfl, .inl (SqL.of (msk_le _ _ vl4)), _, _, rfl, rfl, b, _, Sd b gl, rfl, hw4.hb, by omega, by omega, fun n H5 n0 n1 hb5 f5 => ⟨_, _, rfl, ?_⟩⟩
      obtain ⟨hw5, g5⟩ := hw4.draw hb5 f5
      obtain ⟨i0, rfl⟩ : ∃ i0 : Nat, n = i0 := ⟨n.toNat, by omega⟩
      have hi0 : i0 ≤ ps.length := by omega
      have g25 := (msk_same (S := S4 b gl sa e) s24).trans g5
      have ha5 := ha.mono g5
      have hfd5 := (hw2.ow.pt hfd).mono g25
      have vm5 := g5 _ _ vl4
      have vl5 := msk_le _ _ vm5
      have hpl5 := hpl4.mono g5
      have hl5 : LpAt K (msk (S4 b gl sa e) H5) (.ref l) ps := ⟨l, us, rfl, g5 _ _ vl4, hpl5⟩
      have g05 := (g0.trans g4).trans g5
      have hes5 := pairedM (fun _ _ z => LpAt.mono (g4.trans g5) z) hes
      have ht5 := ht.mono (g4.trans g5)
      have levs : evs.length = past.length := Paired.lenE hes
      clear ra ep hpa hp hw4 hw2 hw hb1 hb2 hb5 f1 f2 f5 g25 g5 vl4 hpl4 g4 s24 s3 s4 vq nq hfd ha hl hes ht g0 g2
      refine ⟨_, rfl, rfl, _, rfl, ?_⟩
      refine ifS (fun σ' H' => ∃ l' ps', σ' = [some (.ref sc), some (.int (0 + (j : Int))), some (.ref b), some (.int wd), some (.ref sa), some (.int (0 + (i : Int))), some tv, some (.ref l'), some (.ref e), some (.int fm), some (.ref l), some fv, some (.ref a), some (.int i0)] ∧ Lw K H' b gl sa e wd tl ps' (past ++ [ps]) evs ∧ LpAt K (msk (S4 b gl sa e) H') (.ref l') ps' ∧ ps'.length ≤ ps.length + 1 ∧ Same (msk (S4 b gl sa e) H5) (msk (S4 b gl sa e) H')) (fun q D q2 => ?_) (fun q D q2 => ?_) ?_
      · obtain ⟨dx, _, _, _, es, _⟩ := id hw5.sh.ex
        refine ⟨_, rfl, sa, dx, _, rfl, es, rfl, _, rfl, _, rfl, sa, a, i0, S4 b gl sa e, wd, tl, ps, fd, past, rfl, hw5.ow, hw5.sh, ha5, hi0, by omega, by omega, fun H6 f6 sh6 => ?_⟩
        obtain ⟨hw6, g6⟩ := hw5.fr f6 sh6
        have vl6 := msk_le _ _ (g6 _ _ vm5)
        refine ⟨_, rfl, ?_⟩
        dsimp only [tNoPart]
        refine ⟨_, rfl, _, rfl, l, us, rfl, SqL.of vl6, fun la na => ?_⟩
        rw [cutV_to (by omega)]
        have s7 : Same H6 (upd H6 la (.lst (us.take i0))) := same_new na
        have va : (upd H6 la (.lst (us.take i0))) la = some (.lst (us.take i0)) := upd_same
        generalize upd H6 la (.lst (us.take i0)) = H7 at s7 va
        refine ⟨_, rfl, sz (by simp), fun lb nb2 => ?_⟩
        have s8 : Same H7 (upd H7 lb (.lst [fv])) := same_new nb2
        have vb : (upd H7 lb (.lst [fv])) lb = some (.lst [fv]) := upd_same
        generalize upd H7 lb (.lst [fv]) = Hx at s8 vb
        refine ⟨la, lb, _, _, rfl, rfl, s8 _ _ va, vb, sz (by simp only [List.length_take, List.length_cons, List.length_nil]; omega), fun lc nc => ?_⟩
        have s9 : Same Hx (upd Hx lc (.lst (us.take i0 ++ [fv]))) := same_new nc
        have vc : (upd Hx lc (.lst (us.take i0 ++ [fv]))) lc = some (.lst (us.take i0 ++ [fv])) := upd_same
        generalize upd Hx lc (.lst (us.take i0 ++ [fv])) = Hy at s9 vc
        refine ⟨_, rfl, _, rfl, _, rfl, ?_⟩
        dsimp only [tNoPart]
        have s69 := (s7.trans s8).trans s9
        refine ⟨l, us, rfl, SqL.of (s69 _ _ vl6), fun ld nd' => ?_⟩
        rw [cutV_from (by omega)]
        have s10 : Same Hy (upd Hy ld (.lst (us.drop i0))) := same_new nd'
        have vd : (upd Hy ld (.lst (us.drop i0))) ld = some (.lst (us.drop i0)) := upd_same
        generalize upd Hy ld (.lst (us.drop i0)) = Hz at s10 vd
        refine ⟨lc, ld, _, _, rfl, rfl, s10 _ _ vc, vd, sz (by simp only [List.length_append, List.length_take, List.length_drop, List.length_cons, List.length_nil]; omega), fun le ne => ?_⟩
        have s610 := s69.trans s10
        have s11 := same_new (o := .lst (us.take i0 ++ [fv] ++ us.drop i0)) ne
        have G := g6.trans (msk_same s610)
        refine q2 _ _ ⟨le, _, rfl, (hw6.same s610).same s11, lp_new (hw6.ow.same s610) ne ?_, ?_, G.trans (msk_same s11)⟩
        · rw [List.append_assoc]
          exact Paired.app (Paired.tk i0 (hpl5.mono G)) (.cons (hfd5.mono G) (Paired.dr i0 (hpl5.mono G)))
        · simp only [List.length_append, List.length_take, List.length_drop, List.length_cons]
          omega
      · apply dup
        · intro els
          refine ⟨_, rfl, rfl, _, rfl, ?_⟩
          refine ite2 (fun q1 => ?_) (fun q1 => els)
          refine ⟨_, rfl, _, rfl, l, us, rfl, .inl (SqL.of vl5), _, _, rfl, rfl, _, rfl, ?_⟩
          refine ite2 (fun q3 => ?_) (fun q1 => els)
          have hlt : i0 < ps.length := by
            have := of_decide_eq_true q3
            omega
          obtain ⟨d, hd⟩ : ∃ d, ps[i0]? = some d := ⟨_, List.getElem?_eq_getElem hlt⟩
          obtain ⟨dx, _, _, _, es, _⟩ := id hw5.sh.ex
          refine ⟨_, rfl, sa, dx, _, rfl, es, rfl, _, rfl, sa, i0, S4 b gl sa e, wd, tl, ps, d, past, rfl, hw5.ow, hw5.sh, hd, by omega, by omega, fun ta H6 f6 hta sh6 => ?_⟩
          obtain ⟨hw6, g6⟩ := hw5.fr f6 sh6
          have vl6 := msk_le _ _ (g6 _ _ vm5)
          refine ⟨_, rfl, l, us, ps, rfl, SqL.of vl6, (hpl5.mono g6).mono msk_le, by omega, fun p2 H7 s7 hp2 => ?_⟩
          obtain ⟨_, dp2, pa2, vs2, z2, e0, ep2, hpa2, hvs2, _⟩ := id hp2
          cases e0
          obtain ⟨y, hy, hyd⟩ := Paired.get1 hvs2 hd
          obtain ⟨ya, dya, _, _, rfl, ey, _⟩ := id hyd
          have hta7 := (hta.mono msk_le).mono s7
          obtain ⟨_, dta, _, _, e9, eta, _⟩ := id hta7
          cases e9
          refine ⟨p2, _, dp2, _, _, rfl, ep2, T.c_Program, T.n_Program_pieces, rfl, _, rfl, pa2, vs2, i0, _, rfl, rfl, hpa2, atI_nat hy, ?_⟩
          refine ⟨ta, ya, dta, _, dya, _, rfl, rfl, eta, ey, ta, ya, d, d, rfl, hta7, hyd, fun H8 s8 => ⟨_, rfl, _, rfl, ?_⟩⟩
          rw [decide_eq_true (rfl : d = d)]
          refine iteF ?_
          have s68 := s7.trans s8
          refine ⟨_, rfl, ?_⟩
          dsimp only [tNoPart]
          refine ⟨_, rfl, _, rfl, l, us, rfl, SqL.of (s68 _ _ vl6), fun la na => ?_⟩
          rw [cutV_to (by omega)]
          have s9 : Same H8 (upd H8 la (.lst (us.take i0))) := same_new na
          have va : (upd H8 la (.lst (us.take i0))) la = some (.lst (us.take i0)) := upd_same
          generalize upd H8 la (.lst (us.take i0)) = Hx at s9 va
          refine ⟨_, rfl, _, rfl, _, _, rfl, rfl, _, rfl, ?_⟩
          dsimp only [tNoPart]
          have s69 := s68.trans s9
          refine ⟨l, us, rfl, SqL.of (s69 _ _ vl6), fun ld nd' => ?_⟩
          have ej : (i0 : Int) + 1 = ((i0 + 1 : Nat) : Int) := by omega
          rw [ej, cutV_from (by omega)]
          have s10 : Same Hx (upd Hx ld (.lst (us.drop (i0 + 1)))) := same_new nd'
          have vd : (upd Hx ld (.lst (us.drop (i0 + 1)))) ld = some (.lst (us.drop (i0 + 1))) := upd_same
          generalize upd Hx ld (.lst (us.drop (i0 + 1))) = Hy at s10 vd
          refine ⟨la, ld, _, _, rfl, rfl, s10 _ _ va, vd, sz (by simp only [List.length_append, List.length_take, List.length_drop]; omega), fun le ne => ?_⟩
          have s610 := s69.trans s10
          have s11 := same_new (o := .lst (us.take i0 ++ us.drop (i0 + 1))) ne
          have G := g6.trans (msk_same s610)
          refine q2 _ _ ⟨le, _, rfl, (hw6.same s610).same s11, lp_new (hw6.ow.same s610) ne (Paired.app (Paired.tk i0 (hpl5.mono G)) (Paired.dr (i0 + 1) (hpl5.mono G))), ?_, G.trans (msk_same s11)⟩
          simp only [List.length_append, List.length_take, List.length_drop]
          omega
        · refine iteF ?_
          apply dup
          · intro els
            refine ⟨_, rfl, rfl, _, rfl, ?_⟩
            refine ite2 (fun q1 => ?_) (fun q1 => els)
            refine ⟨_, rfl, _, rfl, l, us, rfl, .inl (SqL.of vl5), _, _, rfl, rfl, _, rfl, ?_⟩
            refine ite2 (fun q3 => ?_) (fun q1 => els)
            have hlt : i0 < ps.length := by
              have := of_decide_eq_true q3
              omega
            obtain ⟨dx, _, _, _, es, _⟩ := id hw5.sh.ex
            refine ⟨_, rfl, sa, dx, _, rfl, es, rfl, _, rfl, _, rfl, sa, a, i0, S4 b gl sa e, wd, tl, ps, fd, past, rfl, hw5.ow, hw5.sh, ha5, hlt, by omega, by omega, fun H6 f6 sh6 => ?_⟩
            obtain ⟨hw6, g6⟩ := hw5.fr f6 sh6
            have vl6 := msk_le _ _ (g6 _ _ vm5)
            refine ⟨_, rfl, ?_⟩
            dsimp only [tNoPart]
            refine ⟨_, rfl, _, rfl, l, us, rfl, SqL.of vl6, fun la na => ?_⟩
            rw [cutV_to (by omega)]
            have s7 : Same H6 (upd H6 la (.lst (us.take i0))) := same_new na
            have va : (upd H6 la (.lst (us.take i0))) la = some (.lst (us.take i0)) := upd_same
            generalize upd H6 la (.lst (us.take i0)) = H7 at s7 va
            refine ⟨_, rfl, sz (by simp), fun lb nb2 => ?_⟩
            have s8 : Same H7 (upd H7 lb (.lst [fv])) := same_new nb2
            have vb : (upd H7 lb (.lst [fv])) lb = some (.lst [fv]) := upd_same
            generalize upd H7 lb (.lst [fv]) = Hx at s8 vb
            refine ⟨la, lb, _, _, rfl, rfl, s8 _ _ va, vb, sz (by simp only [List.length_take, List.length_cons, List.length_nil]; omega), fun lc nc => ?_⟩
            have s9 : Same Hx (upd Hx lc (.lst (us.take i0 ++ [fv]))) := same_new nc
            have vc : (upd Hx lc (.lst (us.take i0 ++ [fv]))) lc = some (.lst (us.take i0 ++ [fv])) := upd_same
            generalize upd Hx lc (.lst (us.take i0 ++ [fv])) = Hy at s9 vc
            refine ⟨_, rfl, _, rfl, _, _, rfl, rfl, _, rfl, ?_⟩
            dsimp only [tNoPart]
            have s69 := (s7.trans s8).trans s9
            refine ⟨l, us, rfl, SqL.of (s69 _ _ vl6), fun ld nd' => ?_⟩
            have ej : (i0 : Int) + 1 = ((i0 + 1 : Nat) : Int) := by omega
            rw [ej, cutV_from (by omega)]
            have s10 : Same Hy (upd Hy ld (.lst (us.drop (i0 + 1)))) := same_new nd'
            have vd : (upd Hy ld (.lst (us.drop (i0 + 1)))) ld = some (.lst (us.drop (i0 + 1))) := upd_same
            generalize upd Hy ld (.lst (us.drop (i0 + 1))) = Hz at s10 vd
            refine ⟨lc, ld, _, _, rfl, rfl, s10 _ _ vc, vd, sz (by simp only [List.length_append, List.length_take, List.length_drop, List.length_cons, List.length_nil]; omega), fun le ne => ?_⟩
            have s610 := s69.trans s10
            have s11 := same_new (o := .lst (us.take i0 ++ [fv] ++ us.drop (i0 + 1))) ne
            have G := g6.trans (msk_same s610)
            refine q2 _ _ ⟨le, _, rfl, (hw6.same s610).same s11, lp_new (hw6.ow.same s610) ne ?_, ?_, G.trans (msk_same s11)⟩
            · rw [List.append_assoc]
              exact Paired.app (Paired.tk i0 (hpl5.mono G)) (.cons (hfd5.mono G) (Paired.dr (i0 + 1) (hpl5.mono G)))
            · simp only [List.length_append, List.length_take, List.length_drop, List.length_cons]
              omega
          · refine iteF ?_
            refine ⟨_, rfl, _, rfl, _, rfl, tv, wd, l, tl, us, ps, rfl, ht5.mono msk_le, SqL.of vl5, hpl5.mono msk_le, by omega, fun f ws H6 s6 nf vf hws => ?_⟩
            have hw6 := hw5.same s6
            have Sf := hw5.ow.not nf
            have hf6 : LpAt K (msk (S4 b gl sa e) H6) (.ref f) (runD tl wd ps) := ⟨f, ws, rfl, by rw [msk_at Sf]; exact vf, hw6.ow.pts hws⟩
            obtain ⟨dx, _, _, _, es, _⟩ := id hw6.sh.ex
            refine ⟨_, rfl, sa, dx, _, rfl, es, rfl, sa, S4 b gl sa e, wd, tl, ps, past, rfl, hw6.ow, hw6.sh, by omega, fun H7 f7 sh7 => ?_⟩
            obtain ⟨hw7, g7⟩ := hw6.fr f7 sh7
            have g57 := (msk_same (S := S4 b gl sa e) s6).trans g7
            refine ⟨_, rfl, _, rfl, _, rfl, nePs ((hf6.mono g7).mono msk_le) ((hl5.mono g57).mono msk_le) ⟨_, rfl, rfl, ?_⟩⟩
            refine ⟨_, rfl, ite2 (fun z => ?_) (fun _ => ?_)⟩
            · simp at z
            have lr := runD_len tl wd ps
            exact q2 _ _ ⟨f, _, rfl, hw7, hf6.mono g7, by omega, g57⟩
      rintro σ H6 ⟨l', ps', rfl, hw6, hl6, lps6, g6⟩
      refine ⟨_, rfl, .inl ⟨rfl, _, SqL.of hw6.ev⟩, _, rfl, e, evs, _, rfl, rfl, hw6.ev, szl (by omega), ?_⟩
      obtain ⟨hw7, g7⟩ := hw6.el (ys := evs ++ [.ref l])
      generalize upd H6 e (.lst (evs ++ [.ref l])) = H7 at hw7 g7
      have g57 := g6.trans g7
      have hl7 := hl6.mono g7
      obtain ⟨dx, _, _, _, es, _⟩ := id hw7.sh.ex
      refine ⟨_, rfl, sa, dx, _, rfl, es, sa, S4 b gl sa e, wd, tl, ps', _, rfl, hw7.sh, fun p hp => ⟨p, ps', rfl, hp.mono msk_le, fun f ws H8 s8 nf vf hws => ?_⟩⟩
      refine ⟨_, rfl, nePs ⟨f, ws, rfl, vf, hws⟩ ((hl7.mono msk_le).mono s8) ⟨_, rfl, ?_⟩⟩
      refine ite2 (fun z => ?_) (fun _ => ?_)
      · simp at z
      have hw8 := hw7.same s8
      have es8 := s8 _ _ es
      refine ⟨_, rfl, sa, dx, _, rfl, es8, sa, S4 b gl sa e, wd, tl, ps', _, rfl, hw8.sh, _, rfl, by simp only [List.length_append, List.length_cons, List.length_nil]; omega, _, rfl, e, _, rfl, .inl (SqL.of hw8.ev), rfl, _, rfl, ?_⟩
      have el8 : (past ++ [ps]).length = (evs ++ [V.ref l]).length := by simp only [List.length_append, List.length_cons, List.length_nil]; omega
      rw [el8]
      refine ite2 (fun z => ?_) (fun _ => ?_)
      · simp at z
      refine ⟨_, rfl, sa, _, dx, _, _, rfl, es8, T.c_Sheet, T.n_Sheet_width, rfl, _, rfl, rfl, _, rfl, ?_⟩
      refine ite2 (fun z => ?_) (fun _ => ?_)
      · simp at z
      have g58 := g57.trans (msk_same s8)
      refine ⟨past ++ [ps], by simp only [List.length_append, List.length_cons, List.length_nil]; omega, _, l', _, _, _, _, _, ps', evs ++ [.ref l], rfl, hw8, hl7.mono (msk_same s8), Paired.app (pairedM (fun _ _ z => z.mono g58) hes5) (.cons (hl5.mono g58) .nil), ht5.mono g58, by omega, g05.trans g58⟩
    · rintro σ H9 ⟨past, lp, v5, l, v9, v10, v11, v12, v13, ps, evs, rfl, hw, hl, hes, ht, hlen, g0⟩
      have levs : evs.length = past.length := Paired.lenE hes
      obtain ⟨dx, _, _, _, es, _⟩ := id hw.sh.ex
      refine ⟨_, rfl, sa, dx, _, rfl, es, rfl, sa, S4 b gl sa e, wd, tl, ps, past, rfl, hw.ow, hw.sh, by omega, by omega, fun vw H1 f1 sh1 dw => ?_⟩
      obtain ⟨hw1, g1⟩ := hw.fr f1 sh1
      obtain ⟨_, us, e1, vl, hpl⟩ := hl.mono g1
      cases e1
      refine ⟨_, rfl, _, rfl, _, rfl, tv, wd, l, tl, us, ps, rfl, (ht.mono g1).mono msk_le, SqL.of (msk_le _ _ vl), hpl.mono msk_le, by omega, fun f ws H2 s2 nf vf hws => ?_⟩
      refine ⟨_, rfl, e, evs, rfl, .inl (SqL.of (hw1.same s2).ev), _, _, rfl, rfl, sz (by simp), fun q nq => ?_⟩
      rw [levs]
      have s3 : Same H2 (upd H2 q (.lst [.ref f, .int ((past.length : Int) + 2)])) := same_new nq
      have vq : (upd H2 q (.lst [.ref f, .int ((past.length : Int) + 2)])) q = some (.lst [.ref f, .int ((past.length : Int) + 2)]) := upd_same
      generalize upd H2 q (.lst [.ref f, .int ((past.length : Int) + 2)]) = H3 at s3 vq
      have s13 := s2.trans s3
      have fw := (fine_wn (n := (past.length : Int) + 2) hws.oks).shaped (by decide)
      refine ⟨wnData (runD tl wd ps) ((past.length : Int) + 2), wnData (runD tl wd ps) ((past.length : Int) + 2), Dp.up (msk_le.trans s13) dw, .lst (SqL.of vq) (.cons (dp_pts (SqL.of (s3 _ _ vf)) (PtAll.mono s3 hws)) (.cons (.int _) .nil)), fw, fw, ?_⟩
      rw [eqv_wn]
      refine ⟨_, rfl, iteF ?_⟩
      have hw3 := hw1.same s13
      have g13 := g1.trans (msk_same s13)
      refine wh (fun m σ H' => ∃ past N, m = past.length ∧ LwI K sc b gl sa e (.int (0 + (j : Int))) tv wd tl H8 N past σ H') (fun σ H' => ∃ N, LwI K sc b gl sa e (.int (0 + (j : Int))) tv wd tl H8 N [] σ H') past.length ⟨past, _, rfl, _, l, _, _, _, _, _, ps, evs, rfl, hw3, hl.mono g13, pairedM (fun _ _ z => z.mono g13) hes, ht.mono g13, Nat.le_refl _, g0.trans g13⟩ ?_ ?_
      · rintro σ H1 ⟨N, v5, l, v9, v10, v11, v12, v13, ps, evs, rfl, hw, hl, hes, ht, hlen, g0⟩
        obtain ⟨dx, _, _, _, es, _⟩ := id hw.sh.ex
        refine ⟨_, rfl, sa, dx, _, rfl, es, sa, S4 b gl sa e, wd, tl, ps, _, rfl, hw.sh, fun p hp => ⟨p, ps, rfl, hp.mono msk_le, fun f ws H2 s2 nf vf hws => ?_⟩⟩
        refine ⟨_, rfl, nePs ⟨f, ws, rfl, vf, hws⟩ ((hl.mono msk_le).mono s2) ⟨_, rfl, ?_⟩⟩
        refine ite2 (fun z => ?_) (fun _ => ?_)
        · simp at z
        have hw2 := hw.same s2
        have es2 := s2 _ _ es
        refine ⟨_, rfl, sa, dx, _, rfl, es2, rfl, sa, S4 b gl sa e, wd, tl, ps, [], rfl, hw2.ow, hw2.sh, fun _ => ?_, fun pre qs z => by cases pre <;> cases z⟩
        refine ⟨false, false, rfl, rfl, _, rfl, ?_⟩
        refine ite2 (fun z => ?_) (fun _ => ?_)
        · simp at z
        refine ⟨_, rfl, sa, dx, _, rfl, es2, sa, S4 b gl sa e, wd, tl, ps, [], rfl, hw2.sh, fun t htl => ?_⟩
        obtain ⟨_, dt, _, _, e0, et, _⟩ := id htl
        cases e0
        refine ⟨t, dt, _, rfl, msk_le _ _ et, t, tl, rfl, htl.mono msk_le, fun H3 s3 => ⟨_, rfl, ?_⟩⟩
        refine ⟨_, rfl, tv, tl, rfl, (ht.mono msk_le).mono (s2.trans s3), fun H4 s4 => ⟨rfl, _, rfl, ?_⟩⟩
        refine ite2 (fun z => ?_) (fun _ => ?_)
        · simp at z
        exact ⟨_, _, _, _, _, _, _, _, _, _, _, _, _, rfl, s0.trans (s4_same m8 nb ng nsa0 ne0' (g0.trans (msk_same ((s2.trans s3).trans s4))))⟩
      · rintro D hB m σ H1 ⟨past, N, rfl, v5, l, v9, v10, v11, v12, v13, ps, evs, rfl, hw, hl, hes, ht, hlen, g0⟩
        refine ⟨_, rfl, sz (by simp), fun q nq => ?_⟩
        refine ne0 (n := 4) (ds := past.map pcsData) (.lst (SqL.of hw.ev) (DpAll.up msk_le (lps_dp hes))) (fine_list (lps_fine hes)) (by decide) nq ⟨_, rfl, ?_⟩
        have s2 : Same H1 (upd H1 q (.lst [])) := same_new nq
        generalize upd H1 q (.lst []) = H2 at s2
        have hw2 := hw.same s2
        have g2 := msk_same (S := S4 b gl sa e) s2
        refine ite2 (fun q1 => ?_) (fun q1 => ?_)
        · rcases List.eq_nil_or_concat past with z | ⟨pre, qs, z⟩
          · subst z
            simp at q1
          rw [List.concat_eq_append] at z
          subst z
          obtain ⟨ini, x, rfl, hini, hx⟩ := paired_snoc hes
          have lini := Paired.lenE hini
          refine ⟨fun σ' H' => ∃ N, LwI K sc b gl sa e (.int (0 + (j : Int))) tv wd tl H8 N pre σ' H', fun σ' H' ⟨N, w⟩ => ⟨pre.length, by simp, pre, N, rfl, w⟩, ?_⟩
          obtain ⟨dx, _, _, _, es, _⟩ := id hw2.sh.ex
          refine ⟨_, rfl, sa, dx, _, rfl, es, sa, S4 b gl sa e, wd, tl, ps, _, rfl, hw2.sh, fun p hp => ⟨p, ps, rfl, hp.mono msk_le, fun f ws H3 s3 nf vf hws => ?_⟩⟩
          refine ⟨_, rfl, nePs ⟨f, ws, rfl, vf, hws⟩ ((hl.mono msk_le).mono (s2.trans s3)) ⟨_, rfl, ?_⟩⟩
          refine ite2 (fun z => ?_) (fun _ => ?_)
          · simp at z
          have hw3 := hw2.same s3
          have es3 := s3 _ _ es
          have h60 := hw3.sh.few
          refine ⟨_, rfl, sa, dx, _, rfl, es3, sa, S4 b gl sa e, wd, tl, ps, _, rfl, hw3.sh, _, rfl, by omega, _, rfl, e, _, rfl, .inl (SqL.of hw3.ev), rfl, _, rfl, ?_⟩
          have el8 : (pre ++ [qs]).length = (ini ++ [x]).length := by simp only [List.length_append, List.length_cons, List.length_nil]; omega
          rw [el8]
          refine ite2 (fun z => ?_) (fun _ => ?_)
          · simp at z
          refine ⟨_, rfl, sa, dx, _, rfl, es3, rfl, sa, S4 b gl sa e, wd, tl, ps, pre ++ [qs], rfl, hw3.ow, hw3.sh, fun z => absurd z (by simp), fun pre2 qs2 z H4 f4 sh4 => ?_⟩
          obtain ⟨z1, z2⟩ := List.append_inj' z rfl
          cases z2
          subst z1
          refine ⟨true, true, rfl, rfl, _, rfl, ?_⟩
          refine ite2 (fun z => ?_) (fun _ => ?_)
          · simp at z
          obtain ⟨hw4, g4⟩ := hw3.fr f4 sh4
          refine ⟨_, rfl, .inl ⟨rfl, _, SqL.of hw4.ev⟩, e, _, x, rfl, rfl, hw4.ev, by simp, ?_⟩
          rw [List.dropLast_concat]
          obtain ⟨hw5, g5⟩ := hw4.el (ys := ini)
          have g15 := ((g2.trans (msk_same s3)).trans g4).trans g5
          obtain ⟨l2, us2, rfl, vl2, hpl2⟩ := hx.mono g15
          exact ⟨_, _, l2, _, _, _, _, _, qs, ini, rfl, hw5, ⟨l2, us2, rfl, vl2, hpl2⟩, pairedM (fun _ _ z => z.mono g15) hini, ht.mono g15, Nat.le_refl _, g0.trans g15⟩
        · have e0 : past = [] := by simpa using q1
          subst e0
          exact hB _ _ ⟨N, _, l, _, _, _, _, _, ps, evs, rfl, hw2, hl.mono g2, pairedM (fun _ _ z => z.mono g2) hes, ht.mono g2, hlen, g0.trans g2⟩
  · rintro σ H1 ⟨v1, v2, v3, v4, v5, v6, v7, v8, v9, v10, v11, v12, v13, rfl, s0⟩
    exact k _
end
end Lt
set_option Elab.async false
set_option linter.all false
set_option maxRecDepth 100000
set_option maxHeartbeats 0
/-! the end -/
namespace Lt
open PySem PySem.Spec PyProof.Rows L2
theorem bindLaw {K : Fg} {fd : FuncData} (F : FnD K d_law fd) : ∀ (s : Shared) (v : Value), BindsTo s fd ⟨[v], []⟩ [("_law_script", v)] := fun s v =>
  FunD.bindsA (ps := ["_law_script"]) F (fun _ _ _ _ _ _ us hl => match us, hl with | [_], _ => rfl) s [v] rfl
theorem facts {P : Program} {w : World} {K : Fg} {h : Heap} {mg : Str → Option Value} {f : Addr} (X : K.In h) (G : h.Ns mainGlobals mg) (hfa : mg ("law" : Str) = some (.ref f)) (c : SaysM fa fn K) :
    ∃ fd : FuncData, (∀ (s : Shared) (v : Value), BindsTo s fd ⟨[v], []⟩ [("_law_script", v)]) ∧ ∀ base : Heap, K.In base → base.Ns mainGlobals mg → FnOk P w K mg base CX0 17 f fd ["_law_script"] (sp_law K) := by
  have T : Txt K mg := ⟨⟨h, X, G⟩, c⟩
  obtain ⟨fd, F⟩ := T.d_law
  have e := hfa.symm.trans T.g_law
  cases e
  exact ⟨fd, bindLaw F, fun base _ _ => mkFn F sc_law (fun vs H Q E h => len_law h) (body_law T)⟩
end Lt
open PySem PySem.W PySem.Calls PyProof.Rows
theorem PySem.Challenge.cw_laytwice_k79_whole_sheets_and_runs_holds : PySem.Challenge.rw_laytwice_k79_whole_sheets_and_runs.Holds := by
  w_on; o_law
  refine HandSHeadRun.head_any (r := OpenLaw.row PySem.Challenge.rw_laytwice_k79_whole_sheets_and_runs) (q := view (OpenLaw.row PySem.Challenge.rw_laytwice_k79_whole_sheets_and_runs).prog [78]) (H := Lt.hk) (ob := Lt.ob) (M := 30000) (loose := Lt.loose) (d := HandSHeadRun.topDef (OpenLaw.row PySem.Challenge.rw_laytwice_k79_whole_sheets_and_runs).prog 78) (kwd := []) Lt.ob_eq
    (by kernel_rfl) (fun s => by kernel_rfl) Lt.run (by kernel_rfl) (by kernel_rfl) (by kernel_rfl) (by rfl) (by first | assumption | decide +kernel) (by decide +kernel) ⟨rfl, rfl, rfl, rfl, rfl, by decide +kernel⟩ ?hw ?hc
  case hw => w_witness2
  case hc =>
    refine L2.walk_ofE (l := PySem.Challenge.rw_laytwice_k79_whole_sheets_and_runs) (n := 63) (k := 17) (x := "_law_script") (CX := L2.CX0) rfl (by decide) (by kernel_rfl) ⟨rfl, by decide, by decide⟩ ?F (fun _ _ _ _ z => z)
    intro w mg fa h Y G hmg0
    obtain ⟨K, KX, c⟩ := Y
    have hmg : mg ("law" : PySem.Str) = some (.ref fa) := by
      have e : (HandSHeadRun.topDef (OpenLaw.row PySem.Challenge.rw_laytwice_k79_whole_sheets_and_runs).prog 78).name = ("law" : PySem.Str) := by kernel_rfl
      rw [← e]
      exact hmg0
    obtain ⟨fd, hb, hF⟩ := Lt.facts (P := (PySem.Challenge.rw_laytwice_k79_whole_sheets_and_runs).prog) (w := w) KX G hmg c
    exact ⟨K, fd, Lt.sp_law K, KX, hb, fun H a ns hl _ hS => ⟨a, ns, rfl, hS, hl, fun _ => rfl⟩, hF⟩
