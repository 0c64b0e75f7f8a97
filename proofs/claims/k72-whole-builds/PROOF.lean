import PyProof.Rows.All
import Wide.All
import OpenK.AllK
import Wide.FinOn
import HandS.Words
import HandS.Codes
import KE.KSuper
import HandS.Base
import HandS.Exc
import HandS.ExcField
import HandS.Head0
import HandS.Head1
import HandS.Head2
import HandS.HeadHook1
import HandS.HeadHook2
import HandS.HeadHook3
import HandS.HeadHook4
import PySem.Str
import HandS.ForMost
import HandS.Walk
import HandS.AnyAll
import HandS.Flow
import HandS.TupLe
import HandS.TupMul
import HandS.StrMore
import KE.GoesMore
import KE.GoesEnum
import HandS.SetKeys
import HandS.TryOnly
import HandS.IsInst
import HandS.More
import KE.DataEq
import HandS.Text
import HandS.Conv
import HandS.Steps
import HandS.ExcInit
import HandS.ExcInitHot
import HandS.Nested
import KE.KExcSuper
import HandS.FStr
import HandS.Comp
import HandS.ExcCtx
import HandS.RaiseFrom
import KE.GoesComp
import KE.GoesCell
import KE.GoesRaise
import HandS.SuiteRaise
import KE.KExcNote
import PyProof.RulesAs
import HandS.WordsExc
import HandS.HeadWalk
import HandS.ExcOwn
import PySem.Challenge.RW_weft_k72_whole_builds_come_back
set_option Elab.async false
set_option linter.all false
set_option maxRecDepth 100000
set_option maxHeartbeats 4000000
/-! The program's statements, by places. -/
namespace Wf
open PySem L2
def topS (i : Nat) : Stmt := PySem.Challenge.pw_weft_k72_whole_builds_come_back.main.body.getD i (.Pass ⟨0, 0, 0, 0⟩)
def initOf (i : Nat) : Stmt := (C8.clsBody (topS i)).getD 0 (.Pass ⟨0, 0, 0, 0⟩)
def mthOf (i j : Nat) : Stmt := (C8.clsBody (topS i)).getD j (.Pass ⟨0, 0, 0, 0⟩)
abbrev s_U : Stmt := initOf 6
abbrev s_B : Stmt := initOf 7
abbrev s_ainit : Stmt := mthOf 43 0
abbrev s_add : Stmt := mthOf 43 1
end Wf
/-! What the program's top has left: a Hook of my own. -/
namespace Wf
open PySem PySem.Spec PyProof.Rows L2 He
/-- what is looked at: the module's names, their code, cells, class dicts, the methods there -/
def refsW (o : Obj) : List Addr := match o.data with
  | .dict es _ => es.toList.flatMap fun e => refV e.val
  | .func fd => refV fd.code ++ fd.closure.map (·.2)
  | .cls cd => cd.ns :: cd.mro.flatMap refV
  | _ => []
def stepW (g : Addr → Option Obj) (as : List Addr) : List Addr := as.flatMap fun a => match g a with
  | some o => refsW o
  | none => []
/-- in n steps -/
def goW (g : Addr → Option Obj) : Nat → List Addr → List Addr
  | 0, as => as
  | n + 1, as => as ++ goW g n (stepW g as)
def asW (g : Addr → Option Obj) (n : Nat) : List Addr := cStatics :: goW g n [mainGlobals]
/-- a class's __init__ that says super(): all but its closure -/
abbrev FnS : Type := Option (Str × Str × Arguments × FuncBody × Scope × Addr × Addr)
structure SupD where
  cls : Str
  qual : Str
  params : Arguments
  body : List Stmt
  scope : Scope
abbrev SupD.at_ (d : SupD) : Str × Option Str := (d.cls, some "__init__")
def fnS (K : PySem.W.Frag) (p : Str × Option Str) : FnS := match K.lookup (fAd K p) with
  | some ⟨_, _, .func fd, _⟩ => some (fd.name, fd.qualname, fd.params, fd.body, fd.scope, fd.globals, fd.builtins)
  | _ => none
def SupD.val (d : SupD) : FnS := some (("__init__" : Str), d.qual, d.params, FuncBody.stmts d.body, d.scope, mainGlobals, builtinsNs)
def cellB (K : PySem.W.Frag) (cc C : Addr) : Bool := match K.lookup cc with
  | some ⟨_, _, .cell (some (.ref D)), _⟩ => decide (D = C)
  | _ => false
def fileB (K : PySem.W.Frag) (cda : Addr) (file : Str) : Bool := match K.lookup cda with
  | some ⟨_, _, .fields vs, _⟩ => (match (vs[2]? : Option Value) with
    | some (.str x _) => decide (x = file)
    | _ => false)
  | _ => false
/-- an own class over ValueError -/
def oexB (K : PySem.W.Frag) (C : Addr) : Bool := (match K.lookup C with
  | some ⟨.type t, _, .cls cd, sl⟩ => (match cd.mro, sl.toList with
    | .ref D :: bm, [_, _, _, _, some (.builtin n), _] => decide (t = "type") && (decide (D = C) && (decide (n = "ValueError.__new__") && (!cd.hasDel && (cd.hasDict && PySem.HandSPX.refsVE bm))))
    | _, _ => false)
  | _ => false) && (eqO (PySem.W.findIn K (.ref C) "__setattr__") (some (some (.builtin "object.__setattr__"))) && (decide (PySem.W.subIn K (.ref C) (.type "BaseException") = some true) && (decide (PySem.W.typeIn K (.ref C) = some (.type "type")) && PySem.W.keepIn K (.ref C))))
def supB1 (K : PySem.W.Frag) (d : SupD) (file : Str) : Bool := match K.lookup (fAd K d.at_) with
  | some ⟨_, _, .func fd, _⟩ => (match fd.defaults, fd.closure, fd.code with
    | .none, [(n, cc)], .ref cda => decide (n = "__class__") && (cellB K cc (ga K d.cls) && (fileB K cda file && PySem.W.codeIn K (.ref cda) d.qual))
    | _, _, _ => false)
  | _ => false
def supB (K : PySem.W.Frag) (d : SupD) (file : Str) : Bool := oexB K (ga K d.cls) && (xfB K (ga K d.cls) && (eqO (PySem.W.findIn K (.ref (ga K d.cls)) "__init__") (some (some (.ref (fAd K d.at_)))) && (decide (PySem.W.typeIn K (.ref (fAd K d.at_)) = some (.type "function")) &&
  (decide (PySem.W.mroIn K (ga K d.cls) (.ref (ga K d.cls)) = some true) && (eqO (PySem.W.ks_superIn K (ga K d.cls) (ga K d.cls) "__init__") (some (some (.builtin "ValueError.__init__"))) && (decide (PySem.W.subIn K (.ref (ga K d.cls)) (.type "ValueError") = some true) && (eqO (PySem.W.nsIn K cStatics "thirdparty.any") (some none) && supB1 K d file)))))))
/-! ### the Hook -/
structure SaysW (fa : List Fa) (fn : List DefD) (su : List SupD) (tf : List Defn) (file : Str) (h : Heap) (K : PySem.W.Frag) : Prop where
  d : SaysD fa fn K
  sq : su.map (fun d => fnS K d.at_) = su.map SupD.val
  sb : ∀ d ∈ su, supB K d file = true
  keep : tupB K "KEEP" [.str "keep"] = true
  hd : ∀ p ∈ tf, PySem.W.codeHdIn K (cT K p).1 (cT K p).2 = true
  out : ∀ p ∈ tf, K.lookup (cT K p).2 = none
  empty : ∀ p ∈ tf, h.get? (cT K p).2 = some { cls := .none, data := .fields #[] }
abbrev AlW : Type := AlD × (List FnS × Bool)
def obsWK (fa : List Fa) (fn : List DefD) (su : List SupD) (tf : List Defn) (file : Str) (g : Addr → Option Obj) (K : PySem.W.Frag) : AlW := (obsD fa fn K, su.map fun d => fnS K d.at_, (su.all fun d => supB K d file) && (tupB K "KEEP" [.str "keep"] && tabsB g tf K))
def obsW (n : Nat) (fa : List Fa) (fn : List DefD) (su : List SupD) (tf : List Defn) (file : Str) (g : Addr → Option Obj) : AlW := obsWK fa fn su tf file g (frT g (asW g n))
def valW (fn : List DefD) (su : List SupD) : AlW := (He.valD fn, su.map SupD.val, true)
theorem saysW_of {n : Nat} {fa : List Fa} {fn : List DefD} {su : List SupD} {tf : List Defn} {file : Str} {h : Heap} (e : obsW n fa fn su tf file h.get? = valW fn su) : SaysW fa fn su tf file h (frT h.get? (asW h.get? n)) := by
  unfold obsW at e
  generalize hK : frT h.get? (asW h.get? n) = K at e
  have e1 : obsD fa fn K = He.valD fn := congrArg (fun z : AlW => z.1) e
  have e2 : su.map (fun d => fnS K d.at_) = su.map SupD.val := congrArg (fun z : AlW => z.2.1) e
  have e3 : ((su.all fun d => supB K d file) && (tupB K "KEEP" [.str "keep"] && tabsB h.get? tf K)) = true := congrArg (fun z : AlW => z.2.2) e
  obtain ⟨h1, h2⟩ := ba e3
  obtain ⟨h3, h4⟩ := ba h2
  have key : ∀ p ∈ tf, PySem.W.codeHdIn K (cT K p).1 (cT K p).2 = true ∧ ∃ o, h.get? (cT K p).2 = some o ∧ emptyTab o = true := fun p hp => by
    obtain ⟨g3, g4⟩ := ba (List.all_eq_true.mp h4 p hp)
    refine ⟨g3, ?_⟩
    cases q : h.get? (cT K p).2 with
    | none =>
      rw [q] at g4
      cases g4
    | some o =>
      rw [q] at g4
      exact ⟨o, rfl, g4⟩
  exact ⟨e1, e2, List.all_eq_true.mp h1, h3, fun p hp => (key p hp).1, fun p hp => by
    obtain ⟨_, o, q, z⟩ := key p hp
    rw [← hK] at q ⊢
    exact frT_none q z, fun p hp => by
    obtain ⟨_, o, q, z⟩ := key p hp
    rw [q, emptyTab_eq z]⟩
def hookW (n : Nat) (fa : List Fa) (fn : List DefD) (su : List SupD) (tf : List Defn) (file : Str) : PySem.W.Hook where
  α := AlW
  obs := fun s => obsW n fa fn su tf file s.heap.get?
  val := fun _ => valW fn su
  says := fun _ h => ∃ K : PySem.W.Frag, K.In h ∧ SaysW fa fn su tf file h K
  of := fun _ _ e => ⟨_, frT_in, saysW_of e⟩
  keeps := fun _ _ _ ⟨K, hK, c⟩ k => ⟨K, PySem.W.Frag.In.keeps hK k, ⟨c.d, c.sq, c.sb, c.keep, c.hd, c.out, fun p hp => k _ _ (c.empty p hp)⟩⟩
theorem obsW_eq {n : Nat} {fa : List Fa} {fn : List DefD} {su : List SupD} {tf : List Defn} {file : Str} {g : Addr → Option Obj} {s : Shared} (h : ∀ a, g a = s.heap.get? a) : obsW n fa fn su tf file g = (hookW n fa fn su tf file).obs s := by
  have e : g = s.heap.get? := funext h
  rw [e] <;> rfl
end Wf
set_option maxHeartbeats 0
/-! The top's run in the kernel. -/
namespace Wf
open PySem PySem.Spec PyProof.Rows L2 He
def nm0 : List PySem.Str := ["WeftError", "NoPiece", "Missing", "Ring", "TooLong", "Unfit", "BuildRefused", "KEEP", "is_touched", "NAME_MOST", "NAME_SIGNS", "is_name_sign"]
def nm1 : List PySem.Str := ["is_name", "use_of", "is_code", "sections", "table_of", "ring_from", "closure", "first_lines", "MOST_LINES", "lengths_of", "shown", "tangle"]
def nm2 : List PySem.Str := ["indent_of", "texts_of", "without_indent", "code_edit", "plain_change", "growth", "fates_of", "said_of", "put_lines", "apply", "build", "Agreement"]
def nm3 : List PySem.Str := ["build_fates", "_law_cell", "_law_draws", "_law_big", "_law_text", "_law_line", "_law_document", "_law_table", "_law_walk", "_law_length", "_law_is_small", "_law_put"]
def nm4 : List PySem.Str := ["_law_new_text", "_law_fate", "_law_edit", "_law_is_first", "_law_indent", "_law_broken", "_law_is_name", "_law_is_reference", "_law_fault", "_law_rest", "_law_texts", "_law_back"]
def nm5 : List PySem.Str := ["_law_edited", "_law_new_document", "_law_all_edits", "_law_build_due", "_law_roots"]
def names : List PySem.Str := nm0 ++ (nm1 ++ (nm2 ++ (nm3 ++ (nm4 ++ (nm5)))))
def fa0 : List He.Fa := [.glo "is_touched", .glo "is_name_sign", .glo "is_name", .glo "use_of", .glo "is_code", .glo "sections", .glo "table_of", .glo "closure", .glo "first_lines", .glo "lengths_of", .glo "shown", .glo "tangle"]
def fa1 : List He.Fa := [.glo "indent_of", .glo "texts_of", .glo "without_indent", .glo "code_edit", .glo "plain_change", .glo "growth", .glo "fates_of", .glo "said_of", .glo "put_lines", .glo "apply", .glo "build", .glo "build_fates"]
def fa2 : List He.Fa := [.glo "_law_cell", .glo "_law_draws", .glo "_law_big", .glo "_law_text", .glo "_law_line", .glo "_law_document", .glo "_law_table", .glo "_law_walk", .glo "_law_length", .glo "_law_is_small", .glo "_law_put", .glo "_law_new_text"]
def fa3 : List He.Fa := [.glo "_law_fate", .glo "_law_edit", .glo "_law_is_first", .glo "_law_indent", .glo "_law_broken", .glo "_law_is_name", .glo "_law_is_reference", .glo "_law_fault", .glo "_law_rest", .glo "_law_texts", .glo "_law_back", .glo "_law_edited"]
def fa4 : List He.Fa := [.glo "_law_new_document", .glo "_law_all_edits", .glo "_law_build_due", .glo "_law_roots", .glo "law", .glo "Unfit", .glo "BuildRefused", .glo "Agreement", .glo "KEEP", .free "len", .free "list", .free "tuple"]
def fa5 : List He.Fa := [.free "sum", .free "max", .free "range", .free "enumerate", .free "reversed", .free "sorted", .free "isinstance", .free "all", .free "super", .int "MOST_LINES" 2000, .int "NAME_MOST" 20, .str "NAME_SIGNS" "-_."]
def fa6 : List He.Fa := [.cls "Agreement", .mkr "Agreement", .meth "Agreement" "add_program", .noat "Agreement" "document", .noat "Agreement" "firsts", .noat "Agreement" "known", .noat "Agreement" "said_at", .noat "Unfit" "at", .noat "Unfit" "what", .noat "BuildRefused" "root", .noat "BuildRefused" "at", .noat "BuildRefused" "what"]
def fa7 : List He.Fa := [.noat "BuildRefused" "other_root", .noat "BuildRefused" "other", .exm "Unfit" "Unfit" true, .exm "BuildRefused" "BuildRefused" true]
def fa : List He.Fa := fa0 ++ (fa1 ++ (fa2 ++ (fa3 ++ (fa4 ++ (fa5 ++ (fa6 ++ (fa7)))))))
def dd_is_touched : He.DefD := ⟨("is_touched", none), "is_touched", "is_touched", defArgs (topS 10), defBody (topS 10), defScope (topS 10), [], []⟩
def dd_is_name_sign : He.DefD := ⟨("is_name_sign", none), "is_name_sign", "is_name_sign", defArgs (topS 14), defBody (topS 14), defScope (topS 14), [], []⟩
def dd_is_name : He.DefD := ⟨("is_name", none), "is_name", "is_name", defArgs (topS 15), defBody (topS 15), defScope (topS 15), [], []⟩
def dd_use_of : He.DefD := ⟨("use_of", none), "use_of", "use_of", defArgs (topS 16), defBody (topS 16), defScope (topS 16), [], []⟩
def dd_is_code : He.DefD := ⟨("is_code", none), "is_code", "is_code", defArgs (topS 17), defBody (topS 17), defScope (topS 17), [], []⟩
def dd_sections : He.DefD := ⟨("sections", none), "sections", "sections", defArgs (topS 19), defBody (topS 19), defScope (topS 19), [], []⟩
def dd_table_of : He.DefD := ⟨("table_of", none), "table_of", "table_of", defArgs (topS 20), defBody (topS 20), defScope (topS 20), [], []⟩
def dd_closure : He.DefD := ⟨("closure", none), "closure", "closure", defArgs (topS 22), defBody (topS 22), defScope (topS 22), [], []⟩
def dd_first_lines : He.DefD := ⟨("first_lines", none), "first_lines", "first_lines", defArgs (topS 24), defBody (topS 24), defScope (topS 24), [], []⟩
def dd_lengths_of : He.DefD := ⟨("lengths_of", none), "lengths_of", "lengths_of", defArgs (topS 27), defBody (topS 27), defScope (topS 27), [], []⟩
def dd_shown : He.DefD := ⟨("shown", none), "shown", "shown", defArgs (topS 28), defBody (topS 28), defScope (topS 28), [], []⟩
def dd_tangle : He.DefD := ⟨("tangle", none), "tangle", "tangle", defArgs (topS 29), defBody (topS 29), defScope (topS 29), [], []⟩
def dd_indent_of : He.DefD := ⟨("indent_of", none), "indent_of", "indent_of", defArgs (topS 30), defBody (topS 30), defScope (topS 30), [], []⟩
def dd_texts_of : He.DefD := ⟨("texts_of", none), "texts_of", "texts_of", defArgs (topS 31), defBody (topS 31), defScope (topS 31), [], []⟩
def dd_without_indent : He.DefD := ⟨("without_indent", none), "without_indent", "without_indent", defArgs (topS 33), defBody (topS 33), defScope (topS 33), [], []⟩
def dd_code_edit : He.DefD := ⟨("code_edit", none), "code_edit", "code_edit", defArgs (topS 34), defBody (topS 34), defScope (topS 34), [], []⟩
def dd_plain_change : He.DefD := ⟨("plain_change", none), "plain_change", "plain_change", defArgs (topS 35), defBody (topS 35), defScope (topS 35), [], []⟩
def dd_growth : He.DefD := ⟨("growth", none), "growth", "growth", defArgs (topS 36), defBody (topS 36), defScope (topS 36), [], []⟩
def dd_fates_of : He.DefD := ⟨("fates_of", none), "fates_of", "fates_of", defArgs (topS 37), defBody (topS 37), defScope (topS 37), [], []⟩
def dd_said_of : He.DefD := ⟨("said_of", none), "said_of", "said_of", defArgs (topS 38), defBody (topS 38), defScope (topS 38), [], []⟩
def dd_put_lines : He.DefD := ⟨("put_lines", none), "put_lines", "put_lines", defArgs (topS 39), defBody (topS 39), defScope (topS 39), [], []⟩
def dd_apply : He.DefD := ⟨("apply", none), "apply", "apply", defArgs (topS 40), defBody (topS 40), defScope (topS 40), [], []⟩
def dd_build : He.DefD := ⟨("build", none), "build", "build", defArgs (topS 42), defBody (topS 42), defScope (topS 42), [], []⟩
def dd_build_fates : He.DefD := ⟨("build_fates", none), "build_fates", "build_fates", defArgs (topS 44), defBody (topS 44), defScope (topS 44), [], []⟩
def dd__law_cell : He.DefD := ⟨("_law_cell", none), "_law_cell", "_law_cell", defArgs (topS 46), defBody (topS 46), defScope (topS 46), [], []⟩
def dd__law_draws : He.DefD := ⟨("_law_draws", none), "_law_draws", "_law_draws", defArgs (topS 47), defBody (topS 47), defScope (topS 47), [], []⟩
def dd__law_big : He.DefD := ⟨("_law_big", none), "_law_big", "_law_big", defArgs (topS 48), defBody (topS 48), defScope (topS 48), [], []⟩
def dd__law_text : He.DefD := ⟨("_law_text", none), "_law_text", "_law_text", defArgs (topS 49), defBody (topS 49), defScope (topS 49), [], []⟩
def dd__law_line : He.DefD := ⟨("_law_line", none), "_law_line", "_law_line", defArgs (topS 50), defBody (topS 50), defScope (topS 50), [], []⟩
def dd__law_document : He.DefD := ⟨("_law_document", none), "_law_document", "_law_document", defArgs (topS 51), defBody (topS 51), defScope (topS 51), [], []⟩
def dd__law_table : He.DefD := ⟨("_law_table", none), "_law_table", "_law_table", defArgs (topS 52), defBody (topS 52), defScope (topS 52), [], []⟩
def dd__law_walk : He.DefD := ⟨("_law_walk", none), "_law_walk", "_law_walk", defArgs (topS 53), defBody (topS 53), defScope (topS 53), [], []⟩
def dd__law_length : He.DefD := ⟨("_law_length", none), "_law_length", "_law_length", defArgs (topS 54), defBody (topS 54), defScope (topS 54), [], []⟩
def dd__law_is_small : He.DefD := ⟨("_law_is_small", none), "_law_is_small", "_law_is_small", defArgs (topS 55), defBody (topS 55), defScope (topS 55), [], []⟩
def dd__law_put : He.DefD := ⟨("_law_put", none), "_law_put", "_law_put", defArgs (topS 56), defBody (topS 56), defScope (topS 56), [], []⟩
def dd__law_new_text : He.DefD := ⟨("_law_new_text", none), "_law_new_text", "_law_new_text", defArgs (topS 57), defBody (topS 57), defScope (topS 57), [], []⟩
def dd__law_fate : He.DefD := ⟨("_law_fate", none), "_law_fate", "_law_fate", defArgs (topS 58), defBody (topS 58), defScope (topS 58), [], []⟩
def dd__law_edit : He.DefD := ⟨("_law_edit", none), "_law_edit", "_law_edit", defArgs (topS 59), defBody (topS 59), defScope (topS 59), [], []⟩
def dd__law_is_first : He.DefD := ⟨("_law_is_first", none), "_law_is_first", "_law_is_first", defArgs (topS 60), defBody (topS 60), defScope (topS 60), [], []⟩
def dd__law_indent : He.DefD := ⟨("_law_indent", none), "_law_indent", "_law_indent", defArgs (topS 61), defBody (topS 61), defScope (topS 61), [], []⟩
def dd__law_broken : He.DefD := ⟨("_law_broken", none), "_law_broken", "_law_broken", defArgs (topS 62), defBody (topS 62), defScope (topS 62), [], []⟩
def dd__law_is_name : He.DefD := ⟨("_law_is_name", none), "_law_is_name", "_law_is_name", defArgs (topS 63), defBody (topS 63), defScope (topS 63), [], []⟩
def dd__law_is_reference : He.DefD := ⟨("_law_is_reference", none), "_law_is_reference", "_law_is_reference", defArgs (topS 64), defBody (topS 64), defScope (topS 64), [], []⟩
def dd__law_fault : He.DefD := ⟨("_law_fault", none), "_law_fault", "_law_fault", defArgs (topS 65), defBody (topS 65), defScope (topS 65), [], []⟩
def dd__law_rest : He.DefD := ⟨("_law_rest", none), "_law_rest", "_law_rest", defArgs (topS 66), defBody (topS 66), defScope (topS 66), [], []⟩
def dd__law_texts : He.DefD := ⟨("_law_texts", none), "_law_texts", "_law_texts", defArgs (topS 67), defBody (topS 67), defScope (topS 67), [], []⟩
def dd__law_back : He.DefD := ⟨("_law_back", none), "_law_back", "_law_back", defArgs (topS 68), defBody (topS 68), defScope (topS 68), [], []⟩
def dd__law_edited : He.DefD := ⟨("_law_edited", none), "_law_edited", "_law_edited", defArgs (topS 69), defBody (topS 69), defScope (topS 69), [], []⟩
def dd__law_new_document : He.DefD := ⟨("_law_new_document", none), "_law_new_document", "_law_new_document", defArgs (topS 70), defBody (topS 70), defScope (topS 70), [], []⟩
def dd__law_all_edits : He.DefD := ⟨("_law_all_edits", none), "_law_all_edits", "_law_all_edits", defArgs (topS 71), defBody (topS 71), defScope (topS 71), [], []⟩
def dd__law_build_due : He.DefD := ⟨("_law_build_due", none), "_law_build_due", "_law_build_due", defArgs (topS 72), defBody (topS 72), defScope (topS 72), [], []⟩
def dd__law_roots : He.DefD := ⟨("_law_roots", none), "_law_roots", "_law_roots", defArgs (topS 73), defBody (topS 73), defScope (topS 73), [], []⟩
def dd_law : He.DefD := ⟨("law", none), "law", "law", defArgs (topS 74), defBody (topS 74), defScope (topS 74), [], []⟩
def dd_ainit : He.DefD := ⟨("Agreement", some "__init__"), "__init__", "Agreement.__init__", defArgs s_ainit, defBody s_ainit, defScope s_ainit, [], []⟩
def dd_addp : He.DefD := ⟨("Agreement", some "add_program"), "add_program", "Agreement.add_program", defArgs s_add, defBody s_add, defScope s_add, [], []⟩
def fn0 : List He.DefD := [dd_is_touched, dd_is_name_sign, dd_is_name, dd_use_of, dd_is_code, dd_sections, dd_table_of, dd_closure, dd_first_lines, dd_lengths_of, dd_shown, dd_tangle]
def fn1 : List He.DefD := [dd_indent_of, dd_texts_of, dd_without_indent, dd_code_edit, dd_plain_change, dd_growth, dd_fates_of, dd_said_of, dd_put_lines, dd_apply, dd_build, dd_build_fates]
def fn2 : List He.DefD := [dd__law_cell, dd__law_draws, dd__law_big, dd__law_text, dd__law_line, dd__law_document, dd__law_table, dd__law_walk, dd__law_length, dd__law_is_small, dd__law_put, dd__law_new_text]
def fn3 : List He.DefD := [dd__law_fate, dd__law_edit, dd__law_is_first, dd__law_indent, dd__law_broken, dd__law_is_name, dd__law_is_reference, dd__law_fault, dd__law_rest, dd__law_texts, dd__law_back, dd__law_edited]
def fn4 : List He.DefD := [dd__law_new_document, dd__law_all_edits, dd__law_build_due, dd__law_roots, dd_law, dd_ainit, dd_addp]
def fn : List He.DefD := fn0 ++ (fn1 ++ (fn2 ++ (fn3 ++ (fn4))))
def sd_U : SupD := ⟨"Unfit", "Unfit.__init__", C8.fnArgs s_U, C8.fnBody s_U, C8.fnScope s_U⟩
def sd_B : SupD := ⟨"BuildRefused", "BuildRefused.__init__", C8.fnArgs s_B, C8.fnBody s_B, C8.fnScope s_B⟩
def su : List SupD := [sd_U, sd_B]
def tf : List He.Defn := [("is_name", none)]
abbrev RR : PySem.W.OpenRow := PySem.W.OpenLaw.row PySem.Challenge.rw_weft_k72_whole_builds_come_back
abbrev qv : Program := PySem.W.view RR.prog [74]
abbrev hk : PySem.W.Hook := hookW 4 fa fn su tf RR.prog.main.file
def ob (s : PySem.W.SharedT) : AlW := obsW 4 fa fn su tf RR.prog.main.file (HandSHeadRun.getT s)
theorem ob_eq (s : PySem.W.SharedT) : ob s = hk.obs s.abs := obsW_eq (HandSHeadRun.getT_eq s)
theorem run (w : World) : HandSHeadRun.RunEq RR qv hk ob 8000 names w := by
  intro os
  kernel_rfl
end Wf
set_option maxHeartbeats 4000000
/-! The mathematics of the program: documents, pieces, programs, edits; plain Lean, no program in sight. -/
namespace Wf
open PySem

inductive Ln where
  | head (n : Str) | use (i : Nat) (n : Str) | code (t : Str) | prose (t : Str)
  deriving DecidableEq
inductive Ch where
  | keep | drop | text (t : Str)
  deriving DecidableEq
structure Ed where
  ahead : List Str
  ch : Ch
  behind : List Str
  deriving DecidableEq
structure PL where
  text : Str
  line : Nat
  path : List Nat
  deriving DecidableEq
inductive Wh where
  | place | indent | blank | reference | apart
  deriving DecidableEq

def Ln.isLine : Ln → Bool
  | .use _ _ => true
  | .code _ => true
  | _ => false
def Ln.isProse : Ln → Bool
  | .prose _ => true
  | _ => false
def Ln.isCode : Ln → Bool
  | .code _ => true
  | _ => false

/-! ### texts -/
def spc (n : Nat) : Str := ⟨(List.replicate n 32).toArray⟩
def tkT (t : Str) (n : Nat) : Str := ⟨(t.cps.toList.take n).toArray⟩
def drT (t : Str) (n : Nat) : Str := ⟨(t.cps.toList.drop n).toArray⟩
theorem str_ext {a b : Str} (h : a.cps.toList = b.cps.toList) : a = b := by
  obtain ⟨x⟩ := a
  obtain ⟨y⟩ := b
  exact congrArg Str.mk (Array.toList_inj.mp h)
theorem tk_dr (t : Str) (n : Nat) : tkT t n ++ drT t n = t := by
  apply str_ext
  show ((t.cps.toList.take n).toArray ++ (t.cps.toList.drop n).toArray).toList = _
  simp
def shown (i : Nat) (t : Str) : Str := if t = Str.empty then Str.empty else spc i ++ t
def nameC (c : Nat) : Bool := (97 ≤ c && c ≤ 122) || (65 ≤ c && c ≤ 90) || (48 ≤ c && c ≤ 57) || c == 45 || c == 95 || c == 46
def nameL (l : List Nat) : Bool := decide (1 ≤ l.length) && decide (l.length ≤ 20) && l.all nameC
def refL (l : List Nat) : Bool :=
  let r := l.dropWhile (· == 32)
  r.take 1 == [60] && r.drop (r.length - 1) == [62] && nameL ((r.drop 1).take (r.length - 2))
def isRef (t : Str) : Bool := refL t.cps.toList
def fault (t : Str) (i : Nat) : Option Wh :=
  if t = Str.empty then none
  else if tkT t i ≠ spc i then some .indent
  else if drT t i = Str.empty then some .blank
  else if isRef (drT t i) then some .reference
  else none
def rest (t : Str) (i : Nat) : Str := if t = Str.empty then Str.empty else drT t i
theorem shown_rest {t : Str} {i : Nat} (h : fault t i = none) : shown i (rest t i) = t := by
  unfold fault at h
  unfold rest shown
  by_cases e : t = Str.empty
  · simp [e]
  · rw [if_neg e] at h
    rw [if_neg e]
    by_cases e1 : tkT t i ≠ spc i
    · rw [if_pos e1] at h
      cases h
    · rw [if_neg e1] at h
      by_cases e2 : drT t i = Str.empty
      · rw [if_pos e2] at h
        cases h
      · rw [if_neg e2]
        have e3 : tkT t i = spc i := Decidable.not_not.mp e1
        rw [← e3]
        exact tk_dr t i

/-! ### the lines of pieces -/
/-- index and line, of the lines of the piece n; c: the head that is open -/
def lnl : List Ln → Option Str → Nat → Str → List (Nat × Ln)
  | [], _, _, _ => []
  | .head m :: r, _, i, n => lnl r (some m) (i + 1) n
  | .prose _ :: r, c, i, n => lnl r c (i + 1) n
  | .use a b :: r, c, i, n => if c = some n then (i, .use a b) :: lnl r c (i + 1) n else lnl r c (i + 1) n
  | .code t :: r, c, i, n => if c = some n then (i, .code t) :: lnl r c (i + 1) n else lnl r c (i + 1) n
def lns (d : List Ln) (n : Str) : List Nat := (lnl d none 0 n).map (·.1)
def pcs (d : List Ln) (n : Str) : List Ln := (lnl d none 0 n).map (·.2)
def hasHead (d : List Ln) (n : Str) : Bool := d.any fun l => decide (l = .head n)
theorem lnl_get : ∀ (r : List Ln) (c : Option Str) (i : Nat) (n : Str) (p : Nat × Ln), p ∈ lnl r c i n → i ≤ p.1 ∧ r[p.1 - i]? = some p.2 ∧ p.2.isLine = true := by
  intro r
  induction r with
  | nil =>
    intro c i n p h
    cases h
  | cons l r ih =>
    intro c i n p h
    have step : ∀ c', p ∈ lnl r c' (i + 1) n → i ≤ p.1 ∧ (l :: r)[p.1 - i]? = some p.2 ∧ p.2.isLine = true := by
      intro c' h'
      obtain ⟨h1, h2, h3⟩ := ih c' (i + 1) n p h'
      refine ⟨by omega, ?_, h3⟩
      have e : p.1 - i = (p.1 - (i + 1)) + 1 := by omega
      rw [e, List.getElem?_cons_succ]
      exact h2
    cases l with
    | head m => exact step _ h
    | prose t => exact step _ h
    | use a b =>
      unfold lnl at h
      by_cases e : c = some n
      · rw [if_pos e] at h
        rcases List.mem_cons.mp h with h | h
        · subst h
          simp [Ln.isLine]
        · exact step _ h
      · rw [if_neg e] at h
        exact step _ h
    | code t =>
      unfold lnl at h
      by_cases e : c = some n
      · rw [if_pos e] at h
        rcases List.mem_cons.mp h with h | h
        · subst h
          simp [Ln.isLine]
        · exact step _ h
      · rw [if_neg e] at h
        exact step _ h

/-- reachable, acyclic, all present: to the depth -/
def OkD (d : List Ln) : Nat → Str → Prop
  | 0, _ => False
  | k + 1, n => hasHead d n = true ∧ ∀ l ∈ pcs d n, ∀ i o, l = .use i o → OkD d k o
theorem OkD.mono {d : List Ln} : ∀ {k : Nat} {n : Str}, OkD d k n → OkD d (k + 1) n
  | 0, _, h => h.elim
  | k + 1, n, h => ⟨h.1, fun l hl i o e => (h.2 l hl i o e).mono⟩
theorem OkD.le {d : List Ln} {n : Str} {k m : Nat} (h : OkD d k n) (hm : k ≤ m) : OkD d m n := by
  induction hm with
  | refl => exact h
  | step _ ih => exact ih.mono

/-- the program lines that a document line gives, with fuel -/
def exL (d : List Ln) : Nat → Nat → Nat → List Nat → List PL
  | k, a, ind, path => match d[a]? with
    | some (.code t) => [⟨shown ind t, a, path⟩]
    | some (.use i o) => match k with
      | 0 => []
      | k + 1 => (lns d o).flatMap fun b => exL d k b (ind + i) (path ++ [a])
    | _ => []
def prog (d : List Ln) (root : Str) : List PL := (lns d root).flatMap fun a => exL d 5 a 0 []
/-- how many -/
def lenA (d : List Ln) : Nat → Nat → Nat
  | k, a => match d[a]? with
    | some (.code _) => 1
    | some (.use _ o) => match k with
      | 0 => 0
      | k + 1 => ((lns d o).map fun b => lenA d k b).sum
    | _ => 0
def lenN (d : List Ln) (k : Nat) (n : Str) : Nat := ((lns d n).map fun b => lenA d k b).sum
theorem exL_code {d : List Ln} {k a ind : Nat} {path : List Nat} {t : Str} (h : d[a]? = some (.code t)) : exL d k a ind path = [⟨shown ind t, a, path⟩] := by
  unfold exL
  rw [h]
theorem exL_use {d : List Ln} {k a ind i : Nat} {path : List Nat} {o : Str} (h : d[a]? = some (.use i o)) : exL d (k + 1) a ind path = (lns d o).flatMap fun b => exL d k b (ind + i) (path ++ [a]) := by
  rw [exL]
  rw [h]
theorem lenA_code {d : List Ln} {k a : Nat} {t : Str} (h : d[a]? = some (.code t)) : lenA d k a = 1 := by
  unfold lenA
  rw [h]
theorem lenA_use {d : List Ln} {k a i : Nat} {o : Str} (h : d[a]? = some (.use i o)) : lenA d (k + 1) a = lenN d k o := by
  unfold lenN
  rw [lenA]
  rw [h]
theorem flatMap_len {α β : Type} (l : List α) (f : α → List β) (g : α → Nat) (h : ∀ x ∈ l, (f x).length = g x) : (l.flatMap f).length = (l.map g).sum := by
  induction l with
  | nil => rfl
  | cons x r ih =>
    rw [List.flatMap_cons, List.length_append, List.map_cons, List.sum_cons, ih fun y hy => h y (List.mem_cons_of_mem _ hy), h x List.mem_cons_self]
theorem exL_len (d : List Ln) : ∀ (k a ind : Nat) (path : List Nat), (exL d k a ind path).length = lenA d k a := by
  intro k
  induction k with
  | zero =>
    intro a ind path
    unfold exL lenA
    split <;> rfl
  | succ k ih =>
    intro a ind path
    cases e : d[a]? with
    | none =>
      rw [exL, lenA, e]
      rfl
    | some l =>
      cases l with
      | code t => rw [exL_code e, lenA_code e]; rfl
      | use i o =>
        rw [exL_use e, lenA_use e]
        exact flatMap_len _ _ _ fun b _ => ih b _ _
      | head m =>
        rw [exL, lenA, e]
        rfl
      | prose m =>
        rw [exL, lenA, e]
        rfl

theorem mem_lns {d : List Ln} {n : Str} {a : Nat} (h : a ∈ lns d n) : ∃ l, d[a]? = some l ∧ l ∈ pcs d n ∧ l.isLine = true := by
  obtain ⟨p, hp, e⟩ := List.mem_map.mp h
  obtain ⟨_, h2, h3⟩ := lnl_get _ _ _ _ _ hp
  subst e
  exact ⟨p.2, by simpa using h2, List.mem_map.mpr ⟨p, hp, rfl⟩, h3⟩
/-- a line that may be put out with the fuel k -/
def AtOk (d : List Ln) (k a : Nat) : Prop := (∃ t, d[a]? = some (.code t)) ∨ ∃ i o, d[a]? = some (.use i o) ∧ OkD d k o
theorem OkD.at {d : List Ln} {k : Nat} {n : Str} (h : OkD d (k + 1) n) {a : Nat} (ha : a ∈ lns d n) : AtOk d k a := by
  obtain ⟨l, e, hm, hl⟩ := mem_lns ha
  cases l with
  | code t => exact .inl ⟨t, e⟩
  | use i o => exact .inr ⟨i, o, e, h.2 _ hm i o rfl⟩
  | head m => cases hl
  | prose m => cases hl
theorem exL_more {d : List Ln} : ∀ {k a : Nat}, AtOk d k a → ∀ (m ind : Nat) (path : List Nat), k ≤ m → exL d m a ind path = exL d k a ind path := by
  intro k
  induction k with
  | zero =>
    intro a h m ind path _
    rcases h with ⟨t, e⟩ | ⟨i, o, _, h⟩
    · rw [exL_code e, exL_code e]
    · exact h.elim
  | succ k ih =>
    intro a h m ind path hm
    rcases h with ⟨t, e⟩ | ⟨i, o, e, h⟩
    · rw [exL_code e, exL_code e]
    · obtain ⟨m, rfl⟩ : ∃ m', m = m' + 1 := ⟨m - 1, by omega⟩
      rw [exL_use e, exL_use e]
      have go : ∀ l : List Nat, (∀ b ∈ l, AtOk d k b) → (l.flatMap fun b => exL d m b (ind + i) (path ++ [a])) = l.flatMap fun b => exL d k b (ind + i) (path ++ [a]) := by
        intro l
        induction l with
        | nil => intro _; rfl
        | cons b r ihr =>
          intro hb
          rw [List.flatMap_cons, List.flatMap_cons, ihr fun c hc => hb c (List.mem_cons_of_mem _ hc), ih (hb b List.mem_cons_self) m _ _ (by omega)]
      exact go _ fun b hb => h.at hb
theorem lenA_more {d : List Ln} {k a m : Nat} (h : AtOk d k a) (hm : k ≤ m) : lenA d m a = lenA d k a := by
  rw [← exL_len d m a 0 [], ← exL_len d k a 0 [], exL_more h m 0 [] hm]
theorem lenN_more {d : List Ln} {k m : Nat} {n : Str} (h : OkD d (k + 1) n) (hm : k ≤ m) : lenN d m n = lenN d k n := by
  unfold lenN
  congr 1
  exact List.map_congr_left fun b hb => lenA_more (h.at hb) hm

/-- the indentation of a path -/
def indL (d : List Ln) (a : Nat) : Nat := match d[a]? with
  | some (.use i _) => i
  | _ => 0
def indOf (d : List Ln) (path : List Nat) : Nat := (path.map (indL d)).sum
theorem indOf_snoc (d : List Ln) (path : List Nat) (a i : Nat) (o : Str) (h : d[a]? = some (.use i o)) : indOf d (path ++ [a]) = indOf d path + i := by
  unfold indOf
  rw [List.map_append, List.sum_append]
  simp [indL, h]
/-- each program line: its code line, its text, its path of references -/
structure PLok (d : List Ln) (p : PL) : Prop where
  code : ∃ t, d[p.line]? = some (.code t) ∧ p.text = shown (indOf d p.path) t
  path : ∀ a ∈ p.path, ∃ i o, d[a]? = some (.use i o)
theorem exL_ok (d : List Ln) : ∀ (k a ind : Nat) (path : List Nat), indOf d path = ind → (∀ b ∈ path, ∃ i o, d[b]? = some (.use i o)) → ∀ p ∈ exL d k a ind path, PLok d p ∧ p.path.length ≤ path.length + k := by
  intro k
  induction k with
  | zero =>
    intro a ind path hi hp p h
    cases e : d[a]? with
    | none => rw [exL, e] at h; cases h
    | some l =>
      cases l with
      | code t =>
        rw [exL_code e] at h
        rcases List.mem_singleton.mp h with rfl
        exact ⟨⟨⟨t, e, by rw [hi]⟩, hp⟩, Nat.le_refl _⟩
      | use i o => rw [exL, e] at h; cases h
      | head m => rw [exL, e] at h; cases h
      | prose m => rw [exL, e] at h; cases h
  | succ k ih =>
    intro a ind path hi hp p h
    cases e : d[a]? with
    | none => rw [exL, e] at h; cases h
    | some l =>
      cases l with
      | code t =>
        rw [exL_code e] at h
        rcases List.mem_singleton.mp h with rfl
        exact ⟨⟨⟨t, e, by rw [hi]⟩, hp⟩, by show path.length ≤ _; omega⟩
      | use i o =>
        rw [exL_use e] at h
        obtain ⟨b, _, hb⟩ := List.mem_flatMap.mp h
        have q := ih b (ind + i) (path ++ [a]) (by rw [indOf_snoc d path a i o e, hi]) (fun c hc => by
          rcases List.mem_append.mp hc with hc | hc
          · exact hp c hc
          · rcases List.mem_singleton.mp hc with rfl
            exact ⟨i, o, e⟩) p hb
        refine ⟨q.1, ?_⟩
        have := q.2
        rw [List.length_append] at this
        simp at this
        omega
      | head m => rw [exL, e] at h; cases h
      | prose m => rw [exL, e] at h; cases h
theorem prog_ok {d : List Ln} {root : Str} {p : PL} (h : p ∈ prog d root) : PLok d p ∧ p.path.length ≤ 5 := by
  obtain ⟨a, _, ha⟩ := List.mem_flatMap.mp h
  have q := exL_ok d 5 a 0 [] rfl (fun _ h => nomatch h) p ha
  exact ⟨q.1, by simpa using q.2⟩
theorem prog_len (d : List Ln) (root : Str) : (prog d root).length = lenN d 5 root := flatMap_len _ _ _ fun b _ => exL_len d 5 b _ _

/-! ### a document edited line by line -/
/-- G: what becomes of a line -/
def ndoc (G : Nat → Ln → List Ln) : Nat → List Ln → List Ln
  | _, [] => []
  | i, l :: r => G i l ++ ndoc G (i + 1) r
structure Gok (G : Nat → Ln → List Ln) : Prop where
  other : ∀ i l, l.isCode = false → G i l = [l]
  code : ∀ i l, l.isCode = true → ∀ l' ∈ G i l, l'.isCode = true
theorem lnl_codes : ∀ (cs : List Ln) (r : List Ln) (c : Option Str) (i : Nat) (n : Str), (∀ l ∈ cs, l.isCode = true) →
    (lnl (cs ++ r) c i n).map (·.2) = (if c = some n then cs else []) ++ (lnl r c (i + cs.length) n).map (·.2) := by
  intro cs
  induction cs with
  | nil => intro r c i n _; by_cases e : c = some n <;> simp [e]
  | cons l cs ih =>
    intro r c i n h
    have hl := h l List.mem_cons_self
    cases l with
    | code t =>
      have ih := ih r c (i + 1) n fun x hx => h x (List.mem_cons_of_mem _ hx)
      have e2 : i + (cs.length + 1) = i + 1 + cs.length := by omega
      by_cases e : c = some n
      · simp only [List.cons_append, lnl, if_pos e, List.map_cons, List.length_cons, e2]
        rw [ih, if_pos e]
      · simp only [List.cons_append, lnl, if_neg e, List.length_cons, e2]
        rw [ih, if_neg e]
    | use a b => cases hl
    | head m => cases hl
    | prose m => cases hl
theorem lnl_shift : ∀ (r : List Ln) (c : Option Str) (i j : Nat) (n : Str), (lnl r c i n).map (·.2) = (lnl r c j n).map (·.2) := by
  intro r
  induction r with
  | nil => intros; rfl
  | cons l r ih =>
    intro c i j n
    cases l with
    | head m => exact ih _ _ _ _
    | prose m => exact ih _ _ _ _
    | use a b =>
      unfold lnl
      by_cases e : c = some n
      · rw [if_pos e, if_pos e, List.map_cons, List.map_cons, ih c (i + 1) (j + 1) n]
      · rw [if_neg e, if_neg e]
        exact ih _ _ _ _
    | code t =>
      unfold lnl
      by_cases e : c = some n
      · rw [if_pos e, if_pos e, List.map_cons, List.map_cons, ih c (i + 1) (j + 1) n]
      · rw [if_neg e, if_neg e]
        exact ih _ _ _ _
theorem lnl_ndoc {G : Nat → Ln → List Ln} (hG : Gok G) : ∀ (r : List Ln) (c : Option Str) (i j : Nat) (n : Str),
    (lnl (ndoc G i r) c j n).map (·.2) = (lnl r c i n).flatMap fun p => G p.1 p.2 := by
  intro r
  induction r with
  | nil => intros; rfl
  | cons l r ih =>
    intro c i j n
    cases l with
    | head m =>
      rw [ndoc, hG.other i _ rfl]
      show (lnl (ndoc G (i + 1) r) (some m) (j + 1) n).map (·.2) = _
      exact ih _ _ _ _
    | prose m =>
      rw [ndoc, hG.other i _ rfl]
      show (lnl (ndoc G (i + 1) r) c (j + 1) n).map (·.2) = _
      exact ih _ _ _ _
    | use a b =>
      rw [ndoc, hG.other i _ rfl]
      show (lnl (.use a b :: ndoc G (i + 1) r) c j n).map (·.2) = _
      unfold lnl
      by_cases e : c = some n
      · rw [if_pos e, if_pos e, List.map_cons, List.flatMap_cons, hG.other i _ rfl, ih c (i + 1) (j + 1) n]
        rfl
      · rw [if_neg e, if_neg e]
        exact ih _ _ _ _
    | code t =>
      rw [ndoc, lnl_codes _ _ _ _ _ (hG.code i _ rfl), ih c (i + 1) _ n]
      rw [lnl.eq_5]
      by_cases e : c = some n
      · rw [if_pos e, if_pos e, List.flatMap_cons]
      · rw [if_neg e, if_neg e, List.nil_append]
theorem pcs_ndoc {G : Nat → Ln → List Ln} (hG : Gok G) (d : List Ln) (n : Str) : pcs (ndoc G 0 d) n = (lnl d none 0 n).flatMap fun p => G p.1 p.2 := lnl_ndoc hG d none 0 0 n
theorem head_ndoc {G : Nat → Ln → List Ln} (hG : Gok G) (n : Str) : ∀ (d : List Ln) (i : Nat), hasHead (ndoc G i d) n = hasHead d n := by
  intro d
  induction d with
  | nil => intros; rfl
  | cons l d ih =>
    intro i
    have ih := ih (i + 1)
    unfold hasHead at ih ⊢
    rw [ndoc, List.any_append, ih, List.any_cons]
    congr 1
    cases h : l.isCode with
    | false => rw [hG.other i l h]; simp
    | true =>
      have h1 : decide (l = Ln.head n) = false := by
        cases l <;> simp_all [Ln.isCode]
      rw [h1, List.any_eq_false]
      intro x hx
      have := hG.code i l h x hx
      cases x <;> simp_all [Ln.isCode]
theorem OkD_ndoc {G : Nat → Ln → List Ln} (hG : Gok G) (d : List Ln) : ∀ {k : Nat} {n : Str}, OkD d k n → OkD (ndoc G 0 d) k n := by
  intro k
  induction k with
  | zero => intro n h; exact h
  | succ k ih =>
    intro n h
    refine ⟨by rw [head_ndoc hG]; exact h.1, fun l hl i o e => ?_⟩
    rw [pcs_ndoc hG] at hl
    obtain ⟨p, hp, hlp⟩ := List.mem_flatMap.mp hl
    have hp2 : p.2 ∈ pcs d n := List.mem_map.mpr ⟨p, hp, rfl⟩
    cases hc : p.2.isCode with
    | true =>
      have := hG.code _ _ hc l hlp
      rw [e] at this
      cases this
    | false =>
      rw [hG.other _ _ hc] at hlp
      rcases List.mem_singleton.mp hlp with rfl
      exact ih (h.2 _ hp2 i o e)

/-- texts alone, by contents -/
def tx (pc : Str → List Ln) : Nat → Ln → Nat → List Str
  | _, .code t, ind => [shown ind t]
  | 0, .use _ _, _ => []
  | k + 1, .use i o, ind => (pc o).flatMap fun l => tx pc k l (ind + i)
  | _, _, _ => []
theorem flatMap_map_eq {α β γ δ : Type} (l : List α) (f : α → List β) (g : β → γ) (h : α → δ) (f2 : δ → List γ) (e : ∀ x ∈ l, (f x).map g = f2 (h x)) : (l.flatMap f).map g = (l.map h).flatMap f2 := by
  induction l with
  | nil => rfl
  | cons x r ih =>
    rw [List.flatMap_cons, List.map_append, List.map_cons, List.flatMap_cons, e x List.mem_cons_self, ih fun y hy => e y (List.mem_cons_of_mem _ hy)]
theorem lns_pcs {d : List Ln} {n : Str} {γ : Type} (f : Nat → List γ) (g : Ln → List γ) (h : ∀ a l, d[a]? = some l → f a = g l) : (lns d n).flatMap f = (pcs d n).flatMap g := by
  unfold lns pcs
  have key : ∀ q ∈ lnl d none 0 n, f q.1 = g q.2 := fun q hq => h _ _ (by simpa using (lnl_get _ _ _ _ _ hq).2.1)
  generalize lnl d none 0 n = l at key
  induction l with
  | nil => rfl
  | cons q r ih =>
    rw [List.map_cons, List.flatMap_cons, List.map_cons, List.flatMap_cons, key q List.mem_cons_self, ih fun y hy => key y (List.mem_cons_of_mem _ hy)]
theorem exL_tx (d : List Ln) : ∀ (k a ind : Nat) (path : List Nat) (l : Ln), d[a]? = some l → (exL d k a ind path).map (·.text) = tx (pcs d) k l ind := by
  intro k
  induction k with
  | zero =>
    intro a ind path l e
    cases l with
    | code t => rw [exL_code e]; rfl
    | use i o => rw [exL, e]; rfl
    | head m => rw [exL, e]; rfl
    | prose m => rw [exL, e]; rfl
  | succ k ih =>
    intro a ind path l e
    cases l with
    | code t => rw [exL_code e]; rfl
    | use i o =>
      rw [exL_use e, tx]
      rw [List.map_flatMap]
      exact lns_pcs _ _ fun b l' e' => ih b _ _ l' e'
    | head m => rw [exL, e]; rfl
    | prose m => rw [exL, e]; rfl
theorem prog_tx (d : List Ln) (root : Str) : (prog d root).map (·.text) = (pcs d root).flatMap fun l => tx (pcs d) 5 l 0 := by
  unfold prog
  rw [List.map_flatMap]
  exact lns_pcs _ _ fun b l' e' => exL_tx d 5 b _ _ l' e'

def Ln.codeT : Ln → Option Str
  | .code t => some t
  | _ => none
/-- the texts of the lines that G puts at a line of code -/
def Gt (G : Nat → Ln → List Ln) (d : List Ln) (a : Nat) : List Str := match d[a]? with
  | some l => (G a l).filterMap Ln.codeT
  | none => []
theorem tx_codes (pc : Str → List Ln) (k ind : Nat) : ∀ cs : List Ln, (∀ l ∈ cs, l.isCode = true) →
    (cs.flatMap fun l => tx pc k l ind) = (cs.filterMap Ln.codeT).map (shown ind) := by
  intro cs
  induction cs with
  | nil => intro _; rfl
  | cons l cs ih =>
    intro h
    have hl := h l List.mem_cons_self
    cases l with
    | code t =>
      rw [List.flatMap_cons, ih fun x hx => h x (List.mem_cons_of_mem _ hx)]
      simp [tx, Ln.codeT]
    | use a b => cases hl
    | head m => cases hl
    | prose m => cases hl
theorem flatMap_flatMap' {α β γ : Type} (l : List α) (f : α → List β) (g : β → List γ) : (l.flatMap f).flatMap g = l.flatMap fun x => (f x).flatMap g := by
  induction l with
  | nil => rfl
  | cons x r ih => rw [List.flatMap_cons, List.flatMap_append, List.flatMap_cons, ih]
theorem flatMap_congr' {α β : Type} {l : List α} {f g : α → List β} (h : ∀ x ∈ l, f x = g x) : l.flatMap f = l.flatMap g := by
  induction l with
  | nil => rfl
  | cons x r ih => rw [List.flatMap_cons, List.flatMap_cons, h x List.mem_cons_self, ih fun y hy => h y (List.mem_cons_of_mem _ hy)]
theorem tx_new {G : Nat → Ln → List Ln} (hG : Gok G) (d : List Ln) : ∀ (k a ind : Nat) (path : List Nat) (l : Ln), d[a]? = some l → l.isLine = true → indOf d path = ind →
    ((G a l).flatMap fun l' => tx (pcs (ndoc G 0 d)) k l' ind) = (exL d k a ind path).flatMap fun p => (Gt G d p.line).map (shown (indOf d p.path)) := by
  intro k
  induction k with
  | zero =>
    intro a ind path l e hl hi
    cases l with
    | code t =>
      rw [tx_codes _ _ _ _ (hG.code a _ rfl), exL_code e]
      simp [Gt, e, hi]
    | use i o =>
      rw [hG.other a _ rfl, exL, e]
      simp [tx]
    | head m => cases hl
    | prose m => cases hl
  | succ k ih =>
    intro a ind path l e hl hi
    cases l with
    | code t =>
      rw [tx_codes _ _ _ _ (hG.code a _ rfl), exL_code e]
      simp [Gt, e, hi]
    | use i o =>
      rw [hG.other a _ rfl, exL_use e, List.flatMap_singleton, tx, pcs_ndoc hG, flatMap_flatMap', flatMap_flatMap']
      unfold lns
      rw [List.flatMap_map]
      refine flatMap_congr' fun q hq => ?_
      obtain ⟨_, h2, h3⟩ := lnl_get _ _ _ _ _ hq
      exact ih q.1 (ind + i) (path ++ [a]) q.2 (by simpa using h2) h3 (by rw [indOf_snoc d path a i o e, hi])
    | head m => cases hl
    | prose m => cases hl
theorem prog_new {G : Nat → Ln → List Ln} (hG : Gok G) (d : List Ln) (root : Str) :
    (prog (ndoc G 0 d) root).map (·.text) = (prog d root).flatMap fun p => (Gt G d p.line).map (shown (indOf d p.path)) := by
  rw [prog_tx, pcs_ndoc hG]
  unfold prog lns
  rw [flatMap_flatMap', flatMap_flatMap', List.flatMap_map]
  refine flatMap_congr' fun q hq => ?_
  obtain ⟨_, h2, h3⟩ := lnl_get _ _ _ _ _ hq
  exact tx_new hG d 5 q.1 0 [] q.2 (by simpa using h2) h3 rfl
end Wf
/-! What the lines of programs say of document lines; fates; the new document. -/
namespace Wf
open PySem

/-! ### tables by a number -/
def kget {β : Type} (k : List (Nat × β)) (a : Nat) : Option β := (k.find? fun q => decide (q.1 = a)).map (·.2)
def kput {β : Type} (a : Nat) (v : β) : List (Nat × β) → List (Nat × β)
  | [] => [(a, v)]
  | (b, u) :: r => if b = a then (b, v) :: r else (b, u) :: kput a v r
theorem kget_cons {β : Type} (q : Nat × β) (k : List (Nat × β)) (a : Nat) : kget (q :: k) a = if q.1 = a then some q.2 else kget k a := by
  unfold kget
  rw [List.find?_cons]
  by_cases h : q.1 = a
  · simp [h]
  · simp [h]
theorem kget_kput {β : Type} (a : Nat) (v : β) (b : Nat) : ∀ k : List (Nat × β), kget (kput a v k) b = if b = a then some v else kget k b := by
  intro k
  induction k with
  | nil =>
    rw [kput, kget_cons]
    by_cases h : b = a
    · rw [if_pos h, if_pos h.symm]
    · rw [if_neg h, if_neg (Ne.symm h)]
  | cons q k ih =>
    obtain ⟨c, u⟩ := q
    rw [kput]
    by_cases e : c = a
    · subst e
      rw [if_pos rfl, kget_cons, kget_cons]
      by_cases h : b = c
      · simp [h]
      · rw [if_neg (Ne.symm h), if_neg h, if_neg (Ne.symm h)]
    · rw [if_neg e, kget_cons, kget_cons, ih]
      show (if c = b then some u else if b = a then some v else kget k b) = if b = a then some v else if c = b then some u else kget k b
      by_cases h : b = a
      · subst h
        rw [if_neg e, if_pos rfl, if_pos rfl]
      · rw [if_neg h, if_neg h]
theorem kget_snoc {β : Type} (k : List (Nat × β)) (a : Nat) (v : β) (b : Nat) (h : kget k a = none) : kget (k ++ [(a, v)]) b = if b = a then some v else kget k b := by
  induction k with
  | nil =>
    rw [List.nil_append, kget_cons]
    by_cases h : b = a
    · rw [if_pos h, if_pos h.symm]
    · rw [if_neg h, if_neg (Ne.symm h)]
  | cons q k ih =>
    rw [kget_cons] at h
    by_cases e : q.1 = a
    · rw [if_pos e] at h
      cases h
    · rw [if_neg e] at h
      rw [List.cons_append, kget_cons, kget_cons, ih h]
      by_cases h2 : b = a
      · subst h2
        rw [if_neg e, if_pos rfl, if_pos rfl]
      · rw [if_neg h2, if_neg h2]
theorem kget_mem {β : Type} {k : List (Nat × β)} {a : Nat} {v : β} (h : kget k a = some v) : (a, v) ∈ k := by
  induction k with
  | nil => cases h
  | cons q k ih =>
    rw [kget_cons] at h
    by_cases e : q.1 = a
    · rw [if_pos e] at h
      cases h
      subst e
      exact List.mem_cons_self
    · rw [if_neg e] at h
      exact List.mem_cons_of_mem _ (ih h)
theorem kget_none {β : Type} {k : List (Nat × β)} {a : Nat} (h : kget k a = none) : a ∉ k.map (·.1) := by
  induction k with
  | nil => simp
  | cons q k ih =>
    rw [kget_cons] at h
    by_cases e : q.1 = a
    · rw [if_pos e] at h
      cases h
    · rw [if_neg e] at h
      rw [List.map_cons, List.mem_cons]
      exact fun z => z.elim (fun z => e z.symm) (ih h)
theorem kget_of_mem {β : Type} {k : List (Nat × β)} {a : Nat} (h : a ∈ k.map (·.1)) : ∃ v, kget k a = some v := by
  cases e : kget k a with
  | some v => exact ⟨v, rfl⟩
  | none => exact absurd h (kget_none e)

/-! ### what an edit says -/
structure Rf where
  root : Str
  at_ : Nat
  what : Wh
  oroot : Str
  other : Int
abbrev KE := Ed × Str × Nat
abbrev Known := List (Nat × KE)
def Ch.texts : Ch → List Str
  | .text t => [t]
  | _ => []
def textsOf (e : Ed) : List Str := e.ahead ++ e.ch.texts ++ e.behind
def faultL (ts : List Str) (i : Nat) : Option Wh := ts.findSome? fun t => fault t i
def faultE (e : Ed) (i : Nat) : Option Wh := faultL (textsOf e) i
def backC (c : Ch) (i : Nat) (own : Str) : Ch := match c with
  | .text t => if rest t i = own then .keep else .text (rest t i)
  | c => c
def back (e : Ed) (i : Nat) (own : Str) : Ed := ⟨e.ahead.map (rest · i), backC e.ch i own, e.behind.map (rest · i)⟩
def isFirst (d : List Ln) (a : Nat) : Bool := match a with
  | 0 => false
  | a + 1 => match d[a]? with
    | some (.head _) => true
    | _ => false
def ownT (d : List Ln) (a : Nat) : Str := match d[a]? with
  | some (.code t) => t
  | _ => Str.empty
def said (d : List Ln) (p : PL) (e : Ed) : Except Wh Ed :=
  if e.ahead ≠ [] ∧ isFirst d p.line = false then .error .place
  else match faultE e (indOf d p.path) with
    | some w => .error w
    | none => .ok (back e (indOf d p.path) (ownT d p.line))
def agStep (d : List Ln) (root : Str) (at_ : Nat) (p : PL) (e : Ed) (k : Known) : Except Rf Known := match said d p e with
  | .error w => .error ⟨root, at_, w, Str.empty, -1⟩
  | .ok f => match kget k p.line with
    | none => .ok (k ++ [(p.line, (f, root, at_))])
    | some g => if g.1 = f then .ok k else .error ⟨root, at_, .apart, g.2.1, g.2.2⟩
def agProg (d : List Ln) (root : Str) : Nat → List PL → List Ed → Known → Except Rf Known
  | at_, p :: ps, e :: es, k => match agStep d root at_ p e k with
    | .error r => .error r
    | .ok k' => agProg d root (at_ + 1) ps es k'
  | _, _, _, k => .ok k
def agAll (d : List Ln) : List Str → List (List PL) → List (List Ed) → Known → Except Rf Known
  | r :: rs, p :: ps, e :: es, k => match agProg d r 0 p e k with
    | .error x => .error x
    | .ok k' => agAll d rs ps es k'
  | _, _, _, k => .ok k

/-- what stands of known -/
structure Kok (d : List Ln) (k : Known) : Prop where
  code : ∀ a f, kget k a = some f → ∃ t, d[a]? = some (.code t)
  first : ∀ a f, kget k a = some f → f.1.ahead ≠ [] → isFirst d a = true
  nd : (k.map (·.1)).Nodup
/-- one line is well told by known -/
structure Told (d : List Ln) (k : Known) (p : PL) (e : Ed) : Prop where
  fit : faultE e (indOf d p.path) = none
  says : ∃ x, kget k p.line = some (back e (indOf d p.path) (ownT d p.line), x)
def Grows (k k' : Known) : Prop := ∀ a f, kget k a = some f → kget k' a = some f
theorem Grows.refl (k : Known) : Grows k k := fun _ _ h => h
theorem Grows.trans {a b c : Known} (h : Grows a b) (h' : Grows b c) : Grows a c := fun x f e => h' x f (h x f e)
theorem Told.grow {d : List Ln} {k k' : Known} {p : PL} {e : Ed} (h : Told d k p e) (g : Grows k k') : Told d k' p e := ⟨h.fit, h.says.elim fun x q => ⟨x, g _ _ q⟩⟩
theorem said_ok {d : List Ln} {p : PL} {e f : Ed} (h : said d p e = .ok f) : faultE e (indOf d p.path) = none ∧ f = back e (indOf d p.path) (ownT d p.line) ∧ (e.ahead ≠ [] → isFirst d p.line = true) := by
  unfold said at h
  by_cases c : e.ahead ≠ [] ∧ isFirst d p.line = false
  · rw [if_pos c] at h
    cases h
  · rw [if_neg c] at h
    cases q : faultE e (indOf d p.path) with
    | some w =>
      rw [q] at h
      cases h
    | none =>
      rw [q] at h
      cases h
      refine ⟨rfl, rfl, fun ha => ?_⟩
      cases z : isFirst d p.line with
      | true => rfl
      | false => exact absurd ⟨ha, z⟩ c
theorem agStep_ok {d : List Ln} {root : Str} {at_ : Nat} {p : PL} {e : Ed} {k k' : Known} (hp : PLok d p) (K : Kok d k) (h : agStep d root at_ p e k = .ok k') : Kok d k' ∧ Grows k k' ∧ Told d k' p e := by
  unfold agStep at h
  cases q : said d p e with
  | error w =>
    rw [q] at h
    cases h
  | ok f =>
    obtain ⟨h1, h2, h3⟩ := said_ok q
    rw [q] at h
    dsimp only at h
    cases g : kget k p.line with
    | none =>
      rw [g] at h
      cases h
      have key : ∀ b, kget (k ++ [(p.line, (f, root, at_))]) b = if b = p.line then some (f, root, at_) else kget k b := fun b => kget_snoc k p.line _ b g
      refine ⟨⟨fun a f' e' => ?_, fun a f' e' ha => ?_, ?_⟩, fun a f' e' => ?_, ⟨h1, ⟨(root, at_), ?_⟩⟩⟩
      · rw [key] at e'
        by_cases c : a = p.line
        · subst c
          obtain ⟨t, ht, _⟩ := hp.code
          exact ⟨t, ht⟩
        · rw [if_neg c] at e'
          exact K.code a f' e'
      · rw [key] at e'
        by_cases c : a = p.line
        · rw [if_pos c] at e'
          cases e'
          subst c
          refine h3 fun z => ha ?_
          rw [h2]
          unfold back
          rw [z]
          rfl
        · rw [if_neg c] at e'
          exact K.first a f' e' ha
      · rw [List.map_append, List.nodup_append]
        refine ⟨K.nd, by simp, fun x hx y hy => ?_⟩
        simp at hy
        subst hy
        exact fun z => kget_none g (z ▸ hx)
      · rw [key]
        by_cases c : a = p.line
        · subst c
          rw [g] at e'
          cases e'
        · rw [if_neg c]
          exact e'
      · rw [key, if_pos rfl, h2]
    | some x =>
      rw [g] at h
      dsimp only at h
      by_cases c : x.1 = f
      · rw [if_pos c] at h
        cases h
        refine ⟨K, Grows.refl k, ⟨h1, ⟨x.2, ?_⟩⟩⟩
        rw [g, ← h2, ← c]
      · rw [if_neg c] at h
        cases h
theorem agProg_ok {d : List Ln} {root : Str} : ∀ (ps : List PL) (es : List Ed) (at_ : Nat) (k k' : Known), (∀ p ∈ ps, PLok d p) → Kok d k → agProg d root at_ ps es k = .ok k' →
    Kok d k' ∧ Grows k k' ∧ ∀ q ∈ ps.zip es, Told d k' q.1 q.2 := by
  intro ps
  induction ps with
  | nil =>
    intro es at_ k k' _ K h
    unfold agProg at h
    cases h
    exact ⟨K, Grows.refl k, fun q hq => by simp at hq⟩
  | cons p ps ih =>
    intro es at_ k k' hp K h
    cases es with
    | nil =>
      unfold agProg at h
      cases h
      exact ⟨K, Grows.refl k, fun q hq => by simp at hq⟩
    | cons e es =>
      unfold agProg at h
      cases q : agStep d root at_ p e k with
      | error r =>
        rw [q] at h
        cases h
      | ok k1 =>
        rw [q] at h
        obtain ⟨K1, g1, t1⟩ := agStep_ok (hp p List.mem_cons_self) K q
        obtain ⟨K2, g2, t2⟩ := ih es (at_ + 1) k1 k' (fun x hx => hp x (List.mem_cons_of_mem _ hx)) K1 h
        refine ⟨K2, g1.trans g2, fun x hx => ?_⟩
        rw [List.zip_cons_cons] at hx
        rcases List.mem_cons.mp hx with hx | hx
        · subst hx
          exact t1.grow g2
        · exact t2 x hx
theorem agAll_ok {d : List Ln} : ∀ (rs : List Str) (pss : List (List PL)) (ess : List (List Ed)) (k k' : Known), (∀ ps ∈ pss, ∀ p ∈ ps, PLok d p) → Kok d k → pss.length = rs.length → ess.length = rs.length → agAll d rs pss ess k = .ok k' →
    Kok d k' ∧ Grows k k' ∧ ∀ z ∈ pss.zip ess, ∀ q ∈ z.1.zip z.2, Told d k' q.1 q.2 := by
  intro rs
  induction rs with
  | nil =>
    intro pss ess k k' _ K l1 l2 h
    unfold agAll at h
    cases h
    have e1 : pss = [] := List.length_eq_zero_iff.mp l1
    subst e1
    exact ⟨K, Grows.refl k, fun z hz => by simp at hz⟩
  | cons r rs ih =>
    intro pss ess k k' hp K l1 l2 h
    cases pss with
    | nil => cases l1
    | cons ps pss =>
      cases ess with
      | nil => cases l2
      | cons es ess =>
        unfold agAll at h
        cases q : agProg d r 0 ps es k with
        | error x =>
          rw [q] at h
          cases h
        | ok k1 =>
          rw [q] at h
          obtain ⟨K1, g1, t1⟩ := agProg_ok ps es 0 k k1 (hp ps List.mem_cons_self) K q
          obtain ⟨K2, g2, t2⟩ := ih pss ess k1 k' (fun x hx => hp x (List.mem_cons_of_mem _ hx)) K1 (by simpa using l1) (by simpa using l2) h
          refine ⟨K2, g1.trans g2, fun z hz => ?_⟩
          rw [List.zip_cons_cons] at hz
          rcases List.mem_cons.mp hz with hz | hz
          · subst hz
            exact fun x hx => (t1 x hx).grow g2
          · exact t2 z hz

/-! ### the new document of the law -/
def codes (ts : List Str) : List Ln := ts.map Ln.code
def chL (c : Ch) (l : Ln) : List Ln := match c with
  | .keep => [l]
  | .text t => [.code t]
  | .drop => []
/-- the law's reading: at a line that known tells -/
def lawG (k : Known) (a : Nat) (l : Ln) : List Ln := match kget k a with
  | none => [l]
  | some f => codes f.1.ahead ++ chL f.1.ch l ++ codes f.1.behind
def newG (k : Known) (a : Nat) (l : Ln) : List Ln := if l.isCode = true then lawG k a l else [l]
theorem codes_code (ts : List Str) : ∀ l ∈ codes ts, l.isCode = true := by
  intro l hl
  obtain ⟨t, _, e⟩ := List.mem_map.mp hl
  subst e
  rfl
theorem newG_ok (k : Known) : Gok (newG k) := by
  refine ⟨fun i l h => ?_, fun i l h l' hl => ?_⟩
  · unfold newG
    rw [h]
    rfl
  · unfold newG at hl
    rw [if_pos h] at hl
    unfold lawG at hl
    cases e : kget k i with
    | none =>
      rw [e] at hl
      rcases List.mem_singleton.mp hl with rfl
      exact h
    | some f =>
      rw [e] at hl
      rcases List.mem_append.mp hl with hl | hl
      · rcases List.mem_append.mp hl with hl | hl
        · exact codes_code _ _ hl
        · cases c : f.1.ch with
          | keep =>
            rw [c] at hl
            rcases List.mem_singleton.mp hl with rfl
            exact h
          | drop =>
            rw [c] at hl
            cases hl
          | text t =>
            rw [c] at hl
            rcases List.mem_singleton.mp hl with rfl
            rfl
      · exact codes_code _ _ hl
theorem ndoc_congr {G G' : Nat → Ln → List Ln} : ∀ (r : List Ln) (i : Nat), (∀ j l, r[j]? = some l → G (i + j) l = G' (i + j) l) → ndoc G i r = ndoc G' i r := by
  intro r
  induction r with
  | nil => intros; rfl
  | cons l r ih =>
    intro i h
    rw [ndoc, ndoc, ih (i + 1) fun j l' e => by
      have := h (j + 1) l' (by simpa using e)
      rw [show i + (j + 1) = i + 1 + j by omega] at this
      exact this]
    rw [show G i l = G' i l from h 0 l rfl]
theorem law_new {d : List Ln} {k : Known} (K : Kok d k) : ndoc (lawG k) 0 d = ndoc (newG k) 0 d := by
  refine ndoc_congr d 0 fun j l e => ?_
  rw [Nat.zero_add]
  unfold newG
  cases c : l.isCode with
  | true => rw [if_pos rfl]
  | false =>
    rw [if_neg Bool.false_ne_true]
    unfold lawG
    cases g : kget k j with
    | none => rfl
    | some f =>
      obtain ⟨t, ht⟩ := K.code j f g
      rw [e] at ht
      cases ht
      cases c

/-! ### the edited texts -/
def Ch.onto : Ch → Str → List Str
  | .keep, t => [t]
  | .text u, _ => [u]
  | .drop, _ => []
def ed1 (t : Str) (e : Ed) : List Str := e.ahead ++ e.ch.onto t ++ e.behind
def editedL : List Str → List Ed → List Str
  | t :: ts, e :: es => ed1 t e ++ editedL ts es
  | _, _ => []
theorem fm_codes (ts : List Str) : (codes ts).filterMap Ln.codeT = ts := by
  induction ts with
  | nil => rfl
  | cons t ts ih =>
    show (((Ln.code t) :: codes ts).filterMap Ln.codeT) = _
    rw [List.filterMap_cons]
    show t :: (codes ts).filterMap Ln.codeT = _
    rw [ih]
theorem Gt_told {d : List Ln} {k : Known} {a : Nat} {t : Str} {f : Ed} {x : Str × Nat} (h : d[a]? = some (.code t)) (g : kget k a = some (f, x)) : Gt (newG k) d a = ed1 t f := by
  unfold Gt
  rw [h]
  dsimp only
  unfold newG
  rw [if_pos (show (Ln.code t).isCode = true from rfl)]
  unfold lawG
  rw [g]
  dsimp only
  rw [List.filterMap_append, List.filterMap_append, fm_codes, fm_codes]
  unfold ed1
  congr 2
  cases f.ch <;> rfl
theorem map_shown_rest {i : Nat} : ∀ ts : List Str, faultL ts i = none → (ts.map (rest · i)).map (shown i) = ts := by
  intro ts
  induction ts with
  | nil => intro _; rfl
  | cons t ts ih =>
    intro h
    unfold faultL at h
    rw [List.findSome?_cons] at h
    cases e : fault t i with
    | some w =>
      rw [e] at h
      cases h
    | none =>
      rw [e] at h
      rw [List.map_cons, List.map_cons, shown_rest e, ih h]
theorem faultL_append {a b : List Str} {i : Nat} (h : faultL (a ++ b) i = none) : faultL a i = none ∧ faultL b i = none := by
  unfold faultL at h ⊢
  rw [List.findSome?_append] at h
  cases e : a.findSome? fun t => fault t i with
  | some w =>
    rw [e] at h
    cases h
  | none =>
    rw [e] at h
    exact ⟨rfl, by simpa using h⟩
theorem told_texts {d : List Ln} {k : Known} {p : PL} {e : Ed} (hp : PLok d p) (h : Told d k p e) : (Gt (newG k) d p.line).map (shown (indOf d p.path)) = ed1 p.text e := by
  obtain ⟨t, ht, htx⟩ := hp.code
  obtain ⟨x, hx⟩ := h.says
  rw [Gt_told ht hx]
  have own : ownT d p.line = t := by
    unfold ownT
    rw [ht]
  have hf := h.fit
  unfold faultE textsOf at hf
  obtain ⟨h12, h3⟩ := faultL_append hf
  obtain ⟨h1, h2⟩ := faultL_append h12
  unfold ed1 back
  rw [List.map_append, List.map_append, map_shown_rest _ h1, map_shown_rest _ h3, own]
  congr 2
  cases c : e.ch with
  | keep => simp [backC, Ch.onto, htx]
  | drop => simp [backC, Ch.onto]
  | text u =>
    rw [c] at h2
    have hu := map_shown_rest _ h2
    have hu' : shown (indOf d p.path) (rest u (indOf d p.path)) = u := by simpa [Ch.texts] using hu
    unfold backC
    dsimp only
    by_cases q : rest u (indOf d p.path) = t
    · rw [if_pos q]
      simp only [Ch.onto, List.map_cons, List.map_nil]
      rw [← q, hu']
    · rw [if_neg q]
      simp only [Ch.onto, List.map_cons, List.map_nil]
      rw [hu']
theorem edited_of {d : List Ln} {k : Known} : ∀ (ps : List PL) (es : List Ed), (∀ p ∈ ps, PLok d p) → es.length = ps.length → (∀ q ∈ ps.zip es, Told d k q.1 q.2) →
    (ps.flatMap fun p => (Gt (newG k) d p.line).map (shown (indOf d p.path))) = editedL (ps.map (·.text)) es := by
  intro ps
  induction ps with
  | nil =>
    intro es _ _ _
    cases es <;> rfl
  | cons p ps ih =>
    intro es hp hl ht
    cases es with
    | nil => cases hl
    | cons e es =>
      rw [List.flatMap_cons, List.map_cons, editedL, told_texts (hp p List.mem_cons_self) (ht (p, e) (by rw [List.zip_cons_cons]; exact List.mem_cons_self)),
        ih es (fun x hx => hp x (List.mem_cons_of_mem _ hx)) (by simpa using hl) fun q hq => ht q (by rw [List.zip_cons_cons]; exact List.mem_cons_of_mem _ hq)]

/-! ### fates -/
abbrev Fates := List (Nat × Ed)
def touched (e : Ed) : Bool := decide (e ≠ ⟨[], .keep, []⟩)
def fateStep (k : Known) (fs : Fates) (a : Nat) : Fates := match kget k a with
  | none => fs
  | some f =>
    let fs1 := if f.1.ahead ≠ [] then kput (a - 1) ⟨[], .keep, f.1.ahead⟩ fs else fs
    if touched ⟨[], f.1.ch, f.1.behind⟩ = true then kput a ⟨[], f.1.ch, f.1.behind⟩ fs1 else fs1
def aheadK (k : Known) (a : Nat) : List Str := match kget k a with
  | some f => f.1.ahead
  | none => []
/-- what the fates are once the lines ks are told -/
def fateAt (k : Known) (ks : List Nat) (a : Nat) : Option Ed := match kget k a with
  | some f => if a ∈ ks ∧ touched ⟨[], f.1.ch, f.1.behind⟩ = true then some ⟨[], f.1.ch, f.1.behind⟩ else none
  | none => if a + 1 ∈ ks ∧ aheadK k (a + 1) ≠ [] then some ⟨[], .keep, aheadK k (a + 1)⟩ else none
theorem sep {d : List Ln} {k : Known} (K : Kok d k) {a : Nat} (h : aheadK k (a + 1) ≠ []) : kget k a = none ∧ ∃ n, d[a]? = some (.head n) := by
  unfold aheadK at h
  cases e : kget k (a + 1) with
  | none =>
    rw [e] at h
    exact absurd rfl h
  | some f =>
    rw [e] at h
    have h1 := K.first _ _ e h
    unfold isFirst at h1
    dsimp only at h1
    cases q : d[a]? with
    | none =>
      rw [q] at h1
      cases h1
    | some l =>
      rw [q] at h1
      cases l with
      | head n =>
        refine ⟨?_, n, rfl⟩
        cases z : kget k a with
        | none => rfl
        | some g =>
          obtain ⟨t, ht⟩ := K.code _ _ z
          rw [q] at ht
          cases ht
      | use i o => cases h1
      | code t => cases h1
      | prose t => cases h1
theorem ahead_zero {d : List Ln} {k : Known} (K : Kok d k) : aheadK k 0 = [] := by
  unfold aheadK
  cases e : kget k 0 with
  | none => rfl
  | some f =>
    cases z : f.1.ahead with
    | nil => exact z
    | cons t ts =>
      have := K.first 0 f e (by rw [z]; simp)
      cases this
theorem fates_at {d : List Ln} {k : Known} (K : Kok d k) : ∀ (ks done : List Nat) (fs : Fates), (∀ a ∈ ks, (kget k a).isSome = true) → (∀ a, kget fs a = fateAt k done a) →
    ∀ a, kget (ks.foldl (fateStep k) fs) a = fateAt k (done ++ ks) a := by
  intro ks
  induction ks with
  | nil =>
    intro done fs _ h a
    rw [List.append_nil]
    exact h a
  | cons b ks ih =>
    intro done fs hs h a
    rw [List.foldl_cons]
    have e : done ++ b :: ks = (done ++ [b]) ++ ks := by simp
    rw [e]
    refine ih (done ++ [b]) _ (fun x hx => hs x (List.mem_cons_of_mem _ hx)) (fun c => ?_) a
    have hb := hs b List.mem_cons_self
    cases g : kget k b with
    | none =>
      rw [g] at hb
      cases hb
    | some f =>
      unfold fateStep
      rw [g]
      dsimp only
      have memb : ∀ x, x ∈ done ++ [b] ↔ x ∈ done ∨ x = b := fun x => by simp
      have base := h c
      -- the put at b - 1
      have first : ∀ c, kget (if f.1.ahead ≠ [] then kput (b - 1) ⟨[], .keep, f.1.ahead⟩ fs else fs) c = if f.1.ahead ≠ [] ∧ c = b - 1 then some ⟨[], .keep, f.1.ahead⟩ else fateAt k done c := fun c => by
        by_cases z : f.1.ahead ≠ []
        · rw [if_pos z, kget_kput, h c]
          by_cases y : c = b - 1
          · rw [if_pos y, if_pos ⟨z, y⟩]
          · rw [if_neg y, if_neg fun q => y q.2]
        · rw [if_neg z, if_neg fun q => z q.1, h c]
      have ahb : aheadK k b = f.1.ahead := by
        unfold aheadK
        rw [g]
      have bpos : f.1.ahead ≠ [] → ∃ b', b = b' + 1 := fun z => by
        cases b with
        | zero =>
          rw [ahead_zero K] at ahb
          exact absurd ahb.symm z
        | succ b' => exact ⟨b', rfl⟩
      have whole : kget (if touched ⟨[], f.1.ch, f.1.behind⟩ = true then kput b ⟨[], f.1.ch, f.1.behind⟩ (if f.1.ahead ≠ [] then kput (b - 1) ⟨[], .keep, f.1.ahead⟩ fs else fs) else (if f.1.ahead ≠ [] then kput (b - 1) ⟨[], .keep, f.1.ahead⟩ fs else fs)) c =
          if touched ⟨[], f.1.ch, f.1.behind⟩ = true ∧ c = b then some ⟨[], f.1.ch, f.1.behind⟩ else if f.1.ahead ≠ [] ∧ c = b - 1 then some ⟨[], .keep, f.1.ahead⟩ else fateAt k done c := by
        by_cases z : touched ⟨[], f.1.ch, f.1.behind⟩ = true
        · rw [if_pos z, kget_kput, first]
          by_cases y : c = b
          · rw [if_pos y, if_pos ⟨z, y⟩]
          · rw [if_neg y, if_neg (show ¬ (touched ⟨[], f.1.ch, f.1.behind⟩ = true ∧ c = b) from fun q => y q.2)]
        · rw [if_neg z, if_neg (show ¬ (touched ⟨[], f.1.ch, f.1.behind⟩ = true ∧ c = b) from fun q => z q.1), first]
      rw [whole]
      by_cases y : c = b
      · subst y
        rw [show fateAt k (done ++ [c]) c = if c ∈ done ++ [c] ∧ touched ⟨[], f.1.ch, f.1.behind⟩ = true then some ⟨[], f.1.ch, f.1.behind⟩ else none by unfold fateAt; rw [g]]
        by_cases z : touched ⟨[], f.1.ch, f.1.behind⟩ = true
        · rw [if_pos ⟨z, rfl⟩, if_pos ⟨(memb c).mpr (.inr rfl), z⟩]
        · have n1 : ¬ (f.1.ahead ≠ [] ∧ c = c - 1) := fun q => by
            obtain ⟨b', eb⟩ := bpos q.1
            have := q.2
            omega
          rw [if_neg fun q => z q.1, if_neg n1, if_neg (show ¬ (c ∈ done ++ [c] ∧ touched ⟨[], f.1.ch, f.1.behind⟩ = true) from fun q => z q.2)]
          unfold fateAt
          rw [g]
          dsimp only
          rw [if_neg fun q => z q.2]
      · rw [if_neg fun q => y q.2]
        by_cases z : f.1.ahead ≠ [] ∧ c = b - 1
        · rw [if_pos z]
          obtain ⟨b', rfl⟩ := bpos z.1
          have ec : c = b' := by omega
          subst ec
          have z1 : aheadK k (c + 1) ≠ [] := by rw [ahb]; exact z.1
          obtain ⟨s1, _⟩ := sep K z1
          unfold fateAt
          rw [s1]
          dsimp only
          rw [if_pos ⟨(memb (c + 1)).mpr (.inr rfl), z1⟩, ahb]
        · rw [if_neg z]
          unfold fateAt
          cases q : kget k c with
          | some f' =>
            dsimp only
            by_cases m : c ∈ done
            · by_cases t : touched ⟨[], f'.1.ch, f'.1.behind⟩ = true
              · rw [if_pos ⟨m, t⟩, if_pos ⟨(memb c).mpr (.inl m), t⟩]
              · rw [if_neg fun q => t q.2, if_neg fun q => t q.2]
            · rw [if_neg fun q => m q.1, if_neg fun q => ((memb c).mp q.1).elim m y]
          | none =>
            dsimp only
            by_cases m : c + 1 ∈ done ∧ aheadK k (c + 1) ≠ []
            · rw [if_pos m, if_pos ⟨(memb _).mpr (.inl m.1), m.2⟩]
            · rw [if_neg m, if_neg]
              intro w
              rcases (memb _).mp w.1 with w1 | w1
              · exact m ⟨w1, w.2⟩
              · refine z ⟨?_, by omega⟩
                rw [← ahb, ← w1]
                exact w.2
/-- applying fates at a line -/
def setT (l : Ln) (t : Str) : Ln := match l with
  | .head _ => .head t
  | .use i _ => .use i t
  | .code _ => .code t
  | .prose _ => .prose t
def apCh (c : Ch) (l : Ln) : List Ln := match c with
  | .keep => [l]
  | .text t => [setT l t]
  | .drop => []
def putL (l : Ln) (ts : List Str) : List Ln := ts.map fun t => if l.isProse = true then .prose t else .code t
def apG (fs : Fates) (a : Nat) (l : Ln) : List Ln := match kget fs a with
  | none => [l]
  | some f => apCh f.ch l ++ putL l f.behind
theorem putL_code {l : Ln} (h : l.isProse = false) (ts : List Str) : putL l ts = codes ts := by
  unfold putL codes
  rw [h]
  rfl
theorem tele {d : List Ln} {k : Known} {fs : Fates} (K : Kok d k) (hf : ∀ a, kget fs a = fateAt k (k.map (·.1)) a) : ∀ (r : List Ln) (i : Nat), (∀ j l, r[j]? = some l → d[i + j]? = some l) →
    codes (aheadK k i) ++ ndoc (apG fs) i r = ndoc (newG k) i r ++ codes (aheadK k (i + r.length)) := by
  intro r
  induction r with
  | nil => intro i _; simp [ndoc]
  | cons l r ih =>
    intro i h
    have hl : d[i]? = some l := h 0 l rfl
    have ih := ih (i + 1) fun j l' e => by
      have := h (j + 1) l' (by simpa using e)
      rw [show i + (j + 1) = i + 1 + j by omega] at this
      exact this
    rw [ndoc, ndoc, List.length_cons, show i + (r.length + 1) = i + 1 + r.length by omega]
    have key : codes (aheadK k i) ++ apG fs i l = newG k i l ++ codes (aheadK k (i + 1)) := by
      cases g : kget k i with
      | some f =>
        obtain ⟨t, ht⟩ := K.code i f g
        rw [hl] at ht
        cases ht
        have a1 : aheadK k (i + 1) = [] := by
          cases z : aheadK k (i + 1) with
          | nil => rfl
          | cons x y =>
            have := (sep K (a := i) (by rw [z]; simp)).1
            rw [g] at this
            cases this
        have mem : i ∈ k.map (·.1) := List.mem_map.mpr ⟨_, kget_mem g, rfl⟩
        have e1 : newG k i (.code t) = codes f.1.ahead ++ chL f.1.ch (.code t) ++ codes f.1.behind := by
          unfold newG
          rw [if_pos (show (Ln.code t).isCode = true from rfl)]
          unfold lawG
          rw [g]
        have e2 : aheadK k i = f.1.ahead := by
          unfold aheadK
          rw [g]
        have e3 : apG fs i (.code t) = chL f.1.ch (.code t) ++ codes f.1.behind := by
          unfold apG
          rw [hf]
          unfold fateAt
          rw [g]
          dsimp only
          by_cases z : touched ⟨[], f.1.ch, f.1.behind⟩ = true
          · rw [if_pos ⟨mem, z⟩]
            dsimp only
            rw [putL_code rfl]
            congr 1
          · rw [if_neg fun q => z q.2]
            have z2 : (⟨[], f.1.ch, f.1.behind⟩ : Ed) = ⟨[], .keep, []⟩ := by
              unfold touched at z
              simpa using z
            injection z2 with _ z3 z4
            rw [z3, z4]
            rfl
        rw [e1, e2, e3, a1]
        simp [codes]
      | none =>
        have e2 : aheadK k i = [] := by
          unfold aheadK
          rw [g]
        have e1 : newG k i l = [l] := by
          unfold newG
          cases c : l.isCode with
          | false => rfl
          | true =>
            rw [if_pos rfl]
            unfold lawG
            rw [g]
        rw [e1, e2]
        unfold apG
        rw [hf]
        unfold fateAt
        rw [g]
        dsimp only
        by_cases z : aheadK k (i + 1) ≠ []
        · obtain ⟨_, n, hn⟩ := sep K z
          rw [hl] at hn
          cases hn
          have mem : i + 1 ∈ k.map (·.1) := by
            cases q : kget k (i + 1) with
            | none =>
              unfold aheadK at z
              rw [q] at z
              exact absurd rfl z
            | some f => exact List.mem_map.mpr ⟨_, kget_mem q, rfl⟩
          rw [if_pos ⟨mem, z⟩]
          dsimp only
          rw [putL_code rfl]
          rfl
        · rw [if_neg fun q => z q.2]
          have z2 : aheadK k (i + 1) = [] := Decidable.not_not.mp z
          rw [z2]
          rfl
    rw [← List.append_assoc, key, List.append_assoc, ih, List.append_assoc]
theorem apply_new {d : List Ln} {k : Known} {fs : Fates} (K : Kok d k) (hf : ∀ a, kget fs a = fateAt k (k.map (·.1)) a) : ndoc (apG fs) 0 d = ndoc (newG k) 0 d := by
  have h := tele K hf d 0 fun j l e => by rw [Nat.zero_add]; exact e
  rw [ahead_zero K, Nat.zero_add] at h
  have h2 : aheadK k d.length = [] := by
    unfold aheadK
    cases g : kget k d.length with
    | none => rfl
    | some f =>
      obtain ⟨t, ht⟩ := K.code _ _ g
      rw [List.getElem?_eq_none (Nat.le_refl _)] at ht
      cases ht
  rw [h2] at h
  simpa [codes] using h
theorem fates_of_ok {d : List Ln} {k : Known} (K : Kok d k) (ks : List Nat) (hp : ∀ a, a ∈ ks ↔ a ∈ k.map (·.1)) : ∀ a, kget (ks.foldl (fateStep k) []) a = fateAt k (k.map (·.1)) a := by
  intro a
  have h := fates_at K ks [] [] (fun b hb => by
    obtain ⟨v, hv⟩ := kget_of_mem ((hp b).mp hb)
    rw [hv]
    rfl) (fun b => by
      unfold fateAt
      cases kget k b <;> simp [kget]) a
  rw [List.nil_append] at h
  rw [h]
  unfold fateAt
  cases g : kget k a with
  | some f =>
    dsimp only
    by_cases z : a ∈ ks ∧ touched ⟨[], f.1.ch, f.1.behind⟩ = true
    · rw [if_pos z, if_pos ⟨(hp a).mp z.1, z.2⟩]
    · rw [if_neg z, if_neg fun q => z ⟨(hp a).mpr q.1, q.2⟩]
  | none =>
    dsimp only
    by_cases z : a + 1 ∈ ks ∧ aheadK k (a + 1) ≠ []
    · rw [if_pos z, if_pos ⟨(hp _).mp z.1, z.2⟩]
    · rw [if_neg z, if_neg fun q => z ⟨(hp _).mpr q.1, q.2⟩]

/-! ### a well-formed document -/
def vd : Bool → List Ln → Bool
  | _, [] => true
  | _, .head _ :: r => vd true r
  | _, .prose _ :: r => vd false r
  | o, _ :: r => o && vd true r
theorem vd_codes : ∀ (cs r : List Ln), (∀ l ∈ cs, l.isCode = true) → vd true (cs ++ r) = vd true r := by
  intro cs
  induction cs with
  | nil => intros; rfl
  | cons l cs ih =>
    intro r h
    have hl := h l List.mem_cons_self
    cases l with
    | code t =>
      show (true && vd true (cs ++ r)) = _
      rw [ih r fun x hx => h x (List.mem_cons_of_mem _ hx), Bool.true_and]
    | use a b => cases hl
    | head m => cases hl
    | prose m => cases hl
theorem vd_ndoc {G : Nat → Ln → List Ln} (hG : Gok G) : ∀ (d : List Ln) (o : Bool) (i : Nat), vd o d = true → vd o (ndoc G i d) = true := by
  intro d
  induction d with
  | nil => intros; rfl
  | cons l d ih =>
    intro o i h
    cases l with
    | head m =>
      rw [ndoc, hG.other i _ rfl]
      exact ih true (i + 1) h
    | prose m =>
      rw [ndoc, hG.other i _ rfl]
      exact ih false (i + 1) h
    | use a b =>
      rw [ndoc, hG.other i _ rfl]
      have h : (o && vd true d) = true := h
      rw [Bool.and_eq_true] at h
      show (o && vd true (ndoc G (i + 1) d)) = true
      rw [h.1, ih true (i + 1) h.2]
      rfl
    | code t =>
      have h : (o && vd true d) = true := h
      rw [Bool.and_eq_true] at h
      rw [ndoc, h.1, vd_codes _ _ (hG.code i _ rfl)]
      exact ih true (i + 1) h.2
end Wf
/-! A layer over HandS: what expressions and statements do, told of data alone (no heap in sight). -/
namespace Wf
open PySem L2

/-! ### data that stand still in a part I of the heap -/
mutual
inductive Dx (K : PySem.W.Frag) (I : Hp) : V → PyData → Prop
  | non : Dx K I .non .none
  | bl (b : Bool) : Dx K I (.bl b) (.bool b)
  | int (i : Int) : Dx K I (.int i) (.int i)
  | str (x : Str) : Dx K I (.str x) (.str x)
  | lst {a : Addr} {xs : List V} {ds : List PyData} : I a = some (.lst xs) → DxA K I xs ds → Dx K I (.ref a) (.list ds)
  | tup {a : Addr} {xs : List V} {ds : List PyData} : SqT K I a xs → DxA K I xs ds → Dx K I (.ref a) (.tuple ds)
inductive DxA (K : PySem.W.Frag) (I : Hp) : List V → List PyData → Prop
  | nil : DxA K I [] []
  | cons {v : V} {vs : List V} {d : PyData} {ds : List PyData} : Dx K I v d → DxA K I vs ds → DxA K I (v :: vs) (d :: ds)
end
theorem sqT_mono {K : PySem.W.Frag} {I J : Hp} {a : Addr} {xs : List V} (e : Same I J) (h : SqT K I a xs) : SqT K J a xs := by
  rcases h with (h | ⟨o, h⟩) | h
  · exact .inl (.inl (e _ _ h))
  · exact .inl (.inr ⟨o, e _ _ h⟩)
  · exact .inr h
mutual
theorem Dx.mono {K : PySem.W.Frag} {I J : Hp} (e : Same I J) : ∀ (d : PyData) (v : V), Dx K I v d → Dx K J v d
  | .none, _, h => by
    cases h
    exact .non
  | .bool b, _, h => by
    cases h
    exact .bl b
  | .int i, _, h => by
    cases h
    exact .int i
  | .str x, _, h => by
    cases h
    exact .str x
  | .list ds, _, h => by
    cases h with
    | lst h1 h2 => exact .lst (e _ _ h1) (DxA.mono e ds _ h2)
  | .tuple ds, _, h => by
    cases h with
    | tup h1 h2 => exact .tup (sqT_mono e h1) (DxA.mono e ds _ h2)
  | .dict _, _, h => by cases h
theorem DxA.mono {K : PySem.W.Frag} {I J : Hp} (e : Same I J) : ∀ (ds : List PyData) (vs : List V), DxA K I vs ds → DxA K J vs ds
  | [], _, h => by
    cases h
    exact .nil
  | d :: ds, _, h => by
    cases h with
    | cons h1 h2 => exact .cons (Dx.mono e d _ h1) (DxA.mono e ds _ h2)
end
mutual
theorem Dx.dp {K : PySem.W.Frag} {I : Hp} : ∀ (d : PyData) (v : V), Dx K I v d → Dp K I v d
  | .none, _, h => by
    cases h
    exact .non
  | .bool b, _, h => by
    cases h
    exact .bl b
  | .int i, _, h => by
    cases h
    exact .int i
  | .str x, _, h => by
    cases h
    exact .str x
  | .list ds, _, h => by
    cases h with
    | lst h1 h2 => exact .lst (SqL.of h1) (DxA.dp ds _ h2)
  | .tuple ds, _, h => by
    cases h with
    | tup h1 h2 => exact .tup h1 (DxA.dp ds _ h2)
  | .dict _, _, h => by cases h
theorem DxA.dp {K : PySem.W.Frag} {I : Hp} : ∀ (ds : List PyData) (vs : List V), DxA K I vs ds → DpAll K I vs ds
  | [], _, h => by
    cases h
    exact .nil
  | d :: ds, _, h => by
    cases h with
    | cons h1 h2 => exact .cons (Dx.dp d _ h1) (DxA.dp ds _ h2)
end
section
variable {K : PySem.W.Frag} {I : Hp}
theorem DxA.len {vs : List V} {ds : List PyData} (h : DxA K I vs ds) : vs.length = ds.length := by
  induction ds generalizing vs with
  | nil =>
    cases h
    rfl
  | cons d ds ih =>
    cases h with
    | cons h1 h2 => rw [List.length_cons, List.length_cons, ih h2]
theorem DxA.get {vs : List V} {ds : List PyData} (h : DxA K I vs ds) {i : Nat} {d : PyData} (e : ds[i]? = some d) : ∃ v, vs[i]? = some v ∧ Dx K I v d := by
  induction ds generalizing vs i with
  | nil => simp at e
  | cons d' ds ih =>
    cases h with
    | cons h1 h2 =>
      cases i with
      | zero =>
        cases e
        exact ⟨_, rfl, h1⟩
      | succ i => exact ih h2 e
theorem DxA.get' {vs : List V} {ds : List PyData} (h : DxA K I vs ds) {i : Nat} {v : V} (e : vs[i]? = some v) : ∃ d, ds[i]? = some d ∧ Dx K I v d := by
  have hl := h.len
  have hi : i < vs.length := (List.getElem?_eq_some_iff.mp e).1
  obtain ⟨v', e', r⟩ := h.get (i := i) (d := ds[i]'(hl ▸ hi)) (by simp [hl ▸ hi])
  rw [e] at e'
  cases e'
  exact ⟨_, by simp [hl ▸ hi], r⟩
theorem DxA.append {vs ws : List V} {ds es : List PyData} (h : DxA K I vs ds) (h' : DxA K I ws es) : DxA K I (vs ++ ws) (ds ++ es) := by
  induction ds generalizing vs with
  | nil =>
    cases h
    exact h'
  | cons d ds ih =>
    cases h with
    | cons h1 h2 => exact .cons h1 (ih h2)
theorem DxA.snoc {vs : List V} {ds : List PyData} {v : V} {d : PyData} (h : DxA K I vs ds) (h' : Dx K I v d) : DxA K I (vs ++ [v]) (ds ++ [d]) := h.append (.cons h' .nil)
theorem DxA.set {vs : List V} {ds : List PyData} {v : V} {d : PyData} (h : DxA K I vs ds) (h' : Dx K I v d) (i : Nat) : DxA K I (vs.set i v) (ds.set i d) := by
  induction ds generalizing vs i with
  | nil =>
    cases h
    exact .nil
  | cons d' ds ih =>
    cases h with
    | cons h1 h2 =>
      cases i with
      | zero => exact .cons h' h2
      | succ i => exact .cons h1 (ih h2 i)
theorem DxA.take {vs : List V} {ds : List PyData} (h : DxA K I vs ds) (n : Nat) : DxA K I (vs.take n) (ds.take n) := by
  induction ds generalizing vs n with
  | nil =>
    cases h
    rw [List.take_nil, List.take_nil]
    exact .nil
  | cons d' ds ih =>
    cases h with
    | cons h1 h2 =>
      cases n with
      | zero => exact .nil
      | succ n => exact .cons h1 (ih h2 n)
theorem DxA.dropLast {vs : List V} {ds : List PyData} (h : DxA K I vs ds) : DxA K I vs.dropLast ds.dropLast := by
  rw [List.dropLast_eq_take, List.dropLast_eq_take, h.len]
  exact h.take _
theorem atI_dx {vs : List V} {ds : List PyData} (h : DxA K I vs ds) {i : Int} {d : PyData} (e : atI ds i = some d) : ∃ v, atI vs i = some v ∧ Dx K I v d := by
  unfold atI at e ⊢
  rw [h.len]
  cases q : ixN ds.length i with
  | none =>
    rw [q] at e
    cases e
  | some j =>
    rw [q] at e
    exact h.get e
theorem dxa_ints {vs : List V} {ns : List Int} (h : DxA K I vs (ns.map PyData.int)) : vs = ns.map V.int := by
  induction ns generalizing vs with
  | nil =>
    cases h
    rfl
  | cons n ns ih =>
    cases h with
    | cons h1 h2 =>
      cases h1
      rw [ih h2]
      rfl
theorem dxa_strs {vs : List V} {ns : List Str} (h : DxA K I vs (ns.map PyData.str)) : vs = ns.map V.str := by
  induction ns generalizing vs with
  | nil =>
    cases h
    rfl
  | cons n ns ih =>
    cases h with
    | cons h1 h2 =>
      cases h1
      rw [ih h2]
      rfl
end
/-- what a name may hold: data; a dict of data; the script -/
inductive DD where
  | dat (d : PyData)
  | dic (es : List (Key × PyData))
  | scr (ns : List Int)
abbrev KVD (K : PySem.W.Frag) (I : Hp) : List (Key × V) → List (Key × PyData) → Prop := Paired fun p q => p.1 = q.1 ∧ Dx K I p.2 q.2
def Rp (K : PySem.W.Frag) (I : Hp) (v : V) : DD → Prop
  | .dat d => Dx K I v d
  | .dic es => ∃ a kvs, v = .ref a ∧ I a = some (.dK kvs) ∧ KVD K I kvs es
  | .scr ns => ∃ a, v = .ref a ∧ SqL K I a (ns.map V.int)
theorem KVD.mono {K : PySem.W.Frag} {I J : Hp} (e : Same I J) {kvs : List (Key × V)} {es : List (Key × PyData)} (h : KVD K I kvs es) : KVD K J kvs es :=
  Paired.mapP h fun _ _ q => ⟨q.1, q.2.mono e⟩
theorem Rp.mono {K : PySem.W.Frag} {I J : Hp} (e : Same I J) {v : V} {d : DD} (h : Rp K I v d) : Rp K J v d := by
  cases d with
  | dat d => exact Dx.mono e d v h
  | dic es =>
    obtain ⟨a, kvs, h1, h2, h3⟩ := h
    exact ⟨a, kvs, h1, e _ _ h2, h3.mono e⟩
  | scr ns =>
    obtain ⟨a, h1, h2⟩ := h
    exact ⟨a, h1, e.seq h2⟩
abbrev RpL (K : PySem.W.Frag) (I : Hp) : List V → List DD → Prop := Paired (Rp K I)
theorem RpL.mono {K : PySem.W.Frag} {I J : Hp} (e : Same I J) {vs : List V} {ds : List DD} (h : RpL K I vs ds) : RpL K J vs ds := Paired.mapP h fun _ _ q => q.mono e
theorem rpL_dx {K : PySem.W.Frag} {I : Hp} {vs : List V} {ds : List PyData} (h : RpL K I vs (ds.map DD.dat)) : DxA K I vs ds := by
  induction ds generalizing vs with
  | nil =>
    cases h
    exact .nil
  | cons d ds ih =>
    cases h with
    | cons h1 h2 => exact .cons h1 (ih h2)
def valD (es : List (Key × PyData)) (k : Key) : Option PyData := (es.find? fun q => decide (q.1 = k)).map (·.2)
theorem KVD.get {K : PySem.W.Frag} {I : Hp} {kvs : List (Key × V)} {es : List (Key × PyData)} (h : KVD K I kvs es) (k : Key) : (valD es k = none ∧ valV kvs k = none) ∨ ∃ v d, valD es k = some d ∧ valV kvs k = some v ∧ Dx K I v d := by
  induction h with
  | nil => exact .inl ⟨rfl, rfl⟩
  | @cons p q ps qs h t ih =>
    obtain ⟨e, r⟩ := h
    unfold valD valV at ih ⊢
    rw [List.find?_cons, List.find?_cons, ← e]
    by_cases c : p.1 = k
    · rw [decide_eq_true c]
      exact .inr ⟨_, _, rfl, rfl, r⟩
    · rw [decide_eq_false c]
      exact ih
def putD (es : List (Key × PyData)) (k : Key) (d : PyData) : List (Key × PyData) :=
  if (es.any fun q => decide (q.1 = k)) = true then es.map (fun q => if q.1 = k then (q.1, d) else q) else es ++ [(k, d)]
theorem KVD.any {K : PySem.W.Frag} {I : Hp} {kvs : List (Key × V)} {es : List (Key × PyData)} (h : KVD K I kvs es) (k : Key) : (kvs.any fun q => decide (q.1 = k)) = es.any fun q => decide (q.1 = k) := by
  induction h with
  | nil => rfl
  | cons h t ih => rw [List.any_cons, List.any_cons, ih, h.1]
theorem KVD.put {K : PySem.W.Frag} {I : Hp} {kvs : List (Key × V)} {es : List (Key × PyData)} (h : KVD K I kvs es) {k : Key} {v : V} {d : PyData} (r : Dx K I v d) : KVD K I (putK kvs k v) (putD es k d) := by
  unfold putK putD
  rw [h.any k]
  by_cases c : (es.any fun q => decide (q.1 = k)) = true
  · rw [if_pos c, if_pos c]
    clear c
    induction h with
    | nil => exact .nil
    | @cons p q ps qs h t ih =>
      rw [List.map_cons, List.map_cons]
      refine .cons ?_ ih
      rw [← h.1]
      by_cases e : p.1 = k
      · rw [if_pos e, if_pos e]
        exact ⟨rfl, r⟩
      · rw [if_neg e, if_neg e]
        exact h
  · rw [if_neg c, if_neg c]
    exact Paired.snoc h ⟨rfl, r⟩

/-! ### worlds: H the heap, I the part that stands still, P the table that grows -/
structure Ok (P : Addr) (I H : Hp) : Prop where
  sub : Same I H
  ip : I P = none
  tab : GxR.TabG H P
structure Wd (P : Addr) (I H I' H' : Hp) : Prop where
  ok : Ok P I' H'
  ii : Same I I'
  hh : ∀ b o, b ≠ P → H b = some o → H' b = some o
  fr : ∀ b o, H b = some o → I' b = I b
section
variable {P : Addr} {I H I1 H1 I2 H2 : Hp}
theorem Ok.atP (k : Ok P I H) : ∃ o, H P = some o := let ⟨ps, e, _⟩ := k.tab; ⟨_, e⟩
theorem Ok.ne (k : Ok P I H) {b : Addr} {o : HO} (h : H b = some o) (hn : ∀ ps, o ≠ .tbl ps) : b ≠ P := fun e => by
  obtain ⟨ps, q, _⟩ := k.tab
  rw [e, q] at h
  exact hn ps (Option.some.inj h).symm
theorem Ok.free (k : Ok P I H) {b : Addr} (h : H b = none) : I b = none ∧ b ≠ P := by
  refine ⟨k.sub.free h, fun e => ?_⟩
  obtain ⟨o, q⟩ := k.atP
  rw [e, q] at h
  cases h
theorem Wd.refl (k : Ok P I H) : Wd P I H I H := ⟨k, Same.refl I, fun _ _ _ h => h, fun _ _ _ => rfl⟩
theorem Wd.free (w : Wd P I H I1 H1) {b : Addr} (h : H1 b = none) : H b = none := by
  cases q : H b with
  | none => rfl
  | some o =>
    by_cases e : b = P
    · obtain ⟨o', q'⟩ := w.ok.atP
      rw [e, q'] at h
      cases h
    · rw [w.hh b o e q] at h
      cases h
theorem Wd.trans (a : Wd P I H I1 H1) (b : Wd P I1 H1 I2 H2) : Wd P I H I2 H2 := by
  refine ⟨b.ok, a.ii.trans b.ii, fun c o n h => b.hh c o n (a.hh c o n h), fun c o h => ?_⟩
  by_cases e : c = P
  · rw [e, b.ok.ip]
    cases q : I P with
    | none => rfl
    | some o' =>
      have := a.ii _ _ q
      rw [a.ok.ip] at this
      cases this
  · rw [b.fr c o (a.hh c o e h), a.fr c o h]
theorem Ok.new (k : Ok P I H) {p : Addr} (h : H p = none) (o : HO) : Wd P I H (upd I p o) (upd H p o) := by
  obtain ⟨hi, hp⟩ := k.free h
  refine ⟨⟨fun b u e => ?_, ?_, ?_⟩, fun b u e => ?_, fun b u _ e => ?_, fun b u e => ?_⟩
  · by_cases c : b = p
    · subst c
      rw [upd_same] at e ⊢
      exact e
    · rw [upd_ne c] at e ⊢
      exact k.sub b u e
  · rw [upd_ne (Ne.symm hp)]
    exact k.ip
  · obtain ⟨ps, e, t⟩ := k.tab
    exact ⟨ps, by rw [upd_ne (Ne.symm hp)]; exact e, t⟩
  · rw [upd_ne (ne_of_none e hi)]
    exact e
  · rw [upd_ne (ne_of_none e h)]
    exact e
  · rw [upd_ne (ne_of_none e h)]
/-- a new object that may change -/
theorem Ok.newM (k : Ok P I H) {p : Addr} (h : H p = none) (o : HO) : Wd P I H I (upd H p o) := by
  obtain ⟨hi, hp⟩ := k.free h
  refine ⟨⟨fun b u e => ?_, k.ip, ?_⟩, Same.refl I, fun b u _ e => ?_, fun b u e => rfl⟩
  · rw [upd_ne (ne_of_none e hi)]
    exact k.sub b u e
  · obtain ⟨ps, e, t⟩ := k.tab
    exact ⟨ps, by rw [upd_ne (Ne.symm hp)]; exact e, t⟩
  · rw [upd_ne (ne_of_none e h)]
    exact e
/-- an object of ours is changed -/
theorem Wd.mut (w : Wd P I H I1 H1) {p : Addr} (h : H p = none) (hi : I1 p = none) (hp : p ≠ P) (o : HO) : Wd P I H I1 (upd H1 p o) := by
  refine ⟨⟨fun b u e => ?_, w.ok.ip, ?_⟩, w.ii, fun b u n e => ?_, fun b u e => w.fr b u e⟩
  · rw [upd_ne (ne_of_none e hi)]
    exact w.ok.sub b u e
  · obtain ⟨ps, e, t⟩ := w.ok.tab
    exact ⟨ps, by rw [upd_ne (Ne.symm hp)]; exact e, t⟩
  · rw [upd_ne (ne_of_none e h)]
    exact w.hh b u n e
/-- an object of ours stands still from now on -/
theorem Wd.freeze (w : Wd P I H I1 H1) {p : Addr} {o : HO} (h : H p = none) (h1 : H1 p = some o) (hi : I1 p = none) (hp : p ≠ P) : Wd P I H (upd I1 p o) H1 := by
  refine ⟨⟨fun b u e => ?_, ?_, w.ok.tab⟩, fun b u e => ?_, w.hh, fun b u e => ?_⟩
  · by_cases c : b = p
    · subst c
      rw [upd_same] at e
      cases e
      exact h1
    · rw [upd_ne c] at e
      exact w.ok.sub b u e
  · rw [upd_ne (Ne.symm hp)]
    exact w.ok.ip
  · have := w.ii b u e
    rw [upd_ne (ne_of_none this hi)]
    exact this
  · rw [upd_ne (ne_of_none e h)]
    exact w.fr b u e
end

/-! ### what the names hold -/
inductive Slot where
  | emp
  | imm (d : DD)
  | own (p : Addr) (ds : List PyData)
  | ownD (p : Addr) (es : List (Key × PyData))
  | ownL (p : Addr) (qs : List (Addr × List PyData))
  | ownT (p : Addr) (es : List (Str × Addr × List PyData))
  | obj (x C p q : Addr) (doc firsts : PyData) (kn sa : List (Key × PyData))
abbrev Env := List Slot
/-- a list of ours at a -/
def OwnAt (K : PySem.W.Frag) (I H : Hp) (a : Addr) (ds : List PyData) : Prop := ∃ vs, H a = some (.lst vs) ∧ I a = none ∧ DxA K I vs ds
/-- the fields of our object: two data, two dicts -/
structure FldsAt (K : PySem.W.Frag) (I : Hp) (fs : List (Str × V)) (p q : Addr) (doc firsts : PyData) : Prop where
  doc : ∃ v, fs.lookup ("document" : Str) = some v ∧ Dx K I v doc
  firsts : ∃ v, fs.lookup ("firsts" : Str) = some v ∧ Dx K I v firsts
  known : fs.lookup ("known" : Str) = some (.ref p)
  said : fs.lookup ("said_at" : Str) = some (.ref q)
  add : fs.lookup ("add_program" : Str) = none
/-- our object at x, its dicts at p and q -/
structure ObjAt (K : PySem.W.Frag) (I H : Hp) (x C p q : Addr) (doc firsts : PyData) (kn sa : List (Key × PyData)) : Prop where
  hx : ∃ dx fs, H x = some (.ins C dx fs) ∧ FldsAt K I fs p q doc firsts
  hp : ∃ kvs, H p = some (.dK kvs) ∧ KVD K I kvs kn
  hq : ∃ kvs, H q = some (.dK kvs) ∧ KVD K I kvs sa
  i : I x = none ∧ I p = none ∧ I q = none
  nd : x ≠ p ∧ x ≠ q ∧ p ≠ q
def SlotOk (K : PySem.W.Frag) (I H : Hp) (s : Option V) : Slot → Prop
  | .emp => True
  | .imm d => ∃ v, s = some v ∧ Rp K I v d
  | .own p ds => s = some (.ref p) ∧ OwnAt K I H p ds
  | .ownD p es => ∃ kvs, s = some (.ref p) ∧ H p = some (.dK kvs) ∧ I p = none ∧ KVD K I kvs es
  | .ownL p qs => s = some (.ref p) ∧ H p = some (.lst (qs.map fun q => V.ref q.1)) ∧ I p = none ∧ (p :: qs.map (·.1)).Nodup ∧ ∀ q ∈ qs, OwnAt K I H q.1 q.2
  | .ownT p es => s = some (.ref p) ∧ H p = some (.dK (es.map fun e => (Sum.inr e.1, V.ref e.2.1))) ∧ I p = none ∧ (p :: es.map (·.2.1)).Nodup ∧ ∀ e ∈ es, OwnAt K I H e.2.1 e.2.2
  | .obj x C p q doc firsts kn sa => s = some (.ref x) ∧ ObjAt K I H x C p q doc firsts kn sa
def Slot.adrs : Slot → List Addr
  | .emp => []
  | .imm _ => []
  | .own p _ => [p]
  | .ownD p _ => [p]
  | .ownL p qs => p :: qs.map (·.1)
  | .ownT p es => p :: es.map (·.2.1)
  | .obj x _ p q _ _ _ _ => [x, p, q]
def sv (σ : L2.St) (i : Nat) : Option V := match σ[i]? with
  | some o => o
  | none => none
structure EnvOk (K : PySem.W.Frag) (P : Addr) (I H : Hp) (σ : L2.St) (Γ : Env) : Prop where
  ok : Ok P I H
  len : σ.length = Γ.length
  sl : ∀ i s, Γ[i]? = some s → SlotOk K I H (sv σ i) s
  nd : ∀ (i j : Nat) (s t : Slot), i ≠ j → Γ[i]? = some s → Γ[j]? = some t → ∀ a ∈ s.adrs, a ∉ t.adrs
section
variable {K : PySem.W.Frag} {P : Addr} {I H I' H' : Hp} {σ : L2.St} {Γ : Env}
theorem sv_some {σ : L2.St} {i : Nat} {v : V} (h : sv σ i = some v) : σ[i]? = some (some v) := by
  unfold sv at h
  cases e : σ[i]? with
  | none =>
    rw [e] at h
    cases h
  | some o =>
    rw [e] at h
    dsimp only at h
    rw [h]
theorem sv_set_ne {σ : L2.St} {i j : Nat} {v : Option V} (h : i ≠ j) : sv (σ.set i v) j = sv σ j := by
  unfold sv
  rw [List.getElem?_set_ne h]
theorem sv_set_eq {σ : L2.St} {i : Nat} {v : Option V} (h : i < σ.length) : sv (σ.set i v) i = v := by
  unfold sv
  rw [List.getElem?_set_self h]
theorem set_sv (σ : L2.St) (i : Nat) : σ.set i (sv σ i) = σ := by
  apply List.ext_getElem?
  intro j
  by_cases c : i = j
  · subst c
    by_cases h : i < σ.length
    · rw [List.getElem?_set_self h]
      unfold sv
      rw [List.getElem?_eq_getElem h]
    · rw [List.getElem?_eq_none (by simpa using h), List.getElem?_eq_none (by simpa using h)]
  · rw [List.getElem?_set_ne c]
/-- an object of ours is there, and is not the table -/
theorem SlotOk.adr {s : Option V} {t : Slot} (k : Ok P I H) (h : SlotOk K I H s t) {a : Addr} (ha : a ∈ t.adrs) : ∃ o, H a = some o ∧ I a = none ∧ a ≠ P := by
  have own : ∀ {b ds}, OwnAt K I H b ds → ∃ o, H b = some o ∧ I b = none ∧ b ≠ P := fun {b ds} h => by
    obtain ⟨vs, h1, h2, _⟩ := h
    exact ⟨_, h1, h2, k.ne h1 fun _ z => by cases z⟩
  cases t with
  | emp => cases ha
  | imm d => cases ha
  | own p ds =>
    rcases List.mem_singleton.mp ha with rfl
    exact own h.2
  | ownD p es =>
    rcases List.mem_singleton.mp ha with rfl
    obtain ⟨kvs, _, h1, h2, _⟩ := h
    exact ⟨_, h1, h2, k.ne h1 fun _ z => by cases z⟩
  | ownL p qs =>
    obtain ⟨_, h1, h2, _, h3⟩ := h
    rcases List.mem_cons.mp ha with rfl | ha
    · exact ⟨_, h1, h2, k.ne h1 fun _ z => by cases z⟩
    · obtain ⟨q, hq, rfl⟩ := List.mem_map.mp ha
      exact own (h3 q hq)
  | ownT p qs =>
    obtain ⟨_, h1, h2, _, h3⟩ := h
    rcases List.mem_cons.mp ha with rfl | ha
    · exact ⟨_, h1, h2, k.ne h1 fun _ z => by cases z⟩
    · obtain ⟨q, hq, rfl⟩ := List.mem_map.mp ha
      exact own (h3 q hq)
  | obj x C p q doc firsts kn sa =>
    obtain ⟨_, ⟨dx, fs, e1, _⟩, ⟨kk, e2, _⟩, ⟨ks, e3, _⟩, ⟨i1, i2, i3⟩, _⟩ := h
    have ha : a = x ∨ a = p ∨ a = q := by simpa [Slot.adrs] using ha
    rcases ha with rfl | rfl | rfl
    · exact ⟨_, e1, i1, k.ne e1 fun _ z => by cases z⟩
    · exact ⟨_, e2, i2, k.ne e2 fun _ z => by cases z⟩
    · exact ⟨_, e3, i3, k.ne e3 fun _ z => by cases z⟩
theorem OwnAt.go {a : Addr} {ds : List PyData} (h : OwnAt K I H a ds) (ii : Same I I') (ha : ∀ o, H a = some o → H' a = some o ∧ I' a = none) : OwnAt K I' H' a ds := by
  obtain ⟨vs, h1, h2, h3⟩ := h
  obtain ⟨g1, g2⟩ := ha _ h1
  exact ⟨vs, g1, g2, h3.mono ii⟩
theorem SlotOk.go {s : Option V} {t : Slot} (h : SlotOk K I H s t) (ii : Same I I') (hk : ∀ a ∈ t.adrs, ∀ o, H a = some o → H' a = some o ∧ I' a = none) : SlotOk K I' H' s t := by
  cases t with
  | emp => trivial
  | imm d =>
    obtain ⟨v, e, r⟩ := h
    exact ⟨v, e, r.mono ii⟩
  | own p ds => exact ⟨h.1, h.2.go ii (hk p List.mem_cons_self)⟩
  | ownD p es =>
    obtain ⟨kvs, e, h1, h2, h3⟩ := h
    obtain ⟨g1, g2⟩ := hk p List.mem_cons_self _ h1
    exact ⟨kvs, e, g1, g2, h3.mono ii⟩
  | ownL p qs =>
    obtain ⟨e, h1, h2, h3, h4⟩ := h
    obtain ⟨g1, g2⟩ := hk p List.mem_cons_self _ h1
    exact ⟨e, g1, g2, h3, fun q hq => (h4 q hq).go ii (hk q.1 (List.mem_cons_of_mem _ (List.mem_map.mpr ⟨q, hq, rfl⟩)))⟩
  | ownT p qs =>
    obtain ⟨e, h1, h2, h3, h4⟩ := h
    obtain ⟨g1, g2⟩ := hk p List.mem_cons_self _ h1
    exact ⟨e, g1, g2, h3, fun q hq => (h4 q hq).go ii (hk q.2.1 (List.mem_cons_of_mem _ (List.mem_map.mpr ⟨q, hq, rfl⟩)))⟩
  | obj x C p q doc firsts kn sa =>
    obtain ⟨e, ⟨dx, fs, e1, f⟩, ⟨kk, e2, r2⟩, ⟨ks, e3, r3⟩, _, nd⟩ := h
    obtain ⟨g1, j1⟩ := hk x (by simp [Slot.adrs]) _ e1
    obtain ⟨g2, j2⟩ := hk p (by simp [Slot.adrs]) _ e2
    obtain ⟨g3, j3⟩ := hk q (by simp [Slot.adrs]) _ e3
    obtain ⟨⟨vd, l1, r4⟩, ⟨vf, l2, r5⟩, l3, l4, l5⟩ := f
    exact ⟨e, ⟨dx, fs, g1, ⟨vd, l1, r4.mono ii⟩, ⟨vf, l2, r5.mono ii⟩, l3, l4, l5⟩, ⟨kk, g2, r2.mono ii⟩, ⟨ks, g3, r3.mono ii⟩, ⟨j1, j2, j3⟩, nd⟩
theorem EnvOk.mono (E : EnvOk K P I H σ Γ) (w : Wd P I H I' H') : EnvOk K P I' H' σ Γ :=
  ⟨w.ok, E.len, fun i s h => (E.sl i s h).go w.ii fun a ha o e => by
    obtain ⟨o', e', hi, hp⟩ := (E.sl i s h).adr E.ok ha
    exact ⟨w.hh a o hp e, (w.fr a o e).trans hi⟩, E.nd⟩
/-- one name and its objects are changed, all other objects of ours are kept -/
theorem EnvOk.change (E : EnvOk K P I H σ Γ) {i : Nat} {s s' : Slot} {v' : Option V} (h : Γ[i]? = some s) (ok' : Ok P I' H') (ii : Same I I')
    (hk : ∀ a o, a ∉ s.adrs → H a = some o → I a = none → a ≠ P → H' a = some o ∧ I' a = none) (ho : SlotOk K I' H' v' s') (hn : ∀ a ∈ s'.adrs, a ∈ s.adrs ∨ H a = none) : EnvOk K P I' H' (σ.set i v') (Γ.set i s') := by
  have hi : i < Γ.length := (List.getElem?_eq_some_iff.mp h).1
  have hiσ : i < σ.length := by rw [E.len]; exact hi
  have key : ∀ j t, j ≠ i → Γ[j]? = some t → ∀ a ∈ s'.adrs, a ∉ t.adrs := fun j t hj ht a ha hat => by
    rcases hn a ha with z | z
    · exact E.nd i j s t (Ne.symm hj) h ht a z hat
    · obtain ⟨o, e, _⟩ := (E.sl j t ht).adr E.ok hat
      rw [z] at e
      cases e
  refine ⟨ok', by rw [List.length_set, List.length_set]; exact E.len, fun j t ht => ?_, fun j k t u hjk ht hu a ha hau => ?_⟩
  · by_cases c : i = j
    · subst c
      rw [List.getElem?_set_self hi] at ht
      cases ht
      rw [sv_set_eq hiσ]
      exact ho
    · rw [List.getElem?_set_ne c] at ht
      rw [sv_set_ne c]
      refine (E.sl j t ht).go ii fun a ha o e => ?_
      obtain ⟨o', e', hi', hp⟩ := (E.sl j t ht).adr E.ok ha
      exact hk a o (fun z => E.nd i j s t c h ht a z ha) e hi' hp
  · by_cases c : i = j
    · subst c
      rw [List.getElem?_set_self hi] at ht
      cases ht
      rw [List.getElem?_set_ne hjk] at hu
      exact key k u (Ne.symm hjk) hu a ha hau
    · rw [List.getElem?_set_ne c] at ht
      by_cases c2 : i = k
      · subst c2
        rw [List.getElem?_set_self hi] at hu
        cases hu
        exact key j t (Ne.symm c) ht a hau ha
      · rw [List.getElem?_set_ne c2] at hu
        exact E.nd j k t u hjk ht hu a ha hau
theorem EnvOk.imm (E : EnvOk K P I H σ Γ) {i : Nat} {d : DD} (h : Γ[i]? = some (.imm d)) : ∃ v, σ[i]? = some (some v) ∧ Rp K I v d := by
  obtain ⟨v, e, r⟩ := E.sl i _ h
  exact ⟨v, sv_some e, r⟩
theorem EnvOk.own (E : EnvOk K P I H σ Γ) {i : Nat} {p : Addr} {ds : List PyData} (h : Γ[i]? = some (.own p ds)) : ∃ vs, σ[i]? = some (some (.ref p)) ∧ H p = some (.lst vs) ∧ I p = none ∧ DxA K I vs ds ∧ p ≠ P := by
  obtain ⟨e, vs, h1, h2, h3⟩ := E.sl i _ h
  exact ⟨vs, sv_some e, h1, h2, h3, E.ok.ne h1 fun _ q => by cases q⟩
theorem EnvOk.ownD (E : EnvOk K P I H σ Γ) {i : Nat} {p : Addr} {es : List (Key × PyData)} (h : Γ[i]? = some (.ownD p es)) : ∃ kvs, σ[i]? = some (some (.ref p)) ∧ H p = some (.dK kvs) ∧ I p = none ∧ KVD K I kvs es ∧ p ≠ P := by
  obtain ⟨vs, e, h1, h2, h3⟩ := E.sl i _ h
  exact ⟨vs, sv_some e, h1, h2, h3, E.ok.ne h1 fun _ q => by cases q⟩
/-- a name is given what needs no objects of ours -/
theorem EnvOk.setS (E : EnvOk K P I H σ Γ) {i : Nat} {v : Option V} {s' : Slot} (r : SlotOk K I H v s') (hn : ∀ a ∈ s'.adrs, H a = none) : EnvOk K P I H (σ.set i v) (Γ.set i s') := by
  by_cases hi : i < Γ.length
  · exact E.change (s := Γ[i]) (by simp [hi]) E.ok (Same.refl I) (fun a o _ e z _ => ⟨e, z⟩) r fun a ha => .inr (hn a ha)
  · have e1 : Γ.set i s' = Γ := List.set_eq_of_length_le (by omega)
    have e2 : σ.set i v = σ := List.set_eq_of_length_le (by rw [E.len]; omega)
    rw [e1, e2]
    exact E
theorem EnvOk.set (E : EnvOk K P I H σ Γ) {i : Nat} {v : V} {d : DD} (r : Rp K I v d) : EnvOk K P I H (σ.set i (some v)) (Γ.set i (.imm d)) :=
  E.setS ⟨v, rfl, r⟩ fun _ z => nomatch z
theorem EnvOk.forget (E : EnvOk K P I H σ Γ) {i : Nat} {v : Option V} : EnvOk K P I H (σ.set i v) (Γ.set i .emp) := E.setS trivial fun _ z => nomatch z
end
end Wf
/-! What expressions and tests come to, told of data. -/
namespace Wf
open PySem L2
section
variable (K : PySem.W.Frag) (P : Addr)
def Ev (te : TE) (Γ : Env) (D : DD → Prop) : Prop := ∀ (I H : Hp) (σ : L2.St), EnvOk K P I H σ Γ → ∀ Q : VK, (∀ v d I' H', D d → Wd P I H I' H' → Rp K I' v d → Q v H') → te σ H Q
def EvA (ta : TA) (Γ : Env) (D : List DD → Prop) : Prop := ∀ (I H : Hp) (σ : L2.St), EnvOk K P I H σ Γ → ∀ Q : List V → Hp → Prop, (∀ vs ds I' H', D ds → Wd P I H I' H' → RpL K I' vs ds → Q vs H') → ta σ H Q
def EvT (tt : TT) (Γ : Env) (b : Bool) : Prop := ∀ (I H : Hp) (σ : L2.St), EnvOk K P I H σ Γ → ∀ Q : Bool → Hp → Prop, (∀ I' H', Wd P I H I' H' → Q b H') → tt σ H Q
/-- an operator, by values: from data a, b to data c -/
def ROp (r : R2) (a b c : PyData) : Prop := ∀ (I H : Hp) (x y : V), Ok P I H → Dx K I x a → Dx K I y b → ∀ Q : VK, (∀ v I' H', Wd P I H I' H' → Dx K I' v c → Q v H') → r x y H Q
/-- a call by values -/
def RCa (r : List V → Hp → VK → Prop) (ds : List DD) (c : DD) : Prop := ∀ (I H : Hp) (vs : List V), Ok P I H → RpL K I vs ds → ∀ Q : VK, (∀ v I' H', Wd P I H I' H' → Rp K I' v c → Q v H') → r vs H Q
abbrev EvE (te : TE) (Γ : Env) (d : DD) : Prop := Ev K P te Γ (· = d)
abbrev EvD (te : TE) (Γ : Env) (d : PyData) : Prop := Ev K P te Γ (· = .dat d)
end
section
variable {K : PySem.W.Frag} {P : Addr} {Γ : Env} {ta tb te : TE} {a b c d : PyData} {D : DD → Prop}
theorem Ev.imp {D' : DD → Prop} (h : Ev K P te Γ D) (i : ∀ d, D d → D' d) : Ev K P te Γ D' := fun I H σ E Q q => h I H σ E Q fun v d I' H' hd => q v d I' H' (i d hd)
theorem Ev.is {d e : DD} (h : Ev K P te Γ (· = d)) (x : d = e) : Ev K P te Γ (· = e) := x ▸ h
theorem ev_var {i : Nat} {d : DD} (h : Γ[i]? = some (.imm d)) : EvE K P (tVar i) Γ d := fun I H σ E Q q => by
  obtain ⟨v, e, r⟩ := E.imm h
  exact ⟨v, e, q v d I H rfl (Wd.refl E.ok) r⟩
theorem ev_const {v : V} (h : ∀ I, Dx K I v d) : EvD K P (tC v) Γ d := fun I H σ E Q q => q v _ I H rfl (Wd.refl E.ok) (h I)
theorem ev_int {i : Int} : EvD K P (tC (.int i)) Γ (.int i) := ev_const fun _ => .int i
theorem ev_str {x : Str} : EvD K P (tC (.str x)) Γ (.str x) := ev_const fun _ => .str x
theorem ev_bl {x : Bool} : EvD K P (tC (.bl x)) Γ (.bool x) := ev_const fun _ => .bl x
theorem ev_non : EvD K P (tC .non) Γ .none := ev_const fun _ => .non
theorem ev_op {r : R2} (ha : EvD K P ta Γ a) (hb : EvD K P tb Γ b) (hr : ROp K P r a b c) : EvD K P (tOp r ta tb) Γ c := fun I H σ E Q q => by
  refine ha I H σ E _ fun x da I1 H1 ea w1 r1 => ?_
  subst ea
  refine hb I1 H1 σ (E.mono w1) _ fun y db I2 H2 eb w2 r2 => ?_
  subst eb
  exact hr I2 H2 x y w2.ok (Dx.mono w2.ii _ _ r1) r2 Q fun v I3 H3 w3 r3 => q v _ I3 H3 rfl ((w1.trans w2).trans w3) r3
theorem ev_opP {r : R2} {D1 D2 : DD → Prop} (ha : Ev K P ta Γ D1) (hb : Ev K P tb Γ D2) (hr : ∀ a b, D1 a → D2 b → ∃ a' b' c, a = .dat a' ∧ b = .dat b' ∧ ROp K P r a' b' c ∧ D (.dat c)) : Ev K P (tOp r ta tb) Γ D := fun I H σ E Q q => by
  refine ha I H σ E _ fun x da I1 H1 ea w1 r1 => ?_
  refine hb I1 H1 σ (E.mono w1) _ fun y db I2 H2 eb w2 r2 => ?_
  obtain ⟨a', b', c, rfl, rfl, h, hD⟩ := hr _ _ ea eb
  exact h I2 H2 x y w2.ok (Dx.mono w2.ii _ _ r1) r2 Q fun v I3 H3 w3 r3 => q v _ I3 H3 hD ((w1.trans w2).trans w3) r3
/-- the first operand is of any one kind (a dict, the script) -/
theorem ev_un {r : V → Hp → VK → Prop} {f : PyData} (ha : EvD K P ta Γ a) (hr : ∀ (H : Hp) (I : Hp) (x : V), Ok P I H → Dx K I x a → ∀ Q : VK, (∀ v, Dx K I v f → Q v H) → r x H Q) : EvD K P (tUn r ta) Γ f := fun I H σ E Q q => by
  refine ha I H σ E _ fun x da I1 H1 ea w1 r1 => ?_
  subst ea
  exact hr H1 I1 x w1.ok r1 Q fun v r2 => q v _ I1 H1 rfl w1 r2

/-! ### arguments -/
theorem ea_nil : EvA K P tNil Γ (· = []) := fun I H σ E Q q => q [] [] I H rfl (Wd.refl E.ok) .nil
theorem ea_consP {ts : TA} {D' : List DD → Prop} (h : Ev K P te Γ D) (hr : EvA K P ts Γ D') : EvA K P (tCons te ts) Γ (fun l => ∃ d r, l = d :: r ∧ D d ∧ D' r) := fun I H σ E Q q => by
  refine h I H σ E _ fun x d1 I1 H1 e1 w1 r1 => ?_
  refine hr I1 H1 σ (E.mono w1) _ fun vs ds I2 H2 e2 w2 r2 => ?_
  exact q (x :: vs) (d1 :: ds) I2 H2 ⟨_, _, rfl, e1, e2⟩ (w1.trans w2) (.cons (r1.mono w2.ii) r2)
theorem ea_cons {ts : TA} {d : DD} {ds : List DD} (h : EvE K P te Γ d) (hr : EvA K P ts Γ (· = ds)) : EvA K P (tCons te ts) Γ (· = d :: ds) := fun I H σ E Q q =>
  ea_consP h hr I H σ E Q fun vs ds' I' H' ⟨_, _, e, e1, e2⟩ => q vs ds' I' H' (by rw [e, e1, e2])
theorem EvA.imp {ts : TA} {D D' : List DD → Prop} (h : EvA K P ts Γ D) (i : ∀ d, D d → D' d) : EvA K P ts Γ D' := fun I H σ E Q q => h I H σ E Q fun v d I' H' hd => q v d I' H' (i d hd)
theorem ev_tup {ts : TA} {ds : List PyData} (h : EvA K P ts Γ (· = ds.map DD.dat)) (hl : ds.length ≤ 1000 := by simp) : EvD K P (tTup ts) Γ (.tuple ds) := fun I H σ E Q q => by
  refine h I H σ E _ fun vs ds' I1 H1 e1 w1 r1 => ?_
  subst e1
  have r := rpL_dx r1
  refine ⟨by rw [r.len, sizeLine_eq]; omega, fun p hp => ?_⟩
  have w2 := w1.ok.new hp (.tup vs)
  exact q _ _ _ _ rfl (w1.trans w2) (Dx.tup (SqT.of upd_same) (DxA.mono w2.ii _ _ r))
theorem ev_tupP {ts : TA} {A : List DD → Prop} (h : EvA K P ts Γ A) (hA : ∀ l, A l → ∃ ds : List PyData, l = ds.map DD.dat ∧ ds.length ≤ 1000 ∧ D (.dat (.tuple ds))) : Ev K P (tTup ts) Γ D := fun I H σ E Q q => by
  refine h I H σ E _ fun vs ds' I1 H1 e1 w1 r1 => ?_
  obtain ⟨ds, rfl, hl, hD⟩ := hA _ e1
  have r := rpL_dx r1
  refine ⟨by rw [r.len, sizeLine_eq]; omega, fun p hp => ?_⟩
  have w2 := w1.ok.new hp (.tup vs)
  exact q _ _ _ _ hD (w1.trans w2) (Dx.tup (SqT.of upd_same) (DxA.mono w2.ii _ _ r))
theorem ev_lst {ts : TA} {ds : List PyData} (h : EvA K P ts Γ (· = ds.map DD.dat)) (hl : ds.length ≤ 1000 := by simp) : EvD K P (tLst ts) Γ (.list ds) := fun I H σ E Q q => by
  refine h I H σ E _ fun vs ds' I1 H1 e1 w1 r1 => ?_
  subst e1
  have r := rpL_dx r1
  refine ⟨by rw [r.len, sizeLine_eq]; omega, fun p hp => ?_⟩
  have w2 := w1.ok.new hp (.lst vs)
  exact q _ _ _ _ rfl (w1.trans w2) (Dx.lst upd_same (DxA.mono w2.ii _ _ r))
theorem ev_callB {r : List V → Hp → VK → Prop} {ts : TA} {ds : List DD} {f : DD} (h : EvA K P ts Γ (· = ds)) (hr : RCa K P r ds f) : EvE K P (tCB r ts) Γ f := fun I H σ E Q q => by
  refine h I H σ E _ fun vs ds' I1 H1 e1 w1 r1 => ?_
  subst e1
  exact hr I1 H1 vs w1.ok r1 Q fun v I2 H2 w2 r2 => q v _ I2 H2 rfl (w1.trans w2) r2

/-! ### promises of defs that leave what stood as it was -/
def spT {X : Type} (K : PySem.W.Frag) (P : Addr) (args : X → List DD) (pre : X → Prop) (post : X → DD → Prop) : Sp := fun vs H Q _ => ∃ (I : Hp) (x : X), RpL K I vs (args x) ∧ Ok P I H ∧ pre x ∧ ∀ r v I' H', post x r → Wd P I H I' H' → Rp K I' v r → Q v H'
theorem ev_call {X : Type} {args : X → List DD} {pre : X → Prop} {post : X → DD → Prop} {E : XK} {ts : TA} (x : X) (h : EvA K P ts Γ (· = args x)) (hp : pre x) : Ev K P (tCall (spT K P args pre post) [] E ts) Γ (post x) := fun I H σ E Q q => by
  refine h I H σ E _ fun vs ds' I1 H1 e1 w1 r1 => ?_
  subst e1
  show spT K P args pre post (vs ++ []) H1 Q _
  rw [List.append_nil]
  exact ⟨I1, x, r1, w1.ok, hp, fun r v I2 H2 hr w2 r2 => q v r I2 H2 hr (w1.trans w2) r2⟩
theorem ev_callP {X : Type} {args : X → List DD} {pre : X → Prop} {post : X → DD → Prop} {E : XK} {ts : TA} {A : List DD → Prop} (h : EvA K P ts Γ A) (hp : ∀ l, A l → ∃ x, l = args x ∧ pre x ∧ ∀ r, post x r → D r) : Ev K P (tCall (spT K P args pre post) [] E ts) Γ D := fun I H σ E Q q => by
  refine h I H σ E _ fun vs ds' I1 H1 e1 w1 r1 => ?_
  obtain ⟨x, ex, px, rx⟩ := hp _ e1
  subst ex
  show spT K P args pre post (vs ++ []) H1 Q _
  rw [List.append_nil]
  exact ⟨I1, x, r1, w1.ok, px, fun r v I2 H2 hr w2 r2 => q v r I2 H2 (rx r hr) (w1.trans w2) r2⟩

/-! ### tests and truth values -/
theorem et_test {k : Bool} (h : EvD K P te Γ (.bool k)) : EvT K P (tTest te) Γ k := fun I H σ E Q q => h I H σ E _ fun v d I' H' e w r => by
  subst e
  cases r
  exact ⟨k, rfl, q I' H' w⟩
theorem et_B {k : Bool} (h : EvD K P te Γ (.bool k)) : EvT K P (tB te) Γ k := fun I H σ E Q q => h I H σ E _ fun v d I' H' e w r => by
  subst e
  cases r
  exact ⟨k, rfl, q I' H' w⟩
theorem EvT.is {t : TT} {k j : Bool} (h : EvT K P t Γ k) (e : k = j) : EvT K P t Γ j := e ▸ h
theorem et_and {t u : TT} {k j : Bool} (h1 : EvT K P t Γ k) (h2 : k = true → EvT K P u Γ j) : EvT K P (tAnd t u) Γ (k && j) := fun I H σ E Q q => h1 I H σ E _ fun I1 H1 w1 => by
  cases k with
  | true =>
    show u σ H1 Q
    exact h2 rfl I1 H1 σ (E.mono w1) Q fun I2 H2 w2 => q I2 H2 (w1.trans w2)
  | false =>
    show Q false H1
    exact q I1 H1 w1
theorem et_or {t u : TT} {k j : Bool} (h1 : EvT K P t Γ k) (h2 : k = false → EvT K P u Γ j) : EvT K P (tOr t u) Γ (k || j) := fun I H σ E Q q => h1 I H σ E _ fun I1 H1 w1 => by
  cases k with
  | true =>
    show Q true H1
    exact q I1 H1 w1
  | false =>
    show u σ H1 Q
    exact h2 rfl I1 H1 σ (E.mono w1) Q fun I2 H2 w2 => q I2 H2 (w1.trans w2)
theorem et_not {t : TT} {k : Bool} (h : EvT K P t Γ k) : EvT K P (tNot t) Γ (!k) := fun I H σ E Q q => h I H σ E _ fun I1 H1 w1 => q I1 H1 w1
theorem ev_andV {k j : Bool} (h1 : EvD K P ta Γ (.bool k)) (h2 : k = true → EvD K P tb Γ (.bool j)) : EvD K P (tAndV ta tb) Γ (.bool (k && j)) := fun I H σ E Q q => h1 I H σ E _ fun v d I1 H1 e w1 r => by
  subst e
  cases r
  refine ⟨k, rfl, ?_⟩
  cases k with
  | true =>
    show tb σ H1 Q
    exact h2 rfl I1 H1 σ (E.mono w1) Q fun v d I2 H2 e w2 r => q v d I2 H2 e (w1.trans w2) r
  | false =>
    show Q (.bl false) H1
    exact q _ _ I1 H1 rfl w1 (Dx.bl false)
theorem ev_orV {k j : Bool} (h1 : EvD K P ta Γ (.bool k)) (h2 : k = false → EvD K P tb Γ (.bool j)) : EvD K P (tOrV ta tb) Γ (.bool (k || j)) := fun I H σ E Q q => h1 I H σ E _ fun v d I1 H1 e w1 r => by
  subst e
  cases r
  refine ⟨k, rfl, ?_⟩
  cases k with
  | true =>
    show Q (.bl true) H1
    exact q _ _ I1 H1 rfl w1 (Dx.bl true)
  | false =>
    show tb σ H1 Q
    exact h2 rfl I1 H1 σ (E.mono w1) Q fun v d I2 H2 e w2 r => q v d I2 H2 e (w1.trans w2) r
theorem ev_if {t : TT} {k : Bool} (h : EvT K P t Γ k) (h1 : k = true → Ev K P ta Γ D) (h2 : k = false → Ev K P tb Γ D) : Ev K P (tIf t ta tb) Γ D := fun I H σ E Q q => h I H σ E _ fun I1 H1 w1 => by
  cases k with
  | true =>
    show ta σ H1 Q
    exact h1 rfl I1 H1 σ (E.mono w1) Q fun v d I2 H2 e w2 r => q v d I2 H2 e (w1.trans w2) r
  | false =>
    show tb σ H1 Q
    exact h2 rfl I1 H1 σ (E.mono w1) Q fun v d I2 H2 e w2 r => q v d I2 H2 e (w1.trans w2) r
/-- truth by value -/
abbrev tTru (K : PySem.W.Frag) (ta : TE) : TT := fun σ H Q => ta σ H fun x H' => ∃ k, TruV K x H' k ∧ Q k H'
theorem et_tuple {ds : List PyData} (h : EvD K P te Γ (.tuple ds)) : EvT K P (tTru K te) Γ (!ds.isEmpty) := fun I H σ E Q q => h I H σ E _ fun v d I' H' e w r => by
  subst e
  cases r with
  | @tup a xs _ h1 h2 =>
    refine ⟨_, .inr (.inl ⟨xs, sqT_mono w.ok.sub h1, rfl⟩), ?_⟩
    have e : (!xs.isEmpty) = !ds.isEmpty := by
      have := h2.len
      cases xs <;> cases ds <;> simp_all
    rw [e]
    exact q I' H' w
theorem et_list {ds : List PyData} (h : EvD K P te Γ (.list ds)) : EvT K P (tTru K te) Γ (!ds.isEmpty) := fun I H σ E Q q => h I H σ E _ fun v d I' H' e w r => by
  subst e
  cases r with
  | @lst a xs _ h1 h2 =>
    refine ⟨_, .inl ⟨xs, SqL.of (w.ok.sub _ _ h1), rfl⟩, ?_⟩
    have e : (!xs.isEmpty) = !ds.isEmpty := by
      have := h2.len
      cases xs <;> cases ds <;> simp_all
    rw [e]
    exact q I' H' w
theorem et_own {i : Nat} {p : Addr} {ds : List PyData} (h : Γ[i]? = some (.own p ds)) : EvT K P (tTru K (tVar i)) Γ (!ds.isEmpty) := fun I H σ E Q q => by
  obtain ⟨vs, e, h1, h2, h3, _⟩ := E.own h
  refine ⟨_, e, _, .inl ⟨vs, SqL.of h1, rfl⟩, ?_⟩
  have e : (!vs.isEmpty) = !ds.isEmpty := by
    have := h3.len
    cases vs <;> cases ds <;> simp_all
  rw [e]
  exact q I H (Wd.refl E.ok)

/-! ### operators -/
theorem ROp.is {r : R2} {e : PyData} (h : ROp K P r a b c) (x : c = e) : ROp K P r a b e := x ▸ h
theorem rop_I0 {g : Int → Int → V} {f : Int → Int → PyData} {i j : Int} (hg : ∀ I, Dx K I (g i j) (f i j)) : ROp K P (rI0 g) (.int i) (.int j) (f i j) := fun I H x y k hx hy Q q => by
  cases hx
  cases hy
  exact ⟨i, j, rfl, rfl, q _ I H (Wd.refl k) (hg I)⟩
theorem rop_add {i j : Int} : ROp K P (rI0 fun i j => .int (i + j)) (.int i) (.int j) (.int (i + j)) := rop_I0 (f := fun i j => .int (i + j)) fun _ => .int _
theorem rop_sub {i j : Int} : ROp K P (rI0 fun i j => .int (i - j)) (.int i) (.int j) (.int (i - j)) := rop_I0 (f := fun i j => .int (i - j)) fun _ => .int _
theorem rop_lt {i j : Int} : ROp K P (rI0 fun i j => .bl (decide (i < j))) (.int i) (.int j) (.bool (decide (i < j))) := rop_I0 (f := fun i j => .bool (decide (i < j))) fun _ => .bl _
theorem rop_le {i j : Int} : ROp K P (rI0 fun i j => .bl (decide (i ≤ j))) (.int i) (.int j) (.bool (decide (i ≤ j))) := rop_I0 (f := fun i j => .bool (decide (i ≤ j))) fun _ => .bl _
theorem rop_gt {i j : Int} : ROp K P (rI0 fun i j => .bl (decide (j < i))) (.int i) (.int j) (.bool (decide (j < i))) := rop_I0 (f := fun i j => .bool (decide (j < i))) fun _ => .bl _
theorem rop_ge {i j : Int} : ROp K P (rI0 fun i j => .bl (decide (j ≤ i))) (.int i) (.int j) (.bool (decide (j ≤ i))) := rop_I0 (f := fun i j => .bool (decide (j ≤ i))) fun _ => .bl _
theorem rop_I {C : Int → Int → Prop} {g : Int → Int → V} {f : PyData} {i j : Int} (hc : C i j) (hg : ∀ I, Dx K I (g i j) f) : ROp K P (rI C g) (.int i) (.int j) f := fun I H x y k hx hy Q q => by
  cases hx
  cases hy
  exact ⟨i, j, rfl, rfl, hc, q _ I H (Wd.refl k) (hg I)⟩
theorem rop_mul {i j : Int} (h : CMul i j) : ROp K P (rI CMul fun i j => .int (i * j)) (.int i) (.int j) (.int (i * j)) := rop_I h fun _ => .int _
theorem rop_mod {i j : Int} (h : 0 < j) : ROp K P (rI (fun _ j => 0 < j) fun i j => .int (i % j)) (.int i) (.int j) (.int (i % j)) := rop_I h fun _ => .int _
theorem rop_fdiv {i j : Int} (h : CDiv i j) : ROp K P (rI CDiv fun i j => .int (i / j)) (.int i) (.int j) (.int (i / j)) := rop_I h fun _ => .int _
theorem rop_pow {i j : Int} (h : CPow i j) : ROp K P (rI CPow fun i j => .int (i ^ j.toNat)) (.int i) (.int j) (.int (i ^ j.toNat)) := rop_I h fun _ => .int _
theorem rop_eqS {i j : Str} : ROp K P rEq (.str i) (.str j) (.bool (decide (i = j))) := fun I H x y k hx hy Q q => by
  cases hx
  cases hy
  refine ⟨rfl, q _ I H (Wd.refl k) ?_⟩
  have e : decide (V.str i = V.str j) = decide (i = j) := by
    by_cases c : i = j
    · simp [c]
    · rw [decide_eq_false c, decide_eq_false fun z => c (by injection z)]
  rw [e]
  exact .bl _
theorem rop_neS {i j : Str} : ROp K P rNe (.str i) (.str j) (.bool (!decide (i = j))) := fun I H x y k hx hy Q q => by
  cases hx
  cases hy
  refine ⟨rfl, q _ I H (Wd.refl k) ?_⟩
  have e : decide (V.str i = V.str j) = decide (i = j) := by
    by_cases c : i = j
    · simp [c]
    · rw [decide_eq_false c, decide_eq_false fun z => c (by injection z)]
  rw [e]
  exact .bl _
theorem rop_eqI {i j : Int} : ROp K P rEq (.int i) (.int j) (.bool (decide (i = j))) := fun I H x y k hx hy Q q => by
  cases hx
  cases hy
  refine ⟨rfl, q _ I H (Wd.refl k) ?_⟩
  have e : decide (V.int i = V.int j) = decide (i = j) := by
    by_cases c : i = j
    · simp [c]
    · rw [decide_eq_false c, decide_eq_false fun z => c (by injection z)]
  rw [e]
  exact .bl _
theorem rop_eqD (ha : SeqAt.shaped a = true) (hb : SeqAt.shaped b = true) : ROp K P (rEqD K) a b (.bool (PyData.eqv a b)) := fun I H x y k hx hy Q q =>
  ⟨a, b, (Dx.mono k.sub _ _ hx).dp, (Dx.mono k.sub _ _ hy).dp, ha, hb, q _ I H (Wd.refl k) (.bl _)⟩
theorem rop_neD (ha : SeqAt.shaped a = true) (hb : SeqAt.shaped b = true) : ROp K P (rNeD K) a b (.bool (!PyData.eqv a b)) := fun I H x y k hx hy Q q =>
  ⟨a, b, (Dx.mono k.sub _ _ hx).dp, (Dx.mono k.sub _ _ hy).dp, ha, hb, q _ I H (Wd.refl k) (.bl _)⟩
theorem rop_catS {i j : Str} (h : i.length + j.length ≤ 100000) : ROp K P (fun x y H Q => ∃ i j, x = .str i ∧ y = .str j ∧ i.length + j.length ≤ sizeLine ∧ Q (.str (i ++ j)) H) (.str i) (.str j) (.str (i ++ j)) := fun I H x y k hx hy Q q => by
  cases hx
  cases hy
  exact ⟨i, j, rfl, rfl, by rw [sizeLine_eq]; omega, q _ I H (Wd.refl k) (.str _)⟩
theorem rop_ixT {ds : List PyData} {i : Int} (h : atI ds i = some c) : ROp K P (rIxT K) (.tuple ds) (.int i) c := fun I H x y k hx hy Q q => by
  cases hy
  cases hx with
  | @tup p xs _ h1 h2 =>
    obtain ⟨v, e, r⟩ := atI_dx h2 h
    exact ⟨p, xs, i, v, rfl, rfl, sqT_mono k.sub h1, e, q _ I H (Wd.refl k) r⟩
theorem rop_ixL {ds : List PyData} {i : Int} (h : atI ds i = some c) : ROp K P (rIxL K) (.list ds) (.int i) c := fun I H x y k hx hy Q q => by
  cases hy
  cases hx with
  | @lst p xs _ h1 h2 =>
    obtain ⟨v, e, r⟩ := atI_dx h2 h
    exact ⟨p, xs, i, v, rfl, rfl, SqL.of (k.sub _ _ h1), e, q _ I H (Wd.refl k) r⟩
theorem rop_ixS {z : Str} {i : Int} {u : Nat} (hz : z.length ≤ 100000) (h : atI z.cps.toList i = some u) : ROp K P rIxS (.str z) (.int i) (.str ⟨#[u]⟩) := fun I H x y k hx hy Q q => by
  cases hy
  cases hx
  exact ⟨z, i, u, rfl, rfl, by rw [sizeLine_eq]; omega, h, q _ I H (Wd.refl k) (.str _)⟩
/-- an item of a list of ours -/
theorem ev_ixOwn {i : Nat} {p : Addr} {ds : List PyData} {j : Int} (h : Γ[i]? = some (.own p ds)) (hb : EvD K P tb Γ (.int j)) (hj : atI ds j = some c) : EvD K P (tOp (rIxL K) (tVar i) tb) Γ c := fun I H σ E Q q => by
  obtain ⟨vs, e, _, _, _, _⟩ := E.own h
  refine ⟨_, e, ?_⟩
  refine hb I H σ E _ fun y db I2 H2 eb w2 r2 => ?_
  subst eb
  cases r2
  obtain ⟨vs2, e2, h1, _, h3, _⟩ := (E.mono w2).own h
  obtain ⟨v, ev, r⟩ := atI_dx h3 hj
  exact ⟨p, vs2, j, v, rfl, rfl, SqL.of h1, ev, q _ _ I2 H2 rfl w2 r⟩
theorem inV_int {n : Int} {ns : List Int} : inV (.int n) (ns.map V.int) = decide (n ∈ ns) := by
  unfold inV
  induction ns with
  | nil => rfl
  | cons m ns ih =>
    rw [List.map_cons, List.any_cons, ih]
    show (m == n || decide (n ∈ ns)) = _
    by_cases c : m = n
    · subst c; simp
    · have c' : ¬ n = m := fun z => c z.symm
      have e : (m == n) = false := by simpa using c
      rw [e]
      simp [c']
theorem inV_str {n : Str} {ns : List Str} : inV (.str n) (ns.map V.str) = decide (n ∈ ns) := by
  unfold inV
  induction ns with
  | nil => rfl
  | cons m ns ih =>
    rw [List.map_cons, List.any_cons, ih]
    show (m == n || decide (n ∈ ns)) = _
    by_cases c : m = n
    · subst c; simp
    · have c' : ¬ n = m := fun z => c z.symm
      have e : (m == n) = false := by simpa using c
      rw [e]
      simp [c']
theorem flat_int {ns : List Int} : (ns.map V.int).all flatV = true := by
  induction ns with
  | nil => rfl
  | cons n ns ih => rw [List.map_cons, List.all_cons, ih]; rfl
theorem flat_str {ns : List Str} : (ns.map V.str).all flatV = true := by
  induction ns with
  | nil => rfl
  | cons n ns ih => rw [List.map_cons, List.all_cons, ih]; rfl
theorem rop_inI {neg : Bool} {n : Int} {ns : List Int} : ROp K P (rIn K neg) (.int n) (.list (ns.map .int)) (.bool (if neg then !decide (n ∈ ns) else decide (n ∈ ns))) := fun I H x y k hx hy Q q => by
  cases hx
  cases hy with
  | @lst p xs _ h1 h2 =>
    rw [dxa_ints h2] at h1
    refine ⟨p, _, rfl, .inl (SqL.of (k.sub _ _ h1)), rfl, flat_int, ?_⟩
    rw [inV_int]
    exact q _ I H (Wd.refl k) (.bl _)
theorem rop_inS {neg : Bool} {n : Str} {ns : List Str} : ROp K P (rIn K neg) (.str n) (.list (ns.map .str)) (.bool (if neg then !decide (n ∈ ns) else decide (n ∈ ns))) := fun I H x y k hx hy Q q => by
  cases hx
  cases hy with
  | @lst p xs _ h1 h2 =>
    rw [dxa_strs h2] at h1
    refine ⟨p, _, rfl, .inl (SqL.of (k.sub _ _ h1)), rfl, flat_str, ?_⟩
    rw [inV_str]
    exact q _ I H (Wd.refl k) (.bl _)
theorem rop_inST {neg : Bool} {n : Str} {ns : List Str} : ROp K P (rIn K neg) (.str n) (.tuple (ns.map .str)) (.bool (if neg then !decide (n ∈ ns) else decide (n ∈ ns))) := fun I H x y k hx hy Q q => by
  cases hx
  cases hy with
  | @tup p xs _ h1 h2 =>
    rw [dxa_strs h2] at h1
    refine ⟨p, _, rfl, .inr (sqT_mono k.sub h1), rfl, flat_str, ?_⟩
    rw [inV_str]
    exact q _ I H (Wd.refl k) (.bl _)
/-- x in xs, xs a list of ours of texts -/
theorem ev_inOwn {neg : Bool} {i : Nat} {p : Addr} {n : Str} {ns : List Str} (ha : EvD K P ta Γ (.str n)) (h : Γ[i]? = some (.own p (ns.map .str))) : EvD K P (tOp (rIn K neg) ta (tVar i)) Γ (.bool (if neg then !decide (n ∈ ns) else decide (n ∈ ns))) := fun I H σ E Q q => by
  refine ha I H σ E _ fun y db I2 H2 eb w2 r2 => ?_
  subst eb
  cases r2
  obtain ⟨vs2, e2, h1, _, h3, _⟩ := (E.mono w2).own h
  refine ⟨_, e2, p, _, rfl, .inl (SqL.of h1), rfl, ?_, ?_⟩
  · rw [dxa_strs h3]
    exact flat_str
  · rw [dxa_strs h3, inV_str]
    exact q _ _ I2 H2 rfl w2 (Dx.bl _)
theorem rop_catL {as bs : List PyData} (h : as.length + bs.length ≤ 100000) : ROp K P rCat (.list as) (.list bs) (.list (as ++ bs)) := fun I H x y k hx hy Q q => by
  cases hx with
  | @lst p xs _ h1 h2 =>
    cases hy with
    | @lst p' ys _ h1' h2' =>
      refine ⟨p, p', xs, ys, rfl, rfl, k.sub _ _ h1, k.sub _ _ h1', by rw [h2.len, h2'.len, sizeLine_eq]; omega, fun l hl => ?_⟩
      have w := k.new hl (.lst (xs ++ ys))
      exact q _ _ _ w (.lst upd_same ((h2.mono w.ii).append (h2'.mono w.ii)))

/-! ### calls of built-ins -/
def rLen (K : PySem.W.Frag) : List V → Hp → VK → Prop := fun xs H Q => ∃ x n, xs = [x] ∧ LenV K x H n ∧ Q (.int n) H
theorem rc_lenL {ds : List PyData} : RCa K P (rLen K) [.dat (.list ds)] (.dat (.int ds.length)) := fun I H vs k h Q q => by
  cases h with
  | cons h1 h2 =>
    cases h2
    cases h1 with
    | @lst p xs _ e r =>
      refine ⟨_, xs.length, rfl, .inl ⟨xs, SqL.of (k.sub _ _ e), rfl⟩, ?_⟩
      rw [r.len]
      exact q _ I H (Wd.refl k) (Dx.int _)
theorem rc_lenT {ds : List PyData} : RCa K P (rLen K) [.dat (.tuple ds)] (.dat (.int ds.length)) := fun I H vs k h Q q => by
  cases h with
  | cons h1 h2 =>
    cases h2
    cases h1 with
    | @tup p xs _ e r =>
      refine ⟨_, xs.length, rfl, .inr ⟨xs, sqT_mono k.sub e, rfl⟩, ?_⟩
      rw [r.len]
      exact q _ I H (Wd.refl k) (Dx.int _)
theorem rc_lenS {z : Str} (hz : z.length ≤ 100000) : RCa K P (rLen K) [.dat (.str z)] (.dat (.int z.length)) := fun I H vs k h Q q => by
  cases h with
  | cons h1 h2 =>
    cases h2
    cases h1
    exact ⟨_, z.length, rfl, ⟨by rw [sizeLine_eq]; omega, rfl⟩, q _ I H (Wd.refl k) (Dx.int _)⟩
theorem rc_lenC {ns : List Int} : RCa K P (rLen K) [.scr ns] (.dat (.int ns.length)) := fun I H vs k h Q q => by
  cases h with
  | cons h1 h2 =>
    cases h2
    obtain ⟨p, rfl, e⟩ := h1
    refine ⟨_, (ns.map V.int).length, rfl, .inl ⟨_, k.sub.seq e, rfl⟩, ?_⟩
    rw [List.length_map]
    exact q _ I H (Wd.refl k) (Dx.int _)
def rListOf (K : PySem.W.Frag) : List V → Hp → VK → Prop := fun xs H Q => ∃ p ys, xs = [.ref p] ∧ (SqL K H p ys ∨ SqT K H p ys) ∧ ∀ l, H l = none → Q (.ref l) (upd H l (.lst ys))
theorem rc_listL {ds : List PyData} : RCa K P (rListOf K) [.dat (.list ds)] (.dat (.list ds)) := fun I H vs k h Q q => by
  cases h with
  | cons h1 h2 =>
    cases h2
    cases h1 with
    | @lst p xs _ e r =>
      refine ⟨p, xs, rfl, .inl (SqL.of (k.sub _ _ e)), fun l hl => ?_⟩
      have w := k.new hl (.lst xs)
      exact q _ _ _ w (Dx.lst upd_same (r.mono w.ii))
theorem rc_listT {ds : List PyData} : RCa K P (rListOf K) [.dat (.tuple ds)] (.dat (.list ds)) := fun I H vs k h Q q => by
  cases h with
  | cons h1 h2 =>
    cases h2
    cases h1 with
    | @tup p xs _ e r =>
      refine ⟨p, xs, rfl, .inr (sqT_mono k.sub e), fun l hl => ?_⟩
      have w := k.new hl (.lst xs)
      exact q _ _ _ w (Dx.lst upd_same (r.mono w.ii))
def rTupOf (K : PySem.W.Frag) : List V → Hp → VK → Prop := fun xs H Q => ∃ p ys, xs = [.ref p] ∧ ((SqL K H p ys ∧ ∀ l, H l = none → Q (.ref l) (upd H l (.tup ys))) ∨ (SqT K H p ys ∧ Q (.ref p) H))
theorem rc_tupL {ds : List PyData} : RCa K P (rTupOf K) [.dat (.list ds)] (.dat (.tuple ds)) := fun I H vs k h Q q => by
  cases h with
  | cons h1 h2 =>
    cases h2
    cases h1 with
    | @lst p xs _ e r =>
      refine ⟨p, xs, rfl, .inl ⟨SqL.of (k.sub _ _ e), fun l hl => ?_⟩⟩
      have w := k.new hl (.tup xs)
      exact q _ _ _ w (Dx.tup (SqT.of upd_same) (r.mono w.ii))
theorem rc_sum {ns : List Int} : RCa K P (rSum K) [.dat (.list (ns.map .int))] (.dat (.int ns.sum)) := fun I H vs k h Q q => by
  cases h with
  | cons h1 h2 =>
    cases h2
    cases h1 with
    | @lst p xs _ e r =>
      rw [dxa_ints r] at e
      exact ⟨p, ns, rfl, SqL.of (k.sub _ _ e), q _ I H (Wd.refl k) (Dx.int _)⟩
/-- len of a list of ours -/
theorem ev_lenOwn {i : Nat} {p : Addr} {ds : List PyData} (h : Γ[i]? = some (.own p ds)) : EvD K P (tCB (rLen K) (tCons (tVar i) tNil)) Γ (.int ds.length) := fun I H σ E Q q => by
  obtain ⟨vs, e, h1, _, h3, _⟩ := E.own h
  refine ⟨_, e, _, vs.length, rfl, .inl ⟨vs, SqL.of h1, rfl⟩, ?_⟩
  rw [h3.len]
  exact q _ _ I H rfl (Wd.refl E.ok) (Dx.int _)

/-! ### dicts -/
theorem dd_get {I H : Hp} {v : V} {es : List (Key × PyData)} (k : Ok P I H) (h : Rp K I v (.dic es)) (y : Key) : ∃ a o, v = .ref a ∧ DGet H a (kV y) o ∧ ((valD es y = none ∧ o = none) ∨ ∃ w d, valD es y = some d ∧ o = some w ∧ Dx K I w d) := by
  obtain ⟨a, kvs, rfl, h1, h2⟩ := h
  refine ⟨a, _, rfl, DGet.k (k.sub _ _ h1), ?_⟩
  rcases h2.get y with q | ⟨w, d, q1, q2, q3⟩
  · exact .inl q
  · exact .inr ⟨w, d, q1, q2, q3⟩
theorem ev_dget {es : List (Key × PyData)} {n : PyData} {y : Key} (hd : EvE K P ta Γ (.dic es)) (hn : EvD K P tb Γ n) (hy : ∀ I v, Dx K I v n → v = kV y) (hv : valD es y = some d) : EvD K P (tDGet ta tb) Γ d := fun I H σ E Q q => by
  refine hd I H σ E _ fun x e1 I1 H1 q1 w1 r1 => ?_
  subst q1
  refine hn I1 H1 σ (E.mono w1) _ fun z e2 I2 H2 q2 w2 r2 => ?_
  subst q2
  obtain ⟨a, o, ea, g, h⟩ := dd_get w2.ok (r1.mono w2.ii) y
  rcases h with ⟨h, _⟩ | ⟨w, d', h1, h2, h3⟩
  · rw [h] at hv
    cases hv
  · rw [hv] at h1
    cases h1
    rw [h2] at g
    rw [hy I2 z r2]
    exact ⟨a, w, ea, g, q _ _ I2 H2 rfl (w1.trans w2) h3⟩
theorem ev_din {es : List (Key × PyData)} {n : PyData} {y : Key} (hn : EvD K P ta Γ n) (hd : EvE K P tb Γ (.dic es)) (hy : ∀ I v, Dx K I v n → v = kV y) : EvD K P (tDIn ta tb) Γ (.bool (valD es y).isSome) := fun I H σ E Q q => by
  refine hn I H σ E _ fun z e2 I1 H1 q2 w1 r2 => ?_
  subst q2
  refine hd I1 H1 σ (E.mono w1) _ fun x e1 I2 H2 q1 w2 r1 => ?_
  subst q1
  obtain ⟨a, o, ea, g, h⟩ := dd_get w2.ok r1 y
  rw [hy I1 z r2]
  refine ⟨a, o, ea, g, ?_⟩
  have e : o.isSome = (valD es y).isSome := by
    rcases h with ⟨h1, h2⟩ | ⟨w, d', h1, h2, h3⟩
    · rw [h1, h2]; rfl
    · rw [h1, h2]; rfl
  rw [e]
  exact q _ _ I2 H2 rfl (w1.trans w2) (Dx.bl _)
theorem ev_dnotin {es : List (Key × PyData)} {n : PyData} {y : Key} (hn : EvD K P ta Γ n) (hd : EvE K P tb Γ (.dic es)) (hy : ∀ I v, Dx K I v n → v = kV y) : EvD K P (tDNotIn ta tb) Γ (.bool (!(valD es y).isSome)) := fun I H σ E Q q => by
  refine hn I H σ E _ fun z e2 I1 H1 q2 w1 r2 => ?_
  subst q2
  refine hd I1 H1 σ (E.mono w1) _ fun x e1 I2 H2 q1 w2 r1 => ?_
  subst q1
  obtain ⟨a, o, ea, g, h⟩ := dd_get w2.ok r1 y
  rw [hy I1 z r2]
  refine ⟨a, o, ea, g, ?_⟩
  have e : o.isSome = (valD es y).isSome := by
    rcases h with ⟨h1, h2⟩ | ⟨w, d', h1, h2, h3⟩
    · rw [h1, h2]; rfl
    · rw [h1, h2]; rfl
  rw [e]
  exact q _ _ I2 H2 rfl (w1.trans w2) (Dx.bl _)
theorem key_int {i : Int} (I : Hp) (v : V) (h : Dx K I v (.int i)) : v = kV (.inl i) := by
  cases h
  rfl
theorem key_str {i : Str} (I : Hp) (v : V) (h : Dx K I v (.str i)) : v = kV (.inr i) := by
  cases h
  rfl
/-- a dict of ours is asked -/
theorem ev_dgetOwn {i : Nat} {p : Addr} {es : List (Key × PyData)} {n : PyData} {y : Key} (h : Γ[i]? = some (.ownD p es)) (hn : EvD K P tb Γ n) (hy : ∀ I v, Dx K I v n → v = kV y) (hv : valD es y = some d) : EvD K P (tDGet (tVar i) tb) Γ d := fun I H σ E Q q => by
  obtain ⟨_, e, _⟩ := E.ownD h
  refine ⟨_, e, ?_⟩
  refine hn I H σ E _ fun z e2 I2 H2 q2 w2 r2 => ?_
  subst q2
  obtain ⟨kvs, _, h1, _, h3, _⟩ := (E.mono w2).ownD h
  rcases h3.get y with ⟨g, _⟩ | ⟨w, d', g1, g2, g3⟩
  · rw [g] at hv
    cases hv
  · rw [hv] at g1
    cases g1
    rw [hy I2 z r2]
    exact ⟨p, w, rfl, by rw [← g2]; exact DGet.k h1, q _ _ I2 H2 rfl w2 g3⟩
theorem ev_dinOwn {i : Nat} {p : Addr} {es : List (Key × PyData)} {n : PyData} {y : Key} (hn : EvD K P ta Γ n) (h : Γ[i]? = some (.ownD p es)) (hy : ∀ I v, Dx K I v n → v = kV y) : EvD K P (tDIn ta (tVar i)) Γ (.bool (valD es y).isSome) := fun I H σ E Q q => by
  refine hn I H σ E _ fun z e2 I2 H2 q2 w2 r2 => ?_
  subst q2
  obtain ⟨kvs, e, h1, _, h3, _⟩ := (E.mono w2).ownD h
  rw [hy I2 z r2]
  refine ⟨_, e, p, _, rfl, DGet.k h1, ?_⟩
  have e : (valV kvs y).isSome = (valD es y).isSome := by
    rcases h3.get y with ⟨g1, g2⟩ | ⟨w, d', g1, g2, g3⟩
    · rw [g1, g2]; rfl
    · rw [g1, g2]; rfl
  rw [e]
  exact q _ _ I2 H2 rfl w2 (Dx.bl _)
theorem ev_dnotinOwn {i : Nat} {p : Addr} {es : List (Key × PyData)} {n : PyData} {y : Key} (hn : EvD K P ta Γ n) (h : Γ[i]? = some (.ownD p es)) (hy : ∀ I v, Dx K I v n → v = kV y) : EvD K P (tDNotIn ta (tVar i)) Γ (.bool (!(valD es y).isSome)) := fun I H σ E Q q => by
  refine hn I H σ E _ fun z e2 I2 H2 q2 w2 r2 => ?_
  subst q2
  obtain ⟨kvs, e, h1, _, h3, _⟩ := (E.mono w2).ownD h
  rw [hy I2 z r2]
  refine ⟨_, e, p, _, rfl, DGet.k h1, ?_⟩
  have e : (valV kvs y).isSome = (valD es y).isSome := by
    rcases h3.get y with ⟨g1, g2⟩ | ⟨w, d', g1, g2, g3⟩
    · rw [g1, g2]; rfl
    · rw [g1, g2]; rfl
  rw [e]
  exact q _ _ I2 H2 rfl w2 (Dx.bl _)

/-! ### slices -/
def EvO (K : PySem.W.Frag) (P : Addr) (to : TO) (Γ : Env) (o : Option Int) : Prop := ∀ (I H : Hp) (σ : L2.St), EnvOk K P I H σ Γ → ∀ Q : Option Int → Hp → Prop, (∀ I' H', Wd P I H I' H' → Q o H') → to σ H Q
theorem eo_none : EvO K P tNoPart Γ none := fun I H σ E Q q => q I H (Wd.refl E.ok)
theorem eo_some {i : Int} (h : EvD K P te Γ (.int i)) : EvO K P (tPart te) Γ (some i) := fun I H σ E Q q => h I H σ E _ fun v d I' H' e w r => by
  subst e
  cases r
  exact ⟨i, rfl, q I' H' w⟩
theorem ev_slS {tl th : TO} {z : Str} {lo hi : Option Int} (h : EvD K P te Γ (.str z)) (h1 : EvO K P tl Γ lo) (h2 : EvO K P th Γ hi) (hz : z.length ≤ 100000) {r : V → Option Int → Option Int → Hp → VK → Prop}
    (hr : ∀ (H : Hp) (Q : VK), Q (.str (cutS z lo hi)) H → r (.str z) lo hi H Q) : EvD K P (tSl r te tl th) Γ (.str (cutS z lo hi)) := fun I H σ E Q q => by
  refine h I H σ E _ fun v d I1 H1 e w1 r1 => ?_
  subst e
  cases r1
  refine h1 I1 H1 σ (E.mono w1) _ fun I2 H2 w2 => ?_
  refine h2 I2 H2 σ ((E.mono w1).mono w2) _ fun I3 H3 w3 => ?_
  exact hr H3 Q (q _ _ I3 H3 rfl ((w1.trans w2).trans w3) (Dx.str _))
end
end Wf
/-! What statements do, told of data. -/
namespace Wf
open PySem L2
structure EnvS (K : PySem.W.Frag) (P : Addr) (I0 H0 I H : Hp) (σ : L2.St) (Γ : Env) : Prop where
  env : EnvOk K P I H σ Γ
  wd : Wd P I0 H0 I H
  fresh : ∀ (i : Nat) (s : Slot), Γ[i]? = some s → ∀ a ∈ s.adrs, H0 a = none
section
variable (K : PySem.W.Frag) (P : Addr)
def EvS (I0 H0 : Hp) (t : TS) (Γ : Env) (N : Env → Prop) (R : Env → DD → Prop) (B C : Env → Prop) : Prop := ∀ (I H : Hp) (σ : L2.St) (D : Ends), EnvS K P I0 H0 I H σ Γ →
  (∀ I' H' σ' Γ', N Γ' → Same I I' → EnvS K P I0 H0 I' H' σ' Γ' → D.nx σ' H') → (∀ I' H' σ' Γ' v d, R Γ' d → EnvS K P I0 H0 I' H' σ' Γ' → Rp K I' v d → D.rt v H') →
  (∀ I' H' σ' Γ', B Γ' → Same I I' → EnvS K P I0 H0 I' H' σ' Γ' → D.bk σ' H') → (∀ I' H' σ' Γ', C Γ' → Same I I' → EnvS K P I0 H0 I' H' σ' Γ' → D.ct σ' H') → t D σ H
def EvG (I0 H0 : Hp) (g : TG) (d : DD) (Γ : Env) (N : Env → Prop) : Prop := ∀ (I H : Hp) (σ : L2.St) (v : V), EnvS K P I0 H0 I H σ Γ → Rp K I v d → ∀ Q : L2.St → Hp → Prop, (∀ σ' Γ', N Γ' → EnvS K P I0 H0 I H σ' Γ' → Q σ' H) → g v σ H Q
def EvGs (I0 H0 : Hp) (g : TGs) (ds : List PyData) (Γ : Env) (N : Env → Prop) : Prop := ∀ (I H : Hp) (σ : L2.St) (vs : List V), EnvS K P I0 H0 I H σ Γ → DxA K I vs ds → ∀ Q : L2.St → Hp → Prop, (∀ σ' Γ', N Γ' → EnvS K P I0 H0 I H σ' Γ' → Q σ' H) → g vs σ H Q
/-- an expression that makes a new list -/
def EvN (te : TE) (Γ : Env) (ds : List PyData) : Prop := ∀ (I H : Hp) (σ : L2.St), EnvOk K P I H σ Γ → ∀ Q : VK, (∀ p vs I' H', Wd P I H I' H' → H p = none → H' p = some (.lst vs) → I' p = none → DxA K I' vs ds → Q (.ref p) H') → te σ H Q
/-- an iterator over the data ds -/
structure IterOk (J : It) (I : Hp) (ds : List PyData) : Prop where
  go : ∀ i I' H, i < ds.length → Same I I' → Same I' H → J.go i H
  stop : ∀ I' H, Same I I' → Same I' H → J.stop ds.length H
  yld : ∀ i I' H x H', i < ds.length → Same I I' → Ok P I' H → J.yld i H x H' → ∃ I'' d, ds[i]? = some d ∧ Wd P I' H I'' H' ∧ Dx K I'' x d
def EvI (wi : TI) (Γ : Env) (ds : List PyData) : Prop := ∀ (I H : Hp) (σ : L2.St), EnvOk K P I H σ Γ → ∀ R : It → Hp → Prop, (∀ J I' H', Wd P I H I' H' → IterOk K P J I' ds → R J H') → wi σ H R
end
section
variable {K : PySem.W.Frag} {P : Addr} {Γ : Env} {ta tb te : TE} {a b c d : PyData} {D : DD → Prop} {N N' : Env → Prop} {R : Env → DD → Prop} {B C : Env → Prop} {t u : TS} {I0 H0 I H I' H' : Hp} {σ : L2.St}
theorem EnvS.mono (E : EnvS K P I0 H0 I H σ Γ) (w : Wd P I H I' H') : EnvS K P I0 H0 I' H' σ Γ := ⟨E.env.mono w, E.wd.trans w, E.fresh⟩
theorem fresh_set {i : Nat} {s' : Slot} (f : ∀ (i : Nat) (s : Slot), Γ[i]? = some s → ∀ a ∈ s.adrs, H0 a = none) (h : ∀ a ∈ s'.adrs, H0 a = none) : ∀ (j : Nat) (s : Slot), (Γ.set i s')[j]? = some s → ∀ a ∈ s.adrs, H0 a = none := fun j s hs a ha => by
  by_cases c : i = j
  · subst c
    by_cases hi : i < Γ.length
    · rw [List.getElem?_set_self hi] at hs
      cases hs
      exact h a ha
    · rw [List.getElem?_eq_none (by simpa using hi)] at hs
      cases hs
  · rw [List.getElem?_set_ne c] at hs
    exact f j s hs a ha
theorem sv_eq {σ : L2.St} {i : Nat} {v : Option V} (h : σ[i]? = some v) : sv σ i = v := by
  unfold sv
  rw [h]
/-- a name is given what needs no older objects of ours -/
theorem EnvOk.setW (E : EnvOk K P I H σ Γ) (w : Wd P I H I' H') {i : Nat} {v : Option V} {s' : Slot} (r : SlotOk K I' H' v s') (hn : ∀ a ∈ s'.adrs, H a = none) : EnvOk K P I' H' (σ.set i v) (Γ.set i s') := by
  by_cases hi : i < Γ.length
  · exact E.change (s := Γ[i]) (by simp [hi]) w.ok w.ii (fun a o _ e z hp => ⟨w.hh a o hp e, (w.fr a o e).trans z⟩) r fun a ha => .inr (hn a ha)
  · have e1 : Γ.set i s' = Γ := List.set_eq_of_length_le (by omega)
    have e2 : σ.set i v = σ := List.set_eq_of_length_le (by rw [E.len]; omega)
    rw [e1, e2]
    exact E.mono w
theorem EnvS.setW (E : EnvS K P I0 H0 I H σ Γ) (w : Wd P I H I' H') {i : Nat} {v : Option V} {s' : Slot} (r : SlotOk K I' H' v s') (hn : ∀ a ∈ s'.adrs, H a = none) : EnvS K P I0 H0 I' H' (σ.set i v) (Γ.set i s') :=
  ⟨E.env.setW w r hn, E.wd.trans w, fresh_set E.fresh fun a ha => E.wd.free (hn a ha)⟩
theorem EnvS.set (E : EnvS K P I0 H0 I H σ Γ) {i : Nat} {v : V} {d : DD} (r : Rp K I v d) : EnvS K P I0 H0 I H (σ.set i (some v)) (Γ.set i (.imm d)) :=
  E.setW (Wd.refl E.env.ok) ⟨v, rfl, r⟩ fun _ z => nomatch z
theorem EvS.imp (h : EvS K P I0 H0 t Γ N R B C) (i : ∀ Γ', N Γ' → N' Γ') : EvS K P I0 H0 t Γ N' R B C := fun I H σ D E hn hr hb hc =>
  h I H σ D E (fun I' H' σ' Γ' q => hn I' H' σ' Γ' (i Γ' q)) hr hb hc
theorem sv_seq (h : EvS K P I0 H0 t Γ (fun Γ' => EvS K P I0 H0 u Γ' N R B C) R B C) : EvS K P I0 H0 (tSeq t u) Γ N R B C := fun I H σ D E hn hr hb hc => by
  show t { D with nx := u D } σ H
  exact h I H σ _ E (fun I' H' σ' Γ' q s E' => q I' H' σ' D E' (fun I2 H2 σ2 Γ2 q2 s2 => hn I2 H2 σ2 Γ2 q2 (s.trans s2)) hr (fun I2 H2 σ2 Γ2 q2 s2 => hb I2 H2 σ2 Γ2 q2 (s.trans s2)) (fun I2 H2 σ2 Γ2 q2 s2 => hc I2 H2 σ2 Γ2 q2 (s.trans s2))) hr hb hc
theorem sv_cut (N1 : Env → Prop) (h : EvS K P I0 H0 t Γ N1 R B C) (h2 : ∀ Γ', N1 Γ' → EvS K P I0 H0 u Γ' N R B C) : EvS K P I0 H0 (tSeq t u) Γ N R B C := sv_seq (h.imp h2)
theorem sv_next (h : N Γ) : EvS K P I0 H0 tNext Γ N R B C := fun I H σ D E hn hr hb hc => hn I H σ Γ h (Same.refl I) E
theorem sv_break (h : B Γ) : EvS K P I0 H0 tBreak Γ N R B C := fun I H σ D E hn hr hb hc => hb I H σ Γ h (Same.refl I) E
theorem sv_cont (h : C Γ) : EvS K P I0 H0 tCont Γ N R B C := fun I H σ D E hn hr hb hc => hc I H σ Γ h (Same.refl I) E
theorem sv_asg {i : Nat} (h : Ev K P te Γ D) (hn : ∀ d, D d → N (Γ.set i (.imm d))) : EvS K P I0 H0 (tAsg te (gName i)) Γ N R B C := fun I H σ D' E kn hr hb hc => by
  refine h I H σ E.env _ fun v d I1 H1 hd w r => ?_
  exact kn I1 H1 _ _ (hn d hd) w.ii ((E.mono w).set r)
theorem sv_asgE {i : Nat} {d : DD} (h : EvE K P te Γ d) (hn : N (Γ.set i (.imm d))) : EvS K P I0 H0 (tAsg te (gName i)) Γ N R B C := sv_asg h fun e he => by
  subst he
  exact hn
theorem sv_asgG {g : TG} {d : DD} (h : EvE K P te Γ d) (hg : EvG K P I0 H0 g d Γ N) : EvS K P I0 H0 (tAsg te g) Γ N R B C := fun I H σ D' E kn hr hb hc => by
  refine h I H σ E.env _ fun v d I1 H1 hd w r => ?_
  subst hd
  exact hg I1 H1 σ v (E.mono w) r _ fun σ' Γ' hN E' => kn I1 H1 σ' Γ' hN w.ii E'
theorem eg_name {i : Nat} {d : DD} (hn : N (Γ.set i (.imm d))) : EvG K P I0 H0 (gName i) d Γ N := fun I H σ v E r Q q => q _ _ hn (E.set r)
theorem gs_nil (hn : N Γ) : EvGs K P I0 H0 gNil [] Γ N := fun I H σ vs E r Q q => by
  cases r
  exact ⟨rfl, q σ Γ hn E⟩
theorem gs_cons {g : TG} {gs : TGs} {d : PyData} {ds : List PyData} (h : EvG K P I0 H0 g (.dat d) Γ (fun Γ' => EvGs K P I0 H0 gs ds Γ' N)) : EvGs K P I0 H0 (gCons g gs) (d :: ds) Γ N := fun I H σ vs E r Q q => by
  cases r with
  | @cons v vs' _ _ h1 h2 =>
    refine ⟨v, vs', rfl, ?_⟩
    exact h I H σ v E h1 _ fun σ' Γ' hN E' => hN I H σ' vs' E' h2 Q q
theorem eg_tup {n : Nat} {gs : TGs} {ds : List PyData} (hl : ds.length = n) (h : EvGs K P I0 H0 gs ds Γ N) : EvG K P I0 H0 (gTup K n gs) (.dat (.tuple ds)) Γ N := fun I H σ v E r Q q => by
  cases r with
  | @tup p xs _ h1 h2 =>
    refine ⟨p, xs, rfl, sqT_mono E.env.ok.sub h1, h2.len.trans hl, ?_⟩
    exact h I H σ xs E h2 Q q
theorem sv_expr (h : Ev K P te Γ D) (hn : N Γ) : EvS K P I0 H0 (tDrop te) Γ N R B C := fun I H σ D' E kn hr hb hc => by
  refine h I H σ E.env _ fun v d I1 H1 hd w r => ?_
  exact kn I1 H1 σ Γ hn w.ii (E.mono w)
theorem sv_ret (h : Ev K P te Γ D) (hr : ∀ d, D d → R Γ d) : EvS K P I0 H0 (tRet te) Γ N R B C := fun I H σ D' E kn kr hb hc =>
  h I H σ E.env _ fun v d I1 H1 hd w r => kr I1 H1 σ Γ v d (hr d hd) (E.mono w) r
theorem sv_retE {d : DD} (h : EvE K P te Γ d) (hr : R Γ d) : EvS K P I0 H0 (tRet te) Γ N R B C := sv_ret h fun e he => by
  subst he
  exact hr
theorem sv_retN (hr : R Γ (.dat .none)) : EvS K P I0 H0 tRetN Γ N R B C := fun I H σ D' E kn kr hb hc => kr I H σ Γ .non _ hr E Dx.non
theorem sv_if {c : TT} {k : Bool} (h : EvT K P c Γ k) (h1 : k = true → EvS K P I0 H0 t Γ N R B C) (h2 : k = false → EvS K P I0 H0 u Γ N R B C) : EvS K P I0 H0 (tIfS c t u) Γ N R B C := fun I H σ D' E kn kr hb hc => by
  refine h I H σ E.env _ fun I1 H1 w => ?_
  cases k with
  | true =>
    show t D' σ H1
    exact h1 rfl I1 H1 σ D' (E.mono w) (fun I2 H2 σ2 Γ2 q2 s2 => kn I2 H2 σ2 Γ2 q2 (w.ii.trans s2)) kr (fun I2 H2 σ2 Γ2 q2 s2 => hb I2 H2 σ2 Γ2 q2 (w.ii.trans s2)) (fun I2 H2 σ2 Γ2 q2 s2 => hc I2 H2 σ2 Γ2 q2 (w.ii.trans s2))
  | false =>
    show u D' σ H1
    exact h2 rfl I1 H1 σ D' (E.mono w) (fun I2 H2 σ2 Γ2 q2 s2 => kn I2 H2 σ2 Γ2 q2 (w.ii.trans s2)) kr (fun I2 H2 σ2 Γ2 q2 s2 => hb I2 H2 σ2 Γ2 q2 (w.ii.trans s2)) (fun I2 H2 σ2 Γ2 q2 s2 => hc I2 H2 σ2 Γ2 q2 (w.ii.trans s2))
theorem sv_never (h : False) : EvS K P I0 H0 t Γ N R B C := h.elim

/-! ### lists and dicts of ours -/
theorem EvN.ev {ds : List PyData} (h : EvN K P te Γ ds) : EvD K P te Γ (.list ds) := fun I H σ E Q q => h I H σ E Q fun p vs I1 H1 w hp h1 hi r => by
  have hpP : p ≠ P := w.ok.ne h1 fun _ z => by cases z
  have w2 := w.freeze hp h1 hi hpP
  have s2 : Same I1 (upd I1 p (.lst vs)) := fun b o e => by
    rw [upd_ne (ne_of_none e hi)]
    exact e
  exact q _ _ _ _ rfl w2 (Dx.lst upd_same (r.mono s2))
theorem en_lst {ts : TA} {ds : List PyData} (h : EvA K P ts Γ (· = ds.map DD.dat)) (hl : ds.length ≤ 1000 := by simp) : EvN K P (tLst ts) Γ ds := fun I H σ E Q q => by
  refine h I H σ E _ fun vs ds' I1 H1 e1 w1 r1 => ?_
  subst e1
  have r := rpL_dx r1
  refine ⟨by rw [r.len, sizeLine_eq]; omega, fun p hp => ?_⟩
  have w2 := w1.ok.newM hp (.lst vs)
  exact q p vs _ _ (w1.trans w2) (w1.free hp) upd_same (w1.ok.free hp).1 r
theorem en_list {ds : List PyData} (h : EvD K P te Γ (.list ds)) : EvN K P (tCB (rListOf K) (tCons te tNil)) Γ ds := fun I H σ E Q q => by
  refine h I H σ E _ fun v d I1 H1 e1 w1 r1 => ?_
  subst e1
  cases r1 with
  | @lst a xs _ h1 h2 =>
    refine ⟨a, xs, rfl, .inl (SqL.of (w1.ok.sub _ _ h1)), fun p hp => ?_⟩
    have w2 := w1.ok.newM hp (.lst xs)
    exact q p xs _ _ (w1.trans w2) (w1.free hp) upd_same (w1.ok.free hp).1 h2
theorem en_listT {ds : List PyData} (h : EvD K P te Γ (.tuple ds)) : EvN K P (tCB (rListOf K) (tCons te tNil)) Γ ds := fun I H σ E Q q => by
  refine h I H σ E _ fun v d I1 H1 e1 w1 r1 => ?_
  subst e1
  cases r1 with
  | @tup a xs _ h1 h2 =>
    refine ⟨a, xs, rfl, .inr (sqT_mono w1.ok.sub h1), fun p hp => ?_⟩
    have w2 := w1.ok.newM hp (.lst xs)
    exact q p xs _ _ (w1.trans w2) (w1.free hp) upd_same (w1.ok.free hp).1 h2
theorem en_catOwn {i : Nat} {p0 : Addr} {as bs : List PyData} (h : Γ[i]? = some (.own p0 as)) (hb : EvD K P tb Γ (.list bs)) (hl : as.length + bs.length ≤ 100000) : EvN K P (tOp rCat (tVar i) tb) Γ (as ++ bs) := fun I H σ E Q q => by
  obtain ⟨_, e, _⟩ := E.own h
  refine ⟨_, e, ?_⟩
  refine hb I H σ E _ fun v d I1 H1 e1 w1 r1 => ?_
  subst e1
  obtain ⟨vs, _, h1, _, h3, _⟩ := (E.mono w1).own h
  cases r1 with
  | @lst a xs _ g1 g2 =>
    refine ⟨p0, a, vs, xs, rfl, rfl, h1, w1.ok.sub _ _ g1, by rw [h3.len, g2.len, sizeLine_eq]; omega, fun p hp => ?_⟩
    have w2 := w1.ok.newM hp (.lst (vs ++ xs))
    exact q p _ _ _ (w1.trans w2) (w1.free hp) upd_same (w1.ok.free hp).1 (h3.append g2)
theorem sv_asgN {i : Nat} {ds : List PyData} (h : EvN K P te Γ ds) (hn : ∀ p, N (Γ.set i (.own p ds))) : EvS K P I0 H0 (tAsg te (gName i)) Γ N R B C := fun I H σ D' E kn hr hb hc => by
  refine h I H σ E.env _ fun p vs I1 H1 w hp h1 hi r => ?_
  refine kn I1 H1 _ _ (hn p) w.ii (E.setW w ⟨rfl, vs, h1, hi, r⟩ fun a ha => ?_)
  rcases List.mem_singleton.mp ha with rfl
  exact hp
theorem sv_newD {i : Nat} (hn : ∀ p, N (Γ.set i (.ownD p []))) : EvS K P I0 H0 (tAsg tDNewK (gName i)) Γ N R B C := fun I H σ D' E kn hr hb hc => by
  intro p hp
  refine kn _ _ _ _ (hn p) (Same.refl I) (E.setW (E.env.ok.newM hp (.dK [])) ⟨[], rfl, upd_same, (E.env.ok.free hp).1, .nil⟩ fun a ha => ?_)
  rcases List.mem_singleton.mp ha with rfl
  exact hp
theorem sv_newT {i : Nat} (hn : ∀ p, N (Γ.set i (.ownT p []))) : EvS K P I0 H0 (tAsg tDNewK (gName i)) Γ N R B C := fun I H σ D' E kn hr hb hc => by
  intro p hp
  refine kn _ _ _ _ (hn p) (Same.refl I) (E.setW (E.env.ok.newM hp (.dK [])) ⟨rfl, upd_same, (E.env.ok.free hp).1, by simp, fun q hq => by cases hq⟩ fun a ha => ?_)
  rcases List.mem_singleton.mp ha with rfl
  exact hp
/-- objects of ours stand still from now on, all others are as before -/
theorem EnvS.still (E : EnvS K P I0 H0 I H σ Γ) {i : Nat} {s s' : Slot} (h : Γ[i]? = some s) (w : Wd P I0 H0 I' H) (ii : Same I I') (hk : ∀ a, a ∉ s.adrs → I' a = I a) (ho : SlotOk K I' H (sv σ i) s') (hn : s'.adrs = []) : EnvS K P I0 H0 I' H σ (Γ.set i s') := by
  have := E.env.change h w.ok ii (fun a o ha e z _ => ⟨e, by rw [hk a ha]; exact z⟩) ho fun a ha => by rw [hn] at ha; cases ha
  rw [set_sv] at this
  exact ⟨this, w, fresh_set E.fresh fun a ha => by rw [hn] at ha; cases ha⟩
theorem EvS.lift (s2 : Same I I') {D' : Ends} (k : EvS K P I0 H0 t Γ N R B C) (E : EnvS K P I0 H0 I' H σ Γ) (kn : ∀ I2 H2 σ2 Γ2, N Γ2 → Same I I2 → EnvS K P I0 H0 I2 H2 σ2 Γ2 → D'.nx σ2 H2) (kr : ∀ I' H' σ' Γ' v d, R Γ' d → EnvS K P I0 H0 I' H' σ' Γ' → Rp K I' v d → D'.rt v H') (hb : ∀ I2 H2 σ2 Γ2, B Γ2 → Same I I2 → EnvS K P I0 H0 I2 H2 σ2 Γ2 → D'.bk σ2 H2) (hc : ∀ I2 H2 σ2 Γ2, C Γ2 → Same I I2 → EnvS K P I0 H0 I2 H2 σ2 Γ2 → D'.ct σ2 H2) : t D' σ H :=
  k I' H σ D' E (fun I2 H2 σ2 Γ2 q2 s => kn I2 H2 σ2 Γ2 q2 (s2.trans s)) kr (fun I2 H2 σ2 Γ2 q2 s => hb I2 H2 σ2 Γ2 q2 (s2.trans s)) (fun I2 H2 σ2 Γ2 q2 s => hc I2 H2 σ2 Γ2 q2 (s2.trans s))
theorem same_upd {p : Addr} {o : HO} (h : I p = none) : Same I (upd I p o) := fun b u e => by
  rw [upd_ne (ne_of_none e h)]
  exact e
theorem sv_freeze {i : Nat} {p : Addr} {ds : List PyData} (h : Γ[i]? = some (.own p ds)) (k : EvS K P I0 H0 t (Γ.set i (.imm (.dat (.list ds)))) N R B C) : EvS K P I0 H0 t Γ N R B C := fun I H σ D' E kn hr hb hc => by
  obtain ⟨vs, e, h1, h2, h3, h4⟩ := E.env.own h
  have hp0 : H0 p = none := E.fresh i _ h p List.mem_cons_self
  have s2 : Same I (upd I p (.lst vs)) := same_upd h2
  exact EvS.lift s2 k (E.still h (E.wd.freeze hp0 h1 h2 h4) s2 (fun a ha => upd_ne fun z => ha (by rw [z]; exact List.mem_cons_self)) ⟨.ref p, sv_eq e, Dx.lst upd_same (h3.mono s2)⟩ rfl) kn hr hb hc
theorem sv_freezeD {i : Nat} {p : Addr} {es : List (Key × PyData)} (h : Γ[i]? = some (.ownD p es)) (k : EvS K P I0 H0 t (Γ.set i (.imm (.dic es))) N R B C) : EvS K P I0 H0 t Γ N R B C := fun I H σ D' E kn hr hb hc => by
  obtain ⟨vs, e, h1, h2, h3, h4⟩ := E.env.ownD h
  have hp0 : H0 p = none := E.fresh i _ h p List.mem_cons_self
  have s2 : Same I (upd I p (.dK vs)) := same_upd h2
  exact EvS.lift s2 k (E.still h (E.wd.freeze hp0 h1 h2 h4) s2 (fun a ha => upd_ne fun z => ha (by rw [z]; exact List.mem_cons_self)) ⟨.ref p, sv_eq e, p, vs, rfl, upd_same, h3.mono s2⟩ rfl) kn hr hb hc
/-- an object of ours is written -/
theorem EnvS.write (E : EnvS K P I0 H0 I H σ Γ) {i : Nat} {p : Addr} {t s' : Slot} {o : HO} (h : Γ[i]? = some t) (ht : p ∈ t.adrs) (r : SlotOk K I (upd H p o) (sv σ i) s') (hs : ∀ a ∈ s'.adrs, a ∈ t.adrs) : EnvS K P I0 H0 I (upd H p o) σ (Γ.set i s') := by
  obtain ⟨_, _, hi, hP⟩ := (E.env.sl i _ h).adr E.env.ok ht
  have w := E.wd.mut (E.fresh i _ h p ht) hi hP o
  have := E.env.change h w.ok (Same.refl I) (fun a u ha e z _ => ⟨by rw [upd_ne fun z => ha (by rw [z]; exact ht)]; exact e, z⟩) r fun a ha => .inl (hs a ha)
  rw [set_sv] at this
  exact ⟨this, w, fresh_set E.fresh fun a ha => E.fresh i _ h a (hs a ha)⟩
/-- a list of ours, alone in its name, is written -/
theorem EnvS.writeOwn (E : EnvS K P I0 H0 I H σ Γ) {i : Nat} {p : Addr} {ds es : List PyData} {vs : List V} (h : Γ[i]? = some (.own p ds)) (r : DxA K I vs es) : EnvS K P I0 H0 I (upd H p (.lst vs)) σ (Γ.set i (.own p es)) := by
  obtain ⟨vs, e, h1, h2, h3, _⟩ := E.env.own h
  exact E.write h List.mem_cons_self ⟨sv_eq e, _, upd_same, h2, r⟩ fun a ha => ha
theorem EnvS.writeOwnD (E : EnvS K P I0 H0 I H σ Γ) {i : Nat} {p : Addr} {ds es : List (Key × PyData)} {vs : List (Key × V)} (h : Γ[i]? = some (.ownD p ds)) (r : KVD K I vs es) : EnvS K P I0 H0 I (upd H p (.dK vs)) σ (Γ.set i (.ownD p es)) := by
  obtain ⟨vs, e, h1, h2, h3, _⟩ := E.env.ownD h
  exact E.write h List.mem_cons_self ⟨_, sv_eq e, upd_same, h2, r⟩ fun a ha => ha
theorem sv_append {i : Nat} {p : Addr} {ds : List PyData} (h : Γ[i]? = some (.own p ds)) (he : EvD K P te Γ d) (hl : ds.length < 100000) (hn : N (Γ.set i (.own p (ds ++ [d])))) : EvS K P I0 H0 (tDrop (tBM K "list" rAppend (tVar i) (tCons te tNil))) Γ N R B C := fun I H σ D' E kn hr hb hc => by
  obtain ⟨vs, e, h1, _, _, _⟩ := E.env.own h
  refine ⟨_, e, .inl ⟨rfl, vs, SqL.of h1⟩, ?_⟩
  refine he I H σ E.env _ fun v d1 I1 H1 e1 w r => ?_
  subst e1
  have E1 := E.mono w
  obtain ⟨vs1, e2, g1, g2, g3, _⟩ := E1.env.own h
  refine ⟨p, vs1, v, rfl, rfl, g1, by rw [g3.len, sizeLine_eq]; omega, ?_⟩
  exact kn I1 _ σ _ hn w.ii (E1.writeOwn h (g3.snoc r))
theorem sv_extend {i : Nat} {p : Addr} {ds es : List PyData} (h : Γ[i]? = some (.own p ds)) (he : EvD K P te Γ (.list es)) (hl : ds.length + es.length ≤ 100000) (hn : N (Γ.set i (.own p (ds ++ es)))) : EvS K P I0 H0 (tDrop (tBM K "list" rExtend (tVar i) (tCons te tNil))) Γ N R B C := fun I H σ D' E kn hr hb hc => by
  obtain ⟨vs, e, h1, _, _, _⟩ := E.env.own h
  refine ⟨_, e, .inl ⟨rfl, vs, SqL.of h1⟩, ?_⟩
  refine he I H σ E.env _ fun v d1 I1 H1 e1 w r => ?_
  subst e1
  have E1 := E.mono w
  obtain ⟨vs1, e2, g1, g2, g3, _⟩ := E1.env.own h
  cases r with
  | @lst a xs _ q1 q2 =>
    refine ⟨p, a, vs1, xs, rfl, rfl, g1, w.ok.sub _ _ q1, by rw [g3.len, q2.len, sizeLine_eq]; omega, ?_⟩
    exact kn I1 _ σ _ hn w.ii (E1.writeOwn h (g3.append q2))
theorem sv_pop {i : Nat} {p : Addr} {ds : List PyData} (h : Γ[i]? = some (.own p (ds ++ [d]))) (hn : N (Γ.set i (.own p ds))) : EvS K P I0 H0 (tDrop (tBM0 K "list" rPop (tVar i))) Γ N R B C := fun I H σ D' E kn hr hb hc => by
  obtain ⟨vs, e, h1, h2, h3, _⟩ := E.env.own h
  obtain ⟨y, hy, ry⟩ := h3.get (i := ds.length) (d := d) (by simp)
  have hl := h3.len
  rw [List.length_append, List.length_singleton] at hl
  refine ⟨_, e, .inl ⟨rfl, vs, SqL.of h1⟩, p, vs, y, rfl, rfl, h1, by rw [hl]; exact hy, ?_⟩
  have q := h3.dropLast
  rw [List.dropLast_concat] at q
  exact kn I _ σ _ hn (Same.refl I) (E.writeOwn h q)
theorem sv_popAsg {i : Nat} {p : Addr} {ds : List PyData} {g : TG} (h : Γ[i]? = some (.own p (ds ++ [d]))) (hg : EvG K P I0 H0 g (.dat d) (Γ.set i (.own p ds)) N) : EvS K P I0 H0 (tAsg (tBM0 K "list" rPop (tVar i)) g) Γ N R B C := fun I H σ D' E kn hr hb hc => by
  obtain ⟨vs, e, h1, h2, h3, _⟩ := E.env.own h
  obtain ⟨y, hy, ry⟩ := h3.get (i := ds.length) (d := d) (by simp)
  have hl := h3.len
  rw [List.length_append, List.length_singleton] at hl
  refine ⟨_, e, .inl ⟨rfl, vs, SqL.of h1⟩, p, vs, y, rfl, rfl, h1, by rw [hl]; exact hy, ?_⟩
  have q := h3.dropLast
  rw [List.dropLast_concat] at q
  have E1 := E.writeOwn h q
  exact hg I _ σ y E1 ry _ fun σ' Γ' hN E' => kn I _ σ' Γ' hN (Same.refl I) E'
theorem sv_setItem {i : Nat} {p : Addr} {ds : List PyData} {k : Int} {j : Nat} (h : Γ[i]? = some (.own p ds)) (he : EvD K P te Γ d) (hk : EvD K P tb Γ (.int k)) (hj : ixN ds.length k = some j) (hn : N (Γ.set i (.own p (ds.set j d)))) : EvS K P I0 H0 (tAsg te (gSub (tVar i) tb rSetL)) Γ N R B C := fun I H σ D' E kn hr hb hc => by
  refine he I H σ E.env _ fun v d1 I1 H1 e1 w r => ?_
  subst e1
  have E1 := E.mono w
  obtain ⟨_, e, _⟩ := E1.env.own h
  refine ⟨_, e, ?_⟩
  refine hk I1 H1 σ E1.env _ fun v2 d2 I2 H2 e2 w2 r2 => ?_
  subst e2
  cases r2
  have E2 := E1.mono w2
  obtain ⟨vs, e3, g1, g2, g3, _⟩ := E2.env.own h
  refine ⟨p, vs, k, j, rfl, rfl, g1, by rw [g3.len]; exact hj, ?_⟩
  exact kn I2 _ σ _ hn (w.ii.trans w2.ii) (E2.writeOwn h (g3.set (Dx.mono w2.ii _ _ r) j))
theorem KVD.len {kvs : List (Key × V)} {es : List (Key × PyData)} (h : KVD K I kvs es) : kvs.length = es.length := Paired.length h
theorem sv_dput {i : Nat} {p : Addr} {es : List (Key × PyData)} {n : PyData} {y : Key} (h : Γ[i]? = some (.ownD p es)) (he : EvD K P te Γ d) (hk : EvD K P tb Γ n) (hy : ∀ I v, Dx K I v n → v = kV y) (hl : es.length < 100000) (hn : N (Γ.set i (.ownD p (putD es y d)))) : EvS K P I0 H0 (sDPut (tVar i) tb te) Γ N R B C := fun I H σ D' E kn hr hb hc => by
  refine he I H σ E.env _ fun v d1 I1 H1 e1 w r => ?_
  subst e1
  have E1 := E.mono w
  obtain ⟨_, e, _⟩ := E1.env.ownD h
  refine ⟨_, e, ?_⟩
  refine hk I1 H1 σ E1.env _ fun v2 d2 I2 H2 e2 w2 r2 => ?_
  subst e2
  have E2 := E1.mono w2
  obtain ⟨kvs, e3, g1, g2, g3, _⟩ := E2.env.ownD h
  rw [hy I2 v2 r2]
  refine ⟨p, _, rfl, DPut.k g1 (by rw [g3.len, sizeLine_eq]; omega), ?_⟩
  exact kn I2 _ σ _ hn (w.ii.trans w2.ii) (E2.writeOwnD h (g3.put (Dx.mono w2.ii _ _ r)))

/-! ### loops -/
theorem ei_list {ds : List PyData} (h : EvD K P te Γ (.list ds)) : EvI K P (iList K te) Γ ds := fun I H σ E R q => by
  refine h I H σ E _ fun v d I1 H1 e w r => ?_
  subst e
  cases r with
  | @lst a xs _ h1 h2 =>
    have hl := h2.len
    refine ⟨a, rfl, ⟨xs, SqL.of (w.ok.sub _ _ h1)⟩, q _ I1 H1 w ⟨fun i I' H i1 s1 s2 => ?_, fun I' H s1 s2 => ?_, fun i I' H x H' i1 s1 k y => ?_⟩⟩
    · exact ⟨xs, xs[i]'(by omega), SqL.of (s2 _ _ (s1 _ _ h1)), by simp [show i < xs.length by omega]⟩
    · exact ⟨xs, SqL.of (s2 _ _ (s1 _ _ h1)), by omega⟩
    · obtain ⟨rfl, y⟩ := y
      obtain ⟨d, e1, e2⟩ := h2.get' (y xs (SqL.of (k.sub _ _ (s1 _ _ h1))))
      exact ⟨I', d, e1, Wd.refl k, e2.mono s1⟩
theorem ei_tup {ds : List PyData} (h : EvD K P te Γ (.tuple ds)) : EvI K P (iTup K te) Γ ds := fun I H σ E R q => by
  refine h I H σ E _ fun v d I1 H1 e w r => ?_
  subst e
  cases r with
  | @tup a xs _ h1 h2 =>
    have hl := h2.len
    refine ⟨a, rfl, ⟨xs, sqT_mono w.ok.sub h1⟩, q _ I1 H1 w ⟨fun i I' H i1 s1 s2 => ?_, fun I' H s1 s2 => ?_, fun i I' H x H' i1 s1 k y => ?_⟩⟩
    · exact ⟨xs, xs[i]'(by omega), sqT_mono s2 (sqT_mono s1 h1), by simp [show i < xs.length by omega]⟩
    · exact ⟨xs, sqT_mono s2 (sqT_mono s1 h1), by omega⟩
    · obtain ⟨rfl, y⟩ := y
      obtain ⟨d, e1, e2⟩ := h2.get' (y xs (sqT_mono k.sub (sqT_mono s1 h1)))
      exact ⟨I', d, e1, Wd.refl k, e2.mono s1⟩
theorem ei_rev {ds : List PyData} (h : EvD K P te Γ (.list ds)) : EvI K P (iRev K (tCons te tNil)) Γ ds.reverse := fun I H σ E R q => by
  refine h I H σ E _ fun v d I1 H1 e w r => ?_
  subst e
  cases r with
  | @lst a xs _ h1 h2 =>
    have hl := h2.len
    refine ⟨a, xs, rfl, SqL.of (w.ok.sub _ _ h1), q _ I1 H1 w ⟨fun i I' H i1 s1 s2 => ?_, fun I' H s1 s2 => ?_, fun i I' H x H' i1 s1 k y => ?_⟩⟩
    · rw [List.length_reverse] at i1
      exact ⟨by omega, xs, xs[xs.length - 1 - i]'(by omega), SqL.of (s2 _ _ (s1 _ _ h1)), by simp [show xs.length - 1 - i < xs.length by omega]⟩
    · rw [List.length_reverse]
      show xs.length ≤ ds.length
      omega
    · rw [List.length_reverse] at i1
      obtain ⟨rfl, y⟩ := y
      obtain ⟨d, e1, e2⟩ := h2.get' (y xs (SqL.of (k.sub _ _ (s1 _ _ h1))))
      refine ⟨I', d, ?_, Wd.refl k, e2.mono s1⟩
      rw [List.getElem?_reverse i1, ← hl]
      exact e1
def enumD : Nat → List PyData → List PyData
  | _, [] => []
  | i, d :: ds => .tuple [.int i, d] :: enumD (i + 1) ds
theorem enumD_len : ∀ (ds : List PyData) (i : Nat), (enumD i ds).length = ds.length
  | [], _ => rfl
  | d :: ds, i => by rw [enumD, List.length_cons, List.length_cons, enumD_len ds]
theorem enumD_get : ∀ (ds : List PyData) (i j : Nat) (d : PyData), ds[j]? = some d → (enumD i ds)[j]? = some (.tuple [.int ((i + j : Nat) : Int), d])
  | [], _, _, _, h => by simp at h
  | d' :: ds, i, 0, d, h => by
    cases h
    rfl
  | d' :: ds, i, j + 1, d, h => by
    have := enumD_get ds (i + 1) j d (by simpa using h)
    rw [enumD, List.getElem?_cons_succ, this]
    congr 5
    omega
theorem ei_enum {ds : List PyData} (h : EvD K P te Γ (.list ds)) : EvI K P (iEnum K (tCons te tNil)) Γ (enumD 0 ds) := fun I H σ E R q => by
  refine h I H σ E _ fun v d I1 H1 e w r => ?_
  subst e
  cases r with
  | @lst a xs _ h1 h2 =>
    have hl := h2.len
    refine ⟨a, xs, rfl, SqL.of (w.ok.sub _ _ h1), q _ I1 H1 w ⟨fun i I' H i1 s1 s2 => ?_, fun I' H s1 s2 => ?_, fun i I' H x H' i1 s1 k y => ?_⟩⟩
    · rw [enumD_len] at i1
      exact ⟨xs, xs[i]'(by omega), SqL.of (s2 _ _ (s1 _ _ h1)), by simp [show i < xs.length by omega]⟩
    · rw [enumD_len]
      exact ⟨xs, SqL.of (s2 _ _ (s1 _ _ h1)), by omega⟩
    · rw [enumD_len] at i1
      obtain ⟨T, z, rfl, hT, rfl, y⟩ := y
      obtain ⟨d, e1, e2⟩ := h2.get' (y xs (SqL.of (k.sub _ _ (s1 _ _ h1))))
      have w2 := k.new hT (.tup [.int (i : Nat), z])
      refine ⟨_, _, enumD_get ds 0 i d e1, w2, ?_⟩
      rw [Nat.zero_add]
      exact Dx.tup (SqT.of upd_same) (.cons (.int _) (.cons (e2.mono (s1.trans w2.ii)) .nil))
def rangeD (lo : Int) (n : Nat) : List PyData := (List.range n).map fun i => .int (lo + (i : Nat))
theorem ei_range1 {n : Int} (h : EvD K P te Γ (.int n)) (hl : -(2 ^ 62) ≤ n) (hh : n < 2 ^ 62) : EvI K P (iRng1 (tCons te tNil)) Γ (rangeD 0 n.toNat) := fun I H σ E R q => by
  refine h I H σ E _ fun v d I1 H1 e w r => ?_
  subst e
  cases r
  have len : (rangeD 0 n.toNat).length = n.toNat := by simp [rangeD]
  refine ⟨n, rfl, hl, hh, q _ I1 H1 w ⟨fun i I' H i1 s1 s2 => ?_, fun I' H s1 s2 => ?_, fun i I' H x H' i1 s1 k y => ?_⟩⟩
  · rw [len] at i1
    exact i1
  · rw [len]
    exact Nat.le_refl _
  · rw [len] at i1
    obtain ⟨rfl, rfl⟩ := y
    refine ⟨I', .int (0 + (i : Nat)), ?_, Wd.refl k, .int _⟩
    unfold rangeD
    rw [List.getElem?_map, List.getElem?_range i1]
    rfl
def signsD (z : Str) : List PyData := z.cps.toList.map fun c => .str ⟨#[c]⟩
theorem ei_str {z : Str} (h : EvD K P te Γ (.str z)) : EvI K P (iStr te) Γ (signsD z) := fun I H σ E R q => by
  refine h I H σ E _ fun v d I1 H1 e w r => ?_
  subst e
  cases r
  have len : (signsD z).length = z.cps.size := by simp [signsD]
  refine ⟨z, rfl, q _ I1 H1 w ⟨fun i I' H i1 s1 s2 => ?_, fun I' H s1 s2 => ?_, fun i I' H x H' i1 s1 k y => ?_⟩⟩
  · rw [len] at i1
    exact i1
  · rw [len]
    exact Nat.le_refl _
  · obtain ⟨rfl, c, hc, rfl⟩ := y
    refine ⟨I', .str ⟨#[c]⟩, ?_, Wd.refl k, .str _⟩
    unfold signsD
    rw [List.getElem?_map, Array.getElem?_toList, hc]
    rfl
/-- a for over data: the invariant by what is left -/
theorem sv_for {wi : TI} {g : TG} {ds : List PyData} (Inv : List PyData → Env → Prop) (hi : EvI K P wi Γ ds) (h0 : Inv ds Γ)
    (hs : ∀ d r Γ', Inv (d :: r) Γ' → EvG K P I0 H0 g (.dat d) Γ' (fun Γ2 => EvS K P I0 H0 t Γ2 (Inv r) R N (Inv r))) (he : ∀ Γ', Inv [] Γ' → N Γ') : EvS K P I0 H0 (tFor wi g t) Γ N R B C := fun I H σ D' E kn kr hb hc => by
  refine hi I H σ E.env _ fun J I1 H1 w W => ?_
  refine ⟨fun i m σ H => m = ds.length - i ∧ i ≤ ds.length ∧ ∃ I' Γ', Same I1 I' ∧ EnvS K P I0 H0 I' H σ Γ' ∧ Inv (ds.drop i) Γ', ⟨ds.length, by simp, Nat.zero_le _, I1, Γ, Same.refl _, E.mono w, h0⟩, ?_⟩
  rintro i m σ H ⟨rfl, hle, I', Γ', s1, E', hI⟩
  by_cases hlt : i < ds.length
  · refine .inr ⟨W.go i I' H hlt s1 E'.env.ok.sub, fun σ H => ∃ I'' Γ'', Same I1 I'' ∧ EnvS K P I0 H0 I'' H σ Γ'' ∧ Inv (ds.drop (i + 1)) Γ'', fun σ2 H2 ⟨I'', Γ'', s2, E2, h2⟩ => ⟨ds.length - (i + 1), by omega, rfl, hlt, I'', Γ'', s2, E2, h2⟩, fun x H2 y => ?_⟩
    obtain ⟨I2, d, hd, w2, r2⟩ := W.yld i I' H x H2 hlt s1 E'.env.ok y
    have ed : ds.drop i = d :: ds.drop (i + 1) := by
      have hd' := List.getElem?_eq_some_iff.mp hd
      rw [List.drop_eq_getElem_cons hd'.1, hd'.2]
    rw [ed] at hI
    have E2 := E'.mono w2
    refine hs d _ Γ' hI I2 H2 σ x E2 r2 _ fun σ3 Γ3 h3 E3 => ?_
    have s12 : Same I1 I2 := s1.trans w2.ii
    have w1 : Same I I1 := w.ii
    exact h3 I2 H2 σ3 _ E3 (fun I4 H4 σ4 Γ4 h4 s4 E4 => ⟨I4, Γ4, s12.trans s4, E4, h4⟩) kr (fun I4 H4 σ4 Γ4 h4 s4 E4 => kn I4 H4 σ4 Γ4 h4 (w1.trans (s12.trans s4)) E4) fun I4 H4 σ4 Γ4 h4 s4 E4 => ⟨I4, Γ4, s12.trans s4, E4, h4⟩
  · have e : i = ds.length := by omega
    subst e
    rw [List.drop_length] at hI
    exact .inl ⟨W.stop I' H s1 E'.env.ok.sub, kn I' H σ Γ' (he Γ' hI) (Same.trans w.ii s1) E'⟩
/-- a while: an invariant and a measure of what the names hold -/
theorem sv_while {c : TT} (Inv : Env → Prop) (μ : Env → Nat) (h0 : Inv Γ)
    (hs : ∀ Γ', Inv Γ' → ∃ k, EvT K P c Γ' k ∧ (k = true → EvS K P I0 H0 t Γ' (fun Γ2 => Inv Γ2 ∧ μ Γ2 < μ Γ') R N (fun Γ2 => Inv Γ2 ∧ μ Γ2 < μ Γ')) ∧ (k = false → N Γ')) : EvS K P I0 H0 (tWhile c t) Γ N R B C := fun I H σ D' E kn kr hb hc => by
  refine ⟨fun m σ H => ∃ I' Γ', Same I I' ∧ EnvS K P I0 H0 I' H σ Γ' ∧ Inv Γ' ∧ μ Γ' = m, ⟨_, I, Γ, Same.refl I, E, h0, rfl⟩, ?_⟩
  rintro m σ H ⟨I', Γ', s1, E', hI, rfl⟩
  obtain ⟨k, ht, h1, h2⟩ := hs Γ' hI
  refine ht I' H σ E'.env _ fun I2 H2 w2 => ?_
  cases k with
  | false => exact kn I2 H2 σ Γ' (h2 rfl) (s1.trans w2.ii) (E'.mono w2)
  | true =>
    refine ⟨fun σ H => ∃ I' Γ2, Same I I' ∧ EnvS K P I0 H0 I' H σ Γ2 ∧ Inv Γ2 ∧ μ Γ2 < μ Γ', fun σ3 H3 ⟨I3, Γ3, s3, E3, h3, l3⟩ => ⟨_, l3, I3, Γ3, s3, E3, h3, rfl⟩, ?_⟩
    exact h1 rfl I2 H2 σ _ (E'.mono w2) (fun I3 H3 σ3 Γ3 h3 s3 E3 => ⟨I3, Γ3, (s1.trans w2.ii).trans s3, E3, h3.1, h3.2⟩) kr (fun I3 H3 σ3 Γ3 h3 s3 E3 => kn I3 H3 σ3 Γ3 h3 ((s1.trans w2.ii).trans s3) E3) fun I3 H3 σ3 Γ3 h3 s3 E3 => ⟨I3, Γ3, (s1.trans w2.ii).trans s3, E3, h3.1, h3.2⟩

/-! ### comprehensions: the element's environment is Δ, told by the item -/
def wipeE (Γ : Env) : List Nat → Env
  | [] => Γ
  | v :: vs => (wipeE Γ vs).set v .emp
theorem EnvOk.wipe (E : EnvOk K P I H σ Γ) : ∀ vs : List Nat, EnvOk K P I H (L2.wipe σ vs) (wipeE Γ vs)
  | [] => E
  | _ :: vs => (EnvOk.wipe E vs).forget
/-- the target of a comprehension -/
def EvW (K : PySem.W.Frag) (P : Addr) (g : TG) (vs : List Nat) (d : PyData) (Γ Δ : Env) : Prop := ∀ (I H : Hp) (σ : L2.St) (v : V), EnvOk K P I H σ Γ → Dx K I v d → ∀ Q : L2.St → Hp → Prop, (∀ σ', L2.wipe σ' vs = L2.wipe σ vs → EnvOk K P I H σ' Δ → Q σ' H) → g v (L2.wipe σ vs) H Q
theorem wipe_idem (σ : L2.St) (j : Nat) (v : Option V) : L2.wipe ((L2.wipe σ [j]).set j v) [j] = L2.wipe σ [j] := by
  show (((σ.set j none).set j v).set j none) = σ.set j none
  rw [List.set_set, List.set_set]
theorem ew_name {j : Nat} {d : PyData} : EvW K P (gName j) [j] d Γ (Γ.set j (.imm (.dat d))) := fun I H σ v E r Q q => by
  refine q _ ?_ ?_
  · show (((σ.set j none).set j (some v)).set j none) = σ.set j none
    rw [List.set_set, List.set_set]
  · have := E.set (i := j) (v := v) (d := .dat d) r
    show EnvOk K P I H ((σ.set j none).set j (some v)) _
    rw [List.set_set]
    exact this
def EvTs (K : PySem.W.Frag) (P : Addr) (tt : TT) (Γ : Env) (b : Bool) : Prop := EvT K P tt Γ b
theorem et_yes : EvT K P tYes Γ true := fun I H σ E Q q => q I H (Wd.refl E.ok)
/-- keep, val: what the item gives -/
theorem en_lc {wi : TI} {g : TG} {tt : TT} {vs : List Nat} {ds : List PyData} (f : PyData → Option PyData) (Δ : PyData → Env) (hi : EvI K P wi Γ ds) (hl : ds.length ≤ 100000) (hg : ∀ d ∈ ds, EvW K P g vs d Γ (Δ d))
    (he : ∀ d ∈ ds, (f d = none ∧ EvT K P tt (Δ d) false) ∨ ∃ y, f d = some y ∧ EvT K P tt (Δ d) true ∧ EvD K P te (Δ d) y) : EvN K P (tLc wi g tt te vs) Γ (ds.filterMap f) := fun I H σ E Q q => by
  refine hi I H σ E _ fun J I1 H1 w W => ?_
  intro p hp
  have wp := w.ok.newM hp (.lst [])
  have hP : p ≠ P := (w.ok.free hp).2
  refine ⟨fun i m H2 => m = ds.length - i ∧ i ≤ ds.length ∧ ∃ I2 acc, Wd P I1 H1 I2 H2 ∧ H2 p = some (.lst acc) ∧ I2 p = none ∧ DxA K I2 acc ((ds.take i).filterMap f), ⟨ds.length, by simp, Nat.zero_le _, I1, [], wp, upd_same, (w.ok.free hp).1, .nil⟩, ?_⟩
  rintro i m H2 ⟨rfl, hle, I2, acc, w2, h2, i2, r2⟩
  have E2 : EnvOk K P I2 H2 σ Γ := E.mono (w.trans w2)
  by_cases hlt : i < ds.length
  · refine .inr ⟨W.go i I2 H2 hlt w2.ii w2.ok.sub, fun H3 => ∃ I3 acc3, Wd P I1 H1 I3 H3 ∧ H3 p = some (.lst acc3) ∧ I3 p = none ∧ DxA K I3 acc3 ((ds.take (i + 1)).filterMap f), fun H3 h3 => ⟨ds.length - (i + 1), by omega, rfl, hlt, h3⟩, fun x H3 y => ?_⟩
    obtain ⟨I3, d, hd, w3, r3⟩ := W.yld i I2 H2 x H3 hlt w2.ii w2.ok y
    have hmem : d ∈ ds := List.mem_of_getElem? hd
    have et : (ds.take (i + 1)).filterMap f = (ds.take i).filterMap f ++ (f d).toList := by
      rw [List.take_add_one, hd, List.filterMap_append]
      congr 1
    have h3 : H3 p = some (.lst acc) := w3.hh p _ hP h2
    have i3 : I3 p = none := (w3.fr p _ h2).trans i2
    refine hg d hmem I3 H3 σ x (E2.mono w3) r3 _ fun σ4 hw E4 => ⟨hw, ?_⟩
    rcases he d hmem with ⟨hf, ht⟩ | ⟨y, hf, ht, hev⟩
    · refine ht I3 H3 σ4 E4 _ fun I5 H5 w5 => ?_
      show ∃ I3 acc3, _
      refine ⟨I5, acc, (w2.trans w3).trans w5, w5.hh p _ hP h3, (w5.fr p _ h3).trans i3, ?_⟩
      rw [et, hf]
      simpa using r2.mono (w3.ii.trans w5.ii)
    · refine ht I3 H3 σ4 E4 _ fun I5 H5 w5 => ?_
      show te σ4 H5 _
      refine hev I5 H5 σ4 (E4.mono w5) _ fun v dy I6 H6 e6 w6 r6 => ?_
      subst e6
      have w56 := w5.trans w6
      have h6 : H6 p = some (.lst acc) := w56.hh p _ hP h3
      have i6 : I6 p = none := (w56.fr p _ h3).trans i3
      have len : acc.length ≤ 100000 := by
        rw [r2.len]
        refine Nat.le_trans (List.length_filterMap_le f _) ?_
        rw [List.length_take]
        omega
      refine ⟨acc, h6, by rw [sizeLine_eq]; omega, I6, acc ++ [v], ((w2.trans w3).trans w56).mut hp i6 hP _, upd_same, i6, ?_⟩
      rw [et, hf]
      exact (r2.mono (w3.ii.trans w56.ii)).snoc r6
  · have e : i = ds.length := by omega
    subst e
    rw [List.take_length] at r2
    exact .inl ⟨W.stop I2 H2 w2.ii w2.ok.sub, q p acc I2 H2 (w.trans w2) (w.free hp) h2 i2 r2⟩
/-- no tests: a map -/
theorem en_map {wi : TI} {g : TG} {vs : List Nat} {ds : List PyData} (f : PyData → PyData) (Δ : PyData → Env) (hi : EvI K P wi Γ ds) (hl : ds.length ≤ 100000) (hg : ∀ d ∈ ds, EvW K P g vs d Γ (Δ d))
    (he : ∀ d ∈ ds, EvD K P te (Δ d) (f d)) : EvN K P (tLc wi g tYes te vs) Γ (ds.map f) := by
  have h := en_lc (tt := tYes) (fun d => some (f d)) Δ hi hl hg fun d hd => .inr ⟨f d, rfl, et_yes, he d hd⟩
  rw [List.filterMap_eq_map'] at h
  exact h
end

/-! ### defs -/
theorem paired_at {α β : Type} {F : α → β → Prop} {as : List α} {bs : List β} (h : PySem.Paired F as bs) : ∀ {i : Nat} {b : β}, bs[i]? = some b → ∃ a, as[i]? = some a ∧ F a b := by
  induction h with
  | nil =>
    intro i b e
    simp at e
  | cons h t ih =>
    intro i b e
    cases i with
    | zero =>
      cases e
      exact ⟨_, rfl, h⟩
    | succ i => exact ih e
section
variable {Pr : Program} {w : World} {K : PySem.W.Frag} {mg : Str → Option Value} {base : Heap} {P : Addr}
def startE (n : Nat) (ds : List DD) : Env := ds.map Slot.imm ++ List.replicate (n - ds.length) .emp
theorem startE_get {n : Nat} {ds : List DD} {i : Nat} {s : Slot} (h : (startE n ds)[i]? = some s) : (∃ d, ds[i]? = some d ∧ s = .imm d) ∨ (ds.length ≤ i ∧ s = .emp) := by
  unfold startE at h
  rw [List.getElem?_append] at h
  split at h
  · rw [List.getElem?_map] at h
    cases e : ds[i]? with
    | none =>
      rw [e] at h
      cases h
    | some d =>
      rw [e] at h
      cases h
      exact .inl ⟨d, rfl, rfl⟩
  · next c =>
    rw [List.length_map] at c
    exact .inr ⟨by omega, (List.mem_replicate.mp (List.mem_of_getElem? h)).2⟩
theorem startE_adrs {n : Nat} {ds : List DD} {i : Nat} {s : Slot} (h : (startE n ds)[i]? = some s) : s.adrs = [] := by
  rcases startE_get h with ⟨d, _, rfl⟩ | ⟨_, rfl⟩ <;> rfl
theorem start_len {N : List Str} {vs : List V} : (L2.start N vs).length = vs.length + (N.length - vs.length) := by
  unfold L2.start
  simp
theorem start_sv {N : List Str} {vs : List V} {i : Nat} {v : V} (h : vs[i]? = some v) : sv (L2.start N vs) i = some v := by
  apply sv_eq
  unfold L2.start
  rw [List.getElem?_append_left (by simpa using (List.getElem?_eq_some_iff.mp h).1), List.getElem?_map, h]
  rfl
theorem start_ok {I H : Hp} {N : List Str} {vs : List V} {ds : List DD} (k : Ok P I H) (r : RpL K I vs ds) : EnvS K P I H I H (L2.start N vs) (startE N.length ds) := by
  have hl : vs.length = ds.length := Paired.length r
  refine ⟨⟨k, ?_, fun i s hs => ?_, fun i j s t _ hs ht a ha => ?_⟩, Wd.refl k, fun i s hs a ha => ?_⟩
  · rw [start_len]
    unfold startE
    simp [hl]
  · rcases startE_get hs with ⟨d, hd, rfl⟩ | ⟨_, rfl⟩
    · obtain ⟨v, hv, rv⟩ := paired_at r hd
      exact ⟨v, start_sv hv, rv⟩
    · trivial
  · rw [startE_adrs hs] at ha
    cases ha
  · rw [startE_adrs hs] at ha
    cases ha
/-- a def that leaves what stood as it was: its promise, by its body told of data -/
theorem Fun.pure {x qual : Str} {st : Stmt} {f : Addr} {fd : FuncData} {N ps : List Str} {k : Nat} {X : Type} {args : X → List DD} {pre : X → Prop} {post : X → DD → Prop} (F : L2.Fun K x qual st f fd) (S : FnScope N ps (defScope st)) (hl : ∀ x, (args x).length = ps.length)
    (hb : ∀ (cdv : Value) (A : Around) (outer : List PySem.Env) (s : Shared) (H : Hp) (E : XK), Room k (A.deeper (PyProof.Rows.envOfC qual (defScope st) s.heap.objs.size f cdv)) →
      ∃ t, PSs (cxOf CX0 Pr w K mg base N qual (defScope st) f cdv A outer s H E).nox (defBody st) t ∧ ∀ x, pre x → ∀ I0 H0 : Hp, EvS K P I0 H0 t (startE N.length (args x)) (fun _ => post x (.dat .none)) (fun _ => post x) (fun _ => False) (fun _ => False)) :
    FnOk Pr w K mg base CX0 (k + 1) f fd ps (spT K P args pre post) := by
  refine F.ok S (fun vs H Q E h => ?_) (fun cdv A outer s H vs Q E hr h => ?_)
  · obtain ⟨I, x, r, _⟩ := h
    exact (Paired.length r).trans (hl x)
  · obtain ⟨I, x, r, ko, hp, q⟩ := h
    obtain ⟨t, ht, hev⟩ := hb cdv A outer s H E hr
    refine ⟨t, ht, ?_⟩
    refine hev x hp I H I H _ _ (start_ok ko r) (fun I' H' σ' Γ' h' _ E' => ?_) (fun I' H' σ' Γ' v d hd E' r' => q d v I' H' hd E'.wd r') (fun _ _ _ _ z => z.elim) (fun _ _ _ _ z => z.elim)
    exact q _ _ I' H' h' E'.wd Dx.non
end
end Wf
/-! Rules of my own over HandS: tuple + tuple of any length, ' ' * n, enumerate of a tuple. -/
namespace Wf
open PySem PySem.Spec PyProof.Rows L2
section
variable {X : Cx}
theorem cat_nil {prog : Program} {w : World} {A : Around} {E : Value → Shared → Prop} {s : Shared} {t b : Addr} {ws : List Value} {Q : Value → Shared → Prop}
    (ht : IsTup s.heap t #[]) (hb : IsTup s.heap b ws.toArray) (h : Q (.ref b) s) :
    wpAny (model prog w) A (binaryOp .Add (.ref t) (.ref b)) Q E s := by
  obtain ⟨o1, e1, c1, n1, d1⟩ := id ht
  obtain ⟨o2, e2, c2, n2, d2⟩ := id hb
  obtain ⟨k1, dd1, dt1, sl1⟩ := o1
  obtain ⟨k2, dd2, dt2, sl2⟩ := o2
  dsimp only at c1 d1 c2 d2
  subst c1 d1 c2 d2
  refine concat_meets ⟨_, e1, rfl⟩ ⟨_, e2, rfl⟩ noFill_tuple_add seq_tuple_add PySem.F.slot_tuple_add
    PySem.F.entry_tuple_add (PySem.F.args_tuple_add_2 _ _) (S := fun _ R s => s.heap.get? t = some ⟨.type "tuple", dd1, .seq #[] n1, sl1⟩ ∧
      s.heap.get? b = some ⟨.type "tuple", dd2, .seq ws.toArray n2, sl2⟩ ∧ R (.ok (.ret (.ref b))) s) (.of_wp fun prog w A R s h => ?_) ⟨e1, e2, h⟩
  obtain ⟨hp, g, d, tk, os⟩ := s
  obtain ⟨hl, hb, h⟩ := h
  have f2 := PySem.AutoSeq1.sub_tuple_tuple
  wp_walk using PySem.AutoSeq1.wpAny_loadPart' hl, PySem.AutoSeq1.wpAny_loadPart' hb
  exact ⟨_, rfl, h⟩
/-- t + u, two tuples: one of them empty gives the other itself -/
def rCatTA (K : PySem.W.Frag) : R2 := fun x y H Q => ∃ a b xs ys, x = .ref a ∧ y = .ref b ∧ SqT K H a xs ∧ SqT K H b ys ∧ xs.length + ys.length ≤ sizeLine ∧
  ((xs = [] ∧ Q (.ref b) H) ∨ (xs ≠ [] ∧ ys = [] ∧ Q (.ref a) H) ∨ (xs ≠ [] ∧ ys ≠ [] ∧ ∀ p, H p = none → Q (.ref p) (upd H p (.tup (xs ++ ys)))))
theorem op_catTA : OpR X (binaryOp .Add) (rCatTA X.K) := by
  intro pins s σ H x y v u Q I rx ry h
  obtain ⟨a, b, xs, ys, rfl, rfl, ha, hb, hz, h⟩ := h
  rcases h with ⟨rfl, q⟩ | ⟨h1, rfl, q⟩ | ⟨h1, h2, q⟩
  · cases rx
    cases ry
    obtain ⟨its, r1, p1, _⟩ := I.tuple ha
    obtain ⟨its2, r2, p2, _⟩ := I.tuple hb
    cases r1
    exact cat_nil p1 p2 ⟨.ref b, H, I, rfl, q⟩
  · exact op_catT pins s σ H _ _ v u Q I rx ry ⟨a, b, xs, [], rfl, rfl, ha, hb, h1, hz, fun _ => q, fun z => absurd rfl z⟩
  · exact op_catT pins s σ H _ _ v u Q I rx ry ⟨a, b, xs, ys, rfl, rfl, ha, hb, h1, hz, fun z => absurd z h2, fun _ => q⟩
/-- ' ' * n -/
def spcS (n : Nat) : Str := ⟨(List.replicate n 32).toArray⟩
def rMulS : R2 := fun x y H Q => ∃ n : Nat, x = .str ⟨#[32]⟩ ∧ y = .int n ∧ n ≤ 100000 ∧ Q (.str (spcS n)) H
theorem mul_one (n : Nat) : (List.replicate n (#[32] : Array Nat)).foldl (· ++ ·) #[] = (List.replicate n 32).toArray := by
  have key : ∀ (n : Nat) (a : Array Nat), (List.replicate n (#[32] : Array Nat)).foldl (· ++ ·) a = a ++ (List.replicate n 32).toArray := by
    intro n
    induction n with
    | zero => intro a; simp
    | succ n ih =>
      intro a
      rw [List.replicate_succ, List.foldl_cons, ih, Array.append_assoc]
      congr 1
      simp [List.replicate_succ]
  rw [key]
  simp
theorem op_mulS : OpR X (binaryOp .Mult) rMulS := by
  intro pins s σ H x y v u Q I rx ry h
  obtain ⟨n, rfl, rfl, hn, q⟩ := h
  obtain ⟨t, rfl⟩ := rx
  obtain ⟨t', rfl⟩ := ry
  have len1 : (⟨#[32]⟩ : Str).length = 1 := rfl
  refine SB.mul ⟨?_, fun h1 h2 => ?_, fun h1 h2 => ?_⟩ fun t2 k => ?_
  · rw [decide_eq_false (by omega), decide_eq_false (by omega)]
    rfl
  · rw [len1]
    intro z
    have h3 : (1 : Int) ≤ (2 ^ 63 - 1) / (n : Int) := by
      rw [Int.le_ediv_iff_mul_le (by omega)]
      omega
    omega
  · unfold PySem.Builtin.Str.tooLong
    rw [len1]
    refine decide_eq_false ?_
    rw [sizeLine_eq]
    simp
    omega
  · refine ⟨.str (spcS n), H, I.tok k, ⟨t2, ?_⟩, q⟩
    congr 1
    unfold Txt.mul
    by_cases h1 : (n : Int) < 1
    · rw [if_pos h1]
      have e : n = 0 := by omega
      subst e
      rfl
    · rw [if_neg h1]
      by_cases h2 : ((n : Int) == 1 || (⟨#[32]⟩ : Str).length == 0) = true
      · rw [if_pos h2]
        have e : n = 1 := by
          rw [len1] at h2
          simp at h2
          omega
        subst e
        rfl
      · rw [if_neg h2]
        show (⟨_⟩ : Str) = ⟨_⟩
        rw [Int.toNat_natCast]
        congr 1
        exact mul_one n

/-! ### enumerate(t), t a tuple -/
set_option maxHeartbeats 2000000 in
theorem meets_enumT {v : Value} {o : Obj} {HH : Heap → Prop} (B : Begins v o HH) :
    Meets (Builtin.«enumerate.__new__» ⟨[.type "enumerate", v], []⟩) (fun _ R s => HH s.heap ∧
      R (.ok (.ret (.ref (s.heap.push o).objs.size)))
        { s with heap := (s.heap.push o).push ⟨.type "enumerate", none, .fields #[.none, .bool false, .ref s.heap.objs.size, rawInt 0, .none, .none], #[]⟩ }) :=
  .of_wp fun prog w A R s h => by
    obtain ⟨hp, g, d, tk, os⟩ := s
    obtain ⟨hB, h⟩ := h
    have hsub := sub_enumerate
    have qB : ∀ {A' : Around} {E Q : Value → Shared → Prop}, Q (.ref hp.objs.size) ⟨hp.push o, g, d, tk, os⟩ →
        wpAny (model prog w) A' (pyIter v) Q E ⟨hp, g, d, tk, os⟩ := fun q => B.iter prog w _ _ ⟨hp, g, d, tk, os⟩ _ hB q
    wp_walk using qB
    refine wpAny_stack_any fun st => wpAny_pure ?_
    split
    · rename_i c _ _ _ _ _
      cases (c == Value.type "enumerate") <;> (wp_walk using qB; exact ⟨_, rfl, h⟩)
    · (wp_walk using qB; exact ⟨_, rfl, h⟩)
theorem call_enumT {prog : Program} {w : World} {A : Around} {E : Value → Shared → Prop} {s : Shared} {l : Addr} {items : Array Value} {Q : Value → Shared → Prop} (hT : s.heap.IsTuple l items)
    (h : ∀ h', IsEnum h' (s.heap.objs.size + 1) s.heap.objs.size 0 .none → h'.IsTupleIter s.heap.objs.size l 0 →
      (∀ b o, s.heap.get? b = some o → h'.get? b = some o) → Q (.ref (s.heap.objs.size + 1)) { s with heap := h' }) :
    wpAny (model prog w) A (call (.type "enumerate") [.ref l]) Q E s := by
  have B := begins_tuple l items
  refine callType_new F.called_enumerate (by decide) (F.typeCall_enumerate_1 _) (F.newCall_enumerate_1 _)
    (fun obj => F.args_object_init_2 obj _) F.entry_enumerate_new (meets_enumT B) ⟨hT, ?_⟩
  generalize hio : (⟨.type "tuple_iterator", none, .fields #[.ref l, .int 0 0], #[]⟩ : Obj) = io
  have hz : (s.heap.push io).objs.size = s.heap.objs.size + 1 := Heap.size_push ..
  show _ ∧ _
  rw [hz]
  generalize heo : (⟨.type "enumerate", none, .fields #[.none, .bool false, .ref s.heap.objs.size, rawInt 0, .none, .none], #[]⟩ : Obj) = eo
  have he : ((s.heap.push io).push eo).get? (s.heap.objs.size + 1) = some eo := by
    have := Heap.get?_push_size (s.heap.push io) (o := eo) (by subst heo; rfl)
    rw [hz] at this
    exact this
  have he' : IsEnum ((s.heap.push io).push eo) (s.heap.objs.size + 1) s.heap.objs.size 0 .none := by
    subst heo
    exact he
  refine ⟨⟨_, he', rfl⟩, h _ he' ⟨io, Heap.get?_push_of_some _ (Heap.get?_push_size _ (by subst hio; rfl)), ?_, ?_⟩ fun b o x => Heap.get?_push_of_some _ (Heap.get?_push_of_some _ x)⟩
  · subst hio
    rfl
  · subst hio
    rfl
theorem enumT_end {prog : Program} {w : World} {A : Around} {E : Value → Shared → Prop} {s : Shared} {e it l : Addr} {i : Nat} {items : Array Value} {old : Value} {Q : Option Value → Shared → Prop}
    (hh : A.handled = none) (he : IsEnum s.heap e it i old) (hit : s.heap.IsTupleIter it l i) (_ : l ≠ it) (hl : s.heap.IsTuple l items) (hx : items.size ≤ i)
    (hQ : ∀ h', Heap.ExtBut it s.heap h' → Q none { s with heap := h' }) : wpAny (model prog w) A (pyNext (.ref e)) Q E s := by
  have ty : s.TypeIs (.ref e) "enumerate" := ⟨_, he, rfl⟩
  have ns := F.slot_enumerate_next
  have core := wpAny_call_entry (Q := fun v s' => Q (some v) s') (E := fun x s' => wpAny (model prog w) A (isInstance x (.type "StopIteration"))
    (fun b s'' => if b = true then Q none s'' else E x s'') E s') (prog := prog) (w := w) (A := A) (s := s) ns ty F.entry_enumerate_next ?_ (F.args_enumerate_next_1 _)
  · unfold pyNext
    refine wpAny_bind (wpAny_attempt (wpAny_callSpecial?_slot (name := Str.ofString "__next__") ty ns ?_))
    refine wpAny_mono core (fun v s' q => wpAny_pure q) fun x s' q => ?_
    refine wpAny_bind (wpAny_mono q (fun b s'' r => ?_) fun _ _ z => z)
    cases b with
    | true => exact wpAny_pure r
    | false => exact wpAny_throw r
  · show wpAny _ _ (field (.ref e) 2 >>= _) _ _ s
    refine wpAny_bind (wpAny_field he rfl (x := .ref it) rfl ?_)
    refine wpAny_bind (wpAny_nextOf_tuple_end hh hit hl (Array.getElem?_eq_none hx) fun h' x k ⟨o, ho, hc⟩ => ?_)
    exact wpAny_isInstance (T := "StopIteration") (b := true) ⟨o, ho, hc⟩ isSubtype_stop (hQ _ k)
/-- the items of the tuple at a, in new pairs with their number -/
def IteT (K : PySem.W.Frag) (a : Addr) : It where
  go := fun i H => ∃ (xs : List V) (x : V), SqT K H a xs ∧ xs[i]? = some x
  yld := fun i H v H' => ∃ T x, v = .ref T ∧ H T = none ∧ H' = upd H T (.tup [.int (i : Nat), x]) ∧ ∀ xs, SqT K H a xs → xs[i]? = some x
  stop := fun i H => ∃ xs : List V, SqT K H a xs ∧ xs.length ≤ i
theorem turn_enumT {P : Program} {w : World} {K : PySem.W.Frag} {elts : List Expr} {kk : Nat} {tpos : Pos} (a e it : Addr) (hea : e ≠ a) (hia : a ≠ it) :
    Turn P w K (.Tuple elts kk tpos) (IteT K a) [e, it] e (fun i h => (∃ old, IsEnum h e it ((i : Nat) : Int) old) ∧ h.IsTupleIter it a i ∧ e ≠ it) where
  mem := List.mem_cons_self
  obj := fun i h st b hb => by
    obtain ⟨⟨old, he⟩, ⟨o, ho, hc, hd⟩, _⟩ := st
    rcases List.mem_cons.mp hb with z | z
    · subst z
      exact ⟨_, he, fun v q => nomatch q⟩
    · rcases List.mem_singleton.mp z with rfl
      refine ⟨o, ho, fun v q => ?_⟩
      rw [hd] at q
      cases q
  keep := fun i h h' st k => by
    obtain ⟨⟨old, he⟩, hi, hne⟩ := st
    exact ⟨⟨old, k e List.mem_cons_self _ he⟩, hi.at fun o q => k it (List.mem_cons_of_mem _ List.mem_cons_self) o q, hne⟩
  item := by
    intro X hP hw hK hc i pins s σ H E I hf st hg
    subst hP hw hK
    obtain ⟨⟨old, he⟩, hit, hne⟩ := st
    obtain ⟨xs, x, hq, hx⟩ := hg
    obtain ⟨its, rv, p, hz⟩ := I.tuple hq
    obtain ⟨u, hu, ru⟩ := rv.get hx
    have hel : e < s.heap.objs.size := Heap.lt_size he
    have hil : it < s.heap.objs.size := by
      obtain ⟨_, q, _⟩ := hit
      exact Heap.lt_size q
    have hlen : i < its.toArray.size := by
      rw [List.size_toArray]
      exact (List.getElem?_eq_some_iff.mp hu).1
    have D := Draws.tuple (prog := X.prog) (w := X.w) (A := X.A.in1) (I.ok.hd hc) it a hia its.toArray
    refine wpAny_pyNext_enum_itemD D he ⟨hit, p⟩ hlen hne (fun z => ?_) fun y h' tk hy ho hst' hT hsz hk => ?_
    · rcases List.mem_cons.mp z with z | z
      · exact hne z
      · exact hea (List.mem_singleton.mp z)
    have ey : y = u := by
      rw [List.getElem?_toArray, hu] at hy
      exact (Option.some.inj hy).symm
    subst ey
    refine ⟨_, rfl, wpAny_letOwnedTupleGo_enum (s := { s with heap := h', toks := tk + 1 }) ho fun h'' he' sb => ?_⟩
    generalize hTa : s.heap.objs.size = T at *
    have hT2 := (sb.2 T (Nat.ne_of_gt hel)).trans hT
    have new : ObjOk X.prog X.w (upd H T (.tup [.int (i : Nat), x])) h'' T (.tup [.int (i : Nat), x]) :=
      ⟨by show 2 ≤ sizeLine; decide, [.int i tk, y], .cons ⟨_, rfl⟩ (.cons ru .nil), ⟨_, hT2, rfl, _, rfl⟩⟩
    have fr : H T = none := I.hok.fresh (Nat.le_of_eq hTa)
    have I1 : Inv X pins σ (upd H T (.tup [.int (i : Nat), x])) { s with heap := h'', toks := tk + 1 } := by
      refine I.turnedNew (ch := [e, it]) (fun b ob hb q => ?_) hf (Nat.le_of_eq hTa) new
      have n1 : b ≠ e := fun z => hb (by rw [z]; exact List.mem_cons_self)
      have n2 : b ≠ it := fun z => hb (by rw [z]; exact List.mem_cons_of_mem _ List.mem_cons_self)
      exact (sb.2 b n1).trans (hk b ob n1 n2 q)
    refine ⟨.ref T, _, I1, rfl, ⟨T, x, rfl, fr, rfl, fun ys hy => ?_⟩, ⟨⟨y, ?_⟩, hst'.1.at fun o q => (sb.2 it (Ne.symm hne)).trans q, hne⟩, fun b hb => ?_⟩
    · rw [I.tuple_inj hy hq]
      exact hx
    · have e1 : ((i + 1 : Nat) : Int) = (i : Int) + 1 := by omega
      rw [e1]
      exact he'
    · have hb' : b < T := by
        rcases List.mem_cons.mp hb with z | z
        · rw [z]
          exact hel
        · rw [List.mem_singleton.mp z]
          exact hil
      rw [upd_ne (Nat.ne_of_lt hb')]
      exact (hf b hb).1
  done := by
    intro X hP hw hK hc i pins s σ H E I hf st hg
    subst hP hw hK
    obtain ⟨⟨old, he⟩, hit, hne⟩ := st
    obtain ⟨xs, hq, hx⟩ := hg
    obtain ⟨its, rv, p, hz⟩ := I.tuple hq
    obtain ⟨f0, f1, f2, f3, f4, f5⟩ := hf it (List.mem_cons_of_mem _ List.mem_cons_self)
    have hl := rv.length
    exact enumT_end (I.ok.hd hc) he hit hia p (by rw [List.size_toArray]; omega) fun h' eb =>
      ⟨rfl, I.turned (t' := s.toks) (fun b o hb q => eb b o hb q) f0 f1 f3 f4 f5⟩
  self := fun A i s Q E st h => by
    obtain ⟨⟨_, he⟩, _⟩ := st
    exact wpAny_pyIter_enum he h
def iEnumT (K : PySem.W.Frag) (ta : TA) : TI := fun σ H R => ta σ H fun vs H1 => ∃ a xs, vs = [.ref a] ∧ SqT K H1 a xs ∧ R (IteT K a) H1
theorem pi_enumT {e : Expr} {ta : TA} {p pos tpos : Pos} {elts : List Expr} {kk : Nat} (hg : Gl X "enumerate") (hm : X.mg "enumerate" = none) (ha : PA X [e] ta) (hs : starEach [e] X.env = [(false, eval e X.env)] := by rfl) :
    PI X (.Tuple elts kk tpos) (.Call (.Name "enumerate" p) [e] [] pos) (iEnumT X.K ta) := by
  refine ⟨fun pins s σ H R I h => ?_⟩
  refine Call_ (ld_blt I hg hm boot_enumerate (PyProof.Rows.callWith_type1 (thn (ha.run pos pins s σ H _ I h) fun us s1 hu => ?_) hs rfl))
  obtain ⟨vs, H1, I1, r1, a, xs, ex, hq, q⟩ := hu
  subst ex
  cases r1 with
  | cons r rr =>
    cases rr
    cases r
    obtain ⟨its, rv, p', hz⟩ := I1.tuple hq
    refine call_enumT p' fun h' he hit hk => wpAny_pyIter_enum he ?_
    have al : a < s1.heap.objs.size := p'.lt
    have I2 : Inv X pins σ H1 { s1 with heap := h' } := I1.kept (t' := s1.toks) hk
    refine ⟨s1.heap.objs.size + 1, [s1.heap.objs.size + 1, s1.heap.objs.size], _, _, H1, rfl, I2,
      turn_enumT a (s1.heap.objs.size + 1) s1.heap.objs.size (fun z => ?_) (Nat.ne_of_lt al), ⟨⟨.none, he⟩, hit, Nat.succ_ne_self _⟩, fun b hb => ?_, q⟩
    · have : s1.heap.objs.size + 1 < s1.heap.objs.size := by
        have h2 : a < s1.heap.objs.size := al
        rw [← z] at h2
        exact h2
      omega
    · have hle : s1.heap.objs.size ≤ b := by
        rcases List.mem_cons.mp hb with z | z
        · rw [z]
          exact Nat.le_add_right _ _
        · rw [List.mem_singleton.mp z]
          exact Nat.le_refl _
      exact I1.fpOk hle (I1.hok.fresh hle)
theorem ei_enumT {K : PySem.W.Frag} {P : Addr} {Γ : Env} {te : TE} {ds : List PyData} (h : EvD K P te Γ (.tuple ds)) : EvI K P (iEnumT K (tCons te tNil)) Γ (enumD 0 ds) := fun I H σ E R q => by
  refine h I H σ E _ fun v d I1 H1 e w r => ?_
  subst e
  cases r with
  | @tup a xs _ h1 h2 =>
    have hl := h2.len
    refine ⟨a, xs, rfl, sqT_mono w.ok.sub h1, q _ I1 H1 w ⟨fun i I' H i1 s1 s2 => ?_, fun I' H s1 s2 => ?_, fun i I' H x H' i1 s1 k y => ?_⟩⟩
    · rw [enumD_len] at i1
      exact ⟨xs, xs[i]'(by omega), sqT_mono s2 (sqT_mono s1 h1), by simp [show i < xs.length by omega]⟩
    · rw [enumD_len]
      exact ⟨xs, sqT_mono s2 (sqT_mono s1 h1), by omega⟩
    · rw [enumD_len] at i1
      obtain ⟨T, z, rfl, hT, rfl, y⟩ := y
      obtain ⟨d, e1, e2⟩ := h2.get' (y xs (sqT_mono k.sub (sqT_mono s1 h1)))
      have w2 := k.new hT (.tup [.int (i : Nat), z])
      refine ⟨_, _, enumD_get ds 0 i d e1, w2, ?_⟩
      rw [Nat.zero_add]
      exact Dx.tup (SqT.of upd_same) (.cons (.int _) (.cons (e2.mono (s1.trans w2.ii)) .nil))
end
end Wf
/-! Lists of lists of ours, and dicts of lists of ours. -/
namespace Wf
open PySem L2
section
variable {K : PySem.W.Frag} {P : Addr} {Γ : Env} {ta tb tc te : TE} {a b c d : PyData} {N : Env → Prop} {R : Env → DD → Prop} {B C : Env → Prop} {t u : TS} {I0 H0 I H I' H' : Hp} {σ : L2.St}
theorem OwnAt.upd_ne {a p : Addr} {o : HO} {ds : List PyData} (h : OwnAt K I H a ds) (n : a ≠ p) : OwnAt K I (upd H p o) a ds := by
  obtain ⟨vs, h1, h2, h3⟩ := h
  exact ⟨vs, by rw [L2.upd_ne n]; exact h1, h2, h3⟩
theorem EnvOk.ownL (E : EnvOk K P I H σ Γ) {i : Nat} {p : Addr} {qs : List (Addr × List PyData)} (h : Γ[i]? = some (.ownL p qs)) : σ[i]? = some (some (.ref p)) ∧ H p = some (.lst (qs.map fun q => V.ref q.1)) ∧ I p = none ∧ (p :: qs.map (·.1)).Nodup ∧ ∀ q ∈ qs, OwnAt K I H q.1 q.2 := by
  obtain ⟨e, r⟩ := E.sl i _ h
  exact ⟨sv_some e, r⟩
theorem EnvOk.ownT (E : EnvOk K P I H σ Γ) {i : Nat} {p : Addr} {es : List (Str × Addr × List PyData)} (h : Γ[i]? = some (.ownT p es)) : σ[i]? = some (some (.ref p)) ∧ H p = some (.dK (es.map fun e => (Sum.inr e.1, V.ref e.2.1))) ∧ I p = none ∧ (p :: es.map (·.2.1)).Nodup ∧ ∀ e ∈ es, OwnAt K I H e.2.1 e.2.2 := by
  obtain ⟨e, r⟩ := E.sl i _ h
  exact ⟨sv_some e, r⟩
/-- an object of ours is written, and one new object comes with it -/
theorem EnvS.grow (E : EnvS K P I0 H0 I H σ Γ) {i : Nat} {p q : Addr} {t s' : Slot} {o o1 : HO} (h : Γ[i]? = some t) (ht : p ∈ t.adrs) (hq : H q = none) (r : SlotOk K I (upd (upd H q o1) p o) (sv σ i) s') (hs : ∀ a ∈ s'.adrs, a ∈ t.adrs ∨ a = q) : EnvS K P I0 H0 I (upd (upd H q o1) p o) σ (Γ.set i s') := by
  obtain ⟨_, hp, hi, hP⟩ := (E.env.sl i _ h).adr E.env.ok ht
  have w1 := E.env.ok.newM hq o1
  have hpq : p ≠ q := ne_of_none hp hq
  have w := (E.wd.trans w1).mut (E.fresh i _ h p ht) hi hP o
  have := E.env.change h w.ok (Same.refl I) (fun a u ha e z _ => ⟨by rw [L2.upd_ne fun z => ha (by rw [z]; exact ht), L2.upd_ne (ne_of_none e hq)]; exact e, z⟩) r fun a ha => (hs a ha).imp id fun e => by rw [e]; exact hq
  rw [set_sv] at this
  exact ⟨this, w, fresh_set E.fresh fun a ha => (hs a ha).elim (E.fresh i _ h a) fun e => by rw [e]; exact E.wd.free hq⟩

/-! ### a list of lists of ours -/
theorem sv_newL {i : Nat} (hn : ∀ p, N (Γ.set i (.ownL p []))) : EvS K P I0 H0 (tAsg (tLst tNil) (gName i)) Γ N R B C := fun I H σ D' E kn hr hb hc => by
  refine ⟨by simp, fun p hp => ?_⟩
  refine kn _ _ _ _ (hn p) (Same.refl I) (E.setW (E.env.ok.newM hp (.lst [])) ⟨rfl, upd_same, (E.env.ok.free hp).1, by simp, fun q hq => by cases hq⟩ fun a ha => ?_)
  rcases List.mem_singleton.mp ha with rfl
  exact hp
theorem sv_asgL1 {i : Nat} {ds : List PyData} (h : EvN K P te Γ ds) (hn : ∀ p q, N (Γ.set i (.ownL p [(q, ds)]))) : EvS K P I0 H0 (tAsg (tLst (tCons te tNil)) (gName i)) Γ N R B C := fun I H σ D' E kn hr hb hc => by
  refine h I H σ E.env _ fun q vs I1 H1 w hq h1 hi r => ?_
  refine ⟨by simp [sizeLine_eq], fun p hp => ?_⟩
  have w2 := w.trans (w.ok.newM hp (.lst [.ref q]))
  have hne : q ≠ p := ne_of_none h1 hp
  refine kn I1 _ _ _ (hn p q) w.ii (E.setW w2 ⟨rfl, upd_same, (w.ok.free hp).1, by simpa using Ne.symm hne, fun x hx => ?_⟩ fun a ha => ?_)
  · rcases List.mem_singleton.mp hx with rfl
    exact OwnAt.upd_ne ⟨vs, h1, hi, r⟩ hne
  · rcases List.mem_cons.mp ha with rfl | ha
    · exact w.free hp
    · rcases List.mem_singleton.mp ha with rfl
      exact hq
abbrev neg1 : TE := tUn (rU fun i => .int (-i)) (tC (.int 1))
theorem atI_last {α : Type} {xs : List α} {x : α} : atI (xs ++ [x]) (-1) = some x := by
  unfold atI ixN
  rw [if_neg (by decide), if_pos (by simp only [List.length_append, List.length_singleton]; omega)]
  have e : (-1 + ((xs ++ [x]).length : Int)).toNat = xs.length := by
    simp only [List.length_append, List.length_singleton]
    omega
  show (xs ++ [x])[(-1 + ((xs ++ [x]).length : Int)).toNat]? = some x
  rw [e]
  simp
theorem et_lastL {i : Nat} {p q : Addr} {qs : List (Addr × List PyData)} {ds : List PyData} (h : Γ[i]? = some (.ownL p (qs ++ [(q, ds)]))) : EvT K P (tTru K (tOp (rIxL K) (tVar i) neg1)) Γ (!ds.isEmpty) := fun I H σ E Q k => by
  obtain ⟨e, h1, h2, h3, h4⟩ := E.ownL h
  obtain ⟨vs, g1, g2, g3⟩ := h4 (q, ds) (by simp)
  refine ⟨_, e, 1, rfl, p, _, -1, .ref q, rfl, rfl, SqL.of h1, ?_, _, .inl ⟨vs, SqL.of g1, rfl⟩, ?_⟩
  · rw [List.map_append]
    exact atI_last
  · have e : (!vs.isEmpty) = !ds.isEmpty := by
      have := g3.len
      cases vs <;> cases ds <;> simp_all
    rw [e]
    exact k I H (Wd.refl E.ok)
theorem nodup_sub {p : Addr} {as bs : List Addr} (h : (p :: (as ++ bs)).Nodup) : (p :: as).Nodup := by
  have := List.Nodup.sublist (List.Sublist.cons_cons p (List.sublist_append_left as bs)) h
  exact this
theorem sv_popL {i : Nat} {p : Addr} {x : Addr × List PyData} {qs : List (Addr × List PyData)} (h : Γ[i]? = some (.ownL p (qs ++ [x]))) (hn : N (Γ.set i (.ownL p qs))) : EvS K P I0 H0 (tDrop (tBM0 K "list" rPop (tVar i))) Γ N R B C := fun I H σ D' E kn hr hb hc => by
  obtain ⟨e, h1, h2, h3, h4⟩ := E.env.ownL h
  refine ⟨_, e, .inl ⟨rfl, _, SqL.of h1⟩, p, _, .ref x.1, rfl, rfl, h1, by simp, ?_⟩
  have e2 : ((qs ++ [x]).map fun q => V.ref q.1).dropLast = qs.map fun q => V.ref q.1 := by rw [List.map_append]; exact List.dropLast_concat
  rw [e2]
  rw [List.map_append] at h3
  refine kn I _ σ _ hn (Same.refl I) (E.write h List.mem_cons_self ⟨sv_eq e, upd_same, h2, nodup_sub h3, fun q hq => ?_⟩ fun a ha => ?_)
  · refine (h4 q (List.mem_append_left _ hq)).upd_ne fun z => ?_
    exact (List.nodup_cons.mp h3).1 (z ▸ List.mem_append_left _ (List.mem_map.mpr ⟨q, hq, rfl⟩))
  · show a ∈ p :: (qs ++ [x]).map (·.1)
    rw [List.map_append]
    rcases List.mem_cons.mp ha with rfl | ha
    · exact List.mem_cons_self
    · exact List.mem_cons_of_mem _ (List.mem_append_left _ ha)
/-- one inner list is another -/
theorem SlotOk.inner {p q : Addr} {l r : List (Addr × List PyData)} {ds es : List PyData} {vs : List V} {o : Option V} (h : SlotOk K I H o (.ownL p (l ++ (q, ds) :: r))) (x : DxA K I vs es) : SlotOk K I (upd H q (.lst vs)) o (.ownL p (l ++ (q, es) :: r)) := by
  obtain ⟨e, h1, h2, h3, h4⟩ := h
  have hm : (l ++ (q, es) :: r).map (·.1) = (l ++ (q, ds) :: r).map (·.1) := by simp
  have hpq : p ≠ q := fun z => (List.nodup_cons.mp h3).1 (by rw [z]; simp)
  have hi : I q = none := (h4 (q, ds) (by simp)).choose_spec.2.1
  refine ⟨e, ?_, h2, by rw [hm]; exact h3, fun y hy => ?_⟩
  · rw [L2.upd_ne hpq, h1]
    simp
  · have nd := (List.nodup_cons.mp h3).2
    rw [List.map_append, List.map_cons] at nd
    rcases List.mem_append.mp hy with hy | hy
    · refine (h4 y (List.mem_append_left _ hy)).upd_ne fun z => ?_
      have := (List.nodup_append.mp nd).2.2 y.1 (List.mem_map.mpr ⟨y, hy, rfl⟩) q List.mem_cons_self
      exact this z
    · rcases List.mem_cons.mp hy with rfl | hy
      · exact ⟨vs, upd_same, hi, x⟩
      · refine (h4 y (List.mem_append_right _ (List.mem_cons_of_mem _ hy))).upd_ne fun z => ?_
        have := (List.nodup_cons.mp (List.nodup_append.mp nd).2.1).1
        exact this (z ▸ List.mem_map.mpr ⟨y, hy, rfl⟩)
theorem EnvS.inner (E : EnvS K P I0 H0 I H σ Γ) {i : Nat} {p q : Addr} {l r : List (Addr × List PyData)} {ds es : List PyData} {vs : List V} (h : Γ[i]? = some (.ownL p (l ++ (q, ds) :: r))) (x : DxA K I vs es) : EnvS K P I0 H0 I (upd H q (.lst vs)) σ (Γ.set i (.ownL p (l ++ (q, es) :: r))) :=
  E.write h (by show q ∈ p :: (l ++ (q, ds) :: r).map (·.1); simp) (SlotOk.inner (E.env.sl i _ h) x) fun a ha => by
    show a ∈ p :: (l ++ (q, ds) :: r).map (·.1)
    have hm : (l ++ (q, es) :: r).map (·.1) = (l ++ (q, ds) :: r).map (·.1) := by simp
    rw [← hm]
    exact ha
theorem sv_pop0L {i : Nat} {p q : Addr} {qs : List (Addr × List PyData)} {ds : List PyData} {g : TG} (h : Γ[i]? = some (.ownL p (qs ++ [(q, d :: ds)]))) (hg : EvG K P I0 H0 g (.dat d) (Γ.set i (.ownL p (qs ++ [(q, ds)]))) N) : EvS K P I0 H0 (tAsg (tBM K "list" rPopAt (tOp (rIxL K) (tVar i) neg1) (tCons (tC (.int 0)) tNil)) g) Γ N R B C := fun I H σ D' E kn hr hb hc => by
  obtain ⟨e, h1, h2, h3, h4⟩ := E.env.ownL h
  obtain ⟨vs, g1, g2, g3⟩ := h4 (q, d :: ds) (by simp)
  refine ⟨_, e, 1, rfl, p, _, -1, .ref q, rfl, rfl, SqL.of h1, by rw [List.map_append]; exact atI_last, .inl ⟨rfl, vs, SqL.of g1⟩, ?_⟩
  show rPopAt (.ref q) [.int 0] H fun x H1 => g x σ H1 D'.nx
  cases g3 with
  | @cons v vs' _ _ k1 k2 =>
    refine ⟨q, v :: vs', 0, 0, v, rfl, rfl, g1, by decide, by decide, ?_, rfl, ?_⟩
    · unfold seqIndex?
      simp
    · exact hg I _ σ v (E.inner h k2) k1 _ fun σ' Γ' hN E' => kn I _ σ' Γ' hN (Same.refl I) E'
theorem sv_appendL {i : Nat} {p : Addr} {qs : List (Addr × List PyData)} {ds : List PyData} (h : Γ[i]? = some (.ownL p qs)) (he : EvN K P te Γ ds) (hl : qs.length < 100000) (hn : ∀ q, N (Γ.set i (.ownL p (qs ++ [(q, ds)])))) : EvS K P I0 H0 (tDrop (tBM K "list" rAppend (tVar i) (tCons te tNil))) Γ N R B C := fun I H σ D' E kn hr hb hc => by
  obtain ⟨e, h1, _⟩ := E.env.ownL h
  refine ⟨_, e, .inl ⟨rfl, _, SqL.of h1⟩, ?_⟩
  refine he I H σ E.env _ fun q vs I1 H1 w hq g1 gi gr => ?_
  obtain ⟨e, h1', h2, h3, h4⟩ := (E.env.mono w).ownL h
  refine ⟨p, _, .ref q, rfl, rfl, h1', by rw [List.length_map, sizeLine_eq]; omega, ?_⟩
  have eL : (qs.map fun q => V.ref q.1) ++ [V.ref q] = (qs ++ [(q, ds)]).map fun q => V.ref q.1 := by simp
  rw [eL]
  have hp0 := E.fresh i _ h p List.mem_cons_self
  have hpP : p ≠ P := E.env.ok.ne h1 fun _ z => by cases z
  have hqn : ∀ x ∈ p :: qs.map (·.1), x ≠ q := fun x hx z => by
    obtain ⟨o, ho, _⟩ := (E.env.sl i _ h).adr E.env.ok (a := x) hx
    rw [z, hq] at ho
    cases ho
  have w2 := (E.wd.trans w).mut hp0 h2 hpP (.lst ((qs ++ [(q, ds)]).map fun q => V.ref q.1))
  have ch := E.env.change (v' := some (.ref p)) (s' := .ownL p (qs ++ [(q, ds)])) h w2.ok w.ii (fun a u ha eu z hP => ⟨by rw [L2.upd_ne fun z => ha (by rw [z]; exact List.mem_cons_self)]; exact w.hh a u hP eu, (w.fr a u eu).trans z⟩)
    ⟨rfl, upd_same, h2, by
      rw [List.map_append, ← List.cons_append]
      refine List.nodup_append.mpr ⟨h3, by simp, fun x hx y hy => ?_⟩
      rcases List.mem_singleton.mp hy with rfl
      exact hqn x hx, fun x hx => by
      rcases List.mem_append.mp hx with hx | hx
      · refine (h4 x hx).upd_ne fun z => (List.nodup_cons.mp h3).1 (z ▸ List.mem_map.mpr ⟨x, hx, rfl⟩)
      · rcases List.mem_singleton.mp hx with rfl
        exact OwnAt.upd_ne ⟨vs, g1, gi, gr⟩ (Ne.symm (hqn p List.mem_cons_self))⟩
    (fun a ha => by
      have ha : a ∈ p :: (qs ++ [(q, ds)]).map (·.1) := ha
      rw [List.map_append, ← List.cons_append] at ha
      rcases List.mem_append.mp ha with ha | ha
      · exact .inl ha
      · rcases List.mem_singleton.mp ha with rfl
        exact .inr hq)
  have e' : σ.set i (some (.ref p)) = σ := by
    have := set_sv σ i
    rw [sv_eq e] at this
    exact this
  rw [e'] at ch
  refine kn I1 _ σ _ (hn q) w.ii ⟨ch, w2, fresh_set E.fresh fun a ha => ?_⟩
  have ha : a ∈ p :: (qs ++ [(q, ds)]).map (·.1) := ha
  rw [List.map_append, ← List.cons_append] at ha
  rcases List.mem_append.mp ha with ha | ha
  · exact E.fresh i _ h a ha
  · rcases List.mem_singleton.mp ha with rfl
    exact E.wd.free hq
/-- a list of ours, told by a name, goes into the list of lists; the name is dropped -/
theorem sv_appendMove {i j : Nat} {p q : Addr} {qs : List (Addr × List PyData)} {ds : List PyData} (hij : i ≠ j) (h : Γ[i]? = some (.ownL p qs)) (hj : Γ[j]? = some (.own q ds)) (hl : qs.length < 100000) (hn : N ((Γ.set j .emp).set i (.ownL p (qs ++ [(q, ds)])))) : EvS K P I0 H0 (tDrop (tBM K "list" rAppend (tVar i) (tCons (tVar j) tNil))) Γ N R B C := fun I H σ D' E kn hr hb hc => by
  obtain ⟨e, h1, h2, h3, h4⟩ := E.env.ownL h
  obtain ⟨vs, ej, g1, gi, gr, _⟩ := E.env.own hj
  refine ⟨_, e, .inl ⟨rfl, _, SqL.of h1⟩, ?_⟩
  refine ⟨_, ej, ?_⟩
  refine ⟨p, _, .ref q, rfl, rfl, h1, by rw [List.length_map, sizeLine_eq]; omega, ?_⟩
  have eL : (qs.map fun q => V.ref q.1) ++ [V.ref q] = (qs ++ [(q, ds)]).map fun q => V.ref q.1 := by simp
  rw [eL]
  have hp0 := E.fresh i _ h p List.mem_cons_self
  have hpP : p ≠ P := E.env.ok.ne h1 fun _ z => by cases z
  have hqn : ∀ x ∈ p :: qs.map (·.1), x ≠ q := fun x hx z => E.env.nd i j _ _ hij h hj x hx (by rw [z]; exact List.mem_cons_self)
  have w2 := E.wd.mut hp0 h2 hpP (.lst ((qs ++ [(q, ds)]).map fun q => V.ref q.1))
  have hiΓ : i < Γ.length := (List.getElem?_eq_some_iff.mp h).1
  -- the name is dropped first, the list held apart
  have key : EnvOk K P I (upd H p (.lst ((qs ++ [(q, ds)]).map fun q => V.ref q.1))) σ ((Γ.set j .emp).set i (.ownL p (qs ++ [(q, ds)]))) := by
    refine ⟨w2.ok, by rw [List.length_set, List.length_set]; exact E.env.len, fun k s hs => ?_, fun k k2 s s2 hk hs hs2 a ha ha2 => ?_⟩
    · by_cases c : i = k
      · subst c
        rw [List.getElem?_set_self (by rw [List.length_set]; exact hiΓ)] at hs
        cases hs
        refine ⟨sv_eq e, upd_same, h2, ?_, fun x hx => ?_⟩
        · rw [List.map_append, ← List.cons_append]
          refine List.nodup_append.mpr ⟨h3, by simp, fun x hx y hy => ?_⟩
          rcases List.mem_singleton.mp hy with rfl
          exact hqn x hx
        · rcases List.mem_append.mp hx with hx | hx
          · refine (h4 x hx).upd_ne fun z => (List.nodup_cons.mp h3).1 (z ▸ List.mem_map.mpr ⟨x, hx, rfl⟩)
          · rcases List.mem_singleton.mp hx with rfl
            exact OwnAt.upd_ne ⟨vs, g1, gi, gr⟩ (Ne.symm (hqn p List.mem_cons_self))
      · rw [List.getElem?_set_ne c] at hs
        by_cases c2 : j = k
        · subst c2
          rw [List.getElem?_set_self (List.getElem?_eq_some_iff.mp hj).1] at hs
          cases hs
          trivial
        · rw [List.getElem?_set_ne c2] at hs
          refine (E.env.sl k s hs).go (Same.refl I) fun a ha o ho => ?_
          obtain ⟨o', e', hi', hP⟩ := (E.env.sl k s hs).adr E.env.ok ha
          refine ⟨by rw [L2.upd_ne fun z => E.env.nd i k _ _ c h hs p List.mem_cons_self (by rw [← z]; exact ha)]; exact ho, hi'⟩
    · have one : ∀ k s, ((Γ.set j .emp).set i (.ownL p (qs ++ [(q, ds)])))[k]? = some s → ∀ a ∈ s.adrs, (k = i ∧ (a ∈ (Slot.ownL p qs).adrs ∨ a = q)) ∨ (k ≠ i ∧ k ≠ j ∧ ∃ s', Γ[k]? = some s' ∧ a ∈ s'.adrs) := fun k s hs a ha => by
        by_cases c : i = k
        · subst c
          rw [List.getElem?_set_self (by rw [List.length_set]; exact hiΓ)] at hs
          cases hs
          refine .inl ⟨rfl, ?_⟩
          have ha : a ∈ p :: (qs ++ [(q, ds)]).map (·.1) := ha
          rw [List.map_append, ← List.cons_append] at ha
          rcases List.mem_append.mp ha with ha | ha
          · exact .inl ha
          · exact .inr (List.mem_singleton.mp ha)
        · rw [List.getElem?_set_ne c] at hs
          by_cases c2 : j = k
          · subst c2
            rw [List.getElem?_set_self (List.getElem?_eq_some_iff.mp hj).1] at hs
            cases hs
            cases ha
          · rw [List.getElem?_set_ne c2] at hs
            exact .inr ⟨Ne.symm c, Ne.symm c2, s, hs, ha⟩
      rcases one k s hs a ha with ⟨z1, z2⟩ | ⟨z1, z1', s', z2, z3⟩ <;> rcases one k2 s2 hs2 a ha2 with ⟨y1, y2⟩ | ⟨y1, y1', s2', y2, y3⟩
      · exact hk (z1.trans y1.symm)
      · rcases z2 with z2 | z2
        · exact E.env.nd i k2 _ _ (Ne.symm y1) h y2 a z2 y3
        · exact E.env.nd j k2 _ _ (Ne.symm y1') hj y2 a (by rw [z2]; exact List.mem_cons_self) y3
      · rcases y2 with y2 | y2
        · exact E.env.nd i k _ _ (Ne.symm z1) h z2 a y2 z3
        · exact E.env.nd j k _ _ (Ne.symm z1') hj z2 a (by rw [y2]; exact List.mem_cons_self) z3
      · exact E.env.nd k k2 _ _ hk z2 y2 a z3 y3
  refine kn I _ σ _ hn (Same.refl I) ⟨key, w2, fresh_set (fresh_set E.fresh fun a ha => by cases ha) fun a ha => ?_⟩
  have ha : a ∈ p :: (qs ++ [(q, ds)]).map (·.1) := ha
  rw [List.map_append, ← List.cons_append] at ha
  rcases List.mem_append.mp ha with ha | ha
  · exact E.fresh i _ h a ha
  · rcases List.mem_singleton.mp ha with rfl
    exact E.fresh j _ hj a List.mem_cons_self
theorem split_at {α : Type} {qs : List α} {k : Nat} {x : α} (h : qs[k]? = some x) : ∃ l r, qs = l ++ x :: r ∧ l.length = k := by
  obtain ⟨hk, e⟩ := List.getElem?_eq_some_iff.mp h
  refine ⟨qs.take k, qs.drop (k + 1), ?_, by rw [List.length_take]; omega⟩
  rw [← e, ← List.drop_eq_getElem_cons hk, List.take_append_drop]
theorem atI_of {α : Type} {xs : List α} {k : Nat} {x : α} (h : xs[k]? = some x) : atI xs k = some x := by
  have hk := (List.getElem?_eq_some_iff.mp h).1
  unfold atI ixN
  rw [if_pos (by omega), if_pos (by omega)]
  simpa using h
theorem ixN_of {n k : Nat} (h : k < n) : ixN n k = some k := by
  unfold ixN
  rw [if_pos (by omega), if_pos (by omega)]
  simp
/-- xs[k][m] -/
theorem ev_ixLL {i k m : Nat} {p q : Addr} {qs : List (Addr × List PyData)} {ds : List PyData} (h : Γ[i]? = some (.ownL p qs)) (hb : EvD K P tb Γ (.int k)) (hc : EvD K P tc Γ (.int m)) (hk : qs[k]? = some (q, ds)) (hm : ds[m]? = some d) : EvD K P (tOp (rIxL K) (tOp (rIxL K) (tVar i) tb) tc) Γ d := fun I H σ E Q qq => by
  obtain ⟨e, h1, h2, h3, h4⟩ := E.ownL h
  refine ⟨_, e, ?_⟩
  refine hb I H σ E _ fun v e1 I1 H1 q1 w1 r1 => ?_
  subst q1
  cases r1
  obtain ⟨_, h1, h2, h3, h4⟩ := (E.mono w1).ownL h
  refine ⟨p, _, k, .ref q, rfl, rfl, SqL.of h1, atI_of (by rw [List.getElem?_map, hk]; rfl), ?_⟩
  refine hc I1 H1 σ (E.mono w1) _ fun v e1 I2 H2 q1 w2 r1 => ?_
  subst q1
  cases r1
  obtain ⟨_, h1, h2, h3, h4⟩ := ((E.mono w1).mono w2).ownL h
  obtain ⟨vs, g1, g2, g3⟩ := h4 (q, ds) (List.mem_of_getElem? hk)
  obtain ⟨v, hv, rv⟩ := g3.get hm
  exact ⟨q, vs, m, v, rfl, rfl, SqL.of g1, atI_of hv, qq _ _ I2 H2 rfl (w1.trans w2) rv⟩
/-- xs[k][m] = e -/
theorem sv_setLL {i m : Nat} {p q : Addr} {l r : List (Addr × List PyData)} {ds : List PyData} (h : Γ[i]? = some (.ownL p (l ++ (q, ds) :: r))) (he : EvD K P te Γ d) (hb : EvD K P tb Γ (.int l.length)) (hc : EvD K P tc Γ (.int m)) (hm : m < ds.length) (hn : N (Γ.set i (.ownL p (l ++ (q, ds.set m d) :: r)))) : EvS K P I0 H0 (tAsg te (gSub (tOp (rIxL K) (tVar i) tb) tc rSetL)) Γ N R B C := fun I H σ D' E kn hr hb' hc' => by
  refine he I H σ E.env _ fun v d1 I1 H1 e1 w r1 => ?_
  subst e1
  have E1 := E.mono w
  obtain ⟨e, _⟩ := E1.env.ownL h
  refine ⟨_, e, ?_⟩
  refine hb I1 H1 σ E1.env _ fun v2 d2 I2 H2 e2 w2 r2 => ?_
  subst e2
  cases r2
  have E2 := E1.mono w2
  obtain ⟨_, h1, h2, h3, h4⟩ := E2.env.ownL h
  refine ⟨p, _, l.length, .ref q, rfl, rfl, SqL.of h1, atI_of (by simp), ?_⟩
  refine hc I2 H2 σ E2.env _ fun v3 d3 I3 H3 e3 w3 r3 => ?_
  subst e3
  cases r3
  have E3 := E2.mono w3
  obtain ⟨_, h1, h2, h3, h4⟩ := E3.env.ownL h
  obtain ⟨vs, g1, g2, g3⟩ := h4 (q, ds) (by simp)
  refine ⟨q, vs, m, m, rfl, rfl, g1, by rw [g3.len]; exact ixN_of hm, ?_⟩
  exact kn I3 _ σ _ hn ((w.ii.trans w2.ii).trans w3.ii) (E3.inner h (g3.set (Dx.mono (w2.ii.trans w3.ii) _ _ r1) m))
/-- many lists of ours stand still -/
theorem SlotOk.freezeL : ∀ (qs : List (Addr × List PyData)) (I : Hp), Wd P I0 H0 I H → (∀ q ∈ qs, H0 q.1 = none) → (∀ q ∈ qs, q.1 ≠ P) → (qs.map (·.1)).Nodup → (∀ q ∈ qs, OwnAt K I H q.1 q.2) →
    ∃ I', Wd P I0 H0 I' H ∧ Same I I' ∧ (∀ a, a ∉ qs.map (·.1) → I' a = I a) ∧ DxA K I' (qs.map fun q => V.ref q.1) (qs.map fun q => .list q.2)
  | [], I, w, _, _, _, _ => ⟨I, w, Same.refl I, fun _ _ => rfl, .nil⟩
  | (q, ds) :: r, I, w, h0, hP, nd, h => by
    obtain ⟨vs, h1, h2, h3⟩ := h (q, ds) List.mem_cons_self
    have s2 : Same I (upd I q (.lst vs)) := same_upd h2
    rw [List.map_cons] at nd
    have nq : ∀ x ∈ r, x.1 ≠ q := fun x hx z => (List.nodup_cons.mp nd).1 (z ▸ List.mem_map.mpr ⟨x, hx, rfl⟩)
    obtain ⟨I', g1, g2, g3, g4⟩ := SlotOk.freezeL r (upd I q (.lst vs)) (w.freeze (h0 _ List.mem_cons_self) h1 h2 (hP _ List.mem_cons_self)) (fun x hx => h0 x (List.mem_cons_of_mem _ hx)) (fun x hx => hP x (List.mem_cons_of_mem _ hx)) (List.nodup_cons.mp nd).2
      fun x hx => (h x (List.mem_cons_of_mem _ hx)).go s2 fun o ho => ⟨ho, by rw [L2.upd_ne (nq x hx)]; exact (h x (List.mem_cons_of_mem _ hx)).choose_spec.2.1⟩
    refine ⟨I', g1, s2.trans g2, fun a ha => ?_, ?_⟩
    · have ha : a ∉ q :: r.map (·.1) := ha
      rw [g3 a fun z => ha (List.mem_cons_of_mem _ z), L2.upd_ne fun z => ha (by rw [z]; exact List.mem_cons_self)]
    · refine .cons (Dx.lst (g2 _ _ upd_same) (h3.mono (s2.trans g2))) g4
theorem sv_freezeL {i : Nat} {p : Addr} {qs : List (Addr × List PyData)} (h : Γ[i]? = some (.ownL p qs)) (k : EvS K P I0 H0 t (Γ.set i (.imm (.dat (.list (qs.map fun q => .list q.2))))) N R B C) : EvS K P I0 H0 t Γ N R B C := fun I H σ D' E kn hr hb hc => by
  obtain ⟨e, h1, h2, h3, h4⟩ := E.env.ownL h
  have f := E.fresh i _ h
  obtain ⟨I', g1, g2, g3, g4⟩ := SlotOk.freezeL qs I E.wd (fun q hq => f q.1 (List.mem_cons_of_mem _ (List.mem_map.mpr ⟨q, hq, rfl⟩))) (fun q hq => E.env.ok.ne (h4 q hq).choose_spec.1 fun _ z => by cases z) (List.nodup_cons.mp h3).2 h4
  have hI' : I' p = none := (g3 p (List.nodup_cons.mp h3).1).trans h2
  have hP : p ≠ P := E.env.ok.ne h1 fun _ z => by cases z
  have s2 : Same I' (upd I' p (.lst (qs.map fun q => V.ref q.1))) := same_upd hI'
  refine EvS.lift (g2.trans s2) k (E.still h (g1.freeze (f p List.mem_cons_self) h1 hI' hP) (g2.trans s2) (fun a ha => ?_) ⟨.ref p, sv_eq e, Dx.lst upd_same (g4.mono s2)⟩ rfl) kn hr hb hc
  have ha : a ∉ p :: qs.map (·.1) := ha
  rw [L2.upd_ne fun z => ha (by rw [z]; exact List.mem_cons_self), g3 a fun z => ha (List.mem_cons_of_mem _ z)]

/-! ### a dict of lists of ours -/
def viewT (es : List (Str × Addr × List PyData)) : List (Str × List PyData) := es.map fun e => (e.1, e.2.2)
def extT : List (Str × List PyData) → Str → List PyData → List (Str × List PyData)
  | [], k, ds => [(k, ds)]
  | (n, x) :: r, k, ds => if n = k then (n, x ++ ds) :: r else (n, x) :: extT r k ds
abbrev kvT (es : List (Str × Addr × List PyData)) : List (Key × V) := es.map fun e => (Sum.inr e.1, V.ref e.2.1)
theorem tbl_get (es : List (Str × Addr × List PyData)) (k : Str) :
    (valV (kvT es) (Sum.inr k) = none ∧ (∀ v, putK (kvT es) (Sum.inr k) v = kvT es ++ [(Sum.inr k, v)]) ∧ (∀ e ∈ es, e.1 ≠ k) ∧ ∀ q new, viewT (es ++ [(k, q, new)]) = extT (viewT es) k new) ∨
    ∃ l a ds r, es = l ++ (k, a, ds) :: r ∧ valV (kvT es) (Sum.inr k) = some (.ref a) ∧ ∀ new, viewT (l ++ (k, a, ds ++ new) :: r) = extT (viewT es) k new := by
  induction es with
  | nil => exact .inl ⟨rfl, fun v => rfl, (fun e he => by cases he), fun q new => rfl⟩
  | cons e es ih =>
    obtain ⟨n, a, ds⟩ := e
    by_cases c : n = k
    · subst c
      refine .inr ⟨[], a, ds, es, rfl, valV_pos rfl, fun new => ?_⟩
      show _ = extT ((n, ds) :: viewT es) n new
      rw [extT, if_pos rfl]
      rfl
    · have ne : ¬ ((Sum.inr n : Key) = Sum.inr k) := fun z => c (Sum.inr.inj z)
      rcases ih with ⟨h1, h2, h3, h4⟩ | ⟨l, a', ds', r, h1, h2, h3⟩
      · refine .inl ⟨(valV_neg ne).trans h1, fun v => ?_, fun e he => ?_, fun q new => ?_⟩
        · have := h2 v
          unfold putK at this ⊢
          have any : ((kvT ((n, a, ds) :: es)).any fun kv => decide (kv.1 = Sum.inr k)) = (kvT es).any fun kv => decide (kv.1 = Sum.inr k) := by
            show (decide ((Sum.inr n : Key) = Sum.inr k) || _) = _
            rw [decide_eq_false ne]
            rfl
          rw [any]
          by_cases hh : ((kvT es).any fun kv => decide (kv.1 = Sum.inr k)) = true
          · rw [if_pos hh] at this
            have := congrArg List.length this
            simp at this
          · rw [if_neg hh]
        · rcases List.mem_cons.mp he with rfl | he
          · exact c
          · exact h3 e he
        · show (n, ds) :: viewT (es ++ [(k, q, new)]) = extT ((n, ds) :: viewT es) k new
          rw [extT, if_neg c, h4]
      · refine .inr ⟨(n, a, ds) :: l, a', ds', r, by rw [h1]; rfl, (valV_neg ne).trans h2, fun new => ?_⟩
        show (n, ds) :: viewT (l ++ (k, a', ds' ++ new) :: r) = extT ((n, ds) :: viewT es) k new
        rw [extT, if_neg c, h3]
theorem SlotOk.innerT {p q : Addr} {n : Str} {l r : List (Str × Addr × List PyData)} {ds es : List PyData} {vs : List V} {o : Option V} (h : SlotOk K I H o (.ownT p (l ++ (n, q, ds) :: r))) (x : DxA K I vs es) : SlotOk K I (upd H q (.lst vs)) o (.ownT p (l ++ (n, q, es) :: r)) := by
  obtain ⟨e, h1, h2, h3, h4⟩ := h
  have hm : (l ++ (n, q, es) :: r).map (·.2.1) = (l ++ (n, q, ds) :: r).map (·.2.1) := by simp
  have hpq : p ≠ q := fun z => (List.nodup_cons.mp h3).1 (by rw [z]; simp)
  have hi : I q = none := (h4 (n, q, ds) (by simp)).choose_spec.2.1
  refine ⟨e, ?_, h2, by rw [hm]; exact h3, fun y hy => ?_⟩
  · rw [L2.upd_ne hpq, h1]
    simp
  · have nd := (List.nodup_cons.mp h3).2
    rw [List.map_append, List.map_cons] at nd
    rcases List.mem_append.mp hy with hy | hy
    · refine (h4 y (List.mem_append_left _ hy)).upd_ne fun z => ?_
      have := (List.nodup_append.mp nd).2.2 y.2.1 (List.mem_map.mpr ⟨y, hy, rfl⟩) q List.mem_cons_self
      exact this z
    · rcases List.mem_cons.mp hy with rfl | hy
      · exact ⟨vs, upd_same, hi, x⟩
      · refine (h4 y (List.mem_append_right _ (List.mem_cons_of_mem _ hy))).upd_ne fun z => ?_
        have := (List.nodup_cons.mp (List.nodup_append.mp nd).2.1).1
        exact this (z ▸ List.mem_map.mpr ⟨y, hy, rfl⟩)
theorem EnvS.innerT (E : EnvS K P I0 H0 I H σ Γ) {i : Nat} {p q : Addr} {n : Str} {l r : List (Str × Addr × List PyData)} {ds es : List PyData} {vs : List V} (h : Γ[i]? = some (.ownT p (l ++ (n, q, ds) :: r))) (x : DxA K I vs es) : EnvS K P I0 H0 I (upd H q (.lst vs)) σ (Γ.set i (.ownT p (l ++ (n, q, es) :: r))) :=
  E.write h (by show q ∈ p :: (l ++ (n, q, ds) :: r).map (·.2.1); simp) (SlotOk.innerT (E.env.sl i _ h) x) fun a ha => by
    show a ∈ p :: (l ++ (n, q, ds) :: r).map (·.2.1)
    have hm : (l ++ (n, q, es) :: r).map (·.2.1) = (l ++ (n, q, ds) :: r).map (·.2.1) := by simp
    rw [← hm]
    exact ha
/-- a name is new in the dict, with an empty list of its own -/
theorem EnvS.growT (E : EnvS K P I0 H0 I H σ Γ) {i : Nat} {p q : Addr} {n : Str} {es : List (Str × Addr × List PyData)} (h : Γ[i]? = some (.ownT p es)) (hq : H q = none) : EnvS K P I0 H0 I (upd (upd H q (.lst [])) p (.dK (kvT es ++ [(Sum.inr n, .ref q)]))) σ (Γ.set i (.ownT p (es ++ [(n, q, [])]))) := by
  obtain ⟨e, h1, h2, h3, h4⟩ := E.env.ownT h
  have hqn : ∀ x ∈ p :: es.map (·.2.1), x ≠ q := fun x hx z => by
    obtain ⟨o, ho, _⟩ := (E.env.sl i _ h).adr E.env.ok (a := x) hx
    rw [z, hq] at ho
    cases ho
  refine E.grow h List.mem_cons_self hq ⟨sv_eq e, ?_, h2, ?_, fun x hx => ?_⟩ fun a ha => ?_
  · rw [upd_same]
    simp [kvT]
  · rw [List.map_append, ← List.cons_append]
    refine List.nodup_append.mpr ⟨h3, by simp, fun x hx y hy => ?_⟩
    rcases List.mem_singleton.mp hy with rfl
    exact hqn x hx
  · rcases List.mem_append.mp hx with hx | hx
    · have hm : x.2.1 ∈ es.map (·.2.1) := List.mem_map.mpr ⟨x, hx, rfl⟩
      exact ((h4 x hx).upd_ne (hqn _ (List.mem_cons_of_mem _ hm))).upd_ne fun z => (List.nodup_cons.mp h3).1 (z ▸ hm)
    · rcases List.mem_singleton.mp hx with rfl
      exact OwnAt.upd_ne ⟨[], upd_same, (E.env.ok.free hq).1, .nil⟩ (Ne.symm (hqn p List.mem_cons_self))
  · have ha : a ∈ p :: List.map (fun x : Str × Addr × List PyData => x.2.1) (es ++ [(n, q, [])]) := ha
    rw [List.map_append, ← List.cons_append] at ha
    rcases List.mem_append.mp ha with ha | ha
    · exact .inl ha
    · exact .inr (List.mem_singleton.mp ha)
/-- d.setdefault(n, []).extend(e) -/
theorem sv_setdExt {i : Nat} {p : Addr} {n : Str} {new : List PyData} {es : List (Str × Addr × List PyData)} (h : Γ[i]? = some (.ownT p es)) (hk : ∀ s, EvD K P tb (Γ.set i s) (.str n)) (he : ∀ s, EvD K P te (Γ.set i s) (.list new)) (hl : es.length < 100000) (hs : ∀ e ∈ es, e.2.2.length + new.length ≤ 100000) (hn1 : new.length ≤ 100000)
    (hn : ∀ es', viewT es' = extT (viewT es) n new → N (Γ.set i (.ownT p es'))) : EvS K P I0 H0 (tDrop (tBM K "list" rExtend (tDSetd (tVar i) tb (tLst tNil)) (tCons te tNil))) Γ N R B C := fun I H σ D' E kn hr hb hc => by
  obtain ⟨e, h1, _⟩ := E.env.ownT h
  have hi : i < Γ.length := (List.getElem?_eq_some_iff.mp h).1
  have eΓ : Γ.set i (.ownT p es) = Γ := by
    apply List.ext_getElem?
    intro j
    by_cases c : i = j
    · subst c
      rw [List.getElem?_set_self hi, h]
    · rw [List.getElem?_set_ne c]
  refine ⟨_, e, p, rfl, .inl ⟨_, .inl h1⟩, ?_⟩
  have hk' := hk (.ownT p es)
  rw [eΓ] at hk'
  refine hk' I H σ E.env _ fun v d1 I1 H1 e1 w r => ?_
  subst e1
  cases r
  have E1 := E.mono w
  obtain ⟨_, h1, h2, h3, h4⟩ := E1.env.ownT h
  refine ⟨by simp, fun q hq => ?_⟩
  have w2 := E1.env.ok.newM hq (.lst [])
  have hpq : p ≠ q := ne_of_none h1 hq
  refine ⟨kvT es, Sum.inr n, by rw [L2.upd_ne hpq]; exact h1, rfl, by simp [kvT, sizeLine_eq]; omega, ?_, ?_⟩
  · intro v hv
    rcases tbl_get es n with ⟨g, _⟩ | ⟨l, a, ds, r, rfl, g, g2⟩
    · rw [g] at hv
      cases hv
    · rw [g] at hv
      cases hv
      have E2 := E1.mono w2
      obtain ⟨_, k1, k2, k3, k4⟩ := E2.env.ownT h
      obtain ⟨vs, m1, m2, m3⟩ := k4 (n, a, ds) (by simp)
      refine ⟨.inl ⟨rfl, vs, SqL.of m1⟩, ?_⟩
      have he' := he (.ownT p (l ++ (n, a, ds) :: r))
      rw [eΓ] at he'
      refine he' I1 _ σ E2.env _ fun v d1 I3 H3 e1 w3 r3 => ?_
      subst e1
      have E3 := E2.mono w3
      obtain ⟨_, k1, k2, k3, k4⟩ := E3.env.ownT h
      obtain ⟨vs, m1, m2, m3⟩ := k4 (n, a, ds) (by simp)
      cases r3 with
      | @lst b zs _ n1 n2 =>
        refine ⟨a, b, vs, zs, rfl, rfl, m1, E3.env.ok.sub _ _ n1, ?_, ?_⟩
        · have := hs (n, a, ds) (by simp)
          have e3 : vs.length = ds.length := m3.len
          rw [e3, n2.len, sizeLine_eq]
          dsimp only at this
          omega
        · exact kn I3 _ σ _ (hn _ (g2 new)) ((w.ii.trans w2.ii).trans w3.ii) (E3.innerT h (m3.append n2))
  · intro hv
    rcases tbl_get es n with ⟨g, g1, g2, g3⟩ | ⟨l, a, ds, r, rfl, g, g2⟩
    rotate_left
    · rw [g] at hv
      cases hv
    rw [g1]
    have E2 := E1.growT (n := n) h hq
    have h' : (Γ.set i (.ownT p (es ++ [(n, q, [])])))[i]? = some (.ownT p (es ++ [(n, q, [])])) := List.getElem?_set_self hi
    refine ⟨.inl ⟨rfl, [], SqL.of ?_⟩, ?_⟩
    · rw [L2.upd_ne (Ne.symm hpq)]
      exact upd_same
    have he' := he (.ownT p (es ++ [(n, q, [])]))
    refine he' I1 _ σ E2.env _ fun v d1 I3 H3 e1 w3 r3 => ?_
    subst e1
    have E3 := E2.mono w3
    obtain ⟨_, k1, k2, k3, k4⟩ := E3.env.ownT h'
    obtain ⟨vs, m1, m2, m3⟩ := k4 (n, q, []) (by simp)
    cases m3
    cases r3 with
    | @lst b zs _ n1 n2 =>
      refine ⟨q, b, [], zs, rfl, rfl, m1, E3.env.ok.sub _ _ n1, ?_, ?_⟩
      · rw [n2.len, sizeLine_eq]
        show 0 + new.length ≤ 16777216
        omega
      · have E4 := E3.innerT (l := es) (r := []) h' (es := new) n2
        rw [List.set_set] at E4
        exact kn I3 _ σ _ (hn _ (g3 q new)) ((w.ii.trans w2.ii).trans w3.ii) E4
/-- a text is a key -/
theorem ev_notinT {i : Nat} {p : Addr} {n : Str} {es : List (Str × Addr × List PyData)} (hk : EvD K P ta Γ (.str n)) (h : Γ[i]? = some (.ownT p es)) : EvD K P (tDNotIn ta (tVar i)) Γ (.bool (!decide (n ∈ (viewT es).map (·.1)))) := fun I H σ E Q q => by
  refine hk I H σ E _ fun z e2 I2 H2 q2 w2 r2 => ?_
  subst q2
  cases r2
  obtain ⟨e, h1, _⟩ := (E.mono w2).ownT h
  refine ⟨_, e, p, _, rfl, DGet.k (k := Sum.inr n) h1, ?_⟩
  have e : (!(valV (kvT es) (Sum.inr n)).isSome) = !decide (n ∈ (viewT es).map (·.1)) := by
    rcases tbl_get es n with ⟨g, g1, g2, g3⟩ | ⟨l, a, ds, r, rfl, g, g2⟩
    · rw [g, decide_eq_false]
      · rfl
      · intro hm
        unfold viewT at hm
        rw [List.map_map] at hm
        obtain ⟨e, he, rfl⟩ := List.mem_map.mp hm
        exact g2 e he rfl
    · rw [g, decide_eq_true (by simp [viewT])]
      rfl
  rw [e]
  exact q _ _ I2 H2 rfl w2 (Dx.bl _)
/-- d[n] = [], n new -/
theorem sv_putT {i : Nat} {p : Addr} {n : Str} {es : List (Str × Addr × List PyData)} (h : Γ[i]? = some (.ownT p es)) (hk : EvD K P tb Γ (.str n)) (hnew : n ∉ (viewT es).map (·.1)) (hl : es.length < 100000)
    (hn : ∀ es', viewT es' = viewT es ++ [(n, [])] → N (Γ.set i (.ownT p es'))) : EvS K P I0 H0 (sDPut (tVar i) tb (tLst tNil)) Γ N R B C := fun I H σ D' E kn hr hb hc => by
  refine ⟨by simp, fun q hq => ?_⟩
  have w := E.env.ok.newM hq (.lst [])
  have E1 := E.mono w
  obtain ⟨e, _⟩ := E1.env.ownT h
  refine ⟨_, e, ?_⟩
  refine hk I _ σ E1.env _ fun v d1 I1 H1 e1 w2 r => ?_
  subst e1
  cases r
  have E2 := E1.mono w2
  obtain ⟨_, h1, h2, h3, h4⟩ := E2.env.ownT h
  have hqP : q ≠ P := (E.env.ok.free hq).2
  have hq1 : H1 q = some (.lst []) := w2.hh q _ hqP upd_same
  have hqi : I1 q = none := (w2.fr q _ upd_same).trans (E.env.ok.free hq).1
  refine ⟨p, _, rfl, DPut.k (k := Sum.inr n) h1 (by simp [sizeLine_eq]; omega), ?_⟩
  rcases tbl_get es n with ⟨g, g1, g2, g3⟩ | ⟨l, a, ds, r, rfl, g, g2⟩
  rotate_left
  · exact (hnew (by simp [viewT])).elim
  have eP : putK (List.map (fun e => ((Sum.inr e.1 : Key), V.ref e.2.1)) es) (Sum.inr n) (.ref q) = kvT es ++ [(Sum.inr n, .ref q)] := g1 (.ref q)
  rw [eP]
  -- the new list was not there when we began
  have hqn : ∀ x ∈ p :: es.map (·.2.1), x ≠ q := fun x hx z => by
    obtain ⟨o, ho, _⟩ := (E.env.sl i _ h).adr E.env.ok (a := x) hx
    rw [z, hq] at ho
    cases ho
  have hpP : p ≠ P := E2.env.ok.ne h1 fun _ z => by cases z
  have wd := E2.wd.mut (E.fresh i _ h p List.mem_cons_self) h2 hpP (.dK (kvT es ++ [(Sum.inr n, .ref q)]))
  have ww := w.trans w2
  have ch := E.env.change (v' := some (.ref p)) (s' := .ownT p (es ++ [(n, q, [])])) h wd.ok ww.ii (fun a u ha eu z hP => ⟨by rw [L2.upd_ne fun z => ha (by rw [z]; exact List.mem_cons_self)]; exact ww.hh a u hP eu, (ww.fr a u eu).trans z⟩)
    ⟨rfl, by rw [upd_same]; simp [kvT], h2, by
      rw [List.map_append, ← List.cons_append]
      refine List.nodup_append.mpr ⟨h3, by simp, fun x hx y hy => ?_⟩
      rcases List.mem_singleton.mp hy with rfl
      exact hqn x hx, fun x hx => by
      rcases List.mem_append.mp hx with hx | hx
      · refine (h4 x hx).upd_ne fun z => (List.nodup_cons.mp h3).1 (z ▸ List.mem_map.mpr ⟨x, hx, rfl⟩)
      · rcases List.mem_singleton.mp hx with rfl
        exact OwnAt.upd_ne ⟨[], hq1, hqi, .nil⟩ (Ne.symm (hqn p List.mem_cons_self))⟩
    (fun a ha => by
      have ha : a ∈ p :: List.map (fun x : Str × Addr × List PyData => x.2.1) (es ++ [(n, q, [])]) := ha
      rw [List.map_append, ← List.cons_append] at ha
      rcases List.mem_append.mp ha with ha | ha
      · exact .inl ha
      · rcases List.mem_singleton.mp ha with rfl
        exact .inr hq)
  have e' : σ.set i (some (.ref p)) = σ := by
    have := set_sv σ i
    rw [sv_eq e] at this
    exact this
  rw [e'] at ch
  refine kn I1 _ σ _ (hn (es ++ [(n, q, [])]) (by simp [viewT])) ww.ii ⟨ch, wd, fresh_set E.fresh fun a ha => ?_⟩
  have ha : a ∈ p :: List.map (fun x : Str × Addr × List PyData => x.2.1) (es ++ [(n, q, [])]) := ha
  rw [List.map_append, ← List.cons_append] at ha
  rcases List.mem_append.mp ha with ha | ha
  · exact E.fresh i _ h a ha
  · rcases List.mem_singleton.mp ha with rfl
    exact E.wd.free hq
/-- d[n].append(e), n there -/
theorem sv_appT {i : Nat} {p : Addr} {n : Str} {es : List (Str × Addr × List PyData)} (h : Γ[i]? = some (.ownT p es)) (hk : EvD K P tb Γ (.str n)) (he : EvD K P te Γ d) (hold : n ∈ (viewT es).map (·.1)) (hs : ∀ e ∈ es, e.2.2.length < 100000)
    (hn : ∀ es', viewT es' = extT (viewT es) n [d] → N (Γ.set i (.ownT p es'))) : EvS K P I0 H0 (tDrop (tBM K "list" rAppend (tDGet (tVar i) tb) (tCons te tNil))) Γ N R B C := fun I H σ D' E kn hr hb hc => by
  obtain ⟨e, _⟩ := E.env.ownT h
  refine ⟨_, e, ?_⟩
  refine hk I H σ E.env _ fun v d1 I1 H1 e1 w r => ?_
  subst e1
  cases r
  have E1 := E.mono w
  rcases tbl_get es n with ⟨g, g1, g2, g3⟩ | ⟨l, a, ds, r, rfl, g, g2⟩
  · unfold viewT at hold
    rw [List.map_map] at hold
    obtain ⟨e, he, z⟩ := List.mem_map.mp hold
    exact (g2 e he z).elim
  obtain ⟨_, h1, h2, h3, h4⟩ := E1.env.ownT h
  obtain ⟨vs, m1, m2, m3⟩ := h4 (n, a, ds) (by simp)
  refine ⟨p, .ref a, rfl, by rw [← g]; exact DGet.k (k := Sum.inr n) h1, .inl ⟨rfl, vs, SqL.of m1⟩, ?_⟩
  refine he I1 H1 σ E1.env _ fun v d1 I3 H3 e1 w3 r3 => ?_
  subst e1
  have E3 := E1.mono w3
  obtain ⟨_, h1, h2, h3, h4⟩ := E3.env.ownT h
  obtain ⟨vs, m1, m2, m3⟩ := h4 (n, a, ds) (by simp)
  refine ⟨a, vs, v, rfl, rfl, m1, ?_, ?_⟩
  · have := hs (n, a, ds) (by simp)
    have e3 : vs.length = ds.length := m3.len
    rw [e3, sizeLine_eq]
    exact Nat.lt_of_lt_of_le this (by decide)
  · exact kn I3 _ σ _ (hn _ (g2 [d])) (w.ii.trans w3.ii) (E3.innerT h (m3.snoc r3))
def tblD (v : List (Str × List PyData)) : List (Key × PyData) := v.map fun e => (Sum.inr e.1, .list e.2)
theorem sv_freezeT {i : Nat} {p : Addr} {es : List (Str × Addr × List PyData)} (h : Γ[i]? = some (.ownT p es)) (k : EvS K P I0 H0 t (Γ.set i (.imm (.dic (tblD (viewT es))))) N R B C) : EvS K P I0 H0 t Γ N R B C := fun I H σ D' E kn hr hb hc => by
  obtain ⟨e, h1, h2, h3, h4⟩ := E.env.ownT h
  have f := E.fresh i _ h
  have mp : es.map (·.2.1) = (es.map (·.2)).map (·.1) := by rw [List.map_map]; rfl
  obtain ⟨I', g1, g2, g3, g4⟩ := SlotOk.freezeL (es.map (·.2)) I E.wd
    (fun q hq => by
      obtain ⟨x, hx, rfl⟩ := List.mem_map.mp hq
      exact f _ (List.mem_cons_of_mem _ (List.mem_map.mpr ⟨x, hx, rfl⟩)))
    (fun q hq => by
      obtain ⟨x, hx, rfl⟩ := List.mem_map.mp hq
      exact E.env.ok.ne (h4 x hx).choose_spec.1 fun _ z => by cases z) (by rw [← mp]; exact (List.nodup_cons.mp h3).2)
    (fun q hq => by
      obtain ⟨x, hx, rfl⟩ := List.mem_map.mp hq
      exact h4 x hx)
  have hI' : I' p = none := (g3 p (by rw [← mp]; exact (List.nodup_cons.mp h3).1)).trans h2
  have hP : p ≠ P := E.env.ok.ne h1 fun _ z => by cases z
  have s2 : Same I' (upd I' p (.dK (kvT es))) := same_upd hI'
  have kv : KVD K (upd I' p (.dK (kvT es))) (kvT es) (tblD (viewT es)) := by
    have g5 := g4.mono s2
    clear g4 h1 h h3 h4 f g1 g2 g3 kn hr hb hc k mp E
    generalize upd I' p (.dK (kvT es)) = J at g5
    clear s2
    induction es with
    | nil => exact .nil
    | cons e es ih =>
      cases g5 with
      | cons x y => exact .cons ⟨rfl, x⟩ (ih y)
  refine EvS.lift (g2.trans s2) k (E.still h (g1.freeze (f p List.mem_cons_self) h1 hI' hP) (g2.trans s2) (fun a ha => ?_) ⟨.ref p, sv_eq e, p, kvT es, rfl, upd_same, kv⟩ rfl) kn hr hb hc
  have ha : a ∉ p :: es.map (·.2.1) := ha
  rw [L2.upd_ne fun z => ha (by rw [z]; exact List.mem_cons_self), g3 a fun z => ha (by rw [mp]; exact List.mem_cons_of_mem _ z)]
end
end Wf
/-! Defs that change a list or a dict that is handed over as the last argument. -/
namespace Wf
open PySem L2
abbrev Cell := List PyData ⊕ List (Key × PyData)
def cSlot (p : Addr) : Cell → Slot
  | .inl ds => .own p ds
  | .inr es => .ownD p es
def CellIs (K : PySem.W.Frag) (I : Hp) (o : HO) : Cell → Prop
  | .inl ds => ∃ vs, o = .lst vs ∧ DxA K I vs ds
  | .inr es => ∃ kvs, o = .dK kvs ∧ KVD K I kvs es
section
variable {K : PySem.W.Frag} {P : Addr} {Γ : Env} {ta tb tc te : TE} {a b c d : PyData} {N : Env → Prop} {R : Env → DD → Prop} {B C : Env → Prop} {t u : TS} {I0 H0 I H I' H' : Hp} {σ : L2.St} {D : DD → Prop}
theorem cSlot_adrs {p : Addr} {c : Cell} : (cSlot p c).adrs = [p] := by cases c <;> rfl
theorem slot_cell {p : Addr} {c : Cell} {s : Option V} : SlotOk K I H s (cSlot p c) ↔ s = some (.ref p) ∧ ∃ o, H p = some o ∧ I p = none ∧ CellIs K I o c := by
  cases c with
  | inl ds =>
    constructor
    · rintro ⟨e, vs, h1, h2, h3⟩
      exact ⟨e, _, h1, h2, vs, rfl, h3⟩
    · rintro ⟨e, o, h1, h2, vs, rfl, h3⟩
      exact ⟨e, vs, h1, h2, h3⟩
  | inr es =>
    constructor
    · rintro ⟨kvs, e, h1, h2, h3⟩
      exact ⟨e, _, h1, h2, kvs, rfl, h3⟩
    · rintro ⟨e, o, h1, h2, kvs, rfl, h3⟩
      exact ⟨kvs, e, h1, h2, h3⟩
theorem CellIs.not_tbl {o : HO} {c : Cell} (h : CellIs K I o c) (ps : List PySem.Pos) : True := trivial
theorem CellIs.mono {o : HO} {c : Cell} (h : CellIs K I o c) (s : Same I I') : CellIs K I' o c := by
  cases c with
  | inl ds =>
    obtain ⟨vs, e, r⟩ := h
    exact ⟨vs, e, r.mono s⟩
  | inr es =>
    obtain ⟨vs, e, r⟩ := h
    exact ⟨vs, e, r.mono s⟩
/-- the promise: the cell at p holds something else behind the call, all else that stood is kept -/
def spM {X : Type} (K : PySem.W.Frag) (P : Addr) (args : X → List DD) (ini : X → Cell) (pre : X → Prop) (post : X → DD → Cell → Prop) : Sp := fun vs H Q _ => ∃ (I : Hp) (x : X) (p : Addr) (o : HO) (vs' : List V), vs = vs' ++ [.ref p] ∧ RpL K I vs' (args x) ∧ Ok P I H ∧ H p = some o ∧ I p = none ∧ CellIs K I o (ini x) ∧ pre x ∧
  ∀ r v o' c' I' H', post x r c' → Wd P I (upd H p o') I' H' → CellIs K I' o' c' → Rp K I' v r → Q v H'
theorem EnvS.after (E : EnvS K P I0 H0 I H σ Γ) {i : Nat} {p : Addr} {c c' : Cell} {o' : HO} (h : Γ[i]? = some (cSlot p c)) (w : Wd P I (upd H p o') I' H') (r : CellIs K I' o' c') : EnvS K P I0 H0 I' H' σ (Γ.set i (cSlot p c')) := by
  obtain ⟨e, o, h1, h2, h3⟩ := slot_cell.mp (E.env.sl i _ h)
  have mp : p ∈ (cSlot p c).adrs := by rw [cSlot_adrs]; exact List.mem_cons_self
  obtain ⟨_, _, _, hP⟩ := (E.env.sl i _ h).adr E.env.ok mp
  have w2 := (E.wd.mut (E.fresh i _ h p mp) h2 hP o').trans w
  have := E.env.change h w2.ok w.ii (fun a u ha eu z hP => by
      have hne : a ≠ p := fun z => ha (by rw [z]; exact mp)
      have eu' : upd H p o' a = some u := by rw [L2.upd_ne hne]; exact eu
      exact ⟨w.hh a u hP eu', (w.fr a u eu').trans z⟩)
    (slot_cell.mpr ⟨e, o', w.hh p _ hP upd_same, (w.fr p _ upd_same).trans h2, r⟩) fun a ha => by
      rw [cSlot_adrs] at ha ⊢
      exact .inl ha
  rw [set_sv] at this
  exact ⟨this, w2, fresh_set E.fresh fun a ha => by
    rw [cSlot_adrs] at ha
    rcases List.mem_singleton.mp ha with rfl
    exact E.fresh i _ h a mp⟩
/-- arguments, the last of them a cell at p -/
def EvAL (K : PySem.W.Frag) (P : Addr) (ts : TA) (Γ : Env) (p : Addr) (ds : List DD) : Prop := ∀ (I H : Hp) (σ : L2.St), EnvOk K P I H σ Γ → ∀ Q : List V → Hp → Prop, (∀ vs I' H', Wd P I H I' H' → RpL K I' vs ds → Q (vs ++ [.ref p]) H') → ts σ H Q
theorem el_last {i : Nat} {p : Addr} {c : Cell} (h : Γ[i]? = some (cSlot p c)) : EvAL K P (tCons (tVar i) tNil) Γ p [] := fun I H σ E Q q => by
  obtain ⟨e, _⟩ := slot_cell.mp (E.sl i _ h)
  exact ⟨_, sv_some e, q [] I H (Wd.refl E.ok) .nil⟩
theorem el_cons {ts : TA} {p : Addr} {d : DD} {ds : List DD} (h : EvE K P te Γ d) (hr : EvAL K P ts Γ p ds) : EvAL K P (tCons te ts) Γ p (d :: ds) := fun I H σ E Q q => by
  refine h I H σ E _ fun x d1 I1 H1 e1 w1 r1 => ?_
  subst e1
  refine hr I1 H1 σ (E.mono w1) _ fun vs I2 H2 w2 r2 => ?_
  exact q (x :: vs) I2 H2 (w1.trans w2) (.cons (r1.mono w2.ii) r2)
/-- arguments, the last of them a new cell -/
def EvAN (K : PySem.W.Frag) (P : Addr) (ts : TA) (Γ : Env) (c : Cell) (ds : List DD) : Prop := ∀ (I H : Hp) (σ : L2.St), EnvOk K P I H σ Γ → ∀ Q : List V → Hp → Prop, (∀ vs p o I' H', Wd P I H I' H' → H p = none → H' p = some o → I' p = none → CellIs K I' o c → RpL K I' vs ds → Q (vs ++ [.ref p]) H') → ts σ H Q
theorem en_lastL {ds : List PyData} (h : EvN K P te Γ ds) : EvAN K P (tCons te tNil) Γ (.inl ds) [] := fun I H σ E Q q =>
  h I H σ E _ fun p vs I' H' w hp h1 hi r => q [] p _ I' H' w hp h1 hi ⟨vs, rfl, r⟩ .nil
theorem en_lastD : EvAN K P (tCons tDNewK tNil) Γ (.inr []) [] := fun I H σ E Q q => by
  intro p hp
  exact q [] p _ I _ (E.ok.newM hp (.dK [])) hp upd_same (E.ok.free hp).1 ⟨[], rfl, .nil⟩ .nil
theorem en_consA {ts : TA} {c : Cell} {d : DD} {ds : List DD} (h : EvE K P te Γ d) (hr : EvAN K P ts Γ c ds) : EvAN K P (tCons te ts) Γ c (d :: ds) := fun I H σ E Q q => by
  refine h I H σ E _ fun x d1 I1 H1 e1 w1 r1 => ?_
  subst e1
  refine hr I1 H1 σ (E.mono w1) _ fun vs p o I2 H2 w2 hp h1 hi hc r2 => ?_
  exact q (x :: vs) p o I2 H2 (w1.trans w2) (w1.free hp) h1 hi hc (.cons (r1.mono w2.ii) r2)
variable {X : Type} {args : X → List DD} {ini : X → Cell} {pre : X → Prop} {post : X → DD → Cell → Prop}
theorem ev_callNew {E : XK} {ts : TA} (x : X) (h : EvAN K P ts Γ (ini x) (args x)) (hp : pre x) (hD : ∀ r c', post x r c' → D r) : Ev K P (tCall (spM K P args ini pre post) [] E ts) Γ D := fun I H σ E Q q => by
  refine h I H σ E _ fun vs p o I1 H1 w1 hp0 h1 hi hc r1 => ?_
  show spM K P args ini pre post ((vs ++ [.ref p]) ++ []) H1 Q _
  rw [List.append_nil]
  refine ⟨I1, x, p, o, vs, rfl, r1, w1.ok, h1, hi, hc, hp, fun r v o' c' I2 H2 hr w2 hc' r2 => ?_⟩
  have hP : p ≠ P := fun z => by
    obtain ⟨u, hu⟩ := E.ok.atP
    rw [← z, hp0] at hu
    cases hu
  exact q v r I2 H2 (hD r c' hr) ((w1.mut hp0 hi hP o').trans w2) r2
/-- a call that changes a cell of ours, and its result -/
theorem call_at {E' : XK} {ts : TA} {i : Nat} {p : Addr} (x : X) (E : EnvS K P I0 H0 I H σ Γ) (h : Γ[i]? = some (cSlot p (ini x))) (ha : EvAL K P ts Γ p (args x)) (hp : pre x) {Q : VK}
    (q : ∀ r v c' I' H', post x r c' → Same I I' → EnvS K P I0 H0 I' H' σ (Γ.set i (cSlot p c')) → Rp K I' v r → Q v H') : tCall (spM K P args ini pre post) [] E' ts σ H Q := by
  refine ha I H σ E.env _ fun vs I1 H1 w1 r1 => ?_
  show spM K P args ini pre post ((vs ++ [.ref p]) ++ []) H1 Q _
  rw [List.append_nil]
  have E1 := E.mono w1
  obtain ⟨e, o, h1, h2, h3⟩ := slot_cell.mp (E1.env.sl i _ h)
  exact ⟨I1, x, p, o, vs, rfl, r1, w1.ok, h1, h2, h3, hp, fun r v o' c' I2 H2 hr w2 hc' r2 => q r v c' I2 H2 hr (w1.ii.trans w2.ii) (E1.after h w2 hc') r2⟩
theorem sv_asgM {E' : XK} {ts : TA} {i j : Nat} {p : Addr} (x : X) (h : Γ[i]? = some (cSlot p (ini x))) (ha : EvAL K P ts Γ p (args x)) (hp : pre x) (hn : ∀ r c', post x r c' → N ((Γ.set i (cSlot p c')).set j (.imm r))) : EvS K P I0 H0 (tAsg (tCall (spM K P args ini pre post) [] E' ts) (gName j)) Γ N R B C := fun I H σ D' E kn hr hb hc =>
  call_at x E h ha hp fun r v c' I' H' hpst s2 E2 r2 => kn I' H' _ _ (hn r c' hpst) s2 (E2.set r2)
/-- n = n + f(.., cell) -/
theorem sv_asgAddM {E' : XK} {ts : TA} {i j k : Nat} {p : Addr} {m : Int} (x : X) (h : Γ[i]? = some (cSlot p (ini x))) (hk : Γ[k]? = some (.imm (.dat (.int m)))) (ha : EvAL K P ts Γ p (args x)) (hp : pre x) (hn : ∀ r c', post x r c' → ∃ n : Int, r = .dat (.int n) ∧ N ((Γ.set i (cSlot p c')).set j (.imm (.dat (.int (m + n)))))) :
    EvS K P I0 H0 (tAsg (tOp (rI0 fun i j => .int (i + j)) (tVar k) (tCall (spM K P args ini pre post) [] E' ts)) (gName j)) Γ N R B C := fun I H σ D' E kn hr hb hc => by
  obtain ⟨v, e, r⟩ := E.env.imm hk
  cases r
  refine ⟨_, e, ?_⟩
  refine call_at x E h ha hp fun r v c' I' H' hpst s2 E2 r2 => ?_
  obtain ⟨n, rfl, hN⟩ := hn r c' hpst
  cases r2
  exact ⟨m, n, rfl, rfl, kn I' H' _ _ hN s2 (E2.set (Dx.int _))⟩
end
section
variable {Pr : Program} {w : World} {K : PySem.W.Frag} {mg : Str → Option Value} {base : Heap} {P : Addr}
/-- the environment of a def whose last argument is a cell -/
def startM (n : Nat) (ds : List DD) (p : Addr) (c : Cell) : Env := (startE n ds).set ds.length (cSlot p c)
theorem Fun.mut {x qual : Str} {st : Stmt} {f : Addr} {fd : FuncData} {N ps : List Str} {k : Nat} {X : Type} {args : X → List DD} {ini : X → Cell} {pre : X → Prop} {post : X → DD → Cell → Prop} (F : L2.Fun K x qual st f fd) (S : FnScope N ps (defScope st)) (hl : ∀ x, (args x).length + 1 = ps.length) (hN : ps.length ≤ N.length)
    (hb : ∀ (cdv : Value) (A : Around) (outer : List PySem.Env) (s : Shared) (H : Hp) (E : XK), Room k (A.deeper (PyProof.Rows.envOfC qual (defScope st) s.heap.objs.size f cdv)) →
      ∃ t, PSs (cxOf CX0 Pr w K mg base N qual (defScope st) f cdv A outer s H E).nox (defBody st) t ∧ ∀ x p, pre x → ∀ I0 H0 : Hp, EvS K P I0 H0 t (startM N.length (args x) p (ini x)) (fun Γ' => ∃ c', Γ'[(args x).length]? = some (cSlot p c') ∧ post x (.dat .none) c') (fun Γ' d => ∃ c', Γ'[(args x).length]? = some (cSlot p c') ∧ post x d c') (fun _ => False) (fun _ => False)) :
    FnOk Pr w K mg base CX0 (k + 1) f fd ps (spM K P args ini pre post) := by
  refine F.ok S (fun vs H Q E h => ?_) (fun cdv A outer s H vs Q E hr h => ?_)
  · obtain ⟨I, x, p, o, vs', rfl, r, _⟩ := h
    rw [List.length_append, List.length_singleton, Paired.length r, hl x]
  · obtain ⟨I, x, p, o, vs', rfl, r, ko, h1, hi, hc, hp, q⟩ := h
    obtain ⟨t, ht, hev⟩ := hb cdv A outer s H E hr
    refine ⟨t, ht, ?_⟩
    have hlen : vs'.length = (args x).length := Paired.length r
    have hP : p ≠ P := fun z => by
      obtain ⟨u, hu, _⟩ := ko.tab
      rw [← z, h1] at hu
      cases hu
      cases hq : ini x with
      | inl ds =>
        rw [hq] at hc
        obtain ⟨_, e, _⟩ := hc
        cases e
      | inr es =>
        rw [hq] at hc
        obtain ⟨_, e, _⟩ := hc
        cases e
    let G : Hp := fun b => if b = p then none else H b
    have wd : Wd P I G I H := ⟨ko, Same.refl I, fun b u _ e => by
      by_cases c : b = p
      · simp only [G, if_pos c] at e
        cases e
      · simp only [G, if_neg c] at e
        exact e, fun _ _ _ => rfl⟩
    have hN' : (args x).length < N.length := by
      have := hl x
      omega
    have E0 : EnvS K P I G I H (L2.start N (vs' ++ [.ref p])) (startM N.length (args x) p (ini x)) := by
      have lenE : (startE N.length (args x)).length = N.length := by unfold startE; simp; omega
      refine ⟨⟨ko, ?_, fun i s hs => ?_, fun i j s t hij hs ht a ha => ?_⟩, wd, fresh_set (fun i s hs a ha => by rw [startE_adrs hs] at ha; cases ha) fun a ha => ?_⟩
      · rw [start_len]
        unfold startM
        rw [List.length_set, lenE, List.length_append, List.length_singleton, hlen]
        omega
      · by_cases c : (args x).length = i
        · subst c
          unfold startM at hs
          rw [List.getElem?_set_self (by rw [lenE]; exact hN')] at hs
          cases hs
          exact slot_cell.mpr ⟨start_sv (by rw [← hlen]; simp), o, h1, hi, hc⟩
        · unfold startM at hs
          rw [List.getElem?_set_ne c] at hs
          rcases startE_get hs with ⟨d, hd, rfl⟩ | ⟨_, rfl⟩
          · obtain ⟨v, hv, rv⟩ := paired_at r hd
            refine ⟨v, start_sv ?_, rv⟩
            rw [List.getElem?_append_left (List.getElem?_eq_some_iff.mp hv).1]
            exact hv
          · trivial
      · unfold startM at hs ht
        by_cases c : (args x).length = i
        · rw [List.getElem?_set_ne (by rw [c]; exact hij)] at ht
          rw [startE_adrs ht]
          simp
        · rw [List.getElem?_set_ne c] at hs
          rw [startE_adrs hs] at ha
          cases ha
      · rw [cSlot_adrs] at ha
        rcases List.mem_singleton.mp ha with rfl
        exact if_pos rfl
    have fin : ∀ (I' H' : Hp) (σ' : L2.St) (Γ' : Env) (v : V) (d : DD), (∃ c', Γ'[(args x).length]? = some (cSlot p c') ∧ post x d c') → EnvS K P I G I' H' σ' Γ' → Rp K I' v d → Q v H' := fun I' H' σ' Γ' v d ⟨c', hc', hpst⟩ E' r' => by
      obtain ⟨_, o', g1, g2, g3⟩ := slot_cell.mp (E'.env.sl _ _ hc')
      refine q d v o' c' I' H' hpst ⟨E'.env.ok, E'.wd.ii, fun b u hb e => ?_, fun b u e => ?_⟩ g3 r'
      · by_cases c : b = p
        · subst c
          rw [upd_same] at e
          cases e
          exact g1
        · rw [L2.upd_ne c] at e
          exact E'.wd.hh b u hb (by simp only [G, if_neg c]; exact e)
      · by_cases c : b = p
        · subst c
          rw [g2, hi]
        · rw [L2.upd_ne c] at e
          exact E'.wd.fr b u (by simp only [G, if_neg c]; exact e)
    refine hev x p hp I G I H _ _ E0 (fun I' H' σ' Γ' h' _ E' => ?_) (fun I' H' σ' Γ' v d hd E' r' => fin I' H' σ' Γ' v d hd E' r') (fun _ _ _ _ z => z.elim) (fun _ _ _ _ z => z.elim)
    exact fin I' H' σ' Γ' _ _ h' E' Dx.non
end
end Wf
/-! The program's text by places; what the walk asks of the names of the module. -/
namespace Wf
open PySem L2
abbrev rAddI : R2 := rI0 fun i j => .int (i + j)
abbrev rSubI : R2 := rI0 fun i j => .int (i - j)
abbrev rLtI : R2 := rI0 fun i j => .bl (decide (i < j))
abbrev rLeI : R2 := rI0 fun i j => .bl (decide (i ≤ j))
abbrev rGtI : R2 := rI0 fun i j => .bl (decide (j < i))
abbrev rGeI : R2 := rI0 fun i j => .bl (decide (j ≤ i))
abbrev rMulI : R2 := rI CMul fun i j => .int (i * j)
abbrev rModI : R2 := rI (fun _ j => 0 < j) fun i j => .int (i % j)
abbrev rDivI : R2 := rI CDiv fun i j => .int (i / j)
abbrev rPowI : R2 := rI CPow fun i j => .int (i ^ j.toNat)
abbrev rCatS : R2 := fun x y H Q => ∃ i j, x = .str i ∧ y = .str j ∧ i.length + j.length ≤ sizeLine ∧ Q (.str (i ++ j)) H
/-- the names of built-ins that the program asks -/
structure Txt (mg : Str → Option Value) : Prop where
  len : mg "len" = none
  list : mg "list" = none
  tuple : mg "tuple" = none
  sum : mg "sum" = none
  max : mg "max" = none
  range : mg "range" = none
  enumerate : mg "enumerate" = none
  reversed : mg "reversed" = none
  sorted : mg "sorted" = none
  isinstance : mg "isinstance" = none
  all : mg "all" = none
  most : ∃ u, mg "MOST_LINES" = some u ∧ RelV (.int 2000) u
  nmost : ∃ u, mg "NAME_MOST" = some u ∧ RelV (.int 20) u
  signs : ∃ u, mg "NAME_SIGNS" = some u ∧ RelV (.str "-_.") u
/-- a promise told of data -/
structure Pm where
  X : Type
  args : X → List DD
  pre : X → Prop
  post : X → DD → Prop
abbrev Pm.sp (m : Pm) (K : PySem.W.Frag) (P : Addr) : Sp := spT K P m.args m.pre m.post
def Pm.Ok (m : Pm) (K : PySem.W.Frag) (P : Addr) (I0 H0 : Hp) (n : Nat) (t : TS) : Prop := ∀ x, m.pre x → EvS K P I0 H0 t (startE n (m.args x)) (fun _ => m.post x (.dat .none)) (fun _ => m.post x) (fun _ => False) (fun _ => False)
/-- the constant ('keep',) -/
def KeepK (K : PySem.W.Frag) (aK : Addr) : Prop := ∀ I, SqT K I aK [.str "keep"]
def KeepAt (mg : Str → Option Value) (K : PySem.W.Frag) (aK : Addr) : Prop := KeepK K aK ∧ ∃ u, mg "KEEP" = some u ∧ RelV (.ref aK) u
abbrev rLstrip : V → List V → Hp → VK → Prop := fun x xs H Q => ∃ a b, x = .str a ∧ xs = [.str b] ∧ a.length ≤ sizeLine ∧ Q (.str (Txt.lstripChars a b)) H
abbrev rIsalnum : V → List V → Hp → VK → Prop := fun x xs H Q => ∃ a, x = .str a ∧ xs = [] ∧ True ∧ Q (.bl (Txt.isalnum a)) H
abbrev rMax2 : List V → Hp → VK → Prop := fun xs H Q => ∃ i j, xs = [.int i, .int j] ∧ Q (.int (if j > i then j else i)) H
abbrev rFind : V → List V → Hp → VK → Prop := fun x xs H Q => ∃ a b, x = .str a ∧ xs = [.str b] ∧ Q (.int (Txt.find a b)) H
abbrev rSortDI : List V → Hp → VK → Prop := fun xs H Q => ∃ (a : Addr) (kvs : List (Key × V)) (ks : List Int), xs = [.ref a] ∧ Rd H a (.dK kvs) ∧ kvs.map (·.1) = ks.map Sum.inl ∧ ks.length < 64 ∧
  ∀ (ys : List Int) (p : Addr), ys.Perm ks → ys.Pairwise (· ≤ ·) → H p = none → Q (.ref p) (upd H p (.lst (ys.map V.int)))
end Wf
/-! Documents, programs and edits as data; how their parts are read. -/
namespace Wf
open PySem L2
theorem e0 : ("" : Str) = Str.empty := by decide +kernel
theorem eSp : (" " : Str) = ⟨#[32]⟩ := by decide +kernel
def Ln.kind : Ln → Str
  | .head _ => "head"
  | .use _ _ => "use"
  | .code _ => "code"
  | .prose _ => "prose"
def lnD : Ln → PyData
  | .head n => .tuple [.str "head", .str n]
  | .use i n => .tuple [.str "use", .int i, .str n]
  | .code t => .tuple [.str "code", .str t]
  | .prose t => .tuple [.str "prose", .str t]
def docD (d : List Ln) : PyData := .tuple (d.map lnD)
def chD : Ch → PyData
  | .keep => .tuple [.str "keep"]
  | .drop => .tuple [.str "drop"]
  | .text t => .tuple [.str "text", .str t]
def Ch.kind : Ch → Str
  | .keep => "keep"
  | .drop => "drop"
  | .text _ => "text"
def strsD (ts : List Str) : PyData := .tuple (ts.map PyData.str)
def edD (e : Ed) : PyData := .tuple [strsD e.ahead, chD e.ch, strsD e.behind]
def natsL (ns : List Nat) : List PyData := ns.map fun (n : Nat) => PyData.int n
def plD (p : PL) : PyData := .tuple [.str p.text, .int p.line, .tuple (natsL p.path)]
def progD (ps : List PL) : PyData := .list (ps.map plD)
def edsD (es : List Ed) : PyData := .list (es.map edD)
theorem kind_head (l : Ln) : decide (l.kind = "head") = (match l with | .head _ => true | _ => false) := by cases l <;> rfl
theorem kind_use (l : Ln) : decide (l.kind = "use") = (match l with | .use _ _ => true | _ => false) := by cases l <;> rfl
theorem kind_code (l : Ln) : decide (l.kind = "code") = l.isCode := by cases l <;> rfl
theorem kind_prose (l : Ln) : decide (l.kind = "prose") = l.isProse := by cases l <;> rfl
theorem kind_keep (l : Ch) : decide (l.kind = "keep") = decide (l = .keep) := by
  cases l with
  | keep => decide +kernel
  | drop => decide +kernel
  | text t =>
    have : ¬ Ch.text t = .keep := fun z => by cases z
    rw [decide_eq_false this]
    rfl
theorem kind_drop (l : Ch) : decide (l.kind = "drop") = decide (l = .drop) := by
  cases l with
  | keep => decide +kernel
  | drop => decide +kernel
  | text t =>
    have : ¬ Ch.text t = .drop := fun z => by cases z
    rw [decide_eq_false this]
    rfl
def Ch.isText : Ch → Bool
  | .text _ => true
  | _ => false
theorem kind_text (l : Ch) : decide (l.kind = "text") = l.isText := by cases l <;> rfl
section
variable {K : PySem.W.Frag} {P : Addr} {Γ : Env} {ta tb te : TE}
/-- a while: an invariant with a number that falls -/
theorem sv_whileG {c : TT} {t : TS} {N : Env → Prop} {R : Env → DD → Prop} {B C : Env → Prop} (Inv : Nat → Env → Prop) (h0 : ∃ m, Inv m Γ)
    (hs : ∀ m Γ', Inv m Γ' → ∃ k, EvT K P c Γ' k ∧ (k = true → EvS K P I0 H0 t Γ' (fun Γ2 => ∃ m', m' < m ∧ Inv m' Γ2) R N (fun Γ2 => ∃ m', m' < m ∧ Inv m' Γ2)) ∧ (k = false → N Γ')) : EvS K P I0 H0 (tWhile c t) Γ N R B C := fun I H σ D' E kn kr hb hc => by
  obtain ⟨m0, h0⟩ := h0
  refine ⟨fun m σ H => ∃ I' Γ', Same I I' ∧ EnvS K P I0 H0 I' H σ Γ' ∧ Inv m Γ', ⟨m0, I, Γ, Same.refl I, E, h0⟩, ?_⟩
  rintro m σ H ⟨I', Γ', s1, E', hI⟩
  obtain ⟨k, ht, h1, h2⟩ := hs m Γ' hI
  refine ht I' H σ E'.env _ fun I2 H2 w2 => ?_
  cases k with
  | false => exact kn I2 H2 σ Γ' (h2 rfl) (s1.trans w2.ii) (E'.mono w2)
  | true =>
    refine ⟨fun σ H => ∃ I' Γ2, Same I I' ∧ EnvS K P I0 H0 I' H σ Γ2 ∧ ∃ m', m' < m ∧ Inv m' Γ2, fun σ3 H3 ⟨I3, Γ3, s3, E3, m', l3, h3⟩ => ⟨m', l3, I3, Γ3, s3, E3, h3⟩, ?_⟩
    exact h1 rfl I2 H2 σ _ (E'.mono w2) (fun I3 H3 σ3 Γ3 h3 s3 E3 => ⟨I3, Γ3, (s1.trans w2.ii).trans s3, E3, h3⟩) kr (fun I3 H3 σ3 Γ3 h3 s3 E3 => kn I3 H3 σ3 Γ3 h3 ((s1.trans w2.ii).trans s3) E3) fun I3 H3 σ3 Γ3 h3 s3 E3 => ⟨I3, Γ3, (s1.trans w2.ii).trans s3, E3, h3⟩
theorem ev_ixT {ds : List PyData} {i : Int} {c : PyData} (ha : EvD K P ta Γ (.tuple ds)) (hb : EvD K P tb Γ (.int i)) (h : atI ds i = some c) : EvD K P (tOp (rIxT K) ta tb) Γ c := ev_op ha hb (rop_ixT h)
theorem ev_ixL {ds : List PyData} {i : Int} {c : PyData} (ha : EvD K P ta Γ (.list ds)) (hb : EvD K P tb Γ (.int i)) (h : atI ds i = some c) : EvD K P (tOp (rIxL K) ta tb) Γ c := ev_op ha hb (rop_ixL h)
theorem atI_doc {d : List Ln} {a : Nat} {l : Ln} (h : d[a]? = some l) : atI (d.map lnD) a = some (lnD l) := atI_of (by rw [List.getElem?_map, h]; rfl)
/-- d[a] -/
theorem ev_docAt {d : List Ln} {a : Nat} {l : Ln} (ha : EvD K P ta Γ (docD d)) (hb : EvD K P tb Γ (.int a)) (h : d[a]? = some l) : EvD K P (tOp (rIxT K) ta tb) Γ (lnD l) := ev_ixT ha hb (atI_doc h)
/-- l[0] -/
theorem ev_kind {l : Ln} (h : EvD K P te Γ (lnD l)) : EvD K P (tOp (rIxT K) te (tC (.int 0))) Γ (.str l.kind) := by
  cases l <;> exact ev_ixT h ev_int rfl
theorem ev_ln1 {l : Ln} {t : Str} (h : EvD K P te Γ (lnD l)) (e : match l with | .head n => n = t | .code n => n = t | .prose n => n = t | .use _ _ => False) : EvD K P (tOp (rIxT K) te (tC (.int 1))) Γ (.str t) := by
  cases l with
  | head n =>
    cases e
    exact ev_ixT h ev_int rfl
  | code n =>
    cases e
    exact ev_ixT h ev_int rfl
  | prose n =>
    cases e
    exact ev_ixT h ev_int rfl
  | use i n => exact e.elim
theorem ev_use1 {i : Nat} {n : Str} (h : EvD K P te Γ (lnD (.use i n))) : EvD K P (tOp (rIxT K) te (tC (.int 1))) Γ (.int i) := ev_ixT h ev_int rfl
theorem ev_use2 {i : Nat} {n : Str} (h : EvD K P te Γ (lnD (.use i n))) : EvD K P (tOp (rIxT K) te (tC (.int 2))) Γ (.str n) := ev_ixT h ev_int rfl
theorem ev_chK {c : Ch} (h : EvD K P te Γ (chD c)) : EvD K P (tOp (rIxT K) te (tC (.int 0))) Γ (.str c.kind) := by
  cases c <;> exact ev_ixT h ev_int rfl
theorem ev_ch1 {t : Str} (h : EvD K P te Γ (chD (.text t))) : EvD K P (tOp (rIxT K) te (tC (.int 1))) Γ (.str t) := ev_ixT h ev_int rfl
theorem ev_ed0 {e : Ed} (h : EvD K P te Γ (edD e)) : EvD K P (tOp (rIxT K) te (tC (.int 0))) Γ (strsD e.ahead) := ev_ixT h ev_int rfl
theorem ev_ed1 {e : Ed} (h : EvD K P te Γ (edD e)) : EvD K P (tOp (rIxT K) te (tC (.int 1))) Γ (chD e.ch) := ev_ixT h ev_int rfl
theorem ev_ed2 {e : Ed} (h : EvD K P te Γ (edD e)) : EvD K P (tOp (rIxT K) te (tC (.int 2))) Γ (strsD e.behind) := ev_ixT h ev_int rfl
theorem ev_pl0 {p : PL} (h : EvD K P te Γ (plD p)) : EvD K P (tOp (rIxT K) te (tC (.int 0))) Γ (.str p.text) := ev_ixT h ev_int rfl
theorem ev_pl1 {p : PL} (h : EvD K P te Γ (plD p)) : EvD K P (tOp (rIxT K) te (tC (.int 1))) Γ (.int p.line) := ev_ixT h ev_int rfl
theorem ev_pl2 {p : PL} (h : EvD K P te Γ (plD p)) : EvD K P (tOp (rIxT K) te (tC (.int 2))) Γ (.tuple (natsL p.path)) := ev_ixT h ev_int rfl
theorem ev_eqS {a b : Str} (ha : EvD K P ta Γ (.str a)) (hb : EvD K P tb Γ (.str b)) : EvD K P (tOp rEq ta tb) Γ (.bool (decide (a = b))) := ev_op ha hb rop_eqS
theorem ev_neS {a b : Str} (ha : EvD K P ta Γ (.str a)) (hb : EvD K P tb Γ (.str b)) : EvD K P (tOp rNe ta tb) Γ (.bool (!decide (a = b))) := ev_op ha hb rop_neS
theorem ev_add {i j : Int} (ha : EvD K P ta Γ (.int i)) (hb : EvD K P tb Γ (.int j)) : EvD K P (tOp rAddI ta tb) Γ (.int (i + j)) := ev_op ha hb rop_add
theorem ev_sub {i j : Int} (ha : EvD K P ta Γ (.int i)) (hb : EvD K P tb Γ (.int j)) : EvD K P (tOp rSubI ta tb) Γ (.int (i - j)) := ev_op ha hb rop_sub
theorem ev_neg {i : Int} (ha : EvD K P ta Γ (.int i)) : EvD K P (tUn (rU fun i => .int (-i)) ta) Γ (.int (-i)) := ev_un ha fun H I x k hx Q q => by
  cases hx
  exact ⟨i, rfl, q _ (Dx.int _)⟩
theorem EvD.nat {n m : Nat} {i : Int} (h : EvD K P te Γ (.int i)) (e : i = (m : Int)) : EvD K P te Γ (.int m) := e ▸ h
theorem EvD.as {a b : PyData} (h : EvD K P te Γ a) (e : a = b) : EvD K P te Γ b := e ▸ h
theorem rop_mulS {n : Nat} (h : n ≤ 100000) : ROp K P rMulS (.str " ") (.int n) (.str (spc n)) := fun I H x y k hx hy Q q => by
  cases hx
  cases hy
  exact ⟨n, by rw [eSp], rfl, h, q _ I H (Wd.refl k) (.str _)⟩
theorem spc_len (n : Nat) : (spc n).length = n := by simp [spc, Str.length]
theorem ev_pad {n : Nat} {t : Str} (ha : EvD K P ta Γ (.int n)) (hb : EvD K P tb Γ (.str t)) (h1 : n ≤ 1000) (h2 : t.length ≤ 1000) : EvD K P (tOp rCatS (tOp rMulS (tC (.str " ")) ta) tb) Γ (.str (spc n ++ t)) :=
  ev_op (ev_op ev_str ha (rop_mulS (by omega))) hb (rop_catS (by rw [spc_len]; omega))
/-- an item of the script -/
theorem ev_ixC {ns : List Int} {i n : Int} (ha : EvE K P ta Γ (.scr ns)) (hb : EvD K P tb Γ (.int i)) (h : atI ns i = some n) : EvD K P (tOp (rIxL K) ta tb) Γ (.int n) := fun I H σ E Q q => by
  refine ha I H σ E _ fun x da I1 H1 ea w1 r1 => ?_
  subst ea
  refine hb I1 H1 σ (E.mono w1) _ fun y db I2 H2 eb w2 r2 => ?_
  subst eb
  cases r2
  obtain ⟨a, rfl, r⟩ := r1
  have e : atI (ns.map V.int) i = some (.int n) := by
    unfold atI at h ⊢
    rw [List.length_map]
    cases c : ixN ns.length i with
    | none =>
      rw [c] at h
      cases h
    | some j =>
      rw [c] at h
      have h : ns[j]? = some n := h
      show (ns.map V.int)[j]? = _
      rw [List.getElem?_map, h]
      rfl
  exact ⟨a, _, i, .int n, rfl, rfl, w2.ok.sub.seq (w2.ii.seq r), e, q _ _ I2 H2 rfl (w1.trans w2) (Dx.int _)⟩
theorem RCa.as {r : List V → Hp → VK → Prop} {ds : List DD} {c c' : DD} (h : RCa K P r ds c) (e : c = c') : RCa K P r ds c' := e ▸ h
theorem ea1 {d : DD} (h : EvE K P te Γ d) : EvA K P (tCons te tNil) Γ (· = [d]) := ea_cons h ea_nil
end
end Wf
/-! Sections, tables: plain. -/
namespace Wf
open PySem L2
abbrev Sec := Str × Nat × Nat
def setEnd (acc : List Sec) (e : Nat) : List Sec := match acc.reverse with
  | [] => []
  | (n, h, _) :: r => r.reverse ++ [(n, h, e)]
theorem setEnd_snoc (acc : List Sec) (n : Str) (h x e : Nat) : setEnd (acc ++ [(n, h, x)]) e = acc ++ [(n, h, e)] := by
  unfold setEnd
  simp
def secGo : List Ln → Nat → List Sec → List Sec
  | [], _, acc => acc
  | .head n :: r, i, acc => secGo r (i + 1) (acc ++ [(n, i, i + 1)])
  | .prose _ :: r, i, acc => secGo r (i + 1) acc
  | .use _ _ :: r, i, acc => secGo r (i + 1) (setEnd acc (i + 1))
  | .code _ :: r, i, acc => secGo r (i + 1) (setEnd acc (i + 1))
def secs (d : List Ln) : List Sec := secGo d 0 []
def secR (s : Sec) : List Nat := List.range' (s.2.1 + 1) (s.2.2 - (s.2.1 + 1))
def secLines (acc : List Sec) (n : Str) : List Nat := acc.flatMap fun s => if s.1 = n then secR s else []
/-- the last section is open: it ends here -/
def Open (o : Bool) (acc : List Sec) (c : Option Str) (i : Nat) : Prop := o = true → ∃ acc' m h, acc = acc' ++ [(m, h, i)] ∧ c = some m ∧ h + 1 ≤ i
theorem Open.head {acc : List Sec} {n : Str} {i : Nat} : Open true (acc ++ [(n, i, i + 1)]) (some n) (i + 1) := fun _ => ⟨acc, n, i, rfl, rfl, Nat.le_refl _⟩
theorem range'_snoc (a k : Nat) : List.range' a (k + 1) = List.range' a k ++ [a + k] := by
  rw [List.range'_concat]
  simp
theorem secLines_snoc (acc : List Sec) (s : Sec) (n : Str) : secLines (acc ++ [s]) n = secLines acc n ++ if s.1 = n then secR s else [] := by
  unfold secLines
  rw [List.flatMap_append]
  simp
theorem secR_grow {m : Str} {h i : Nat} (hi : h + 1 ≤ i) : secR (m, h, i + 1) = secR (m, h, i) ++ [i] := by
  unfold secR
  dsimp only
  have e : i + 1 - (h + 1) = (i - (h + 1)) + 1 := by omega
  rw [e, range'_snoc]
  congr 2
  omega
theorem secGo_lines : ∀ (r : List Ln) (o : Bool) (i : Nat) (acc : List Sec) (c : Option Str) (n : Str), vd o r = true → Open o acc c i →
    secLines (secGo r i acc) n = secLines acc n ++ (lnl r c i n).map (·.1) := by
  intro r
  induction r with
  | nil => intro o i acc c n _ _; simp [secGo, lnl]
  | cons l r ih =>
    intro o i acc c n hv ho
    have line : ∀ l', (l' = l) → (o && vd true r) = true → lnl (l' :: r) c i n = (if c = some n then (i, l') :: lnl r c (i + 1) n else lnl r c (i + 1) n) → secLines (secGo r (i + 1) (setEnd acc (i + 1))) n = secLines acc n ++ (lnl (l' :: r) c i n).map (·.1) := by
      intro l' _ hv' e
      have hv' := Bool.and_eq_true_iff.mp hv'
      obtain ⟨acc', m, h, rfl, rfl, hi⟩ := ho hv'.1
      rw [setEnd_snoc]
      rw [ih true (i + 1) (acc' ++ [(m, h, i + 1)]) (some m) n hv'.2 (fun _ => ⟨acc', m, h, rfl, rfl, by omega⟩)]
      rw [e, secLines_snoc, secLines_snoc]
      by_cases c : m = n
      · subst c
        rw [if_pos rfl, if_pos rfl, if_pos rfl, secR_grow hi]
        simp
      · rw [if_neg c, if_neg c, if_neg (fun z => c (Option.some.inj z))]
    cases l with
    | head m =>
      rw [secGo, ih true (i + 1) _ (some m) n hv Open.head, secLines_snoc]
      have e : secR (m, i, i + 1) = [] := by
        unfold secR
        dsimp only
        rw [Nat.sub_self]
        rfl
      rw [e]
      simp [lnl]
    | prose t =>
      rw [secGo, ih false (i + 1) acc c n hv (fun z => by cases z)]
      rfl
    | use a b => exact line _ rfl hv rfl
    | code t => exact line _ rfl hv rfl
theorem secs_lines {d : List Ln} (h : vd false d = true) (n : Str) : secLines (secs d) n = lns d n := by
  have := secGo_lines d false 0 [] none n h (fun z => by cases z)
  unfold secs
  rw [this]
  rfl
theorem mem_setEnd {acc : List Sec} {e : Nat} {n : Str} : (∃ s ∈ setEnd acc e, s.1 = n) ↔ ∃ s ∈ acc, s.1 = n := by
  rcases List.eq_nil_or_concat acc with rfl | ⟨a, x, rfl⟩
  · simp [setEnd]
  · obtain ⟨m, h, y⟩ := x
    rw [List.concat_eq_append, setEnd_snoc]
    simp only [List.mem_append, List.mem_singleton]
    constructor
    · rintro ⟨s, h1 | rfl, h2⟩
      · exact ⟨s, .inl h1, h2⟩
      · exact ⟨_, .inr rfl, h2⟩
    · rintro ⟨s, h1 | rfl, h2⟩
      · exact ⟨s, .inl h1, h2⟩
      · exact ⟨_, .inr rfl, h2⟩
theorem hasHead_cons (l : Ln) (r : List Ln) (n : Str) : hasHead (l :: r) n = (decide (l = .head n) || hasHead r n) := rfl
theorem secGo_names : ∀ (r : List Ln) (i : Nat) (acc : List Sec) (n : Str), (∃ s ∈ secGo r i acc, s.1 = n) ↔ (∃ s ∈ acc, s.1 = n) ∨ hasHead r n = true := by
  intro r
  induction r with
  | nil => intro i acc n; simp [secGo, hasHead]
  | cons l r ih =>
    intro i acc n
    rw [hasHead_cons]
    cases l with
    | head m =>
      rw [secGo, ih]
      simp only [List.mem_append, List.mem_singleton, Bool.or_eq_true, decide_eq_true_eq, Ln.head.injEq]
      constructor
      · rintro (⟨s, h | rfl, e⟩ | h)
        · exact .inl ⟨s, h, e⟩
        · exact .inr (.inl e)
        · exact .inr (.inr h)
      · rintro (⟨s, h, e⟩ | e | h)
        · exact .inl ⟨s, .inl h, e⟩
        · exact .inl ⟨_, .inr rfl, e⟩
        · exact .inr h
    | prose t =>
      rw [secGo, ih, decide_eq_false (by intro z; cases z), Bool.false_or]
    | use a b =>
      rw [secGo, ih, mem_setEnd, decide_eq_false (by intro z; cases z), Bool.false_or]
    | code t =>
      rw [secGo, ih, mem_setEnd, decide_eq_false (by intro z; cases z), Bool.false_or]
theorem secs_names (d : List Ln) (n : Str) : (∃ s ∈ secs d, s.1 = n) ↔ hasHead d n = true := by
  unfold secs
  rw [secGo_names]
  simp
theorem all_setEnd {acc : List Sec} {i : Nat} (h : ∀ s ∈ acc, s.2.1 < s.2.2 ∧ s.2.2 ≤ i) : ∀ s ∈ setEnd acc (i + 1), s.2.1 < s.2.2 ∧ s.2.2 ≤ i + 1 := by
  rcases List.eq_nil_or_concat acc with rfl | ⟨a, x, rfl⟩
  · intro s hs
    cases hs
  · obtain ⟨m, k, y⟩ := x
    rw [List.concat_eq_append] at h ⊢
    rw [setEnd_snoc]
    intro s hs
    rcases List.mem_append.mp hs with hs | hs
    · have := h s (List.mem_append_left _ hs)
      omega
    · rcases List.mem_singleton.mp hs with rfl
      have := h (m, k, y) (by simp)
      dsimp only at this ⊢
      omega
theorem len_setEnd {acc : List Sec} {i : Nat} : (setEnd acc i).length = acc.length := by
  rcases List.eq_nil_or_concat acc with rfl | ⟨a, x, rfl⟩
  · rfl
  · obtain ⟨m, k, y⟩ := x
    rw [List.concat_eq_append, setEnd_snoc]
    simp
theorem secGo_bound : ∀ (r : List Ln) (i : Nat) (acc : List Sec), (∀ s ∈ acc, s.2.1 < s.2.2 ∧ s.2.2 ≤ i) → (∀ s ∈ secGo r i acc, s.2.1 < s.2.2 ∧ s.2.2 ≤ i + r.length) ∧ (secGo r i acc).length ≤ acc.length + r.length := by
  intro r
  induction r with
  | nil => intro i acc h; exact ⟨h, Nat.le_refl _⟩
  | cons l r ih =>
    intro i acc h
    have up : ∀ s ∈ acc, s.2.1 < s.2.2 ∧ s.2.2 ≤ i + 1 := fun s hs => ⟨(h s hs).1, Nat.le_succ_of_le (h s hs).2⟩
    cases l with
    | head m =>
      obtain ⟨h1, h2⟩ := ih (i + 1) (acc ++ [(m, i, i + 1)]) (fun s hs => by
        rcases List.mem_append.mp hs with hs | hs
        · exact up s hs
        · rcases List.mem_singleton.mp hs with rfl
          exact ⟨Nat.lt_succ_self _, Nat.le_refl _⟩)
      rw [secGo]
      refine ⟨fun s hs => ?_, ?_⟩
      · have := h1 s hs
        rw [List.length_cons]
        omega
      · rw [List.length_append, List.length_singleton] at h2
        rw [List.length_cons]
        omega
    | prose t =>
      obtain ⟨h1, h2⟩ := ih (i + 1) acc up
      rw [secGo]
      refine ⟨fun s hs => ?_, ?_⟩
      · have := h1 s hs
        rw [List.length_cons]
        omega
      · rw [List.length_cons]
        omega
    | use a b =>
      obtain ⟨h1, h2⟩ := ih (i + 1) (setEnd acc (i + 1)) (all_setEnd h)
      rw [secGo]
      refine ⟨fun s hs => ?_, ?_⟩
      · have := h1 s hs
        rw [List.length_cons]
        omega
      · rw [len_setEnd] at h2
        rw [List.length_cons]
        omega
    | code t =>
      obtain ⟨h1, h2⟩ := ih (i + 1) (setEnd acc (i + 1)) (all_setEnd h)
      rw [secGo]
      refine ⟨fun s hs => ?_, ?_⟩
      · have := h1 s hs
        rw [List.length_cons]
        omega
      · rw [len_setEnd] at h2
        rw [List.length_cons]
        omega
theorem secs_end {d : List Ln} {s : Sec} (h : s ∈ secs d) : s.2.1 < s.2.2 ∧ s.2.2 ≤ d.length := by
  have := (secGo_bound d 0 [] (fun s hs => by cases hs)).1 s h
  omega
theorem secs_len (d : List Ln) : (secs d).length ≤ d.length := by
  have := (secGo_bound d 0 [] (fun s hs => by cases hs)).2
  show (secGo d 0 []).length ≤ d.length
  simpa using this

/-! ### first lines -/
def firstsOf (acc : List Sec) : List Nat := acc.filterMap fun s => if s.2.1 + 1 < s.2.2 then some (s.2.1 + 1) else none
def fl : Bool → List Ln → Nat → List Nat
  | _, [], _ => []
  | _, .head _ :: r, i => fl true r (i + 1)
  | _, .prose _ :: r, i => fl false r (i + 1)
  | b, .use _ _ :: r, i => (if b = true then [i] else []) ++ fl false r (i + 1)
  | b, .code _ :: r, i => (if b = true then [i] else []) ++ fl false r (i + 1)
theorem firstsOf_snoc (acc : List Sec) (s : Sec) : firstsOf (acc ++ [s]) = firstsOf acc ++ if s.2.1 + 1 < s.2.2 then [s.2.1 + 1] else [] := by
  unfold firstsOf
  rw [List.filterMap_append]
  congr 1
  by_cases c : s.2.1 + 1 < s.2.2
  · simp [c]
  · simp [c]
def OpenB (o b : Bool) (acc : List Sec) (i : Nat) : Prop := o = true → ∃ acc' m h, acc = acc' ++ [(m, h, i)] ∧ h + 1 ≤ i ∧ (b = true ↔ h + 1 = i)
theorem secGo_firsts : ∀ (r : List Ln) (o b : Bool) (i : Nat) (acc : List Sec), vd o r = true → OpenB o b acc i → firstsOf (secGo r i acc) = firstsOf acc ++ fl b r i := by
  intro r
  induction r with
  | nil => intro o b i acc _ _; simp [secGo, fl]
  | cons l r ih =>
    intro o b i acc hv ho
    have line : (o && vd true r) = true → firstsOf (secGo r (i + 1) (setEnd acc (i + 1))) = firstsOf acc ++ ((if b = true then [i] else []) ++ fl false r (i + 1)) := by
      intro hv'
      have hv' := Bool.and_eq_true_iff.mp hv'
      obtain ⟨acc', m, h, rfl, hi, hb⟩ := ho hv'.1
      rw [setEnd_snoc]
      rw [ih true false (i + 1) (acc' ++ [(m, h, i + 1)]) hv'.2 (fun _ => ⟨acc', m, h, rfl, by omega, by constructor; (intro z; cases z); (intro z; omega)⟩)]
      rw [firstsOf_snoc, firstsOf_snoc]
      dsimp only
      rw [if_pos (by omega)]
      by_cases c : b = true
      · have := hb.mp c
        rw [if_neg (by omega), if_pos c, this]
        simp
      · have : h + 1 < i := by
          have : ¬ h + 1 = i := fun z => c (hb.mpr z)
          omega
        rw [if_pos this, if_neg c]
        simp
    cases l with
    | head m =>
      rw [secGo, ih true true (i + 1) _ hv (fun _ => ⟨acc, m, i, rfl, Nat.le_refl _, by simp⟩), firstsOf_snoc]
      simp [fl]
    | prose t =>
      rw [secGo, ih false false (i + 1) acc hv (fun z => by cases z)]
      rfl
    | use a b => exact line hv
    | code t => exact line hv
theorem secs_firsts {d : List Ln} (h : vd false d = true) : firstsOf (secs d) = fl false d 0 := by
  have := secGo_firsts d false false 0 [] h (fun z => by cases z)
  unfold secs
  rw [this]
  rfl
theorem mem_fl : ∀ (r : List Ln) (b : Bool) (i a : Nat), a ∈ fl b r i ↔ ∃ j l, a = i + j ∧ r[j]? = some l ∧ l.isLine = true ∧ (j = 0 ∧ b = true ∨ ∃ j' n, j = j' + 1 ∧ r[j']? = some (.head n)) := by
  intro r
  induction r with
  | nil => intro b i a; simp [fl]
  | cons l r ih =>
    intro b i a
    have step : ∀ (b' : Bool), (b' = true ↔ ∃ n, l = .head n) → (a ∈ fl b' r (i + 1) ↔ ∃ j l', a = i + (j + 1) ∧ r[j]? = some l' ∧ l'.isLine = true ∧ ∃ n, (l :: r)[j]? = some (.head n)) := by
      intro b' hb'
      rw [ih]
      constructor
      · rintro ⟨j, l', rfl, h1, h2, h3⟩
        refine ⟨j, l', by omega, h1, h2, ?_⟩
        rcases h3 with ⟨rfl, hb⟩ | ⟨j', n, rfl, h⟩
        · obtain ⟨n, rfl⟩ := hb'.mp hb
          exact ⟨n, rfl⟩
        · exact ⟨n, by simpa using h⟩
      · rintro ⟨j, l', rfl, h1, h2, n, h3⟩
        refine ⟨j, l', by omega, h1, h2, ?_⟩
        cases j with
        | zero =>
          refine .inl ⟨rfl, hb'.mpr ⟨n, by simpa using h3⟩⟩
        | succ j => exact .inr ⟨j, n, rfl, by simpa using h3⟩
    have split : (∃ j l', a = i + j ∧ (l :: r)[j]? = some l' ∧ l'.isLine = true ∧ (j = 0 ∧ b = true ∨ ∃ j' n, j = j' + 1 ∧ (l :: r)[j']? = some (.head n))) ↔
        (a = i ∧ l.isLine = true ∧ b = true) ∨ ∃ j l', a = i + (j + 1) ∧ r[j]? = some l' ∧ l'.isLine = true ∧ ∃ n, (l :: r)[j]? = some (.head n) := by
      constructor
      · rintro ⟨j, l', rfl, h1, h2, h3⟩
        cases j with
        | zero =>
          rcases h3 with ⟨_, hb⟩ | ⟨j', n, z, _⟩
          · have h1 : some l = some l' := by simpa using h1
            cases h1
            exact .inl ⟨rfl, h2, hb⟩
          · omega
        | succ j =>
          rcases h3 with ⟨z, _⟩ | ⟨j', n, z, h⟩
          · omega
          · have : j' = j := by omega
            subst this
            exact .inr ⟨j', l', rfl, by simpa using h1, h2, n, h⟩
      · rintro (⟨rfl, h1, h2⟩ | ⟨j, l', rfl, h1, h2, n, h3⟩)
        · exact ⟨0, l, rfl, rfl, h1, .inl ⟨rfl, h2⟩⟩
        · exact ⟨j + 1, l', rfl, by simpa using h1, h2, .inr ⟨j, n, rfl, h3⟩⟩
    rw [split]
    cases l with
    | head m =>
      rw [fl, step true ⟨fun _ => ⟨m, rfl⟩, fun _ => rfl⟩]
      simp [Ln.isLine]
    | prose m =>
      rw [fl, step false ⟨(fun z => by cases z), (fun ⟨n, z⟩ => by cases z)⟩]
      simp [Ln.isLine]
    | use x y =>
      rw [fl, List.mem_append, step false ⟨(fun z => by cases z), (fun ⟨n, z⟩ => by cases z)⟩]
      by_cases c : b = true <;> simp [c, Ln.isLine]
    | code m =>
      rw [fl, List.mem_append, step false ⟨(fun z => by cases z), (fun ⟨n, z⟩ => by cases z)⟩]
      by_cases c : b = true <;> simp [c, Ln.isLine]
theorem mem_firsts {d : List Ln} {a : Nat} {t : Str} (h : d[a]? = some (.code t)) : a ∈ fl false d 0 ↔ isFirst d a = true := by
  rw [mem_fl]
  unfold isFirst
  constructor
  · rintro ⟨j, l, e, h1, h2, h3⟩
    rw [Nat.zero_add] at e
    subst e
    rcases h3 with ⟨_, z⟩ | ⟨j', n, rfl, h3⟩
    · cases z
    · dsimp only
      rw [h3]
  · intro hh
    cases a with
    | zero => cases hh
    | succ a =>
      dsimp only at hh
      cases e : d[a]? with
      | none =>
        rw [e] at hh
        cases hh
      | some l =>
        rw [e] at hh
        cases l with
        | head n => exact ⟨a + 1, _, by omega, h, rfl, .inr ⟨a, n, rfl, e⟩⟩
        | use x y => cases hh
        | code x => cases hh
        | prose x => cases hh
/-- code stands behind a line -/
theorem code_pos {d : List Ln} {a : Nat} {l : Ln} (hv : vd false d = true) (h : d[a]? = some l) (hl : l.isLine = true) : 0 < a := by
  cases a with
  | succ a => omega
  | zero =>
    cases d with
    | nil => cases h
    | cons x r =>
      cases h
      cases l with
      | head n => cases hl
      | prose n => cases hl
      | use x y => simp [vd] at hv
      | code x => simp [vd] at hv

/-! ### tables -/
def vget (v : List (Str × List PyData)) (n : Str) : Option (List PyData) := (v.find? fun e => decide (e.1 = n)).map (·.2)
theorem vget_cons (e : Str × List PyData) (v : List (Str × List PyData)) (n : Str) : vget (e :: v) n = if e.1 = n then some e.2 else vget v n := by
  unfold vget
  rw [List.find?_cons]
  by_cases c : e.1 = n <;> simp [c]
theorem vget_ext : ∀ (v : List (Str × List PyData)) (k n : Str) (ds : List PyData), vget (extT v k ds) n = if n = k then some ((vget v k).getD [] ++ ds) else vget v n := by
  intro v
  induction v with
  | nil =>
    intro k n ds
    rw [extT, vget_cons]
    by_cases c : n = k
    · simp [c, vget]
    · have : ¬ k = n := fun z => c z.symm
      simp [c, this, vget]
  | cons e v ih =>
    intro k n ds
    obtain ⟨m, x⟩ := e
    rw [extT]
    by_cases c : m = k
    · subst c
      rw [if_pos rfl, vget_cons, vget_cons, vget_cons]
      dsimp only
      by_cases c2 : n = m
      · subst c2
        simp
      · have : ¬ m = n := fun z => c2 z.symm
        simp [c2, this]
    · rw [if_neg c, vget_cons, ih, vget_cons, vget_cons]
      dsimp only
      by_cases c2 : m = n
      · subst c2
        rw [if_pos rfl, if_neg c, if_pos rfl]
      · rw [if_neg c2, if_neg c, if_neg c2]
theorem ext_len (v : List (Str × List PyData)) (k : Str) (ds : List PyData) : (extT v k ds).length ≤ v.length + 1 := by
  induction v with
  | nil => exact Nat.le_refl _
  | cons e v ih =>
    obtain ⟨m, x⟩ := e
    rw [extT]
    by_cases c : m = k
    · rw [if_pos c]
      simp
    · rw [if_neg c]
      simpa using ih
theorem ext_all {v : List (Str × List PyData)} {k : Str} {ds : List PyData} {b : Nat} (h : ∀ e ∈ v, e.2.length ≤ b) : ∀ e ∈ extT v k ds, e.2.length ≤ b + ds.length := by
  induction v with
  | nil =>
    intro e he
    rcases List.mem_singleton.mp he with rfl
    simp
  | cons e v ih =>
    obtain ⟨m, x⟩ := e
    have hx := h (m, x) List.mem_cons_self
    rw [extT]
    by_cases c : m = k
    · rw [if_pos c]
      intro e he
      rcases List.mem_cons.mp he with rfl | he
      · dsimp only at hx ⊢
        rw [List.length_append]
        omega
      · have := h e (List.mem_cons_of_mem _ he)
        omega
    · rw [if_neg c]
      intro e he
      rcases List.mem_cons.mp he with rfl | he
      · dsimp only at hx ⊢
        omega
      · exact ih (fun e he => h e (List.mem_cons_of_mem _ he)) e he
theorem mem_ext {v : List (Str × List PyData)} {k n : Str} {ds : List PyData} : n ∈ (extT v k ds).map (·.1) ↔ n ∈ v.map (·.1) ∨ n = k := by
  induction v with
  | nil => simp [extT]
  | cons e v ih =>
    obtain ⟨m, x⟩ := e
    rw [extT]
    by_cases c : m = k
    · subst c
      rw [if_pos rfl]
      simp only [List.map_cons, List.mem_cons]
      constructor
      · intro h
        exact .inl h
      · rintro (h | rfl)
        · exact h
        · exact .inl rfl
    · rw [if_neg c]
      simp only [List.map_cons, List.mem_cons]
      rw [ih, or_assoc]
theorem valD_tbl (v : List (Str × List PyData)) (n : Str) : valD (tblD v) (.inr n) = (vget v n).map PyData.list := by
  induction v with
  | nil => rfl
  | cons e v ih =>
    rw [vget_cons]
    unfold valD tblD at ih ⊢
    rw [List.map_cons, List.find?_cons]
    by_cases c : e.1 = n
    · simp [c]
    · have ne : ¬ ((Sum.inr e.1 : Key) = Sum.inr n) := fun z => c (Sum.inr.inj z)
      rw [if_neg c, ← ih]
      simp only [decide_eq_false ne]
theorem vget_some {v : List (Str × List PyData)} {n : Str} : (vget v n).isSome = true ↔ n ∈ v.map (·.1) := by
  induction v with
  | nil => simp [vget]
  | cons e v ih =>
    rw [vget_cons, List.map_cons, List.mem_cons]
    by_cases c : e.1 = n
    · simp [c]
    · rw [if_neg c, ih]
      constructor
      · exact .inr
      · rintro (h | h)
        · exact (c h.symm).elim
        · exact h
/-- what a table of d is -/
def Tbl (d : List Ln) (es : List (Key × PyData)) : Prop := ∀ n, valD es (.inr n) = if hasHead d n = true then some (.list (natsL (lns d n))) else none
def secT (acc : List Sec) (v : List (Str × List PyData)) : List (Str × List PyData) := acc.foldl (fun v s => extT v s.1 (natsL (secR s))) v
theorem secT_get : ∀ (acc : List Sec) (v : List (Str × List PyData)) (n : Str), vget (secT acc v) n = if (∃ s ∈ acc, s.1 = n) ∨ (vget v n).isSome = true then some ((vget v n).getD [] ++ natsL (secLines acc n)) else none := by
  intro acc
  induction acc with
  | nil =>
    intro v n
    cases e : vget v n with
    | none => simp [secT, e]
    | some x => simp [secT, e, secLines, natsL]
  | cons s acc ih =>
    intro v n
    have st : secT (s :: acc) v = secT acc (extT v s.1 (natsL (secR s))) := rfl
    rw [st, ih, vget_ext]
    by_cases c : n = s.1
    · subst c
      have h : (∃ x ∈ s :: acc, x.1 = s.1) ∨ (vget v s.1).isSome = true := .inl ⟨s, List.mem_cons_self, rfl⟩
      rw [if_pos rfl, if_pos h]
      simp [secLines, natsL]
    · have h : ((∃ x ∈ s :: acc, x.1 = n) ∨ (vget v n).isSome = true) ↔ ((∃ x ∈ acc, x.1 = n) ∨ (vget v n).isSome = true) := by
        constructor
        · rintro (⟨x, hx, e⟩ | h)
          · rcases List.mem_cons.mp hx with rfl | hx
            · exact (c e.symm).elim
            · exact .inl ⟨x, hx, e⟩
          · exact .inr h
        · rintro (⟨x, hx, e⟩ | h)
          · exact .inl ⟨x, List.mem_cons_of_mem _ hx, e⟩
          · exact .inr h
      rw [if_neg c]
      have e2 : secLines (s :: acc) n = secLines acc n := by
        unfold secLines
        rw [List.flatMap_cons, if_neg (fun z => c z.symm)]
        rfl
      rw [e2]
      by_cases hh : (∃ x ∈ acc, x.1 = n) ∨ (vget v n).isSome = true
      · rw [if_pos hh, if_pos (h.mpr hh)]
      · rw [if_neg hh, if_neg fun z => hh (h.mp z)]
theorem secT_tbl {d : List Ln} (h : vd false d = true) : Tbl d (tblD (secT (secs d) [])) := fun n => by
  rw [valD_tbl, secT_get, secs_lines h]
  have e : ((∃ s ∈ secs d, s.1 = n) ∨ (vget [] n).isSome = true) ↔ hasHead d n = true := by
    rw [← secs_names]
    simp [vget]
  by_cases c : hasHead d n = true
  · rw [if_pos c, if_pos (e.mpr c)]
    rfl
  · rw [if_neg c, if_neg fun z => c (e.mp z)]
    rfl
/-- the law's table -/
def ltGo : List Ln → Nat → Str → List (Str × List PyData) → List (Str × List PyData)
  | [], _, _, v => v
  | .head n :: r, i, _, v => ltGo r (i + 1) n (if n ∈ v.map (·.1) then v else v ++ [(n, [])])
  | .prose _ :: r, i, c, v => ltGo r (i + 1) c v
  | .use _ _ :: r, i, c, v => ltGo r (i + 1) c (extT v c [.int (i : Nat)])
  | .code _ :: r, i, c, v => ltGo r (i + 1) c (extT v c [.int (i : Nat)])
theorem vget_snoc {v : List (Str × List PyData)} {k n : Str} (h : k ∉ v.map (·.1)) : vget (v ++ [(k, [])]) n = if n = k then some [] else vget v n := by
  induction v with
  | nil =>
    rw [List.nil_append, vget_cons]
    by_cases c : n = k
    · simp [c]
    · have : ¬ k = n := fun z => c z.symm
      simp [c, this]
  | cons e v ih =>
    rw [List.map_cons, List.mem_cons] at h
    rw [List.cons_append, vget_cons, vget_cons, ih fun z => h (.inr z)]
    by_cases c : e.1 = n
    · have : ¬ n = k := fun z => h (.inl (by rw [c, z]))
      simp [c, this]
    · simp [c]
theorem ltGo_get : ∀ (r : List Ln) (o : Bool) (i : Nat) (c : Str) (co : Option Str) (v : List (Str × List PyData)) (n : Str), vd o r = true → (o = true → co = some c ∧ c ∈ v.map (·.1)) →
    vget (ltGo r i c v) n = if hasHead r n = true ∨ (vget v n).isSome = true then some ((vget v n).getD [] ++ natsL ((lnl r co i n).map (·.1))) else none := by
  intro r
  induction r with
  | nil =>
    intro o i c co v n _ _
    cases e : vget v n with
    | none => simp [ltGo, e, hasHead]
    | some x => simp [ltGo, e, lnl, natsL]
  | cons l r ih =>
    intro o i c co v n hv ho
    have line : ∀ l', (∀ n, l' ≠ Ln.head n) → (o && vd true r) = true → lnl (l' :: r) co i n = (if co = some n then (i, l') :: lnl r co (i + 1) n else lnl r co (i + 1) n) →
        vget (ltGo r (i + 1) c (extT v c [.int (i : Nat)])) n = if hasHead (l' :: r) n = true ∨ (vget v n).isSome = true then some ((vget v n).getD [] ++ natsL ((lnl (l' :: r) co i n).map (·.1))) else none := by
      intro l' hl' hv' e
      have hv' := Bool.and_eq_true_iff.mp hv'
      obtain ⟨rfl, hc⟩ := ho hv'.1
      rw [ih true (i + 1) c (some c) _ n hv'.2 (fun _ => ⟨rfl, mem_ext.mpr (.inl hc)⟩), e, hasHead_cons, decide_eq_false (hl' n), Bool.false_or, vget_ext]
      by_cases c2 : n = c
      · subst c2
        have := vget_some.mpr hc
        rw [if_pos rfl, if_pos rfl, if_pos (Or.inr this)]
        simp [natsL]
      · have ne : ¬ some c = some n := fun z => c2 (Option.some.inj z).symm
        rw [if_neg c2, if_neg ne]
    cases l with
    | head m =>
      have key : ∀ v', (∀ x, (vget v' x).isSome = true ↔ (x = m ∨ (vget v x).isSome = true)) → (∀ x, (vget v' x).getD [] = (vget v x).getD []) → m ∈ v'.map (·.1) →
          vget (ltGo r (i + 1) m v') n = if hasHead (Ln.head m :: r) n = true ∨ (vget v n).isSome = true then some ((vget v n).getD [] ++ natsL ((lnl (Ln.head m :: r) co i n).map (·.1))) else none := by
        intro v' h1 h2 h3
        rw [ih true (i + 1) m (some m) v' n hv (fun _ => ⟨rfl, h3⟩), h2]
        have e : (hasHead r n = true ∨ (vget v' n).isSome = true) ↔ (hasHead (Ln.head m :: r) n = true ∨ (vget v n).isSome = true) := by
          rw [h1, hasHead_cons, Bool.or_eq_true, decide_eq_true_eq, Ln.head.injEq]
          constructor
          · rintro (h | h | h)
            · exact .inl (.inr h)
            · exact .inl (.inl h.symm)
            · exact .inr h
          · rintro ((h | h) | h)
            · exact .inr (.inl h.symm)
            · exact .inl h
            · exact .inr (.inr h)
        by_cases c : hasHead r n = true ∨ (vget v' n).isSome = true
        · rw [if_pos c, if_pos (e.mp c)]
          rfl
        · rw [if_neg c, if_neg fun z => c (e.mpr z)]
      rw [ltGo]
      by_cases c : m ∈ v.map (·.1)
      · rw [if_pos c]
        refine key v (fun x => ⟨.inr, ?_⟩) (fun _ => rfl) c
        rintro (rfl | h)
        · exact vget_some.mpr c
        · exact h
      · rw [if_neg c]
        have nm : vget v m = none := by
          cases e : vget v m with
          | none => rfl
          | some x => exact (c (vget_some.mp (by rw [e]; rfl))).elim
        refine key _ (fun x => ?_) (fun x => ?_) (by simp)
        · rw [vget_snoc c]
          by_cases c2 : x = m
          · simp [c2]
          · simp [c2]
        · rw [vget_snoc c]
          by_cases c2 : x = m
          · subst c2
            rw [if_pos rfl, nm]
            rfl
          · rw [if_neg c2]
    | prose t =>
      rw [ltGo, ih false (i + 1) c co v n hv (fun z => by cases z), hasHead_cons, decide_eq_false (by intro z; cases z), Bool.false_or]
      rfl
    | use a b => exact line _ (fun n z => by cases z) hv rfl
    | code t => exact line _ (fun n z => by cases z) hv rfl
theorem ltGo_tbl {d : List Ln} (h : vd false d = true) : Tbl d (tblD (ltGo d 0 "" [])) := fun n => by
  rw [valD_tbl, ltGo_get d false 0 "" none [] n h (fun z => by cases z)]
  have e : (hasHead d n = true ∨ (vget [] n).isSome = true) ↔ hasHead d n = true := by simp [vget]
  by_cases c : hasHead d n = true
  · rw [if_pos c, if_pos (e.mpr c)]
    rfl
  · rw [if_neg c, if_neg fun z => c (e.mp z)]
    rfl
end Wf
/-! What closure, lengths_of and tangle rest on; plain. -/
namespace Wf
open PySem L2
def hdN (d : List Ln) : List Str := d.filterMap fun l => match l with
  | .head n => some n
  | _ => none
theorem mem_hdN {d : List Ln} {n : Str} : n ∈ hdN d ↔ hasHead d n = true := by
  unfold hdN hasHead
  rw [List.mem_filterMap, List.any_eq_true]
  constructor
  · rintro ⟨l, hl, e⟩
    cases l with
    | head m =>
      cases e
      exact ⟨_, hl, decide_eq_true rfl⟩
    | use a b => cases e
    | code t => cases e
    | prose t => cases e
  · rintro ⟨l, hl, e⟩
    have := of_decide_eq_true e
    subst this
    exact ⟨_, hl, rfl⟩
theorem hdN_len (d : List Ln) : (hdN d).length ≤ d.length := List.length_filterMap_le _ _
theorem filt_le {α : Type} {p q : α → Bool} : ∀ l : List α, (∀ x ∈ l, q x = true → p x = true) → (l.filter q).length ≤ (l.filter p).length := by
  intro l
  induction l with
  | nil => intro _; exact Nat.le_refl _
  | cons x l ih =>
    intro h
    have ih := ih fun y hy => h y (List.mem_cons_of_mem _ hy)
    have hx := h x List.mem_cons_self
    by_cases c : q x = true
    · rw [List.filter_cons_of_pos c, List.filter_cons_of_pos (hx c)]
      simpa using ih
    · rw [List.filter_cons_of_neg c]
      by_cases c2 : p x = true
      · rw [List.filter_cons_of_pos c2, List.length_cons]
        omega
      · rw [List.filter_cons_of_neg c2]
        exact ih
theorem filt_lt {α : Type} {p q : α → Bool} : ∀ l : List α, (∀ x ∈ l, q x = true → p x = true) → (∃ x ∈ l, p x = true ∧ q x = false) → (l.filter q).length < (l.filter p).length := by
  intro l
  induction l with
  | nil => rintro _ ⟨x, hx, _⟩; cases hx
  | cons x l ih =>
    intro h h2
    have hx := h x List.mem_cons_self
    have ht : ∀ y ∈ l, q y = true → p y = true := fun y hy => h y (List.mem_cons_of_mem _ hy)
    by_cases c : q x = true
    · rw [List.filter_cons_of_pos c, List.filter_cons_of_pos (hx c)]
      have := ih ht (by
        obtain ⟨y, hy, h3, h4⟩ := h2
        rcases List.mem_cons.mp hy with rfl | hy
        · rw [c] at h4
          cases h4
        · exact ⟨y, hy, h3, h4⟩)
      simpa using this
    · rw [List.filter_cons_of_neg c]
      by_cases c2 : p x = true
      · rw [List.filter_cons_of_pos c2, List.length_cons]
        have := filt_le l ht
        omega
      · rw [List.filter_cons_of_neg c2]
        refine ih ht ?_
        obtain ⟨y, hy, h3, h4⟩ := h2
        rcases List.mem_cons.mp hy with rfl | hy
        · exact (c2 h3).elim
        · exact ⟨y, hy, h3, h4⟩
theorem lnl_len : ∀ (r : List Ln) (c : Option Str) (i : Nat) (n : Str), (lnl r c i n).length ≤ r.length := by
  intro r
  induction r with
  | nil => intros; exact Nat.le_refl _
  | cons l r ih =>
    intro c i n
    cases l with
    | head m =>
      have := ih (some m) (i + 1) n
      simp only [lnl, List.length_cons]
      omega
    | prose t =>
      have := ih c (i + 1) n
      simp only [lnl, List.length_cons]
      omega
    | use a b =>
      have := ih c (i + 1) n
      unfold lnl
      split
      · simp only [List.length_cons]
        omega
      · simp only [List.length_cons]
        omega
    | code t =>
      have := ih c (i + 1) n
      unfold lnl
      split
      · simp only [List.length_cons]
        omega
      · simp only [List.length_cons]
        omega
theorem lns_len (d : List Ln) (n : Str) : (lns d n).length ≤ d.length := by
  unfold lns
  rw [List.length_map]
  exact lnl_len _ _ _ _
theorem OkD.has {d : List Ln} {k : Nat} {n : Str} (h : OkD d k n) : hasHead d n = true := by
  cases k with
  | zero => exact h.elim
  | succ k => exact h.1
theorem OkD.pos {d : List Ln} {k : Nat} {n : Str} (h : OkD d k n) : 0 < k := by
  cases k with
  | zero => exact h.elim
  | succ k => omega
/-- x stands above t -/
def Ab (d : List Ln) (x t : Str) : Prop := ∀ k, OkD d k x → ∃ j, j < k ∧ OkD d j t
theorem Ab.trans {d : List Ln} {x y z : Str} (h : Ab d x y) (h' : Ab d y z) : Ab d x z := fun k hk => by
  obtain ⟨j, hj, h2⟩ := h k hk
  obtain ⟨i, hi, h3⟩ := h' j h2
  exact ⟨i, by omega, h3⟩
theorem Ab.irr {d : List Ln} {x : Str} (h : Ab d x x) : ∀ k, ¬ OkD d k x := by
  intro k
  induction k using Nat.strongRecOn with
  | ind k ih =>
    intro hk
    obtain ⟨j, hj, h2⟩ := h k hk
    exact ih j hj h2
theorem ab_use {d : List Ln} {n o : Str} {a i : Nat} (ha : a ∈ lns d n) (hd : d[a]? = some (.use i o)) : Ab d n o := fun k hk => by
  cases k with
  | zero => exact hk.elim
  | succ k =>
    rcases hk.at ha with ⟨t, e⟩ | ⟨i', o', e, h⟩
    · rw [hd] at e
      cases e
    · rw [hd] at e
      cases e
      exact ⟨k, by omega, h⟩
theorem ok_use {d : List Ln} {n o : Str} {a i k : Nat} (hk : OkD d (k + 1) n) (ha : a ∈ lns d n) (hd : d[a]? = some (.use i o)) : OkD d k o := by
  rcases hk.at ha with ⟨t, e⟩ | ⟨i', o', e, h⟩
  · rw [hd] at e
    cases e
  · rw [hd] at e
    cases e
    exact h
/-- how many names are not in a list -/
def unk (d : List Ln) (order : List Str) : Nat := ((hdN d).filter fun n => !decide (n ∈ order)).length
theorem unk_snoc {d : List Ln} {order : List Str} {n : Str} (h : hasHead d n = true) (hn : n ∉ order) : unk d (order ++ [n]) < unk d order := by
  unfold unk
  refine filt_lt _ (fun x _ hx => ?_) ⟨n, mem_hdN.mpr h, by simp [hn], by simp⟩
  simp only [Bool.not_eq_true', decide_eq_false_iff_not, List.mem_append, not_or] at hx ⊢
  exact hx.1
theorem unk_le (d : List Ln) (order : List Str) : unk d order ≤ d.length := Nat.le_trans (List.length_filter_le _ _) (hdN_len d)

/-! ### lengths -/
def useN : Option Ln → Option Str
  | some (.use _ o) => some o
  | _ => none
def usesOf (d : List Ln) (n : Str) : List Str := (lns d n).filterMap fun a => useN d[a]?
/-- what known says -/
structure Kn (d : List Ln) (es : List (Key × PyData)) : Prop where
  val : ∀ n v, valD es (.inr n) = some v → v = .int (lenN d 5 n) ∧ OkD d 5 n
  clo : ∀ n, (valD es (.inr n)).isSome = true → ∀ o ∈ usesOf d n, (valD es (.inr o)).isSome = true
theorem lenA5 {d : List Ln} {a i : Nat} {o : Str} (h : d[a]? = some (.use i o)) (hk : OkD d 5 o) : lenA d 6 a = lenN d 5 o := lenA_use h
/-- the length of a piece, by those of the pieces it uses -/
theorem lenN_uses {d : List Ln} {n : Str} (h : OkD d 5 n) : (lenN d 5 n : Int) = ((lns d n).length : Int) - ((usesOf d n).length : Int) + ((usesOf d n).map fun o => ((lenN d 5 o : Nat) : Int)).sum := by
  have key : ∀ l : List Nat, (∀ a ∈ l, AtOk d 4 a) → (((l.map fun b => lenA d 5 b).sum : Nat) : Int) = (l.length : Int) - ((l.filterMap fun a => useN d[a]?).length : Int) + ((l.filterMap fun a => useN d[a]?).map fun o => ((lenN d 5 o : Nat) : Int)).sum := by
    intro l
    induction l with
    | nil => intro _; rfl
    | cons a l ih =>
      intro hl
      have ih := ih fun b hb => hl b (List.mem_cons_of_mem _ hb)
      rw [List.map_cons, List.sum_cons, List.filterMap_cons, List.length_cons]
      rcases hl a List.mem_cons_self with ⟨t, e⟩ | ⟨i, o, e, h4⟩
      · rw [lenA_code e, e]
        show ((1 + (l.map fun b => lenA d 5 b).sum : Nat) : Int) = ((l.length + 1 : Nat) : Int) - ((l.filterMap fun a => useN d[a]?).length : Int) + ((l.filterMap fun a => useN d[a]?).map fun o => ((lenN d 5 o : Nat) : Int)).sum
        rw [Int.natCast_add, Int.natCast_add, ih]
        simp only [Int.natCast_one]
        omega
      · have e5 : lenA d 5 a = lenN d 5 o := by
          rw [lenA_use e]
          exact (lenN_more (k := 3) h4 (by omega : 3 ≤ 4)).trans (lenN_more (k := 3) h4 (by omega : 3 ≤ 5)).symm
        rw [e5, e]
        show ((lenN d 5 o + (l.map fun b => lenA d 5 b).sum : Nat) : Int) = ((l.length + 1 : Nat) : Int) - ((o :: l.filterMap fun a => useN d[a]?).length : Int) + ((o :: l.filterMap fun a => useN d[a]?).map fun o => ((lenN d 5 o : Nat) : Int)).sum
        rw [List.length_cons, List.map_cons, List.sum_cons, Int.natCast_add, Int.natCast_add, Int.natCast_add, ih]
        simp only [Int.natCast_one]
        omega
  unfold lenN usesOf
  exact key _ fun a ha => OkD.at h ha
def unkD (d : List Ln) (es : List (Key × PyData)) : Nat := ((hdN d).filter fun n => !(valD es (.inr n)).isSome).length
theorem valD_put (es : List (Key × PyData)) (k j : Key) (v : PyData) : valD (putD es k v) j = if j = k then some v else valD es j := by
  have any : ∀ es : List (Key × PyData), (es.any fun q => decide (q.1 = k)) = false → valD es k = none := by
    intro es
    induction es with
    | nil => intro _; rfl
    | cons q es ih =>
      intro h
      rw [List.any_cons, Bool.or_eq_false_iff] at h
      unfold valD at ih ⊢
      rw [List.find?_cons]
      have : ¬ q.1 = k := of_decide_eq_false h.1
      simp only [decide_eq_false this]
      exact ih h.2
  unfold putD
  by_cases c : (es.any fun q => decide (q.1 = k)) = true
  · rw [if_pos c]
    induction es with
    | nil => cases c
    | cons q es ih =>
      unfold valD at ih ⊢
      rw [List.map_cons, List.find?_cons, List.find?_cons]
      by_cases c1 : q.1 = k
      · subst c1
        rw [if_pos rfl]
        by_cases c2 : j = q.1
        · subst c2
          simp
        · have : ¬ q.1 = j := fun z => c2 z.symm
          simp only [decide_eq_false this, if_neg c2]
          by_cases c3 : (es.any fun x => decide (x.1 = q.1)) = true
          · rw [ih c3, if_neg c2]
          · have hid : es.map (fun x => if x.1 = q.1 then (x.1, v) else x) = es := by
              clear ih c
              induction es with
              | nil => rfl
              | cons x es ih2 =>
                rw [List.any_cons, Bool.or_eq_true, not_or] at c3
                have hx : ¬ x.1 = q.1 := fun z => c3.1 (decide_eq_true z)
                rw [List.map_cons, if_neg hx, ih2 c3.2]
            rw [hid]
      · rw [if_neg c1]
        have c' : (es.any fun x => decide (x.1 = k)) = true := by
          rw [List.any_cons, Bool.or_eq_true] at c
          rcases c with c | c
          · exact (c1 (of_decide_eq_true c)).elim
          · exact c
        by_cases c2 : q.1 = j
        · subst c2
          simp only [decide_true, if_neg c1]
        · simp only [decide_eq_false c2]
          exact ih c'
  · rw [if_neg c]
    have hn := any es (eq_false_of_ne_true c)
    have app : ∀ es : List (Key × PyData), valD (es ++ [(k, v)]) j = (valD es j).or (if j = k then some v else none) := by
      intro es
      induction es with
      | nil =>
        unfold valD
        by_cases c2 : j = k
        · subst c2
          simp
        · have : ¬ k = j := fun z => c2 z.symm
          simp [c2, this]
      | cons q es ih =>
        unfold valD at ih ⊢
        rw [List.cons_append, List.find?_cons, List.find?_cons]
        by_cases c2 : q.1 = j
        · simp [c2]
        · simp only [decide_eq_false c2]
          exact ih
    rw [app]
    by_cases c2 : j = k
    · subst c2
      rw [hn, if_pos rfl]
      rfl
    · rw [if_neg c2, if_neg c2]
      cases valD es j <;> rfl
theorem unkD_put {d : List Ln} {es : List (Key × PyData)} {n : Str} {v : PyData} (h : hasHead d n = true) (hn : (valD es (.inr n)).isSome = false) : unkD d (putD es (.inr n) v) < unkD d es := by
  unfold unkD
  refine filt_lt _ (fun x _ hx => ?_) ⟨n, mem_hdN.mpr h, by rw [hn]; rfl, by rw [valD_put, if_pos rfl]; rfl⟩
  rw [valD_put] at hx
  by_cases c : (Sum.inr x : Key) = Sum.inr n
  · rw [if_pos c] at hx
    cases hx
  · rw [if_neg c] at hx
    exact hx
theorem putD_len (es : List (Key × PyData)) (k : Key) (v : PyData) : (putD es k v).length ≤ es.length + 1 := by
  unfold putD
  split
  · rw [List.length_map]
    omega
  · simp
end Wf
/-! == and != of plain data, nested; what they say of documents, edits, texts. -/
namespace Wf
open PySem L2
def rEqP (K : PySem.W.Frag) : R2 := fun x y H Q => ∃ d e, Dp K H x d ∧ Dp K H y e ∧ d.plain = true ∧ e.plain = true ∧ min d.depth e.depth ≤ 64 ∧ Q (.bl (PyData.eqv d e)) H
def rNeP (K : PySem.W.Frag) : R2 := fun x y H Q => ∃ d e, Dp K H x d ∧ Dp K H y e ∧ d.plain = true ∧ e.plain = true ∧ min d.depth e.depth ≤ 64 ∧ Q (.bl (!PyData.eqv d e)) H
section
variable {X : Cx}
theorem op_eqP (hu : X.A.units + 64 < cLine) : OpR X (compareOp .Eq) (rEqP X.K) := fun pins s σ H x y v u Q I rx ry h => by
  obtain ⟨d, e, hd, he, pd, pe, hm, q⟩ := h
  obtain ⟨as, r1⟩ := Dp.reads I d x v hd rx
  obtain ⟨bs, r2⟩ := Dp.reads I e y u he ry
  exact SeqAt.eq_plain r1 r2 pd pe (by omega) ⟨.bl _, H, I, rfl, q⟩
theorem op_neP (hu : X.A.units + 64 < cLine) : OpR X (compareOp .NotEq) (rNeP X.K) := fun pins s σ H x y v u Q I rx ry h => by
  obtain ⟨d, e, hd, he, pd, pe, hm, q⟩ := h
  obtain ⟨as, r1⟩ := Dp.reads I d x v hd rx
  obtain ⟨bs, r2⟩ := Dp.reads I e y u he ry
  exact SeqAt.ne_plain r1 r2 pd pe (by omega) ⟨.bl _, H, I, rfl, q⟩
end
/-! ### data without truth values and dicts -/
mutual
def nb : PyData → Bool
  | .none => true
  | .int _ => true
  | .str _ => true
  | .list xs => nbA xs
  | .tuple xs => nbA xs
  | .bool _ => false
  | .dict _ => false
def nbA : List PyData → Bool
  | [] => true
  | x :: xs => nb x && nbA xs
end
mutual
theorem nb_plain : ∀ d : PyData, nb d = true → d.plain = true
  | .none, _ => by simp [PyData.plain]
  | .int _, _ => by simp [PyData.plain]
  | .str _, _ => by simp [PyData.plain]
  | .list xs, h => by
    simp only [PyData.plain]
    exact nbA_plain xs (by simpa [nb] using h)
  | .tuple xs, h => by
    simp only [PyData.plain]
    exact nbA_plain xs (by simpa [nb] using h)
  | .bool _, h => by simp [nb] at h
  | .dict _, h => by simp [nb] at h
theorem nbA_plain : ∀ xs : List PyData, nbA xs = true → PyData.plainAll xs = true
  | [], _ => by simp [PyData.plainAll]
  | x :: xs, h => by
    have h' : nb x = true ∧ nbA xs = true := by simpa [nbA] using h
    simp [PyData.plainAll, nb_plain x h'.1, nbA_plain xs h'.2]
end
mutual
theorem nb_eqv : ∀ a b : PyData, nb a = true → nb b = true → (PyData.eqv a b = true ↔ a = b)
  | .none, b, _, hb => by cases b <;> simp [PyData.eqv]
  | .int i, b, _, hb => by cases b <;> simp_all [PyData.eqv, nb]
  | .str x, b, _, hb => by cases b <;> simp [PyData.eqv]
  | .list xs, b, ha, hb => by
    cases b with
    | list ys =>
      rw [PyData.eqv, nbA_eqv xs ys (by simpa [nb] using ha) (by simpa [nb] using hb)]
      simp
    | _ => simp [PyData.eqv]
  | .tuple xs, b, ha, hb => by
    cases b with
    | tuple ys =>
      rw [PyData.eqv, nbA_eqv xs ys (by simpa [nb] using ha) (by simpa [nb] using hb)]
      simp
    | _ => simp [PyData.eqv]
  | .bool _, _, h, _ => by simp [nb] at h
  | .dict _, _, h, _ => by simp [nb] at h
theorem nbA_eqv : ∀ xs ys : List PyData, nbA xs = true → nbA ys = true → (PyData.eqvAll xs ys = true ↔ xs = ys)
  | [], [], _, _ => by simp [PyData.eqvAll]
  | [], y :: ys, _, _ => by simp [PyData.eqvAll]
  | x :: xs, [], _, _ => by simp [PyData.eqvAll]
  | x :: xs, y :: ys, h, h2 => by
    have h' : nb x = true ∧ nbA xs = true := by simpa [nbA] using h
    have h2' : nb y = true ∧ nbA ys = true := by simpa [nbA] using h2
    rw [PyData.eqvAll, Bool.and_eq_true, nb_eqv x y h'.1 h2'.1, nbA_eqv xs ys h'.2 h2'.2]
    simp
end
theorem nbA_map {α : Type} (f : α → PyData) (h : ∀ x, nb (f x) = true) : ∀ l : List α, nbA (l.map f) = true
  | [] => rfl
  | x :: l => by simp [nbA, h x, nbA_map f h l]
theorem nb_str (x : Str) : nb (.str x) = true := rfl
theorem nb_ln (l : Ln) : nb (lnD l) = true := by cases l <;> simp [lnD, nb, nbA]
theorem nb_doc (d : List Ln) : nb (docD d) = true := by
  show nbA (d.map lnD) = true
  exact nbA_map _ nb_ln d
theorem nb_strs (ts : List Str) : nb (strsD ts) = true := by
  show nbA (ts.map PyData.str) = true
  exact nbA_map _ nb_str ts
theorem nb_ch (c : Ch) : nb (chD c) = true := by cases c <;> simp [chD, nb, nbA]
theorem nb_ed (e : Ed) : nb (edD e) = true := by simp [edD, nb, nbA, nb_strs, nb_ch]
theorem lnD_inj {a b : Ln} (h : lnD a = lnD b) : a = b := by
  have k : ∀ x y : Str, decide (x = y) = false → x ≠ y := fun x y h => of_decide_eq_false h
  cases a <;> cases b <;> simp only [lnD, PyData.tuple.injEq, List.cons.injEq, PyData.str.injEq, PyData.int.injEq, and_true] at h
  case head.head => rw [h.2]
  case code.code => rw [h.2]
  case prose.prose => rw [h.2]
  case use.use =>
    have := Int.ofNat.inj h.2.1
    rw [this, h.2.2]
  all_goals exact (k _ _ (by first | rfl | decide +kernel) h.1).elim
theorem map_inj {α β : Type} {f : α → β} (hf : ∀ a b, f a = f b → a = b) : ∀ {l m : List α}, l.map f = m.map f → l = m
  | [], [], _ => rfl
  | [], _ :: _, h => by cases h
  | _ :: _, [], h => by cases h
  | a :: l, b :: m, h => by
    rw [List.map_cons, List.map_cons] at h
    injection h with h1 h2
    rw [hf _ _ h1, map_inj hf h2]
theorem docD_inj {a b : List Ln} (h : docD a = docD b) : a = b := by
  injection h with h
  exact map_inj (fun _ _ => lnD_inj) h
theorem strs_inj {a b : List Str} (h : a.map PyData.str = b.map PyData.str) : a = b := map_inj (fun _ _ h => by injection h) h
theorem chD_inj {a b : Ch} (h : chD a = chD b) : a = b := by
  have k : ∀ x y : Str, decide (x = y) = false → x ≠ y := fun x y h => of_decide_eq_false h
  cases a <;> cases b <;> simp only [chD, PyData.tuple.injEq, List.cons.injEq, PyData.str.injEq, and_true] at h
  case keep.keep => rfl
  case drop.drop => rfl
  case text.text => rw [h.2]
  case keep.drop => exact (k _ _ (by decide +kernel) h).elim
  case drop.keep => exact (k _ _ (by decide +kernel) h).elim
  all_goals exact absurd h.2 (by simp)
theorem edD_inj {a b : Ed} (h : edD a = edD b) : a = b := by
  obtain ⟨a1, a2, a3⟩ := a
  obtain ⟨b1, b2, b3⟩ := b
  simp only [edD, strsD, PyData.tuple.injEq, List.cons.injEq, and_true] at h
  obtain ⟨h1, h2, h3⟩ := h
  rw [strs_inj h1, chD_inj h2, strs_inj h3]
theorem eqv_of {a b : PyData} (ha : nb a = true) (hb : nb b = true) {p : Prop} [Decidable p] (h : a = b ↔ p) : PyData.eqv a b = decide p := by
  by_cases c : p
  · rw [decide_eq_true c]
    exact (nb_eqv a b ha hb).mpr (h.mpr c)
  · rw [decide_eq_false c]
    cases e : PyData.eqv a b with
    | false => rfl
    | true => exact (c (h.mp ((nb_eqv a b ha hb).mp e))).elim
theorem eqv_ed (a b : Ed) : PyData.eqv (edD a) (edD b) = decide (a = b) := eqv_of (nb_ed a) (nb_ed b) ⟨edD_inj, fun h => by rw [h]⟩
theorem eqv_ch (a b : Ch) : PyData.eqv (chD a) (chD b) = decide (a = b) := eqv_of (nb_ch a) (nb_ch b) ⟨chD_inj, fun h => by rw [h]⟩
theorem eqv_doc (a b : List Ln) : PyData.eqv (docD a) (docD b) = decide (a = b) := eqv_of (nb_doc a) (nb_doc b) ⟨docD_inj, fun h => by rw [h]⟩
theorem eqv_strs (a b : List Str) : PyData.eqv (.list (a.map .str)) (.list (b.map .str)) = decide (a = b) := eqv_of (nb_strs a) (nb_strs b) ⟨fun h => by injection h with h; exact strs_inj h, fun h => by rw [h]⟩
/-! ### depths -/
theorem depthA_le {xs : List PyData} {n : Nat} (h : ∀ x ∈ xs, x.depth ≤ n) : PyData.depthAll xs ≤ n := by
  induction xs with
  | nil => simp [PyData.depthAll]
  | cons x xs ih =>
    have h1 := h x List.mem_cons_self
    have h2 := ih fun y hy => h y (List.mem_cons_of_mem _ hy)
    simp only [PyData.depthAll]
    omega
theorem depth_tup {xs : List PyData} {n : Nat} (h : ∀ x ∈ xs, x.depth ≤ n) : (PyData.tuple xs).depth ≤ n + 1 := by
  simp only [PyData.depth]
  have := depthA_le h
  omega
theorem depth_list {xs : List PyData} {n : Nat} (h : ∀ x ∈ xs, x.depth ≤ n) : (PyData.list xs).depth ≤ n + 1 := by
  simp only [PyData.depth]
  have := depthA_le h
  omega
theorem depth_str (x : Str) : (PyData.str x).depth ≤ 0 := by simp [PyData.depth]
theorem depth_strs (ts : List Str) : (strsD ts).depth ≤ 1 := depth_tup fun x hx => by
  obtain ⟨t, _, rfl⟩ := List.mem_map.mp hx
  exact depth_str t
theorem depth_strsL (ts : List Str) : (PyData.list (ts.map .str)).depth ≤ 1 := depth_list fun x hx => by
  obtain ⟨t, _, rfl⟩ := List.mem_map.mp hx
  exact depth_str t
theorem depth_ln (l : Ln) : (lnD l).depth ≤ 1 := by cases l <;> simp [lnD, PyData.depth, PyData.depthAll]
theorem depth_doc (d : List Ln) : (docD d).depth ≤ 2 := depth_tup fun x hx => by
  obtain ⟨t, _, rfl⟩ := List.mem_map.mp hx
  exact depth_ln t
theorem depth_ch (c : Ch) : (chD c).depth ≤ 1 := by cases c <;> simp [chD, PyData.depth, PyData.depthAll]
theorem depth_ed (e : Ed) : (edD e).depth ≤ 2 := depth_tup fun x hx => by
  simp only [List.mem_cons, List.not_mem_nil, or_false] at hx
  rcases hx with rfl | rfl | rfl
  · exact depth_strs _
  · exact depth_ch _
  · exact depth_strs _
section
variable {K : PySem.W.Frag} {P : Addr} {Γ : Env} {ta tb te : TE} {a b : PyData}
theorem rop_eqP (ha : nb a = true) (hb : nb b = true) (hd : b.depth ≤ 64) : ROp K P (rEqP K) a b (.bool (PyData.eqv a b)) := fun I H x y k hx hy Q q =>
  ⟨a, b, (Dx.mono k.sub _ _ hx).dp, (Dx.mono k.sub _ _ hy).dp, nb_plain a ha, nb_plain b hb, Nat.le_trans (Nat.min_le_right _ _) hd, q _ I H (Wd.refl k) (.bl _)⟩
theorem rop_neP (ha : nb a = true) (hb : nb b = true) (hd : b.depth ≤ 64) : ROp K P (rNeP K) a b (.bool (!PyData.eqv a b)) := fun I H x y k hx hy Q q =>
  ⟨a, b, (Dx.mono k.sub _ _ hx).dp, (Dx.mono k.sub _ _ hy).dp, nb_plain a ha, nb_plain b hb, Nat.le_trans (Nat.min_le_right _ _) hd, q _ I H (Wd.refl k) (.bl _)⟩
theorem ev_edNe {e f : Ed} (ha : EvD K P ta Γ (edD e)) (hb : EvD K P tb Γ (edD f)) : EvD K P (tOp (rNeP K) ta tb) Γ (.bool (!decide (e = f))) := by
  rw [← eqv_ed]
  exact ev_op ha hb (rop_neP (nb_ed e) (nb_ed f) (by have := depth_ed f; omega))
theorem ev_chEq {e f : Ch} (ha : EvD K P ta Γ (chD e)) (hb : EvD K P tb Γ (chD f)) : EvD K P (tOp (rEqP K) ta tb) Γ (.bool (decide (e = f))) := by
  rw [← eqv_ch]
  exact ev_op ha hb (rop_eqP (nb_ch e) (nb_ch f) (by have := depth_ch f; omega))
theorem ev_docNe {e f : List Ln} (ha : EvD K P ta Γ (docD e)) (hb : EvD K P tb Γ (docD f)) : EvD K P (tOp (rNeP K) ta tb) Γ (.bool (!decide (e = f))) := by
  rw [← eqv_doc]
  exact ev_op ha hb (rop_neP (nb_doc e) (nb_doc f) (by have := depth_doc f; omega))
theorem ev_strsNe {e f : List Str} (ha : EvD K P ta Γ (.list (e.map .str))) (hb : EvD K P tb Γ (.list (f.map .str))) : EvD K P (tOp (rNeP K) ta tb) Γ (.bool (!decide (e = f))) := by
  rw [← eqv_strs]
  exact ev_op ha hb (rop_neP (nb_strs e) (nb_strs f) (by have := depth_strsL f; omega))
end
end Wf
/-! Texts: cuts, stripped texts, names, references. -/
namespace Wf
open PySem L2
theorem sp_l : (" " : Str).cps = #[32] := by decide +kernel
theorem drop_while {α : Type} (p : α → Bool) : ∀ l : List α, l.drop (l.takeWhile p).length = l.dropWhile p
  | [] => rfl
  | a :: l => by
    by_cases h : p a = true
    · rw [List.takeWhile_cons, if_pos h, List.dropWhile_cons, if_pos h, List.length_cons, List.drop_succ_cons, drop_while p l]
    · rw [List.takeWhile_cons, if_neg h, List.dropWhile_cons, if_neg h]
      rfl
theorem lstrip_l (z : Str) : (Txt.lstripChars z " ").cps.toList = z.cps.toList.dropWhile (· == 32) := by
  have e : Txt.lstripChars z " " = W.stripped (" " : Str).cps.contains true false z := W.stripBy_eq _ _ _ _
  have hp : (" " : Str).cps.contains = fun c => c == 32 := by
    funext c
    rw [sp_l]
    by_cases h : c = 32 <;> simp [h]
  rw [e, hp]
  unfold W.stripped
  show (Builtin.Str.strSub z _ _).cps.toList = _
  unfold Builtin.Str.strSub
  simp only [if_true, Bool.false_eq_true, if_false, Array.toList_extract, Str.length]
  rw [← drop_while]
  simp only [List.extract_eq_drop_take]
  exact List.take_of_length_le (by rw [List.length_drop]; simp)
theorem sIx_nat' (n d k : Nat) : HT.sIx n d (some (k : Int)) = min k n := HT.sIx_nat n d k
theorem sIx_m1 (n d : Nat) : HT.sIx n d (some (-1)) = n - 1 := by
  show (if (-1 : Int) < 0 then ((-1 : Int) + (n : Int)).toNat else min (-1 : Int).toNat n) = _
  rw [if_pos (by decide)]
  omega
theorem len_l (z : Str) : z.length = z.cps.toList.length := by simp [Str.length]
theorem cut_tk (z : Str) (i : Nat) : cutS z none (some (i : Int)) = tkT z i := by
  apply str_ext
  unfold cutS tkT
  rw [sIx_nat', HT.sIx_none]
  show List.take _ (List.drop 0 _) = _
  rw [List.drop_zero, Nat.sub_zero, len_l]
  show _ = z.cps.toList.take i
  by_cases h : i ≤ z.cps.toList.length
  · rw [Nat.min_eq_left h]
  · rw [Nat.min_eq_right (by omega), List.take_of_length_le (Nat.le_refl _), List.take_of_length_le (by omega)]
theorem cut_dr (z : Str) (i : Nat) : cutS z (some (i : Int)) none = drT z i := by
  apply str_ext
  unfold cutS drT
  rw [sIx_nat', HT.sIx_none, len_l]
  show List.take _ (List.drop _ _) = z.cps.toList.drop i
  by_cases h : i ≤ z.cps.toList.length
  · rw [Nat.min_eq_left h]
    exact List.take_of_length_le (by rw [List.length_drop]; omega)
  · rw [Nat.min_eq_right (by omega), List.drop_of_length_le (Nat.le_refl _), List.drop_of_length_le (by omega)]
    simp
theorem cut_last (z : Str) : (cutS z (some (-1)) none).cps.toList = z.cps.toList.drop (z.cps.toList.length - 1) := by
  unfold cutS
  rw [sIx_m1, HT.sIx_none, len_l]
  show List.take _ (List.drop _ _) = _
  exact List.take_of_length_le (by rw [List.length_drop]; omega)
theorem cut_mid (z : Str) : (cutS z (some 1) (some (-1))).cps.toList = (z.cps.toList.drop 1).take (z.cps.toList.length - 2) := by
  unfold cutS
  rw [sIx_m1, show (1 : Int) = ((1 : Nat) : Int) from rfl, sIx_nat', len_l]
  show List.take _ (List.drop _ _) = _
  by_cases h : 1 ≤ z.cps.toList.length
  · rw [Nat.min_eq_left h]
    congr 1
  · have : z.cps.toList = [] := List.eq_nil_of_length_eq_zero (by omega)
    rw [this]
    rfl
theorem lt_l : ("<" : Str).cps.toList = [60] := by decide +kernel
theorem gt_l : (">" : Str).cps.toList = [62] := by decide +kernel
theorem str_eq_l (a b : Str) : decide (a = b) = (a.cps.toList == b.cps.toList) := by
  by_cases h : a = b
  · subst h
    simp
  · have : ¬ a.cps.toList = b.cps.toList := fun z => h (str_ext z)
    rw [decide_eq_false h]
    exact (beq_eq_false_iff_ne.mpr this).symm
theorem lits_l : ("abcdefghijklmnopqrstuvwxyzABCDEFGHIJKLMNOPQRSTUVWXYZ0123456789-_." : Str).cps.toList = [97, 98, 99, 100, 101, 102, 103, 104, 105, 106, 107, 108, 109, 110, 111, 112, 113, 114, 115, 116, 117, 118, 119, 120, 121, 122, 65, 66, 67, 68, 69, 70, 71, 72, 73, 74, 75, 76, 77, 78, 79, 80, 81, 82, 83, 84, 85, 86, 87, 88, 89, 90, 48, 49, 50, 51, 52, 53, 54, 55, 56, 57, 45, 95, 46] := by decide +kernel
theorem signs_l : ("-_." : Str).cps.toList = [45, 95, 46] := by decide +kernel
theorem nameC_lits (c : Nat) : decide (c ∈ ("abcdefghijklmnopqrstuvwxyzABCDEFGHIJKLMNOPQRSTUVWXYZ0123456789-_." : Str).cps.toList) = nameC c := by
  rw [lits_l]
  by_cases h : c < 128
  · have : ∀ c, c < 128 → decide (c ∈ [97, 98, 99, 100, 101, 102, 103, 104, 105, 106, 107, 108, 109, 110, 111, 112, 113, 114, 115, 116, 117, 118, 119, 120, 121, 122, 65, 66, 67, 68, 69, 70, 71, 72, 73, 74, 75, 76, 77, 78, 79, 80, 81, 82, 83, 84, 85, 86, 87, 88, 89, 90, 48, 49, 50, 51, 52, 53, 54, 55, 56, 57, 45, 95, 46]) = nameC c := by decide +kernel
    exact this c h
  · rw [decide_eq_false]
    · unfold nameC
      simp only [Bool.or_eq_true, Bool.and_eq_true, decide_eq_true_eq, beq_iff_eq, Bool.eq_false_iff, ne_eq, eq_comm (a := false)]
      omega
    · intro hm
      simp only [List.mem_cons, List.not_mem_nil, or_false] at hm
      omega
theorem nameC_sign (c : Nat) (h : c < 128) : (Unicode.isAlnum c || decide (c ∈ ("-_." : Str).cps.toList)) = nameC c := by
  rw [signs_l]
  have : ∀ c, c < 128 → (Unicode.isAlnum c || decide (c ∈ [45, 95, 46])) = nameC c := by decide +kernel
  exact this c h
/-- a reference, by its stripped text -/
theorem isRef_l (z : Str) : isRef z = ((Txt.lstripChars z " ").cps.toList.take 1 == [60] && ((Txt.lstripChars z " ").cps.toList.drop ((Txt.lstripChars z " ").cps.toList.length - 1) == [62] && nameL (((Txt.lstripChars z " ").cps.toList.drop 1).take ((Txt.lstripChars z " ").cps.toList.length - 2)))) := by
  unfold isRef refL
  rw [lstrip_l, Bool.and_assoc]
/-- a text of an edit -/
def EtOk (t : Str) : Prop := t.length ≤ 60 ∧ ∀ c ∈ t.cps.toList, c < 128 ∧ c ≠ 10
section
variable {K : PySem.W.Frag} {P aK : Addr} {Γ : Env} {ta tb tc te : TE}
theorem ev_tk {z : Str} {i : Nat} (h : EvD K P te Γ (.str z)) (h2 : EvD K P tb Γ (.int i)) (hz : z.length ≤ 100000) : EvD K P (tSl rSlS te tNoPart (tPart tb)) Γ (.str (tkT z i)) := by
  rw [← cut_tk]
  exact ev_slS h eo_none (eo_some h2) hz fun H Q q => ⟨z, rfl, by rw [sizeLine_eq]; omega, q⟩
theorem ev_dr {z : Str} {i : Nat} (h : EvD K P te Γ (.str z)) (h2 : EvD K P tb Γ (.int i)) (hz : z.length ≤ 100000) : EvD K P (tSl rSlS te (tPart tb) tNoPart) Γ (.str (drT z i)) := by
  rw [← cut_dr]
  exact ev_slS h (eo_some h2) eo_none hz fun H Q q => ⟨z, rfl, by rw [sizeLine_eq]; omega, q⟩
theorem ev_cut {z : Str} {tl th : TO} {lo hi : Option Int} (h : EvD K P te Γ (.str z)) (h1 : EvO K P tl Γ lo) (h2 : EvO K P th Γ hi) (hz : z.length ≤ 100000) : EvD K P (tSl rSlS te tl th) Γ (.str (cutS z lo hi)) := ev_slS h h1 h2 hz fun H Q q => ⟨z, rfl, by rw [sizeLine_eq]; omega, q⟩
end
theorem tkT_len (z : Str) (i : Nat) : (tkT z i).length ≤ z.length := by
  rw [len_l, len_l]
  show (z.cps.toList.take i).length ≤ _
  rw [List.length_take]
  omega
theorem drT_len (z : Str) (i : Nat) : (drT z i).length ≤ z.length := by
  rw [len_l, len_l]
  show (z.cps.toList.drop i).length ≤ _
  rw [List.length_drop]
  omega
theorem EtOk.dr {z : Str} (h : EtOk z) (i : Nat) : EtOk (drT z i) := ⟨Nat.le_trans (drT_len z i) h.1, fun c hc => h.2 c (List.mem_of_mem_drop (show c ∈ z.cps.toList.drop i from hc))⟩
theorem EtOk.rest {z : Str} (h : EtOk z) (i : Nat) : EtOk (rest z i) := by
  unfold Wf.rest
  split
  · exact ⟨by decide, fun c hc => by cases hc⟩
  · exact h.dr i
theorem EtOk.lstrip {z : Str} (h : EtOk z) : EtOk (Txt.lstripChars z " ") := by
  refine ⟨?_, fun c hc => ?_⟩
  · have h1 := h.1
    rw [len_l] at h1 ⊢
    rw [lstrip_l, ← drop_while, List.length_drop]
    omega
  · rw [lstrip_l] at hc
    exact h.2 c (List.dropWhile_sublist _ |>.subset hc)
theorem EtOk.cut {z : Str} (h : EtOk z) (lo hi : Option Int) : EtOk (cutS z lo hi) := by
  refine ⟨Nat.le_trans (cutS_length z lo hi) h.1, fun c hc => h.2 c ?_⟩
  unfold cutS at hc
  exact List.mem_of_mem_drop (List.mem_of_mem_take (show c ∈ List.take _ (List.drop _ z.cps.toList) from hc))
end Wf
/-! What a walk without a find says; plain. -/
namespace Wf
open PySem L2
def Done (d : List Ln) (n : Str) : Prop := ∃ k, OkD d k n
/-- all heads are of five letters -/
def H5 (d : List Ln) : Prop := ∀ n, hasHead d n = true → ∃ k, k < 5 ∧ n = ⟨#[97 + k]⟩
def five : List Str := [⟨#[97]⟩, ⟨#[98]⟩, ⟨#[99]⟩, ⟨#[100]⟩, ⟨#[101]⟩]
theorem H5.mem {d : List Ln} (h : H5 d) {n : Str} (hn : hasHead d n = true) : n ∈ five := by
  obtain ⟨k, hk, rfl⟩ := h n hn
  have : k = 0 ∨ k = 1 ∨ k = 2 ∨ k = 3 ∨ k = 4 := by omega
  rcases this with rfl | rfl | rfl | rfl | rfl <;> simp [five]
theorem nodup_le {α : Type} [DecidableEq α] : ∀ (l m : List α), l.Nodup → (∀ x ∈ l, x ∈ m) → l.length ≤ m.length := by
  intro l
  induction l with
  | nil => intros; exact Nat.zero_le _
  | cons a l ih =>
    intro m nd hs
    have ha := hs a List.mem_cons_self
    have nd' := List.nodup_cons.mp nd
    have := ih (m.erase a) nd'.2 fun x hx => by
      refine (List.mem_erase_of_ne ?_).mpr (hs x (List.mem_cons_of_mem _ hx))
      intro e
      exact nd'.1 (e ▸ hx)
    rw [List.length_erase_of_mem ha] at this
    have : 0 < m.length := List.length_pos_of_mem ha
    rw [List.length_cons]
    omega
theorem path5 {d : List Ln} (h : H5 d) {path : List Str} (nd : path.Nodup) (hp : ∀ p ∈ path, hasHead d p = true) : path.length ≤ 5 := nodup_le path five nd fun x hx => h.mem (hp x hx)
theorem pcs_lns {d : List Ln} {n : Str} {l : Ln} (h : l ∈ pcs d n) : ∃ a ∈ lns d n, d[a]? = some l := by
  unfold pcs at h
  obtain ⟨p, hp, rfl⟩ := List.mem_map.mp h
  exact ⟨p.1, List.mem_map.mpr ⟨p, hp, rfl⟩, by simpa using (lnl_get _ _ _ _ _ hp).2.1⟩
theorem done_of {d : List Ln} {n : Str} (h : hasHead d n = true) (hu : ∀ a ∈ lns d n, ∀ i o, d[a]? = some (.use i o) → Done d o) : Done d n := by
  have key : ∀ l : List Ln, (∀ x ∈ l, ∀ i o, x = .use i o → Done d o) → ∃ k, ∀ x ∈ l, ∀ i o, x = .use i o → OkD d k o := by
    intro l
    induction l with
    | nil => intro _; exact ⟨0, fun x hx => by cases hx⟩
    | cons x l ih =>
      intro hl
      obtain ⟨k, hk⟩ := ih fun y hy => hl y (List.mem_cons_of_mem _ hy)
      by_cases c : ∃ i o, x = .use i o
      · obtain ⟨i, o, rfl⟩ := c
        obtain ⟨m, hm⟩ := hl _ List.mem_cons_self i o rfl
        refine ⟨k + m, fun y hy i' o' e => ?_⟩
        rcases List.mem_cons.mp hy with rfl | hy
        · cases e
          exact hm.le (by omega)
        · exact (hk y hy i' o' e).le (by omega)
      · refine ⟨k, fun y hy i' o' e => ?_⟩
        rcases List.mem_cons.mp hy with rfl | hy
        · exact (c ⟨i', o', e⟩).elim
        · exact hk y hy i' o' e
  obtain ⟨k, hk⟩ := key (pcs d n) fun l hl i o e => by
    obtain ⟨a, ha, q⟩ := pcs_lns hl
    rw [e] at q
    exact hu a ha i o q
  exact ⟨k + 1, h, hk⟩
/-- a name of the k-th level -/
def Lev (d : List Ln) (k : Nat) (n : Str) : Prop := OkD d (k + 1) n ∧ ¬ OkD d k n
theorem Lev.down {d : List Ln} {k : Nat} {n : Str} (h : Lev d (k + 1) n) : ∃ o, Lev d k o := by
  obtain ⟨h1, h2⟩ := h
  apply Classical.byContradiction
  intro hc
  refine h2 ⟨h1.1, fun l hl i o e => ?_⟩
  have ho := h1.2 l hl i o e
  apply Classical.byContradiction
  intro hno
  exact hc ⟨o, ho, hno⟩
theorem Lev.chain {d : List Ln} : ∀ (k : Nat) (n : Str), Lev d k n → ∃ l : List Str, l.length = k + 1 ∧ l.Nodup ∧ (∀ x ∈ l, hasHead d x = true) ∧ ∀ x ∈ l, ∃ j, j ≤ k ∧ Lev d j x := by
  intro k
  induction k with
  | zero =>
    intro n h
    exact ⟨[n], rfl, by simp, (fun x hx => by rcases List.mem_singleton.mp hx with rfl; exact h.1.has), fun x hx => by rcases List.mem_singleton.mp hx with rfl; exact ⟨0, Nat.le_refl _, h⟩⟩
  | succ k ih =>
    intro n h
    obtain ⟨o, ho⟩ := h.down
    obtain ⟨l, h1, h2, h3, h4⟩ := ih o ho
    refine ⟨n :: l, by rw [List.length_cons, h1], List.nodup_cons.mpr ⟨fun hn => ?_, h2⟩, fun x hx => ?_, fun x hx => ?_⟩
    · obtain ⟨j, hj, q⟩ := h4 n hn
      exact h.2 (q.1.le (by omega))
    · rcases List.mem_cons.mp hx with rfl | hx
      · exact h.1.has
      · exact h3 x hx
    · rcases List.mem_cons.mp hx with rfl | hx
      · exact ⟨k + 1, Nat.le_refl _, h⟩
      · obtain ⟨j, hj, q⟩ := h4 x hx
        exact ⟨j, by omega, q⟩
theorem done5 {d : List Ln} (h5 : H5 d) {n : Str} (h : Done d n) : OkD d 5 n := by
  apply Classical.byContradiction
  intro hc
  obtain ⟨k, hk⟩ := h
  have : ∃ j, 5 ≤ j ∧ Lev d j n := by
    induction k with
    | zero => exact hk.elim
    | succ k ih =>
      by_cases q : OkD d k n
      · exact ih q
      · refine ⟨k, ?_, hk, q⟩
        apply Classical.byContradiction
        intro hlt
        exact hc (hk.le (by omega))
  obtain ⟨j, hj, hl⟩ := this
  obtain ⟨l, h1, h2, h3, _⟩ := hl.chain
  have := path5 h5 h2 h3
  omega
theorem first_at {α : Type} [DecidableEq α] : ∀ (l : List α) (x : α), x ∈ l → ∃ j : Nat, l[j]? = some x ∧ ∀ m : Nat, m < j → ∀ z, l[m]? = some z → z ≠ x
  | [], _, h => by cases h
  | a :: l, x, h => by
    by_cases c : a = x
    · exact ⟨0, by rw [c]; rfl, fun m hm => by omega⟩
    · have hx : x ∈ l := by
        rcases List.mem_cons.mp h with rfl | h
        · exact (c rfl).elim
        · exact h
      obtain ⟨j, h1, h2⟩ := first_at l x hx
      refine ⟨j + 1, h1, fun m hm z hz => ?_⟩
      cases m with
      | zero =>
        cases hz
        exact c
      | succ m => exact h2 m (by omega) z hz
end Wf
/-! Small defs. -/
namespace Wf
open PySem L2
abbrev s_shown : Stmt := topS 28
abbrev N_shown : List Str := ["indent", "text"]
theorem sc_shown : FnScope N_shown ["indent", "text"] (defScope s_shown) := ⟨rfl, rfl, rfl, by decide +kernel, rfl, by decide +kernel, by decide +kernel⟩
def t_shown (K : PySem.W.Frag) (P : Addr) : TS :=
  (tSeq (tIfS (tTest (tOp rEq (tVar 1) (tC (.str "")))) (tRet (tC (.str ""))) tNext) (tRet (tOp rCatS (tOp rMulS (tC (.str " ")) (tVar 0)) (tVar 1))))
def pm_shown : Pm := ⟨Nat × Str, fun x => [.dat (.int x.1), .dat (.str x.2)], fun x => x.1 ≤ 1000 ∧ x.2.length ≤ 1000, fun x r => r = .dat (.str (shown x.1 x.2))⟩
theorem shown_ev {K : PySem.W.Frag} {P : Addr} {R : Env → DD → Prop} {N B C : Env → Prop} (i : Nat) (t : Str) (h1 : i ≤ 1000) (h2 : t.length ≤ 1000) (hR : ∀ Γ, R Γ (.dat (.str (shown i t)))) :
    EvS K P I0 H0 (tSeq (tIfS (tTest (tOp rEq (tVar 1) (tC (.str "")))) (tRet (tC (.str ""))) tNext) (tRet (tOp rCatS (tOp rMulS (tC (.str " ")) (tVar 0)) (tVar 1)))) (startE 2 [.dat (.int i), .dat (.str t)]) N R B C := by
  refine sv_seq (sv_if (et_test (ev_eqS (ev_var rfl) ev_str)) (fun h => ?_) (fun h => ?_))
  · have h := of_decide_eq_true h
    refine sv_retE ev_str ?_
    have := hR (startE 2 [.dat (.int i), .dat (.str t)])
    rw [h, shown, if_pos e0, ← e0] at this
    rw [h]
    exact this
  · have h := of_decide_eq_false h
    refine sv_next (sv_retE (ev_pad (ev_var rfl) (ev_var rfl) h1 h2) ?_)
    have := hR (startE 2 [.dat (.int i), .dat (.str t)])
    rw [shown, if_neg (by rw [← e0]; exact h)] at this
    exact this
theorem ev_shown {K : PySem.W.Frag} {P : Addr} : pm_shown.Ok K P I0 H0 N_shown.length (t_shown K P) := fun ⟨i, t⟩ ⟨h1, h2⟩ => shown_ev i t h1 h2 fun _ => rfl
theorem ok_shown {Pr : Program} {w : World} {K : PySem.W.Frag} {mg : Str → Option Value} {base : Heap} {P : Addr} {f : Addr} {fd : FuncData} (F : L2.Fun K "shown" "shown" s_shown f fd) (T : Txt mg) : FnOk Pr w K mg base CX0 1 f fd ["indent", "text"] (pm_shown.sp K P) := by
  have nd := sc_shown.nd
  refine Fun.pure F sc_shown (fun _ => rfl) fun cdv A outer s H E hr => ⟨t_shown K P, ?_, fun x hx _ _ => ev_shown x hx⟩
  exact (pss_cons (ps_if (pt_cmpR op_eq (pv 1) pe_str (nomark _)) (pss_one (ps_ret pe_str)) pss_nil) (pss_one (ps_ret (pe_op op_add_str (pe_op op_mulS pe_str (pv 0)) (pv 1)))))
abbrev s__law_put : Stmt := topS 56
abbrev N__law_put : List Str := ["_law_indent_here", "_law_text_here"]
theorem sc__law_put : FnScope N__law_put ["_law_indent_here", "_law_text_here"] (defScope s__law_put) := ⟨rfl, rfl, rfl, by decide +kernel, rfl, by decide +kernel, by decide +kernel⟩
def t__law_put (K : PySem.W.Frag) (P : Addr) : TS :=
  (tSeq (tIfS (tTest (tOp rEq (tVar 1) (tC (.str "")))) (tRet (tC (.str ""))) tNext) (tRet (tOp rCatS (tOp rMulS (tC (.str " ")) (tVar 0)) (tVar 1))))
def pm__law_put : Pm := pm_shown
theorem ev__law_put {K : PySem.W.Frag} {P : Addr} : pm__law_put.Ok K P I0 H0 N__law_put.length (t__law_put K P) := fun ⟨i, t⟩ ⟨h1, h2⟩ => shown_ev i t h1 h2 fun _ => rfl
theorem ok__law_put {Pr : Program} {w : World} {K : PySem.W.Frag} {mg : Str → Option Value} {base : Heap} {P : Addr} {f : Addr} {fd : FuncData} (F : L2.Fun K "_law_put" "_law_put" s__law_put f fd) (T : Txt mg) : FnOk Pr w K mg base CX0 1 f fd ["_law_indent_here", "_law_text_here"] (pm__law_put.sp K P) := by
  have nd := sc__law_put.nd
  refine Fun.pure F sc__law_put (fun _ => rfl) fun cdv A outer s H E hr => ⟨t__law_put K P, ?_, fun x hx _ _ => ev__law_put x hx⟩
  exact (pss_cons (ps_if (pt_cmpR op_eq (pv 1) pe_str (nomark _)) (pss_one (ps_ret pe_str)) pss_nil) (pss_one (ps_ret (pe_op op_add_str (pe_op op_mulS pe_str (pv 0)) (pv 1)))))
abbrev s_indent_of : Stmt := topS 30
abbrev N_indent_of : List Str := ["document", "path", "at"]
theorem sc_indent_of : FnScope N_indent_of ["document", "path"] (defScope s_indent_of) := ⟨rfl, rfl, rfl, by decide +kernel, rfl, by decide +kernel, by decide +kernel⟩
def t_indent_of (K : PySem.W.Frag) (P : Addr) : TS :=
  (tRet (tCB (rSum K) (tCons (tLc (iTup K (tVar 1)) (gName 2) tYes (tOp (rIxT K) (tOp (rIxT K) (tVar 0) (tVar 2)) (tC (.int 1))) [2]) tNil)))
/-- the references of a path -/
def UseP (d : List Ln) (path : List Nat) : Prop := ∀ a ∈ path, ∃ i o, d[a]? = some (.use i o)
def pm_indent_of : Pm := ⟨List Ln × List Nat, fun x => [.dat (docD x.1), .dat (.tuple (natsL x.2))], fun x => UseP x.1 x.2 ∧ x.2.length ≤ 1000, fun x r => r = .dat (.int (indOf x.1 x.2))⟩
theorem indOf_sum (d : List Ln) (path : List Nat) : ((path.map fun a => ((indL d a : Nat) : Int)).sum : Int) = (indOf d path : Nat) := by
  unfold indOf
  induction path with
  | nil => rfl
  | cons a r ih =>
    rw [List.map_cons, List.sum_cons, List.map_cons, List.sum_cons, ih]
    omega
theorem indent_ev {K : PySem.W.Frag} {P : Addr} {R : Env → DD → Prop} {N B C : Env → Prop} (d : List Ln) (path : List Nat) (h : UseP d path) (hl : path.length ≤ 1000) (hR : ∀ Γ, R Γ (.dat (.int (indOf d path)))) :
    EvS K P I0 H0 (tRet (tCB (rSum K) (tCons (tLc (iTup K (tVar 1)) (gName 2) tYes (tOp (rIxT K) (tOp (rIxT K) (tVar 0) (tVar 2)) (tC (.int 1))) [2]) tNil))) (startE 3 [.dat (docD d), .dat (.tuple (natsL path))]) N R B C := by
  refine sv_retE (d := .dat (.int (indOf d path))) ?_ (hR _)
  have e : (natsL path).map (fun x => match x with | .int (.ofNat a) => PyData.int (indL d a) | _ => .none) = (path.map fun a => ((indL d a : Nat) : Int)).map PyData.int := by
    unfold natsL
    rw [List.map_map, List.map_map]
    rfl
  refine ev_callB (ea1 (Ev.is (EvN.ev (en_map (fun x => match x with | .int (.ofNat a) => PyData.int (indL d a) | _ => .none) (fun x => (startE 3 [.dat (docD d), .dat (.tuple (natsL path))]).set 2 (.imm (.dat x))) (ei_tup (ev_var rfl)) (by unfold natsL; rw [List.length_map]; omega) (fun _ _ => ew_name) fun x hx => ?_)) (by rw [e]))) ?_
  · obtain ⟨a, ha, rfl⟩ := List.mem_map.mp hx
    obtain ⟨i, o, ho⟩ := h a ha
    have e2 : indL d a = i := by
      unfold indL
      rw [ho]
    show EvD K P _ _ (.int (indL d a))
    rw [e2]
    exact ev_use1 (ev_docAt (ev_var rfl) (ev_var rfl) ho)
  · have := rc_sum (K := K) (P := P) (ns := path.map fun a => ((indL d a : Nat) : Int))
    rw [indOf_sum] at this
    exact this
theorem ev_indent_of {K : PySem.W.Frag} {P : Addr} : pm_indent_of.Ok K P I0 H0 N_indent_of.length (t_indent_of K P) := fun ⟨d, path⟩ ⟨h, hl⟩ => indent_ev d path h hl fun _ => rfl
theorem ok_indent_of {Pr : Program} {w : World} {K : PySem.W.Frag} {mg : Str → Option Value} {base : Heap} {P : Addr} {f : Addr} {fd : FuncData} (F : L2.Fun K "indent_of" "indent_of" s_indent_of f fd) (T : Txt mg) : FnOk Pr w K mg base CX0 1 f fd ["document", "path"] (pm_indent_of.sp K P) := by
  have nd := sc_indent_of.nd
  refine Fun.pure F sc_indent_of (fun _ => rfl) fun cdv A outer s H E hr => ⟨t_indent_of K P, ?_, fun x hx _ _ => ev_indent_of x hx⟩
  exact (pss_one (ps_ret (pe_callB (r := rSum K) (cr_sum rfl) rfl T.sum PyProof.Rows.boot_sum (pa_cons (pe_lc (own := [("at", 2)]) (g := (gName 2)) (tt := tYes) rfl nd (pi_tup (pv 1)) (blkOk_by (N := N_indent_of) (sc := defScope s_indent_of) (by decide +kernel)) (fun _ _ _ _ _ => (pg_name (i := 2) nd rfl (by first | exact Or.inl rfl | exact Or.inr rfl))) (fun _ _ _ _ _ => pts_nil) (fun _ _ _ _ _ => (pe_ix ix_tup (pe_ix ix_tup (pv 0) (pv 2) (fun _ _ => rfl)) pe_int (fun _ _ => rfl)))) pa_nil))))
abbrev s__law_indent : Stmt := topS 61
abbrev N__law_indent : List Str := ["_law_document_here", "_law_path", "_law_at"]
theorem sc__law_indent : FnScope N__law_indent ["_law_document_here", "_law_path"] (defScope s__law_indent) := ⟨rfl, rfl, rfl, by decide +kernel, rfl, by decide +kernel, by decide +kernel⟩
def t__law_indent (K : PySem.W.Frag) (P : Addr) : TS :=
  (tRet (tCB (rSum K) (tCons (tLc (iTup K (tVar 1)) (gName 2) tYes (tOp (rIxT K) (tOp (rIxT K) (tVar 0) (tVar 2)) (tC (.int 1))) [2]) tNil)))
def pm__law_indent : Pm := pm_indent_of
theorem ev__law_indent {K : PySem.W.Frag} {P : Addr} : pm__law_indent.Ok K P I0 H0 N__law_indent.length (t__law_indent K P) := fun ⟨d, path⟩ ⟨h, hl⟩ => indent_ev d path h hl fun _ => rfl
theorem ok__law_indent {Pr : Program} {w : World} {K : PySem.W.Frag} {mg : Str → Option Value} {base : Heap} {P : Addr} {f : Addr} {fd : FuncData} (F : L2.Fun K "_law_indent" "_law_indent" s__law_indent f fd) (T : Txt mg) : FnOk Pr w K mg base CX0 1 f fd ["_law_document_here", "_law_path"] (pm__law_indent.sp K P) := by
  have nd := sc__law_indent.nd
  refine Fun.pure F sc__law_indent (fun _ => rfl) fun cdv A outer s H E hr => ⟨t__law_indent K P, ?_, fun x hx _ _ => ev__law_indent x hx⟩
  exact (pss_one (ps_ret (pe_callB (r := rSum K) (cr_sum rfl) rfl T.sum PyProof.Rows.boot_sum (pa_cons (pe_lc (own := [("_law_at", 2)]) (g := (gName 2)) (tt := tYes) rfl nd (pi_tup (pv 1)) (blkOk_by (N := N__law_indent) (sc := defScope s__law_indent) (by decide +kernel)) (fun _ _ _ _ _ => (pg_name (i := 2) nd rfl (by first | exact Or.inl rfl | exact Or.inr rfl))) (fun _ _ _ _ _ => pts_nil) (fun _ _ _ _ _ => (pe_ix ix_tup (pe_ix ix_tup (pv 0) (pv 2) (fun _ _ => rfl)) pe_int (fun _ _ => rfl)))) pa_nil))))
abbrev s_texts_of : Stmt := topS 31
abbrev N_texts_of : List Str := ["lines", "line"]
theorem sc_texts_of : FnScope N_texts_of ["lines"] (defScope s_texts_of) := ⟨rfl, rfl, rfl, by decide +kernel, rfl, by decide +kernel, by decide +kernel⟩
def t_texts_of (K : PySem.W.Frag) (P : Addr) : TS :=
  (tRet (tLc (iList K (tVar 0)) (gName 1) tYes (tOp (rIxT K) (tVar 1) (tC (.int 0))) [1]))
def pm_texts_of : Pm := ⟨List PL, fun x => [.dat (progD x)], fun x => x.length ≤ 100000, fun x r => r = .dat (.list (x.map fun p => .str p.text))⟩
theorem ev_texts_of {K : PySem.W.Frag} {P : Addr} : pm_texts_of.Ok K P I0 H0 N_texts_of.length (t_texts_of K P) := fun (ps : List PL) hl => by
  refine sv_retE (d := .dat (.list (ps.map fun (p : PL) => PyData.str p.text))) ?_ (Eq.refl (DD.dat (.list (ps.map fun (p : PL) => PyData.str p.text))))
  let f : PyData → PyData := fun x => match x with
    | .tuple (t :: _) => t
    | _ => .none
  have e : (ps.map plD).map f = ps.map fun p => .str p.text := by
    rw [List.map_map]
    rfl
  rw [← e]
  refine EvN.ev (en_map f (fun x => (startE 2 [.dat (progD ps)]).set 1 (.imm (.dat x))) (ei_list (ev_var rfl)) (by rw [List.length_map]; exact hl) (fun _ _ => ew_name) fun x hx => ?_)
  obtain ⟨p, hp, rfl⟩ := List.mem_map.mp hx
  exact ev_pl0 (ev_var rfl)
theorem ok_texts_of {Pr : Program} {w : World} {K : PySem.W.Frag} {mg : Str → Option Value} {base : Heap} {P : Addr} {f : Addr} {fd : FuncData} (F : L2.Fun K "texts_of" "texts_of" s_texts_of f fd) (T : Txt mg) : FnOk Pr w K mg base CX0 1 f fd ["lines"] (pm_texts_of.sp K P) := by
  have nd := sc_texts_of.nd
  refine Fun.pure F sc_texts_of (fun _ => rfl) fun cdv A outer s H E hr => ⟨t_texts_of K P, ?_, fun x hx _ _ => ev_texts_of x hx⟩
  exact (pss_one (ps_ret (pe_lc (own := [("line", 1)]) (g := (gName 1)) (tt := tYes) rfl nd (pi_list (pv 0)) (blkOk_by (N := N_texts_of) (sc := defScope s_texts_of) (by decide +kernel)) (fun _ _ _ _ _ => (pg_name (i := 1) nd rfl (by first | exact Or.inl rfl | exact Or.inr rfl))) (fun _ _ _ _ _ => pts_nil) (fun _ _ _ _ _ => (pe_ix ix_tup (pv 1) pe_int (fun _ _ => rfl))))))
abbrev s_growth : Stmt := topS 36
abbrev N_growth : List Str := ["edits", "total", "ahead", "change", "behind"]
theorem sc_growth : FnScope N_growth ["edits"] (defScope s_growth) := ⟨rfl, rfl, rfl, by decide +kernel, rfl, by decide +kernel, by decide +kernel⟩
def t_growth (K : PySem.W.Frag) (P : Addr) : TS :=
  (tSeq (tAsg (tC (.int 0)) (gName 1)) (tSeq (tFor (iList K (tVar 0)) (gTup K 3 (gCons (gName 2) (gCons (gName 3) (gCons (gName 4) gNil)))) (tAsg (tOp rSubI (tOp rAddI (tOp rAddI (tVar 1) (tCB (rLen K) (tCons (tVar 2) tNil))) (tCB (rLen K) (tCons (tVar 4) tNil))) (tIf (tTest (tOp rEq (tOp (rIxT K) (tVar 3) (tC (.int 0))) (tC (.str "drop")))) (tC (.int 1)) (tC (.int 0)))) (gName 1))) (tRet (tVar 1))))
def grow1 (e : Ed) : Int := e.ahead.length + e.behind.length - (if e.ch = .drop then 1 else 0)
def growN : List Ed → Int
  | [] => 0
  | e :: es => grow1 e + growN es
def pm_growth : Pm := ⟨List Ed, fun x => [.dat (edsD x)], fun x => True, fun x r => r = .dat (.int (growN x))⟩
theorem ev_growth {K : PySem.W.Frag} {P : Addr} : pm_growth.Ok K P I0 H0 N_growth.length (t_growth K P) := fun (es : List Ed) _ => by
  refine sv_seq (sv_asgE ev_int ?_)
  refine sv_seq (sv_for (ds := es.map edD) (fun r Γ' => ∃ (k : List Ed) (t : Int) (a b c : Slot), r = k.map edD ∧ Γ' = [.imm (.dat (edsD es)), .imm (.dat (.int t)), a, b, c] ∧ t + growN k = growN es) (ei_list (ev_var rfl)) ⟨es, 0, _, _, _, rfl, rfl, by omega⟩ (fun x r Γ' h => ?_) (fun Γ' h => ?_))
  · obtain ⟨k, t, a, b, c, e, rfl, h⟩ := h
    cases k with
    | nil => cases e
    | cons k ks =>
      cases e
      refine eg_tup (ds := [strsD k.ahead, chD k.ch, strsD k.behind]) rfl (gs_cons (eg_name (gs_cons (eg_name (gs_cons (eg_name (gs_nil ?_)))))))
      refine sv_asgE (d := .dat (.int (t + k.ahead.length + k.behind.length - (if k.ch = .drop then 1 else 0)))) (ev_sub (ev_add (ev_add (ev_var rfl) (ev_callB (ea1 (ev_var rfl)) (rc_lenT.as ?_))) (ev_callB (ea1 (ev_var rfl)) (rc_lenT.as ?_))) ?_) ⟨ks, _, _, _, _, rfl, rfl, ?_⟩
      · simp
      · simp
      · refine ev_if (et_test (ev_eqS (ev_chK (c := k.ch) (ev_var rfl)) ev_str)) (fun q => ?_) (fun q => ?_)
        · rw [kind_drop] at q
          rw [if_pos (of_decide_eq_true q)]
          exact ev_int
        · rw [kind_drop] at q
          rw [if_neg (of_decide_eq_false q)]
          exact ev_int
      · rw [← h, growN, grow1]
        omega
  · obtain ⟨k, t, a, b, c, e, rfl, h⟩ := h
    cases k with
    | cons k ks => cases e
    | nil =>
      refine sv_retE (d := .dat (.int t)) (ev_var rfl) ?_
      have : t = growN es := by
        rw [← h]
        show t = t + 0
        omega
      rw [this]
      rfl
theorem ok_growth {Pr : Program} {w : World} {K : PySem.W.Frag} {mg : Str → Option Value} {base : Heap} {P : Addr} {f : Addr} {fd : FuncData} (F : L2.Fun K "growth" "growth" s_growth f fd) (T : Txt mg) : FnOk Pr w K mg base CX0 1 f fd ["edits"] (pm_growth.sp K P) := by
  have nd := sc_growth.nd
  refine Fun.pure F sc_growth (fun _ => rfl) fun cdv A outer s H E hr => ⟨t_growth K P, ?_, fun x hx _ _ => ev_growth x hx⟩
  exact (pss_cons (ps_set (i := 1) nd rfl (by first | exact Or.inl rfl | exact Or.inr rfl) pe_int) (pss_cons (ps_for PassesOwn.never rfl (pi_list (pv 0)) (pg_tup rfl (pgs_cons (pg_name (i := 2) nd rfl (by first | exact Or.inl rfl | exact Or.inr rfl)) (pgs_cons (pg_name (i := 3) nd rfl (by first | exact Or.inl rfl | exact Or.inr rfl)) (pgs_cons (pg_name (i := 4) nd rfl (by first | exact Or.inl rfl | exact Or.inr rfl)) pgs_nil)))) (pss_one (ps_set (i := 1) nd rfl (by first | exact Or.inl rfl | exact Or.inr rfl) (pe_op op_sub (pe_op op_add (pe_op op_add (pv 1) (pe_callB (r := rLen K) call_len rfl T.len PySem.boot_len (pa_cons (pv 2) pa_nil))) (pe_callB (r := rLen K) call_len rfl T.len PySem.boot_len (pa_cons (pv 4) pa_nil))) (pe_ifExp (pt_cmpR op_eq (pe_ix ix_tup (pv 3) pe_int (fun _ _ => rfl)) pe_str (nomark _)) pe_int pe_int))))) (pss_one (ps_ret (pv 1)))))
end Wf
/-! The law's drawing of a document. -/
namespace Wf
open PySem L2
section
variable {K : PySem.W.Frag} {P : Addr} {Γ : Env} {ta tb te : TE}
theorem ev_mul {i j : Int} (ha : EvD K P ta Γ (.int i)) (hb : EvD K P tb Γ (.int j)) (h : CMul i j) : EvD K P (tOp rMulI ta tb) Γ (.int (i * j)) := ev_op ha hb (rop_mul h)
theorem ev_mod {i j : Int} (ha : EvD K P ta Γ (.int i)) (hb : EvD K P tb Γ (.int j)) (h : 0 < j) : EvD K P (tOp rModI ta tb) Γ (.int (i % j)) := ev_op ha hb (rop_mod h)
theorem ev_fdiv {i j : Int} (ha : EvD K P ta Γ (.int i)) (hb : EvD K P tb Γ (.int j)) (h : CDiv i j) : EvD K P (tOp rDivI ta tb) Γ (.int (i / j)) := ev_op ha hb (rop_fdiv h)
theorem ev_lt {i j : Int} (ha : EvD K P ta Γ (.int i)) (hb : EvD K P tb Γ (.int j)) : EvD K P (tOp rLtI ta tb) Γ (.bool (decide (i < j))) := ev_op ha hb rop_lt
theorem ev_ge {i j : Int} (ha : EvD K P ta Γ (.int i)) (hb : EvD K P tb Γ (.int j)) : EvD K P (tOp rGeI ta tb) Γ (.bool (decide (j ≤ i))) := ev_op ha hb rop_ge
theorem ev_eqI {i j : Int} (ha : EvD K P ta Γ (.int i)) (hb : EvD K P tb Γ (.int j)) : EvD K P (tOp rEq ta tb) Γ (.bool (decide (i = j))) := ev_op ha hb rop_eqI
theorem atI_mod {α : Type} {xs : List α} (m : Int) (h : 0 < xs.length) : ∃ c ∈ xs, atI xs (m % (xs.length : Int)) = some c := by
  have h1 := Int.emod_nonneg m (b := (xs.length : Int)) (by omega)
  have h2 := Int.emod_lt_of_pos m (b := (xs.length : Int)) (by omega)
  obtain ⟨k, hk⟩ := Int.eq_ofNat_of_zero_le h1
  rw [hk] at h2 ⊢
  have h3 : k < xs.length := by omega
  exact ⟨xs[k], List.getElem_mem h3, atI_of (by simp [h3])⟩
theorem atI_nat {α : Type} {xs : List α} {k : Nat} (h : k < xs.length) : ∃ c ∈ xs, atI xs (k : Int) = some c := ⟨xs[k], List.getElem_mem h, atI_of (by simp [h])⟩
theorem eat {α : Type} {D : α → PyData} {ds : List α} {i : Int} {c : α} (ha : EvD K P ta Γ (.list (ds.map D))) (hb : EvD K P tb Γ (.int i)) (h : atI ds i = some c) : EvD K P (tOp (rIxL K) ta tb) Γ (D c) := by
  refine ev_ixL ha hb ?_
  unfold atI at h ⊢
  rw [List.length_map]
  cases q : ixN ds.length i with
  | none =>
    rw [q] at h
    cases h
  | some j =>
    rw [q] at h
    show (ds.map D)[j]? = _
    rw [List.getElem?_map, show ds[j]? = some c from h]
    rfl
end
abbrev s__law_cell : Stmt := topS 46
abbrev N__law_cell : List Str := ["_law_script", "_law_k"]
theorem sc__law_cell : FnScope N__law_cell ["_law_script", "_law_k"] (defScope s__law_cell) := ⟨rfl, rfl, rfl, by decide +kernel, rfl, by decide +kernel, by decide +kernel⟩
def t__law_cell (K : PySem.W.Frag) (P : Addr) : TS :=
  (tSeq (tIfS (tTest (tOp rLtI (tVar 1) (tCB (rLen K) (tCons (tVar 0) tNil)))) (tRet (tOp (rIxL K) (tVar 0) (tVar 1))) tNext) (tRet (tC (.int 0))))
def pm__law_cell : Pm := ⟨List Int × Int, fun x => [.scr x.1, .dat (.int x.2)], fun x => 0 ≤ x.2, fun x r => ∃ v : Int, r = .dat (.int v)⟩
theorem ev__law_cell {K : PySem.W.Frag} {P : Addr} : pm__law_cell.Ok K P I0 H0 N__law_cell.length (t__law_cell K P) := fun x hx => by
  obtain ⟨ns, k⟩ := x
  have hk : 0 ≤ k := hx
  refine sv_seq (sv_if (et_test (ev_lt (ev_var rfl) (ev_callB (ea1 (ev_var rfl)) rc_lenC))) (fun h => ?_) (fun h => ?_))
  · have h := of_decide_eq_true h
    obtain ⟨m, rfl⟩ := Int.eq_ofNat_of_zero_le hk
    have hm : m < ns.length := by
      have : ((m : Int) < (ns.length : Int)) := h
      omega
    obtain ⟨v, _, hv⟩ := atI_nat hm
    exact sv_retE (ev_ixC (ev_var rfl) (ev_var rfl) hv) ⟨_, rfl⟩
  · exact sv_next (sv_retE ev_int ⟨_, rfl⟩)
theorem ok__law_cell {Pr : Program} {w : World} {K : PySem.W.Frag} {mg : Str → Option Value} {base : Heap} {P : Addr} {f : Addr} {fd : FuncData} (F : L2.Fun K "_law_cell" "_law_cell" s__law_cell f fd) (T : Txt mg) : FnOk Pr w K mg base CX0 1 f fd ["_law_script", "_law_k"] (pm__law_cell.sp K P) := by
  have nd := sc__law_cell.nd
  refine Fun.pure F sc__law_cell (fun _ => rfl) fun cdv A outer s H E hr => ⟨t__law_cell K P, ?_, fun x hx _ _ => ev__law_cell x hx⟩
  exact (pss_cons (ps_if (pt_cmpR op_lt (pv 1) (pe_callB (r := rLen K) call_len rfl T.len PySem.boot_len (pa_cons (pv 0) pa_nil)) (nomark _)) (pss_one (ps_ret (pe_ix ix_list (pv 0) (pv 1) (fun _ _ => rfl)))) pss_nil) (pss_one (ps_ret pe_int)))
abbrev s__law_draws : Stmt := topS 47
abbrev N__law_draws : List Str := ["_law_cell_here", "_law_count", "_law_found", "_law_is_wide", "_law_k", "_law_mixed"]
theorem sc__law_draws : FnScope N__law_draws ["_law_cell_here", "_law_count"] (defScope s__law_draws) := ⟨rfl, rfl, rfl, by decide +kernel, rfl, by decide +kernel, by decide +kernel⟩
def t__law_draws (K : PySem.W.Frag) (P : Addr) : TS :=
  (tSeq (tAsg (tLst tNil) (gName 2)) (tSeq (tAsg (tOp rGeI (tVar 0) (tOp rPowI (tC (.int 10)) (tC (.int 18)))) (gName 3)) (tSeq (tFor (iRng1 (tCons (tVar 1) tNil)) (gName 4) (tIfS (tB (tVar 3)) (tSeq (tDrop (tBM K "list" rAppend (tVar 2) (tCons (tOp rModI (tVar 0) (tC (.int 1009))) tNil))) (tAsg (tOp rDivI (tVar 0) (tC (.int 1009))) (gName 0))) (tSeq (tAsg (tOp rModI (tOp rAddI (tOp rMulI (tVar 0) (tC (.int 48271))) (tOp rMulI (tVar 4) (tC (.int 69621)))) (tC (.int 2147483647))) (gName 5)) (tDrop (tBM K "list" rAppend (tVar 2) (tCons (tOp rModI (tOp rAddI (tOp rAddI (tOp rMulI (tVar 5) (tVar 5)) (tOp rMulI (tVar 0) (tC (.int 31)))) (tVar 4)) (tC (.int 1000003))) tNil)))))) (tRet (tVar 2)))))
def intsD (ns : List Int) : PyData := .list (ns.map .int)
def pm__law_draws : Pm := ⟨Int × Nat, fun x => [.dat (.int x.1), .dat (.int x.2)], fun x => x.2 ≤ 1000, fun x r => ∃ ns : List Int, ns.length = x.2 ∧ r = .dat (intsD ns)⟩
theorem rangeD_cons (k n : Nat) : (List.range' k (n + 1)).map (fun i => PyData.int (i : Nat)) = PyData.int k :: (List.range' (k + 1) n).map fun i => PyData.int (i : Nat) := rfl
theorem rangeD_eq (n : Nat) : rangeD 0 ((n : Nat) : Int).toNat = (List.range' 0 n).map fun i => PyData.int (i : Nat) := by
  unfold rangeD
  rw [Int.toNat_natCast, List.range_eq_range']
  apply List.map_congr_left
  intro i _
  rw [Int.zero_add]
theorem ev__law_draws {K : PySem.W.Frag} {P : Addr} : pm__law_draws.Ok K P I0 H0 N__law_draws.length (t__law_draws K P) := fun x hx => by
  obtain ⟨c, n⟩ := x
  have hn : n ≤ 1000 := hx
  refine sv_seq (sv_asgN (en_lst (ds := []) ea_nil) fun p => ?_)
  refine sv_seq (sv_asgE (ev_ge (ev_var rfl) (ev_op ev_int ev_int (rop_pow ⟨by decide, by decide, by decide⟩))) ?_)
  generalize hw : decide ((10 : Int) ^ (18 : Int).toNat ≤ c) = w
  refine sv_seq (sv_for (ds := (List.range' 0 n).map fun i => PyData.int (i : Nat)) (fun r Γ' => ∃ (k m : Nat) (v : Int) (ns : List Int) (a b : Slot), r = ((List.range' k m).map fun i => PyData.int (i : Nat)) ∧ k + m = n ∧ ns.length = k ∧ Γ' = [.imm (.dat (.int v)), .imm (.dat (.int n)), .own p (ns.map PyData.int), .imm (.dat (.bool w)), a, b])
    ?_ ⟨0, n, c, [], _, _, rfl, by omega, rfl, rfl⟩ (fun x r Γ' h => ?_) (fun Γ' h => ?_))
  · have := ei_range1 (K := K) (P := P) (Γ := (((startE N__law_draws.length [.dat (.int c), .dat (.int n)]).set 2 (.own p [])).set 3 (.imm (.dat (.bool w))))) (te := tVar 1) (n := (n : Int)) (ev_var rfl) (by omega) (by omega)
    rw [rangeD_eq] at this
    exact this
  · obtain ⟨k, m, v, ns, a, b, e, hkm, hk, rfl⟩ := h
    cases m with
    | zero => cases e
    | succ m =>
      rw [rangeD_cons] at e
      cases e
      refine eg_name ?_
      have app : ∀ u : Int, (ns.map PyData.int) ++ [PyData.int u] = (ns ++ [u]).map PyData.int := fun u => by simp
      refine sv_if (et_B (ev_var rfl)) (fun q => ?_) (fun q => ?_)
      · refine sv_seq (sv_append (d := .int (v % 1009)) rfl (ev_mod (ev_var rfl) ev_int (by decide)) (by rw [List.length_map]; omega) ?_)
        rw [app]
        exact sv_asgE (ev_fdiv (ev_var rfl) ev_int ⟨by decide, by decide⟩) ⟨k + 1, m, _, _, _, _, rfl, by omega, by rw [List.length_append]; simp [hk], rfl⟩
      · refine sv_seq (sv_asgE (ev_mod (ev_add (ev_mul (ev_var rfl) ev_int (.inr ⟨by decide, by decide⟩)) (ev_mul (ev_var rfl) ev_int (.inr ⟨by decide, by decide⟩))) ev_int (by decide)) ?_)
        generalize hmx : (v * 48271 + (k : Int) * 69621) % 2147483647 = mx
        have b1 : 0 ≤ mx := by omega
        have b2 : mx < 2147483647 := by omega
        refine sv_append (d := .int ((mx * mx + v * 31 + (k : Int)) % 1000003)) rfl (ev_mod (ev_add (ev_add (ev_mul (ev_var rfl) (ev_var rfl) (.inr ⟨by omega, by omega⟩)) (ev_mul (ev_var rfl) ev_int (.inr ⟨by decide, by decide⟩))) (ev_var rfl)) ev_int (by decide)) (by rw [List.length_map]; omega) ?_
        rw [app]
        exact ⟨k + 1, m, v, _, _, _, rfl, by omega, by rw [List.length_append]; simp [hk], rfl⟩
  · obtain ⟨k, m, v, ns, a, b, e, hkm, hk, rfl⟩ := h
    cases m with
    | succ m => cases e
    | zero =>
      refine sv_freeze (i := 2) rfl ?_
      exact sv_retE (ev_var rfl) ⟨ns, by rw [hk]; exact hkm, rfl⟩
theorem ok__law_draws {Pr : Program} {w : World} {K : PySem.W.Frag} {mg : Str → Option Value} {base : Heap} {P : Addr} {f : Addr} {fd : FuncData} (F : L2.Fun K "_law_draws" "_law_draws" s__law_draws f fd) (T : Txt mg) : FnOk Pr w K mg base CX0 1 f fd ["_law_cell_here", "_law_count"] (pm__law_draws.sp K P) := by
  have nd := sc__law_draws.nd
  refine Fun.pure F sc__law_draws (fun _ => rfl) fun cdv A outer s H E hr => ⟨t__law_draws K P, ?_, fun x hx _ _ => ev__law_draws x hx⟩
  exact (pss_cons (ps_set (i := 2) nd rfl (by first | exact Or.inl rfl | exact Or.inr rfl) (pe_lst pa_nil)) (pss_cons (ps_set (i := 3) nd rfl (by first | exact Or.inl rfl | exact Or.inr rfl) (pe_cmpR op_ge (pv 0) (pe_op op_pow pe_int pe_int) (nomark _))) (pss_cons (ps_for PassesOwn.never rfl (pi_range1 (by rfl) T.range (pa_cons (pv 1) pa_nil)) (pg_name (i := 4) nd rfl (by first | exact Or.inl rfl | exact Or.inr rfl)) (pss_one (ps_if (pt_val (pv 3)) (pss_cons (ps_expr (pe_bm PySem.F.plainAttrs_list PySem.F.slot_list_append PySem.F.type_list_append mt_append (pv 2) (pa_cons (pe_op op_mod (pv 0) pe_int) pa_nil))) (pss_one (ps_set (i := 0) nd rfl (by first | exact Or.inl rfl | exact Or.inr rfl) (pe_op op_fdiv (pv 0) pe_int)))) (pss_cons (ps_set (i := 5) nd rfl (by first | exact Or.inl rfl | exact Or.inr rfl) (pe_op op_mod (pe_op op_add (pe_op op_mul (pv 0) pe_int) (pe_op op_mul (pv 4) pe_int)) pe_int)) (pss_one (ps_expr (pe_bm PySem.F.plainAttrs_list PySem.F.slot_list_append PySem.F.type_list_append mt_append (pv 2) (pa_cons (pe_op op_mod (pe_op op_add (pe_op op_add (pe_op op_mul (pv 5) (pv 5)) (pe_op op_mul (pv 0) pe_int)) (pv 4)) pe_int) pa_nil)))))))) (pss_one (ps_ret (pv 2))))))
abbrev s__law_big : Stmt := topS 48
abbrev N__law_big : List Str := ["_law_cell_here", "_law_draws_here"]
theorem sc__law_big : FnScope N__law_big ["_law_cell_here"] (defScope s__law_big) := ⟨rfl, rfl, rfl, by decide +kernel, rfl, by decide +kernel, by decide +kernel⟩
def t__law_big (K : PySem.W.Frag) (P : Addr) : TS :=
  (tSeq (tAsg (tCall (pm__law_draws.sp K P) [] E0 (tCons (tVar 0) (tCons (tC (.int 3)) tNil))) (gName 1)) (tRet (tOp rAddI (tOp rAddI (tOp rModI (tOp (rIxL K) (tVar 1) (tC (.int 0))) (tC (.int 1009))) (tOp rMulI (tC (.int 1009)) (tOp rModI (tOp (rIxL K) (tVar 1) (tC (.int 1))) (tC (.int 1009))))) (tOp rMulI (tOp rMulI (tC (.int 1009)) (tC (.int 1009))) (tOp rModI (tOp (rIxL K) (tVar 1) (tC (.int 2))) (tC (.int 1009)))))))
def pm__law_big : Pm := ⟨Int, fun x => [.dat (.int x)], fun x => True, fun x r => ∃ v : Nat, r = .dat (.int v)⟩
theorem ev__law_big {K : PySem.W.Frag} {P : Addr} : pm__law_big.Ok K P I0 H0 N__law_big.length (t__law_big K P) := fun (c : Int) _ => by
  refine sv_seq (sv_asg (ev_call (X := Int × Nat) (c, 3) (ea_cons (ev_var rfl) (ea1 ev_int)) (by show (3 : Nat) ≤ 1000; omega)) fun d ⟨ns, hl, hd⟩ => ?_)
  subst hd
  match ns, hl with
  | [x, y, z], _ =>
    refine sv_retE (ev_add (ev_add (ev_mod (ev_ixL (ev_var rfl) ev_int rfl) ev_int (by decide)) (ev_mul ev_int (ev_mod (ev_ixL (ev_var rfl) ev_int rfl) ev_int (by decide)) (.inl ⟨by decide, by decide⟩))) (ev_mul (ev_mul ev_int ev_int (.inl ⟨by decide, by decide⟩)) (ev_mod (ev_ixL (ev_var rfl) ev_int rfl) ev_int (by decide)) (.inl ⟨by decide, by decide⟩))) ?_
    have e : 0 ≤ x % 1009 + 1009 * (y % 1009) + 1009 * 1009 * (z % 1009) := by omega
    obtain ⟨v, hv⟩ := Int.eq_ofNat_of_zero_le e
    exact ⟨v, by rw [← hv]⟩
theorem ok__law_big {Pr : Program} {w : World} {K : PySem.W.Frag} {mg : Str → Option Value} {base : Heap} {P : Addr} {f : Addr} {fd : FuncData} (F : L2.Fun K "_law_big" "_law_big" s__law_big f fd) (T : Txt mg) (C__law_draws : C8.Cal Pr w K mg base 1 "_law_draws" (pm__law_draws.sp K P) []) : FnOk Pr w K mg base CX0 2 f fd ["_law_cell_here"] (pm__law_big.sp K P) := by
  have nd := sc__law_big.nd
  refine Fun.pure F sc__law_big (fun _ => rfl) fun cdv A outer s H E hr => ⟨t__law_big K P, ?_, fun x hx _ _ => ev__law_big x hx⟩
  exact (pss_cons (ps_set (i := 1) nd rfl (by first | exact Or.inl rfl | exact Or.inr rfl) (C8.pe_c C__law_draws hr (by decide) rfl (pa_cons (pv 0) (pa_cons pe_int pa_nil)))) (pss_one (ps_ret (pe_op op_add (pe_op op_add (pe_op op_mod (pe_ix ix_list (pv 1) pe_int (fun _ _ => rfl)) pe_int) (pe_op op_mul pe_int (pe_op op_mod (pe_ix ix_list (pv 1) pe_int (fun _ _ => rfl)) pe_int))) (pe_op op_mul (pe_op op_mul pe_int pe_int) (pe_op op_mod (pe_ix ix_list (pv 1) pe_int (fun _ _ => rfl)) pe_int))))))
/-- a text of a document -/
def TxtOk (t : Str) : Prop := t.length ≤ 60
abbrev s__law_text : Stmt := topS 49
abbrev N__law_text : List Str := ["_law_draw"]
theorem sc__law_text : FnScope N__law_text ["_law_draw"] (defScope s__law_text) := ⟨rfl, rfl, rfl, by decide +kernel, rfl, by decide +kernel, by decide +kernel⟩
def t__law_text (K : PySem.W.Frag) (P : Addr) : TS :=
  (tRet (tOp (rIxL K) (tLst (tCons (tC (.str "")) (tCons (tC (.str "x")) (tCons (tC (.str "  y")) (tCons (tC (.str "x y")) (tCons (tC (.str "<a")) (tCons (tC (.str "z>")) (tCons (tC (.str " ")) (tCons (tC (.str "if <b> x")) (tCons (tC (.str "    ")) (tCons (tC (.str "w")) (tCons (tC (.str "x")) (tCons (tC (.str "=q")) tNil))))))))))))) (tOp rModI (tVar 0) (tC (.int 12)))))
def pm__law_text : Pm := ⟨Int, fun x => [.dat (.int x)], fun x => True, fun x r => ∃ t : Str, TxtOk t ∧ r = .dat (.str t)⟩
theorem ev__law_text {K : PySem.W.Frag} {P : Addr} : pm__law_text.Ok K P I0 H0 N__law_text.length (t__law_text K P) := fun (c : Int) _ => by
  obtain ⟨t, ht, hc⟩ := atI_mod (xs := (["", "x", "  y", "x y", "<a", "z>", " ", "if <b> x", "    ", "w", "x", "=q"] : List Str)) c (by decide)
  refine sv_retE (d := .dat (.str t)) (eat (D := PyData.str) (ev_lst (ea_cons ev_str (ea_cons ev_str (ea_cons ev_str (ea_cons ev_str (ea_cons ev_str (ea_cons ev_str (ea_cons ev_str (ea_cons ev_str (ea_cons ev_str (ea_cons ev_str (ea_cons ev_str (ea1 ev_str)))))))))))) (by decide)) (ev_mod (ev_var rfl) ev_int (by decide)) hc) ⟨t, ?_, rfl⟩
  have : ∀ t ∈ (["", "x", "  y", "x y", "<a", "z>", " ", "if <b> x", "    ", "w", "x", "=q"] : List Str), t.length ≤ 60 := by decide +kernel
  exact this t ht
theorem ok__law_text {Pr : Program} {w : World} {K : PySem.W.Frag} {mg : Str → Option Value} {base : Heap} {P : Addr} {f : Addr} {fd : FuncData} (F : L2.Fun K "_law_text" "_law_text" s__law_text f fd) (T : Txt mg) : FnOk Pr w K mg base CX0 1 f fd ["_law_draw"] (pm__law_text.sp K P) := by
  have nd := sc__law_text.nd
  refine Fun.pure F sc__law_text (fun _ => rfl) fun cdv A outer s H E hr => ⟨t__law_text K P, ?_, fun x hx _ _ => ev__law_text x hx⟩
  exact (pss_one (ps_ret (pe_ix ix_list (pe_lst (pa_cons pe_str (pa_cons pe_str (pa_cons pe_str (pa_cons pe_str (pa_cons pe_str (pa_cons pe_str (pa_cons pe_str (pa_cons pe_str (pa_cons pe_str (pa_cons pe_str (pa_cons pe_str (pa_cons pe_str pa_nil))))))))))))) (pe_op op_mod (pv 0) pe_int) (fun _ _ => rfl))))
end Wf
/-! The law's document. -/
namespace Wf
open PySem L2
def LineOk : Ln → Prop
  | .head n => ∃ k, k < 5 ∧ n = ⟨#[97 + k]⟩
  | .use i _ => i ≤ 4
  | .code t => TxtOk t
  | .prose t => TxtOk t
structure GD (d : List Ln) (m : Nat) : Prop where
  len : d.length ≤ m
  ok : ∀ l ∈ d, LineOk l
  vd : vd false d = true
section
variable {K : PySem.W.Frag} {P : Addr} {Γ : Env} {ta tb te : TE}
theorem abcde_l : ("abcde" : Str).cps.toList = [97, 98, 99, 100, 101] := by decide +kernel
theorem abcdef_l : ("abcdef" : Str).cps.toList = [97, 98, 99, 100, 101, 102] := by decide +kernel
/-- 'abcde'[m % 5] -/
theorem letter_at (m : Int) : ∃ k, k < 5 ∧ atI ("abcde" : Str).cps.toList (m % 5) = some (97 + k) := by
  obtain ⟨u, hu, hat⟩ := atI_mod (xs := ("abcde" : Str).cps.toList) m (by rw [abcde_l]; decide)
  have e : ∃ k, k < 5 ∧ u = 97 + k := by
    rw [abcde_l] at hu
    simp only [List.mem_cons, List.not_mem_nil, or_false] at hu
    rcases hu with rfl | rfl | rfl | rfl | rfl
    · exact ⟨0, by omega, rfl⟩
    · exact ⟨1, by omega, rfl⟩
    · exact ⟨2, by omega, rfl⟩
    · exact ⟨3, by omega, rfl⟩
    · exact ⟨4, by omega, rfl⟩
  obtain ⟨k, hk, rfl⟩ := e
  refine ⟨k, hk, ?_⟩
  rw [abcde_l] at hat ⊢
  exact hat
theorem ev_letter {m : Int} (h : EvD K P te Γ (.int m)) : ∃ k, k < 5 ∧ EvD K P (tOp rIxS (tC (.str "abcde")) (tOp rModI te (tC (.int 5)))) Γ (.str ⟨#[97 + k]⟩) := by
  obtain ⟨k, hk, hat⟩ := letter_at m
  exact ⟨k, hk, ev_op ev_str (ev_mod h ev_int (by decide)) (rop_ixS (by decide +kernel) hat)⟩
end
abbrev s__law_line : Stmt := topS 50
abbrev N__law_line : List Str := ["_law_draws_here", "_law_current", "_law_calm", "_law_kind", "_law_name"]
theorem sc__law_line : FnScope N__law_line ["_law_draws_here", "_law_current", "_law_calm"] (defScope s__law_line) := ⟨rfl, rfl, rfl, by decide +kernel, rfl, by decide +kernel, by decide +kernel⟩
def t__law_line (K : PySem.W.Frag) (P : Addr) : TS :=
  (tSeq (tAsg (tOp rModI (tOp (rIxL K) (tVar 0) (tC (.int 0))) (tC (.int 11))) (gName 3)) (tSeq (tIfS (tTest (tOp rLtI (tVar 3) (tC (.int 2)))) (tRet (tTup (tCons (tC (.str "prose")) (tCons (tOp (rIxL K) (tLst (tCons (tC (.str "")) (tCons (tC (.str "words")) (tCons (tC (.str "more words")) (tCons (tC (.str " <a>")) tNil))))) (tOp rModI (tOp (rIxL K) (tVar 0) (tC (.int 1))) (tC (.int 4)))) tNil)))) tNext) (tSeq (tIfS (tTest (tOp rLtI (tVar 3) (tC (.int 4)))) (tRet (tTup (tCons (tC (.str "head")) (tCons (tOp rIxS (tC (.str "abcde")) (tOp rModI (tOp (rIxL K) (tVar 0) (tC (.int 1))) (tC (.int 5)))) tNil)))) tNext) (tSeq (tIfS (tTest (tOp rLtI (tVar 3) (tC (.int 7)))) (tSeq (tAsg (tOp rModI (tOp (rIxL K) (tVar 0) (tC (.int 2))) (tC (.int 6))) (gName 4)) (tSeq (tIfS (tB (tVar 2)) (tAsg (tOp rAddI (tOp rAddI (tVar 1) (tC (.int 1))) (tOp rModI (tOp (rIxL K) (tVar 0) (tC (.int 2))) (tC (.int 2)))) (gName 4)) tNext) (tIfS (tAnd (tTest (tOp rLtI (tVar 4) (tC (.int 6)))) (tOr (tTest (tOp rLtI (tVar 4) (tC (.int 5)))) (tNot (tB (tVar 2))))) (tRet (tTup (tCons (tC (.str "use")) (tCons (tOp (rIxL K) (tLst (tCons (tC (.int 0)) (tCons (tC (.int 0)) (tCons (tC (.int 2)) (tCons (tC (.int 4)) (tCons (tC (.int 1)) tNil)))))) (tOp rModI (tOp (rIxL K) (tVar 0) (tC (.int 3))) (tC (.int 5)))) (tCons (tOp rIxS (tC (.str "abcdef")) (tVar 4)) tNil))))) tNext))) tNext) (tRet (tTup (tCons (tC (.str "code")) (tCons (tCall (pm__law_text.sp K P) [] E0 (tCons (tOp (rIxL K) (tVar 0) (tC (.int 4))) tNil)) tNil))))))))
def pm__law_line : Pm := ⟨List Int × Nat × Bool, fun x => [.dat (intsD x.1), .dat (.int x.2.1), .dat (.bool x.2.2)], fun x => x.1.length = 5 ∧ x.2.1 ≤ 4, fun x r => ∃ l, LineOk l ∧ r = .dat (lnD l)⟩
theorem prose4 : ∀ t ∈ (["", "words", "more words", " <a>"] : List Str), TxtOk t := by
  unfold TxtOk
  decide +kernel
theorem ind5 : ∀ i ∈ ([0, 0, 2, 4, 1] : List Int), 0 ≤ i ∧ i ≤ 4 := by decide
theorem line_use {K : PySem.W.Frag} {P : Addr} {Γ : Env} {N B C : Env → Prop} {tn : TE} {m v : Int} {t0 : TE} (h0 : EvD K P t0 Γ (.int m)) (hn : EvD K P tn Γ (.int v)) (h1 : 0 ≤ v) (h2 : v < 6) :
    EvS K P I0 H0 (tRet (tTup (tCons (tC (.str "use")) (tCons (tOp (rIxL K) (tLst (tCons (tC (.int 0)) (tCons (tC (.int 0)) (tCons (tC (.int 2)) (tCons (tC (.int 4)) (tCons (tC (.int 1)) tNil)))))) (tOp rModI t0 (tC (.int 5)))) (tCons (tOp rIxS (tC (.str "abcdef")) tn) tNil))))) Γ N (fun _ r => ∃ l, LineOk l ∧ r = .dat (lnD l)) B C := by
  obtain ⟨i, hi, hat⟩ := atI_mod (xs := ([0, 0, 2, 4, 1] : List Int)) m (by decide)
  obtain ⟨b1, b2⟩ := ind5 i hi
  obtain ⟨j, rfl⟩ := Int.eq_ofNat_of_zero_le b1
  obtain ⟨k, rfl⟩ := Int.eq_ofNat_of_zero_le h1
  obtain ⟨u, _, hu⟩ := atI_nat (xs := ("abcdef" : Str).cps.toList) (k := k) (by rw [abcdef_l]; show k < 6; omega)
  refine sv_retE (d := .dat (lnD (.use j ⟨#[u]⟩))) (ev_tup (ds := [.str "use", .int (j : Nat), .str ⟨#[u]⟩]) (ea_cons ev_str (ea_cons (eat (D := PyData.int) (ev_lst (ea_cons ev_int (ea_cons ev_int (ea_cons ev_int (ea_cons ev_int (ea1 ev_int)))))) (ev_mod h0 ev_int (by decide)) hat) (ea1 (ev_op ev_str hn (rop_ixS (by decide +kernel) hu)))))) ⟨_, ?_, rfl⟩
  show j ≤ 4
  omega
theorem ev__law_line {K : PySem.W.Frag} {P : Addr} : pm__law_line.Ok K P I0 H0 N__law_line.length (t__law_line K P) := fun x hx => by
  obtain ⟨ns, cur, calm⟩ := x
  obtain ⟨h5, hc⟩ := hx
  dsimp only at h5 hc
  match ns, h5 with
  | [a, b, c, d, e], _ =>
    refine sv_seq (sv_asgE (ev_mod (ev_ixL (ev_var rfl) ev_int rfl) ev_int (by decide)) ?_)
    generalize hk : a % 11 = k
    refine sv_seq (sv_if (et_test (ev_lt (ev_var rfl) ev_int)) (fun _ => ?_) (fun _ => sv_next ?_))
    · obtain ⟨t, ht, hat⟩ := atI_mod (xs := (["", "words", "more words", " <a>"] : List Str)) b (by decide)
      refine sv_retE (d := .dat (lnD (.prose t))) (ev_tup (ds := [.str "prose", .str t]) (ea_cons ev_str (ea1 (eat (D := PyData.str) (ev_lst (ea_cons ev_str (ea_cons ev_str (ea_cons ev_str (ea1 ev_str))))) (ev_mod (ev_ixL (ev_var rfl) ev_int rfl) ev_int (by decide)) hat)))) ⟨.prose t, prose4 t ht, rfl⟩
    refine sv_seq (sv_if (et_test (ev_lt (ev_var rfl) ev_int)) (fun _ => ?_) (fun _ => sv_next ?_))
    · obtain ⟨j, hj, ev⟩ := ev_letter (K := K) (P := P) (Γ := (startE N__law_line.length [.dat (intsD [a, b, c, d, e]), .dat (.int cur), .dat (.bool calm)]).set 3 (.imm (.dat (.int k)))) (m := b) (te := tOp (rIxL K) (tVar 0) (tC (.int 1))) (ev_ixL (ev_var rfl) ev_int rfl)
      exact sv_retE (d := .dat (lnD (.head ⟨#[97 + j]⟩))) (ev_tup (ds := [.str "head", .str ⟨#[97 + j]⟩]) (ea_cons ev_str (ea1 ev))) ⟨.head ⟨#[97 + j]⟩, ⟨j, hj, rfl⟩, rfl⟩
    have fin : ∀ s, EvS K P I0 H0 (tRet (tTup (tCons (tC (.str "code")) (tCons (tCall (pm__law_text.sp K P) [] E0 (tCons (tOp (rIxL K) (tVar 0) (tC (.int 4))) tNil)) tNil)))) [.imm (.dat (intsD [a, b, c, d, e])), .imm (.dat (.int cur)), .imm (.dat (.bool calm)), .imm (.dat (.int k)), s] (fun _ => pm__law_line.post ([a, b, c, d, e], cur, calm) (.dat .none)) (fun _ => pm__law_line.post ([a, b, c, d, e], cur, calm)) (fun _ => False) (fun _ => False) := fun s => by
      refine sv_ret (D := fun r => ∃ t : Str, TxtOk t ∧ r = .dat (lnD (.code t))) (ev_tupP (ea_consP (D := (· = .dat (.str "code"))) ev_str (ea_consP (ev_call (X := Int) e (ea1 (ev_ixL (ev_var rfl) ev_int rfl)) trivial) ea_nil)) fun l hl => ?_) fun r ⟨t, ht, hr⟩ => ⟨.code t, ht, hr⟩
      obtain ⟨x, r, rfl, rfl, y, r2, rfl, ⟨t, ht, rfl⟩, rfl⟩ := hl
      exact ⟨[.str "code", .str t], rfl, by simp, t, ht, rfl⟩
    refine sv_seq (sv_if (et_test (ev_lt (ev_var rfl) ev_int)) (fun _ => ?_) (fun _ => sv_next (fin _)))
    refine sv_seq (sv_asgE (ev_mod (ev_ixL (ev_var rfl) ev_int rfl) ev_int (by decide)) ?_)
    generalize hv : c % 6 = v
    refine sv_cut (fun Γ' => ∃ v : Int, 0 ≤ v ∧ Γ' = [.imm (.dat (intsD [a, b, c, d, e])), .imm (.dat (.int cur)), .imm (.dat (.bool calm)), .imm (.dat (.int k)), .imm (.dat (.int v))]) (sv_if (et_B (ev_var rfl)) (fun _ => ?_) (fun _ => ?_)) fun Γ' h => ?_
    · exact sv_asgE (ev_add (ev_add (ev_var rfl) ev_int) (ev_mod (ev_ixL (ev_var rfl) ev_int rfl) ev_int (by decide))) ⟨_, by omega, rfl⟩
    · exact sv_next ⟨v, by omega, rfl⟩
    · obtain ⟨v, hv, rfl⟩ := h
      refine sv_if (et_and (et_test (ev_lt (ev_var rfl) ev_int)) fun _ => et_or (et_test (ev_lt (ev_var rfl) ev_int)) fun _ => et_not (et_B (ev_var rfl))) (fun q => ?_) (fun _ => sv_next (fin _))
      have q := (Bool.and_eq_true_iff.mp q).1
      exact line_use (ev_ixL (ev_var rfl) ev_int rfl) (ev_var rfl) hv (of_decide_eq_true q)
theorem ok__law_line {Pr : Program} {w : World} {K : PySem.W.Frag} {mg : Str → Option Value} {base : Heap} {P : Addr} {f : Addr} {fd : FuncData} (F : L2.Fun K "_law_line" "_law_line" s__law_line f fd) (T : Txt mg) (C__law_text : C8.Cal Pr w K mg base 1 "_law_text" (pm__law_text.sp K P) []) : FnOk Pr w K mg base CX0 2 f fd ["_law_draws_here", "_law_current", "_law_calm"] (pm__law_line.sp K P) := by
  have nd := sc__law_line.nd
  refine Fun.pure F sc__law_line (fun _ => rfl) fun cdv A outer s H E hr => ⟨t__law_line K P, ?_, fun x hx _ _ => ev__law_line x hx⟩
  exact (pss_cons (ps_set (i := 3) nd rfl (by first | exact Or.inl rfl | exact Or.inr rfl) (pe_op op_mod (pe_ix ix_list (pv 0) pe_int (fun _ _ => rfl)) pe_int)) (pss_cons (ps_if (pt_cmpR op_lt (pv 3) pe_int (nomark _)) (pss_one (ps_ret (pe_tup (pa_cons pe_str (pa_cons (pe_ix ix_list (pe_lst (pa_cons pe_str (pa_cons pe_str (pa_cons pe_str (pa_cons pe_str pa_nil))))) (pe_op op_mod (pe_ix ix_list (pv 0) pe_int (fun _ _ => rfl)) pe_int) (fun _ _ => rfl)) pa_nil))))) pss_nil) (pss_cons (ps_if (pt_cmpR op_lt (pv 3) pe_int (nomark _)) (pss_one (ps_ret (pe_tup (pa_cons pe_str (pa_cons (pe_ix ix_str pe_str (pe_op op_mod (pe_ix ix_list (pv 0) pe_int (fun _ _ => rfl)) pe_int) (fun _ _ => rfl)) pa_nil))))) pss_nil) (pss_cons (ps_if (pt_cmpR op_lt (pv 3) pe_int (nomark _)) (pss_cons (ps_set (i := 4) nd rfl (by first | exact Or.inl rfl | exact Or.inr rfl) (pe_op op_mod (pe_ix ix_list (pv 0) pe_int (fun _ _ => rfl)) pe_int)) (pss_cons (ps_if (pt_val (pv 2)) (pss_one (ps_set (i := 4) nd rfl (by first | exact Or.inl rfl | exact Or.inr rfl) (pe_op op_add (pe_op op_add (pv 1) pe_int) (pe_op op_mod (pe_ix ix_list (pv 0) pe_int (fun _ _ => rfl)) pe_int)))) pss_nil) (pss_one (ps_if (PW.pt (pw_and (pt_cmpR op_lt (pv 4) pe_int (nomark _)) (pw_and1 (PW.pt (pw_or (pt_cmpR op_lt (pv 4) pe_int (nomark _)) (pw_or1 (pt_not (pt_val (pv 2))))))))) (pss_one (ps_ret (pe_tup (pa_cons pe_str (pa_cons (pe_ix ix_list (pe_lst (pa_cons pe_int (pa_cons pe_int (pa_cons pe_int (pa_cons pe_int (pa_cons pe_int pa_nil)))))) (pe_op op_mod (pe_ix ix_list (pv 0) pe_int (fun _ _ => rfl)) pe_int) (fun _ _ => rfl)) (pa_cons (pe_ix ix_str pe_str (pv 4) (fun _ _ => rfl)) pa_nil)))))) pss_nil)))) pss_nil) (pss_one (ps_ret (pe_tup (pa_cons pe_str (pa_cons (C8.pe_c C__law_text hr (by decide) rfl (pa_cons (pe_ix ix_list (pv 0) pe_int (fun _ _ => rfl)) pa_nil)) pa_nil)))))))))
end Wf
/-! The law's document, whole. -/
namespace Wf
open PySem L2
def opn1 (o : Bool) : Ln → Bool
  | .head _ => true
  | .prose _ => false
  | _ => true
def opn (o : Bool) (d : List Ln) : Bool := d.foldl opn1 o
theorem vd_cons (o : Bool) (l : Ln) (r : List Ln) : vd o (l :: r) = (vd o [l] && vd (opn1 o l) r) := by
  cases l <;> cases o <;> simp [vd, opn1]
theorem vd_snoc : ∀ (d : List Ln) (o : Bool) (l : Ln), vd o (d ++ [l]) = (vd o d && vd (opn o d) [l]) := by
  intro d
  induction d with
  | nil => intro o l; simp [vd, opn]
  | cons x d ih =>
    intro o l
    rw [List.cons_append, vd_cons, ih, vd_cons o x d, Bool.and_assoc]
    rfl
theorem opn_snoc (d : List Ln) (o : Bool) (l : Ln) : opn o (d ++ [l]) = opn1 (opn o d) l := by
  unfold opn
  rw [List.foldl_append]
  rfl
section
variable {K : PySem.W.Frag} {P : Addr} {Γ : Env} {ta tb te : TE}
theorem ev_bmS {r : V → List V → Hp → VK → Prop} {x y : Str} {c : PyData} (ha : EvD K P ta Γ (.str x)) (hb : EvD K P tb Γ (.str y)) (hr : ∀ (H : Hp) (Q : VK) (I : Hp), (∀ v, Dx K I v c → Q v H) → r (.str x) [.str y] H Q) : EvD K P (tBM K "str" r ta (tCons tb tNil)) Γ c := fun I H σ E Q q => by
  refine ha I H σ E _ fun v d I1 H1 e w1 r1 => ?_
  subst e
  cases r1
  refine ⟨rfl, ?_⟩
  refine hb I1 H1 σ (E.mono w1) _ fun v d I2 H2 e w2 r2 => ?_
  subst e
  cases r2
  exact hr H2 Q I2 fun v hv => q v _ I2 H2 rfl (w1.trans w2) hv
theorem ev_find {x y : Str} (ha : EvD K P ta Γ (.str x)) (hb : EvD K P tb Γ (.str y)) : EvD K P (tBM K "str" rFind ta (tCons tb tNil)) Γ (.int (Txt.find x y)) := ev_bmS ha hb fun H Q I q => ⟨x, y, rfl, rfl, q _ (.int _)⟩
theorem find_letter : ∀ k, k < 5 → Txt.find "abcde" ⟨#[97 + k]⟩ = (k : Int) := by decide +kernel
theorem ev_inST {neg : Bool} {n : Str} {ns : List Str} (ha : EvD K P ta Γ (.str n)) (hb : EvD K P tb Γ (.tuple (ns.map .str))) : EvD K P (tOp (rIn K neg) ta tb) Γ (.bool (if neg then !decide (n ∈ ns) else decide (n ∈ ns))) := ev_op ha hb rop_inST
theorem in_lines (l : Ln) : decide (l.kind ∈ (["code", "use"] : List Str)) = l.isLine := by
  cases l
  · exact (decide_eq_false (by dsimp only [Ln.kind]; decide +kernel)).trans rfl
  · exact (decide_eq_true (by dsimp only [Ln.kind]; decide +kernel)).trans rfl
  · exact (decide_eq_true (by dsimp only [Ln.kind]; decide +kernel)).trans rfl
  · exact (decide_eq_false (by dsimp only [Ln.kind]; decide +kernel)).trans rfl
theorem gd_snoc {d : List Ln} {m : Nat} {l : Ln} (h : GD d m) (hl : LineOk l) (hv : Wf.vd (opn false d) [l] = true) : GD (d ++ [l]) (m + 1) := by
  refine ⟨by rw [List.length_append]; exact Nat.add_le_add_right h.len 1, fun x hx => ?_, by rw [vd_snoc, h.vd, hv]; rfl⟩
  rcases List.mem_append.mp hx with hx | hx
  · exact h.ok x hx
  · rcases List.mem_singleton.mp hx with rfl
    exact hl
end
abbrev s__law_document : Stmt := topS 51
abbrev N__law_document : List Str := ["_law_script", "_law_at", "_law_count", "_law_calm", "_law_document_here", "_law_current", "_law_is_open", "_law_k", "_law_line_here"]
theorem sc__law_document : FnScope N__law_document ["_law_script", "_law_at", "_law_count", "_law_calm"] (defScope s__law_document) := ⟨rfl, rfl, rfl, by decide +kernel, rfl, by decide +kernel, by decide +kernel⟩
def t__law_document (K : PySem.W.Frag) (P : Addr) : TS :=
  (tSeq (tAsg (tLst (tCons (tTup (tCons (tC (.str "head")) (tCons (tC (.str "a")) tNil))) tNil)) (gName 4)) (tSeq (tAsg (tC (.int 0)) (gName 5)) (tSeq (tAsg (tC (.bl true)) (gName 6)) (tSeq (tFor (iRng1 (tCons (tVar 2) tNil)) (gName 7) (tSeq (tAsg (tCall (pm__law_line.sp K P) [] E0 (tCons (tCall (pm__law_draws.sp K P) [] E0 (tCons (tCall (pm__law_cell.sp K P) [] E0 (tCons (tVar 0) (tCons (tOp rAddI (tVar 1) (tVar 7)) tNil))) (tCons (tC (.int 5)) tNil))) (tCons (tVar 5) (tCons (tVar 3) tNil)))) (gName 8)) (tSeq (tIfS (tAnd (tNot (tB (tVar 6))) (tTest (tOp (rIn K false) (tOp (rIxT K) (tVar 8) (tC (.int 0))) (tTup (tCons (tC (.str "code")) (tCons (tC (.str "use")) tNil)))))) (tAsg (tTup (tCons (tC (.str "head")) (tCons (tOp rIxS (tC (.str "abcde")) (tOp rModI (tCall (pm__law_cell.sp K P) [] E0 (tCons (tVar 0) (tCons (tOp rAddI (tVar 1) (tVar 7)) tNil))) (tC (.int 5)))) tNil))) (gName 8)) tNext) (tSeq (tAsg (tOp rNe (tOp (rIxT K) (tVar 8) (tC (.int 0))) (tC (.str "prose"))) (gName 6)) (tSeq (tIfS (tTest (tOp rEq (tOp (rIxT K) (tVar 8) (tC (.int 0))) (tC (.str "head")))) (tAsg (tBM K "str" rFind (tC (.str "abcde")) (tCons (tOp (rIxT K) (tVar 8) (tC (.int 1))) tNil)) (gName 5)) tNext) (tDrop (tBM K "list" rAppend (tVar 4) (tCons (tVar 8) tNil)))))))) (tRet (tCB (rTupOf K) (tCons (tVar 4) tNil)))))))
def pm__law_document : Pm := ⟨List Int × Nat × Nat × Bool, fun x => [.scr x.1, .dat (.int x.2.1), .dat (.int x.2.2.1), .dat (.bool x.2.2.2)], fun x => x.2.2.1 ≤ 25, fun x r => ∃ d, GD d 26 ∧ r = .dat (docD d)⟩
abbrev docE (ns : List Int) (at_ n : Nat) (calm : Bool) (p : Addr) (d : List Ln) (cur : Nat) (a b : Slot) : Env := [.imm (.scr ns), .imm (.dat (.int at_)), .imm (.dat (.int n)), .imm (.dat (.bool calm)), .own p (d.map lnD), .imm (.dat (.int cur)), .imm (.dat (.bool (opn false d))), a, b]
/-- the rest of the loop's body: the line is l -/
theorem doc_tail {K : PySem.W.Frag} {P : Addr} {ns : List Int} {at_ n : Nat} {calm : Bool} {p : Addr} {d : List Ln} {cur : Nat} {a : Slot} {l : Ln} {N B C : Env → Prop} {R : Env → DD → Prop} (h : LineOk l) (hv : vd (opn false d) [l] = true) (hl : d.length ≤ 1000) (hN : ∀ cur' b, cur' ≤ 4 → N (docE ns at_ n calm p (d ++ [l]) cur' a b)) (hc : cur ≤ 4) :
    EvS K P I0 H0 (tSeq (tAsg (tOp rNe (tOp (rIxT K) (tVar 8) (tC (.int 0))) (tC (.str "prose"))) (gName 6)) (tSeq (tIfS (tTest (tOp rEq (tOp (rIxT K) (tVar 8) (tC (.int 0))) (tC (.str "head")))) (tAsg (tBM K "str" rFind (tC (.str "abcde")) (tCons (tOp (rIxT K) (tVar 8) (tC (.int 1))) tNil)) (gName 5)) tNext) (tDrop (tBM K "list" rAppend (tVar 4) (tCons (tVar 8) tNil)))))
      (docE ns at_ n calm p d cur a (.imm (.dat (lnD l)))) N R B C := by
  have eo : (!decide (l.kind = "prose")) = opn false (d ++ [l]) := by
    rw [kind_prose, opn_snoc]
    cases l <;> rfl
  have em : d.map lnD ++ [lnD l] = (d ++ [l]).map lnD := by simp
  refine sv_seq (sv_asgE (ev_neS (ev_kind (l := l) (ev_var rfl)) ev_str) ?_)
  rw [eo]
  refine sv_cut (fun Γ' => ∃ cur', cur' ≤ 4 ∧ Γ' = [.imm (.scr ns), .imm (.dat (.int at_)), .imm (.dat (.int n)), .imm (.dat (.bool calm)), .own p (d.map lnD), .imm (.dat (.int (cur' : Nat))), .imm (.dat (.bool (opn false (d ++ [l])))), a, .imm (.dat (lnD l))])
    (sv_if (et_test (ev_eqS (ev_kind (l := l) (ev_var rfl)) ev_str)) (fun q => ?_) (fun q => ?_)) fun Γ' hh => ?_
  · rw [kind_head] at q
    cases l with
    | head m =>
      obtain ⟨k, hk, rfl⟩ := h
      refine sv_asgE (EvD.as (ev_find ev_str (ev_ln1 (l := .head ⟨#[97 + k]⟩) (t := ⟨#[97 + k]⟩) (ev_var rfl) rfl)) (by rw [find_letter k hk])) ⟨k, by omega, rfl⟩
    | use i m => cases q
    | code m => cases q
    | prose m => cases q
  · exact sv_next ⟨cur, hc, rfl⟩
  · obtain ⟨cur', hc', rfl⟩ := hh
    refine sv_append (d := lnD l) rfl (ev_var rfl) (by rw [List.length_map]; omega) ?_
    rw [em]
    exact hN cur' _ hc'
theorem vd_of (o : Bool) (l : Ln) (h : (!o && l.isLine) = false) : vd o [l] = true := by
  cases l <;> cases o <;> first | rfl | cases h
theorem ev__law_document {K : PySem.W.Frag} {P : Addr} : pm__law_document.Ok K P I0 H0 N__law_document.length (t__law_document K P) := fun x hx => by
  obtain ⟨ns, at_, n, calm⟩ := x
  have hn : n ≤ 25 := hx
  refine sv_seq (sv_asgN (en_lst (ds := [lnD (.head "a")]) (ea1 (ev_tup (ds := [.str "head", .str "a"]) (ea_cons ev_str (ea1 ev_str))))) fun p => ?_)
  refine sv_seq (sv_asgE ev_int ?_)
  refine sv_seq (sv_asgE ev_bl ?_)
  refine sv_seq (sv_for (ds := (List.range' 0 n).map fun i => PyData.int (i : Nat)) (fun r Γ' => ∃ (k m : Nat) (d : List Ln) (cur : Nat) (a b : Slot), r = ((List.range' k m).map fun i => PyData.int (i : Nat)) ∧ k + m = n ∧ GD d (k + 1) ∧ cur ≤ 4 ∧ Γ' = docE ns at_ n calm p d cur a b)
    ?_ ⟨0, n, [.head "a"], 0, _, _, rfl, by omega, ?_, by omega, rfl⟩ (fun x r Γ' h => ?_) (fun Γ' h => ?_))
  · have := ei_range1 (K := K) (P := P) (Γ := ((((startE N__law_document.length [.scr ns, .dat (.int at_), .dat (.int n), .dat (.bool calm)]).set 4 (.own p [lnD (.head "a")])).set 5 (.imm (.dat (.int 0)))).set 6 (.imm (.dat (.bool true))))) (te := tVar 2) (n := (n : Int)) (ev_var rfl) (by omega) (by omega)
    rw [rangeD_eq] at this
    exact this
  · refine ⟨by simp, fun l hl => ?_, rfl⟩
    rcases List.mem_singleton.mp hl with rfl
    exact ⟨0, by omega, by decide +kernel⟩
  · obtain ⟨k, m, d, cur, a, b, e, hkm, hd, hc, rfl⟩ := h
    cases m with
    | zero => cases e
    | succ m =>
      rw [rangeD_cons] at e
      cases e
      refine eg_name ?_
      have cell : ∀ s, Ev K P (tCall (pm__law_cell.sp K P) [] E0 (tCons (tVar 0) (tCons (tOp rAddI (tVar 1) (tVar 7)) tNil))) (docE ns at_ n calm p d cur (.imm (.dat (.int k))) s) (fun r => ∃ v : Int, r = .dat (.int v)) := fun s =>
        ev_call (X := List Int × Int) (ns, (at_ : Int) + (k : Int)) (ea_cons (ev_var rfl) (ea1 (ev_add (ev_var rfl) (ev_var rfl)))) (by show 0 ≤ ((at_ : Int) + (k : Int)); omega)
      refine sv_seq (sv_asg (D := fun r => ∃ l, LineOk l ∧ r = .dat (lnD l)) (ev_callP (ea_consP (D := fun r => ∃ ns : List Int, ns.length = 5 ∧ r = .dat (intsD ns)) (ev_callP (ea_consP (cell b) (ea1 ev_int)) fun l hl => ?_) (ea_cons (ev_var rfl) (ea1 (ev_var rfl)))) fun l hl => ?_) fun r hr => ?_)
      · obtain ⟨r, rs, rfl, ⟨v, rfl⟩, rfl⟩ := hl
        exact ⟨(v, 5), rfl, (by show (5 : Nat) ≤ 1000; omega), fun r hr => hr⟩
      · obtain ⟨r, rs, rfl, ⟨is, hl5, rfl⟩, rfl⟩ := hl
        exact ⟨(is, cur, calm), rfl, ⟨hl5, hc⟩, fun r hr => hr⟩
      obtain ⟨l, hl, rfl⟩ := hr
      have hlen : d.length ≤ 1000 := by have := hd.len; omega
      have fin : ∀ (l : Ln) (cur' : Nat) (b' : Slot), LineOk l → vd (opn false d) [l] = true → cur' ≤ 4 → ∃ (k_1 m_1 : Nat) (d_1 : List Ln) (cur : Nat) (a b : Slot), (List.range' (k + 1) m).map (fun i => PyData.int (i : Nat)) = ((List.range' k_1 m_1).map fun i => PyData.int (i : Nat)) ∧ k_1 + m_1 = n ∧ GD d_1 (k_1 + 1) ∧ cur ≤ 4 ∧ docE ns at_ n calm p (d ++ [l]) cur' (.imm (.dat (.int k))) b' = docE ns at_ n calm p d_1 cur a b := fun l cur' b' h1 h2 h3 => ⟨k + 1, m, d ++ [l], cur', _, _, rfl, by omega, gd_snoc hd h1 h2, h3, rfl⟩
      refine sv_cut (fun Γ' => ∃ l, LineOk l ∧ vd (opn false d) [l] = true ∧ Γ' = docE ns at_ n calm p d cur (.imm (.dat (.int k))) (.imm (.dat (lnD l)))) (sv_if (et_and (et_not (et_B (ev_var rfl))) fun _ => et_test (ev_inST (ns := ["code", "use"]) (ev_kind (l := l) (ev_var rfl)) (ev_tup (ds := [.str "code", .str "use"]) (ea_cons ev_str (ea1 ev_str))))) (fun q => ?_) (fun q => ?_)) fun Γ' h => ?_
      · refine sv_asg (D := fun r => ∃ l, LineOk l ∧ vd (opn false d) [l] = true ∧ r = .dat (lnD l)) (ev_tupP (ea_consP (D := (· = .dat (.str "head"))) ev_str (ea_consP (D := fun r => ∃ j, j < 5 ∧ r = .dat (.str ⟨#[97 + j]⟩)) ?_ ea_nil)) fun l hl => ?_) fun r ⟨l, h1, h2, h3⟩ => ⟨l, h1, h2, by rw [h3]; rfl⟩
        · refine ev_opP (D1 := (· = .dat (.str "abcde"))) ev_str (D2 := fun r => ∃ v : Int, r = .dat (.int (v % 5))) (ev_opP (cell _) (D2 := (· = .dat (.int 5))) ev_int fun a b h1 h2 => ?_) fun a b h1 h2 => ?_
          · obtain ⟨v, rfl⟩ := h1
            exact ⟨.int v, .int 5, .int (v % 5), rfl, h2, rop_mod (by decide), v, rfl⟩
          · obtain ⟨v, rfl⟩ := h2
            obtain ⟨j, hj, e⟩ := letter_at v
            exact ⟨.str "abcde", .int (v % 5), .str ⟨#[97 + j]⟩, h1, rfl, rop_ixS (by decide +kernel) e, j, hj, rfl⟩
        · obtain ⟨x, r, rfl, rfl, y, r2, rfl, ⟨j, hj, rfl⟩, rfl⟩ := hl
          exact ⟨[.str "head", .str ⟨#[97 + j]⟩], rfl, by simp, .head ⟨#[97 + j]⟩, ⟨j, hj, rfl⟩, rfl, rfl⟩
      · refine sv_next ⟨l, hl, vd_of _ _ ?_, rfl⟩
        rw [← in_lines]
        exact q
      · obtain ⟨l, h1, h2, rfl⟩ := h
        exact doc_tail h1 h2 hlen (fun cur' b' h3 => fin l cur' b' h1 h2 h3) hc
  · obtain ⟨k, m, d, cur, a, b, e, hkm, hd, hc, rfl⟩ := h
    cases m with
    | succ m => cases e
    | zero =>
      refine sv_freeze (i := 4) rfl ?_
      refine sv_retE (d := .dat (docD d)) (ev_callB (ea1 (ev_var rfl)) rc_tupL) ⟨d, ⟨by have := hd.len; omega, hd.ok, hd.vd⟩, rfl⟩
theorem ok__law_document {Pr : Program} {w : World} {K : PySem.W.Frag} {mg : Str → Option Value} {base : Heap} {P : Addr} {f : Addr} {fd : FuncData} (F : L2.Fun K "_law_document" "_law_document" s__law_document f fd) (T : Txt mg) (C__law_cell : C8.Cal Pr w K mg base 1 "_law_cell" (pm__law_cell.sp K P) []) (C__law_line : C8.Cal Pr w K mg base 2 "_law_line" (pm__law_line.sp K P) []) (C__law_draws : C8.Cal Pr w K mg base 1 "_law_draws" (pm__law_draws.sp K P) []) : FnOk Pr w K mg base CX0 3 f fd ["_law_script", "_law_at", "_law_count", "_law_calm"] (pm__law_document.sp K P) := by
  have nd := sc__law_document.nd
  refine Fun.pure F sc__law_document (fun _ => rfl) fun cdv A outer s H E hr => ⟨t__law_document K P, ?_, fun x hx _ _ => ev__law_document x hx⟩
  exact (pss_cons (ps_set (i := 4) nd rfl (by first | exact Or.inl rfl | exact Or.inr rfl) (pe_lst (pa_cons (pe_tup (pa_cons pe_str (pa_cons pe_str pa_nil))) pa_nil))) (pss_cons (ps_set (i := 5) nd rfl (by first | exact Or.inl rfl | exact Or.inr rfl) pe_int) (pss_cons (ps_set (i := 6) nd rfl (by first | exact Or.inl rfl | exact Or.inr rfl) pe_bl) (pss_cons (ps_for PassesOwn.never rfl (pi_range1 (by rfl) T.range (pa_cons (pv 2) pa_nil)) (pg_name (i := 7) nd rfl (by first | exact Or.inl rfl | exact Or.inr rfl)) (pss_cons (ps_set (i := 8) nd rfl (by first | exact Or.inl rfl | exact Or.inr rfl) (C8.pe_c C__law_line hr (by decide) rfl (pa_cons (C8.pe_c C__law_draws hr (by decide) rfl (pa_cons (C8.pe_c C__law_cell hr (by decide) rfl (pa_cons (pv 0) (pa_cons (pe_op op_add (pv 1) (pv 7)) pa_nil))) (pa_cons pe_int pa_nil))) (pa_cons (pv 5) (pa_cons (pv 3) pa_nil))))) (pss_cons (ps_if (PW.pt (pw_and (pt_not (pt_val (pv 6))) (pw_and1 (pt_cmpR op_in_seq (pe_ix ix_tup (pv 8) pe_int (fun _ _ => rfl)) (pe_tup (pa_cons pe_str (pa_cons pe_str pa_nil))) (by rfl))))) (pss_one (ps_set (i := 8) nd rfl (by first | exact Or.inl rfl | exact Or.inr rfl) (pe_tup (pa_cons pe_str (pa_cons (pe_ix ix_str pe_str (pe_op op_mod (C8.pe_c C__law_cell hr (by decide) rfl (pa_cons (pv 0) (pa_cons (pe_op op_add (pv 1) (pv 7)) pa_nil))) pe_int) (fun _ _ => rfl)) pa_nil))))) pss_nil) (pss_cons (ps_set (i := 6) nd rfl (by first | exact Or.inl rfl | exact Or.inr rfl) (pe_cmpR op_ne (pe_ix ix_tup (pv 8) pe_int (fun _ _ => rfl)) pe_str (nomark _))) (pss_cons (ps_if (pt_cmpR op_eq (pe_ix ix_tup (pv 8) pe_int (fun _ _ => rfl)) pe_str (nomark _)) (pss_one (ps_set (i := 5) nd rfl (by first | exact Or.inl rfl | exact Or.inr rfl) (pe_bm PySem.F.plainAttrs_str PySem.F.slot_str_find PySem.F.type_str_find (r := rFind) mt_find pe_str (pa_cons (pe_ix ix_tup (pv 8) pe_int (fun _ _ => rfl)) pa_nil)))) pss_nil) (pss_one (ps_expr (pe_bm PySem.F.plainAttrs_list PySem.F.slot_list_append PySem.F.type_list_append mt_append (pv 4) (pa_cons (pv 8) pa_nil))))))))) (pss_one (ps_ret (pe_callTy (r := rTupOf K) call_tuple_of rfl T.tuple PyProof.Rows.boot_tuple (pa_cons (pv 4) pa_nil))))))))
end Wf
/-! Sections and tables. -/
namespace Wf
open PySem L2
section
variable {K : PySem.W.Frag} {P : Addr} {Γ : Env} {ta tb te : TE}
theorem rgV_nats {a b : Nat} : rgV (a : Int) (b : Int) = (List.range' a (b - a)).map fun (n : Nat) => V.int n := by
  unfold rgV
  have e : ((b : Int) - (a : Int)).toNat = b - a := by omega
  rw [e, List.range'_eq_map_range, List.map_map]
  apply List.map_congr_left
  intro i _
  simp
theorem dxa_nats {I : Hp} : ∀ ns : List Nat, DxA K I (ns.map fun (n : Nat) => V.int n) (natsL ns)
  | [] => .nil
  | n :: ns => .cons (.int _) (dxa_nats ns)
/-- list(range(a, b)) -/
theorem ev_listRg {a b : Nat} (ha : EvD K P ta Γ (.int a)) (hb : EvD K P tb Γ (.int b)) (h1 : a ≤ 100000) (h2 : b ≤ 100000) : EvD K P (tLstRg (tRg2 ta tb)) Γ (.list (natsL (List.range' a (b - a)))) := fun I H σ E Q q => by
  refine ha I H σ E _ fun v d I1 H1 e w1 r1 => ?_
  subst e
  cases r1
  refine hb I1 H1 σ (E.mono w1) _ fun v d I2 H2 e w2 r2 => ?_
  subst e
  cases r2
  refine ⟨a, b, rfl, rfl, RgOk.of_le (by omega) (by omega) (by omega) (by omega), fun p hp => ?_⟩
  rw [rgV_nats]
  have w := (w1.trans w2).ok.new hp (.lst ((List.range' a (b - a)).map fun (n : Nat) => V.int n))
  exact q _ _ _ _ rfl ((w1.trans w2).trans w) (Dx.lst upd_same (dxa_nats _))
theorem ev_succ {i : Nat} (h : EvD K P te Γ (.int i)) : EvD K P (tOp rAddI te (tC (.int 1))) Γ (.int ((i + 1 : Nat) : Int)) := EvD.as (ev_add h ev_int) (by rw [Int.natCast_add]; rfl)
theorem isLine_of {l : Ln} (h1 : (match l with | .head _ => true | _ => false) = false) (h2 : (!l.isProse) = true) : l.isLine = true := by
  cases l with
  | head n => cases h1
  | use a b => rfl
  | code t => rfl
  | prose t => cases h2
theorem set_get {σ : L2.St} {i j : Nat} {v : Option V} : (σ.set i v)[j]? = if i = j then (if j < σ.length then some v else none) else σ[j]? := by
  by_cases c : i = j
  · subst c
    rw [if_pos rfl]
    by_cases h : i < σ.length
    · rw [List.getElem?_set_self h, if_pos h]
    · rw [if_neg h, List.getElem?_eq_none (by simpa using h)]
  · rw [if_neg c, List.getElem?_set_ne c]
theorem wipe3 {σ : L2.St} {i j k : Nat} {a b c : Option V} : L2.wipe ((((L2.wipe σ [i, j, k]).set i a).set j b).set k c) [i, j, k] = L2.wipe σ [i, j, k] := by
  show ((((((((σ.set k none).set j none).set i none).set i a).set j b).set k c).set k none).set j none).set i none = ((σ.set k none).set j none).set i none
  apply List.ext_getElem?
  intro m
  simp only [set_get, List.length_set]
  repeat' split
  all_goals first | rfl | omega | (subst_vars; simp_all)
theorem ew_tup3 {i j k : Nat} {a b c : PyData} : EvW K P (gTup K 3 (gCons (gName i) (gCons (gName j) (gCons (gName k) gNil)))) [i, j, k] (.tuple [a, b, c]) Γ ((((wipeE Γ [i, j, k]).set i (.imm (.dat a))).set j (.imm (.dat b))).set k (.imm (.dat c))) := fun I H σ v E r Q q => by
  cases r with
  | @tup p xs _ h1 h2 =>
    cases h2 with
    | @cons x xs _ _ ra h2 =>
      cases h2 with
      | @cons y xs _ _ rb h2 =>
        cases h2 with
        | @cons z xs _ _ rc h2 =>
          cases h2
          refine ⟨p, _, rfl, sqT_mono E.ok.sub h1, rfl, ?_⟩
          refine ⟨x, _, rfl, y, _, rfl, z, _, rfl, rfl, ?_⟩
          exact q _ wipe3 ((((E.wipe [i, j, k]).set (d := .dat a) ra).set (d := .dat b) rb).set (d := .dat c) rc)
end
abbrev s_sections : Stmt := topS 19
abbrev N_sections : List Str := ["document", "found", "at", "line", "name", "head", "end"]
theorem sc_sections : FnScope N_sections ["document"] (defScope s_sections) := ⟨rfl, rfl, rfl, by decide +kernel, rfl, by decide +kernel, by decide +kernel⟩
def t_sections (K : PySem.W.Frag) (P : Addr) : TS :=
  (tSeq (tAsg (tLst tNil) (gName 1)) (tSeq (tFor (iEnumT K (tCons (tVar 0) tNil)) (gTup K 2 (gCons (gName 2) (gCons (gName 3) gNil))) (tIfS (tTest (tOp rEq (tOp (rIxT K) (tVar 3) (tC (.int 0))) (tC (.str "head")))) (tDrop (tBM K "list" rAppend (tVar 1) (tCons (tTup (tCons (tOp (rIxT K) (tVar 3) (tC (.int 1))) (tCons (tVar 2) (tCons (tOp rAddI (tVar 2) (tC (.int 1))) tNil)))) tNil))) (tIfS (tTest (tOp rNe (tOp (rIxT K) (tVar 3) (tC (.int 0))) (tC (.str "prose")))) (tSeq (tAsg (tOp (rIxL K) (tVar 1) (tUn (rU fun i => .int (-i)) (tC (.int 1)))) (gTup K 3 (gCons (gName 4) (gCons (gName 5) (gCons (gName 6) gNil))))) (tAsg (tTup (tCons (tVar 4) (tCons (tVar 5) (tCons (tOp rAddI (tVar 2) (tC (.int 1))) tNil)))) (gSub (tVar 1) (tUn (rU fun i => .int (-i)) (tC (.int 1))) rSetL))) tNext))) (tRet (tVar 1))))
def secD (s : Sec) : PyData := .tuple [.str s.1, .int s.2.1, .int s.2.2]
def pm_sections : Pm := ⟨List Ln, fun x => [.dat (docD x)], fun x => GD x 300, fun x r => r = .dat (.list ((secs x).map secD))⟩
theorem open_at {acc : List Sec} {o : Bool} {i : Nat} {r : List Ln} {l : Ln} (hv : vd o (l :: r) = true) (hl : l.isLine = true) (h : Open o acc (some "") i ∨ True) : o = true := by
  cases l with
  | head n => cases hl
  | prose n => cases hl
  | use a b => exact (Bool.and_eq_true_iff.mp hv).1
  | code t => exact (Bool.and_eq_true_iff.mp hv).1
theorem ev_sections {K : PySem.W.Frag} {P : Addr} : pm_sections.Ok K P I0 H0 N_sections.length (t_sections K P) := fun (d : List Ln) hd => by
  have hd : GD d 300 := hd
  refine sv_seq (sv_asgN (en_lst (ds := []) ea_nil) fun p => ?_)
  refine sv_seq (sv_for (ds := enumD 0 (d.map lnD)) (fun rest Γ' => ∃ (i : Nat) (r : List Ln) (o : Bool) (acc : List Sec) (s2 s3 s4 s5 s6 : Slot), rest = enumD i (r.map lnD) ∧ (∃ pre, d = pre ++ r ∧ pre.length = i) ∧ vd o r = true ∧ (∃ c, Open o acc c i) ∧ secGo r i acc = secs d ∧ acc.length ≤ i ∧
    Γ' = [.imm (.dat (docD d)), .own p (acc.map secD), s2, s3, s4, s5, s6]) (ei_enumT (ev_var rfl)) ⟨0, d, false, [], _, _, _, _, _, rfl, ⟨[], rfl, rfl⟩, hd.vd, ⟨none, fun z => by cases z⟩, rfl, Nat.le_refl _, rfl⟩ (fun x rest Γ' h => ?_) (fun Γ' h => ?_))
  · obtain ⟨i, r, o, acc, s2, s3, s4, s5, s6, e, ⟨pre, hpre, hpl⟩, hv, ⟨c, ho⟩, hs, hal, rfl⟩ := h
    cases r with
    | nil => cases e
    | cons l r =>
      cases e
      have hi : i < 300 := by
        have := hd.len
        rw [hpre, List.length_append, List.length_cons] at this
        omega
      have hpre' : ∃ pre, d = pre ++ r ∧ pre.length = i + 1 := ⟨pre ++ [l], by rw [hpre]; simp, by simp [hpl]⟩
      refine eg_tup (ds := [.int (i : Nat), lnD l]) rfl (gs_cons (eg_name (gs_cons (eg_name (gs_nil ?_)))))
      refine sv_if (et_test (ev_eqS (ev_kind (l := l) (ev_var rfl)) ev_str)) (fun q => ?_) (fun q => ?_)
      · rw [kind_head] at q
        cases l with
        | head n =>
          refine sv_append (d := secD (n, i, i + 1)) rfl (ev_tup (ds := [.str n, .int (i : Nat), .int ((i + 1 : Nat) : Int)]) (ea_cons (ev_ln1 (l := .head n) (ev_var rfl) rfl) (ea_cons (ev_var rfl) (ea1 (ev_succ (ev_var rfl)))))) (by rw [List.length_map]; omega) ?_
          exact ⟨i + 1, r, true, acc ++ [(n, i, i + 1)], _, _, _, _, _, rfl, hpre', hv, ⟨some n, Open.head⟩, hs, by simp; exact hal, by rw [List.map_append]; rfl⟩
        | use a b => cases q
        | code t => cases q
        | prose t => cases q
      · refine sv_if (et_test (ev_neS (ev_kind (l := l) (ev_var rfl)) ev_str)) (fun q2 => ?_) (fun q2 => ?_)
        · rw [kind_prose] at q2
          rw [kind_head] at q
          have hl : l.isLine = true := isLine_of q q2
          have ho' : o = true := open_at (acc := acc) (i := i) hv hl (.inr trivial)
          obtain ⟨acc', m, hh, rfl, rfl, hle⟩ := ho ho'
          refine sv_seq (sv_asgG (d := .dat (secD (m, hh, i))) (ev_ixOwn (c := secD (m, hh, i)) rfl (ev_neg ev_int) (by rw [List.map_append]; exact atI_last)) (eg_tup (ds := [.str m, .int (hh : Nat), .int (i : Nat)]) rfl (gs_cons (eg_name (gs_cons (eg_name (gs_cons (eg_name (gs_nil ?_)))))))))
          refine sv_setItem (d := secD (m, hh, i + 1)) (k := -1) (j := acc'.length) rfl (ev_tup (ds := [.str m, .int (hh : Nat), .int ((i + 1 : Nat) : Int)]) (ea_cons (ev_var rfl) (ea_cons (ev_var rfl) (ea1 (ev_succ (ev_var rfl)))))) (ev_neg ev_int) ?_ ?_
          · unfold ixN
            rw [if_neg (by decide), if_pos (by simp; omega)]
            simp
            omega
          · have es : ((acc' ++ [(m, hh, i)]).map secD).set acc'.length (secD (m, hh, i + 1)) = (acc' ++ [(m, hh, i + 1)]).map secD := by
              rw [List.map_append, List.map_append, List.set_append_right _ _ (by simp)]
              simp
            have st : secGo r (i + 1) (setEnd (acc' ++ [(m, hh, i)]) (i + 1)) = secs d := by
              rw [← hs]
              cases l <;> first | rfl | cases hl
            rw [setEnd_snoc] at st
            have hv' : vd true r = true := by
              cases l <;> first | exact (Bool.and_eq_true_iff.mp hv).2 | cases hl
            rw [es]
            exact ⟨i + 1, r, true, acc' ++ [(m, hh, i + 1)], _, _, _, _, _, rfl, hpre', hv', ⟨some m, fun _ => ⟨acc', m, hh, rfl, rfl, by omega⟩⟩, st, by simp at hal ⊢; omega, rfl⟩
        · rw [kind_prose] at q2
          cases l with
          | prose t => exact sv_next ⟨i + 1, r, false, acc, _, _, _, _, _, rfl, hpre', hv, ⟨none, fun z => by cases z⟩, hs, by omega, rfl⟩
          | head n => cases q2
          | use a b => cases q2
          | code t => cases q2
  · obtain ⟨i, r, o, acc, s2, s3, s4, s5, s6, e, _, hv, _, hs, hal, rfl⟩ := h
    cases r with
    | cons l r => cases e
    | nil =>
      refine sv_freeze (i := 1) rfl ?_
      refine sv_retE (d := .dat (.list (acc.map secD))) (ev_var rfl) ?_
      rw [show acc = secs d from hs]
      rfl
theorem ok_sections {Pr : Program} {w : World} {K : PySem.W.Frag} {mg : Str → Option Value} {base : Heap} {P : Addr} {f : Addr} {fd : FuncData} (F : L2.Fun K "sections" "sections" s_sections f fd) (T : Txt mg) : FnOk Pr w K mg base CX0 1 f fd ["document"] (pm_sections.sp K P) := by
  have nd := sc_sections.nd
  refine Fun.pure F sc_sections (fun _ => rfl) fun cdv A outer s H E hr => ⟨t_sections K P, ?_, fun x hx _ _ => ev_sections x hx⟩
  exact (pss_cons (ps_set (i := 1) nd rfl (by first | exact Or.inl rfl | exact Or.inr rfl) (pe_lst pa_nil)) (pss_cons (ps_for PassesOwn.never rfl (pi_enumT (by rfl) T.enumerate (pa_cons (pv 0) pa_nil)) (pg_tup rfl (pgs_cons (pg_name (i := 2) nd rfl (by first | exact Or.inl rfl | exact Or.inr rfl)) (pgs_cons (pg_name (i := 3) nd rfl (by first | exact Or.inl rfl | exact Or.inr rfl)) pgs_nil))) (pss_one (ps_if (pt_cmpR op_eq (pe_ix ix_tup (pv 3) pe_int (fun _ _ => rfl)) pe_str (nomark _)) (pss_one (ps_expr (pe_bm PySem.F.plainAttrs_list PySem.F.slot_list_append PySem.F.type_list_append mt_append (pv 1) (pa_cons (pe_tup (pa_cons (pe_ix ix_tup (pv 3) pe_int (fun _ _ => rfl)) (pa_cons (pv 2) (pa_cons (pe_op op_add (pv 2) pe_int) pa_nil)))) pa_nil)))) (pss_one (ps_if (pt_cmpR op_ne (pe_ix ix_tup (pv 3) pe_int (fun _ _ => rfl)) pe_str (nomark _)) (pss_cons (ps_asg (pe_ix ix_list (pv 1) (pe_un un_neg pe_int) (fun _ _ => rfl)) (pg_tup rfl (pgs_cons (pg_name (i := 4) nd rfl (by first | exact Or.inl rfl | exact Or.inr rfl)) (pgs_cons (pg_name (i := 5) nd rfl (by first | exact Or.inl rfl | exact Or.inr rfl)) (pgs_cons (pg_name (i := 6) nd rfl (by first | exact Or.inl rfl | exact Or.inr rfl)) pgs_nil))))) (pss_one (ps_asg (pe_tup (pa_cons (pv 4) (pa_cons (pv 5) (pa_cons (pe_op op_add (pv 2) pe_int) pa_nil)))) (pg_sub (pv 1) (pe_un un_neg pe_int) set_list)))) pss_nil))))) (pss_one (ps_ret (pv 1)))))
abbrev s_table_of : Stmt := topS 20
abbrev N_table_of : List Str := ["document", "table", "name", "head", "end"]
theorem sc_table_of : FnScope N_table_of ["document"] (defScope s_table_of) := ⟨rfl, rfl, rfl, by decide +kernel, rfl, by decide +kernel, by decide +kernel⟩
def t_table_of (K : PySem.W.Frag) (P : Addr) : TS :=
  (tSeq (tAsg tDNewK (gName 1)) (tSeq (tFor (iList K (tCall (pm_sections.sp K P) [] E0 (tCons (tVar 0) tNil))) (gTup K 3 (gCons (gName 2) (gCons (gName 3) (gCons (gName 4) gNil)))) (tDrop (tBM K "list" rExtend (tDSetd (tVar 1) (tVar 2) (tLst tNil)) (tCons (tLstRg (tRg2 (tOp rAddI (tVar 3) (tC (.int 1))) (tVar 4))) tNil)))) (tRet (tVar 1))))
def pm_table_of : Pm := ⟨List Ln, fun x => [.dat (docD x)], fun x => GD x 300, fun x r => ∃ es, Tbl x es ∧ r = .dic es⟩
theorem secR_len {d : List Ln} {s : Sec} (hd : d.length ≤ 300) (h : s ∈ secs d) : (secR s).length ≤ 300 := by
  unfold secR
  rw [List.length_range']
  have := secs_end h
  omega
theorem ev_table_of {K : PySem.W.Frag} {P : Addr} : pm_table_of.Ok K P I0 H0 N_table_of.length (t_table_of K P) := fun (d : List Ln) hd => by
  have hd : GD d 300 := hd
  refine sv_seq (sv_newT fun p => ?_)
  refine sv_seq (sv_for (ds := (secs d).map secD) (fun rest Γ' => ∃ (done todo : List Sec) (es : List (Str × Addr × List PyData)) (a b c : Slot), rest = todo.map secD ∧ secs d = done ++ todo ∧ viewT es = secT done [] ∧ es.length ≤ done.length ∧ (∀ e ∈ viewT es, e.2.length ≤ done.length * 300) ∧
    Γ' = [.imm (.dat (docD d)), .ownT p es, a, b, c]) (ei_list (ev_call (X := List Ln) d (ea1 (ev_var rfl)) hd)) ⟨[], secs d, [], _, _, _, rfl, rfl, rfl, Nat.le_refl _, (fun e he => by cases he), rfl⟩ (fun x rest Γ' h => ?_) (fun Γ' h => ?_))
  · obtain ⟨done, todo, es, a, b, c, e, hsec, hv, hl, hb, rfl⟩ := h
    cases todo with
    | nil => cases e
    | cons s todo =>
      cases e
      have hs : s ∈ secs d := by rw [hsec]; simp
      have hdl : done.length < 300 := by
        have h1 := secs_len d
        have h2 := hd.len
        rw [hsec, List.length_append, List.length_cons] at h1
        omega
      have hse := secs_end hs
      have hle := hd.len
      refine eg_tup (ds := [.str s.1, .int (s.2.1 : Nat), .int (s.2.2 : Nat)]) rfl (gs_cons (eg_name (gs_cons (eg_name (gs_cons (eg_name (gs_nil ?_)))))))
      have hr := secR_len hd.len hs
      have hlen : (natsL (secR s)).length ≤ 300 := by
        unfold natsL
        rw [List.length_map]
        exact hr
      refine sv_setdExt (n := s.1) (new := natsL (secR s)) rfl (fun _ => ev_var rfl) (fun _ => ev_listRg (ev_succ (ev_var rfl)) (ev_var rfl) (by omega) (by omega)) (by omega) (fun e he => ?_) (by omega) fun es' hv' => ?_
      · have := hb (e.1, e.2.2) (List.mem_map.mpr ⟨e, he, rfl⟩)
        dsimp only at this
        omega
      · have hv2 : viewT es' = secT (done ++ [s]) [] := by
          rw [hv', hv]
          unfold secT
          rw [List.foldl_append]
          rfl
        have h1 : es'.length = (viewT es').length := by simp [viewT]
        have h2 := ext_len (viewT es) s.1 (natsL (secR s))
        have h3 : (viewT es).length = es.length := by simp [viewT]
        refine ⟨done ++ [s], todo, es', _, _, _, rfl, by rw [hsec]; simp, hv2, ?_, ?_, rfl⟩
        · rw [h1, hv', List.length_append, List.length_singleton]
          omega
        · rw [hv']
          intro e he
          have := ext_all (b := done.length * 300) (fun e he => hb e he) e he
          rw [List.length_append, List.length_singleton]
          omega
  · obtain ⟨done, todo, es, a, b, c, e, hsec, hv, hl, hb, rfl⟩ := h
    cases todo with
    | cons s todo => cases e
    | nil =>
      refine sv_freezeT (i := 1) rfl ?_
      refine sv_retE (d := .dic (tblD (viewT es))) (ev_var rfl) ⟨_, ?_, rfl⟩
      rw [hv, show done = secs d by rw [hsec]; simp]
      exact secT_tbl hd.vd
theorem ok_table_of {Pr : Program} {w : World} {K : PySem.W.Frag} {mg : Str → Option Value} {base : Heap} {P : Addr} {f : Addr} {fd : FuncData} (F : L2.Fun K "table_of" "table_of" s_table_of f fd) (T : Txt mg) (C_sections : C8.Cal Pr w K mg base 1 "sections" (pm_sections.sp K P) []) : FnOk Pr w K mg base CX0 2 f fd ["document"] (pm_table_of.sp K P) := by
  have nd := sc_table_of.nd
  refine Fun.pure F sc_table_of (fun _ => rfl) fun cdv A outer s H E hr => ⟨t_table_of K P, ?_, fun x hx _ _ => ev_table_of x hx⟩
  exact (pss_cons (ps_set (i := 1) nd rfl (by first | exact Or.inl rfl | exact Or.inr rfl) pe_dnewK) (pss_cons (ps_for PassesOwn.never rfl (pi_list (C8.pe_c C_sections hr (by decide) rfl (pa_cons (pv 0) pa_nil))) (pg_tup rfl (pgs_cons (pg_name (i := 2) nd rfl (by first | exact Or.inl rfl | exact Or.inr rfl)) (pgs_cons (pg_name (i := 3) nd rfl (by first | exact Or.inl rfl | exact Or.inr rfl)) (pgs_cons (pg_name (i := 4) nd rfl (by first | exact Or.inl rfl | exact Or.inr rfl)) pgs_nil)))) (pss_one (ps_expr (pe_bm PySem.F.plainAttrs_list PySem.F.slot_list_extend PySem.F.type_list_extend mt_extend (pe_dsetd (pv 1) (pv 2) (pe_lst pa_nil) ⟨rfl, rfl, rfl, rfl⟩) (pa_cons (pe_listRg rfl rfl T.list (prg_2 rfl T.range (pe_op op_add (pv 3) pe_int) (pv 4))) pa_nil))))) (pss_one (ps_ret (pv 1)))))
end Wf
/-! First lines, the law's table. -/
namespace Wf
open PySem L2
abbrev s_first_lines : Stmt := topS 24
abbrev N_first_lines : List Str := ["document", "name", "head", "end"]
theorem sc_first_lines : FnScope N_first_lines ["document"] (defScope s_first_lines) := ⟨rfl, rfl, rfl, by decide +kernel, rfl, by decide +kernel, by decide +kernel⟩
def t_first_lines (K : PySem.W.Frag) (P : Addr) : TS :=
  (tRet (tLc (iList K (tCall (pm_sections.sp K P) [] E0 (tCons (tVar 0) tNil))) (gTup K 3 (gCons (gName 1) (gCons (gName 2) (gCons (gName 3) gNil)))) (tTest (tOp rGtI (tVar 3) (tOp rAddI (tVar 2) (tC (.int 1))))) (tOp rAddI (tVar 2) (tC (.int 1))) [1, 2, 3]))
def pm_first_lines : Pm := ⟨List Ln, fun x => [.dat (docD x)], fun x => GD x 300, fun x r => r = .dat (.list (natsL (fl false x 0)))⟩
def flF : PyData → Option PyData
  | .tuple [_, .int h, .int e] => if h + 1 < e then some (.int (h + 1)) else none
  | _ => none
theorem flF_eq (s : Sec) : flF (secD s) = if s.2.1 + 1 < s.2.2 then some (PyData.int ((s.2.1 + 1 : Nat) : Int)) else none := by
  show (if ((s.2.1 : Int) + 1) < (s.2.2 : Int) then some (PyData.int ((s.2.1 : Int) + 1)) else none) = _
  by_cases c : s.2.1 + 1 < s.2.2
  · rw [if_pos c, if_pos (by omega)]
    rfl
  · rw [if_neg c, if_neg (by omega)]
theorem flF_all (acc : List Sec) : (acc.map secD).filterMap flF = natsL (firstsOf acc) := by
  induction acc with
  | nil => rfl
  | cons s acc ih =>
    have e : firstsOf (s :: acc) = (if s.2.1 + 1 < s.2.2 then [s.2.1 + 1] else []) ++ firstsOf acc := by
      unfold firstsOf
      rw [List.filterMap_cons]
      by_cases c : s.2.1 + 1 < s.2.2
      · simp [c]
      · simp [c]
    rw [List.map_cons, List.filterMap_cons, flF_eq, ih, e]
    by_cases c : s.2.1 + 1 < s.2.2
    · rw [if_pos c, if_pos c]
      rfl
    · rw [if_neg c, if_neg c]
      rfl
theorem ev_first_lines {K : PySem.W.Frag} {P : Addr} : pm_first_lines.Ok K P I0 H0 N_first_lines.length (t_first_lines K P) := fun (d : List Ln) hd => by
  have hd : GD d 300 := hd
  refine sv_retE (d := .dat (.list (natsL (fl false d 0)))) ?_ (Eq.refl (DD.dat (.list (natsL (fl false d 0)))))
  rw [← secs_firsts hd.vd, ← flF_all]
  refine EvN.ev (en_lc flF (fun x => match x with
    | .tuple [a, b, c] => [.imm (.dat (docD d)), .imm (.dat a), .imm (.dat b), .imm (.dat c)]
    | _ => []) (ei_list (ev_call (X := List Ln) d (ea1 (ev_var rfl)) hd)) (by rw [List.length_map]; have h1 := secs_len d; have h2 := hd.len; omega) (fun x hx => ?_) (fun x hx => ?_))
  · obtain ⟨s, hs, rfl⟩ := List.mem_map.mp hx
    exact ew_tup3
  · obtain ⟨s, hs, rfl⟩ := List.mem_map.mp hx
    have ht : EvT K P (tTest (tOp rGtI (tVar 3) (tOp rAddI (tVar 2) (tC (.int 1))))) [.imm (.dat (docD d)), .imm (.dat (.str s.1)), .imm (.dat (.int (s.2.1 : Nat))), .imm (.dat (.int (s.2.2 : Nat)))] (decide (((s.2.1 + 1 : Nat) : Int) < (s.2.2 : Nat))) := et_test (ev_op (ev_var rfl) (ev_succ (ev_var rfl)) rop_gt)
    by_cases c : s.2.1 + 1 < s.2.2
    · refine .inr ⟨_, by rw [flF_eq, if_pos c], ?_, ev_succ (ev_var rfl)⟩
      rw [decide_eq_true (by omega)] at ht
      exact ht
    · refine .inl ⟨by rw [flF_eq, if_neg c], ?_⟩
      rw [decide_eq_false (by omega)] at ht
      exact ht
theorem ok_first_lines {Pr : Program} {w : World} {K : PySem.W.Frag} {mg : Str → Option Value} {base : Heap} {P : Addr} {f : Addr} {fd : FuncData} (F : L2.Fun K "first_lines" "first_lines" s_first_lines f fd) (T : Txt mg) (C_sections : C8.Cal Pr w K mg base 1 "sections" (pm_sections.sp K P) []) : FnOk Pr w K mg base CX0 2 f fd ["document"] (pm_first_lines.sp K P) := by
  have nd := sc_first_lines.nd
  refine Fun.pure F sc_first_lines (fun _ => rfl) fun cdv A outer s H E hr => ⟨t_first_lines K P, ?_, fun x hx _ _ => ev_first_lines x hx⟩
  exact (pss_one (ps_ret (pe_lc (own := [("name", 1), ("head", 2), ("end", 3)]) (g := (gTup K 3 (gCons (gName 1) (gCons (gName 2) (gCons (gName 3) gNil))))) (tt := (tTest (tOp rGtI (tVar 3) (tOp rAddI (tVar 2) (tC (.int 1)))))) rfl nd (pi_list (C8.pe_c C_sections hr (by decide) rfl (pa_cons (pv 0) pa_nil))) (blkOk_by (N := N_first_lines) (sc := defScope s_first_lines) (by decide +kernel)) (fun _ _ _ _ _ => (pg_tup rfl (pgs_cons (pg_name (i := 1) nd rfl (by first | exact Or.inl rfl | exact Or.inr rfl)) (pgs_cons (pg_name (i := 2) nd rfl (by first | exact Or.inl rfl | exact Or.inr rfl)) (pgs_cons (pg_name (i := 3) nd rfl (by first | exact Or.inl rfl | exact Or.inr rfl)) pgs_nil))))) (fun _ _ _ _ _ => (pts_one (pt_cmpR op_gt (pv 3) (pe_op op_add (pv 2) pe_int) (nomark _)))) (fun _ _ _ _ _ => (pe_op op_add (pv 2) pe_int)))))
abbrev s__law_table : Stmt := topS 52
abbrev N__law_table : List Str := ["_law_document_here", "_law_table_here", "_law_name", "_law_at"]
theorem sc__law_table : FnScope N__law_table ["_law_document_here"] (defScope s__law_table) := ⟨rfl, rfl, rfl, by decide +kernel, rfl, by decide +kernel, by decide +kernel⟩
def t__law_table (K : PySem.W.Frag) (P : Addr) : TS :=
  (tSeq (tAsg tDNewK (gName 1)) (tSeq (tAsg (tC (.str "")) (gName 2)) (tSeq (tFor (iRng1 (tCons (tCB (rLen K) (tCons (tVar 0) tNil)) tNil)) (gName 3) (tIfS (tTest (tOp rEq (tOp (rIxT K) (tOp (rIxT K) (tVar 0) (tVar 3)) (tC (.int 0))) (tC (.str "head")))) (tSeq (tAsg (tOp (rIxT K) (tOp (rIxT K) (tVar 0) (tVar 3)) (tC (.int 1))) (gName 2)) (tIfS (tB (tDNotIn (tVar 2) (tVar 1))) (sDPut (tVar 1) (tVar 2) (tLst tNil)) tNext)) (tIfS (tTest (tOp rNe (tOp (rIxT K) (tOp (rIxT K) (tVar 0) (tVar 3)) (tC (.int 0))) (tC (.str "prose")))) (tDrop (tBM K "list" rAppend (tDGet (tVar 1) (tVar 2)) (tCons (tVar 3) tNil))) tNext))) (tRet (tVar 1)))))
def pm__law_table : Pm := ⟨List Ln, fun x => [.dat (docD x)], fun x => GD x 300, fun x r => ∃ es, Tbl x es ∧ r = .dic es⟩
theorem ev__law_table {K : PySem.W.Frag} {P : Addr} : pm__law_table.Ok K P I0 H0 N__law_table.length (t__law_table K P) := fun (d : List Ln) hd => by
  have hd : GD d 300 := hd
  have hlen := hd.len
  refine sv_seq (sv_newT fun p => ?_)
  refine sv_seq (sv_asgE ev_str ?_)
  refine sv_seq (sv_for (ds := (List.range' 0 d.length).map fun i => PyData.int (i : Nat)) (fun rest Γ' => ∃ (i m : Nat) (r : List Ln) (o : Bool) (c : Str) (es : List (Str × Addr × List PyData)) (s : Slot), rest = ((List.range' i m).map fun i => PyData.int (i : Nat)) ∧ r.length = m ∧ (∃ pre, d = pre ++ r ∧ pre.length = i) ∧ vd o r = true ∧ (o = true → c ∈ (viewT es).map (·.1)) ∧ ltGo r i c (viewT es) = ltGo d 0 "" [] ∧ es.length ≤ i ∧ (∀ e ∈ viewT es, e.2.length ≤ i) ∧
    Γ' = [.imm (.dat (docD d)), .ownT p es, .imm (.dat (.str c)), s]) ?_ ⟨0, d.length, d, false, "", [], _, rfl, rfl, ⟨[], rfl, rfl⟩, hd.vd, (fun z => by cases z), rfl, Nat.le_refl _, (fun e he => by cases he), rfl⟩ (fun x rest Γ' h => ?_) (fun Γ' h => ?_))
  · have := ei_range1 (K := K) (P := P) (Γ := (((startE N__law_table.length [.dat (docD d)]).set 1 (.ownT p [])).set 2 (.imm (.dat (.str ""))))) (te := tCB (rLen K) (tCons (tVar 0) tNil)) (n := (d.length : Int)) (ev_callB (ea1 (ev_var rfl)) (rc_lenT.as (by simp))) (by omega) (by omega)
    rw [rangeD_eq] at this
    exact this
  · obtain ⟨i, m, r, o, c, es, s, e, hm, ⟨pre, hpre, hpl⟩, hv, ho, hgo, hl, hb, rfl⟩ := h
    cases r with
    | nil =>
      subst hm
      cases e
    | cons l r =>
      subst hm
      rw [List.length_cons, rangeD_cons] at e
      cases e
      have hget : d[i]? = some l := by rw [hpre, ← hpl]; simp
      have hi : i < 300 := by
        rw [hpre, List.length_append, List.length_cons] at hlen
        omega
      have hpre' : ∃ pre, d = pre ++ r ∧ pre.length = i + 1 := ⟨pre ++ [l], by rw [hpre]; simp, by simp [hpl]⟩
      have hvl : (viewT es).length = es.length := by simp [viewT]
      have up : ∀ e ∈ viewT es, e.2.length ≤ i + 1 := fun e he => Nat.le_succ_of_le (hb e he)
      refine eg_name (sv_if (et_test (ev_eqS (ev_kind (l := l) (ev_docAt (ev_var rfl) (ev_var rfl) hget)) ev_str)) (fun q => ?_) (fun q => ?_))
      · rw [kind_head] at q
        cases l with
        | head n =>
          refine sv_seq (sv_asgE (ev_ln1 (l := .head n) (ev_docAt (ev_var rfl) (ev_var rfl) hget) rfl) ?_)
          refine sv_if (et_B (ev_notinT (n := n) (es := es) (ev_var rfl) rfl)) (fun q2 => ?_) (fun q2 => ?_)
          · have q2 : n ∉ (viewT es).map (·.1) := of_decide_eq_false (Bool.not_eq_true' _ |>.mp q2)
            refine sv_putT (n := n) (es := es) rfl (ev_var rfl) q2 (by omega) fun es' hv' => ?_
            have hl' : es'.length = es.length + 1 := by
              have := congrArg List.length hv'
              simpa [viewT] using this
            refine ⟨i + 1, r.length, r, true, n, es', _, rfl, rfl, hpre', hv, (fun _ => by rw [hv']; simp), ?_, by omega, ?_, rfl⟩
            · rw [hv', ← hgo, ltGo, if_neg q2]
            · rw [hv']
              intro e he
              rcases List.mem_append.mp he with he | he
              · exact up e he
              · rcases List.mem_singleton.mp he with rfl
                exact Nat.zero_le _
          · have q2 : n ∈ (viewT es).map (·.1) := by
              rw [Bool.not_eq_false'] at q2
              exact of_decide_eq_true q2
            refine sv_next ⟨i + 1, r.length, r, true, n, es, _, rfl, rfl, hpre', hv, (fun _ => q2), ?_, by omega, up, rfl⟩
            rw [← hgo, ltGo, if_pos q2]
        | use a b => cases q
        | code t => cases q
        | prose t => cases q
      · rw [kind_head] at q
        refine sv_if (et_test (ev_neS (ev_kind (l := l) (ev_docAt (ev_var rfl) (ev_var rfl) hget)) ev_str)) (fun q2 => ?_) (fun q2 => ?_)
        · rw [kind_prose] at q2
          have hline := isLine_of q q2
          have ho' : o = true := open_at (acc := []) (i := i) hv hline (.inr trivial)
          refine sv_appT (n := c) (es := es) rfl (ev_var rfl) (ev_var rfl) (ho ho') (fun e he => ?_) fun es' hv' => ?_
          · have := hb (e.1, e.2.2) (List.mem_map.mpr ⟨e, he, rfl⟩)
            dsimp only at this
            omega
          · have hl' : es'.length ≤ es.length + 1 := by
              have h1 := congrArg List.length hv'
              have h2 := ext_len (viewT es) c [.int (i : Nat)]
              have h3 : (viewT es').length = es'.length := by simp [viewT]
              omega
            have hv2 : vd true r = true := by
              cases l <;> first | exact (Bool.and_eq_true_iff.mp hv).2 | cases hline
            refine ⟨i + 1, r.length, r, true, c, es', _, rfl, rfl, hpre', hv2, (fun _ => by rw [hv']; exact mem_ext.mpr (.inl (ho ho'))), ?_, by omega, ?_, rfl⟩
            · rw [hv', ← hgo]
              cases l <;> first | rfl | cases hline
            · rw [hv']
              exact ext_all hb
        · rw [kind_prose] at q2
          cases l with
          | prose t => exact sv_next ⟨i + 1, r.length, r, false, c, es, _, rfl, rfl, hpre', hv, (fun z => by cases z), by rw [← hgo, ltGo], by omega, up, rfl⟩
          | head n => cases q2
          | use a b => cases q2
          | code t => cases q2
  · obtain ⟨i, m, r, o, c, es, s, e, hm, _, hv, ho, hgo, hl, hb, rfl⟩ := h
    cases r with
    | cons l r =>
      subst hm
      cases e
    | nil =>
      refine sv_freezeT (i := 1) rfl ?_
      refine sv_retE (d := .dic (tblD (viewT es))) (ev_var rfl) ⟨_, ?_, rfl⟩
      rw [show viewT es = ltGo d 0 "" [] from hgo]
      exact ltGo_tbl hd.vd
theorem ok__law_table {Pr : Program} {w : World} {K : PySem.W.Frag} {mg : Str → Option Value} {base : Heap} {P : Addr} {f : Addr} {fd : FuncData} (F : L2.Fun K "_law_table" "_law_table" s__law_table f fd) (T : Txt mg) : FnOk Pr w K mg base CX0 1 f fd ["_law_document_here"] (pm__law_table.sp K P) := by
  have nd := sc__law_table.nd
  refine Fun.pure F sc__law_table (fun _ => rfl) fun cdv A outer s H E hr => ⟨t__law_table K P, ?_, fun x hx _ _ => ev__law_table x hx⟩
  exact (pss_cons (ps_set (i := 1) nd rfl (by first | exact Or.inl rfl | exact Or.inr rfl) pe_dnewK) (pss_cons (ps_set (i := 2) nd rfl (by first | exact Or.inl rfl | exact Or.inr rfl) pe_str) (pss_cons (ps_for PassesOwn.never rfl (pi_range1 (by rfl) T.range (pa_cons (pe_callB (r := rLen K) call_len rfl T.len PySem.boot_len (pa_cons (pv 0) pa_nil)) pa_nil)) (pg_name (i := 3) nd rfl (by first | exact Or.inl rfl | exact Or.inr rfl)) (pss_one (ps_if (pt_cmpR op_eq (pe_ix ix_tup (pe_ix ix_tup (pv 0) (pv 3) (fun _ _ => rfl)) pe_int (fun _ _ => rfl)) pe_str (nomark _)) (pss_cons (ps_set (i := 2) nd rfl (by first | exact Or.inl rfl | exact Or.inr rfl) (pe_ix ix_tup (pe_ix ix_tup (pv 0) (pv 3) (fun _ _ => rfl)) pe_int (fun _ _ => rfl))) (pss_one (ps_if (pt_cmp (pc_dnotin (hu_of hr) (pv 2) (pv 1))) (pss_one (ps_dput (hu_of hr) (pv 1) (pv 2) (pe_lst pa_nil) rfl)) pss_nil))) (pss_one (ps_if (pt_cmpR op_ne (pe_ix ix_tup (pe_ix ix_tup (pv 0) (pv 3) (fun _ _ => rfl)) pe_int (fun _ _ => rfl)) pe_str (nomark _)) (pss_one (ps_expr (pe_bm PySem.F.plainAttrs_list PySem.F.slot_list_append PySem.F.type_list_append mt_append (pe_dget (hu_of hr) (pv 1) (pv 2) (fun _ _ => rfl)) (pa_cons (pv 3) pa_nil)))) pss_nil))))) (pss_one (ps_ret (pv 1))))))
end Wf
/-! closure. -/
namespace Wf
open PySem L2
section
variable {K : PySem.W.Frag} {P : Addr} {Γ : Env} {ta tb te : TE}
/-- table[n] -/
theorem ev_tbl {d : List Ln} {es : List (Key × PyData)} {n : Str} (T : Tbl d es) (hd : EvE K P ta Γ (.dic es)) (hn : EvD K P tb Γ (.str n)) (h : hasHead d n = true) : EvD K P (tDGet ta tb) Γ (.list (natsL (lns d n))) := ev_dget hd hn (y := .inr n) key_str (by rw [T n, if_pos h])
theorem et_notin {d : List Ln} {es : List (Key × PyData)} {n : Str} (T : Tbl d es) (hd : EvE K P ta Γ (.dic es)) (hn : EvD K P tb Γ (.str n)) : EvT K P (tB (tDNotIn tb ta)) Γ (!hasHead d n) := by
  have h := ev_dnotin (ta := tb) (tb := ta) (y := .inr n) hn hd key_str
  rw [T n] at h
  refine (et_B h).is ?_
  by_cases c : hasHead d n = true
  · rw [if_pos c, c]
    rfl
  · rw [if_neg c, eq_false_of_ne_true c]
    rfl
end
abbrev s_closure : Stmt := topS 22
abbrev N_closure : List Str := ["document", "root", "table", "order", "path", "left", "at", "name"]
theorem sc_closure : FnScope N_closure ["document", "root"] (defScope s_closure) := ⟨rfl, rfl, rfl, by decide +kernel, rfl, by decide +kernel, by decide +kernel⟩
def t_closure (K : PySem.W.Frag) (P : Addr) : TS :=
  (tSeq (tAsg (tCall (pm_table_of.sp K P) [] E0 (tCons (tVar 0) tNil)) (gName 2)) (tSeq (tIfS (tB (tDNotIn (tVar 1) (tVar 2))) tNever tNext) (tSeq (tAsg (tLst (tCons (tVar 1) tNil)) (gName 3)) (tSeq (tAsg (tLst (tCons (tVar 1) tNil)) (gName 4)) (tSeq (tAsg (tLst (tCons (tCB (rListOf K) (tCons (tDGet (tVar 2) (tVar 1)) tNil)) tNil)) (gName 5)) (tSeq (tWhile (tTru K (tVar 4)) (tSeq (tIfS (tNot (tTru K (tOp (rIxL K) (tVar 5) (tUn (rU fun i => .int (-i)) (tC (.int 1)))))) (tSeq (tDrop (tBM0 K "list" rPop (tVar 4))) (tSeq (tDrop (tBM0 K "list" rPop (tVar 5))) tCont)) tNext) (tSeq (tAsg (tBM K "list" rPopAt (tOp (rIxL K) (tVar 5) (tUn (rU fun i => .int (-i)) (tC (.int 1)))) (tCons (tC (.int 0)) tNil)) (gName 6)) (tSeq (tIfS (tTest (tOp rNe (tOp (rIxT K) (tOp (rIxT K) (tVar 0) (tVar 6)) (tC (.int 0))) (tC (.str "use")))) tCont tNext) (tSeq (tAsg (tOp (rIxT K) (tOp (rIxT K) (tVar 0) (tVar 6)) (tC (.int 2))) (gName 7)) (tSeq (tIfS (tB (tDNotIn (tVar 7) (tVar 2))) tNever tNext) (tSeq (tIfS (tTest (tOp (rIn K false) (tVar 7) (tVar 4))) tNever tNext) (tIfS (tTest (tOp (rIn K true) (tVar 7) (tVar 3))) (tSeq (tDrop (tBM K "list" rAppend (tVar 3) (tCons (tVar 7) tNil))) (tSeq (tDrop (tBM K "list" rAppend (tVar 4) (tCons (tVar 7) tNil))) (tDrop (tBM K "list" rAppend (tVar 5) (tCons (tCB (rListOf K) (tCons (tDGet (tVar 2) (tVar 7)) tNil)) tNil))))) tNext)))))))) (tRet (tVar 3))))))))
def pm_closure : Pm := ⟨List Ln × Str, fun x => [.dat (docD x.1), .dat (.str x.2)], fun x => GD x.1 300 ∧ OkD x.1 5 x.2, fun x r => ∃ order : List Str, (∀ n ∈ order, OkD x.1 5 n) ∧ x.2 ∈ order ∧ order.length ≤ 301 ∧ r = .dat (.list (order.map .str))⟩
abbrev Stk := List (Str × Addr × List Nat)
abbrev clE (d : List Ln) (root : Str) (es : List (Key × PyData)) (p3 p4 p5 : Addr) (order : List Str) (st : Stk) (s6 s7 : Slot) : Env :=
  [.imm (.dat (docD d)), .imm (.dat (.str root)), .imm (.dic es), .own p3 (order.map .str), .own p4 (st.map fun s => .str s.1), .ownL p5 (st.map fun s => (s.2.1, natsL s.2.2)), s6, s7]
structure ClI (d : List Ln) (root : Str) (order : List Str) (st : Stk) (m : Nat) : Prop where
  root : root ∈ order
  ok : ∀ n ∈ order, OkD d 5 n
  sub : ∀ s ∈ st, s.1 ∈ order
  ab : (st.map (·.1)).Pairwise (Ab d)
  lines : ∀ s ∈ st, ∀ a ∈ s.2.2, a ∈ lns d s.1
  len : st.length ≤ order.length
  unk : order.length + unk d order ≤ 301
  m : m = 1000 * Wf.unk d order + (st.map fun s => s.2.2.length).sum + st.length
theorem sum_snoc (st : Stk) (s : Str × Addr × List Nat) : ((st ++ [s]).map fun s => s.2.2.length).sum = (st.map fun s => s.2.2.length).sum + s.2.2.length := by simp
theorem ClI.pop {d : List Ln} {root : Str} {order : List Str} {st : Stk} {m : Nat} {s : Str × Addr × List Nat} (h : ClI d root order (st ++ [s]) m) : ∃ m', m' < m ∧ ClI d root order st m' := by
  refine ⟨1000 * Wf.unk d order + (st.map fun s => s.2.2.length).sum + st.length, ?_, h.root, h.ok, fun x hx => h.sub x (List.mem_append_left _ hx), ?_, fun x hx => h.lines x (List.mem_append_left _ hx), ?_, h.unk, rfl⟩
  · rw [h.m, sum_snoc, List.length_append, List.length_singleton]
    omega
  · have := h.ab
    rw [List.map_append] at this
    exact (List.pairwise_append.mp this).1
  · have := h.len
    rw [List.length_append, List.length_singleton] at this
    omega
theorem ClI.step {d : List Ln} {root : Str} {order : List Str} {st : Stk} {m : Nat} {t : Str} {q : Addr} {a : Nat} {as : List Nat} (h : ClI d root order (st ++ [(t, q, a :: as)]) m) : ∃ m', m' < m ∧ m' + 1 = m ∧ ClI d root order (st ++ [(t, q, as)]) m' := by
  have hm := h.m
  rw [sum_snoc, List.length_append, List.length_singleton] at hm
  refine ⟨m - 1, by dsimp only [List.length_cons] at hm; omega, by dsimp only [List.length_cons] at hm; omega, h.root, h.ok, fun x hx => ?_, ?_, fun x hx => ?_, ?_, h.unk, ?_⟩
  · rcases List.mem_append.mp hx with hx | hx
    · exact h.sub x (List.mem_append_left _ hx)
    · rcases List.mem_singleton.mp hx with rfl
      exact h.sub (t, q, a :: as) (by simp)
  · have := h.ab
    rw [List.map_append] at this ⊢
    exact this
  · rcases List.mem_append.mp hx with hx | hx
    · exact h.lines x (List.mem_append_left _ hx)
    · rcases List.mem_singleton.mp hx with rfl
      exact fun b hb => h.lines (t, q, a :: as) (by simp) b (List.mem_cons_of_mem _ hb)
  · have := h.len
    rw [List.length_append, List.length_singleton] at this ⊢
    exact this
  · rw [sum_snoc, List.length_append, List.length_singleton, hm]
    dsimp only [List.length_cons]
    omega
theorem ClI.push {d : List Ln} {root : Str} {order : List Str} {st : Stk} {m : Nat} {t n : Str} {q q' : Addr} {a i : Nat} {as : List Nat} (hd : GD d 300) (h : ClI d root order (st ++ [(t, q, as)]) m) (ha : a ∈ lns d t) (hu : d[a]? = some (.use i n)) (hn : n ∉ order) :
    ∃ m', m' < m ∧ ClI d root (order ++ [n]) (st ++ [(t, q, as)] ++ [(n, q', lns d n)]) m' := by
  have ht : OkD d 5 t := h.ok t (h.sub (t, q, as) (by simp))
  have hk : OkD d 4 n := ok_use ht ha hu
  have hun := unk_snoc hk.has hn
  have hm := h.m
  have hln := lns_len d n
  have hdl := hd.len
  have h1 := h.unk
  have h2 := h.len
  refine ⟨_, ?_, List.mem_append_left _ h.root, fun x hx => ?_, fun x hx => ?_, ?_, fun x hx => ?_, ?_, ?_, rfl⟩
  · rw [sum_snoc, List.length_append, List.length_singleton]
    dsimp only
    omega
  · rcases List.mem_append.mp hx with hx | hx
    · exact h.ok x hx
    · rcases List.mem_singleton.mp hx with rfl
      exact hk.mono
  · rcases List.mem_append.mp hx with hx | hx
    · exact List.mem_append_left _ (h.sub x hx)
    · rcases List.mem_singleton.mp hx with rfl
      exact List.mem_append_right _ List.mem_cons_self
  · have hab := h.ab
    rw [List.map_append]
    refine List.pairwise_append.mpr ⟨hab, by simp, fun x hx y hy => ?_⟩
    rcases List.mem_singleton.mp hy with rfl
    have tn := ab_use ha hu
    rw [List.map_append] at hx hab
    rcases List.mem_append.mp hx with hx | hx
    · exact ((List.pairwise_append.mp hab).2.2 x hx t (by simp)).trans tn
    · rcases List.mem_singleton.mp hx with rfl
      exact tn
  · rcases List.mem_append.mp hx with hx | hx
    · exact h.lines x hx
    · rcases List.mem_singleton.mp hx with rfl
      exact fun b hb => hb
  · rw [List.length_append, List.length_append (as := order)]
    simp only [List.length_singleton]
    omega
  · rw [List.length_append, List.length_singleton]
    omega
/-- the name is not on the path -/
theorem ClI.noring {d : List Ln} {root : Str} {order : List Str} {st : Stk} {m : Nat} {t n : Str} {q : Addr} {a i : Nat} {as : List Nat} (h : ClI d root order (st ++ [(t, q, as)]) m) (ha : a ∈ lns d t) (hu : d[a]? = some (.use i n)) : n ∉ (st ++ [(t, q, as)]).map (·.1) := fun hx => by
  have ht : OkD d 5 t := h.ok t (h.sub (t, q, as) (by simp))
  have hk : OkD d 4 n := ok_use ht ha hu
  have tn := ab_use ha hu
  have hab := h.ab
  rw [List.map_append] at hx hab
  rcases List.mem_append.mp hx with hx | hx
  · exact (((List.pairwise_append.mp hab).2.2 n hx t (by simp)).trans tn).irr _ hk
  · rcases List.mem_singleton.mp hx with rfl
    exact tn.irr _ hk
theorem ev_closure {K : PySem.W.Frag} {P : Addr} : pm_closure.Ok K P I0 H0 N_closure.length (t_closure K P) := fun x hx => by
  obtain ⟨d, root⟩ := x
  obtain ⟨hd, hroot⟩ := hx
  dsimp only at hd hroot
  refine sv_seq (sv_asg (ev_call (X := List Ln) d (ea1 (ev_var rfl)) hd) fun r hr => ?_)
  obtain ⟨es, T, rfl⟩ := hr
  refine sv_seq (sv_if (et_notin T (ev_var rfl) (ev_var rfl)) (fun q => ?_) (fun _ => sv_next ?_))
  · rw [hroot.has] at q
    cases q
  refine sv_seq (sv_asgN (en_lst (ds := [.str root]) (ea1 (ev_var rfl))) fun p3 => ?_)
  refine sv_seq (sv_asgN (en_lst (ds := [.str root]) (ea1 (ev_var rfl))) fun p4 => ?_)
  refine sv_seq (sv_asgL1 (en_list (ev_tbl T (ev_var rfl) (ev_var rfl) hroot.has)) fun p5 q0 => ?_)
  have hln := lns_len d root
  have hdl := hd.len
  refine sv_cut (fun Γ' => ∃ order : List Str, (∀ n ∈ order, OkD d 5 n) ∧ root ∈ order ∧ order.length ≤ 301 ∧ ∃ st s6 s7, Γ' = clE d root es p3 p4 p5 order st s6 s7)
    (sv_whileG (fun m Γ' => ∃ order st s6 s7, Γ' = clE d root es p3 p4 p5 order st s6 s7 ∧ ClI d root order st m) ⟨_, [root], [(root, q0, lns d root)], _, _, rfl, List.mem_singleton.mpr rfl, (fun n hn => by rcases List.mem_singleton.mp hn with rfl; exact hroot), (fun s hs => by rcases List.mem_singleton.mp hs with rfl; exact List.mem_cons_self), by simp, (fun s hs => by rcases List.mem_singleton.mp hs with rfl; exact fun a ha => ha), Nat.le_refl _, ?_, rfl⟩ fun m Γ' hI => ?_) fun Γ' h => ?_
  · have := unk_le d [root]
    simp only [List.length_singleton]
    omega
  · obtain ⟨order, st, s6, s7, rfl, I⟩ := hI
    refine ⟨_, et_own rfl, fun q => ?_, fun _ => ⟨order, I.ok, I.root, by have := I.unk; omega, st, s6, s7, rfl⟩⟩
    rcases List.eq_nil_or_concat st with rfl | ⟨st, s, rfl⟩
    · cases q
    obtain ⟨t, qa, as⟩ := s
    rw [List.concat_eq_append] at I ⊢
    have eΓ : clE d root es p3 p4 p5 order (st ++ [(t, qa, as)]) s6 s7 = [.imm (.dat (docD d)), .imm (.dat (.str root)), .imm (.dic es), .own p3 (order.map .str), .own p4 ((st.map fun s => PyData.str s.1) ++ [.str t]), .ownL p5 ((st.map fun s => (s.2.1, natsL s.2.2)) ++ [(qa, natsL as)]), s6, s7] := by
      simp [clE]
    rw [eΓ]
    refine sv_seq (sv_if (et_not (et_lastL (ds := natsL as) rfl)) (fun q => ?_) (fun q => sv_next ?_))
    · refine sv_seq (sv_pop (i := 4) rfl ?_)
      refine sv_seq (sv_popL (i := 5) rfl ?_)
      obtain ⟨m', hm', I'⟩ := I.pop
      exact sv_cont ⟨m', hm', order, st, s6, s7, rfl, I'⟩
    · cases as with
      | nil => cases q
      | cons a as =>
        have ha : a ∈ lns d t := I.lines (t, qa, a :: as) (by simp) a List.mem_cons_self
        obtain ⟨m', hm', hm1, I'⟩ := I.step
        obtain ⟨l, hl, _, hline⟩ := mem_lns ha
        have back : ∀ s6 s7, [Slot.imm (.dat (docD d)), .imm (.dat (.str root)), .imm (.dic es), .own p3 (order.map .str), .own p4 ((st.map fun s => PyData.str s.1) ++ [.str t]), .ownL p5 ((st.map fun s => (s.2.1, natsL s.2.2)) ++ [(qa, natsL as)]), s6, s7] = clE d root es p3 p4 p5 order (st ++ [(t, qa, as)]) s6 s7 := by
          intro s6 s7
          simp [clE]
        refine sv_seq (sv_pop0L (i := 5) (d := .int (a : Nat)) (ds := natsL as) rfl (eg_name ?_))
        refine sv_seq (sv_if (et_test (ev_neS (ev_kind (l := l) (ev_docAt (ev_var rfl) (ev_var rfl) hl)) ev_str)) (fun _ => sv_cont ⟨m', hm', order, st ++ [(t, qa, as)], _, _, back _ _, I'⟩) (fun q2 => sv_next ?_))
        rw [kind_use] at q2
        cases l with
        | head n => cases q2
        | code n => cases q2
        | prose n => cases q2
        | use i n =>
          have ht : OkD d 5 t := I.ok t (I.sub (t, qa, a :: as) (by simp))
          have hk : OkD d 4 n := ok_use ht ha hl
          refine sv_seq (sv_asgE (ev_use2 (ev_docAt (ev_var rfl) (ev_var rfl) hl)) ?_)
          refine sv_seq (sv_if (et_notin T (ev_var rfl) (ev_var rfl)) (fun q3 => ?_) (fun _ => sv_next ?_))
          · rw [hk.has] at q3
            cases q3
          have enames : ((st.map fun s => PyData.str s.1) ++ [.str t]) = ((st ++ [(t, qa, as)]).map (·.1)).map PyData.str := by simp
          refine sv_seq (sv_if (et_test (ev_inOwn (neg := false) (n := n) (ns := (st ++ [(t, qa, as)]).map (·.1)) (p := p4) (ev_var rfl) (by rw [← enames]; rfl))) (fun q3 => ?_) (fun _ => sv_next ?_))
          · exact (I'.noring ha hl (of_decide_eq_true q3)).elim
          refine sv_if (et_test (ev_inOwn (neg := true) (n := n) (ns := order) (ev_var rfl) rfl)) (fun q4 => ?_) (fun _ => sv_next ⟨m', hm', order, st ++ [(t, qa, as)], _, _, back _ _, I'⟩)
          have hno : n ∉ order := of_decide_eq_false (by simpa using q4)
          have h1 := I'.unk
          have h2 := I'.len
          rw [List.length_append, List.length_singleton] at h2
          refine sv_seq (sv_append (d := .str n) rfl (ev_var rfl) (by rw [List.length_map]; omega) ?_)
          refine sv_seq (sv_append (d := .str n) rfl (ev_var rfl) (by rw [List.length_append, List.length_map, List.length_singleton]; omega) ?_)
          refine sv_appendL (ds := natsL (lns d n)) rfl (en_list (ev_tbl T (ev_var rfl) (ev_var rfl) hk.has)) (by rw [List.length_append, List.length_map, List.length_singleton]; omega) fun q' => ?_
          obtain ⟨m2, hm2, I2⟩ := I'.push (q' := q') hd ha hl hno
          refine ⟨m2, by omega, order ++ [n], st ++ [(t, qa, as)] ++ [(n, q', lns d n)], .imm (.dat (.int (a : Nat))), .imm (.dat (.str n)), ?_, I2⟩
          simp [clE]
  · obtain ⟨order, h1, h2, h3, st, s6, s7, rfl⟩ := h
    refine sv_freeze (i := 3) rfl ?_
    exact sv_retE (d := .dat (.list (order.map .str))) (ev_var rfl) ⟨order, h1, h2, h3, rfl⟩
theorem ok_closure {Pr : Program} {w : World} {K : PySem.W.Frag} {mg : Str → Option Value} {base : Heap} {P : Addr} {f : Addr} {fd : FuncData} (F : L2.Fun K "closure" "closure" s_closure f fd) (T : Txt mg) (C_table_of : C8.Cal Pr w K mg base 2 "table_of" (pm_table_of.sp K P) []) : FnOk Pr w K mg base CX0 3 f fd ["document", "root"] (pm_closure.sp K P) := by
  have nd := sc_closure.nd
  refine Fun.pure F sc_closure (fun _ => rfl) fun cdv A outer s H E hr => ⟨t_closure K P, ?_, fun x hx _ _ => ev_closure x hx⟩
  exact (pss_cons (ps_set (i := 2) nd rfl (by first | exact Or.inl rfl | exact Or.inr rfl) (C8.pe_c C_table_of hr (by decide) rfl (pa_cons (pv 0) pa_nil))) (pss_cons (ps_if (pt_cmp (pc_dnotin (hu_of hr) (pv 1) (pv 2))) pss_never pss_nil) (pss_cons (ps_set (i := 3) nd rfl (by first | exact Or.inl rfl | exact Or.inr rfl) (pe_lst (pa_cons (pv 1) pa_nil))) (pss_cons (ps_set (i := 4) nd rfl (by first | exact Or.inl rfl | exact Or.inr rfl) (pe_lst (pa_cons (pv 1) pa_nil))) (pss_cons (ps_set (i := 5) nd rfl (by first | exact Or.inl rfl | exact Or.inr rfl) (pe_lst (pa_cons (pe_callTy (r := rListOf K) call_list_of rfl T.list PyProof.Rows.boot_list (pa_cons (pe_dget (hu_of hr) (pv 2) (pv 1) (fun _ _ => rfl)) pa_nil)) pa_nil))) (pss_cons (ps_while PassesOwn.never (pt_truth (pv 4) (by intro _; rfl)) (pss_cons (ps_if (pt_not (pt_truth (pe_ix ix_list (pv 5) (pe_un un_neg pe_int) (fun _ _ => rfl)) (by intro _; rfl))) (pss_cons (ps_expr (pe_bm0 PySem.F.plainAttrs_list PySem.F.slot_list_pop PySem.F.type_list_pop mt_pop (pv 4))) (pss_cons (ps_expr (pe_bm0 PySem.F.plainAttrs_list PySem.F.slot_list_pop PySem.F.type_list_pop mt_pop (pv 5))) (pss_one ps_continue))) pss_nil) (pss_cons (ps_set (i := 6) nd rfl (by first | exact Or.inl rfl | exact Or.inr rfl) (pe_bm PySem.F.plainAttrs_list PySem.F.slot_list_pop PySem.F.type_list_pop mt_popAt (pe_ix ix_list (pv 5) (pe_un un_neg pe_int) (fun _ _ => rfl)) (pa_cons pe_int pa_nil))) (pss_cons (ps_if (pt_cmpR op_ne (pe_ix ix_tup (pe_ix ix_tup (pv 0) (pv 6) (fun _ _ => rfl)) pe_int (fun _ _ => rfl)) pe_str (nomark _)) (pss_one ps_continue) pss_nil) (pss_cons (ps_set (i := 7) nd rfl (by first | exact Or.inl rfl | exact Or.inr rfl) (pe_ix ix_tup (pe_ix ix_tup (pv 0) (pv 6) (fun _ _ => rfl)) pe_int (fun _ _ => rfl))) (pss_cons (ps_if (pt_cmp (pc_dnotin (hu_of hr) (pv 7) (pv 2))) pss_never pss_nil) (pss_cons (ps_if (pt_cmpR op_in_seq (pv 7) (pv 4) (by rfl)) pss_never pss_nil) (pss_one (ps_if (pt_cmpR op_notIn_seq (pv 7) (pv 3) (by rfl)) (pss_cons (ps_expr (pe_bm PySem.F.plainAttrs_list PySem.F.slot_list_append PySem.F.type_list_append mt_append (pv 3) (pa_cons (pv 7) pa_nil))) (pss_cons (ps_expr (pe_bm PySem.F.plainAttrs_list PySem.F.slot_list_append PySem.F.type_list_append mt_append (pv 4) (pa_cons (pv 7) pa_nil))) (pss_one (ps_expr (pe_bm PySem.F.plainAttrs_list PySem.F.slot_list_append PySem.F.type_list_append mt_append (pv 5) (pa_cons (pe_callTy (r := rListOf K) call_list_of rfl T.list PyProof.Rows.boot_list (pa_cons (pe_dget (hu_of hr) (pv 2) (pv 7) (fun _ _ => rfl)) pa_nil)) pa_nil)))))) pss_nil))))))))) (pss_one (ps_ret (pv 3)))))))))
end Wf
/-! lengths_of. -/
namespace Wf
open PySem L2
abbrev s_lengths_of : Stmt := topS 27
abbrev N_lengths_of : List Str := ["document", "order", "table", "known", "waiting", "name", "needed", "unknown", "at", "other"]
theorem sc_lengths_of : FnScope N_lengths_of ["document", "order"] (defScope s_lengths_of) := ⟨rfl, rfl, rfl, by decide +kernel, rfl, by decide +kernel, by decide +kernel⟩
def t_lengths_of (K : PySem.W.Frag) (P : Addr) : TS :=
  (tSeq (tAsg (tCall (pm_table_of.sp K P) [] E0 (tCons (tVar 0) tNil)) (gName 2)) (tSeq (tAsg tDNewK (gName 3)) (tSeq (tAsg (tCB (rListOf K) (tCons (tVar 1) tNil)) (gName 4)) (tSeq (tWhile (tTru K (tVar 4)) (tSeq (tAsg (tOp (rIxL K) (tVar 4) (tUn (rU fun i => .int (-i)) (tC (.int 1)))) (gName 5)) (tSeq (tAsg (tLc (iList K (tDGet (tVar 2) (tVar 5))) (gName 8) (tTest (tOp rEq (tOp (rIxT K) (tOp (rIxT K) (tVar 0) (tVar 8)) (tC (.int 0))) (tC (.str "use")))) (tOp (rIxT K) (tOp (rIxT K) (tVar 0) (tVar 8)) (tC (.int 2))) [8]) (gName 6)) (tSeq (tAsg (tLc (iList K (tVar 6)) (gName 9) (tB (tDNotIn (tVar 9) (tVar 3))) (tVar 9) [9]) (gName 7)) (tIfS (tB (tDIn (tVar 5) (tVar 3))) (tDrop (tBM0 K "list" rPop (tVar 4))) (tIfS (tTru K (tVar 7)) (tDrop (tBM K "list" rAppend (tVar 4) (tCons (tOp (rIxL K) (tVar 7) (tC (.int 0))) tNil))) (tSeq (sDPut (tVar 3) (tVar 5) (tOp rAddI (tOp rSubI (tCB (rLen K) (tCons (tDGet (tVar 2) (tVar 5)) tNil)) (tCB (rLen K) (tCons (tVar 6) tNil))) (tCB (rSum K) (tCons (tLc (iList K (tVar 6)) (gName 9) tYes (tDGet (tVar 3) (tVar 9)) [9]) tNil)))) (tDrop (tBM0 K "list" rPop (tVar 4)))))))))) (tRet (tVar 3))))))
def pm_lengths_of : Pm := ⟨List Ln × List Str, fun x => [.dat (docD x.1), .dat (.list (x.2.map .str))], fun x => GD x.1 300 ∧ (∀ n ∈ x.2, OkD x.1 5 n) ∧ x.2.length ≤ 301,
  fun x r => ∃ es, Kn x.1 es ∧ (∀ n ∈ x.2, (valD es (.inr n)).isSome = true) ∧ r = .dic es⟩
/-- the stack: names with fuel -/
structure LnI (d : List Ln) (order : List Str) (st : List (Str × Nat)) (es : List (Key × PyData)) (m : Nat) : Prop where
  kn : Kn d es
  stk : ∀ j n k, st[j]? = some (n, k) → OkD d k n ∧ k ≤ 5 ∧ j + 1 + k ≤ 306
  all : ∀ n ∈ order, n ∈ st.map (·.1) ∨ (valD es (.inr n)).isSome = true
  size : es.length + unkD d es ≤ 300
  m : ∃ w, m = 400 * unkD d es + w ∧ (w = st.length + 10 ∨ ∃ st' n k, st = st' ++ [(n, k)] ∧ (valD es (.inr n)).isSome = false ∧ w = k)
theorem LnI.len {d : List Ln} {order : List Str} {st : List (Str × Nat)} {es : List (Key × PyData)} {m : Nat} (h : LnI d order st es m) : st.length ≤ 306 := by
  rcases List.eq_nil_or_concat st with rfl | ⟨a, x, rfl⟩
  · simp
  · have := (h.stk a.length x.1 x.2 (by simp)).2.2
    rw [List.concat_eq_append, List.length_append, List.length_singleton]
    omega
/-- what is left when the top is popped -/
theorem st_pop {d : List Ln} {st : List (Str × Nat)} {x : Str × Nat} (h : ∀ j n k, (st ++ [x])[j]? = some (n, k) → OkD d k n ∧ k ≤ 5 ∧ j + 1 + k ≤ 306) : ∀ j n k, st[j]? = some (n, k) → OkD d k n ∧ k ≤ 5 ∧ j + 1 + k ≤ 306 := fun j n k e =>
  h j n k (by rw [List.getElem?_append_left (List.getElem?_eq_some_iff.mp e).1]; exact e)
/-- the weight of a stack, whatever its top -/
theorem weigh {d : List Ln} {st : List (Str × Nat)} {es : List (Key × PyData)} (h : ∀ j n k, st[j]? = some (n, k) → OkD d k n ∧ k ≤ 5 ∧ j + 1 + k ≤ 306) :
    ∃ w, w ≤ st.length + 10 ∧ (w = st.length + 10 ∨ ∃ st' n k, st = st' ++ [(n, k)] ∧ (valD es (.inr n)).isSome = false ∧ w = k) := ⟨st.length + 10, Nat.le_refl _, .inl rfl⟩
theorem LnI.popK {d : List Ln} {order : List Str} {st : List (Str × Nat)} {es : List (Key × PyData)} {m : Nat} {n : Str} {k : Nat} (h : LnI d order (st ++ [(n, k)]) es m) (hn : (valD es (.inr n)).isSome = true) : ∃ m', m' < m ∧ LnI d order st es m' := by
  obtain ⟨w, hm, hw⟩ := h.m
  refine ⟨400 * unkD d es + (st.length + 10), ?_, h.kn, st_pop h.stk, fun x hx => ?_, h.size, _, rfl, .inl rfl⟩
  · rcases hw with rfl | ⟨st', n', k', e, hf, _⟩
    · rw [List.length_append, List.length_singleton] at hm
      omega
    · obtain ⟨_, e2⟩ := List.append_inj' e rfl
      cases e2
      rw [hn] at hf
      cases hf
  · rcases h.all x hx with q | q
    · rw [List.map_append] at q
      rcases List.mem_append.mp q with q | q
      · exact .inl q
      · rcases List.mem_singleton.mp q with rfl
        exact .inr hn
    · exact .inr q
theorem LnI.push {d : List Ln} {order : List Str} {st : List (Str × Nat)} {es : List (Key × PyData)} {m : Nat} {n o : Str} {k : Nat} (h : LnI d order (st ++ [(n, k)]) es m) (hn : (valD es (.inr n)).isSome = false) (ho : (valD es (.inr o)).isSome = false) (hu : o ∈ usesOf d n) :
    ∃ m' k', m' < m ∧ LnI d order (st ++ [(n, k)] ++ [(o, k')]) es m' := by
  obtain ⟨hk, hk5, hj⟩ := h.stk st.length n k (by simp)
  obtain ⟨a, ha, e⟩ := List.mem_filterMap.mp hu
  have hok : ∃ k', k = k' + 1 ∧ OkD d k' o := by
    cases k with
    | zero => exact hk.elim
    | succ k =>
      refine ⟨k, rfl, ?_⟩
      cases q : d[a]? with
      | none =>
        rw [q] at e
        cases e
      | some l =>
        rw [q] at e
        cases l with
        | use i o' =>
          cases e
          exact ok_use hk ha q
        | head x => cases e
        | code x => cases e
        | prose x => cases e
  obtain ⟨k', rfl, hk'⟩ := hok
  obtain ⟨w, hm, hw⟩ := h.m
  refine ⟨400 * unkD d es + k', k', ?_, h.kn, fun j x kk e => ?_, fun x hx => ?_, h.size, k', rfl, .inr ⟨_, o, k', rfl, ho, rfl⟩⟩
  · rcases hw with rfl | ⟨st', n', k'', e, hf, rfl⟩
    · omega
    · obtain ⟨_, e2⟩ := List.append_inj' e rfl
      cases e2
      omega
  · by_cases c : j < (st ++ [(n, k' + 1)]).length
    · rw [List.getElem?_append_left c] at e
      exact h.stk j x kk e
    · have hlen : (st ++ [(n, k' + 1)]).length = st.length + 1 := by simp
      by_cases c2 : j = st.length + 1
      · subst c2
        rw [List.getElem?_append_right (by omega), hlen, Nat.sub_self] at e
        cases e
        exact ⟨hk', by omega, by omega⟩
      · rw [List.getElem?_eq_none (by rw [List.length_append, hlen, List.length_singleton]; omega)] at e
        cases e
  · rcases h.all x hx with q | q
    · refine .inl ?_
      rw [List.map_append]
      exact List.mem_append_left _ q
    · exact .inr q
theorem LnI.put {d : List Ln} {order : List Str} {st : List (Str × Nat)} {es : List (Key × PyData)} {m : Nat} {n : Str} {k : Nat} (h : LnI d order (st ++ [(n, k)]) es m) (hn : (valD es (.inr n)).isSome = false) (hu : ∀ o ∈ usesOf d n, (valD es (.inr o)).isSome = true) :
    ∃ m', m' < m ∧ LnI d order st (putD es (.inr n) (.int (lenN d 5 n))) m' := by
  obtain ⟨hk, hk5, hj⟩ := h.stk st.length n k (by simp)
  have hun := unkD_put (v := .int (lenN d 5 n)) hk.has hn
  have hlen := h.len
  rw [List.length_append, List.length_singleton] at hlen
  obtain ⟨w, hm, hw⟩ := h.m
  have grow : ∀ x, (valD es (.inr x)).isSome = true → (valD (putD es (.inr n) (.int (lenN d 5 n))) (.inr x)).isSome = true := fun x hx => by
    rw [valD_put]
    by_cases c : (Sum.inr x : Key) = Sum.inr n
    · rw [if_pos c]
      rfl
    · rw [if_neg c]
      exact hx
  have self : (valD (putD es (.inr n) (.int (lenN d 5 n))) (.inr n)).isSome = true := by
    rw [valD_put, if_pos rfl]
    rfl
  refine ⟨400 * unkD d (putD es (.inr n) (.int (lenN d 5 n))) + (st.length + 10), by omega, ⟨fun x v e => ?_, fun x hx o ho => ?_⟩, st_pop h.stk, fun x hx => ?_, ?_, _, rfl, .inl rfl⟩
  · rw [valD_put] at e
    by_cases c : (Sum.inr x : Key) = Sum.inr n
    · rw [if_pos c] at e
      cases e
      cases Sum.inr.inj c
      exact ⟨rfl, hk.le hk5⟩
    · rw [if_neg c] at e
      exact h.kn.val x v e
  · rw [valD_put] at hx
    by_cases c : (Sum.inr x : Key) = Sum.inr n
    · cases Sum.inr.inj c
      exact grow o (hu o ho)
    · rw [if_neg c] at hx
      exact grow o (h.kn.clo x hx o ho)
  · rcases h.all x hx with q | q
    · rw [List.map_append] at q
      rcases List.mem_append.mp q with q | q
      · exact .inl q
      · rcases List.mem_singleton.mp q with rfl
        exact .inr self
    · exact .inr (grow x q)
  · have := putD_len es (.inr n) (.int (lenN d 5 n))
    have := h.size
    omega
abbrev leE (d : List Ln) (order : List Str) (T : List (Key × PyData)) (p3 p4 : Addr) (es : List (Key × PyData)) (st : List (Str × Nat)) (s5 s6 s7 s8 s9 : Slot) : Env :=
  [.imm (.dat (docD d)), .imm (.dat (.list (order.map .str))), .imm (.dic T), .ownD p3 es, .own p4 (st.map fun s => .str s.1), s5, s6, s7, s8, s9]
def nameF (d : List Ln) : PyData → Option PyData
  | .int (.ofNat a) => (useN d[a]?).map PyData.str
  | _ => none
theorem nameF_all (d : List Ln) (l : List Nat) : (natsL l).filterMap (nameF d) = (l.filterMap fun a => useN d[a]?).map PyData.str := by
  induction l with
  | nil => rfl
  | cons a l ih =>
    show List.filterMap (nameF d) (PyData.int (Int.ofNat a) :: natsL l) = _
    rw [List.filterMap_cons, List.filterMap_cons, ih]
    have e : nameF d (.int (.ofNat a)) = (useN d[a]?).map PyData.str := rfl
    rw [e]
    cases useN d[a]? <;> rfl
def unkF (es : List (Key × PyData)) : PyData → Option PyData
  | .str o => if (valD es (.inr o)).isSome = true then none else some (.str o)
  | _ => none
theorem unkF_all (es : List (Key × PyData)) (l : List Str) : (l.map PyData.str).filterMap (unkF es) = (l.filter fun o => !(valD es (.inr o)).isSome).map PyData.str := by
  induction l with
  | nil => rfl
  | cons a l ih =>
    rw [List.map_cons, List.filterMap_cons, ih]
    have e : unkF es (.str a) = if (valD es (.inr a)).isSome = true then none else some (.str a) := rfl
    rw [e]
    by_cases c : (valD es (.inr a)).isSome = true
    · rw [if_pos c, List.filter_cons_of_neg (by rw [c]; decide)]
    · rw [if_neg c, List.filter_cons_of_pos (by rw [eq_false_of_ne_true c]; rfl)]
      rfl
theorem ev_lengths_of {K : PySem.W.Frag} {P : Addr} : pm_lengths_of.Ok K P I0 H0 N_lengths_of.length (t_lengths_of K P) := fun x hx => by
  obtain ⟨d, order⟩ := x
  obtain ⟨hd, hok, hol⟩ := hx
  dsimp only at hd hok hol
  have hdl := hd.len
  refine sv_seq (sv_asg (ev_call (X := List Ln) d (ea1 (ev_var rfl)) hd) fun r hr => ?_)
  obtain ⟨T, hT, rfl⟩ := hr
  refine sv_seq (sv_newD fun p3 => ?_)
  refine sv_seq (sv_asgN (en_list (ev_var rfl)) fun p4 => ?_)
  refine sv_cut (fun Γ' => ∃ es s5 s6 s7 s8 s9, Kn d es ∧ (∀ n ∈ order, (valD es (.inr n)).isSome = true) ∧ Γ' = leE d order T p3 p4 es [] s5 s6 s7 s8 s9)
    (sv_whileG (fun m Γ' => ∃ es st s5 s6 s7 s8 s9, Γ' = leE d order T p3 p4 es st s5 s6 s7 s8 s9 ∧ LnI d order st es m) ⟨_, [], order.map fun n => (n, 5), .emp, .emp, .emp, .emp, .emp, ?_, ⟨⟨(fun n v e => by cases e), (fun n e => by cases e)⟩, ?_, ?_, ?_, _, rfl, .inl rfl⟩⟩ fun m Γ' hI => ?_) fun Γ' h => ?_
  rotate_left
  · intro j n k e
    rw [List.getElem?_map] at e
    cases q : order[j]? with
    | none =>
      rw [q] at e
      cases e
    | some x =>
      rw [q] at e
      cases e
      have := (List.getElem?_eq_some_iff.mp q).1
      exact ⟨hok _ (List.mem_of_getElem? q), by omega, by omega⟩
  · intro n hn
    refine .inl ?_
    rw [List.map_map]
    exact List.mem_map.mpr ⟨n, hn, rfl⟩
  · show 0 + unkD d [] ≤ 300
    unfold unkD
    have h1 := List.length_filter_le (fun n => !(valD [] (.inr n)).isSome) (hdN d)
    have h2 := hdN_len d
    omega
  · obtain ⟨es, st, s5, s6, s7, s8, s9, rfl, I⟩ := hI
    have hstl := I.len
    have hsz := I.size
    refine ⟨_, et_own rfl, fun q => ?_, fun q => ?_⟩
    rotate_left
    · cases st with
      | cons a b => cases q
      | nil =>
        refine ⟨es, s5, s6, s7, s8, s9, I.kn, fun n hn => ?_, rfl⟩
        rcases I.all n hn with h | h
        · cases h
        · exact h
    rcases List.eq_nil_or_concat st with rfl | ⟨st, s, rfl⟩
    · cases q
    obtain ⟨n, k⟩ := s
    rw [List.concat_eq_append] at I hstl ⊢
    rw [List.length_append, List.length_singleton] at hstl
    obtain ⟨hk, hk5, hj⟩ := I.stk st.length n k (by simp)
    have hk' : OkD d 5 n := hk.le hk5
    have eΓ : leE d order T p3 p4 es (st ++ [(n, k)]) s5 s6 s7 s8 s9 = [.imm (.dat (docD d)), .imm (.dat (.list (order.map .str))), .imm (.dic T), .ownD p3 es, .own p4 ((st.map fun s => PyData.str s.1) ++ [.str n]), s5, s6, s7, s8, s9] := by
      simp [leE]
    rw [eΓ]
    have hnl := lns_len d n
    have hul : (usesOf d n).length ≤ 300 := Nat.le_trans (List.length_filterMap_le _ _) (by omega)
    refine sv_seq (sv_asgE (d := .dat (.str n)) (ev_ixOwn (i := 4) (p := p4) (c := .str n) rfl (ev_neg ev_int) atI_last) ?_)
    refine sv_seq (sv_asgE (d := .dat (.list ((usesOf d n).map .str))) ?_ ?_)
    · unfold usesOf
      rw [← nameF_all]
      refine EvN.ev (en_lc (nameF d) (fun x => ([.imm (.dat (docD d)), .imm (.dat (.list (order.map .str))), .imm (.dic T), .ownD p3 es, .own p4 ((st.map fun s => PyData.str s.1) ++ [.str n]), .imm (.dat (.str n)), s6, s7, .imm (.dat x), s9] : Env)) (ei_list (ev_tbl hT (ev_var rfl) (ev_var rfl) hk'.has)) (by unfold natsL; rw [List.length_map]; omega) (fun x hx => ew_name) (fun x hx => ?_))
      obtain ⟨a, ha, rfl⟩ := List.mem_map.mp hx
      obtain ⟨l, hl, _, hline⟩ := mem_lns ha
      have ht := et_test (K := K) (P := P) (ev_eqS (ev_kind (l := l) (ev_docAt (Γ := ([.imm (.dat (docD d)), .imm (.dat (.list (order.map .str))), .imm (.dic T), .ownD p3 es, .own p4 ((st.map fun s => PyData.str s.1) ++ [.str n]), .imm (.dat (.str n)), s6, s7, .imm (.dat (.int (a : Nat))), s9] : Env)) (ta := tVar 0) (tb := tVar 8) (ev_var rfl) (ev_var rfl) hl)) (ev_str (x := "use")))
      rw [kind_use] at ht
      cases l with
      | head x => cases hline
      | prose x => cases hline
      | code x =>
        refine .inl ⟨?_, ht⟩
        show (useN d[a]?).map PyData.str = none
        rw [hl]
        rfl
      | use i o =>
        refine .inr ⟨.str o, ?_, ht, ev_use2 (ev_docAt (ev_var rfl) (ev_var rfl) hl)⟩
        show (useN d[a]?).map PyData.str = _
        rw [hl]
        rfl
    refine sv_seq (sv_asgE (d := .dat (.list (((usesOf d n).filter fun o => !(valD es (.inr o)).isSome).map .str))) ?_ ?_)
    · rw [← unkF_all]
      refine EvN.ev (en_lc (unkF es) (fun x => ([.imm (.dat (docD d)), .imm (.dat (.list (order.map .str))), .imm (.dic T), .ownD p3 es, .own p4 ((st.map fun s => PyData.str s.1) ++ [.str n]), .imm (.dat (.str n)), .imm (.dat (.list ((usesOf d n).map .str))), s7, s8, .imm (.dat x)] : Env)) (ei_list (ev_var rfl)) (by rw [List.length_map]; omega) (fun x hx => ew_name) (fun x hx => ?_))
      obtain ⟨o, ho, rfl⟩ := List.mem_map.mp hx
      have ht := et_B (K := K) (P := P) (ev_dnotinOwn (Γ := ([.imm (.dat (docD d)), .imm (.dat (.list (order.map .str))), .imm (.dic T), .ownD p3 es, .own p4 ((st.map fun s => PyData.str s.1) ++ [.str n]), .imm (.dat (.str n)), .imm (.dat (.list ((usesOf d n).map .str))), s7, s8, .imm (.dat (.str o))] : Env)) (ta := tVar 9) (i := 3) (p := p3) (es := es) (y := .inr o) (n := .str o) (ev_var rfl) rfl key_str)
      by_cases c : (valD es (.inr o)).isSome = true
      · rw [c] at ht
        exact .inl ⟨if_pos c, ht⟩
      · rw [eq_false_of_ne_true c] at ht
        exact .inr ⟨.str o, if_neg c, ht, ev_var rfl⟩
    refine sv_if (et_B (ev_dinOwn (i := 3) (p := p3) (es := es) (y := .inr n) (n := .str n) (ev_var rfl) rfl key_str)) (fun q2 => ?_) (fun q2 => ?_)
    · obtain ⟨m', hm', I'⟩ := I.popK q2
      refine sv_pop (i := 4) rfl ?_
      exact ⟨m', hm', es, st, _, _, _, _, _, rfl, I'⟩
    refine sv_if (et_list (ev_var rfl)) (fun q3 => ?_) (fun q3 => ?_)
    · cases hf : (usesOf d n).filter fun o => !(valD es (.inr o)).isSome with
      | nil =>
        rw [hf] at q3
        cases q3
      | cons o os =>
        have ho : o ∈ (usesOf d n).filter fun o => !(valD es (.inr o)).isSome := by rw [hf]; exact List.mem_cons_self
        obtain ⟨ho1, ho2⟩ := List.mem_filter.mp ho
        obtain ⟨m', k', hm', I'⟩ := I.push q2 (by simpa using ho2) ho1
        refine sv_append (i := 4) (d := .str o) rfl (ev_ixL (c := .str o) (ds := (o :: os).map .str) (i := ((0 : Nat) : Int)) (ev_var rfl) ev_int (atI_of rfl)) (by rw [List.length_append, List.length_map, List.length_singleton]; omega) ?_
        refine ⟨m', hm', es, st ++ [(n, k)] ++ [(o, k')], .imm (.dat (.str n)), .imm (.dat (.list ((usesOf d n).map .str))), .imm (.dat (.list ((o :: os).map .str))), s8, s9, ?_, I'⟩
        simp [leE]
    · have hu : ∀ o ∈ usesOf d n, (valD es (.inr o)).isSome = true := fun o ho => by
        cases c : (valD es (.inr o)).isSome with
        | true => rfl
        | false =>
          have : o ∈ (usesOf d n).filter fun o => !(valD es (.inr o)).isSome := List.mem_filter.mpr ⟨ho, by rw [c]; rfl⟩
          cases hf : (usesOf d n).filter fun o => !(valD es (.inr o)).isSome with
          | nil =>
            rw [hf] at this
            cases this
          | cons a b =>
            rw [hf] at q3
            cases q3
      obtain ⟨m', hm', I'⟩ := I.put q2 hu
      have hes : es.length < 100000 := by omega
      refine sv_seq (sv_dput (i := 3) (p := p3) (es := es) (n := .str n) (y := .inr n) (d := .int (lenN d 5 n)) rfl ?_ (ev_var rfl) key_str hes ?_)
      · refine EvD.as (ev_add (i := ((lns d n).length : Int) - ((usesOf d n).length : Int)) (j := ((usesOf d n).map fun o => ((lenN d 5 o : Nat) : Int)).sum) (ev_sub (ev_callB (ea1 (ev_tbl hT (ev_var rfl) (ev_var rfl) hk'.has)) (rc_lenL.as (by unfold natsL; rw [List.length_map]))) (ev_callB (ea1 (ev_var rfl)) (rc_lenL.as (by rw [List.length_map])))) ?_) (by rw [lenN_uses hk'])
        let f : PyData → PyData := fun x => match x with
          | .str o => .int (lenN d 5 o)
          | _ => .none
        have e : ((usesOf d n).map PyData.str).map f = ((usesOf d n).map fun o => ((lenN d 5 o : Nat) : Int)).map PyData.int := by
          rw [List.map_map, List.map_map]
          rfl
        refine ev_callB (ea1 (Ev.is (EvN.ev (en_map f (fun x => ([.imm (.dat (docD d)), .imm (.dat (.list (order.map .str))), .imm (.dic T), .ownD p3 es, .own p4 ((st.map fun s => PyData.str s.1) ++ [.str n]), .imm (.dat (.str n)), .imm (.dat (.list ((usesOf d n).map .str))), .imm (.dat (.list (((usesOf d n).filter fun o => !(valD es (.inr o)).isSome).map .str))), s8, .imm (.dat x)] : Env)) (ei_list (ev_var rfl)) (by rw [List.length_map]; omega) (fun x hx => ew_name) (fun x hx => ?_))) (by rw [e]))) rc_sum
        obtain ⟨o, ho, rfl⟩ := List.mem_map.mp hx
        have hs := hu o ho
        cases c : valD es (.inr o) with
        | none =>
          rw [c] at hs
          cases hs
        | some v =>
          obtain ⟨rfl, _⟩ := I.kn.val o v c
          exact ev_dgetOwn (i := 3) (p := p3) (es := es) (n := .str o) (y := .inr o) rfl (ev_var rfl) key_str c
      · refine sv_pop (i := 4) rfl ?_
        exact ⟨m', hm', _, st, _, _, _, _, _, rfl, I'⟩
  · obtain ⟨es, s5, s6, s7, s8, s9, h1, h2, rfl⟩ := h
    refine sv_freezeD (i := 3) rfl ?_
    exact sv_retE (d := .dic es) (ev_var rfl) ⟨es, h1, h2, rfl⟩
  · show _ = leE d order T p3 p4 [] (order.map fun n => (n, 5)) .emp .emp .emp .emp .emp
    unfold leE
    rw [List.map_map]
    rfl
theorem ok_lengths_of {Pr : Program} {w : World} {K : PySem.W.Frag} {mg : Str → Option Value} {base : Heap} {P : Addr} {f : Addr} {fd : FuncData} (F : L2.Fun K "lengths_of" "lengths_of" s_lengths_of f fd) (T : Txt mg) (C_table_of : C8.Cal Pr w K mg base 2 "table_of" (pm_table_of.sp K P) []) : FnOk Pr w K mg base CX0 3 f fd ["document", "order"] (pm_lengths_of.sp K P) := by
  have nd := sc_lengths_of.nd
  refine Fun.pure F sc_lengths_of (fun _ => rfl) fun cdv A outer s H E hr => ⟨t_lengths_of K P, ?_, fun x hx _ _ => ev_lengths_of x hx⟩
  exact (pss_cons (ps_set (i := 2) nd rfl (by first | exact Or.inl rfl | exact Or.inr rfl) (C8.pe_c C_table_of hr (by decide) rfl (pa_cons (pv 0) pa_nil))) (pss_cons (ps_set (i := 3) nd rfl (by first | exact Or.inl rfl | exact Or.inr rfl) pe_dnewK) (pss_cons (ps_set (i := 4) nd rfl (by first | exact Or.inl rfl | exact Or.inr rfl) (pe_callTy (r := rListOf K) call_list_of rfl T.list PyProof.Rows.boot_list (pa_cons (pv 1) pa_nil))) (pss_cons (ps_while PassesOwn.never (pt_truth (pv 4) (by intro _; rfl)) (pss_cons (ps_set (i := 5) nd rfl (by first | exact Or.inl rfl | exact Or.inr rfl) (pe_ix ix_list (pv 4) (pe_un un_neg pe_int) (fun _ _ => rfl))) (pss_cons (ps_setLc (i := 6) (y := "needed") (own := [("at", 8)]) (g := (gName 8)) (tt := (tTest (tOp rEq (tOp (rIxT K) (tOp (rIxT K) (tVar 0) (tVar 8)) (tC (.int 0))) (tC (.str "use"))))) rfl nd rfl rfl (sw_true rfl rfl rfl (by decide +kernel)) (pi_list (pe_dget (hu_of hr) (pv 2) (pv 5) (fun _ _ => rfl))) (blkOk_by (N := N_lengths_of) (sc := defScope s_lengths_of) (by decide +kernel)) (fun _ _ _ _ _ => (pg_name (i := 8) nd rfl (by first | exact Or.inl rfl | exact Or.inr rfl))) (fun _ _ _ _ _ => (pts_one (pt_cmpR op_eq (pe_ix ix_tup (pe_ix ix_tup (pv 0) (pv 8) (fun _ _ => rfl)) pe_int (fun _ _ => rfl)) pe_str (nomark _)))) (fun _ _ _ _ _ => (pe_ix ix_tup (pe_ix ix_tup (pv 0) (pv 8) (fun _ _ => rfl)) pe_int (fun _ _ => rfl)))) (pss_cons (ps_setLc (i := 7) (y := "unknown") (own := [("other", 9)]) (g := (gName 9)) (tt := (tB (tDNotIn (tVar 9) (tVar 3)))) rfl nd rfl rfl (sw_true rfl rfl rfl (by decide +kernel)) (pi_list (pv 6)) (blkOk_by (N := N_lengths_of) (sc := defScope s_lengths_of) (by decide +kernel)) (fun _ _ _ _ _ => (pg_name (i := 9) nd rfl (by first | exact Or.inl rfl | exact Or.inr rfl))) (fun _ _ _ _ _ => (pts_one (pt_cmp (pc_dnotin (hu_of hr) (pv 9) (pv 3))))) (fun _ _ _ _ _ => (pv 9))) (pss_one (ps_if (pt_cmp (pc_din (hu_of hr) (pv 5) (pv 3))) (pss_one (ps_expr (pe_bm0 PySem.F.plainAttrs_list PySem.F.slot_list_pop PySem.F.type_list_pop mt_pop (pv 4)))) (pss_one (ps_if (pt_truth (pv 7) (by intro _; rfl)) (pss_one (ps_expr (pe_bm PySem.F.plainAttrs_list PySem.F.slot_list_append PySem.F.type_list_append mt_append (pv 4) (pa_cons (pe_ix ix_list (pv 7) pe_int (fun _ _ => rfl)) pa_nil)))) (pss_cons (ps_dput (hu_of hr) (pv 3) (pv 5) (pe_op op_add (pe_op op_sub (pe_callB (r := rLen K) call_len rfl T.len PySem.boot_len (pa_cons (pe_dget (hu_of hr) (pv 2) (pv 5) (fun _ _ => rfl)) pa_nil)) (pe_callB (r := rLen K) call_len rfl T.len PySem.boot_len (pa_cons (pv 6) pa_nil))) (pe_callB (r := rSum K) (cr_sum rfl) rfl T.sum PyProof.Rows.boot_sum (pa_cons (pe_lc (own := [("other", 9)]) (g := (gName 9)) (tt := tYes) rfl nd (pi_list (pv 6)) (blkOk_by (N := N_lengths_of) (sc := defScope s_lengths_of) (by decide +kernel)) (fun _ _ _ _ _ => (pg_name (i := 9) nd rfl (by first | exact Or.inl rfl | exact Or.inr rfl))) (fun _ _ _ _ _ => pts_nil) (fun _ _ _ _ _ => (pe_dget (hu_of hr) (pv 3) (pv 9) (fun _ _ => rfl)))) pa_nil))) rfl) (pss_one (ps_expr (pe_bm0 PySem.F.plainAttrs_list PySem.F.slot_list_pop PySem.F.type_list_pop mt_pop (pv 4))))))))))))) (pss_one (ps_ret (pv 3)))))))
end Wf
/-! tangle, build. -/
namespace Wf
open PySem L2
section
variable {K : PySem.W.Frag} {P : Addr} {Γ : Env} {ta tb te : TE}
theorem rop_catTA {as bs : List PyData} (h : as.length + bs.length ≤ 100000) : ROp K P (rCatTA K) (.tuple as) (.tuple bs) (.tuple (as ++ bs)) := fun I H x y k hx hy Q q => by
  cases hx with
  | @tup a xs _ h1 h2 =>
    cases hy with
    | @tup b ys _ h1' h2' =>
      refine ⟨a, b, xs, ys, rfl, rfl, sqT_mono k.sub h1, sqT_mono k.sub h1', by rw [h2.len, h2'.len, sizeLine_eq]; omega, ?_⟩
      by_cases c : xs = []
      · subst c
        cases h2
        exact .inl ⟨rfl, q _ I H (Wd.refl k) (.tup h1' h2')⟩
      · by_cases c2 : ys = []
        · subst c2
          cases h2'
          rw [List.append_nil] at q
          exact .inr (.inl ⟨c, rfl, q _ I H (Wd.refl k) (.tup h1 h2)⟩)
        · refine .inr (.inr ⟨c, c2, fun p hp => ?_⟩)
          have w := k.new hp (.tup (xs ++ ys))
          exact q _ _ _ w (.tup (SqT.of upd_same) ((h2.mono w.ii).append (h2'.mono w.ii)))
theorem ev_catT {as bs : List PyData} (ha : EvD K P ta Γ (.tuple as)) (hb : EvD K P tb Γ (.tuple bs)) (h : as.length + bs.length ≤ 100000) : EvD K P (tOp (rCatTA K) ta tb) Γ (.tuple (as ++ bs)) := ev_op ha hb (rop_catTA h)
theorem ev_gt {i j : Int} (ha : EvD K P ta Γ (.int i)) (hb : EvD K P tb Γ (.int j)) : EvD K P (tOp rGtI ta tb) Γ (.bool (decide (j < i))) := ev_op ha hb rop_gt
end
/-! ### the stack of tangle -/
structure Fr where
  a : Nat
  ind : Nat
  path : List Nat
  k : Nat
def frD (f : Fr) : PyData := .tuple [.int f.a, .int f.ind, .tuple (natsL f.path)]
def wt (d : List Ln) : Nat → Nat → Nat
  | k, a => match d[a]? with
    | some (.use _ o) => match k with
      | 0 => 1
      | k + 1 => 1 + ((lns d o).map fun b => wt d k b).sum
    | _ => 1
theorem wt_use {d : List Ln} {k a i : Nat} {o : Str} (h : d[a]? = some (.use i o)) : wt d (k + 1) a = 1 + ((lns d o).map fun b => wt d k b).sum := by
  rw [wt]
  rw [h]
theorem wt_pos (d : List Ln) (k a : Nat) : 0 < wt d k a := by
  unfold wt
  split
  · split <;> omega
  · omega
def frX (d : List Ln) (f : Fr) : List PL := exL d f.k f.a f.ind f.path
structure FrOk (d : List Ln) (es : List (Key × PyData)) (j : Nat) (f : Fr) : Prop where
  ok : AtOk d f.k f.a
  src : ∃ n, (valD es (.inr n)).isSome = true ∧ f.a ∈ lns d n
  ind : f.ind + 4 * f.k ≤ 16
  path : f.path.length + f.k ≤ 4
  top : j + 1 + 300 * f.k ≤ 1500
structure TgI (d : List Ln) (root : Str) (es : List (Key × PyData)) (done : List PL) (st : List Fr) (m : Nat) : Prop where
  fr : ∀ j f, st[j]? = some f → FrOk d es j f
  sum : done ++ st.reverse.flatMap (frX d) = prog d root
  m : m = (st.map fun f => wt d f.k f.a).sum
theorem TgI.len {d : List Ln} {root : Str} {es : List (Key × PyData)} {done : List PL} {st : List Fr} {m : Nat} (h : TgI d root es done st m) : st.length ≤ 1500 := by
  rcases List.eq_nil_or_concat st with rfl | ⟨a, x, rfl⟩
  · simp
  · have := (h.fr a.length x (by simp)).top
    rw [List.concat_eq_append, List.length_append, List.length_singleton]
    omega
theorem TgI.code {d : List Ln} {root : Str} {es : List (Key × PyData)} {done : List PL} {st : List Fr} {m : Nat} {f : Fr} {t : Str} (h : TgI d root es done (st ++ [f]) m) (e : d[f.a]? = some (.code t)) : ∃ m', m' < m ∧ TgI d root es (done ++ [⟨shown f.ind t, f.a, f.path⟩]) st m' := by
  refine ⟨_, ?_, fun j g hj => h.fr j g (by rw [List.getElem?_append_left (List.getElem?_eq_some_iff.mp hj).1]; exact hj), ?_, rfl⟩
  · have := wt_pos d f.k f.a
    rw [h.m, List.map_append, List.sum_append]
    simp only [List.map_cons, List.map_nil, List.sum_cons, List.sum_nil]
    omega
  · rw [← h.sum, List.reverse_append, List.flatMap_append]
    have : frX d f = [⟨shown f.ind t, f.a, f.path⟩] := exL_code e
    simp [this]
theorem sum_rev {α : Type} (l : List α) (g : α → Nat) : (l.reverse.map g).sum = (l.map g).sum := by
  induction l with
  | nil => rfl
  | cons x l ih =>
    rw [List.reverse_cons, List.map_append, List.sum_append, ih]
    simp
    omega
/-- the reference's children on the stack -/
def kids (d : List Ln) (f : Fr) (i : Nat) (o : Str) : List Fr := (lns d o).reverse.map fun b => ⟨b, f.ind + i, f.path ++ [f.a], f.k - 1⟩
theorem TgI.use {d : List Ln} {root : Str} {es : List (Key × PyData)} {done : List PL} {st : List Fr} {m : Nat} {f : Fr} {i : Nat} {o : Str} (hd : GD d 300) (h : TgI d root es done (st ++ [f]) m) (kn : Kn d es) (e : d[f.a]? = some (.use i o)) : ∃ m', m' < m ∧ TgI d root es done (st ++ kids d f i o) m' := by
  have F := h.fr st.length f (by simp)
  obtain ⟨n, hn, ha⟩ := F.src
  have hi : i ≤ 4 := hd.ok _ (List.mem_of_getElem? e)
  have ho : OkD d f.k o := by
    rcases F.ok with ⟨t, e'⟩ | ⟨i', o', e', h⟩
    · rw [e] at e'
      cases e'
    · rw [e] at e'
      cases e'
      exact h
  have hpos := ho.pos
  obtain ⟨k, hk⟩ : ∃ k, f.k = k + 1 := ⟨f.k - 1, by omega⟩
  have hx : frX d f = (lns d o).flatMap fun b => exL d k b (f.ind + i) (f.path ++ [f.a]) := by
    unfold frX
    rw [hk]
    exact exL_use e
  have hkid : (kids d f i o).reverse.flatMap (frX d) = frX d f := by
    unfold kids
    rw [← List.map_reverse, List.reverse_reverse, hx, hk, List.flatMap_map]
    rfl
  have ho' : (valD es (.inr o)).isSome = true := kn.clo n hn o (List.mem_filterMap.mpr ⟨f.a, ha, by rw [e]; rfl⟩)
  refine ⟨_, ?_, fun j g hj => ?_, ?_, rfl⟩
  · rw [h.m, List.map_append, List.sum_append, List.map_append, List.sum_append]
    simp only [List.map_cons, List.map_nil, List.sum_cons, List.sum_nil]
    have : ((kids d f i o).map fun f => wt d f.k f.a).sum = ((lns d o).map fun b => wt d k b).sum := by
      unfold kids
      rw [List.map_map, ← sum_rev (lns d o), hk]
      rfl
    rw [this, hk, wt_use e]
    omega
  · by_cases c : j < st.length
    · rw [List.getElem?_append_left c] at hj
      exact h.fr j g (by rw [List.getElem?_append_left c]; exact hj)
    · rw [List.getElem?_append_right (by omega)] at hj
      have hlen : j - st.length < (kids d f i o).length := (List.getElem?_eq_some_iff.mp hj).1
      have hmem := List.mem_of_getElem? hj
      unfold kids at hmem hlen
      rw [List.length_map, List.length_reverse] at hlen
      have := lns_len d o
      have := hd.len
      obtain ⟨b, hb, rfl⟩ := List.mem_map.mp hmem
      rw [List.mem_reverse] at hb
      have F1 := F.ind
      have F2 := F.path
      have F3 := F.top
      rw [hk] at ho
      refine ⟨?_, ⟨o, ho', hb⟩, ?_, ?_, ?_⟩
      · show AtOk d (f.k - 1) b
        rw [hk]
        exact ho.at hb
      · show f.ind + i + 4 * (f.k - 1) ≤ 16
        omega
      · show (f.path ++ [f.a]).length + (f.k - 1) ≤ 4
        rw [List.length_append, List.length_singleton]
        omega
      · show j + 1 + 300 * (f.k - 1) ≤ 1500
        omega
  · rw [← h.sum, List.reverse_append, List.flatMap_append, List.reverse_append, List.flatMap_append, hkid]
    simp
/-- a reference to nothing -/
theorem TgI.none {d : List Ln} {root : Str} {es : List (Key × PyData)} {done : List PL} {st : List Fr} {m : Nat} {f : Fr} {i : Nat} {o : Str} (hd : GD d 300) (h : TgI d root es done (st ++ [f]) m) (kn : Kn d es) (e : d[f.a]? = some (.use i o)) (hz : lenN d 5 o = 0) : ∃ m', m' < m ∧ TgI d root es done st m' := by
  have F := h.fr st.length f (by simp)
  have ho : OkD d f.k o := by
    rcases F.ok with ⟨t, e'⟩ | ⟨i', o', e', h⟩
    · rw [e] at e'
      cases e'
    · rw [e] at e'
      cases e'
      exact h
  have hpos := ho.pos
  obtain ⟨k, hk⟩ : ∃ k, f.k = k + 1 := ⟨f.k - 1, by omega⟩
  have hF := F.path
  have hx : frX d f = [] := by
    have hl : (frX d f).length = 0 := by
      unfold frX
      rw [exL_len, hk, lenA_use e, ← hz]
      rw [hk] at ho
      exact (lenN_more ho (Nat.le_refl _)).symm.trans ((lenN_more ho (by omega : k ≤ 5)).symm)
    exact List.eq_nil_of_length_eq_zero hl
  refine ⟨_, ?_, fun j g hj => h.fr j g (by rw [List.getElem?_append_left (List.getElem?_eq_some_iff.mp hj).1]; exact hj), ?_, rfl⟩
  · have := wt_pos d f.k f.a
    rw [h.m, List.map_append, List.sum_append]
    simp only [List.map_cons, List.map_nil, List.sum_cons, List.sum_nil]
    omega
  · rw [← h.sum, List.reverse_append, List.flatMap_append]
    simp [hx]
theorem TgI.start {d : List Ln} {root : Str} {es : List (Key × PyData)} (hd : GD d 300) (hr : OkD d 5 root) (hs : (valD es (.inr root)).isSome = true) : TgI d root es [] ((lns d root).reverse.map fun a => ⟨a, 0, [], 4⟩) (((lns d root).reverse.map fun a => (⟨a, 0, [], 4⟩ : Fr)).map fun f => wt d f.k f.a).sum := by
  refine ⟨fun j f hj => ?_, ?_, rfl⟩
  · have hlen := (List.getElem?_eq_some_iff.mp hj).1
    rw [List.length_map, List.length_reverse] at hlen
    have := lns_len d root
    have := hd.len
    obtain ⟨a, ha, rfl⟩ := List.mem_map.mp (List.mem_of_getElem? hj)
    rw [List.mem_reverse] at ha
    exact ⟨hr.at ha, ⟨root, hs, ha⟩, by simp, by simp, by dsimp only; omega⟩
  · rw [List.nil_append, ← List.map_reverse, List.reverse_reverse, List.flatMap_map]
    unfold prog
    refine flatMap_congr' fun a ha => ?_
    exact (exL_more (hr.at ha) 5 0 [] (by omega)).symm
abbrev s_tangle : Stmt := topS 29
abbrev N_tangle : List Str := ["document", "root", "known", "table", "program", "waiting", "line", "at", "indent", "path", "inner"]
theorem sc_tangle : FnScope N_tangle ["document", "root"] (defScope s_tangle) := ⟨rfl, rfl, rfl, by decide +kernel, rfl, by decide +kernel, by decide +kernel⟩
def t_tangle (K : PySem.W.Frag) (P : Addr) : TS :=
  (tSeq (tAsg (tCall (pm_lengths_of.sp K P) [] E0 (tCons (tVar 0) (tCons (tCall (pm_closure.sp K P) [] E0 (tCons (tVar 0) (tCons (tVar 1) tNil))) tNil))) (gName 2)) (tSeq (tIfS (tTest (tOp rGtI (tDGet (tVar 2) (tVar 1)) (tC (.int 2000)))) tNever tNext) (tSeq (tAsg (tCall (pm_table_of.sp K P) [] E0 (tCons (tVar 0) tNil)) (gName 3)) (tSeq (tAsg (tLst tNil) (gName 4)) (tSeq (tAsg (tLc (iRev K (tCons (tDGet (tVar 3) (tVar 1)) tNil)) (gName 7) tYes (tTup (tCons (tVar 7) (tCons (tC (.int 0)) (tCons (tTup tNil) tNil)))) [7]) (gName 5)) (tSeq (tWhile (tTru K (tVar 5)) (tSeq (tAsg (tBM0 K "list" rPop (tVar 5)) (gTup K 3 (gCons (gName 7) (gCons (gName 8) (gCons (gName 9) gNil))))) (tSeq (tAsg (tOp (rIxT K) (tVar 0) (tVar 7)) (gName 6)) (tIfS (tTest (tOp rEq (tOp (rIxT K) (tVar 6) (tC (.int 0))) (tC (.str "code")))) (tDrop (tBM K "list" rAppend (tVar 4) (tCons (tTup (tCons (tCall (pm_shown.sp K P) [] E0 (tCons (tVar 8) (tCons (tOp (rIxT K) (tVar 6) (tC (.int 1))) tNil))) (tCons (tVar 7) (tCons (tVar 9) tNil)))) tNil))) (tIfS (tTest (tOp rGtI (tDGet (tVar 2) (tOp (rIxT K) (tVar 6) (tC (.int 2)))) (tC (.int 0)))) (tFor (iRev K (tCons (tDGet (tVar 3) (tOp (rIxT K) (tVar 6) (tC (.int 2)))) tNil)) (gName 10) (tDrop (tBM K "list" rAppend (tVar 5) (tCons (tTup (tCons (tVar 10) (tCons (tOp rAddI (tVar 8) (tOp (rIxT K) (tVar 6) (tC (.int 1)))) (tCons (tOp (rCatTA K) (tVar 9) (tTup (tCons (tVar 7) tNil))) tNil)))) tNil)))) tNext))))) (tRet (tVar 4))))))))
def pm_tangle : Pm := ⟨List Ln × Str, fun x => [.dat (docD x.1), .dat (.str x.2)], fun x => GD x.1 300 ∧ OkD x.1 5 x.2 ∧ lenN x.1 5 x.2 ≤ 2000, fun x r => r = .dat (progD (prog x.1 x.2))⟩
abbrev tgE (d : List Ln) (root : Str) (es T : List (Key × PyData)) (p4 p5 : Addr) (done : List PL) (st : List Fr) (s6 s7 s8 s9 s10 : Slot) : Env :=
  [.imm (.dat (docD d)), .imm (.dat (.str root)), .imm (.dic es), .imm (.dic T), .own p4 (done.map plD), .own p5 (st.map frD), s6, s7, s8, s9, s10]
theorem ev_tangle {K : PySem.W.Frag} {P : Addr} : pm_tangle.Ok K P I0 H0 N_tangle.length (t_tangle K P) := fun x hx => by
  obtain ⟨d, root⟩ := x
  obtain ⟨hd, hroot, hlen⟩ := hx
  dsimp only at hd hroot hlen
  have hdl := hd.len
  refine sv_seq (sv_asg (D := fun r => ∃ es, Kn d es ∧ (valD es (.inr root)).isSome = true ∧ r = .dic es) (ev_callP (ea_consP (D := (· = .dat (docD d))) (ev_var rfl) (ea_consP (ev_call (X := List Ln × Str) (d, root) (ea_cons (ev_var rfl) (ea1 (ev_var rfl))) ⟨hd, hroot⟩) ea_nil)) fun l hl => ?_) fun r hr => ?_)
  · obtain ⟨a, r, rfl, rfl, b, r2, rfl, ⟨order, h1, h2, h3, rfl⟩, rfl⟩ := hl
    exact ⟨(d, order), rfl, ⟨hd, h1, h3⟩, fun r ⟨es, g1, g2, g3⟩ => ⟨es, g1, g2 _ h2, g3⟩⟩
  obtain ⟨es, kn, hs, rfl⟩ := hr
  obtain ⟨v, hv⟩ := Option.isSome_iff_exists.mp hs
  obtain ⟨rfl, _⟩ := kn.val root v hv
  refine sv_seq (sv_if (et_test (ev_gt (ev_dget (n := .str root) (y := .inr root) (ev_var rfl) (ev_var rfl) key_str hv) ev_int)) (fun q => ?_) (fun _ => sv_next ?_))
  · have := of_decide_eq_true q
    omega
  refine sv_seq (sv_asg (ev_call (X := List Ln) d (ea1 (ev_var rfl)) hd) fun r hr => ?_)
  obtain ⟨T, hT, rfl⟩ := hr
  refine sv_seq (sv_asgN (en_lst (ds := []) ea_nil) fun p4 => ?_)
  have hll := lns_len d root
  have est : (natsL (lns d root)).reverse.map (fun x => PyData.tuple [x, .int 0, .tuple []]) = ((lns d root).reverse.map fun a => (⟨a, 0, [], 4⟩ : Fr)).map frD := by
    unfold natsL
    rw [← List.map_reverse, List.map_map, List.map_map]
    rfl
  refine sv_seq (sv_asgN (ds := ((lns d root).reverse.map fun a => (⟨a, 0, [], 4⟩ : Fr)).map frD) ?_ fun p5 => ?_)
  · rw [← est]
    refine en_map (fun x => PyData.tuple [x, .int 0, .tuple []]) (fun x => ([.imm (.dat (docD d)), .imm (.dat (.str root)), .imm (.dic es), .imm (.dic T), .own p4 [], .emp, .emp, .imm (.dat x), .emp, .emp, .emp] : Env)) (ei_rev (ev_tbl hT (ev_var rfl) (ev_var rfl) hroot.has)) (by unfold natsL; rw [List.length_reverse, List.length_map]; omega) (fun x hx => ew_name) fun x hx => ?_
    exact ev_tup (ds := [x, .int 0, .tuple []]) (ea_cons (ev_var rfl) (ea_cons ev_int (ea1 (ev_tup (ds := []) ea_nil))))
  refine sv_cut (fun Γ' => ∃ s6 s7 s8 s9 s10, Γ' = tgE d root es T p4 p5 (prog d root) [] s6 s7 s8 s9 s10)
    (sv_whileG (fun m Γ' => ∃ done st s6 s7 s8 s9 s10, Γ' = tgE d root es T p4 p5 done st s6 s7 s8 s9 s10 ∧ TgI d root es done st m) ⟨_, [], _, _, _, _, _, _, rfl, TgI.start hd hroot hs⟩ fun m Γ' hI => ?_) fun Γ' h => ?_
  · obtain ⟨done, st, s6, s7, s8, s9, s10, rfl, I⟩ := hI
    have hstl := I.len
    have hdone : done.length ≤ 2000 := by
      have := congrArg List.length I.sum
      rw [List.length_append, prog_len] at this
      omega
    refine ⟨_, et_own rfl, fun q => ?_, fun q => ?_⟩
    rotate_left
    · cases st with
      | cons a b => cases q
      | nil =>
        have e : done = prog d root := by
          rw [← I.sum]
          simp
        rw [e]
        exact ⟨s6, s7, s8, s9, s10, rfl⟩
    rcases List.eq_nil_or_concat st with rfl | ⟨st, f, rfl⟩
    · cases q
    rw [List.concat_eq_append] at I hstl ⊢
    rw [List.length_append, List.length_singleton] at hstl
    have F := I.fr st.length f (by simp)
    have F1 := F.ind
    have F2 := F.path
    have eΓ : tgE d root es T p4 p5 done (st ++ [f]) s6 s7 s8 s9 s10 = [.imm (.dat (docD d)), .imm (.dat (.str root)), .imm (.dic es), .imm (.dic T), .own p4 (done.map plD), .own p5 (st.map frD ++ [frD f]), s6, s7, s8, s9, s10] := by
      simp [tgE]
    rw [eΓ]
    refine sv_seq (sv_popAsg (i := 5) (p := p5) (ds := st.map frD) (d := frD f) rfl (eg_tup (ds := [.int (f.a : Nat), .int (f.ind : Nat), .tuple (natsL f.path)]) rfl (gs_cons (eg_name (gs_cons (eg_name (gs_cons (eg_name (gs_nil ?_)))))))))
    obtain ⟨n, hn, ha⟩ := F.src
    obtain ⟨l, hl, _, hline⟩ := mem_lns ha
    refine sv_seq (sv_asgE (ev_docAt (ev_var rfl) (ev_var rfl) hl) ?_)
    refine sv_if (et_test (ev_eqS (ev_kind (l := l) (ev_var rfl)) ev_str)) (fun q2 => ?_) (fun q2 => ?_)
    · rw [kind_code] at q2
      cases l with
      | head x => cases q2
      | use i x => cases q2
      | prose x => cases q2
      | code t =>
        have ht : TxtOk t := hd.ok _ (List.mem_of_getElem? hl)
        have ht : t.length ≤ 60 := ht
        obtain ⟨m', hm', I'⟩ := I.code hl
        refine sv_append (i := 4) (d := plD ⟨shown f.ind t, f.a, f.path⟩) rfl (ev_tup (ds := [.str (shown f.ind t), .int (f.a : Nat), .tuple (natsL f.path)]) (ea_cons (ev_call (X := Nat × Str) (f.ind, t) (ea_cons (ev_var rfl) (ea1 (ev_ln1 (l := .code t) (ev_var rfl) rfl))) ⟨by dsimp only; omega, by dsimp only; omega⟩) (ea_cons (ev_var rfl) (ea1 (ev_var rfl))))) (by rw [List.length_map]; omega) ?_
        have em : done.map plD ++ [plD ⟨shown f.ind t, f.a, f.path⟩] = (done ++ [PL.mk (shown f.ind t) f.a f.path]).map plD := by rw [List.map_append]; rfl
        rw [em]
        exact ⟨m', hm', done ++ [⟨shown f.ind t, f.a, f.path⟩], st, _, _, _, _, _, rfl, I'⟩
    · cases l with
      | head x => cases hline
      | code x =>
        rw [kind_code] at q2
        cases q2
      | prose x => cases hline
      | use i o =>
        have ho : OkD d f.k o := by
          rcases F.ok with ⟨t, e'⟩ | ⟨i', o', e', h⟩
          · rw [hl] at e'
            cases e'
          · rw [hl] at e'
            cases e'
            exact h
        have hi : i ≤ 4 := hd.ok _ (List.mem_of_getElem? hl)
        have hol := lns_len d o
        have ho' : (valD es (.inr o)).isSome = true := kn.clo n hn o (List.mem_filterMap.mpr ⟨f.a, ha, by rw [hl]; rfl⟩)
        obtain ⟨v, hv⟩ := Option.isSome_iff_exists.mp ho'
        obtain ⟨rfl, _⟩ := kn.val o v hv
        refine sv_if (et_test (ev_gt (ev_dget (n := .str o) (y := .inr o) (ev_var rfl) (ev_use2 (i := i) (n := o) (ev_var rfl)) key_str hv) ev_int)) (fun q3 => ?_) (fun q3 => ?_)
        · obtain ⟨m', hm', I'⟩ := I.use hd kn hl
          have ek : (kids d f i o).map frD = (lns d o).reverse.map fun b => PyData.tuple [.int (b : Nat), .int ((f.ind + i : Nat) : Int), .tuple (natsL (f.path ++ [f.a]))] := by
            unfold kids
            rw [List.map_map]
            rfl
          refine sv_for (ds := (natsL (lns d o)).reverse) (fun rest Γ' => ∃ pre todo s10, rest = natsL todo ∧ (lns d o).reverse = pre ++ todo ∧ Γ' = [.imm (.dat (docD d)), .imm (.dat (.str root)), .imm (.dic es), .imm (.dic T), .own p4 (done.map plD), .own p5 (st.map frD ++ pre.map fun b => PyData.tuple [.int (b : Nat), .int ((f.ind + i : Nat) : Int), .tuple (natsL (f.path ++ [f.a]))]), .imm (.dat (lnD (.use i o))), .imm (.dat (.int (f.a : Nat))), .imm (.dat (.int (f.ind : Nat))), .imm (.dat (.tuple (natsL f.path))), s10])
            (ei_rev (ev_tbl hT (ev_var rfl) (ev_use2 (i := i) (n := o) (ev_var rfl)) ho.has)) ⟨[], (lns d o).reverse, _, by unfold natsL; rw [List.map_reverse], rfl, by rw [List.map_nil, List.append_nil]; rfl⟩ (fun x rest Γ' h => ?_) (fun Γ' h => ?_)
          · obtain ⟨pre, todo, s10, e, hp, rfl⟩ := h
            cases todo with
            | nil => cases e
            | cons b todo =>
              cases e
              have hpl : pre.length ≤ 300 := by
                have := congrArg List.length hp
                rw [List.length_reverse, List.length_append] at this
                omega
              have ep : natsL (f.path ++ [f.a]) = natsL f.path ++ [.int (f.a : Nat)] := by
                unfold natsL
                rw [List.map_append]
                rfl
              refine eg_name (sv_append (i := 5) (d := .tuple [.int (b : Nat), .int ((f.ind + i : Nat) : Int), .tuple (natsL (f.path ++ [f.a]))]) rfl (ev_tup (ds := [.int (b : Nat), .int ((f.ind + i : Nat) : Int), .tuple (natsL (f.path ++ [f.a]))]) (ea_cons (ev_var rfl) (ea_cons (EvD.as (ev_add (ev_var rfl) (ev_use1 (i := i) (n := o) (ev_var rfl))) (by rw [Int.natCast_add])) (ea1 ?_)))) (by rw [List.length_append, List.length_map, List.length_map]; omega) ?_)
              · rw [ep]
                exact ev_catT (ev_var rfl) (ev_tup (ds := [.int (f.a : Nat)]) (ea1 (ev_var rfl))) (by unfold natsL; rw [List.length_map, List.length_singleton]; omega)
              · refine ⟨pre ++ [b], todo, .imm (.dat (.int (b : Nat))), rfl, by rw [hp]; simp, ?_⟩
                rw [List.map_append, ← List.append_assoc]
                rfl
          · obtain ⟨pre, todo, s10, e, hp, rfl⟩ := h
            cases todo with
            | cons b todo => cases e
            | nil =>
              rw [List.append_nil] at hp
              rw [← hp, ← ek, ← List.map_append]
              exact ⟨m', hm', done, st ++ kids d f i o, _, _, _, _, _, rfl, I'⟩
        · have hz : lenN d 5 o = 0 := by
            have := of_decide_eq_false q3
            omega
          obtain ⟨m', hm', I'⟩ := I.none hd kn hl hz
          exact sv_next ⟨m', hm', done, st, _, _, _, _, _, rfl, I'⟩
  · obtain ⟨s6, s7, s8, s9, s10, rfl⟩ := h
    refine sv_freeze (i := 4) rfl ?_
    exact sv_retE (d := .dat (progD (prog d root))) (ev_var rfl) rfl
theorem ok_tangle {Pr : Program} {w : World} {K : PySem.W.Frag} {mg : Str → Option Value} {base : Heap} {P : Addr} {f : Addr} {fd : FuncData} (F : L2.Fun K "tangle" "tangle" s_tangle f fd) (T : Txt mg) (C_shown : C8.Cal Pr w K mg base 1 "shown" (pm_shown.sp K P) []) (C_table_of : C8.Cal Pr w K mg base 2 "table_of" (pm_table_of.sp K P) []) (C_lengths_of : C8.Cal Pr w K mg base 3 "lengths_of" (pm_lengths_of.sp K P) []) (C_closure : C8.Cal Pr w K mg base 3 "closure" (pm_closure.sp K P) []) : FnOk Pr w K mg base CX0 4 f fd ["document", "root"] (pm_tangle.sp K P) := by
  have nd := sc_tangle.nd
  refine Fun.pure F sc_tangle (fun _ => rfl) fun cdv A outer s H E hr => ⟨t_tangle K P, ?_, fun x hx _ _ => ev_tangle x hx⟩
  exact (pss_cons (ps_set (i := 2) nd rfl (by first | exact Or.inl rfl | exact Or.inr rfl) (C8.pe_c C_lengths_of hr (by decide) rfl (pa_cons (pv 0) (pa_cons (C8.pe_c C_closure hr (by decide) rfl (pa_cons (pv 0) (pa_cons (pv 1) pa_nil))) pa_nil)))) (pss_cons (ps_if (pt_cmpR op_gt (pe_dget (hu_of hr) (pv 2) (pv 1) (fun _ _ => rfl)) (C8.pe_gc rfl T.most) (nomark _)) pss_never pss_nil) (pss_cons (ps_set (i := 3) nd rfl (by first | exact Or.inl rfl | exact Or.inr rfl) (C8.pe_c C_table_of hr (by decide) rfl (pa_cons (pv 0) pa_nil))) (pss_cons (ps_set (i := 4) nd rfl (by first | exact Or.inl rfl | exact Or.inr rfl) (pe_lst pa_nil)) (pss_cons (ps_setLc (i := 5) (y := "waiting") (own := [("at", 7)]) (g := (gName 7)) (tt := tYes) rfl nd rfl rfl (sw_true rfl rfl rfl (by decide +kernel)) (pi_reversed (by rfl) T.reversed (pa_cons (pe_dget (hu_of hr) (pv 3) (pv 1) (fun _ _ => rfl)) pa_nil)) (blkOk_by (N := N_tangle) (sc := defScope s_tangle) (by decide +kernel)) (fun _ _ _ _ _ => (pg_name (i := 7) nd rfl (by first | exact Or.inl rfl | exact Or.inr rfl))) (fun _ _ _ _ _ => pts_nil) (fun _ _ _ _ _ => (pe_tup (pa_cons (pv 7) (pa_cons pe_int (pa_cons (pe_tup pa_nil) pa_nil)))))) (pss_cons (ps_while PassesOwn.never (pt_truth (pv 5) (by intro _; rfl)) (pss_cons (ps_asg (pe_bm0 PySem.F.plainAttrs_list PySem.F.slot_list_pop PySem.F.type_list_pop mt_pop (pv 5)) (pg_tup rfl (pgs_cons (pg_name (i := 7) nd rfl (by first | exact Or.inl rfl | exact Or.inr rfl)) (pgs_cons (pg_name (i := 8) nd rfl (by first | exact Or.inl rfl | exact Or.inr rfl)) (pgs_cons (pg_name (i := 9) nd rfl (by first | exact Or.inl rfl | exact Or.inr rfl)) pgs_nil))))) (pss_cons (ps_set (i := 6) nd rfl (by first | exact Or.inl rfl | exact Or.inr rfl) (pe_ix ix_tup (pv 0) (pv 7) (fun _ _ => rfl))) (pss_one (ps_if (pt_cmpR op_eq (pe_ix ix_tup (pv 6) pe_int (fun _ _ => rfl)) pe_str (nomark _)) (pss_one (ps_expr (pe_bm PySem.F.plainAttrs_list PySem.F.slot_list_append PySem.F.type_list_append mt_append (pv 4) (pa_cons (pe_tup (pa_cons (C8.pe_c C_shown hr (by decide) rfl (pa_cons (pv 8) (pa_cons (pe_ix ix_tup (pv 6) pe_int (fun _ _ => rfl)) pa_nil))) (pa_cons (pv 7) (pa_cons (pv 9) pa_nil)))) pa_nil)))) (pss_one (ps_if (pt_cmpR op_gt (pe_dget (hu_of hr) (pv 2) (pe_ix ix_tup (pv 6) pe_int (fun _ _ => rfl)) (fun _ _ => rfl)) pe_int (nomark _)) (pss_one (ps_for PassesOwn.never rfl (pi_reversed (by rfl) T.reversed (pa_cons (pe_dget (hu_of hr) (pv 3) (pe_ix ix_tup (pv 6) pe_int (fun _ _ => rfl)) (fun _ _ => rfl)) pa_nil)) (pg_name (i := 10) nd rfl (by first | exact Or.inl rfl | exact Or.inr rfl)) (pss_one (ps_expr (pe_bm PySem.F.plainAttrs_list PySem.F.slot_list_append PySem.F.type_list_append mt_append (pv 5) (pa_cons (pe_tup (pa_cons (pv 10) (pa_cons (pe_op op_add (pv 8) (pe_ix ix_tup (pv 6) pe_int (fun _ _ => rfl))) (pa_cons (pe_op op_catTA (pv 9) (pe_tup (pa_cons (pv 7) pa_nil))) pa_nil)))) pa_nil)))))) pss_nil))))))) (pss_one (ps_ret (pv 4)))))))))
end Wf
/-! fates put onto a document. -/
namespace Wf
open PySem L2
section
variable {K : PySem.W.Frag} {P aK : Addr} {Γ : Env} {ta tb te : TE}
theorem ev_keep (h : KeepK K aK) : EvD K P (tC (.ref aK)) Γ (chD .keep) := ev_const fun I => .tup (h I) (.cons (.str _) .nil)
theorem ev_ed {t1 t2 t3 : TE} {e : Ed} (h1 : EvD K P t1 Γ (strsD e.ahead)) (h2 : EvD K P t2 Γ (chD e.ch)) (h3 : EvD K P t3 Γ (strsD e.behind)) : EvD K P (tTup (tCons t1 (tCons t2 (tCons t3 tNil)))) Γ (edD e) := ev_tup (ds := [strsD e.ahead, chD e.ch, strsD e.behind]) (ea_cons h1 (ea_cons h2 (ea1 h3)))
theorem ev_none : EvD K P (tTup tNil) Γ (strsD []) := ev_tup (ds := []) ea_nil
end
abbrev s_is_touched : Stmt := topS 10
abbrev N_is_touched : List Str := ["edit"]
theorem sc_is_touched : FnScope N_is_touched ["edit"] (defScope s_is_touched) := ⟨rfl, rfl, rfl, by decide +kernel, rfl, by decide +kernel, by decide +kernel⟩
def t_is_touched (K : PySem.W.Frag) (P : Addr) (aK : Addr) : TS :=
  (tRet (tOp (rNeP K) (tVar 0) (tTup (tCons (tTup tNil) (tCons (tC (.ref aK)) (tCons (tTup tNil) tNil))))))
def pm_is_touched : Pm := ⟨Ed, fun x => [.dat (edD x)], fun x => True, fun x r => r = .dat (.bool (touched x))⟩
theorem ev_is_touched {K : PySem.W.Frag} {P aK : Addr} (hK : KeepK K aK) : pm_is_touched.Ok K P I0 H0 N_is_touched.length (t_is_touched K P aK) := fun (e : Ed) _ => by
  refine sv_retE (d := .dat (.bool (touched e))) ?_ rfl
  refine EvD.as (ev_edNe (e := e) (f := ⟨[], .keep, []⟩) (ev_var rfl) (ev_ed ev_none (ev_keep hK) ev_none)) ?_
  unfold touched
  by_cases c : e = ⟨[], .keep, []⟩
  · rw [decide_eq_true c, decide_eq_false fun z => z c]
    rfl
  · rw [decide_eq_false c, decide_eq_true c]
    rfl
theorem ok_is_touched {Pr : Program} {w : World} {K : PySem.W.Frag} {mg : Str → Option Value} {base : Heap} {P : Addr} {aK : Addr} {f : Addr} {fd : FuncData} (F : L2.Fun K "is_touched" "is_touched" s_is_touched f fd) (T : Txt mg) (hK : KeepAt mg K aK) : FnOk Pr w K mg base CX0 1 f fd ["edit"] (pm_is_touched.sp K P) := by
  have nd := sc_is_touched.nd
  refine Fun.pure F sc_is_touched (fun _ => rfl) fun cdv A outer s H E hr => ⟨t_is_touched K P aK, ?_, fun x hx _ _ => ev_is_touched hK.1 x hx⟩
  exact (pss_one (ps_ret (pe_cmpR (op_neP hr.units) (pv 0) (pe_tup (pa_cons (pe_tup pa_nil) (pa_cons (C8.pe_gc rfl hK.2) (pa_cons (pe_tup pa_nil) pa_nil)))) (nomark _))))
abbrev s_plain_change : Stmt := topS 35
abbrev N_plain_change : List Str := ["edit", "text", "ahead", "change", "behind"]
theorem sc_plain_change : FnScope N_plain_change ["edit", "text"] (defScope s_plain_change) := ⟨rfl, rfl, rfl, by decide +kernel, rfl, by decide +kernel, by decide +kernel⟩
def t_plain_change (K : PySem.W.Frag) (P : Addr) (aK : Addr) : TS :=
  (tSeq (tAsg (tVar 0) (gTup K 3 (gCons (gName 2) (gCons (gName 3) (gCons (gName 4) gNil))))) (tSeq (tIfS (tTest (tOp (rEqP K) (tVar 3) (tTup (tCons (tC (.str "text")) (tCons (tVar 1) tNil))))) (tRet (tTup (tCons (tVar 2) (tCons (tC (.ref aK)) (tCons (tVar 4) tNil))))) tNext) (tRet (tVar 0))))
def plainC (e : Ed) (t : Str) : Ed := ⟨e.ahead, if e.ch = .text t then .keep else e.ch, e.behind⟩
def pm_plain_change : Pm := ⟨Ed × Str, fun x => [.dat (edD x.1), .dat (.str x.2)], fun x => True, fun x r => r = .dat (edD (plainC x.1 x.2))⟩
theorem ev_plain_change {K : PySem.W.Frag} {P aK : Addr} (hK : KeepK K aK) : pm_plain_change.Ok K P I0 H0 N_plain_change.length (t_plain_change K P aK) := fun x _ => by
  obtain ⟨e, t⟩ := x
  refine sv_seq (sv_asgG (d := .dat (edD e)) (ev_var rfl) (eg_tup (ds := [strsD e.ahead, chD e.ch, strsD e.behind]) rfl (gs_cons (eg_name (gs_cons (eg_name (gs_cons (eg_name (gs_nil ?_)))))))))
  refine sv_seq (sv_if (et_test (ev_chEq (e := e.ch) (f := .text t) (ev_var rfl) (ev_tup (ds := [.str "text", .str t]) (ea_cons ev_str (ea1 (ev_var rfl)))))) (fun q => ?_) (fun q => sv_next ?_))
  · refine sv_retE (d := .dat (edD (plainC e t))) (ev_ed (e := plainC e t) (ev_var rfl) ?_ (ev_var rfl)) rfl
    unfold plainC
    dsimp only
    rw [if_pos (of_decide_eq_true q)]
    exact ev_keep hK
  · have : plainC e t = e := by
      unfold plainC
      rw [if_neg (of_decide_eq_false q)]
    refine sv_retE (d := .dat (edD (plainC e t))) ?_ rfl
    rw [this]
    exact ev_var rfl
theorem ok_plain_change {Pr : Program} {w : World} {K : PySem.W.Frag} {mg : Str → Option Value} {base : Heap} {P : Addr} {aK : Addr} {f : Addr} {fd : FuncData} (F : L2.Fun K "plain_change" "plain_change" s_plain_change f fd) (T : Txt mg) (hK : KeepAt mg K aK) : FnOk Pr w K mg base CX0 1 f fd ["edit", "text"] (pm_plain_change.sp K P) := by
  have nd := sc_plain_change.nd
  refine Fun.pure F sc_plain_change (fun _ => rfl) fun cdv A outer s H E hr => ⟨t_plain_change K P aK, ?_, fun x hx _ _ => ev_plain_change hK.1 x hx⟩
  exact (pss_cons (ps_asg (pv 0) (pg_tup rfl (pgs_cons (pg_name (i := 2) nd rfl (by first | exact Or.inl rfl | exact Or.inr rfl)) (pgs_cons (pg_name (i := 3) nd rfl (by first | exact Or.inl rfl | exact Or.inr rfl)) (pgs_cons (pg_name (i := 4) nd rfl (by first | exact Or.inl rfl | exact Or.inr rfl)) pgs_nil))))) (pss_cons (ps_if (pt_cmpR (op_eqP hr.units) (pv 3) (pe_tup (pa_cons pe_str (pa_cons (pv 1) pa_nil))) (nomark _)) (pss_one (ps_ret (pe_tup (pa_cons (pv 2) (pa_cons (C8.pe_gc rfl hK.2) (pa_cons (pv 4) pa_nil)))))) pss_nil) (pss_one (ps_ret (pv 0)))))
abbrev s_put_lines : Stmt := topS 39
abbrev N_put_lines : List Str := ["line", "texts", "kind", "text"]
theorem sc_put_lines : FnScope N_put_lines ["line", "texts"] (defScope s_put_lines) := ⟨rfl, rfl, rfl, by decide +kernel, rfl, by decide +kernel, by decide +kernel⟩
def t_put_lines (K : PySem.W.Frag) (P : Addr) : TS :=
  (tSeq (tAsg (tIf (tTest (tOp rEq (tOp (rIxT K) (tVar 0) (tC (.int 0))) (tC (.str "prose")))) (tC (.str "prose")) (tC (.str "code"))) (gName 2)) (tRet (tLc (iTup K (tVar 1)) (gName 3) tYes (tTup (tCons (tVar 2) (tCons (tVar 3) tNil))) [3])))
def pm_put_lines : Pm := ⟨Ln × List Str, fun x => [.dat (lnD x.1), .dat (strsD x.2)], fun x => x.2.length ≤ 1000, fun x r => r = .dat (.list ((putL x.1 x.2).map lnD))⟩
theorem ev_put_lines {K : PySem.W.Frag} {P : Addr} : pm_put_lines.Ok K P I0 H0 N_put_lines.length (t_put_lines K P) := fun x hx => by
  obtain ⟨l, ts⟩ := x
  have hts : ts.length ≤ 1000 := hx
  refine sv_seq (sv_asgE (d := .dat (.str (if l.isProse = true then "prose" else "code"))) ?_ ?_)
  · refine ev_if (et_test (ev_eqS (ev_kind (l := l) (ev_var rfl)) ev_str)) (fun q => ?_) (fun q => ?_)
    · rw [kind_prose] at q
      rw [if_pos q]
      exact ev_str
    · rw [kind_prose] at q
      rw [q]
      exact ev_str
  refine sv_retE (d := .dat (.list ((putL l ts).map lnD))) ?_ rfl
  let f : PyData → PyData := fun x => .tuple [.str (if l.isProse = true then "prose" else "code"), x]
  have e : (ts.map PyData.str).map f = (putL l ts).map lnD := by
    unfold putL
    rw [List.map_map, List.map_map]
    apply List.map_congr_left
    intro t _
    show f (.str t) = lnD (if l.isProse = true then .prose t else .code t)
    cases c : l.isProse <;> simp only [f, c] <;> rfl
  rw [← e]
  refine EvN.ev (en_map f (fun x => ([.imm (.dat (lnD l)), .imm (.dat (strsD ts)), .imm (.dat (.str (if l.isProse = true then "prose" else "code"))), .imm (.dat x)] : Env)) (ei_tup (ev_var rfl)) (by rw [List.length_map]; omega) (fun x hx => ew_name) fun x hx => ?_)
  exact ev_tup (ds := [.str (if l.isProse = true then "prose" else "code"), x]) (ea_cons (ev_var rfl) (ea1 (ev_var rfl)))
theorem ok_put_lines {Pr : Program} {w : World} {K : PySem.W.Frag} {mg : Str → Option Value} {base : Heap} {P : Addr} {f : Addr} {fd : FuncData} (F : L2.Fun K "put_lines" "put_lines" s_put_lines f fd) (T : Txt mg) : FnOk Pr w K mg base CX0 1 f fd ["line", "texts"] (pm_put_lines.sp K P) := by
  have nd := sc_put_lines.nd
  refine Fun.pure F sc_put_lines (fun _ => rfl) fun cdv A outer s H E hr => ⟨t_put_lines K P, ?_, fun x hx _ _ => ev_put_lines x hx⟩
  exact (pss_cons (ps_set (i := 2) nd rfl (by first | exact Or.inl rfl | exact Or.inr rfl) (pe_ifExp (pt_cmpR op_eq (pe_ix ix_tup (pv 0) pe_int (fun _ _ => rfl)) pe_str (nomark _)) pe_str pe_str)) (pss_one (ps_ret (pe_lc (own := [("text", 3)]) (g := (gName 3)) (tt := tYes) rfl nd (pi_tup (pv 1)) (blkOk_by (N := N_put_lines) (sc := defScope s_put_lines) (by decide +kernel)) (fun _ _ _ _ _ => (pg_name (i := 3) nd rfl (by first | exact Or.inl rfl | exact Or.inr rfl))) (fun _ _ _ _ _ => pts_nil) (fun _ _ _ _ _ => (pe_tup (pa_cons (pv 2) (pa_cons (pv 3) pa_nil))))))))
/-- a dict of edits by line -/
def FD (es : List (Key × PyData)) (fs : Nat → Option Ed) : Prop := ∀ a : Nat, valD es (.inl (a : Int)) = (fs a).map edD
abbrev s_apply : Stmt := topS 40
abbrev N_apply : List Str := ["document", "fates", "made", "at", "line", "ahead", "change", "behind"]
theorem sc_apply : FnScope N_apply ["document", "fates"] (defScope s_apply) := ⟨rfl, rfl, rfl, by decide +kernel, rfl, by decide +kernel, by decide +kernel⟩
def t_apply (K : PySem.W.Frag) (P : Addr) : TS :=
  (tSeq (tAsg (tLst tNil) (gName 2)) (tSeq (tFor (iEnumT K (tCons (tVar 0) tNil)) (gTup K 2 (gCons (gName 3) (gCons (gName 4) gNil))) (tSeq (tIfS (tB (tDNotIn (tVar 3) (tVar 1))) (tSeq (tDrop (tBM K "list" rAppend (tVar 2) (tCons (tVar 4) tNil))) tCont) tNext) (tSeq (tAsg (tDGet (tVar 1) (tVar 3)) (gTup K 3 (gCons (gName 5) (gCons (gName 6) (gCons (gName 7) gNil))))) (tSeq (tIfS (tTest (tOp rEq (tOp (rIxT K) (tVar 6) (tC (.int 0))) (tC (.str "keep")))) (tDrop (tBM K "list" rAppend (tVar 2) (tCons (tVar 4) tNil))) (tIfS (tTest (tOp rEq (tOp (rIxT K) (tVar 6) (tC (.int 0))) (tC (.str "text")))) (tDrop (tBM K "list" rAppend (tVar 2) (tCons (tTup (tCons (tOp (rIxT K) (tVar 4) (tC (.int 0))) (tCons (tOp (rIxT K) (tVar 6) (tC (.int 1))) tNil))) tNil))) tNext)) (tDrop (tBM K "list" rExtend (tVar 2) (tCons (tCall (pm_put_lines.sp K P) [] E0 (tCons (tVar 4) (tCons (tVar 7) tNil))) tNil))))))) (tRet (tCB (rTupOf K) (tCons (tVar 2) tNil)))))
def pm_apply : Pm := ⟨List Ln × List (Key × PyData) × Fates, fun x => [.dat (docD x.1), .dic x.2.1], fun x => x.1.length ≤ 300 ∧ FD x.2.1 (kget x.2.2) ∧ (∀ a f, kget x.2.2 a = some f → f.behind.length ≤ 100) ∧ (∀ (a : Nat) l f t, x.1[a]? = some l → kget x.2.2 a = some f → f.ch = .text t → l.isCode = true),
  fun x r => r = .dat (docD (ndoc (apG x.2.2) 0 x.1))⟩
theorem ev_apply {K : PySem.W.Frag} {P : Addr} : pm_apply.Ok K P I0 H0 N_apply.length (t_apply K P) := fun x hx => by
  obtain ⟨d, es, fs⟩ := x
  obtain ⟨hd, hF, hb, ht⟩ := hx
  dsimp only at hd hF hb ht
  refine sv_seq (sv_asgN (en_lst (ds := []) ea_nil) fun p => ?_)
  refine sv_seq (sv_for (ds := enumD 0 (d.map lnD)) (fun rest Γ' => ∃ (i : Nat) (r done : List Ln) (s3 s4 s5 s6 s7 : Slot), rest = enumD i (r.map lnD) ∧ (∃ pre, d = pre ++ r ∧ pre.length = i) ∧ done ++ ndoc (apG fs) i r = ndoc (apG fs) 0 d ∧ done.length ≤ 101 * i ∧
    Γ' = [.imm (.dat (docD d)), .imm (.dic es), .own p (done.map lnD), s3, s4, s5, s6, s7]) (ei_enumT (ev_var rfl)) ⟨0, d, [], _, _, _, _, _, rfl, ⟨[], rfl, rfl⟩, rfl, Nat.le_refl _, rfl⟩ (fun x rest Γ' h => ?_) (fun Γ' h => ?_))
  · obtain ⟨i, r, done, s3, s4, s5, s6, s7, e, ⟨pre, hpre, hpl⟩, hs, hdl, rfl⟩ := h
    cases r with
    | nil => cases e
    | cons l r =>
      cases e
      have hi : i < 300 := by
        rw [hpre, List.length_append, List.length_cons] at hd
        omega
      have hget : d[i]? = some l := by rw [hpre, ← hpl]; simp
      have hpre' : ∃ pre, d = pre ++ r ∧ pre.length = i + 1 := ⟨pre ++ [l], by rw [hpre]; simp, by simp [hpl]⟩
      have app : ∀ x : Ln, done.map lnD ++ [lnD x] = (done ++ [x]).map lnD := fun x => by rw [List.map_append]; rfl
      refine eg_tup (ds := [.int (i : Nat), lnD l]) rfl (gs_cons (eg_name (gs_cons (eg_name (gs_nil ?_)))))
      have key := hF i
      have hdoc : ndoc (apG fs) i (l :: r) = apG fs i l ++ ndoc (apG fs) (i + 1) r := rfl
      cases c : kget fs i with
      | none =>
        rw [c] at key
        have eg : apG fs i l = [l] := by
          unfold apG
          rw [c]
        refine sv_seq (sv_if (et_B (ev_dnotin (es := es) (n := .int (i : Nat)) (y := .inl (i : Int)) (ev_var rfl) (ev_var rfl) key_int)) (fun q => ?_) (fun q => ?_))
        · refine sv_seq (sv_append (i := 2) (d := lnD l) rfl (ev_var rfl) (by rw [List.length_map]; omega) ?_)
          rw [app]
          refine sv_cont ⟨i + 1, r, done ++ [l], _, _, _, _, _, rfl, hpre', ?_, by rw [List.length_append, List.length_singleton]; omega, rfl⟩
          rw [← hs, hdoc, eg, List.append_assoc]
        · rw [key] at q
          cases q
      | some f =>
        rw [c] at key
        have eg : apG fs i l = apCh f.ch l ++ putL l f.behind := by
          unfold apG
          rw [c]
        have hbl := hb i f c
        refine sv_seq (sv_if (et_B (ev_dnotin (es := es) (n := .int (i : Nat)) (y := .inl (i : Int)) (ev_var rfl) (ev_var rfl) key_int)) (fun q => ?_) (fun q => sv_next ?_))
        · rw [key] at q
          cases q
        refine sv_seq (sv_asgG (d := .dat (edD f)) (ev_dget (es := es) (n := .int (i : Nat)) (y := .inl (i : Int)) (ev_var rfl) (ev_var rfl) key_int key) (eg_tup (ds := [strsD f.ahead, chD f.ch, strsD f.behind]) rfl (gs_cons (eg_name (gs_cons (eg_name (gs_cons (eg_name (gs_nil ?_)))))))))
        refine sv_cut (fun Γ' => Γ' = [.imm (.dat (docD d)), .imm (.dic es), .own p ((done ++ apCh f.ch l).map lnD), .imm (.dat (.int (i : Nat))), .imm (.dat (lnD l)), .imm (.dat (strsD f.ahead)), .imm (.dat (chD f.ch)), .imm (.dat (strsD f.behind))]) (sv_if (et_test (ev_eqS (ev_chK (c := f.ch) (ev_var rfl)) ev_str)) (fun q => ?_) (fun q => sv_if (et_test (ev_eqS (ev_chK (c := f.ch) (ev_var rfl)) ev_str)) (fun q2 => ?_) (fun q2 => ?_))) fun Γ' h => ?_
        · rw [kind_keep] at q
          have q := of_decide_eq_true q
          refine sv_append (i := 2) (d := lnD l) rfl (ev_var rfl) (by rw [List.length_map]; omega) ?_
          rw [app, q]
          rfl
        · rw [kind_text] at q2
          cases e : f.ch with
          | keep => rw [e] at q2; cases q2
          | drop => rw [e] at q2; cases q2
          | text t =>
            have hcode := ht i l f t hget c e
            cases l with
            | head n => cases hcode
            | use a b => cases hcode
            | prose n => cases hcode
            | code u =>
              refine sv_append (i := 2) (d := lnD (.code t)) rfl (ev_tup (ds := [.str "code", .str t]) (ea_cons (ev_kind (l := .code u) (ev_var rfl)) (ea1 (ev_ch1 (t := t) (ev_var rfl))))) (by rw [List.length_map]; omega) ?_
              rw [app]
              rfl
        · rw [kind_keep] at q
          rw [kind_text] at q2
          cases e : f.ch with
          | keep =>
            rw [e] at q
            cases of_decide_eq_false q rfl
          | text t =>
            rw [e] at q2
            cases q2
          | drop =>
            refine sv_next ?_
            show _ = [_, _, Slot.own p ((done ++ []).map lnD), _, _, _, _, _]
            rw [List.append_nil]
            rfl
        · subst h
          have hput : (putL l f.behind).length = f.behind.length := by unfold putL; rw [List.length_map]
          have hch : (apCh f.ch l).length ≤ 1 := by cases f.ch <;> simp [apCh]
          refine sv_extend (i := 2) (es := (putL l f.behind).map lnD) rfl (ev_call (X := Ln × List Str) (l, f.behind) (ea_cons (ev_var rfl) (ea1 (ev_var rfl))) (by show f.behind.length ≤ 1000; omega)) (by rw [List.length_map, List.length_map, hput, List.length_append]; omega) ?_
          rw [← List.map_append]
          refine ⟨i + 1, r, done ++ apCh f.ch l ++ putL l f.behind, _, _, _, _, _, rfl, hpre', ?_, by rw [List.length_append, List.length_append, hput]; omega, rfl⟩
          rw [← hs, hdoc, eg]
          simp only [List.append_assoc]
  · obtain ⟨i, r, done, s3, s4, s5, s6, s7, e, _, hs, hdl, rfl⟩ := h
    cases r with
    | cons l r => cases e
    | nil =>
      refine sv_freeze (i := 2) rfl ?_
      refine sv_retE (d := .dat (docD done)) (ev_callB (ea1 (ev_var rfl)) rc_tupL) ?_
      have : done = ndoc (apG fs) 0 d := by
        rw [← hs]
        simp [ndoc]
      rw [this]
      rfl
theorem ok_apply {Pr : Program} {w : World} {K : PySem.W.Frag} {mg : Str → Option Value} {base : Heap} {P : Addr} {f : Addr} {fd : FuncData} (F : L2.Fun K "apply" "apply" s_apply f fd) (T : Txt mg) (C_put_lines : C8.Cal Pr w K mg base 1 "put_lines" (pm_put_lines.sp K P) []) : FnOk Pr w K mg base CX0 2 f fd ["document", "fates"] (pm_apply.sp K P) := by
  have nd := sc_apply.nd
  refine Fun.pure F sc_apply (fun _ => rfl) fun cdv A outer s H E hr => ⟨t_apply K P, ?_, fun x hx _ _ => ev_apply x hx⟩
  exact (pss_cons (ps_set (i := 2) nd rfl (by first | exact Or.inl rfl | exact Or.inr rfl) (pe_lst pa_nil)) (pss_cons (ps_for PassesOwn.never rfl (pi_enumT (by rfl) T.enumerate (pa_cons (pv 0) pa_nil)) (pg_tup rfl (pgs_cons (pg_name (i := 3) nd rfl (by first | exact Or.inl rfl | exact Or.inr rfl)) (pgs_cons (pg_name (i := 4) nd rfl (by first | exact Or.inl rfl | exact Or.inr rfl)) pgs_nil))) (pss_cons (ps_if (pt_cmp (pc_dnotin (hu_of hr) (pv 3) (pv 1))) (pss_cons (ps_expr (pe_bm PySem.F.plainAttrs_list PySem.F.slot_list_append PySem.F.type_list_append mt_append (pv 2) (pa_cons (pv 4) pa_nil))) (pss_one ps_continue)) pss_nil) (pss_cons (ps_asg (pe_dget (hu_of hr) (pv 1) (pv 3) (fun _ _ => rfl)) (pg_tup rfl (pgs_cons (pg_name (i := 5) nd rfl (by first | exact Or.inl rfl | exact Or.inr rfl)) (pgs_cons (pg_name (i := 6) nd rfl (by first | exact Or.inl rfl | exact Or.inr rfl)) (pgs_cons (pg_name (i := 7) nd rfl (by first | exact Or.inl rfl | exact Or.inr rfl)) pgs_nil))))) (pss_cons (ps_if (pt_cmpR op_eq (pe_ix ix_tup (pv 6) pe_int (fun _ _ => rfl)) pe_str (nomark _)) (pss_one (ps_expr (pe_bm PySem.F.plainAttrs_list PySem.F.slot_list_append PySem.F.type_list_append mt_append (pv 2) (pa_cons (pv 4) pa_nil)))) (pss_one (ps_if (pt_cmpR op_eq (pe_ix ix_tup (pv 6) pe_int (fun _ _ => rfl)) pe_str (nomark _)) (pss_one (ps_expr (pe_bm PySem.F.plainAttrs_list PySem.F.slot_list_append PySem.F.type_list_append mt_append (pv 2) (pa_cons (pe_tup (pa_cons (pe_ix ix_tup (pv 4) pe_int (fun _ _ => rfl)) (pa_cons (pe_ix ix_tup (pv 6) pe_int (fun _ _ => rfl)) pa_nil))) pa_nil)))) pss_nil))) (pss_one (ps_expr (pe_bm PySem.F.plainAttrs_list PySem.F.slot_list_extend PySem.F.type_list_extend mt_extend (pv 2) (pa_cons (C8.pe_c C_put_lines hr (by decide) rfl (pa_cons (pv 4) (pa_cons (pv 7) pa_nil))) pa_nil)))))))) (pss_one (ps_ret (pe_callTy (r := rTupOf K) call_tuple_of rfl T.tuple PyProof.Rows.boot_tuple (pa_cons (pv 2) pa_nil))))))
end Wf
/-! fates_of; the law's new document and edited texts. -/
namespace Wf
open PySem L2
section
variable {K : PySem.W.Frag} {P aK : Addr} {Γ : Env} {ta tb te : TE} {N : Env → Prop} {R : Env → DD → Prop} {B C : Env → Prop} {t : TS}
/-- an iterator over data that the promise tells but in part -/
def EvIP (K : PySem.W.Frag) (P : Addr) (wi : TI) (Γ : Env) (D : List PyData → Prop) : Prop := ∀ (I H : Hp) (σ : L2.St), EnvOk K P I H σ Γ → ∀ R : It → Hp → Prop, (∀ ds J I' H', D ds → Wd P I H I' H' → IterOk K P J I' ds → R J H') → wi σ H R
theorem ei_listP {D : List PyData → Prop} (h : Ev K P te Γ (fun r => ∃ ds, r = .dat (.list ds) ∧ D ds)) : EvIP K P (iList K te) Γ D := fun I H σ E R q => by
  refine h I H σ E _ fun v d I1 H1 e w r => ?_
  obtain ⟨ds, rfl, hD⟩ := e
  cases r with
  | @lst a xs _ h1 h2 =>
    have hl := h2.len
    refine ⟨a, rfl, ⟨xs, SqL.of (w.ok.sub _ _ h1)⟩, q ds _ I1 H1 hD w ⟨fun i I' H i1 s1 s2 => ?_, fun I' H s1 s2 => ?_, fun i I' H x H' i1 s1 k y => ?_⟩⟩
    · exact ⟨xs, xs[i]'(by omega), SqL.of (s2 _ _ (s1 _ _ h1)), by simp [show i < xs.length by omega]⟩
    · exact ⟨xs, SqL.of (s2 _ _ (s1 _ _ h1)), by omega⟩
    · obtain ⟨rfl, y⟩ := y
      obtain ⟨d, e1, e2⟩ := h2.get' (y xs (SqL.of (k.sub _ _ (s1 _ _ h1))))
      exact ⟨I', d, e1, Wd.refl k, e2.mono s1⟩
theorem sv_forP {wi : TI} {g : TG} {D : List PyData → Prop} (Inv : List PyData → Env → Prop) (hi : EvIP K P wi Γ D) (h0 : ∀ ds, D ds → Inv ds Γ)
    (hs : ∀ d r Γ', Inv (d :: r) Γ' → EvG K P I0 H0 g (.dat d) Γ' (fun Γ2 => EvS K P I0 H0 t Γ2 (Inv r) R N (Inv r))) (he : ∀ Γ', Inv [] Γ' → N Γ') : EvS K P I0 H0 (tFor wi g t) Γ N R B C := fun I H σ D' E kn kr hb hc => by
  refine hi I H σ E.env _ fun ds J I1 H1 hD w W => ?_
  refine ⟨fun i m σ H => m = ds.length - i ∧ i ≤ ds.length ∧ ∃ I' Γ', Same I1 I' ∧ EnvS K P I0 H0 I' H σ Γ' ∧ Inv (ds.drop i) Γ', ⟨ds.length, by simp, Nat.zero_le _, I1, Γ, Same.refl _, E.mono w, h0 ds hD⟩, ?_⟩
  rintro i m σ H ⟨rfl, hle, I', Γ', s1, E', hI⟩
  by_cases hlt : i < ds.length
  · refine .inr ⟨W.go i I' H hlt s1 E'.env.ok.sub, fun σ H => ∃ I'' Γ'', Same I1 I'' ∧ EnvS K P I0 H0 I'' H σ Γ'' ∧ Inv (ds.drop (i + 1)) Γ'', fun σ2 H2 ⟨I'', Γ'', s2, E2, h2⟩ => ⟨ds.length - (i + 1), by omega, rfl, hlt, I'', Γ'', s2, E2, h2⟩, fun x H2 y => ?_⟩
    obtain ⟨I2, d, hd, w2, r2⟩ := W.yld i I' H x H2 hlt s1 E'.env.ok y
    have ed : ds.drop i = d :: ds.drop (i + 1) := by
      have hd' := List.getElem?_eq_some_iff.mp hd
      rw [List.drop_eq_getElem_cons hd'.1, hd'.2]
    rw [ed] at hI
    have E2 := E'.mono w2
    refine hs d _ Γ' hI I2 H2 σ x E2 r2 _ fun σ3 Γ3 h3 E3 => ?_
    have s12 : Same I1 I2 := s1.trans w2.ii
    have w1 : Same I I1 := w.ii
    exact h3 I2 H2 σ3 _ E3 (fun I4 H4 σ4 Γ4 h4 s4 E4 => ⟨I4, Γ4, s12.trans s4, E4, h4⟩) kr (fun I4 H4 σ4 Γ4 h4 s4 E4 => kn I4 H4 σ4 Γ4 h4 (w1.trans (s12.trans s4)) E4) fun I4 H4 σ4 Γ4 h4 s4 E4 => ⟨I4, Γ4, s12.trans s4, E4, h4⟩
  · have e : i = ds.length := by omega
    subst e
    rw [List.drop_length] at hI
    exact .inl ⟨W.stop I' H s1 E'.env.ok.sub, kn I' H σ Γ' (he Γ' hI) (Same.trans w.ii s1) E'⟩
theorem ints_dxa {I : Hp} : ∀ ns : List Int, DxA K I (ns.map V.int) (ns.map PyData.int)
  | [] => .nil
  | n :: ns => .cons (.int _) (ints_dxa ns)
/-- sorted(d), d of ints -/
theorem ev_sorted {es : List (Key × PyData)} {ks : List Int} (h : EvE K P te Γ (.dic es)) (hk : es.map (·.1) = ks.map Sum.inl) (hl : ks.length < 64) : Ev K P (tCB rSortDI (tCons te tNil)) Γ (fun r => ∃ ds, r = .dat (.list ds) ∧ ∃ ys : List Int, ds = ys.map .int ∧ ys.Perm ks) := fun I H σ E Q q => by
  refine h I H σ E _ fun v d I1 H1 e w r => ?_
  subst e
  obtain ⟨a, kvs, rfl, h1, h2⟩ := r
  have hkv : kvs.map (·.1) = es.map (·.1) := by
    clear h1 hk h
    induction h2 with
    | nil => rfl
    | cons x y ih => rw [List.map_cons, List.map_cons, ih, x.1]
  refine ⟨a, kvs, ks, rfl, .inl (w.ok.sub _ _ h1), hkv.trans hk, hl, fun ys p hp _ hp2 => ?_⟩
  have w2 := w.ok.new hp2 (.lst (ys.map V.int))
  exact q _ _ _ _ ⟨_, rfl, ys, rfl, hp⟩ (w.trans w2) (Dx.lst upd_same (ints_dxa ys))
end
def knD (k : Known) : List (Key × PyData) := k.map fun q => (Sum.inl (q.1 : Int), edD q.2.1)
theorem knD_get (k : Known) (a : Nat) : valD (knD k) (.inl (a : Int)) = (kget k a).map fun f => edD f.1 := by
  induction k with
  | nil => rfl
  | cons q k ih =>
    rw [kget_cons]
    unfold valD knD at ih ⊢
    rw [List.map_cons, List.find?_cons]
    by_cases c : q.1 = a
    · subst c
      simp
    · have ne : ¬ ((Sum.inl (q.1 : Int) : Key) = Sum.inl (a : Int)) := fun z => c (Int.ofNat.inj (Sum.inl.inj z))
      simp only [decide_eq_false ne, if_neg c]
      exact ih
theorem FD.put {es : List (Key × PyData)} {fs : Nat → Option Ed} (h : FD es fs) (a : Nat) (e : Ed) : FD (putD es (.inl (a : Int)) (edD e)) (fun b => if b = a then some e else fs b) := fun b => by
  rw [valD_put]
  by_cases c : b = a
  · subst c
    rw [if_pos rfl]
    dsimp only
    rw [if_pos rfl]
    rfl
  · have ne : ¬ ((Sum.inl (b : Int) : Key) = Sum.inl (a : Int)) := fun z => c (Int.ofNat.inj (Sum.inl.inj z))
    rw [if_neg ne]
    dsimp only
    rw [if_neg c]
    exact h b
theorem FD.kput {es : List (Key × PyData)} {fs : Fates} (h : FD es (kget fs)) (a : Nat) (e : Ed) : FD (putD es (.inl (a : Int)) (edD e)) (kget (Wf.kput a e fs)) := fun b => by
  have := h.put a e b
  rw [kget_kput]
  exact this
theorem isFirst_pos {d : List Ln} {a : Nat} (h : isFirst d a = true) : 0 < a := by
  cases a with
  | zero => cases h
  | succ a => omega
theorem nonempty_iff {ts : List Str} : (!(ts.map PyData.str).isEmpty) = true ↔ ts ≠ [] := by cases ts <;> simp
abbrev s_fates_of : Stmt := topS 37
abbrev N_fates_of : List Str := ["known", "fates", "line", "ahead", "change", "behind"]
theorem sc_fates_of : FnScope N_fates_of ["known"] (defScope s_fates_of) := ⟨rfl, rfl, rfl, by decide +kernel, rfl, by decide +kernel, by decide +kernel⟩
def t_fates_of (K : PySem.W.Frag) (P : Addr) (aK : Addr) : TS :=
  (tSeq (tAsg tDNewK (gName 1)) (tSeq (tFor (iList K (tCB rSortDI (tCons (tVar 0) tNil))) (gName 2) (tSeq (tAsg (tDGet (tVar 0) (tVar 2)) (gTup K 3 (gCons (gName 3) (gCons (gName 4) (gCons (gName 5) gNil))))) (tSeq (tIfS (tTru K (tVar 3)) (sDPut (tVar 1) (tOp rSubI (tVar 2) (tC (.int 1))) (tTup (tCons (tTup tNil) (tCons (tC (.ref aK)) (tCons (tVar 3) tNil))))) tNext) (tIfS (tB (tCall (pm_is_touched.sp K P) [] E0 (tCons (tTup (tCons (tTup tNil) (tCons (tVar 4) (tCons (tVar 5) tNil)))) tNil))) (sDPut (tVar 1) (tVar 2) (tTup (tCons (tTup tNil) (tCons (tVar 4) (tCons (tVar 5) tNil))))) tNext)))) (tRet (tVar 1))))
def pm_fates_of : Pm := ⟨List Ln × Known, fun x => [.dic (knD x.2)], fun x => Kok x.1 x.2 ∧ x.2.length < 64, fun x r => ∃ es fs, FD es (kget fs) ∧ (∀ a, kget fs a = fateAt x.2 (x.2.map (·.1)) a) ∧ r = .dic es⟩
theorem ev_fates_of {K : PySem.W.Frag} {P aK : Addr} (hK : KeepK K aK) : pm_fates_of.Ok K P I0 H0 N_fates_of.length (t_fates_of K P aK) := fun x hx => by
  obtain ⟨d, k⟩ := x
  obtain ⟨hk, hl⟩ := hx
  dsimp only at hk hl
  refine sv_seq (sv_newD fun p => ?_)
  refine sv_seq (sv_forP (D := fun ds => ∃ ys : List Int, ds = ys.map .int ∧ ys.Perm ((k.map (·.1)).map fun (n : Nat) => (n : Int))) (fun rest Γ' => ∃ (done todo : List Nat) (es : List (Key × PyData)) (s2 s3 s4 s5 : Slot), rest = natsL todo ∧ (∀ a, a ∈ done ++ todo ↔ a ∈ k.map (·.1)) ∧ done.length + todo.length < 64 ∧ FD es (kget (done.foldl (fateStep k) [])) ∧ es.length ≤ 2 * done.length ∧
    Γ' = [.imm (.dic (knD k)), .ownD p es, s2, s3, s4, s5]) (ei_listP (ev_sorted (ks := (k.map (·.1)).map fun (n : Nat) => (n : Int)) (ev_var rfl) (by unfold knD; rw [List.map_map, List.map_map, List.map_map]; rfl) (by rw [List.length_map, List.length_map]; exact hl))) (fun ds hD => ?_) (fun x rest Γ' h => ?_) (fun Γ' h => ?_))
  · obtain ⟨ys, rfl, hp⟩ := hD
    have hc : ys = (ys.map Int.toNat).map fun (n : Nat) => (n : Int) := by
      rw [List.map_map]
      refine (List.map_id ys).symm.trans (List.map_congr_left fun y hy => ?_)
      obtain ⟨n, _, rfl⟩ := List.mem_map.mp (hp.mem_iff.mp hy)
      rfl
    refine ⟨[], ys.map Int.toNat, [], _, _, _, _, ?_, fun a => ?_, ?_, fun a => rfl, Nat.le_refl _, rfl⟩
    · unfold natsL
      rw [List.map_map]
      refine List.map_congr_left fun y hy => ?_
      obtain ⟨n, _, rfl⟩ := List.mem_map.mp (hp.mem_iff.mp hy)
      rfl
    · rw [List.nil_append]
      constructor
      · intro h
        obtain ⟨y, hy, rfl⟩ := List.mem_map.mp h
        obtain ⟨n, hn, rfl⟩ := List.mem_map.mp (hp.mem_iff.mp hy)
        exact hn
      · intro h
        exact List.mem_map.mpr ⟨(a : Int), hp.mem_iff.mpr (List.mem_map.mpr ⟨a, h, rfl⟩), rfl⟩
    · have := hp.length_eq
      rw [List.length_map, List.length_map] at this
      rw [List.length_map]
      simp
      omega
  · obtain ⟨done, todo, es, s2, s3, s4, s5, e, hm, hll, hF, hel, rfl⟩ := h
    cases todo with
    | nil => cases e
    | cons a todo =>
      cases e
      have ha : a ∈ k.map (·.1) := (hm a).mp (by simp)
      obtain ⟨f, hf⟩ := kget_of_mem ha
      have hv : valD (knD k) (.inl (a : Int)) = some (edD f.1) := by
        rw [knD_get, hf]
        rfl
      rw [List.length_cons] at hll
      have hstep : (done ++ [a]).foldl (fateStep k) [] = fateStep k (done.foldl (fateStep k) []) a := by
        rw [List.foldl_append]
        rfl
      have fin : ∀ es' s3 s4 s5, FD es' (kget (fateStep k (done.foldl (fateStep k) []) a)) → es'.length ≤ 2 * done.length + 2 → ∃ (done_1 todo_1 : List Nat) (es : List (Key × PyData)) (s2 s3' s4' s5' : Slot), natsL todo = natsL todo_1 ∧ (∀ b, b ∈ done_1 ++ todo_1 ↔ b ∈ k.map (·.1)) ∧ done_1.length + todo_1.length < 64 ∧ FD es (kget (done_1.foldl (fateStep k) [])) ∧ es.length ≤ 2 * done_1.length ∧
          ([.imm (.dic (knD k)), .ownD p es', .imm (.dat (.int (a : Nat))), s3, s4, s5] : Env) = [.imm (.dic (knD k)), .ownD p es, s2, s3', s4', s5'] := fun es' s3 s4 s5 h1 h2 =>
        ⟨done ++ [a], todo, es', _, _, _, _, rfl, fun b => by rw [List.append_assoc]; exact hm b, by rw [List.length_append, List.length_singleton]; omega, by rw [hstep]; exact h1, by rw [List.length_append, List.length_singleton]; omega, rfl⟩
      refine eg_name ?_
      refine sv_seq (sv_asgG (d := .dat (edD f.1)) (ev_dget (es := knD k) (n := .int (a : Nat)) (y := .inl (a : Int)) (ev_var rfl) (ev_var rfl) key_int hv) (eg_tup (ds := [strsD f.1.ahead, chD f.1.ch, strsD f.1.behind]) rfl (gs_cons (eg_name (gs_cons (eg_name (gs_cons (eg_name (gs_nil ?_)))))))))
      refine sv_cut (fun Γ' => ∃ es', FD es' (kget (if f.1.ahead ≠ [] then kput (a - 1) ⟨[], .keep, f.1.ahead⟩ (done.foldl (fateStep k) []) else done.foldl (fateStep k) [])) ∧ es'.length ≤ 2 * done.length + 1 ∧ Γ' = [.imm (.dic (knD k)), .ownD p es', .imm (.dat (.int (a : Nat))), .imm (.dat (strsD f.1.ahead)), .imm (.dat (chD f.1.ch)), .imm (.dat (strsD f.1.behind))])
        (sv_if (et_tuple (ev_var rfl)) (fun q => ?_) (fun q => ?_)) fun Γ' h => ?_
      · have hne : f.1.ahead ≠ [] := nonempty_iff.mp q
        have hpos := isFirst_pos (hk.first a f hf hne)
        refine sv_dput (i := 1) (es := es) (n := .int ((a - 1 : Nat) : Int)) (y := .inl ((a - 1 : Nat) : Int)) (d := edD ⟨[], .keep, f.1.ahead⟩) rfl (ev_ed (e := ⟨[], .keep, f.1.ahead⟩) ev_none (ev_keep hK) (ev_var rfl)) (EvD.as (ev_sub (ev_var rfl) ev_int) (by congr 1; omega)) key_int (by omega) ?_
        refine ⟨_, ?_, ?_, rfl⟩
        · rw [if_pos hne]
          exact hF.kput _ _
        · have := putD_len es (.inl ((a - 1 : Nat) : Int)) (edD ⟨[], .keep, f.1.ahead⟩)
          omega
      · have hne : ¬ f.1.ahead ≠ [] := fun z => by
          rw [nonempty_iff.mpr z] at q
          cases q
        refine sv_next ⟨es, ?_, by omega, rfl⟩
        rw [if_neg hne]
        exact hF
      · obtain ⟨es', h1, h2, rfl⟩ := h
        refine sv_if (et_B (ev_call (X := Ed) ⟨[], f.1.ch, f.1.behind⟩ (ea1 (ev_ed (e := ⟨[], f.1.ch, f.1.behind⟩) ev_none (ev_var rfl) (ev_var rfl))) trivial)) (fun q => ?_) (fun q => ?_)
        · refine sv_dput (i := 1) (es := es') (n := .int (a : Nat)) (y := .inl (a : Int)) (d := edD ⟨[], f.1.ch, f.1.behind⟩) rfl (ev_ed (e := ⟨[], f.1.ch, f.1.behind⟩) ev_none (ev_var rfl) (ev_var rfl)) (ev_var rfl) key_int (by omega) ?_
          refine fin _ _ _ _ ?_ ?_
          · unfold fateStep
            rw [hf]
            dsimp only
            rw [if_pos q]
            exact h1.kput _ _
          · have := putD_len es' (.inl (a : Int)) (edD ⟨[], f.1.ch, f.1.behind⟩)
            omega
        · refine sv_next (fin es' _ _ _ ?_ (by omega))
          unfold fateStep
          rw [hf]
          dsimp only
          rw [if_neg (by rw [q]; decide)]
          exact h1
  · obtain ⟨done, todo, es, s2, s3, s4, s5, e, hm, hll, hF, hel, rfl⟩ := h
    cases todo with
    | cons a todo => cases e
    | nil =>
      rw [List.append_nil] at hm
      refine sv_freezeD (i := 1) rfl ?_
      exact sv_retE (d := .dic es) (ev_var rfl) ⟨es, _, hF, fates_of_ok hk done hm, rfl⟩
theorem ok_fates_of {Pr : Program} {w : World} {K : PySem.W.Frag} {mg : Str → Option Value} {base : Heap} {P : Addr} {aK : Addr} {f : Addr} {fd : FuncData} (F : L2.Fun K "fates_of" "fates_of" s_fates_of f fd) (T : Txt mg) (hK : KeepAt mg K aK) (C_is_touched : C8.Cal Pr w K mg base 1 "is_touched" (pm_is_touched.sp K P) []) : FnOk Pr w K mg base CX0 2 f fd ["known"] (pm_fates_of.sp K P) := by
  have nd := sc_fates_of.nd
  refine Fun.pure F sc_fates_of (fun _ => rfl) fun cdv A outer s H E hr => ⟨t_fates_of K P aK, ?_, fun x hx _ _ => ev_fates_of hK.1 x hx⟩
  exact (pss_cons (ps_set (i := 1) nd rfl (by first | exact Or.inl rfl | exact Or.inr rfl) pe_dnewK) (pss_cons (ps_for PassesOwn.never rfl (pi_list (pe_callB (r := rSortDI) (call_sortedDI rfl) rfl T.sorted PyProof.Rows.boot_sorted (pa_cons (pv 0) pa_nil))) (pg_name (i := 2) nd rfl (by first | exact Or.inl rfl | exact Or.inr rfl)) (pss_cons (ps_asg (pe_dget (hu_of hr) (pv 0) (pv 2) (fun _ _ => rfl)) (pg_tup rfl (pgs_cons (pg_name (i := 3) nd rfl (by first | exact Or.inl rfl | exact Or.inr rfl)) (pgs_cons (pg_name (i := 4) nd rfl (by first | exact Or.inl rfl | exact Or.inr rfl)) (pgs_cons (pg_name (i := 5) nd rfl (by first | exact Or.inl rfl | exact Or.inr rfl)) pgs_nil))))) (pss_cons (ps_if (pt_truth (pv 3) (by intro _; rfl)) (pss_one (ps_dput (hu_of hr) (pv 1) (pe_op op_sub (pv 2) pe_int) (pe_tup (pa_cons (pe_tup pa_nil) (pa_cons (C8.pe_gc rfl hK.2) (pa_cons (pv 3) pa_nil)))) rfl)) pss_nil) (pss_one (ps_if (pt_val (C8.pe_c C_is_touched hr (by decide) rfl (pa_cons (pe_tup (pa_cons (pe_tup pa_nil) (pa_cons (pv 4) (pa_cons (pv 5) pa_nil)))) pa_nil))) (pss_one (ps_dput (hu_of hr) (pv 1) (pv 2) (pe_tup (pa_cons (pe_tup pa_nil) (pa_cons (pv 4) (pa_cons (pv 5) pa_nil)))) rfl)) pss_nil))))) (pss_one (ps_ret (pv 1)))))
end Wf
/-! The law's new document and edited texts. -/
namespace Wf
open PySem L2
/-- an edit of no great size -/
def EdSz (e : Ed) : Prop := e.ahead.length ≤ 100 ∧ e.behind.length ≤ 100
def lkV (f : KE) : PyData := .tuple [edD f.1, .str f.2.1, .int f.2.2]
def lkD (k : Known) : List (Key × PyData) := k.map fun q => (Sum.inl (q.1 : Int), lkV q.2)
theorem lkD_get (k : Known) (a : Nat) : valD (lkD k) (.inl (a : Int)) = (kget k a).map lkV := by
  induction k with
  | nil => rfl
  | cons q k ih =>
    rw [kget_cons]
    unfold valD lkD at ih ⊢
    rw [List.map_cons, List.find?_cons]
    by_cases c : q.1 = a
    · subst c
      simp
    · have ne : ¬ ((Sum.inl (q.1 : Int) : Key) = Sum.inl (a : Int)) := fun z => c (Int.ofNat.inj (Sum.inl.inj z))
      simp only [decide_eq_false ne, if_neg c]
      exact ih
section
variable {K : PySem.W.Frag} {P aK : Addr} {Γ : Env} {ta tb te : TE} {N : Env → Prop} {R : Env → DD → Prop} {B C : Env → Prop} {t : TS}
theorem codes_map (ts : List Str) : (codes ts).map lnD = (ts.map PyData.str).map fun x => PyData.tuple [.str "code", x] := by
  unfold codes
  rw [List.map_map, List.map_map]
  rfl
/-- made + [('code', t) for t in ts] -/
theorem sv_addCodes {i j m : Nat} {p : Addr} {ds : List PyData} {ts : List Str} {s : Slot} (hi : Γ[i]? = some (.own p ds)) (hj : Γ[j]? = some (.imm (.dat (strsD ts)))) (hm : m < Γ.length) (hl : ds.length + ts.length ≤ 100000) (hn : ∀ q, N (Γ.set i (.own q (ds ++ (codes ts).map lnD)))) :
    EvS K P I0 H0 (tAsg (tOp rCat (tVar i) (tLc (iTup K (tVar j)) (gName m) tYes (tTup (tCons (tC (.str "code")) (tCons (tVar m) tNil))) [m])) (gName i)) Γ N R B C := by
  have hlen : (codes ts).length = ts.length := by unfold codes; rw [List.length_map]
  refine sv_asgN (en_catOwn hi (bs := (codes ts).map lnD) (EvN.ev ?_) (by rw [List.length_map, hlen]; exact hl)) hn
  rw [codes_map]
  refine en_map (fun x => PyData.tuple [.str "code", x]) (fun x => Γ.set m (.imm (.dat x))) (ei_tup (ev_var hj)) (by rw [List.length_map]; omega) (fun x hx => ew_name) fun x hx => ?_
  exact ev_tup (ds := [.str "code", x]) (ea_cons ev_str (ea1 (ev_var (List.getElem?_set_self hm))))
end
abbrev s__law_new_document : Stmt := topS 70
abbrev N__law_new_document : List Str := ["_law_document_here", "_law_known", "_law_made", "_law_at", "_law_line_here", "_law_ahead", "_law_change", "_law_behind", "_law_t"]
theorem sc__law_new_document : FnScope N__law_new_document ["_law_document_here", "_law_known"] (defScope s__law_new_document) := ⟨rfl, rfl, rfl, by decide +kernel, rfl, by decide +kernel, by decide +kernel⟩
def t__law_new_document (K : PySem.W.Frag) (P : Addr) : TS :=
  (tSeq (tAsg (tLst tNil) (gName 2)) (tSeq (tFor (iRng1 (tCons (tCB (rLen K) (tCons (tVar 0) tNil)) tNil)) (gName 3) (tSeq (tAsg (tOp (rIxT K) (tVar 0) (tVar 3)) (gName 4)) (tSeq (tIfS (tB (tDNotIn (tVar 3) (tVar 1))) (tSeq (tDrop (tBM K "list" rAppend (tVar 2) (tCons (tVar 4) tNil))) tCont) tNext) (tSeq (tAsg (tOp (rIxT K) (tDGet (tVar 1) (tVar 3)) (tC (.int 0))) (gTup K 3 (gCons (gName 5) (gCons (gName 6) (gCons (gName 7) gNil))))) (tSeq (tAsg (tOp rCat (tVar 2) (tLc (iTup K (tVar 5)) (gName 8) tYes (tTup (tCons (tC (.str "code")) (tCons (tVar 8) tNil))) [8])) (gName 2)) (tSeq (tIfS (tTest (tOp rEq (tOp (rIxT K) (tVar 6) (tC (.int 0))) (tC (.str "keep")))) (tDrop (tBM K "list" rAppend (tVar 2) (tCons (tVar 4) tNil))) tNext) (tSeq (tIfS (tTest (tOp rEq (tOp (rIxT K) (tVar 6) (tC (.int 0))) (tC (.str "text")))) (tDrop (tBM K "list" rAppend (tVar 2) (tCons (tTup (tCons (tC (.str "code")) (tCons (tOp (rIxT K) (tVar 6) (tC (.int 1))) tNil))) tNil))) tNext) (tAsg (tOp rCat (tVar 2) (tLc (iTup K (tVar 7)) (gName 8) tYes (tTup (tCons (tC (.str "code")) (tCons (tVar 8) tNil))) [8])) (gName 2))))))))) (tRet (tCB (rTupOf K) (tCons (tVar 2) tNil)))))
def pm__law_new_document : Pm := ⟨List Ln × Known, fun x => [.dat (docD x.1), .dic (lkD x.2)], fun x => x.1.length ≤ 300 ∧ ∀ a f, kget x.2 a = some f → EdSz f.1, fun x r => r = .dat (docD (ndoc (lawG x.2) 0 x.1))⟩
abbrev ndE (d : List Ln) (k : Known) (p : Addr) (done : List Ln) (s3 s4 s5 s6 s7 s8 : Slot) : Env := [.imm (.dat (docD d)), .imm (.dic (lkD k)), .own p (done.map lnD), s3, s4, s5, s6, s7, s8]
theorem ev__law_new_document {K : PySem.W.Frag} {P : Addr} : pm__law_new_document.Ok K P I0 H0 N__law_new_document.length (t__law_new_document K P) := fun x hx => by
  obtain ⟨d, k⟩ := x
  obtain ⟨hd, hk⟩ := hx
  dsimp only at hd hk
  refine sv_seq (sv_asgN (en_lst (ds := []) ea_nil) fun p => ?_)
  refine sv_seq (sv_for (ds := (List.range' 0 d.length).map fun i => PyData.int (i : Nat)) (fun rest Γ' => ∃ (i m : Nat) (r done : List Ln) (p : Addr) (s3 s4 s5 s6 s7 s8 : Slot), rest = ((List.range' i m).map fun i => PyData.int (i : Nat)) ∧ r.length = m ∧ (∃ pre, d = pre ++ r ∧ pre.length = i) ∧ done ++ ndoc (lawG k) i r = ndoc (lawG k) 0 d ∧ done.length ≤ 201 * i ∧
    Γ' = ndE d k p done s3 s4 s5 s6 s7 s8) ?_ ⟨0, d.length, d, [], p, _, _, _, _, _, _, rfl, rfl, ⟨[], rfl, rfl⟩, rfl, Nat.le_refl _, rfl⟩ (fun x rest Γ' h => ?_) (fun Γ' h => ?_))
  · have := ei_range1 (K := K) (P := P) (Γ := ((startE N__law_new_document.length [.dat (docD d), .dic (lkD k)]).set 2 (.own p []))) (te := tCB (rLen K) (tCons (tVar 0) tNil)) (n := (d.length : Int)) (ev_callB (ea1 (ev_var rfl)) (rc_lenT.as (by simp))) (by omega) (by omega)
    rw [rangeD_eq] at this
    exact this
  · obtain ⟨i, m, r, done, p, s3, s4, s5, s6, s7, s8, e, hm, ⟨pre, hpre, hpl⟩, hs, hdl, rfl⟩ := h
    cases r with
    | nil =>
      subst hm
      cases e
    | cons l r =>
      subst hm
      rw [List.length_cons, rangeD_cons] at e
      cases e
      have hi : i < 300 := by
        rw [hpre, List.length_append, List.length_cons] at hd
        omega
      have hget : d[i]? = some l := by rw [hpre, ← hpl]; simp
      have hpre' : ∃ pre, d = pre ++ r ∧ pre.length = i + 1 := ⟨pre ++ [l], by rw [hpre]; simp, by simp [hpl]⟩
      have app : ∀ (done : List Ln) (x : Ln), done.map lnD ++ [lnD x] = (done ++ [x]).map lnD := fun done x => by rw [List.map_append]; rfl
      refine eg_name (sv_seq (sv_asgE (ev_docAt (ev_var rfl) (ev_var rfl) hget) ?_))
      have key := lkD_get k i
      have hdoc : ndoc (lawG k) i (l :: r) = lawG k i l ++ ndoc (lawG k) (i + 1) r := rfl
      cases c : kget k i with
      | none =>
        rw [c] at key
        have eg : lawG k i l = [l] := by
          unfold lawG
          rw [c]
        refine sv_seq (sv_if (et_B (ev_dnotin (es := lkD k) (n := .int (i : Nat)) (y := .inl (i : Int)) (ev_var rfl) (ev_var rfl) key_int)) (fun q => ?_) (fun q => ?_))
        · refine sv_seq (sv_append (i := 2) (d := lnD l) rfl (ev_var rfl) (by rw [List.length_map]; omega) ?_)
          rw [app]
          refine sv_cont ⟨i + 1, r.length, r, done ++ [l], p, _, _, _, _, _, _, rfl, rfl, hpre', ?_, by rw [List.length_append, List.length_singleton]; omega, rfl⟩
          rw [← hs, hdoc, eg, List.append_assoc]
        · rw [key] at q
          cases q
      | some f =>
        rw [c] at key
        obtain ⟨sz1, sz2⟩ := hk i f c
        have eg : lawG k i l = codes f.1.ahead ++ chL f.1.ch l ++ codes f.1.behind := by
          unfold lawG
          rw [c]
        refine sv_seq (sv_if (et_B (ev_dnotin (es := lkD k) (n := .int (i : Nat)) (y := .inl (i : Int)) (ev_var rfl) (ev_var rfl) key_int)) (fun q => ?_) (fun q => sv_next ?_))
        · rw [key] at q
          cases q
        refine sv_seq (sv_asgG (d := .dat (edD f.1)) (ev_ixT (ds := [edD f.1, .str f.2.1, .int f.2.2]) (ev_dget (es := lkD k) (n := .int (i : Nat)) (y := .inl (i : Int)) (ev_var rfl) (ev_var rfl) key_int key) ev_int rfl) (eg_tup (ds := [strsD f.1.ahead, chD f.1.ch, strsD f.1.behind]) rfl (gs_cons (eg_name (gs_cons (eg_name (gs_cons (eg_name (gs_nil ?_)))))))))
        have c1 : (codes f.1.ahead).length = f.1.ahead.length := by unfold codes; rw [List.length_map]
        have c2 : (codes f.1.behind).length = f.1.behind.length := by unfold codes; rw [List.length_map]
        refine sv_seq (sv_addCodes (s := .emp) (i := 2) (j := 5) (m := 8) (ts := f.1.ahead) rfl rfl (by show 8 < 9; omega) (by rw [List.length_map]; omega) fun p2 => ?_)
        rw [← List.map_append]
        refine sv_cut (fun Γ' => ∃ x, Γ' = ndE d k p2 (done ++ codes f.1.ahead ++ x) (.imm (.dat (.int (i : Nat)))) (.imm (.dat (lnD l))) (.imm (.dat (strsD f.1.ahead))) (.imm (.dat (chD f.1.ch))) (.imm (.dat (strsD f.1.behind))) s8 ∧ x = if f.1.ch = .keep then [l] else []) (sv_if (et_test (ev_eqS (ev_chK (c := f.1.ch) (ev_var rfl)) ev_str)) (fun q => ?_) (fun q => ?_)) fun Γ' h => ?_
        · rw [kind_keep] at q
          refine sv_append (i := 2) (d := lnD l) rfl (ev_var rfl) (by rw [List.length_map, List.length_append, c1]; omega) ?_
          rw [app]
          exact ⟨[l], rfl, by rw [if_pos (of_decide_eq_true q)]⟩
        · rw [kind_keep] at q
          exact sv_next ⟨[], by rw [List.append_nil]; rfl, by rw [if_neg (of_decide_eq_false q)]⟩
        obtain ⟨x, rfl, hx⟩ := h
        have hxl : x.length ≤ 1 := by
          rw [hx]
          split <;> simp
        refine sv_cut (fun Γ' => Γ' = ndE d k p2 (done ++ codes f.1.ahead ++ chL f.1.ch l) (.imm (.dat (.int (i : Nat)))) (.imm (.dat (lnD l))) (.imm (.dat (strsD f.1.ahead))) (.imm (.dat (chD f.1.ch))) (.imm (.dat (strsD f.1.behind))) s8) (sv_if (et_test (ev_eqS (ev_chK (c := f.1.ch) (ev_var rfl)) ev_str)) (fun q => ?_) (fun q => ?_)) fun Γ' h => ?_
        · rw [kind_text] at q
          cases e : f.1.ch with
          | keep => rw [e] at q; cases q
          | drop => rw [e] at q; cases q
          | text t =>
            rw [e] at hx
            rw [if_neg (fun z => by cases z)] at hx
            subst hx
            rw [List.append_nil]
            refine sv_append (i := 2) (d := lnD (.code t)) rfl (ev_tup (ds := [.str "code", .str t]) (ea_cons ev_str (ea1 (ev_ch1 (t := t) (ev_var rfl))))) (by rw [List.length_map, List.length_append, c1]; omega) ?_
            rw [app]
            rfl
        · rw [kind_text] at q
          cases e : f.1.ch with
          | keep =>
            rw [e, if_pos rfl] at hx
            subst hx
            exact sv_next rfl
          | drop =>
            rw [e, if_neg (fun z => by cases z)] at hx
            subst hx
            exact sv_next rfl
          | text t => rw [e] at q; cases q
        subst h
        have c3 : (chL f.1.ch l).length ≤ 1 := by cases f.1.ch <;> simp [chL]
        refine sv_addCodes (s := .emp) (i := 2) (j := 7) (m := 8) (ts := f.1.behind) rfl rfl (by show 8 < 9; omega) (by rw [List.length_map, List.length_append, List.length_append, c1]; omega) fun p3 => ?_
        rw [← List.map_append]
        refine ⟨i + 1, r.length, r, done ++ codes f.1.ahead ++ chL f.1.ch l ++ codes f.1.behind, p3, _, _, _, _, _, _, rfl, rfl, hpre', ?_, by rw [List.length_append, List.length_append, List.length_append, c1, c2]; omega, rfl⟩
        rw [← hs, hdoc, eg]
        simp only [List.append_assoc]
  · obtain ⟨i, m, r, done, p, s3, s4, s5, s6, s7, s8, e, hm, _, hs, hdl, rfl⟩ := h
    cases r with
    | cons l r =>
      subst hm
      cases e
    | nil =>
      refine sv_freeze (i := 2) rfl ?_
      refine sv_retE (d := .dat (docD done)) (ev_callB (ea1 (ev_var rfl)) rc_tupL) ?_
      have : done = ndoc (lawG k) 0 d := by
        rw [← hs]
        simp [ndoc]
      rw [this]
      rfl
theorem ok__law_new_document {Pr : Program} {w : World} {K : PySem.W.Frag} {mg : Str → Option Value} {base : Heap} {P : Addr} {f : Addr} {fd : FuncData} (F : L2.Fun K "_law_new_document" "_law_new_document" s__law_new_document f fd) (T : Txt mg) : FnOk Pr w K mg base CX0 1 f fd ["_law_document_here", "_law_known"] (pm__law_new_document.sp K P) := by
  have nd := sc__law_new_document.nd
  refine Fun.pure F sc__law_new_document (fun _ => rfl) fun cdv A outer s H E hr => ⟨t__law_new_document K P, ?_, fun x hx _ _ => ev__law_new_document x hx⟩
  exact (pss_cons (ps_set (i := 2) nd rfl (by first | exact Or.inl rfl | exact Or.inr rfl) (pe_lst pa_nil)) (pss_cons (ps_for PassesOwn.never rfl (pi_range1 (by rfl) T.range (pa_cons (pe_callB (r := rLen K) call_len rfl T.len PySem.boot_len (pa_cons (pv 0) pa_nil)) pa_nil)) (pg_name (i := 3) nd rfl (by first | exact Or.inl rfl | exact Or.inr rfl)) (pss_cons (ps_set (i := 4) nd rfl (by first | exact Or.inl rfl | exact Or.inr rfl) (pe_ix ix_tup (pv 0) (pv 3) (fun _ _ => rfl))) (pss_cons (ps_if (pt_cmp (pc_dnotin (hu_of hr) (pv 3) (pv 1))) (pss_cons (ps_expr (pe_bm PySem.F.plainAttrs_list PySem.F.slot_list_append PySem.F.type_list_append mt_append (pv 2) (pa_cons (pv 4) pa_nil))) (pss_one ps_continue)) pss_nil) (pss_cons (ps_asg (pe_ix ix_tup (pe_dget (hu_of hr) (pv 1) (pv 3) (fun _ _ => rfl)) pe_int (fun _ _ => rfl)) (pg_tup rfl (pgs_cons (pg_name (i := 5) nd rfl (by first | exact Or.inl rfl | exact Or.inr rfl)) (pgs_cons (pg_name (i := 6) nd rfl (by first | exact Or.inl rfl | exact Or.inr rfl)) (pgs_cons (pg_name (i := 7) nd rfl (by first | exact Or.inl rfl | exact Or.inr rfl)) pgs_nil))))) (pss_cons (ps_set (i := 2) nd rfl (by first | exact Or.inl rfl | exact Or.inr rfl) (pe_op op_cat (pv 2) (pe_lc (own := [("_law_t", 8)]) (g := (gName 8)) (tt := tYes) rfl nd (pi_tup (pv 5)) (blkOk_by (N := N__law_new_document) (sc := defScope s__law_new_document) (by decide +kernel)) (fun _ _ _ _ _ => (pg_name (i := 8) nd rfl (by first | exact Or.inl rfl | exact Or.inr rfl))) (fun _ _ _ _ _ => pts_nil) (fun _ _ _ _ _ => (pe_tup (pa_cons pe_str (pa_cons (pv 8) pa_nil))))))) (pss_cons (ps_if (pt_cmpR op_eq (pe_ix ix_tup (pv 6) pe_int (fun _ _ => rfl)) pe_str (nomark _)) (pss_one (ps_expr (pe_bm PySem.F.plainAttrs_list PySem.F.slot_list_append PySem.F.type_list_append mt_append (pv 2) (pa_cons (pv 4) pa_nil)))) pss_nil) (pss_cons (ps_if (pt_cmpR op_eq (pe_ix ix_tup (pv 6) pe_int (fun _ _ => rfl)) pe_str (nomark _)) (pss_one (ps_expr (pe_bm PySem.F.plainAttrs_list PySem.F.slot_list_append PySem.F.type_list_append mt_append (pv 2) (pa_cons (pe_tup (pa_cons pe_str (pa_cons (pe_ix ix_tup (pv 6) pe_int (fun _ _ => rfl)) pa_nil))) pa_nil)))) pss_nil) (pss_one (ps_set (i := 2) nd rfl (by first | exact Or.inl rfl | exact Or.inr rfl) (pe_op op_cat (pv 2) (pe_lc (own := [("_law_t", 8)]) (g := (gName 8)) (tt := tYes) rfl nd (pi_tup (pv 7)) (blkOk_by (N := N__law_new_document) (sc := defScope s__law_new_document) (by decide +kernel)) (fun _ _ _ _ _ => (pg_name (i := 8) nd rfl (by first | exact Or.inl rfl | exact Or.inr rfl))) (fun _ _ _ _ _ => pts_nil) (fun _ _ _ _ _ => (pe_tup (pa_cons pe_str (pa_cons (pv 8) pa_nil))))))))))))))) (pss_one (ps_ret (pe_callTy (r := rTupOf K) call_tuple_of rfl T.tuple PyProof.Rows.boot_tuple (pa_cons (pv 2) pa_nil))))))
abbrev s__law_edited : Stmt := topS 69
abbrev N__law_edited : List Str := ["_law_texts_here", "_law_edits", "_law_made", "_law_at"]
theorem sc__law_edited : FnScope N__law_edited ["_law_texts_here", "_law_edits"] (defScope s__law_edited) := ⟨rfl, rfl, rfl, by decide +kernel, rfl, by decide +kernel, by decide +kernel⟩
def t__law_edited (K : PySem.W.Frag) (P : Addr) : TS :=
  (tSeq (tAsg (tLst tNil) (gName 2)) (tSeq (tFor (iRng1 (tCons (tCB (rLen K) (tCons (tVar 0) tNil)) tNil)) (gName 3) (tSeq (tAsg (tOp rCat (tVar 2) (tCB (rListOf K) (tCons (tOp (rIxT K) (tOp (rIxL K) (tVar 1) (tVar 3)) (tC (.int 0))) tNil))) (gName 2)) (tSeq (tIfS (tTest (tOp rEq (tOp (rIxT K) (tOp (rIxT K) (tOp (rIxL K) (tVar 1) (tVar 3)) (tC (.int 1))) (tC (.int 0))) (tC (.str "keep")))) (tDrop (tBM K "list" rAppend (tVar 2) (tCons (tOp (rIxL K) (tVar 0) (tVar 3)) tNil))) tNext) (tSeq (tIfS (tTest (tOp rEq (tOp (rIxT K) (tOp (rIxT K) (tOp (rIxL K) (tVar 1) (tVar 3)) (tC (.int 1))) (tC (.int 0))) (tC (.str "text")))) (tDrop (tBM K "list" rAppend (tVar 2) (tCons (tOp (rIxT K) (tOp (rIxT K) (tOp (rIxL K) (tVar 1) (tVar 3)) (tC (.int 1))) (tC (.int 1))) tNil))) tNext) (tAsg (tOp rCat (tVar 2) (tCB (rListOf K) (tCons (tOp (rIxT K) (tOp (rIxL K) (tVar 1) (tVar 3)) (tC (.int 2))) tNil))) (gName 2)))))) (tRet (tVar 2))))
def pm__law_edited : Pm := ⟨List Str × List Ed, fun x => [.dat (.list (x.1.map .str)), .dat (edsD x.2)], fun x => x.1.length ≤ 400 ∧ x.2.length = x.1.length ∧ ∀ e ∈ x.2, EdSz e, fun x r => r = .dat (.list ((editedL x.1 x.2).map .str))⟩
theorem ev__law_edited {K : PySem.W.Frag} {P : Addr} : pm__law_edited.Ok K P I0 H0 N__law_edited.length (t__law_edited K P) := fun x hx => by
  obtain ⟨ts, es⟩ := x
  obtain ⟨hl, hel, hsz⟩ := hx
  dsimp only at hl hel hsz
  refine sv_seq (sv_asgN (en_lst (ds := []) ea_nil) fun p => ?_)
  refine sv_seq (sv_for (ds := (List.range' 0 ts.length).map fun i => PyData.int (i : Nat)) (fun rest Γ' => ∃ (i m : Nat) (r : List Str) (re : List Ed) (done : List Str) (p : Addr) (s3 : Slot), rest = ((List.range' i m).map fun i => PyData.int (i : Nat)) ∧ r.length = m ∧ re.length = m ∧ (∃ pre, ts = pre ++ r ∧ pre.length = i) ∧ (∃ pre, es = pre ++ re ∧ pre.length = i) ∧ done ++ editedL r re = editedL ts es ∧ done.length ≤ 201 * i ∧
    Γ' = [.imm (.dat (.list (ts.map .str))), .imm (.dat (edsD es)), .own p (done.map .str), s3]) ?_ ⟨0, ts.length, ts, es, [], p, _, rfl, rfl, hel, ⟨[], rfl, rfl⟩, ⟨[], rfl, rfl⟩, rfl, Nat.le_refl _, rfl⟩ (fun x rest Γ' h => ?_) (fun Γ' h => ?_))
  · have := ei_range1 (K := K) (P := P) (Γ := ((startE N__law_edited.length [.dat (.list (ts.map .str)), .dat (edsD es)]).set 2 (.own p []))) (te := tCB (rLen K) (tCons (tVar 0) tNil)) (n := (ts.length : Int)) (ev_callB (ea1 (ev_var rfl)) (rc_lenL.as (by simp))) (by omega) (by omega)
    rw [rangeD_eq] at this
    exact this
  · obtain ⟨i, m, r, re, done, p, s3, e, hm, hm2, ⟨pre, hpre, hpl⟩, ⟨pre2, hpre2, hpl2⟩, hs, hdl, rfl⟩ := h
    cases r with
    | nil =>
      subst hm
      cases e
    | cons t r =>
      subst hm
      cases re with
      | nil => cases hm2
      | cons ed re =>
        rw [List.length_cons, rangeD_cons] at e
        cases e
        have hi : i < 400 := by
          rw [hpre, List.length_append, List.length_cons] at hl
          omega
        have hget : (ts.map PyData.str)[i]? = some (.str t) := by rw [List.getElem?_map, hpre, ← hpl]; simp
        have hget2 : (es.map edD)[i]? = some (edD ed) := by rw [List.getElem?_map, hpre2, ← hpl2]; simp
        obtain ⟨sz1, sz2⟩ := hsz ed (by rw [hpre2]; simp)
        have app : ∀ (done : List Str) (x : Str), done.map PyData.str ++ [.str x] = (done ++ [x]).map PyData.str := fun done x => by rw [List.map_append]; rfl
        have atE : ∀ (p : Addr) (dn : List PyData), EvD K P (tOp (rIxL K) (tVar 1) (tVar 3)) [.imm (.dat (.list (ts.map .str))), .imm (.dat (edsD es)), .own p dn, .imm (.dat (.int (i : Nat)))] (edD ed) := fun p dn => ev_ixL (ds := es.map edD) (ev_var rfl) (ev_var rfl) (atI_of hget2)
        refine eg_name (sv_seq (sv_asgN (en_catOwn (i := 2) (bs := ed.ahead.map .str) rfl (ev_callB (ea1 (ev_ed0 (atE _ _))) rc_listT) (by rw [List.length_map, List.length_map]; omega)) fun p2 => ?_))
        rw [← List.map_append]
        refine sv_cut (fun Γ' => ∃ x, Γ' = [.imm (.dat (.list (ts.map .str))), .imm (.dat (edsD es)), .own p2 ((done ++ ed.ahead ++ x).map .str), .imm (.dat (.int (i : Nat)))] ∧ x = if ed.ch = .keep then [t] else []) (sv_if (et_test (ev_eqS (ev_chK (c := ed.ch) (ev_ed1 (atE _ _))) ev_str)) (fun q => ?_) (fun q => ?_)) fun Γ' h => ?_
        · rw [kind_keep] at q
          refine sv_append (i := 2) (d := .str t) rfl (ev_ixL (ev_var rfl) (ev_var rfl) (atI_of hget)) (by rw [List.length_map, List.length_append]; omega) ?_
          rw [app]
          exact ⟨[t], rfl, by rw [if_pos (of_decide_eq_true q)]⟩
        · rw [kind_keep] at q
          exact sv_next ⟨[], by rw [List.append_nil]; rfl, by rw [if_neg (of_decide_eq_false q)]⟩
        obtain ⟨x, rfl, hx⟩ := h
        refine sv_cut (fun Γ' => Γ' = [.imm (.dat (.list (ts.map .str))), .imm (.dat (edsD es)), .own p2 ((done ++ ed.ahead ++ ed.ch.onto t).map .str), .imm (.dat (.int (i : Nat)))]) (sv_if (et_test (ev_eqS (ev_chK (c := ed.ch) (ev_ed1 (atE _ _))) ev_str)) (fun q => ?_) (fun q => ?_)) fun Γ' h => ?_
        · rw [kind_text] at q
          cases e : ed.ch with
          | keep => rw [e] at q; cases q
          | drop => rw [e] at q; cases q
          | text u =>
            rw [e, if_neg (fun z => by cases z)] at hx
            subst hx
            rw [List.append_nil]
            have h1 := ev_ed1 (atE p2 ((done ++ ed.ahead).map .str))
            rw [e] at h1
            refine sv_append (i := 2) (d := .str u) rfl (ev_ch1 (t := u) h1) (by rw [List.length_map, List.length_append]; omega) ?_
            rw [app]
            rfl
        · rw [kind_text] at q
          cases e : ed.ch with
          | keep =>
            rw [e, if_pos rfl] at hx
            subst hx
            exact sv_next rfl
          | drop =>
            rw [e, if_neg (fun z => by cases z)] at hx
            subst hx
            exact sv_next rfl
          | text t => rw [e] at q; cases q
        subst h
        have c3 : (ed.ch.onto t).length ≤ 1 := by cases ed.ch <;> simp [Ch.onto]
        refine sv_asgN (en_catOwn (i := 2) (bs := ed.behind.map .str) rfl (ev_callB (ea1 (ev_ed2 (atE _ _))) rc_listT) (by rw [List.length_map, List.length_map, List.length_append, List.length_append]; omega)) fun p3 => ?_
        rw [← List.map_append]
        refine ⟨i + 1, r.length, r, re, done ++ ed.ahead ++ ed.ch.onto t ++ ed.behind, p3, _, rfl, rfl, by simpa using hm2, ⟨pre ++ [t], by rw [hpre]; simp, by simp [hpl]⟩, ⟨pre2 ++ [ed], by rw [hpre2]; simp, by simp [hpl2]⟩, ?_, by rw [List.length_append, List.length_append, List.length_append]; omega, rfl⟩
        rw [← hs, editedL, ed1]
        simp only [List.append_assoc]
  · obtain ⟨i, m, r, re, done, p, s3, e, hm, hm2, _, _, hs, hdl, rfl⟩ := h
    cases r with
    | cons l r =>
      subst hm
      cases e
    | nil =>
      refine sv_freeze (i := 2) rfl ?_
      refine sv_retE (d := .dat (.list (done.map .str))) (ev_var rfl) ?_
      have : done = editedL ts es := by
        rw [← hs]
        simp [editedL]
      rw [this]
      rfl
theorem ok__law_edited {Pr : Program} {w : World} {K : PySem.W.Frag} {mg : Str → Option Value} {base : Heap} {P : Addr} {f : Addr} {fd : FuncData} (F : L2.Fun K "_law_edited" "_law_edited" s__law_edited f fd) (T : Txt mg) : FnOk Pr w K mg base CX0 1 f fd ["_law_texts_here", "_law_edits"] (pm__law_edited.sp K P) := by
  have nd := sc__law_edited.nd
  refine Fun.pure F sc__law_edited (fun _ => rfl) fun cdv A outer s H E hr => ⟨t__law_edited K P, ?_, fun x hx _ _ => ev__law_edited x hx⟩
  exact (pss_cons (ps_set (i := 2) nd rfl (by first | exact Or.inl rfl | exact Or.inr rfl) (pe_lst pa_nil)) (pss_cons (ps_for PassesOwn.never rfl (pi_range1 (by rfl) T.range (pa_cons (pe_callB (r := rLen K) call_len rfl T.len PySem.boot_len (pa_cons (pv 0) pa_nil)) pa_nil)) (pg_name (i := 3) nd rfl (by first | exact Or.inl rfl | exact Or.inr rfl)) (pss_cons (ps_set (i := 2) nd rfl (by first | exact Or.inl rfl | exact Or.inr rfl) (pe_op op_cat (pv 2) (pe_callTy (r := rListOf K) call_list_of rfl T.list PyProof.Rows.boot_list (pa_cons (pe_ix ix_tup (pe_ix ix_list (pv 1) (pv 3) (fun _ _ => rfl)) pe_int (fun _ _ => rfl)) pa_nil)))) (pss_cons (ps_if (pt_cmpR op_eq (pe_ix ix_tup (pe_ix ix_tup (pe_ix ix_list (pv 1) (pv 3) (fun _ _ => rfl)) pe_int (fun _ _ => rfl)) pe_int (fun _ _ => rfl)) pe_str (nomark _)) (pss_one (ps_expr (pe_bm PySem.F.plainAttrs_list PySem.F.slot_list_append PySem.F.type_list_append mt_append (pv 2) (pa_cons (pe_ix ix_list (pv 0) (pv 3) (fun _ _ => rfl)) pa_nil)))) pss_nil) (pss_cons (ps_if (pt_cmpR op_eq (pe_ix ix_tup (pe_ix ix_tup (pe_ix ix_list (pv 1) (pv 3) (fun _ _ => rfl)) pe_int (fun _ _ => rfl)) pe_int (fun _ _ => rfl)) pe_str (nomark _)) (pss_one (ps_expr (pe_bm PySem.F.plainAttrs_list PySem.F.slot_list_append PySem.F.type_list_append mt_append (pv 2) (pa_cons (pe_ix ix_tup (pe_ix ix_tup (pe_ix ix_list (pv 1) (pv 3) (fun _ _ => rfl)) pe_int (fun _ _ => rfl)) pe_int (fun _ _ => rfl)) pa_nil)))) pss_nil) (pss_one (ps_set (i := 2) nd rfl (by first | exact Or.inl rfl | exact Or.inr rfl) (pe_op op_cat (pv 2) (pe_callTy (r := rListOf K) call_list_of rfl T.list PyProof.Rows.boot_list (pa_cons (pe_ix ix_tup (pe_ix ix_list (pv 1) (pv 3) (fun _ _ => rfl)) pe_int (fun _ _ => rfl)) pa_nil))))))))) (pss_one (ps_ret (pv 2)))))
end Wf
/-! Names, references, faults. -/
namespace Wf
open PySem L2
section
variable {K : PySem.W.Frag} {P aK : Addr} {Γ : Env} {ta tb tc te : TE}
theorem ev_chainLe {i j k : Int} (ha : EvD K P ta Γ (.int i)) (hb : EvD K P tb Γ (.int j)) (hc : EvD K P tc Γ (.int k)) : EvD K P (tChain rLeI rLeI ta tb tc) Γ (.bool (decide (i ≤ j) && decide (j ≤ k))) := fun I H σ E Q q => by
  refine ha I H σ E _ fun v d I1 H1 e w1 r1 => ?_
  subst e
  cases r1
  refine hb I1 H1 σ (E.mono w1) _ fun v d I2 H2 e w2 r2 => ?_
  subst e
  cases r2
  refine ⟨i, j, rfl, rfl, decide (i ≤ j), rfl, ?_⟩
  by_cases c : i ≤ j
  · rw [decide_eq_true c] at q ⊢
    rw [if_pos rfl]
    refine hc I2 H2 σ ((E.mono w1).mono w2) _ fun v d I3 H3 e w3 r3 => ?_
    subst e
    cases r3
    exact ⟨j, k, rfl, rfl, q _ _ I3 H3 rfl ((w1.trans w2).trans w3) (Dx.bl _)⟩
  · rw [decide_eq_false c] at q ⊢
    rw [if_neg (by decide)]
    exact q _ _ I2 H2 rfl (w1.trans w2) (Dx.bl _)
theorem ev_inSign {c : Nat} {z : Str} (ha : EvD K P ta Γ (.str ⟨#[c]⟩)) (hb : EvD K P tb Γ (.str z)) : EvD K P (tOp rInS ta tb) Γ (.bool (decide (c ∈ z.cps.toList))) := ev_op ha hb fun I H x y k hx hy Q q => by
  cases hx
  cases hy
  exact ⟨c, z, rfl, rfl, q _ I H (Wd.refl k) (.bl _)⟩
theorem ev_notInSign {c : Nat} {z : Str} (ha : EvD K P ta Γ (.str ⟨#[c]⟩)) (hb : EvD K P tb Γ (.str z)) : EvD K P (tOp rNotInS ta tb) Γ (.bool (!decide (c ∈ z.cps.toList))) := ev_op ha hb fun I H x y k hx hy Q q => by
  cases hx
  cases hy
  exact ⟨c, z, rfl, rfl, q _ I H (Wd.refl k) (.bl _)⟩
theorem ev_isalnum {z : Str} (ha : EvD K P ta Γ (.str z)) : EvD K P (tBM0 K "str" rIsalnum ta) Γ (.bool (Txt.isalnum z)) := fun I H σ E Q q => by
  refine ha I H σ E _ fun v d I1 H1 e w1 r1 => ?_
  subst e
  cases r1
  exact ⟨rfl, z, rfl, rfl, trivial, q _ _ I1 H1 rfl w1 (Dx.bl _)⟩
theorem ev_lstrip {x y : Str} (ha : EvD K P ta Γ (.str x)) (hb : EvD K P tb Γ (.str y)) (hx : x.length ≤ 100000) : EvD K P (tBM K "str" rLstrip ta (tCons tb tNil)) Γ (.str (Txt.lstripChars x y)) := ev_bmS ha hb fun H Q I q => ⟨x, y, rfl, rfl, by rw [sizeLine_eq]; omega, q _ (.str _)⟩
theorem rop_isN {a : PyData} {b : Bool} (h : b = true ↔ a = .none) : ROp K P rIsN a .none (.bool b) := fun I H x y k hx hy Q q => by
  cases hy
  refine ⟨rfl, ?_⟩
  have e : decide (x = V.non) = b := by
    cases hx with
    | non =>
      rw [h.mpr rfl]
      rfl
    | _ =>
      cases c : b with
      | true =>
        have := h.mp c
        cases this
      | false => rfl
  rw [e]
  exact q _ I H (Wd.refl k) (.bl _)
end
abbrev s_is_name_sign : Stmt := topS 14
abbrev N_is_name_sign : List Str := ["sign"]
theorem sc_is_name_sign : FnScope N_is_name_sign ["sign"] (defScope s_is_name_sign) := ⟨rfl, rfl, rfl, by decide +kernel, rfl, by decide +kernel, by decide +kernel⟩
def t_is_name_sign (K : PySem.W.Frag) (P : Addr) : TS :=
  (tRet (tOrV (tBM0 K "str" rIsalnum (tVar 0)) (tOp rInS (tVar 0) (tC (.str "-_.")))))
def pm_is_name_sign : Pm := ⟨Nat, fun c => [.dat (.str ⟨#[c]⟩)], fun c => c < 128, fun c r => r = .dat (.bool (nameC c))⟩
theorem isalnum_one (c : Nat) : Txt.isalnum ⟨#[c]⟩ = Unicode.isAlnum c := by
  unfold Txt.isalnum
  simp [Str.length]
theorem ev_is_name_sign {K : PySem.W.Frag} {P : Addr} : pm_is_name_sign.Ok K P I0 H0 N_is_name_sign.length (t_is_name_sign K P) := fun (c : Nat) hc => by
  have hc : c < 128 := hc
  refine sv_retE (d := .dat (.bool (nameC c))) (EvD.as (ev_orV (k := Unicode.isAlnum c) (j := decide (c ∈ ("-_." : Str).cps.toList)) (EvD.as (ev_isalnum (ev_var rfl)) (by rw [isalnum_one])) fun _ => ev_inSign (ev_var rfl) ev_str) (by rw [nameC_sign c hc])) rfl
theorem ok_is_name_sign {Pr : Program} {w : World} {K : PySem.W.Frag} {mg : Str → Option Value} {base : Heap} {P : Addr} {f : Addr} {fd : FuncData} (F : L2.Fun K "is_name_sign" "is_name_sign" s_is_name_sign f fd) (T : Txt mg) : FnOk Pr w K mg base CX0 1 f fd ["sign"] (pm_is_name_sign.sp K P) := by
  have nd := sc_is_name_sign.nd
  refine Fun.pure F sc_is_name_sign (fun _ => rfl) fun cdv A outer s H E hr => ⟨t_is_name_sign K P, ?_, fun x hx _ _ => ev_is_name_sign x hx⟩
  exact (pss_one (ps_ret (pe_or (pe_bm0 PySem.F.plainAttrs_str PySem.F.slot_str_isalnum PySem.F.type_str_isalnum (r := rIsalnum) mt_isalnum (pv 0)) (pe_one (pe_cmpR op_in_sign (pv 0) (C8.pe_gc rfl T.signs) rfl)))))
def pm_is_name : Pm := ⟨Str, fun z => [.dat (.str z)], fun z => EtOk z, fun z r => r = .dat (.bool (nameL z.cps.toList))⟩
abbrev s_use_of : Stmt := topS 16
abbrev N_use_of : List Str := ["text", "rest"]
theorem sc_use_of : FnScope N_use_of ["text"] (defScope s_use_of) := ⟨rfl, rfl, rfl, by decide +kernel, rfl, by decide +kernel, by decide +kernel⟩
def t_use_of (K : PySem.W.Frag) (P : Addr) : TS :=
  (tSeq (tAsg (tBM K "str" rLstrip (tVar 0) (tCons (tC (.str " ")) tNil)) (gName 1)) (tSeq (tIfS (tAnd (tTest (tOp rEq (tSl rSlS (tVar 1) tNoPart (tPart (tC (.int 1)))) (tC (.str "<")))) (tAnd (tTest (tOp rEq (tSl rSlS (tVar 1) (tPart (tUn (rU fun i => .int (-i)) (tC (.int 1)))) tNoPart) (tC (.str ">")))) (tB (tCall (pm_is_name.sp K P) [] E0 (tCons (tSl rSlS (tVar 1) (tPart (tC (.int 1))) (tPart (tUn (rU fun i => .int (-i)) (tC (.int 1))))) tNil))))) (tRet (tTup (tCons (tC (.str "use")) (tCons (tOp rSubI (tCB (rLen K) (tCons (tVar 0) tNil)) (tCB (rLen K) (tCons (tVar 1) tNil))) (tCons (tSl rSlS (tVar 1) (tPart (tC (.int 1))) (tPart (tUn (rU fun i => .int (-i)) (tC (.int 1))))) tNil))))) tNext) (tRet (tC .non))))
def pm_use_of : Pm := ⟨Str, fun z => [.dat (.str z)], fun z => EtOk z, fun z r => ∃ d, r = .dat d ∧ (d = .none ↔ isRef z = false)⟩
section
variable {K : PySem.W.Frag} {P aK : Addr} {Γ : Env} {ta tb tc te : TE}
theorem ev_startLt {z : Str} (h : EvD K P te Γ (.str z)) (hz : z.length ≤ 60) : EvD K P (tOp rEq (tSl rSlS te tNoPart (tPart (tC (.int 1)))) (tC (.str "<"))) Γ (.bool (z.cps.toList.take 1 == [60])) := by
  refine EvD.as (ev_eqS (ev_tk (i := 1) h ev_int (by omega)) ev_str) ?_
  rw [str_eq_l, lt_l]
  rfl
theorem ev_endGt {z : Str} (h : EvD K P te Γ (.str z)) (hz : z.length ≤ 60) : EvD K P (tOp rEq (tSl rSlS te (tPart neg1) tNoPart) (tC (.str ">"))) Γ (.bool (z.cps.toList.drop (z.cps.toList.length - 1) == [62])) := by
  refine EvD.as (ev_eqS (ev_cut h (eo_some (ev_neg ev_int)) eo_none (by omega)) ev_str) ?_
  rw [str_eq_l, gt_l, show (-1 : Int) = -1 from rfl, cut_last]
theorem ev_mid {z : Str} (h : EvD K P te Γ (.str z)) (hz : z.length ≤ 60) : EvD K P (tSl rSlS te (tPart (tC (.int 1))) (tPart neg1)) Γ (.str (cutS z (some 1) (some (-1)))) := ev_cut h (eo_some ev_int) (eo_some (ev_neg ev_int)) (by omega)
end
theorem ev_use_of {K : PySem.W.Frag} {P : Addr} : pm_use_of.Ok K P I0 H0 N_use_of.length (t_use_of K P) := fun (z : Str) hz => by
  have hz : EtOk z := hz
  have hr := hz.lstrip
  have hz1 := hz.1
  refine sv_seq (sv_asgE (ev_lstrip (ev_var rfl) ev_str (by omega)) ?_)
  have iref := isRef_l z
  generalize hR : Txt.lstripChars z (" " : Str) = r at hr iref
  refine sv_seq (sv_if (et_and (et_test (ev_startLt (z := r) (ev_var rfl) hr.1)) fun _ => et_and (et_test (ev_endGt (z := r) (ev_var rfl) hr.1)) fun _ => et_B (ev_call (X := Str) (cutS r (some 1) (some (-1))) (ea1 (ev_mid (z := r) (ev_var rfl) hr.1)) (hr.cut _ _))) (fun q => ?_) (fun q => sv_next ?_))
  · refine sv_ret (D := fun d => ∃ ds, d = .dat (.tuple ds)) (Ev.imp (ev_tup (ds := [.str "use", .int ((z.length : Int) - (r.length : Int)), .str (cutS r (some 1) (some (-1)))]) (ea_cons ev_str (ea_cons (ev_sub (ev_callB (ea1 (ev_var rfl)) (rc_lenS (by omega))) (ev_callB (ea1 (ev_var rfl)) (rc_lenS (by have := hr.1; omega)))) (ea1 (ev_mid (z := r) (ev_var rfl) hr.1))))) fun d h => ⟨_, h⟩) fun d ⟨ds, h⟩ => ⟨_, h, ?_⟩
    rw [cut_mid] at q
    rw [iref, q]
    constructor
    · intro h
      cases h
    · intro h
      cases h
  · refine sv_retE ev_non ⟨.none, rfl, ?_⟩
    rw [cut_mid] at q
    rw [iref, q]
    exact ⟨fun _ => rfl, fun _ => rfl⟩
theorem ok_use_of {Pr : Program} {w : World} {K : PySem.W.Frag} {mg : Str → Option Value} {base : Heap} {P : Addr} {f : Addr} {fd : FuncData} (F : L2.Fun K "use_of" "use_of" s_use_of f fd) (T : Txt mg) (C_is_name : C8.Cal Pr w K mg base 2 "is_name" (pm_is_name.sp K P) []) : FnOk Pr w K mg base CX0 3 f fd ["text"] (pm_use_of.sp K P) := by
  have nd := sc_use_of.nd
  refine Fun.pure F sc_use_of (fun _ => rfl) fun cdv A outer s H E hr => ⟨t_use_of K P, ?_, fun x hx _ _ => ev_use_of x hx⟩
  exact (pss_cons (ps_set (i := 1) nd rfl (by first | exact Or.inl rfl | exact Or.inr rfl) (pe_bm PySem.F.plainAttrs_str PySem.F.slot_str_lstrip PySem.F.type_str_lstrip (r := rLstrip) mt_lstripChars (pv 0) (pa_cons pe_str pa_nil))) (pss_cons (ps_if (PW.pt (pw_and (pt_cmpR op_eq (pe_slice sl_str (pv 1) po_none (po_some pe_int)) pe_str (nomark _)) (pw_and (pt_cmpR op_eq (pe_slice sl_str (pv 1) (po_some (pe_un un_neg pe_int)) po_none) pe_str (nomark _)) (pw_and1 (pt_val (C8.pe_c C_is_name hr (by decide) rfl (pa_cons (pe_slice sl_str (pv 1) (po_some pe_int) (po_some (pe_un un_neg pe_int))) pa_nil))))))) (pss_one (ps_ret (pe_tup (pa_cons pe_str (pa_cons (pe_op op_sub (pe_callB (r := rLen K) call_len rfl T.len PySem.boot_len (pa_cons (pv 0) pa_nil)) (pe_callB (r := rLen K) call_len rfl T.len PySem.boot_len (pa_cons (pv 1) pa_nil))) (pa_cons (pe_slice sl_str (pv 1) (po_some pe_int) (po_some (pe_un un_neg pe_int))) pa_nil)))))) pss_nil) (pss_one (ps_ret pe_non))))
abbrev s_is_code : Stmt := topS 17
abbrev N_is_code : List Str := ["text"]
theorem sc_is_code : FnScope N_is_code ["text"] (defScope s_is_code) := ⟨rfl, rfl, rfl, by decide +kernel, rfl, by decide +kernel, by decide +kernel⟩
def t_is_code (K : PySem.W.Frag) (P : Addr) : TS :=
  (tRet (tAndV (tOp rNotInS (tC (.str "\n")) (tVar 0)) (tOp rIsN (tCall (pm_use_of.sp K P) [] E0 (tCons (tVar 0) tNil)) (tC .non))))
def pm_is_code : Pm := ⟨Str, fun z => [.dat (.str z)], fun z => EtOk z, fun z r => r = .dat (.bool (!isRef z))⟩
theorem nl_l : ("\n" : Str) = ⟨#[10]⟩ := by decide +kernel
theorem ev_is_code {K : PySem.W.Frag} {P : Addr} : pm_is_code.Ok K P I0 H0 N_is_code.length (t_is_code K P) := fun (z : Str) hz => by
  have hz : EtOk z := hz
  have h10 : (!decide (10 ∈ z.cps.toList)) = true := by
    rw [decide_eq_false fun h => (hz.2 10 h).2 rfl]
    rfl
  refine sv_retE (d := .dat (.bool (!isRef z))) (EvD.as (ev_andV (k := !decide (10 ∈ z.cps.toList)) (j := !isRef z) (ev_notInSign (by rw [← nl_l]; exact ev_str) (ev_var rfl)) fun _ => ?_) (by rw [h10, Bool.true_and])) rfl
  refine ev_opP (D1 := pm_use_of.post z) (ev_call (X := Str) z (ea1 (ev_var rfl)) hz) (D2 := (· = .dat .none)) ev_non fun a b h1 h2 => ?_
  obtain ⟨d, rfl, hd⟩ := h1
  refine ⟨d, .none, .bool (!isRef z), rfl, h2, rop_isN ?_, rfl⟩
  rw [hd]
  cases isRef z <;> simp
theorem ok_is_code {Pr : Program} {w : World} {K : PySem.W.Frag} {mg : Str → Option Value} {base : Heap} {P : Addr} {f : Addr} {fd : FuncData} (F : L2.Fun K "is_code" "is_code" s_is_code f fd) (T : Txt mg) (C_use_of : C8.Cal Pr w K mg base 3 "use_of" (pm_use_of.sp K P) []) : FnOk Pr w K mg base CX0 4 f fd ["text"] (pm_is_code.sp K P) := by
  have nd := sc_is_code.nd
  refine Fun.pure F sc_is_code (fun _ => rfl) fun cdv A outer s H E hr => ⟨t_is_code K P, ?_, fun x hx _ _ => ev_is_code x hx⟩
  exact (pss_one (ps_ret (pe_and (pe_cmpR op_notIn_sign pe_str (pv 0) rfl) (pe_one (pe_cmpR op_isN (C8.pe_c C_use_of hr (by decide) rfl (pa_cons (pv 0) pa_nil)) pe_non (nomark _))))))
end Wf
/-! is_name: all over a generator whose element calls a def of the program. -/
namespace Wf
open PySem PySem.Spec PyProof.Rows L2
/-- the element: a test of the sign c, where base still stands; D, U: the room; Cc: the signs that may come -/
def EltB (Pr : Program) (w : World) (K : PySem.W.Frag) (mg : Str → Option Value) (base : Heap) (sc : Scope) (x : Str) (elt : Expr) (pb : Nat → Bool) (D U : Nat) (Cc : Nat → Prop) : Prop :=
  L2.Mod K mg base → ∀ (ce : PySem.Env) (B : Around) (EE : Value → Shared → Prop) (c : Nat) (t : Tok) (u : Shared) (m : Str → Option Value), B.handled = none → B.depth ≤ D → B.units ≤ U → Cc c → ce.scope = sc → ce.globals = mainGlobals → (∀ b o, base.get? b = some o → u.heap.get? b = some o) → u.heap.Ns ce.locals m →
    m x = some (.str ⟨#[c]⟩ t) → wpAny (model Pr w) B (eval elt ce) (fun y u' => y = .bool (pb c) ∧ Keeps u u') EE u
section
variable {Pr : Program} {w : World} {K : PySem.W.Frag} {mg : Str → Option Value} {base : Heap}
theorem nocell_sign : ∀ y ∈ (defScope s_is_name_sign).names, y.2 ≠ .cell := by decide +kernel
/-- the body of is_name_sign, from any frame -/
theorem run_sign {f : Addr} {fd : FuncData} (F : L2.Fun K "is_name_sign" "is_name_sign" s_is_name_sign f fd) (T : Txt mg) (M : L2.Mod K mg base) {B : Around} {u : Shared} {c : Nat} {t : Tok} (hc : c < 128) (hd : B.depth < recursionLimit) (hb : ∀ b o, base.get? b = some o → u.heap.get? b = some o) :
    codeAny (model Pr w) B (.call (.ref f) ⟨[.str ⟨#[c]⟩ t], []⟩) (fun r u' => r = .ok (.ret (.bool (nameC c))) ∧ Keeps u u') u := by
  obtain ⟨oc, od, kV, doc, pm, an, cdv, ct, osl, rfl, lk, hcd⟩ := F.ex
  have KI : K.In u.heap := M.kin.keeps hb
  refine codeAny_call_def (body := defBody s_is_name_sign) (binds := [("sign", .str ⟨#[c]⟩ t)]) hd (KI _ _ lk) rfl (M.nolimit.keeps hb) (PySem.W.codeRec_of KI hcd) rfl (.of_eq rfl) nocell_sign ?_ (fun h0 n0 k0 => ?_) rfl rfl rfl
  · intro y hy
    cases List.mem_singleton.mp hy
    rfl
  have done : ∀ (b : Bool) (k : Nat), b = nameC c → (Except.ok (Flow.ret (.bool b)) : Result) = .ok (.ret (.bool (nameC c))) ∧ Keeps u ({ u with heap := h0, toks := k } : Shared) := fun b k e => ⟨by rw [e], h0, k, rfl, k0⟩
  refine wpAny_execs_cons (wpAny_Return_some ?_)
  have key := nameC_sign c hc
  refine BoolOp_or (wpAny_Call_method0_late rfl rfl (ldc rfl rfl n0 rfl ⟨"str", "str.isalnum", PySem.F.plainAttrs_str, PySem.F.slot_str_isalnum, PySem.F.type_str_isalnum, typeIs_str _ _ _, (fun _ e => nomatch e), Calls.callWith_builtin rfl (PySem.evalArgs_none (PySem.SC.isalnum ?_))⟩))
  refine wpAny_truthy_bool ?_
  rw [isalnum_one]
  cases q : Unicode.isAlnum c with
  | true =>
    refine done true _ ?_
    rw [← key, q]
    rfl
  | false =>
    obtain ⟨us, hm, t2, rfl⟩ := T.signs
    refine BoolOp_one (wpAny_Compare1 (ldc rfl rfl n0 rfl (Calls.Name_function_global rfl rfl (Calls.loadGlobal_global (M.glob.keeps fun b o e => k0 b o (hb b o e)) hm (PyProof.Rows.in_str ?_)))))
    refine done _ _ ?_
    rw [PySem.StrLaws.found_one, ← key, q]
    rfl
theorem elt_sign {f : Addr} {fd : FuncData} (F : L2.Fun K "is_name_sign" "is_name_sign" s_is_name_sign f fd) (T : Txt mg) (hm : mg "is_name_sign" = some (.ref f)) {sc : Scope} {p1 p2 p3 : Pos} {D U : Nat} (hk : sc.kind = .function) (hl : sc.names.lookup ("sign" : Str) = some .local) (hg : sc.names.lookup ("is_name_sign" : Str) = some .globalImplicit) (hD : D < recursionLimit) :
    EltB Pr w K mg base sc "sign" (.Call (.Name "is_name_sign" p1) [.Name "sign" p2] [] p3) nameC D U (· < 128) := by
  intro M ce B EE c t u m hh hd hu hc hs hgl hb hn hx
  refine wpAny_Call_Name_kw (Calls.Name_function_global (by rw [hs]; exact hk) (show ce.scope.names.lookup _ = _ by rw [hs]; exact hg) (Calls.loadGlobal_global (by rw [hgl]; exact M.glob.keeps hb) hm ?_))
  refine PySem.W.callWith_K (h₀ := base) M.kin F.kp ?_
  show wpAny _ _ (spliced ((false, eval (.Name "sign" p2) ce) :: backTo p3 (starEach [] ce))) _ _ u
  refine Calls.spliced_cons (wpAny_Name (wpAny_loadName_local (by rw [hs]; exact hk) (show ce.scope.names.lookup _ = _ by rw [hs]; exact hl) hn hx ?_))
  refine Calls.spliced_nil ⟨M.kin.keeps hb, ?_⟩
  refine wpAny_call (codeAny_mono (run_sign F T M hc (Nat.lt_of_le_of_lt hd hD) hb) fun r u' h => ?_)
  obtain ⟨rfl, h2⟩ := h
  exact ⟨rfl, h2⟩
end
section
variable {X : Cx} {pins : List (Addr × Obj)} {σ : L2.St} {H : Hp} {s : Shared}
/-- the generator g over the signs of a, ready to be walked -/
theorem gen_strB {c P : Addr} {elt iter : Expr} {x : Str} {px gp : Pos} {sc : Scope} {pb : Nat → Bool} {te : TE} {k : Nat} {QQ : Value → Shared → Prop} {R : Str → Hp → Prop} {Cc : Nat → Prop}
    (hr : Room k X.A) (TB : GxR.TabB X.base X.mg c P) (cd : X.env.code = .ref c) (S : GxR.GenS X.env sc x) (hi : PE X iter te) (hel : EltB X.prog X.w X.K X.mg X.base sc x elt pb (X.A.depth + 1) (X.A.units + 8) Cc) (hs : ∀ v, genFold iter X.env v = pure v) (J : Inv X pins σ H s)
    (h : te σ H fun v H1 => ∃ a : Str, v = .str a ∧ (∀ z ∈ a.cps.toList, Cc z) ∧ GxR.TabG H1 P ∧ R a H1) (hQ : ∀ a H1 g s5, R a H1 → GxR.Ready X pins σ H1 P a pb g s5 → QQ (.ref g) s5) :
    wpAny (model X.prog X.w) X.A (eval (.GeneratorExp elt [⟨.Name x px, iter, [], 0⟩] sc gp) X.env) QQ X.xe s := by
  refine wpAny_GeneratorExp_walksQD hr.hd S.co (closure_ok S.free) S.cell S.dot S.loc S.kind hr.depth (thn (hi.run pins s σ H _ J h) fun xv s1 hx => ?_) hs
  obtain ⟨v, H1, J1, r1, a, rfl, hC, ⟨ps, hP, ht⟩, q1⟩ := hx
  obtain ⟨t, rfl⟩ := _root_.id r1
  refine wpAny_pyIter_str fun ob St W hst => ?_
  have atP : s1.heap.get? P = some { cls := .none, data := .fields ps } := J1.hok P _ hP
  have ltP : P < s1.heap.objs.size := Heap.lt_size atP
  have atP2 : (s1.heap.push ob).get? P = some { cls := .none, data := .fields ps } := Heap.get?_push_of_some _ atP
  have code2 : PySem.W.CodeHd (s1.heap.push ob) c P := TB.code.keeps fun b u e => Heap.get?_push_of_some _ (J1.bk b u e)
  have noP : ∀ b o, X.base.get? b = some o → b ≠ P := fun b o e z => by
    have := (J1.bs b o e).2
    rw [z, hP] at this
    cases this
  have fin : ∀ (code : Value) (h3 : Heap) (tk : Nat) (ps2 : Array Value), Heap.ExtBut P (s1.heap.push ob) h3 → (s1.heap.push ob).objs.size ≤ h3.objs.size → h3.get? P = some { cls := .none, data := .fields ps2 } → (∃ more, ps2 = ps ++ more) → TriplesOk ps2.toList →
      wpAny (model X.prog X.w) X.A (builtinsFor X.env.globals X.env.builtins) (fun bi s4 =>
        ∃ Ia fp wr n0 Pf St0 pz F, Value.ref s1.heap.objs.size = .ref Ia ∧ (∀ B : Around, B.handled = none → Walks X.prog X.w B Ia fp wr n0 Pf St0) ∧ St0 0 s4.heap ∧ (∀ b ∈ fp, b < s4.heap.objs.size) ∧ s4.heap.NoLimit ∧ cStatics ∉ wr ∧
          (∀ hr : Heap, (∀ b o, s4.heap.get? b = some o → hr.get? b = some o) → QuietGenD X.prog X.w (genEnv sc (cloFrom X.env.cells sc.names []) s4.heap.objs.size code bi X.env) x [] elt (List.range s4.heap.objs.size) wr Pf pz F hr (X.A.depth + 1) (X.A.units + 8)) ∧
          (∀ g h5 tk5 gs, gs.bare = true → s4.heap.objs.size < g → h5.objs.size = g + 1 → (∀ b o, s4.heap.get? b = some o → h5.get? b = some o) →
            WalksS X.prog X.w X.A.in4 g (g :: s4.heap.objs.size :: List.range s4.heap.objs.size) (s4.heap.objs.size :: wr) (GenOnlyQ s4.gens.size) (passing pz n0 0).length (fun j y => ∃ i, (passing pz n0 0)[j]? = some i ∧ F i y)
              (GenAt X.prog X.w X.A.in4 g s4.gens.size s4.heap.objs.size (List.range s4.heap.objs.size) wr pz n0 F) →
            GenAt X.prog X.w X.A.in4 g s4.gens.size s4.heap.objs.size (List.range s4.heap.objs.size) wr pz n0 F 0 { s4 with gens := s4.gens.push gs, toks := tk5, heap := h5 } → QQ (.ref g) { s4 with gens := s4.gens.push gs, toks := tk5, heap := h5 })) X.xe { s1 with heap := h3, toks := tk } := by
    intro code h3 tk ps2 hx hsz atP3 hmore ht3
    obtain ⟨bm, om, e1, e2, e3, e4, e5, e6, e7, e8⟩ := TB.bm
    have nSt : cStatics ≠ P := fun e => by
      obtain ⟨_, hns, _⟩ := J1.nolimit
      obtain ⟨o', es, ep, ho, hd, _⟩ := hns
      rw [e, atP] at ho
      cases ho
      cases hd
    have ltS : cStatics < s1.heap.objs.size := let ⟨_, hns, _⟩ := J1.nolimit; hns.lt
    have keep3 : ∀ b u, b ≠ P → s1.heap.get? b = some u → h3.get? b = some u := fun b u hb e => hx b u hb (Heap.get?_push_of_some _ e)
    have sz2 : (s1.heap.push ob).objs.size = s1.heap.objs.size + 1 := Heap.size_push ..
    refine wpAny_builtinsFor (m := X.mg) (by rw [J1.ok.glob]; exact ((J1.mod.glob.keeps J1.bk).push ob).extBut hx TB.gP) e1 e2 (keep3 _ _ e4 (J1.bk _ _ e5)) e6 e7 e8 ?_
    refine ⟨s1.heap.objs.size, [s1.heap.objs.size], [s1.heap.objs.size], a.cps.size, SignAt a, St, (fun _ => true), (fun i y => ∃ cc, a.cps[i]? = some cc ∧ y = .bool (pb cc)), rfl, W, ?_, fun b hb => ?_, (J1.nolimit.push ob).extBut hx nSt, fun z => ?_, fun hr2 hk2 => ?_, fun g h5 tk5 gs hgb hag hsz5 hk5 W5 hat => ?_⟩
    · refine (W X.A hr.hd).frame _ _ _ hst fun b hb u e => hx b u (fun z => ?_) e
      rw [List.mem_singleton] at hb
      exact Nat.ne_of_lt ltP (z.symm.trans hb)
    · rw [List.mem_singleton] at hb
      subst hb
      show s1.heap.objs.size < h3.objs.size
      omega
    · rw [List.mem_singleton] at z
      exact Nat.ne_of_lt ltS z
    · refine ⟨fun B EE i v u m hA _ _ hPv hn hm hk => ?_, fun B EE i v u m hA hD hU hPv hp hn hm hk => ?_⟩
      · simp only [List.forIn_nil]
        exact wpAny_pure ⟨rfl, GxR.keeps_refl _⟩
      · obtain ⟨cc, t2, hcc, rfl⟩ := hPv
        have inA : cc ∈ a.cps.toList := List.mem_of_getElem? (i := i) (by rw [Array.getElem?_toList]; exact hcc)
        refine wpAny_mono (hel J1.ok.mod _ B EE cc t2 u m hA hD hU (hC cc inA) rfl J1.ok.glob (fun b o e => ?_) hn hm) (fun y s3 r => ⟨⟨cc, hcc, r.1⟩, r.2⟩) fun _ _ e => e
        have b1 := J1.bk b o e
        have b3 := keep3 b o (noP b o e) b1
        refine hk b (List.mem_range.mpr (Heap.lt_size b3)) (fun z => ?_) o (hk2 b o b3)
        rw [List.mem_singleton] at z
        exact Nat.ne_of_lt (Heap.lt_size b1) z
    · simp only [GxR.passing_true, List.length_range] at W5
      refine hQ a H1 g _ q1 ⟨_, _, _, _, _, W5.in4_1, hat, fun j y sj Qj Ej hy hQj => ?_, fun s' hm => ?_⟩
      · obtain ⟨i, hij, cc, hcc, rfl⟩ := hy
        obtain ⟨hj, ej⟩ := List.getElem?_eq_some_iff.mp hij
        rw [List.getElem_range] at ej
        subst ej
        have e9 : a.cps.toList[j]? = some cc := by rw [Array.getElem?_toList]; exact hcc
        have Q2 : Qj (GxR.trF pb a.cps.toList j) sj := hQj
        rw [GxR.trF_some e9] at Q2
        exact wpAny_truthy_bool Q2
      · obtain ⟨more, em⟩ := hmore
        have nwr : ∀ b u, s1.heap.get? b = some u → b ∉ h3.objs.size :: [s1.heap.objs.size] := fun b u e hb => by
          have hl : b < s1.heap.objs.size := Heap.lt_size e
          rcases List.mem_cons.mp hb with z | z
          · rw [z] at hl
            have h9 : (h3.objs.size : Nat) < s1.heap.objs.size := hl
            omega
          · rw [List.mem_singleton] at z
            exact Nat.ne_of_lt hl z
        have G := GxR.inv_tab (more := more) (h' := s'.heap) (g' := s'.gens) (d' := s'.drawn) (t' := s'.toks) J1 hP (fun b u hb e => hm.heap b u (nwr b u e) (hk5 b u (keep3 b u hb e))) (by rw [← em]; exact hm.heap P _ (nwr P _ atP) (hk5 P _ atP3)) (AllBare.movedS (J1.bare.push hgb) hm)
        rw [GxR.sh_eta s1 s' hm.os] at G
        exact ⟨upd H1 P (.tbl (ps ++ more)), ⟨⟨ps ++ more, upd_same, by rw [← em]; exact ht3⟩, fun b hb => upd_ne hb⟩, G⟩
  refine ⟨J1.nolimit.push ob, ?_⟩
  cases hf : codeAmong gp ps.toList with
  | none =>
    refine wpAny_genexprCodeX cd (code2.code atP2 ht) (code2.tab atP2) hf fun c2 h2 tk hx hge hlt co _ tab2 _ => ?_
    obtain ⟨o1, vs, f1, tf, fl, tg, inF, tx, tt, op, _, _, _, _, _, _, _, _, _, htr, _⟩ := co
    exact fin _ h2 tk _ hx (Nat.le_trans hge (Nat.le_of_lt hlt)) tab2.2 ⟨_, rfl⟩ htr
  | some cv =>
    refine wpAny_genexprCode_hit cd (code2.code atP2 ht) hf ?_
    exact fin cv (s1.heap.push ob) s1.toks ps (Heap.ExtBut.refl _ _) (Nat.le_refl _) atP2 ⟨#[], by simp⟩ ht
/-- all(test for x in e), e a text of signs that Cc tells -/
def tAllB (P : Addr) (pb : Nat → Bool) (Cc : Nat → Prop) (te : TE) : TE := fun σ H Q => te σ H fun v H1 => ∃ a : Str, v = .str a ∧ (∀ z ∈ a.cps.toList, Cc z) ∧ GxR.TabG H1 P ∧ ∀ H2, GxR.Tabbed P H1 H2 → Q (.bl (a.cps.toList.all pb)) H2
theorem pe_allB {c P : Addr} {elt iter : Expr} {x : Str} {px p pos gp : Pos} {sc : Scope} {pb : Nat → Bool} {te : TE} {k : Nat} {Cc : Nat → Prop} (hr : Room k X.A) (hg : Gl X "all") (hm : X.mg "all" = none) (TB : GxR.TabB X.base X.mg c P) (cd : X.env.code = .ref c) (S : GxR.GenS X.env sc x) (hi : PE X iter te)
    (hel : EltB X.prog X.w X.K X.mg X.base sc x elt pb (X.A.depth + 1) (X.A.units + 8) Cc) (hs : ∀ v, genFold iter X.env v = pure v) (he : starEach [.GeneratorExp elt [⟨.Name x px, iter, [], 0⟩] sc gp] X.env = (false, eval (.GeneratorExp elt [⟨.Name x px, iter, [], 0⟩] sc gp) X.env) :: starEach [] X.env := by rfl) :
    PE X (.Call (.Name "all" p) [.GeneratorExp elt [⟨.Name x px, iter, [], 0⟩] sc gp] [] pos) (tAllB P pb Cc te) := by
  refine ⟨fun pins s σ H Q J h => ?_⟩
  refine wpAny_Call_Name_kw (ld_blt J hg hm rfl (PyProof.Rows.callWith_builtin1 ?_ he (by rfl)))
  rw [he]
  show wpAny _ _ (spliced ((false, eval (.GeneratorExp elt [⟨.Name x px, iter, [], 0⟩] sc gp) X.env) :: backTo pos (starEach [] X.env))) _ _ s
  refine Calls.spliced_cons (gen_strB (R := fun a H1 => ∀ H2, GxR.Tabbed P H1 H2 → Q (.bl (a.cps.toList.all pb)) H2) hr TB cd S hi hel hs J h fun a H1 g s5 hR hG => Calls.spliced_nil ?_)
  obtain ⟨fp, wr, G, F, St, W, hst, htr, hI⟩ := hG
  refine call_all_walkS (W.self 0 _ _ _ hst ⟨g, fp, wr, G, _, F, St, _, rfl, W, hst, htr, fun s' hmv => ?_⟩)
  obtain ⟨H2, hT, J2⟩ := hI s' hmv
  refine ⟨.bl _, H2, J2, rfl, ?_⟩
  rw [GxR.all_signs a pb]
  exact hR H2 hT
end
theorem ev_allB {K : PySem.W.Frag} {P : Addr} {Γ : Env} {te : TE} {pb : Nat → Bool} {Cc : Nat → Prop} {a : Str} (h : EvD K P te Γ (.str a)) (hc : ∀ z ∈ a.cps.toList, Cc z) : EvD K P (tAllB P pb Cc te) Γ (.bool (a.cps.toList.all pb)) := fun I H σ E Q q => by
  refine h I H σ E _ fun v d I1 H1 e w r => ?_
  subst e
  cases r
  refine ⟨a, rfl, hc, w.ok.tab, fun H2 hT => ?_⟩
  obtain ⟨ht, hne⟩ := hT
  have w2 : Wd P I1 H1 I1 H2 := by
    refine ⟨⟨fun b u e => ?_, w.ok.ip, ht⟩, Same.refl _, fun b o n e => (hne b n).trans e, fun _ _ _ => rfl⟩
    have n : b ≠ P := fun z => by
      rw [z, w.ok.ip] at e
      cases e
    exact (hne b n).trans (w.ok.sub b u e)
  exact q _ _ I1 H2 rfl (w.trans w2) (Dx.bl _)
/-- a def whose code object is known -/
theorem Fun.pureC {Pr : Program} {w : World} {K : PySem.W.Frag} {mg : Str → Option Value} {base : Heap} {P c : Addr} {x qual : Str} {st : Stmt} {f : Addr} {fd : FuncData} {N ps : List Str} {k : Nat} {X : Type} {args : X → List DD} {pre : X → Prop} {post : X → DD → Prop} (F : L2.Fun K x qual st f fd) (hc : fd.code = .ref c) (S : FnScope N ps (defScope st)) (hl : ∀ x, (args x).length = ps.length)
    (hb : ∀ (A : Around) (outer : List PySem.Env) (s : Shared) (H : Hp) (E : XK), Room k (A.deeper (PyProof.Rows.envOfC qual (defScope st) s.heap.objs.size f (.ref c))) →
      ∃ t, PSs (cxOf CX0 Pr w K mg base N qual (defScope st) f (.ref c) A outer s H E).nox (defBody st) t ∧ ∀ x, pre x → ∀ I0 H0 : Hp, EvS K P I0 H0 t (startE N.length (args x)) (fun _ => post x (.dat .none)) (fun _ => post x) (fun _ => False) (fun _ => False)) :
    FnOk Pr w K mg base CX0 (k + 1) f fd ps (spT K P args pre post) := by
  obtain ⟨oc, od, kV, doc, pm, an, cdv, ct, osl, rfl, lk, hcd⟩ := F.ex
  have e : cdv = .ref c := hc
  subst e
  refine fn_of lk hcd S (fun vs H Q E h => ?_) (fun A outer s H vs Q E hr h => ?_)
  · obtain ⟨I, x, r, _⟩ := h
    exact (Paired.length r).trans (hl x)
  · obtain ⟨I, x, r, ko, hp, q⟩ := h
    obtain ⟨t, ht, hev⟩ := hb A outer s H E hr
    refine ⟨t, ht.nox, ?_⟩
    refine hev x hp I H I H _ _ (start_ok ko r) (fun I' H' σ' Γ' h' _ E' => ?_) (fun I' H' σ' Γ' v d hd E' r' => q d v I' H' hd E'.wd r') (fun _ _ _ _ z => z.elim) (fun _ _ _ _ z => z.elim)
    exact q _ _ I' H' h' E'.wd Dx.non
abbrev s_is_name : Stmt := topS 15
abbrev N_is_name : List Str := ["text"]
theorem sc_is_name : FnScope N_is_name ["text"] (defScope s_is_name) := ⟨rfl, rfl, rfl, by decide +kernel, rfl, by decide +kernel, by decide +kernel⟩
/-- the generator expression's own scope -/
def genSc (s : Stmt) : Scope := match defBody s with
  | [.Return (some (.BoolOp _ [_, .Call _ [.GeneratorExp _ _ sc _] _ _] _)) _] => sc
  | _ => { kind := .function, names := [], isGenerator := false, isCoroutine := false }
theorem free_is_name : ∀ y ∈ (genSc s_is_name).names, y.2 = .free → False := by decide +kernel
def t_is_name (K : PySem.W.Frag) (P : Addr) : TS := tRet (tAndV (tChain rLeI rLeI (tC (.int 1)) (tCB (rLen K) (tCons (tVar 0) tNil)) (tC (.int 20))) (tAllB P nameC (· < 128) (tVar 0)))
theorem ev_is_name {K : PySem.W.Frag} {P : Addr} : pm_is_name.Ok K P I0 H0 N_is_name.length (t_is_name K P) := fun (z : Str) hz => by
  have hz : EtOk z := hz
  have hz1 := hz.1
  refine sv_retE (d := .dat (.bool (nameL z.cps.toList))) (EvD.as (ev_andV (ev_chainLe ev_int (ev_callB (ea1 (ev_var rfl)) (rc_lenS (by omega))) ev_int) fun _ => ev_allB (ev_var rfl) fun c hc => (hz.2 c hc).1) ?_) rfl
  unfold nameL
  rw [len_l]
  congr 2
  have e1 : decide ((1 : Int) ≤ (z.cps.toList.length : Int)) = decide (1 ≤ z.cps.toList.length) := by
    by_cases c : 1 ≤ z.cps.toList.length
    · rw [decide_eq_true c, decide_eq_true (by omega)]
    · rw [decide_eq_false c, decide_eq_false (by omega)]
  have e2 : decide ((z.cps.toList.length : Int) ≤ 20) = decide (z.cps.toList.length ≤ 20) := by
    by_cases c : z.cps.toList.length ≤ 20
    · rw [decide_eq_true c, decide_eq_true (by omega)]
    · rw [decide_eq_false c, decide_eq_false (by omega)]
  rw [e1, e2]
theorem ok_is_name {Pr : Program} {w : World} {K : PySem.W.Frag} {mg : Str → Option Value} {base : Heap} {P c : Addr} {f fs : Addr} {fd fds : FuncData} (F : L2.Fun K "is_name" "is_name" s_is_name f fd) (hc : fd.code = .ref c) (T : Txt mg) (TB : GxR.TabB base mg c P) (Fs : L2.Fun K "is_name_sign" "is_name_sign" s_is_name_sign fs fds) (hm : mg "is_name_sign" = some (.ref fs)) :
    FnOk Pr w K mg base CX0 2 f fd ["text"] (pm_is_name.sp K P) := by
  have nd := sc_is_name.nd
  refine Fun.pureC F hc sc_is_name (fun _ => rfl) fun A outer s H E hr => ⟨t_is_name K P, ?_, fun x hx _ _ => ev_is_name x hx⟩
  refine pss_one (ps_ret (pe_and (pe_chain op_le op_le pe_int (pe_callB (r := rLen K) call_len rfl T.len PySem.boot_len (pa_cons (pv 0) pa_nil)) (C8.pe_gc rfl T.nmost)) (pe_one (pe_allB (c := c) hr rfl T.all TB rfl ⟨rfl, rfl, by decide +kernel, by rfl, by rfl, ?_⟩ (pv 0) (elt_sign Fs T hm rfl rfl rfl ?_) (fun v => rfl) rfl))))
  · exact fun y hy hf => (free_is_name y hy hf).elim
  · have := hr.dp
    show (A.deeper (PyProof.Rows.envOfC "is_name" (defScope s_is_name) s.heap.objs.size f (.ref c))).depth + 1 < recursionLimit
    omega
end Wf
/-! The law's faults, rests, edits. -/
namespace Wf
open PySem L2
abbrev s__law_is_name : Stmt := topS 63
abbrev N__law_is_name : List Str := ["_law_name", "_law_sign"]
theorem sc__law_is_name : FnScope N__law_is_name ["_law_name"] (defScope s__law_is_name) := ⟨rfl, rfl, rfl, by decide +kernel, rfl, by decide +kernel, by decide +kernel⟩
def t__law_is_name (K : PySem.W.Frag) (P : Addr) : TS :=
  (tSeq (tFor (iStr (tVar 0)) (gName 1) (tIfS (tTest (tOp rNotInS (tVar 1) (tC (.str "abcdefghijklmnopqrstuvwxyzABCDEFGHIJKLMNOPQRSTUVWXYZ0123456789-_.")))) (tRet (tC (.bl false))) tNext)) (tRet (tChain rLeI rLeI (tC (.int 1)) (tCB (rLen K) (tCons (tVar 0) tNil)) (tC (.int 20)))))
def pm__law_is_name : Pm := ⟨Str, fun z => [.dat (.str z)], fun z => EtOk z, fun z r => r = .dat (.bool (nameL z.cps.toList))⟩
theorem ev__law_is_name {K : PySem.W.Frag} {P : Addr} : pm__law_is_name.Ok K P I0 H0 N__law_is_name.length (t__law_is_name K P) := fun (z : Str) hz => by
  have hz : EtOk z := hz
  have hz1 := hz.1
  refine sv_seq (sv_for (ds := signsD z) (fun rest Γ' => ∃ (done todo : List Nat) (s : Slot), rest = todo.map (fun c => PyData.str ⟨#[c]⟩) ∧ z.cps.toList = done ++ todo ∧ done.all nameC = true ∧ Γ' = [.imm (.dat (.str z)), s]) (ei_str (ev_var rfl)) ⟨[], z.cps.toList, _, rfl, rfl, rfl, rfl⟩ (fun x rest Γ' h => ?_) (fun Γ' h => ?_))
  · obtain ⟨done, todo, s, e, hz2, hd, rfl⟩ := h
    cases todo with
    | nil => cases e
    | cons c todo =>
      cases e
      refine eg_name (sv_if (et_test (ev_notInSign (c := c) (ev_var rfl) ev_str)) (fun q => ?_) (fun q => sv_next ?_))
      · rw [nameC_lits] at q
        have hn : nameC c = false := by simpa using q
        refine sv_retE (d := .dat (.bool false)) ev_bl ?_
        have : nameL z.cps.toList = false := by
          unfold nameL
          rw [hz2, List.all_append, List.all_cons, hn]
          simp
        show _ = DD.dat (.bool (nameL z.cps.toList))
        rw [this]
      · rw [nameC_lits] at q
        have hn : nameC c = true := by simpa using q
        exact ⟨done ++ [c], todo, _, rfl, by rw [hz2]; simp, by rw [List.all_append, hd]; simp [hn], rfl⟩
  · obtain ⟨done, todo, s, e, hz2, hd, rfl⟩ := h
    cases todo with
    | cons c todo => cases e
    | nil =>
      refine sv_retE (d := .dat (.bool (nameL z.cps.toList))) (EvD.as (ev_chainLe ev_int (ev_callB (ea1 (ev_var rfl)) (rc_lenS (by omega))) ev_int) ?_) rfl
      rw [List.append_nil] at hz2
      unfold nameL
      rw [hz2, hd, Bool.and_true, len_l, hz2]
      congr 1
      have e1 : decide ((1 : Int) ≤ (done.length : Int)) = decide (1 ≤ done.length) := by
        by_cases c : 1 ≤ done.length
        · rw [decide_eq_true c, decide_eq_true (by omega)]
        · rw [decide_eq_false c, decide_eq_false (by omega)]
      have e2 : decide ((done.length : Int) ≤ 20) = decide (done.length ≤ 20) := by
        by_cases c : done.length ≤ 20
        · rw [decide_eq_true c, decide_eq_true (by omega)]
        · rw [decide_eq_false c, decide_eq_false (by omega)]
      rw [e1, e2]
theorem ok__law_is_name {Pr : Program} {w : World} {K : PySem.W.Frag} {mg : Str → Option Value} {base : Heap} {P : Addr} {f : Addr} {fd : FuncData} (F : L2.Fun K "_law_is_name" "_law_is_name" s__law_is_name f fd) (T : Txt mg) : FnOk Pr w K mg base CX0 1 f fd ["_law_name"] (pm__law_is_name.sp K P) := by
  have nd := sc__law_is_name.nd
  refine Fun.pure F sc__law_is_name (fun _ => rfl) fun cdv A outer s H E hr => ⟨t__law_is_name K P, ?_, fun x hx _ _ => ev__law_is_name x hx⟩
  exact (pss_cons (ps_for PassesOwn.never rfl (pi_str (pv 0)) (pg_name (i := 1) nd rfl (by first | exact Or.inl rfl | exact Or.inr rfl)) (pss_one (ps_if (pt_cmpR op_notIn_sign (pv 1) pe_str rfl) (pss_one (ps_ret pe_bl)) pss_nil))) (pss_one (ps_ret (pe_chain op_le op_le pe_int (pe_callB (r := rLen K) call_len rfl T.len PySem.boot_len (pa_cons (pv 0) pa_nil)) pe_int))))
abbrev s__law_is_reference : Stmt := topS 64
abbrev N__law_is_reference : List Str := ["_law_text_here", "_law_rest_here"]
theorem sc__law_is_reference : FnScope N__law_is_reference ["_law_text_here"] (defScope s__law_is_reference) := ⟨rfl, rfl, rfl, by decide +kernel, rfl, by decide +kernel, by decide +kernel⟩
def t__law_is_reference (K : PySem.W.Frag) (P : Addr) : TS :=
  (tSeq (tAsg (tBM K "str" rLstrip (tVar 0) (tCons (tC (.str " ")) tNil)) (gName 1)) (tRet (tAndV (tOp rEq (tSl rSlS (tVar 1) tNoPart (tPart (tC (.int 1)))) (tC (.str "<"))) (tAndV (tOp rEq (tSl rSlS (tVar 1) (tPart (tUn (rU fun i => .int (-i)) (tC (.int 1)))) tNoPart) (tC (.str ">"))) (tAndV (tOp rGtI (tCB (rLen K) (tCons (tVar 1) tNil)) (tC (.int 2))) (tCall (pm__law_is_name.sp K P) [] E0 (tCons (tSl rSlS (tVar 1) (tPart (tC (.int 1))) (tPart (tUn (rU fun i => .int (-i)) (tC (.int 1))))) tNil)))))))
def pm__law_is_reference : Pm := ⟨Str, fun z => [.dat (.str z)], fun z => EtOk z, fun z r => r = .dat (.bool (isRef z))⟩
theorem mid_len (l : List Nat) : (decide (2 < l.length) && nameL ((l.drop 1).take (l.length - 2))) = nameL ((l.drop 1).take (l.length - 2)) := by
  by_cases c : 2 < l.length
  · rw [decide_eq_true c, Bool.true_and]
  · rw [decide_eq_false c]
    have : l.length - 2 = 0 := by omega
    rw [this, List.take_zero]
    rfl
theorem ev__law_is_reference {K : PySem.W.Frag} {P : Addr} : pm__law_is_reference.Ok K P I0 H0 N__law_is_reference.length (t__law_is_reference K P) := fun (z : Str) hz => by
  have hz : EtOk z := hz
  have hr := hz.lstrip
  have hz1 := hz.1
  refine sv_seq (sv_asgE (ev_lstrip (ev_var rfl) ev_str (by omega)) ?_)
  have iref := isRef_l z
  generalize hR : Txt.lstripChars z (" " : Str) = r at hr iref
  have hr1 := hr.1
  refine sv_retE (d := .dat (.bool (isRef z))) (EvD.as (ev_andV (ev_startLt (z := r) (ev_var rfl) hr.1) fun _ => ev_andV (ev_endGt (z := r) (ev_var rfl) hr.1) fun _ => ev_andV (ev_gt (ev_callB (ea1 (ev_var rfl)) (rc_lenS (z := r) (by omega))) ev_int) fun _ => ev_call (X := Str) (cutS r (some 1) (some (-1))) (ea1 (ev_mid (z := r) (ev_var rfl) hr.1)) (hr.cut _ _)) ?_) rfl
  have e2 : decide ((2 : Int) < (r.length : Int)) = decide (2 < r.cps.toList.length) := by
    rw [len_l]
    by_cases c : 2 < r.cps.toList.length
    · rw [decide_eq_true c, decide_eq_true (by omega)]
    · rw [decide_eq_false c, decide_eq_false (by omega)]
  rw [iref, cut_mid, e2, mid_len]
theorem ok__law_is_reference {Pr : Program} {w : World} {K : PySem.W.Frag} {mg : Str → Option Value} {base : Heap} {P : Addr} {f : Addr} {fd : FuncData} (F : L2.Fun K "_law_is_reference" "_law_is_reference" s__law_is_reference f fd) (T : Txt mg) (C__law_is_name : C8.Cal Pr w K mg base 1 "_law_is_name" (pm__law_is_name.sp K P) []) : FnOk Pr w K mg base CX0 2 f fd ["_law_text_here"] (pm__law_is_reference.sp K P) := by
  have nd := sc__law_is_reference.nd
  refine Fun.pure F sc__law_is_reference (fun _ => rfl) fun cdv A outer s H E hr => ⟨t__law_is_reference K P, ?_, fun x hx _ _ => ev__law_is_reference x hx⟩
  exact (pss_cons (ps_set (i := 1) nd rfl (by first | exact Or.inl rfl | exact Or.inr rfl) (pe_bm PySem.F.plainAttrs_str PySem.F.slot_str_lstrip PySem.F.type_str_lstrip (r := rLstrip) mt_lstripChars (pv 0) (pa_cons pe_str pa_nil))) (pss_one (ps_ret (pe_and (pe_cmpR op_eq (pe_slice sl_str (pv 1) po_none (po_some pe_int)) pe_str (nomark _)) (pe_and (pe_cmpR op_eq (pe_slice sl_str (pv 1) (po_some (pe_un un_neg pe_int)) po_none) pe_str (nomark _)) (pe_and (pe_cmpR op_gt (pe_callB (r := rLen K) call_len rfl T.len PySem.boot_len (pa_cons (pv 1) pa_nil)) pe_int (nomark _)) (pe_one (C8.pe_c C__law_is_name hr (by decide) rfl (pa_cons (pe_slice sl_str (pv 1) (po_some pe_int) (po_some (pe_un un_neg pe_int))) pa_nil)))))))))
abbrev s__law_fault : Stmt := topS 65
abbrev N__law_fault : List Str := ["_law_text_here", "_law_indent_here"]
theorem sc__law_fault : FnScope N__law_fault ["_law_text_here", "_law_indent_here"] (defScope s__law_fault) := ⟨rfl, rfl, rfl, by decide +kernel, rfl, by decide +kernel, by decide +kernel⟩
def t__law_fault (K : PySem.W.Frag) (P : Addr) : TS :=
  (tSeq (tIfS (tTest (tOp rEq (tVar 0) (tC (.str "")))) (tRet (tC (.str ""))) tNext) (tSeq (tIfS (tTest (tOp rNe (tSl rSlS (tVar 0) tNoPart (tPart (tVar 1))) (tOp rMulS (tC (.str " ")) (tVar 1)))) (tRet (tC (.str "indent"))) tNext) (tSeq (tIfS (tTest (tOp rEq (tSl rSlS (tVar 0) (tPart (tVar 1)) tNoPart) (tC (.str "")))) (tRet (tC (.str "blank"))) tNext) (tSeq (tIfS (tB (tCall (pm__law_is_reference.sp K P) [] E0 (tCons (tSl rSlS (tVar 0) (tPart (tVar 1)) tNoPart) tNil))) (tRet (tC (.str "reference"))) tNext) (tRet (tC (.str "")))))))
def whS : Wh → Str
  | .place => "place"
  | .indent => "indent"
  | .blank => "blank"
  | .reference => "reference"
  | .apart => "apart"
def whO : Option Wh → Str
  | none => ""
  | some w => whS w
def pm__law_fault : Pm := ⟨Str × Nat, fun x => [.dat (.str x.1), .dat (.int x.2)], fun x => EtOk x.1 ∧ x.2 ≤ 1000, fun x r => r = .dat (.str (whO (fault x.1 x.2)))⟩
theorem ev__law_fault {K : PySem.W.Frag} {P : Addr} : pm__law_fault.Ok K P I0 H0 N__law_fault.length (t__law_fault K P) := fun x hx => by
  obtain ⟨t, i⟩ := x
  obtain ⟨ht, hi⟩ := hx
  dsimp only at ht hi
  have ht1 := ht.1
  have fin : ∀ w : Option Wh, fault t i = w → pm__law_fault.post (t, i) (.dat (.str (whO w))) := fun w h => by rw [← h]; rfl
  refine sv_seq (sv_if (et_test (ev_eqS (ev_var rfl) ev_str)) (fun q => ?_) (fun q => sv_next ?_))
  · have q := of_decide_eq_true q
    rw [e0] at q
    exact sv_retE ev_str (fin none (by unfold fault; rw [if_pos q]))
  have q := of_decide_eq_false q
  rw [e0] at q
  refine sv_seq (sv_if (et_test (ev_neS (ev_tk (z := t) (i := i) (ev_var rfl) (ev_var rfl) (by omega)) (ev_op ev_str (ev_var rfl) (rop_mulS (n := i) (by omega))))) (fun q2 => ?_) (fun q2 => sv_next ?_))
  · have q2 : tkT t i ≠ spc i := of_decide_eq_false (by simpa using q2)
    exact sv_retE ev_str (fin (some .indent) (by unfold fault; rw [if_neg q, if_pos q2]))
  have q2 : ¬ tkT t i ≠ spc i := fun h => h (of_decide_eq_true (by simpa using q2))
  refine sv_seq (sv_if (et_test (ev_eqS (ev_dr (z := t) (i := i) (ev_var rfl) (ev_var rfl) (by omega)) ev_str)) (fun q3 => ?_) (fun q3 => sv_next ?_))
  · have q3 := of_decide_eq_true q3
    rw [e0] at q3
    exact sv_retE ev_str (fin (some .blank) (by unfold fault; rw [if_neg q, if_neg q2, if_pos q3]))
  have q3 := of_decide_eq_false q3
  rw [e0] at q3
  refine sv_seq (sv_if (et_B (ev_call (X := Str) (drT t i) (ea1 (ev_dr (z := t) (i := i) (ev_var rfl) (ev_var rfl) (by omega))) (ht.dr i))) (fun q4 => ?_) (fun q4 => sv_next ?_))
  · exact sv_retE ev_str (fin (some .reference) (by unfold fault; rw [if_neg q, if_neg q2, if_neg q3, if_pos q4]))
  · exact sv_retE ev_str (fin none (by unfold fault; rw [if_neg q, if_neg q2, if_neg q3, if_neg (by rw [q4]; decide)]))
theorem ok__law_fault {Pr : Program} {w : World} {K : PySem.W.Frag} {mg : Str → Option Value} {base : Heap} {P : Addr} {f : Addr} {fd : FuncData} (F : L2.Fun K "_law_fault" "_law_fault" s__law_fault f fd) (T : Txt mg) (C__law_is_reference : C8.Cal Pr w K mg base 2 "_law_is_reference" (pm__law_is_reference.sp K P) []) : FnOk Pr w K mg base CX0 3 f fd ["_law_text_here", "_law_indent_here"] (pm__law_fault.sp K P) := by
  have nd := sc__law_fault.nd
  refine Fun.pure F sc__law_fault (fun _ => rfl) fun cdv A outer s H E hr => ⟨t__law_fault K P, ?_, fun x hx _ _ => ev__law_fault x hx⟩
  exact (pss_cons (ps_if (pt_cmpR op_eq (pv 0) pe_str (nomark _)) (pss_one (ps_ret pe_str)) pss_nil) (pss_cons (ps_if (pt_cmpR op_ne (pe_slice sl_str (pv 0) po_none (po_some (pv 1))) (pe_op op_mulS pe_str (pv 1)) (nomark _)) (pss_one (ps_ret pe_str)) pss_nil) (pss_cons (ps_if (pt_cmpR op_eq (pe_slice sl_str (pv 0) (po_some (pv 1)) po_none) pe_str (nomark _)) (pss_one (ps_ret pe_str)) pss_nil) (pss_cons (ps_if (pt_val (C8.pe_c C__law_is_reference hr (by decide) rfl (pa_cons (pe_slice sl_str (pv 0) (po_some (pv 1)) po_none) pa_nil))) (pss_one (ps_ret pe_str)) pss_nil) (pss_one (ps_ret pe_str))))))
abbrev s__law_rest : Stmt := topS 66
abbrev N__law_rest : List Str := ["_law_text_here", "_law_indent_here"]
theorem sc__law_rest : FnScope N__law_rest ["_law_text_here", "_law_indent_here"] (defScope s__law_rest) := ⟨rfl, rfl, rfl, by decide +kernel, rfl, by decide +kernel, by decide +kernel⟩
def t__law_rest (K : PySem.W.Frag) (P : Addr) : TS :=
  (tSeq (tIfS (tTest (tOp rEq (tVar 0) (tC (.str "")))) (tRet (tC (.str ""))) tNext) (tRet (tSl rSlS (tVar 0) (tPart (tVar 1)) tNoPart)))
def pm__law_rest : Pm := ⟨Str × Nat, fun x => [.dat (.str x.1), .dat (.int x.2)], fun x => EtOk x.1 ∧ x.2 ≤ 1000, fun x r => r = .dat (.str (rest x.1 x.2))⟩
theorem ev__law_rest {K : PySem.W.Frag} {P : Addr} : pm__law_rest.Ok K P I0 H0 N__law_rest.length (t__law_rest K P) := fun x hx => by
  obtain ⟨t, i⟩ := x
  obtain ⟨ht, hi⟩ := hx
  dsimp only at ht hi
  have ht1 := ht.1
  refine sv_seq (sv_if (et_test (ev_eqS (ev_var rfl) ev_str)) (fun q => ?_) (fun q => sv_next ?_))
  · have q := of_decide_eq_true q
    rw [e0] at q
    refine sv_retE (d := .dat (.str (rest t i))) ?_ rfl
    unfold rest
    rw [if_pos q, ← e0]
    exact ev_str
  · have q := of_decide_eq_false q
    rw [e0] at q
    refine sv_retE (d := .dat (.str (rest t i))) ?_ rfl
    unfold rest
    rw [if_neg q]
    exact ev_dr (ev_var rfl) (ev_var rfl) (by omega)
theorem ok__law_rest {Pr : Program} {w : World} {K : PySem.W.Frag} {mg : Str → Option Value} {base : Heap} {P : Addr} {f : Addr} {fd : FuncData} (F : L2.Fun K "_law_rest" "_law_rest" s__law_rest f fd) (T : Txt mg) : FnOk Pr w K mg base CX0 1 f fd ["_law_text_here", "_law_indent_here"] (pm__law_rest.sp K P) := by
  have nd := sc__law_rest.nd
  refine Fun.pure F sc__law_rest (fun _ => rfl) fun cdv A outer s H E hr => ⟨t__law_rest K P, ?_, fun x hx _ _ => ev__law_rest x hx⟩
  exact (pss_cons (ps_if (pt_cmpR op_eq (pv 0) pe_str (nomark _)) (pss_one (ps_ret pe_str)) pss_nil) (pss_one (ps_ret (pe_slice sl_str (pv 0) (po_some (pv 1)) po_none))))
/-- an edit's texts and sizes -/
structure EdOk (e : Ed) : Prop where
  txt : ∀ t ∈ textsOf e, EtOk t
  ah : e.ahead.length ≤ 2
  be : e.behind.length ≤ 3
theorem EdOk.sz {e : Ed} (h : EdOk e) : EdSz e := ⟨Nat.le_trans h.ah (by decide), Nat.le_trans h.be (by decide)⟩
theorem EdOk.ahead {e : Ed} (h : EdOk e) : ∀ t ∈ e.ahead, EtOk t := fun t ht => h.txt t (by unfold textsOf; simp [ht])
theorem EdOk.behind {e : Ed} (h : EdOk e) : ∀ t ∈ e.behind, EtOk t := fun t ht => h.txt t (by unfold textsOf; simp [ht])
theorem EdOk.text {e : Ed} (h : EdOk e) {t : Str} (ht : e.ch = .text t) : EtOk t := h.txt t (by unfold textsOf; rw [ht]; simp [Ch.texts])
abbrev s__law_texts : Stmt := topS 67
abbrev N__law_texts : List Str := ["_law_edit_here", "_law_found"]
theorem sc__law_texts : FnScope N__law_texts ["_law_edit_here"] (defScope s__law_texts) := ⟨rfl, rfl, rfl, by decide +kernel, rfl, by decide +kernel, by decide +kernel⟩
def t__law_texts (K : PySem.W.Frag) (P : Addr) : TS :=
  (tSeq (tAsg (tCB (rListOf K) (tCons (tOp (rIxT K) (tVar 0) (tC (.int 0))) tNil)) (gName 1)) (tSeq (tIfS (tTest (tOp rEq (tOp (rIxT K) (tOp (rIxT K) (tVar 0) (tC (.int 1))) (tC (.int 0))) (tC (.str "text")))) (tDrop (tBM K "list" rAppend (tVar 1) (tCons (tOp (rIxT K) (tOp (rIxT K) (tVar 0) (tC (.int 1))) (tC (.int 1))) tNil))) tNext) (tRet (tOp rCat (tVar 1) (tCB (rListOf K) (tCons (tOp (rIxT K) (tVar 0) (tC (.int 2))) tNil))))))
def pm__law_texts : Pm := ⟨Ed, fun x => [.dat (edD x)], fun x => EdOk x, fun x r => r = .dat (.list ((textsOf x).map .str))⟩
theorem ev__law_texts {K : PySem.W.Frag} {P : Addr} : pm__law_texts.Ok K P I0 H0 N__law_texts.length (t__law_texts K P) := fun (e : Ed) he => by
  have he : EdOk e := he
  have h1 := he.ah
  have h2 := he.be
  refine sv_seq (sv_asgN (en_listT (ev_ed0 (e := e) (ev_var rfl))) fun p => ?_)
  refine sv_cut (fun Γ' => Γ' = [.imm (.dat (edD e)), .own p ((e.ahead ++ e.ch.texts).map .str)]) (sv_if (et_test (ev_eqS (ev_chK (c := e.ch) (ev_ed1 (ev_var rfl))) ev_str)) (fun q => ?_) (fun q => ?_)) fun Γ' h => ?_
  · rw [kind_text] at q
    cases c : e.ch with
    | keep => rw [c] at q; cases q
    | drop => rw [c] at q; cases q
    | text t =>
      have hh := ev_ed1 (K := K) (P := P) (Γ := (startE N__law_texts.length (pm__law_texts.args e)).set 1 (.own p (e.ahead.map .str))) (te := tVar 0) (e := e) (ev_var rfl)
      rw [c] at hh
      refine sv_append (i := 1) (d := .str t) rfl (ev_ch1 (t := t) hh) (by rw [List.length_map]; omega) ?_
      have em : e.ahead.map PyData.str ++ [.str t] = (e.ahead ++ [t]).map PyData.str := by rw [List.map_append]; rfl
      rw [em]
      rfl
  · rw [kind_text] at q
    cases c : e.ch with
    | text t => rw [c] at q; cases q
    | keep =>
      refine sv_next ?_
      show _ = [_, Slot.own p ((e.ahead ++ []).map .str)]
      rw [List.append_nil]
      rfl
    | drop =>
      refine sv_next ?_
      show _ = [_, Slot.own p ((e.ahead ++ []).map .str)]
      rw [List.append_nil]
      rfl
  · subst h
    have hch : e.ch.texts.length ≤ 1 := by cases e.ch <;> simp [Ch.texts]
    refine sv_retE (d := .dat (.list ((textsOf e).map .str))) (EvD.as (EvN.ev (en_catOwn (i := 1) (p0 := p) (as := (e.ahead ++ e.ch.texts).map .str) (bs := e.behind.map .str) rfl (ev_callB (ea1 (ev_ed2 (ev_var rfl))) rc_listT) (by rw [List.length_map, List.length_map, List.length_append]; omega))) ?_) rfl
    unfold textsOf
    rw [← List.map_append]
theorem ok__law_texts {Pr : Program} {w : World} {K : PySem.W.Frag} {mg : Str → Option Value} {base : Heap} {P : Addr} {f : Addr} {fd : FuncData} (F : L2.Fun K "_law_texts" "_law_texts" s__law_texts f fd) (T : Txt mg) : FnOk Pr w K mg base CX0 1 f fd ["_law_edit_here"] (pm__law_texts.sp K P) := by
  have nd := sc__law_texts.nd
  refine Fun.pure F sc__law_texts (fun _ => rfl) fun cdv A outer s H E hr => ⟨t__law_texts K P, ?_, fun x hx _ _ => ev__law_texts x hx⟩
  exact (pss_cons (ps_set (i := 1) nd rfl (by first | exact Or.inl rfl | exact Or.inr rfl) (pe_callTy (r := rListOf K) call_list_of rfl T.list PyProof.Rows.boot_list (pa_cons (pe_ix ix_tup (pv 0) pe_int (fun _ _ => rfl)) pa_nil))) (pss_cons (ps_if (pt_cmpR op_eq (pe_ix ix_tup (pe_ix ix_tup (pv 0) pe_int (fun _ _ => rfl)) pe_int (fun _ _ => rfl)) pe_str (nomark _)) (pss_one (ps_expr (pe_bm PySem.F.plainAttrs_list PySem.F.slot_list_append PySem.F.type_list_append mt_append (pv 1) (pa_cons (pe_ix ix_tup (pe_ix ix_tup (pv 0) pe_int (fun _ _ => rfl)) pe_int (fun _ _ => rfl)) pa_nil)))) pss_nil) (pss_one (ps_ret (pe_op op_cat (pv 1) (pe_callTy (r := rListOf K) call_list_of rfl T.list PyProof.Rows.boot_list (pa_cons (pe_ix ix_tup (pv 0) pe_int (fun _ _ => rfl)) pa_nil)))))))
abbrev s__law_back : Stmt := topS 68
abbrev N__law_back : List Str := ["_law_edit_here", "_law_indent_here", "_law_own", "_law_ahead", "_law_change", "_law_behind", "_law_t"]
theorem sc__law_back : FnScope N__law_back ["_law_edit_here", "_law_indent_here", "_law_own"] (defScope s__law_back) := ⟨rfl, rfl, rfl, by decide +kernel, rfl, by decide +kernel, by decide +kernel⟩
def t__law_back (K : PySem.W.Frag) (P : Addr) : TS :=
  (tSeq (tAsg (tVar 0) (gTup K 3 (gCons (gName 3) (gCons (gName 4) (gCons (gName 5) gNil))))) (tSeq (tIfS (tTest (tOp rEq (tOp (rIxT K) (tVar 4) (tC (.int 0))) (tC (.str "text")))) (tSeq (tAsg (tTup (tCons (tC (.str "text")) (tCons (tCall (pm__law_rest.sp K P) [] E0 (tCons (tOp (rIxT K) (tVar 4) (tC (.int 1))) (tCons (tVar 1) tNil))) tNil))) (gName 4)) (tIfS (tTest (tOp rEq (tOp (rIxT K) (tVar 4) (tC (.int 1))) (tVar 2))) (tAsg (tTup (tCons (tC (.str "keep")) tNil)) (gName 4)) tNext)) tNext) (tRet (tTup (tCons (tCB (rTupOf K) (tCons (tLc (iTup K (tVar 3)) (gName 6) tYes (tCall (pm__law_rest.sp K P) [] E0 (tCons (tVar 6) (tCons (tVar 1) tNil))) [6]) tNil)) (tCons (tVar 4) (tCons (tCB (rTupOf K) (tCons (tLc (iTup K (tVar 5)) (gName 6) tYes (tCall (pm__law_rest.sp K P) [] E0 (tCons (tVar 6) (tCons (tVar 1) tNil))) [6]) tNil)) tNil)))))))
def pm__law_back : Pm := ⟨Ed × Nat × Str, fun x => [.dat (edD x.1), .dat (.int x.2.1), .dat (.str x.2.2)], fun x => EdOk x.1 ∧ x.2.1 ≤ 1000, fun x r => r = .dat (edD (back x.1 x.2.1 x.2.2))⟩
theorem rests_ev {K : PySem.W.Frag} {P : Addr} {Γ : Env} {j m k : Nat} {ts : List Str} {i : Nat} (hj : Γ[j]? = some (.imm (.dat (strsD ts)))) (hk : ∀ x, (Γ.set m (.imm (.dat x)))[k]? = some (.imm (.dat (.int i)))) (hm : m < Γ.length) (ht : ∀ t ∈ ts, EtOk t) (hi : i ≤ 1000) (hl : ts.length ≤ 1000) :
    EvD K P (tCB (rTupOf K) (tCons (tLc (iTup K (tVar j)) (gName m) tYes (tCall (pm__law_rest.sp K P) [] E0 (tCons (tVar m) (tCons (tVar k) tNil))) [m]) tNil)) Γ (strsD (ts.map (rest · i))) := by
  let f : PyData → PyData := fun x => match x with
    | .str t => .str (rest t i)
    | _ => .none
  have e : (ts.map PyData.str).map f = (ts.map (rest · i)).map PyData.str := by
    rw [List.map_map, List.map_map]
    rfl
  refine ev_callB (ds := [.dat (.list ((ts.map (rest · i)).map PyData.str))]) (ea1 ?_) rc_tupL
  rw [← e]
  refine EvN.ev (en_map f (fun x => Γ.set m (.imm (.dat x))) (ei_tup (ev_var hj)) (by rw [List.length_map]; omega) (fun x hx => ew_name) fun x hx => ?_)
  obtain ⟨t, htm, rfl⟩ := List.mem_map.mp hx
  exact ev_call (X := Str × Nat) (t, i) (ea_cons (ev_var (List.getElem?_set_self hm)) (ea1 (ev_var (hk _)))) ⟨ht t htm, hi⟩
theorem ev__law_back {K : PySem.W.Frag} {P : Addr} : pm__law_back.Ok K P I0 H0 N__law_back.length (t__law_back K P) := fun x hx => by
  obtain ⟨e, i, own⟩ := x
  obtain ⟨he, hi⟩ := hx
  dsimp only at he hi
  have h1 := he.ah
  have h2 := he.be
  refine sv_seq (sv_asgG (d := .dat (edD e)) (ev_var rfl) (eg_tup (ds := [strsD e.ahead, chD e.ch, strsD e.behind]) rfl (gs_cons (eg_name (gs_cons (eg_name (gs_cons (eg_name (gs_nil ?_)))))))))
  refine sv_cut (fun Γ' => Γ' = [.imm (.dat (edD e)), .imm (.dat (.int i)), .imm (.dat (.str own)), .imm (.dat (strsD e.ahead)), .imm (.dat (chD (backC e.ch i own))), .imm (.dat (strsD e.behind)), .emp]) (sv_if (et_test (ev_eqS (ev_chK (c := e.ch) (ev_var rfl)) ev_str)) (fun q => ?_) (fun q => ?_)) fun Γ' h => ?_
  · rw [kind_text] at q
    cases c : e.ch with
    | keep => rw [c] at q; cases q
    | drop => rw [c] at q; cases q
    | text t =>
      have ht := he.text c
      refine sv_seq (sv_asgE (d := .dat (chD (.text (rest t i)))) (ev_tup (ds := [.str "text", .str (rest t i)]) (ea_cons ev_str (ea1 (ev_call (X := Str × Nat) (t, i) (ea_cons (ev_ch1 (t := t) (ev_var rfl)) (ea1 (ev_var rfl))) ⟨ht, hi⟩)))) ?_)
      refine sv_if (et_test (ev_eqS (ev_ch1 (t := rest t i) (ev_var rfl)) (ev_var rfl))) (fun q2 => ?_) (fun q2 => ?_)
      · refine sv_asgE (d := .dat (chD .keep)) (ev_tup (ds := [.str "keep"]) (ea1 ev_str)) ?_
        show _ = [_, _, _, _, Slot.imm (.dat (chD (if rest t i = own then .keep else .text (rest t i)))), _, _]
        rw [if_pos (of_decide_eq_true q2)]
        rfl
      · refine sv_next ?_
        show _ = [_, _, _, _, Slot.imm (.dat (chD (if rest t i = own then .keep else .text (rest t i)))), _, _]
        rw [if_neg (of_decide_eq_false q2)]
        rfl
  · rw [kind_text] at q
    cases c : e.ch with
    | keep => exact sv_next rfl
    | drop => exact sv_next rfl
    | text t => rw [c] at q; cases q
  · subst h
    exact sv_retE (d := .dat (edD (back e i own))) (ev_ed (e := back e i own) (rests_ev (m := 6) rfl (fun _ => rfl) (by show 6 < 7; omega) he.ahead hi (by omega)) (ev_var rfl) (rests_ev (m := 6) rfl (fun _ => rfl) (by show 6 < 7; omega) he.behind hi (by omega))) rfl
theorem ok__law_back {Pr : Program} {w : World} {K : PySem.W.Frag} {mg : Str → Option Value} {base : Heap} {P : Addr} {f : Addr} {fd : FuncData} (F : L2.Fun K "_law_back" "_law_back" s__law_back f fd) (T : Txt mg) (C__law_rest : C8.Cal Pr w K mg base 1 "_law_rest" (pm__law_rest.sp K P) []) : FnOk Pr w K mg base CX0 2 f fd ["_law_edit_here", "_law_indent_here", "_law_own"] (pm__law_back.sp K P) := by
  have nd := sc__law_back.nd
  refine Fun.pure F sc__law_back (fun _ => rfl) fun cdv A outer s H E hr => ⟨t__law_back K P, ?_, fun x hx _ _ => ev__law_back x hx⟩
  exact (pss_cons (ps_asg (pv 0) (pg_tup rfl (pgs_cons (pg_name (i := 3) nd rfl (by first | exact Or.inl rfl | exact Or.inr rfl)) (pgs_cons (pg_name (i := 4) nd rfl (by first | exact Or.inl rfl | exact Or.inr rfl)) (pgs_cons (pg_name (i := 5) nd rfl (by first | exact Or.inl rfl | exact Or.inr rfl)) pgs_nil))))) (pss_cons (ps_if (pt_cmpR op_eq (pe_ix ix_tup (pv 4) pe_int (fun _ _ => rfl)) pe_str (nomark _)) (pss_cons (ps_set (i := 4) nd rfl (by first | exact Or.inl rfl | exact Or.inr rfl) (pe_tup (pa_cons pe_str (pa_cons (C8.pe_c C__law_rest hr (by decide) rfl (pa_cons (pe_ix ix_tup (pv 4) pe_int (fun _ _ => rfl)) (pa_cons (pv 1) pa_nil))) pa_nil)))) (pss_one (ps_if (pt_cmpR op_eq (pe_ix ix_tup (pv 4) pe_int (fun _ _ => rfl)) (pv 2) (nomark _)) (pss_one (ps_set (i := 4) nd rfl (by first | exact Or.inl rfl | exact Or.inr rfl) (pe_tup (pa_cons pe_str pa_nil)))) pss_nil))) pss_nil) (pss_one (ps_ret (pe_tup (pa_cons (pe_callTy (r := rTupOf K) call_tuple_of rfl T.tuple PyProof.Rows.boot_tuple (pa_cons (pe_lc (own := [("_law_t", 6)]) (g := (gName 6)) (tt := tYes) rfl nd (pi_tup (pv 3)) (blkOk_by (N := N__law_back) (sc := defScope s__law_back) (by decide +kernel)) (fun _ _ _ _ _ => (pg_name (i := 6) nd rfl (by first | exact Or.inl rfl | exact Or.inr rfl))) (fun _ _ _ _ _ => pts_nil) (fun _ _ _ _ _ => (C8.pe_c C__law_rest hr (by decide) rfl (pa_cons (pv 6) (pa_cons (pv 1) pa_nil))))) pa_nil)) (pa_cons (pv 4) (pa_cons (pe_callTy (r := rTupOf K) call_tuple_of rfl T.tuple PyProof.Rows.boot_tuple (pa_cons (pe_lc (own := [("_law_t", 6)]) (g := (gName 6)) (tt := tYes) rfl nd (pi_tup (pv 5)) (blkOk_by (N := N__law_back) (sc := defScope s__law_back) (by decide +kernel)) (fun _ _ _ _ _ => (pg_name (i := 6) nd rfl (by first | exact Or.inl rfl | exact Or.inr rfl))) (fun _ _ _ _ _ => pts_nil) (fun _ _ _ _ _ => (C8.pe_c C__law_rest hr (by decide) rfl (pa_cons (pv 6) (pa_cons (pv 1) pa_nil))))) pa_nil)) pa_nil))))))))
abbrev s__law_is_first : Stmt := topS 60
abbrev N__law_is_first : List Str := ["_law_document_here", "_law_line_here"]
theorem sc__law_is_first : FnScope N__law_is_first ["_law_document_here", "_law_line_here"] (defScope s__law_is_first) := ⟨rfl, rfl, rfl, by decide +kernel, rfl, by decide +kernel, by decide +kernel⟩
def t__law_is_first (K : PySem.W.Frag) (P : Addr) : TS :=
  (tRet (tOp rEq (tOp (rIxT K) (tOp (rIxT K) (tVar 0) (tOp rSubI (tVar 1) (tC (.int 1)))) (tC (.int 0))) (tC (.str "head"))))
def pm__law_is_first : Pm := ⟨List Ln × Nat, fun x => [.dat (docD x.1), .dat (.int x.2)], fun x => 0 < x.2 ∧ x.2 < x.1.length, fun x r => r = .dat (.bool (isFirst x.1 x.2))⟩
theorem ev__law_is_first {K : PySem.W.Frag} {P : Addr} : pm__law_is_first.Ok K P I0 H0 N__law_is_first.length (t__law_is_first K P) := fun x hx => by
  obtain ⟨d, a⟩ := x
  obtain ⟨h0, h1⟩ := hx
  dsimp only at h0 h1
  cases a with
  | zero => omega
  | succ a =>
    have hget : d[a]? = some d[a] := by simp [show a < d.length by omega]
    refine sv_retE (d := .dat (.bool (isFirst d (a + 1)))) (EvD.as (ev_eqS (ev_kind (l := d[a]) (ev_docAt (a := a) (ev_var rfl) (EvD.as (ev_sub (ev_var rfl) ev_int) (by congr 1; omega)) hget)) ev_str) ?_) rfl
    rw [kind_head]
    unfold isFirst
    dsimp only
    rw [hget]
    cases d[a] <;> rfl
theorem ok__law_is_first {Pr : Program} {w : World} {K : PySem.W.Frag} {mg : Str → Option Value} {base : Heap} {P : Addr} {f : Addr} {fd : FuncData} (F : L2.Fun K "_law_is_first" "_law_is_first" s__law_is_first f fd) (T : Txt mg) : FnOk Pr w K mg base CX0 1 f fd ["_law_document_here", "_law_line_here"] (pm__law_is_first.sp K P) := by
  have nd := sc__law_is_first.nd
  refine Fun.pure F sc__law_is_first (fun _ => rfl) fun cdv A outer s H E hr => ⟨t__law_is_first K P, ?_, fun x hx _ _ => ev__law_is_first x hx⟩
  exact (pss_one (ps_ret (pe_cmpR op_eq (pe_ix ix_tup (pe_ix ix_tup (pv 0) (pe_op op_sub (pv 1) pe_int) (fun _ _ => rfl)) pe_int (fun _ _ => rfl)) pe_str (nomark _))))
end Wf
/-! The law's drawn edits. -/
namespace Wf
open PySem L2
/-- a text, short, of plain signs -/
def Sh (n : Nat) (t : Str) : Prop := t.length ≤ n ∧ ∀ c ∈ t.cps.toList, c < 128 ∧ c ≠ 10
def shB (n : Nat) (t : Str) : Bool := decide (t.length ≤ n) && t.cps.toList.all fun c => decide (c < 128) && !decide (c = 10)
theorem sh_of {n : Nat} {t : Str} (h : shB n t = true) : Sh n t := by
  unfold shB at h
  rw [Bool.and_eq_true, decide_eq_true_eq, List.all_eq_true] at h
  refine ⟨h.1, fun c hc => ?_⟩
  have := h.2 c hc
  simp only [Bool.and_eq_true, decide_eq_true_eq, Bool.not_eq_true', decide_eq_false_iff_not] at this
  exact this
theorem Sh.et {n : Nat} {t : Str} (h : Sh n t) (hn : n ≤ 60) : EtOk t := ⟨Nat.le_trans h.1 hn, h.2⟩
theorem app_l (a b : Str) : (a ++ b).cps.toList = a.cps.toList ++ b.cps.toList := by
  show (a.cps ++ b.cps).toList = _
  simp
theorem spc_l (n : Nat) : (spc n).cps.toList = List.replicate n 32 := by simp [spc]
theorem sh_pad {n i : Nat} {t : Str} (h : Sh n t) : Sh (i + n) (spc i ++ t) := by
  refine ⟨?_, fun c hc => ?_⟩
  · have := h.1
    rw [len_l] at this ⊢
    rw [app_l, List.length_append, spc_l, List.length_replicate]
    omega
  · rw [app_l, spc_l] at hc
    rcases List.mem_append.mp hc with hc | hc
    · have := (List.mem_replicate.mp hc).2
      subst this
      decide
    · exact h.2 c hc
theorem Sh.le {n m : Nat} {t : Str} (h : Sh n t) (hm : n ≤ m) : Sh m t := ⟨Nat.le_trans h.1 hm, h.2⟩
theorem sh_shown {n i : Nat} {t : Str} (h : Sh n t) : Sh (i + n) (shown i t) := by
  unfold shown
  split
  · exact ⟨Nat.zero_le _, fun c hc => by cases hc⟩
  · exact sh_pad h
theorem sh_spc (i : Nat) : Sh i (spc i) := by
  refine ⟨by rw [spc_len]; exact Nat.le_refl _, fun c hc => ?_⟩
  rw [spc_l] at hc
  have := (List.mem_replicate.mp hc).2
  subst this
  decide
abbrev s__law_new_text : Stmt := topS 57
abbrev N__law_new_text : List Str := ["_law_draw"]
theorem sc__law_new_text : FnScope N__law_new_text ["_law_draw"] (defScope s__law_new_text) := ⟨rfl, rfl, rfl, by decide +kernel, rfl, by decide +kernel, by decide +kernel⟩
def t__law_new_text (K : PySem.W.Frag) (P : Addr) : TS :=
  (tRet (tOp (rIxL K) (tLst (tCons (tC (.str "p")) (tCons (tC (.str "")) (tCons (tC (.str "q r")) (tCons (tC (.str " s")) (tCons (tC (.str "x")) (tCons (tC (.str "<a")) (tCons (tC (.str "w")) tNil)))))))) (tOp rModI (tVar 0) (tC (.int 7)))))
def newL : List Str := ["p", "", "q r", " s", "x", "<a", "w"]
def newT (i : Int) : Str := (atI newL (i % 7)).getD ""
theorem newT_sh (i : Int) : Sh 5 (newT i) := by
  obtain ⟨t, ht, hat⟩ := atI_mod (xs := newL) i (by decide)
  unfold newT
  rw [show (7 : Int) = (newL.length : Int) from rfl, hat]
  have : ∀ t ∈ newL, shB 5 t = true := by decide +kernel
  exact sh_of (this t ht)
def pm__law_new_text : Pm := ⟨Int, fun x => [.dat (.int x)], fun x => True, fun x r => r = .dat (.str (newT x))⟩
theorem ev__law_new_text {K : PySem.W.Frag} {P : Addr} : pm__law_new_text.Ok K P I0 H0 N__law_new_text.length (t__law_new_text K P) := fun (c : Int) _ => by
  obtain ⟨t, ht, hat⟩ := atI_mod (xs := newL) c (by decide)
  have e : newT c = t := by
    unfold newT
    rw [show (7 : Int) = (newL.length : Int) from rfl, hat]
    rfl
  refine sv_retE (d := .dat (.str t)) (eat (D := PyData.str) (ev_lst (ea_cons ev_str (ea_cons ev_str (ea_cons ev_str (ea_cons ev_str (ea_cons ev_str (ea_cons ev_str (ea1 ev_str))))))) (by decide)) (ev_mod (ev_var rfl) ev_int (by decide)) hat) ?_
  rw [← e]
  rfl
theorem ok__law_new_text {Pr : Program} {w : World} {K : PySem.W.Frag} {mg : Str → Option Value} {base : Heap} {P : Addr} {f : Addr} {fd : FuncData} (F : L2.Fun K "_law_new_text" "_law_new_text" s__law_new_text f fd) (T : Txt mg) : FnOk Pr w K mg base CX0 1 f fd ["_law_draw"] (pm__law_new_text.sp K P) := by
  have nd := sc__law_new_text.nd
  refine Fun.pure F sc__law_new_text (fun _ => rfl) fun cdv A outer s H E hr => ⟨t__law_new_text K P, ?_, fun x hx _ _ => ev__law_new_text x hx⟩
  exact (pss_one (ps_ret (pe_ix ix_list (pe_lst (pa_cons pe_str (pa_cons pe_str (pa_cons pe_str (pa_cons pe_str (pa_cons pe_str (pa_cons pe_str (pa_cons pe_str pa_nil)))))))) (pe_op op_mod (pv 0) pe_int) (fun _ _ => rfl))))
structure FtOk (e : Ed) : Prop where
  txt : ∀ t ∈ textsOf e, Sh 5 t
  ah : e.ahead.length ≤ 1
  be : e.behind.length ≤ 2
abbrev s__law_fate : Stmt := topS 58
abbrev N__law_fate : List Str := ["_law_cell_here", "_law_is_first_here", "_law_draws_here", "_law_change", "_law_ahead", "_law_behind", "_law_k"]
theorem sc__law_fate : FnScope N__law_fate ["_law_cell_here", "_law_is_first_here"] (defScope s__law_fate) := ⟨rfl, rfl, rfl, by decide +kernel, rfl, by decide +kernel, by decide +kernel⟩
def t__law_fate (K : PySem.W.Frag) (P : Addr) : TS :=
  (tSeq (tAsg (tCall (pm__law_draws.sp K P) [] E0 (tCons (tVar 0) (tCons (tC (.int 7)) tNil))) (gName 2)) (tSeq (tAsg (tTup (tCons (tC (.str "keep")) tNil)) (gName 3)) (tSeq (tIfS (tTest (tOp rEq (tOp rModI (tOp (rIxL K) (tVar 2) (tC (.int 0))) (tC (.int 6))) (tC (.int 0)))) (tAsg (tTup (tCons (tC (.str "drop")) tNil)) (gName 3)) tNext) (tSeq (tIfS (tTest (tOp rEq (tOp rModI (tOp (rIxL K) (tVar 2) (tC (.int 0))) (tC (.int 6))) (tC (.int 1)))) (tAsg (tTup (tCons (tC (.str "text")) (tCons (tCall (pm__law_new_text.sp K P) [] E0 (tCons (tOp (rIxL K) (tVar 2) (tC (.int 1))) tNil)) tNil))) (gName 3)) tNext) (tSeq (tAsg (tTup tNil) (gName 4)) (tSeq (tIfS (tAnd (tB (tVar 1)) (tTest (tOp rEq (tOp rModI (tOp (rIxL K) (tVar 2) (tC (.int 2))) (tC (.int 5))) (tC (.int 0))))) (tAsg (tTup (tCons (tCall (pm__law_new_text.sp K P) [] E0 (tCons (tOp (rIxL K) (tVar 2) (tC (.int 3))) tNil)) tNil)) (gName 4)) tNext) (tSeq (tAsg (tCB (rTupOf K) (tCons (tLc (iRng1 (tCons (tOp (rIxL K) (tLst (tCons (tC (.int 0)) (tCons (tC (.int 0)) (tCons (tC (.int 0)) (tCons (tC (.int 0)) (tCons (tC (.int 1)) (tCons (tC (.int 2)) tNil))))))) (tOp rModI (tOp (rIxL K) (tVar 2) (tC (.int 4))) (tC (.int 6)))) tNil)) (gName 6) tYes (tCall (pm__law_new_text.sp K P) [] E0 (tCons (tOp (rIxL K) (tVar 2) (tOp rAddI (tC (.int 5)) (tVar 6))) tNil)) [6]) tNil)) (gName 5)) (tRet (tTup (tCons (tVar 4) (tCons (tVar 3) (tCons (tVar 5) tNil))))))))))))
def pm__law_fate : Pm := ⟨Int × Bool, fun x => [.dat (.int x.1), .dat (.bool x.2)], fun x => True, fun x r => ∃ e, FtOk e ∧ r = .dat (edD e)⟩
theorem two6 : ∀ i ∈ ([0, 0, 0, 0, 1, 2] : List Int), 0 ≤ i ∧ i ≤ 2 := by decide
theorem ev__law_fate {K : PySem.W.Frag} {P : Addr} : pm__law_fate.Ok K P I0 H0 N__law_fate.length (t__law_fate K P) := fun x hx => by
  obtain ⟨c, fst⟩ := x
  refine sv_seq (sv_asg (ev_call (X := Int × Nat) (c, 7) (ea_cons (ev_var rfl) (ea1 ev_int)) (by show (7 : Nat) ≤ 1000; omega)) fun d ⟨ns, hl, hd⟩ => ?_)
  subst hd
  match ns, hl with
  | [n0, n1, n2, n3, n4, n5, n6], _ =>
    refine sv_seq (sv_asgE (d := .dat (chD .keep)) (ev_tup (ds := [.str "keep"]) (ea1 ev_str)) ?_)
    refine sv_cut (fun Γ' => ∃ ch : Ch, ch.texts = [] ∧ Γ' = [.imm (.dat (.int c)), .imm (.dat (.bool fst)), .imm (.dat (intsD [n0, n1, n2, n3, n4, n5, n6])), .imm (.dat (chD ch)), .emp, .emp, .emp]) (sv_if (et_test (ev_eqI (ev_mod (ev_ixL (ev_var rfl) ev_int rfl) ev_int (by decide)) ev_int)) (fun q => ?_) (fun q => ?_)) fun Γ' h => ?_
    · exact sv_asgE (d := .dat (chD .drop)) (ev_tup (ds := [.str "drop"]) (ea1 ev_str)) ⟨.drop, rfl, rfl⟩
    · exact sv_next ⟨.keep, rfl, rfl⟩
    obtain ⟨ch, hch, rfl⟩ := h
    refine sv_cut (fun Γ' => ∃ ch : Ch, (∀ t ∈ ch.texts, Sh 5 t) ∧ Γ' = [.imm (.dat (.int c)), .imm (.dat (.bool fst)), .imm (.dat (intsD [n0, n1, n2, n3, n4, n5, n6])), .imm (.dat (chD ch)), .emp, .emp, .emp]) (sv_if (et_test (ev_eqI (ev_mod (ev_ixL (ev_var rfl) ev_int rfl) ev_int (by decide)) ev_int)) (fun q => ?_) (fun q => ?_)) fun Γ' h => ?_
    · refine sv_asgE (d := .dat (chD (.text (newT n1)))) (ev_tup (ds := [.str "text", .str (newT n1)]) (ea_cons ev_str (ea1 (ev_call (X := Int) n1 (ea1 (ev_ixL (ev_var rfl) ev_int rfl)) trivial)))) ⟨.text (newT n1), fun t ht => ?_, rfl⟩
      rcases List.mem_singleton.mp ht with rfl
      exact newT_sh n1
    · exact sv_next ⟨ch, (fun t ht => by rw [hch] at ht; cases ht), rfl⟩
    obtain ⟨ch, hch, rfl⟩ := h
    refine sv_seq (sv_asgE (d := .dat (strsD [])) ev_none ?_)
    refine sv_cut (fun Γ' => ∃ ah : List Str, (∀ t ∈ ah, Sh 5 t) ∧ ah.length ≤ 1 ∧ Γ' = [.imm (.dat (.int c)), .imm (.dat (.bool fst)), .imm (.dat (intsD [n0, n1, n2, n3, n4, n5, n6])), .imm (.dat (chD ch)), .imm (.dat (strsD ah)), .emp, .emp]) (sv_if (et_and (et_B (ev_var rfl)) fun _ => et_test (ev_eqI (ev_mod (ev_ixL (ev_var rfl) ev_int rfl) ev_int (by decide)) ev_int)) (fun q => ?_) (fun q => ?_)) fun Γ' h => ?_
    · refine sv_asgE (d := .dat (strsD [newT n3])) (ev_tup (ds := [.str (newT n3)]) (ea1 (ev_call (X := Int) n3 (ea1 (ev_ixL (ev_var rfl) ev_int rfl)) trivial))) ⟨[newT n3], fun t ht => ?_, Nat.le_refl _, rfl⟩
      rcases List.mem_singleton.mp ht with rfl
      exact newT_sh n3
    · exact sv_next ⟨[], (fun t ht => by cases ht), by decide, rfl⟩
    obtain ⟨ah, hah, hal, rfl⟩ := h
    obtain ⟨i, hi, hat⟩ := atI_mod (xs := ([0, 0, 0, 0, 1, 2] : List Int)) n4 (by decide)
    obtain ⟨b1, b2⟩ := two6 i hi
    obtain ⟨m, rfl⟩ := Int.eq_ofNat_of_zero_le b1
    have hm : m ≤ 2 := by omega
    have ns5 : ∀ k : Nat, k < m → ∃ v : Int, ([n0, n1, n2, n3, n4, n5, n6].map PyData.int)[5 + k]? = some (.int v) := fun k hk => by
      have : k = 0 ∨ k = 1 := by omega
      rcases this with rfl | rfl
      · exact ⟨n5, rfl⟩
      · exact ⟨n6, rfl⟩
    let g : Nat → Int := fun k => ([n0, n1, n2, n3, n4, n5, n6] : List Int)[5 + k]?.getD 0
    let f : PyData → PyData := fun x => match x with
      | .int (.ofNat k) => .str (newT (g k))
      | _ => .none
    have ef : ((List.range' 0 m).map fun i => PyData.int (i : Nat)).map f = ((List.range' 0 m).map fun k => newT (g k)).map PyData.str := by
      rw [List.map_map, List.map_map]
      rfl
    refine sv_seq (sv_asgE (d := .dat (strsD ((List.range' 0 m).map fun k => newT (g k)))) (ev_callB (ds := [.dat (.list (((List.range' 0 m).map fun k => newT (g k)).map PyData.str))]) (ea1 ?_) rc_tupL) ?_)
    · rw [← ef]
      refine EvN.ev (en_map f (fun x => ([.imm (.dat (.int c)), .imm (.dat (.bool fst)), .imm (.dat (intsD [n0, n1, n2, n3, n4, n5, n6])), .imm (.dat (chD ch)), .imm (.dat (strsD ah)), .emp, .imm (.dat x)] : Env)) ?_ (by rw [List.length_map, List.length_range']; omega) (fun x hx => ew_name) fun x hx => ?_)
      · have := ei_range1 (K := K) (P := P) (Γ := ([.imm (.dat (.int c)), .imm (.dat (.bool fst)), .imm (.dat (intsD [n0, n1, n2, n3, n4, n5, n6])), .imm (.dat (chD ch)), .imm (.dat (strsD ah)), .emp, .emp] : Env)) (n := (m : Int)) (eat (D := PyData.int) (ev_lst (ea_cons ev_int (ea_cons ev_int (ea_cons ev_int (ea_cons ev_int (ea_cons ev_int (ea1 ev_int))))))) (ev_mod (i := n4) (j := 6) (ta := tOp (rIxL K) (tVar 2) (tC (.int 4))) (ev_ixL (ev_var rfl) ev_int rfl) ev_int (by decide)) hat) (by omega) (by omega)
        rw [rangeD_eq] at this
        exact this
      · obtain ⟨k, hk, rfl⟩ := List.mem_map.mp hx
        have hk := (List.mem_range'_1.mp hk).2
        obtain ⟨v, hv⟩ := ns5 k (by omega)
        have hg : g k = v := by
          show (([n0, n1, n2, n3, n4, n5, n6] : List Int)[5 + k]?).getD 0 = v
          rw [List.getElem?_map] at hv
          cases q : ([n0, n1, n2, n3, n4, n5, n6] : List Int)[5 + k]? with
          | none =>
            rw [q] at hv
            cases hv
          | some u =>
            rw [q] at hv
            cases hv
            rfl
        show EvD K P _ _ (.str (newT (g k)))
        rw [hg]
        refine ev_call (X := Int) v (ea1 (ev_ixL (ds := [n0, n1, n2, n3, n4, n5, n6].map PyData.int) (i := ((5 + k : Nat) : Int)) (ev_var rfl) (EvD.as (ev_add ev_int (ev_var rfl)) (by rw [Int.natCast_add]; rfl)) (atI_of hv))) trivial
    · refine sv_retE (d := .dat (edD ⟨ah, ch, (List.range' 0 m).map fun k => newT (g k)⟩)) (ev_ed (e := ⟨ah, ch, (List.range' 0 m).map fun k => newT (g k)⟩) (ev_var rfl) (ev_var rfl) (ev_var rfl)) ⟨_, ⟨fun t ht => ?_, hal, by dsimp only; rw [List.length_map, List.length_range']; omega⟩, rfl⟩
      unfold textsOf at ht
      rcases List.mem_append.mp ht with ht | ht
      · rcases List.mem_append.mp ht with ht | ht
        · exact hah t ht
        · exact hch t ht
      · obtain ⟨k, _, rfl⟩ := List.mem_map.mp ht
        exact newT_sh _
theorem ok__law_fate {Pr : Program} {w : World} {K : PySem.W.Frag} {mg : Str → Option Value} {base : Heap} {P : Addr} {f : Addr} {fd : FuncData} (F : L2.Fun K "_law_fate" "_law_fate" s__law_fate f fd) (T : Txt mg) (C__law_new_text : C8.Cal Pr w K mg base 1 "_law_new_text" (pm__law_new_text.sp K P) []) (C__law_draws : C8.Cal Pr w K mg base 1 "_law_draws" (pm__law_draws.sp K P) []) : FnOk Pr w K mg base CX0 2 f fd ["_law_cell_here", "_law_is_first_here"] (pm__law_fate.sp K P) := by
  have nd := sc__law_fate.nd
  refine Fun.pure F sc__law_fate (fun _ => rfl) fun cdv A outer s H E hr => ⟨t__law_fate K P, ?_, fun x hx _ _ => ev__law_fate x hx⟩
  exact (pss_cons (ps_set (i := 2) nd rfl (by first | exact Or.inl rfl | exact Or.inr rfl) (C8.pe_c C__law_draws hr (by decide) rfl (pa_cons (pv 0) (pa_cons pe_int pa_nil)))) (pss_cons (ps_set (i := 3) nd rfl (by first | exact Or.inl rfl | exact Or.inr rfl) (pe_tup (pa_cons pe_str pa_nil))) (pss_cons (ps_if (pt_cmpR op_eq (pe_op op_mod (pe_ix ix_list (pv 2) pe_int (fun _ _ => rfl)) pe_int) pe_int (nomark _)) (pss_one (ps_set (i := 3) nd rfl (by first | exact Or.inl rfl | exact Or.inr rfl) (pe_tup (pa_cons pe_str pa_nil)))) pss_nil) (pss_cons (ps_if (pt_cmpR op_eq (pe_op op_mod (pe_ix ix_list (pv 2) pe_int (fun _ _ => rfl)) pe_int) pe_int (nomark _)) (pss_one (ps_set (i := 3) nd rfl (by first | exact Or.inl rfl | exact Or.inr rfl) (pe_tup (pa_cons pe_str (pa_cons (C8.pe_c C__law_new_text hr (by decide) rfl (pa_cons (pe_ix ix_list (pv 2) pe_int (fun _ _ => rfl)) pa_nil)) pa_nil))))) pss_nil) (pss_cons (ps_set (i := 4) nd rfl (by first | exact Or.inl rfl | exact Or.inr rfl) (pe_tup pa_nil)) (pss_cons (ps_if (PW.pt (pw_and (pt_val (pv 1)) (pw_and1 (pt_cmpR op_eq (pe_op op_mod (pe_ix ix_list (pv 2) pe_int (fun _ _ => rfl)) pe_int) pe_int (nomark _))))) (pss_one (ps_set (i := 4) nd rfl (by first | exact Or.inl rfl | exact Or.inr rfl) (pe_tup (pa_cons (C8.pe_c C__law_new_text hr (by decide) rfl (pa_cons (pe_ix ix_list (pv 2) pe_int (fun _ _ => rfl)) pa_nil)) pa_nil)))) pss_nil) (pss_cons (ps_set (i := 5) nd rfl (by first | exact Or.inl rfl | exact Or.inr rfl) (pe_callTy (r := rTupOf K) call_tuple_of rfl T.tuple PyProof.Rows.boot_tuple (pa_cons (pe_lc (own := [("_law_k", 6)]) (g := (gName 6)) (tt := tYes) rfl nd (pi_range1 (by rfl) T.range (pa_cons (pe_ix ix_list (pe_lst (pa_cons pe_int (pa_cons pe_int (pa_cons pe_int (pa_cons pe_int (pa_cons pe_int (pa_cons pe_int pa_nil))))))) (pe_op op_mod (pe_ix ix_list (pv 2) pe_int (fun _ _ => rfl)) pe_int) (fun _ _ => rfl)) pa_nil)) (blkOk_by (N := N__law_fate) (sc := defScope s__law_fate) (by decide +kernel)) (fun _ _ _ _ _ => (pg_name (i := 6) nd rfl (by first | exact Or.inl rfl | exact Or.inr rfl))) (fun _ _ _ _ _ => pts_nil) (fun _ _ _ _ _ => (C8.pe_c C__law_new_text hr (by decide) rfl (pa_cons (pe_ix ix_list (pv 2) (pe_op op_add pe_int (pv 6)) (fun _ _ => rfl)) pa_nil)))) pa_nil))) (pss_one (ps_ret (pe_tup (pa_cons (pv 4) (pa_cons (pv 3) (pa_cons (pv 5) pa_nil)))))))))))))
abbrev s__law_edit : Stmt := topS 59
abbrev N__law_edit : List Str := ["_law_fate_here", "_law_indent_here", "_law_ahead", "_law_change", "_law_behind", "_law_t"]
theorem sc__law_edit : FnScope N__law_edit ["_law_fate_here", "_law_indent_here"] (defScope s__law_edit) := ⟨rfl, rfl, rfl, by decide +kernel, rfl, by decide +kernel, by decide +kernel⟩
def t__law_edit (K : PySem.W.Frag) (P : Addr) : TS :=
  (tSeq (tAsg (tVar 0) (gTup K 3 (gCons (gName 2) (gCons (gName 3) (gCons (gName 4) gNil))))) (tSeq (tIfS (tTest (tOp rEq (tOp (rIxT K) (tVar 3) (tC (.int 0))) (tC (.str "text")))) (tAsg (tTup (tCons (tC (.str "text")) (tCons (tCall (pm__law_put.sp K P) [] E0 (tCons (tVar 1) (tCons (tOp (rIxT K) (tVar 3) (tC (.int 1))) tNil))) tNil))) (gName 3)) tNext) (tRet (tTup (tCons (tCB (rTupOf K) (tCons (tLc (iTup K (tVar 2)) (gName 5) tYes (tCall (pm__law_put.sp K P) [] E0 (tCons (tVar 1) (tCons (tVar 5) tNil))) [5]) tNil)) (tCons (tVar 3) (tCons (tCB (rTupOf K) (tCons (tLc (iTup K (tVar 4)) (gName 5) tYes (tCall (pm__law_put.sp K P) [] E0 (tCons (tVar 1) (tCons (tVar 5) tNil))) [5]) tNil)) tNil)))))))
def edC (c : Ch) (i : Nat) : Ch := match c with
  | .text t => .text (shown i t)
  | c => c
def edOf (e : Ed) (i : Nat) : Ed := ⟨e.ahead.map (shown i), edC e.ch i, e.behind.map (shown i)⟩
theorem edOf_ok {e : Ed} {i : Nat} (h : FtOk e) (hi : i ≤ 20) : (∀ t ∈ textsOf (edOf e i), Sh 30 t) ∧ (edOf e i).ahead.length ≤ 1 ∧ (edOf e i).behind.length ≤ 2 := by
  refine ⟨fun t ht => ?_, by unfold edOf; dsimp only; rw [List.length_map]; exact h.ah, by unfold edOf; dsimp only; rw [List.length_map]; exact h.be⟩
  have key : ∀ t ∈ textsOf e, Sh 30 (shown i t) := fun t ht => (sh_shown (h.txt t ht)).le (by omega)
  unfold textsOf edOf at ht
  dsimp only at ht
  rcases List.mem_append.mp ht with ht | ht
  · rcases List.mem_append.mp ht with ht | ht
    · obtain ⟨u, hu, rfl⟩ := List.mem_map.mp ht
      exact key u (by unfold textsOf; simp [hu])
    · cases c : e.ch with
      | keep => rw [c] at ht; cases ht
      | drop => rw [c] at ht; cases ht
      | text u =>
        rw [c] at ht
        rcases List.mem_singleton.mp ht with rfl
        exact key u (by unfold textsOf; rw [c]; simp [Ch.texts])
  · obtain ⟨u, hu, rfl⟩ := List.mem_map.mp ht
    exact key u (by unfold textsOf; simp [hu])
def pm__law_edit : Pm := ⟨Ed × Nat, fun x => [.dat (edD x.1), .dat (.int x.2)], fun x => FtOk x.1 ∧ x.2 ≤ 20, fun x r => r = .dat (edD (edOf x.1 x.2))⟩
theorem puts_ev {K : PySem.W.Frag} {P : Addr} {Γ : Env} {j m k : Nat} {ts : List Str} {i : Nat} (hj : Γ[j]? = some (.imm (.dat (strsD ts)))) (hk : ∀ x, (Γ.set m (.imm (.dat x)))[k]? = some (.imm (.dat (.int i)))) (hm : m < Γ.length) (ht : ∀ t ∈ ts, Sh 5 t) (hi : i ≤ 20) (hl : ts.length ≤ 1000) :
    EvD K P (tCB (rTupOf K) (tCons (tLc (iTup K (tVar j)) (gName m) tYes (tCall (pm__law_put.sp K P) [] E0 (tCons (tVar k) (tCons (tVar m) tNil))) [m]) tNil)) Γ (strsD (ts.map (shown i))) := by
  let f : PyData → PyData := fun x => match x with
    | .str t => .str (shown i t)
    | _ => .none
  have e : (ts.map PyData.str).map f = (ts.map (shown i)).map PyData.str := by
    rw [List.map_map, List.map_map]
    rfl
  refine ev_callB (ds := [.dat (.list ((ts.map (shown i)).map PyData.str))]) (ea1 ?_) rc_tupL
  rw [← e]
  refine EvN.ev (en_map f (fun x => Γ.set m (.imm (.dat x))) (ei_tup (ev_var hj)) (by rw [List.length_map]; omega) (fun x hx => ew_name) fun x hx => ?_)
  obtain ⟨t, htm, rfl⟩ := List.mem_map.mp hx
  exact ev_call (X := Nat × Str) (i, t) (ea_cons (ev_var (hk _)) (ea1 (ev_var (List.getElem?_set_self hm)))) ⟨by dsimp only; omega, by have := (ht t htm).1; dsimp only; omega⟩
theorem ev__law_edit {K : PySem.W.Frag} {P : Addr} : pm__law_edit.Ok K P I0 H0 N__law_edit.length (t__law_edit K P) := fun x hx => by
  obtain ⟨e, i⟩ := x
  obtain ⟨he, hi⟩ := hx
  dsimp only at he hi
  have h1 := he.ah
  have h2 := he.be
  have a1 : ∀ t ∈ e.ahead, Sh 5 t := fun t ht => he.txt t (by unfold textsOf; simp [ht])
  have a2 : ∀ t ∈ e.behind, Sh 5 t := fun t ht => he.txt t (by unfold textsOf; simp [ht])
  refine sv_seq (sv_asgG (d := .dat (edD e)) (ev_var rfl) (eg_tup (ds := [strsD e.ahead, chD e.ch, strsD e.behind]) rfl (gs_cons (eg_name (gs_cons (eg_name (gs_cons (eg_name (gs_nil ?_)))))))))
  refine sv_cut (fun Γ' => Γ' = [.imm (.dat (edD e)), .imm (.dat (.int i)), .imm (.dat (strsD e.ahead)), .imm (.dat (chD (edC e.ch i))), .imm (.dat (strsD e.behind)), .emp]) (sv_if (et_test (ev_eqS (ev_chK (c := e.ch) (ev_var rfl)) ev_str)) (fun q => ?_) (fun q => ?_)) fun Γ' h => ?_
  · rw [kind_text] at q
    cases c : e.ch with
    | keep => rw [c] at q; cases q
    | drop => rw [c] at q; cases q
    | text t =>
      have ht : Sh 5 t := he.txt t (by unfold textsOf; rw [c]; simp [Ch.texts])
      exact sv_asgE (d := .dat (chD (.text (shown i t)))) (ev_tup (ds := [.str "text", .str (shown i t)]) (ea_cons ev_str (ea1 (ev_call (X := Nat × Str) (i, t) (ea_cons (ev_var rfl) (ea1 (ev_ch1 (t := t) (ev_var rfl)))) ⟨by dsimp only; omega, by have := ht.1; dsimp only; omega⟩)))) rfl
  · rw [kind_text] at q
    cases c : e.ch with
    | keep => exact sv_next rfl
    | drop => exact sv_next rfl
    | text t => rw [c] at q; cases q
  · subst h
    exact sv_retE (d := .dat (edD (edOf e i))) (ev_ed (e := edOf e i) (puts_ev (m := 5) rfl (fun _ => rfl) (by show 5 < 6; omega) a1 hi (by omega)) (ev_var rfl) (puts_ev (m := 5) rfl (fun _ => rfl) (by show 5 < 6; omega) a2 hi (by omega))) rfl
theorem ok__law_edit {Pr : Program} {w : World} {K : PySem.W.Frag} {mg : Str → Option Value} {base : Heap} {P : Addr} {f : Addr} {fd : FuncData} (F : L2.Fun K "_law_edit" "_law_edit" s__law_edit f fd) (T : Txt mg) (C__law_put : C8.Cal Pr w K mg base 1 "_law_put" (pm__law_put.sp K P) []) : FnOk Pr w K mg base CX0 2 f fd ["_law_fate_here", "_law_indent_here"] (pm__law_edit.sp K P) := by
  have nd := sc__law_edit.nd
  refine Fun.pure F sc__law_edit (fun _ => rfl) fun cdv A outer s H E hr => ⟨t__law_edit K P, ?_, fun x hx _ _ => ev__law_edit x hx⟩
  exact (pss_cons (ps_asg (pv 0) (pg_tup rfl (pgs_cons (pg_name (i := 2) nd rfl (by first | exact Or.inl rfl | exact Or.inr rfl)) (pgs_cons (pg_name (i := 3) nd rfl (by first | exact Or.inl rfl | exact Or.inr rfl)) (pgs_cons (pg_name (i := 4) nd rfl (by first | exact Or.inl rfl | exact Or.inr rfl)) pgs_nil))))) (pss_cons (ps_if (pt_cmpR op_eq (pe_ix ix_tup (pv 3) pe_int (fun _ _ => rfl)) pe_str (nomark _)) (pss_one (ps_set (i := 3) nd rfl (by first | exact Or.inl rfl | exact Or.inr rfl) (pe_tup (pa_cons pe_str (pa_cons (C8.pe_c C__law_put hr (by decide) rfl (pa_cons (pv 1) (pa_cons (pe_ix ix_tup (pv 3) pe_int (fun _ _ => rfl)) pa_nil))) pa_nil))))) pss_nil) (pss_one (ps_ret (pe_tup (pa_cons (pe_callTy (r := rTupOf K) call_tuple_of rfl T.tuple PyProof.Rows.boot_tuple (pa_cons (pe_lc (own := [("_law_t", 5)]) (g := (gName 5)) (tt := tYes) rfl nd (pi_tup (pv 2)) (blkOk_by (N := N__law_edit) (sc := defScope s__law_edit) (by decide +kernel)) (fun _ _ _ _ _ => (pg_name (i := 5) nd rfl (by first | exact Or.inl rfl | exact Or.inr rfl))) (fun _ _ _ _ _ => pts_nil) (fun _ _ _ _ _ => (C8.pe_c C__law_put hr (by decide) rfl (pa_cons (pv 1) (pa_cons (pv 5) pa_nil))))) pa_nil)) (pa_cons (pv 3) (pa_cons (pe_callTy (r := rTupOf K) call_tuple_of rfl T.tuple PyProof.Rows.boot_tuple (pa_cons (pe_lc (own := [("_law_t", 5)]) (g := (gName 5)) (tt := tYes) rfl nd (pi_tup (pv 4)) (blkOk_by (N := N__law_edit) (sc := defScope s__law_edit) (by decide +kernel)) (fun _ _ _ _ _ => (pg_name (i := 5) nd rfl (by first | exact Or.inl rfl | exact Or.inr rfl))) (fun _ _ _ _ _ => pts_nil) (fun _ _ _ _ _ => (C8.pe_c C__law_put hr (by decide) rfl (pa_cons (pv 1) (pa_cons (pv 5) pa_nil))))) pa_nil)) pa_nil))))))))
abbrev s__law_broken : Stmt := topS 62
abbrev N__law_broken : List Str := ["_law_edit_here", "_law_draw", "_law_indent_here", "_law_choice", "_law_ahead", "_law_change", "_law_behind"]
theorem sc__law_broken : FnScope N__law_broken ["_law_edit_here", "_law_draw", "_law_indent_here"] (defScope s__law_broken) := ⟨rfl, rfl, rfl, by decide +kernel, rfl, by decide +kernel, by decide +kernel⟩
def t__law_broken (K : PySem.W.Frag) (P : Addr) : TS :=
  (tSeq (tAsg (tVar 0) (gTup K 3 (gCons (gName 4) (gCons (gName 5) (gCons (gName 6) gNil))))) (tSeq (tAsg (tOp rModI (tVar 1) (tC (.int 8))) (gName 3)) (tSeq (tIfS (tTest (tOp rEq (tVar 3) (tC (.int 0)))) (tRet (tTup (tCons (tOp (rCatTA K) (tVar 4) (tTup (tCons (tC (.str "p")) tNil))) (tCons (tVar 5) (tCons (tVar 6) tNil))))) tNext) (tSeq (tIfS (tTest (tOp rEq (tVar 3) (tC (.int 1)))) (tRet (tTup (tCons (tVar 4) (tCons (tTup (tCons (tC (.str "text")) (tCons (tOp rCatS (tOp rMulS (tC (.str " ")) (tCB rMax2 (tCons (tC (.int 0)) (tCons (tOp rSubI (tVar 2) (tC (.int 1))) tNil)))) (tC (.str "p"))) tNil))) (tCons (tVar 6) tNil))))) tNext) (tSeq (tIfS (tTest (tOp rEq (tVar 3) (tC (.int 2)))) (tRet (tTup (tCons (tVar 4) (tCons (tVar 5) (tCons (tOp (rCatTA K) (tVar 6) (tTup (tCons (tOp rMulS (tC (.str " ")) (tVar 2)) tNil))) tNil))))) tNext) (tSeq (tIfS (tTest (tOp rEq (tVar 3) (tC (.int 3)))) (tRet (tTup (tCons (tVar 4) (tCons (tTup (tCons (tC (.str "text")) (tCons (tOp rCatS (tOp rMulS (tC (.str " ")) (tVar 2)) (tC (.str " <b>"))) tNil))) (tCons (tVar 6) tNil))))) tNext) (tSeq (tIfS (tTest (tOp rEq (tVar 3) (tC (.int 4)))) (tRet (tTup (tCons (tVar 4) (tCons (tTup (tCons (tC (.str "drop")) tNil)) (tCons (tVar 6) tNil))))) tNext) (tSeq (tIfS (tTest (tOp rEq (tVar 3) (tC (.int 5)))) (tRet (tTup (tCons (tVar 4) (tCons (tVar 5) (tCons (tOp (rCatTA K) (tTup (tCons (tOp rCatS (tOp rMulS (tC (.str " ")) (tVar 2)) (tC (.str "p"))) tNil)) (tVar 6)) tNil))))) tNext) (tSeq (tIfS (tTest (tOp rEq (tVar 3) (tC (.int 6)))) (tRet (tTup (tCons (tVar 4) (tCons (tTup (tCons (tC (.str "text")) (tCons (tOp rCatS (tOp rMulS (tC (.str " ")) (tVar 2)) (tC (.str "<a-b_c.d>"))) tNil))) (tCons (tVar 6) tNil))))) tNext) (tRet (tTup (tCons (tTup tNil) (tCons (tTup (tCons (tC (.str "keep")) tNil)) (tCons (tTup tNil) tNil))))))))))))))
def pm__law_broken : Pm := ⟨Ed × Nat × Nat, fun x => [.dat (edD x.1), .dat (.int x.2.1), .dat (.int x.2.2)], fun x => (∀ t ∈ textsOf x.1, Sh 30 t) ∧ x.1.ahead.length ≤ 1 ∧ x.1.behind.length ≤ 2 ∧ x.2.2 ≤ 20, fun x r => ∃ e, EdOk e ∧ r = .dat (edD e)⟩
theorem rc_max0 {K : PySem.W.Frag} {P : Addr} {i : Nat} : RCa K P rMax2 [.dat (.int 0), .dat (.int ((i : Int) - 1))] (.dat (.int ((i - 1 : Nat) : Int))) := fun I H vs k h Q q => by
  cases h with
  | cons h1 h2 =>
    cases h2 with
    | cons h3 h4 =>
      cases h4
      cases h1
      cases h3
      refine ⟨0, (i : Int) - 1, rfl, ?_⟩
      have e : (if (i : Int) - 1 > 0 then (i : Int) - 1 else 0) = ((i - 1 : Nat) : Int) := by split <;> omega
      rw [e]
      exact q _ I H (Wd.refl k) (Dx.int _)
theorem ev__law_broken {K : PySem.W.Frag} {P : Addr} : pm__law_broken.Ok K P I0 H0 N__law_broken.length (t__law_broken K P) := fun x hx => by
  obtain ⟨e, dr, i⟩ := x
  obtain ⟨ht, h1, h2, hi⟩ := hx
  dsimp only at ht h1 h2 hi
  have a1 : ∀ t ∈ e.ahead, Sh 30 t := fun t h => ht t (by unfold textsOf; simp [h])
  have a2 : ∀ t ∈ e.behind, Sh 30 t := fun t h => ht t (by unfold textsOf; simp [h])
  have a3 : ∀ t ∈ e.ch.texts, Sh 30 t := fun t h => ht t (by unfold textsOf; simp [h])
  have ok : ∀ e' : Ed, (∀ t ∈ e'.ahead, Sh 30 t) → (∀ t ∈ e'.ch.texts, Sh 30 t) → (∀ t ∈ e'.behind, Sh 30 t) → e'.ahead.length ≤ 2 → e'.behind.length ≤ 3 → EdOk e' := fun e' b1 b2 b3 b4 b5 => by
    refine ⟨fun t h => ?_, Nat.le_trans b4 (by decide), Nat.le_trans b5 (by decide)⟩
    unfold textsOf at h
    rcases List.mem_append.mp h with h | h
    · rcases List.mem_append.mp h with h | h
      · exact (b1 t h).et (by decide)
      · exact (b2 t h).et (by decide)
    · exact (b3 t h).et (by decide)
  have one : ∀ {u : Str}, Sh 30 u → ∀ t ∈ (Ch.text u).texts, Sh 30 t := fun h t ht => by
    rcases List.mem_singleton.mp ht with rfl
    exact h
  refine sv_seq (sv_asgG (d := .dat (edD e)) (ev_var rfl) (eg_tup (ds := [strsD e.ahead, chD e.ch, strsD e.behind]) rfl (gs_cons (eg_name (gs_cons (eg_name (gs_cons (eg_name (gs_nil ?_)))))))))
  refine sv_seq (sv_asgE (ev_mod (ev_var rfl) ev_int (by decide)) ?_)
  generalize (dr : Int) % 8 = ck
  refine sv_seq (sv_if (et_test (ev_eqI (ev_var rfl) ev_int)) (fun _ => ?_) (fun _ => sv_next ?_))
  · refine sv_retE (d := .dat (edD (Ed.mk (e.ahead ++ [("p" : Str)]) e.ch e.behind))) (ev_ed (e := (Ed.mk (e.ahead ++ [("p" : Str)]) e.ch e.behind)) ?_ (ev_var rfl) (ev_var rfl)) ⟨_, ok (Ed.mk (e.ahead ++ [("p" : Str)]) e.ch e.behind) (fun t h => ?_) a3 a2 (by simp; omega) (by dsimp only; omega), rfl⟩
    · unfold strsD
      rw [List.map_append]
      exact ev_catT (ev_var rfl) (ev_tup (ds := [.str "p"]) (ea1 ev_str)) (by rw [List.length_map]; simp; omega)
    · rcases List.mem_append.mp h with h | h
      · exact a1 t h
      · rcases List.mem_singleton.mp h with rfl
        exact sh_of (by decide +kernel)
  refine sv_seq (sv_if (et_test (ev_eqI (ev_var rfl) ev_int)) (fun _ => ?_) (fun _ => sv_next ?_))
  · refine sv_retE (d := .dat (edD (Ed.mk e.ahead (.text (spc (i - 1) ++ "p")) e.behind))) (ev_ed (e := (Ed.mk e.ahead (.text (spc (i - 1) ++ "p")) e.behind)) (ev_var rfl) (ev_tup (ds := [.str "text", .str (spc (i - 1) ++ "p")]) (ea_cons ev_str (ea1 (ev_pad (n := i - 1) (t := "p") (ev_callB (ea_cons ev_int (ea1 (ev_sub (ev_var rfl) ev_int))) rc_max0) ev_str (by omega) (by decide +kernel))))) (ev_var rfl)) ⟨_, ok (Ed.mk e.ahead (.text (spc (i - 1) ++ "p")) e.behind) a1 (one ?_) a2 (by dsimp only; omega) (by dsimp only; omega), rfl⟩
    exact (sh_pad (n := 1) (sh_of (by decide +kernel))).le (by omega)
  refine sv_seq (sv_if (et_test (ev_eqI (ev_var rfl) ev_int)) (fun _ => ?_) (fun _ => sv_next ?_))
  · refine sv_retE (d := .dat (edD (Ed.mk e.ahead e.ch (e.behind ++ [spc i])))) (ev_ed (e := (Ed.mk e.ahead e.ch (e.behind ++ [spc i]))) (ev_var rfl) (ev_var rfl) ?_) ⟨_, ok (Ed.mk e.ahead e.ch (e.behind ++ [spc i])) a1 a3 (fun t h => ?_) (by dsimp only; omega) (by simp; omega), rfl⟩
    · unfold strsD
      rw [List.map_append]
      exact ev_catT (ev_var rfl) (ev_tup (ds := [.str (spc i)]) (ea1 (ev_op ev_str (ev_var rfl) (rop_mulS (n := i) (by omega))))) (by rw [List.length_map]; simp; omega)
    · rcases List.mem_append.mp h with h | h
      · exact a2 t h
      · rcases List.mem_singleton.mp h with rfl
        exact (sh_spc i).le (by omega)
  refine sv_seq (sv_if (et_test (ev_eqI (ev_var rfl) ev_int)) (fun _ => ?_) (fun _ => sv_next ?_))
  · refine sv_retE (d := .dat (edD (Ed.mk e.ahead (.text (spc i ++ " <b>")) e.behind))) (ev_ed (e := (Ed.mk e.ahead (.text (spc i ++ " <b>")) e.behind)) (ev_var rfl) (ev_tup (ds := [.str "text", .str (spc i ++ " <b>")]) (ea_cons ev_str (ea1 (ev_pad (n := i) (t := " <b>") (ev_var rfl) ev_str (by omega) (by decide +kernel))))) (ev_var rfl)) ⟨_, ok (Ed.mk e.ahead (.text (spc i ++ " <b>")) e.behind) a1 (one ?_) a2 (by dsimp only; omega) (by dsimp only; omega), rfl⟩
    exact (sh_pad (n := 4) (sh_of (by decide +kernel))).le (by omega)
  refine sv_seq (sv_if (et_test (ev_eqI (ev_var rfl) ev_int)) (fun _ => ?_) (fun _ => sv_next ?_))
  · exact sv_retE (d := .dat (edD (Ed.mk e.ahead .drop e.behind))) (ev_ed (e := (Ed.mk e.ahead .drop e.behind)) (ev_var rfl) (ev_tup (ds := [.str "drop"]) (ea1 ev_str)) (ev_var rfl)) ⟨_, ok (Ed.mk e.ahead .drop e.behind) a1 (fun t h => by cases h) a2 (by dsimp only; omega) (by dsimp only; omega), rfl⟩
  refine sv_seq (sv_if (et_test (ev_eqI (ev_var rfl) ev_int)) (fun _ => ?_) (fun _ => sv_next ?_))
  · refine sv_retE (d := .dat (edD (Ed.mk e.ahead e.ch ([spc i ++ "p"] ++ e.behind)))) (ev_ed (e := (Ed.mk e.ahead e.ch ([spc i ++ "p"] ++ e.behind))) (ev_var rfl) (ev_var rfl) ?_) ⟨_, ok (Ed.mk e.ahead e.ch ([spc i ++ "p"] ++ e.behind)) a1 a3 (fun t h => ?_) (by dsimp only; omega) (by simp; omega), rfl⟩
    · exact ev_catT (as := [.str (spc i ++ "p")]) (bs := e.behind.map .str) (ev_tup (ds := [.str (spc i ++ "p")]) (ea1 (ev_pad (n := i) (t := "p") (ev_var rfl) ev_str (by omega) (by decide +kernel)))) (ev_var rfl) (by rw [List.length_map]; simp; omega)
    · rcases List.mem_append.mp h with h | h
      · rcases List.mem_singleton.mp h with rfl
        exact (sh_pad (n := 1) (sh_of (by decide +kernel))).le (by omega)
      · exact a2 t h
  refine sv_seq (sv_if (et_test (ev_eqI (ev_var rfl) ev_int)) (fun _ => ?_) (fun _ => sv_next ?_))
  · refine sv_retE (d := .dat (edD (Ed.mk e.ahead (.text (spc i ++ "<a-b_c.d>")) e.behind))) (ev_ed (e := (Ed.mk e.ahead (.text (spc i ++ "<a-b_c.d>")) e.behind)) (ev_var rfl) (ev_tup (ds := [.str "text", .str (spc i ++ "<a-b_c.d>")]) (ea_cons ev_str (ea1 (ev_pad (n := i) (t := "<a-b_c.d>") (ev_var rfl) ev_str (by omega) (by decide +kernel))))) (ev_var rfl)) ⟨_, ok (Ed.mk e.ahead (.text (spc i ++ "<a-b_c.d>")) e.behind) a1 (one ?_) a2 (by dsimp only; omega) (by dsimp only; omega), rfl⟩
    exact (sh_pad (n := 9) (sh_of (by decide +kernel))).le (by omega)
  · exact sv_retE (d := .dat (edD (Ed.mk [] .keep []))) (ev_ed (e := (Ed.mk [] .keep [])) ev_none (ev_tup (ds := [.str "keep"]) (ea1 ev_str)) ev_none) ⟨_, ok (Ed.mk [] .keep []) (fun t h => by cases h) (fun t h => by cases h) (fun t h => by cases h) (by decide) (by decide), rfl⟩
theorem ok__law_broken {Pr : Program} {w : World} {K : PySem.W.Frag} {mg : Str → Option Value} {base : Heap} {P : Addr} {f : Addr} {fd : FuncData} (F : L2.Fun K "_law_broken" "_law_broken" s__law_broken f fd) (T : Txt mg) : FnOk Pr w K mg base CX0 1 f fd ["_law_edit_here", "_law_draw", "_law_indent_here"] (pm__law_broken.sp K P) := by
  have nd := sc__law_broken.nd
  refine Fun.pure F sc__law_broken (fun _ => rfl) fun cdv A outer s H E hr => ⟨t__law_broken K P, ?_, fun x hx _ _ => ev__law_broken x hx⟩
  exact (pss_cons (ps_asg (pv 0) (pg_tup rfl (pgs_cons (pg_name (i := 4) nd rfl (by first | exact Or.inl rfl | exact Or.inr rfl)) (pgs_cons (pg_name (i := 5) nd rfl (by first | exact Or.inl rfl | exact Or.inr rfl)) (pgs_cons (pg_name (i := 6) nd rfl (by first | exact Or.inl rfl | exact Or.inr rfl)) pgs_nil))))) (pss_cons (ps_set (i := 3) nd rfl (by first | exact Or.inl rfl | exact Or.inr rfl) (pe_op op_mod (pv 1) pe_int)) (pss_cons (ps_if (pt_cmpR op_eq (pv 3) pe_int (nomark _)) (pss_one (ps_ret (pe_tup (pa_cons (pe_op op_catTA (pv 4) (pe_tup (pa_cons pe_str pa_nil))) (pa_cons (pv 5) (pa_cons (pv 6) pa_nil)))))) pss_nil) (pss_cons (ps_if (pt_cmpR op_eq (pv 3) pe_int (nomark _)) (pss_one (ps_ret (pe_tup (pa_cons (pv 4) (pa_cons (pe_tup (pa_cons pe_str (pa_cons (pe_op op_add_str (pe_op op_mulS pe_str (pe_callB (r := rMax2) (call_max2 rfl) rfl T.max PyProof.Rows.boot_max (pa_cons pe_int (pa_cons (pe_op op_sub (pv 2) pe_int) pa_nil)))) pe_str) pa_nil))) (pa_cons (pv 6) pa_nil)))))) pss_nil) (pss_cons (ps_if (pt_cmpR op_eq (pv 3) pe_int (nomark _)) (pss_one (ps_ret (pe_tup (pa_cons (pv 4) (pa_cons (pv 5) (pa_cons (pe_op op_catTA (pv 6) (pe_tup (pa_cons (pe_op op_mulS pe_str (pv 2)) pa_nil))) pa_nil)))))) pss_nil) (pss_cons (ps_if (pt_cmpR op_eq (pv 3) pe_int (nomark _)) (pss_one (ps_ret (pe_tup (pa_cons (pv 4) (pa_cons (pe_tup (pa_cons pe_str (pa_cons (pe_op op_add_str (pe_op op_mulS pe_str (pv 2)) pe_str) pa_nil))) (pa_cons (pv 6) pa_nil)))))) pss_nil) (pss_cons (ps_if (pt_cmpR op_eq (pv 3) pe_int (nomark _)) (pss_one (ps_ret (pe_tup (pa_cons (pv 4) (pa_cons (pe_tup (pa_cons pe_str pa_nil)) (pa_cons (pv 6) pa_nil)))))) pss_nil) (pss_cons (ps_if (pt_cmpR op_eq (pv 3) pe_int (nomark _)) (pss_one (ps_ret (pe_tup (pa_cons (pv 4) (pa_cons (pv 5) (pa_cons (pe_op op_catTA (pe_tup (pa_cons (pe_op op_add_str (pe_op op_mulS pe_str (pv 2)) pe_str) pa_nil)) (pv 6)) pa_nil)))))) pss_nil) (pss_cons (ps_if (pt_cmpR op_eq (pv 3) pe_int (nomark _)) (pss_one (ps_ret (pe_tup (pa_cons (pv 4) (pa_cons (pe_tup (pa_cons pe_str (pa_cons (pe_op op_add_str (pe_op op_mulS pe_str (pv 2)) pe_str) pa_nil))) (pa_cons (pv 6) pa_nil)))))) pss_nil) (pss_one (ps_ret (pe_tup (pa_cons (pe_tup pa_nil) (pa_cons (pe_tup (pa_cons pe_str pa_nil)) (pa_cons (pe_tup pa_nil) pa_nil)))))))))))))))
end Wf
/-! The law's walk. -/
namespace Wf
open PySem L2
section
variable {K : PySem.W.Frag} {P aK : Addr} {Γ : Env} {ta tb tc te : TE}
theorem rop_notN {a : PyData} {b : Bool} (h : b = false ↔ a = .none) : ROp K P rNotN a .none (.bool b) := fun I H x y k hx hy Q q => by
  cases hy
  refine ⟨rfl, ?_⟩
  have e : (!decide (x = V.non)) = b := by
    cases hx with
    | non =>
      rw [h.mpr rfl]
      rfl
    | _ =>
      cases c : b with
      | false =>
        have := h.mp c
        cases this
      | true => rfl
  rw [e]
  exact q _ I H (Wd.refl k) (.bl _)
theorem DxA.drop {I : Hp} {vs : List V} {ds : List PyData} (h : DxA K I vs ds) (n : Nat) : DxA K I (vs.drop n) (ds.drop n) := by
  induction ds generalizing vs n with
  | nil =>
    cases h
    rw [List.drop_nil, List.drop_nil]
    exact .nil
  | cons d ds ih =>
    cases h with
    | cons h1 h2 =>
      cases n with
      | zero => exact .cons h1 h2
      | succ n => exact ih h2 n
theorem dxa_strs' {I : Hp} : ∀ ns : List Str, DxA K I (ns.map V.str) (ns.map PyData.str)
  | [] => .nil
  | n :: ns => .cons (.str _) (dxa_strs' ns)
/-- xs.index(x) -/
theorem eo_index {xs : List Str} {x : Str} (ha : EvD K P ta Γ (.list (xs.map .str))) (hb : EvD K P tb Γ (.str x)) (h : x ∈ xs) : ∃ j : Nat, EvO K P (tPart (tBM K "list" (rIndex K) ta (tCons tb tNil))) Γ (some (j : Int)) := by
  obtain ⟨j, h1, h2⟩ := first_at xs x h
  refine ⟨j, eo_some fun I H σ E Q q => ?_⟩
  refine ha I H σ E _ fun v d I1 H1 e w1 r1 => ?_
  subst e
  cases r1 with
  | @lst a vs _ g1 g2 =>
    refine ⟨.inl ⟨rfl, vs, SqL.of (w1.ok.sub _ _ g1)⟩, ?_⟩
    refine hb I1 H1 σ (E.mono w1) _ fun v d I2 H2 e w2 r2 => ?_
    subst e
    cases r2
    have ev := dxa_strs g2
    subst ev
    refine ⟨a, xs.map V.str, .str x, j, .str x, rfl, rfl, SqL.of (w2.ok.sub _ _ (w2.ii _ _ g1)), rfl, flat_str, by rw [List.getElem?_map, h1]; rfl, ?_, fun m z hm hz => ?_, q _ _ I2 H2 rfl (w1.trans w2) (Dx.int _)⟩
    · show (x == x) = true
      simp
    · rw [List.getElem?_map] at hz
      cases c : xs[m]? with
      | none =>
        rw [c] at hz
        cases hz
      | some y =>
        rw [c] at hz
        cases hz
        show (y == x) = false
        have := h2 m hm y c
        simpa using this
/-- tuple(xs[j:]) is some tuple -/
theorem ev_tupTail {xs : List PyData} {j : Nat} {tl : TO} (ha : EvD K P ta Γ (.list xs)) (hl : EvO K P tl Γ (some (j : Int))) : ∃ ds, EvD K P (tCB (rTupOf K) (tCons (tSl (rSlL K) ta tl tNoPart) tNil)) Γ (.tuple ds) := by
  refine ⟨(xs.drop (HT.sIx xs.length 0 (some (j : Int)))).take (xs.length - HT.sIx xs.length 0 (some (j : Int))), ?_⟩
  refine ev_callB (ds := [.dat (.list ((xs.drop (HT.sIx xs.length 0 (some (j : Int)))).take (xs.length - HT.sIx xs.length 0 (some (j : Int)))))]) (ea1 ?_) rc_tupL
  intro I H σ E Q q
  refine ha I H σ E _ fun v d I1 H1 e w1 r1 => ?_
  subst e
  refine hl I1 H1 σ (E.mono w1) _ fun I2 H2 w2 => ?_
  show rSlL K v _ none H2 Q
  cases r1 with
  | @lst a vs _ g1 g2 =>
    refine ⟨a, vs, rfl, SqL.of (w2.ok.sub _ _ (w2.ii _ _ g1)), fun p hp => ?_⟩
    have w3 := (w1.trans w2).ok.new hp (.lst (cutV vs (some (j : Int)) none))
    have hlen := g2.len
    have r : DxA K I1 (cutV vs (some (j : Int)) none) ((xs.drop (HT.sIx xs.length 0 (some (j : Int)))).take (xs.length - HT.sIx xs.length 0 (some (j : Int)))) := by
      unfold cutV
      rw [HT.sIx_none, hlen]
      exact (g2.drop _).take _
    exact q _ _ _ _ rfl ((w1.trans w2).trans w3) (Dx.lst upd_same (r.mono (w2.ii.trans w3.ii)))
end
def isN : PyData → Bool
  | .none => true
  | _ => false
theorem isN_iff (v : PyData) : (!isN v) = false ↔ v = .none := by cases v <;> simp [isN]
structure WkX where
  d : List Ln
  es : List (Key × PyData)
  name : Str
  path : List Str
  order : List Str
structure WkPre (n : Nat) (x : WkX) : Prop where
  gd : GD x.d 300
  h5 : H5 x.d
  tbl : Tbl x.d x.es
  has : hasHead x.d x.name = true
  len : x.path.length + n = 6
  nd : x.path.Nodup
  hd : ∀ p ∈ x.path, hasHead x.d p = true
  self : x.name ∈ x.path
  ord : ∀ m ∈ x.order, m ∈ x.path ∨ Done x.d m
  size : x.order.length + unk x.d x.order ≤ 301
def wkPost (x : WkX) (r : DD) (c : Cell) : Prop := ∃ v order', r = .dat v ∧ c = .inl (order'.map PyData.str) ∧ order'.length + unk x.d order' ≤ 301 ∧ (v = .none → Done x.d x.name ∧ ∀ m ∈ order', m ∈ x.path ∨ Done x.d m)
def sp__law_walk (K : PySem.W.Frag) (P : Addr) (n : Nat) : Sp := spM K P (fun x : WkX => [.dat (docD x.d), .dic x.es, .dat (.str x.name), .dat (.list (x.path.map .str))]) (fun x => .inl (x.order.map .str)) (WkPre n) wkPost
theorem no__law_walk (x : WkX) (h : WkPre 0 x) : False := by
  have h1 := path5 h.h5 h.nd h.hd
  have h2 := h.len
  omega
abbrev s__law_walk : Stmt := topS 53
abbrev N__law_walk : List Str := ["_law_document_here", "_law_table_here", "_law_name", "_law_path", "_law_order", "_law_at", "_law_other", "_law_found"]
theorem sc__law_walk : FnScope N__law_walk ["_law_document_here", "_law_table_here", "_law_name", "_law_path", "_law_order"] (defScope s__law_walk) := ⟨rfl, rfl, rfl, by decide +kernel, rfl, by decide +kernel, by decide +kernel⟩
def t__law_walk (K : PySem.W.Frag) (P : Addr) (n : Nat) : TS :=
  (tSeq (tFor (iList K (tDGet (tVar 1) (tVar 2))) (gName 5) (tSeq (tIfS (tTest (tOp rNe (tOp (rIxT K) (tOp (rIxT K) (tVar 0) (tVar 5)) (tC (.int 0))) (tC (.str "use")))) tCont tNext) (tSeq (tAsg (tOp (rIxT K) (tOp (rIxT K) (tVar 0) (tVar 5)) (tC (.int 2))) (gName 6)) (tSeq (tIfS (tB (tDNotIn (tVar 6) (tVar 1))) (tRet (tTup (tCons (tC (.str "missing")) (tCons (tVar 5) (tCons (tVar 6) tNil))))) tNext) (tSeq (tIfS (tTest (tOp (rIn K false) (tVar 6) (tVar 3))) (tRet (tTup (tCons (tC (.str "ring")) (tCons (tCB (rTupOf K) (tCons (tSl (rSlL K) (tVar 3) (tPart (tBM K "list" (rIndex K) (tVar 3) (tCons (tVar 6) tNil))) tNoPart) tNil)) tNil)))) tNext) (tIfS (tTest (tOp (rIn K true) (tVar 6) (tVar 4))) (tSeq (tDrop (tBM K "list" rAppend (tVar 4) (tCons (tVar 6) tNil))) (tSeq (tAsg (tCall (sp__law_walk K P n) [] E0 (tCons (tVar 0) (tCons (tVar 1) (tCons (tVar 6) (tCons (tOp rCat (tVar 3) (tLst (tCons (tVar 6) tNil))) (tCons (tVar 4) tNil)))))) (gName 7)) (tIfS (tTest (tOp rNotN (tVar 7) (tC .non))) (tRet (tVar 7)) tNext))) tNext)))))) (tRet (tC .non)))
abbrev wkE (x : WkX) (p : Addr) (order : List Str) (s5 s6 s7 : Slot) : Env := [.imm (.dat (docD x.d)), .imm (.dic x.es), .imm (.dat (.str x.name)), .imm (.dat (.list (x.path.map .str))), .own p (order.map .str), s5, s6, s7]
theorem ev__law_walk {K : PySem.W.Frag} {P : Addr} (n : Nat) (x : WkX) (p : Addr) (h : WkPre (n + 1) x) : EvS K P I0 H0 (t__law_walk K P n) (startM N__law_walk.length [.dat (docD x.d), .dic x.es, .dat (.str x.name), .dat (.list (x.path.map .str))] p (.inl (x.order.map .str)))
    (fun Γ' => ∃ c', Γ'[4]? = some (cSlot p c') ∧ wkPost x (.dat .none) c') (fun Γ' r => ∃ c', Γ'[4]? = some (cSlot p c') ∧ wkPost x r c') (fun _ => False) (fun _ => False) := by
  have hdl := h.gd.len
  have hpl := path5 h.h5 h.nd h.hd
  have bad : ∀ (order : List Str) (v : PyData) (s5 s6 s7 : Slot), v ≠ .none → order.length + unk x.d order ≤ 301 → ∃ c', (wkE x p order s5 s6 s7)[4]? = some (cSlot p c') ∧ wkPost x (.dat v) c' := fun order v s5 s6 s7 hv hz => ⟨.inl (order.map .str), rfl, v, order, rfl, rfl, hz, fun z => (hv z).elim⟩
  refine sv_seq (sv_for (ds := natsL (lns x.d x.name)) (fun rest Γ' => ∃ (done todo : List Nat) (order : List Str) (s5 s6 s7 : Slot), rest = natsL todo ∧ lns x.d x.name = done ++ todo ∧ (∀ a ∈ done, ∀ i o, x.d[a]? = some (.use i o) → Done x.d o) ∧ (∀ m ∈ order, m ∈ x.path ∨ Done x.d m) ∧ order.length + unk x.d order ≤ 301 ∧ Γ' = wkE x p order s5 s6 s7)
    (ei_list (ev_tbl h.tbl (ev_var rfl) (ev_var rfl) h.has)) ⟨[], lns x.d x.name, x.order, _, _, _, rfl, rfl, (fun a ha => by cases ha), h.ord, h.size, rfl⟩ (fun y rest Γ' hI => ?_) (fun Γ' hI => ?_))
  · obtain ⟨done, todo, order, s5, s6, s7, e, hl, hdone, hord, hsz, rfl⟩ := hI
    cases todo with
    | nil => cases e
    | cons a todo =>
      cases e
      have ha : a ∈ lns x.d x.name := by rw [hl]; simp
      obtain ⟨l, hget, _, hline⟩ := mem_lns ha
      have hl' : lns x.d x.name = (done ++ [a]) ++ todo := by rw [hl]; simp
      refine eg_name (sv_seq (sv_if (et_test (ev_neS (ev_kind (l := l) (ev_docAt (ev_var rfl) (ev_var rfl) hget)) ev_str)) (fun q => ?_) (fun q => sv_next ?_)))
      · rw [kind_use] at q
        refine sv_cont ⟨done ++ [a], todo, order, _, _, _, rfl, hl', fun b hb i o hu => ?_, hord, hsz, rfl⟩
        rcases List.mem_append.mp hb with hb | hb
        · exact hdone b hb i o hu
        · rcases List.mem_singleton.mp hb with rfl
          rw [hget] at hu
          cases hu
          cases q
      rw [kind_use] at q
      cases l with
      | head m => cases q
      | code m => cases q
      | prose m => cases q
      | use i o =>
        have fin : ∀ order', Done x.d o → (∀ m ∈ order', m ∈ x.path ∨ Done x.d m) → order'.length + unk x.d order' ≤ 301 → ∀ s5 s6 s7, ∃ (done_1 todo_1 : List Nat) (order : List Str) (s5' s6' s7' : Slot), natsL todo = natsL todo_1 ∧ lns x.d x.name = done_1 ++ todo_1 ∧ (∀ a ∈ done_1, ∀ i o, x.d[a]? = some (.use i o) → Done x.d o) ∧ (∀ m ∈ order, m ∈ x.path ∨ Done x.d m) ∧ order.length + unk x.d order ≤ 301 ∧ wkE x p order' s5 s6 s7 = wkE x p order s5' s6' s7' := fun order' hdo h1 h2 s5 s6 s7 =>
          ⟨done ++ [a], todo, order', s5, s6, s7, rfl, hl', fun b hb i' o' hu => by
            rcases List.mem_append.mp hb with hb | hb
            · exact hdone b hb i' o' hu
            · rcases List.mem_singleton.mp hb with rfl
              rw [hget] at hu
              cases hu
              exact hdo, h1, h2, rfl⟩
        refine sv_seq (sv_asgE (ev_use2 (ev_docAt (ev_var rfl) (ev_var rfl) hget)) ?_)
        refine sv_seq (sv_if (et_notin h.tbl (ev_var rfl) (ev_var rfl)) (fun q3 => ?_) (fun q3 => sv_next ?_))
        · exact sv_retE (d := .dat (.tuple [.str "missing", .int (a : Nat), .str o])) (ev_tup (ds := [.str "missing", .int (a : Nat), .str o]) (ea_cons ev_str (ea_cons (ev_var rfl) (ea1 (ev_var rfl))))) (bad order _ _ _ _ (fun z => by cases z) hsz)
        have hho : hasHead x.d o = true := by simpa using q3
        refine sv_seq (sv_if (et_test (ev_op (ev_var rfl) (ev_var rfl) (rop_inS (neg := false) (n := o) (ns := x.path)))) (fun q4 => ?_) (fun q4 => sv_next ?_))
        · obtain ⟨j, hj⟩ := eo_index (K := K) (P := P) (Γ := wkE x p order (.imm (.dat (.int (a : Nat)))) (.imm (.dat (.str o))) s7) (ta := tVar 3) (tb := tVar 6) (xs := x.path) (x := o) (ev_var rfl) (ev_var rfl) (of_decide_eq_true q4)
          obtain ⟨ds, hds⟩ := ev_tupTail (ta := tVar 3) (xs := x.path.map .str) (ev_var rfl) hj
          exact sv_retE (d := .dat (.tuple [.str "ring", .tuple ds])) (ev_tup (ds := [.str "ring", .tuple ds]) (ea_cons ev_str (ea1 hds))) (bad order _ _ _ _ (fun z => by cases z) hsz)
        have hnp : o ∉ x.path := of_decide_eq_false q4
        refine sv_if (et_test (ev_inOwn (neg := true) (n := o) (ns := order) (ev_var rfl) rfl)) (fun q5 => ?_) (fun q5 => sv_next ?_)
        · have hno : o ∉ order := of_decide_eq_false (by simpa using q5)
          have hun := unk_snoc hho hno
          have em : order.map PyData.str ++ [.str o] = (order ++ [o]).map PyData.str := by rw [List.map_append]; rfl
          refine sv_seq (sv_append (i := 4) (d := .str o) rfl (ev_var rfl) (by rw [List.length_map]; omega) ?_)
          rw [em]
          let y : WkX := ⟨x.d, x.es, o, x.path ++ [o], order ++ [o]⟩
          have hy : WkPre n y := by
            refine ⟨h.gd, h.h5, h.tbl, hho, ?_, ?_, fun q hq => ?_, List.mem_append_right _ List.mem_cons_self, fun m hm => ?_, ?_⟩
            · have := h.len
              show (x.path ++ [o]).length + n = 6
              rw [List.length_append, List.length_singleton]
              omega
            · refine List.nodup_append.mpr ⟨h.nd, by simp, fun u hu v hv => ?_⟩
              rcases List.mem_singleton.mp hv with rfl
              intro e
              exact hnp (e ▸ hu)
            · rcases List.mem_append.mp hq with hq | hq
              · exact h.hd q hq
              · rcases List.mem_singleton.mp hq with rfl
                exact hho
            · rcases List.mem_append.mp hm with hm | hm
              · exact (hord m hm).imp (List.mem_append_left _) id
              · rcases List.mem_singleton.mp hm with rfl
                exact .inl (List.mem_append_right _ List.mem_cons_self)
            · show (order ++ [o]).length + unk x.d (order ++ [o]) ≤ 301
              rw [List.length_append, List.length_singleton]
              omega
          refine sv_seq (sv_asgM (i := 4) (p := p) (args := fun x : WkX => [.dat (docD x.d), .dic x.es, .dat (.str x.name), .dat (.list (x.path.map .str))]) (ini := fun x => .inl (x.order.map .str)) y rfl (el_cons (ev_var rfl) (el_cons (ev_var rfl) (el_cons (ev_var rfl) (el_cons (d := .dat (.list ((x.path ++ [o]).map .str))) (EvD.as (ev_op (ev_var rfl) (ev_lst (ds := [.str o]) (ea1 (ev_var rfl))) (rop_catL (as := x.path.map .str) (bs := [.str o]) (by rw [List.length_map, List.length_singleton]; omega))) (by rw [List.map_append]; rfl)) (el_last (c := .inl ((order ++ [o]).map .str)) rfl))))) hy fun r c' hpost => ?_)
          obtain ⟨v, order', rfl, rfl, hz', hnone⟩ := hpost
          have hz2 : order'.length + unk x.d order' ≤ 301 := hz'
          refine sv_if (k := !isN v) (et_test (ev_op (ev_var rfl) ev_non (rop_notN (isN_iff v)))) (fun q6 => ?_) (fun q6 => ?_)
          · refine sv_retE (d := .dat v) (ev_var rfl) (bad order' v _ _ _ (fun z => ?_) hz2)
            rw [z] at q6
            cases q6
          · have hv : v = .none := (isN_iff v).mp q6
            obtain ⟨g1, g2⟩ := hnone hv
            refine sv_next (fin order' g1 (fun m hm => ?_) hz2 _ _ _)
            rcases g2 m hm with g | g
            · rcases List.mem_append.mp g with g | g
              · exact .inl g
              · rcases List.mem_singleton.mp g with rfl
                exact .inr g1
            · exact .inr g
        · have hoo : o ∈ order := of_decide_eq_true (by simpa using q5)
          refine fin order ?_ hord hsz _ _ _
          rcases hord o hoo with g | g
          · exact (hnp g).elim
          · exact g
  · obtain ⟨done, todo, order, s5, s6, s7, e, hl, hdone, hord, hsz, rfl⟩ := hI
    cases todo with
    | cons a b => cases e
    | nil =>
      rw [List.append_nil] at hl
      refine sv_retE ev_non ⟨.inl (order.map .str), rfl, .none, order, rfl, rfl, hsz, fun _ => ⟨?_, hord⟩⟩
      exact done_of h.has fun a ha i o hu => hdone a (by rw [← hl]; exact ha) i o hu
theorem ok__law_walk {Pr : Program} {w : World} {K : PySem.W.Frag} {mg : Str → Option Value} {base : Heap} {P : Addr} {f : Addr} {fd : FuncData} (F : L2.Fun K "_law_walk" "_law_walk" s__law_walk f fd) (T : Txt mg) (n : Nat) (C__law_walk : C8.Cal Pr w K mg base (n + 1) "_law_walk" (sp__law_walk K P n) []) : FnOk Pr w K mg base CX0 (n + 2) f fd ["_law_document_here", "_law_table_here", "_law_name", "_law_path", "_law_order"] (sp__law_walk K P (n + 1)) := by
  have nd := sc__law_walk.nd
  refine Fun.mut F sc__law_walk (fun _ => rfl) (by decide) fun cdv A outer s H E hr => ⟨t__law_walk K P n, ?_, fun x p hx _ _ => ev__law_walk n x p hx⟩
  exact (pss_cons (ps_for PassesOwn.never rfl (pi_list (pe_dget (hu_of hr) (pv 1) (pv 2) (fun _ _ => rfl))) (pg_name (i := 5) nd rfl (by first | exact Or.inl rfl | exact Or.inr rfl)) (pss_cons (ps_if (pt_cmpR op_ne (pe_ix ix_tup (pe_ix ix_tup (pv 0) (pv 5) (fun _ _ => rfl)) pe_int (fun _ _ => rfl)) pe_str (nomark _)) (pss_one ps_continue) pss_nil) (pss_cons (ps_set (i := 6) nd rfl (by first | exact Or.inl rfl | exact Or.inr rfl) (pe_ix ix_tup (pe_ix ix_tup (pv 0) (pv 5) (fun _ _ => rfl)) pe_int (fun _ _ => rfl))) (pss_cons (ps_if (pt_cmp (pc_dnotin (hu_of hr) (pv 6) (pv 1))) (pss_one (ps_ret (pe_tup (pa_cons pe_str (pa_cons (pv 5) (pa_cons (pv 6) pa_nil)))))) pss_nil) (pss_cons (ps_if (pt_cmpR op_in_seq (pv 6) (pv 3) (by rfl)) (pss_one (ps_ret (pe_tup (pa_cons pe_str (pa_cons (pe_callTy (r := rTupOf K) call_tuple_of rfl T.tuple PyProof.Rows.boot_tuple (pa_cons (pe_slice sl_list (pv 3) (po_some (pe_bm PySem.F.plainAttrs_list PySem.F.slot_list_index PySem.F.type_list_index (r := rIndex K) mt_index (pv 3) (pa_cons (pv 6) pa_nil))) po_none) pa_nil)) pa_nil))))) pss_nil) (pss_one (ps_if (pt_cmpR op_notIn_seq (pv 6) (pv 4) (by rfl)) (pss_cons (ps_expr (pe_bm PySem.F.plainAttrs_list PySem.F.slot_list_append PySem.F.type_list_append mt_append (pv 4) (pa_cons (pv 6) pa_nil))) (pss_cons (ps_set (i := 7) nd rfl (by first | exact Or.inl rfl | exact Or.inr rfl) (C8.pe_c C__law_walk hr (Nat.le_refl _) rfl (pa_cons (pv 0) (pa_cons (pv 1) (pa_cons (pv 6) (pa_cons (pe_op op_cat (pv 3) (pe_lst (pa_cons (pv 6) pa_nil))) (pa_cons (pv 4) pa_nil))))))) (pss_one (ps_if (pt_cmpR op_notN (pv 7) pe_non (nomark _)) (pss_one (ps_ret (pv 7))) pss_nil)))) pss_nil))))))) (pss_one (ps_ret pe_non)))
theorem ok__law_walk0 {Pr : Program} {w : World} {K : PySem.W.Frag} {mg : Str → Option Value} {base : Heap} {P : Addr} {f : Addr} {fd : FuncData} (F : L2.Fun K "_law_walk" "_law_walk" s__law_walk f fd) : FnOk Pr w K mg base CX0 1 f fd ["_law_document_here", "_law_table_here", "_law_name", "_law_path", "_law_order"] (sp__law_walk K P 0) :=
  Fun.mut F sc__law_walk (fun _ => rfl) (by decide) fun cdv A outer s H E hr => ⟨tNever, pss_never, fun x p hx _ _ => (no__law_walk x hx).elim⟩
end Wf
/-! The law's lengths, its roots. -/
namespace Wf
open PySem L2
section
variable {K : PySem.W.Frag} {P aK : Addr} {Γ : Env} {ta tb tc te : TE} {N : Env → Prop} {R : Env → DD → Prop} {B C : Env → Prop} {t u : TS}
/-- a test that is told but in part -/
def EvTR (K : PySem.W.Frag) (P : Addr) (tt : TT) (Γ : Env) (D : Bool → Prop) : Prop := ∀ (I H : Hp) (σ : L2.St), EnvOk K P I H σ Γ → ∀ Q : Bool → Hp → Prop, (∀ b I' H', D b → Wd P I H I' H' → Q b H') → tt σ H Q
theorem EvT.r {tt : TT} {k : Bool} (h : EvT K P tt Γ k) : EvTR K P tt Γ (· = k) := fun I H σ E Q q => h I H σ E Q fun I' H' w => q k I' H' rfl w
theorem sv_ifR {c : TT} {D : Bool → Prop} (h : EvTR K P c Γ D) (h1 : D true → EvS K P I0 H0 t Γ N R B C) (h2 : D false → EvS K P I0 H0 u Γ N R B C) : EvS K P I0 H0 (tIfS c t u) Γ N R B C := fun I H σ D' E kn kr hb hc => by
  refine h I H σ E.env _ fun k I1 H1 hk w => ?_
  cases k with
  | true =>
    show t D' σ H1
    exact h1 hk I1 H1 σ D' (E.mono w) (fun I2 H2 σ2 Γ2 q2 s2 => kn I2 H2 σ2 Γ2 q2 (w.ii.trans s2)) kr (fun I2 H2 σ2 Γ2 q2 s2 => hb I2 H2 σ2 Γ2 q2 (w.ii.trans s2)) (fun I2 H2 σ2 Γ2 q2 s2 => hc I2 H2 σ2 Γ2 q2 (w.ii.trans s2))
  | false =>
    show u D' σ H1
    exact h2 hk I1 H1 σ D' (E.mono w) (fun I2 H2 σ2 Γ2 q2 s2 => kn I2 H2 σ2 Γ2 q2 (w.ii.trans s2)) kr (fun I2 H2 σ2 Γ2 q2 s2 => hb I2 H2 σ2 Γ2 q2 (w.ii.trans s2)) (fun I2 H2 σ2 Γ2 q2 s2 => hc I2 H2 σ2 Γ2 q2 (w.ii.trans s2))
theorem etr_B {D : DD → Prop} {Q : Bool → Prop} (h : Ev K P te Γ D) (hD : ∀ d, D d → ∃ b, d = .dat (.bool b) ∧ Q b) : EvTR K P (tB te) Γ Q := fun I H σ E Q' q => h I H σ E _ fun v d I' H' e w r => by
  obtain ⟨b, rfl, hb⟩ := hD d e
  cases r
  exact ⟨b, rfl, q b I' H' hb w⟩
theorem etr_test {D : DD → Prop} {Q : Bool → Prop} (h : Ev K P te Γ D) (hD : ∀ d, D d → ∃ b, d = .dat (.bool b) ∧ Q b) : EvTR K P (tTest te) Γ Q := fun I H σ E Q' q => h I H σ E _ fun v d I' H' e w r => by
  obtain ⟨b, rfl, hb⟩ := hD d e
  cases r
  exact ⟨b, rfl, q b I' H' hb w⟩
theorem etr_or {t u : TT} {D1 D2 D : Bool → Prop} (h1 : EvTR K P t Γ D1) (h2 : D1 false → EvTR K P u Γ D2) (ht : D1 true → D true) (hf : ∀ b, D2 b → D b) : EvTR K P (tOr t u) Γ D := fun I H σ E Q q => h1 I H σ E _ fun k I1 H1 hk w1 => by
  cases k with
  | true =>
    show Q true H1
    exact q true I1 H1 (ht hk) w1
  | false =>
    show u σ H1 Q
    exact h2 hk I1 H1 σ (E.mono w1) Q fun b I2 H2 hb w2 => q b I2 H2 (hf b hb) (w1.trans w2)
theorem etr_and {t u : TT} {D1 D2 D : Bool → Prop} (h1 : EvTR K P t Γ D1) (h2 : D1 true → EvTR K P u Γ D2) (hf : D1 false → D false) (ht : ∀ b, D1 true → D2 b → D b) : EvTR K P (tAnd t u) Γ D := fun I H σ E Q q => h1 I H σ E _ fun k I1 H1 hk w1 => by
  cases k with
  | true =>
    show u σ H1 Q
    exact h2 hk I1 H1 σ (E.mono w1) Q fun b I2 H2 hb w2 => q b I2 H2 (ht b hk hb) (w1.trans w2)
  | false =>
    show Q false H1
    exact q false I1 H1 (hf hk) w1
end
structure LnX where
  d : List Ln
  es : List (Key × PyData)
  name : Str
  known : List (Key × PyData)
def KnL (d : List Ln) (k : List (Key × PyData)) : Prop := ∀ m v, valD k (.inr m) = some v → v = .int (lenN d 5 m)
structure LnPre (n : Nat) (x : LnX) : Prop where
  gd : GD x.d 300
  tbl : Tbl x.d x.es
  ok : OkD x.d n x.name
  le : n ≤ 5
  kn : KnL x.d x.known
  size : x.known.length + unkD x.d x.known ≤ 300
def lnPost (x : LnX) (r : DD) (c : Cell) : Prop := ∃ k', r = .dat (.int (lenN x.d 5 x.name)) ∧ c = .inr k' ∧ KnL x.d k' ∧ k'.length + unkD x.d k' ≤ 300
def sp__law_length (K : PySem.W.Frag) (P : Addr) (n : Nat) : Sp := spM K P (fun x : LnX => [.dat (docD x.d), .dic x.es, .dat (.str x.name)]) (fun x => .inr x.known) (LnPre n) lnPost
theorem no__law_length (x : LnX) (h : LnPre 0 x) : False := h.ok
theorem KnL.put {d : List Ln} {k : List (Key × PyData)} (h : KnL d k) (n : Str) : KnL d (putD k (.inr n) (.int (lenN d 5 n))) := fun m v e => by
  rw [valD_put] at e
  by_cases c : (Sum.inr m : Key) = Sum.inr n
  · rw [if_pos c] at e
    cases e
    rw [Sum.inr.inj c]
  · rw [if_neg c] at e
    exact h m v e
abbrev s__law_length : Stmt := topS 54
abbrev N__law_length : List Str := ["_law_document_here", "_law_table_here", "_law_name", "_law_known", "_law_total", "_law_at"]
theorem sc__law_length : FnScope N__law_length ["_law_document_here", "_law_table_here", "_law_name", "_law_known"] (defScope s__law_length) := ⟨rfl, rfl, rfl, by decide +kernel, rfl, by decide +kernel, by decide +kernel⟩
def t__law_length (K : PySem.W.Frag) (P : Addr) (n : Nat) : TS :=
  (tSeq (tIfS (tB (tDNotIn (tVar 2) (tVar 3))) (tSeq (tAsg (tC (.int 0)) (gName 4)) (tSeq (tFor (iList K (tDGet (tVar 1) (tVar 2))) (gName 5) (tIfS (tTest (tOp rEq (tOp (rIxT K) (tOp (rIxT K) (tVar 0) (tVar 5)) (tC (.int 0))) (tC (.str "code")))) (tAsg (tOp rAddI (tVar 4) (tC (.int 1))) (gName 4)) (tAsg (tOp rAddI (tVar 4) (tCall (sp__law_length K P n) [] E0 (tCons (tVar 0) (tCons (tVar 1) (tCons (tOp (rIxT K) (tOp (rIxT K) (tVar 0) (tVar 5)) (tC (.int 2))) (tCons (tVar 3) tNil)))))) (gName 4)))) (sDPut (tVar 3) (tVar 2) (tVar 4)))) tNext) (tRet (tDGet (tVar 3) (tVar 2))))
abbrev lnE (x : LnX) (p : Addr) (k : List (Key × PyData)) (s4 s5 : Slot) : Env := [.imm (.dat (docD x.d)), .imm (.dic x.es), .imm (.dat (.str x.name)), .ownD p k, s4, s5]
theorem ev__law_length {K : PySem.W.Frag} {P : Addr} (n : Nat) (x : LnX) (p : Addr) (h : LnPre (n + 1) x) : EvS K P I0 H0 (t__law_length K P n) (startM N__law_length.length [.dat (docD x.d), .dic x.es, .dat (.str x.name)] p (.inr x.known))
    (fun Γ' => ∃ c', Γ'[3]? = some (cSlot p c') ∧ lnPost x (.dat .none) c') (fun Γ' r => ∃ c', Γ'[3]? = some (cSlot p c') ∧ lnPost x r c') (fun _ => False) (fun _ => False) := by
  have hdl := h.gd.len
  have hle := h.le
  have hok5 : OkD x.d 5 x.name := h.ok.le h.le
  have hsize := h.size
  refine sv_cut (fun Γ' => ∃ k' s4 s5, Γ' = lnE x p k' s4 s5 ∧ KnL x.d k' ∧ k'.length + unkD x.d k' ≤ 300 ∧ (valD k' (.inr x.name)).isSome = true) (sv_if (et_B (ev_dnotinOwn (i := 3) (p := p) (es := x.known) (n := .str x.name) (y := .inr x.name) (ev_var rfl) rfl key_str)) (fun q => ?_) (fun q => ?_)) fun Γ' hc => ?_
  · refine sv_seq (sv_asgE ev_int ?_)
    refine sv_seq (sv_for (ds := natsL (lns x.d x.name)) (fun rest Γ' => ∃ (done todo : List Nat) (k' : List (Key × PyData)) (s5 : Slot), rest = natsL todo ∧ lns x.d x.name = done ++ todo ∧ KnL x.d k' ∧ k'.length + unkD x.d k' ≤ 300 ∧ Γ' = lnE x p k' (.imm (.dat (.int (((done.map fun b => lenA x.d 5 b).sum : Nat) : Int)))) s5)
      (ei_list (ev_tbl h.tbl (ev_var rfl) (ev_var rfl) h.ok.has)) ⟨[], lns x.d x.name, x.known, _, rfl, rfl, h.kn, h.size, rfl⟩ (fun y rest Γ' hI => ?_) (fun Γ' hI => ?_))
    · obtain ⟨done, todo, k', s5, e, hl, hk, hsz, rfl⟩ := hI
      cases todo with
      | nil => cases e
      | cons a todo =>
        cases e
        have ha : a ∈ lns x.d x.name := by rw [hl]; simp
        obtain ⟨l, hget, _, hline⟩ := mem_lns ha
        have hl' : lns x.d x.name = (done ++ [a]) ++ todo := by rw [hl]; simp
        have hsum : ((done ++ [a]).map fun b => lenA x.d 5 b).sum = (done.map fun b => lenA x.d 5 b).sum + lenA x.d 5 a := by simp
        refine eg_name (sv_if (et_test (ev_eqS (ev_kind (l := l) (ev_docAt (ev_var rfl) (ev_var rfl) hget)) ev_str)) (fun q => ?_) (fun q => ?_))
        · rw [kind_code] at q
          cases l with
          | head m => cases q
          | use i m => cases q
          | prose m => cases q
          | code m =>
            refine sv_asgE (d := .dat (.int ((((done ++ [a]).map fun b => lenA x.d 5 b).sum : Nat) : Int))) (EvD.as (ev_add (ev_var rfl) ev_int) ?_) ⟨done ++ [a], todo, k', _, rfl, hl', hk, hsz, rfl⟩
            rw [hsum, lenA_code hget, Int.natCast_add]
            rfl
        · rw [kind_code] at q
          cases l with
          | head m => cases hline
          | prose m => cases hline
          | code m => cases q
          | use i o =>
            have ho : OkD x.d n o := ok_use h.ok ha hget
            have hln : lenA x.d 5 a = lenN x.d 5 o := by
              rw [lenA_use hget]
              have h4 := ok_use hok5 ha hget
              exact (lenN_more (k := 3) h4 (by omega : 3 ≤ 4)).trans (lenN_more (k := 3) h4 (by omega : 3 ≤ 5)).symm
            let y : LnX := ⟨x.d, x.es, o, k'⟩
            refine sv_asgAddM (i := 3) (k := 4) (p := p) (args := fun x : LnX => [.dat (docD x.d), .dic x.es, .dat (.str x.name)]) (ini := fun x => .inr x.known) (m := (((done.map fun b => lenA x.d 5 b).sum : Nat) : Int)) y rfl rfl (el_cons (ev_var rfl) (el_cons (ev_var rfl) (el_cons (ev_use2 (ev_docAt (ev_var rfl) (ev_var rfl) hget)) (el_last (c := .inr k') rfl)))) ⟨h.gd, h.tbl, ho, by omega, hk, hsz⟩ fun r c' hpost => ?_
            obtain ⟨k2, rfl, rfl, hk2, hsz2⟩ := hpost
            have e2 : (((done.map fun b => lenA x.d 5 b).sum : Nat) : Int) + ((lenN x.d 5 o : Nat) : Int) = ((((done ++ [a]).map fun b => lenA x.d 5 b).sum : Nat) : Int) := by
              rw [hsum, hln, Int.natCast_add]
            refine ⟨_, rfl, ?_⟩
            show ∃ (done todo : List Nat) (k' : List (Key × PyData)) (s5 : Slot), _
            have e3 : (((done.map fun b => lenA x.d 5 b).sum : Nat) : Int) + ((lenN y.d 5 y.name : Nat) : Int) = ((((done ++ [a]).map fun b => lenA x.d 5 b).sum : Nat) : Int) := e2
            rw [e3]
            exact ⟨done ++ [a], todo, k2, _, rfl, hl', hk2, hsz2, rfl⟩
    · obtain ⟨done, todo, k', s5, e, hl, hk, hsz, rfl⟩ := hI
      cases todo with
      | cons a b => cases e
      | nil =>
        rw [List.append_nil] at hl
        have hsum : (done.map fun b => lenA x.d 5 b).sum = lenN x.d 5 x.name := by
          unfold lenN
          rw [hl]
        rw [hsum]
        refine sv_dput (i := 3) (p := p) (es := k') (n := .str x.name) (y := .inr x.name) (d := .int (lenN x.d 5 x.name)) rfl (ev_var rfl) (ev_var rfl) key_str (by omega) ?_
        refine ⟨_, _, _, rfl, hk.put _, ?_, by rw [valD_put, if_pos rfl]; rfl⟩
        cases c : (valD k' (.inr x.name)).isSome with
        | false =>
          have h1 := unkD_put (v := .int (lenN x.d 5 x.name)) h.ok.has c
          have h2 := putD_len k' (.inr x.name) (.int (lenN x.d 5 x.name))
          omega
        | true =>
          have h2 : (putD k' (.inr x.name) (.int (lenN x.d 5 x.name))).length = k'.length := by
            unfold putD
            rw [if_pos]
            · rw [List.length_map]
            · cases q : k'.any fun q => decide (q.1 = Sum.inr x.name) with
              | true => rfl
              | false =>
                have : valD k' (.inr x.name) = none := by
                  unfold valD
                  rw [List.find?_eq_none.mpr]
                  · rfl
                  · intro z hz
                    have := List.any_eq_false.mp q z hz
                    simpa using this
                rw [this] at c
                cases c
          have h1 : unkD x.d (putD k' (.inr x.name) (.int (lenN x.d 5 x.name))) ≤ unkD x.d k' := by
            unfold unkD
            refine filt_le _ fun z _ hz => ?_
            rw [valD_put] at hz
            by_cases c2 : (Sum.inr z : Key) = Sum.inr x.name
            · rw [if_pos c2] at hz
              cases hz
            · rw [if_neg c2] at hz
              exact hz
          omega
  · have hs : (valD x.known (.inr x.name)).isSome = true := by simpa using q
    exact sv_next ⟨x.known, _, _, rfl, h.kn, h.size, hs⟩
  · obtain ⟨k', s4, s5, rfl, hk, hsz, hs⟩ := hc
    obtain ⟨v, hv⟩ := Option.isSome_iff_exists.mp hs
    have := hk _ _ hv
    subst this
    exact sv_retE (d := .dat (.int (lenN x.d 5 x.name))) (ev_dgetOwn (i := 3) (p := p) (es := k') (n := .str x.name) (y := .inr x.name) rfl (ev_var rfl) key_str hv) ⟨.inr k', rfl, k', rfl, rfl, hk, hsz⟩
theorem ok__law_length {Pr : Program} {w : World} {K : PySem.W.Frag} {mg : Str → Option Value} {base : Heap} {P : Addr} {f : Addr} {fd : FuncData} (F : L2.Fun K "_law_length" "_law_length" s__law_length f fd) (T : Txt mg) (n : Nat) (C__law_length : C8.Cal Pr w K mg base (n + 1) "_law_length" (sp__law_length K P n) []) : FnOk Pr w K mg base CX0 (n + 2) f fd ["_law_document_here", "_law_table_here", "_law_name", "_law_known"] (sp__law_length K P (n + 1)) := by
  have nd := sc__law_length.nd
  refine Fun.mut F sc__law_length (fun _ => rfl) (by decide) fun cdv A outer s H E hr => ⟨t__law_length K P n, ?_, fun x p hx _ _ => ev__law_length n x p hx⟩
  exact (pss_cons (ps_if (pt_cmp (pc_dnotin (hu_of hr) (pv 2) (pv 3))) (pss_cons (ps_set (i := 4) nd rfl (by first | exact Or.inl rfl | exact Or.inr rfl) pe_int) (pss_cons (ps_for PassesOwn.never rfl (pi_list (pe_dget (hu_of hr) (pv 1) (pv 2) (fun _ _ => rfl))) (pg_name (i := 5) nd rfl (by first | exact Or.inl rfl | exact Or.inr rfl)) (pss_one (ps_if (pt_cmpR op_eq (pe_ix ix_tup (pe_ix ix_tup (pv 0) (pv 5) (fun _ _ => rfl)) pe_int (fun _ _ => rfl)) pe_str (nomark _)) (pss_one (ps_set (i := 4) nd rfl (by first | exact Or.inl rfl | exact Or.inr rfl) (pe_op op_add (pv 4) pe_int))) (pss_one (ps_set (i := 4) nd rfl (by first | exact Or.inl rfl | exact Or.inr rfl) (pe_op op_add (pv 4) (C8.pe_c C__law_length hr (Nat.le_refl _) rfl (pa_cons (pv 0) (pa_cons (pv 1) (pa_cons (pe_ix ix_tup (pe_ix ix_tup (pv 0) (pv 5) (fun _ _ => rfl)) pe_int (fun _ _ => rfl)) (pa_cons (pv 3) pa_nil))))))))))) (pss_one (ps_dput (hu_of hr) (pv 3) (pv 2) (pv 4) rfl)))) pss_nil) (pss_one (ps_ret (pe_dget (hu_of hr) (pv 3) (pv 2) (fun _ _ => rfl)))))
theorem ok__law_length0 {Pr : Program} {w : World} {K : PySem.W.Frag} {mg : Str → Option Value} {base : Heap} {P : Addr} {f : Addr} {fd : FuncData} (F : L2.Fun K "_law_length" "_law_length" s__law_length f fd) : FnOk Pr w K mg base CX0 1 f fd ["_law_document_here", "_law_table_here", "_law_name", "_law_known"] (sp__law_length K P 0) :=
  Fun.mut F sc__law_length (fun _ => rfl) (by decide) fun cdv A outer s H E hr => ⟨tNever, pss_never, fun x p hx _ _ => (no__law_length x hx).elim⟩
abbrev s__law_is_small : Stmt := topS 55
abbrev N__law_is_small : List Str := ["_law_document_here", "_law_table_here", "_law_root"]
theorem sc__law_is_small : FnScope N__law_is_small ["_law_document_here", "_law_table_here", "_law_root"] (defScope s__law_is_small) := ⟨rfl, rfl, rfl, by decide +kernel, rfl, by decide +kernel, by decide +kernel⟩
def t__law_is_small (K : PySem.W.Frag) (P : Addr) : TS :=
  (tSeq (tIfS (tOr (tB (tDNotIn (tVar 2) (tVar 1))) (tTest (tOp rNotN (tCall (sp__law_walk K P 5) [] E0 (tCons (tVar 0) (tCons (tVar 1) (tCons (tVar 2) (tCons (tLst (tCons (tVar 2) tNil)) (tCons (tLst (tCons (tVar 2) tNil)) tNil)))))) (tC .non)))) (tRet (tC (.bl false))) tNext) (tRet (tOp rLeI (tCall (sp__law_length K P 5) [] E0 (tCons (tVar 0) (tCons (tVar 1) (tCons (tVar 2) (tCons tDNewK tNil))))) (tC (.int 120)))))
def SmallOk (d : List Ln) (n : Str) : Prop := OkD d 5 n ∧ lenN d 5 n ≤ 120
structure DT (d : List Ln) (es : List (Key × PyData)) : Prop where
  gd : GD d 300
  h5 : H5 d
  tbl : Tbl d es
def pm__law_is_small : Pm := ⟨List Ln × List (Key × PyData) × Str, fun x => [.dat (docD x.1), .dic x.2.1, .dat (.str x.2.2)], fun x => DT x.1 x.2.1, fun x r => ∃ b, r = .dat (.bool b) ∧ (b = true → SmallOk x.1 x.2.2)⟩
theorem ev__law_is_small {K : PySem.W.Frag} {P : Addr} : pm__law_is_small.Ok K P I0 H0 N__law_is_small.length (t__law_is_small K P) := fun x hx => by
  obtain ⟨d, es, root⟩ := x
  have h : DT d es := hx
  refine sv_seq (sv_ifR (D := fun b => b = true ∨ b = false ∧ Done d root) (etr_or (D2 := fun b => b = true ∨ b = false ∧ Done d root) (et_notin h.tbl (ev_var rfl) (ev_var rfl)).r (fun hq => ?_) (fun _ => .inl rfl) fun b hb => hb) (fun _ => ?_) (fun hq => sv_next ?_))
  · have hh : hasHead d root = true := by simpa using hq.symm
    refine etr_test (D := fun r => ∃ v, r = .dat (.bool (!isN v)) ∧ (v = .none → Done d root)) (ev_opP (D1 := fun r => ∃ v, r = .dat v ∧ (v = .none → Done d root)) (D2 := (· = .dat .none)) (ev_callNew (args := fun x : WkX => [.dat (docD x.d), .dic x.es, .dat (.str x.name), .dat (.list (x.path.map .str))]) (ini := fun x => .inl (x.order.map .str)) ⟨d, es, root, [root], [root]⟩ (en_consA (ev_var rfl) (en_consA (ev_var rfl) (en_consA (ev_var rfl) (en_consA (ev_lst (ds := [.str root]) (ea1 (ev_var rfl))) (en_lastL (en_lst (ds := [.str root]) (ea1 (ev_var rfl)))))))) ⟨h.gd, h.h5, h.tbl, hh, rfl, by simp, (fun p hp => by rcases List.mem_singleton.mp hp with rfl; exact hh), List.mem_cons_self, (fun m hm => .inl hm), ?_⟩ fun r c' hp => ?_) ev_non fun a b h1 h2 => ?_) fun r hr => ?_
    · have := unk_le d [root]
      have := h.gd.len
      show [root].length + unk d [root] ≤ 301
      rw [List.length_singleton]
      omega
    · obtain ⟨v, order', rfl, _, _, hv⟩ := hp
      exact ⟨v, rfl, fun z => (hv z).1⟩
    · obtain ⟨v, rfl, hv⟩ := h1
      exact ⟨v, .none, .bool (!isN v), rfl, h2, rop_notN (isN_iff v), v, rfl, hv⟩
    · obtain ⟨v, rfl, hv⟩ := hr
      refine ⟨_, rfl, ?_⟩
      cases c : isN v with
      | true => exact .inr ⟨rfl, hv ((isN_iff v).mp (by rw [c]; rfl))⟩
      | false => exact .inl rfl
  · exact sv_retE ev_bl ⟨false, rfl, fun z => by cases z⟩
  · have hd : Done d root := by
      rcases hq with hq | hq
      · cases hq
      · exact hq.2
    have ok5 := done5 h.h5 hd
    refine sv_retE (d := .dat (.bool (decide (((lenN d 5 root : Nat) : Int) ≤ 120)))) (ev_op (a := .int (lenN d 5 root)) (Ev.imp (ev_callNew (args := fun x : LnX => [.dat (docD x.d), .dic x.es, .dat (.str x.name)]) (ini := fun x => .inr x.known) (D := (· = .dat (.int (lenN d 5 root)))) ⟨d, es, root, []⟩ (en_consA (ev_var rfl) (en_consA (ev_var rfl) (en_consA (ev_var rfl) en_lastD))) ⟨h.gd, h.tbl, ok5, Nat.le_refl _, (fun m v e => by cases e), ?_⟩ fun r c' hp => ?_) fun _ h => h) ev_int rop_le) ⟨_, rfl, fun hb => ⟨ok5, ?_⟩⟩
    · have := List.length_filter_le (fun n => !(valD ([] : List (Key × PyData)) (.inr n)).isSome) (hdN d)
      have := hdN_len d
      have := h.gd.len
      show 0 + unkD d [] ≤ 300
      unfold unkD
      omega
    · obtain ⟨k', rfl, _⟩ := hp
      rfl
    · have := of_decide_eq_true hb
      show lenN d 5 root ≤ 120
      omega
theorem ok__law_is_small {Pr : Program} {w : World} {K : PySem.W.Frag} {mg : Str → Option Value} {base : Heap} {P : Addr} {f : Addr} {fd : FuncData} (F : L2.Fun K "_law_is_small" "_law_is_small" s__law_is_small f fd) (T : Txt mg) (C__law_length : C8.Cal Pr w K mg base 6 "_law_length" (sp__law_length K P 5) []) (C__law_walk : C8.Cal Pr w K mg base 6 "_law_walk" (sp__law_walk K P 5) []) : FnOk Pr w K mg base CX0 7 f fd ["_law_document_here", "_law_table_here", "_law_root"] (pm__law_is_small.sp K P) := by
  have nd := sc__law_is_small.nd
  refine Fun.pure F sc__law_is_small (fun _ => rfl) fun cdv A outer s H E hr => ⟨t__law_is_small K P, ?_, fun x hx _ _ => ev__law_is_small x hx⟩
  exact (pss_cons (ps_if (PW.pt (pw_or (pt_cmp (pc_dnotin (hu_of hr) (pv 2) (pv 1))) (pw_or1 (pt_cmpR op_notN (C8.pe_c C__law_walk hr (by decide) rfl (pa_cons (pv 0) (pa_cons (pv 1) (pa_cons (pv 2) (pa_cons (pe_lst (pa_cons (pv 2) pa_nil)) (pa_cons (pe_lst (pa_cons (pv 2) pa_nil)) pa_nil)))))) pe_non (nomark _))))) (pss_one (ps_ret pe_bl)) pss_nil) (pss_one (ps_ret (pe_cmpR op_le (C8.pe_c C__law_length hr (by decide) rfl (pa_cons (pv 0) (pa_cons (pv 1) (pa_cons (pv 2) (pa_cons pe_dnewK pa_nil))))) pe_int (nomark _)))))
abbrev s__law_roots : Stmt := topS 73
abbrev N__law_roots : List Str := ["_law_script", "_law_document_here", "_law_table_here", "_law_roots_here", "_law_name"]
theorem sc__law_roots : FnScope N__law_roots ["_law_script", "_law_document_here", "_law_table_here"] (defScope s__law_roots) := ⟨rfl, rfl, rfl, by decide +kernel, rfl, by decide +kernel, by decide +kernel⟩
def t__law_roots (K : PySem.W.Frag) (P : Addr) : TS :=
  (tSeq (tAsg (tLst tNil) (gName 3)) (tSeq (tFor (iStr (tC (.str "abcde"))) (gName 4) (tIfS (tAnd (tB (tCall (pm__law_is_small.sp K P) [] E0 (tCons (tVar 1) (tCons (tVar 2) (tCons (tVar 4) tNil))))) (tTest (tOp rEq (tOp rModI (tOp rDivI (tCall (pm__law_cell.sp K P) [] E0 (tCons (tVar 0) (tCons (tC (.int 2)) tNil))) (tC (.int 2))) (tC (.int 2))) (tC (.int 0))))) (tDrop (tBM K "list" rAppend (tVar 3) (tCons (tVar 4) tNil))) tNext)) (tSeq (tIfS (tAnd (tTest (tOp rEq (tCB (rLen K) (tCons (tVar 3) tNil)) (tC (.int 0)))) (tB (tCall (pm__law_is_small.sp K P) [] E0 (tCons (tVar 1) (tCons (tVar 2) (tCons (tC (.str "a")) tNil)))))) (tAsg (tLst (tCons (tC (.str "a")) tNil)) (gName 3)) tNext) (tRet (tVar 3)))))
def pm__law_roots : Pm := ⟨List Int × List Ln × List (Key × PyData), fun x => [.scr x.1, .dat (docD x.2.1), .dic x.2.2], fun x => DT x.2.1 x.2.2, fun x r => ∃ roots : List Str, roots.length ≤ 5 ∧ (∀ n ∈ roots, SmallOk x.2.1 n) ∧ r = .dat (.list (roots.map .str))⟩
theorem small_ev {K : PySem.W.Frag} {P : Addr} {Γ : Env} {d : List Ln} {es : List (Key × PyData)} {n : Str} {t1 t2 t3 : TE} (h : DT d es) (h1 : EvD K P t1 Γ (docD d)) (h2 : EvE K P t2 Γ (.dic es)) (h3 : EvD K P t3 Γ (.str n)) : EvTR K P (tB (tCall (pm__law_is_small.sp K P) [] E0 (tCons t1 (tCons t2 (tCons t3 tNil))))) Γ (fun b => b = true → SmallOk d n) :=
  etr_B (ev_call (X := List Ln × List (Key × PyData) × Str) (d, es, n) (ea_cons h1 (ea_cons h2 (ea1 h3))) h) fun _ h => h
theorem ev__law_roots {K : PySem.W.Frag} {P : Addr} : pm__law_roots.Ok K P I0 H0 N__law_roots.length (t__law_roots K P) := fun x hx => by
  obtain ⟨ns, d, es⟩ := x
  have h : DT d es := hx
  refine sv_seq (sv_asgN (en_lst (ds := []) ea_nil) fun p => ?_)
  refine sv_seq (sv_for (ds := signsD "abcde") (fun rest Γ' => ∃ (todo : List Nat) (roots : List Str) (s4 : Slot), rest = todo.map (fun c => PyData.str ⟨#[c]⟩) ∧ roots.length + todo.length ≤ 5 ∧ (∀ n ∈ roots, SmallOk d n) ∧ Γ' = [.imm (.scr ns), .imm (.dat (docD d)), .imm (.dic es), .own p (roots.map .str), s4]) (ei_str ev_str) ⟨[97, 98, 99, 100, 101], [], _, ?_, by simp, (fun n hn => by cases hn), rfl⟩ (fun x rest Γ' hI => ?_) (fun Γ' hI => ?_))
  · unfold signsD
    rw [abcde_l]
  · obtain ⟨todo, roots, s4, e, hl, hr, rfl⟩ := hI
    cases todo with
    | nil => cases e
    | cons c todo =>
      cases e
      rw [List.length_cons] at hl
      refine eg_name (sv_ifR (D := fun b => b = true → SmallOk d ⟨#[c]⟩) (etr_and (D1 := fun b => b = true → SmallOk d ⟨#[c]⟩) (D2 := fun _ => True) (small_ev h (ev_var rfl) (ev_var rfl) (ev_var rfl)) (fun _ => ?_) (fun h => h) fun b h1 _ _ => h1 rfl) (fun hs => ?_) (fun _ => sv_next ⟨todo, roots, _, rfl, by omega, hr, rfl⟩))
      · refine etr_test (D := fun r => ∃ b, r = .dat (.bool b)) (ev_opP (D1 := fun r => ∃ v : Int, r = .dat (.int v)) (D2 := (· = .dat (.int 0))) (ev_opP (D1 := fun r => ∃ v : Int, r = .dat (.int v)) (D2 := (· = .dat (.int 2))) (ev_opP (D1 := fun r => ∃ v : Int, r = .dat (.int v)) (D2 := (· = .dat (.int 2))) (ev_call (X := List Int × Int) (ns, 2) (ea_cons (ev_var rfl) (ea1 ev_int)) (by show (0 : Int) ≤ 2; decide)) ev_int fun a b h1 h2 => ?_) ev_int fun a b h1 h2 => ?_) ev_int fun a b h1 h2 => ?_) fun r ⟨b, hb⟩ => ⟨b, hb, trivial⟩
        · obtain ⟨v, rfl⟩ := h1
          exact ⟨_, _, _, rfl, h2, rop_fdiv ⟨by decide, by decide⟩, _, rfl⟩
        · obtain ⟨v, rfl⟩ := h1
          exact ⟨_, _, _, rfl, h2, rop_mod (by decide), _, rfl⟩
        · obtain ⟨v, rfl⟩ := h1
          exact ⟨_, _, _, rfl, h2, rop_eqI, _, rfl⟩
      · have em : roots.map PyData.str ++ [PyData.str ⟨#[c]⟩] = (roots ++ [Str.mk #[c]]).map PyData.str := by rw [List.map_append]; rfl
        refine sv_append (i := 3) (d := .str ⟨#[c]⟩) rfl (ev_var rfl) (by rw [List.length_map]; omega) ?_
        rw [em]
        refine ⟨todo, roots ++ [⟨#[c]⟩], _, rfl, by rw [List.length_append, List.length_singleton]; omega, fun n hn => ?_, rfl⟩
        rcases List.mem_append.mp hn with hn | hn
        · exact hr n hn
        · rcases List.mem_singleton.mp hn with rfl
          exact hs rfl
  · obtain ⟨todo, roots, s4, e, hl, hr, rfl⟩ := hI
    have hlr : roots.length ≤ 5 := by omega
    refine sv_cut (fun Γ' => ∃ p roots s4, roots.length ≤ 5 ∧ (∀ n ∈ roots, SmallOk d n) ∧ Γ' = ([.imm (.scr ns), .imm (.dat (docD d)), .imm (.dic es), .own p (roots.map .str), s4] : Env)) (sv_ifR (D := fun b => b = true → SmallOk d "a") (etr_and (D1 := fun _ => True) (D2 := fun b => b = true → SmallOk d "a") (fun I H σ E Q q => (et_test (ev_eqI (ev_lenOwn (i := 3) (p := p) rfl) ev_int)).r I H σ E Q fun b I' H' _ w => q b I' H' trivial w) (fun _ => small_ev h (ev_var rfl) (ev_var rfl) ev_str) (fun _ z => by cases z) fun b _ h2 => h2) (fun hs => ?_) (fun _ => sv_next ⟨p, roots, s4, hlr, hr, rfl⟩)) fun Γ' hc => ?_
    · refine sv_asgN (en_lst (ds := [.str "a"]) (ea1 ev_str)) fun p2 => ⟨p2, ["a"], s4, by simp, fun n hn => ?_, rfl⟩
      rcases List.mem_singleton.mp hn with rfl
      exact hs rfl
    · obtain ⟨p, roots, s4, h1, h2, rfl⟩ := hc
      refine sv_freeze (i := 3) rfl ?_
      exact sv_retE (d := .dat (.list (roots.map .str))) (ev_var rfl) ⟨roots, h1, h2, rfl⟩
theorem ok__law_roots {Pr : Program} {w : World} {K : PySem.W.Frag} {mg : Str → Option Value} {base : Heap} {P : Addr} {f : Addr} {fd : FuncData} (F : L2.Fun K "_law_roots" "_law_roots" s__law_roots f fd) (T : Txt mg) (C__law_is_small : C8.Cal Pr w K mg base 7 "_law_is_small" (pm__law_is_small.sp K P) []) (C__law_cell : C8.Cal Pr w K mg base 1 "_law_cell" (pm__law_cell.sp K P) []) : FnOk Pr w K mg base CX0 8 f fd ["_law_script", "_law_document_here", "_law_table_here"] (pm__law_roots.sp K P) := by
  have nd := sc__law_roots.nd
  refine Fun.pure F sc__law_roots (fun _ => rfl) fun cdv A outer s H E hr => ⟨t__law_roots K P, ?_, fun x hx _ _ => ev__law_roots x hx⟩
  exact (pss_cons (ps_set (i := 3) nd rfl (by first | exact Or.inl rfl | exact Or.inr rfl) (pe_lst pa_nil)) (pss_cons (ps_for PassesOwn.never rfl (pi_str pe_str) (pg_name (i := 4) nd rfl (by first | exact Or.inl rfl | exact Or.inr rfl)) (pss_one (ps_if (PW.pt (pw_and (pt_val (C8.pe_c C__law_is_small hr (by decide) rfl (pa_cons (pv 1) (pa_cons (pv 2) (pa_cons (pv 4) pa_nil))))) (pw_and1 (pt_cmpR op_eq (pe_op op_mod (pe_op op_fdiv (C8.pe_c C__law_cell hr (by decide) rfl (pa_cons (pv 0) (pa_cons pe_int pa_nil))) pe_int) pe_int) pe_int (nomark _))))) (pss_one (ps_expr (pe_bm PySem.F.plainAttrs_list PySem.F.slot_list_append PySem.F.type_list_append mt_append (pv 3) (pa_cons (pv 4) pa_nil)))) pss_nil))) (pss_cons (ps_if (PW.pt (pw_and (pt_cmpR op_eq (pe_callB (r := rLen K) call_len rfl T.len PySem.boot_len (pa_cons (pv 3) pa_nil)) pe_int (nomark _)) (pw_and1 (pt_val (C8.pe_c C__law_is_small hr (by decide) rfl (pa_cons (pv 1) (pa_cons (pv 2) (pa_cons pe_str pa_nil)))))))) (pss_one (ps_set (i := 3) nd rfl (by first | exact Or.inl rfl | exact Or.inr rfl) (pe_lst (pa_cons pe_str pa_nil)))) pss_nil) (pss_one (ps_ret (pv 3))))))
end Wf
/-! build; the law's edits. -/
namespace Wf
open PySem L2
section
variable {K : PySem.W.Frag} {P aK : Addr} {Γ : Env} {ta tb tc te : TE} {N : Env → Prop} {R : Env → DD → Prop} {B C : Env → Prop} {t u : TS} {D : DD → Prop}
/-- xs[k][m] = e, e told in part -/
theorem sv_setLLP {i m : Nat} {p q : Addr} {l r : List (Addr × List PyData)} {ds : List PyData} (h : Γ[i]? = some (.ownL p (l ++ (q, ds) :: r))) (he : Ev K P te Γ D) (hb : EvD K P tb Γ (.int l.length)) (hc : EvD K P tc Γ (.int m)) (hm : m < ds.length) (hn : ∀ x, D x → ∃ d, x = .dat d ∧ N (Γ.set i (.ownL p (l ++ (q, ds.set m d) :: r)))) : EvS K P I0 H0 (tAsg te (gSub (tOp (rIxL K) (tVar i) tb) tc rSetL)) Γ N R B C := fun I H σ D' E kn hr hb' hc' => by
  refine he I H σ E.env _ fun v d1 I1 H1 e1 w r1 => ?_
  obtain ⟨d, rfl, hN⟩ := hn d1 e1
  have E1 := E.mono w
  obtain ⟨e, _⟩ := E1.env.ownL h
  refine ⟨_, e, ?_⟩
  refine hb I1 H1 σ E1.env _ fun v2 d2 I2 H2 e2 w2 r2 => ?_
  subst e2
  cases r2
  have E2 := E1.mono w2
  obtain ⟨_, h1, h2, h3, h4⟩ := E2.env.ownL h
  refine ⟨p, _, l.length, .ref q, rfl, rfl, SqL.of h1, atI_of (by simp), ?_⟩
  refine hc I2 H2 σ E2.env _ fun v3 d3 I3 H3 e3 w3 r3 => ?_
  subst e3
  cases r3
  have E3 := E2.mono w3
  obtain ⟨_, h1, h2, h3, h4⟩ := E3.env.ownL h
  obtain ⟨vs, g1, g2, g3⟩ := h4 (q, ds) (by simp)
  refine ⟨q, vs, m, m, rfl, rfl, g1, by rw [g3.len]; exact ixN_of hm, ?_⟩
  exact kn I3 _ σ _ hN ((w.ii.trans w2.ii).trans w3.ii) (E3.inner h (g3.set (Dx.mono (w2.ii.trans w3.ii) _ _ r1) m))
end
abbrev s_build : Stmt := topS 42
abbrev N_build : List Str := ["document", "roots", "root"]
theorem sc_build : FnScope N_build ["document", "roots"] (defScope s_build) := ⟨rfl, rfl, rfl, by decide +kernel, rfl, by decide +kernel, by decide +kernel⟩
def t_build (K : PySem.W.Frag) (P : Addr) : TS :=
  (tRet (tLc (iList K (tVar 1)) (gName 2) tYes (tCall (pm_tangle.sp K P) [] E0 (tCons (tVar 0) (tCons (tVar 2) tNil))) [2]))
def pm_build : Pm := ⟨List Ln × List Str, fun x => [.dat (docD x.1), .dat (.list (x.2.map .str))], fun x => GD x.1 300 ∧ x.2.length ≤ 1000 ∧ ∀ n ∈ x.2, OkD x.1 5 n ∧ lenN x.1 5 n ≤ 2000, fun x r => r = .dat (.list ((x.2.map (prog x.1)).map progD))⟩
theorem ev_build {K : PySem.W.Frag} {P : Addr} : pm_build.Ok K P I0 H0 N_build.length (t_build K P) := fun x hx => by
  obtain ⟨d, roots⟩ := x
  obtain ⟨hd, hl, hr⟩ := hx
  dsimp only at hd hl hr
  refine sv_retE (d := .dat (.list ((roots.map (prog d)).map progD))) ?_ (Eq.refl (DD.dat (.list ((roots.map (prog d)).map progD))))
  let f : PyData → PyData := fun x => match x with
    | .str n => progD (prog d n)
    | _ => .none
  have e : (roots.map PyData.str).map f = (roots.map (prog d)).map progD := by
    rw [List.map_map, List.map_map]
    rfl
  rw [← e]
  refine EvN.ev (en_map f (fun x => ([.imm (.dat (docD d)), .imm (.dat (.list (roots.map .str))), .imm (.dat x)] : Env)) (ei_list (ev_var rfl)) (by rw [List.length_map]; omega) (fun x hx => ew_name) fun x hx => ?_)
  obtain ⟨n, hn, rfl⟩ := List.mem_map.mp hx
  exact ev_call (X := List Ln × Str) (d, n) (ea_cons (ev_var rfl) (ea1 (ev_var rfl))) ⟨hd, (hr n hn).1, (hr n hn).2⟩
theorem ok_build {Pr : Program} {w : World} {K : PySem.W.Frag} {mg : Str → Option Value} {base : Heap} {P : Addr} {f : Addr} {fd : FuncData} (F : L2.Fun K "build" "build" s_build f fd) (T : Txt mg) (C_tangle : C8.Cal Pr w K mg base 4 "tangle" (pm_tangle.sp K P) []) : FnOk Pr w K mg base CX0 5 f fd ["document", "roots"] (pm_build.sp K P) := by
  have nd := sc_build.nd
  refine Fun.pure F sc_build (fun _ => rfl) fun cdv A outer s H E hr => ⟨t_build K P, ?_, fun x hx _ _ => ev_build x hx⟩
  exact (pss_one (ps_ret (pe_lc (own := [("root", 2)]) (g := (gName 2)) (tt := tYes) rfl nd (pi_list (pv 1)) (blkOk_by (N := N_build) (sc := defScope s_build) (by decide +kernel)) (fun _ _ _ _ _ => (pg_name (i := 2) nd rfl (by first | exact Or.inl rfl | exact Or.inr rfl))) (fun _ _ _ _ _ => pts_nil) (fun _ _ _ _ _ => (C8.pe_c C_tangle hr (by decide) rfl (pa_cons (pv 0) (pa_cons (pv 2) pa_nil)))))))
/-- a program's line, small -/
structure PlOk (d : List Ln) (p : PL) : Prop where
  ok : PLok d p
  path : p.path.length ≤ 5
theorem indOf_le {d : List Ln} {m : Nat} (hd : GD d m) (path : List Nat) : indOf d path ≤ 4 * path.length := by
  unfold indOf
  induction path with
  | nil => simp
  | cons a r ih =>
    rw [List.map_cons, List.sum_cons, List.length_cons]
    have : indL d a ≤ 4 := by
      unfold indL
      split
      · next i n e => exact hd.ok _ (List.mem_of_getElem? e)
      · omega
    omega
theorem PlOk.ind {d : List Ln} {m : Nat} (hd : GD d m) {p : PL} (h : PlOk d p) : indOf d p.path ≤ 20 := by
  have h1 := indOf_le hd p.path
  have h2 := h.path
  omega
theorem PlOk.at_ {d : List Ln} {m : Nat} (hd : GD d m) {p : PL} (h : PlOk d p) : 0 < p.line ∧ p.line < d.length := by
  obtain ⟨t, ht, _⟩ := h.ok.code
  exact ⟨code_pos hd.vd ht rfl, (List.getElem?_eq_some_iff.mp ht).1⟩
structure E30 (e : Ed) : Prop where
  txt : ∀ t ∈ textsOf e, Sh 30 t
  ah : e.ahead.length ≤ 1
  be : e.behind.length ≤ 2
theorem E30.ok {e : Ed} (h : E30 e) : EdOk e := ⟨fun t ht => (h.txt t ht).et (by decide), Nat.le_trans h.ah (by decide), Nat.le_trans h.be (by decide)⟩
abbrev s__law_all_edits : Stmt := topS 71
abbrev N__law_all_edits : List Str := ["_law_script", "_law_start", "_law_document_here", "_law_programs", "_law_edits", "_law_program", "_law_choice", "_law_which", "_law_one", "_law_line_here", "_law_at", "_law_indent_here", "_law_fate_here"]
theorem sc__law_all_edits : FnScope N__law_all_edits ["_law_script", "_law_start", "_law_document_here", "_law_programs"] (defScope s__law_all_edits) := ⟨rfl, rfl, rfl, by decide +kernel, rfl, by decide +kernel, by decide +kernel⟩
def t__law_all_edits (K : PySem.W.Frag) (P : Addr) : TS :=
  (tSeq (tAsg (tLst tNil) (gName 4)) (tSeq (tFor (iList K (tVar 3)) (gName 5) (tSeq (tAsg (tLst tNil) (gName 8)) (tSeq (tFor (iList K (tVar 5)) (gName 9) (tSeq (tAsg (tCall (pm__law_fate.sp K P) [] E0 (tCons (tCall (pm__law_cell.sp K P) [] E0 (tCons (tVar 0) (tCons (tOp rAddI (tVar 1) (tOp rModI (tOp (rIxT K) (tVar 9) (tC (.int 1))) (tC (.int 20)))) tNil))) (tCons (tCall (pm__law_is_first.sp K P) [] E0 (tCons (tVar 2) (tCons (tOp (rIxT K) (tVar 9) (tC (.int 1))) tNil))) tNil))) (gName 12)) (tDrop (tBM K "list" rAppend (tVar 8) (tCons (tCall (pm__law_edit.sp K P) [] E0 (tCons (tVar 12) (tCons (tCall (pm__law_indent.sp K P) [] E0 (tCons (tVar 2) (tCons (tOp (rIxT K) (tVar 9) (tC (.int 2))) tNil))) tNil))) tNil))))) (tDrop (tBM K "list" rAppend (tVar 4) (tCons (tVar 8) tNil)))))) (tSeq (tAsg (tCall (pm__law_big.sp K P) [] E0 (tCons (tCall (pm__law_cell.sp K P) [] E0 (tCons (tVar 0) (tCons (tOp rAddI (tVar 1) (tC (.int 20))) tNil))) tNil)) (gName 6)) (tSeq (tAsg (tOp rModI (tOp rDivI (tVar 6) (tC (.int 3))) (tCB (rLen K) (tCons (tVar 3) tNil))) (gName 7)) (tSeq (tIfS (tAnd (tTest (tOp rEq (tOp rModI (tVar 6) (tC (.int 3))) (tC (.int 1)))) (tTest (tOp rGtI (tCB (rLen K) (tCons (tOp (rIxL K) (tVar 3) (tVar 7)) tNil)) (tC (.int 0))))) (tSeq (tAsg (tOp rModI (tOp rDivI (tVar 6) (tC (.int 12))) (tCB (rLen K) (tCons (tOp (rIxL K) (tVar 3) (tVar 7)) tNil))) (gName 10)) (tSeq (tAsg (tCall (pm__law_indent.sp K P) [] E0 (tCons (tVar 2) (tCons (tOp (rIxT K) (tOp (rIxL K) (tOp (rIxL K) (tVar 3) (tVar 7)) (tVar 10)) (tC (.int 2))) tNil))) (gName 11)) (tAsg (tCall (pm__law_broken.sp K P) [] E0 (tCons (tOp (rIxL K) (tOp (rIxL K) (tVar 4) (tVar 7)) (tVar 10)) (tCons (tOp rDivI (tVar 6) (tC (.int 1000))) (tCons (tVar 11) tNil)))) (gSub (tOp (rIxL K) (tVar 4) (tVar 7)) (tVar 10) rSetL)))) tNext) (tRet (tVar 4)))))))
structure AePre (d : List Ln) (pss : List (List PL)) : Prop where
  gd : GD d 300
  pl : ∀ ps ∈ pss, ∀ p ∈ ps, PlOk d p
  len : ∀ ps ∈ pss, ps.length ≤ 2000
  pos : 0 < pss.length
  le : pss.length ≤ 1000
def pm__law_all_edits : Pm := ⟨List Int × Nat × List Ln × List (List PL), fun x => [.scr x.1, .dat (.int x.2.1), .dat (docD x.2.2.1), .dat (.list (x.2.2.2.map progD))], fun x => AePre x.2.2.1 x.2.2.2,
  fun x r => ∃ ess : List (List Ed), ess.map List.length = x.2.2.2.map List.length ∧ (∀ es ∈ ess, ∀ e ∈ es, EdOk e) ∧ r = .dat (.list (ess.map edsD))⟩
abbrev aeQ (st : List (Addr × List Ed)) : List (Addr × List PyData) := st.map fun s => (s.1, s.2.map edD)
abbrev aeE (ns : List Int) (start : Nat) (d : List Ln) (pss : List (List PL)) (p : Addr) (st : List (Addr × List Ed)) (s5 s6 s7 s8 s9 s10 s11 s12 : Slot) : Env := [.imm (.scr ns), .imm (.dat (.int start)), .imm (.dat (docD d)), .imm (.dat (.list (pss.map progD))), .ownL p (aeQ st), s5, s6, s7, s8, s9, s10, s11, s12]
theorem ae_one {K : PySem.W.Frag} {P : Addr} {ns : List Int} {start : Nat} {d : List Ln} {pss : List (List PL)} {p : Addr} {st : List (Addr × List Ed)} {s6 s7 s10 s11 s9 s12 : Slot} {ps : List PL} {N : Env → Prop} {R : Env → DD → Prop} {B C : Env → Prop} (h : AePre d pss) (hps : ps ∈ pss) (hst : st.length < 100000)
    (hN : ∀ q (es : List Ed) s9 s12, es.length = ps.length → (∀ e ∈ es, E30 e) → N (aeE ns start d pss p (st ++ [(q, es)]) (.imm (.dat (progD ps))) s6 s7 .emp s9 s10 s11 s12)) :
    EvS K P I0 H0 (tSeq (tAsg (tLst tNil) (gName 8)) (tSeq (tFor (iList K (tVar 5)) (gName 9) (tSeq (tAsg (tCall (pm__law_fate.sp K P) [] E0 (tCons (tCall (pm__law_cell.sp K P) [] E0 (tCons (tVar 0) (tCons (tOp rAddI (tVar 1) (tOp rModI (tOp (rIxT K) (tVar 9) (tC (.int 1))) (tC (.int 20)))) tNil))) (tCons (tCall (pm__law_is_first.sp K P) [] E0 (tCons (tVar 2) (tCons (tOp (rIxT K) (tVar 9) (tC (.int 1))) tNil))) tNil))) (gName 12)) (tDrop (tBM K "list" rAppend (tVar 8) (tCons (tCall (pm__law_edit.sp K P) [] E0 (tCons (tVar 12) (tCons (tCall (pm__law_indent.sp K P) [] E0 (tCons (tVar 2) (tCons (tOp (rIxT K) (tVar 9) (tC (.int 2))) tNil))) tNil))) tNil))))) (tDrop (tBM K "list" rAppend (tVar 4) (tCons (tVar 8) tNil)))))
      (aeE ns start d pss p st (.imm (.dat (progD ps))) s6 s7 s8 s9 s10 s11 s12) N R B C := by
  refine sv_seq (sv_asgN (en_lst (ds := []) ea_nil) fun q => ?_)
  refine sv_cut (fun Γ' => ∃ (es : List Ed) (s9 s12 : Slot), es.length = ps.length ∧ (∀ e ∈ es, E30 e) ∧ Γ' = aeE ns start d pss p st (.imm (.dat (progD ps))) s6 s7 (.own q (es.map edD)) s9 s10 s11 s12) (sv_for (ds := ps.map plD) (fun rest Γ' => ∃ (done todo : List PL) (es : List Ed) (s9 s12 : Slot), rest = todo.map plD ∧ ps = done ++ todo ∧ es.length = done.length ∧ (∀ e ∈ es, E30 e) ∧ Γ' = aeE ns start d pss p st (.imm (.dat (progD ps))) s6 s7 (.own q (es.map edD)) s9 s10 s11 s12) (ei_list (ev_var rfl)) ⟨[], ps, [], _, _, rfl, rfl, rfl, (fun e he => by cases he), rfl⟩ (fun x rest Γ' hI => ?_) (fun Γ' hI => ?_)) fun Γ' hc => ?_
  · obtain ⟨done, todo, es, s9, s12, e, hps2, hes, hok, rfl⟩ := hI
    cases todo with
    | nil => cases e
    | cons pl todo =>
      cases e
      have hpl : PlOk d pl := h.pl ps hps pl (by rw [hps2]; simp)
      obtain ⟨b1, b2⟩ := hpl.at_ h.gd
      have hi := hpl.ind h.gd
      have hlen := h.len ps hps
      rw [hps2, List.length_append, List.length_cons] at hlen
      have huse : UseP d pl.path := hpl.ok.path
      have hpp := hpl.path
      refine eg_name ?_
      refine sv_seq (sv_asg (D := fun r => ∃ e, FtOk e ∧ r = .dat (edD e)) (ev_callP (ea_consP (D := fun r => ∃ v : Int, r = .dat (.int v)) (ev_call (X := List Int × Int) (ns, (start : Int) + ((pl.line : Int) % 20)) (ea_cons (ev_var rfl) (ea1 (ev_add (ev_var rfl) (ev_mod (ev_pl1 (p := pl) (ev_var rfl)) ev_int (by decide))))) (by show 0 ≤ (start : Int) + ((pl.line : Int) % 20); omega)) (ea1 (ev_call (X := List Ln × Nat) (d, pl.line) (ea_cons (ev_var rfl) (ea1 (ev_pl1 (p := pl) (ev_var rfl)))) ⟨b1, b2⟩))) fun l hl => ?_) fun r hr => ?_)
      · obtain ⟨r, rs, rfl, ⟨v, rfl⟩, rfl⟩ := hl
        exact ⟨(v, isFirst d pl.line), rfl, trivial, fun r hr => hr⟩
      obtain ⟨e, he, rfl⟩ := hr
      obtain ⟨g1, g2, g3⟩ := edOf_ok he hi
      have em : es.map edD ++ [edD (edOf e (indOf d pl.path))] = (es ++ [edOf e (indOf d pl.path)]).map edD := by rw [List.map_append]; rfl
      refine sv_append (i := 8) (d := edD (edOf e (indOf d pl.path))) rfl (ev_call (X := Ed × Nat) (e, indOf d pl.path) (ea_cons (ev_var rfl) (ea1 (ev_call (X := List Ln × List Nat) (d, pl.path) (ea_cons (ev_var rfl) (ea1 (ev_pl2 (p := pl) (ev_var rfl)))) ⟨huse, by dsimp only; omega⟩))) ⟨he, hi⟩) (by rw [List.length_map]; omega) ?_
      rw [em]
      refine ⟨done ++ [pl], todo, es ++ [edOf e (indOf d pl.path)], _, _, rfl, by rw [hps2]; simp, by simp [hes], fun x hx => ?_, rfl⟩
      rcases List.mem_append.mp hx with hx | hx
      · exact hok x hx
      · rcases List.mem_singleton.mp hx with rfl
        exact ⟨g1, g2, g3⟩
  · obtain ⟨done, todo, es, s9, s12, e, hps2, hes, hok, rfl⟩ := hI
    cases todo with
    | cons a b => cases e
    | nil =>
      rw [List.append_nil] at hps2
      exact ⟨es, s9, s12, by rw [hes, hps2], hok, rfl⟩
  · obtain ⟨es, s9, s12, hes, hok, rfl⟩ := hc
    refine sv_appendMove (i := 4) (j := 8) (p := p) (q := q) (qs := aeQ st) (ds := es.map edD) (by decide) rfl rfl (by unfold aeQ; rw [List.length_map]; omega) ?_
    have em : aeQ st ++ [(q, es.map edD)] = aeQ (st ++ [(q, es)]) := by simp [aeQ]
    rw [em]
    exact hN q es s9 s12 hes hok
theorem ev__law_all_edits {K : PySem.W.Frag} {P : Addr} : pm__law_all_edits.Ok K P I0 H0 N__law_all_edits.length (t__law_all_edits K P) := fun x hx => by
  obtain ⟨ns, start, d, pss⟩ := x
  have h : AePre d pss := hx
  have hle := h.le
  refine sv_seq (sv_newL fun p => ?_)
  refine sv_cut (fun Γ' => ∃ (st : List (Addr × List Ed)) (s5 s8 s9 s12 : Slot), (st.map fun s => s.2.length) = pss.map List.length ∧ (∀ s ∈ st, ∀ e ∈ s.2, E30 e) ∧ Γ' = aeE ns start d pss p st s5 .emp .emp s8 s9 .emp .emp s12)
    (sv_for (ds := pss.map progD) (fun rest Γ' => ∃ (done todo : List (List PL)) (st : List (Addr × List Ed)) (s5 s8 s9 s12 : Slot), rest = todo.map progD ∧ pss = done ++ todo ∧ (st.map fun s => s.2.length) = done.map List.length ∧ (∀ s ∈ st, ∀ e ∈ s.2, E30 e) ∧ Γ' = aeE ns start d pss p st s5 .emp .emp s8 s9 .emp .emp s12) (ei_list (ev_var rfl)) ⟨[], pss, [], _, _, _, _, rfl, rfl, rfl, (fun s hs => by cases hs), rfl⟩ (fun x rest Γ' hI => ?_) (fun Γ' hI => ?_)) fun Γ' hc => ?_
  · obtain ⟨done, todo, st, s5, s8, s9, s12, e, hp2, hst, hok, rfl⟩ := hI
    cases todo with
    | nil => cases e
    | cons ps todo =>
      cases e
      have hstl : st.length = done.length := by
        have := congrArg List.length hst
        simpa using this
      have : done.length ≤ 1000 := by
        rw [hp2, List.length_append] at hle
        omega
      refine eg_name (ae_one h (by rw [hp2]; simp) (by omega) fun q es s9 s12 he1 he2 => ?_)
      refine ⟨done ++ [ps], todo, st ++ [(q, es)], _, _, _, _, rfl, by rw [hp2]; simp, by rw [List.map_append, List.map_append, hst]; simp [he1], fun s hs => ?_, rfl⟩
      rcases List.mem_append.mp hs with hs | hs
      · exact hok s hs
      · rcases List.mem_singleton.mp hs with rfl
        exact he2
  · obtain ⟨done, todo, st, s5, s8, s9, s12, e, hp2, hst, hok, rfl⟩ := hI
    cases todo with
    | cons a b => cases e
    | nil =>
      rw [List.append_nil] at hp2
      exact ⟨st, s5, s8, s9, s12, by rw [hst, hp2], hok, rfl⟩
  · obtain ⟨st, s5, s8, s9, s12, hst, hok, rfl⟩ := hc
    refine sv_seq (sv_asg (D := fun r => ∃ v : Nat, r = .dat (.int v)) (ev_callP (ea_consP (D := fun r => ∃ v : Int, r = .dat (.int v)) (ev_call (X := List Int × Int) (ns, (start : Int) + 20) (ea_cons (ev_var rfl) (ea1 (ev_add (ev_var rfl) ev_int))) (by show 0 ≤ (start : Int) + 20; omega)) ea_nil) fun l hl => ?_) fun r hr => ?_)
    · obtain ⟨r, rs, rfl, ⟨v, rfl⟩, rfl⟩ := hl
      exact ⟨v, rfl, trivial, fun r hr => hr⟩
    obtain ⟨c, rfl⟩ := hr
    have hpos := h.pos
    have hw : c / 3 % pss.length < pss.length := Nat.mod_lt _ hpos
    refine sv_seq (sv_asgE (d := .dat (.int ((c / 3 % pss.length : Nat) : Int))) (EvD.as (ev_mod (ev_fdiv (ev_var rfl) ev_int ⟨by decide, by decide⟩) (ev_callB (ea1 (ev_var rfl)) (rc_lenL.as (by rw [List.length_map]))) (by omega)) (by congr 1)) ?_)
    generalize hwe : c / 3 % pss.length = w at hw
    obtain ⟨ps, hps⟩ : ∃ ps, pss[w]? = some ps := ⟨pss[w], by simp [hw]⟩
    have hpsm := List.mem_of_getElem? hps
    have hgetP : (pss.map progD)[w]? = some (progD ps) := by rw [List.getElem?_map, hps]; rfl
    have fin : ∀ st' s6 s7 s10 s11, (st'.map fun s => s.2.length) = pss.map List.length → (∀ s ∈ st', ∀ e ∈ s.2, EdOk e) → EvS K P I0 H0 (tRet (tVar 4)) (aeE ns start d pss p st' s5 s6 s7 s8 s9 s10 s11 s12) (fun _ => pm__law_all_edits.post (ns, start, d, pss) (.dat .none)) (fun _ => pm__law_all_edits.post (ns, start, d, pss)) (fun _ => False) (fun _ => False) := fun st' s6 s7 s10 s11 g1 g2 => by
      refine sv_freezeL (i := 4) rfl ?_
      refine sv_retE (d := .dat (.list ((st'.map (·.2)).map edsD))) (ev_var ?_) ⟨st'.map (·.2), ?_, fun es hes e he => ?_, rfl⟩
      · show some (Slot.imm (.dat (.list ((aeQ st').map fun q => .list q.2)))) = _
        unfold aeQ
        rw [List.map_map, List.map_map]
        rfl
      · rw [List.map_map]
        exact g1
      · obtain ⟨s, hs, rfl⟩ := List.mem_map.mp hes
        exact g2 s hs e he
    refine sv_cut (fun Γ' => ∃ st' s6 s7 s10 s11, (st'.map fun s => s.2.length) = pss.map List.length ∧ (∀ s ∈ st', ∀ e ∈ s.2, EdOk e) ∧ Γ' = aeE ns start d pss p st' s5 s6 s7 s8 s9 s10 s11 s12)
      (sv_if (et_and (et_test (ev_eqI (ev_mod (ev_var rfl) ev_int (by decide)) ev_int)) fun _ => et_test (ev_gt (ev_callB (ea1 (ev_ixL (ev_var rfl) (ev_var rfl) (atI_of hgetP))) (rc_lenL.as (by rw [List.length_map]))) ev_int)) (fun q => ?_) (fun _ => sv_next ⟨st, _, _, _, _, hst, fun s hs e he => (hok s hs e he).ok, rfl⟩)) fun Γ' hc => ?_
    · have hpl : 0 < ps.length := by
        have := of_decide_eq_true (Bool.and_eq_true_iff.mp q).2
        omega
      have hm : c / 12 % ps.length < ps.length := Nat.mod_lt _ hpl
      refine sv_seq (sv_asgE (d := .dat (.int ((c / 12 % ps.length : Nat) : Int))) (EvD.as (ev_mod (ev_fdiv (ev_var rfl) ev_int ⟨by decide, by decide⟩) (ev_callB (ea1 (ev_ixL (ev_var rfl) (ev_var rfl) (atI_of hgetP))) (rc_lenL.as (by rw [List.length_map]))) (by omega)) (by congr 1)) ?_)
      generalize c / 12 % ps.length = m at hm
      obtain ⟨pl, hplg⟩ : ∃ pl, ps[m]? = some pl := ⟨ps[m], by simp [hm]⟩
      have hP : PlOk d pl := h.pl ps hpsm pl (List.mem_of_getElem? hplg)
      have hi := hP.ind h.gd
      have hpp := hP.path
      have hget2 : (ps.map plD)[m]? = some (plD pl) := by rw [List.getElem?_map, hplg]; rfl
      refine sv_seq (sv_asgE (ev_call (X := List Ln × List Nat) (d, pl.path) (ea_cons (ev_var rfl) (ea1 (ev_pl2 (p := pl) (ev_ixL (ev_ixL (ev_var rfl) (ev_var rfl) (atI_of hgetP)) (ev_var rfl) (atI_of hget2))))) ⟨hP.ok.path, by dsimp only; omega⟩) ?_)
      -- the list of edits at w
      have hsw : ∃ s, st[w]? = some s ∧ s.2.length = ps.length := by
        have e1 : (st.map fun s => s.2.length)[w]? = (pss.map List.length)[w]? := by rw [hst]
        rw [List.getElem?_map, List.getElem?_map, hps] at e1
        cases q : st[w]? with
        | none =>
          rw [q] at e1
          cases e1
        | some s =>
          rw [q] at e1
          exact ⟨s, rfl, Option.some.inj e1⟩
      obtain ⟨s, hs1, hs2⟩ := hsw
      obtain ⟨l, r, rfl, hlw⟩ := split_at hs1
      obtain ⟨qa, es⟩ := s
      obtain ⟨ed, hed⟩ : ∃ ed, es[m]? = some ed := by
        have : m < es.length := by
          have hs2 : es.length = ps.length := hs2
          omega
        exact ⟨es[m], by simp [this]⟩
      have he30 : E30 ed := hok (qa, es) (by simp) ed (List.mem_of_getElem? hed)
      have eq1 : aeQ (l ++ (qa, es) :: r) = aeQ l ++ (qa, es.map edD) :: aeQ r := by simp [aeQ]
      refine sv_setLLP (i := 4) (p := p) (q := qa) (l := aeQ l) (r := aeQ r) (ds := es.map edD) (m := m) (D := fun r => ∃ e, EdOk e ∧ r = .dat (edD e)) (by rw [← eq1]; rfl) (ev_call (X := Ed × Nat × Nat) (ed, c / 1000, indOf d pl.path) (ea_cons (ev_ixLL (i := 4) (p := p) (qs := aeQ (l ++ (qa, es) :: r)) (k := w) (m := m) (q := qa) (ds := es.map edD) (d := edD ed) rfl (ev_var rfl) (ev_var rfl) ?_ (by rw [List.getElem?_map, hed]; rfl)) (ea_cons (EvD.as (ev_fdiv (ev_var rfl) ev_int ⟨by decide, by decide⟩) (by congr 1)) (ea1 (ev_var rfl)))) ⟨he30.txt, he30.ah, he30.be, hi⟩) (EvD.as (ev_var rfl) (by rw [← hlw]; simp [aeQ])) (ev_var rfl) (by rw [List.length_map]; have hs2 : es.length = ps.length := hs2; omega) fun x hx => ?_
      · rw [eq1, List.getElem?_append_right (by simp [aeQ]; omega)]
        simp [aeQ, hlw]
      · obtain ⟨e', he', rfl⟩ := hx
        refine ⟨edD e', rfl, l ++ (qa, es.set m e') :: r, .imm (.dat (.int (c : Nat))), .imm (.dat (.int (w : Nat))), .imm (.dat (.int (m : Nat))), .imm (.dat (.int (indOf d pl.path : Nat))), ?_, fun s hs e he => ?_, ?_⟩
        · rw [← hst]
          simp
        · rcases List.mem_append.mp hs with hs | hs
          · exact (hok s (List.mem_append_left _ hs) e he).ok
          · rcases List.mem_cons.mp hs with rfl | hs
            · rcases List.mem_or_eq_of_mem_set he with he | rfl
              · exact (hok (qa, es) (by simp) e he).ok
              · exact he'
            · exact (hok s (by simp [hs]) e he).ok
        · have eq2 : aeQ l ++ (qa, (es.map edD).set m (edD e')) :: aeQ r = aeQ (l ++ (qa, es.set m e') :: r) := by simp [aeQ, List.map_set]
          rw [eq2]
          rfl
    · obtain ⟨st', s6, s7, s10, s11, g1, g2, rfl⟩ := hc
      exact fin st' s6 s7 s10 s11 g1 g2
theorem ok__law_all_edits {Pr : Program} {w : World} {K : PySem.W.Frag} {mg : Str → Option Value} {base : Heap} {P : Addr} {f : Addr} {fd : FuncData} (F : L2.Fun K "_law_all_edits" "_law_all_edits" s__law_all_edits f fd) (T : Txt mg) (C__law_broken : C8.Cal Pr w K mg base 1 "_law_broken" (pm__law_broken.sp K P) []) (C__law_indent : C8.Cal Pr w K mg base 1 "_law_indent" (pm__law_indent.sp K P) []) (C__law_big : C8.Cal Pr w K mg base 2 "_law_big" (pm__law_big.sp K P) []) (C__law_cell : C8.Cal Pr w K mg base 1 "_law_cell" (pm__law_cell.sp K P) []) (C__law_edit : C8.Cal Pr w K mg base 2 "_law_edit" (pm__law_edit.sp K P) []) (C__law_fate : C8.Cal Pr w K mg base 2 "_law_fate" (pm__law_fate.sp K P) []) (C__law_is_first : C8.Cal Pr w K mg base 1 "_law_is_first" (pm__law_is_first.sp K P) []) : FnOk Pr w K mg base CX0 3 f fd ["_law_script", "_law_start", "_law_document_here", "_law_programs"] (pm__law_all_edits.sp K P) := by
  have nd := sc__law_all_edits.nd
  refine Fun.pure F sc__law_all_edits (fun _ => rfl) fun cdv A outer s H E hr => ⟨t__law_all_edits K P, ?_, fun x hx _ _ => ev__law_all_edits x hx⟩
  exact (pss_cons (ps_set (i := 4) nd rfl (by first | exact Or.inl rfl | exact Or.inr rfl) (pe_lst pa_nil)) (pss_cons (ps_for PassesOwn.never rfl (pi_list (pv 3)) (pg_name (i := 5) nd rfl (by first | exact Or.inl rfl | exact Or.inr rfl)) (pss_cons (ps_set (i := 8) nd rfl (by first | exact Or.inl rfl | exact Or.inr rfl) (pe_lst pa_nil)) (pss_cons (ps_for PassesOwn.never rfl (pi_list (pv 5)) (pg_name (i := 9) nd rfl (by first | exact Or.inl rfl | exact Or.inr rfl)) (pss_cons (ps_set (i := 12) nd rfl (by first | exact Or.inl rfl | exact Or.inr rfl) (C8.pe_c C__law_fate hr (by decide) rfl (pa_cons (C8.pe_c C__law_cell hr (by decide) rfl (pa_cons (pv 0) (pa_cons (pe_op op_add (pv 1) (pe_op op_mod (pe_ix ix_tup (pv 9) pe_int (fun _ _ => rfl)) pe_int)) pa_nil))) (pa_cons (C8.pe_c C__law_is_first hr (by decide) rfl (pa_cons (pv 2) (pa_cons (pe_ix ix_tup (pv 9) pe_int (fun _ _ => rfl)) pa_nil))) pa_nil)))) (pss_one (ps_expr (pe_bm PySem.F.plainAttrs_list PySem.F.slot_list_append PySem.F.type_list_append mt_append (pv 8) (pa_cons (C8.pe_c C__law_edit hr (by decide) rfl (pa_cons (pv 12) (pa_cons (C8.pe_c C__law_indent hr (by decide) rfl (pa_cons (pv 2) (pa_cons (pe_ix ix_tup (pv 9) pe_int (fun _ _ => rfl)) pa_nil))) pa_nil))) pa_nil)))))) (pss_one (ps_expr (pe_bm PySem.F.plainAttrs_list PySem.F.slot_list_append PySem.F.type_list_append mt_append (pv 4) (pa_cons (pv 8) pa_nil))))))) (pss_cons (ps_set (i := 6) nd rfl (by first | exact Or.inl rfl | exact Or.inr rfl) (C8.pe_c C__law_big hr (by decide) rfl (pa_cons (C8.pe_c C__law_cell hr (by decide) rfl (pa_cons (pv 0) (pa_cons (pe_op op_add (pv 1) pe_int) pa_nil))) pa_nil))) (pss_cons (ps_set (i := 7) nd rfl (by first | exact Or.inl rfl | exact Or.inr rfl) (pe_op op_mod (pe_op op_fdiv (pv 6) pe_int) (pe_callB (r := rLen K) call_len rfl T.len PySem.boot_len (pa_cons (pv 3) pa_nil)))) (pss_cons (ps_if (PW.pt (pw_and (pt_cmpR op_eq (pe_op op_mod (pv 6) pe_int) pe_int (nomark _)) (pw_and1 (pt_cmpR op_gt (pe_callB (r := rLen K) call_len rfl T.len PySem.boot_len (pa_cons (pe_ix ix_list (pv 3) (pv 7) (fun _ _ => rfl)) pa_nil)) pe_int (nomark _))))) (pss_cons (ps_set (i := 10) nd rfl (by first | exact Or.inl rfl | exact Or.inr rfl) (pe_op op_mod (pe_op op_fdiv (pv 6) pe_int) (pe_callB (r := rLen K) call_len rfl T.len PySem.boot_len (pa_cons (pe_ix ix_list (pv 3) (pv 7) (fun _ _ => rfl)) pa_nil)))) (pss_cons (ps_set (i := 11) nd rfl (by first | exact Or.inl rfl | exact Or.inr rfl) (C8.pe_c C__law_indent hr (by decide) rfl (pa_cons (pv 2) (pa_cons (pe_ix ix_tup (pe_ix ix_list (pe_ix ix_list (pv 3) (pv 7) (fun _ _ => rfl)) (pv 10) (fun _ _ => rfl)) pe_int (fun _ _ => rfl)) pa_nil)))) (pss_one (ps_asg (C8.pe_c C__law_broken hr (by decide) rfl (pa_cons (pe_ix ix_list (pe_ix ix_list (pv 4) (pv 7) (fun _ _ => rfl)) (pv 10) (fun _ _ => rfl)) (pa_cons (pe_op op_fdiv (pv 6) pe_int) (pa_cons (pv 11) pa_nil)))) (pg_sub (pe_ix ix_list (pv 4) (pv 7) (fun _ _ => rfl)) (pv 10) set_list))))) pss_nil) (pss_one (ps_ret (pv 4))))))))
end Wf
/-! The law's due. -/
namespace Wf
open PySem L2
def rfD (r : Rf) : PyData := .tuple [.str r.root, .int r.at_, .str (whS r.what), .str r.oroot, .int r.other]
theorem whS_ne (w : Wh) : decide (whS w = "") = false := by cases w <;> decide +kernel
theorem putD_new {es : List (Key × PyData)} {k : Key} {v : PyData} (h : valD es k = none) : putD es k v = es ++ [(k, v)] := by
  unfold putD
  rw [if_neg]
  intro c
  obtain ⟨q, hq, e⟩ := List.any_eq_true.mp c
  unfold valD at h
  cases hf : es.find? fun q => decide (q.1 = k) with
  | none =>
    have := List.find?_eq_none.mp hf q hq
    exact this e
  | some x =>
    rw [hf] at h
    cases h
theorem lkD_put {k : Known} {a : Nat} {f : KE} (h : kget k a = none) : putD (lkD k) (.inl (a : Int)) (lkV f) = lkD (k ++ [(a, f)]) := by
  rw [putD_new (by rw [lkD_get, h]; rfl)]
  unfold lkD
  rw [List.map_append]
  rfl
structure BdPre (d : List Ln) (roots : List Str) (pss : List (List PL)) (ess : List (List Ed)) : Prop where
  gd : GD d 300
  pl : ∀ ps ∈ pss, ∀ p ∈ ps, PlOk d p
  len : ∀ ps ∈ pss, ps.length ≤ 2000
  np : pss.length = roots.length
  ne : ess.map List.length = pss.map List.length
  ed : ∀ es ∈ ess, ∀ e ∈ es, EdOk e
  le : roots.length ≤ 10
def resD : Except Rf Known → DD
  | .ok k => .dic (lkD k)
  | .error r => .dat (rfD r)
abbrev s__law_build_due : Stmt := topS 72
abbrev N__law_build_due : List Str := ["_law_document_here", "_law_roots_here", "_law_programs", "_law_edits", "_law_known", "_law_k", "_law_at", "_law_line_here", "_law_indent_here", "_law_edit_here", "_law_text_here", "_law_fate_here"]
theorem sc__law_build_due : FnScope N__law_build_due ["_law_document_here", "_law_roots_here", "_law_programs", "_law_edits"] (defScope s__law_build_due) := ⟨rfl, rfl, rfl, by decide +kernel, rfl, by decide +kernel, by decide +kernel⟩
def t__law_build_due (K : PySem.W.Frag) (P : Addr) : TS :=
  (tSeq (tAsg tDNewK (gName 4)) (tSeq (tFor (iRng1 (tCons (tCB (rLen K) (tCons (tVar 1) tNil)) tNil)) (gName 5) (tFor (iRng1 (tCons (tCB (rLen K) (tCons (tOp (rIxL K) (tVar 2) (tVar 5)) tNil)) tNil)) (gName 6) (tSeq (tAsg (tOp (rIxT K) (tOp (rIxL K) (tOp (rIxL K) (tVar 2) (tVar 5)) (tVar 6)) (tC (.int 1))) (gName 7)) (tSeq (tAsg (tCall (pm__law_indent.sp K P) [] E0 (tCons (tVar 0) (tCons (tOp (rIxT K) (tOp (rIxL K) (tOp (rIxL K) (tVar 2) (tVar 5)) (tVar 6)) (tC (.int 2))) tNil))) (gName 8)) (tSeq (tAsg (tOp (rIxL K) (tOp (rIxL K) (tVar 3) (tVar 5)) (tVar 6)) (gName 9)) (tSeq (tIfS (tAnd (tTest (tOp rGtI (tCB (rLen K) (tCons (tOp (rIxT K) (tVar 9) (tC (.int 0))) tNil)) (tC (.int 0)))) (tNot (tB (tCall (pm__law_is_first.sp K P) [] E0 (tCons (tVar 0) (tCons (tVar 7) tNil)))))) (tRet (tTup (tCons (tOp (rIxL K) (tVar 1) (tVar 5)) (tCons (tVar 6) (tCons (tC (.str "place")) (tCons (tC (.str "")) (tCons (tUn (rU fun i => .int (-i)) (tC (.int 1))) tNil))))))) tNext) (tSeq (tFor (iList K (tCall (pm__law_texts.sp K P) [] E0 (tCons (tVar 9) tNil))) (gName 10) (tIfS (tTest (tOp rNe (tCall (pm__law_fault.sp K P) [] E0 (tCons (tVar 10) (tCons (tVar 8) tNil))) (tC (.str "")))) (tRet (tTup (tCons (tOp (rIxL K) (tVar 1) (tVar 5)) (tCons (tVar 6) (tCons (tCall (pm__law_fault.sp K P) [] E0 (tCons (tVar 10) (tCons (tVar 8) tNil))) (tCons (tC (.str "")) (tCons (tUn (rU fun i => .int (-i)) (tC (.int 1))) tNil))))))) tNext)) (tSeq (tAsg (tCall (pm__law_back.sp K P) [] E0 (tCons (tVar 9) (tCons (tVar 8) (tCons (tOp (rIxT K) (tOp (rIxT K) (tVar 0) (tVar 7)) (tC (.int 1))) tNil)))) (gName 11)) (tIfS (tB (tDNotIn (tVar 7) (tVar 4))) (sDPut (tVar 4) (tVar 7) (tTup (tCons (tVar 11) (tCons (tOp (rIxL K) (tVar 1) (tVar 5)) (tCons (tVar 6) tNil))))) (tIfS (tTest (tOp (rNeP K) (tOp (rIxT K) (tDGet (tVar 4) (tVar 7)) (tC (.int 0))) (tVar 11))) (tRet (tTup (tCons (tOp (rIxL K) (tVar 1) (tVar 5)) (tCons (tVar 6) (tCons (tC (.str "apart")) (tCons (tOp (rIxT K) (tDGet (tVar 4) (tVar 7)) (tC (.int 1))) (tCons (tOp (rIxT K) (tDGet (tVar 4) (tVar 7)) (tC (.int 2))) tNil))))))) tNext)))))))))) (tRet (tVar 4))))
def pm__law_build_due : Pm := ⟨List Ln × List Str × List (List PL) × List (List Ed), fun x => [.dat (docD x.1), .dat (.list (x.2.1.map .str)), .dat (.list (x.2.2.1.map progD)), .dat (.list (x.2.2.2.map edsD))], fun x => BdPre x.1 x.2.1 x.2.2.1 x.2.2.2,
  fun x r => r = resD (agAll x.1 x.2.1 x.2.2.1 x.2.2.2 [])⟩
abbrev bdE (d : List Ln) (roots : List Str) (pss : List (List PL)) (ess : List (List Ed)) (p : Addr) (k : Known) (s5 s6 s7 s8 s9 s10 s11 : Slot) : Env := [.imm (.dat (docD d)), .imm (.dat (.list (roots.map .str))), .imm (.dat (.list (pss.map progD))), .imm (.dat (.list (ess.map edsD))), .ownD p (lkD k), s5, s6, s7, s8, s9, s10, s11]
theorem faultL_cons (t : Str) (ts : List Str) (i : Nat) : faultL (t :: ts) i = match fault t i with | some w => some w | none => faultL ts i := by
  unfold faultL
  rw [List.findSome?_cons]
  cases fault t i <;> rfl
/-- one line of one program -/
theorem bd_one {K : PySem.W.Frag} {P : Addr} {d : List Ln} {roots : List Str} {pss : List (List PL)} {ess : List (List Ed)} {p : Addr} {k : Known} {s7 s8 s9 s10 s11 : Slot} {i j : Nat} {root : Str} {ps : List PL} {es : List Ed} {pl : PL} {e : Ed} {N B C : Env → Prop} {R : Env → DD → Prop}
    (hd : GD d 300) (hr : roots[i]? = some root) (hps : pss[i]? = some ps) (hes : ess[i]? = some es) (hpl : ps[j]? = some pl) (he : es[j]? = some e) (hP : PlOk d pl) (hE : EdOk e) (hk : k.length < 100000)
    (hN : ∀ k' s7 s8 s9 s10 s11, agStep d root j pl e k = .ok k' → k'.length ≤ k.length + 1 → N (bdE d roots pss ess p k' (.imm (.dat (.int (i : Nat)))) (.imm (.dat (.int (j : Nat)))) s7 s8 s9 s10 s11))
    (hR : ∀ r Γ', agStep d root j pl e k = .error r → R Γ' (.dat (rfD r))) :
    EvS K P I0 H0 (tSeq (tAsg (tOp (rIxT K) (tOp (rIxL K) (tOp (rIxL K) (tVar 2) (tVar 5)) (tVar 6)) (tC (.int 1))) (gName 7)) (tSeq (tAsg (tCall (pm__law_indent.sp K P) [] E0 (tCons (tVar 0) (tCons (tOp (rIxT K) (tOp (rIxL K) (tOp (rIxL K) (tVar 2) (tVar 5)) (tVar 6)) (tC (.int 2))) tNil))) (gName 8)) (tSeq (tAsg (tOp (rIxL K) (tOp (rIxL K) (tVar 3) (tVar 5)) (tVar 6)) (gName 9)) (tSeq (tIfS (tAnd (tTest (tOp rGtI (tCB (rLen K) (tCons (tOp (rIxT K) (tVar 9) (tC (.int 0))) tNil)) (tC (.int 0)))) (tNot (tB (tCall (pm__law_is_first.sp K P) [] E0 (tCons (tVar 0) (tCons (tVar 7) tNil)))))) (tRet (tTup (tCons (tOp (rIxL K) (tVar 1) (tVar 5)) (tCons (tVar 6) (tCons (tC (.str "place")) (tCons (tC (.str "")) (tCons (tUn (rU fun i => .int (-i)) (tC (.int 1))) tNil))))))) tNext) (tSeq (tFor (iList K (tCall (pm__law_texts.sp K P) [] E0 (tCons (tVar 9) tNil))) (gName 10) (tIfS (tTest (tOp rNe (tCall (pm__law_fault.sp K P) [] E0 (tCons (tVar 10) (tCons (tVar 8) tNil))) (tC (.str "")))) (tRet (tTup (tCons (tOp (rIxL K) (tVar 1) (tVar 5)) (tCons (tVar 6) (tCons (tCall (pm__law_fault.sp K P) [] E0 (tCons (tVar 10) (tCons (tVar 8) tNil))) (tCons (tC (.str "")) (tCons (tUn (rU fun i => .int (-i)) (tC (.int 1))) tNil))))))) tNext)) (tSeq (tAsg (tCall (pm__law_back.sp K P) [] E0 (tCons (tVar 9) (tCons (tVar 8) (tCons (tOp (rIxT K) (tOp (rIxT K) (tVar 0) (tVar 7)) (tC (.int 1))) tNil)))) (gName 11)) (tIfS (tB (tDNotIn (tVar 7) (tVar 4))) (sDPut (tVar 4) (tVar 7) (tTup (tCons (tVar 11) (tCons (tOp (rIxL K) (tVar 1) (tVar 5)) (tCons (tVar 6) tNil))))) (tIfS (tTest (tOp (rNeP K) (tOp (rIxT K) (tDGet (tVar 4) (tVar 7)) (tC (.int 0))) (tVar 11))) (tRet (tTup (tCons (tOp (rIxL K) (tVar 1) (tVar 5)) (tCons (tVar 6) (tCons (tC (.str "apart")) (tCons (tOp (rIxT K) (tDGet (tVar 4) (tVar 7)) (tC (.int 1))) (tCons (tOp (rIxT K) (tDGet (tVar 4) (tVar 7)) (tC (.int 2))) tNil))))))) tNext))))))))
      (bdE d roots pss ess p k (.imm (.dat (.int (i : Nat)))) (.imm (.dat (.int (j : Nat)))) s7 s8 s9 s10 s11) N R B C := by
  have gr : (roots.map PyData.str)[i]? = some (.str root) := by rw [List.getElem?_map, hr]; rfl
  have gp : (pss.map progD)[i]? = some (progD ps) := by rw [List.getElem?_map, hps]; rfl
  have ge : (ess.map edsD)[i]? = some (edsD es) := by rw [List.getElem?_map, hes]; rfl
  have gl : (ps.map plD)[j]? = some (plD pl) := by rw [List.getElem?_map, hpl]; rfl
  have gd' : (es.map edD)[j]? = some (edD e) := by rw [List.getElem?_map, he]; rfl
  obtain ⟨t, ht, _⟩ := hP.ok.code
  obtain ⟨b1, b2⟩ := hP.at_ hd
  have hi := hP.ind hd
  have hpp := hP.path
  have eown : ownT d pl.line = t := by
    unfold ownT
    rw [ht]
  refine sv_seq (sv_asgE (ev_pl1 (p := pl) (ev_ixL (ev_ixL (ev_var rfl) (ev_var rfl) (atI_of gp)) (ev_var rfl) (atI_of gl))) ?_)
  refine sv_seq (sv_asgE (ev_call (X := List Ln × List Nat) (d, pl.path) (ea_cons (ev_var rfl) (ea1 (ev_pl2 (p := pl) (ev_ixL (ev_ixL (ev_var rfl) (ev_var rfl) (atI_of gp)) (ev_var rfl) (atI_of gl))))) ⟨hP.ok.path, by dsimp only; omega⟩) ?_)
  refine sv_seq (sv_asgE (ev_ixL (ev_ixL (ev_var rfl) (ev_var rfl) (atI_of ge)) (ev_var rfl) (atI_of gd')) ?_)
  have hlenA : decide ((0 : Int) < (e.ahead.length : Int)) = decide (e.ahead ≠ []) := by
    cases e.ahead with
    | nil => rfl
    | cons a b =>
      rw [decide_eq_true (by rw [List.length_cons]; omega), decide_eq_true (by simp)]
  refine sv_seq (sv_if (et_and (et_test (ev_gt (ev_callB (ea1 (ev_ed0 (e := e) (ev_var rfl))) (rc_lenT.as (by rw [List.length_map]))) ev_int)) fun _ => et_not (et_B (ev_call (X := List Ln × Nat) (d, pl.line) (ea_cons (ev_var rfl) (ea1 (ev_var rfl))) ⟨b1, b2⟩))) (fun q => ?_) (fun q => sv_next ?_))
  · rw [hlenA] at q
    have q1 := Bool.and_eq_true_iff.mp q
    have c1 : e.ahead ≠ [] ∧ isFirst d pl.line = false := ⟨of_decide_eq_true q1.1, by simpa using q1.2⟩
    have hs : agStep d root j pl e k = .error ⟨root, j, .place, Str.empty, -1⟩ := by
      unfold agStep said
      rw [if_pos c1]
    refine sv_retE (d := .dat (rfD ⟨root, j, .place, Str.empty, -1⟩)) (ev_tup (ds := [.str root, .int (j : Nat), .str "place", .str Str.empty, .int (-1)]) (ea_cons (ev_ixL (ev_var rfl) (ev_var rfl) (atI_of gr)) (ea_cons (ev_var rfl) (ea_cons ev_str (ea_cons (by rw [← e0]; exact ev_str) (ea1 (ev_neg ev_int))))))) (hR _ _ hs)
  have hnp : ¬ (e.ahead ≠ [] ∧ isFirst d pl.line = false) := fun c => by
    rw [hlenA, decide_eq_true c.1, c.2] at q
    cases q
  have hsaid : ∀ w, faultE e (indOf d pl.path) = some w → agStep d root j pl e k = .error ⟨root, j, w, Str.empty, -1⟩ := fun w hw => by
    unfold agStep said
    rw [if_neg hnp, hw]
  refine sv_cut (fun Γ' => ∃ s10, faultE e (indOf d pl.path) = none ∧ Γ' = bdE d roots pss ess p k (.imm (.dat (.int (i : Nat)))) (.imm (.dat (.int (j : Nat)))) (.imm (.dat (.int (pl.line : Nat)))) (.imm (.dat (.int (indOf d pl.path : Nat)))) (.imm (.dat (edD e))) s10 s11)
    (sv_for (ds := (textsOf e).map PyData.str) (fun rest Γ' => ∃ (todo : List Str) (s10 : Slot), rest = todo.map PyData.str ∧ faultL todo (indOf d pl.path) = faultE e (indOf d pl.path) ∧ (∀ t ∈ todo, EtOk t) ∧ Γ' = bdE d roots pss ess p k (.imm (.dat (.int (i : Nat)))) (.imm (.dat (.int (j : Nat)))) (.imm (.dat (.int (pl.line : Nat)))) (.imm (.dat (.int (indOf d pl.path : Nat)))) (.imm (.dat (edD e))) s10 s11) (ei_list (ev_call (X := Ed) e (ea1 (ev_var rfl)) hE)) ⟨textsOf e, _, rfl, rfl, hE.txt, rfl⟩ (fun x rest Γ' hI => ?_) (fun Γ' hI => ?_)) fun Γ' hc => ?_
  · obtain ⟨todo, s10, ee, hf, hok, rfl⟩ := hI
    cases todo with
    | nil => cases ee
    | cons u todo =>
      cases ee
      have hu := hok u List.mem_cons_self
      rw [faultL_cons] at hf
      have fev : ∀ Γ, Γ = bdE d roots pss ess p k (.imm (.dat (.int (i : Nat)))) (.imm (.dat (.int (j : Nat)))) (.imm (.dat (.int (pl.line : Nat)))) (.imm (.dat (.int (indOf d pl.path : Nat)))) (.imm (.dat (edD e))) (.imm (.dat (.str u))) s11 → EvD K P (tCall (pm__law_fault.sp K P) [] E0 (tCons (tVar 10) (tCons (tVar 8) tNil))) Γ (.str (whO (fault u (indOf d pl.path)))) := fun Γ hΓ => by
        subst hΓ
        exact ev_call (X := Str × Nat) (u, indOf d pl.path) (ea_cons (ev_var rfl) (ea1 (ev_var rfl))) ⟨hu, by dsimp only; omega⟩
      refine eg_name (sv_if (et_test (ev_neS (fev _ rfl) ev_str)) (fun q2 => ?_) (fun q2 => sv_next ?_))
      · cases c : fault u (indOf d pl.path) with
        | none =>
          rw [c] at q2
          cases q2
        | some w =>
          rw [c] at hf
          have fv := fev _ rfl
          rw [c] at fv
          refine sv_retE (d := .dat (rfD ⟨root, j, w, Str.empty, -1⟩)) (ev_tup (ds := [.str root, .int (j : Nat), .str (whS w), .str Str.empty, .int (-1)]) (ea_cons (ev_ixL (ev_var rfl) (ev_var rfl) (atI_of gr)) (ea_cons (ev_var rfl) (ea_cons fv (ea_cons (by rw [← e0]; exact ev_str) (ea1 (ev_neg ev_int))))))) (hR _ _ (hsaid w hf.symm))
      · cases c : fault u (indOf d pl.path) with
        | none =>
          rw [c] at hf
          exact ⟨todo, _, rfl, hf, fun t ht => hok t (List.mem_cons_of_mem _ ht), rfl⟩
        | some w =>
          rw [c] at q2
          have q3 : (!decide (whS w = "")) = false := q2
          rw [whS_ne] at q3
          cases q3
  · obtain ⟨todo, s10, ee, hf, hok, rfl⟩ := hI
    cases todo with
    | cons a b => cases ee
    | nil => exact ⟨s10, hf.symm, rfl⟩
  obtain ⟨s10, hf, rfl⟩ := hc
  have hsaid2 : said d pl e = .ok (back e (indOf d pl.path) t) := by
    unfold said
    rw [if_neg hnp, hf, eown]
  refine sv_seq (sv_asgE (ev_call (X := Ed × Nat × Str) (e, indOf d pl.path, t) (ea_cons (ev_var rfl) (ea_cons (ev_var rfl) (ea1 (ev_ln1 (l := .code t) (ev_docAt (ev_var rfl) (ev_var rfl) ht) rfl)))) ⟨hE, by dsimp only; omega⟩) ?_)
  have key := lkD_get k pl.line
  cases c : kget k pl.line with
  | none =>
    rw [c] at key
    refine sv_if (et_B (ev_dnotinOwn (i := 4) (p := p) (es := lkD k) (n := .int (pl.line : Nat)) (y := .inl (pl.line : Int)) (ev_var rfl) rfl key_int)) (fun q2 => ?_) (fun q2 => ?_)
    · refine sv_dput (i := 4) (p := p) (es := lkD k) (n := .int (pl.line : Nat)) (y := .inl (pl.line : Int)) (d := lkV (back e (indOf d pl.path) t, root, j)) rfl (ev_tup (ds := [edD (back e (indOf d pl.path) t), .str root, .int (j : Nat)]) (ea_cons (ev_var rfl) (ea_cons (ev_ixL (ev_var rfl) (ev_var rfl) (atI_of gr)) (ea1 (ev_var rfl))))) (ev_var rfl) key_int (by unfold lkD; rw [List.length_map]; exact hk) ?_
      rw [lkD_put c]
      refine hN _ _ _ _ _ _ ?_ (by simp)
      unfold agStep
      rw [hsaid2]
      dsimp only
      rw [c]
    · rw [key] at q2
      cases q2
  | some g =>
    rw [c] at key
    have gv : ∀ Γ, Γ[4]? = some (.ownD p (lkD k)) → Γ[7]? = some (.imm (.dat (.int (pl.line : Nat)))) → EvD K P (tDGet (tVar 4) (tVar 7)) Γ (lkV g) := fun Γ g1 g2 => ev_dgetOwn (i := 4) (p := p) (es := lkD k) (n := .int (pl.line : Nat)) (y := .inl (pl.line : Int)) g1 (ev_var g2) key_int key
    refine sv_if (et_B (ev_dnotinOwn (i := 4) (p := p) (es := lkD k) (n := .int (pl.line : Nat)) (y := .inl (pl.line : Int)) (ev_var rfl) rfl key_int)) (fun q2 => ?_) (fun q2 => ?_)
    · rw [key] at q2
      cases q2
    refine sv_if (et_test (ev_edNe (e := g.1) (f := back e (indOf d pl.path) t) (ev_ixT (ds := [edD g.1, .str g.2.1, .int g.2.2]) (gv _ rfl rfl) ev_int rfl) (ev_var rfl))) (fun q3 => ?_) (fun q3 => sv_next ?_)
    · have hne : ¬ g.1 = back e (indOf d pl.path) t := of_decide_eq_false (by simpa using q3)
      refine sv_retE (d := .dat (rfD ⟨root, j, .apart, g.2.1, g.2.2⟩)) (ev_tup (ds := [.str root, .int (j : Nat), .str "apart", .str g.2.1, .int (g.2.2 : Nat)]) (ea_cons (ev_ixL (ev_var rfl) (ev_var rfl) (atI_of gr)) (ea_cons (ev_var rfl) (ea_cons ev_str (ea_cons (ev_ixT (ds := [edD g.1, .str g.2.1, .int g.2.2]) (gv _ rfl rfl) ev_int rfl) (ea1 (ev_ixT (ds := [edD g.1, .str g.2.1, .int g.2.2]) (gv _ rfl rfl) ev_int rfl))))))) (hR _ _ ?_)
      unfold agStep
      rw [hsaid2]
      dsimp only
      rw [c]
      dsimp only
      rw [if_neg hne]
    · have heq : g.1 = back e (indOf d pl.path) t := of_decide_eq_true (by simpa using q3)
      refine hN k _ _ _ _ _ ?_ (by omega)
      unfold agStep
      rw [hsaid2]
      dsimp only
      rw [c]
      dsimp only
      rw [if_pos heq]
theorem ev__law_build_due {K : PySem.W.Frag} {P : Addr} : pm__law_build_due.Ok K P I0 H0 N__law_build_due.length (t__law_build_due K P) := fun x hx => by
  obtain ⟨d, roots, pss, ess⟩ := x
  have h : BdPre d roots pss ess := hx
  have hle := h.le
  have hne2 : ess.length = pss.length := by
    have := congrArg List.length h.ne
    simpa using this
  refine sv_seq (sv_newD fun p => ?_)
  refine sv_seq (sv_for (ds := (List.range' 0 roots.length).map fun i => PyData.int (i : Nat)) (fun rest Γ' => ∃ (i m : Nat) (rs : List Str) (qs : List (List PL)) (es : List (List Ed)) (k : Known) (s5 s6 s7 s8 s9 s10 s11 : Slot), rest = ((List.range' i m).map fun i => PyData.int (i : Nat)) ∧ rs.length = m ∧ (∃ pre, roots = pre ++ rs ∧ pre.length = i) ∧ (∃ pre, pss = pre ++ qs ∧ pre.length = i) ∧ (∃ pre, ess = pre ++ es ∧ pre.length = i) ∧ agAll d rs qs es k = agAll d roots pss ess [] ∧ k.length ≤ 2000 * i ∧
    Γ' = bdE d roots pss ess p k s5 s6 s7 s8 s9 s10 s11) ?_ ⟨0, roots.length, roots, pss, ess, [], _, _, _, _, _, _, _, rfl, rfl, ⟨[], rfl, rfl⟩, ⟨[], rfl, rfl⟩, ⟨[], rfl, rfl⟩, rfl, Nat.le_refl _, rfl⟩ (fun x rest Γ' hI => ?_) (fun Γ' hI => ?_))
  · have := ei_range1 (K := K) (P := P) (Γ := ((startE N__law_build_due.length [.dat (docD d), .dat (.list (roots.map .str)), .dat (.list (pss.map progD)), .dat (.list (ess.map edsD))]).set 4 (.ownD p []))) (te := tCB (rLen K) (tCons (tVar 1) tNil)) (n := (roots.length : Int)) (ev_callB (ea1 (ev_var rfl)) (rc_lenL.as (by simp))) (by omega) (by omega)
    rw [rangeD_eq] at this
    exact this
  · obtain ⟨i, m, rs, qs, es, k, s5, s6, s7, s8, s9, s10, s11, e, hm, ⟨pr, hpr, hprl⟩, ⟨pp, hpp, hppl⟩, ⟨pe, hpe, hpel⟩, hag, hkl, rfl⟩ := hI
    have l1 : roots.length = i + rs.length := by rw [hpr, List.length_append, hprl]
    have l2 : pss.length = i + qs.length := by rw [hpp, List.length_append, hppl]
    have l3 : ess.length = i + es.length := by rw [hpe, List.length_append, hpel]
    have hnp := h.np
    cases rs with
    | nil =>
      subst hm
      cases e
    | cons root rs =>
      cases qs with
      | nil => simp at l1 l2; omega
      | cons ps qs =>
        cases es with
        | nil => simp at l1 l2 l3; omega
        | cons ed es =>
          subst hm
          rw [List.length_cons, rangeD_cons] at e
          cases e
          have gr : roots[i]? = some root := by rw [hpr, ← hprl]; simp
          have gp : pss[i]? = some ps := by rw [hpp, ← hppl]; simp
          have ge : ess[i]? = some ed := by rw [hpe, ← hpel]; simp
          have hi10 : i < 10 := by rw [List.length_cons] at l1; omega
          have hlen : ed.length = ps.length := by
            have e1 : (ess.map List.length)[i]? = (pss.map List.length)[i]? := by rw [h.ne]
            rw [List.getElem?_map, List.getElem?_map, ge, gp] at e1
            exact Option.some.inj e1
          have hpsl := h.len ps (List.mem_of_getElem? gp)
          refine eg_name ?_
          refine sv_for (ds := (List.range' 0 ps.length).map fun i => PyData.int (i : Nat)) (fun rest Γ' => ∃ (j m : Nat) (a2 : List PL) (b2 : List Ed) (k' : Known) (s6 s7 s8 s9 s10 s11 : Slot), rest = ((List.range' j m).map fun i => PyData.int (i : Nat)) ∧ a2.length = m ∧ b2.length = m ∧ (∃ pre, ps = pre ++ a2 ∧ pre.length = j) ∧ (∃ pre, ed = pre ++ b2 ∧ pre.length = j) ∧
            agProg d root j a2 b2 k' = agProg d root 0 ps ed k ∧ k'.length ≤ 2000 * i + j ∧ Γ' = bdE d roots pss ess p k' (.imm (.dat (.int (i : Nat)))) s6 s7 s8 s9 s10 s11) ?_ ⟨0, ps.length, ps, ed, k, s6, s7, s8, s9, s10, s11, rfl, rfl, hlen, ⟨[], rfl, rfl⟩, ⟨[], rfl, rfl⟩, rfl, by omega, rfl⟩ (fun x rest Γ' hJ => ?_) (fun Γ' hJ => ?_)
          · have := ei_range1 (K := K) (P := P) (Γ := bdE d roots pss ess p k (.imm (.dat (.int (i : Nat)))) s6 s7 s8 s9 s10 s11) (te := tCB (rLen K) (tCons (tOp (rIxL K) (tVar 2) (tVar 5)) tNil)) (n := (ps.length : Int)) (ev_callB (ea1 (ev_ixL (c := progD ps) (ev_var rfl) (ev_var rfl) (atI_of (by rw [List.getElem?_map, gp]; rfl)))) (rc_lenL.as (by simp))) (by omega) (by omega)
            rw [rangeD_eq] at this
            exact this
          · obtain ⟨j, m, a2, b2, k', s6, s7, s8, s9, s10, s11, e, hm, hm2, ⟨pa, hpa, hpal⟩, ⟨pb, hpb, hpbl⟩, hag2, hkl2, rfl⟩ := hJ
            cases a2 with
            | nil =>
              subst hm
              cases e
            | cons pl a2 =>
              cases b2 with
              | nil =>
                subst hm
                cases hm2
              | cons eh b2 =>
                subst hm
                rw [List.length_cons, rangeD_cons] at e
                cases e
                have gl : ps[j]? = some pl := by rw [hpa, ← hpal]; simp
                have gd' : ed[j]? = some eh := by rw [hpb, ← hpbl]; simp
                have hP := h.pl ps (List.mem_of_getElem? gp) pl (List.mem_of_getElem? gl)
                have hE := h.ed ed (List.mem_of_getElem? ge) eh (List.mem_of_getElem? gd')
                have hjl : j ≤ 2000 := by
                  have := (List.getElem?_eq_some_iff.mp gl).1
                  omega
                rw [agProg] at hag2
                refine eg_name (bd_one h.gd gr gp ge gl gd' hP hE (by omega) (fun k2 s7 s8 s9 s10 s11 hs hl2 => ?_) (fun r Γ' hs => ?_))
                · rw [hs] at hag2
                  exact ⟨j + 1, a2.length, a2, b2, k2, _, _, _, _, _, _, rfl, rfl, by simpa using hm2, ⟨pa ++ [pl], by rw [hpa]; simp, by simp [hpal]⟩, ⟨pb ++ [eh], by rw [hpb]; simp, by simp [hpbl]⟩, hag2, by omega, rfl⟩
                · rw [hs] at hag2
                  have : agAll d roots pss ess [] = .error r := by
                    rw [← hag, agAll, ← hag2]
                  show _ = resD (agAll d roots pss ess [])
                  rw [this]
                  rfl
          · obtain ⟨j, m, a2, b2, k', s6, s7, s8, s9, s10, s11, e, hm, hm2, ⟨pa, hpa, hpal⟩, _, hag2, hkl2, rfl⟩ := hJ
            cases a2 with
            | cons a b =>
              subst hm
              cases e
            | nil =>
              have hj : j = ps.length := by rw [hpa, List.append_nil, hpal]
              have hok : agProg d root 0 ps ed k = .ok k' := by
                rw [← hag2]
                simp [agProg]
              rw [agAll, hok] at hag
              exact ⟨i + 1, rs.length, rs, qs, es, k', _, _, _, _, _, _, _, rfl, rfl, ⟨pr ++ [root], by rw [hpr]; simp, by simp [hprl]⟩, ⟨pp ++ [ps], by rw [hpp]; simp, by simp [hppl]⟩, ⟨pe ++ [ed], by rw [hpe]; simp, by simp [hpel]⟩, hag, by omega, rfl⟩
  · obtain ⟨i, m, rs, qs, es, k, s5, s6, s7, s8, s9, s10, s11, e, hm, ⟨pr, hpr, hprl⟩, _, _, hag, hkl, rfl⟩ := hI
    cases rs with
    | cons a b =>
      subst hm
      cases e
    | nil =>
      refine sv_freezeD (i := 4) rfl ?_
      refine sv_retE (d := .dic (lkD k)) (ev_var rfl) ?_
      show _ = resD (agAll d roots pss ess [])
      rw [← hag]
      simp [agAll, resD]
theorem ok__law_build_due {Pr : Program} {w : World} {K : PySem.W.Frag} {mg : Str → Option Value} {base : Heap} {P : Addr} {f : Addr} {fd : FuncData} (F : L2.Fun K "_law_build_due" "_law_build_due" s__law_build_due f fd) (T : Txt mg) (C__law_back : C8.Cal Pr w K mg base 2 "_law_back" (pm__law_back.sp K P) []) (C__law_texts : C8.Cal Pr w K mg base 1 "_law_texts" (pm__law_texts.sp K P) []) (C__law_fault : C8.Cal Pr w K mg base 3 "_law_fault" (pm__law_fault.sp K P) []) (C__law_is_first : C8.Cal Pr w K mg base 1 "_law_is_first" (pm__law_is_first.sp K P) []) (C__law_indent : C8.Cal Pr w K mg base 1 "_law_indent" (pm__law_indent.sp K P) []) : FnOk Pr w K mg base CX0 4 f fd ["_law_document_here", "_law_roots_here", "_law_programs", "_law_edits"] (pm__law_build_due.sp K P) := by
  have nd := sc__law_build_due.nd
  refine Fun.pure F sc__law_build_due (fun _ => rfl) fun cdv A outer s H E hr => ⟨t__law_build_due K P, ?_, fun x hx _ _ => ev__law_build_due x hx⟩
  exact (pss_cons (ps_set (i := 4) nd rfl (by first | exact Or.inl rfl | exact Or.inr rfl) pe_dnewK) (pss_cons (ps_for PassesOwn.never rfl (pi_range1 (by rfl) T.range (pa_cons (pe_callB (r := rLen K) call_len rfl T.len PySem.boot_len (pa_cons (pv 1) pa_nil)) pa_nil)) (pg_name (i := 5) nd rfl (by first | exact Or.inl rfl | exact Or.inr rfl)) (pss_one (ps_for PassesOwn.never rfl (pi_range1 (by rfl) T.range (pa_cons (pe_callB (r := rLen K) call_len rfl T.len PySem.boot_len (pa_cons (pe_ix ix_list (pv 2) (pv 5) (fun _ _ => rfl)) pa_nil)) pa_nil)) (pg_name (i := 6) nd rfl (by first | exact Or.inl rfl | exact Or.inr rfl)) (pss_cons (ps_set (i := 7) nd rfl (by first | exact Or.inl rfl | exact Or.inr rfl) (pe_ix ix_tup (pe_ix ix_list (pe_ix ix_list (pv 2) (pv 5) (fun _ _ => rfl)) (pv 6) (fun _ _ => rfl)) pe_int (fun _ _ => rfl))) (pss_cons (ps_set (i := 8) nd rfl (by first | exact Or.inl rfl | exact Or.inr rfl) (C8.pe_c C__law_indent hr (by decide) rfl (pa_cons (pv 0) (pa_cons (pe_ix ix_tup (pe_ix ix_list (pe_ix ix_list (pv 2) (pv 5) (fun _ _ => rfl)) (pv 6) (fun _ _ => rfl)) pe_int (fun _ _ => rfl)) pa_nil)))) (pss_cons (ps_set (i := 9) nd rfl (by first | exact Or.inl rfl | exact Or.inr rfl) (pe_ix ix_list (pe_ix ix_list (pv 3) (pv 5) (fun _ _ => rfl)) (pv 6) (fun _ _ => rfl))) (pss_cons (ps_if (PW.pt (pw_and (pt_cmpR op_gt (pe_callB (r := rLen K) call_len rfl T.len PySem.boot_len (pa_cons (pe_ix ix_tup (pv 9) pe_int (fun _ _ => rfl)) pa_nil)) pe_int (nomark _)) (pw_and1 (pt_not (pt_val (C8.pe_c C__law_is_first hr (by decide) rfl (pa_cons (pv 0) (pa_cons (pv 7) pa_nil)))))))) (pss_one (ps_ret (pe_tup (pa_cons (pe_ix ix_list (pv 1) (pv 5) (fun _ _ => rfl)) (pa_cons (pv 6) (pa_cons pe_str (pa_cons pe_str (pa_cons (pe_un un_neg pe_int) pa_nil)))))))) pss_nil) (pss_cons (ps_for PassesOwn.never rfl (pi_list (C8.pe_c C__law_texts hr (by decide) rfl (pa_cons (pv 9) pa_nil))) (pg_name (i := 10) nd rfl (by first | exact Or.inl rfl | exact Or.inr rfl)) (pss_one (ps_if (pt_cmpR op_ne (C8.pe_c C__law_fault hr (by decide) rfl (pa_cons (pv 10) (pa_cons (pv 8) pa_nil))) pe_str (nomark _)) (pss_one (ps_ret (pe_tup (pa_cons (pe_ix ix_list (pv 1) (pv 5) (fun _ _ => rfl)) (pa_cons (pv 6) (pa_cons (C8.pe_c C__law_fault hr (by decide) rfl (pa_cons (pv 10) (pa_cons (pv 8) pa_nil))) (pa_cons pe_str (pa_cons (pe_un un_neg pe_int) pa_nil)))))))) pss_nil))) (pss_cons (ps_set (i := 11) nd rfl (by first | exact Or.inl rfl | exact Or.inr rfl) (C8.pe_c C__law_back hr (by decide) rfl (pa_cons (pv 9) (pa_cons (pv 8) (pa_cons (pe_ix ix_tup (pe_ix ix_tup (pv 0) (pv 7) (fun _ _ => rfl)) pe_int (fun _ _ => rfl)) pa_nil))))) (pss_one (ps_if (pt_cmp (pc_dnotin (hu_of hr) (pv 7) (pv 4))) (pss_one (ps_dput (hu_of hr) (pv 4) (pv 7) (pe_tup (pa_cons (pv 11) (pa_cons (pe_ix ix_list (pv 1) (pv 5) (fun _ _ => rfl)) (pa_cons (pv 6) pa_nil)))) rfl)) (pss_one (ps_if (pt_cmpR (op_neP hr.units) (pe_ix ix_tup (pe_dget (hu_of hr) (pv 4) (pv 7) (fun _ _ => rfl)) pe_int (fun _ _ => rfl)) (pv 11) (nomark _)) (pss_one (ps_ret (pe_tup (pa_cons (pe_ix ix_list (pv 1) (pv 5) (fun _ _ => rfl)) (pa_cons (pv 6) (pa_cons pe_str (pa_cons (pe_ix ix_tup (pe_dget (hu_of hr) (pv 4) (pv 7) (fun _ _ => rfl)) pe_int (fun _ _ => rfl)) (pa_cons (pe_ix ix_tup (pe_dget (hu_of hr) (pv 4) (pv 7) (fun _ _ => rfl)) pe_int (fun _ _ => rfl)) pa_nil)))))))) pss_nil))))))))))))) (pss_one (ps_ret (pv 4)))))
end Wf
/-! super().__init__(..) at the head of an own exception's __init__, over ValueError. -/
namespace Wf
open PySem PySem.Spec PySem.W PyProof.Rows L2
section
variable {prog : Program} {w : World} {A : Around} {E : Value → Shared → Prop} {h : Heap} {g : Array GenState} {d : Drawn} {t : Nat} {os : OsState}
variable {nm q : Str} {C N : Addr} {bs bm : List Value} {hdct : Bool} {sn : List Str} {sub : List Value} {ab : Bool} {col : Option Bool} {dd : Option Addr} {k0 k1 k2 k3 k5 : Option Value}
/-- the bound ValueError.__init__ of e, called -/
theorem call_mw {u e t0 : Addr} {us : List Value} {Q : Value → Shared → Prop} (hC : h.get? C = some (excClassObj nm q C N bs bm hdct sn sub ab col dd k0 k1 k2 k3 k5 "ValueError.__new__")) (he : h.get? e = some (excRec (.ref C) t0 none .none .none (.bool false)))
    (hu : h.get? u = some (kxs_mw "ValueError.__init__" e)) (hz : us.length ≤ sizeLine) (hq : ∀ h' t1, (∀ b o, b ≠ e → h.get? b = some o → h'.get? b = some o) → h'.get? e = some (excRec (.ref C) t1 none .none .none (.bool false)) → Q .none ⟨h', g, d, t, os⟩) :
    wpAny (model prog w) A (call (.ref u) us) Q E ⟨h, g, d, t, os⟩ := by
  have FB := F.excBase_ValueError
  refine wpAny_call (codeAny_of_tree ?_)
  show wpAny _ A.in1 (callAny (.ref u) ⟨us, []⟩) _ _ _
  unfold callAny
  refine wpAny_bind (wpAny_load hu ?_)
  have c1 : (Value.type "method-wrapper" == Value.type "method" || Value.type "method-wrapper" == Value.type "builtin_function_or_method" || Value.type "method-wrapper" == Value.type "method-wrapper") = true := by decide
  simp only [kxs_mw, c1, if_true]
  refine KFB.if_so (by decide) ?_
  refine wpAny_bind (check_bound_init FB.toExcCallFacts hC he rfl ?_)
  refine wpAny_bind (wpAny_pure (wpAny_pure ?_))
  refine ⟨plainId_quiet FB.init.plain _, codeAny_builtin FB.initEntry ?_⟩
  exact exc_init_tree he hz fun h' k e' _ => hq h' _ k e'
end
section
variable {X : Cx} {pins : List (Addr × Obj)} {σ : L2.St} {H : Hp} {s : Shared}
/-- one more object is known to stand -/
theorem Inv.pinned (I : Inv X pins σ H s) {u : Addr} {o : Obj} (h1 : s.heap.get? u = some o) (h2 : H u = none) (h3 : u ≠ X.env.locals) (h4 : u ∉ X.fs) (h5 : ∀ v, o.data ≠ .cell v) : Inv X ((u, o) :: pins) σ H s :=
  { I with
    pin := fun p hp => by
      rcases List.mem_append.mp hp with hp | hp
      · exact I.pin p (List.mem_append_left _ hp)
      · rcases List.mem_cons.mp hp with e | hp
        · rw [e]
          exact ⟨h1, h2, h3, h4, h5⟩
        · exact I.pin p (List.mem_append_right _ hp) }
theorem Inv.unpinned {p : Addr × Obj} (I : Inv X (p :: pins) σ H s) : Inv X pins σ H s :=
  { I with
    pin := fun q hq => I.pin q (by
      rcases List.mem_append.mp hq with hq | hq
      · exact List.mem_append_left _ hq
      · exact List.mem_append_right _ (List.mem_cons_of_mem _ hq)) }
/-- what is known of a class C over ValueError whose own __init__ f says super().__init__(..) -/
structure SupC (prog : Program) (K : Frag) (C f cda cc : Addr) (file : Str) : Prop where
  ox : OexC K C
  fn : ∃ oc od fd osl ar, K.lookup f = some ⟨oc, od, .func fd, osl⟩ ∧ (fd.params.posonlyargs ++ fd.params.args).head? = some ar ∧ ar.arg = "self"
  code : ∃ ccl cdd vs ccs tf, K.lookup cda = some ⟨ccl, cdd, .fields vs, ccs⟩ ∧ vs[2]? = some (.str file tf)
  file : ((prog.main.file : Str) == file) = true
  cell : ∃ cl cld csl, K.lookup cc = some ⟨cl, cld, .cell (some (.ref C)), csl⟩
  sub : mroIn K C (.ref C) = some true
  up : ks_superIn K C C "__init__" = some (some (.builtin "ValueError.__init__"))
  subB : subIn K (.ref C) (.type "ValueError") = some true
  nodes : nsIn K cStatics "thirdparty.any" = some none
  top : (prog.main.scope.names.lookup ("super" : Str)).isSome = false
/-- the scope of such a def -/
structure SupS (sc : Scope) : Prop where
  sup : sc.names.lookup ("super" : Str) = some .globalImplicit
  cls : sc.names.lookup ("__class__" : Str) = some .free
  self : sc.names.lookup ("self" : Str) = some .local
theorem sup_at {C f cda cc a : Addr} {file : Str} {body : List Stmt} {e : Expr} {es : List Expr} {ta : TA} {p0 p1 p2 pos : Pos} {i : Nat} {pl : Sem Bool} {Q : Hp → Prop} (T : SupC X.prog X.K C f cda cc file) (S : SupS X.env.scope) (hm : X.mg "super" = none) (hf : X.env.func = some f) (hco : X.env.code = .ref cda)
    (hce : X.env.cells.lookup ("__class__" : Str) = some cc) (hN : X.N[i]? = some "self") (I : Inv X pins σ H s) (hσ : σ[i]? = some (some (.ref a))) (ea : H a = some (exo a C none)) (ha : PA X (e :: es) ta)
    (ht : ta σ H fun vs H1 => vs.length ≤ 1000 ∧ H1 a = some (exo a C none) ∧ Q H1)
    (he : eval (.Call (.Attribute (.Call (.Name "super" p0) [] [] p1) "__init__" p2) (e :: es) [] pos) X.env = (do
      let ov ← attributeBase (.Call (.Name "super" p0) [] [] p1) "__init__" X.env (eval (.Call (.Name "super" p0) [] [] p1) X.env)
      standAt p2.atName
      let (f, first) ← holding [ov] (getMethod ov "__init__" pl)
      callWith pos f first (backTo pos (starEach (e :: es) X.env)) []) := by rfl)
    (hs : starEach (e :: es) X.env = (false, eval e X.env) :: starEach es X.env := by rfl) (hpl : (backTo pos (starEach es X.env)).any (·.1) = false := by rfl) :
    _root_.PySem.wpAt (model X.prog X.w) X.A (.func body X.env) (eval (.Call (.Attribute (.Call (.Name "super" p0) [] [] p1) "__init__" p2) (e :: es) [] pos) X.env) (fun _ s' => ∃ H', Inv X pins σ H' s' ∧ Q H') X.xe s := by
  obtain ⟨nm, q, N, bs, bm, sn, sub, ab, col, dd, k0, k1, k2, k3, k5, hC, hbm⟩ := T.ox.cls
  have hcl : clsIn X.K C = some { name := nm, bases := bs, mro := .ref C :: bm, ns := N, qualname := q, hasDict := true, slotNames := sn, subclasses := sub, abstract := ab, collection := col, hasDel := false } := by unfold clsIn; rw [hC] <;> rfl
  obtain ⟨oc, od, fd, osl, ar, hfn, hpar, har⟩ := T.fn
  obtain ⟨ccl, cdd, vs, ccs, tf, hcode, hvs⟩ := T.code
  obtain ⟨cl, cld, csl, hcell⟩ := T.cell
  obtain ⟨t1, ho⟩ := exo_at I.hok ea
  have KI := I.kIn
  obtain ⟨m, hns, hlk⟩ := id I.loc
  have hself : m "self" = some (.ref a) := by
    obtain ⟨u, ru, q⟩ := hlk i "self" (.ref a) hN hσ (.inl S.self)
    obtain rfl : u = Value.ref a := ru
    rcases q with ⟨_, e⟩ | ⟨k, _⟩
    · exact e
    · have k1 : X.env.scope.names.lookup ("self" : Str) = some .cell ∨ X.env.scope.names.lookup ("self" : Str) = some .free := k
      rw [S.self] at k1
      rcases k1 with k1 | k1 <;> cases k1
  refine ks_wpAt_MethodCall (pl := pl) ?_ he
  refine ks_wpAt_super_base S.sup S.cls (by decide) hf (KI _ _ hfn) rfl hpar hco (KI _ _ hcode) rfl hvs T.file T.top ?_
  obtain ⟨mb, b1, b2⟩ := I.mod.blt
  refine ks_loadName_global I.ok.kind S.sup (Calls.loadGlobal_builtin (by rw [I.ok.glob]; exact I.mod.glob.keeps I.bk) hm (by rw [I.ok.blt]; exact b1.keeps I.bk) ((b2 _ (by decide)).trans (show bootBuiltins "super" = some (.type "super") by decide +kernel)) ⟨rfl, ?_⟩)
  refine wpAny_loadName_free I.ok.kind S.cls hce ⟨_, KI _ _ hcell, rfl⟩ ?_
  rw [har]
  refine wpAny_loadName_local I.ok.kind S.self hns hself ?_
  refine ks_wpAny_isType_cls (KI _ _ hC) rfl ⟨rfl, ?_⟩
  obtain ⟨hp, g, dr, tk, os⟩ := s
  refine ks_wpAny_call_super (KI _ _ hC) rfl ho rfl (fun c z => by cases z) (looks_mroIn KI T.sub) (fun h1 e1 k1 => ?_)
  have K1 : X.K.In h1 := KI.keeps k1
  have ho1 := k1 _ _ ho
  have I1' : InstAt h1 a { cls := .ref C, dict := none, data := .fields #[.ref t1, .none, .none, .none, .bool false, .none] } C none := ⟨ho1, rfl, rfl, trivial⟩
  have hup := T.up
  unfold ks_superIn at hup
  rw [hcl] at hup
  refine kxs_getMethod kxs_ValueError e1 (looks_opaque K1 T.nodes) (l₀ := .ref C :: bm) (fun A Q E s k q => wpAny_bind ((looks_clsIn K1 hcl) A _ E s k (wpAny_pure q))) rfl K1 hup (I1'.type.andThen (looks_subIn K1 T.subB)) (ks_ne K1 I1' hcl) (by decide) ?_
  -- the wrapper stands
  have k2' : ∀ b o, hp.get? b = some o → (h1.push (kxs_mw "ValueError.__init__" a)).get? b = some o := fun b o e => Heap.get?_push_of_some _ (k1 _ _ e)
  have I2 : Inv X pins σ H ⟨h1.push (kxs_mw "ValueError.__init__" a), g, dr, tk + 1, os⟩ := I.kept k2'
  have hu : (h1.push (kxs_mw "ValueError.__init__" a)).get? h1.objs.size = some (kxs_mw "ValueError.__init__" a) := Heap.get?_push_at rfl rfl
  have hsz : hp.objs.size ≤ h1.objs.size := Nat.le_of_lt (Nat.lt_of_le_of_lt (Nat.le_refl _) (Heap.lt_size e1))
  have notOld : ∀ {b : Addr} {o : Obj}, hp.get? b = some o → h1.objs.size ≠ b := fun {b o} e z => by
    have := Nat.lt_of_lt_of_le (Heap.lt_size e) hsz
    rw [z] at this
    exact Nat.lt_irrefl _ this
  have hpin : Inv X ((h1.objs.size, kxs_mw "ValueError.__init__" a) :: pins) σ H ⟨h1.push (kxs_mw "ValueError.__init__" a), g, dr, tk + 1, os⟩ := by
    refine Inv.pinned I2 hu (I.hok.fresh hsz) ?_ (fun z => ?_) (fun v z => by cases z)
    · obtain ⟨oL, _, _, hoL, _⟩ := hns
      exact notOld hoL
    · obtain ⟨_, o, e, _⟩ := I.ok.funs.mem z
      obtain ⟨o', e'⟩ := I.base.there _ o e fun hx => I.ok.exfs _ hx z
      exact notOld e' rfl
  have hargs := ha.run pos _ _ σ H _ hpin ht
  rw [hs] at hargs ⊢
  refine kxs_callWith (i := "ValueError.__init__") (x := a) (by show (false || (backTo pos (starEach es X.env)).any (·.1)) = false; rw [hpl]; rfl) ?_
  refine Calls.evalArgs_plain (wpAny_mono hargs (fun us s3 hu3 => ?_) fun _ _ x => x)
  obtain ⟨vs', H1, I3, r3, hl3, ea3, q3⟩ := hu3
  have hu4 := (I3.pin (h1.objs.size, kxs_mw "ValueError.__init__" a) (List.mem_append_right _ List.mem_cons_self)).1
  refine ⟨hu4, ?_⟩
  obtain ⟨t3, ho3⟩ := exo_at I3.hok ea3
  obtain ⟨hp3, g3, d3, tk3, os3⟩ := s3
  have hlen : us.length ≤ sizeLine := by
    rw [← Paired.length r3, sizeLine_eq]
    omega
  refine call_mw (I3.kIn _ _ hC) ho3 hu4 hlen fun h' t4 k4 e4 => ?_
  have J := (Inv.unpinned I3).write (t' := tk3) (x := a) (e := a) (o := exo a C none) (by rw [ea3]; exact True.intro) (.inl rfl) k4 ⟨_, e4⟩ (exo_ok e4)
  have eu : upd H1 a (exo a C none) = H1 := by
    funext b
    by_cases hb : b = a
    · rw [hb, upd_same, ea3]
    · rw [upd_ne hb]
  rw [eu] at J
  exact ⟨H1, J, q3⟩
end
end Wf
namespace Wf
open PySem PySem.Spec PySem.W PyProof.Rows L2 NdefX
/-- the context of the def's body: c calm, pn what is pinned -/
def scx (CX : CXT) (P : Program) (w : World) (K : Frag) (mg : Str → Option Value) (base : Heap) (N : List Str) (F : NF) (f : Addr) (A : Around) (outer : List PySem.Env) (s : Shared) (H : Hp) (E : XK) (c : Bool) (pn : List (Addr × Obj)) : Cx :=
  { ncx CX P w K mg base N F f A outer s H E with calm := c, pn := pn }
section
variable {CX : CXT} {P : Program} {w : World} {K : Frag} {mg : Str → Option Value} {base : Heap} {N ps : List Str} {k : Nat} {f C cda cc : Addr} {file name qual : Str} {params : Arguments} {body : List Stmt} {scope : Scope} {dV kV doc pm ct oc : Value} {an od : Option Addr} {osl : Array (Option Value)} {sp : Sp}
abbrev supF (name qual : Str) (params : Arguments) (body : List Stmt) (scope : Scope) (cda cc : Addr) : NF := ⟨name, qual, params, body, scope, [(("__class__" : Str), cc)], cda⟩
theorem sup_cells (hc : ∃ cl cld csl, K.lookup cc = some ⟨cl, cld, .cell (some (.ref C)), csl⟩) {h : Heap} {H : Hp} (KX : K.In h) (hn : H cc = none) : CellsAt [(("__class__" : Str), cc)] [("__class__" : Str)] [none] h H := by
  obtain ⟨cl, cld, csl, e⟩ := hc
  have one : ∀ y c, ([(("__class__" : Str), cc)] : List (Str × Addr)).lookup y = some c → y = ("__class__" : Str) ∧ c = cc := fun y c q => by
    by_cases z : y = ("__class__" : Str)
    · subst z
      rw [List.lookup_cons] at q
      simp at q
      exact ⟨rfl, q.symm⟩
    · have : (y == ("__class__" : Str)) = false := by simpa using z
      rw [List.lookup_cons, this] at q
      cases q
  refine ⟨rfl, fun y c q => ?_, fun x y c q1 q2 => ?_, fun i y q => ?_⟩
  · obtain ⟨rfl, rfl⟩ := one y c q
    exact ⟨hn, _, _, KX _ _ e, rfl⟩
  · rw [(one x c q1).1, (one y c q2).1]
  · cases i with
    | zero =>
      cases q
      refine ⟨cc, by rw [List.lookup_cons]; simp, fun v z => by cases z⟩
    | succ i => cases q
/-- the run of the whole def, in any calm or unquiet context -/
theorem sup_run {A : Around} {outer : List PySem.Env} {s : Shared} {H : Hp} {args : Args} {us : List Value} {vs : List V} {Q : VK} {E : XK} {c : Bool} {pn : List (Addr × Obj)} {rest : List Stmt} {e : Expr} {es : List Expr} {p0 p1 p2 p3 pos : Pos} {ta : TA} {t : TS} {a : Addr} {vs' : List V} {fd : FuncData}
    (hbd : body = .Expr (.Call (.Attribute (.Call (.Name "super" p0) [] [] p1) "__init__" p2) (e :: es) [] pos) p3 :: rest) (hfd : fd = ksFn name qual params body scope dV kV doc pm an (.ref cda) ct cc)
    (T : SupC P K C f cda cc file) (S : NScope N ps [("__class__" : Str)] scope) (S2 : SupS scope) (hm : mg "super" = none) (hp0 : ps[0]? = some ("self" : Str))
    (lk : K.lookup f = some ⟨oc, od, .func fd, osl⟩) (hcd : codeIn K (.ref cda) qual = true) (hdep : A.depth < recursionLimit)
    (e0 : Env0 P w K mg base A outer s H) (hb : BindsTo s fd args (ps.zip us)) (hl : vs.length = ps.length) (r : Vals vs us)
    (hI : ∀ (h₁ : Heap) (tk : Nat), h₁.Ns s.heap.objs.size (fun y => (ps.zip us).reverse.lookup y) → (∀ b o, s.heap.get? b = some o → h₁.get? b = some o) → CellsAt [(("__class__" : Str), cc)] [("__class__" : Str)] [none] s.heap H → Inv (scx CX P w K mg base N (supF name qual params body scope cda cc) f A outer s H E c pn) [] (startF N vs [none]) H { s with heap := h₁, toks := tk })
    (hv : vs = .ref a :: vs') (ea : H a = some (exo a C none))
    (ha : PA (scx CX P w K mg base N (supF name qual params body scope cda cc) f A outer s H E c pn) (e :: es) ta) (ht : PSs (scx CX P w K mg base N (supF name qual params body scope cda cc) f A outer s H E c pn) rest t)
    (hq : ta (startF N vs [none]) H fun ws H1 => ws.length ≤ 1000 ∧ H1 a = some (exo a C none) ∧ t { nx := fun _ H' => Q .non H', rt := Q } (startF N vs [none]) H1)
    (he : ∀ env, ∃ pl : Sem Bool, eval (.Call (.Attribute (.Call (.Name "super" p0) [] [] p1) "__init__" p2) (e :: es) [] pos) env = (do
      let ov ← attributeBase (.Call (.Name "super" p0) [] [] p1) "__init__" env (eval (.Call (.Name "super" p0) [] [] p1) env)
      standAt p2.atName
      let (f, first) ← holding [ov] (getMethod ov "__init__" pl)
      callWith pos f first (backTo pos (starEach (e :: es) env)) []))
    (hs : ∀ env, starEach (e :: es) env = (false, eval e env) :: starEach es env) (hpl : ∀ env, (backTo pos (starEach es env)).any (·.1) = false)
    (hi : ∀ env : PySem.Env, env.scope.kind = .function → interactive env = false) (hsw : ∀ env, swapsWith (.Call (.Attribute (.Call (.Name "super" p0) [] [] p1) "__init__" p2) (e :: es) [] pos) none p3.line env = pure false) :
    codeAny (model P w) A (.call (.ref f) args) (CR CX outer P w H s Q E) s := by
  have KX : K.In s.heap := e0.mod.kin.keeps fun b o e => (e0.bs b o e).1
  have lim : s.heap.NoLimit := e0.mod.nolimit.keeps fun b o e => (e0.bs b o e).1
  have hcc : H cc = none := by
    obtain ⟨cl, cld, csl, e⟩ := T.cell
    exact (e0.bs _ _ (e0.mod.kin _ _ e)).2
  have CA := sup_cells T.cell KX hcc
  subst hfd
  refine ks_codeAny_call_defAt (fd := ksFn name qual params body scope dV kV doc pm an (.ref cda) ct cc) (body := body) (binds := ps.zip us) hdep (KX _ _ lk) rfl lim (codeRec_of KX hcd) rfl hb S.nocell (fun ⟨n, _⟩ hy => S.par n (List.of_mem_zip hy).1) (fun h₁ hns kp => ?_) S.co S.gen S.kind
  have I := hI h₁ (s.toks + (ps.zip us).length) hns kp CA
  have hN0 : N[0]? = some ("self" : Str) := by
    have hpl' : 0 < ps.length := (List.getElem?_eq_some_iff.mp hp0).1
    have e1 : (N.take (ps.length + 1))[0]? = (ps ++ [("__class__" : Str)])[0]? := by
      have := S.pre
      rw [show ps.length + ([("__class__" : Str)] : List Str).length = ps.length + 1 from rfl] at this
      rw [this]
    rw [List.getElem?_take_of_lt (by omega), List.getElem?_append_left hpl', hp0] at e1
    exact e1
  have hσ0 : (startF N vs [none])[0]? = some (some (.ref a)) := by
    rw [hv]
    rfl
  rw [hbd]
  show _root_.PySem.wpAt (model P w) (A.deeper (envF (supF name qual params body scope cda cc) f s.heap.objs.size)) _ (execs _ (envF (supF name qual params body scope cda cc) f s.heap.objs.size)) _ _ _
  refine ks_wpAt_execs_cons ?_
  refine ks_wpAt_Expr_any ?_ (hi _ S.kind) (hsw _)
  obtain ⟨pl, he⟩ := he (envF (supF name qual params body scope cda cc) f s.heap.objs.size)
  refine ks_wpAt_mono (sup_at (X := scx CX P w K mg base N (supF name qual params body scope cda cc) f A outer s H E c pn) (body := _) (i := 0) (pl := pl) T S2 hm rfl rfl (by show ([(("__class__" : Str), cc)] : List (Str × Addr)).lookup ("__class__" : Str) = some cc; rw [List.lookup_cons]; simp) hN0 I hσ0 ea ha hq he (hs _) (hpl _)) (fun _ s' hs' => ?_) (fun _ _ z => z)
  obtain ⟨H1, J, q1⟩ := hs'
  refine wpAt_of_wpAny (wpAny_mono (ht.run [] s' _ H1 _ J q1) (fun fl s2 h2 => ?_) fun e s2 h2 => h2)
  have fin : ∀ {σ' : L2.St} {H' : Hp} {v : V} {u : Value}, Inv (scx CX P w K mg base N (supF name qual params body scope cda cc) f A outer s H E c pn) [] σ' H' s2 → RelV v u → Q v H' → CE outer P w H s Q u s2 :=
    fun {σ' H' v u} J rv q => ⟨v, H', J.os, J.bare, J.base, J.hok, rv, q⟩
  cases fl with
  | ret u =>
    obtain ⟨v, σ', H', J, rv, q⟩ := h2
    exact fin J rv q
  | next =>
    obtain ⟨σ', H', J, q⟩ := h2
    exact fin (v := V.non) (u := Value.none) J rfl q
  | brk =>
    obtain ⟨_, _, _, q⟩ := h2
    exact False.elim q
  | cont =>
    obtain ⟨_, _, _, q⟩ := h2
    exact False.elim q
end
end Wf
namespace Wf
open PySem PySem.Spec PySem.W PyProof.Rows L2 NdefX L2H
section
variable {CX : CXT} {P : Program} {w : World} {K : Frag} {mg : Str → Option Value} {base : Heap} {N ps : List Str} {k : Nat} {f C cda cc : Addr} {file name qual : Str} {params : Arguments} {body : List Stmt} {scope : Scope} {dV kV doc pm ct oc : Value} {an od : Option Addr} {osl : Array (Option Value)} {sp : Sp}
theorem env0_mark {A : Around} {outer : List PySem.Env} {s : Shared} {H : Hp} (e : Env0 P w K mg base A outer s H) : Env0 P w K mg base { A with handled := none } outer s H := ⟨e.frames, e.mod, e.bs, e.bsz, e.funs, e.frf, e.hok, e.bare⟩
/-- the def's context at its entry, whatever is handled -/
theorem inv_any {A : Around} {outer : List PySem.Env} {s : Shared} {H : Hp} {E : XK} {us : List Value} {vs : List V} {F : NF} {fr : List Str} {ws : List (Option V)} {p : Addr × Obj} {h₁ : Heap} {tk : Nat} (S : NScope N ps fr F.scope) (e0 : Env0 P w K mg base A outer s H) (hl : vs.length = ps.length) (r : Vals vs us) (hpin : PinOk outer H s p)
    (CA : CellsAt F.cl fr ws s.heap H) (hns : h₁.Ns s.heap.objs.size fun y => (ps.zip us).reverse.lookup y) (kp : ∀ b o, s.heap.get? b = some o → h₁.get? b = some o) : Inv (scx CX P w K mg base N F f A outer s H E false [p]) [] (startF N vs ws) H { s with heap := h₁, toks := tk } := by
  have I := inv_startN (CX := CX) (E := E) (f := f) (A := { A with handled := none }) (tk := tk) S rfl (env0_mark e0) hl r CA hns kp
  refine ⟨⟨I.ok.mod, I.ok.kind, I.ok.glob, I.ok.blt, I.ok.above, I.ok.inj, I.ok.has, I.ok.cab, (fun z => Bool.noConfusion (show false = true from z)), Around.frames_deeper e0.frames, I.ok.stk, I.ok.exf, I.ok.bs, I.ok.bsz, I.ok.noex, I.ok.exfs, I.ok.funs, I.ok.frf⟩, I.os, I.bare, I.base, I.loc, I.cell, I.free, I.freeC, fun q hq => ?_, I.hok, I.len⟩
  have e : q = p := by simpa using (show q ∈ [p] ++ ([] : List (Addr × Obj)) from hq)
  rw [e]
  exact ⟨kp p.1 p.2 hpin.get, hpin.free, Nat.ne_of_lt (Heap.lt_size hpin.get), hpin.nofs, hpin.nocell⟩
end
/-- what is seen of the text of such an __init__ -/
structure SupT (N ps : List Str) (scope : Scope) (body : List Stmt) (e : Expr) (es : List Expr) (rest : List Stmt) : Prop where
  ns : NScope N ps [("__class__" : Str)] scope
  sc : SupS scope
  self : ps[0]? = some ("self" : Str)
  text : ∃ p0 p1 p2 p3 pos, body = .Expr (.Call (.Attribute (.Call (.Name "super" p0) [] [] p1) "__init__" p2) (e :: es) [] pos) p3 :: rest ∧
    (∀ env, ∃ pl : Sem Bool, eval (.Call (.Attribute (.Call (.Name "super" p0) [] [] p1) "__init__" p2) (e :: es) [] pos) env = (do
      let ov ← attributeBase (.Call (.Name "super" p0) [] [] p1) "__init__" env (eval (.Call (.Name "super" p0) [] [] p1) env)
      standAt p2.atName
      let (f, first) ← holding [ov] (getMethod ov "__init__" pl)
      callWith pos f first (backTo pos (starEach (e :: es) env)) [])) ∧
    (∀ env, starEach (e :: es) env = (false, eval e env) :: starEach es env) ∧ (∀ env, (backTo pos (starEach es env)).any (·.1) = false) ∧
    (∀ env : PySem.Env, env.scope.kind = .function → interactive env = false) ∧ ∀ env, swapsWith (.Call (.Attribute (.Call (.Name "super" p0) [] [] p1) "__init__" p2) (e :: es) [] pos) none p3.line env = pure false
section
variable {CX : CXT} {P : Program} {w : World} {K : Frag} {mg : Str → Option Value} {base : Heap} {N ps : List Str} {k : Nat} {f C cda cc : Addr} {file name qual : Str} {params : Arguments} {body : List Stmt} {scope : Scope} {dV kV doc pm ct oc : Value} {an od : Option Addr} {osl : Array (Option Value)} {sp : Sp} {e : Expr} {es : List Expr} {rest : List Stmt}
/-- the body's reading in every context -/
def SupB (CX : CXT) (P : Program) (w : World) (K : Frag) (mg : Str → Option Value) (base : Heap) (N ps : List Str) (F : NF) (f C : Addr) (e : Expr) (es : List Expr) (rest : List Stmt) (sp : Sp) : Prop :=
  ∀ (A : Around) (outer : List PySem.Env) (s : Shared) (H : Hp) (E : XK) (c : Bool) (pn : List (Addr × Obj)) (vs : List V) (Q : VK), sp vs H Q E → vs.length = ps.length ∧ ∃ (ta : TA) (t : TS) (a : Addr) (vs' : List V), vs = .ref a :: vs' ∧ H a = some (exo a C none) ∧
    PA (scx CX P w K mg base N F f A outer s H E c pn) (e :: es) ta ∧ PSs (scx CX P w K mg base N F f A outer s H E c pn) rest t ∧
    ta (startF N vs [none]) H fun ws H1 => ws.length ≤ 1000 ∧ H1 a = some (exo a C none) ∧ t { nx := fun _ H' => Q .non H', rt := Q } (startF N vs [none]) H1
theorem fn_sup (T : SupC P K C f cda cc file) (S : SupT N ps scope body e es rest) (hm : mg "super" = none) (lk : K.lookup f = some ⟨oc, od, .func (ksFn name qual params body scope dV kV doc pm an (.ref cda) ct cc), osl⟩) (hcd : codeIn K (.ref cda) qual = true) (len : ∀ vs H Q E, sp vs H Q E → vs.length = ps.length)
    (B : SupB CX P w K mg base N ps (supF name qual params body scope cda cc) f C e es rest sp) : FnOk P w K mg base CX (k + 1) f (ksFn name qual params body scope dV kV doc pm an (.ref cda) ct cc) ps sp := by
  refine ⟨len, fun A outer s H args us vs Q E hr e0 hb r hsp => ?_⟩
  obtain ⟨p0, p1, p2, p3, pos, hbd, he, hs, hpl, hi, hsw⟩ := S.text
  obtain ⟨hl, ta, t, a, vs', hv, ea, ha, ht, hq⟩ := B A outer s H E true [] vs Q hsp
  exact sup_run hbd rfl T S.ns S.sc hm S.self lk hcd hr.depth e0 hb hl r (fun h₁ tk hns kp CA => inv_startN S.ns hr.hd e0 hl r CA hns kp) hv ea ha ht hq he hs hpl hi hsw
theorem fn_supH (T : SupC P K C f cda cc file) (S : SupT N ps scope body e es rest) (hm : mg "super" = none) (lk : K.lookup f = some ⟨oc, od, .func (ksFn name qual params body scope dV kV doc pm an (.ref cda) ct cc), osl⟩) (hcd : codeIn K (.ref cda) qual = true) (len : ∀ vs H Q E, sp vs H Q E → vs.length = ps.length)
    (B : SupB CX P w K mg base N ps (supF name qual params body scope cda cc) f C e es rest sp) : FnH P w K mg base CX (k + 1) f (ksFn name qual params body scope dV kV doc pm an (.ref cda) ct cc) ps sp := by
  refine ⟨len, fun A outer s H args us vs Q E p hr hot hpin e0 hb r hsp => ?_⟩
  obtain ⟨p0, p1, p2, p3, pos, hbd, he, hs, hpl, hi, hsw⟩ := S.text
  obtain ⟨hl, ta, t, a, vs', hv, ea, ha, ht, hq⟩ := B A outer s H E false [p] vs Q hsp
  exact sup_run hbd rfl T S.ns S.sc hm S.self lk hcd hr.depth e0 hb hl r (fun h₁ tk hns kp CA => inv_any S.ns e0 hl r hpin CA hns kp) hv ea ha ht hq he hs hpl hi hsw
end
end Wf
/-! Unfit and BuildRefused: their __init__. -/
namespace Wf
open PySem L2 NdefX
def exprAt : List Stmt → Expr
  | .Expr (.Call _ (e :: _) _ _) _ :: _ => e
  | _ => .Name "" ⟨0, 0, 0, 0⟩
abbrev N_U : List Str := ["self", "at", "what", "__class__"]
abbrev ps_U : List Str := ["self", "at", "what"]
abbrev N_B : List Str := ["self", "root", "at", "what", "other_root", "other", "__class__"]
abbrev ps_B : List Str := ["self", "root", "at", "what", "other_root", "other"]
theorem notTop (env : PySem.Env) (h : env.scope.kind = .function) : interactive env = false := by
  unfold interactive
  rw [h]
  rfl
theorem supT_U : SupT N_U ps_U (C8.fnScope s_U) (C8.fnBody s_U) (exprAt (C8.fnBody s_U)) [] ((C8.fnBody s_U).drop 1) :=
  ⟨nscope_by (by decide +kernel), ⟨by decide +kernel, by decide +kernel, by decide +kernel⟩, rfl, _, _, _, _, _, rfl, fun env => ⟨_, rfl⟩, fun env => rfl, fun env => rfl, notTop, fun env => rfl⟩
theorem supT_B : SupT N_B ps_B (C8.fnScope s_B) (C8.fnBody s_B) (exprAt (C8.fnBody s_B)) [] ((C8.fnBody s_B).drop 1) :=
  ⟨nscope_by (by decide +kernel), ⟨by decide +kernel, by decide +kernel, by decide +kernel⟩, rfl, _, _, _, _, _, rfl, fun env => ⟨_, rfl⟩, fun env => rfl, fun env => rfl, notTop, fun env => rfl⟩
end Wf
namespace Wf
open PySem L2 NdefX
theorem small_text : ∀ n, n ≤ 2000 → ((toString ((n : Nat) : Int) : String) : Str).length ≤ 20 := by decide +kernel
end Wf
namespace Wf
open PySem L2 NdefX
/-- the exception's dict in making -/
abbrev mkX (H : Hp) (a C dx : Addr) (fs : List (Str × V)) : Hp := upd H a (exo a C (some dx))
def spU (C : Addr) : Sp := fun vs H Q _ => ∃ (a : Addr) (n : Nat) (w : Str), vs = [.ref a, .int n, .str w] ∧ n ≤ 2000 ∧ w.length ≤ 100 ∧ H a = some (exo a C none) ∧
  ∀ dx, H dx = none → dx ≠ a → Q .non (upd (upd (upd H dx (exd dx [("at", .int n)])) a (exo a C (some dx))) dx (exd dx [("what", .str w), ("at", .int n)]))
def spB (C : Addr) : Sp := fun vs H Q _ => ∃ (a : Addr) (r : Str) (n : Nat) (w o : Str) (m : Int), vs = [.ref a, .str r, .int n, .str w, .str o, .int m] ∧ n ≤ 2000 ∧ w.length ≤ 100 ∧ r.length ≤ 100 ∧ H a = some (exo a C none) ∧
  ∀ dx, H dx = none → dx ≠ a → Q .non (upd (upd (upd (upd (upd (upd H dx (exd dx [("root", .str r)])) a (exo a C (some dx))) dx (exd dx [("at", .int n), ("root", .str r)])) dx (exd dx [("what", .str w), ("at", .int n), ("root", .str r)])) dx (exd dx [("other_root", .str o), ("what", .str w), ("at", .int n), ("root", .str r)])) dx (exd dx [("other", .int m), ("other_root", .str o), ("what", .str w), ("at", .int n), ("root", .str r)]))
/-- no class of the mro names the field -/
def NoF (K : PySem.W.Frag) (C : Addr) (fs : List Str) : Prop := ∀ f ∈ fs, PySem.W.findIn K (.ref C) f = some none
theorem small_int {n : Nat} (h : n ≤ 2000) : (n : Int).natAbs.log2 < 1920 := by
  rw [Int.natAbs_natCast]
  by_cases c : n = 0
  · subst c
    decide +kernel
  · have : n.log2 < 11 := (Nat.log2_lt c).mpr (by omega)
    omega
theorem sizeS : (100000 : Nat) ≤ sizeLine := by rw [sizeLine_eq]; omega
section
variable {CX : CXT} {P : Program} {w : World} {K : PySem.W.Frag} {mg : Str → Option Value} {base : Heap} {f C cda cc : Addr} {file : Str}
theorem supB_U (T : SupC P K C f cda cc file) (hno : NoF K C ["at", "what"]) : SupB CX P w K mg base N_U ps_U (supF "__init__" "Unfit.__init__" (C8.fnArgs s_U) (C8.fnBody s_U) (C8.fnScope s_U) cda cc) f C (exprAt (C8.fnBody s_U)) [] ((C8.fnBody s_U).drop 1) (spU C) := by
  intro A outer s H E c pn vs Q hsp
  obtain ⟨a, n, wt, rfl, hn, hw, ha, hq⟩ := hsp
  have nd : ∀ {X : Cx}, X.N = N_U → X.N.Nodup := fun h => by rw [h]; decide +kernel
  have hz := sizeS
  have ht := small_text n hn
  refine ⟨rfl, _, _, a, _, rfl, ha, pa_cons (pe_joined (PJ.cons pe_str (PJ.cons (pe_fmt (pv 1)) (PJ.cons pe_str (PJ.cons (pe_fmt (pv 2)) PJ.nil))))) pa_nil, pss_cons (ps_ost (pv 0) (pv 1)) (pss_cons (ps_ost (pv 0) (pv 2)) pss_nil), ?_⟩
  have l1 : ((Str.empty ++ ("line " : Str)) ++ (toString (n : Int) : Str)).length ≤ 30 := by
    rw [Str.length_append, Str.length_append]
    have : (Str.empty : Str).length = 0 := rfl
    have : ("line " : Str).length = 5 := by decide +kernel
    omega
  have l2 : (((Str.empty ++ ("line " : Str)) ++ (toString (n : Int) : Str)) ++ (": " : Str)).length ≤ 40 := by
    rw [Str.length_append]
    have : (": " : Str).length = 2 := by decide +kernel
    omega
  have l3 : ((((Str.empty ++ ("line " : Str)) ++ (toString (n : Int) : Str)) ++ (": " : Str)) ++ wt).length ≤ 140 := by
    rw [Str.length_append]
    omega
  refine ⟨_, rfl, by decide +kernel, _, rfl, .inr ⟨_, rfl, small_int hn, _, rfl, by omega, _, rfl, by omega, _, rfl, .inl ⟨_, rfl, by omega, _, rfl, by omega, ?_⟩⟩⟩
  refine ⟨by simp only [List.length_cons, List.length_nil]; omega, ha, _, rfl, _, rfl, a, C, rfl, T.ox, hno _ (by decide +kernel), .inl ⟨ha, fun dx hd hne => ?_⟩⟩
  exact ⟨_, rfl, _, rfl, a, C, rfl, T.ox, hno _ (by decide +kernel), .inr ⟨dx, _, upd_same, (upd_ne hne).trans upd_same, by simp only [List.length_cons, List.length_nil]; omega, hq dx hd hne⟩⟩
theorem lenU {vs : List V} {H : Hp} {Q : VK} {E : XK} (h : spU C vs H Q E) : vs.length = ps_U.length := by
  obtain ⟨a, n, wt, rfl, _⟩ := h
  rfl
theorem lenB {vs : List V} {H : Hp} {Q : VK} {E : XK} (h : spB C vs H Q E) : vs.length = ps_B.length := by
  obtain ⟨a, r, n, wt, o, m, rfl, _⟩ := h
  rfl
theorem supB_B (T : SupC P K C f cda cc file) (hno : NoF K C ["root", "at", "what", "other_root", "other"]) : SupB CX P w K mg base N_B ps_B (supF "__init__" "BuildRefused.__init__" (C8.fnArgs s_B) (C8.fnBody s_B) (C8.fnScope s_B) cda cc) f C (exprAt (C8.fnBody s_B)) [] ((C8.fnBody s_B).drop 1) (spB C) := by
  intro A outer s H E c pn vs Q hsp
  obtain ⟨a, r, n, wt, o, m, rfl, hn, hw, hr, ha, hq⟩ := hsp
  have nd : ∀ {X : Cx}, X.N = N_B → X.N.Nodup := fun h => by rw [h]; decide +kernel
  have hz := sizeS
  have ht := small_text n hn
  refine ⟨rfl, _, _, a, _, rfl, ha, pa_cons (pe_joined (PJ.cons pe_str (PJ.cons (pe_fmt (pv 2)) (PJ.cons pe_str (PJ.cons (pe_fmt (pv 1)) (PJ.cons pe_str (PJ.cons (pe_fmt (pv 3)) PJ.nil))))))) pa_nil, pss_cons (ps_ost (pv 0) (pv 1)) (pss_cons (ps_ost (pv 0) (pv 2)) (pss_cons (ps_ost (pv 0) (pv 3)) (pss_cons (ps_ost (pv 0) (pv 4)) (pss_cons (ps_ost (pv 0) (pv 5)) pss_nil)))), ?_⟩
  have l1 : ((Str.empty ++ ("line " : Str)) ++ (toString (n : Int) : Str)).length ≤ 30 := by
    rw [Str.length_append, Str.length_append]
    have : (Str.empty : Str).length = 0 := rfl
    have : ("line " : Str).length = 5 := by decide +kernel
    omega
  have l2 : (((Str.empty ++ ("line " : Str)) ++ (toString (n : Int) : Str)) ++ (" of " : Str)).length ≤ 40 := by
    rw [Str.length_append]
    have : (" of " : Str).length = 4 := by decide +kernel
    omega
  have l3 : ((((Str.empty ++ ("line " : Str)) ++ (toString (n : Int) : Str)) ++ (" of " : Str)) ++ r).length ≤ 140 := by
    rw [Str.length_append]
    omega
  have l4 : (((((Str.empty ++ ("line " : Str)) ++ (toString (n : Int) : Str)) ++ (" of " : Str)) ++ r) ++ (": " : Str)).length ≤ 150 := by
    rw [Str.length_append]
    have : (": " : Str).length = 2 := by decide +kernel
    omega
  have l5 : ((((((Str.empty ++ ("line " : Str)) ++ (toString (n : Int) : Str)) ++ (" of " : Str)) ++ r) ++ (": " : Str)) ++ wt).length ≤ 250 := by
    rw [Str.length_append]
    omega
  refine ⟨_, rfl, by decide +kernel, _, rfl, .inr ⟨_, rfl, small_int hn, _, rfl, by omega, _, rfl, by omega, _, rfl, .inl ⟨_, rfl, by omega, _, rfl, by omega, _, rfl, by omega, _, rfl, .inl ⟨_, rfl, by omega, _, rfl, by omega, ?_⟩⟩⟩⟩
  refine ⟨by simp only [List.length_cons, List.length_nil]; omega, ha, _, rfl, _, rfl, a, C, rfl, T.ox, hno _ (by decide +kernel), .inl ⟨ha, fun dx hd hne => ?_⟩⟩
  refine ⟨_, rfl, _, rfl, a, C, rfl, T.ox, hno _ (by decide +kernel), .inr ⟨dx, _, upd_same, (upd_ne hne).trans upd_same, by simp only [List.length_cons, List.length_nil]; omega, ?_⟩⟩
  refine ⟨_, rfl, _, rfl, a, C, rfl, T.ox, hno _ (by decide +kernel), .inr ⟨dx, _, (upd_ne (Ne.symm hne)).trans upd_same, upd_same, by simp only [List.length_cons, List.length_nil]; omega, ?_⟩⟩
  refine ⟨_, rfl, _, rfl, a, C, rfl, T.ox, hno _ (by decide +kernel), .inr ⟨dx, _, (upd_ne (Ne.symm hne)).trans ((upd_ne (Ne.symm hne)).trans upd_same), upd_same, by simp only [List.length_cons, List.length_nil]; omega, ?_⟩⟩
  exact ⟨_, rfl, _, rfl, a, C, rfl, T.ox, hno _ (by decide +kernel), .inr ⟨dx, _, (upd_ne (Ne.symm hne)).trans ((upd_ne (Ne.symm hne)).trans ((upd_ne (Ne.symm hne)).trans upd_same)), upd_same, by simp only [List.length_cons, List.length_nil]; omega, hq dx hd hne⟩⟩
end
end Wf
/-! A list comprehension whose element calls a def that may raise. -/
namespace Wf
open PySem PySem.Spec PyProof.Rows L2
section
variable {X : Cx} {pins : List (Addr × Obj)} {σ : L2.St} {H : Hp} {s s' : Shared} {E : XK}
/-- behind a call that let an exception out: the exception is between the frames -/
theorem air_call (I : Inv X pins σ H s) {u : Value} (c : L2N.CX X.prog X.w X.stack H s E u s') : ∃ (a : Addr) (B : Heap) (sI : Shared) (H' : Hp) (cls : Value) (d : Option Addr), u = .ref a ∧ Inv X pins σ H' sI ∧ (∀ b o, sI.heap.get? b = some o → b ∉ frs X.stack → B.get? b = some o) ∧
    (∀ b o, sI.heap.get? b = some o → s'.heap.get? b = some o) ∧ HandSPX.FlyingZ B X.stack a (L2N.Zn cls d) s'.heap ∧ H' a = none ∧ s'.os = sI.os ∧ AllBare s'.gens ∧ E cls d H' := by
  obtain ⟨a, B, H', cls, d, eu, fl, hok, ub, na, os, ag, hE⟩ := c
  have inB := fl.1
  obtain ⟨G, gY, gN⟩ := restrict s'.heap fun b => decide (b ∈ frs X.stack) || (B.get? b).isSome
  have fromB : ∀ b o, B.get? b = some o → G.get? b = some o := fun b o e => (gY b (by simp [e])).trans (inB b o e)
  have back : ∀ b o, G.get? b = some o → s'.heap.get? b = some o ∧ (b ∈ frs X.stack ∨ ∃ o', B.get? b = some o') := fun b o e => by
    by_cases k : (decide (b ∈ frs X.stack) || (B.get? b).isSome) = true
    · refine ⟨(gY b k).symm.trans e, ?_⟩
      rcases Bool.or_eq_true_iff.mp k with k1 | k1
      · exact .inl (of_decide_eq_true k1)
      · exact .inr (Option.isSome_iff_exists.mp k1)
    · have z := gN b (Bool.eq_false_iff.mpr k)
      rw [e] at z
      cases z
  have onF : ∀ b, b ∈ frs X.stack → G.get? b = s'.heap.get? b := fun b hb => gY b (by simp [hb])
  have J : Inv X pins σ H' { s with heap := G, gens := s'.gens, drawn := s'.drawn, toks := s'.toks } := by
    refine I.call (ch := []) { keep := fun b o e n hb _ => fromB b o (ub.keep b o e n hb), slot := fun b o e _ hb _ => ?_, free := fun b o e n _ => ub.free b o e n, there := fun b o e _ => ?_, tups := ub.tups, frzs := ub.frzs, tbls := ub.tbls } (hok.kept fromB) ag (fun b z => absurd z List.not_mem_nil)
    · obtain ⟨sl, q⟩ := ub.slot b o e hb
      exact ⟨sl, (onF b hb).trans q⟩
    · by_cases hb : b ∈ frs X.stack
      · obtain ⟨sl, q⟩ := ub.slot b o e hb
        exact ⟨_, (onF b hb).trans q⟩
      · obtain ⟨o', q⟩ := ub.there b o e hb
        exact ⟨o', fromB b o' q⟩
  refine ⟨a, B, _, H', cls, d, eu, J, fun b o e hb => ?_, fun b o e => (back b o e).1, fl, na, os, ag, hE⟩
  obtain ⟨e1, k⟩ := back b o e
  rcases k with k | ⟨o', k⟩
  · exact absurd k hb
  · have z := inB b o' k
    rw [e1] at z
    rw [k, z]
end
theorem flyD {B h : Heap} {l : List PySem.Env} {a : Addr} {cls : Value} {d : Option Addr} (f : HandSPX.FlyingZ B l a (L2N.Zn cls d) h) : ∃ a0, Heap.FlyingD B l a cls a0 .none d h := by
  obtain ⟨k1, k2, k3, oe, vs, T, oT, ts, he, ⟨z1, z2, z3⟩, hd, h1, r⟩ := f
  have hz : 0 < vs.size := Nat.lt_of_le_of_lt (Nat.zero_le 1) (Array.getElem?_eq_some_iff.mp h1).1
  exact ⟨vs[0], k1, k2, k3, oe, vs, T, oT, ts, he, ⟨z1, Array.getElem?_eq_getElem hz, z3 vs hd, z2⟩, hd, h1, r⟩
theorem heldZ {B h : Heap} {l : List PySem.Env} {a L : Addr} {cls a0 : Value} {d : Option Addr} (f : Heap.HeldD B l a cls a0 .none d L h) : HandSPX.HeldZ B l a (L2N.Zn cls d) L h := by
  obtain ⟨k1, k2, k3, oe, vs, T, oT, ts, he, ⟨z1, z0, z3, z2⟩, hd, r⟩ := f
  exact ⟨k1, k2, k3, oe, vs, T, oT, ts, he, ⟨z1, z2, fun ws hw => by rw [hd] at hw; cases hw; exact z3⟩, hd, r⟩
theorem flyD_hide {B h : Heap} {l : List PySem.Env} {a : Addr} {cls a0 c2 : Value} {d : Option Addr} (cs : List Addr) (f : Heap.FlyingD B l a cls a0 c2 d h) : Heap.FlyingD (PySem.W.hideAll B cs) l a cls a0 c2 d h := by
  obtain ⟨k1, k2, k3, oe, vs, T, oT, ts, he, z, hd, h1, hT, r⟩ := f
  have low : ∀ b, B.get? b = none → (PySem.W.hideAll B cs).get? b = none := fun b e => by
    cases q : (PySem.W.hideAll B cs).get? b with
    | none => rfl
    | some o =>
      have := PySem.W.of_hideAll _ q
      rw [e] at this
      cases this
  refine ⟨fun b o e => k1 b o (PySem.W.of_hideAll _ e), low a k2, ?_, oe, vs, T, oT, ts, he, z, hd, h1, low T hT, r⟩
  exact funFrames_none k3 fun L hL => low L (k3.mem hL).1
/-- the block of a comprehension whose element may raise -/
abbrev blkR (X : Cx) (s : Shared) (H : Hp) (scope : Scope) (ce : PySem.Env) (fp : List Addr) : Cx := (X.blk s H scope ce fp).wish (notedBy (model X.prog X.w) X.A ce (CompFails (model X.prog X.w) X.A X.xe ce))
section
variable {X : Cx} {pins : List (Addr × Obj)} {σ : L2.St} {H3 : Hp} {s3 : Shared} {E : XK}
/-- an exception of the element leaves the block, then it is in the def's air -/
theorem blk_passes (hs : X.stack = X.env :: X.outer) (hf : X.env.frame = some X.env.locals) (tk : L2N.Takes X fun cls d _ H => E cls d H) (I3 : Inv X pins σ H3 s3) {scope : Scope} {ce : PySem.Env} {fp : List Addr} (hfp : ∀ b ∈ fp, FpOk X pins H3 b) (hC : s3.heap.objs.size ≤ ce.locals) (hcf : ce.frame = X.env.frame) :
    Passes (L2N.CX X.prog X.w) (blkR X s3 H3 scope ce fp) E := by
  intro qs σ' H s e s' IB c
  have okX := I3.ok
  obtain ⟨a, B, sI, H', cls, d, rfl, JB, nb, up, fl, na, os, ag, hE⟩ := air_call IB c
  have J : Inv X pins σ H' sI := I3.call' (ch := fp) JB.os JB.base JB.hok JB.bare fun b hb => ⟨(hfp b hb).2.2.2.1, (hfp b hb).2.1, (hfp b hb).2.2.2.2.1, (hfp b hb).2.2.2.2.2⟩
  have nC : H' ce.locals = none := JB.free
  obtain ⟨g0, g1, g2, g3, g4, g5⟩ := I3.fpOk hC nC
  obtain ⟨a0, fD⟩ := flyD fl
  have fD := flyD_hide [ce.locals] fD
  have hfr : X.A.frames = some (X.env :: X.outer) := by rw [okX.frames, hs]
  obtain ⟨m, hns, _⟩ := JB.loc
  have hns' : s'.heap.Ns ce.locals m := hns.keeps up
  have fD : Heap.FlyingD (PySem.W.hideAll B [ce.locals]) (X.env :: X.outer) a cls a0 .none d s'.heap := by rw [← hs]; exact fD
  refine noted_flying (base := PySem.W.hideAll B [ce.locals]) (L := X.env.locals) hfr hcf hf (PySem.W.hideAll_none _ (by simp)) hns' fD fun h' hH hk => ?_
  have notC : ∀ {b : Addr} {o : Obj} {h : Heap}, (PySem.W.hideAll h [ce.locals]).get? b = some o → b ≠ ce.locals := fun {b o h} e z => by
    rw [PySem.W.hideAll_none _ (by simp [z])] at e
    cases e
  have hold : HandSPX.HeldZ (PySem.W.hideAll B [ce.locals]) X.stack a (L2N.Zn cls d) X.env.locals h' := by rw [hs]; exact heldZ hH
  refine tk _ _ ⟨a, PySem.W.hideAll B [ce.locals], { sI with heap := PySem.W.hideAll sI.heap [ce.locals] }, pins, σ, H', cls, d, rfl, ?_, fun b o e hb => ?_, fun b o e hd => ?_, .inr (.inr hold), na, os, ag, hE⟩
  · exact J.turned (t' := sI.toks) (fun b o hb e => PySem.W.hideAll_get _ e (by simpa using hb)) g0 g1 g3 g4 g5
  · exact PySem.W.hideAll_get _ (nb b o (PySem.W.of_hideAll _ e) hb) (by simpa using notC e)
  · exact hk b o (up b o (PySem.W.of_hideAll _ e)) (notC e) hd
end
end Wf
/-! A list comprehension whose element calls a def that may raise: the rule. -/
namespace Wf
open PySem PySem.Spec PyProof.Rows L2
section
variable {X : Cx} {elt tg iter : Expr} {ifs : List Expr} {scope : Scope} {own : List (Str × Nat)} {pos : Pos} {g : TG} {tt : TT} {te : TE} {Q : VK}
/-- one turn of the reading -/
def LcTurn (J : It) (g : TG) (tt : TT) (te : TE) (ws : List Nat) (σ : L2.St) (D : Addr) (W : Nat → Nat → Hp → Prop) (Q : VK) : Prop := ∀ i m H, W i m H →
  (J.stop i H ∧ Q (.ref D) H) ∨ (J.go i H ∧ ∃ Nx : Hp → Prop, (∀ H', Nx H' → ∃ m', m' < m ∧ W (i + 1) m' H') ∧ ∀ x H', J.yld i H x H' → g x (wipe σ ws) H' fun σ2 H2 => wipe σ2 ws = wipe σ ws ∧ tt σ2 H2 fun b H3 =>
    if b = true then te σ2 H3 fun y H4 => ∃ acc, H4 D = some (.lst acc) ∧ acc.length < sizeLine ∧ Nx (upd H4 D (.lst (acc ++ [y]))) else Nx H3)
/-- the loop, from the block's start on -/
theorem lcR_loop {Y : Cx} {σ : L2.St} {H3 : Hp} {s4 : Shared} {fp : List Addr} {it D : Addr} {tn : Nat → Heap → Prop} {J : It} {W : Nat → Nat → Hp → Prop} {m0 : Nat} {R : Result → Shared → Prop} {ws : List Nat}
    (hc : Y.calm = true) (hpn : Y.pn = []) (hxe : Y.xe = notedBy (model Y.prog Y.w) Y.A Y.env fun e s' => R (.error e) s') (hex : ∀ b ∈ fp, b ∈ Y.ex) (T : Turn Y.prog Y.w Y.K tg J fp it tn) (pg : PG Y tg g) (pt : PTs Y ifs tt) (pe : PE Y elt te)
    (hI : Inv Y [] (wipe σ ws) H3 s4) (hst : tn 0 s4.heap) (hfp : ∀ b ∈ fp, H3 b = none) (hW : W 0 m0 H3) (turn : LcTurn J g tt te ws σ D W Q)
    (done : ∀ s' H', Inv Y [] (wipe σ ws) H' s' → (∀ b ∈ fp, H' b = none) → Q (.ref D) H' → R (.ok .next) s') :
    codeAny (model Y.prog Y.w) Y.A (.compLoop (.ListComp elt [⟨tg, iter, ifs, 0⟩] scope pos) 0 (.ref it) (.ref D) Y.env) R s4 := by
  have mine : ∀ {τ : L2.St} {H' : Hp} {s' : Shared}, Inv Y [] τ H' s' → (∀ b ∈ fp, H' b = none) → ∀ b ∈ fp, FpOk Y [] H' b := fun {τ H' s'} K hn b hb => by
    have e1 := K.ok.exf b (hex b hb)
    refine ⟨hn b hb, e1.1, K.ok.exfs b (hex b hb), .inl (hex b hb), fun x c e => e1.2 x c e, fun p hp => ?_⟩
    rw [hpn] at hp
    exact absurd hp (by simp)
  refine compLoop_any (fun k s' => ∃ j H', (Inv Y [] (wipe σ ws) H' s' ∧ tn j s'.heap) ∧ (∀ b ∈ fp, H' b = none) ∧ W j k H') (fun k s5 hk => ?_) m0 ⟨0, H3, ⟨hI, hst⟩, hfp, hW⟩
  obtain ⟨j, H5, ⟨I5, t5⟩, f5, w5⟩ := hk
  rcases turn j k H5 w5 with ⟨z, q⟩ | ⟨z, Nx, hNx, step⟩
  · refine thnF (T.done Y rfl rfl rfl hc j [] s5 (wipe σ ws) H5 (fun _ _ => False) I5 (mine I5 f5) t5 z) fun r s6 hr => ?_
    obtain ⟨rfl, I6⟩ := hr
    exact done s6 H5 I6 f5 q
  · refine thnF (T.item Y rfl rfl rfl hc j [] s5 (wipe σ ws) H5 (fun _ _ => False) I5 (mine I5 f5) t5 z) fun r s6 hr => ?_
    obtain ⟨u, rfl, h6⟩ := hr
    refine thnF h6 fun _ s7 h7 => ?_
    obtain ⟨x, H7, I7, r7, y7, t7, f7⟩ := h7
    have P7 := L2.Inv.pinned I7 (mine I7 f7) (T.obj _ _ t7)
    have goOn : ∀ {τ : L2.St} {s' : Shared} {H' : Hp}, wipe τ ws = wipe σ ws → Inv Y ([] ++ pinsAt fp s7.heap) τ H' s' → Nx H' → ∃ k', k' < k ∧ ∃ j H', (Inv Y [] (wipe σ ws) H' s' ∧ tn j s'.heap) ∧ (∀ b ∈ fp, H' b = none) ∧ W j k' H' := fun {τ s' H'} ew K nx => by
      obtain ⟨k', lt, wk⟩ := hNx H' nx
      have stay : ∀ b ∈ fp, ∀ o, s7.heap.get? b = some o → s'.heap.get? b = some o ∧ H' b = none := fun b hb o e => by
        have p := K.pin (b, o) (List.mem_append_right _ (List.mem_append_right _ (mem_pinsAt hb e)))
        exact ⟨p.1, p.2.1⟩
      have K0 : Inv Y [] τ H' s' := L2.Inv.unpinned (pins := []) K
      refine ⟨k', lt, j + 1, H', ⟨K0.weak (by rw [← ew, wipe_length]) fun i v e => ?_, T.keep _ _ _ t7 fun b hb o e => (stay b hb o e).1⟩, fun b hb => ?_, wk⟩
      · rw [← ew] at e
        exact (wipe_some e).1
      · obtain ⟨o, e, _⟩ := T.obj _ _ t7 b hb
        exact (stay b hb o e).2
    rw [← hxe]
    refine thn (pg.run _ s7 _ H7 x u _ P7 r7 (step x H7 y7)) fun _ s8 h8 => ?_
    obtain ⟨τ, H8, I8, ew, q8⟩ := h8
    refine thn (pt.run _ s8 τ H8 _ I8 q8) fun b s9 h9 => ?_
    obtain ⟨H9, I9, q9⟩ := h9
    cases b with
    | false => exact goOn ew I9 (by simpa using q9)
    | true =>
      rw [if_pos rfl] at q9 ⊢
      refine thn (pe.run _ s9 τ H9 _ I9 q9) fun v s10 h10 => ?_
      obtain ⟨yv, H10, I10, r10, acc, hD, hz, nx⟩ := h10
      exact app_ok (X := Y) I10 hD hz r10 fun s11 I11 => goOn ew I11 nx
/-- [elt for target in iter if ..] where the element may raise -/
theorem pe_lcR {E : XK} {wi : TI} (hs : X.stack = X.env :: X.outer) (hf : X.env.frame = some X.env.locals) (tk : L2N.Takes X fun cls d _ H => E cls d H) (hc : X.calm = true) (hN : X.N.Nodup) (ok : BlkOk X.N X.env.scope scope own) (hi : PI X tg iter wi)
    (hg : ∀ (s : Shared) (H : Hp) (C : Addr) (cl : List (Str × Addr)) (fp : List Addr), PG (blkR X s H scope (compEnvC scope cl C X.env) fp) tg g)
    (ht : ∀ (s : Shared) (H : Hp) (C : Addr) (cl : List (Str × Addr)) (fp : List Addr), PTs (blkR X s H scope (compEnvC scope cl C X.env) fp) ifs tt)
    (he : ∀ (s : Shared) (H : Hp) (C : Addr) (cl : List (Str × Addr)) (fp : List Addr), Passes (L2N.CX X.prog X.w) (blkR X s H scope (compEnvC scope cl C X.env) fp) E → PE (blkR X s H scope (compEnvC scope cl C X.env) fp) elt te)
    (hfold : ∀ x, foldedSetIterable iter X.env x = pure x := by intro _; rfl) : PE X (.ListComp elt [⟨tg, iter, ifs, 0⟩] scope pos) (tLc wi g tt te (own.map (·.2))) := by
  refine ⟨fun pins s σ H Q I h => ?_⟩
  have cells : ∀ y ∈ scope.names, y.2 = .free → ∃ c, X.env.cells.lookup y.1 = some c := fun y hy e => by
    rcases ok.free y hy e with z | z
    · exact I.ok.has y.1 (.inl z)
    · exact I.ok.has y.1 (.inr z)
  rw [eval_ListComp]
  refine comprehension_at (use := none) rfl hfold (closure_ok cells) ok.kind (fun y hy e => (ok.uniq y hy).trans (by rw [e])) (thn (hi.run pins s σ H _ I h) fun _ _ hx => thn hx fun _ s2 h2 => ?_)
  obtain ⟨it, fp, tn, J, H2, rfl, I2, T, t2, f2, q⟩ := h2
  refine wpAny_newObj_type (newEnv_comp ?_) (Nat.zero_le _)
  obtain ⟨D, hD⟩ : ∃ D, D = s2.heap.objs.size := ⟨_, rfl⟩
  rw [← hD]
  have nD : H2 D = none := I2.hok.fresh (Nat.le_of_eq hD.symm)
  obtain ⟨W, ⟨m0, w0⟩, turn⟩ := q D nD
  have turn : LcTurn J g tt te (own.map (·.2)) σ D W Q := turn
  obtain ⟨s3, e3⟩ : ∃ s3 : Shared, s3 = { s2 with heap := s2.heap.push { cls := .type "list", data := .seq ([] : List Value).toArray } } := ⟨_, rfl⟩
  have h3 : s3.heap = s2.heap.push { cls := .type "list", data := .seq ([] : List Value).toArray } := congrArg Shared.heap e3
  have at3 : ∀ b o, s2.heap.get? b = some o → s3.heap.get? b = some o := fun b o e => by
    rw [h3]
    exact Heap.get?_push_of_some _ e
  have I3 : Inv X pins σ (upd H2 D (.lst [])) s3 := by
    rw [e3]
    refine I2.laid (t' := s2.toks) (fun b o e => Heap.get?_push_of_some _ e) (Nat.le_of_eq hD.symm) ⟨Nat.zero_le _, [], 0, .nil, ?_⟩
    rw [hD]
    exact Heap.get?_push_size _ rfl
  have lt2 : ∀ b ∈ fp, b < s2.heap.objs.size := fun b hb => (T.obj _ _ t2 b hb).elim fun o z => Heap.lt_size z.1
  have f3 : ∀ b ∈ fp, FpOk X pins (upd H2 D (.lst [])) b := fun b hb => by
    have z : b ≠ D := by
      rw [hD]
      exact Nat.ne_of_lt (lt2 b hb)
    exact ⟨(upd_ne z).trans (f2 b hb).1, (f2 b hb).2⟩
  have I4 := block_start I3 ok hN fun b hb => ⟨f3 b hb, by rw [h3, Heap.size_push]; exact Nat.lt_succ_of_lt (lt2 b hb)⟩
  rw [← e3]
  have t4 : tn 0 (pushCells (s3.heap.push { cls := .type "dict", data := .dict #[] }) scope.names) := T.keep _ _ _ t2 fun b _ o e => pushCells_keeps _ _ _ _ (Heap.get?_push_of_some _ (at3 b o e))
  have key : codeAny (model X.prog X.w) X.A (.compLoop (.ListComp elt [⟨tg, iter, ifs, 0⟩] scope pos) 0 (.ref it) (.ref D) (compEnvC scope (cellsFrom (s3.heap.objs.size + 1) scope.names (cloFrom X.env.cells scope.names [])) s3.heap.objs.size X.env))
      (compEnds (model X.prog X.w) X.A X.xe none (EP X pins σ Q) (.ref D) (compEnvC scope (cellsFrom (s3.heap.objs.size + 1) scope.names (cloFrom X.env.cells scope.names [])) s3.heap.objs.size X.env)) { s3 with heap := pushCells (s3.heap.push { cls := .type "dict", data := .dict #[] }) scope.names } := by
    have pg := hg s3 (upd H2 D (.lst [])) s3.heap.objs.size (cellsFrom (s3.heap.objs.size + 1) scope.names (cloFrom X.env.cells scope.names [])) fp
    have pt := ht s3 (upd H2 D (.lst [])) s3.heap.objs.size (cellsFrom (s3.heap.objs.size + 1) scope.names (cloFrom X.env.cells scope.names [])) fp
    have pe := he s3 (upd H2 D (.lst [])) s3.heap.objs.size (cellsFrom (s3.heap.objs.size + 1) scope.names (cloFrom X.env.cells scope.names [])) fp (blk_passes hs hf tk I3 f3 (Nat.le_refl _) rfl)
    refine lcR_loop (Y := blkR X s3 (upd H2 D (.lst [])) scope (compEnvC scope (cellsFrom (s3.heap.objs.size + 1) scope.names (cloFrom X.env.cells scope.names [])) s3.heap.objs.size X.env) fp) (σ := σ) (ws := own.map (·.2)) (Q := Q) hc rfl rfl (fun b hb => hb) T pg pt pe (I4.wish _) t4 (fun b hb => (f3 b hb).1) w0 turn fun s' H' K f' qq => ?_
    have K7 : Inv X pins σ H' s' := I3.call' (ch := fp) K.os K.base K.hok K.bare fun b hb => ⟨(f3 b hb).2.2.2.1, (f3 b hb).2.1, (f3 b hb).2.2.2.2.1, (f3 b hb).2.2.2.2.2⟩
    obtain ⟨m, ns, _⟩ := K.loc
    refine ⟨m, ns, fun h'' sb => ?_⟩
    have free : H' s3.heap.objs.size = none := K.free
    obtain ⟨g0, g1, g2, g3, g4, g5⟩ := I3.fpOk (Nat.le_refl _) free
    exact ⟨.ref D, H', K7.turned (t' := s'.toks) (fun b o hb e => (sb.2 b hb).trans e) g0 g1 g3 g4 g5, rfl, qq⟩
  exact codeAny_compStart_list key (T.self X.A 0 _ _ _ t4 key)
end
end Wf
/-! Raising, told of data. -/
namespace Wf
open PySem PySem.Spec PyProof.Rows L2
section
variable {X : Cx} {CX : CXT} {x : Str} {C fI : Addr} {k : Nat} {fd : FuncData} {ps : List Str} {sp : Sp} {e : Expr} {es : List Expr} {ta : TA} {p pos : Pos}
/-- C(e, ..) where nothing is handled: its context is None -/
theorem pmkN (T : OexC X.K C) (iC : PySem.W.findIn X.K (.ref C) "__init__" = some (some (.ref fI))) (tI : PySem.W.typeIn X.K (.ref fI) = some (.type "function")) (Fn : FnOk X.prog X.w X.K X.mg X.base CX k fI fd ps sp) (room : Room (k + 1) X.A) (hb : Binds X.K fd ps [])
    (quiet : Passes CX X (fun _ _ _ => False)) (hg : Gl X x) (hm : X.mg x = some (.ref C)) (ha : PA X (e :: es) ta) (hdb : (x == ("__debug__" : Str)) = false := by decide) (he : starEach (e :: es) X.env = (false, eval e X.env) :: starEach es X.env := by rfl)
    (hpl : (backTo pos (starEach es X.env)).any (·.1) = false := by rfl) : L2N.PMk X (.Call (.Name x p) (e :: es) [] pos) (tMkO C sp [] ta) := fun pins s σ H Q I h => by
  obtain ⟨nm, qn, N, bs, bm, sn, sub, ab, col, dd, k0, k1, k2, k3, k5, cls, refs⟩ := T.cls
  refine wpAny_Call_Name_kw (ld_glob I hg hm ?_ hdb)
  refine PySem.W.callWith_K (h₀ := X.base) I.ok.mod.kin T.kC (thn (ha.run pos pins s σ H _ I h) fun us s1 h1 => ?_) he hpl
  obtain ⟨vs, H1, J, r, lim, q⟩ := h1
  refine ⟨J.kIn, ?_⟩
  show wpAny _ _ (call (.ref C) us) _ _ _
  obtain ⟨hp, gs, dr, tk, os⟩ := s1
  have above : hp.objs.size ≤ hp.objs.size + 1 := Nat.le_succ _
  have free : H1 (hp.objs.size + 1) = none := J.hok.fresh above
  have wish := q _ free
  rw [List.append_nil] at wish
  have older : ∀ b o, hp.get? b = some o → ((hp.push (PySem.W.kdv_tup us)).push (PySem.HandSPX.excO C hp.objs.size)).get? b = some o := fun b o z => Heap.get?_push_of_some _ (Heap.get?_push_of_some _ z)
  have here : ((hp.push (PySem.W.kdv_tup us)).push (PySem.HandSPX.excO C hp.objs.size)).get? (hp.objs.size + 1) = some (PySem.HandSPX.excO C hp.objs.size) := by
    heap_get
  have J2 : Inv X pins σ (upd H1 (hp.objs.size + 1) (exo (hp.objs.size + 1) C none)) ⟨(hp.push (PySem.W.kdv_tup us)).push (PySem.HandSPX.excO C hp.objs.size), gs, dr, tk, os⟩ := J.laid (t' := tk) older above (exo_ok here)
  have rr : Vals (V.ref (hp.objs.size + 1) :: vs) (Value.ref (hp.objs.size + 1) :: us) := .cons rfl r
  have len : (Value.ref (hp.objs.size + 1) :: us ++ []).length = ps.length := by rw [List.append_nil, ← rr.length, Fn.len _ _ _ _ wish]
  have small : us.length ≤ sizeLine := by
    rw [← Paired.length r, sizeLine_eq]
    omega
  have bind := hb _ (Value.ref (hp.objs.size + 1) :: us) J2.kIn len
  rw [List.append_nil] at bind
  have run := Fn.run _ X.stack _ _ ⟨Value.ref (hp.objs.size + 1) :: us, []⟩ (Value.ref (hp.objs.size + 1) :: us) _ _ (fun _ _ _ => False) (room.make C us []) (J2.env0.make C us []) bind rr wish
  refine wpAny_call (PySem.HandSPX.call_own F.excBase_ValueError (fun Y => PySem.HandSPX.refsVE_contains Y bm refs) (J.kIn _ _ cls) (PySem.W.looks_findIn J.kIn iC) (fun self => PySem.W.bind_fn J.kIn self tI) small (codeAny_mono run fun r2 s2 h2 => ?_))
  cases r2 with
  | error er => exact quiet pins σ _ _ er s2 J2 h2
  | ok fl =>
    cases fl with
    | next => exact False.elim h2
    | brk => exact False.elim h2
    | cont => exact False.elim h2
    | ret u =>
      obtain ⟨v, H2, os2, bare, un, hok, rv, ev, d, fs, eo, ed, hd1, w⟩ := h2
      subst ev
      obtain ⟨h2, g2, d2, t2, os'⟩ := s2
      obtain ⟨t0, G, K, kG, ge, hoe, na⟩ := mk_end0 (d2 := d2) (t2 := t2) J above older un hok os2 bare eo ed hd1
      exact ⟨rv, hp.objs.size + 1, _, _, ⟨G, g2, d2, t2, os'⟩, _, .ref C, some d, rfl, K, kG, ge, hoe, ⟨rfl, rfl, fun ws hw => by cases hw; rfl⟩, rfl, rfl, na, rfl, bare, raises_own T.exC T.tyC, w⟩
end
end Wf
namespace Wf
open PySem L2
/-- the wish about an exception of the class at C with the fields fs -/
def Thr (P : Addr) (I0 H0 : Hp) (E : XK) (C : Addr) (fs : List (Str × V)) : Prop := ∀ I' H' d, Wd P I0 H0 I' H' → H' d = some (.xd fs) → E (.ref C) (some d) H'
/-- a promise of a def that may raise -/
def spR {X : Type} (K : PySem.W.Frag) (P C : Addr) (args : X → List DD) (pre : X → Prop) (post : X → DD → Prop) (thr : X → List (Str × V) → Prop) : Sp := fun vs H Q E => ∃ (I : Hp) (x : X), RpL K I vs (args x) ∧ Ok P I H ∧ pre x ∧ (∀ r v I' H', post x r → Wd P I H I' H' → Rp K I' v r → Q v H') ∧ ∀ fs, thr x fs → Thr P I H E C fs
def uFs (n : Nat) (w : Str) : List (Str × V) := [("what", .str w), ("at", .int n)]
section
variable (K : PySem.W.Frag) (P : Addr) (I0 H0 : Hp)
def EvZ (te : TE) (Γ : Env) (D : DD → Prop) : Prop := ∀ (I H : Hp) (σ : L2.St), EnvOk K P I H σ Γ → Wd P I0 H0 I H → ∀ Q : VK, (∀ v d I' H', D d → Wd P I H I' H' → Rp K I' v d → Q v H') → te σ H Q
def EvAZ (ta : TA) (Γ : Env) (D : List DD → Prop) : Prop := ∀ (I H : Hp) (σ : L2.St), EnvOk K P I H σ Γ → Wd P I0 H0 I H → ∀ Q : List V → Hp → Prop, (∀ vs ds I' H', D ds → Wd P I H I' H' → RpL K I' vs ds → Q vs H') → ta σ H Q
end
section
variable {K : PySem.W.Frag} {P : Addr} {I0 H0 : Hp} {Γ : Env} {te : TE} {D : DD → Prop} {E : XK} {C : Addr} {N : Env → Prop} {R : Env → DD → Prop} {B Ct : Env → Prop}
theorem Thr.go {fs : List (Str × V)} {I H : Hp} (t : Thr P I0 H0 E C fs) (w : Wd P I0 H0 I H) : Thr P I H E C fs := fun I' H' d w' e => t I' H' d (w.trans w') e
theorem Ev.z (h : Ev K P te Γ D) : EvZ K P I0 H0 te Γ D := fun I H σ e _ Q q => h I H σ e Q q
theorem EvA.z {ts : TA} {D : List DD → Prop} (h : EvA K P ts Γ D) : EvAZ K P I0 H0 ts Γ D := fun I H σ e _ Q q => h I H σ e Q q
theorem az_cons {ts : TA} {D' : List DD → Prop} (h : EvZ K P I0 H0 te Γ D) (hr : EvAZ K P I0 H0 ts Γ D') : EvAZ K P I0 H0 (tCons te ts) Γ (fun l => ∃ d r, l = d :: r ∧ D d ∧ D' r) := fun I H σ e w Q q => by
  refine h I H σ e w _ fun x d1 I1 H1 e1 w1 r1 => ?_
  refine hr I1 H1 σ (e.mono w1) (w.trans w1) _ fun vs ds I2 H2 e2 w2 r2 => ?_
  exact q (x :: vs) (d1 :: ds) I2 H2 ⟨_, _, rfl, e1, e2⟩ (w1.trans w2) (.cons (r1.mono w2.ii) r2)
theorem az_nil : EvAZ K P I0 H0 tNil Γ (· = []) := (ea_nil).z
theorem z_tup {ts : TA} {A : List DD → Prop} (h : EvAZ K P I0 H0 ts Γ A) (hA : ∀ l, A l → ∃ ds : List PyData, l = ds.map DD.dat ∧ ds.length ≤ 1000 ∧ D (.dat (.tuple ds))) : EvZ K P I0 H0 (tTup ts) Γ D := fun I H σ e w Q q => by
  refine h I H σ e w _ fun vs ds' I1 H1 e1 w1 r1 => ?_
  obtain ⟨ds, ed, hl, hD⟩ := hA _ e1
  subst ed
  have r := rpL_dx r1
  refine ⟨by rw [r.len, sizeLine_eq]; omega, fun p hp => ?_⟩
  have w2 := w1.ok.new hp (.tup vs)
  exact q _ _ _ _ hD (w1.trans w2) (Dx.tup (SqT.of upd_same) (DxA.mono w2.ii _ _ r))
theorem z_callR {X : Type} {args : X → List DD} {pre : X → Prop} {post : X → DD → Prop} {thr : X → List (Str × V) → Prop} {ts : TA} (x : X) (h : EvA K P ts Γ (· = args x)) (hp : pre x) (ht : ∀ fs, thr x fs → Thr P I0 H0 E C fs) : EvZ K P I0 H0 (tCall (spR K P C args pre post thr) [] E ts) Γ (post x) := fun I H σ e w Q q => by
  refine h I H σ e _ fun vs ds' I1 H1 e1 w1 r1 => ?_
  subst e1
  show spR K P C args pre post thr (vs ++ []) H1 Q E
  rw [List.append_nil]
  exact ⟨I1, x, r1, w1.ok, hp, fun r v I2 H2 hr w2 r2 => q v r I2 H2 hr (w1.trans w2) r2, fun fs hf => (ht fs hf).go (w.trans w1)⟩
theorem svz_asg {i : Nat} (h : EvZ K P I0 H0 te Γ D) (hn : ∀ d, D d → N (Γ.set i (.imm d))) : EvS K P I0 H0 (tAsg te (gName i)) Γ N R B Ct := fun I H σ D' e kn hr hb hc => by
  refine h I H σ e.env e.wd _ fun v d I1 H1 hd w r => ?_
  exact kn I1 H1 _ _ (hn d hd) w.ii ((e.mono w).set r)
theorem svz_ret (h : EvZ K P I0 H0 te Γ D) (hr : ∀ d, D d → R Γ d) : EvS K P I0 H0 (tRet te) Γ N R B Ct := fun I H σ D' e kn kr hb hc =>
  h I H σ e.env e.wd _ fun v d I1 H1 hd w r => kr I1 H1 σ Γ v d (hr d hd) (e.mono w) r
theorem svz_if {c : TT} {k : Bool} {t u : TS} (h : EvT K P c Γ k) (h1 : k = true → EvS K P I0 H0 t Γ N R B Ct) (h2 : k = false → EvS K P I0 H0 u Γ N R B Ct) : EvS K P I0 H0 (tIfS c t u) Γ N R B Ct := sv_if h h1 h2
/-- raise Unfit(n, w) -/
def tRaU (C : Addr) (E : XK) (ta : TA) : TS := fun _ σ H => tMkO C (spU C) [] ta σ H fun cls d H' => E cls d H'
theorem sv_raiseU {ta : TA} {n : Nat} {w : Str} (h : EvA K P ta Γ (· = [.dat (.int n), .dat (.str w)])) (hn : n ≤ 2000) (hw : w.length ≤ 100) (t : Thr P I0 H0 E C (uFs n w)) : EvS K P I0 H0 (tRaU C E ta) Γ N R B Ct := fun I H σ D e kn kr hb hc => by
  refine h I H σ e.env _ fun vs ds I1 H1 e1 w1 r1 => ?_
  subst e1
  have r := rpL_dx (ds := [.int n, .str w]) r1
  cases r with
  | cons ra rb =>
    cases rb with
    | cons rc rd =>
      cases rd
      cases ra
      cases rc
      refine ⟨by simp only [List.length_cons, List.length_nil]; omega, fun a ha => ⟨a, n, w, rfl, hn, hw, upd_same, fun dx hd hne => ⟨rfl, dx, _, (upd_ne (Ne.symm hne)).trans upd_same, upd_same, (upd_ne hne).symm.trans hd, ?_⟩⟩⟩
      have hd1 : H1 dx = none := (upd_ne hne).symm.trans hd
      have w2 := e.wd.trans w1
      have w3 := w2.trans (w2.ok.newM hd1 (.xd (uFs n w)))
      refine t I1 _ dx ?_ upd_same
      have eq : upd (del (upd (upd (upd (upd H1 a (exo a C none)) dx (exd dx [("at", .int n)])) a (exo a C (some dx))) dx (exd dx [("what", .str w), ("at", .int n)])) a) dx (.xd (uFs n w)) = upd H1 dx (.xd (uFs n w)) := by
        funext b
        by_cases c : b = dx
        · subst c
          rw [upd_same, upd_same]
        · rw [upd_ne c, upd_ne c]
          by_cases c2 : b = a
          · subst c2
            rw [del_same, ha]
          · rw [del_ne c2, upd_ne c, upd_ne c2, upd_ne c, upd_ne c2]
      exact eq ▸ w3
/-- tuple([..]) where an element may raise -/
theorem z_lcT {wi : TI} {g : TG} {ws : List Nat} {ds : List PyData} (f : PyData → Option PyData) (Δ : PyData → Env) (hi : EvI K P wi Γ ds) (hl : ds.length ≤ 100000) (hg : ∀ d ∈ ds, EvW K P g ws d Γ (Δ d))
    (he : ∀ i d, ds[i]? = some d → (∀ d' ∈ ds.take i, (f d').isSome) → EvZ K P I0 H0 te (Δ d) (fun r => ∃ y, r = .dat y ∧ f d = some y)) : EvZ K P I0 H0 (tCB (rTupOf K) (tCons (tLc wi g tYes te ws) tNil)) Γ (fun r => (∀ d ∈ ds, (f d).isSome) ∧ r = .dat (.tuple (ds.filterMap f))) := fun I H σ e0 w0 Q q => by
  refine hi I H σ e0 _ fun J I1 H1 w W p hp => ?_
  obtain ⟨ip, pP⟩ := w.ok.free hp
  have wp := w.ok.newM hp (.lst [])
  refine ⟨fun i m H2 => (m = ds.length - i ∧ i ≤ ds.length) ∧ (∀ d ∈ ds.take i, (f d).isSome) ∧ ∃ I2 acc, Wd P I1 H1 I2 H2 ∧ H2 p = some (.lst acc) ∧ I2 p = none ∧ DxA K I2 acc ((ds.take i).filterMap f), ⟨ds.length, ⟨by simp, Nat.zero_le _⟩, fun d hd => by simp at hd, I1, [], wp, upd_same, ip, .nil⟩, fun i m H2 hh => ?_⟩
  obtain ⟨⟨hm, hle⟩, hok, I2, acc, w2, h2, i2, r2⟩ := hh
  have e2 := e0.mono (w.trans w2)
  by_cases lt : i < ds.length
  · refine .inr ⟨W.go i I2 H2 lt w2.ii w2.ok.sub, fun H3 => (∀ d ∈ ds.take (i + 1), (f d).isSome) ∧ ∃ I3 acc3, Wd P I1 H1 I3 H3 ∧ H3 p = some (.lst acc3) ∧ I3 p = none ∧ DxA K I3 acc3 ((ds.take (i + 1)).filterMap f), fun H3 h3 => ⟨ds.length - (i + 1), by omega, ⟨rfl, lt⟩, h3.1, h3.2⟩, fun x H3 y => ?_⟩
    obtain ⟨I3, d, hd, w3, r3⟩ := W.yld i I2 H2 x H3 lt w2.ii w2.ok y
    have mem : d ∈ ds := List.mem_of_getElem? hd
    have h3 := w3.hh p _ pP h2
    have i3 : I3 p = none := (w3.fr p _ h2).trans i2
    refine hg d mem I3 H3 σ x (e2.mono w3) r3 _ fun σ4 hw e4 => ⟨hw, ?_⟩
    show te σ4 H3 _
    refine he i d hd hok I3 H3 σ4 e4 (w0.trans ((w.trans w2).trans w3)) _ fun v dy I6 H6 e6 w6 r6 => ?_
    obtain ⟨y, ey, fy⟩ := e6
    subst ey
    have h6 := w6.hh p _ pP h3
    have i6 : I6 p = none := (w6.fr p _ h3).trans i3
    have eT : ds.take (i + 1) = ds.take i ++ [d] := by
      rw [List.take_add_one, hd]
      rfl
    have len : acc.length ≤ 100000 := by
      rw [r2.len]
      refine Nat.le_trans (List.length_filterMap_le f _) ?_
      rw [List.length_take]
      omega
    refine ⟨acc, h6, by rw [sizeLine_eq]; omega, fun d' hd' => ?_, I6, acc ++ [v], ((w2.trans w3).trans w6).mut hp i6 pP _, upd_same, i6, ?_⟩
    · rw [eT] at hd'
      rcases List.mem_append.mp hd' with z | z
      · exact hok d' z
      · rw [List.mem_singleton.mp z, fy]
        rfl
    · rw [eT, List.filterMap_append]
      have e1 : [d].filterMap f = [y] := by
        rw [List.filterMap_cons, fy]
        rfl
      rw [e1]
      exact (r2.mono (w3.ii.trans w6.ii)).snoc r6
  · have e : i = ds.length := by omega
    subst e
    rw [List.take_length] at r2 hok
    refine .inl ⟨W.stop I2 H2 w2.ii w2.ok.sub, p, acc, rfl, .inl ⟨SqL.of h2, fun l hl => ?_⟩⟩
    have w4 := w2.ok.new hl (.tup acc)
    exact q _ _ _ _ ⟨hok, rfl⟩ ((w.trans w2).trans w4) (Dx.tup (SqT.of upd_same) (r2.mono w4.ii))
end
end Wf
/-! Defs that raise Unfit. -/
namespace Wf
open PySem L2
/-- a promise of a def that may raise, told of data -/
structure PmR where
  X : Type
  args : X → List DD
  pre : X → Prop
  post : X → DD → Prop
  thr : X → List (Str × V) → Prop
abbrev PmR.sp (m : PmR) (K : PySem.W.Frag) (P C : Addr) : Sp := spR K P C m.args m.pre m.post m.thr
def PmR.Ok (m : PmR) (K : PySem.W.Frag) (P C : Addr) (E : XK) (I0 H0 : Hp) (n : Nat) (t : TS) : Prop := ∀ x, m.pre x → (∀ fs, m.thr x fs → Thr P I0 H0 E C fs) → EvS K P I0 H0 t (startE n (m.args x)) (fun _ => m.post x (.dat .none)) (fun _ => m.post x) (fun _ => False) (fun _ => False)
/-- what a caller needs of such a def -/
structure CalR (P : Program) (w : World) (K : PySem.W.Frag) (mg : Str → Option Value) (base : Heap) (k : Nat) (x : Str) (sp : Sp) : Prop where
  ex : ∃ (f : Addr) (fd : FuncData) (ps : List Str), FnOk P w K mg base (L2N.CX P w) k f fd ps sp ∧ mg x = some (.ref f) ∧ PySem.W.keepIn K (.ref f) = true ∧ Binds K fd ps []
/-- what is known of the class Unfit -/
structure UnfitK (P : Program) (w : World) (K : PySem.W.Frag) (mg : Str → Option Value) (base : Heap) (C : Addr) : Prop where
  ox : OexC K C
  mgU : mg "Unfit" = some (.ref C)
  ex : ∃ (fI : Addr) (fd : FuncData), PySem.W.findIn K (.ref C) "__init__" = some (some (.ref fI)) ∧ PySem.W.typeIn K (.ref fI) = some (.type "function") ∧ FnOk P w K mg base CX0 1 fI fd ["self", "at", "what"] (spU C) ∧ Binds K fd ["self", "at", "what"] []
section
variable {X : Cx} {k j : Nat} {C : Addr} {x : Str} {sp : Sp} {E : XK} {p pos : Pos} {e : Expr} {es : List Expr} {t : TA}
theorem pe_cR (c : CalR X.prog X.w X.K X.mg X.base k x sp) (hr : Room j X.A) (hk : k ≤ j) (px : Passes (L2N.CX X.prog X.w) X E) (hg : Gl X x) (ha : PA X (e :: es) t)
    (hdb : (x == ("__debug__" : Str)) = false := by decide) (he : starEach (e :: es) X.env = (false, eval e X.env) :: starEach es X.env := by rfl) (hpl : (backTo pos (starEach es X.env)).any (·.1) = false := by rfl) :
    PE X (.Call (.Name x p) (e :: es) [] pos) (tCall sp [] E t) := by
  obtain ⟨f, fd, ps, F, hm, kp, b⟩ := c.ex
  exact pe_call F (hr.mono hk) hg hm kp b .nil px ha hdb he hpl
/-- raise Unfit(..) -/
theorem ps_raU {ta : TA} {rp : Pos} (hc : X.calm = true) (tk : L2N.Takes X fun cls d _ H => E cls d H) (U : UnfitK X.prog X.w X.K X.mg X.base C) (hr : Room j X.A) (hk : 2 ≤ j) (hg : Gl X "Unfit") (ha : PA X (e :: es) ta)
    (he : starEach (e :: es) X.env = (false, eval e X.env) :: starEach es X.env := by rfl) (hpl : (backTo pos (starEach es X.env)).any (·.1) = false := by rfl) :
    PS X (.Raise (some (.Call (.Name "Unfit" p) (e :: es) [] pos)) none rp) (tRaU C E ta) := by
  obtain ⟨fI, fd, iC, tI, F, b⟩ := U.ex
  exact L2N.ps_raise hc tk (pmkN U.ox iC tI F (hr.mono hk) b pass0 hg U.mgU ha (by decide) he hpl)
end
section
variable {Pr : Program} {w : World} {K : PySem.W.Frag} {mg : Str → Option Value} {base : Heap} {P C : Addr}
/-- a def that may raise: its promise, by its body told of data -/
theorem Fun.rz {x qual : Str} {st : Stmt} {f : Addr} {fd : FuncData} {N ps : List Str} {k : Nat} {X : Type} {args : X → List DD} {pre : X → Prop} {post : X → DD → Prop} {thr : X → List (Str × V) → Prop} (F : L2.Fun K x qual st f fd) (S : FnScope N ps (defScope st)) (hl : ∀ x, (args x).length = ps.length)
    (hb : ∀ (cdv : Value) (A : Around) (outer : List PySem.Env) (s : Shared) (H : Hp) (E : XK), Room k (A.deeper (PyProof.Rows.envOfC qual (defScope st) s.heap.objs.size f cdv)) → L2N.Takes (cxOf (L2N.CX Pr w) Pr w K mg base N qual (defScope st) f cdv A outer s H E) (fun cls d _ H => E cls d H) →
      Passes (L2N.CX Pr w) (cxOf (L2N.CX Pr w) Pr w K mg base N qual (defScope st) f cdv A outer s H E) E →
      ∃ t, PSs (cxOf (L2N.CX Pr w) Pr w K mg base N qual (defScope st) f cdv A outer s H E) (defBody st) t ∧ ∀ x, pre x → ∀ I0 H0 : Hp, (∀ fs, thr x fs → Thr P I0 H0 E C fs) → EvS K P I0 H0 t (startE N.length (args x)) (fun _ => post x (.dat .none)) (fun _ => post x) (fun _ => False) (fun _ => False)) :
    FnOk Pr w K mg base (L2N.CX Pr w) (k + 1) f fd ps (spR K P C args pre post thr) := by
  obtain ⟨oc, od, kV, doc, pm, an, cdv, ct, osl, rfl, lk, hcd⟩ := F.ex
  refine fn_of lk hcd S (fun vs H Q E h => ?_) fun A outer s H vs Q E hr hsp => ?_
  · obtain ⟨I, x, r, _⟩ := h
    exact (Paired.length r).trans (hl x)
  · have tk : L2N.Takes (cxOf (L2N.CX Pr w) Pr w K mg base N qual (defScope st) f cdv A outer s H E) (fun cls d _ H => E cls d H) := L2N.takes_of rfl rfl rfl rfl
    obtain ⟨I, x, r, ko, hp, q, ht⟩ := hsp
    obtain ⟨t, hd, hev⟩ := hb cdv A outer s H E hr tk (L2N.passes_call tk fun _ _ _ _ h => h)
    refine ⟨t, hd, ?_⟩
    refine hev x hp I H ht I H _ _ (start_ok ko r) (fun I' H' σ' Γ' h' _ E' => ?_) (fun I' H' σ' Γ' v d hd E' r' => q d v I' H' hd E'.wd r') (fun _ _ _ _ z => z.elim) (fun _ _ _ _ z => z.elim)
    exact q _ _ I' H' h' E'.wd Dx.non
end
end Wf
/-! Defs that raise Unfit: without_indent, code_edit, said_of. -/
namespace Wf
open PySem L2
theorem whS_len (w : Wh) : (whS w).length ≤ 100 := by cases w <;> decide +kernel
abbrev s_without_indent : Stmt := topS 33
abbrev N_without_indent : List Str := ["at", "text", "indent", "rest"]
theorem sc_without_indent : FnScope N_without_indent ["at", "text", "indent"] (defScope s_without_indent) := ⟨rfl, rfl, rfl, by decide +kernel, rfl, by decide +kernel, by decide +kernel⟩
def t_without_indent (K : PySem.W.Frag) (P : Addr) (C : Addr) (E : XK) : TS :=
  (tSeq (tIfS (tTest (tOp rEq (tVar 1) (tC (.str "")))) (tRet (tVar 1)) tNext) (tSeq (tIfS (tTest (tOp rNe (tSl rSlS (tVar 1) tNoPart (tPart (tVar 2))) (tOp rMulS (tC (.str " ")) (tVar 2)))) (tRaU C E (tCons (tVar 0) (tCons (tC (.str "indent")) tNil))) tNext) (tSeq (tAsg (tSl rSlS (tVar 1) (tPart (tVar 2)) tNoPart) (gName 3)) (tSeq (tIfS (tTest (tOp rEq (tVar 3) (tC (.str "")))) (tRaU C E (tCons (tVar 0) (tCons (tC (.str "blank")) tNil))) tNext) (tSeq (tIfS (tNot (tB (tCall (pm_is_code.sp K P) [] E0 (tCons (tVar 3) tNil)))) (tRaU C E (tCons (tVar 0) (tCons (tC (.str "reference")) tNil))) tNext) (tRet (tVar 3)))))))
def pm_without_indent : PmR := ⟨Nat × Str × Nat, fun x => [.dat (.int x.1), .dat (.str x.2.1), .dat (.int x.2.2)], fun x => x.1 ≤ 2000 ∧ EtOk x.2.1 ∧ x.2.2 ≤ 1000, fun x r => fault x.2.1 x.2.2 = none ∧ r = .dat (.str (rest x.2.1 x.2.2)), fun x fs => ∃ w, fault x.2.1 x.2.2 = some w ∧ fs = uFs x.1 (whS w)⟩
theorem ev_without_indent {K : PySem.W.Frag} {P C : Addr} (E : XK) {I0 H0 : Hp} : pm_without_indent.Ok K P C E I0 H0 N_without_indent.length (t_without_indent K P C E) := fun x hx ht => by
  obtain ⟨n, t, i⟩ := x
  obtain ⟨hn, he, hi⟩ := hx
  dsimp only at hn he hi
  have he1 := he.1
  have thr : ∀ w, fault t i = some w → Thr P I0 H0 E C (uFs n (whS w)) := fun w hw => ht _ ⟨w, hw, rfl⟩
  have fin : fault t i = none → ∀ s, s = rest t i → pm_without_indent.post (n, t, i) (.dat (.str s)) := fun h s hs => ⟨h, by rw [hs]⟩
  refine sv_seq (sv_if (et_test (ev_eqS (ev_var rfl) ev_str)) (fun q => ?_) (fun q => sv_next ?_))
  · have q := of_decide_eq_true q
    rw [e0] at q
    exact sv_retE (ev_var rfl) (fin (by unfold fault; rw [if_pos q]) _ (by unfold rest; rw [if_pos q, q]))
  have q := of_decide_eq_false q
  rw [e0] at q
  refine sv_seq (sv_if (et_test (ev_neS (ev_tk (z := t) (i := i) (ev_var rfl) (ev_var rfl) (by omega)) (ev_op ev_str (ev_var rfl) (rop_mulS (n := i) (by omega))))) (fun q2 => ?_) (fun q2 => sv_next ?_))
  · have q2 : tkT t i ≠ spc i := of_decide_eq_false (by simpa using q2)
    exact sv_raiseU (n := n) (w := whS .indent) (ea_cons (ev_var rfl) (ea1 ev_str)) hn (whS_len _) (thr .indent (by unfold fault; rw [if_neg q, if_pos q2]))
  have q2 : ¬ tkT t i ≠ spc i := fun h => h (of_decide_eq_true (by simpa using q2))
  refine sv_seq (sv_asgE (ev_dr (z := t) (i := i) (ev_var rfl) (ev_var rfl) (by omega)) ?_)
  refine sv_seq (sv_if (et_test (ev_eqS (ev_var rfl) ev_str)) (fun q3 => ?_) (fun q3 => sv_next ?_))
  · have q3 := of_decide_eq_true q3
    rw [e0] at q3
    exact sv_raiseU (n := n) (w := whS .blank) (ea_cons (ev_var rfl) (ea1 ev_str)) hn (whS_len _) (thr .blank (by unfold fault; rw [if_neg q, if_neg q2, if_pos q3]))
  have q3 := of_decide_eq_false q3
  rw [e0] at q3
  refine sv_seq (sv_if (et_not (et_B (ev_call (X := Str) (drT t i) (ea1 (ev_var rfl)) (he.dr i)))) (fun q4 => ?_) (fun q4 => sv_next ?_))
  · have q4 : isRef (drT t i) = true := by simpa using q4
    exact sv_raiseU (n := n) (w := whS .reference) (ea_cons (ev_var rfl) (ea1 ev_str)) hn (whS_len _) (thr .reference (by unfold fault; rw [if_neg q, if_neg q2, if_neg q3, if_pos q4]))
  · have q4 : isRef (drT t i) = false := by simpa using q4
    exact sv_retE (ev_var rfl) (fin (by unfold fault; rw [if_neg q, if_neg q2, if_neg q3, if_neg (by rw [q4]; decide)]) _ (by unfold rest; rw [if_neg q]))
theorem ok_without_indent {Pr : Program} {w : World} {K : PySem.W.Frag} {mg : Str → Option Value} {base : Heap} {P C : Addr} {f : Addr} {fd : FuncData} (F : L2.Fun K "without_indent" "without_indent" s_without_indent f fd) (T : Txt mg) (U : UnfitK Pr w K mg base C) (C_is_code : C8.Cal Pr w K mg base 4 "is_code" (pm_is_code.sp K P) []) : FnOk Pr w K mg base (L2N.CX Pr w) 5 f fd ["at", "text", "indent"] (pm_without_indent.sp K P C) := by
  have nd := sc_without_indent.nd
  refine Fun.rz F sc_without_indent (fun _ => rfl) fun cdv A outer s H E hr tk px => ⟨t_without_indent K P C E, ?_, fun x hx _ _ ht => ev_without_indent E x hx ht⟩
  exact (pss_cons (ps_if (pt_cmpR op_eq (pv 1) pe_str (nomark _)) (pss_one (ps_ret (pv 1))) pss_nil) (pss_cons (ps_if (pt_cmpR op_ne (pe_slice sl_str (pv 1) po_none (po_some (pv 2))) (pe_op op_mulS pe_str (pv 2)) (nomark _)) (pss_one (ps_raU rfl tk U hr (by decide) rfl (pa_cons (pv 0) (pa_cons pe_str pa_nil)))) pss_nil) (pss_cons (ps_set (i := 3) nd rfl (by first | exact Or.inl rfl | exact Or.inr rfl) (pe_slice sl_str (pv 1) (po_some (pv 2)) po_none)) (pss_cons (ps_if (pt_cmpR op_eq (pv 3) pe_str (nomark _)) (pss_one (ps_raU rfl tk U hr (by decide) rfl (pa_cons (pv 0) (pa_cons pe_str pa_nil)))) pss_nil) (pss_cons (ps_if (pt_not (pt_val (C8.pe_c C_is_code hr (by decide) rfl (pa_cons (pv 3) pa_nil)))) (pss_one (ps_raU rfl tk U hr (by decide) rfl (pa_cons (pv 0) (pa_cons pe_str pa_nil)))) pss_nil) (pss_one (ps_ret (pv 3))))))))
theorem faultL_at : ∀ {ts : List Str} {j : Nat} {t : Str} {i : Nat} {w : Wh}, ts[j]? = some t → (∀ u ∈ ts.take j, fault u i = none) → fault t i = some w → faultL ts i = some w
  | [], j, t, i, w, e, _, _ => by simp at e
  | u :: ts, 0, t, i, w, e, _, hw => by
    cases e
    rw [faultL_cons, hw]
  | u :: ts, j + 1, t, i, w, e, hp, hw => by
    rw [faultL_cons, hp u (by simp)]
    exact faultL_at (ts := ts) (j := j) (by simpa using e) (fun v hv => hp v (by simp [hv])) hw
theorem faultL_none : ∀ {ts : List Str} {i : Nat}, (∀ u ∈ ts, fault u i = none) → faultL ts i = none
  | [], _, _ => rfl
  | u :: ts, i, h => by
    rw [faultL_cons, h u (by simp)]
    exact faultL_none fun v hv => h v (by simp [hv])
theorem faultL_app (a b : List Str) (i : Nat) : faultL (a ++ b) i = match faultL a i with | some w => some w | none => faultL b i := by
  induction a with
  | nil => rfl
  | cons u a ih =>
    rw [List.cons_append, faultL_cons, faultL_cons, ih]
    cases fault u i <;> rfl
def restC (c : Ch) (i : Nat) : Ch := match c with
  | .text t => .text (rest t i)
  | c => c
def restE (e : Ed) (i : Nat) : Ed := ⟨e.ahead.map (rest · i), restC e.ch i, e.behind.map (rest · i)⟩
/-- tuple([without_indent(at, text, indent) for text in ..]) -/
theorem z_rests {K : PySem.W.Frag} {P C : Addr} {E : XK} {I0 H0 : Hp} {Γ : Env} {j m k a n : Nat} {ts : List Str} {i : Nat} (hj : Γ[j]? = some (.imm (.dat (strsD ts)))) (hk : ∀ x, (Γ.set m (.imm (.dat x)))[k]? = some (.imm (.dat (.int i)))) (ha : ∀ x, (Γ.set m (.imm (.dat x)))[a]? = some (.imm (.dat (.int n))))
    (hm : m < Γ.length) (ht : ∀ t ∈ ts, EtOk t) (hn : n ≤ 2000) (hi : i ≤ 1000) (hl : ts.length ≤ 1000) (thr : ∀ w, faultL ts i = some w → Thr P I0 H0 E C (uFs n (whS w))) :
    EvZ K P I0 H0 (tCB (rTupOf K) (tCons (tLc (iTup K (tVar j)) (gName m) tYes (tCall (pm_without_indent.sp K P C) [] E (tCons (tVar a) (tCons (tVar m) (tCons (tVar k) tNil)))) [m]) tNil)) Γ (fun r => faultL ts i = none ∧ r = .dat (strsD (ts.map (rest · i)))) := by
  let f : PyData → Option PyData := fun x => match x with
    | .str t => if fault t i = none then some (.str (rest t i)) else none
    | _ => none
  have key : ∀ t, (f (.str t)).isSome = true → fault t i = none := fun t h => by
    have h : (if fault t i = none then some (PyData.str (rest t i)) else none).isSome = true := h
    by_cases c : fault t i = none
    · exact c
    · rw [if_neg c] at h
      cases h
  refine fun I H σ e w Q q => z_lcT f (fun x => Γ.set m (.imm (.dat x))) (ei_tup (ev_var hj)) (by rw [List.length_map]; omega) (fun x hx => ew_name) (fun b d hd hp => ?_) I H σ e w Q fun v r I' H' hr => ?_
  · rw [List.getElem?_map] at hd
    obtain ⟨t, htb, rfl⟩ := Option.map_eq_some_iff.mp hd
    have mem := List.mem_of_getElem? htb
    refine fun I H σ e w Q q => z_callR (X := Nat × Str × Nat) (n, t, i) (ea_cons (ev_var (ha _)) (ea_cons (ev_var (List.getElem?_set_self hm)) (ea1 (ev_var (hk _))))) ⟨hn, ht t mem, hi⟩ (fun fs hfs => ?_) I H σ e w Q fun v r I' H' hr => q v r I' H' ?_
    · obtain ⟨w, hw, rfl⟩ := hfs
      refine thr w (faultL_at htb (fun u hu => key u ?_) hw)
      refine hp (.str u) ?_
      rw [← List.map_take]
      exact List.mem_map_of_mem hu
    · exact ⟨_, hr.2, if_pos hr.1⟩
  · obtain ⟨hall, rfl⟩ := hr
    have none : ∀ t ∈ ts, fault t i = none := fun t htm => key t (hall (.str t) (List.mem_map_of_mem htm))
    refine q v _ I' H' ⟨faultL_none none, ?_⟩
    have e1 : (ts.map PyData.str).filterMap f = (ts.map (rest · i)).map PyData.str := by
      clear hall q thr ht hj hl
      induction ts with
      | nil => rfl
      | cons t ts ih =>
        have c := none t (by simp)
        have : f (.str t) = some (.str (rest t i)) := if_pos c
        rw [List.map_cons, List.filterMap_cons, this, List.map_cons, List.map_cons, ih fun u hu => none u (by simp [hu])]
    rw [e1]
    rfl
abbrev s_code_edit : Stmt := topS 34
abbrev N_code_edit : List Str := ["at", "edit", "indent", "put_ahead", "ahead", "change", "behind", "text"]
theorem sc_code_edit : FnScope N_code_edit ["at", "edit", "indent"] (defScope s_code_edit) := ⟨rfl, rfl, rfl, by decide +kernel, rfl, by decide +kernel, by decide +kernel⟩
def t_code_edit (K : PySem.W.Frag) (P : Addr) (C : Addr) (E : XK) : TS :=
  (tSeq (tAsg (tVar 1) (gTup K 3 (gCons (gName 4) (gCons (gName 5) (gCons (gName 6) gNil))))) (tSeq (tAsg (tCB (rTupOf K) (tCons (tLc (iTup K (tVar 4)) (gName 7) tYes (tCall (pm_without_indent.sp K P C) [] E (tCons (tVar 0) (tCons (tVar 7) (tCons (tVar 2) tNil)))) [7]) tNil)) (gName 3)) (tSeq (tIfS (tTest (tOp rEq (tOp (rIxT K) (tVar 5) (tC (.int 0))) (tC (.str "text")))) (tAsg (tTup (tCons (tC (.str "text")) (tCons (tCall (pm_without_indent.sp K P C) [] E (tCons (tVar 0) (tCons (tOp (rIxT K) (tVar 5) (tC (.int 1))) (tCons (tVar 2) tNil)))) tNil))) (gName 5)) tNext) (tRet (tTup (tCons (tVar 3) (tCons (tVar 5) (tCons (tCB (rTupOf K) (tCons (tLc (iTup K (tVar 6)) (gName 7) tYes (tCall (pm_without_indent.sp K P C) [] E (tCons (tVar 0) (tCons (tVar 7) (tCons (tVar 2) tNil)))) [7]) tNil)) tNil))))))))
def pm_code_edit : PmR := ⟨Nat × Ed × Nat, fun x => [.dat (.int x.1), .dat (edD x.2.1), .dat (.int x.2.2)], fun x => x.1 ≤ 2000 ∧ EdOk x.2.1 ∧ x.2.2 ≤ 1000, fun x r => faultE x.2.1 x.2.2 = none ∧ r = .dat (edD (restE x.2.1 x.2.2)), fun x fs => ∃ w, faultE x.2.1 x.2.2 = some w ∧ fs = uFs x.1 (whS w)⟩
theorem ev_code_edit {K : PySem.W.Frag} {P C : Addr} (E : XK) {I0 H0 : Hp} : pm_code_edit.Ok K P C E I0 H0 N_code_edit.length (t_code_edit K P C E) := fun x hx ht => by
  obtain ⟨n, e, i⟩ := x
  obtain ⟨hn, he, hi⟩ := hx
  dsimp only at hn he hi
  have h1 := he.ah
  have h2 := he.be
  have fE : faultE e i = match faultL e.ahead i with | some w => some w | none => match faultL e.ch.texts i with | some w => some w | none => faultL e.behind i := by
    unfold faultE textsOf
    rw [List.append_assoc, faultL_app, faultL_app]
  have thr : ∀ w, faultE e i = some w → Thr P I0 H0 E C (uFs n (whS w)) := fun w hw => ht _ ⟨w, hw, rfl⟩
  refine sv_seq (sv_asgG (d := .dat (edD e)) (ev_var rfl) (eg_tup (ds := [strsD e.ahead, chD e.ch, strsD e.behind]) rfl (gs_cons (eg_name (gs_cons (eg_name (gs_cons (eg_name (gs_nil ?_)))))))))
  refine sv_seq (svz_asg (z_rests (m := 7) (ts := e.ahead) (i := i) (n := n) rfl (fun _ => rfl) (fun _ => rfl) (by show 7 < 8; omega) he.ahead hn hi (by omega) fun w hw => thr w (by rw [fE, hw])) fun d hd => ?_)
  obtain ⟨fA, rfl⟩ := hd
  rw [fA] at fE
  dsimp only at fE
  refine sv_cut (fun Γ' => faultL e.ch.texts i = none ∧ Γ' = [.imm (.dat (.int n)), .imm (.dat (edD e)), .imm (.dat (.int i)), .imm (.dat (strsD (e.ahead.map (rest · i)))), .imm (.dat (strsD e.ahead)), .imm (.dat (chD (restC e.ch i))), .imm (.dat (strsD e.behind)), .emp]) (sv_if (et_test (ev_eqS (ev_chK (c := e.ch) (ev_var rfl)) ev_str)) (fun q => ?_) (fun q => ?_)) fun Γ' h => ?_
  · rw [kind_text] at q
    cases c : e.ch with
    | keep => rw [c] at q; cases q
    | drop => rw [c] at q; cases q
    | text t =>
      rw [c] at fE
      have ft : faultL (Ch.text t).texts i = fault t i := by
        unfold Ch.texts
        rw [faultL_cons]
        cases fault t i <;> rfl
      have eht := he.text c
      refine svz_asg (D := fun r => fault t i = none ∧ r = .dat (chD (.text (rest t i)))) (z_tup (az_cons (Ev.z (D := (· = .dat (.str "text"))) ev_str) (az_cons (z_callR (X := Nat × Str × Nat) (n, t, i) (ea_cons (ev_var rfl) (ea_cons (ev_ch1 (t := t) (ev_var rfl)) (ea1 (ev_var rfl)))) ⟨hn, eht, hi⟩ fun fs hfs => ?_) az_nil)) fun l hl => ?_) fun d hd => ?_
      · obtain ⟨w, hw, rfl⟩ := hfs
        exact thr w (by rw [fE, ft, hw])
      · obtain ⟨d1, r1, rfl, rfl, d2, r2, rfl, ⟨hf, rfl⟩, rfl⟩ := hl
        exact ⟨[.str "text", .str (rest t i)], rfl, by simp, hf, rfl⟩
      · obtain ⟨hf, rfl⟩ := hd
        exact ⟨by rw [ft]; exact hf, rfl⟩
  · rw [kind_text] at q
    cases c : e.ch with
    | keep => exact sv_next ⟨rfl, rfl⟩
    | drop => exact sv_next ⟨rfl, rfl⟩
    | text t => rw [c] at q; cases q
  · obtain ⟨fT, rfl⟩ := h
    rw [fT] at fE
    dsimp only at fE
    refine svz_ret (D := fun r => faultL e.behind i = none ∧ r = .dat (edD (restE e i))) (z_tup (az_cons (Ev.z (D := (· = .dat (strsD (e.ahead.map (rest · i))))) (ev_var rfl)) (az_cons (Ev.z (D := (· = .dat (chD (restC e.ch i)))) (ev_var rfl)) (az_cons (z_rests (m := 7) (ts := e.behind) (i := i) (n := n) rfl (fun _ => rfl) (fun _ => rfl) (by show 7 < 8; omega) he.behind hn hi (by omega) fun w hw => thr w (by rw [fE, hw])) az_nil))) fun l hl => ?_) fun d hd => ?_
    · obtain ⟨d1, r1, rfl, rfl, d2, r2, rfl, rfl, d3, r3, rfl, ⟨hf, rfl⟩, rfl⟩ := hl
      exact ⟨[strsD (e.ahead.map (rest · i)), chD (restC e.ch i), strsD (e.behind.map (rest · i))], rfl, by simp, hf, rfl⟩
    · obtain ⟨hf, rfl⟩ := hd
      exact ⟨by rw [fE]; exact hf, rfl⟩
theorem ok_code_edit {Pr : Program} {w : World} {K : PySem.W.Frag} {mg : Str → Option Value} {base : Heap} {P C : Addr} {f : Addr} {fd : FuncData} (F : L2.Fun K "code_edit" "code_edit" s_code_edit f fd) (T : Txt mg) (C_without_indent : CalR Pr w K mg base 5 "without_indent" (pm_without_indent.sp K P C)) : FnOk Pr w K mg base (L2N.CX Pr w) 6 f fd ["at", "edit", "indent"] (pm_code_edit.sp K P C) := by
  have nd := sc_code_edit.nd
  refine Fun.rz F sc_code_edit (fun _ => rfl) fun cdv A outer s H E hr tk px => ⟨t_code_edit K P C E, ?_, fun x hx _ _ ht => ev_code_edit E x hx ht⟩
  exact (pss_cons (ps_asg (pv 1) (pg_tup rfl (pgs_cons (pg_name (i := 4) nd rfl (by first | exact Or.inl rfl | exact Or.inr rfl)) (pgs_cons (pg_name (i := 5) nd rfl (by first | exact Or.inl rfl | exact Or.inr rfl)) (pgs_cons (pg_name (i := 6) nd rfl (by first | exact Or.inl rfl | exact Or.inr rfl)) pgs_nil))))) (pss_cons (ps_set (i := 3) nd rfl (by first | exact Or.inl rfl | exact Or.inr rfl) (pe_callTy (r := rTupOf K) call_tuple_of rfl T.tuple PyProof.Rows.boot_tuple (pa_cons (pe_lcR (own := [("text", 7)]) (g := (gName 7)) (tt := tYes) rfl rfl tk rfl nd (blkOk_by (N := N_code_edit) (sc := defScope s_code_edit) (by decide +kernel)) (pi_tup (pv 4)) (fun _ _ _ _ _ => (pg_name (i := 7) nd rfl (by first | exact Or.inl rfl | exact Or.inr rfl))) (fun _ _ _ _ _ => pts_nil) (fun _ _ _ _ _ px => (pe_cR C_without_indent hr (by decide) px rfl (pa_cons (pv 0) (pa_cons (pv 7) (pa_cons (pv 2) pa_nil)))))) pa_nil))) (pss_cons (ps_if (pt_cmpR op_eq (pe_ix ix_tup (pv 5) pe_int (fun _ _ => rfl)) pe_str (nomark _)) (pss_one (ps_set (i := 5) nd rfl (by first | exact Or.inl rfl | exact Or.inr rfl) (pe_tup (pa_cons pe_str (pa_cons (pe_cR C_without_indent hr (by decide) px rfl (pa_cons (pv 0) (pa_cons (pe_ix ix_tup (pv 5) pe_int (fun _ _ => rfl)) (pa_cons (pv 2) pa_nil)))) pa_nil))))) pss_nil) (pss_one (ps_ret (pe_tup (pa_cons (pv 3) (pa_cons (pv 5) (pa_cons (pe_callTy (r := rTupOf K) call_tuple_of rfl T.tuple PyProof.Rows.boot_tuple (pa_cons (pe_lcR (own := [("text", 7)]) (g := (gName 7)) (tt := tYes) rfl rfl tk rfl nd (blkOk_by (N := N_code_edit) (sc := defScope s_code_edit) (by decide +kernel)) (pi_tup (pv 6)) (fun _ _ _ _ _ => (pg_name (i := 7) nd rfl (by first | exact Or.inl rfl | exact Or.inr rfl))) (fun _ _ _ _ _ => pts_nil) (fun _ _ _ _ _ px => (pe_cR C_without_indent hr (by decide) px rfl (pa_cons (pv 0) (pa_cons (pv 7) (pa_cons (pv 2) pa_nil)))))) pa_nil)) pa_nil)))))))))
abbrev s_said_of : Stmt := topS 38
abbrev N_said_of : List Str := ["document", "firsts", "at", "line", "edit", "fate"]
theorem sc_said_of : FnScope N_said_of ["document", "firsts", "at", "line", "edit"] (defScope s_said_of) := ⟨rfl, rfl, rfl, by decide +kernel, rfl, by decide +kernel, by decide +kernel⟩
def t_said_of (K : PySem.W.Frag) (P : Addr) (C : Addr) (E : XK) : TS :=
  (tSeq (tIfS (tAnd (tTru K (tOp (rIxT K) (tVar 4) (tC (.int 0)))) (tTest (tOp (rIn K true) (tOp (rIxT K) (tVar 3) (tC (.int 1))) (tVar 1)))) (tRaU C E (tCons (tVar 2) (tCons (tC (.str "place")) tNil))) tNext) (tSeq (tAsg (tCall (pm_code_edit.sp K P C) [] E (tCons (tVar 2) (tCons (tVar 4) (tCons (tCall (pm_indent_of.sp K P) [] E0 (tCons (tVar 0) (tCons (tOp (rIxT K) (tVar 3) (tC (.int 2))) tNil))) tNil)))) (gName 5)) (tRet (tCall (pm_plain_change.sp K P) [] E0 (tCons (tVar 5) (tCons (tOp (rIxT K) (tOp (rIxT K) (tVar 0) (tOp (rIxT K) (tVar 3) (tC (.int 1)))) (tC (.int 1))) tNil))))))
theorem plain_rest (e : Ed) (i : Nat) (own : Str) : plainC (restE e i) own = back e i own := by
  unfold plainC restE back backC restC
  dsimp only
  cases e.ch with
  | keep => rfl
  | drop => rfl
  | text t =>
    dsimp only
    by_cases c : rest t i = own
    · rw [if_pos c, if_pos (by rw [c])]
    · rw [if_neg c, if_neg (fun z => c (by injection z))]
def pm_said_of : PmR := ⟨List Ln × Nat × PL × Ed, fun x => [.dat (docD x.1), .dat (.list (natsL (fl false x.1 0))), .dat (.int x.2.1), .dat (plD x.2.2.1), .dat (edD x.2.2.2)], fun x => GD x.1 300 ∧ x.2.1 ≤ 2000 ∧ PlOk x.1 x.2.2.1 ∧ EdOk x.2.2.2, fun x r => ∃ f, said x.1 x.2.2.1 x.2.2.2 = .ok f ∧ r = .dat (edD f), fun x fs => ∃ w, said x.1 x.2.2.1 x.2.2.2 = .error w ∧ fs = uFs x.2.1 (whS w)⟩
theorem ev_said_of {K : PySem.W.Frag} {P C : Addr} (E : XK) {I0 H0 : Hp} : pm_said_of.Ok K P C E I0 H0 N_said_of.length (t_said_of K P C E) := fun x hx ht => by
  obtain ⟨d, n, p, e⟩ := x
  obtain ⟨hd, hn, hp, he⟩ := hx
  dsimp only at hd hn hp he
  obtain ⟨t, hcode, _⟩ := hp.ok.code
  have hi := hp.ind hd
  have hpp := hp.path
  have eown : ownT d p.line = t := by
    unfold ownT
    rw [hcode]
  have thr : ∀ w, said d p e = .error w → Thr P I0 H0 E C (uFs n (whS w)) := fun w hw => ht _ ⟨w, hw, rfl⟩
  have hA : (!((e.ahead.map PyData.str).isEmpty)) = decide (e.ahead ≠ []) := by
    cases e.ahead with
    | nil => rfl
    | cons a b => simp
  have hF : (if true = true then !decide ((p.line : Int) ∈ (fl false d 0).map fun a : Nat => (a : Int)) else decide ((p.line : Int) ∈ (fl false d 0).map fun a : Nat => (a : Int))) = !isFirst d p.line := by
    rw [if_pos rfl]
    congr 1
    have iff : ((p.line : Int) ∈ (fl false d 0).map fun a : Nat => (a : Int)) ↔ isFirst d p.line = true := by
      rw [← mem_firsts hcode]
      constructor
      · intro h
        obtain ⟨a, ha, ea⟩ := List.mem_map.mp h
        have : a = p.line := by omega
        rw [← this]
        exact ha
      · intro h
        exact List.mem_map.mpr ⟨_, h, rfl⟩
    cases c : isFirst d p.line with
    | true => exact decide_eq_true (iff.mpr c)
    | false => exact decide_eq_false fun h => by rw [iff.mp h] at c; cases c
  refine sv_seq (sv_if (k := decide (e.ahead ≠ []) && !isFirst d p.line) (et_and (EvT.is (et_tuple (ev_ed0 (e := e) (ev_var rfl))) hA) fun _ => et_test (EvD.as (ev_op (b := .list (natsL (fl false d 0))) (ev_pl1 (p := p) (ev_var rfl)) (ev_var rfl) (by
      have := rop_inI (K := K) (P := P) (neg := true) (n := (p.line : Int)) (ns := (fl false d 0).map fun a : Nat => (a : Int))
      rw [List.map_map] at this
      exact this)) (by rw [hF]))) (fun q => ?_) (fun q => sv_next ?_))
  · have q1 := Bool.and_eq_true_iff.mp q
    have c1 : e.ahead ≠ [] ∧ isFirst d p.line = false := ⟨of_decide_eq_true q1.1, by simpa using q1.2⟩
    exact sv_raiseU (n := n) (w := whS .place) (ea_cons (ev_var rfl) (ea1 ev_str)) hn (whS_len _) (thr .place (by unfold said; rw [if_pos c1]))
  have hnp : ¬ (e.ahead ≠ [] ∧ isFirst d p.line = false) := fun c => by
    rw [decide_eq_true c.1, c.2] at q
    cases q
  refine sv_seq (svz_asg (z_callR (X := Nat × Ed × Nat) (n, e, indOf d p.path) (ea_cons (ev_var rfl) (ea_cons (ev_var rfl) (ea1 (ev_call (X := List Ln × List Nat) (d, p.path) (ea_cons (ev_var rfl) (ea1 (ev_pl2 (p := p) (ev_var rfl)))) ⟨hp.ok.path, by dsimp only; omega⟩)))) ⟨hn, he, by dsimp only; omega⟩ fun fs hfs => ?_) fun r hr => ?_)
  · obtain ⟨w, hw, rfl⟩ := hfs
    refine thr w ?_
    unfold said
    rw [if_neg hnp]
    dsimp only at hw
    rw [hw]
  · obtain ⟨hf, rfl⟩ := hr
    dsimp only at hf
    refine sv_retE (d := .dat (edD (plainC (restE e (indOf d p.path)) t))) (ev_call (X := Ed × Str) (restE e (indOf d p.path), t) (ea_cons (ev_var rfl) (ea1 (ev_ln1 (l := .code t) (ev_docAt (ev_var rfl) (ev_pl1 (p := p) (ev_var rfl)) hcode) rfl))) trivial) ⟨back e (indOf d p.path) t, ?_, by rw [plain_rest]⟩
    unfold said
    rw [if_neg hnp, hf, eown]
theorem ok_said_of {Pr : Program} {w : World} {K : PySem.W.Frag} {mg : Str → Option Value} {base : Heap} {P C : Addr} {f : Addr} {fd : FuncData} (F : L2.Fun K "said_of" "said_of" s_said_of f fd) (T : Txt mg) (U : UnfitK Pr w K mg base C) (C_plain_change : C8.Cal Pr w K mg base 1 "plain_change" (pm_plain_change.sp K P) []) (C_code_edit : CalR Pr w K mg base 6 "code_edit" (pm_code_edit.sp K P C)) (C_indent_of : C8.Cal Pr w K mg base 1 "indent_of" (pm_indent_of.sp K P) []) : FnOk Pr w K mg base (L2N.CX Pr w) 7 f fd ["document", "firsts", "at", "line", "edit"] (pm_said_of.sp K P C) := by
  have nd := sc_said_of.nd
  refine Fun.rz F sc_said_of (fun _ => rfl) fun cdv A outer s H E hr tk px => ⟨t_said_of K P C E, ?_, fun x hx _ _ ht => ev_said_of E x hx ht⟩
  exact (pss_cons (ps_if (PW.pt (pw_and (pt_truth (pe_ix ix_tup (pv 4) pe_int (fun _ _ => rfl)) (by intro _; rfl)) (pw_and1 (pt_cmpR op_notIn_seq (pe_ix ix_tup (pv 3) pe_int (fun _ _ => rfl)) (pv 1) (by rfl))))) (pss_one (ps_raU rfl tk U hr (by decide) rfl (pa_cons (pv 2) (pa_cons pe_str pa_nil)))) pss_nil) (pss_cons (ps_set (i := 5) nd rfl (by first | exact Or.inl rfl | exact Or.inr rfl) (pe_cR C_code_edit hr (by decide) px rfl (pa_cons (pv 2) (pa_cons (pv 4) (pa_cons (C8.pe_c C_indent_of hr (by decide) rfl (pa_cons (pv 0) (pa_cons (pe_ix ix_tup (pv 3) pe_int (fun _ _ => rfl)) pa_nil))) pa_nil))))) (pss_one (ps_ret (C8.pe_c C_plain_change hr (by decide) rfl (pa_cons (pv 5) (pa_cons (pe_ix ix_tup (pe_ix ix_tup (pv 0) (pe_ix ix_tup (pv 3) pe_int (fun _ _ => rfl)) (fun _ _ => rfl)) pe_int (fun _ _ => rfl)) pa_nil)))))))
end Wf
/-! try .. except X as e: a suite that raises. -/
namespace Wf
open PySem PySem.Spec PyProof.Rows L2 L2H HotX
/-- the frames' blocks may have changed: nothing is known of the names any more -/
theorem inv_frames {X : Cx} {pins : List (Addr × Obj)} {σ : L2.St} {H : Hp} {sI : Shared} {G : Heap} {t : Nat} (J : Inv X pins σ H sI) (hs : X.stack = X.env :: X.outer) (hf : X.env.frame = some X.env.locals) (hcl : ∀ x c, X.env.cells.lookup x ≠ some c)
    (hne : ∀ b o, sI.heap.get? b = some o → b ∉ frs X.stack → G.get? b = some o) (hfr : ∀ b ∈ frs X.stack, b ≠ X.env.locals → ∀ o, sI.heap.get? b = some o → ∃ sl, G.get? b = some { o with slots := sl }) (hL : ∃ m, G.Ns X.env.locals m) :
    Inv X pins (List.replicate σ.length none) H { sI with heap := G, toks := t } := by
  have eF : ∀ b, b ∈ frs X.stack ↔ b = X.env.locals ∨ b ∈ X.fs := fun b => by
    rw [hs]
    unfold frs
    rw [List.filterMap_cons, hf]
    exact List.mem_cons
  have notL : ∀ b o, X.s_0.heap.get? b = some o → b ≠ X.env.locals := fun b o e => Nat.ne_of_lt (Nat.lt_of_lt_of_le (Heap.lt_size e) J.ok.above)
  have out : ∀ b o, X.s_0.heap.get? b = some o → b ∉ X.fs → b ∉ frs X.stack := fun b o e n z => ((eF b).mp z).elim (notL b o e) n
  refine { ok := J.ok, os := J.os, bare := J.bare, base := ?_, loc := ?_, cell := fun x c e => absurd e (hcl x c), free := J.free, freeC := J.freeC, pin := fun p hp => ?_, hok := fun b o e => ?_, len := by rw [List.length_replicate]; exact J.len }
  · refine { keep := fun b o e n hb hx => hne b o (J.base.keep b o e n hb hx) (out b o e hb), slot := fun b o e n hb hx => ?_, free := J.base.free, there := fun b o e hx => ?_, tups := J.base.tups, frzs := J.base.frzs, tbls := J.base.tbls }
    · obtain ⟨sl, q⟩ := J.base.slot b o e n hb hx
      obtain ⟨sl2, q2⟩ := hfr b ((eF b).mpr (.inr hb)) (notL b o e) _ q
      exact ⟨sl2, q2⟩
    · obtain ⟨o', q⟩ := J.base.there b o e hx
      by_cases hb : b ∈ X.fs
      · obtain ⟨sl2, q2⟩ := hfr b ((eF b).mpr (.inr hb)) (notL b o e) _ q
        exact ⟨_, q2⟩
      · exact ⟨o', hne b o' q (out b o e hb)⟩
  · obtain ⟨m, hm⟩ := hL
    refine ⟨m, hm, fun i x v _ e _ => ?_⟩
    have z : (List.replicate σ.length (none : Option V))[i]? = some (some v) := e
    rw [List.getElem?_replicate] at z
    split at z <;> cases z
  · obtain ⟨p1, p2, p3, p4, p5⟩ := J.pin p hp
    exact ⟨hne _ _ p1 fun z => ((eF p.1).mp z).elim p3 p4, p2, p3, p4, p5⟩
  · refine (J.hok b o e).stay (fun c u hc r => hne c u r fun z => ?_) (fun _ r => r) fun _ _ r => r
    have f := J.stkFree c z
    rcases hc with hc | hc
    · rw [hc, e] at f
      cases f
    · rw [hc] at f
      cases f
/-- noted by the frame -/
theorem sky_note {M : Model} {A : Around} {E : Value → Shared → Prop} {s : Shared} {env : PySem.Env} {outer : List PySem.Env} {B : Heap} {L a : Addr} {Z : Obj → Prop} {Q : Unit → Shared → Prop} (hZ : HandSPX.Steady Z) (hfr : A.frames = some (env :: outer)) (hf : env.frame = some L) (x : Sky B (env :: outer) a Z L s.heap)
    (hQ : ∀ h', HandSPX.HeldZ B (env :: outer) a Z L h' → s.heap.UpToSlots h' → Q () { s with heap := h' }) : wpAny M A (noteFrame (.ref a) env) Q E s := by
  rcases x with ⟨hB, hn, hl, oe, vs, he, hz, hd, h1⟩ | fl | hh
  · exact HandSPX.look_newZ hZ hfr hl hf he hB hn hd h1 hz hQ
  · exact HandSPX.looks_onZ hZ hfr hf fl hQ
  · exact HandSPX.againZ hf hh.2.2.2 (hQ s.heap hh (Heap.UpToSlots.refl _))
/-- behind the first look: the name goes, the exception goes on -/
theorem as_tail {M : Model} {A A' : Around} {E E2 : Value → Shared → Prop} {s : Shared} {env : PySem.Env} {outer : List PySem.Env} {B : Heap} {a : Addr} {Z : Obj → Prop} {n : Str} {pos : Pos} {m : Str → Option Value} (hf : env.frame = some env.locals) (hh : HandSPX.HeldZ B (env :: outer) a Z env.locals s.heap) (hn : s.heap.Ns env.locals m)
    (hlo : env.kindOf n = some .local) (hk : env.scope.kind = .function)
    (hQ : ∀ h' m' t, HandSPX.HeldZ B (env :: outer) a Z env.locals h' → h'.Ns env.locals m' → (∀ b o, s.heap.get? b = some o → b ≠ env.locals → (∀ vs, o.data ≠ .fields vs) → ∃ sl, h'.get? b = some { o with slots := sl }) → E (.ref a) { s with heap := h', toks := t }) :
    wpAny M A' (do bindName env n .none; unbindBehindTheSuite env n pos) (fun _ s2 => wpAny M A' (PySem.passOn "try.except-as" (.ref a) env : Sem Flow) (fun _ _ => False) (notedBy M A' env (cameBackBy M A env E)) s2) E2 s := by
  obtain ⟨b1, b0, f1, oe, vs, T, oT, ts, he, hz, hd, h1, hnT, hTe, hT, hdT, h3⟩ := hh
  have hbL : B.get? env.locals = none := by
    obtain ⟨_, ⟨L', _, hf', hb', _⟩, _⟩ := f1
    rw [hf] at hf'
    rw [Option.some.inj hf']
    exact hb'
  have isBlock : ∀ {b : Addr} {o : Obj} {ws : Array Value}, s.heap.get? b = some o → o.data = .fields ws → b ≠ env.locals := fun {b o ws} e d z => by
    obtain ⟨oL, es, ep, e2, d2, _⟩ := hn
    rw [← z, e] at e2
    cases e2
    rw [d] at d2
    cases d2
  refine wpAny_nameGoes hlo hn (by rw [hk]; rfl) fun h2 m2 hn2 hs2 => ?_
  have c1 : B.StaysIn h2 := fun b o e => (hs2.2 b fun q => by rw [q, hbL] at e; cases e).trans (b1 b o e)
  have f2 : h2.FunFrames B (env :: outer) := Heap.FunFrames.sameBut hs2 hn2 f1
  have t2 : HandSPX.TracedZ h2 B a Z (rawInt env.locals) := ⟨oe, vs, T, oT, ts, (hs2.2 a (isBlock he hd)).trans he, hz, hd, h1, hnT, hTe, (hs2.2 T (isBlock hT hdT)).trans hT, hdT, h3⟩
  unfold PySem.passOn
  obtain ⟨oe2, vs2, T2, oT2, ts2, he2, hz2, hd2, h12, r2⟩ := id t2
  refine wpAny_bind (wpAny_field he2 hd2 h12 ?_)
  rw [if_neg (show ¬ ((Value.ref T2 == Value.none) = true) from by simp), hf]
  refine wpAny_bind (HandSPX.setFlight_anyZ c1 f2 t2 fun h3 k1 k2 k3 k4 => ?_)
  refine wpAny_throw ?_
  show wpAny M A' (noteFrame (.ref a) env) _ _ _
  have k3 : HandSPX.TracedZ h3 B a Z (rawInt env.locals) := k3
  refine HandSPX.againZ hf k3 ?_
  obtain ⟨oe4, vs4, T4, oT4, ts4, he4, hz4, hd4, h14, r4⟩ := id k3
  show wpAny M A (do
    if (← field (.ref a) 1) == .none then unsupported "frame.own-activation:exception-without-traceback"
    setFlight (.ref a) env.frame) _ _ _
  refine wpAny_bind (wpAny_field he4 hd4 h14 ?_)
  rw [if_neg (show ¬ ((Value.ref T4 == Value.none) = true) from by simp), hf]
  refine HandSPX.setFlight_anyZ k1 k2 k3 fun h5 l1 l2 l3 l4 => ?_
  refine hQ h5 m2 _ ⟨l1, b0, l2, l3⟩ (Heap.UpToSlots.ns (k4.trans l4) hn2) fun b o e hb hnf => ?_
  exact (k4.trans l4) b o ((hs2.2 b hb).trans e) hnf
/-- what the body may let out: the clause names it, the suite takes it -/
def wAsX (K : PySem.W.Frag) (c : Value) (i : Nat) (ts : Addr → Value → Option Addr → TS) : WX := fun cls d σ H => PySem.W.exmOne K cls c = some true ∧ ∀ a, H a = none → ts a cls d { nx := fun _ _ => False, rt := fun _ _ => False } (σ.set i (some (.ref a))) H
/-- the context of the suite -/
abbrev suiteW (X : Cx) (a : Addr) (pn : List (Addr × Obj)) (xe : Value → Shared → Prop) : Cx := (suiteX X a pn).wish xe
section
variable {X : Cx} {x n : Str} {c : Value} {i : Nat} {body suite : List Stmt} {b₀ : Stmt} {np pos pos' : Pos} {tb : WX → TS} {ts : Addr → Value → Option Addr → TS} {E : XK}
theorem ps_try_asX (hs : X.stack = X.env :: X.outer) (hf : X.env.frame = some X.env.locals) (hcl : ∀ x c, X.env.cells.lookup x ≠ some c) (hN : X.N.Nodup) (hi : X.N[i]? = some n) (hln : X.env.kindOf n = some .local) (hc : Names X x c) (tk : L2.Takes X fun cls d _ H => E cls d H)
    (hb : ∀ (W : WX) (pn : List (Addr × Obj)) (xe : Value → Shared → Prop), L2N.Takes (X.tr pn xe) W → PassesOwn (model X.prog X.w) X.A X.env xe → PSs (X.tr pn xe) body (tb W))
    (hsu : ∀ (a : Addr) (oe : Obj) (cls : Value) (d : Option Addr) (pn : List (Addr × Obj)) (xe : Value → Shared → Prop), L2N.Zn cls d oe → (∃ vs, oe.data = .fields vs) → L2.Takes (suiteW X a ((a, oe) :: pn) xe) (fun cls d _ H => E cls d H) → HotC (suiteW X a ((a, oe) :: pn) xe) →
      PSs (suiteW X a ((a, oe) :: pn) xe) (b₀ :: suite) (ts a cls d)) :
    PS X (.Try body [.ExceptHandler (some (.Name x np)) (some n) (b₀ :: suite) pos'] [] [] pos) (fun D σ H => tb (wAsX X.K c i ts) D σ H) := by
  refine ⟨fun pins s σ H D I h => ?_⟩
  have ok := I.ok
  have hfr : X.A.frames = some (X.env :: X.outer) := by rw [ok.frames, hs]
  refine wpAny_Try_except ?_
  refine wpAny_mono ((hb (wAsX X.K c i ts) (X.pn ++ pins) (fun e s₁ => wpAny (model X.prog X.w) X.A (noteFrame e X.env) (fun _ s₂ => wpAny (model X.prog X.w) X.A (setFlight e none) (fun _ s₃ =>
    wpAny (model X.prog X.w) X.A (handleBy e X.env [.ExceptHandler (some (.Name x np)) (some n) (b₀ :: suite) pos']) (SP X pins D) X.xe s₃) X.xe s₂) X.xe s₁) (fun u s' hx => ?_) PassesOwn.looking).run [] s σ H D (I.toTry _) h) (fun f s1 hsp => ?_) (fun e s1 he => he)
  · obtain ⟨a, B, sI, _, σ', H', cls, d, rfl, J0, nb, up, sky, na, os, ag, named, take⟩ := hx
    have J : Inv X pins σ' H' sI := J0.ofTry ok
    have sky : Sky B (X.env :: X.outer) a (L2N.Zn cls d) X.env.locals s'.heap := by rw [← hs]; exact sky
    show wpAny (model X.prog X.w) X.A (noteFrame (.ref a) X.env) _ _ _
    refine L2N.Sky.land L2N.Zn.steady hfr hf sky fun h3 fl3 up3 => ?_
    have J3 : Inv X pins σ' H' { s' with heap := h3 } := J.landed nb fl3.1 (up.trans up3) os ag
    obtain ⟨o3, v3, at3, z3, d3⟩ := fl3.there
    have noF : a ∉ frs (X.env :: X.outer) := fun hm => by
      obtain ⟨_, o', e', hnf⟩ := fl3.2.2.1.mem hm
      rw [at3] at e'
      cases e'
      exact hnf _ d3
    have aL : a ≠ X.env.locals := fun z => noF (List.mem_filterMap.mpr ⟨X.env, List.mem_cons_self, by rw [hf, z]⟩)
    have aF : a ∉ X.fs := fun hm => by
      obtain ⟨e, he, q⟩ := List.mem_filterMap.mp hm
      exact noF (List.mem_filterMap.mpr ⟨e, List.mem_cons_of_mem _ he, q⟩)
    refine wpAny_handleBy_cons (codeAny_handlers_test ?_) (by intro q; cases q)
    have ty : PySem.W.Looks (model X.prog X.w) h3 (typeOf (.ref a)) cls := fun A Q E s k q => wpAny_typeOf_ref (k _ _ at3) (by rw [z3.1]; exact q)
    have test : ∀ {Q : Value → Shared → Prop} {E : Value → Shared → Prop}, Q c { s' with heap := h3 } → wpAny (model X.prog X.w) (X.A.mark (some (.ref a))) (eval (.Name x np) X.env) Q E { s' with heap := h3 } := fun {Q E} q => by
      have S3 := J3.suite at3 d3 na aL aF
      obtain ⟨hg, hd, hm | ⟨hm, hv, hn⟩⟩ := hc
      · exact ld_glob (X := X.suite a ((a, o3) :: (X.pn ++ pins))) S3 hg hm q hd
      · exact ld_blt (X := X.suite a ((a, o3) :: (X.pn ++ pins))) S3 hg hm hv q hn hd
    refine test ((PySem.W.exm_one (M := model X.prog X.w) J3.kIn ty named).here ?_)
    refine codeAny_handlers_suite_as ?_
    refine HandSPX.lands_againZ fl3 fun h4 fl4 up4 => ?_
    have J4 : Inv X pins σ' H' { s' with heap := h4 } := J.landed nb fl4.1 ((up.trans up3).trans up4) os ag
    obtain ⟨o4, v4, at4, z4, d4⟩ := fl4.there
    have S4 := J4.suite at4 d4 na aL aF
    refine store_ok (X := X.suite a ((a, o4) :: (X.pn ++ pins))) (v := .ref a) S4 hN hi (.inl hln) rfl (fun s5 S5 => ?_) (.inr hln)
    have hot : ∀ xe, HotC (suiteW X a ((a, o4) :: (X.pn ++ pins)) xe) := fun xe => ⟨(a, o4), ⟨rfl, v4, d4, z4.2.2 v4 d4⟩, List.mem_cons_self⟩
    refine wpAny_mono ((hsu a o4 cls d (X.pn ++ pins) (fun x s₃ => wpAny (model X.prog X.w) (X.A.mark (some (.ref a))) (noteFrame x X.env) (fun _ s₃' => wpAny (model X.prog X.w) (X.A.mark (some (.ref a))) (do bindName X.env n .none; unbindBehindTheSuite X.env n pos')
        (fun _ s₄ => wpAny (model X.prog X.w) (X.A.mark (some (.ref a))) (PySem.passOn "try.except-as" x X.env : Sem Flow) (fun _ _ => False) (notedBy (model X.prog X.w) (X.A.mark (some (.ref a))) X.env (cameBackBy (model X.prog X.w) X.A X.env X.xe)) s₄)
        (fun y s₄ => wpAny (model X.prog X.w) (X.A.mark (some (.ref a))) (setFlight x none) (fun _ s₅ => (notedBy (model X.prog X.w) (X.A.mark (some (.ref a))) X.env (cameBackBy (model X.prog X.w) X.A X.env X.xe)) y s₅) (notedBy (model X.prog X.w) (X.A.mark (some (.ref a))) X.env (cameBackBy (model X.prog X.w) X.A X.env X.xe)) s₄) s₃')
      (notedBy (model X.prog X.w) (X.A.mark (some (.ref a))) X.env (cameBackBy (model X.prog X.w) X.A X.env X.xe)) s₃) z4 ⟨_, d4⟩ (fun u2 s2 x2 => ?_) (hot _)).run [] s5 _ H' _ ((suiteX_of S5).wish _) (take a na)) (fun f s6 hsp => ?_) (fun e6 s6 z => z)
    · obtain ⟨b, B2, sJ, _, σ2, H2, cls2, d2, rfl, I2, nb2, up2, sky2, na2, os2, ag2, w2⟩ := x2
      have I2' : Inv (suiteX X a ((a, o4) :: (X.pn ++ pins))) _ σ2 H2 sJ := I2.unwish
      have K2 : Inv X pins σ2 H2 sJ := unsuiteX I2' ok
      have sky2 : Sky B2 (X.env :: X.outer) b (Zc cls2 d2) X.env.locals s2.heap := by rw [← hs]; exact sky2
      have hfr2 : (X.A.mark (some (.ref a))).frames = some (X.env :: X.outer) := hfr
      obtain ⟨m, ns, _⟩ := id K2.loc
      refine sky_note Zc.steady hfr2 hf sky2 fun h6 held up6 => ?_
      have ns6 := Heap.UpToSlots.ns (up2.trans up6) ns
      refine as_tail hf held ns6 hln ok.kind fun h7 m7 t held7 ns7 rel => ?_
      obtain ⟨G, gY, gN⟩ := restrict h7 fun b => (sJ.heap.get? b).isSome
      have inG : ∀ {b o}, G.get? b = some o → h7.get? b = some o ∧ ∃ o', sJ.heap.get? b = some o' := fun {b o} e => by
        by_cases k : (sJ.heap.get? b).isSome = true
        · exact ⟨(gY b k).symm.trans e, Option.isSome_iff_exists.mp k⟩
        · rw [gN b (Bool.eq_false_iff.mpr k)] at e
          cases e
      have old : ∀ b o, sJ.heap.get? b = some o → b ∉ frs X.stack → h7.get? b = some o := fun b o e hb => held7.1 b o (nb2 b o e hb)
      have KJ : Inv X pins (List.replicate σ2.length none) H2 { sJ with heap := G, toks := sJ.toks } := by
        refine inv_frames K2 hs hf hcl (fun b o e hb => ?_) (fun b hb hL o e => ?_) ?_
        · rw [gY b (by simp [e])]
          exact old b o e hb
        · obtain ⟨_, o', e', hnf⟩ := K2.stack.mem hb
          rw [e] at e'
          cases e'
          obtain ⟨sl, q⟩ := (up2.trans up6) b o e hnf
          obtain ⟨sl2, q2⟩ := rel b _ q hL hnf
          exact ⟨sl2, (gY b (by simp [e])).trans q2⟩
        · refine ⟨m7, ?_⟩
          obtain ⟨oL, es, ep, eL, r⟩ := ns7
          obtain ⟨oJ, _, _, eJ, _⟩ := ns
          exact ⟨oL, es, ep, (gY _ (by simp [eJ])).trans eL, r⟩
      refine tk _ _ ⟨b, B2, { sJ with heap := G, toks := sJ.toks }, pins, _, H2, cls2, d2, rfl, KJ, fun b o e hb => ?_, Heap.UpToSlots.of_keeps fun b o e => (inG e).1, .inr (.inr (by rw [hs]; exact held7)), na2, os2, ag2, w2⟩
      obtain ⟨q, o', q'⟩ := inG e
      have z := nb2 b o' q' hb
      have y := held7.1 b o' z
      rw [q] at y
      cases y
      exact z
    · cases f with
      | next =>
        obtain ⟨_, _, _, q⟩ := hsp
        exact q.elim
      | brk =>
        obtain ⟨_, _, _, q⟩ := hsp
        exact False.elim q
      | cont =>
        obtain ⟨_, _, _, q⟩ := hsp
        exact False.elim q
      | ret u =>
        obtain ⟨_, _, _, _, _, q⟩ := hsp
        exact False.elim q
  · cases f with
    | next =>
      obtain ⟨σ', H', K, q⟩ := hsp
      exact wpAny_execs_nil ⟨σ', H', K.ofTry ok, q⟩
    | brk =>
      obtain ⟨σ', H', K, q⟩ := hsp
      exact ⟨σ', H', K.ofTry ok, q⟩
    | cont =>
      obtain ⟨σ', H', K, q⟩ := hsp
      exact ⟨σ', H', K.ofTry ok, q⟩
    | ret u =>
      obtain ⟨v, σ', H', K, r, q⟩ := hsp
      exact ⟨v, σ', H', K.ofTry ok, r, q⟩
end
end Wf
/-! Our object (class Agreement): its fields and its two dicts. -/
namespace Wf
open PySem L2
/-- what is known of the class -/
structure AgrC (K : PySem.W.Frag) (C : Addr) : Prop where
  cls : Cls K C
  doc : NoAttr K C "document"
  firsts : NoAttr K C "firsts"
  known : NoAttr K C "known"
  said : NoAttr K C "said_at"
section
variable {K : PySem.W.Frag} {P : Addr} {Γ : Env} {ta tb td te : TE} {d : PyData} {N : Env → Prop} {R : Env → DD → Prop} {B Ct : Env → Prop} {I0 H0 I H I' H' : Hp} {σ : L2.St}
theorem EnvOk.obj (E : EnvOk K P I H σ Γ) {i : Nat} {x C p q : Addr} {doc firsts : PyData} {kn sa : List (Key × PyData)} (h : Γ[i]? = some (.obj x C p q doc firsts kn sa)) : σ[i]? = some (some (.ref x)) ∧ ObjAt K I H x C p q doc firsts kn sa :=
  let z := E.sl i _ h
  ⟨sv_some z.1, z.2⟩
theorem ev_objDoc {i : Nat} {x C p q : Addr} {doc firsts : PyData} {kn sa : List (Key × PyData)} (h : Γ[i]? = some (.obj x C p q doc firsts kn sa)) (A : AgrC K C) : EvD K P (tFld K (tVar i) "document") Γ doc := fun I H σ E Q qq => by
  obtain ⟨e, o⟩ := E.obj h
  obtain ⟨dx, fs, e1, f⟩ := o.hx
  obtain ⟨v, l, r⟩ := f.doc
  exact ⟨_, e, x, C, dx, fs, v, rfl, e1, A.cls, A.doc, l, qq v _ I H rfl (Wd.refl E.ok) r⟩
theorem ev_objFirsts {i : Nat} {x C p q : Addr} {doc firsts : PyData} {kn sa : List (Key × PyData)} (h : Γ[i]? = some (.obj x C p q doc firsts kn sa)) (A : AgrC K C) : EvD K P (tFld K (tVar i) "firsts") Γ firsts := fun I H σ E Q qq => by
  obtain ⟨e, o⟩ := E.obj h
  obtain ⟨dx, fs, e1, f⟩ := o.hx
  obtain ⟨v, l, r⟩ := f.firsts
  exact ⟨_, e, x, C, dx, fs, v, rfl, e1, A.cls, A.firsts, l, qq v _ I H rfl (Wd.refl E.ok) r⟩
/-- an expression whose value is a dict of ours -/
def EvDict (K : PySem.W.Frag) (P : Addr) (td : TE) (Γ : Env) (p : Addr) (es : List (Key × PyData)) : Prop := ∀ (I H : Hp) (σ : L2.St), EnvOk K P I H σ Γ → (∀ Q : VK, Q (.ref p) H → td σ H Q) ∧ ∃ kvs, H p = some (.dK kvs) ∧ KVD K I kvs es
theorem dict_known {i : Nat} {x C p q : Addr} {doc firsts : PyData} {kn sa : List (Key × PyData)} (h : Γ[i]? = some (.obj x C p q doc firsts kn sa)) (A : AgrC K C) : EvDict K P (tFld K (tVar i) "known") Γ p kn := fun I H σ E => by
  obtain ⟨e, o⟩ := E.obj h
  obtain ⟨dx, fs, e1, f⟩ := o.hx
  exact ⟨fun Q q => ⟨_, e, x, C, dx, fs, _, rfl, e1, A.cls, A.known, f.known, q⟩, o.hp⟩
theorem dict_said {i : Nat} {x C p q : Addr} {doc firsts : PyData} {kn sa : List (Key × PyData)} (h : Γ[i]? = some (.obj x C p q doc firsts kn sa)) (A : AgrC K C) : EvDict K P (tFld K (tVar i) "said_at") Γ q sa := fun I H σ E => by
  obtain ⟨e, o⟩ := E.obj h
  obtain ⟨dx, fs, e1, f⟩ := o.hx
  exact ⟨fun Q q => ⟨_, e, x, C, dx, fs, _, rfl, e1, A.cls, A.said, f.said, q⟩, o.hq⟩
theorem ev_dgetE {p : Addr} {es : List (Key × PyData)} {n : PyData} {y : Key} (h : EvDict K P td Γ p es) (hn : EvD K P tb Γ n) (hy : ∀ I v, Dx K I v n → v = kV y) (hv : valD es y = some d) : EvD K P (tDGet td tb) Γ d := fun I H σ E Q q => by
  refine (h I H σ E).1 _ ?_
  refine hn I H σ E _ fun z e2 I2 H2 q2 w2 r2 => ?_
  subst q2
  obtain ⟨kvs, h1, h3⟩ := (h I2 H2 σ (E.mono w2)).2
  rcases h3.get y with ⟨g, _⟩ | ⟨w, d', g1, g2, g3⟩
  · rw [g] at hv
    cases hv
  · rw [hv] at g1
    cases g1
    rw [hy I2 z r2]
    exact ⟨p, w, rfl, by rw [← g2]; exact DGet.k h1, q _ _ I2 H2 rfl w2 g3⟩
theorem ev_dnotinE {p : Addr} {es : List (Key × PyData)} {n : PyData} {y : Key} (hn : EvD K P ta Γ n) (h : EvDict K P td Γ p es) (hy : ∀ I v, Dx K I v n → v = kV y) : EvD K P (tDNotIn ta td) Γ (.bool (!(valD es y).isSome)) := fun I H σ E Q q => by
  refine hn I H σ E _ fun z e2 I2 H2 q2 w2 r2 => ?_
  subst q2
  obtain ⟨go, kvs, h1, h3⟩ := h I2 H2 σ (E.mono w2)
  rw [hy I2 z r2]
  refine go _ ⟨p, _, rfl, DGet.k h1, ?_⟩
  have e : (valV kvs y).isSome = (valD es y).isSome := by
    rcases h3.get y with ⟨g1, g2⟩ | ⟨w, d', g1, g2, g3⟩
    · rw [g1, g2]; rfl
    · rw [g1, g2]; rfl
  rw [e]
  exact q _ _ I2 H2 rfl w2 (Dx.bl _)
/-- one of the dicts is written -/
theorem EnvS.objKnown (E : EnvS K P I0 H0 I H σ Γ) {i : Nat} {x C p q : Addr} {doc firsts : PyData} {kn kn' sa : List (Key × PyData)} {kvs : List (Key × V)} (h : Γ[i]? = some (.obj x C p q doc firsts kn sa)) (r : KVD K I kvs kn') : EnvS K P I0 H0 I (upd H p (.dK kvs)) σ (Γ.set i (.obj x C p q doc firsts kn' sa)) := by
  obtain ⟨e, o⟩ := E.env.obj h
  obtain ⟨_, _, i2, hP⟩ := (E.env.sl i _ h).adr E.env.ok (a := p) (by simp [Slot.adrs])
  have fr := E.fresh i _ h p (by simp [Slot.adrs])
  have w2 := E.wd.mut fr i2 hP (.dK kvs)
  obtain ⟨n1, n2, n3⟩ := o.nd
  have := E.env.change h w2.ok (Same.refl I) (fun a u ha eu z _ => ⟨by rw [L2.upd_ne (fun z => ha (by rw [z]; simp [Slot.adrs]))]; exact eu, z⟩) (v' := sv σ i) (s' := .obj x C p q doc firsts kn' sa)
    ⟨(E.env.sl i _ h).1, ⟨o.hx.elim fun dx z => z.elim fun fs y => ⟨dx, fs, by rw [L2.upd_ne n1]; exact y.1, y.2⟩, ⟨kvs, upd_same, r⟩, o.hq.elim fun ks z => ⟨ks, by rw [L2.upd_ne (Ne.symm n3)]; exact z.1, z.2⟩, o.i, o.nd⟩⟩ fun a ha => .inl ha
  rw [set_sv] at this
  exact ⟨this, w2, fresh_set E.fresh fun a ha => E.fresh i _ h a ha⟩
theorem EnvS.objSaid (E : EnvS K P I0 H0 I H σ Γ) {i : Nat} {x C p q : Addr} {doc firsts : PyData} {kn sa sa' : List (Key × PyData)} {kvs : List (Key × V)} (h : Γ[i]? = some (.obj x C p q doc firsts kn sa)) (r : KVD K I kvs sa') : EnvS K P I0 H0 I (upd H q (.dK kvs)) σ (Γ.set i (.obj x C p q doc firsts kn sa')) := by
  obtain ⟨e, o⟩ := E.env.obj h
  obtain ⟨_, _, i2, hP⟩ := (E.env.sl i _ h).adr E.env.ok (a := q) (by simp [Slot.adrs])
  have fr := E.fresh i _ h q (by simp [Slot.adrs])
  have w2 := E.wd.mut fr i2 hP (.dK kvs)
  obtain ⟨n1, n2, n3⟩ := o.nd
  have := E.env.change h w2.ok (Same.refl I) (fun a u ha eu z _ => ⟨by rw [L2.upd_ne (fun z => ha (by rw [z]; simp [Slot.adrs]))]; exact eu, z⟩) (v' := sv σ i) (s' := .obj x C p q doc firsts kn sa')
    ⟨(E.env.sl i _ h).1, ⟨o.hx.elim fun dx z => z.elim fun fs y => ⟨dx, fs, by rw [L2.upd_ne n2]; exact y.1, y.2⟩, o.hp.elim fun ks z => ⟨ks, by rw [L2.upd_ne n3]; exact z.1, z.2⟩, ⟨kvs, upd_same, r⟩, o.i, o.nd⟩⟩ fun a ha => .inl ha
  rw [set_sv] at this
  exact ⟨this, w2, fresh_set E.fresh fun a ha => E.fresh i _ h a ha⟩
theorem sv_putKnown {i : Nat} {x C p q : Addr} {doc firsts : PyData} {kn sa : List (Key × PyData)} {n : PyData} {y : Key} (A : AgrC K C) (h : Γ[i]? = some (.obj x C p q doc firsts kn sa)) (he : EvD K P te Γ d) (hk : EvD K P tb Γ n) (hy : ∀ I v, Dx K I v n → v = kV y) (hl : kn.length < 100000)
    (hn : N (Γ.set i (.obj x C p q doc firsts (putD kn y d) sa))) : EvS K P I0 H0 (sDPut (tFld K (tVar i) "known") tb te) Γ N R B Ct := fun I H σ D' E kN hr hb hc => by
  refine he I H σ E.env _ fun v d1 I1 H1 e1 w r => ?_
  subst e1
  have E1 := E.mono w
  refine (dict_known h A I1 H1 σ E1.env).1 _ ?_
  refine hk I1 H1 σ E1.env _ fun v2 d2 I2 H2 e2 w2 r2 => ?_
  subst e2
  have E2 := E1.mono w2
  obtain ⟨_, kvs, g1, g3⟩ := dict_known h A I2 H2 σ E2.env
  rw [hy I2 v2 r2]
  refine ⟨p, _, rfl, DPut.k g1 (by rw [g3.len, sizeLine_eq]; omega), ?_⟩
  exact kN I2 _ σ _ hn (w.ii.trans w2.ii) (E2.objKnown h (g3.put (Dx.mono w2.ii _ _ r)))
theorem sv_putSaid {i : Nat} {x C p q : Addr} {doc firsts : PyData} {kn sa : List (Key × PyData)} {n : PyData} {y : Key} (A : AgrC K C) (h : Γ[i]? = some (.obj x C p q doc firsts kn sa)) (he : EvD K P te Γ d) (hk : EvD K P tb Γ n) (hy : ∀ I v, Dx K I v n → v = kV y) (hl : sa.length < 100000)
    (hn : N (Γ.set i (.obj x C p q doc firsts kn (putD sa y d)))) : EvS K P I0 H0 (sDPut (tFld K (tVar i) "said_at") tb te) Γ N R B Ct := fun I H σ D' E kN hr hb hc => by
  refine he I H σ E.env _ fun v d1 I1 H1 e1 w r => ?_
  subst e1
  have E1 := E.mono w
  refine (dict_said h A I1 H1 σ E1.env).1 _ ?_
  refine hk I1 H1 σ E1.env _ fun v2 d2 I2 H2 e2 w2 r2 => ?_
  subst e2
  have E2 := E1.mono w2
  obtain ⟨_, kvs, g1, g3⟩ := dict_said h A I2 H2 σ E2.env
  rw [hy I2 v2 r2]
  refine ⟨q, _, rfl, DPut.k g1 (by rw [g3.len, sizeLine_eq]; omega), ?_⟩
  exact kN I2 _ σ _ hn (w.ii.trans w2.ii) (E2.objSaid h (g3.put (Dx.mono w2.ii _ _ r)))
end
end Wf
/-! Agreement: its __init__, its method. -/
namespace Wf
open PySem L2
/-- a heap without some objects -/
def hid (l : List Addr) (H : Hp) : Hp := fun b => if b ∈ l then none else H b
section
variable {K : PySem.W.Frag} {P : Addr} {I0 H0 I H I' H' : Hp} {l : List Addr}
theorem hid_out {b : Addr} (h : b ∉ l) : hid l H b = H b := if_neg h
theorem hid_in {b : Addr} (h : b ∈ l) : hid l H b = none := if_pos h
theorem Wd.hid (w : Wd P I0 H0 I H) (h : ∀ a ∈ l, H0 a = none ∧ I a = none ∧ a ≠ P) : Wd P I0 H0 I (hid l H) := by
  have nP : P ∉ l := fun z => (h P z).2.2 rfl
  refine ⟨⟨fun b u e => ?_, w.ok.ip, ?_⟩, w.ii, fun b o hb e => ?_, w.fr⟩
  · rw [hid_out fun z => by rw [(h b z).2.1] at e; cases e]
    exact w.ok.sub b u e
  · obtain ⟨ps, e, t⟩ := w.ok.tab
    exact ⟨ps, by rw [hid_out nP]; exact e, t⟩
  · rw [hid_out fun z => by rw [(h b z).1] at e; cases e]
    exact w.hh b o hb e
/-- the whole heap, seen from the heap without those objects -/
theorem Ok.unhid (k : Ok P I H) : Wd P I (Wf.hid l H) I H := ⟨k, Same.refl I, fun b o _ e => by
    by_cases c : b ∈ l
    · rw [hid_in c] at e
      cases e
    · rw [hid_out c] at e
      exact e, fun _ _ _ => rfl⟩
end
abbrev N_ainit : List Str := ["self", "document"]
theorem sc_ainit : FnScope N_ainit ["self", "document"] (defScope s_ainit) := ⟨rfl, rfl, rfl, by decide +kernel, rfl, by decide +kernel, by decide +kernel⟩
abbrev firstsD (d : List Ln) : PyData := .list (natsL (fl false d 0))
theorem putF_len (f : Str) (v : V) : ∀ fs : List (Str × V), (putF f v fs).length ≤ fs.length + 1
  | [] => Nat.le_refl _
  | (g, x) :: r => by
    unfold putF
    split
    · simp
    · have := putF_len f v r
      simp only [List.length_cons]
      omega
/-- Agreement.__init__ -/
def spI (K : PySem.W.Frag) (P C : Addr) : Sp := fun vs H Q _ => ∃ (I : Hp) (a dx : Addr) (d : List Ln) (vd : V), vs = [.ref a, vd] ∧ H a = some (.ins C dx []) ∧ I a = none ∧ Dx K I vd (docD d) ∧ Ok P I H ∧ GD d 300 ∧
  ∀ p q I' H', H p = none → H q = none → ObjAt K I' H' a C p q (docD d) (firstsD d) [] [] → Wd P I (hid [a] H) I' H' → Q .non H'
theorem ok_ainit {Pr : Program} {w : World} {K : PySem.W.Frag} {mg : Str → Option Value} {base : Heap} {P C : Addr} {f : Addr} {fd : FuncData} (F : L2.Fun K "__init__" "Agreement.__init__" s_ainit f fd) (A : AgrC K C) (C_first_lines : C8.Cal Pr w K mg base 2 "first_lines" (pm_first_lines.sp K P) []) :
    FnOk Pr w K mg base CX0 3 f fd ["self", "document"] (spI K P C) := by
  have nd := sc_ainit.nd
  refine F.ok sc_ainit (fun vs H Q E h => ?_) (fun cdv A0 outer s H vs Q E hr h => ⟨_, pss_cons (ps_fld (pv 0) (pv 1) rfl) (pss_cons (ps_fld (pv 0) (C8.pe_c C_first_lines hr (by decide) rfl (pa_cons (pv 1) pa_nil)) rfl) (pss_cons (ps_fld (pv 0) pe_dnewK rfl) (pss_one (ps_fld (pv 0) pe_dnewK rfl)))), ?_⟩)
  · obtain ⟨I, a, dx, d, vd, rfl, _⟩ := h
    rfl
  obtain ⟨I, a, dx, d, vd, rfl, ha, ia, rd, ok, gd, q⟩ := h
  have aP : a ≠ P := ok.ne ha fun _ z => by cases z
  have cl := A.cls
  refine ⟨vd, rfl, .ref a, rfl, a, C, dx, [], rfl, ha, cl, A.doc, by simp, ?_⟩
  have w1 := (ok.unhid (l := [a])).mut (p := a) (hid_in (by simp)) ia aP (.ins C dx (putF "document" vd []))
  refine ⟨vd, rfl, ?_⟩
  refine ⟨I, d, .cons rd .nil, w1.ok, gd, fun r v I1 H1 hr1 w2 r1 => ?_⟩
  have hr1 : r = .dat (firstsD d) := hr1
  subst hr1
  have w12 := w1.trans w2
  have h1 : H1 a = some (.ins C dx (putF "document" vd [])) := w2.hh a _ aP upd_same
  have i1 : I1 a = none := (w2.fr a _ upd_same).trans ia
  refine ⟨.ref a, rfl, a, C, dx, _, rfl, h1, cl, A.firsts, by have := putF_len "document" vd []; simp only [List.length_nil] at this; omega, ?_⟩
  have w3 := w12.mut (p := a) (hid_in (by simp)) i1 aP (.ins C dx (putF "firsts" v (putF "document" vd [])))
  intro p hp
  have pa : p ≠ a := fun z => by rw [z, upd_same] at hp; cases hp
  have w4 := w3.trans (w3.ok.newM hp (.dK []))
  refine ⟨.ref a, rfl, a, C, dx, _, rfl, (upd_ne (Ne.symm pa)).trans upd_same, cl, A.known, by have := putF_len "document" vd []; have := putF_len "firsts" v (putF "document" vd []); simp only [List.length_nil] at *; omega, ?_⟩
  have w5 := w4.mut (p := a) (hid_in (by simp)) i1 aP (.ins C dx (putF "known" (.ref p) (putF "firsts" v (putF "document" vd []))))
  intro q' hq
  have qa : q' ≠ a := fun z => by rw [z, upd_same] at hq; cases hq
  have qp : q' ≠ p := fun z => by rw [z, upd_ne pa, upd_same] at hq; cases hq
  have w6 := w5.trans (w5.ok.newM hq (.dK []))
  refine ⟨.ref a, rfl, a, C, dx, _, rfl, (upd_ne (Ne.symm qa)).trans upd_same, cl, A.said, by have := putF_len "document" vd []; have := putF_len "firsts" v (putF "document" vd []); have := putF_len "known" (.ref p) (putF "firsts" v (putF "document" vd [])); simp only [List.length_nil] at *; omega, ?_⟩
  have w7 := w6.mut (p := a) (hid_in (by simp)) i1 aP (.ins C dx (putF "said_at" (.ref q') (putF "known" (.ref p) (putF "firsts" v (putF "document" vd [])))))
  have back : ∀ b, b ≠ a → H1 b = none → H b = none := fun b hb e => by
    cases c : H b with
    | none => rfl
    | some o =>
      by_cases hP : b = P
      · subst hP
        obtain ⟨ps, z, _⟩ := w12.ok.tab
        rw [e] at z
        cases z
      · have := w12.hh b o hP (by rw [hid_out (by simpa using hb)]; exact c)
        rw [e] at this
        cases this
  have p1 : H1 p = none := (upd_ne pa).symm.trans hp
  have q1 : H1 q' = none := by
    rw [upd_ne qa, upd_ne qp, upd_ne qa] at hq
    exact hq
  refine q p q' I1 _ (back p pa p1) (back q' qa q1) ⟨⟨dx, _, upd_same, ⟨⟨vd, ?_, rd.mono w2.ii⟩, ⟨v, ?_, r1⟩, ?_, ?_, ?_⟩⟩, ⟨[], ?_, .nil⟩, ⟨[], ?_, .nil⟩, ⟨i1, ?_, ?_⟩, Ne.symm pa, Ne.symm qa, Ne.symm qp⟩ w7
  · rw [lookup_putF, if_neg (by decide +kernel), lookup_putF, if_neg (by decide +kernel), lookup_putF, if_neg (by decide +kernel), lookup_putF, if_pos rfl]
  · rw [lookup_putF, if_neg (by decide +kernel), lookup_putF, if_neg (by decide +kernel), lookup_putF, if_pos rfl]
  · rw [lookup_putF, if_neg (by decide +kernel), lookup_putF, if_pos rfl]
  · rw [lookup_putF, if_pos rfl]
  · rw [lookup_putF, if_neg (by decide +kernel), lookup_putF, if_neg (by decide +kernel), lookup_putF, if_neg (by decide +kernel), lookup_putF, if_neg (by decide +kernel)]
    rfl
  · rw [upd_ne pa, upd_ne (Ne.symm qp), upd_ne pa, upd_same]
  · rw [upd_ne qa, upd_same]
  · exact (w3.ok.free hp).1
  · exact (w5.ok.free hq).1
end Wf
/-! Agreement: the object made, its method called. -/
namespace Wf
open PySem L2
/-- what our object holds -/
structure OSt where
  doc : PyData
  firsts : PyData
  kn : List (Key × PyData)
  sa : List (Key × PyData)
abbrev oSlot (x C p q : Addr) (o : OSt) : Slot := .obj x C p q o.doc o.firsts o.kn o.sa
/-- a method's promise -/
def spO {X : Type} (K : PySem.W.Frag) (P C CB : Addr) (args : X → List DD) (pre : X → OSt → Prop) (post : X → OSt → OSt → Prop) (thr : X → OSt → List (Str × V) → Prop) : Sp := fun vs H Q E => ∃ (I : Hp) (y : X) (a p q : Addr) (o : OSt) (vs' : List V), vs = .ref a :: vs' ∧ RpL K I vs' (args y) ∧ Ok P I H ∧ ObjAt K I H a C p q o.doc o.firsts o.kn o.sa ∧ pre y o ∧
  (∀ o' I' H', post y o o' → Wd P I (hid [a, p, q] H) I' H' → ObjAt K I' H' a C p q o'.doc o'.firsts o'.kn o'.sa → Q .non H') ∧ ∀ fs, thr y o fs → Thr P I (hid [a, p, q] H) E CB fs
section
variable {K : PySem.W.Frag} {P : Addr} {Γ : Env} {ta tb td te : TE} {N : Env → Prop} {R : Env → DD → Prop} {B Ct : Env → Prop} {I0 H0 I H I' H' : Hp} {σ : L2.St}
/-- x = Agreement(document) -/
theorem sv_make {i : Nat} {C : Addr} {d : List Ln} (h : EvD K P te Γ (docD d)) (gd : GD d 300) (hn : ∀ x p q, N (Γ.set i (.obj x C p q (docD d) (firstsD d) [] []))) : EvS K P I0 H0 (tAsg (tMake C (spI K P C) [] E0 (tCons te tNil)) (gName i)) Γ N R B Ct := fun I H σ D E kN hr hb hc => by
  refine h I H σ E.env _ fun v e1 I1 H1 ee w1 r1 => ?_
  subst ee
  intro x dx hx hdx hne
  have xP := (w1.ok.free hx)
  have hx2 : (upd H1 dx (.own x)) x = none := by rw [upd_ne (Ne.symm hne)]; exact hx
  have w2 := w1.ok.newM hdx (.own x)
  have w3 := w2.trans (w2.ok.newM hx2 (.ins C dx []))
  show spI K P C (.ref x :: ([v] ++ [])) _ _ _
  refine ⟨I1, x, dx, d, v, rfl, upd_same, xP.1, r1, w3.ok, gd, fun p q I2 H2 hp hq ob w4 => ⟨rfl, ?_⟩⟩
  have w5 : Wd P I1 H1 I1 (hid [x] (upd (upd H1 dx (.own x)) x (.ins C dx []))) := w3.hid fun a ha => by
    rcases List.mem_singleton.mp ha with rfl
    exact ⟨hx, xP.1, xP.2⟩
  have w6 := w1.trans (w5.trans w4)
  have free : ∀ a, (upd (upd H1 dx (.own x)) x (.ins C dx [])) a = none → H1 a = none := fun a e => by
    have a1 : a ≠ x := fun z => by rw [z, upd_same] at e; cases e
    rw [upd_ne a1] at e
    have a2 : a ≠ dx := fun z => by rw [z, upd_same] at e; cases e
    rw [upd_ne a2] at e
    exact e
  refine kN I2 H2 _ _ (hn x p q) w6.ii (E.setW w6 ⟨rfl, ob⟩ fun a ha => ?_)
  have ha : a = x ∨ a = p ∨ a = q := by simpa [Slot.adrs] using ha
  rcases ha with rfl | rfl | rfl
  · exact w1.free hx
  · exact w1.free (free _ hp)
  · exact w1.free (free _ hq)
/-- behind a method's call -/
theorem EnvS.afterO (E : EnvS K P I0 H0 I H σ Γ) {i : Nat} {a C p q : Addr} {o o' : OSt} (h : Γ[i]? = some (oSlot a C p q o)) (w : Wd P I (hid [a, p, q] H) I' H') (ob : ObjAt K I' H' a C p q o'.doc o'.firsts o'.kn o'.sa) : EnvS K P I0 H0 I' H' σ (Γ.set i (oSlot a C p q o')) ∧ Wd P I0 H0 I (hid [a, p, q] H) := by
  have each : ∀ b ∈ [a, p, q], H0 b = none ∧ I b = none ∧ b ≠ P := fun b hb => by
    obtain ⟨_, _, i2, hP⟩ := (E.env.sl i _ h).adr E.env.ok (a := b) hb
    exact ⟨E.fresh i _ h b hb, i2, hP⟩
  have w0 := E.wd.hid each
  have := E.env.change h w.ok w.ii (fun b u hb eu z hP => by
      have hb' : b ∉ [a, p, q] := hb
      have eu' : hid [a, p, q] H b = some u := by rw [hid_out hb']; exact eu
      exact ⟨w.hh b u hP eu', (w.fr b u eu').trans z⟩) (v' := sv σ i) (s' := oSlot a C p q o') ⟨(E.env.sl i _ h).1, ob⟩ fun b hb => .inl hb
  rw [set_sv] at this
  exact ⟨⟨this, w0.trans w, fresh_set E.fresh fun b hb => (each b hb).1⟩, w0⟩
variable {X : Type} {args : X → List DD} {pre : X → OSt → Prop} {post : X → OSt → OSt → Prop} {thr : X → OSt → List (Str × V) → Prop}
theorem sv_meth {E : XK} {i : Nat} {m : Str} {a C CB p q : Addr} {o : OSt} {ts : TA} (y : X) (h : Γ[i]? = some (oSlot a C p q o)) (hm : m = "add_program") (ha : EvA K P ts Γ (· = args y)) (hp : pre y o) (ht : ∀ fs, thr y o fs → Thr P I0 H0 E CB fs) (hn : ∀ o', post y o o' → N (Γ.set i (oSlot a C p q o'))) :
    EvS K P I0 H0 (tDrop (tMeth C m (spO K P C CB args pre post thr) [] E (tVar i) ts)) Γ N R B Ct := fun I H σ D En kN hr hb hc => by
  obtain ⟨e, ob⟩ := En.env.obj h
  obtain ⟨dx, fs, e1, f⟩ := ob.hx
  refine ⟨_, e, a, dx, fs, rfl, e1, by rw [hm]; exact f.add, ?_⟩
  refine ha I H σ En.env _ fun vs ds I1 H1 ee w1 r1 => ?_
  subst ee
  have E1 := En.mono w1
  obtain ⟨_, ob1⟩ := E1.env.obj h
  show spO K P C CB args pre post thr (.ref a :: (vs ++ [])) H1 _ E
  rw [List.append_nil]
  have w0 := (E1.afterO (o' := o) h (Ok.unhid E1.env.ok) ob1).2
  refine ⟨I1, y, a, p, q, o, vs, rfl, r1, w1.ok, ob1, hp, fun o' I2 H2 hpost w2 ob2 => ?_, fun fs hf => (ht fs hf).go w0⟩
  exact kN I2 H2 σ _ (hn o' hpost) (w1.ii.trans w2.ii) (E1.afterO h w2 ob2).1
end
/-- the environment of a method -/
def startO (n : Nat) (x C p q : Addr) (o : OSt) (ds : List DD) : Env := oSlot x C p q o :: startE (n - 1) ds
section
variable {Pr : Program} {w : World} {K : PySem.W.Frag} {mg : Str → Option Value} {base : Heap} {P C CB : Addr}
theorem Fun.objX {x qual : Str} {st : Stmt} {f : Addr} {fd : FuncData} {N ps : List Str} {k : Nat} {X : Type} {args : X → List DD} {pre : X → OSt → Prop} {post : X → OSt → OSt → Prop} {thr : X → OSt → List (Str × V) → Prop} (F : L2.Fun K x qual st f fd) (S : FnScope N ps (defScope st)) (hl : ∀ y, (args y).length + 1 = ps.length) (hN : ps.length ≤ N.length)
    (hb : ∀ (cdv : Value) (A : Around) (outer : List PySem.Env) (s : Shared) (H : Hp) (E : XK), Room k (A.deeper (PyProof.Rows.envOfC qual (defScope st) s.heap.objs.size f cdv)) → L2.Takes (cxOf (L2.CX Pr w) Pr w K mg base N qual (defScope st) f cdv A outer s H E) (fun cls d _ H => E cls d H) →
      ∃ t, PSs (cxOf (L2.CX Pr w) Pr w K mg base N qual (defScope st) f cdv A outer s H E) (defBody st) t ∧ ∀ y a p q o, pre y o → ∀ I0 H0 : Hp, (∀ fs, thr y o fs → Thr P I0 H0 E CB fs) → EvS K P I0 H0 t (startO N.length a C p q o (args y)) (fun Γ' => ∃ o', Γ'[0]? = some (oSlot a C p q o') ∧ post y o o') (fun _ _ => False) (fun _ => False) (fun _ => False)) :
    FnOk Pr w K mg base (L2.CX Pr w) (k + 1) f fd ps (spO K P C CB args pre post thr) := by
  refine F.okX S (fun vs H Q E h => ?_) (fun cdv A outer s H vs Q E hr h => ?_)
  · obtain ⟨I, y, a, p, q, o, vs', rfl, r, _⟩ := h
    rw [List.length_cons, Paired.length r, hl y]
  · have tk : L2.Takes (cxOf (L2.CX Pr w) Pr w K mg base N qual (defScope st) f cdv A outer s H E) (fun cls d _ H => E cls d H) := L2.takes_of rfl rfl rfl rfl
    obtain ⟨t, hd, hev⟩ := hb cdv A outer s H E hr tk
    obtain ⟨I, y, a, p, q, o, vs', rfl, r, ko, ob, hp, hq, ht⟩ := h
    refine ⟨t, hd, ?_⟩
    have hlen : vs'.length = (args y).length := Paired.length r
    have hy := hl y
    have E0 : EnvS K P I (hid [a, p, q] H) I H (L2.start N (.ref a :: vs')) (startO N.length a C p q o (args y)) := by
      refine ⟨⟨ko, ?_, fun i s hs => ?_, fun i j s t hij hs ht b hb hbt => ?_⟩, ko.unhid, fun i s hs b hb => ?_⟩
      · rw [start_len]
        unfold startO startE
        simp only [List.length_cons, List.length_append, List.length_map, List.length_replicate]
        omega
      · cases i with
        | zero =>
          cases hs
          exact ⟨start_sv rfl, ob⟩
        | succ i =>
          rcases startE_get (show (startE (N.length - 1) (args y))[i]? = some s from hs) with ⟨d, hd, rfl⟩ | ⟨_, rfl⟩
          · obtain ⟨v, hv, rv⟩ := paired_at r hd
            exact ⟨v, start_sv hv, rv⟩
          · trivial
      · cases i with
        | zero =>
          cases j with
          | zero => exact hij rfl
          | succ j =>
            rw [startE_adrs (show (startE (N.length - 1) (args y))[j]? = some t from ht)] at hbt
            cases hbt
        | succ i =>
          rw [startE_adrs (show (startE (N.length - 1) (args y))[i]? = some s from hs)] at hb
          cases hb
      · cases i with
        | zero =>
          cases hs
          exact hid_in hb
        | succ i =>
          rw [startE_adrs (show (startE (N.length - 1) (args y))[i]? = some s from hs)] at hb
          cases hb
    refine hev y a p q o hp I _ ht I H _ _ E0 (fun I' H' σ' Γ' h' _ E' => ?_) (fun _ _ _ _ _ _ z => z.elim) (fun _ _ _ _ z => z.elim) (fun _ _ _ _ z => z.elim)
    obtain ⟨o', ho', hpost⟩ := h'
    exact hq o' I' H' hpost E'.wd (E'.env.obj ho').2
end
end Wf
/-! Agreement.add_program. -/
namespace Wf
open PySem L2 L2H HotX
/-- what is known of the class BuildRefused -/
structure BrK (P : Program) (w : World) (K : PySem.W.Frag) (mg : Str → Option Value) (base : Heap) (C : Addr) : Prop where
  ox : OexC K C
  mgB : mg "BuildRefused" = some (.ref C)
  ex : ∃ (fI : Addr) (fd : FuncData), PySem.W.findIn K (.ref C) "__init__" = some (some (.ref fI)) ∧ PySem.W.typeIn K (.ref fI) = some (.type "function") ∧ FnOk P w K mg base CX0 1 fI fd ["self", "root", "at", "what", "other_root", "other"] (spB C) ∧ FnH P w K mg base CX0 1 fI fd ["self", "root", "at", "what", "other_root", "other"] (spB C) ∧
    Binds K fd ["self", "root", "at", "what", "other_root", "other"] []
def tRaB (C : Addr) (E : XK) (ta : TA) : TS := fun _ σ H => tMkO C (spB C) [] ta σ H fun cls d H' => E cls d H'
section
variable {X : Cx} {j : Nat} {C : Addr} {E : XK} {p pos : Pos} {e : Expr} {es : List Expr}
/-- raise BuildRefused(..) where nothing is handled -/
theorem ps_raB {ta : TA} {rp : Pos} (hc : X.calm = true) (tk : L2.Takes X fun cls d _ H => E cls d H) (U : BrK X.prog X.w X.K X.mg X.base C) (hr : Room j X.A) (hk : 2 ≤ j) (hg : Gl X "BuildRefused") (ha : PA X (e :: es) ta)
    (he : starEach (e :: es) X.env = (false, eval e X.env) :: starEach es X.env := by rfl) (hpl : (backTo pos (starEach es X.env)).any (·.1) = false := by rfl) :
    PS X (.Raise (some (.Call (.Name "BuildRefused" p) (e :: es) [] pos)) none rp) (tRaB C E ta) := by
  obtain ⟨fI, fd, iC, tI, F, _, b⟩ := U.ex
  exact L2.ps_raise hc tk (pmk_oex U.ox iC tI F (hr.mono hk) b .nil pass0 hg U.mgB ha (by decide) he hpl)
/-- raise BuildRefused(..) from None in a suite -/
theorem ps_raBH {ta : TA} {rp cpos : Pos} {cj : Nat} (hot : HotC X) (tk : L2.Takes X fun cls d _ H => E cls d H) (U : BrK X.prog X.w X.K X.mg X.base C) (hr : RoomH j X.A) (hk : 2 ≤ j) (hg : Gl X "BuildRefused") (ha : PA X (e :: es) ta)
    (he : starEach (e :: es) X.env = (false, eval e X.env) :: starEach es X.env := by rfl) (hpl : (backTo pos (starEach es X.env)).any (·.1) = false := by rfl) :
    PS X (.Raise (some (.Call (.Name "BuildRefused" p) (e :: es) [] pos)) (some (.Constant .none cj cpos)) rp) (tRaB C E ta) := by
  obtain ⟨fI, fd, iC, tI, _, F, b⟩ := U.ex
  exact ps_raiseHN hot tk (pmk5_oexH U.ox iC tI F (hr.mono hk) hot b pass0 hg U.mgB ha (by decide) he hpl)
end
/-- err.f in a suite that may raise -/
theorem pe_xfY {Y : Cx} {a C : Addr} {oe : Obj} {cls : Value} {d : Option Addr} {e : Expr} {te : TE} {pos : Pos} {n : Str} (T : XfC Y.K C) (none : PySem.W.findIn Y.K (.ref C) n = some none) (pinned : (a, oe) ∈ Y.pn) (hz : Zc cls d oe) (hf : ∃ vs, oe.data = .fields vs) (he : PE Y e te)
    (hb : attributeBase e n Y.env (eval e Y.env) = eval e Y.env := by rfl) : PE Y (.Attribute e n pos) (tXf a cls d C n te) := ⟨fun pins s σ H Q I h => by
  refine attr_of hb (thn (he.run pins s σ H _ I h) fun u s1 hh => ?_)
  obtain ⟨y, H1, J, ry, rfl, rfl, dd, fs, v, rfl, ed, look, q⟩ := hh
  cases (show u = Value.ref a from ry)
  have stands := (J.pin (a, oe) (List.mem_append_left _ pinned)).1
  obtain ⟨vs, data⟩ := hf
  have atD : ObjOk Y.prog Y.w H1 s1.heap dd (.xd fs) := J.hok dd _ ed
  obtain ⟨mA, ns, rel⟩ := atD
  obtain ⟨od, ho, hl⟩ := lookIn_ns ns
  obtain ⟨u, hu, ru⟩ := RelO.some_of (v := v) (o := mA n) (by rw [← look]; exact rel n)
  have inst : PySem.W.InstAt s1.heap a oe C (some od) := ⟨stands, hz.1, by unfold PySem.W.notCls; rw [data] <;> rfl, by rw [hz.2]; exact ho⟩
  exact HandSPX.exc_get J.kIn inst T.ga T.gg T.exC (PySem.W.findObj_own T.hdC none rfl (by rw [hl, hu])) (handed_of ru) ⟨v, H1, J.tok _, ru, q⟩⟩
abbrev N_add : List Str := ["self", "root", "program", "edits", "at", "line", "e", "fate", "other_root", "other"]
theorem sc_add : FnScope N_add ["self", "root", "program", "edits"] (defScope s_add) := ⟨rfl, rfl, rfl, by decide +kernel, rfl, by decide +kernel, by decide +kernel⟩
/-- the suite's raise -/
def tSuite (C CB : Addr) (E : XK) (a : Addr) (cls : Value) (d : Option Addr) : TS := tRaB CB E (tCons (tVar 1) (tCons (tVar 4) (tCons (tXf a cls d C "what" (tVar 6)) (tCons (tC (.str "")) (tCons (tUn (rU fun i => .int (-i)) (tC (.int 1))) tNil)))))
def tTry (K : PySem.W.Frag) (P C CB : Addr) (E : XK) : TS := fun D σ H => tAsg (tCallS (pm_said_of.sp K P C) (WE (wAsX K (.ref C) 6 (fun a cls d D => tSeq (tSuite C CB E a cls d) tNext D))) (tCons (tFld K (tVar 0) "document") (tCons (tFld K (tVar 0) "firsts") (tCons (tVar 4) (tCons (tVar 5) (tCons (tOp (rIxL K) (tVar 3) (tVar 4)) tNil)))))) (gName 7) D σ H
/-- the body of the loop -/
def tTurn (K : PySem.W.Frag) (P C CB : Addr) (E : XK) : TS := tSeq (tTry K P C CB E) (tIfS (tB (tDNotIn (tOp (rIxT K) (tVar 5) (tC (.int 1))) (tFld K (tVar 0) "known"))) (tSeq (sDPut (tFld K (tVar 0) "known") (tOp (rIxT K) (tVar 5) (tC (.int 1))) (tVar 7)) (sDPut (tFld K (tVar 0) "said_at") (tOp (rIxT K) (tVar 5) (tC (.int 1))) (tTup (tCons (tVar 1) (tCons (tVar 4) tNil)))))
  (tIfS (tTest (tOp (rNeP K) (tDGet (tFld K (tVar 0) "known") (tOp (rIxT K) (tVar 5) (tC (.int 1)))) (tVar 7))) (tSeq (tAsg (tDGet (tFld K (tVar 0) "said_at") (tOp (rIxT K) (tVar 5) (tC (.int 1)))) (gTup K 2 (gCons (gName 8) (gCons (gName 9) gNil)))) (tRaB CB E (tCons (tVar 1) (tCons (tVar 4) (tCons (tC (.str "apart")) (tCons (tVar 8) (tCons (tVar 9) tNil))))))) tNext))
def t_add (K : PySem.W.Frag) (P C CB : Addr) (E : XK) : TS := tFor (iEnum K (tCons (tVar 2) tNil)) (gTup K 2 (gCons (gName 4) (gCons (gName 5) gNil))) (tTurn K P C CB E)
theorem d_add {Pr : Program} {w : World} {K : PySem.W.Frag} {mg : Str → Option Value} {base : Heap} {P C CB f : Addr} {cdv : Value} {A : Around} {outer : List PySem.Env} {s : Shared} {H : Hp} {E : XK} (T : Txt mg) (U : UnfitK Pr w K mg base C) (XF : XfC K C) (hw : PySem.W.findIn K (.ref C) "what" = some none) (UB : BrK Pr w K mg base CB) (C_said_of : CalR Pr w K mg base 7 "said_of" (pm_said_of.sp K P C))
    (hr : Room 7 (A.deeper (PyProof.Rows.envOfC "Agreement.add_program" (defScope s_add) s.heap.objs.size f cdv))) (tk : L2.Takes (cxOf (L2.CX Pr w) Pr w K mg base N_add "Agreement.add_program" (defScope s_add) f cdv A outer s H E) (fun cls d _ H => E cls d H)) :
    PSs (cxOf (L2.CX Pr w) Pr w K mg base N_add "Agreement.add_program" (defScope s_add) f cdv A outer s H E) (defBody s_add) (t_add K P C CB E) := by
  have nd := sc_add.nd
  obtain ⟨fS, fdS, psS, FS, mS, kS, bS⟩ := C_said_of.ex
  refine pss_one (ps_for (L2.passes_of rfl) rfl (pi_enum (by rfl) T.enumerate (pa_cons (pv 2) pa_nil)) (pg_tup rfl (pgs_cons (pg_name (i := 4) nd rfl (by first | exact Or.inl rfl | exact Or.inr rfl)) (pgs_cons (pg_name (i := 5) nd rfl (by first | exact Or.inl rfl | exact Or.inr rfl)) pgs_nil))) (pss_cons ?_ (pss_one (ps_if (pt_cmp (pc_dnotin (hu_of hr) (pe_ix ix_tup (pv 5) pe_int (fun _ _ => rfl)) (pe_fld (pv 0) rfl))) (pss_cons (ps_dput (hu_of hr) (pe_fld (pv 0) rfl) (pe_ix ix_tup (pv 5) pe_int (fun _ _ => rfl)) (pv 7) rfl) (pss_one (ps_dput (hu_of hr) (pe_fld (pv 0) rfl) (pe_ix ix_tup (pv 5) pe_int (fun _ _ => rfl)) (pe_tup (pa_cons (pv 1) (pa_cons (pv 4) pa_nil))) rfl)))
    (pss_one (ps_if (pt_cmpR (op_neP hr.units) (pe_dget (hu_of hr) (pe_fld (pv 0) rfl) (pe_ix ix_tup (pv 5) pe_int (fun _ _ => rfl)) (fun _ _ => rfl)) (pv 7) (nomark _)) (pss_cons (ps_asg (pe_dget (hu_of hr) (pe_fld (pv 0) rfl) (pe_ix ix_tup (pv 5) pe_int (fun _ _ => rfl)) (fun _ _ => rfl)) (pg_tup rfl (pgs_cons (pg_name (i := 8) nd rfl (by first | exact Or.inl rfl | exact Or.inr rfl)) (pgs_cons (pg_name (i := 9) nd rfl (by first | exact Or.inl rfl | exact Or.inr rfl)) pgs_nil)))) (pss_one (ps_raB rfl tk UB hr (by decide) rfl (pa_cons (pv 1) (pa_cons (pv 4) (pa_cons pe_str (pa_cons (pv 8) (pa_cons (pv 9) pa_nil)))))))) pss_nil))))))
  refine ps_try_asX (x := "Unfit") (n := "e") (i := 6) (c := .ref C) (E := E) rfl rfl (fun x c z => by cases z) nd rfl rfl ⟨by exact rfl, by decide, .inl U.mgU⟩ tk (fun W pn xe tkW po => pss_one (ps_set (i := 7) nd rfl (by first | exact Or.inl rfl | exact Or.inr rfl) (pe_callS (x := "said_of") FS hr (by exact rfl) mS kS bS (fun σ => L2N.passAt tkW σ) (pa_cons (pe_fld (pv 0) rfl) (pa_cons (pe_fld (pv 0) rfl) (pa_cons (pv 4) (pa_cons (pv 5) (pa_cons (pe_ix ix_list (pv 3) (pv 4) (fun _ _ => rfl)) pa_nil)))))))) (fun a oe cls d pn xe hz hf tkS hot => ?_)
  exact pss_cons (ps_raBH hot tkS UB (roomH_mark hr _) (by decide) (by exact rfl) (pa_cons (pv 1) (pa_cons (pv 4) (pa_cons (pe_xfY XF hw List.mem_cons_self hz.zc hf (pv 6)) (pa_cons pe_str (pa_cons (pe_un un_neg pe_int) pa_nil)))))) pss_nil
def bFs (r : Str) (n : Nat) (w o : Str) (m : Int) : List (Str × V) := [("other", .int m), ("other_root", .str o), ("what", .str w), ("at", .int n), ("root", .str r)]
theorem raiseB_at {P : Addr} {I0 H0 I1 H1 : Hp} {E : XK} {C : Addr} {r : Str} {n : Nat} {w o : Str} {m : Int} (wd : Wd P I0 H0 I1 H1) (hn : n ≤ 2000) (hw : w.length ≤ 100) (hr : r.length ≤ 100) (t : Thr P I0 H0 E C (bFs r n w o m)) :
    [V.str r, V.int n, V.str w, V.str o, V.int m].length ≤ 1000 ∧ ∀ a, H1 a = none → spB C (.ref a :: ([V.str r, V.int n, V.str w, V.str o, V.int m] ++ [])) (upd H1 a (exo a C none))
      (fun v H2 => v = .non ∧ ∃ (d : Addr) (fs : List (Str × V)), H2 a = some (exo a C (some d)) ∧ H2 d = some (exd d fs) ∧ H1 d = none ∧ E (.ref C) (some d) (upd (del H2 a) d (.xd fs))) (fun _ _ _ => False) := by
  refine ⟨by simp only [List.length_cons, List.length_nil]; omega, fun a ha => ⟨a, r, n, w, o, m, rfl, hn, hw, hr, upd_same, fun dx hd hne => ⟨rfl, dx, _, ?_, upd_same, (upd_ne hne).symm.trans hd, ?_⟩⟩⟩
  · rw [upd_ne (Ne.symm hne), upd_ne (Ne.symm hne), upd_ne (Ne.symm hne), upd_ne (Ne.symm hne), upd_same]
  have hd1 : H1 dx = none := (upd_ne hne).symm.trans hd
  have w3 := wd.trans (wd.ok.newM hd1 (.xd (bFs r n w o m)))
  refine t I1 _ dx ?_ upd_same
  have eq : ∀ (f1 f2 f3 f4 f5 : List (Str × V)), upd (del (upd (upd (upd (upd (upd (upd (upd H1 a (exo a C none)) dx (exd dx f1)) a (exo a C (some dx))) dx (exd dx f2)) dx (exd dx f3)) dx (exd dx f4)) dx (exd dx f5)) a) dx (.xd (bFs r n w o m)) = upd H1 dx (.xd (bFs r n w o m)) := by
    intro f1 f2 f3 f4 f5
    funext b
    by_cases c : b = dx
    · subst c
      rw [upd_same, upd_same]
    · rw [upd_ne c, upd_ne c]
      by_cases c2 : b = a
      · subst c2
        rw [del_same, ha]
      · rw [del_ne c2, upd_ne c, upd_ne c, upd_ne c, upd_ne c, upd_ne c2, upd_ne c, upd_ne c2]
  exact eq _ _ _ _ _ ▸ w3
end Wf
/-! Agreement.add_program, told of data. -/
namespace Wf
open PySem L2 L2H HotX
section
variable {K : PySem.W.Frag} {P : Addr} {Γ : Env} {N : Env → Prop} {R : Env → DD → Prop} {B Ct : Env → Prop} {I0 H0 : Hp} {E : XK} {C CA CB : Addr}
theorem sv_raiseB {ta : TA} {r : Str} {n : Nat} {w o : Str} {m : Int} (h : EvA K P ta Γ (· = [.dat (.str r), .dat (.int n), .dat (.str w), .dat (.str o), .dat (.int m)])) (hn : n ≤ 2000) (hw : w.length ≤ 100) (hr : r.length ≤ 100) (t : Thr P I0 H0 E CB (bFs r n w o m)) : EvS K P I0 H0 (tRaB CB E ta) Γ N R B Ct := fun I H σ D e kn kr hb hc => by
  refine h I H σ e.env _ fun vs ds I1 H1 e1 w1 r1 => ?_
  subst e1
  have r := rpL_dx (ds := [.str r, .int n, .str w, .str o, .int m]) r1
  cases r with
  | cons ra rb =>
    cases rb with
    | cons rc rd =>
      cases rd with
      | cons re rf =>
        cases rf with
        | cons rg rh =>
          cases rh with
          | cons ri rj =>
            cases rj
            cases ra
            cases rc
            cases re
            cases rg
            cases ri
            exact raiseB_at (e.wd.trans w1) hn hw hr t
theorem sv_try {a p q : Addr} {o : OSt} {d : List Ln} {root : Str} {n : Nat} {pl : PL} {e : Ed} {es : List Ed} (A : AgrC K CA) (h0 : Γ[0]? = some (oSlot a CA p q o)) (hd : o.doc = docD d) (hf : o.firsts = firstsD d) (h1 : Γ[1]? = some (.imm (.dat (.str root)))) (h3 : Γ[3]? = some (.imm (.dat (edsD es)))) (h4 : Γ[4]? = some (.imm (.dat (.int n)))) (h5 : Γ[5]? = some (.imm (.dat (plD pl)))) (hes : es[n]? = some e)
    (gd : GD d 300) (hP : PlOk d pl) (hE : EdOk e) (hn : n ≤ 2000) (hr : root.length ≤ 100) (hlen : 6 < Γ.length) (named : PySem.W.exmOne K (.ref C) (.ref C) = some true) (hN : ∀ f, said d pl e = .ok f → N (Γ.set 7 (.imm (.dat (edD f))))) (hT : ∀ w, said d pl e = .error w → Thr P I0 H0 E CB (bFs root n (whS w) "" (-1))) :
    EvS K P I0 H0 (tTry K P C CB E) Γ N R B Ct := fun I H σ D En kN _ _ _ => by
  have ge : (es.map edD)[n]? = some (edD e) := by rw [List.getElem?_map, hes]; rfl
  have dv : EvD K P (tFld K (tVar 0) "document") Γ (docD d) := by rw [← hd]; exact ev_objDoc h0 A
  have fv : EvD K P (tFld K (tVar 0) "firsts") Γ (firstsD d) := by rw [← hf]; exact ev_objFirsts h0 A
  unfold tTry tAsg tCallS
  refine (ea_cons dv (ea_cons fv (ea_cons (ev_var h4) (ea_cons (ev_var h5) (ea1 (ev_ixL (c := edD e) (ev_var h3) (ev_var h4) (atI_of ge))))))) I H σ En.env _ fun vs ds I1 H1 ee w1 r1 => ?_
  subst ee
  refine ⟨I1, (d, n, pl, e), r1, w1.ok, ⟨gd, hn, hP, hE⟩, fun r v I2 H2 hpost w2 r2 => ?_, fun fs hfs I2 H2 dd w2 hdd => ?_⟩
  · obtain ⟨f, hf, rfl⟩ := hpost
    exact kN I2 H2 _ _ (hN f hf) (w1.ii.trans w2.ii) ((En.mono (w1.trans w2)).set r2)
  · obtain ⟨w, hw, rfl⟩ := hfs
    refine ⟨named, fun x hx => ?_⟩
    obtain ⟨v1, s1, t1⟩ := En.env.imm h1
    obtain ⟨v4, s4, t4⟩ := En.env.imm h4
    cases t1
    cases t4
    have l6 : 6 < σ.length := by rw [En.env.len]; exact hlen
    refine ⟨_, (List.getElem?_set_ne (by decide)).trans s1, _, (List.getElem?_set_ne (by decide)).trans s4, _, List.getElem?_set_self l6, rfl, rfl, dd, _, .str (whS w), rfl, hdd, rfl, ?_⟩
    refine ⟨1, rfl, ?_⟩
    exact raiseB_at ((En.wd.trans w1).trans w2) hn (whS_len w) hr (hT w hw)
end
end Wf
/-! Agreement.add_program: one turn, the loop. -/
namespace Wf
open PySem L2 L2H HotX
def saV (f : KE) : PyData := .tuple [.str f.2.1, .int f.2.2]
def saD (k : Known) : List (Key × PyData) := k.map fun q => (Sum.inl (q.1 : Int), saV q.2)
theorem saD_get (k : Known) (a : Nat) : valD (saD k) (.inl (a : Int)) = (kget k a).map saV := by
  induction k with
  | nil => rfl
  | cons q k ih =>
    rw [kget_cons]
    unfold valD saD at ih ⊢
    rw [List.map_cons, List.find?_cons]
    by_cases c : q.1 = a
    · subst c
      simp
    · have ne : ¬ ((Sum.inl (q.1 : Int) : Key) = Sum.inl (a : Int)) := fun z => c (Int.ofNat.inj (Sum.inl.inj z))
      simp only [decide_eq_false ne, if_neg c]
      exact ih
theorem knD_put {k : Known} {a : Nat} {f : KE} (h : kget k a = none) : putD (knD k) (.inl (a : Int)) (edD f.1) = knD (k ++ [(a, f)]) := by
  rw [putD_new (by rw [knD_get, h]; rfl)]
  unfold knD
  rw [List.map_append]
  rfl
theorem saD_put {k : Known} {a : Nat} {f : KE} (h : kget k a = none) : putD (saD k) (.inl (a : Int)) (saV f) = saD (k ++ [(a, f)]) := by
  rw [putD_new (by rw [saD_get, h]; rfl)]
  unfold saD
  rw [List.map_append]
  rfl
abbrev oSt (d : List Ln) (k : Known) : OSt := ⟨docD d, firstsD d, knD k, saD k⟩
abbrev adE (CA x p q : Addr) (d : List Ln) (k : Known) (root : Str) (ps : List PL) (es : List Ed) (s4 s5 s6 s7 s8 s9 : Slot) : Env := [oSlot x CA p q (oSt d k), .imm (.dat (.str root)), .imm (.dat (progD ps)), .imm (.dat (edsD es)), s4, s5, s6, s7, s8, s9]
def rfFs (r : Rf) : List (Str × V) := bFs r.root r.at_ (whS r.what) r.oroot r.other
/-- one turn -/
theorem sv_turn {K : PySem.W.Frag} {P C CA CB x p q : Addr} {E : XK} {I0 H0 : Hp} {d : List Ln} {k : Known} {root : Str} {ps : List PL} {es : List Ed} {n : Nat} {pl : PL} {e : Ed} {s6 s7 s8 s9 : Slot} {N B Ct : Env → Prop} {R : Env → DD → Prop} (A : AgrC K CA) (hes : es[n]? = some e) (gd : GD d 300) (hP : PlOk d pl) (hE : EdOk e) (hn : n ≤ 2000) (hr : root.length ≤ 100) (hk : k.length < 100000)
    (named : PySem.W.exmOne K (.ref C) (.ref C) = some true) (hN : ∀ k' s7 s8 s9, agStep d root n pl e k = .ok k' → k'.length ≤ k.length + 1 → N (adE CA x p q d k' root ps es (.imm (.dat (.int n))) (.imm (.dat (plD pl))) s6 s7 s8 s9)) (hT : ∀ r, agStep d root n pl e k = .error r → Thr P I0 H0 E CB (rfFs r)) :
    EvS K P I0 H0 (tTurn K P C CB E) (adE CA x p q d k root ps es (.imm (.dat (.int n))) (.imm (.dat (plD pl))) s6 s7 s8 s9) N R B Ct := by
  refine sv_seq (sv_try (o := oSt d k) A rfl rfl rfl rfl rfl rfl rfl hes gd hP hE hn hr (by simp) named (fun f hf => ?_) fun w hw => ?_)
  · have key := knD_get k pl.line
    have keyS := saD_get k pl.line
    cases c : kget k pl.line with
    | none =>
      rw [c] at key
      have st : agStep d root n pl e k = .ok (k ++ [(pl.line, (f, root, n))]) := by
        unfold agStep
        rw [hf]
        dsimp only
        rw [c]
      refine sv_if (et_B (ev_dnotinE (n := .int (pl.line : Nat)) (y := .inl (pl.line : Int)) (ev_pl1 (p := pl) (ev_var rfl)) (dict_known (i := 0) rfl A) key_int)) (fun q2 => ?_) (fun q2 => ?_)
      · refine sv_seq (sv_putKnown (i := 0) (n := .int (pl.line : Nat)) (y := .inl (pl.line : Int)) (d := edD f) A rfl (ev_var rfl) (ev_pl1 (p := pl) (ev_var rfl)) key_int (by show (knD k).length < _; unfold knD; rw [List.length_map]; exact hk) ?_)
        refine sv_putSaid (i := 0) (n := .int (pl.line : Nat)) (y := .inl (pl.line : Int)) (d := saV (f, root, n)) A rfl (ev_tup (ds := [.str root, .int (n : Nat)]) (ea_cons (ev_var rfl) (ea1 (ev_var rfl)))) (ev_pl1 (p := pl) (ev_var rfl)) key_int (by show (saD k).length < _; unfold saD; rw [List.length_map]; exact hk) ?_
        have := hN _ (.imm (.dat (edD f))) s8 s9 st (by simp)
        rw [show (adE CA x p q d (k ++ [(pl.line, (f, root, n))]) root ps es (.imm (.dat (.int n))) (.imm (.dat (plD pl))) s6 (.imm (.dat (edD f))) s8 s9) = _ from by unfold adE oSlot oSt; rw [← knD_put c, ← saD_put c]] at this
        exact this
      · rw [key] at q2
        cases q2
    | some g =>
      rw [c] at key keyS
      refine sv_if (et_B (ev_dnotinE (n := .int (pl.line : Nat)) (y := .inl (pl.line : Int)) (ev_pl1 (p := pl) (ev_var rfl)) (dict_known (i := 0) rfl A) key_int)) (fun q2 => ?_) (fun q2 => ?_)
      · rw [key] at q2
        cases q2
      refine sv_if (et_test (ev_edNe (e := g.1) (f := f) (ev_dgetE (n := .int (pl.line : Nat)) (y := .inl (pl.line : Int)) (dict_known (i := 0) rfl A) (ev_pl1 (p := pl) (ev_var rfl)) key_int key) (ev_var rfl))) (fun q3 => ?_) (fun q3 => sv_next ?_)
      · have hne : ¬ g.1 = f := of_decide_eq_false (by simpa using q3)
        refine sv_seq (sv_asgG (d := .dat (saV g)) (ev_dgetE (n := .int (pl.line : Nat)) (y := .inl (pl.line : Int)) (dict_said (i := 0) rfl A) (ev_pl1 (p := pl) (ev_var rfl)) key_int keyS) (eg_tup (ds := [.str g.2.1, .int g.2.2]) rfl (gs_cons (eg_name (gs_cons (eg_name (gs_nil ?_)))))))
        refine sv_raiseB (r := root) (n := n) (w := whS .apart) (o := g.2.1) (m := g.2.2) (ea_cons (ev_var rfl) (ea_cons (ev_var rfl) (ea_cons ev_str (ea_cons (ev_var rfl) (ea1 (ev_var rfl)))))) hn (whS_len _) hr (hT ⟨root, n, .apart, g.2.1, g.2.2⟩ ?_)
        unfold agStep
        rw [hf]
        dsimp only
        rw [c]
        dsimp only
        rw [if_neg hne]
      · have heq : g.1 = f := of_decide_eq_true (by simpa using q3)
        refine hN k _ _ _ ?_ (by omega)
        unfold agStep
        rw [hf]
        dsimp only
        rw [c]
        dsimp only
        rw [if_pos heq]
  · have := hT ⟨root, n, w, Str.empty, -1⟩ (by unfold agStep; rw [hw])
    rw [← e0] at this
    exact this
end Wf
/-! Agreement.add_program: its promise. -/
namespace Wf
open PySem L2 L2H HotX
structure AdPre (d : List Ln) (root : Str) (ps : List PL) (es : List Ed) (k : Known) : Prop where
  gd : GD d 300
  pl : ∀ p ∈ ps, PlOk d p
  ed : ∀ e ∈ es, EdOk e
  len : es.length = ps.length
  le : ps.length ≤ 2000
  rt : root.length ≤ 100
  kn : k.length ≤ 40000
abbrev AdX := List Ln × Str × List PL × List Ed × Known
def adArgs (x : AdX) : List DD := [.dat (.str x.2.1), .dat (progD x.2.2.1), .dat (edsD x.2.2.2.1)]
def adPre (x : AdX) (o : OSt) : Prop := o = oSt x.1 x.2.2.2.2 ∧ AdPre x.1 x.2.1 x.2.2.1 x.2.2.2.1 x.2.2.2.2
def adPost (x : AdX) (_ o' : OSt) : Prop := ∃ k', agProg x.1 x.2.1 0 x.2.2.1 x.2.2.2.1 x.2.2.2.2 = .ok k' ∧ k'.length ≤ x.2.2.2.2.length + x.2.2.1.length ∧ o' = oSt x.1 k'
def adThr (x : AdX) (_ : OSt) (fs : List (Str × V)) : Prop := ∃ r, agProg x.1 x.2.1 0 x.2.2.1 x.2.2.2.1 x.2.2.2.2 = .error r ∧ fs = rfFs r
theorem ev_addp {K : PySem.W.Frag} {P C CA CB : Addr} {E : XK} (A : AgrC K CA) (named : PySem.W.exmOne K (.ref C) (.ref C) = some true) (y : AdX) (a p q : Addr) (o : OSt) (h : adPre y o) (I0 H0 : Hp) (ht : ∀ fs, adThr y o fs → Thr P I0 H0 E CB fs) :
    EvS K P I0 H0 (t_add K P C CB E) (startO N_add.length a CA p q o (adArgs y)) (fun Γ' => ∃ o', Γ'[0]? = some (oSlot a CA p q o') ∧ adPost y o o') (fun _ _ => False) (fun _ => False) (fun _ => False) := by
  obtain ⟨d, root, ps, es, k⟩ := y
  obtain ⟨ho, h⟩ := h
  dsimp only at ho h
  subst ho
  have hle := h.le
  refine sv_for (ds := enumD 0 (ps.map plD)) (fun rest Γ' => ∃ (j : Nat) (a2 : List PL) (b2 : List Ed) (k' : Known) (s4 s5 s6 s7 s8 s9 : Slot), rest = enumD j (a2.map plD) ∧ a2.length = b2.length ∧ (∃ pre, ps = pre ++ a2 ∧ pre.length = j) ∧ (∃ pre, es = pre ++ b2 ∧ pre.length = j) ∧
    agProg d root j a2 b2 k' = agProg d root 0 ps es k ∧ k'.length ≤ k.length + j ∧ Γ' = adE CA a p q d k' root ps es s4 s5 s6 s7 s8 s9) (ei_enum (ev_var rfl)) ⟨0, ps, es, k, _, _, _, _, _, _, rfl, h.len.symm, ⟨[], rfl, rfl⟩, ⟨[], rfl, rfl⟩, rfl, Nat.le_refl _, rfl⟩ (fun x rest Γ' hJ => ?_) (fun Γ' hJ => ?_)
  · obtain ⟨j, a2, b2, k', s4, s5, s6, s7, s8, s9, e, hl, ⟨pa, hpa, hpal⟩, ⟨pb, hpb, hpbl⟩, hag, hkl, rfl⟩ := hJ
    cases a2 with
    | nil => cases e
    | cons pl a2 =>
      cases b2 with
      | nil => cases hl
      | cons ed b2 =>
        cases e
        have hkn := h.kn
        have ge : es[j]? = some ed := by rw [hpb, ← hpbl]; simp
        have gl : ps[j]? = some pl := by rw [hpa, ← hpal]; simp
        have hj := (List.getElem?_eq_some_iff.mp gl).1
        rw [agProg] at hag
        refine eg_tup (ds := [.int (j : Nat), plD pl]) rfl (gs_cons (eg_name (gs_cons (eg_name (gs_nil ?_)))))
        refine sv_turn A ge h.gd (h.pl _ (List.mem_of_getElem? gl)) (h.ed _ (List.mem_of_getElem? ge)) (by omega) h.rt (by omega) named (fun k2 s7 s8 s9 hs hl2 => ?_) (fun r hs => ht _ ⟨r, ?_, rfl⟩)
        · rw [hs] at hag
          exact ⟨j + 1, a2, b2, k2, _, _, _, _, _, _, rfl, by simpa using hl, ⟨pa ++ [pl], by rw [hpa]; simp, by simp [hpal]⟩, ⟨pb ++ [ed], by rw [hpb]; simp, by simp [hpbl]⟩, hag, by omega, rfl⟩
        · rw [hs] at hag
          exact hag.symm
  · obtain ⟨j, a2, b2, k', s4, s5, s6, s7, s8, s9, e, hl, ⟨pa, hpa, hpal⟩, _, hag, hkl, rfl⟩ := hJ
    cases a2 with
    | cons x y => cases e
    | nil =>
      have hj : j = ps.length := by rw [hpa, List.append_nil, hpal]
      refine ⟨oSt d k', rfl, k', ?_, by dsimp only; omega, rfl⟩
      show agProg d root 0 ps es k = _
      rw [← hag]
      simp [agProg]
theorem ok_addp {Pr : Program} {w : World} {K : PySem.W.Frag} {mg : Str → Option Value} {base : Heap} {P C CA CB : Addr} {f : Addr} {fd : FuncData} (F : L2.Fun K "add_program" "Agreement.add_program" s_add f fd) (T : Txt mg) (A : AgrC K CA) (named : PySem.W.exmOne K (.ref C) (.ref C) = some true) (U : UnfitK Pr w K mg base C) (XF : XfC K C)
    (hw : PySem.W.findIn K (.ref C) "what" = some none) (UB : BrK Pr w K mg base CB) (C_said_of : CalR Pr w K mg base 7 "said_of" (pm_said_of.sp K P C)) : FnOk Pr w K mg base (L2.CX Pr w) 8 f fd ["self", "root", "program", "edits"] (spO K P CA CB adArgs adPre adPost adThr) :=
  Fun.objX F sc_add (fun _ => rfl) (by decide) fun cdv A0 outer s H E hr tk => ⟨t_add K P C CB E, d_add T U XF hw UB C_said_of hr tk, fun y a p q o h I0 H0 ht => ev_addp A named y a p q o h I0 H0 ht⟩
end Wf
/-! build_fates. -/
namespace Wf
open PySem L2 L2H HotX
section
variable {K : PySem.W.Frag} {P : Addr} {Γ : Env} {N : Env → Prop} {R : Env → DD → Prop} {B Ct : Env → Prop} {I0 H0 : Hp} {C : Addr}
/-- return f(x.known): the dict stands still from here on -/
theorem sv_retKnown {i : Nat} {x p q : Addr} {o : OSt} {X : Type} {args : X → List DD} {pre : X → Prop} {post : X → DD → Prop} (A : AgrC K C) (h : Γ[i]? = some (oSlot x C p q o)) (y : X) (ha : args y = [.dic o.kn]) (hp : pre y) (hr : ∀ r, post y r → R (Γ.set i .emp) r) :
    EvS K P I0 H0 (tRet (tCall (spT K P args pre post) [] E0 (tCons (tFld K (tVar i) "known") tNil))) Γ N R B Ct := fun I H σ D E _ kr _ _ => by
  obtain ⟨e, ob⟩ := E.env.obj h
  obtain ⟨dx, fs, e1, f⟩ := ob.hx
  obtain ⟨kvs, hp1, r1⟩ := ob.hp
  obtain ⟨_, _, i2, hP⟩ := (E.env.sl i _ h).adr E.env.ok (a := p) (by simp [Slot.adrs])
  have s2 : Same I (upd I p (.dK kvs)) := same_upd i2
  have wf := E.wd.freeze (E.fresh i _ h p (by simp [Slot.adrs])) hp1 i2 hP
  have E2 : EnvS K P I0 H0 (upd I p (.dK kvs)) H σ (Γ.set i .emp) := E.still h wf s2 (fun a ha => upd_ne fun z => ha (by rw [z]; simp [Slot.adrs])) trivial rfl
  refine ⟨_, e, x, C, dx, fs, _, rfl, e1, A.cls, A.known, f.known, ?_⟩
  show spT K P args pre post ([.ref p] ++ []) H _ E0
  refine ⟨upd I p (.dK kvs), y, by rw [ha]; exact .cons ⟨p, kvs, rfl, upd_same, r1.mono s2⟩ .nil, E2.env.ok, hp, fun r v I2 H2 hpost w2 r2 => ?_⟩
  exact kr I2 H2 σ _ v r (hr r hpost) (E2.mono w2) r2
end
/-- a method / a def whose exceptions go outward by L2.CX -/
structure MetX (P : Program) (w : World) (K : PySem.W.Frag) (mg : Str → Option Value) (base : Heap) (k : Nat) (C : Addr) (m : Str) (sp : Sp) : Prop where
  ex : ∃ (f : Addr) (fd : FuncData) (ps : List Str), Cls K C ∧ Meth K C m f ∧ FnOk P w K mg base (L2.CX P w) k f fd ps sp ∧ Binds K fd ps []
structure CalX (P : Program) (w : World) (K : PySem.W.Frag) (mg : Str → Option Value) (base : Heap) (k : Nat) (x : Str) (sp : Sp) : Prop where
  ex : ∃ (f : Addr) (fd : FuncData) (ps : List Str), FnOk P w K mg base (L2.CX P w) k f fd ps sp ∧ mg x = some (.ref f) ∧ PySem.W.keepIn K (.ref f) = true ∧ Binds K fd ps []
end Wf
/-! build_fates: derivation. -/
namespace Wf
open PySem L2 L2H HotX
section
variable {Pr : Program} {w : World} {K : PySem.W.Frag} {mg : Str → Option Value} {base : Heap} {P C : Addr}
/-- a def that may raise, outward by L2.CX -/
theorem Fun.rx {x qual : Str} {st : Stmt} {f : Addr} {fd : FuncData} {N ps : List Str} {k : Nat} {X : Type} {args : X → List DD} {pre : X → Prop} {post : X → DD → Prop} {thr : X → List (Str × V) → Prop} (F : L2.Fun K x qual st f fd) (S : FnScope N ps (defScope st)) (hl : ∀ x, (args x).length = ps.length)
    (hb : ∀ (cdv : Value) (A : Around) (outer : List PySem.Env) (s : Shared) (H : Hp) (E : XK), Room k (A.deeper (PyProof.Rows.envOfC qual (defScope st) s.heap.objs.size f cdv)) → L2.Takes (cxOf (L2.CX Pr w) Pr w K mg base N qual (defScope st) f cdv A outer s H E) (fun cls d _ H => E cls d H) →
      Passes (L2.CX Pr w) (cxOf (L2.CX Pr w) Pr w K mg base N qual (defScope st) f cdv A outer s H E) E →
      ∃ t, PSs (cxOf (L2.CX Pr w) Pr w K mg base N qual (defScope st) f cdv A outer s H E) (defBody st) t ∧ ∀ x, pre x → ∀ I0 H0 : Hp, (∀ fs, thr x fs → Thr P I0 H0 E C fs) → EvS K P I0 H0 t (startE N.length (args x)) (fun _ => post x (.dat .none)) (fun _ => post x) (fun _ => False) (fun _ => False)) :
    FnOk Pr w K mg base (L2.CX Pr w) (k + 1) f fd ps (spR K P C args pre post thr) := by
  refine F.okX S (fun vs H Q E h => ?_) fun cdv A outer s H vs Q E hr hsp => ?_
  · obtain ⟨I, x, r, _⟩ := h
    exact (Paired.length r).trans (hl x)
  · have tk : L2.Takes (cxOf (L2.CX Pr w) Pr w K mg base N qual (defScope st) f cdv A outer s H E) (fun cls d _ H => E cls d H) := L2.takes_of rfl rfl rfl rfl
    obtain ⟨I, x, r, ko, hp, q, ht⟩ := hsp
    obtain ⟨t, hd, hev⟩ := hb cdv A outer s H E hr tk (L2.passes_call tk fun _ _ _ _ h => h)
    refine ⟨t, hd, ?_⟩
    refine hev x hp I H ht I H _ _ (start_ok ko r) (fun I' H' σ' Γ' h' _ E' => ?_) (fun I' H' σ' Γ' v d hd E' r' => q d v I' H' hd E'.wd r') (fun _ _ _ _ z => z.elim) (fun _ _ _ _ z => z.elim)
    exact q _ _ I' H' h' E'.wd Dx.non
end
abbrev s_bf : Stmt := topS 44
abbrev N_bf : List Str := ["document", "roots", "edits", "programs", "agreement", "number", "root", "program"]
theorem sc_bf : FnScope N_bf ["document", "roots", "edits"] (defScope s_bf) := ⟨rfl, rfl, rfl, by decide +kernel, rfl, by decide +kernel, by decide +kernel⟩
abbrev spAdd (K : PySem.W.Frag) (P CA CB : Addr) : Sp := spO K P CA CB adArgs adPre adPost adThr
def t_bf (K : PySem.W.Frag) (P CA CB : Addr) (E : XK) : TS :=
  tSeq (tAsg (tCall (pm_build.sp K P) [] E0 (tCons (tVar 0) (tCons (tVar 1) tNil))) (gName 3)) (tSeq (tAsg (tMake CA (spI K P CA) [] E0 (tCons (tVar 0) tNil)) (gName 4))
    (tSeq (tFor (iEnum K (tCons (tVar 1) tNil)) (gTup K 2 (gCons (gName 5) (gCons (gName 6) gNil))) (tDrop (tMeth CA "add_program" (spAdd K P CA CB) [] E (tVar 4) (tCons (tVar 6) (tCons (tOp (rIxL K) (tVar 3) (tVar 5)) (tCons (tOp (rIxL K) (tVar 2) (tVar 5)) tNil))))))
      (tSeq (tFor (iEnum K (tCons (tVar 3) tNil)) (gTup K 2 (gCons (gName 5) (gCons (gName 7) gNil))) (tIfS (tTest (tOp rGtI (tOp rAddI (tCB (rLen K) (tCons (tVar 7) tNil)) (tCall (pm_growth.sp K P) [] E0 (tCons (tOp (rIxL K) (tVar 2) (tVar 5)) tNil))) (tC (.int 2000)))) tNever tNext))
        (tRet (tCall (pm_fates_of.sp K P) [] E0 (tCons (tFld K (tVar 4) "known") tNil))))))
theorem d_bf {Pr : Program} {w : World} {K : PySem.W.Frag} {mg : Str → Option Value} {base : Heap} {P CA CB f : Addr} {cdv : Value} {A : Around} {outer : List PySem.Env} {s : Shared} {H : Hp} {E : XK} (T : Txt mg) (C_build : C8.Cal Pr w K mg base 5 "build" (pm_build.sp K P) []) (C_growth : C8.Cal Pr w K mg base 1 "growth" (pm_growth.sp K P) []) (C_fates_of : C8.Cal Pr w K mg base 2 "fates_of" (pm_fates_of.sp K P) [])
    (CAm : C8.Mak Pr w K mg base 3 "Agreement" CA (spI K P CA) []) (M : MetX Pr w K mg base 8 CA "add_program" (spAdd K P CA CB)) (hr : Room 8 (A.deeper (PyProof.Rows.envOfC "build_fates" (defScope s_bf) s.heap.objs.size f cdv))) (px : Passes (L2.CX Pr w) (cxOf (L2.CX Pr w) Pr w K mg base N_bf "build_fates" (defScope s_bf) f cdv A outer s H E) E) :
    PSs (cxOf (L2.CX Pr w) Pr w K mg base N_bf "build_fates" (defScope s_bf) f cdv A outer s H E) (defBody s_bf) (t_bf K P CA CB E) := by
  have nd := sc_bf.nd
  obtain ⟨fM, fdM, psM, cl, me, FM, bM⟩ := M.ex
  exact pss_cons (ps_set (i := 3) nd rfl (by first | exact Or.inl rfl | exact Or.inr rfl) (C8.pe_c C_build hr (by decide) rfl (pa_cons (pv 0) (pa_cons (pv 1) pa_nil)))) (pss_cons (ps_set (i := 4) nd rfl (by first | exact Or.inl rfl | exact Or.inr rfl) (C8.pe_mk CAm hr (by decide) rfl (pa_cons (pv 0) pa_nil)))
    (pss_cons (ps_for (L2.passes_of rfl) rfl (pi_enum (by rfl) T.enumerate (pa_cons (pv 1) pa_nil)) (pg_tup rfl (pgs_cons (pg_name (i := 5) nd rfl (by first | exact Or.inl rfl | exact Or.inr rfl)) (pgs_cons (pg_name (i := 6) nd rfl (by first | exact Or.inl rfl | exact Or.inr rfl)) pgs_nil))) (pss_one (ps_expr (pe_meth (pv 4) cl me FM hr bM .nil px (pa_cons (pv 6) (pa_cons (pe_ix ix_list (pv 3) (pv 5) (fun _ _ => rfl)) (pa_cons (pe_ix ix_list (pv 2) (pv 5) (fun _ _ => rfl)) pa_nil)))))))
      (pss_cons (ps_for (L2.passes_of rfl) rfl (pi_enum (by rfl) T.enumerate (pa_cons (pv 3) pa_nil)) (pg_tup rfl (pgs_cons (pg_name (i := 5) nd rfl (by first | exact Or.inl rfl | exact Or.inr rfl)) (pgs_cons (pg_name (i := 7) nd rfl (by first | exact Or.inl rfl | exact Or.inr rfl)) pgs_nil))) (pss_one (ps_if (pt_cmpR op_gt (pe_op op_add (pe_callB (r := rLen K) call_len rfl T.len PySem.boot_len (pa_cons (pv 7) pa_nil)) (C8.pe_c C_growth hr (by decide) rfl (pa_cons (pe_ix ix_list (pv 2) (pv 5) (fun _ _ => rfl)) pa_nil))) (C8.pe_gc rfl T.most) (nomark _)) pss_never pss_nil)))
        (pss_one (ps_ret (C8.pe_c C_fates_of hr (by decide) rfl (pa_cons (pe_fld (pv 4) rfl) pa_nil)))))))
end Wf
/-! build_fates, told of data. -/
namespace Wf
open PySem L2 L2H HotX
structure FfPre (d : List Ln) (roots : List Str) (ess : List (List Ed)) : Prop where
  gd : GD d 300
  small : d.length ≤ 60
  rl : roots.length ≤ 10
  rt : ∀ r ∈ roots, r.length ≤ 100
  okd : ∀ r ∈ roots, OkD d 5 r ∧ lenN d 5 r ≤ 2000
  pl : ∀ r ∈ roots, ∀ p ∈ prog d r, PlOk d p
  le : ∀ r ∈ roots, (prog d r).length ≤ 2000
  len : ess.map List.length = roots.map fun r => (prog d r).length
  ed : ∀ es ∈ ess, ∀ e ∈ es, EdOk e
  gr : ∀ (i : Nat) (r : Str) (es : List Ed), roots[i]? = some r → ess[i]? = some es → ((prog d r).length : Int) + growN es ≤ 2000
abbrev FfX := List Ln × List Str × List (List Ed)
def pm_bf : PmR := ⟨FfX, fun x => [.dat (docD x.1), .dat (.list (x.2.1.map .str)), .dat (.list (x.2.2.map edsD))], fun x => FfPre x.1 x.2.1 x.2.2, fun x r => ∃ k es fs, agAll x.1 x.2.1 (x.2.1.map (prog x.1)) x.2.2 [] = .ok k ∧ Kok x.1 k ∧ FD es (kget fs) ∧ (∀ a, kget fs a = fateAt k (k.map (·.1)) a) ∧ r = .dic es,
  fun x fs => ∃ r, agAll x.1 x.2.1 (x.2.1.map (prog x.1)) x.2.2 [] = .error r ∧ fs = rfFs r⟩
theorem Kok.small {d : List Ln} {k : Known} (h : Kok d k) : k.length ≤ d.length := by
  have := nodup_le (l := k.map (·.1)) (m := List.range d.length) h.nd fun a ha => by
    obtain ⟨f, hf⟩ := kget_of_mem ha
    obtain ⟨t, ht⟩ := h.code a f hf
    exact List.mem_range.mpr (List.getElem?_eq_some_iff.mp ht).1
  simpa using this
abbrev bfE (d : List Ln) (roots : List Str) (ess : List (List Ed)) (pss : List (List PL)) (x CA p q : Addr) (k : Known) (s5 s6 s7 : Slot) : Env := [.imm (.dat (docD d)), .imm (.dat (.list (roots.map .str))), .imm (.dat (.list (ess.map edsD))), .imm (.dat (.list (pss.map progD))), oSlot x CA p q (oSt d k), s5, s6, s7]
theorem ev_bf {K : PySem.W.Frag} {P CA CB : Addr} (E : XK) (A : AgrC K CA) {I0 H0 : Hp} : pm_bf.Ok K P CB E I0 H0 N_bf.length (t_bf K P CA CB E) := fun y h ht => by
  obtain ⟨d, roots, ess⟩ := y
  have h : FfPre d roots ess := h
  have hrl := h.rl
  have hlen : ess.length = roots.length := by
    have := congrArg List.length h.len
    simpa using this
  have thr : ∀ r, agAll d roots (roots.map (prog d)) ess [] = .error r → Thr P I0 H0 E CB (rfFs r) := fun r hr => ht _ ⟨r, hr, rfl⟩
  refine sv_seq (sv_asgE (d := .dat (.list ((roots.map (prog d)).map progD))) (ev_call (X := List Ln × List Str) (d, roots) (ea_cons (ev_var rfl) (ea1 (ev_var rfl))) ⟨h.gd, by dsimp only; omega, h.okd⟩) ?_)
  refine sv_seq (sv_make (ev_var rfl) h.gd fun x p q => ?_)
  refine sv_cut (fun Γ' => ∃ (k : Known) (s5 s6 s7 : Slot), agAll d roots (roots.map (prog d)) ess [] = .ok k ∧ Γ' = bfE d roots ess (roots.map (prog d)) x CA p q k s5 s6 s7)
    (sv_for (ds := enumD 0 (roots.map PyData.str)) (fun rest Γ' => ∃ (i : Nat) (rs : List Str) (es : List (List Ed)) (k : Known) (s5 s6 s7 : Slot), rest = enumD i (rs.map PyData.str) ∧ (∃ pre, roots = pre ++ rs ∧ pre.length = i) ∧ (∃ pre, ess = pre ++ es ∧ pre.length = i) ∧
      agAll d rs (rs.map (prog d)) es k = agAll d roots (roots.map (prog d)) ess [] ∧ k.length ≤ 2000 * i ∧ Γ' = bfE d roots ess (roots.map (prog d)) x CA p q k s5 s6 s7) (ei_enum (ev_var rfl)) ⟨0, roots, ess, [], _, _, _, rfl, ⟨[], rfl, rfl⟩, ⟨[], rfl, rfl⟩, rfl, Nat.le_refl _, rfl⟩ (fun v rest Γ' hI => ?_) (fun Γ' hI => ?_)) fun Γ' hc => ?_
  · obtain ⟨i, rs, es, k, s5, s6, s7, e, ⟨pr, hpr, hprl⟩, ⟨pe, hpe, hpel⟩, hag, hkl, rfl⟩ := hI
    have l1 : roots.length = i + rs.length := by rw [hpr, List.length_append, hprl]
    have l3 : ess.length = i + es.length := by rw [hpe, List.length_append, hpel]
    cases rs with
    | nil => cases e
    | cons root rs =>
      cases es with
      | nil => simp at l1 l3; omega
      | cons ed es =>
        cases e
        have gr : roots[i]? = some root := by rw [hpr, ← hprl]; simp
        have ge : ess[i]? = some ed := by rw [hpe, ← hpel]; simp
        have gp : (roots.map (prog d))[i]? = some (prog d root) := by rw [List.getElem?_map, gr]; rfl
        have mr := List.mem_of_getElem? gr
        have me := List.mem_of_getElem? ge
        have hi10 : i < 10 := by rw [List.length_cons] at l1; omega
        have hl : ed.length = (prog d root).length := by
          have e1 : (ess.map List.length)[i]? = (roots.map fun r => (prog d r).length)[i]? := by rw [h.len]
          rw [List.getElem?_map, List.getElem?_map, ge, gr] at e1
          exact Option.some.inj e1
        have hps := h.le root mr
        rw [List.map_cons, agAll] at hag
        refine eg_tup (ds := [.int (i : Nat), .str root]) rfl (gs_cons (eg_name (gs_cons (eg_name (gs_nil ?_)))))
        refine sv_meth (o := oSt d k) ((d, root, prog d root, ed, k) : AdX) rfl rfl (ea_cons (ev_var rfl) (ea_cons (ev_ixL (c := progD (prog d root)) (ev_var rfl) (ev_var rfl) (atI_of (by rw [List.getElem?_map, gp]; rfl))) (ea1 (ev_ixL (c := edsD ed) (ev_var rfl) (ev_var rfl) (atI_of (by rw [List.getElem?_map, ge]; rfl))))))
          ⟨rfl, ⟨h.gd, h.pl root mr, h.ed ed me, hl, hps, h.rt root mr, by dsimp only; omega⟩⟩ (fun fs hfs => ?_) (fun o' ho' => ?_)
        · obtain ⟨r, hr, rfl⟩ := hfs
          dsimp only at hr
          rw [hr] at hag
          exact thr r hag.symm
        · obtain ⟨k', hk, hk2, rfl⟩ := ho'
          dsimp only at hk hk2
          rw [hk] at hag
          exact ⟨i + 1, rs, es, k', _, _, _, rfl, ⟨pr ++ [root], by rw [hpr]; simp, by simp [hprl]⟩, ⟨pe ++ [ed], by rw [hpe]; simp, by simp [hpel]⟩, hag, by omega, rfl⟩
  · obtain ⟨i, rs, es, k, s5, s6, s7, e, ⟨pr, hpr, hprl⟩, _, hag, hkl, rfl⟩ := hI
    cases rs with
    | cons a b => cases e
    | nil =>
      refine ⟨k, _, _, _, ?_, rfl⟩
      rw [← hag]
      simp [agAll]
  obtain ⟨k, s5, s6, s7, hk, rfl⟩ := hc
  refine sv_cut (fun Γ' => ∃ (s5 s6 s7 : Slot), Γ' = bfE d roots ess (roots.map (prog d)) x CA p q k s5 s6 s7)
    (sv_for (ds := enumD 0 ((roots.map (prog d)).map progD)) (fun rest Γ' => ∃ (i : Nat) (rs : List Str) (s5 s6 s7 : Slot), rest = enumD i ((rs.map (prog d)).map progD) ∧ (∃ pre, roots = pre ++ rs ∧ pre.length = i) ∧ Γ' = bfE d roots ess (roots.map (prog d)) x CA p q k s5 s6 s7) (ei_enum (ev_var rfl)) ⟨0, roots, _, _, _, rfl, ⟨[], rfl, rfl⟩, rfl⟩ (fun v rest Γ' hI => ?_) (fun Γ' hI => ?_)) fun Γ' hc => ?_
  · obtain ⟨i, rs, s5, s6, s7, e, ⟨pr, hpr, hprl⟩, rfl⟩ := hI
    cases rs with
    | nil => cases e
    | cons root rs =>
      cases e
      have gr : roots[i]? = some root := by rw [hpr, ← hprl]; simp
      have hi : i < ess.length := by rw [hlen]; exact (List.getElem?_eq_some_iff.mp gr).1
      have ge : ess[i]? = some ess[i] := by simp [hi]
      have hg := h.gr i root _ gr ge
      refine eg_tup (ds := [.int (i : Nat), progD (prog d root)]) rfl (gs_cons (eg_name (gs_cons (eg_name (gs_nil ?_)))))
      refine sv_if (et_test (ev_gt (i := ((prog d root).length : Int) + growN ess[i]) (j := 2000) (ev_add (ev_callB (ea1 (ev_var rfl)) (rc_lenL.as (by rw [List.length_map]))) (ev_call (X := List Ed) ess[i] (ea1 (ev_ixL (c := edsD ess[i]) (ev_var rfl) (ev_var rfl) (atI_of (by rw [List.getElem?_map, ge]; rfl)))) trivial)) ev_int)) (fun q2 => ?_) (fun q2 => sv_next ?_)
      · exfalso
        have := of_decide_eq_true q2
        omega
      · exact ⟨i + 1, rs, _, _, _, rfl, ⟨pr ++ [root], by rw [hpr]; simp, by simp [hprl]⟩, rfl⟩
  · obtain ⟨i, rs, s5, s6, s7, e, _, rfl⟩ := hI
    exact ⟨s5, s6, s7, rfl⟩
  obtain ⟨s5, s6, s7, rfl⟩ := hc
  have kok : Kok d k := (agAll_ok roots (roots.map (prog d)) ess [] k (fun ps hps p hp => by
    obtain ⟨r, hr, rfl⟩ := List.mem_map.mp hps
    exact (h.pl r hr p hp).ok) ⟨(fun a f z => absurd (show (none : Option KE) = some f from z) (by simp)), (fun a f z => absurd (show (none : Option KE) = some f from z) (by simp)), List.nodup_nil⟩ (by simp) hlen hk).1
  have hs := kok.small
  have hsm := h.small
  refine sv_retKnown (o := oSt d k) A rfl ((d, k) : List Ln × Known) rfl ⟨kok, by dsimp only; omega⟩ fun r hr => ?_
  obtain ⟨es, fs, h1, h2, h3⟩ := hr
  exact ⟨k, es, fs, hk, kok, h1, h2, h3⟩
theorem ok_bf {Pr : Program} {w : World} {K : PySem.W.Frag} {mg : Str → Option Value} {base : Heap} {P CA CB : Addr} {f : Addr} {fd : FuncData} (F : L2.Fun K "build_fates" "build_fates" s_bf f fd) (T : Txt mg) (A : AgrC K CA) (C_build : C8.Cal Pr w K mg base 5 "build" (pm_build.sp K P) []) (C_growth : C8.Cal Pr w K mg base 1 "growth" (pm_growth.sp K P) [])
    (C_fates_of : C8.Cal Pr w K mg base 2 "fates_of" (pm_fates_of.sp K P) []) (CAm : C8.Mak Pr w K mg base 3 "Agreement" CA (spI K P CA) []) (M : MetX Pr w K mg base 8 CA "add_program" (spAdd K P CA CB)) : FnOk Pr w K mg base (L2.CX Pr w) 9 f fd ["document", "roots", "edits"] (pm_bf.sp K P CB) :=
  Fun.rx F sc_bf (fun _ => rfl) fun cdv A0 outer s H E hr tk px => ⟨t_bf K P CA CB E, d_bf T C_build C_growth C_fates_of CAm M hr px, fun y hy I0 H0 ht => ev_bf E A y hy ht⟩
end Wf
/-! What the program's top has left: read. -/
namespace Wf
open PySem PySem.Spec PyProof.Rows L2 He
theorem cellB_ok {K : PySem.W.Frag} {cc C : Addr} (h : cellB K cc C = true) : ∃ cl cld csl, K.lookup cc = some ⟨cl, cld, .cell (some (.ref C)), csl⟩ := by
  unfold cellB at h
  split at h
  · next a b D c e =>
    have h := of_decide_eq_true h
    subst h
    exact ⟨_, _, _, e⟩
  · cases h
theorem fileB_ok {K : PySem.W.Frag} {cda : Addr} {file : Str} (h : fileB K cda file = true) : ∃ ccl cdd vs ccs tf, K.lookup cda = some ⟨ccl, cdd, .fields vs, ccs⟩ ∧ vs[2]? = some (.str file tf) := by
  unfold fileB at h
  split at h
  · next a b vs c e =>
    split at h
    · next x t e2 =>
      have h := of_decide_eq_true h
      subst h
      exact ⟨_, _, _, _, _, e, e2⟩
    · cases h
  · cases h
theorem oexB_ok {K : PySem.W.Frag} {C : Addr} (h : oexB K C = true) : OexC K C := by
  unfold oexB at h
  obtain ⟨h1, h⟩ := ba h
  obtain ⟨h2, h⟩ := ba h
  obtain ⟨h3, h⟩ := ba h
  obtain ⟨h4, h5⟩ := ba h
  refine ⟨?_, eqO_ok h2, of_decide_eq_true h3, of_decide_eq_true h4, h5⟩
  split at h1
  · next t dd cd sl e =>
    split at h1
    · next D bm k0 k1 k2 k3 n k5 hm hs =>
      obtain ⟨g1, h1⟩ := ba h1
      obtain ⟨g2, h1⟩ := ba h1
      obtain ⟨g3, h1⟩ := ba h1
      obtain ⟨g4, h1⟩ := ba h1
      obtain ⟨g5, g6⟩ := ba h1
      have g1 := of_decide_eq_true g1
      have g2 := of_decide_eq_true g2
      have g3 := of_decide_eq_true g3
      obtain ⟨nm, bs, mro, ns, qn, hd, sn, sub, ab, col, del⟩ := cd
      dsimp only at hm g4 g5
      obtain ⟨l⟩ := sl
      dsimp only at hs
      subst hm hs g1 g2 g3 g5
      have g4 : del = false := by simpa using g4
      subst g4
      exact ⟨nm, qn, ns, bs, bm, sn, sub, ab, col, dd, k0, k1, k2, k3, k5, e, g6⟩
    · cases h1
  · cases h1
/-- what stands of such a class -/
structure SupOk (P : Program) (K : PySem.W.Frag) (d : SupD) : Prop where
  xf : XfC K (ga K d.cls)
  ini : PySem.W.findIn K (.ref (ga K d.cls)) "__init__" = some (some (.ref (fAd K d.at_)))
  ty : PySem.W.typeIn K (.ref (fAd K d.at_)) = some (.type "function")
  ex : ∃ oc od osl kV doc pm an ct cda cc file, K.lookup (fAd K d.at_) = some ⟨oc, od, .func (PySem.W.ksFn "__init__" d.qual d.params d.body d.scope .none kV doc pm an (.ref cda) ct cc), osl⟩ ∧ PySem.W.codeIn K (.ref cda) d.qual = true ∧ SupC P K (ga K d.cls) (fAd K d.at_) cda cc file
theorem supB_ok {P : Program} {K : PySem.W.Frag} {d : SupD} (e : fnS K d.at_ = d.val) (h : supB K d P.main.file = true) (top : (P.main.scope.names.lookup ("super" : Str)).isSome = false) (self : ∃ ar, (d.params.posonlyargs ++ d.params.args).head? = some ar ∧ ar.arg = "self") : SupOk P K d := by
  unfold supB at h
  obtain ⟨h1, h⟩ := ba h
  obtain ⟨h2, h⟩ := ba h
  obtain ⟨h3, h⟩ := ba h
  obtain ⟨h4, h⟩ := ba h
  obtain ⟨h5, h⟩ := ba h
  obtain ⟨h6, h⟩ := ba h
  obtain ⟨h7, h⟩ := ba h
  obtain ⟨h8, h⟩ := ba h
  refine ⟨xfB_ok h2, eqO_ok h3, of_decide_eq_true h4, ?_⟩
  unfold supB1 at h
  unfold fnS at e
  cases q : K.lookup (fAd K d.at_) with
  | none =>
    rw [q] at h
    cases h
  | some o =>
    obtain ⟨oc, od, dt, osl⟩ := o
    rw [q] at h e
    cases dt with
    | func fd =>
      obtain ⟨n1, n2, n3, n4, n5, n6, n7, n8, n9, n10, n11, n12, n13, n14, n15⟩ := fd
      dsimp only at h e
      cases n8 with
      | none =>
        cases n7 with
        | nil => cases h
        | cons p r =>
          obtain ⟨n, cc⟩ := p
          cases r with
          | cons x y => cases h
          | nil =>
            cases n13 with
            | ref cda =>
              have h : (decide (n = "__class__") && (cellB K cc (ga K d.cls) && (fileB K cda P.main.file && PySem.W.codeIn K (.ref cda) d.qual))) = true := h
              obtain ⟨g1, h⟩ := ba h
              obtain ⟨g2, h⟩ := ba h
              obtain ⟨g3, g4⟩ := ba h
              have g1 := of_decide_eq_true g1
              have e2 : (some (n1, n2, n3, n4, n5, n6, n15) : FnS) = some (("__init__" : Str), d.qual, d.params, FuncBody.stmts d.body, d.scope, mainGlobals, builtinsNs) := e
              simp only [Option.some.injEq, Prod.mk.injEq] at e2
              obtain ⟨w1, w2, w3, w4, w5, w6, w7⟩ := e2
              subst w1 w2 w3 w4 w5 w6 w7 g1
              obtain ⟨ar, a1, a2⟩ := self
              exact ⟨oc, od, osl, _, _, _, _, _, cda, cc, _, rfl, g4, ⟨oexB_ok h1, ⟨oc, od, _, osl, ar, q, a1, a2⟩, fileB_ok g3, by simp, cellB_ok g2, of_decide_eq_true h5, eqO_ok h6, of_decide_eq_true h7, eqO_ok h8, top⟩⟩
            | _ => cases h
      | _ => cases h
    | _ => cases h
theorem SaysW.sup {fa : List Fa} {fn : List DefD} {su : List SupD} {tf : List Defn} {file : Str} {h : Heap} {K : PySem.W.Frag} (c : SaysW fa fn su tf file h K) (i : Nat) {d : SupD} (e : su[i]? = some d := by rfl) : fnS K d.at_ = d.val ∧ supB K d file = true := by
  have e2 : (su.map fun d => fnS K d.at_)[i]? = (su.map SupD.val)[i]? := by rw [c.sq]
  rw [List.getElem?_map, List.getElem?_map, e] at e2
  exact ⟨Option.some.inj e2, c.sb d (List.mem_of_getElem? e)⟩
/-- a def without defaults -/
theorem fun_of {K : PySem.W.Frag} {x qual : Str} {st : Stmt} {f : Addr} {fd : FuncData} (F : FunD K x qual (defArgs st) (defBody st) (defScope st) [] [] f fd) : L2.Fun K x qual st f fd := by
  obtain ⟨oc, od, dV, kV, doc, pm, an, cdv, ct, osl, rfl, lk, hcd, hD, _⟩ := F.ex
  rcases hD with ⟨_, rfl⟩ | ⟨z, _⟩
  · exact ⟨⟨oc, od, kV, doc, pm, an, cdv, ct, osl, rfl, lk, hcd⟩, F.kp⟩
  · exact absurd rfl z
end Wf
/-! The law: sizes of what the edits make; plain. -/
namespace Wf
open PySem L2
/-- an edit without indentation, small -/
structure SmE (e : Ed) : Prop where
  txt : ∀ t ∈ textsOf e, t.length ≤ 60
  ah : e.ahead.length ≤ 2
  be : e.behind.length ≤ 3
theorem rest_len (t : Str) (i : Nat) : (rest t i).length ≤ t.length := by
  unfold rest
  split
  · exact Nat.zero_le _
  · exact drT_len t i
theorem back_sm {e : Ed} (h : EdOk e) (i : Nat) (own : Str) : SmE (back e i own) := by
  refine ⟨fun t ht => ?_, by unfold back; rw [List.length_map]; exact h.ah, by unfold back; rw [List.length_map]; exact h.be⟩
  unfold textsOf back at ht
  have le : ∀ u, EtOk u → (rest u i).length ≤ 60 := fun u hu => Nat.le_trans (rest_len u i) hu.1
  rcases List.mem_append.mp ht with ht | ht
  · rcases List.mem_append.mp ht with ht | ht
    · obtain ⟨u, hu, rfl⟩ := List.mem_map.mp ht
      exact le u (h.ahead u hu)
    · dsimp only at ht
      unfold backC at ht
      cases c : e.ch with
      | keep => rw [c] at ht; cases ht
      | drop => rw [c] at ht; cases ht
      | text u =>
        rw [c] at ht
        dsimp only at ht
        split at ht
        · cases ht
        · rcases List.mem_singleton.mp ht with rfl
          exact le u (h.text c)
  · obtain ⟨u, hu, rfl⟩ := List.mem_map.mp ht
    exact le u (h.behind u hu)
def KSm (k : Known) : Prop := ∀ a f, kget k a = some f → SmE f.1
theorem agStep_sm {d : List Ln} {root : Str} {n : Nat} {p : PL} {e : Ed} {k k' : Known} (he : EdOk e) (hk : KSm k) (h : agStep d root n p e k = .ok k') : KSm k' := by
  unfold agStep at h
  cases q : said d p e with
  | error w =>
    rw [q] at h
    cases h
  | ok f =>
    rw [q] at h
    dsimp only at h
    cases c : kget k p.line with
    | none =>
      rw [c] at h
      cases h
      intro a g hg
      rw [kget_snoc _ _ _ _ c] at hg
      by_cases z : a = p.line
      · rw [if_pos z] at hg
        cases hg
        rw [(said_ok q).2.1]
        exact back_sm he _ _
      · rw [if_neg z] at hg
        exact hk a g hg
    | some g =>
      rw [c] at h
      dsimp only at h
      split at h
      · cases h
        exact hk
      · cases h
theorem agProg_sm {d : List Ln} {root : Str} : ∀ (ps : List PL) (es : List Ed) (n : Nat) (k k' : Known), (∀ e ∈ es, EdOk e) → KSm k → agProg d root n ps es k = .ok k' → KSm k'
  | [], _, n, k, k', _, hk, h => by
    unfold agProg at h
    cases h
    exact hk
  | p :: ps, [], n, k, k', _, hk, h => by
    unfold agProg at h
    cases h
    exact hk
  | p :: ps, e :: es, n, k, k', he, hk, h => by
    rw [agProg] at h
    cases q : agStep d root n p e k with
    | error r =>
      rw [q] at h
      cases h
    | ok k1 =>
      rw [q] at h
      exact agProg_sm ps es (n + 1) k1 k' (fun x hx => he x (List.mem_cons_of_mem _ hx)) (agStep_sm (he e List.mem_cons_self) hk q) h
theorem agAll_sm {d : List Ln} : ∀ (rs : List Str) (pss : List (List PL)) (ess : List (List Ed)) (k k' : Known), (∀ es ∈ ess, ∀ e ∈ es, EdOk e) → KSm k → agAll d rs pss ess k = .ok k' → KSm k'
  | [], _, _, k, k', _, hk, h => by
    unfold agAll at h
    cases h
    exact hk
  | r :: rs, [], _, k, k', _, hk, h => by
    unfold agAll at h
    cases h
    exact hk
  | r :: rs, p :: ps, [], k, k', _, hk, h => by
    unfold agAll at h
    cases h
    exact hk
  | r :: rs, p :: ps, e :: es, k, k', he, hk, h => by
    rw [agAll] at h
    cases q : agProg d r 0 p e k with
    | error r =>
      rw [q] at h
      cases h
    | ok k1 =>
      rw [q] at h
      exact agAll_sm rs ps es k1 k' (fun x hx => he x (List.mem_cons_of_mem _ hx)) (agProg_sm p e 0 k k1 (he e List.mem_cons_self) hk q) h
theorem ksm_nil : KSm [] := fun a f h => absurd (show (none : Option KE) = some f from h) (by simp)
/-- what stands at a line of the new document -/
theorem lawG_sm {k : Known} (hk : KSm k) {a : Nat} {l : Ln} (hl : LineOk l) : (lawG k a l).length ≤ 6 ∧ ∀ x ∈ lawG k a l, LineOk x := by
  unfold lawG
  cases c : kget k a with
  | none => exact ⟨by simp, fun x hx => by rcases List.mem_singleton.mp hx with rfl; exact hl⟩
  | some f =>
    have h := hk a f c
    have h1 := h.ah
    have h2 := h.be
    dsimp only
    have hc : (chL f.1.ch l).length ≤ 1 := by
      cases f.1.ch <;> simp [chL]
    refine ⟨by rw [List.length_append, List.length_append]; unfold codes; rw [List.length_map, List.length_map]; omega, fun x hx => ?_⟩
    have tx : ∀ t ∈ textsOf f.1, LineOk (.code t) := fun t ht => h.txt t ht
    rcases List.mem_append.mp hx with hx | hx
    · rcases List.mem_append.mp hx with hx | hx
      · obtain ⟨t, ht, rfl⟩ := List.mem_map.mp hx
        exact tx t (by unfold textsOf; simp [ht])
      · cases q : f.1.ch with
        | keep =>
          rw [q] at hx
          rcases List.mem_singleton.mp hx with rfl
          exact hl
        | drop =>
          rw [q] at hx
          cases hx
        | text t =>
          rw [q] at hx
          rcases List.mem_singleton.mp hx with rfl
          exact tx t (by unfold textsOf; rw [q]; simp [Ch.texts])
    · obtain ⟨t, ht, rfl⟩ := List.mem_map.mp hx
      exact tx t (by unfold textsOf; simp [ht])
theorem newG_sm {k : Known} (hk : KSm k) {a : Nat} {l : Ln} (hl : LineOk l) : (newG k a l).length ≤ 6 ∧ ∀ x ∈ newG k a l, LineOk x := by
  unfold newG
  split
  · exact lawG_sm hk hl
  · exact ⟨by simp, fun x hx => by rcases List.mem_singleton.mp hx with rfl; exact hl⟩
theorem ndoc_sm {G : Nat → Ln → List Ln} (hG : ∀ a l, LineOk l → (G a l).length ≤ 6 ∧ ∀ x ∈ G a l, LineOk x) : ∀ (d : List Ln) (i : Nat), (∀ l ∈ d, LineOk l) → (ndoc G i d).length ≤ 6 * d.length ∧ ∀ x ∈ ndoc G i d, LineOk x
  | [], i, _ => ⟨Nat.le_refl _, fun x hx => by cases hx⟩
  | l :: d, i, h => by
    obtain ⟨a1, a2⟩ := hG i l (h l List.mem_cons_self)
    obtain ⟨b1, b2⟩ := ndoc_sm hG d (i + 1) fun x hx => h x (List.mem_cons_of_mem _ hx)
    rw [ndoc]
    refine ⟨by rw [List.length_append, List.length_cons]; omega, fun x hx => ?_⟩
    rcases List.mem_append.mp hx with hx | hx
    · exact a2 x hx
    · exact b2 x hx
theorem new_gd {d : List Ln} {k : Known} (hd : GD d 26) (hk : KSm k) : GD (ndoc (newG k) 0 d) 300 := by
  obtain ⟨h1, h2⟩ := ndoc_sm (G := newG k) (fun a l hl => newG_sm hk hl) d 0 hd.ok
  have := hd.len
  exact ⟨by omega, h2, vd_ndoc (newG_ok k) d false 0 hd.vd⟩
theorem edited_len : ∀ (ts : List Str) (es : List Ed), (∀ e ∈ es, EdOk e) → (editedL ts es).length ≤ 6 * ts.length
  | [], es, _ => by
    unfold editedL
    exact Nat.zero_le _
  | t :: ts, [], _ => by
    unfold editedL
    exact Nat.zero_le _
  | t :: ts, e :: es, h => by
    have ih := edited_len ts es fun x hx => h x (List.mem_cons_of_mem _ hx)
    have he := h e List.mem_cons_self
    have h1 := he.ah
    have h2 := he.be
    have hc : (Ch.onto e.ch t).length ≤ 1 := by
      cases e.ch <;> simp [Ch.onto]
    rw [editedL, ed1, List.length_append, List.length_append, List.length_append, List.length_cons]
    omega
theorem growN_le : ∀ (es : List Ed), (∀ e ∈ es, EdOk e) → growN es ≤ 5 * (es.length : Int)
  | [], _ => by
    unfold growN
    simp
  | e :: es, h => by
    have ih := growN_le es fun x hx => h x (List.mem_cons_of_mem _ hx)
    have he := h e List.mem_cons_self
    have h1 := he.ah
    have h2 := he.be
    rw [growN, grow1, List.length_cons]
    split <;> omega
theorem GD.up {d : List Ln} {m n : Nat} (h : GD d m) (le : m ≤ n) : GD d n := ⟨Nat.le_trans h.len le, h.ok, h.vd⟩
theorem GD.h5 {d : List Ln} {m : Nat} (h : GD d m) : H5 d := fun n hn => by
  unfold hasHead at hn
  obtain ⟨l, hl, e⟩ := List.any_eq_true.mp hn
  have e := of_decide_eq_true e
  subst e
  exact h.ok _ hl
theorem one_len (c : Nat) : (⟨#[c]⟩ : Str).length = 1 := rfl
theorem prog_pl {d : List Ln} {r : Str} : ∀ p ∈ prog d r, PlOk d p := fun p hp => ⟨(prog_ok hp).1, (prog_ok hp).2⟩
/-- all that is to be known of accepted edits -/
structure Acc (d : List Ln) (roots : List Str) (ess : List (List Ed)) (k : Known) : Prop where
  kok : Kok d k
  sm : KSm k
  gd : GD (ndoc (newG k) 0 d) 300
  ok : ∀ n ∈ roots, OkD (ndoc (newG k) 0 d) 5 n ∧ lenN (ndoc (newG k) 0 d) 5 n ≤ 2000
  txt : ∀ (i : Nat) (r : Str) (es : List Ed), roots[i]? = some r → ess[i]? = some es → (prog (ndoc (newG k) 0 d) r).map (·.text) = editedL ((prog d r).map (·.text)) es
theorem kok_nil (d : List Ln) : Kok d [] := ⟨(fun a f z => absurd (show (none : Option KE) = some f from z) (by simp)), (fun a f z => absurd (show (none : Option KE) = some f from z) (by simp)), List.nodup_nil⟩
theorem acc_of {d : List Ln} {roots : List Str} {ess : List (List Ed)} {k : Known} (hd : GD d 26) (hr : ∀ n ∈ roots, OkD d 5 n ∧ lenN d 5 n ≤ 120) (hl : ess.map List.length = roots.map fun r => (prog d r).length) (he : ∀ es ∈ ess, ∀ e ∈ es, EdOk e) (h : agAll d roots (roots.map (prog d)) ess [] = .ok k) : Acc d roots ess k := by
  have hlen : ess.length = roots.length := by
    have := congrArg List.length hl
    simpa using this
  obtain ⟨kok, _, told⟩ := agAll_ok roots (roots.map (prog d)) ess [] k (fun ps hps p hp => by
    obtain ⟨r, _, rfl⟩ := List.mem_map.mp hps
    exact (prog_ok hp).1) (kok_nil d) (by simp) hlen h
  have ksm := agAll_sm roots (roots.map (prog d)) ess [] k he ksm_nil h
  have txt : ∀ (i : Nat) (r : Str) (es : List Ed), roots[i]? = some r → ess[i]? = some es → (prog (ndoc (newG k) 0 d) r).map (·.text) = editedL ((prog d r).map (·.text)) es := fun i r es gr ge => by
    have el : es.length = (prog d r).length := by
      have e1 : (ess.map List.length)[i]? = (roots.map fun r => (prog d r).length)[i]? := by rw [hl]
      rw [List.getElem?_map, List.getElem?_map, ge, gr] at e1
      exact Option.some.inj e1
    rw [prog_new (newG_ok k)]
    refine edited_of (prog d r) es (fun p hp => (prog_ok hp).1) el (told (prog d r, es) ?_)
    have gp : (roots.map (prog d))[i]? = some (prog d r) := by rw [List.getElem?_map, gr]; rfl
    refine List.mem_of_getElem? (i := i) ?_
    rw [List.getElem?_zip_eq_some]
    exact ⟨gp, ge⟩
  refine ⟨kok, ksm, new_gd hd ksm, fun n hn => ⟨OkD_ndoc (newG_ok k) d (hr n hn).1, ?_⟩, txt⟩
  obtain ⟨i, hi, e⟩ := List.getElem_of_mem hn
  have gr : roots[i]? = some n := by rw [List.getElem?_eq_getElem hi, e]
  have ge : ess[i]? = some (ess[i]'(by omega)) := by simp [hlen, hi]
  have t := congrArg List.length (txt i n _ gr ge)
  rw [List.length_map, prog_len] at t
  rw [t]
  refine Nat.le_trans (edited_len _ _ (he _ (List.mem_of_getElem? ge))) ?_
  rw [List.length_map, prog_len]
  have := (hr n hn).2
  omega
theorem fate_sm {d : List Ln} {k : Known} {fs : Fates} (K : Kok d k) (hk : KSm k) (hf : ∀ a, kget fs a = fateAt k (k.map (·.1)) a) : (∀ a f, kget fs a = some f → f.behind.length ≤ 100) ∧ ∀ (a : Nat) l f t, d[a]? = some l → kget fs a = some f → f.ch = .text t → l.isCode = true := by
  have key : ∀ a f, kget fs a = some f → f.behind.length ≤ 3 ∧ ∀ l t, d[a]? = some l → f.ch = .text t → l.isCode = true := fun a f h => by
    rw [hf] at h
    unfold fateAt at h
    cases c : kget k a with
    | some g =>
      rw [c] at h
      dsimp only at h
      split at h
      · cases h
        refine ⟨(hk a g c).be, fun l t hl _ => ?_⟩
        obtain ⟨u, hu⟩ := K.code a g c
        rw [hu] at hl
        cases hl
        rfl
      · cases h
    | none =>
      rw [c] at h
      dsimp only at h
      split at h
      · cases h
        refine ⟨?_, fun l t _ z => by cases z⟩
        show (aheadK k (a + 1)).length ≤ 3
        unfold aheadK
        cases q : kget k (a + 1) with
        | some g => exact Nat.le_trans (hk _ g q).ah (by decide)
        | none => exact Nat.zero_le _
      · cases h
  exact ⟨fun a f h => Nat.le_trans (key a f h).1 (by decide), fun a l f t hl h ht => (key a f h).2 l t hl ht⟩
end Wf
/-! The law. -/
namespace Wf
open PySem L2
/-- the fields of BuildRefused are no names of its class -/
structure BrN (K : PySem.W.Frag) (C : Addr) : Prop where
  f_root : PySem.W.findIn K (.ref C) "root" = some none
  f_at : PySem.W.findIn K (.ref C) "at" = some none
  f_what : PySem.W.findIn K (.ref C) "what" = some none
  f_other_root : PySem.W.findIn K (.ref C) "other_root" = some none
  f_other : PySem.W.findIn K (.ref C) "other" = some none
abbrev s_law : Stmt := topS 74
abbrev N_law : List Str := ["_law_script", "_law_document_here", "_law_table_here", "_law_roots_here", "_law_programs", "_law_edits", "_law_due", "e", "_law_new", "_law_again", "_law_k", "_law_fates", "_law_one", "_law_line_here"]
theorem sc_law : FnScope N_law ["_law_script"] (defScope s_law) := ⟨rfl, rfl, rfl, by decide +kernel, rfl, by decide +kernel, by decide +kernel⟩
def t_law (K : PySem.W.Frag) (P : Addr) (CB : Addr) : TS :=
  (tSeq (tAsg (tCall (pm__law_document.sp K P) [] E0 (tCons (tVar 0) (tCons (tC (.int 3)) (tCons (tOp rAddI (tC (.int 1)) (tOp rModI (tCall (pm__law_cell.sp K P) [] E0 (tCons (tVar 0) (tCons (tC (.int 0)) tNil))) (tC (.int 25)))) (tCons (tOp rGtI (tOp rModI (tCall (pm__law_cell.sp K P) [] E0 (tCons (tVar 0) (tCons (tC (.int 1)) tNil))) (tC (.int 4))) (tC (.int 0))) tNil))))) (gName 1)) (tSeq (tAsg (tCall (pm__law_table.sp K P) [] E0 (tCons (tVar 1) tNil)) (gName 2)) (tSeq (tAsg (tCall (pm__law_roots.sp K P) [] E0 (tCons (tVar 0) (tCons (tVar 1) (tCons (tVar 2) tNil)))) (gName 3)) (tSeq (tIfS (tTest (tOp rEq (tCB (rLen K) (tCons (tVar 3) tNil)) (tC (.int 0)))) (tRet (tC (.bl true))) tNext) (tSeq (tAsg (tCall (pm_build.sp K P) [] E0 (tCons (tVar 1) (tCons (tCB (rListOf K) (tCons (tVar 3) tNil)) tNil))) (gName 4)) (tSeq (tAsg (tCall (pm__law_all_edits.sp K P) [] E0 (tCons (tVar 0) (tCons (tC (.int 30)) (tCons (tVar 1) (tCons (tVar 4) tNil))))) (gName 5)) (tSeq (tAsg (tCall (pm__law_build_due.sp K P) [] E0 (tCons (tVar 1) (tCons (tVar 3) (tCons (tVar 4) (tCons (tVar 5) tNil))))) (gName 6)) (tSeq (fun D σ H => tAsg (tCallS (pm_bf.sp K P CB) (WE (wAs K (.ref CB) 7 (fun a cls d => tRet (tOp (rEqP K) (tVar 6) (tTup (tCons (tXf a cls d CB "root" (tVar 7)) (tCons (tXf a cls d CB "at" (tVar 7)) (tCons (tXf a cls d CB "what" (tVar 7)) (tCons (tXf a cls d CB "other_root" (tVar 7)) (tCons (tXf a cls d CB "other" (tVar 7)) tNil)))))))) (fun _ _ _ _ => False) D)) (tCons (tVar 1) (tCons (tCB (rListOf K) (tCons (tVar 3) tNil)) (tCons (tLc (iList K (tVar 5)) (gName 12) tYes (tCB (rListOf K) (tCons (tVar 12) tNil)) [12]) tNil)))) (gName 11) D σ H) (tSeq (tIfS (tB (tCB (rIsi K) (tCons (tVar 6) (tCons (tC (.ty "tuple")) tNil)))) (tRet (tC (.bl false))) tNext) (tSeq (tAsg (tCall (pm_apply.sp K P) [] E0 (tCons (tVar 1) (tCons (tVar 11) tNil))) (gName 8)) (tSeq (tIfS (tTest (tOp (rNeP K) (tVar 8) (tCall (pm__law_new_document.sp K P) [] E0 (tCons (tVar 1) (tCons (tVar 6) tNil))))) (tRet (tC (.bl false))) tNext) (tSeq (tAsg (tCall (pm_build.sp K P) [] E0 (tCons (tVar 8) (tCons (tCB (rListOf K) (tCons (tVar 3) tNil)) tNil))) (gName 9)) (tSeq (tFor (iRng1 (tCons (tCB (rLen K) (tCons (tVar 3) tNil)) tNil)) (gName 10) (tIfS (tTest (tOp (rNeP K) (tCall (pm_texts_of.sp K P) [] E0 (tCons (tOp (rIxL K) (tVar 9) (tVar 10)) tNil)) (tCall (pm__law_edited.sp K P) [] E0 (tCons (tLc (iList K (tOp (rIxL K) (tVar 4) (tVar 10))) (gName 13) tYes (tOp (rIxT K) (tVar 13) (tC (.int 0))) [13]) (tCons (tOp (rIxL K) (tVar 5) (tVar 10)) tNil))))) (tRet (tC (.bl false))) tNext)) (tRet (tOp rEq (tCB (rLen K) (tCons (tVar 9) tNil)) (tCB (rLen K) (tCons (tVar 3) tNil)))))))))))))))))
section
variable {K : PySem.W.Frag} {P : Addr} {Γ : Env} {N : Env → Prop} {R : Env → DD → Prop} {B Ct : Env → Prop} {I0 H0 : Hp} {CB : Addr} {ta tb te : TE}
theorem ev_isiDic {es : List (Key × PyData)} (ha : EvE K P ta Γ (.dic es)) : EvD K P (tCB (rIsi K) (tCons ta (tCons (tC (.ty "tuple")) tNil))) Γ (.bool false) := fun I H σ E Q q => by
  refine ha I H σ E _ fun x d I1 H1 e w r => ?_
  subst e
  obtain ⟨a, kvs, rfl, h1, _⟩ := r
  exact ⟨.ref a, .ty "tuple", .type "dict", .type "tuple", false, rfl, .ty _, .base (.dK (w.ok.sub _ _ h1)), kit_ty (by decide +kernel), q _ _ I1 H1 rfl w (Dx.bl false)⟩
def tTryL (K : PySem.W.Frag) (P CB : Addr) : TS := fun D σ H => tAsg (tCallS (pm_bf.sp K P CB) (WE (wAs K (.ref CB) 7 (fun a cls d => tRet (tOp (rEqP K) (tVar 6) (tTup (tCons (tXf a cls d CB "root" (tVar 7)) (tCons (tXf a cls d CB "at" (tVar 7)) (tCons (tXf a cls d CB "what" (tVar 7)) (tCons (tXf a cls d CB "other_root" (tVar 7)) (tCons (tXf a cls d CB "other" (tVar 7)) tNil)))))))) (fun _ _ _ _ => False) D)) (tCons (tVar 1) (tCons (tCB (rListOf K) (tCons (tVar 3) tNil)) (tCons (tLc (iList K (tVar 5)) (gName 12) tYes (tCB (rListOf K) (tCons (tVar 12) tNil)) [12]) tNil)))) (gName 11) D σ H
theorem sv_tryL {d : List Ln} {roots : List Str} {ess : List (List Ed)} (h1 : Γ[1]? = some (.imm (.dat (docD d)))) (h3 : Γ[3]? = some (.imm (.dat (.list (roots.map .str))))) (h5 : Γ[5]? = some (.imm (.dat (.list (ess.map edsD))))) (hlen : 12 < Γ.length) (named : PySem.W.exmOne K (.ref CB) (.ref CB) = some true) (pre : FfPre d roots ess) (hle : ess.length ≤ 1000)
    (hN : ∀ k es fs, agAll d roots (roots.map (prog d)) ess [] = .ok k → Kok d k → FD es (kget fs) → (∀ a, kget fs a = fateAt k (k.map (·.1)) a) → N (Γ.set 11 (.imm (.dic es)))) (hR : ∀ r, agAll d roots (roots.map (prog d)) ess [] = .error r → Γ[6]? = some (.imm (.dat (rfD r))) ∧ ∀ Γ', R Γ' (.dat (.bool true))) :
    EvS K P I0 H0 (tTryL K P CB) Γ N R B Ct := fun I H σ D En kN kR _ _ => by
  unfold tTryL tAsg tCallS
  have e3 : EvD K P (tLc (iList K (tVar 5)) (gName 12) tYes (tCB (rListOf K) (tCons (tVar 12) tNil)) [12]) Γ (.list (ess.map edsD)) := by
    refine Ev.is (EvN.ev (en_map (fun x => x) (fun x => Γ.set 12 (.imm (.dat x))) (ei_list (ev_var h5)) (by rw [List.length_map]; omega) (fun _ _ => ew_name) fun x hx => ?_)) (by rw [List.map_id'])
    obtain ⟨es, _, rfl⟩ := List.mem_map.mp hx
    exact ev_callB (ea1 (ev_var (List.getElem?_set_self hlen))) rc_listL
  refine (ea_cons (ev_var h1) (ea_cons (EvN.ev (en_list (ev_var h3))) (ea1 e3))) I H σ En.env _ fun vs ds I1 H1 ee w1 r1 => ?_
  subst ee
  refine ⟨I1, (d, roots, ess), r1, w1.ok, pre, fun r v I2 H2 hpost w2 r2 => ?_, fun fs hfs I2 H2 dd w2 hdd => ?_⟩
  · obtain ⟨k, es, fs, q1, q2, q3, q4, rfl⟩ := hpost
    exact kN I2 H2 _ _ (hN k es fs q1 q2 q3 q4) (w1.ii.trans w2.ii) ((En.mono (w1.trans w2)).set r2)
  · obtain ⟨r, hr, rfl⟩ := hfs
    obtain ⟨g6, hR2⟩ := hR r hr
    refine ⟨true, named, fun _ a ha => ?_, fun z => by cases z⟩
    have E2 := En.mono (w1.trans w2)
    have E3 : EnvS K P I0 H0 I2 H2 (σ.set 7 (some (.ref a))) (Γ.set 7 .emp) := E2.setW (Wd.refl E2.env.ok) trivial fun _ z => nomatch z
    obtain ⟨v6, s6, t6⟩ := E3.env.imm (i := 6) (d := .dat (rfD r)) ((List.getElem?_set_ne (by decide)).trans g6)
    have l7 : 7 < σ.length := by rw [En.env.len]; omega
    have at7 : (σ.set 7 (some (V.ref a)))[7]? = some (some (.ref a)) := List.getElem?_set_self l7
    refine ⟨v6, s6, ?_⟩
    refine ⟨_, at7, rfl, rfl, dd, _, .str r.root, rfl, hdd, rfl, ?_⟩
    refine ⟨_, at7, rfl, rfl, dd, _, .int r.at_, rfl, hdd, rfl, ?_⟩
    refine ⟨_, at7, rfl, rfl, dd, _, .str (whS r.what), rfl, hdd, rfl, ?_⟩
    refine ⟨_, at7, rfl, rfl, dd, _, .str r.oroot, rfl, hdd, rfl, ?_⟩
    refine ⟨_, at7, rfl, rfl, dd, _, .int r.other, rfl, hdd, rfl, ?_⟩
    refine ⟨by rw [sizeLine_eq]; simp, fun p hp => ?_⟩
    have w4 := E2.env.ok.new hp (.tup [.str r.root, .int r.at_, .str (whS r.what), .str r.oroot, .int r.other])
    have nbr : nb (rfD r) = true := by simp [rfD, nb, nbA]
    have eqr : PyData.eqv (rfD r) (rfD r) = true := (nb_eqv _ _ nbr nbr).mpr rfl
    refine rop_eqP (K := K) (P := P) nbr nbr (by simp [rfD, PyData.depth, PyData.depthAll]) _ _ v6 (.ref p) w4.ok (t6.mono w4.ii) (Dx.tup (SqT.of upd_same) (.cons (.str _) (.cons (.int _) (.cons (.str _) (.cons (.str _) (.cons (.int _) .nil)))))) _ fun v I5 H5 w5 r5 => ?_
    rw [eqr] at r5
    exact kR I5 H5 _ _ v _ (hR2 _) (E3.mono (w4.trans w5)) r5
end
end Wf
/-! The law, told of data. -/
namespace Wf
open PySem L2
def pm_law : Pm := ⟨List Int, fun ns => [.scr ns], fun _ => True, fun _ r => r = .dat (.bool true)⟩
abbrev lawE (ns : List Int) (d : List Ln) (tb : List (Key × PyData)) (roots : List Str) (ess : List (List Ed)) (k : Known) (fes : List (Key × PyData)) (s8 s9 s10 : Slot) : Env := [.imm (.scr ns), .imm (.dat (docD d)), .imm (.dic tb), .imm (.dat (.list (roots.map .str))), .imm (.dat (.list ((roots.map (prog d)).map progD))), .imm (.dat (.list (ess.map edsD))), .imm (.dic (lkD k)), .emp, s8, s9, s10, .imm (.dic fes), .emp, .emp]
/-- the end, from the fates on -/
theorem ev_lawEnd {K : PySem.W.Frag} {P CB : Addr} {I0 H0 : Hp} {ns : List Int} {d : List Ln} {tb : List (Key × PyData)} {roots : List Str} {ess : List (List Ed)} {k : Known} {fes : List (Key × PyData)} {fs : Fates} {s8 s9 s10 : Slot} {N B Ct : Env → Prop} (hd : GD d 26) (hrl : roots.length ≤ 5) (hsm : ∀ n ∈ roots, SmallOk d n) (hl : ess.map List.length = roots.map fun r => (prog d r).length) (he : ∀ es ∈ ess, ∀ e ∈ es, EdOk e)
    (A : Acc d roots ess k) (F : FD fes (kget fs)) (hf : ∀ a, kget fs a = fateAt k (k.map (·.1)) a) :
    EvS K P I0 H0 (tSeq (tIfS (tB (tCB (rIsi K) (tCons (tVar 6) (tCons (tC (.ty "tuple")) tNil)))) (tRet (tC (.bl false))) tNext) (tSeq (tAsg (tCall (pm_apply.sp K P) [] E0 (tCons (tVar 1) (tCons (tVar 11) tNil))) (gName 8)) (tSeq (tIfS (tTest (tOp (rNeP K) (tVar 8) (tCall (pm__law_new_document.sp K P) [] E0 (tCons (tVar 1) (tCons (tVar 6) tNil))))) (tRet (tC (.bl false))) tNext) (tSeq (tAsg (tCall (pm_build.sp K P) [] E0 (tCons (tVar 8) (tCons (tCB (rListOf K) (tCons (tVar 3) tNil)) tNil))) (gName 9)) (tSeq (tFor (iRng1 (tCons (tCB (rLen K) (tCons (tVar 3) tNil)) tNil)) (gName 10) (tIfS (tTest (tOp (rNeP K) (tCall (pm_texts_of.sp K P) [] E0 (tCons (tOp (rIxL K) (tVar 9) (tVar 10)) tNil)) (tCall (pm__law_edited.sp K P) [] E0 (tCons (tLc (iList K (tOp (rIxL K) (tVar 4) (tVar 10))) (gName 13) tYes (tOp (rIxT K) (tVar 13) (tC (.int 0))) [13]) (tCons (tOp (rIxL K) (tVar 5) (tVar 10)) tNil))))) (tRet (tC (.bl false))) tNext)) (tRet (tOp rEq (tCB (rLen K) (tCons (tVar 9) tNil)) (tCB (rLen K) (tCons (tVar 3) tNil)))))))))
      (lawE ns d tb roots ess k fes s8 s9 s10) N (fun _ => pm_law.post ns) B Ct := by
  have hlen : ess.length = roots.length := by
    have := congrArg List.length hl
    simpa using this
  have h26 := hd.len
  obtain ⟨f1, f2⟩ := fate_sm A.kok A.sm hf
  refine sv_seq (sv_if (et_B (ev_isiDic (ev_var rfl))) (fun q => by cases q) (fun _ => sv_next ?_))
  refine sv_seq (sv_asgE (d := .dat (docD (ndoc (newG k) 0 d))) (Ev.is (ev_call (X := List Ln × List (Key × PyData) × Fates) (d, fes, fs) (ea_cons (ev_var rfl) (ea1 (ev_var rfl))) ⟨by dsimp only; omega, F, f1, f2⟩) (by rw [apply_new A.kok hf])) ?_)
  refine sv_seq (sv_if (et_test (ev_docNe (e := ndoc (newG k) 0 d) (f := ndoc (newG k) 0 d) (ev_var rfl) (Ev.is (ev_call (X := List Ln × Known) (d, k) (ea_cons (ev_var rfl) (ea1 (ev_var rfl))) ⟨by dsimp only; omega, fun a f h => ⟨Nat.le_trans (A.sm a f h).ah (by decide), Nat.le_trans (A.sm a f h).be (by decide)⟩⟩) (by rw [law_new A.kok])))) (fun q => by simp at q) (fun _ => sv_next ?_))
  refine sv_seq (sv_asgE (d := .dat (.list ((roots.map (prog (ndoc (newG k) 0 d))).map progD))) (ev_call (X := List Ln × List Str) (ndoc (newG k) 0 d, roots) (ea_cons (ev_var rfl) (ea1 (EvN.ev (en_list (ev_var rfl))))) ⟨A.gd, by dsimp only; omega, A.ok⟩) ?_)
  refine sv_cut (fun Γ' => ∃ s10, Γ' = lawE ns d tb roots ess k fes (.imm (.dat (docD (ndoc (newG k) 0 d)))) (.imm (.dat (.list ((roots.map (prog (ndoc (newG k) 0 d))).map progD)))) s10)
    (sv_for (ds := (List.range' 0 roots.length).map fun i => PyData.int (i : Nat)) (fun rest Γ' => ∃ (i m : Nat) (s10 : Slot), rest = ((List.range' i m).map fun i => PyData.int (i : Nat)) ∧ i + m = roots.length ∧ Γ' = lawE ns d tb roots ess k fes (.imm (.dat (docD (ndoc (newG k) 0 d)))) (.imm (.dat (.list ((roots.map (prog (ndoc (newG k) 0 d))).map progD)))) s10) ?_ ⟨0, roots.length, _, rfl, by omega, rfl⟩ (fun x rest Γ' hI => ?_) (fun Γ' hI => ?_)) fun Γ' hc => ?_
  · have := ei_range1 (K := K) (P := P) (Γ := lawE ns d tb roots ess k fes (.imm (.dat (docD (ndoc (newG k) 0 d)))) (.imm (.dat (.list ((roots.map (prog (ndoc (newG k) 0 d))).map progD)))) s10) (te := tCB (rLen K) (tCons (tVar 3) tNil)) (n := (roots.length : Int)) (ev_callB (ea1 (ev_var rfl)) (rc_lenL.as (by simp))) (by omega) (by omega)
    rw [rangeD_eq] at this
    exact this
  · obtain ⟨i, m, s10, e, him, rfl⟩ := hI
    cases m with
    | zero => cases e
    | succ m =>
      rw [rangeD_cons] at e
      cases e
      have hi : i < roots.length := by omega
      have gr : roots[i]? = some roots[i] := by simp [hi]
      have ge : ess[i]? = some (ess[i]'(by omega)) := by simp [hlen, hi]
      generalize roots[i] = r at gr
      generalize ess[i]'(by omega) = es at ge
      have el : es.length = (prog d r).length := by
        have e1 : (ess.map List.length)[i]? = (roots.map fun r => (prog d r).length)[i]? := by rw [hl]
        rw [List.getElem?_map, List.getElem?_map, ge, gr] at e1
        exact Option.some.inj e1
      have mr := List.mem_of_getElem? gr
      have me := List.mem_of_getElem? ge
      have gp : ((roots.map (prog d)).map progD)[i]? = some (progD (prog d r)) := by rw [List.getElem?_map, List.getElem?_map, gr]; rfl
      have gn : ((roots.map (prog (ndoc (newG k) 0 d))).map progD)[i]? = some (progD (prog (ndoc (newG k) 0 d) r)) := by rw [List.getElem?_map, List.getElem?_map, gr]; rfl
      have gs : (ess.map edsD)[i]? = some (edsD es) := by rw [List.getElem?_map, ge]; rfl
      have lp := (hsm r mr).2
      have lq := (A.ok r mr).2
      rw [← prog_len] at lp lq
      have tx := A.txt i r es gr ge
      have t1 : ((prog (ndoc (newG k) 0 d) r).map fun p => PyData.str p.text) = (editedL ((prog d r).map (·.text)) es).map PyData.str := by rw [← tx, List.map_map]; rfl
      let f : PyData → PyData := fun x => match x with
        | .tuple (t :: _) => t
        | _ => .none
      have t2 : ((prog d r).map plD).map f = ((prog d r).map (·.text)).map PyData.str := by
        rw [List.map_map, List.map_map]
        rfl
      refine eg_name (sv_if (et_test (ev_strsNe (e := editedL ((prog d r).map (·.text)) es) (f := editedL ((prog d r).map (·.text)) es) (Ev.is (ev_call (X := List PL) (prog (ndoc (newG k) 0 d) r) (ea1 (ev_ixL (ev_var rfl) (ev_var rfl) (atI_of gn))) (by show _ ≤ 100000; omega)) (by rw [t1])) (ev_call (X := List Str × List Ed) ((prog d r).map (·.text), es) (ea_cons ?_ (ea1 (ev_ixL (ev_var rfl) (ev_var rfl) (atI_of gs)))) ⟨by dsimp only; rw [List.length_map]; omega, by dsimp only; rw [List.length_map]; exact el, fun e hx => (he es me e hx).sz⟩))) (fun q => by simp at q) (fun _ => sv_next ⟨i + 1, m, _, rfl, by omega, rfl⟩))
      refine Ev.is (EvN.ev (en_map f (fun x => (lawE ns d tb roots ess k fes (.imm (.dat (docD (ndoc (newG k) 0 d)))) (.imm (.dat (.list ((roots.map (prog (ndoc (newG k) 0 d))).map progD)))) (.imm (.dat (.int (i : Nat))))).set 13 (.imm (.dat x))) (ei_list (ev_ixL (ev_var rfl) (ev_var rfl) (atI_of gp))) (by rw [List.length_map]; omega) (fun _ _ => ew_name) fun x hx => ?_)) (by rw [t2])
      obtain ⟨p, _, rfl⟩ := List.mem_map.mp hx
      exact ev_pl0 (p := p) (ev_var rfl)
  · obtain ⟨i, m, s10, e, him, rfl⟩ := hI
    exact ⟨s10, rfl⟩
  obtain ⟨s10, rfl⟩ := hc
  refine sv_retE (d := .dat (.bool true)) (EvD.as (ev_eqI (i := (roots.length : Int)) (j := (roots.length : Int)) (ev_callB (ea1 (ev_var rfl)) (rc_lenL.as (by rw [List.length_map, List.length_map]))) (ev_callB (ea1 (ev_var rfl)) (rc_lenL.as (by rw [List.length_map])))) (by rw [decide_eq_true rfl])) rfl
end Wf
/-! The law keeps its promise. -/
namespace Wf
open PySem L2
theorem nil_dict (a : Nat) : kget ([] : Fates) a = none := rfl
theorem ev_law {K : PySem.W.Frag} {P CB : Addr} {I0 H0 : Hp} (named : PySem.W.exmOne K (.ref CB) (.ref CB) = some true) : pm_law.Ok K P I0 H0 N_law.length (t_law K P CB) := fun (ns : List Int) _ => by
  have cell : ∀ (Γ : Env) (i : Int), 0 ≤ i → Γ[0]? = some (.imm (.scr ns)) → Ev K P (tCall (pm__law_cell.sp K P) [] E0 (tCons (tVar 0) (tCons (tC (.int i)) tNil))) Γ (fun r => ∃ v : Int, r = .dat (.int v)) := fun Γ i hi h0 => ev_call (X := List Int × Int) (ns, i) (ea_cons (ev_var h0) (ea1 ev_int)) hi
  refine sv_seq (sv_asg (D := fun r => ∃ d, GD d 26 ∧ r = .dat (docD d)) (ev_callP (ea_consP (D := (· = .scr ns)) (ev_var rfl) (ea_consP (D := (· = .dat (.int 3))) ev_int (ea_consP (D := fun r => ∃ n : Nat, n ≤ 25 ∧ r = .dat (.int n)) ?_ (ea_consP (D := fun r => ∃ b : Bool, r = .dat (.bool b)) ?_ ea_nil)))) fun l hl => ?_) fun r hr => ?_)
  · refine ev_opP (D1 := (· = .dat (.int 1))) (D2 := fun r => ∃ m : Nat, m ≤ 24 ∧ r = .dat (.int m)) ev_int (ev_opP (D1 := fun r => ∃ v : Int, r = .dat (.int v)) (D2 := (· = .dat (.int 25))) (cell _ 0 (by decide) rfl) ev_int fun a b ha hb => ?_) fun a b ha hb => ?_
    · obtain ⟨v, rfl⟩ := ha
      subst hb
      have h1 := Int.emod_nonneg v (b := 25) (by decide)
      have h2 := Int.emod_lt_of_pos v (b := 25) (by decide)
      exact ⟨_, _, _, rfl, rfl, rop_mod (by decide), (v % 25).toNat, by omega, by rw [Int.toNat_of_nonneg h1]⟩
    · subst ha
      obtain ⟨m, hm, rfl⟩ := hb
      exact ⟨_, _, _, rfl, rfl, rop_add, 1 + m, by omega, by rw [Int.natCast_add]; rfl⟩
  · refine ev_opP (D1 := fun r => ∃ v : Int, r = .dat (.int v)) (D2 := (· = .dat (.int 0))) (ev_opP (D1 := fun r => ∃ v : Int, r = .dat (.int v)) (D2 := (· = .dat (.int 4))) (cell _ 1 (by decide) rfl) ev_int fun a b ha hb => ?_) ev_int fun a b ha hb => ?_
    · obtain ⟨v, rfl⟩ := ha
      subst hb
      exact ⟨_, _, _, rfl, rfl, rop_mod (by decide), _, rfl⟩
    · obtain ⟨v, rfl⟩ := ha
      subst hb
      exact ⟨_, _, _, rfl, rfl, rop_gt, _, rfl⟩
  · obtain ⟨x1, l1, rfl, rfl, x2, l2, rfl, rfl, x3, l3, rfl, ⟨n, hn, rfl⟩, x4, l4, rfl, ⟨b, rfl⟩, rfl⟩ := hl
    exact ⟨(ns, 3, n, b), rfl, hn, fun r hr => hr⟩
  obtain ⟨d, hd, rfl⟩ := hr
  have hd3 := hd.up (by decide : 26 ≤ 300)
  have h26 := hd.len
  refine sv_seq (sv_asg (ev_call (X := List Ln) d (ea1 (ev_var rfl)) hd3) fun r hr => ?_)
  obtain ⟨tb, ht, rfl⟩ := hr
  refine sv_seq (sv_asg (ev_call (X := List Int × List Ln × List (Key × PyData)) (ns, d, tb) (ea_cons (ev_var rfl) (ea_cons (ev_var rfl) (ea1 (ev_var rfl)))) ⟨hd3, hd.h5, ht⟩) fun r hr => ?_)
  obtain ⟨roots, hrl, hsm, rfl⟩ := hr
  dsimp only at hsm
  refine sv_seq (sv_if (et_test (ev_eqI (i := (roots.length : Int)) (j := 0) (ev_callB (ea1 (ev_var rfl)) (rc_lenL.as (by rw [List.length_map]))) ev_int)) (fun q => ?_) (fun q => sv_next ?_))
  · exact sv_retE ev_bl rfl
  have hpos : 0 < roots.length := by
    have := of_decide_eq_false q
    omega
  have hok : ∀ n ∈ roots, OkD d 5 n ∧ lenN d 5 n ≤ 2000 := fun n hn => ⟨(hsm n hn).1, by have := (hsm n hn).2; omega⟩
  have hpl : ∀ ps ∈ roots.map (prog d), ∀ p ∈ ps, PlOk d p := fun ps hps p hp => by
    obtain ⟨r, _, rfl⟩ := List.mem_map.mp hps
    exact prog_pl p hp
  have hps : ∀ ps ∈ roots.map (prog d), ps.length ≤ 2000 := fun ps hps => by
    obtain ⟨r, hr, rfl⟩ := List.mem_map.mp hps
    rw [prog_len]
    exact (hok r hr).2
  refine sv_seq (sv_asgE (d := .dat (.list ((roots.map (prog d)).map progD))) (ev_call (X := List Ln × List Str) (d, roots) (ea_cons (ev_var rfl) (ea1 (EvN.ev (en_list (ev_var rfl))))) ⟨hd3, by dsimp only; omega, hok⟩) ?_)
  refine sv_seq (sv_asg (ev_call (X := List Int × Nat × List Ln × List (List PL)) (ns, 30, d, roots.map (prog d)) (ea_cons (ev_var rfl) (ea_cons ev_int (ea_cons (ev_var rfl) (ea1 (ev_var rfl))))) ⟨hd3, hpl, hps, by dsimp only; rw [List.length_map]; exact hpos, by dsimp only; rw [List.length_map]; omega⟩) fun r hr => ?_)
  obtain ⟨ess, hel, hek, rfl⟩ := hr
  have hl : ess.map List.length = roots.map fun r => (prog d r).length := by
    rw [hel, List.map_map]
    rfl
  have hlen : ess.length = roots.length := by
    have := congrArg List.length hl
    simpa using this
  refine sv_seq (sv_asgE (ev_call (X := List Ln × List Str × List (List PL) × List (List Ed)) (d, roots, roots.map (prog d), ess) (ea_cons (ev_var rfl) (ea_cons (ev_var rfl) (ea_cons (ev_var rfl) (ea1 (ev_var rfl))))) ⟨hd3, hpl, hps, by dsimp only; rw [List.length_map], hel, hek, by dsimp only; omega⟩) ?_)
  have pre : FfPre d roots ess := by
    refine ⟨hd3, by omega, by omega, fun r hr => ?_, hok, fun r _ => prog_pl, fun r hr => by rw [prog_len]; exact (hok r hr).2, hl, hek, fun i r es gr ge => ?_⟩
    · obtain ⟨k, _, rfl⟩ := hd.h5 r (hsm r hr).1.1
      rw [one_len]
      decide
    · have el : es.length = (prog d r).length := by
        have e1 : (ess.map List.length)[i]? = (roots.map fun r => (prog d r).length)[i]? := by rw [hl]
        rw [List.getElem?_map, List.getElem?_map, ge, gr] at e1
        exact Option.some.inj e1
      have g := growN_le es (hek es (List.mem_of_getElem? ge))
      have l := (hsm r (List.mem_of_getElem? gr)).2
      rw [← prog_len] at l
      omega
  refine sv_cut (fun Γ' => ∃ k fes fs, Acc d roots ess k ∧ FD fes (kget fs) ∧ (∀ a, kget fs a = fateAt k (k.map (·.1)) a) ∧ Γ' = lawE ns d tb roots ess k fes .emp .emp .emp) (sv_tryL (d := d) (roots := roots) (ess := ess) rfl rfl rfl (by show 12 < 14; decide) named pre (by omega) (fun k es fs q1 _ q3 q4 => ⟨k, es, fs, acc_of hd hsm hl hek q1, q3, q4, ?_⟩) fun r hr => ⟨?_, fun _ => rfl⟩) fun Γ' hc => ?_
  · have e : resD (agAll d roots (roots.map (prog d)) ess []) = .dic (lkD k) := by rw [q1]; rfl
    unfold lawE
    rw [← e]
    rfl
  · show some (Slot.imm (resD (agAll d roots (roots.map (prog d)) ess []))) = _
    rw [hr]
    rfl
  · obtain ⟨k, fes, fs, A, F, hf, rfl⟩ := hc
    exact ev_lawEnd (CB := CB) hd hrl hsm hl hek A F hf
theorem ok_law {Pr : Program} {w : World} {K : PySem.W.Frag} {mg : Str → Option Value} {base : Heap} {P CB : Addr} {f : Addr} {fd : FuncData} (F : L2.Fun K "law" "law" s_law f fd) (T : Txt mg) (XF : XfC K CB) (XN : BrN K CB) (mgB : mg "BuildRefused" = some (.ref CB)) (named : PySem.W.exmOne K (.ref CB) (.ref CB) = some true) (C_bf : CalX Pr w K mg base 9 "build_fates" (pm_bf.sp K P CB))
    (C__law_document : C8.Cal Pr w K mg base 3 "_law_document" (pm__law_document.sp K P) []) (C__law_cell : C8.Cal Pr w K mg base 1 "_law_cell" (pm__law_cell.sp K P) []) (C__law_table : C8.Cal Pr w K mg base 1 "_law_table" (pm__law_table.sp K P) []) (C__law_roots : C8.Cal Pr w K mg base 8 "_law_roots" (pm__law_roots.sp K P) []) (C_build : C8.Cal Pr w K mg base 5 "build" (pm_build.sp K P) [])
    (C__law_all_edits : C8.Cal Pr w K mg base 3 "_law_all_edits" (pm__law_all_edits.sp K P) []) (C__law_build_due : C8.Cal Pr w K mg base 4 "_law_build_due" (pm__law_build_due.sp K P) []) (C_apply : C8.Cal Pr w K mg base 2 "apply" (pm_apply.sp K P) []) (C__law_new_document : C8.Cal Pr w K mg base 1 "_law_new_document" (pm__law_new_document.sp K P) []) (C_texts_of : C8.Cal Pr w K mg base 1 "texts_of" (pm_texts_of.sp K P) []) (C__law_edited : C8.Cal Pr w K mg base 1 "_law_edited" (pm__law_edited.sp K P) []) :
    FnOk Pr w K mg base CX0 10 f fd ["_law_script"] (pm_law.sp K P) := by
  have nd := sc_law.nd
  obtain ⟨fB, fdB, psB, FB, mB, kB, bB⟩ := C_bf.ex
  refine Fun.pure F sc_law (fun _ => rfl) fun cdv A outer s H E hr => ⟨t_law K P CB, ?_, fun x hx _ _ => ev_law named x hx⟩
  exact (pss_cons (ps_set (i := 1) nd rfl (by first | exact Or.inl rfl | exact Or.inr rfl) (C8.pe_c C__law_document hr (by decide) rfl (pa_cons (pv 0) (pa_cons pe_int (pa_cons (pe_op op_add pe_int (pe_op op_mod (C8.pe_c C__law_cell hr (by decide) rfl (pa_cons (pv 0) (pa_cons pe_int pa_nil))) pe_int)) (pa_cons (pe_cmpR op_gt (pe_op op_mod (C8.pe_c C__law_cell hr (by decide) rfl (pa_cons (pv 0) (pa_cons pe_int pa_nil))) pe_int) pe_int (nomark _)) pa_nil)))))) (pss_cons (ps_set (i := 2) nd rfl (by first | exact Or.inl rfl | exact Or.inr rfl) (C8.pe_c C__law_table hr (by decide) rfl (pa_cons (pv 1) pa_nil))) (pss_cons (ps_set (i := 3) nd rfl (by first | exact Or.inl rfl | exact Or.inr rfl) (C8.pe_c C__law_roots hr (by decide) rfl (pa_cons (pv 0) (pa_cons (pv 1) (pa_cons (pv 2) pa_nil))))) (pss_cons (ps_if (pt_cmpR op_eq (pe_callB (r := rLen K) call_len rfl T.len PySem.boot_len (pa_cons (pv 3) pa_nil)) pe_int (nomark _)) (pss_one (ps_ret pe_bl)) pss_nil) (pss_cons (ps_set (i := 4) nd rfl (by first | exact Or.inl rfl | exact Or.inr rfl) (C8.pe_c C_build hr (by decide) rfl (pa_cons (pv 1) (pa_cons (pe_callTy (r := rListOf K) call_list_of rfl T.list PyProof.Rows.boot_list (pa_cons (pv 3) pa_nil)) pa_nil)))) (pss_cons (ps_set (i := 5) nd rfl (by first | exact Or.inl rfl | exact Or.inr rfl) (C8.pe_c C__law_all_edits hr (by decide) rfl (pa_cons (pv 0) (pa_cons pe_int (pa_cons (pv 1) (pa_cons (pv 4) pa_nil)))))) (pss_cons (ps_set (i := 6) nd rfl (by first | exact Or.inl rfl | exact Or.inr rfl) (C8.pe_c C__law_build_due hr (by decide) rfl (pa_cons (pv 1) (pa_cons (pv 3) (pa_cons (pv 4) (pa_cons (pv 5) pa_nil)))))) (pss_cons (L2.ps_try_as (X := (cxOf CX0 Pr w K mg base N_law "law" (defScope s_law) f cdv A outer s H E).nox) (x := "BuildRefused") (n := "e") (i := 7) (c := .ref CB) (Wout := fun _ _ _ _ => False) rfl rfl nd rfl rfl ⟨by exact rfl, by decide, .inl mgB⟩ takes0 (fun W pn xe tkW po => pss_one (ps_set (i := 11) nd rfl (by first | exact Or.inl rfl | exact Or.inr rfl) (pe_callS (x := "build_fates") FB (hr.mono (by decide)) (by exact rfl) mB kB bB (fun σ => L2.passAt tkW σ) (pa_cons (pv 1) (pa_cons (pe_callTy (r := rListOf K) call_list_of (by exact rfl) T.list PyProof.Rows.boot_list (pa_cons (pv 3) pa_nil)) (pa_cons (pe_lc (own := [("_law_one", 12)]) (g := (gName 12)) (tt := tYes) rfl nd (pi_list (pv 5)) (blkOk_by (N := N_law) (sc := defScope s_law) (by decide +kernel)) (fun _ _ _ _ _ => (pg_name (i := 12) nd rfl (by first | exact Or.inl rfl | exact Or.inr rfl))) (fun _ _ _ _ _ => pts_nil) (fun _ _ _ _ _ => (pe_callTy (r := rListOf K) call_list_of (by exact rfl) T.list PyProof.Rows.boot_list (pa_cons (pv 12) pa_nil)))) pa_nil)))))) (fun a oe cls d pn hz hf => pss_one (ps_ret (pe_cmpR (op_eqP hr.units) (pv 6) (pe_tup (pa_cons (pe_xf XF XN.f_root hz hf (pv 7)) (pa_cons (pe_xf XF XN.f_at hz hf (pv 7)) (pa_cons (pe_xf XF XN.f_what hz hf (pv 7)) (pa_cons (pe_xf XF XN.f_other_root hz hf (pv 7)) (pa_cons (pe_xf XF XN.f_other hz hf (pv 7)) pa_nil)))))) (nomark _))))) (pss_cons (ps_if (pt_val (pe_callB (r := rIsi K) call_isi rfl T.isinstance (by rfl) (pa_cons (pv 6) (pa_cons (pe_bltn (v := .ty "tuple") rfl T.tuple PyProof.Rows.boot_tuple rfl) pa_nil)))) (pss_one (ps_ret pe_bl)) pss_nil) (pss_cons (ps_set (i := 8) nd rfl (by first | exact Or.inl rfl | exact Or.inr rfl) (C8.pe_c C_apply hr (by decide) rfl (pa_cons (pv 1) (pa_cons (pv 11) pa_nil)))) (pss_cons (ps_if (pt_cmpR (op_neP hr.units) (pv 8) (C8.pe_c C__law_new_document hr (by decide) rfl (pa_cons (pv 1) (pa_cons (pv 6) pa_nil))) (nomark _)) (pss_one (ps_ret pe_bl)) pss_nil) (pss_cons (ps_set (i := 9) nd rfl (by first | exact Or.inl rfl | exact Or.inr rfl) (C8.pe_c C_build hr (by decide) rfl (pa_cons (pv 8) (pa_cons (pe_callTy (r := rListOf K) call_list_of rfl T.list PyProof.Rows.boot_list (pa_cons (pv 3) pa_nil)) pa_nil)))) (pss_cons (ps_for PassesOwn.never rfl (pi_range1 (by rfl) T.range (pa_cons (pe_callB (r := rLen K) call_len rfl T.len PySem.boot_len (pa_cons (pv 3) pa_nil)) pa_nil)) (pg_name (i := 10) nd rfl (by first | exact Or.inl rfl | exact Or.inr rfl)) (pss_one (ps_if (pt_cmpR (op_neP hr.units) (C8.pe_c C_texts_of hr (by decide) rfl (pa_cons (pe_ix ix_list (pv 9) (pv 10) (fun _ _ => rfl)) pa_nil)) (C8.pe_c C__law_edited hr (by decide) rfl (pa_cons (pe_lc (own := [("_law_line_here", 13)]) (g := (gName 13)) (tt := tYes) rfl nd (pi_list (pe_ix ix_list (pv 4) (pv 10) (fun _ _ => rfl))) (blkOk_by (N := N_law) (sc := defScope s_law) (by decide +kernel)) (fun _ _ _ _ _ => (pg_name (i := 13) nd rfl (by first | exact Or.inl rfl | exact Or.inr rfl))) (fun _ _ _ _ _ => pts_nil) (fun _ _ _ _ _ => (pe_ix ix_tup (pv 13) pe_int (fun _ _ => rfl)))) (pa_cons (pe_ix ix_list (pv 5) (pv 10) (fun _ _ => rfl)) pa_nil))) (nomark _)) (pss_one (ps_ret pe_bl)) pss_nil))) (pss_one (ps_ret (pe_cmpR op_eq (pe_callB (r := rLen K) call_len rfl T.len PySem.boot_len (pa_cons (pv 9) pa_nil)) (pe_callB (r := rLen K) call_len rfl T.len PySem.boot_len (pa_cons (pv 3) pa_nil)) (nomark _)))))))))))))))))
end Wf
set_option maxHeartbeats 0
/-! The end. -/
namespace Wf
open PySem PySem.Spec PyProof.Rows L2 He
/-- the law's promise from the head's heap -/
theorem law_sp {K : PySem.W.Frag} {P a : Addr} {ns : List Int} {H : Hp} (hP : H P = some (.tbl #[])) (hS : SqL K H a (ns.map V.int)) : pm_law.sp K P [.ref a] H (fun v _ => v = .bl true) fun _ _ _ => False := by
  have hI : SqL K (fun b => if b = P then none else H b) a (ns.map V.int) := by
    have go : ∀ o, H a = some o → (∀ ps, o ≠ .tbl ps) → (fun b => if b = P then none else H b) a = some o := fun o e n => by
      have ne : a ≠ P := fun z => by
        rw [z, hP] at e
        exact n _ (Option.some.inj e).symm
      exact (if_neg ne).trans e
    rcases hS with (e | ⟨o, e⟩) | k
    · exact .inl (.inl (go _ e fun _ z => by cases z))
    · exact .inl (.inr ⟨o, go _ e fun _ z => by cases z⟩)
    · exact .inr k
  refine ⟨fun b => if b = P then none else H b, ns, .cons ⟨a, rfl, hI⟩ .nil, ⟨fun b o e => ?_, if_pos rfl, ⟨#[], hP, trivial⟩⟩, trivial, fun r v I' H' hr _ hv => ?_⟩
  · by_cases c : b = P
    · rw [if_pos c] at e
      cases e
    · rw [if_neg c] at e
      exact e
  · rw [show r = .dat (.bool true) from hr] at hv
    cases hv
    rfl
theorem code_of {K : PySem.W.Frag} {x qual : Str} {params : Arguments} {body : List Stmt} {scope : Scope} {fd : FuncData} {p : He.Defn} (D : FunD K x qual params body scope [] [] (fAd K p) fd) : fd.code = .ref (codeOf K p) := by
  obtain ⟨oc, od, dV, kV, doc, pm, an, cdv, ct, osl, rfl, lk, hcd, _⟩ := D.ex
  obtain ⟨z, rfl⟩ := codeIn_ref hcd
  rw [codeOf_eq lk rfl]
abbrev LL : PySem.W.OpenLaw := PySem.Challenge.rw_weft_k72_whole_builds_come_back
abbrev PP : Program := LL.prog
/-- a def and its name -/
structure DefOk (K : PySem.W.Frag) (mg : Str → Option Value) (x : Str) (st : Stmt) (ps : List Str) : Prop where
  ex : ∃ fd, L2.Fun K x x st (ga K x) fd ∧ mg x = some (.ref (ga K x)) ∧ Binds K fd ps []
structure Names (K : PySem.W.Frag) (mg : Str → Option Value) : Prop where
  d_is_touched : DefOk K mg "is_touched" s_is_touched ["edit"]
  d_is_name_sign : DefOk K mg "is_name_sign" s_is_name_sign ["sign"]
  d_use_of : DefOk K mg "use_of" s_use_of ["text"]
  d_is_code : DefOk K mg "is_code" s_is_code ["text"]
  d_sections : DefOk K mg "sections" s_sections ["document"]
  d_table_of : DefOk K mg "table_of" s_table_of ["document"]
  d_closure : DefOk K mg "closure" s_closure ["document", "root"]
  d_first_lines : DefOk K mg "first_lines" s_first_lines ["document"]
  d_lengths_of : DefOk K mg "lengths_of" s_lengths_of ["document", "order"]
  d_shown : DefOk K mg "shown" s_shown ["indent", "text"]
  d_tangle : DefOk K mg "tangle" s_tangle ["document", "root"]
  d_indent_of : DefOk K mg "indent_of" s_indent_of ["document", "path"]
  d_texts_of : DefOk K mg "texts_of" s_texts_of ["lines"]
  d_without_indent : DefOk K mg "without_indent" s_without_indent ["at", "text", "indent"]
  d_code_edit : DefOk K mg "code_edit" s_code_edit ["at", "edit", "indent"]
  d_plain_change : DefOk K mg "plain_change" s_plain_change ["edit", "text"]
  d_growth : DefOk K mg "growth" s_growth ["edits"]
  d_fates_of : DefOk K mg "fates_of" s_fates_of ["known"]
  d_said_of : DefOk K mg "said_of" s_said_of ["document", "firsts", "at", "line", "edit"]
  d_put_lines : DefOk K mg "put_lines" s_put_lines ["line", "texts"]
  d_apply : DefOk K mg "apply" s_apply ["document", "fates"]
  d_build : DefOk K mg "build" s_build ["document", "roots"]
  d_build_fates : DefOk K mg "build_fates" s_bf ["document", "roots", "edits"]
  d__law_cell : DefOk K mg "_law_cell" s__law_cell ["_law_script", "_law_k"]
  d__law_draws : DefOk K mg "_law_draws" s__law_draws ["_law_cell_here", "_law_count"]
  d__law_big : DefOk K mg "_law_big" s__law_big ["_law_cell_here"]
  d__law_text : DefOk K mg "_law_text" s__law_text ["_law_draw"]
  d__law_line : DefOk K mg "_law_line" s__law_line ["_law_draws_here", "_law_current", "_law_calm"]
  d__law_document : DefOk K mg "_law_document" s__law_document ["_law_script", "_law_at", "_law_count", "_law_calm"]
  d__law_table : DefOk K mg "_law_table" s__law_table ["_law_document_here"]
  d__law_walk : DefOk K mg "_law_walk" s__law_walk ["_law_document_here", "_law_table_here", "_law_name", "_law_path", "_law_order"]
  d__law_length : DefOk K mg "_law_length" s__law_length ["_law_document_here", "_law_table_here", "_law_name", "_law_known"]
  d__law_is_small : DefOk K mg "_law_is_small" s__law_is_small ["_law_document_here", "_law_table_here", "_law_root"]
  d__law_put : DefOk K mg "_law_put" s__law_put ["_law_indent_here", "_law_text_here"]
  d__law_new_text : DefOk K mg "_law_new_text" s__law_new_text ["_law_draw"]
  d__law_fate : DefOk K mg "_law_fate" s__law_fate ["_law_cell_here", "_law_is_first_here"]
  d__law_edit : DefOk K mg "_law_edit" s__law_edit ["_law_fate_here", "_law_indent_here"]
  d__law_is_first : DefOk K mg "_law_is_first" s__law_is_first ["_law_document_here", "_law_line_here"]
  d__law_indent : DefOk K mg "_law_indent" s__law_indent ["_law_document_here", "_law_path"]
  d__law_broken : DefOk K mg "_law_broken" s__law_broken ["_law_edit_here", "_law_draw", "_law_indent_here"]
  d__law_is_name : DefOk K mg "_law_is_name" s__law_is_name ["_law_name"]
  d__law_is_reference : DefOk K mg "_law_is_reference" s__law_is_reference ["_law_text_here"]
  d__law_fault : DefOk K mg "_law_fault" s__law_fault ["_law_text_here", "_law_indent_here"]
  d__law_rest : DefOk K mg "_law_rest" s__law_rest ["_law_text_here", "_law_indent_here"]
  d__law_texts : DefOk K mg "_law_texts" s__law_texts ["_law_edit_here"]
  d__law_back : DefOk K mg "_law_back" s__law_back ["_law_edit_here", "_law_indent_here", "_law_own"]
  d__law_edited : DefOk K mg "_law_edited" s__law_edited ["_law_texts_here", "_law_edits"]
  d__law_new_document : DefOk K mg "_law_new_document" s__law_new_document ["_law_document_here", "_law_known"]
  d__law_all_edits : DefOk K mg "_law_all_edits" s__law_all_edits ["_law_script", "_law_start", "_law_document_here", "_law_programs"]
  d__law_build_due : DefOk K mg "_law_build_due" s__law_build_due ["_law_document_here", "_law_roots_here", "_law_programs", "_law_edits"]
  d__law_roots : DefOk K mg "_law_roots" s__law_roots ["_law_script", "_law_document_here", "_law_table_here"]
theorem names_ok {K : PySem.W.Frag} {mg : Str → Option Value} {h : Heap} (KX : K.In h) (G : h.Ns mainGlobals mg) (c : SaysW fa fn su tf RR.prog.main.file h K) : Names K mg := by
  constructor
  · obtain ⟨fd, D⟩ := c.d.def_ 0 (d := dd_is_touched) rfl
    have F : L2.Fun K "is_touched" "is_touched" s_is_touched (ga K "is_touched") fd := fun_of D
    exact ⟨fd, F, glo_ok KX G (c.d.fact 0 rfl), F.binds fun _ _ _ _ _ _ us hl => match us, hl with | [_], _ => rfl⟩
  · obtain ⟨fd, D⟩ := c.d.def_ 1 (d := dd_is_name_sign) rfl
    have F : L2.Fun K "is_name_sign" "is_name_sign" s_is_name_sign (ga K "is_name_sign") fd := fun_of D
    exact ⟨fd, F, glo_ok KX G (c.d.fact 1 rfl), F.binds fun _ _ _ _ _ _ us hl => match us, hl with | [_], _ => rfl⟩
  · obtain ⟨fd, D⟩ := c.d.def_ 3 (d := dd_use_of) rfl
    have F : L2.Fun K "use_of" "use_of" s_use_of (ga K "use_of") fd := fun_of D
    exact ⟨fd, F, glo_ok KX G (c.d.fact 3 rfl), F.binds fun _ _ _ _ _ _ us hl => match us, hl with | [_], _ => rfl⟩
  · obtain ⟨fd, D⟩ := c.d.def_ 4 (d := dd_is_code) rfl
    have F : L2.Fun K "is_code" "is_code" s_is_code (ga K "is_code") fd := fun_of D
    exact ⟨fd, F, glo_ok KX G (c.d.fact 4 rfl), F.binds fun _ _ _ _ _ _ us hl => match us, hl with | [_], _ => rfl⟩
  · obtain ⟨fd, D⟩ := c.d.def_ 5 (d := dd_sections) rfl
    have F : L2.Fun K "sections" "sections" s_sections (ga K "sections") fd := fun_of D
    exact ⟨fd, F, glo_ok KX G (c.d.fact 5 rfl), F.binds fun _ _ _ _ _ _ us hl => match us, hl with | [_], _ => rfl⟩
  · obtain ⟨fd, D⟩ := c.d.def_ 6 (d := dd_table_of) rfl
    have F : L2.Fun K "table_of" "table_of" s_table_of (ga K "table_of") fd := fun_of D
    exact ⟨fd, F, glo_ok KX G (c.d.fact 6 rfl), F.binds fun _ _ _ _ _ _ us hl => match us, hl with | [_], _ => rfl⟩
  · obtain ⟨fd, D⟩ := c.d.def_ 7 (d := dd_closure) rfl
    have F : L2.Fun K "closure" "closure" s_closure (ga K "closure") fd := fun_of D
    exact ⟨fd, F, glo_ok KX G (c.d.fact 7 rfl), F.binds fun _ _ _ _ _ _ us hl => match us, hl with | [_, _], _ => rfl⟩
  · obtain ⟨fd, D⟩ := c.d.def_ 8 (d := dd_first_lines) rfl
    have F : L2.Fun K "first_lines" "first_lines" s_first_lines (ga K "first_lines") fd := fun_of D
    exact ⟨fd, F, glo_ok KX G (c.d.fact 8 rfl), F.binds fun _ _ _ _ _ _ us hl => match us, hl with | [_], _ => rfl⟩
  · obtain ⟨fd, D⟩ := c.d.def_ 9 (d := dd_lengths_of) rfl
    have F : L2.Fun K "lengths_of" "lengths_of" s_lengths_of (ga K "lengths_of") fd := fun_of D
    exact ⟨fd, F, glo_ok KX G (c.d.fact 9 rfl), F.binds fun _ _ _ _ _ _ us hl => match us, hl with | [_, _], _ => rfl⟩
  · obtain ⟨fd, D⟩ := c.d.def_ 10 (d := dd_shown) rfl
    have F : L2.Fun K "shown" "shown" s_shown (ga K "shown") fd := fun_of D
    exact ⟨fd, F, glo_ok KX G (c.d.fact 10 rfl), F.binds fun _ _ _ _ _ _ us hl => match us, hl with | [_, _], _ => rfl⟩
  · obtain ⟨fd, D⟩ := c.d.def_ 11 (d := dd_tangle) rfl
    have F : L2.Fun K "tangle" "tangle" s_tangle (ga K "tangle") fd := fun_of D
    exact ⟨fd, F, glo_ok KX G (c.d.fact 11 rfl), F.binds fun _ _ _ _ _ _ us hl => match us, hl with | [_, _], _ => rfl⟩
  · obtain ⟨fd, D⟩ := c.d.def_ 12 (d := dd_indent_of) rfl
    have F : L2.Fun K "indent_of" "indent_of" s_indent_of (ga K "indent_of") fd := fun_of D
    exact ⟨fd, F, glo_ok KX G (c.d.fact 12 rfl), F.binds fun _ _ _ _ _ _ us hl => match us, hl with | [_, _], _ => rfl⟩
  · obtain ⟨fd, D⟩ := c.d.def_ 13 (d := dd_texts_of) rfl
    have F : L2.Fun K "texts_of" "texts_of" s_texts_of (ga K "texts_of") fd := fun_of D
    exact ⟨fd, F, glo_ok KX G (c.d.fact 13 rfl), F.binds fun _ _ _ _ _ _ us hl => match us, hl with | [_], _ => rfl⟩
  · obtain ⟨fd, D⟩ := c.d.def_ 14 (d := dd_without_indent) rfl
    have F : L2.Fun K "without_indent" "without_indent" s_without_indent (ga K "without_indent") fd := fun_of D
    exact ⟨fd, F, glo_ok KX G (c.d.fact 14 rfl), F.binds fun _ _ _ _ _ _ us hl => match us, hl with | [_, _, _], _ => rfl⟩
  · obtain ⟨fd, D⟩ := c.d.def_ 15 (d := dd_code_edit) rfl
    have F : L2.Fun K "code_edit" "code_edit" s_code_edit (ga K "code_edit") fd := fun_of D
    exact ⟨fd, F, glo_ok KX G (c.d.fact 15 rfl), F.binds fun _ _ _ _ _ _ us hl => match us, hl with | [_, _, _], _ => rfl⟩
  · obtain ⟨fd, D⟩ := c.d.def_ 16 (d := dd_plain_change) rfl
    have F : L2.Fun K "plain_change" "plain_change" s_plain_change (ga K "plain_change") fd := fun_of D
    exact ⟨fd, F, glo_ok KX G (c.d.fact 16 rfl), F.binds fun _ _ _ _ _ _ us hl => match us, hl with | [_, _], _ => rfl⟩
  · obtain ⟨fd, D⟩ := c.d.def_ 17 (d := dd_growth) rfl
    have F : L2.Fun K "growth" "growth" s_growth (ga K "growth") fd := fun_of D
    exact ⟨fd, F, glo_ok KX G (c.d.fact 17 rfl), F.binds fun _ _ _ _ _ _ us hl => match us, hl with | [_], _ => rfl⟩
  · obtain ⟨fd, D⟩ := c.d.def_ 18 (d := dd_fates_of) rfl
    have F : L2.Fun K "fates_of" "fates_of" s_fates_of (ga K "fates_of") fd := fun_of D
    exact ⟨fd, F, glo_ok KX G (c.d.fact 18 rfl), F.binds fun _ _ _ _ _ _ us hl => match us, hl with | [_], _ => rfl⟩
  · obtain ⟨fd, D⟩ := c.d.def_ 19 (d := dd_said_of) rfl
    have F : L2.Fun K "said_of" "said_of" s_said_of (ga K "said_of") fd := fun_of D
    exact ⟨fd, F, glo_ok KX G (c.d.fact 19 rfl), F.binds fun _ _ _ _ _ _ us hl => match us, hl with | [_, _, _, _, _], _ => rfl⟩
  · obtain ⟨fd, D⟩ := c.d.def_ 20 (d := dd_put_lines) rfl
    have F : L2.Fun K "put_lines" "put_lines" s_put_lines (ga K "put_lines") fd := fun_of D
    exact ⟨fd, F, glo_ok KX G (c.d.fact 20 rfl), F.binds fun _ _ _ _ _ _ us hl => match us, hl with | [_, _], _ => rfl⟩
  · obtain ⟨fd, D⟩ := c.d.def_ 21 (d := dd_apply) rfl
    have F : L2.Fun K "apply" "apply" s_apply (ga K "apply") fd := fun_of D
    exact ⟨fd, F, glo_ok KX G (c.d.fact 21 rfl), F.binds fun _ _ _ _ _ _ us hl => match us, hl with | [_, _], _ => rfl⟩
  · obtain ⟨fd, D⟩ := c.d.def_ 22 (d := dd_build) rfl
    have F : L2.Fun K "build" "build" s_build (ga K "build") fd := fun_of D
    exact ⟨fd, F, glo_ok KX G (c.d.fact 22 rfl), F.binds fun _ _ _ _ _ _ us hl => match us, hl with | [_, _], _ => rfl⟩
  · obtain ⟨fd, D⟩ := c.d.def_ 23 (d := dd_build_fates) rfl
    have F : L2.Fun K "build_fates" "build_fates" s_bf (ga K "build_fates") fd := fun_of D
    exact ⟨fd, F, glo_ok KX G (c.d.fact 23 rfl), F.binds fun _ _ _ _ _ _ us hl => match us, hl with | [_, _, _], _ => rfl⟩
  · obtain ⟨fd, D⟩ := c.d.def_ 24 (d := dd__law_cell) rfl
    have F : L2.Fun K "_law_cell" "_law_cell" s__law_cell (ga K "_law_cell") fd := fun_of D
    exact ⟨fd, F, glo_ok KX G (c.d.fact 24 rfl), F.binds fun _ _ _ _ _ _ us hl => match us, hl with | [_, _], _ => rfl⟩
  · obtain ⟨fd, D⟩ := c.d.def_ 25 (d := dd__law_draws) rfl
    have F : L2.Fun K "_law_draws" "_law_draws" s__law_draws (ga K "_law_draws") fd := fun_of D
    exact ⟨fd, F, glo_ok KX G (c.d.fact 25 rfl), F.binds fun _ _ _ _ _ _ us hl => match us, hl with | [_, _], _ => rfl⟩
  · obtain ⟨fd, D⟩ := c.d.def_ 26 (d := dd__law_big) rfl
    have F : L2.Fun K "_law_big" "_law_big" s__law_big (ga K "_law_big") fd := fun_of D
    exact ⟨fd, F, glo_ok KX G (c.d.fact 26 rfl), F.binds fun _ _ _ _ _ _ us hl => match us, hl with | [_], _ => rfl⟩
  · obtain ⟨fd, D⟩ := c.d.def_ 27 (d := dd__law_text) rfl
    have F : L2.Fun K "_law_text" "_law_text" s__law_text (ga K "_law_text") fd := fun_of D
    exact ⟨fd, F, glo_ok KX G (c.d.fact 27 rfl), F.binds fun _ _ _ _ _ _ us hl => match us, hl with | [_], _ => rfl⟩
  · obtain ⟨fd, D⟩ := c.d.def_ 28 (d := dd__law_line) rfl
    have F : L2.Fun K "_law_line" "_law_line" s__law_line (ga K "_law_line") fd := fun_of D
    exact ⟨fd, F, glo_ok KX G (c.d.fact 28 rfl), F.binds fun _ _ _ _ _ _ us hl => match us, hl with | [_, _, _], _ => rfl⟩
  · obtain ⟨fd, D⟩ := c.d.def_ 29 (d := dd__law_document) rfl
    have F : L2.Fun K "_law_document" "_law_document" s__law_document (ga K "_law_document") fd := fun_of D
    exact ⟨fd, F, glo_ok KX G (c.d.fact 29 rfl), F.binds fun _ _ _ _ _ _ us hl => match us, hl with | [_, _, _, _], _ => rfl⟩
  · obtain ⟨fd, D⟩ := c.d.def_ 30 (d := dd__law_table) rfl
    have F : L2.Fun K "_law_table" "_law_table" s__law_table (ga K "_law_table") fd := fun_of D
    exact ⟨fd, F, glo_ok KX G (c.d.fact 30 rfl), F.binds fun _ _ _ _ _ _ us hl => match us, hl with | [_], _ => rfl⟩
  · obtain ⟨fd, D⟩ := c.d.def_ 31 (d := dd__law_walk) rfl
    have F : L2.Fun K "_law_walk" "_law_walk" s__law_walk (ga K "_law_walk") fd := fun_of D
    exact ⟨fd, F, glo_ok KX G (c.d.fact 31 rfl), F.binds fun _ _ _ _ _ _ us hl => match us, hl with | [_, _, _, _, _], _ => rfl⟩
  · obtain ⟨fd, D⟩ := c.d.def_ 32 (d := dd__law_length) rfl
    have F : L2.Fun K "_law_length" "_law_length" s__law_length (ga K "_law_length") fd := fun_of D
    exact ⟨fd, F, glo_ok KX G (c.d.fact 32 rfl), F.binds fun _ _ _ _ _ _ us hl => match us, hl with | [_, _, _, _], _ => rfl⟩
  · obtain ⟨fd, D⟩ := c.d.def_ 33 (d := dd__law_is_small) rfl
    have F : L2.Fun K "_law_is_small" "_law_is_small" s__law_is_small (ga K "_law_is_small") fd := fun_of D
    exact ⟨fd, F, glo_ok KX G (c.d.fact 33 rfl), F.binds fun _ _ _ _ _ _ us hl => match us, hl with | [_, _, _], _ => rfl⟩
  · obtain ⟨fd, D⟩ := c.d.def_ 34 (d := dd__law_put) rfl
    have F : L2.Fun K "_law_put" "_law_put" s__law_put (ga K "_law_put") fd := fun_of D
    exact ⟨fd, F, glo_ok KX G (c.d.fact 34 rfl), F.binds fun _ _ _ _ _ _ us hl => match us, hl with | [_, _], _ => rfl⟩
  · obtain ⟨fd, D⟩ := c.d.def_ 35 (d := dd__law_new_text) rfl
    have F : L2.Fun K "_law_new_text" "_law_new_text" s__law_new_text (ga K "_law_new_text") fd := fun_of D
    exact ⟨fd, F, glo_ok KX G (c.d.fact 35 rfl), F.binds fun _ _ _ _ _ _ us hl => match us, hl with | [_], _ => rfl⟩
  · obtain ⟨fd, D⟩ := c.d.def_ 36 (d := dd__law_fate) rfl
    have F : L2.Fun K "_law_fate" "_law_fate" s__law_fate (ga K "_law_fate") fd := fun_of D
    exact ⟨fd, F, glo_ok KX G (c.d.fact 36 rfl), F.binds fun _ _ _ _ _ _ us hl => match us, hl with | [_, _], _ => rfl⟩
  · obtain ⟨fd, D⟩ := c.d.def_ 37 (d := dd__law_edit) rfl
    have F : L2.Fun K "_law_edit" "_law_edit" s__law_edit (ga K "_law_edit") fd := fun_of D
    exact ⟨fd, F, glo_ok KX G (c.d.fact 37 rfl), F.binds fun _ _ _ _ _ _ us hl => match us, hl with | [_, _], _ => rfl⟩
  · obtain ⟨fd, D⟩ := c.d.def_ 38 (d := dd__law_is_first) rfl
    have F : L2.Fun K "_law_is_first" "_law_is_first" s__law_is_first (ga K "_law_is_first") fd := fun_of D
    exact ⟨fd, F, glo_ok KX G (c.d.fact 38 rfl), F.binds fun _ _ _ _ _ _ us hl => match us, hl with | [_, _], _ => rfl⟩
  · obtain ⟨fd, D⟩ := c.d.def_ 39 (d := dd__law_indent) rfl
    have F : L2.Fun K "_law_indent" "_law_indent" s__law_indent (ga K "_law_indent") fd := fun_of D
    exact ⟨fd, F, glo_ok KX G (c.d.fact 39 rfl), F.binds fun _ _ _ _ _ _ us hl => match us, hl with | [_, _], _ => rfl⟩
  · obtain ⟨fd, D⟩ := c.d.def_ 40 (d := dd__law_broken) rfl
    have F : L2.Fun K "_law_broken" "_law_broken" s__law_broken (ga K "_law_broken") fd := fun_of D
    exact ⟨fd, F, glo_ok KX G (c.d.fact 40 rfl), F.binds fun _ _ _ _ _ _ us hl => match us, hl with | [_, _, _], _ => rfl⟩
  · obtain ⟨fd, D⟩ := c.d.def_ 41 (d := dd__law_is_name) rfl
    have F : L2.Fun K "_law_is_name" "_law_is_name" s__law_is_name (ga K "_law_is_name") fd := fun_of D
    exact ⟨fd, F, glo_ok KX G (c.d.fact 41 rfl), F.binds fun _ _ _ _ _ _ us hl => match us, hl with | [_], _ => rfl⟩
  · obtain ⟨fd, D⟩ := c.d.def_ 42 (d := dd__law_is_reference) rfl
    have F : L2.Fun K "_law_is_reference" "_law_is_reference" s__law_is_reference (ga K "_law_is_reference") fd := fun_of D
    exact ⟨fd, F, glo_ok KX G (c.d.fact 42 rfl), F.binds fun _ _ _ _ _ _ us hl => match us, hl with | [_], _ => rfl⟩
  · obtain ⟨fd, D⟩ := c.d.def_ 43 (d := dd__law_fault) rfl
    have F : L2.Fun K "_law_fault" "_law_fault" s__law_fault (ga K "_law_fault") fd := fun_of D
    exact ⟨fd, F, glo_ok KX G (c.d.fact 43 rfl), F.binds fun _ _ _ _ _ _ us hl => match us, hl with | [_, _], _ => rfl⟩
  · obtain ⟨fd, D⟩ := c.d.def_ 44 (d := dd__law_rest) rfl
    have F : L2.Fun K "_law_rest" "_law_rest" s__law_rest (ga K "_law_rest") fd := fun_of D
    exact ⟨fd, F, glo_ok KX G (c.d.fact 44 rfl), F.binds fun _ _ _ _ _ _ us hl => match us, hl with | [_, _], _ => rfl⟩
  · obtain ⟨fd, D⟩ := c.d.def_ 45 (d := dd__law_texts) rfl
    have F : L2.Fun K "_law_texts" "_law_texts" s__law_texts (ga K "_law_texts") fd := fun_of D
    exact ⟨fd, F, glo_ok KX G (c.d.fact 45 rfl), F.binds fun _ _ _ _ _ _ us hl => match us, hl with | [_], _ => rfl⟩
  · obtain ⟨fd, D⟩ := c.d.def_ 46 (d := dd__law_back) rfl
    have F : L2.Fun K "_law_back" "_law_back" s__law_back (ga K "_law_back") fd := fun_of D
    exact ⟨fd, F, glo_ok KX G (c.d.fact 46 rfl), F.binds fun _ _ _ _ _ _ us hl => match us, hl with | [_, _, _], _ => rfl⟩
  · obtain ⟨fd, D⟩ := c.d.def_ 47 (d := dd__law_edited) rfl
    have F : L2.Fun K "_law_edited" "_law_edited" s__law_edited (ga K "_law_edited") fd := fun_of D
    exact ⟨fd, F, glo_ok KX G (c.d.fact 47 rfl), F.binds fun _ _ _ _ _ _ us hl => match us, hl with | [_, _], _ => rfl⟩
  · obtain ⟨fd, D⟩ := c.d.def_ 48 (d := dd__law_new_document) rfl
    have F : L2.Fun K "_law_new_document" "_law_new_document" s__law_new_document (ga K "_law_new_document") fd := fun_of D
    exact ⟨fd, F, glo_ok KX G (c.d.fact 48 rfl), F.binds fun _ _ _ _ _ _ us hl => match us, hl with | [_, _], _ => rfl⟩
  · obtain ⟨fd, D⟩ := c.d.def_ 49 (d := dd__law_all_edits) rfl
    have F : L2.Fun K "_law_all_edits" "_law_all_edits" s__law_all_edits (ga K "_law_all_edits") fd := fun_of D
    exact ⟨fd, F, glo_ok KX G (c.d.fact 49 rfl), F.binds fun _ _ _ _ _ _ us hl => match us, hl with | [_, _, _, _], _ => rfl⟩
  · obtain ⟨fd, D⟩ := c.d.def_ 50 (d := dd__law_build_due) rfl
    have F : L2.Fun K "_law_build_due" "_law_build_due" s__law_build_due (ga K "_law_build_due") fd := fun_of D
    exact ⟨fd, F, glo_ok KX G (c.d.fact 50 rfl), F.binds fun _ _ _ _ _ _ us hl => match us, hl with | [_, _, _, _], _ => rfl⟩
  · obtain ⟨fd, D⟩ := c.d.def_ 51 (d := dd__law_roots) rfl
    have F : L2.Fun K "_law_roots" "_law_roots" s__law_roots (ga K "_law_roots") fd := fun_of D
    exact ⟨fd, F, glo_ok KX G (c.d.fact 51 rfl), F.binds fun _ _ _ _ _ _ us hl => match us, hl with | [_, _, _], _ => rfl⟩
theorem law_at {w : World} {K : PySem.W.Frag} {mg : Str → Option Value} {fz : Addr} {h : Heap} (KX : K.In h) (G : h.Ns mainGlobals mg) (c : SaysW fa fn su tf RR.prog.main.file h K) (hfz : mg "law" = some (.ref fz)) : LamX.LawAtS LL w K CX0 10 63 "_law_script" mg fz h := by
  have N := names_ok KX G c
  have e := hfz.symm.trans (glo_ok KX G (c.d.fact 52 rfl))
  cases e
  have T : Txt mg := by
    obtain ⟨t1, e1⟩ := int_ok KX G (c.d.fact 69 rfl)
    obtain ⟨t2, e2⟩ := int_ok KX G (c.d.fact 70 rfl)
    obtain ⟨t3, e3⟩ := str_ok KX G (c.d.fact 71 rfl)
    exact ⟨free_ok KX G (c.d.fact 57 rfl), free_ok KX G (c.d.fact 58 rfl), free_ok KX G (c.d.fact 59 rfl), free_ok KX G (c.d.fact 60 rfl), free_ok KX G (c.d.fact 61 rfl), free_ok KX G (c.d.fact 62 rfl), free_ok KX G (c.d.fact 63 rfl), free_ok KX G (c.d.fact 64 rfl), free_ok KX G (c.d.fact 65 rfl), free_ok KX G (c.d.fact 66 rfl), free_ok KX G (c.d.fact 67 rfl), ⟨_, e1, t1, rfl⟩, ⟨_, e2, t2, rfl⟩, ⟨_, e3, t3, rfl⟩⟩
  have hKp : KeepAt mg K (ga K "KEEP") := ⟨fun I => tupB_ok c.keep I, _, glo_ok KX G (c.d.fact 56 rfl), rfl⟩
  have mS : mg "super" = none := free_ok KX G (c.d.fact 68 rfl)
  have SU : SupOk PP K sd_U := supB_ok (c.sup 0).1 (c.sup 0).2 rfl ⟨_, rfl, rfl⟩
  have gU : mg "Unfit" = some (.ref (ga K "Unfit")) := glo_ok KX G (c.d.fact 53 rfl)
  have nU : PySem.W.exmOne K (.ref (ga K "Unfit")) (.ref (ga K "Unfit")) = some true := exm_ok (c.d.fact 86 rfl)
  have SB : SupOk PP K sd_B := supB_ok (c.sup 1).1 (c.sup 1).2 rfl ⟨_, rfl, rfl⟩
  have gB : mg "BuildRefused" = some (.ref (ga K "BuildRefused")) := glo_ok KX G (c.d.fact 54 rfl)
  have nB : PySem.W.exmOne K (.ref (ga K "BuildRefused")) (.ref (ga K "BuildRefused")) = some true := exm_ok (c.d.fact 87 rfl)
  have A : AgrC K (ga K "Agreement") := ⟨cls_ok (c.d.fact 72 rfl), (noat_ok (c.d.fact 75 rfl)), (noat_ok (c.d.fact 76 rfl)), (noat_ok (c.d.fact 77 rfl)), (noat_ok (c.d.fact 78 rfl))⟩
  have XN : BrN K (ga K "BuildRefused") := ⟨(noat_ok (c.d.fact 81 rfl)), (noat_ok (c.d.fact 82 rfl)), (noat_ok (c.d.fact 83 rfl)), (noat_ok (c.d.fact 84 rfl)), (noat_ok (c.d.fact 85 rfl))⟩
  have nfU : NoF K (ga K "Unfit") ["at", "what"] := fun f hf => by
    rcases List.mem_cons.mp hf with rfl | hf
    · exact (noat_ok (c.d.fact 79 rfl))
    · rcases List.mem_singleton.mp hf with rfl
      exact (noat_ok (c.d.fact 80 rfl))
  have nfB : NoF K (ga K "BuildRefused") ["root", "at", "what", "other_root", "other"] := fun f hf => by
    simp only [List.mem_cons, List.not_mem_nil, or_false] at hf
    rcases hf with rfl | rfl | rfl | rfl | rfl
    · exact XN.f_root
    · exact XN.f_at
    · exact XN.f_what
    · exact XN.f_other_root
    · exact XN.f_other
  obtain ⟨fdL, DL⟩ := c.d.def_ 52 (d := dd_law) rfl
  have FL : L2.Fun K "law" "law" s_law (ga K "law") fdL := fun_of DL
  obtain ⟨fdI, DI⟩ := c.d.def_ 2 (d := dd_is_name) rfl
  have FI : L2.Fun K "is_name" "is_name" s_is_name (ga K "is_name") fdI := fun_of DI
  obtain ⟨fdA, DA⟩ := c.d.def_ 53 (d := dd_ainit) rfl
  have FA : L2.Fun K "__init__" "Agreement.__init__" s_ainit (He.ma K (ga K "Agreement") "__init__") fdA := fun_of DA
  obtain ⟨fdM, DM⟩ := c.d.def_ 54 (d := dd_addp) rfl
  have FM : L2.Fun K "add_program" "Agreement.add_program" s_add (He.ma K (ga K "Agreement") "add_program") fdM := fun_of DM
  refine ⟨fdL, [cT K ("is_name", none)], pm_law.sp K (cT K ("is_name", none)).2, fun p hp => ?_, fun p hp => ?_, fun p hp => ?_, fun s u => FunD.bindsA (ps := ["_law_script"]) DL (fun _ _ _ _ _ _ us hl => match us, hl with | [_], _ => rfl) s [u] rfl, fun H a ns hl _ hH hS => law_sp (hH _ (List.mem_singleton.mpr rfl)) hS, fun base hK hG hT => ?_⟩
  · rcases List.mem_singleton.mp hp with rfl
    exact c.empty ("is_name", none) (List.mem_singleton.mpr rfl)
  · rcases List.mem_singleton.mp hp with rfl
    exact c.out ("is_name", none) (List.mem_singleton.mpr rfl)
  · rcases List.mem_singleton.mp hp with rfl
    exact PySem.W.codeHd_of_K KX (c.hd ("is_name", none) (List.mem_singleton.mpr rfl))
  have TBz := hT _ (List.mem_singleton.mpr rfl)
  have TB : GxR.TabB base mg (cT K ("is_name", none)).1 (cT K ("is_name", none)).2 := ⟨TBz.code, TBz.bm, TBz.gP⟩
  clear TBz
  generalize hP : (cT K ("is_name", none)).2 = P at TB ⊢
  obtain ⟨oc, od, osl, kV, doc, pm, an, ct, cda, cc, file, lkU, cdU, SCU⟩ := SU.ex
  have U : UnfitK PP w K mg base (ga K "Unfit") := ⟨SCU.ox, gU, _, _, SU.ini, SU.ty, fn_sup (k := 0) SCU supT_U mS lkU cdU (fun vs H Q E h => lenU h) (supB_U SCU nfU), .all fun us hl => match us, hl with | [_, _, _], _ => rfl⟩
  obtain ⟨oc2, od2, osl2, kV2, doc2, pm2, an2, ct2, cda2, cc2, file2, lkB, cdB, SCB⟩ := SB.ex
  have UB : BrK PP w K mg base (ga K "BuildRefused") := ⟨SCB.ox, gB, _, _, SB.ini, SB.ty, fn_sup (k := 0) SCB supT_B mS lkB cdB (fun vs H Q E h => lenB h) (supB_B SCB nfB), fn_supH (k := 0) SCB supT_B mS lkB cdB (fun vs H Q E h => lenB h) (supB_B SCB nfB), .all fun us hl => match us, hl with | [_, _, _, _, _, _], _ => rfl⟩
  obtain ⟨fd_shown, F_shown, g_shown, B_shown⟩ := N.d_shown.ex
  have C_shown : C8.Cal PP w K mg base 1 "shown" (pm_shown.sp K P) [] := ⟨⟨_, _, _, [], ok_shown F_shown T, g_shown, F_shown.kp, B_shown, .nil⟩⟩
  obtain ⟨fd_sections, F_sections, g_sections, B_sections⟩ := N.d_sections.ex
  have C_sections : C8.Cal PP w K mg base 1 "sections" (pm_sections.sp K P) [] := ⟨⟨_, _, _, [], ok_sections F_sections T, g_sections, F_sections.kp, B_sections, .nil⟩⟩
  obtain ⟨fd_table_of, F_table_of, g_table_of, B_table_of⟩ := N.d_table_of.ex
  have C_table_of : C8.Cal PP w K mg base 2 "table_of" (pm_table_of.sp K P) [] := ⟨⟨_, _, _, [], ok_table_of F_table_of T C_sections, g_table_of, F_table_of.kp, B_table_of, .nil⟩⟩
  obtain ⟨fd_lengths_of, F_lengths_of, g_lengths_of, B_lengths_of⟩ := N.d_lengths_of.ex
  have C_lengths_of : C8.Cal PP w K mg base 3 "lengths_of" (pm_lengths_of.sp K P) [] := ⟨⟨_, _, _, [], ok_lengths_of F_lengths_of T C_table_of, g_lengths_of, F_lengths_of.kp, B_lengths_of, .nil⟩⟩
  obtain ⟨fd_closure, F_closure, g_closure, B_closure⟩ := N.d_closure.ex
  have C_closure : C8.Cal PP w K mg base 3 "closure" (pm_closure.sp K P) [] := ⟨⟨_, _, _, [], ok_closure F_closure T C_table_of, g_closure, F_closure.kp, B_closure, .nil⟩⟩
  obtain ⟨fd_tangle, F_tangle, g_tangle, B_tangle⟩ := N.d_tangle.ex
  have C_tangle : C8.Cal PP w K mg base 4 "tangle" (pm_tangle.sp K P) [] := ⟨⟨_, _, _, [], ok_tangle F_tangle T C_shown C_table_of C_lengths_of C_closure, g_tangle, F_tangle.kp, B_tangle, .nil⟩⟩
  obtain ⟨fd_build, F_build, g_build, B_build⟩ := N.d_build.ex
  have C_build : C8.Cal PP w K mg base 5 "build" (pm_build.sp K P) [] := ⟨⟨_, _, _, [], ok_build F_build T C_tangle, g_build, F_build.kp, B_build, .nil⟩⟩
  obtain ⟨fd_growth, F_growth, g_growth, B_growth⟩ := N.d_growth.ex
  have C_growth : C8.Cal PP w K mg base 1 "growth" (pm_growth.sp K P) [] := ⟨⟨_, _, _, [], ok_growth F_growth T, g_growth, F_growth.kp, B_growth, .nil⟩⟩
  obtain ⟨fd_is_touched, F_is_touched, g_is_touched, B_is_touched⟩ := N.d_is_touched.ex
  have C_is_touched : C8.Cal PP w K mg base 1 "is_touched" (pm_is_touched.sp K P) [] := ⟨⟨_, _, _, [], ok_is_touched F_is_touched T hKp, g_is_touched, F_is_touched.kp, B_is_touched, .nil⟩⟩
  obtain ⟨fd_fates_of, F_fates_of, g_fates_of, B_fates_of⟩ := N.d_fates_of.ex
  have C_fates_of : C8.Cal PP w K mg base 2 "fates_of" (pm_fates_of.sp K P) [] := ⟨⟨_, _, _, [], ok_fates_of F_fates_of T hKp C_is_touched, g_fates_of, F_fates_of.kp, B_fates_of, .nil⟩⟩
  obtain ⟨fd_first_lines, F_first_lines, g_first_lines, B_first_lines⟩ := N.d_first_lines.ex
  have C_first_lines : C8.Cal PP w K mg base 2 "first_lines" (pm_first_lines.sp K P) [] := ⟨⟨_, _, _, [], ok_first_lines F_first_lines T C_sections, g_first_lines, F_first_lines.kp, B_first_lines, .nil⟩⟩
  obtain ⟨fd_plain_change, F_plain_change, g_plain_change, B_plain_change⟩ := N.d_plain_change.ex
  have C_plain_change : C8.Cal PP w K mg base 1 "plain_change" (pm_plain_change.sp K P) [] := ⟨⟨_, _, _, [], ok_plain_change F_plain_change T hKp, g_plain_change, F_plain_change.kp, B_plain_change, .nil⟩⟩
  obtain ⟨fd_is_name_sign, F_is_name_sign, g_is_name_sign, B_is_name_sign⟩ := N.d_is_name_sign.ex
  have C_is_name_sign : C8.Cal PP w K mg base 1 "is_name_sign" (pm_is_name_sign.sp K P) [] := ⟨⟨_, _, _, [], ok_is_name_sign F_is_name_sign T, g_is_name_sign, F_is_name_sign.kp, B_is_name_sign, .nil⟩⟩
  have C_is_name : C8.Cal PP w K mg base 2 "is_name" (pm_is_name.sp K P) [] := ⟨⟨_, _, _, [], ok_is_name FI (code_of DI) T TB F_is_name_sign g_is_name_sign, glo_ok KX G (c.d.fact 2 rfl), FI.kp, FI.binds fun _ _ _ _ _ _ us hl => match us, hl with | [_], _ => rfl, .nil⟩⟩
  obtain ⟨fd_use_of, F_use_of, g_use_of, B_use_of⟩ := N.d_use_of.ex
  have C_use_of : C8.Cal PP w K mg base 3 "use_of" (pm_use_of.sp K P) [] := ⟨⟨_, _, _, [], ok_use_of F_use_of T C_is_name, g_use_of, F_use_of.kp, B_use_of, .nil⟩⟩
  obtain ⟨fd_is_code, F_is_code, g_is_code, B_is_code⟩ := N.d_is_code.ex
  have C_is_code : C8.Cal PP w K mg base 4 "is_code" (pm_is_code.sp K P) [] := ⟨⟨_, _, _, [], ok_is_code F_is_code T C_use_of, g_is_code, F_is_code.kp, B_is_code, .nil⟩⟩
  obtain ⟨fd_without_indent, F_without_indent, g_without_indent, B_without_indent⟩ := N.d_without_indent.ex
  have C_without_indent : CalR PP w K mg base 5 "without_indent" (pm_without_indent.sp K P (ga K "Unfit")) := ⟨⟨_, _, _, ok_without_indent F_without_indent T U C_is_code, g_without_indent, F_without_indent.kp, B_without_indent⟩⟩
  obtain ⟨fd_code_edit, F_code_edit, g_code_edit, B_code_edit⟩ := N.d_code_edit.ex
  have C_code_edit : CalR PP w K mg base 6 "code_edit" (pm_code_edit.sp K P (ga K "Unfit")) := ⟨⟨_, _, _, ok_code_edit F_code_edit T C_without_indent, g_code_edit, F_code_edit.kp, B_code_edit⟩⟩
  obtain ⟨fd_indent_of, F_indent_of, g_indent_of, B_indent_of⟩ := N.d_indent_of.ex
  have C_indent_of : C8.Cal PP w K mg base 1 "indent_of" (pm_indent_of.sp K P) [] := ⟨⟨_, _, _, [], ok_indent_of F_indent_of T, g_indent_of, F_indent_of.kp, B_indent_of, .nil⟩⟩
  obtain ⟨fd_said_of, F_said_of, g_said_of, B_said_of⟩ := N.d_said_of.ex
  have C_said_of : CalR PP w K mg base 7 "said_of" (pm_said_of.sp K P (ga K "Unfit")) := ⟨⟨_, _, _, ok_said_of F_said_of T U C_plain_change C_code_edit C_indent_of, g_said_of, F_said_of.kp, B_said_of⟩⟩
  have CAm : C8.Mak PP w K mg base 3 "Agreement" (ga K "Agreement") (spI K P (ga K "Agreement")) [] := ⟨⟨_, _, _, [], mkr_ok (c.d.fact 73 rfl), ok_ainit FA A C_first_lines, glo_ok KX G (c.d.fact 55 rfl), FA.binds fun _ _ _ _ _ _ us hl => match us, hl with | [_, _], _ => rfl, .nil⟩⟩
  have MX : MetX PP w K mg base 8 (ga K "Agreement") "add_program" (spAdd K P (ga K "Agreement") (ga K "BuildRefused")) := ⟨⟨_, _, _, cls_ok (c.d.fact 72 rfl), meth_ok (c.d.fact 74 rfl), ok_addp FM T A nU U SU.xf (noat_ok (c.d.fact 80 rfl)) UB C_said_of, FM.binds fun _ _ _ _ _ _ us hl => match us, hl with | [_, _, _, _], _ => rfl⟩⟩
  obtain ⟨fd_build_fates, F_build_fates, g_build_fates, B_build_fates⟩ := N.d_build_fates.ex
  have C_build_fates : CalX PP w K mg base 9 "build_fates" (pm_bf.sp K P (ga K "BuildRefused")) := ⟨⟨_, _, _, ok_bf F_build_fates T A C_build C_growth C_fates_of CAm MX, g_build_fates, F_build_fates.kp, B_build_fates⟩⟩
  obtain ⟨fd__law_cell, F__law_cell, g__law_cell, B__law_cell⟩ := N.d__law_cell.ex
  have C__law_cell : C8.Cal PP w K mg base 1 "_law_cell" (pm__law_cell.sp K P) [] := ⟨⟨_, _, _, [], ok__law_cell F__law_cell T, g__law_cell, F__law_cell.kp, B__law_cell, .nil⟩⟩
  obtain ⟨fd__law_text, F__law_text, g__law_text, B__law_text⟩ := N.d__law_text.ex
  have C__law_text : C8.Cal PP w K mg base 1 "_law_text" (pm__law_text.sp K P) [] := ⟨⟨_, _, _, [], ok__law_text F__law_text T, g__law_text, F__law_text.kp, B__law_text, .nil⟩⟩
  obtain ⟨fd__law_line, F__law_line, g__law_line, B__law_line⟩ := N.d__law_line.ex
  have C__law_line : C8.Cal PP w K mg base 2 "_law_line" (pm__law_line.sp K P) [] := ⟨⟨_, _, _, [], ok__law_line F__law_line T C__law_text, g__law_line, F__law_line.kp, B__law_line, .nil⟩⟩
  obtain ⟨fd__law_draws, F__law_draws, g__law_draws, B__law_draws⟩ := N.d__law_draws.ex
  have C__law_draws : C8.Cal PP w K mg base 1 "_law_draws" (pm__law_draws.sp K P) [] := ⟨⟨_, _, _, [], ok__law_draws F__law_draws T, g__law_draws, F__law_draws.kp, B__law_draws, .nil⟩⟩
  obtain ⟨fd__law_document, F__law_document, g__law_document, B__law_document⟩ := N.d__law_document.ex
  have C__law_document : C8.Cal PP w K mg base 3 "_law_document" (pm__law_document.sp K P) [] := ⟨⟨_, _, _, [], ok__law_document F__law_document T C__law_cell C__law_line C__law_draws, g__law_document, F__law_document.kp, B__law_document, .nil⟩⟩
  obtain ⟨fd__law_table, F__law_table, g__law_table, B__law_table⟩ := N.d__law_table.ex
  have C__law_table : C8.Cal PP w K mg base 1 "_law_table" (pm__law_table.sp K P) [] := ⟨⟨_, _, _, [], ok__law_table F__law_table T, g__law_table, F__law_table.kp, B__law_table, .nil⟩⟩
  obtain ⟨fd__law_length, F__law_length, g__law_length, B__law_length⟩ := N.d__law_length.ex
  have C__law_length_0 : C8.Cal PP w K mg base 1 "_law_length" (sp__law_length K P 0) [] := ⟨⟨_, _, _, [], ok__law_length0 F__law_length, g__law_length, F__law_length.kp, B__law_length, .nil⟩⟩
  have C__law_length_1 : C8.Cal PP w K mg base 2 "_law_length" (sp__law_length K P 1) [] := ⟨⟨_, _, _, [], ok__law_length F__law_length T 0 C__law_length_0, g__law_length, F__law_length.kp, B__law_length, .nil⟩⟩
  have C__law_length_2 : C8.Cal PP w K mg base 3 "_law_length" (sp__law_length K P 2) [] := ⟨⟨_, _, _, [], ok__law_length F__law_length T 1 C__law_length_1, g__law_length, F__law_length.kp, B__law_length, .nil⟩⟩
  have C__law_length_3 : C8.Cal PP w K mg base 4 "_law_length" (sp__law_length K P 3) [] := ⟨⟨_, _, _, [], ok__law_length F__law_length T 2 C__law_length_2, g__law_length, F__law_length.kp, B__law_length, .nil⟩⟩
  have C__law_length_4 : C8.Cal PP w K mg base 5 "_law_length" (sp__law_length K P 4) [] := ⟨⟨_, _, _, [], ok__law_length F__law_length T 3 C__law_length_3, g__law_length, F__law_length.kp, B__law_length, .nil⟩⟩
  have C__law_length_5 : C8.Cal PP w K mg base 6 "_law_length" (sp__law_length K P 5) [] := ⟨⟨_, _, _, [], ok__law_length F__law_length T 4 C__law_length_4, g__law_length, F__law_length.kp, B__law_length, .nil⟩⟩
  have C__law_length := C__law_length_5
  obtain ⟨fd__law_walk, F__law_walk, g__law_walk, B__law_walk⟩ := N.d__law_walk.ex
  have C__law_walk_0 : C8.Cal PP w K mg base 1 "_law_walk" (sp__law_walk K P 0) [] := ⟨⟨_, _, _, [], ok__law_walk0 F__law_walk, g__law_walk, F__law_walk.kp, B__law_walk, .nil⟩⟩
  have C__law_walk_1 : C8.Cal PP w K mg base 2 "_law_walk" (sp__law_walk K P 1) [] := ⟨⟨_, _, _, [], ok__law_walk F__law_walk T 0 C__law_walk_0, g__law_walk, F__law_walk.kp, B__law_walk, .nil⟩⟩
  have C__law_walk_2 : C8.Cal PP w K mg base 3 "_law_walk" (sp__law_walk K P 2) [] := ⟨⟨_, _, _, [], ok__law_walk F__law_walk T 1 C__law_walk_1, g__law_walk, F__law_walk.kp, B__law_walk, .nil⟩⟩
  have C__law_walk_3 : C8.Cal PP w K mg base 4 "_law_walk" (sp__law_walk K P 3) [] := ⟨⟨_, _, _, [], ok__law_walk F__law_walk T 2 C__law_walk_2, g__law_walk, F__law_walk.kp, B__law_walk, .nil⟩⟩
  have C__law_walk_4 : C8.Cal PP w K mg base 5 "_law_walk" (sp__law_walk K P 4) [] := ⟨⟨_, _, _, [], ok__law_walk F__law_walk T 3 C__law_walk_3, g__law_walk, F__law_walk.kp, B__law_walk, .nil⟩⟩
  have C__law_walk_5 : C8.Cal PP w K mg base 6 "_law_walk" (sp__law_walk K P 5) [] := ⟨⟨_, _, _, [], ok__law_walk F__law_walk T 4 C__law_walk_4, g__law_walk, F__law_walk.kp, B__law_walk, .nil⟩⟩
  have C__law_walk := C__law_walk_5
  obtain ⟨fd__law_is_small, F__law_is_small, g__law_is_small, B__law_is_small⟩ := N.d__law_is_small.ex
  have C__law_is_small : C8.Cal PP w K mg base 7 "_law_is_small" (pm__law_is_small.sp K P) [] := ⟨⟨_, _, _, [], ok__law_is_small F__law_is_small T C__law_length C__law_walk, g__law_is_small, F__law_is_small.kp, B__law_is_small, .nil⟩⟩
  obtain ⟨fd__law_roots, F__law_roots, g__law_roots, B__law_roots⟩ := N.d__law_roots.ex
  have C__law_roots : C8.Cal PP w K mg base 8 "_law_roots" (pm__law_roots.sp K P) [] := ⟨⟨_, _, _, [], ok__law_roots F__law_roots T C__law_is_small C__law_cell, g__law_roots, F__law_roots.kp, B__law_roots, .nil⟩⟩
  obtain ⟨fd__law_broken, F__law_broken, g__law_broken, B__law_broken⟩ := N.d__law_broken.ex
  have C__law_broken : C8.Cal PP w K mg base 1 "_law_broken" (pm__law_broken.sp K P) [] := ⟨⟨_, _, _, [], ok__law_broken F__law_broken T, g__law_broken, F__law_broken.kp, B__law_broken, .nil⟩⟩
  obtain ⟨fd__law_indent, F__law_indent, g__law_indent, B__law_indent⟩ := N.d__law_indent.ex
  have C__law_indent : C8.Cal PP w K mg base 1 "_law_indent" (pm__law_indent.sp K P) [] := ⟨⟨_, _, _, [], ok__law_indent F__law_indent T, g__law_indent, F__law_indent.kp, B__law_indent, .nil⟩⟩
  obtain ⟨fd__law_big, F__law_big, g__law_big, B__law_big⟩ := N.d__law_big.ex
  have C__law_big : C8.Cal PP w K mg base 2 "_law_big" (pm__law_big.sp K P) [] := ⟨⟨_, _, _, [], ok__law_big F__law_big T C__law_draws, g__law_big, F__law_big.kp, B__law_big, .nil⟩⟩
  obtain ⟨fd__law_put, F__law_put, g__law_put, B__law_put⟩ := N.d__law_put.ex
  have C__law_put : C8.Cal PP w K mg base 1 "_law_put" (pm__law_put.sp K P) [] := ⟨⟨_, _, _, [], ok__law_put F__law_put T, g__law_put, F__law_put.kp, B__law_put, .nil⟩⟩
  obtain ⟨fd__law_edit, F__law_edit, g__law_edit, B__law_edit⟩ := N.d__law_edit.ex
  have C__law_edit : C8.Cal PP w K mg base 2 "_law_edit" (pm__law_edit.sp K P) [] := ⟨⟨_, _, _, [], ok__law_edit F__law_edit T C__law_put, g__law_edit, F__law_edit.kp, B__law_edit, .nil⟩⟩
  obtain ⟨fd__law_new_text, F__law_new_text, g__law_new_text, B__law_new_text⟩ := N.d__law_new_text.ex
  have C__law_new_text : C8.Cal PP w K mg base 1 "_law_new_text" (pm__law_new_text.sp K P) [] := ⟨⟨_, _, _, [], ok__law_new_text F__law_new_text T, g__law_new_text, F__law_new_text.kp, B__law_new_text, .nil⟩⟩
  obtain ⟨fd__law_fate, F__law_fate, g__law_fate, B__law_fate⟩ := N.d__law_fate.ex
  have C__law_fate : C8.Cal PP w K mg base 2 "_law_fate" (pm__law_fate.sp K P) [] := ⟨⟨_, _, _, [], ok__law_fate F__law_fate T C__law_new_text C__law_draws, g__law_fate, F__law_fate.kp, B__law_fate, .nil⟩⟩
  obtain ⟨fd__law_is_first, F__law_is_first, g__law_is_first, B__law_is_first⟩ := N.d__law_is_first.ex
  have C__law_is_first : C8.Cal PP w K mg base 1 "_law_is_first" (pm__law_is_first.sp K P) [] := ⟨⟨_, _, _, [], ok__law_is_first F__law_is_first T, g__law_is_first, F__law_is_first.kp, B__law_is_first, .nil⟩⟩
  obtain ⟨fd__law_all_edits, F__law_all_edits, g__law_all_edits, B__law_all_edits⟩ := N.d__law_all_edits.ex
  have C__law_all_edits : C8.Cal PP w K mg base 3 "_law_all_edits" (pm__law_all_edits.sp K P) [] := ⟨⟨_, _, _, [], ok__law_all_edits F__law_all_edits T C__law_broken C__law_indent C__law_big C__law_cell C__law_edit C__law_fate C__law_is_first, g__law_all_edits, F__law_all_edits.kp, B__law_all_edits, .nil⟩⟩
  obtain ⟨fd__law_rest, F__law_rest, g__law_rest, B__law_rest⟩ := N.d__law_rest.ex
  have C__law_rest : C8.Cal PP w K mg base 1 "_law_rest" (pm__law_rest.sp K P) [] := ⟨⟨_, _, _, [], ok__law_rest F__law_rest T, g__law_rest, F__law_rest.kp, B__law_rest, .nil⟩⟩
  obtain ⟨fd__law_back, F__law_back, g__law_back, B__law_back⟩ := N.d__law_back.ex
  have C__law_back : C8.Cal PP w K mg base 2 "_law_back" (pm__law_back.sp K P) [] := ⟨⟨_, _, _, [], ok__law_back F__law_back T C__law_rest, g__law_back, F__law_back.kp, B__law_back, .nil⟩⟩
  obtain ⟨fd__law_texts, F__law_texts, g__law_texts, B__law_texts⟩ := N.d__law_texts.ex
  have C__law_texts : C8.Cal PP w K mg base 1 "_law_texts" (pm__law_texts.sp K P) [] := ⟨⟨_, _, _, [], ok__law_texts F__law_texts T, g__law_texts, F__law_texts.kp, B__law_texts, .nil⟩⟩
  obtain ⟨fd__law_is_name, F__law_is_name, g__law_is_name, B__law_is_name⟩ := N.d__law_is_name.ex
  have C__law_is_name : C8.Cal PP w K mg base 1 "_law_is_name" (pm__law_is_name.sp K P) [] := ⟨⟨_, _, _, [], ok__law_is_name F__law_is_name T, g__law_is_name, F__law_is_name.kp, B__law_is_name, .nil⟩⟩
  obtain ⟨fd__law_is_reference, F__law_is_reference, g__law_is_reference, B__law_is_reference⟩ := N.d__law_is_reference.ex
  have C__law_is_reference : C8.Cal PP w K mg base 2 "_law_is_reference" (pm__law_is_reference.sp K P) [] := ⟨⟨_, _, _, [], ok__law_is_reference F__law_is_reference T C__law_is_name, g__law_is_reference, F__law_is_reference.kp, B__law_is_reference, .nil⟩⟩
  obtain ⟨fd__law_fault, F__law_fault, g__law_fault, B__law_fault⟩ := N.d__law_fault.ex
  have C__law_fault : C8.Cal PP w K mg base 3 "_law_fault" (pm__law_fault.sp K P) [] := ⟨⟨_, _, _, [], ok__law_fault F__law_fault T C__law_is_reference, g__law_fault, F__law_fault.kp, B__law_fault, .nil⟩⟩
  obtain ⟨fd__law_build_due, F__law_build_due, g__law_build_due, B__law_build_due⟩ := N.d__law_build_due.ex
  have C__law_build_due : C8.Cal PP w K mg base 4 "_law_build_due" (pm__law_build_due.sp K P) [] := ⟨⟨_, _, _, [], ok__law_build_due F__law_build_due T C__law_back C__law_texts C__law_fault C__law_is_first C__law_indent, g__law_build_due, F__law_build_due.kp, B__law_build_due, .nil⟩⟩
  obtain ⟨fd_put_lines, F_put_lines, g_put_lines, B_put_lines⟩ := N.d_put_lines.ex
  have C_put_lines : C8.Cal PP w K mg base 1 "put_lines" (pm_put_lines.sp K P) [] := ⟨⟨_, _, _, [], ok_put_lines F_put_lines T, g_put_lines, F_put_lines.kp, B_put_lines, .nil⟩⟩
  obtain ⟨fd_apply, F_apply, g_apply, B_apply⟩ := N.d_apply.ex
  have C_apply : C8.Cal PP w K mg base 2 "apply" (pm_apply.sp K P) [] := ⟨⟨_, _, _, [], ok_apply F_apply T C_put_lines, g_apply, F_apply.kp, B_apply, .nil⟩⟩
  obtain ⟨fd__law_new_document, F__law_new_document, g__law_new_document, B__law_new_document⟩ := N.d__law_new_document.ex
  have C__law_new_document : C8.Cal PP w K mg base 1 "_law_new_document" (pm__law_new_document.sp K P) [] := ⟨⟨_, _, _, [], ok__law_new_document F__law_new_document T, g__law_new_document, F__law_new_document.kp, B__law_new_document, .nil⟩⟩
  obtain ⟨fd_texts_of, F_texts_of, g_texts_of, B_texts_of⟩ := N.d_texts_of.ex
  have C_texts_of : C8.Cal PP w K mg base 1 "texts_of" (pm_texts_of.sp K P) [] := ⟨⟨_, _, _, [], ok_texts_of F_texts_of T, g_texts_of, F_texts_of.kp, B_texts_of, .nil⟩⟩
  obtain ⟨fd__law_edited, F__law_edited, g__law_edited, B__law_edited⟩ := N.d__law_edited.ex
  have C__law_edited : C8.Cal PP w K mg base 1 "_law_edited" (pm__law_edited.sp K P) [] := ⟨⟨_, _, _, [], ok__law_edited F__law_edited T, g__law_edited, F__law_edited.kp, B__law_edited, .nil⟩⟩
  exact ok_law FL T SB.xf XN gB nB C_build_fates C__law_document C__law_cell C__law_table C__law_roots C_build C__law_all_edits C__law_build_due C_apply C__law_new_document C_texts_of C__law_edited
end Wf
open PySem PySem.W PySem.Calls PyProof.Rows
theorem PySem.Challenge.cw_weft_k72_whole_builds_come_back_holds : PySem.Challenge.rw_weft_k72_whole_builds_come_back.Holds := by
  w_on; o_law
  refine HandSHeadRun.head_any (r := Wf.RR) (q := Wf.qv) (H := Wf.hk) (ob := Wf.ob) (M := 8000) (loose := Wf.names) (d := HandSHeadRun.topDef Wf.RR.prog 74) (kwd := []) Wf.ob_eq (by kernel_rfl) (fun s => by kernel_rfl) Wf.run (by kernel_rfl) (by kernel_rfl) (by kernel_rfl) (by rfl) (by first | assumption | decide +kernel) (by decide +kernel) ⟨rfl, rfl, rfl, rfl, rfl, by decide +kernel⟩ ?hw ?hc
  case hw => w_witness2
  case hc =>
    refine LamX.walk_ofTsE (l := PySem.Challenge.rw_weft_k72_whole_builds_come_back) (n := 63) (k := 10) (x := "_law_script") (CX := fun _ => L2.CX0) rfl (by decide) (by kernel_rfl) ⟨rfl, by decide, by decide⟩ ?F (fun _ _ _ _ _ z => z)
    intro w mg fz h Y G hmg0
    obtain ⟨K, KX, c⟩ := Y
    have hmg : mg ("law" : PySem.Str) = some (.ref fz) := by
      have e : (HandSHeadRun.topDef Wf.RR.prog 74).name = ("law" : PySem.Str) := by kernel_rfl
      rw [← e]
      exact hmg0
    exact ⟨K, KX, Wf.law_at KX G c hmg⟩
