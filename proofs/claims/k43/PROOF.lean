import PyProof.Rows.All
import Wide.All
import OpenK.AllK
import Wide.FinOn
import HandS.ForMost
import HandS.Exc
import HandS.WordsExc
import HandS.CallSlots
import HandS.IsInst
import HandS.Wide
import HandS.Slots
import HandS.TupAny
import PyProof.ListMulRight
import PyProof.AutoIntG3
import PyProof.StrOps2
import PyProof.StrBlock2
import HandS.Defaults
import HandS.ExcCtx
import HandS.Iter
import HandS.More
import HandS.StrMore
import HandS.Text
import KE.IntTextLaws
import HandS.SetFor
import HandS.Strs
import HandS.SortInts
import PyProof.StrLawsChain
import HandS.SlotsOwn
import HandS.Star
import HandS.IterVal
import KE.KOpsOwn
import HandS.OwnIter
import KE.GoesMore
import KE.GoesEnumKw
import HandS.Deep
import HandS.HeadNt
import HandS.DictComp
import HandS.ClsMeth
import HandS.CallLocal
import HandS.ExcInit
import HandS.ExcSuper
import HandS.ExcValue
import HandS.TryMany
import HandS.ExcField
import HandS.ExcInitHot
import KE.KExcSuper
import KE.KExcIs
import HandS.Head0
import HandS.Head1
import HandS.Head2
import HandS.Small
import HandS.GenList
import HandS.GenYield
import KE.KStateDown
import Lean
import HandS.HeadEnd
import HandS.HeadHook1
import HandS.HeadHook2
import PySem.Challenge.RW_placelayers_k43_stretches
set_option Elab.async false
set_option linter.all false
set_option maxRecDepth 100000
set_option maxHeartbeats 0
namespace DL
open PySem PySem.Spec PyProof.Rows L2 He
abbrev FaF := PySem.W.Frag → Bool
def obsF (fa : List FaF) (fn : List He5.DefA) (K : PySem.W.Frag) : AlD := ((fa.all fun f => f K) && fn.all fun d => d.ok K, fn.map fun d => He5.fnA K (d.at_ K))
def valF (fn : List He5.DefA) : AlD := (true, fn.map He5.DefA.val)
def fA (f : Fa) : FaF := fun K => f.ok K
def fSc (x : PySem.Str) : FaF := fun K => PySem.W.plainGet K (ga K x) Str.empty && (PySem.W.isClsIn K (ga K x) && (PySem.W.plainOver K (ga K x) && eqO (PySem.W.findIn K (.ref (ga K x)) "__setattr__") (some (some (.builtin "object.__setattr__")))))
def fSl (x f : PySem.Str) (i : Nat) : FaF := fun K => eqO (PySem.W.findIn K (.ref (ga K x)) f) (some (some (.ref (ma K (ga K x) f)))) && (eqO (PySem.W.specialIn K (.ref (ma K (ga K x) f)) "__get__") (some (some (.builtin "member_descriptor.__get__"))) &&
  (decide (PySem.W.takesIn K (.ref (ma K (ga K x) f)) = some true) && (decide (PySem.W.typeIn K (.ref (ma K (ga K x) f)) = some (.type "member_descriptor")) && (decide (PySem.W.slotIn K (ma K (ga K x) f) (ga K x) = some i) && decide (i < 1000)))))
def fSf (x : PySem.Str) : FaF := fun K => PySem.W.selfFirst K (ga K x)
def fPr (x f : PySem.Str) : FaF := fun K => eqO (PySem.W.findIn K (.ref (ga K x)) f) (some (some (.ref (ma K (ga K x) f)))) && (eqO (PySem.W.specialIn K (.ref (ma K (ga K x) f)) "__get__") (some (some (.builtin "property.__get__"))) &&
  (decide (PySem.W.takesIn K (.ref (ma K (ga K x) f)) = some true) && (match PySem.W.recIn K (ma K (ga K x) f) "property" with
    | some (.ref _ :: _) => true
    | _ => false)))
def pAd (x f : PySem.Str) (K : PySem.W.Frag) : Addr := He5.wf K (ga K x) "property" f
def mAd (x m : PySem.Str) (K : PySem.W.Frag) : Addr := ma K (ga K x) m
def fTwo (x y : PySem.Str) (nm : String) : FaF := fun K => eqO (PySem.W.findIn K (.ref (ga K x)) (PySem.dunderR nm)) (some none) && ((match PySem.W.findIn K (.ref (ga K y)) (PySem.dunder nm) with
  | some (some (.ref _)) => true
  | _ => false) && (eqO (PySem.W.findIn K (.ref (ga K y)) (PySem.dunderR nm)) (some none) && (decide (PySem.W.subIn K (.ref (ga K y)) (.ref (ga K x)) = some false) && decide (ga K x ≠ ga K y))))
def fFn (x m : PySem.Str) : FaF := fun K => PySem.W.fnIn K (He.ma K (He.ga K x) m)
def exSub (n c : PySem.Str) : Bool := n == c || c == ("LayerError" : PySem.Str)
def oexB (K : PySem.W.Frag) (C : Addr) : Bool := (match K.lookup C with
  | some ⟨.type c, _, .cls cd, sl⟩ => decide (c = "type") && (match cd.mro, sl.toList with
    | .ref C' :: bm, [_, _, _, _, some (.builtin n), _] => decide (C' = C) && (decide (n = "ValueError.__new__") && (!cd.hasDel && (cd.hasDict && PySem.HandSPX.refsVE bm)))
    | _, _ => false)
  | _ => false) && (eqO (PySem.W.findIn K (.ref C) "__setattr__") (some (some (.builtin "object.__setattr__"))) && (decide (PySem.W.subIn K (.ref C) (.type "BaseException") = some true) && (decide (PySem.W.typeIn K (.ref C) = some (.type "type")) && PySem.W.keepIn K (.ref C))))
structure ExD where
  n : PySem.Str
  qual : PySem.Str
  params : Arguments
  body : List Stmt
  scope : Scope
  fs : List PySem.Str
  /-- none: an error class; else: a method that asks super() -/
  m : Option PySem.Str
def ExD.mth (d : ExD) : PySem.Str := match d.m with
  | none => "__init__"
  | some m => m
def ExD.ad0 (d : ExD) (K : PySem.W.Frag) : Addr := ma K (ga K d.n) "__init__"
def ExD.ad (d : ExD) (K : PySem.W.Frag) : Addr := ma K (ga K d.n) d.mth
def ExD.val (d : ExD) : He5.FnW := some (d.mth, d.qual, d.params, .stmts d.body, d.scope, mainGlobals, [("__class__", 0)], builtinsNs)
def fnX (K : PySem.W.Frag) (a : Addr) : He5.FnW := match K.lookup a with
  | some ⟨_, _, .func fd, _⟩ => some (fd.name, fd.qualname, fd.params, fd.body, fd.scope, fd.globals, fd.closure.map fun p => (p.1, 0), fd.builtins)
  | _ => none
def codB (file : PySem.Str) (K : PySem.W.Frag) (c : Value) : Bool := match c with
  | .ref cda => (match K.lookup cda with
    | some ⟨_, _, .fields vs, _⟩ => (match (vs[2]? : Option Value) with
      | some (.str f _) => file == f
      | _ => false)
    | _ => false)
  | _ => false
def noDfl : Value → Bool
  | .none => true
  | _ => false
def celB (K : PySem.W.Frag) (C : Addr) (cl : List (PySem.Str × Addr)) : Bool := match cl with
  | [(_, cc)] => (match K.lookup cc with
    | some ⟨_, _, .cell (some (.ref a)), _⟩ => decide (a = C)
    | _ => false)
  | _ => false
def ExD.okE (file : PySem.Str) (d : ExD) (K : PySem.W.Frag) : Bool := oexB K (ga K d.n) && (eqO (PySem.W.findIn K (.ref (ga K d.n)) "__init__") (some (some (.ref (d.ad0 K)))) && (decide (PySem.W.typeIn K (.ref (d.ad0 K)) = some (.type "function")) &&
  ((match K.lookup (d.ad0 K) with
    | some ⟨_, _, .func fd, _⟩ => noDfl fd.defaults && (PySem.W.codeIn K fd.code d.qual && (codB file K fd.code && celB K (ga K d.n) fd.closure))
    | _ => false) &&
  (eqO (PySem.W.ks_superIn K (ga K d.n) (ga K d.n) "__init__") (some (some (.builtin "ValueError.__init__"))) && (decide (PySem.W.subIn K (.ref (ga K d.n)) (.type "ValueError") = some true) && (decide (PySem.W.mroIn K (ga K d.n) (.ref (ga K d.n)) = some true) &&
  (eqO (PySem.W.nsIn K cStatics "thirdparty.any") (some none) && d.fs.all fun f => eqO (PySem.W.findIn K (.ref (ga K d.n)) f) (some none))))))))
def ExD.okS (file : PySem.Str) (d : ExD) (K : PySem.W.Frag) : Bool := match K.lookup (d.ad K) with
  | some ⟨_, _, .func fd, _⟩ => noDfl fd.defaults && (PySem.W.codeIn K fd.code d.qual && (codB file K fd.code && celB K (ga K d.n) fd.closure))
  | _ => false
def ExD.ok (file : PySem.Str) (d : ExD) (K : PySem.W.Frag) : Bool := match d.m with
  | none => d.okE file K
  | some _ => d.okS file K
def fXs (xs : List PySem.Str) (fs : List PySem.Str) (ve : Bool) : FaF := fun K => xs.all fun m => (xs.all fun n => decide (PySem.W.exmOne K (.ref (ga K m)) (.ref (ga K n)) = some (exSub m n)) && decide (PySem.W.kitOne K (.ref (ga K m)) (.ref (ga K n)) = some (exSub m n))) &&
  ((!ve || decide (PySem.W.kitOne K (.ref (ga K m)) (.type "ValueError") = some true)) && ((fs.all fun f => eqO (PySem.W.findIn K (.ref (ga K m)) f) (some none)) && (xfB K (ga K m) && ((PySem.W.clsIn K (ga K m)).isSome &&
  (eqO (PySem.W.findIn K (.ref (ga K m)) "__class__") (some (some (.builtin "object.__class__"))) && (eqO (PySem.W.specialIn K (.builtin "object.__class__") "__get__") (some (some (.builtin "getset_descriptor.__get__"))) &&
  (decide (PySem.W.takesIn K (.builtin "object.__class__") = some true) && decide (PySem.W.mroIn K (ga K m) (.type "object") = some true))))))))
noncomputable abbrev endS (r : PySem.W.OpenRow) (M : Nat) (w : World) (os : OsState) := HandSHeadRun.endF (HandSHeadRun.stepQ (HandSHeadRun.denQ HandSHeadRun.tabQ) r.prog w) M r.prog w os
def obsE (file : PySem.Str) (ex : List ExD) (K : PySem.W.Frag) : AlD := (ex.all fun d => d.ok file K, ex.map fun d => fnX K (d.ad K))
def valEx (ex : List ExD) : AlD := (true, ex.map ExD.val)
def adrF (g : Addr → Option Obj) (xs : List PySem.Str) : List Addr := xs.map fun x => ga (frG g [mainGlobals]) x
def nextF (g : Addr → Option Obj) (as : List Addr) : List Addr := as.flatMap fun a => match g a with
  | some o => refsD o
  | none => []
def asF (g : Addr → Option Obj) (xs : List PySem.Str) : List Addr :=
  let a1 := adrF g xs
  let a2 := nextF g a1
  let a3 := nextF g a2
  let a4 := nextF g a3
  let a5 := nextF g a4
  mainGlobals :: cStatics :: (a1 ++ (a2 ++ (a3 ++ (a4 ++ a5))))
noncomputable def partG (xs : List PySem.Str) (fa : List FaF) (fn : List He5.DefA) (s : PySem.W.SharedT) : AlD := obsF fa fn (frG (HandSHeadRun.getT s) (asF (HandSHeadRun.getT s) xs))
noncomputable def partEG (xs : List PySem.Str) (file : PySem.Str) (ex : List ExD) (s : PySem.W.SharedT) : AlD := obsE file ex (frG (HandSHeadRun.getT s) (asF (HandSHeadRun.getT s) xs))
@[reducible] def XS : List PySem.Str := ["NoPlace"]
theorem part_of {α β γ : Type} {x : Option α} {f : α → β} {v : β} (g : β → γ) (h : x.map f = some v) : x.map (fun s => g (f s)) = some (g v) := by
  cases x with
  | none => cases h
  | some a =>
    injection h with h
    subst h
    rfl
end DL
namespace LawW
open PySem PySem.Spec PyProof.Rows L2 DL
def top (i : Nat) : Stmt := PySem.Challenge.pw_placelayers_k43_stretches.main.body.getD i (.Pass ⟨0, 0, 0, 0⟩)
abbrev st_is_integer : Stmt := top 16
abbrev N_is_integer : List PySem.Str := ["value"]
abbrev st_count_below : Stmt := top 19
abbrev N_count_below : List PySem.Str := ["numbers", "bound", "low", "high", "middle"]
abbrev st_check_width : Stmt := top 21
abbrev N_check_width : List PySem.Str := ["width"]
abbrev st_is_row : Stmt := top 22
abbrev N_is_row : List PySem.Str := ["value", "width", "number"]
abbrev st_check_rows : Stmt := top 23
abbrev N_check_rows : List PySem.Str := ["width", "rows", "checked", "index", "row"]
abbrev st_is_entry : Stmt := top 29
abbrev N_is_entry : List PySem.Str := ["value", "width", "place", "old", "new", "row"]
abbrev st_entry_key : Stmt := top 30
abbrev N_entry_key : List PySem.Str := ["entry", "_", "old", "new"]
abbrev st_entry_growth : Stmt := top 32
abbrev N_entry_growth : List PySem.Str := ["entry", "_", "old", "new"]
abbrev st_gap_size : Stmt := top 33
abbrev N_gap_size : List PySem.Str := ["entry", "following"]
abbrev st_in_order : Stmt := top 34
abbrev N_in_order : List PySem.Str := ["entry", "following"]
abbrev st_check_entries : Stmt := top 35
abbrev N_check_entries : List PySem.Str := ["width", "entries", "checked", "index", "entry"]
abbrev st_Layer___init : Stmt := inClass (top 44) 1
abbrev N_Layer___init : List PySem.Str := ["self", "width", "entries", "entry"]
abbrev st_Layer___iter : Stmt := inClass (top 44) 5
abbrev N_Layer___iter : List PySem.Str := ["self"]
abbrev st_Layer___len : Stmt := inClass (top 44) 6
abbrev N_Layer___len : List PySem.Str := ["self"]
abbrev st_Layer_growth : Stmt := inClass (top 44) 8
abbrev N_Layer_growth : List PySem.Str := ["self", "entry"]
abbrev st_writer_at : Stmt := top 46
abbrev N_writer_at : List PySem.Str := ["layer", "place", "growth", "index", "entry"]
abbrev st_old_place : Stmt := top 47
abbrev N_old_place : List PySem.Str := ["layer", "place", "growth", "entry"]
abbrev st_end_place : Stmt := top 48
abbrev N_end_place : List PySem.Str := ["size", "stop"]
abbrev st_Table___init : Stmt := inClass (top 55) 1
abbrev N_Table___init : List PySem.Str := ["self", "width", "rows", "row"]
abbrev st_Table_rank : Stmt := inClass (top 55) 8
abbrev N_Table_rank : List PySem.Str := ["self", "key"]
abbrev st_Table_find : Stmt := inClass (top 55) 9
abbrev N_Table_find : List PySem.Str := ["self", "key", "at"]
abbrev st_Table_misfit : Stmt := inClass (top 55) 10
abbrev N_Table_misfit : List PySem.Str := ["self", "layer", "index", "entry", "key"]
abbrev st_laid : Stmt := top 53
abbrev N_laid : List PySem.Str := ["rows", "layer", "result", "done", "place", "old", "new"]
abbrev st_Table___add : Stmt := inClass (top 55) 12
abbrev N_Table___add : List PySem.Str := ["self", "layer", "index"]
abbrev st_Stack___init : Stmt := inClass (top 51) 1
abbrev N_Stack___init : List PySem.Str := ["self", "base", "layers", "top", "layer"]
abbrev st_Table___len : Stmt := inClass (top 55) 5
abbrev N_Table___len : List PySem.Str := ["self"]
abbrev st_Stack_size : Stmt := inClass (top 51) 3
abbrev N_Stack_size : List PySem.Str := ["self", "layer"]
abbrev st_Stack_trace : Stmt := inClass (top 51) 9
abbrev N_Stack_trace : List PySem.Str := ["self", "place", "level", "path"]
abbrev st_Stack_source : Stmt := inClass (top 51) 10
abbrev N_Stack_source : List PySem.Str := ["self", "place", "level", "at"]
abbrev st_Table___getitem : Stmt := inClass (top 55) 7
abbrev N_Table___getitem : List PySem.Str := ["self", "at"]
abbrev st_Stack_row_at : Stmt := inClass (top 51) 11
abbrev N_Stack_row_at : List PySem.Str := ["self", "place", "level", "at"]
abbrev st_Stack_stretch : Stmt := inClass (top 51) 12
abbrev N_Stack_stretch : List PySem.Str := ["self", "start", "stop", "place"]
abbrev st_law_take : Stmt := top 57
abbrev N_law_take : List PySem.Str := ["_law_script", "_law_box", "_law_limit", "_law_cell", "_law_left", "_law_value"]
abbrev st_law_number : Stmt := top 58
abbrev N_law_number : List PySem.Str := ["_law_script", "_law_box", "_law_pick", "_law_far"]
abbrev st_law_width : Stmt := top 59
abbrev N_law_width : List PySem.Str := ["_law_script", "_law_box", "_law_width_here"]
abbrev st_law_rows : Stmt := top 60
abbrev N_law_rows : List PySem.Str := ["_law_script", "_law_box", "_law_width_here", "_law_most", "_law_many", "_law_key", "_law_rows_here", "_law_k", "_law_c"]
abbrev st_law_target : Stmt := top 61
abbrev N_law_target : List PySem.Str := ["_law_script", "_law_box", "_law_rows_here", "_law_width_here", "_law_room", "_law_mode", "_law_target_here", "_law_edge", "_law_k", "_law_more", "_law_key", "_law_row", "_law_pick", "_law_column", "_law_c"]
abbrev st_law_rank : Stmt := top 62
abbrev N_law_rank : List PySem.Str := ["_law_rows_here", "_law_key", "_law_row"]
abbrev st_law_find : Stmt := top 63
abbrev N_law_find : List PySem.Str := ["_law_rows_here", "_law_key", "_law_row"]
abbrev st_law_entries : Stmt := top 64
abbrev N_law_entries : List PySem.Str := ["_law_rows_here", "_law_target_here", "_law_entries_here", "_law_key", "_law_old", "_law_new", "_law_row"]
abbrev st_law_is_int : Stmt := top 65
abbrev N_law_is_int : List PySem.Str := ["_law_value"]
abbrev st_law_is_row : Stmt := top 66
abbrev N_law_is_row : List PySem.Str := ["_law_value", "_law_row", "_law_number_here"]
abbrev st_law_is_rows : Stmt := top 67
abbrev N_law_is_rows : List PySem.Str := ["_law_value", "_law_rows_here", "_law_k"]
abbrev st_law_chain : Stmt := top 68
abbrev N_law_chain : List PySem.Str := ["_law_script", "_law_box", "_law_width_here", "_law_many", "_law_tables", "_law_k"]
abbrev st_law_stretches : Stmt := top 69
abbrev N_law_stretches : List PySem.Str := ["_law_stack", "_law_rows_here", "_law_first", "_law_end"]
abbrev st_law_walked : Stmt := top 70
abbrev N_law_walked : List PySem.Str := ["_law_stack", "_law_rows_here", "_law_at", "_law_row"]
abbrev st_law : Stmt := top 71
abbrev N_law : List PySem.Str := ["_law_script", "_law_box", "_law_width_here", "_law_tables", "_law_layers", "_law_k", "_law_full", "_law_lower", "_law_top", "_law_under", "_law_first", "_law_end", "_law_far"]
def d_is_integer : He5.DefA := ⟨(fun K => He.ga K "is_integer"), "is_integer", "is_integer", defArgs st_is_integer, defBody st_is_integer, defScope st_is_integer, [], []⟩
def d_count_below : He5.DefA := ⟨(fun K => He.ga K "count_below"), "count_below", "count_below", defArgs st_count_below, defBody st_count_below, defScope st_count_below, [], []⟩
def d_entry_key : He5.DefA := ⟨(fun K => He.ga K "entry_key"), "entry_key", "entry_key", defArgs st_entry_key, defBody st_entry_key, defScope st_entry_key, [], []⟩
def d_entry_growth : He5.DefA := ⟨(fun K => He.ga K "entry_growth"), "entry_growth", "entry_growth", defArgs st_entry_growth, defBody st_entry_growth, defScope st_entry_growth, [], []⟩
def d_gap_size : He5.DefA := ⟨(fun K => He.ga K "gap_size"), "gap_size", "gap_size", defArgs st_gap_size, defBody st_gap_size, defScope st_gap_size, [], []⟩
def d_Layer___iter : He5.DefA := ⟨(mAd "Layer" "__iter__"), "__iter__", "Layer.__iter__", defArgs st_Layer___iter, defBody st_Layer___iter, defScope st_Layer___iter, [], []⟩
def d_Layer___len : He5.DefA := ⟨(mAd "Layer" "__len__"), "__len__", "Layer.__len__", defArgs st_Layer___len, defBody st_Layer___len, defScope st_Layer___len, [], []⟩
def d_end_place : He5.DefA := ⟨(fun K => He.ga K "end_place"), "end_place", "end_place", defArgs st_end_place, defBody st_end_place, defScope st_end_place, [], []⟩
def d_Table___len : He5.DefA := ⟨(mAd "Table" "__len__"), "__len__", "Table.__len__", defArgs st_Table___len, defBody st_Table___len, defScope st_Table___len, [], []⟩
def d_Table___getitem : He5.DefA := ⟨(mAd "Table" "__getitem__"), "__getitem__", "Table.__getitem__", defArgs st_Table___getitem, defBody st_Table___getitem, defScope st_Table___getitem, [], []⟩
def d_law_take : He5.DefA := ⟨(fun K => He.ga K "_law_take"), "_law_take", "_law_take", defArgs st_law_take, defBody st_law_take, defScope st_law_take, [], []⟩
def d_law_rank : He5.DefA := ⟨(fun K => He.ga K "_law_rank"), "_law_rank", "_law_rank", defArgs st_law_rank, defBody st_law_rank, defScope st_law_rank, [], []⟩
def d_law_find : He5.DefA := ⟨(fun K => He.ga K "_law_find"), "_law_find", "_law_find", defArgs st_law_find, defBody st_law_find, defScope st_law_find, [], []⟩
def d_law_is_int : He5.DefA := ⟨(fun K => He.ga K "_law_is_int"), "_law_is_int", "_law_is_int", defArgs st_law_is_int, defBody st_law_is_int, defScope st_law_is_int, [], []⟩
def d_check_width : He5.DefA := ⟨(fun K => He.ga K "check_width"), "check_width", "check_width", defArgs st_check_width, defBody st_check_width, defScope st_check_width, [], []⟩
def d_is_row : He5.DefA := ⟨(fun K => He.ga K "is_row"), "is_row", "is_row", defArgs st_is_row, defBody st_is_row, defScope st_is_row, [], []⟩
def d_in_order : He5.DefA := ⟨(fun K => He.ga K "in_order"), "in_order", "in_order", defArgs st_in_order, defBody st_in_order, defScope st_in_order, [], []⟩
def d_Layer_growth : He5.DefA := ⟨(pAd "Layer" "growth"), "growth", "Layer.growth", defArgs st_Layer_growth, defBody st_Layer_growth, defScope st_Layer_growth, [], []⟩
def d_Table_rank : He5.DefA := ⟨(mAd "Table" "rank"), "rank", "Table.rank", defArgs st_Table_rank, defBody st_Table_rank, defScope st_Table_rank, [], []⟩
def d_law_number : He5.DefA := ⟨(fun K => He.ga K "_law_number"), "_law_number", "_law_number", defArgs st_law_number, defBody st_law_number, defScope st_law_number, [], []⟩
def d_law_width : He5.DefA := ⟨(fun K => He.ga K "_law_width"), "_law_width", "_law_width", defArgs st_law_width, defBody st_law_width, defScope st_law_width, [], []⟩
def d_law_entries : He5.DefA := ⟨(fun K => He.ga K "_law_entries"), "_law_entries", "_law_entries", defArgs st_law_entries, defBody st_law_entries, defScope st_law_entries, [], []⟩
def d_law_is_row : He5.DefA := ⟨(fun K => He.ga K "_law_is_row"), "_law_is_row", "_law_is_row", defArgs st_law_is_row, defBody st_law_is_row, defScope st_law_is_row, [], []⟩
def d_check_rows : He5.DefA := ⟨(fun K => He.ga K "check_rows"), "check_rows", "check_rows", defArgs st_check_rows, defBody st_check_rows, defScope st_check_rows, [], []⟩
def d_is_entry : He5.DefA := ⟨(fun K => He.ga K "is_entry"), "is_entry", "is_entry", defArgs st_is_entry, defBody st_is_entry, defScope st_is_entry, [], []⟩
def d_Table_find : He5.DefA := ⟨(mAd "Table" "find"), "find", "Table.find", defArgs st_Table_find, defBody st_Table_find, defScope st_Table_find, [], []⟩
def d_law_rows : He5.DefA := ⟨(fun K => He.ga K "_law_rows"), "_law_rows", "_law_rows", defArgs st_law_rows, defBody st_law_rows, defScope st_law_rows, [], []⟩
def d_law_target : He5.DefA := ⟨(fun K => He.ga K "_law_target"), "_law_target", "_law_target", defArgs st_law_target, defBody st_law_target, defScope st_law_target, [], []⟩
def d_law_is_rows : He5.DefA := ⟨(fun K => He.ga K "_law_is_rows"), "_law_is_rows", "_law_is_rows", defArgs st_law_is_rows, defBody st_law_is_rows, defScope st_law_is_rows, [], []⟩
def d_check_entries : He5.DefA := ⟨(fun K => He.ga K "check_entries"), "check_entries", "check_entries", defArgs st_check_entries, defBody st_check_entries, defScope st_check_entries, [], []⟩
def d_writer_at : He5.DefA := ⟨(fun K => He.ga K "writer_at"), "writer_at", "writer_at", defArgs st_writer_at, defBody st_writer_at, defScope st_writer_at, [], []⟩
def d_old_place : He5.DefA := ⟨(fun K => He.ga K "old_place"), "old_place", "old_place", defArgs st_old_place, defBody st_old_place, defScope st_old_place, [], []⟩
def d_Table___init : He5.DefA := ⟨(mAd "Table" "__init__"), "__init__", "Table.__init__", defArgs st_Table___init, defBody st_Table___init, defScope st_Table___init, [.adr (He.dflAt ("Table", some "__init__") 0)], []⟩
def d_Table_misfit : He5.DefA := ⟨(mAd "Table" "misfit"), "misfit", "Table.misfit", defArgs st_Table_misfit, defBody st_Table_misfit, defScope st_Table_misfit, [], []⟩
def d_laid : He5.DefA := ⟨(fun K => He.ga K "laid"), "laid", "laid", defArgs st_laid, defBody st_laid, defScope st_laid, [], []⟩
def d_law_chain : He5.DefA := ⟨(fun K => He.ga K "_law_chain"), "_law_chain", "_law_chain", defArgs st_law_chain, defBody st_law_chain, defScope st_law_chain, [], []⟩
def d_Layer___init : He5.DefA := ⟨(mAd "Layer" "__init__"), "__init__", "Layer.__init__", defArgs st_Layer___init, defBody st_Layer___init, defScope st_Layer___init, [.adr (He.dflAt ("Layer", some "__init__") 0)], []⟩
def d_Stack_size : He5.DefA := ⟨(pAd "Stack" "size"), "size", "Stack.size", defArgs st_Stack_size, defBody st_Stack_size, defScope st_Stack_size, [], []⟩
def d_Table___add : He5.DefA := ⟨(mAd "Table" "__add__"), "__add__", "Table.__add__", defArgs st_Table___add, defBody st_Table___add, defScope st_Table___add, [], []⟩
def d_Stack___init : He5.DefA := ⟨(mAd "Stack" "__init__"), "__init__", "Stack.__init__", defArgs st_Stack___init, defBody st_Stack___init, defScope st_Stack___init, [.adr (He.dflAt ("Stack", some "__init__") 0)], []⟩
def d_Stack_trace : He5.DefA := ⟨(mAd "Stack" "trace"), "trace", "Stack.trace", defArgs st_Stack_trace, defBody st_Stack_trace, defScope st_Stack_trace, [], []⟩
def d_Stack_source : He5.DefA := ⟨(mAd "Stack" "source"), "source", "Stack.source", defArgs st_Stack_source, defBody st_Stack_source, defScope st_Stack_source, [], []⟩
def d_Stack_row_at : He5.DefA := ⟨(mAd "Stack" "row_at"), "row_at", "Stack.row_at", defArgs st_Stack_row_at, defBody st_Stack_row_at, defScope st_Stack_row_at, [], []⟩
def d_Stack_stretch : He5.DefA := ⟨(mAd "Stack" "stretch"), "stretch", "Stack.stretch", defArgs st_Stack_stretch, defBody st_Stack_stretch, defScope st_Stack_stretch, [.int 0, .non], []⟩
def d_law_stretches : He5.DefA := ⟨(fun K => He.ga K "_law_stretches"), "_law_stretches", "_law_stretches", defArgs st_law_stretches, defBody st_law_stretches, defScope st_law_stretches, [], []⟩
def d_law_walked : He5.DefA := ⟨(fun K => He.ga K "_law_walked"), "_law_walked", "_law_walked", defArgs st_law_walked, defBody st_law_walked, defScope st_law_walked, [], []⟩
def d_law : He5.DefA := ⟨(fun K => He.ga K "law"), "law", "law", defArgs st_law, defBody st_law, defScope st_law, [], []⟩
abbrev se_NoPlace : Stmt := inClass (top 12) 0
def e_NoPlace : ExD := ⟨"NoPlace", "NoPlace.__init__", defArgs se_NoPlace, defBody se_NoPlace, defScope se_NoPlace, ["place"], none⟩
def fn_0 : List He5.DefA := [d_is_integer, d_count_below, d_entry_key, d_entry_growth, d_gap_size, d_Layer___iter, d_Layer___len, d_end_place, d_Table___len, d_Table___getitem, d_law_take, d_law_rank, d_law_find, d_law_is_int, d_check_width, d_is_row]
def fa_0 : List FaF := [fA (.glo "is_integer"), fA (.glo "count_below"), fA (.glo "entry_key"), fA (.glo "entry_growth"), fA (.glo "gap_size"), fA (.glo "end_place"), fA (.glo "_law_take"), fA (.glo "_law_rank"), fA (.glo "_law_find"), fA (.glo "_law_is_int"), fA (.glo "check_width"), fA (.glo "is_row"), fA (.glo "in_order"), fA (.glo "_law_number"), fA (.glo "_law_width"), fA (.glo "_law_entries"), fA (.glo "_law_is_row"), fA (.glo "check_rows"), fA (.glo "is_entry"), fA (.glo "_law_rows"), fA (.glo "_law_target"), fA (.glo "_law_is_rows"), fA (.glo "check_entries"), fA (.glo "writer_at"), fA (.glo "old_place"), fA (.glo "laid"), fA (.glo "_law_chain"), fA (.glo "_law_stretches"), fA (.glo "_law_walked")]
def fn_1 : List He5.DefA := [d_in_order, d_Layer_growth, d_Table_rank, d_law_number, d_law_width, d_law_entries, d_law_is_row, d_check_rows, d_is_entry, d_Table_find, d_law_rows, d_law_target, d_law_is_rows, d_check_entries, d_writer_at, d_old_place]
def fa_1 : List FaF := [fA (.glo "law"), fA (.free "abs"), fA (.free "all"), fA (.free "bool"), fA (.free "enumerate"), fA (.free "int"), fA (.free "isinstance"), fA (.free "iter"), fA (.free "len"), fA (.free "list"), fA (.free "max"), fA (.free "min"), fA (.free "range"), fA (.free "set"), fA (.free "sorted"), fA (.free "sum"), fA (.free "super"), fA (.free "tuple"), fA (.glo "NoPlace"), fA (.glo "Layer"), fSc "Layer", fA (.glo "Stack"), fSc "Stack", fA (.glo "Table"), fSc "Table", fSl "Layer" "_entries" 0, fSl "Layer" "_key_list" 1, fSl "Layer" "width" 2, fSl "Stack" "_layers" 0]
def fn_2 : List He5.DefA := [d_Table___init, d_Table_misfit, d_laid, d_law_chain, d_Layer___init, d_Stack_size, d_Table___add, d_Stack___init, d_Stack_trace, d_Stack_source, d_Stack_row_at, d_Stack_stretch, d_law_stretches, d_law_walked, d_law]
def fa_2 : List FaF := [fSl "Stack" "base" 1, fSl "Stack" "width" 2, fSl "Table" "_key_list" 0, fSl "Table" "_rows" 1, fSl "Table" "width" 2, fTwo "Table" "Layer" "add", fSf "Layer", fSf "Table", fA (.meth "Layer" "__iter__"), fA (.meth "Table" "rank"), fA (.meth "Table" "find"), fA (.meth "Table" "misfit"), fA (.mkr "Table"), fA (.meth "Table" "__add__"), fA (.meth "Table" "__len__"), fPr "Layer" "growth", fPr "Stack" "size", fA (.meth "Stack" "trace"), fA (.meth "Stack" "source"), fA (.meth "Table" "__getitem__"), fFn "Table" "__getitem__", fA (.meth "Layer" "__len__"), fA (.meth "Stack" "row_at"), fA (.meth "Stack" "stretch"), fA (.mkr "Layer"), fA (.mkr "Stack"), fXs XS [] false]
def fn : List He5.DefA := ((fn_0 ++ fn_1) ++ fn_2)
def fa : List FaF := ((fa_0 ++ fa_1) ++ fa_2)
def ex : List ExD := [e_NoPlace]
abbrev R : PySem.W.OpenRow := PySem.W.OpenLaw.row PySem.Challenge.rw_placelayers_k43_stretches
abbrev PF : PySem.Str := R.prog.main.file
def used : List PySem.Str := [("NoPlace" : PySem.Str), ("Table" : PySem.Str), ("Stack" : PySem.Str), ("Layer" : PySem.Str), ("is_integer" : PySem.Str), ("count_below" : PySem.Str), ("entry_key" : PySem.Str), ("entry_growth" : PySem.Str), ("gap_size" : PySem.Str), ("end_place" : PySem.Str), ("_law_take" : PySem.Str), ("_law_rank" : PySem.Str), ("_law_find" : PySem.Str), ("_law_is_int" : PySem.Str), ("check_width" : PySem.Str), ("is_row" : PySem.Str), ("in_order" : PySem.Str), ("_law_number" : PySem.Str), ("_law_width" : PySem.Str), ("_law_entries" : PySem.Str), ("_law_is_row" : PySem.Str), ("check_rows" : PySem.Str), ("is_entry" : PySem.Str), ("_law_rows" : PySem.Str), ("_law_target" : PySem.Str), ("_law_is_rows" : PySem.Str), ("check_entries" : PySem.Str), ("writer_at" : PySem.Str), ("old_place" : PySem.Str), ("laid" : PySem.Str), ("_law_chain" : PySem.Str), ("_law_stretches" : PySem.Str), ("_law_walked" : PySem.Str), ("law" : PySem.Str)]
def loose : List PySem.Str := [("_wall" : PySem.Str), ("__name__" : PySem.Str), ("LayerError" : PySem.Str), ("InvalidWidth" : PySem.Str), ("InvalidRow" : PySem.Str), ("RowsOutOfOrder" : PySem.Str), ("InvalidEntry" : PySem.Str), ("EntriesOutOfOrder" : PySem.Str), ("InvalidText" : PySem.Str), ("DifferentWidth" : PySem.Str), ("DoesNotFit" : PySem.Str), ("DoesNotFollow" : PySem.Str), ("NoPlace" : PySem.Str), ("MOST_DIGITS" : PySem.Str), ("DIGITS" : PySem.Str), ("is_integer" : PySem.Str), ("number_text" : PySem.Str), ("read_number" : PySem.Str), ("count_below" : PySem.Str), ("check_width" : PySem.Str), ("is_row" : PySem.Str), ("check_rows" : PySem.Str), ("row_text" : PySem.Str), ("read_words" : PySem.Str), ("read_row" : PySem.Str), ("read_width" : PySem.Str), ("is_entry" : PySem.Str), ("entry_key" : PySem.Str), ("entry_kind" : PySem.Str), ("entry_growth" : PySem.Str), ("gap_size" : PySem.Str), ("in_order" : PySem.Str), ("check_entries" : PySem.Str), ("entry_text" : PySem.Str), ("read_entry" : PySem.Str), ("turned" : PySem.Str), ("make_link" : PySem.Str), ("links" : PySem.Str), ("joined" : PySem.Str), ("Layer" : PySem.Str), ("writer_at" : PySem.Str), ("old_place" : PySem.Str), ("end_place" : PySem.Str), ("total" : PySem.Str), ("Stack" : PySem.Str), ("laid" : PySem.Str), ("differences" : PySem.Str), ("Table" : PySem.Str), ("_law_take" : PySem.Str), ("_law_number" : PySem.Str), ("_law_width" : PySem.Str), ("_law_rows" : PySem.Str), ("_law_target" : PySem.Str), ("_law_rank" : PySem.Str), ("_law_find" : PySem.Str), ("_law_entries" : PySem.Str), ("_law_is_int" : PySem.Str), ("_law_is_row" : PySem.Str), ("_law_is_rows" : PySem.Str), ("_law_chain" : PySem.Str), ("_law_stretches" : PySem.Str), ("_law_walked" : PySem.Str)]
theorem pA (w : World) (os : OsState) : (endS R 30000 w os).map (fun s => HandSHeadRun.looksF R.prog (PySem.W.boot_heap w.params) s.abs) = some (true) := by kernel_rfl
theorem pB (w : World) (os : OsState) : (endS R 30000 w os).map (fun s => HandSHeadRun.seenQ (PySem.W.view R.prog [71]) loose (PySem.importedModules R.prog.main.body) (fun s => PySem.W.xlAt (PySem.W.view R.prog [71]) [] s && PySem.W.recOk R.toRowW.records s) s.abs) = some (PySem.W.openGood (PySem.W.view R.prog [71]) loose) := by kernel_rfl
theorem pF_0 (w : World) (os : OsState) : (endS R 30000 w os).map (fun s => partG used fa_0 fn_0 s) = some (valF fn_0) := by kernel_rfl
theorem pF_1 (w : World) (os : OsState) : (endS R 30000 w os).map (fun s => partG used fa_1 fn_1 s) = some (valF fn_1) := by kernel_rfl
theorem pF_2 (w : World) (os : OsState) : (endS R 30000 w os).map (fun s => partG used fa_2 fn_2 s) = some (valF fn_2) := by kernel_rfl
theorem pE (w : World) (os : OsState) : (endS R 30000 w os).map (fun s => partEG used PF ex s) = some (valEx ex) := by kernel_rfl

end LawW
set_option maxHeartbeats 1000000
/-! DCore: a layer of immutable trees (D) and mutable cells (Mem) over the hand layer. -/
namespace DL
open PySem PySem.Spec PyProof.Rows L2

/-! ### trees -/
inductive D where
  | non | bl (b : Bool) | int (i : Int) | str (s : PySem.Str) | ty (n : String) | ref (a : Addr)
  | tup (ds : List D) | lst (ds : List D) | ro (ds : List D) | obj (C : Addr) (ds : List D)
instance : Inhabited D := ⟨.non⟩

mutual
inductive Is (K : PySem.W.Frag) (S : Hp) : V → D → Prop
  | non : Is K S .non .non
  | bl (b : Bool) : Is K S (.bl b) (.bl b)
  | int (i : Int) : Is K S (.int i) (.int i)
  | str (x : PySem.Str) : Is K S (.str x) (.str x)
  | ty (n : String) : Is K S (.ty n) (.ty n)
  | ref (a : Addr) : Is K S (.ref a) (.ref a)
  | tup {a : Addr} {vs : List V} {ds : List D} : SqT K S a vs → IsL K S vs ds → Is K S (.ref a) (.tup ds)
  | lst {a : Addr} {vs : List V} {ds : List D} : S a = some (.lst vs) → IsL K S vs ds → Is K S (.ref a) (.lst ds)
  | ro {a : Addr} {vs : List V} {ds : List D} : SqL K S a vs → IsL K S vs ds → Is K S (.ref a) (.ro ds)
  | obj {a C dx : Addr} {vs : List V} {ds : List D} : dx ≠ a → S a = some (SlX.SlO a C dx (vs.map some)) → S dx = some (.xd []) → IsL K S vs ds → Is K S (.ref a) (.obj C ds)
inductive IsL (K : PySem.W.Frag) (S : Hp) : List V → List D → Prop
  | nil : IsL K S [] []
  | cons {v : V} {vs : List V} {d : D} {ds : List D} : Is K S v d → IsL K S vs ds → IsL K S (v :: vs) (d :: ds)
end

theorem sqT_mono {K : PySem.W.Frag} {S S' : Hp} {a : Addr} {xs : List V} (e : Same S S') (h : SqT K S a xs) : SqT K S' a xs := by
  rcases h with (h | ⟨o, h⟩) | h
  · exact .inl (.inl (e _ _ h))
  · exact .inl (.inr ⟨o, e _ _ h⟩)
  · exact .inr h
mutual
theorem Is.mono {K : PySem.W.Frag} {S S' : Hp} (e : Same S S') : ∀ {d : D} {v : V}, Is K S v d → Is K S' v d
  | .non, _, h => by cases h; exact .non
  | .bl _, _, h => by cases h; exact .bl _
  | .int _, _, h => by cases h; exact .int _
  | .str _, _, h => by cases h; exact .str _
  | .ty _, _, h => by cases h; exact .ty _
  | .ref _, _, h => by cases h; exact .ref _
  | .tup ds, _, h => by
    cases h with
    | tup s l => exact .tup (sqT_mono e s) (IsL.mono e l)
  | .lst ds, _, h => by
    cases h with
    | lst s l => exact .lst (e _ _ s) (IsL.mono e l)
  | .ro ds, _, h => by
    cases h with
    | ro s l => exact .ro (e.seq s) (IsL.mono e l)
  | .obj C ds, _, h => by
    cases h with
    | obj n s x l => exact .obj n (e _ _ s) (e _ _ x) (IsL.mono e l)
theorem IsL.mono {K : PySem.W.Frag} {S S' : Hp} (e : Same S S') : ∀ {ds : List D} {vs : List V}, IsL K S vs ds → IsL K S' vs ds
  | [], _, h => by cases h; exact .nil
  | d :: ds, _, h => by
    cases h with
    | cons a b => exact .cons (Is.mono e a) (IsL.mono e b)
end
section
variable {K : PySem.W.Frag} {S : Hp}
theorem IsL.length : ∀ {ds : List D} {vs : List V}, IsL K S vs ds → vs.length = ds.length
  | [], _, h => by cases h; rfl
  | d :: ds, _, h => by
    cases h with
    | cons a b => simp [IsL.length b]
theorem IsL.get : ∀ {ds : List D} {vs : List V} {i : Nat} {d : D}, IsL K S vs ds → ds[i]? = some d → ∃ v, vs[i]? = some v ∧ Is K S v d
  | [], _, _, _, h, e => by simp at e
  | d :: ds, _, 0, _, h, e => by
    cases h with
    | cons a b => simp at e; subst e; exact ⟨_, rfl, a⟩
  | d :: ds, _, i + 1, _, h, e => by
    cases h with
    | cons a b =>
      obtain ⟨v, h1, h2⟩ := IsL.get (i := i) b (by simpa using e)
      exact ⟨v, by simpa using h1, h2⟩
theorem IsL.get' : ∀ {ds : List D} {vs : List V} {i : Nat} {v : V}, IsL K S vs ds → vs[i]? = some v → ∃ d, ds[i]? = some d ∧ Is K S v d
  | [], _, _, _, h, e => by cases h; simp at e
  | d :: ds, _, 0, _, h, e => by
    cases h with
    | cons a b => simp at e; subst e; exact ⟨_, rfl, a⟩
  | d :: ds, _, i + 1, _, h, e => by
    cases h with
    | cons a b =>
      obtain ⟨v, h1, h2⟩ := IsL.get' (i := i) b (by simpa using e)
      exact ⟨v, by simpa using h1, h2⟩
theorem IsL.app : ∀ {ds es : List D} {vs ws : List V}, IsL K S vs ds → IsL K S ws es → IsL K S (vs ++ ws) (ds ++ es)
  | [], _, _, _, h, g => by cases h; exact g
  | d :: ds, _, _, _, h, g => by
    cases h with
    | cons a b => exact .cons a (IsL.app b g)
theorem IsL.one {v : V} {d : D} (h : Is K S v d) : IsL K S [v] [d] := .cons h .nil
theorem IsL.set {v : V} {d : D} (h : Is K S v d) : ∀ {ds : List D} {vs : List V} (i : Nat), IsL K S vs ds → IsL K S (vs.set i v) (ds.set i d)
  | [], _, _, g => by cases g; exact .nil
  | _ :: _, _, 0, g => by
    cases g with
    | cons a b => exact .cons h b
  | _ :: _, _, i + 1, g => by
    cases g with
    | cons a b => exact .cons a (IsL.set h i b)
theorem IsL.take : ∀ {ds : List D} {vs : List V} (n : Nat), IsL K S vs ds → IsL K S (vs.take n) (ds.take n)
  | _, _, 0, g => by simp; exact .nil
  | [], _, _ + 1, g => by cases g; exact .nil
  | _ :: _, _, n + 1, g => by
    cases g with
    | cons a b => exact .cons a (IsL.take n b)
theorem IsL.drop : ∀ {ds : List D} {vs : List V} (n : Nat), IsL K S vs ds → IsL K S (vs.drop n) (ds.drop n)
  | _, _, 0, g => by simpa using g
  | [], _, _ + 1, g => by cases g; exact .nil
  | _ :: _, _, n + 1, g => by
    cases g with
    | cons a b => exact IsL.drop n b
theorem IsL.ints : ∀ {ns : List Int} {vs : List V}, IsL K S vs (ns.map D.int) → vs = ns.map V.int
  | [], _, h => by cases h; rfl
  | n :: ns, _, h => by
    cases h with
    | cons a b => cases a; simp [IsL.ints b]
theorem IsL.ofInts : ∀ {ns : List Int}, IsL K S (ns.map V.int) (ns.map D.int)
  | [] => .nil
  | n :: ns => .cons (.int n) IsL.ofInts
theorem IsL.strs : ∀ {ns : List PySem.Str} {vs : List V}, IsL K S vs (ns.map D.str) → vs = ns.map V.str
  | [], _, h => by cases h; rfl
  | n :: ns, _, h => by
    cases h with
    | cons a b => cases a; simp [IsL.strs b]
theorem IsL.ofStrs : ∀ {ns : List PySem.Str}, IsL K S (ns.map V.str) (ns.map D.str)
  | [] => .nil
  | n :: ns => .cons (.str n) IsL.ofStrs
theorem IsL.bls : ∀ {ns : List Bool} {vs : List V}, IsL K S vs (ns.map D.bl) → vs = ns.map V.bl
  | [], _, h => by cases h; rfl
  | n :: ns, _, h => by
    cases h with
    | cons a b => cases a; simp [IsL.bls b]
end

/-! ### slots -/
abbrev DSt := List (Option D)
def ROpt (K : PySem.W.Frag) (S : Hp) : Option V → Option D → Prop
  | _, none => True
  | some v, some d => Is K S v d
  | none, some _ => False
abbrev IsO (K : PySem.W.Frag) (S : Hp) : L2.St → DSt → Prop := Paired (ROpt K S)
theorem ROpt.mono {K : PySem.W.Frag} {S S' : Hp} (e : Same S S') : ∀ {v : Option V} {d : Option D}, ROpt K S v d → ROpt K S' v d
  | none, none, _ => trivial
  | some _, none, _ => trivial
  | some _, some _, h => Is.mono e h
  | none, some _, h => h.elim
theorem IsO.mono {K : PySem.W.Frag} {S S' : Hp} {σ : L2.St} {sd : DSt} (e : Same S S') (h : IsO K S σ sd) : IsO K S' σ sd := Paired.mapP h fun _ _ => ROpt.mono e
theorem IsO.get {K : PySem.W.Frag} {S : Hp} : ∀ {σ : L2.St} {sd : DSt} {i : Nat} {d : D}, IsO K S σ sd → sd[i]? = some (some d) → ∃ v, σ[i]? = some (some v) ∧ Is K S v d
  | _, _, _, _, .nil, e => by simp at e
  | _, _, 0, d, .cons (a := v) r t, e => by
    simp at e; subst e
    cases v with
    | none => exact r.elim
    | some v => exact ⟨v, rfl, r⟩
  | _, _, i + 1, d, .cons _ t, e => by
    obtain ⟨v, h1, h2⟩ := IsO.get (i := i) t (by simpa using e)
    exact ⟨v, by simpa using h1, h2⟩
theorem IsO.set {K : PySem.W.Frag} {S : Hp} {v : Option V} {d : Option D} (r : ROpt K S v d) : ∀ {σ : L2.St} {sd : DSt} (i : Nat), IsO K S σ sd → IsO K S (σ.set i v) (sd.set i d)
  | _, _, _, .nil => .nil
  | _, _, 0, .cons _ t => .cons r t
  | _, _, i + 1, .cons q t => .cons q (IsO.set r i t)
theorem IsO.length {K : PySem.W.Frag} {S : Hp} {σ : L2.St} {sd : DSt} (h : IsO K S σ sd) : σ.length = sd.length := Paired.length h

/-! ### cells -/
inductive CO where
  | lst (ds : List D) | dK (kvs : List (Key × D)) | ins (C : Addr) (fs : List (Option D)) | own (C : Addr) (fs : List (PySem.Str × D))
abbrev Mem := Addr → Option CO
def mset (M : Mem) (a : Addr) (o : CO) : Mem := fun b => if b = a then some o else M b
theorem mset_same {M : Mem} {a : Addr} {o : CO} : mset M a o a = some o := by unfold mset; rw [if_pos rfl]
theorem mset_ne {M : Mem} {a b : Addr} {o : CO} (h : b ≠ a) : mset M a o b = M b := by unfold mset; rw [if_neg h]
theorem mset_mset {M : Mem} {a : Addr} {o u : CO} : mset (mset M a o) a u = mset M a u := by
  funext b; unfold mset; split <;> rfl
theorem mne {M : Mem} {a b : Addr} {o : CO} (h : M a = some o) (h' : M b = none) : a ≠ b := by
  intro e; subst e; rw [h] at h'; cases h'

abbrev IsKV (K : PySem.W.Frag) (S : Hp) : List (Key × V) → List (Key × D) → Prop := Paired fun (p : Key × V) (q : Key × D) => p.1 = q.1 ∧ Is K S p.2 q.2
abbrev IsFd (K : PySem.W.Frag) (S : Hp) : List (PySem.Str × V) → List (PySem.Str × D) → Prop := Paired fun (p : PySem.Str × V) (q : PySem.Str × D) => p.1 = q.1 ∧ Is K S p.2 q.2
/-- an instance with slots in the heap: fresh, or stored into -/
def SlAt (H : Hp) (a C dx : Addr) (vs : List (Option V)) : Prop := dx ≠ a ∧ ((H a = some (.ins C dx []) ∧ vs = [] ∧ H dx = some (.own a)) ∨ (H a = some (SlX.SlO a C dx vs) ∧ H dx = some (.xd [])))
theorem SlAt.slt {H : Hp} {a C dx : Addr} {vs : List (Option V)} (h : SlAt H a C dx vs) : SlX.Slt H a C dx vs := h.2.elim (fun z => .inl ⟨z.1, z.2.1⟩) .inr
def COk (K : PySem.W.Frag) (S H : Hp) (a : Addr) : CO → Prop
  | .lst ds => ∃ vs, H a = some (.lst vs) ∧ IsL K S vs ds
  | .dK kvs => ∃ ws, H a = some (.dK ws) ∧ IsKV K S ws kvs
  | .ins C fs => ∃ dx vs, SlAt H a C dx vs ∧ IsO K S vs fs
  | .own C fs => ∃ dx vs, H a = some (.ins C dx vs) ∧ IsFd K S vs fs
theorem COk.mono {K : PySem.W.Frag} {S S' H H' : Hp} {a : Addr} {co : CO} (c : COk K S H a co) (e : Same S S') (h : ∀ b o, H b = some o → (b = a ∨ o = .own a ∨ o = .xd []) → H' b = some o) : COk K S' H' a co := by
  cases co with
  | lst ds =>
    obtain ⟨vs, q, l⟩ := c
    exact ⟨vs, h _ _ q (.inl rfl), l.mono e⟩
  | dK kvs =>
    obtain ⟨ws, q, l⟩ := c
    exact ⟨ws, h _ _ q (.inl rfl), Paired.mapP l fun a b z => ⟨z.1, z.2.mono e⟩⟩
  | ins C fs =>
    obtain ⟨dx, vs, ⟨ne, q⟩, l⟩ := c
    refine ⟨dx, vs, ⟨ne, ?_⟩, l.mono e⟩
    rcases q with ⟨q1, q2, q3⟩ | ⟨q1, q2⟩
    · exact .inl ⟨h _ _ q1 (.inl rfl), q2, h _ _ q3 (.inr (.inl rfl))⟩
    · exact .inr ⟨h _ _ q1 (.inl rfl), h _ _ q2 (.inr (.inr rfl))⟩
  | own C fs =>
    obtain ⟨dx, vs, q, l⟩ := c
    exact ⟨dx, vs, h _ _ q (.inl rfl), Paired.mapP l fun a b z => ⟨z.1, z.2.mono e⟩⟩
theorem COk.base {K : PySem.W.Frag} {S S' H : Hp} {a : Addr} {co : CO} (c : COk K S H a co) (e : Same S S') : COk K S' H a co := c.mono e fun _ _ q _ => q
/-- no other object's dict -/
def NoX (o : HO) : Prop := (∀ x, o ≠ .own x) ∧ o ≠ .xd []
theorem COk.there {K : PySem.W.Frag} {S H : Hp} {a : Addr} {co : CO} (c : COk K S H a co) : ∃ o, H a = some o ∧ NoX o := by
  cases co with
  | lst ds =>
    obtain ⟨vs, q, l⟩ := c
    exact ⟨_, q, ⟨(fun _ z => nomatch z), (fun z => nomatch z)⟩⟩
  | dK kvs =>
    obtain ⟨ws, q, l⟩ := c
    exact ⟨_, q, ⟨(fun _ z => nomatch z), (fun z => nomatch z)⟩⟩
  | ins C fs =>
    obtain ⟨dx, vs, ⟨_, q⟩, _⟩ := c
    rcases q with ⟨q1, _⟩ | ⟨q1, _⟩
    · exact ⟨_, q1, ⟨(fun _ z => nomatch z), (fun z => nomatch z)⟩⟩
    · exact ⟨_, q1, ⟨(fun _ z => by unfold SlX.SlO at z; cases z), SlX.slO_not⟩⟩
  | own C fs =>
    obtain ⟨dx, vs, q, l⟩ := c
    exact ⟨_, q, ⟨(fun _ z => nomatch z), (fun z => nomatch z)⟩⟩

/-- F: what is hidden; S: what never changes; M: the cells -/
structure Rep (K : PySem.W.Frag) (F S : Hp) (M : Mem) (H : Hp) : Prop where
  same : Same S H
  cell : ∀ a co, M a = some co → S a = none ∧ COk K S H a co
  hid : ∀ a o, F a = some o → S a = none ∧ M a = none ∧ H a = some o
  sown : ∀ a x, S a ≠ some (.own x)
  fl : ∀ a o, F a = some o → NoX o
section
variable {K : PySem.W.Frag} {F S H : Hp} {M : Mem} {p : Addr}
theorem Rep.freeS (r : Rep K F S M H) (h : H p = none) : S p = none := r.same.free h
theorem Rep.freeM (r : Rep K F S M H) (h : H p = none) : M p = none := by
  cases e : M p with
  | none => rfl
  | some co =>
    obtain ⟨o, q, _⟩ := (r.cell p co e).2.there
    rw [h] at q; cases q
theorem Rep.freeF (r : Rep K F S M H) (h : H p = none) : F p = none := by
  cases e : F p with
  | none => rfl
  | some o =>
    have q := (r.hid p o e).2.2
    rw [h] at q; cases q
theorem same_upd {o : HO} (h : H p = none) : Same H (upd H p o) := fun b u e => by rw [upd_ne (ne_of_none e h)]; exact e
theorem Same.upd2 {o : HO} (s : Same S H) : Same (upd S p o) (upd H p o) := fun b u e => by
  by_cases hb : b = p
  · subst hb; rw [upd_same] at e ⊢; exact e
  · rw [upd_ne hb] at e ⊢; exact s b u e
/-- what a store at p leaves of another cell -/
theorem keep_upd {o : HO} {a : Addr} (ha : a ≠ p) (hp : ∀ u, H p = some u → NoX u) : ∀ b u, H b = some u → (b = a ∨ u = .own a ∨ u = .xd []) → upd H p o b = some u := fun b u q z => by
  have hb : b ≠ p := fun e => by
    subst e
    obtain ⟨n1, n2⟩ := hp u q
    rcases z with z | z | z
    · exact ha z.symm
    · exact n1 _ z
    · exact n2 z
  rw [upd_ne hb]; exact q
theorem noX_free {p : Addr} (h : H p = none) : ∀ u, H p = some u → NoX u := fun u q => by rw [h] at q; cases q
theorem Rep.noX {co : CO} (r : Rep K F S M H) (h : M p = some co) : ∀ u, H p = some u → NoX u := fun u q => by
  obtain ⟨o, q2, n⟩ := (r.cell p co h).2.there
  rw [q] at q2; cases q2; exact n
theorem own_upd {o : HO} (s : ∀ a x, S a ≠ some (.own x)) (no : ∀ x, o ≠ .own x) : ∀ a x, upd S p o a ≠ some (.own x) := fun a x z => by
  by_cases hb : a = p
  · subst hb; rw [upd_same] at z; exact no x (Option.some.inj z)
  · rw [upd_ne hb] at z; exact s a x z
/-- a new object that never changes -/
theorem Rep.frozen {o : HO} (r : Rep K F S M H) (h : H p = none) (no : ∀ x, o ≠ .own x := by intro _ z; cases z) : Rep K F (upd S p o) M (upd H p o) where
  same := Same.upd2 r.same
  cell := fun a co e => by
    have hne : a ≠ p := mne e (r.freeM h)
    obtain ⟨h1, h2⟩ := r.cell a co e
    exact ⟨by rw [upd_ne hne]; exact h1, h2.mono (same_upd (r.freeS h)) (keep_upd hne (noX_free h))⟩
  hid := fun a u e => by
    obtain ⟨h1, h2, h3⟩ := r.hid a u e
    have hne : a ≠ p := ne_of_none h3 h
    exact ⟨by rw [upd_ne hne]; exact h1, h2, by rw [upd_ne hne]; exact h3⟩
  sown := own_upd r.sown no
  fl := r.fl
/-- a new object that is nobody's -/
theorem Rep.junk {o : HO} (r : Rep K F S M H) (h : H p = none) : Rep K F S M (upd H p o) where
  same := r.same.trans (same_upd h)
  cell := fun a co e => by
    have hne : a ≠ p := mne e (r.freeM h)
    obtain ⟨h1, h2⟩ := r.cell a co e
    exact ⟨h1, h2.mono (Same.refl _) (keep_upd hne (noX_free h))⟩
  hid := fun a u e => by
    obtain ⟨h1, h2, h3⟩ := r.hid a u e
    exact ⟨h1, h2, by rw [upd_ne (ne_of_none h3 h)]; exact h3⟩
  sown := r.sown
  fl := r.fl
/-- a new cell -/
theorem Rep.newCell {o : HO} {co : CO} (r : Rep K F S M H) (h : H p = none) (c : COk K S (upd H p o) p co) : Rep K F S (mset M p co) (upd H p o) where
  same := r.same.trans (same_upd h)
  cell := fun a c' e => by
    by_cases hb : a = p
    · subst hb
      rw [mset_same] at e; cases e
      exact ⟨r.freeS h, c⟩
    · rw [mset_ne hb] at e
      obtain ⟨h1, h2⟩ := r.cell a c' e
      exact ⟨h1, h2.mono (Same.refl _) (keep_upd hb (noX_free h))⟩
  hid := fun a u e => by
    obtain ⟨h1, h2, h3⟩ := r.hid a u e
    have hne : a ≠ p := ne_of_none h3 h
    exact ⟨h1, by rw [mset_ne hne]; exact h2, by rw [upd_ne hne]; exact h3⟩
  sown := r.sown
  fl := r.fl
/-- a cell is written -/
theorem Rep.write {o : HO} {co co' : CO} (r : Rep K F S M H) (h : M p = some co) (c : COk K S (upd H p o) p co') : Rep K F S (mset M p co') (upd H p o) where
  same := fun b u e => by
    have hne : b ≠ p := fun z => by subst z; rw [(r.cell b co h).1] at e; cases e
    rw [upd_ne hne]; exact r.same b u e
  cell := fun a c' e => by
    by_cases hb : a = p
    · subst hb
      rw [mset_same] at e; cases e
      exact ⟨(r.cell a co h).1, c⟩
    · rw [mset_ne hb] at e
      obtain ⟨h1, h2⟩ := r.cell a c' e
      exact ⟨h1, h2.mono (Same.refl _) (keep_upd hb (r.noX h))⟩
  hid := fun a u e => by
    obtain ⟨h1, h2, h3⟩ := r.hid a u e
    have hne : a ≠ p := fun z => by subst z; rw [h] at h2; cases h2
    exact ⟨h1, by rw [mset_ne hne]; exact h2, by rw [upd_ne hne]; exact h3⟩
  sown := r.sown
  fl := r.fl
/-- fewer cells -/
theorem Rep.less {M' : Mem} (r : Rep K F S M H) (h : ∀ a co, M' a = some co → M a = some co) : Rep K F S M' H := ⟨r.same, fun a co e => r.cell a co (h a co e), (fun a o e => by
  obtain ⟨h1, h2, h3⟩ := r.hid a o e
  refine ⟨h1, ?_, h3⟩
  cases q : M' a with
  | none => rfl
  | some co => rw [h a co q] at h2; cases h2), r.sown, r.fl⟩
/-- a list's cell never changes from now on -/
theorem Rep.freeze {ds : List D} {M' : Mem} (r : Rep K F S M H) (h : M p = some (.lst ds)) (hm : ∀ a co, M' a = some co → a ≠ p ∧ M a = some co) :
    ∃ vs, Rep K F (upd S p (.lst vs)) M' H ∧ Same S (upd S p (.lst vs)) ∧ Is K (upd S p (.lst vs)) (.ref p) (.lst ds) := by
  obtain ⟨h1, vs, h2, h3⟩ := r.cell p _ h
  have e : Same S (upd S p (.lst vs)) := same_upd h1
  refine ⟨vs, ⟨fun b u q => ?_, fun a co q => ?_, fun a o q => ?_, own_upd r.sown (fun _ z => nomatch z), r.fl⟩, e, .lst upd_same (h3.mono e)⟩
  · by_cases hb : b = p
    · subst hb; rw [upd_same] at q; cases q; exact h2
    · rw [upd_ne hb] at q; exact r.same b u q
  · obtain ⟨ne, q⟩ := hm a co q
    obtain ⟨g1, g2⟩ := r.cell a co q
    exact ⟨by rw [upd_ne ne]; exact g1, g2.base e⟩
  · obtain ⟨g1, g2, g3⟩ := r.hid a o q
    have ne : a ≠ p := fun z => by subst z; rw [h] at g2; cases g2
    refine ⟨by rw [upd_ne ne]; exact g1, ?_, g3⟩
    cases z : M' a with
    | none => rfl
    | some co => rw [(hm a co z).2] at g2; cases g2
/-! ### instances -/
def putD (i : Nat) (d : D) (fs : List (Option D)) : List (Option D) := (fs ++ List.replicate (i + 1 - fs.length) none).set i (some d)
theorem IsO.put {vs : List (Option V)} {fs : List (Option D)} {v : V} {d : D} (l : IsO K S vs fs) (h : Is K S v d) (i : Nat) : IsO K S (SlX.putS i v vs) (putD i d fs) := by
  unfold SlX.putS putD
  rw [l.length]
  have nones : ∀ n : Nat, IsO K S (List.replicate n none) (List.replicate n none) := by
    intro n
    induction n with
    | zero => exact .nil
    | succ n ih => exact .cons trivial ih
  have app : ∀ {a : List (Option V)} {b : List (Option D)}, IsO K S a b → ∀ {c : List (Option V)} {e : List (Option D)}, IsO K S c e → IsO K S (a ++ c) (b ++ e) := by
    intro a b x
    induction x with
    | nil => intro c e y; exact y
    | cons r _ ih => intro c e y; exact .cons r (ih y)
  exact IsO.set (v := some v) (d := some d) h i (app l (nones _))
theorem isO_all {ds : List D} : ∀ {vs : List (Option V)}, IsO K S vs (ds.map some) → ∃ ws, vs = ws.map some ∧ IsL K S ws ds := by
  induction ds with
  | nil => intro vs l; cases l; exact ⟨[], rfl, .nil⟩
  | cons d ds ih =>
    intro vs l
    cases l with
    | cons a t =>
      rename_i v vs
      obtain ⟨ws, rfl, il⟩ := ih t
      cases v with
      | none => exact a.elim
      | some v => exact ⟨v :: ws, rfl, .cons a il⟩
theorem isO_of {ds : List D} : ∀ {vs : List V}, IsL K S vs ds → IsO K S (vs.map some) (ds.map some) := by
  induction ds with
  | nil => intro vs l; cases l; exact .nil
  | cons d ds ih =>
    intro vs l
    cases l with
    | cons a b => exact .cons a (ih b)
/-- a new instance -/
theorem Rep.newIns {C dx : Addr} (r : Rep K F S M H) (hp : H p = none) (hd : H dx = none) (ne : dx ≠ p) : Rep K F S (mset M p (.ins C [])) (upd (upd H dx (.own p)) p (.ins C dx [])) := by
  have r1 : Rep K F S M (upd H dx (.own p)) := r.junk hd
  have hp1 : upd H dx (.own p) p = none := by rw [upd_ne (Ne.symm ne)]; exact hp
  refine r1.newCell hp1 ⟨dx, [], ⟨ne, .inl ⟨upd_same, rfl, ?_⟩⟩, .nil⟩
  rw [upd_ne ne, upd_same]
/-- an instance is stored into -/
theorem Rep.writeI {C : Addr} {fs : List (Option D)} (r : Rep K F S M H) (h : M p = some (.ins C fs)) : ∃ dx vs, SlX.Slt H p C dx vs ∧ IsO K S vs fs ∧
    ∀ i v d, Is K S v d → Rep K F S (mset M p (.ins C (putD i d fs))) (SlX.slH H p C dx (SlX.putS i v vs)) := by
  obtain ⟨hS, dx, vs, at_, l⟩ := r.cell p _ h
  obtain ⟨ne, q⟩ := at_
  refine ⟨dx, vs, SlAt.slt ⟨ne, q⟩, l, fun i v d iv => ?_⟩
  have hd : H dx = some (.own p) ∨ H dx = some (.xd []) := q.elim (fun z => .inl z.2.2) fun z => .inr z.2
  have hp : ∃ u, H p = some u ∧ NoX u := (r.cell p _ h).2.there
  obtain ⟨up, hpu, npu⟩ := hp
  have key : ∀ b u, b ≠ p → H b = some u → (∀ x, u = .own x → x ≠ p) → SlX.slH H p C dx (SlX.putS i v vs) b = some u := fun b u hb e hx => by
    by_cases hbd : b = dx
    · subst hbd
      unfold SlX.slH
      rw [upd_ne hb, upd_same]
      rcases hd with z | z
      · rw [e] at z; exact absurd rfl (hx p (Option.some.inj z))
      · rw [e] at z; exact z.symm
    · rw [SlX.slH_ne hb hbd]; exact e
  refine ⟨fun b u e => ?_, fun a c' e => ?_, fun a u e => ?_, r.sown, r.fl⟩
  · have hb : b ≠ p := fun z => by subst z; rw [hS] at e; cases e
    exact key b u hb (r.same b u e) fun x z => by subst z; exact absurd e (r.sown b x)
  · by_cases hb : a = p
    · subst hb
      rw [mset_same] at e; cases e
      refine ⟨hS, dx, SlX.putS i v vs, ⟨ne, .inr ?_⟩, l.put iv i⟩
      unfold SlX.slH
      exact ⟨upd_same, by rw [upd_ne ne, upd_same]⟩
    · rw [mset_ne hb] at e
      obtain ⟨h1, h2⟩ := r.cell a c' e
      refine ⟨h1, h2.mono (Same.refl _) fun b u e2 z => ?_⟩
      have hbp : b ≠ p := fun y => by
        subst y
        rw [hpu] at e2; cases e2
        rcases z with z | z | z
        · exact hb z.symm
        · exact npu.1 _ z
        · exact npu.2 z
      refine key b u hbp e2 fun x y hxp => ?_
      subst y
      rcases z with z | z | z
      · obtain ⟨o, q2, n⟩ := h2.there
        rw [← z, e2] at q2; cases q2
        exact n.1 _ rfl
      · injection z with z; exact hb (z.symm.trans hxp)
      · cases z
  · obtain ⟨h1, h2, h3⟩ := r.hid a u e
    have hb : a ≠ p := fun z => by subst z; rw [h] at h2; cases h2
    have nx := r.fl a u e
    exact ⟨h1, by rw [mset_ne hb]; exact h2, key a _ hb h3 fun x z => absurd z (nx.1 x)⟩
/-- an instance never changes from now on -/
theorem Rep.freezeI {C : Addr} {ds : List D} {M' : Mem} (r : Rep K F S M H) (h : M p = some (.ins C (ds.map some))) (hne : ds ≠ []) (hm : ∀ a co, M' a = some co → a ≠ p ∧ M a = some co) :
    ∃ S', Rep K F S' M' H ∧ Same S S' ∧ Is K S' (.ref p) (.obj C ds) := by
  obtain ⟨hS, dx, vs, ⟨ne, q⟩, l⟩ := r.cell p _ h
  obtain ⟨ws, rfl, il⟩ := isO_all l
  have q : H p = some (SlX.SlO p C dx (ws.map some)) ∧ H dx = some (.xd []) := by
    rcases q with ⟨_, e, _⟩ | q
    · have : ws = [] := by cases ws <;> simp_all
      subst this
      cases il
      exact absurd rfl hne
    · exact q
  obtain ⟨q1, q2⟩ := q
  have e1 : Same S (upd S dx (.xd [])) := fun b u e => by
    by_cases hb : b = dx
    · subst hb
      have z := r.same b u e
      rw [q2] at z
      rw [upd_same]; exact z
    · rw [upd_ne hb]; exact e
  have hS1 : upd S dx (.xd []) p = none := by rw [upd_ne (Ne.symm ne)]; exact hS
  have e2 : Same S (upd (upd S dx (.xd [])) p (SlX.SlO p C dx (ws.map some))) := e1.trans (same_upd hS1)
  refine ⟨_, ⟨fun b u e => ?_, fun a co e => ?_, fun a o e => ?_, own_upd (own_upd (o := .xd []) r.sown (fun _ z => by cases z)) (fun _ z => by unfold SlX.SlO at z; cases z), r.fl⟩, e2, .obj ne upd_same (by rw [upd_ne ne, upd_same]) (il.mono e2)⟩
  · by_cases hb : b = p
    · subst hb; rw [upd_same] at e; cases e; exact q1
    · rw [upd_ne hb] at e
      by_cases hbd : b = dx
      · subst hbd; rw [upd_same] at e; cases e; exact q2
      · rw [upd_ne hbd] at e; exact r.same b u e
  · obtain ⟨nep, e⟩ := hm a co e
    obtain ⟨g1, g2⟩ := r.cell a co e
    have hd : a ≠ dx := fun z => by
      subst z
      obtain ⟨o, q3, n⟩ := g2.there
      rw [q2] at q3; cases q3
      exact n.2 rfl
    exact ⟨by rw [upd_ne nep, upd_ne hd]; exact g1, g2.base e2⟩
  · obtain ⟨g1, g2, g3⟩ := r.hid a o e
    have nep : a ≠ p := fun z => by subst z; rw [h] at g2; cases g2
    have hd : a ≠ dx := fun z => by
      subst z
      have nx := r.fl a o e
      rw [q2] at g3; cases g3
      exact nx.2 rfl
    refine ⟨by rw [upd_ne nep, upd_ne hd]; exact g1, ?_, g3⟩
    cases z : M' a with
    | none => rfl
    | some co => rw [(hm a co z).2] at g2; cases g2
end

/-- (d, M) may be seen as (d', M') -/
inductive View : D → Mem → D → Mem → Prop
  | less {d : D} {M M' : Mem} (h : ∀ a co, M' a = some co → M a = some co) : View d M d M'
  | frz {p : Addr} {ds : List D} {M M' : Mem} (h : M p = some (.lst ds)) (hm : ∀ a co, M' a = some co → a ≠ p ∧ M a = some co) : View (.ref p) M (.lst ds) M'
  | frzI {p C : Addr} {ds : List D} {M M' : Mem} (h : M p = some (.ins C (ds.map some))) (hne : ds ≠ []) (hm : ∀ a co, M' a = some co → a ≠ p ∧ M a = some co) : View (.ref p) M (.obj C ds) M'
theorem View.rep {K : PySem.W.Frag} {F S H : Hp} {M M' : Mem} {d d' : D} {v : V} (x : View d M d' M') (r : Rep K F S M H) (i : Is K S v d) : ∃ S', Same S S' ∧ Rep K F S' M' H ∧ Is K S' v d' := by
  cases x with
  | less h => exact ⟨S, Same.refl _, r.less h, i⟩
  | frz h hm =>
    cases i
    obtain ⟨vs, a, b, c⟩ := r.freeze h hm
    exact ⟨_, b, a, c⟩
  | frzI h hne hm =>
    cases i
    obtain ⟨S', a, b, c⟩ := r.freezeI h hne hm
    exact ⟨_, b, a, c⟩

/-! ### readings over trees -/
abbrev DK := D → Mem → Prop
abbrev DTE := DSt → Mem → DK → Prop
abbrev DTT := DSt → Mem → (Bool → Mem → Prop) → Prop
abbrev DTA := DSt → Mem → (List D → Mem → Prop) → Prop
structure DEnds where
  nx : DSt → Mem → Prop
  rt : DK
  bk : DSt → Mem → Prop := fun _ _ => False
  ct : DSt → Mem → Prop := fun _ _ => False
abbrev DTS := DEnds → DSt → Mem → Prop
abbrev DTG := D → DSt → Mem → (DSt → Mem → Prop) → Prop
abbrev DTGs := List D → DSt → Mem → (DSt → Mem → Prop) → Prop

/-- the ground at the def's entry: what is hidden, what stands -/
structure Gr where
  F : Hp
  S : Hp
structure At (K : PySem.W.Frag) (g : Gr) (S : Hp) (M : Mem) (sd : DSt) (σ : L2.St) (H : Hp) : Prop where
  base : Same g.S S
  rep : Rep K g.F S M H
  sl : IsO K S σ sd
theorem At.step {K : PySem.W.Frag} {g : Gr} {S S' : Hp} {M M' : Mem} {sd : DSt} {σ : L2.St} {H H' : Hp} (a : At K g S M sd σ H) (e : Same S S') (r : Rep K g.F S' M' H') : At K g S' M' sd σ H' := ⟨a.base.trans e, r, a.sl.mono e⟩

def liftE (K : PySem.W.Frag) (g : Gr) (t : DTE) : TE := fun σ H Q => ∃ S M sd, ∃ QD : DK, At K g S M sd σ H ∧ t sd M QD ∧
  ∀ d M' v S' H', QD d M' → Same S S' → Rep K g.F S' M' H' → Is K S' v d → Q v H'
def liftT (K : PySem.W.Frag) (g : Gr) (t : DTT) : TT := fun σ H Q => ∃ S M sd, ∃ QD : Bool → Mem → Prop, At K g S M sd σ H ∧ t sd M QD ∧
  ∀ b M' S' H', QD b M' → Same S S' → Rep K g.F S' M' H' → Q b H'
def liftA (K : PySem.W.Frag) (g : Gr) (t : DTA) : TA := fun σ H Q => ∃ S M sd, ∃ QD : List D → Mem → Prop, At K g S M sd σ H ∧ t sd M QD ∧
  ∀ ds M' vs S' H', QD ds M' → Same S S' → Rep K g.F S' M' H' → IsL K S' vs ds → Q vs H'
/-- what the ends of a tree reading demand of the hand layer's -/
structure EndsOk (K : PySem.W.Frag) (g : Gr) (S : Hp) (DD : DEnds) (D' : Ends) : Prop where
  nx : ∀ sd M σ S' H, DD.nx sd M → Same S S' → At K g S' M sd σ H → D'.nx σ H
  rt : ∀ d M v S' H, DD.rt d M → Same S S' → Rep K g.F S' M H → Is K S' v d → D'.rt v H
  bk : ∀ sd M σ S' H, DD.bk sd M → Same S S' → At K g S' M sd σ H → D'.bk σ H
  ct : ∀ sd M σ S' H, DD.ct sd M → Same S S' → At K g S' M sd σ H → D'.ct σ H
theorem EndsOk.mono {K : PySem.W.Frag} {g : Gr} {S S' : Hp} {DD : DEnds} {D' : Ends} (h : EndsOk K g S DD D') (e : Same S S') : EndsOk K g S' DD D' :=
  ⟨fun a b c d f g z => h.nx a b c d f g (e.trans z), fun a b c d f g z => h.rt a b c d f g (e.trans z), fun a b c d f g z => h.bk a b c d f g (e.trans z), fun a b c d f g z => h.ct a b c d f g (e.trans z)⟩
def liftS (K : PySem.W.Frag) (g : Gr) (t : DTS) : TS := fun D' σ H => ∃ S M sd DD, At K g S M sd σ H ∧ t DD sd M ∧ EndsOk K g S DD D'
def liftG (K : PySem.W.Frag) (g : Gr) (t : DTG) : TG := fun v σ H Q => ∃ S M sd d, ∃ QD : DSt → Mem → Prop, At K g S M sd σ H ∧ Is K S v d ∧ t d sd M QD ∧
  ∀ sd' M' σ' S' H', QD sd' M' → Same S S' → At K g S' M' sd' σ' H' → Q σ' H'
def liftGs (K : PySem.W.Frag) (g : Gr) (t : DTGs) : TGs := fun vs σ H Q => ∃ S M sd ds, ∃ QD : DSt → Mem → Prop, At K g S M sd σ H ∧ IsL K S vs ds ∧ t ds sd M QD ∧
  ∀ sd' M' σ' S' H', QD sd' M' → Same S S' → At K g S' M' sd' σ' H' → Q σ' H'

structure DE (X : Cx) (g : Gr) (e : Expr) (t : DTE) : Prop where
  run : PE X e (liftE X.K g t)
structure DT (X : Cx) (g : Gr) (e : Expr) (t : DTT) : Prop where
  run : PT X e (liftT X.K g t)
structure DW (X : Cx) (g : Gr) (e : Expr) (t : DTT) : Prop where
  run : PW X e (liftT X.K g t)
structure DA (X : Cx) (g : Gr) (es : List Expr) (t : DTA) : Prop where
  run : PA X es (liftA X.K g t)
structure DS (X : Cx) (g : Gr) (st : Stmt) (t : DTS) : Prop where
  run : PS X st (liftS X.K g t)
structure DSs (X : Cx) (g : Gr) (st : List Stmt) (t : DTS) : Prop where
  run : PSs X st (liftS X.K g t)
structure DG (X : Cx) (g : Gr) (e : Expr) (t : DTG) : Prop where
  run : PG X e (liftG X.K g t)
structure DGs (X : Cx) (g : Gr) (e : List Expr) (t : DTGs) : Prop where
  run : PGs X e (liftGs X.K g t)

/-! ### a weaker reading -/
theorem pe_imp {X : Cx} {e : Expr} {t t' : TE} (h : PE X e t) (i : ∀ σ H Q, t' σ H Q → t σ H Q) : PE X e t' := ⟨fun pins s σ H Q I w => h.run pins s σ H Q I (i _ _ _ w)⟩
theorem pt_imp {X : Cx} {e : Expr} {t t' : TT} (h : PT X e t) (i : ∀ σ H Q, t' σ H Q → t σ H Q) : PT X e t' := ⟨fun pins s σ H Q I w => h.run pins s σ H Q I (i _ _ _ w)⟩
theorem pw_imp {X : Cx} {e : Expr} {t t' : TT} (h : PW X e t) (i : ∀ σ H Q, t' σ H Q → t σ H Q) : PW X e t' := ⟨fun wh pins s σ H Q I w => h.run wh pins s σ H Q I (i _ _ _ w)⟩
theorem pa_imp {X : Cx} {e : List Expr} {t t' : TA} (h : PA X e t) (i : ∀ σ H Q, t' σ H Q → t σ H Q) : PA X e t' := ⟨fun pos pins s σ H Q I w => h.run pos pins s σ H Q I (i _ _ _ w)⟩
theorem ps_imp {X : Cx} {e : Stmt} {t t' : TS} (h : PS X e t) (i : ∀ D σ H, t' D σ H → t D σ H) : PS X e t' := ⟨fun pins s σ H D I w => h.run pins s σ H D I (i _ _ _ w)⟩
theorem pss_imp {X : Cx} {e : List Stmt} {t t' : TS} (h : PSs X e t) (i : ∀ D σ H, t' D σ H → t D σ H) : PSs X e t' := ⟨fun pins s σ H D I w => h.run pins s σ H D I (i _ _ _ w)⟩
theorem pg_imp {X : Cx} {e : Expr} {t t' : TG} (h : PG X e t) (i : ∀ v σ H Q, t' v σ H Q → t v σ H Q) : PG X e t' := ⟨fun pins s σ H v u Q I r w => h.run pins s σ H v u Q I r (i _ _ _ _ w)⟩
theorem pgs_imp {X : Cx} {e : List Expr} {t t' : TGs} (h : PGs X e t) (i : ∀ v σ H Q, t' v σ H Q → t v σ H Q) : PGs X e t' := ⟨fun pins s σ H v u Q I r w => h.run pins s σ H v u Q I r (i _ _ _ _ w)⟩
end DL

/-! DExpr: expressions and operators over trees. -/
namespace DL
open PySem PySem.Spec PyProof.Rows L2

/-! ### names, constants -/
def sl : DSt → Nat → Option D
  | [], _ => none
  | x :: _, 0 => x
  | _ :: r, n + 1 => sl r n
theorem sl_get : ∀ {σ : DSt} {i : Nat} {d : D}, sl σ i = some d → σ[i]? = some (some d)
  | [], _, _, h => by cases h
  | x :: _, 0, _, h => by
    have h' : x = some _ := h
    subst h'; rfl
  | _ :: r, n + 1, _, h => by
    have := sl_get (σ := r) (i := n) h
    simpa using this
@[reducible] def dVar (i : Nat) : DTE := fun σ M Q => ∃ d, sl σ i = some d ∧ Q d M
@[reducible] def dC (d : D) : DTE := fun _ M Q => Q d M
section
variable {X : Cx} {g : Gr} {pos : Pos}
theorem de_pv {i : Nat} {x : PySem.Str} (h : PE X (.Name x pos) (tVar i)) : DE X g (.Name x pos) (dVar i) := ⟨pe_imp h fun σ H Q ⟨S, M, sd, QD, a, ⟨d, e, q⟩, k⟩ => by
  obtain ⟨v, e1, i1⟩ := a.sl.get (sl_get e)
  exact ⟨v, e1, k d M v S H q (Same.refl _) a.rep i1⟩⟩
theorem de_const {e : Expr} {v : V} {d : D} (h : PE X e (tC v)) (i : ∀ S, Is X.K S v d) : DE X g e (dC d) := ⟨pe_imp h fun σ H Q ⟨S, M, sd, QD, a, q, k⟩ => k d M v S H q (Same.refl _) a.rep (i S)⟩
theorem de_int {i j} : DE X g (.Constant (.int i) j pos) (dC (.int i)) := de_const pe_int fun _ => .int _
theorem de_bl {b j} : DE X g (.Constant (.bool b) j pos) (dC (.bl b)) := de_const pe_bl fun _ => .bl _
theorem de_non {j} : DE X g (.Constant .none j pos) (dC .non) := de_const pe_non fun _ => .non
theorem de_str {x j} : DE X g (.Constant (.str x) j pos) (dC (.str x)) := de_const pe_str fun _ => .str _
theorem de_gint {x : PySem.Str} {i : Int} (hg : Gl X x) (hm : ∃ t, X.mg x = some (.int i t)) (hd : (x == ("__debug__" : PySem.Str)) = false := by decide) : DE X g (.Name x pos) (dC (.int i)) := by
  obtain ⟨t, hm⟩ := hm
  exact de_const (pe_glob (v := .int i) hg hm ⟨t, rfl⟩ hd) fun _ => .int _
theorem de_gstr {x z : PySem.Str} (hg : Gl X x) (hm : ∃ t, X.mg x = some (.str z t)) (hd : (x == ("__debug__" : PySem.Str)) = false := by decide) : DE X g (.Name x pos) (dC (.str z)) := by
  obtain ⟨t, hm⟩ := hm
  exact de_const (pe_glob (v := .str z) hg hm ⟨t, rfl⟩ hd) fun _ => .str _
theorem de_ty {x : PySem.Str} {n : String} (hg : Gl X x) (hm : X.mg x = none) (hv : bootBuiltins x = some (.type n)) (hn : x ≠ "__name__" := by decide) (hd : (x == ("__debug__" : PySem.Str)) = false := by decide) : DE X g (.Name x pos) (dC (.ty n)) :=
  de_const (pe_bltn (v := .ty n) hg hm hv rfl hn hd) fun _ => .ty _
end

/-! ### operators by values -/
abbrev DR2 := D → D → Mem → DK → Prop
def liftR2 (K : PySem.W.Frag) (r : DR2) : R2 := fun x y H Q => ∃ F S M dx dy, ∃ QD : DK, Rep K F S M H ∧ Is K S x dx ∧ Is K S y dy ∧ r dx dy M QD ∧
  ∀ d M' v S' H', QD d M' → Same S S' → Rep K F S' M' H' → Is K S' v d → Q v H'
abbrev DR1 := D → Mem → DK → Prop
def liftR1 (K : PySem.W.Frag) (r : DR1) : V → Hp → VK → Prop := fun x H Q => ∃ F S M dx, ∃ QD : DK, Rep K F S M H ∧ Is K S x dx ∧ r dx M QD ∧
  ∀ d M' v S' H', QD d M' → Same S S' → Rep K F S' M' H' → Is K S' v d → Q v H'
abbrev DRL := List D → Mem → DK → Prop
def liftRL (K : PySem.W.Frag) (r : DRL) : List V → Hp → VK → Prop := fun xs H Q => ∃ F S M ds, ∃ QD : DK, Rep K F S M H ∧ IsL K S xs ds ∧ r ds M QD ∧
  ∀ d M' v S' H', QD d M' → Same S S' → Rep K F S' M' H' → Is K S' v d → Q v H'
@[reducible] def dBin (r : DR2) (ta tb : DTE) : DTE := fun σ M Q => ta σ M fun x M1 => tb σ M1 fun y M2 => r x y M2 Q
@[reducible] def dUn (r : DR1) (ta : DTE) : DTE := fun σ M Q => ta σ M fun x M1 => r x M1 Q

theorem lift_seq2 {K : PySem.W.Frag} {g : Gr} {r : DR2} {ta tb : DTE} {σ : L2.St} {H : Hp} {Q : VK} (h : liftE K g (dBin r ta tb) σ H Q) : tOp (liftR2 K r) (liftE K g ta) (liftE K g tb) σ H Q := by
  obtain ⟨S, M, sd, QD, a, q, k⟩ := h
  refine ⟨S, M, sd, _, a, q, fun d M1 v S1 H1 q1 e1 r1 i1 => ?_⟩
  refine ⟨S1, M1, sd, _, a.step e1 r1, q1, fun d2 M2 v2 S2 H2 q2 e2 r2 i2 => ?_⟩
  exact ⟨_, S2, M2, d, d2, QD, r2, i1.mono e2, i2, q2, fun d3 M3 v3 S3 H3 q3 e3 r3 i3 => k d3 M3 v3 S3 H3 q3 ((e1.trans e2).trans e3) r3 i3⟩
theorem lift_un {K : PySem.W.Frag} {g : Gr} {r : DR1} {ta : DTE} {σ : L2.St} {H : Hp} {Q : VK} (h : liftE K g (dUn r ta) σ H Q) : tUn (liftR1 K r) (liftE K g ta) σ H Q := by
  obtain ⟨S, M, sd, QD, a, q, k⟩ := h
  refine ⟨S, M, sd, _, a, q, fun d M1 v S1 H1 q1 e1 r1 i1 => ?_⟩
  exact ⟨_, S1, M1, d, QD, r1, i1, q1, fun d3 M3 v3 S3 H3 q3 e3 r3 i3 => k d3 M3 v3 S3 H3 q3 (e1.trans e3) r3 i3⟩
section
variable {X : Cx} {g : Gr} {pos : Pos} {a b c : Expr} {ta tb tc : DTE}
theorem de_bin {op : Operator} {r : DR2} (ho : OpR X (binaryOp op) (liftR2 X.K r)) (ha : DE X g a ta) (hb : DE X g b tb) : DE X g (.BinOp a op b pos) (dBin r ta tb) :=
  ⟨pe_imp (pe_op ho ha.run hb.run) fun _ _ _ h => lift_seq2 h⟩
theorem de_un {op : UnaryOp} {r : DR1} (ho : UnR X (unaryOp op) (liftR1 X.K r)) (ha : DE X g a ta) : DE X g (.UnaryOp op a pos) (dUn r ta) :=
  ⟨pe_imp (pe_un ho ha.run) fun _ _ _ h => lift_un h⟩
theorem de_cmp {op : CmpOp} {r : DR2} (ho : OpR X (compareOp op) (liftR2 X.K r)) (ha : DE X g a ta) (hb : DE X g b tb) (hm : behindInMarks op b = false := by first | exact nomark _ | rfl) : DE X g (.Compare a [op] [b] pos) (dBin r ta tb) :=
  ⟨pe_imp (pe_cmpR ho ha.run hb.run hm) fun _ _ _ h => lift_seq2 h⟩
/-- a value's reading as a test: it is a bool -/
@[reducible] def dTest (t : DTE) : DTT := fun σ M Q => t σ M fun x M1 => match x with
  | .bl b => Q b M1
  | _ => False
theorem lift_test {K : PySem.W.Frag} {t : DTE} {σ : L2.St} {H : Hp} {Q : Bool → Hp → Prop} (h : liftT K g (dTest t) σ H Q) : tTest (liftE K g t) σ H Q := by
  obtain ⟨S, M, sd, QD, a, q, k⟩ := h
  refine ⟨S, M, sd, _, a, q, fun d M1 v S1 H1 q1 e1 r1 i1 => ?_⟩
  cases i1 with
  | bl b => exact ⟨b, rfl, k b M1 S1 H1 q1 e1 r1⟩
  | _ => exact q1.elim
theorem dt_cmp {op : CmpOp} {r : DR2} (ho : OpR X (compareOp op) (liftR2 X.K r)) (ha : DE X g a ta) (hb : DE X g b tb) (hm : behindInMarks op b = false := by first | exact nomark _ | rfl) : DT X g (.Compare a [op] [b] pos) (dTest (dBin r ta tb)) := by
  refine ⟨pt_imp (pt_cmpR ho ha.run hb.run hm) fun σ H Q h => ?_⟩
  obtain ⟨S, M, sd, QD, a, q, k⟩ := lift_test h
  exact lift_seq2 ⟨S, M, sd, QD, a, q, k⟩
/-- a op1 b op2 c -/
@[reducible] def dChain (r r' : DR2) (ta tb tc : DTE) : DTE := fun σ M Q => ta σ M fun x M1 => tb σ M1 fun y M2 => r x y M2 fun z M3 => match z with
  | .bl k => (k = true → tc σ M3 fun w M4 => r' y w M4 Q) ∧ (k = false → Q (.bl false) M3)
  | _ => False
theorem lift_chain {K : PySem.W.Frag} {r r' : DR2} {σ : L2.St} {H : Hp} {Q : VK} (h : liftE K g (dChain r r' ta tb tc) σ H Q) : tChain (liftR2 K r) (liftR2 K r') (liftE K g ta) (liftE K g tb) (liftE K g tc) σ H Q := by
  obtain ⟨S, M, sd, QD, a, q, k⟩ := h
  refine ⟨S, M, sd, _, a, q, fun d M1 v S1 H1 q1 e1 r1 i1 => ?_⟩
  refine ⟨S1, M1, sd, _, a.step e1 r1, q1, fun d2 M2 v2 S2 H2 q2 e2 r2 i2 => ?_⟩
  refine ⟨_, S2, M2, d, d2, _, r2, i1.mono e2, i2, q2, fun d3 M3 v3 S3 H3 q3 e3 r3 i3 => ?_⟩
  cases i3 with
  | bl b =>
    refine ⟨b, rfl, ?_⟩
    cases b with
    | false =>
      rw [if_neg Bool.false_ne_true]
      exact k _ _ _ S3 H3 (q3.2 rfl) ((e1.trans e2).trans e3) r3 (.bl _)
    | true =>
      rw [if_pos rfl]
      refine ⟨S3, M3, sd, _, ((a.step e1 r1).step e2 r2).step e3 r3, q3.1 rfl, fun d4 M4 v4 S4 H4 q4 e4 r4 i4 => ?_⟩
      exact ⟨_, S4, M4, d2, d4, QD, r4, (i2.mono e3).mono e4, i4, q4, fun d5 M5 v5 S5 H5 q5 e5 r5 i5 => k d5 M5 v5 S5 H5 q5 ((((e1.trans e2).trans e3).trans e4).trans e5) r5 i5⟩
  | _ => exact q3.elim
theorem de_chain {op op' : CmpOp} {r r' : DR2} (ho : OpR X (compareOp op) (liftR2 X.K r)) (ho' : OpR X (compareOp op') (liftR2 X.K r')) (ha : DE X g a ta) (hb : DE X g b tb) (hc : DE X g c tc) (hm : lastMarks [op, op'] [b, c] = false := by rfl) :
    DE X g (.Compare a [op, op'] [b, c] pos) (dChain r r' ta tb tc) := ⟨pe_imp (pe_chain ho ho' ha.run hb.run hc.run hm) fun _ _ _ h => lift_chain h⟩
theorem dt_chain {op op' : CmpOp} {r r' : DR2} (ho : OpR X (compareOp op) (liftR2 X.K r)) (ho' : OpR X (compareOp op') (liftR2 X.K r')) (ha : DE X g a ta) (hb : DE X g b tb) (hc : DE X g c tc) (hm : lastMarks [op, op'] [b, c] = false := by rfl) :
    DT X g (.Compare a [op, op'] [b, c] pos) (dTest (dChain r r' ta tb tc)) := by
  refine ⟨pt_imp (pt_chain ho ho' ha.run hb.run hc.run hm) fun σ H Q h => ?_⟩
  obtain ⟨S, M, sd, QD, a, q, k⟩ := lift_test h
  exact lift_chain ⟨S, M, sd, QD, a, q, k⟩
end

/-! ### truth -/
def CO.full (P : Bool → Prop) : CO → Prop
  | .lst ds => P (!ds.isEmpty)
  | .dK kvs => P (!kvs.isEmpty)
  | .ins _ _ => False
  | .own _ _ => False
def dTru (x : D) (M : Mem) (Q : Bool → Mem → Prop) : Prop := match x with
  | .non => Q false M
  | .bl b => Q b M
  | .int i => Q (i != 0) M
  | .str s => s.length ≤ sizeLine ∧ Q ((s.length : Int) != 0) M
  | .tup ds => Q (!ds.isEmpty) M
  | .lst ds => Q (!ds.isEmpty) M
  | .ro ds => Q (!ds.isEmpty) M
  | .ref a => ∃ co, M a = some co ∧ co.full fun b => Q b M
  | .ty _ => False
  | .obj _ _ => False
theorem isEmpty_of_len {α β : Type} {xs : List α} {ys : List β} (h : xs.length = ys.length) : xs.isEmpty = ys.isEmpty := by
  cases xs <;> cases ys <;> simp_all
theorem tru_lift {K : PySem.W.Frag} {F S H : Hp} {M : Mem} {v : V} {d : D} {Q : Bool → Mem → Prop} (r : Rep K F S M H) (i : Is K S v d) (h : dTru d M Q) : ∃ k, TruV K v H k ∧ Q k M := by
  cases i with
  | non => exact ⟨_, rfl, h⟩
  | bl b => exact ⟨_, rfl, h⟩
  | int i => exact ⟨_, rfl, h⟩
  | str x => exact ⟨_, ⟨h.1, rfl⟩, h.2⟩
  | ty n => exact h.elim
  | ref a =>
    obtain ⟨co, e, h'⟩ := h
    obtain ⟨_, c⟩ := r.cell a co e
    cases co with
    | lst ds =>
      obtain ⟨vs, q, l⟩ := c
      exact ⟨!ds.isEmpty, .inl ⟨vs, SqL.of q, by rw [isEmpty_of_len l.length]⟩, h'⟩
    | dK kvs =>
      obtain ⟨ws, q, l⟩ := c
      exact ⟨!kvs.isEmpty, .inr (.inr ⟨ws, q, by rw [isEmpty_of_len (Paired.length l)]⟩), h'⟩
    | ins C fs => exact h'.elim
    | own C fs => exact h'.elim
  | tup s l => exact ⟨_, .inr (.inl ⟨_, sqT_mono r.same s, by rw [isEmpty_of_len l.length]⟩), h⟩
  | lst s l => exact ⟨_, .inl ⟨_, SqL.of (r.same _ _ s), by rw [isEmpty_of_len l.length]⟩, h⟩
  | ro s l => exact ⟨_, .inl ⟨_, r.same.seq s, by rw [isEmpty_of_len l.length]⟩, h⟩
  | obj n s x l => exact h.elim
@[reducible] def dTruth (t : DTE) : DTT := fun σ M Q => t σ M fun x M1 => dTru x M1 Q
section
variable {X : Cx} {g : Gr} {pos : Pos} {a b c : Expr} {ta tb tc : DTE} {tA tB : DTT} {rest : List Expr}
theorem dt_truth (ha : DE X g a ta) (he : ∀ whole, isTrue a X.env whole = (do let v ← whole; standAt a.pos; holding [v] (truthy v)) := by intro _; rfl) : DT X g a (dTruth ta) := by
  refine ⟨pt_imp (pt_truth ha.run he) fun σ H Q h => ?_⟩
  obtain ⟨S, M, sd, QD, a, q, k⟩ := h
  refine ⟨S, M, sd, _, a, q, fun d M1 v S1 H1 q1 e1 r1 i1 => ?_⟩
  obtain ⟨b, t, q2⟩ := tru_lift r1 i1 q1
  exact ⟨b, t, k b M1 S1 H1 q2 e1 r1⟩
@[reducible] def dAnd (t u : DTT) : DTT := fun σ M Q => t σ M fun b M1 => (b = true → u σ M1 Q) ∧ (b = false → Q false M1)
@[reducible] def dOr (t u : DTT) : DTT := fun σ M Q => t σ M fun b M1 => (b = true → Q true M1) ∧ (b = false → u σ M1 Q)
@[reducible] def dNot (t : DTT) : DTT := fun σ M Q => t σ M fun b M1 => Q (!b) M1
theorem dt_not (h : DT X g a tA) : DT X g (.UnaryOp .Not a pos) (dNot tA) := by
  refine ⟨pt_imp (pt_not h.run) fun σ H Q h => ?_⟩
  obtain ⟨S, M, sd, QD, a, q, k⟩ := h
  exact ⟨S, M, sd, _, a, q, fun b M1 S1 H1 q1 e1 r1 => k _ _ _ _ q1 e1 r1⟩
theorem dw_and1 (h : DT X g a tA) : DW X g (.BoolOp .And [a] pos) tA := ⟨pw_and1 h.run⟩
theorem dw_or1 (h : DT X g a tA) : DW X g (.BoolOp .Or [a] pos) tA := ⟨pw_or1 h.run⟩
theorem dw_and (ha : DT X g a tA) (hb : DW X g (.BoolOp .And (b :: rest) pos) tB) : DW X g (.BoolOp .And (a :: b :: rest) pos) (dAnd tA tB) := by
  refine ⟨pw_imp (pw_and ha.run hb.run) fun σ H Q h => ?_⟩
  obtain ⟨S, M, sd, QD, a, q, k⟩ := h
  refine ⟨S, M, sd, _, a, q, fun b M1 S1 H1 q1 e1 r1 => ?_⟩
  cases b with
  | true => exact ⟨S1, M1, sd, QD, a.step e1 r1, q1.1 rfl, fun b M2 S2 H2 q2 e2 r2 => k b M2 S2 H2 q2 (e1.trans e2) r2⟩
  | false => exact k _ _ _ _ (q1.2 rfl) e1 r1
theorem dw_or (ha : DT X g a tA) (hb : DW X g (.BoolOp .Or (b :: rest) pos) tB) : DW X g (.BoolOp .Or (a :: b :: rest) pos) (dOr tA tB) := by
  refine ⟨pw_imp (pw_or ha.run hb.run) fun σ H Q h => ?_⟩
  obtain ⟨S, M, sd, QD, a, q, k⟩ := h
  refine ⟨S, M, sd, _, a, q, fun b M1 S1 H1 q1 e1 r1 => ?_⟩
  cases b with
  | false => exact ⟨S1, M1, sd, QD, a.step e1 r1, q1.2 rfl, fun b M2 S2 H2 q2 e2 r2 => k b M2 S2 H2 q2 (e1.trans e2) r2⟩
  | true => exact k _ _ _ _ (q1.1 rfl) e1 r1
theorem dw_pt (h : DW X g a tA) : DT X g a tA := ⟨h.run.pt⟩
/-- .. as values: all but the last are bools -/
@[reducible] def dAndV (ta tb : DTE) : DTE := fun σ M Q => ta σ M fun x M1 => match x with
  | .bl b => (b = true → tb σ M1 Q) ∧ (b = false → Q (.bl false) M1)
  | _ => False
@[reducible] def dOrV (ta tb : DTE) : DTE := fun σ M Q => ta σ M fun x M1 => match x with
  | .bl b => (b = true → Q (.bl true) M1) ∧ (b = false → tb σ M1 Q)
  | _ => False
@[reducible] def dNotV (ta : DTE) : DTE := fun σ M Q => ta σ M fun x M1 => match x with
  | .bl b => Q (.bl (!b)) M1
  | _ => False
theorem de_one {op} {t : DTE} (h : DE X g a t) : DE X g (.BoolOp op [a] pos) t := ⟨pe_one h.run⟩
theorem de_and (ha : DE X g a ta) (hb : DE X g (.BoolOp .And (b :: rest) pos) tb) : DE X g (.BoolOp .And (a :: b :: rest) pos) (dAndV ta tb) := by
  refine ⟨pe_imp (pe_and ha.run hb.run) fun σ H Q h => ?_⟩
  obtain ⟨S, M, sd, QD, a, q, k⟩ := h
  refine ⟨S, M, sd, _, a, q, fun d M1 v S1 H1 q1 e1 r1 i1 => ?_⟩
  cases i1 with
  | bl b =>
    refine ⟨b, rfl, ?_⟩
    cases b with
    | true => exact ⟨S1, M1, sd, QD, a.step e1 r1, q1.1 rfl, fun d M2 v S2 H2 q2 e2 r2 i2 => k d M2 v S2 H2 q2 (e1.trans e2) r2 i2⟩
    | false => exact k _ _ _ _ _ (q1.2 rfl) e1 r1 (.bl _)
  | _ => exact q1.elim
theorem de_or (ha : DE X g a ta) (hb : DE X g (.BoolOp .Or (b :: rest) pos) tb) : DE X g (.BoolOp .Or (a :: b :: rest) pos) (dOrV ta tb) := by
  refine ⟨pe_imp (pe_or ha.run hb.run) fun σ H Q h => ?_⟩
  obtain ⟨S, M, sd, QD, a, q, k⟩ := h
  refine ⟨S, M, sd, _, a, q, fun d M1 v S1 H1 q1 e1 r1 i1 => ?_⟩
  cases i1 with
  | bl b =>
    refine ⟨b, rfl, ?_⟩
    cases b with
    | false => exact ⟨S1, M1, sd, QD, a.step e1 r1, q1.2 rfl, fun d M2 v S2 H2 q2 e2 r2 i2 => k d M2 v S2 H2 q2 (e1.trans e2) r2 i2⟩
    | true => exact k _ _ _ _ _ (q1.1 rfl) e1 r1 (.bl _)
  | _ => exact q1.elim
theorem de_not (ha : DE X g a ta) : DE X g (.UnaryOp .Not a pos) (dNotV ta) := by
  refine ⟨pe_imp (pe_not ha.run) fun σ H Q h => ?_⟩
  obtain ⟨S, M, sd, QD, a, q, k⟩ := h
  refine ⟨S, M, sd, _, a, q, fun d M1 v S1 H1 q1 e1 r1 i1 => ?_⟩
  cases i1 with
  | bl b => exact ⟨b, rfl, k _ _ _ _ _ q1 e1 r1 (.bl _)⟩
  | _ => exact q1.elim
@[reducible] def dIf (t : DTT) (ta tb : DTE) : DTE := fun σ M Q => t σ M fun b M1 => (b = true → ta σ M1 Q) ∧ (b = false → tb σ M1 Q)
theorem de_ifExp (hc : DT X g c tA) (ha : DE X g a ta) (hb : DE X g b tb) : DE X g (.IfExp c a b pos) (dIf tA ta tb) := by
  refine ⟨pe_imp (pe_ifExp hc.run ha.run hb.run) fun σ H Q h => ?_⟩
  obtain ⟨S, M, sd, QD, a, q, k⟩ := h
  refine ⟨S, M, sd, _, a, q, fun b M1 S1 H1 q1 e1 r1 => ?_⟩
  cases b with
  | true => exact ⟨S1, M1, sd, QD, a.step e1 r1, q1.1 rfl, fun d M2 v S2 H2 q2 e2 r2 i2 => k d M2 v S2 H2 q2 (e1.trans e2) r2 i2⟩
  | false => exact ⟨S1, M1, sd, QD, a.step e1 r1, q1.2 rfl, fun d M2 v S2 H2 q2 e2 r2 i2 => k d M2 v S2 H2 q2 (e1.trans e2) r2 i2⟩
end

/-! ### arguments, displays -/
@[reducible] def dNil : DTA := fun _ M Q => Q [] M
@[reducible] def dCons (ta : DTE) (tr : DTA) : DTA := fun σ M Q => ta σ M fun x M1 => tr σ M1 fun xs M2 => Q (x :: xs) M2
@[reducible] def dTup (t : DTA) : DTE := fun σ M Q => t σ M fun xs M1 => xs.length ≤ sizeLine ∧ Q (.tup xs) M1
@[reducible] def dLst (t : DTA) : DTE := fun σ M Q => t σ M fun xs M1 => xs.length ≤ sizeLine ∧ Q (.lst xs) M1
@[reducible] def dLstC (t : DTA) : DTE := fun σ M Q => t σ M fun xs M1 => xs.length ≤ sizeLine ∧ ∀ p, M1 p = none → Q (.ref p) (mset M1 p (.lst xs))
section
variable {X : Cx} {g : Gr} {pos : Pos} {e : Expr} {es : List Expr} {te : DTE} {t : DTA}
theorem da_nil : DA X g [] dNil := ⟨pa_imp pa_nil fun σ H Q ⟨S, M, sd, QD, a, q, k⟩ => k [] M [] S H q (Same.refl _) a.rep .nil⟩
theorem da_cons (ha : DE X g e te) (hr : DA X g es t) (hs : starEach (e :: es) X.env = (false, eval e X.env) :: starEach es X.env := by rfl) : DA X g (e :: es) (dCons te t) := by
  refine ⟨pa_imp (pa_cons ha.run hr.run hs) fun σ H Q h => ?_⟩
  obtain ⟨S, M, sd, QD, a, q, k⟩ := h
  refine ⟨S, M, sd, _, a, q, fun d M1 v S1 H1 q1 e1 r1 i1 => ?_⟩
  refine ⟨S1, M1, sd, _, a.step e1 r1, q1, fun ds M2 vs S2 H2 q2 e2 r2 i2 => ?_⟩
  exact k _ _ _ S2 H2 q2 (e1.trans e2) r2 (.cons (i1.mono e2) i2)
theorem de_tup {x1} (h : DA X g es t) : DE X g (.Tuple es x1 pos) (dTup t) := by
  refine ⟨pe_imp (pe_tup h.run) fun σ H Q h => ?_⟩
  obtain ⟨S, M, sd, QD, a, q, k⟩ := h
  refine ⟨S, M, sd, _, a, q, fun ds M1 vs S1 H1 q1 e1 r1 i1 => ⟨by rw [i1.length]; exact q1.1, fun p hp => ?_⟩⟩
  have s1 : Same S1 (upd S1 p (.tup vs)) := same_upd (r1.freeS hp)
  exact k _ M1 _ _ _ q1.2 (e1.trans s1) (r1.frozen hp) (.tup (SqT.of upd_same) (i1.mono s1))
theorem de_lst (h : DA X g es t) : DE X g (.List es pos) (dLst t) := by
  refine ⟨pe_imp (pe_lst h.run) fun σ H Q h => ?_⟩
  obtain ⟨S, M, sd, QD, a, q, k⟩ := h
  refine ⟨S, M, sd, _, a, q, fun ds M1 vs S1 H1 q1 e1 r1 i1 => ⟨by rw [i1.length]; exact q1.1, fun p hp => ?_⟩⟩
  have s1 : Same S1 (upd S1 p (.lst vs)) := same_upd (r1.freeS hp)
  exact k _ M1 _ _ _ q1.2 (e1.trans s1) (r1.frozen hp) (.lst upd_same (i1.mono s1))
theorem de_lstC (h : DA X g es t) : DE X g (.List es pos) (dLstC t) := by
  refine ⟨pe_imp (pe_lst h.run) fun σ H Q h => ?_⟩
  obtain ⟨S, M, sd, QD, a, q, k⟩ := h
  refine ⟨S, M, sd, _, a, q, fun ds M1 vs S1 H1 q1 e1 r1 i1 => ⟨by rw [i1.length]; exact q1.1, fun p hp => ?_⟩⟩
  exact k _ _ _ S1 _ (q1.2 p (r1.freeM hp)) e1 (r1.newCell hp ⟨vs, upd_same, i1⟩) (.ref p)
end

/-! ### what the operators do -/
def MulOk (i j : Int) : Prop := CMul i j ∨ CMulW i j
def DivOk (j : Int) : Prop := 0 < j ∧ j.natAbs.log2 < 9000
/-- a list that stands in the heap by itself: one that never changes, or a cell -/
def LstOf (x : D) (M : Mem) (ds : List D) : Prop := x = .lst ds ∨ ∃ a, x = .ref a ∧ M a = some (.lst ds)
theorem LstOf.at {K : PySem.W.Frag} {F S H : Hp} {M : Mem} {x : D} {v : V} {ds : List D} (h : LstOf x M ds) (rep : Rep K F S M H) (i : Is K S v x) : ∃ p vs, v = .ref p ∧ H p = some (.lst vs) ∧ IsL K S vs ds := by
  rcases h with rfl | ⟨a, rfl, hm⟩
  · cases i with
    | lst s l => exact ⟨_, _, rfl, rep.same _ _ s, l⟩
  · cases i
    obtain ⟨_, vs, hv, l⟩ := rep.cell a _ hm
    exact ⟨_, vs, rfl, hv, l⟩
def dAdd : DR2 := fun x y M Q => match x, y with
  | .int i, .int j => Q (.int (i + j)) M
  | .str a, .str b => a.length + b.length ≤ sizeLine ∧ Q (.str (a ++ b)) M
  | .tup a, .tup b => a.length + b.length ≤ sizeLine ∧ Q (.tup (a ++ b)) M
  | x, y => ∃ a b, LstOf x M a ∧ LstOf y M b ∧ a.length + b.length ≤ sizeLine ∧ Q (.lst (a ++ b)) M
/-- .. into a cell -/
def dAddC : DR2 := fun x y M Q => ∃ a b, LstOf x M a ∧ LstOf y M b ∧ a.length + b.length ≤ sizeLine ∧ ∀ p, M p = none → Q (.ref p) (mset M p (.lst (a ++ b)))
def dSub : DR2 := fun x y M Q => match x, y with
  | .int i, .int j => Q (.int (i - j)) M
  | _, _ => False
def dMul : DR2 := fun x y M Q => match x, y with
  | .int i, .int j => MulOk i j ∧ Q (.int (i * j)) M
  | .int i, .str z => PySem.MulOk z i ∧ Q (.str (Txt.mul z i)) M
  | _, _ => False
/-- n * text -/
theorem op_mulIS {X : Cx} : OpR X (binaryOp .Mult) (fun x y H Q => ∃ (i : Int) (z : PySem.Str), x = .int i ∧ y = .str z ∧ PySem.MulOk z i ∧ Q (.str (Txt.mul z i)) H) := by
  intro pins s σ H x y v u Q I rx ry h
  obtain ⟨i, z, rfl, rfl, hok, q⟩ := h
  obtain ⟨t, rfl⟩ := rx
  obtain ⟨t', rfl⟩ := ry
  refine lm_binaryOp_repeat_right (T := "str") (U := "int") (by decide) (fun s' => typeIs_int s' i t) (typeIs_str s z t') PySem.F.fills_int_mul noFill_str_mul PySem.F.slot_int_mul lm_noRepeat_int repeat_str PySem.F.slot_int_index.lookup ?_
  refine call_gives PySem.F.slot_int_mul (typeIs_int s i t) PySem.F.entry_int_mul (PySem.F.args_int_mul_2 _ _) (AutoIntG3.int___mul___int_str_0 i t z t') ⟨rfl, typeIs_str _ z t', ?_⟩
  have h : ∀ t'' k, EP X pins σ Q (.str (Txt.mul z i) t'') { s with toks := k } := fun t'' k => ⟨.str (Txt.mul z i), H, I.tok k, ⟨_, rfl⟩, q⟩
  refine call_gives PySem.F.slot_str_mul (typeIs_str s z t') PySem.F.entry_str_mul (PySem.F.args_str_mul_2 _ _) (PySem.gives_str_mul z i t' t hok.1 hok.2.1 hok.2.2) ?_
  unfold Txt.mul at h
  by_cases h1 : i < 1
  · rw [if_pos h1]
    have h' := h s.toks (s.toks + 1)
    rw [if_pos h1] at h'
    exact ⟨by decide, h'⟩
  · rw [if_neg h1]
    refine post_val_or_made (fun hc => fits_reps (hok.2.2 h1 (by simpa using hc))) fun t'' k => ?_
    have h' := h t'' k
    rw [if_neg h1] at h'
    exact h'
def dFdiv : DR2 := fun x y M Q => match x, y with
  | .int i, .int j => DivOk j ∧ Q (.int (i / j)) M
  | _, _ => False
def dMod : DR2 := fun x y M Q => match x, y with
  | .int i, .int j => 0 < j ∧ Q (.int (i % j)) M
  | _, _ => False
def dPow : DR2 := fun x y M Q => match x, y with
  | .int i, .int j => CPow i j ∧ Q (.int (i ^ j.toNat)) M
  | _, _ => False
def dLt : DR2 := fun x y M Q => match x, y with
  | .int i, .int j => Q (.bl (decide (i < j))) M
  | _, _ => False
def dLe : DR2 := fun x y M Q => match x, y with
  | .int i, .int j => Q (.bl (decide (i ≤ j))) M
  | _, _ => False
def dGt : DR2 := fun x y M Q => match x, y with
  | .int i, .int j => Q (.bl (decide (j < i))) M
  | _, _ => False
def dGe : DR2 := fun x y M Q => match x, y with
  | .int i, .int j => Q (.bl (decide (j ≤ i))) M
  | _, _ => False
def isNon : D → Bool
  | .non => true
  | _ => false
def dIs : DR2 := fun x y M Q => match y with
  | .non => Q (.bl (isNon x)) M
  | _ => False
def dIsNot : DR2 := fun x y M Q => match y with
  | .non => Q (.bl (!isNon x)) M
  | _ => False
theorem isNon_of {K : PySem.W.Frag} {S : Hp} {v : V} {d : D} (i : Is K S v d) : decide (v = .non) = isNon d := by
  cases i <;> rfl
section
variable {X : Cx}
theorem dop_add : OpR X (binaryOp .Add) (liftR2 X.K dAdd) := by
  intro pins s σ H x y v u Q I rx ry h
  obtain ⟨F, S, M, dx, dy, QD, rep, ix, iy, hr, hq⟩ := h
  unfold dAdd at hr
  split at hr
  · cases ix
    cases iy
    exact op_add pins s σ H _ _ v u Q I rx ry ⟨_, _, rfl, rfl, hq _ _ _ S H hr (Same.refl _) rep (.int _)⟩
  · cases ix
    cases iy
    exact op_add_str pins s σ H _ _ v u Q I rx ry ⟨_, _, rfl, rfl, hr.1, hq _ _ _ S H hr.2 (Same.refl _) rep (.str _)⟩
  · rename_i a b
    cases ix with
    | @tup _ vx _ sx lx =>
      cases iy with
      | @tup _ vy _ sy ly =>
        refine op_catA pins s σ H _ _ v u Q I rx ry ⟨_, _, _, _, rfl, rfl, sqT_mono rep.same sx, sqT_mono rep.same sy, by rw [lx.length, ly.length]; exact hr.1, fun e => ?_, fun _ e => ?_, fun _ _ p hp => ?_⟩
        · subst e
          cases lx
          exact hq _ M _ S H hr.2 (Same.refl _) rep (.tup sy ly)
        · subst e
          cases ly
          exact hq _ M _ S H hr.2 (Same.refl _) rep (by rw [List.append_nil]; exact .tup sx lx)
        · have s1 : Same S (upd S p (.tup (vx ++ vy))) := same_upd (rep.freeS hp)
          exact hq _ M _ _ _ hr.2 s1 (rep.frozen hp) (.tup (SqT.of upd_same) ((lx.app ly).mono s1))
  · obtain ⟨a, b, ha, hb, hz, q⟩ := hr
    obtain ⟨p1, v1, rfl, h1, l1⟩ := ha.at rep ix
    obtain ⟨p2, v2, rfl, h2, l2⟩ := hb.at rep iy
    refine op_cat pins s σ H _ _ v u Q I rx ry ⟨_, _, _, _, rfl, rfl, h1, h2, by rw [l1.length, l2.length]; exact hz, fun p hp => ?_⟩
    have s1 : Same S (upd S p (.lst (v1 ++ v2))) := same_upd (rep.freeS hp)
    exact hq _ M _ _ _ q s1 (rep.frozen hp) (.lst upd_same ((l1.app l2).mono s1))
theorem dop_addC : OpR X (binaryOp .Add) (liftR2 X.K dAddC) := by
  intro pins s σ H x y v u Q I rx ry h
  obtain ⟨F, S, M, dx, dy, QD, rep, ix, iy, ⟨a, b, ha, hb, hz, q⟩, hq⟩ := h
  obtain ⟨p1, v1, rfl, h1, l1⟩ := ha.at rep ix
  obtain ⟨p2, v2, rfl, h2, l2⟩ := hb.at rep iy
  refine op_cat pins s σ H _ _ v u Q I rx ry ⟨_, _, _, _, rfl, rfl, h1, h2, by rw [l1.length, l2.length]; exact hz, fun p hp => ?_⟩
  exact hq _ _ _ S _ (q p (rep.freeM hp)) (Same.refl _) (rep.newCell hp ⟨_, upd_same, l1.app l2⟩) (.ref p)
theorem dop_sub : OpR X (binaryOp .Sub) (liftR2 X.K dSub) := by
  intro pins s σ H x y v u Q I rx ry h
  obtain ⟨F, S, M, dx, dy, QD, rep, ix, iy, hr, hq⟩ := h
  cases ix with
  | int i => cases iy with
    | int j => exact op_sub pins s σ H _ _ v u Q I rx ry ⟨i, j, rfl, rfl, hq _ _ _ S H hr (Same.refl _) rep (.int _)⟩
    | _ => exact hr.elim
  | _ => exact hr.elim
theorem dop_mul : OpR X (binaryOp .Mult) (liftR2 X.K dMul) := by
  intro pins s σ H x y v u Q I rx ry h
  obtain ⟨F, S, M, dx, dy, QD, rep, ix, iy, hr, hq⟩ := h
  cases ix with
  | int i => cases iy with
    | int j =>
      rcases hr with ⟨hr | hr, q⟩
      · exact op_mul pins s σ H _ _ v u Q I rx ry ⟨i, j, rfl, rfl, hr, hq _ _ _ S H q (Same.refl _) rep (.int _)⟩
      · exact op_mulW pins s σ H _ _ v u Q I rx ry ⟨i, j, rfl, rfl, hr, hq _ _ _ S H q (Same.refl _) rep (.int _)⟩
    | str z => exact op_mulIS pins s σ H _ _ v u Q I rx ry ⟨i, z, rfl, rfl, hr.1, hq _ _ _ S H hr.2 (Same.refl _) rep (.str _)⟩
    | _ => exact hr.elim
  | _ => exact hr.elim
theorem dop_fdiv : OpR X (binaryOp .FloorDiv) (liftR2 X.K dFdiv) := by
  intro pins s σ H x y v u Q I rx ry h
  obtain ⟨F, S, M, dx, dy, QD, rep, ix, iy, hr, hq⟩ := h
  cases ix with
  | int i => cases iy with
    | int j => exact op_fdivW pins s σ H _ _ v u Q I rx ry ⟨i, j, rfl, rfl, hr.1, hq _ _ _ S H hr.2 (Same.refl _) rep (.int _)⟩
    | _ => exact hr.elim
  | _ => exact hr.elim
theorem dop_mod : OpR X (binaryOp .Mod) (liftR2 X.K dMod) := by
  intro pins s σ H x y v u Q I rx ry h
  obtain ⟨F, S, M, dx, dy, QD, rep, ix, iy, hr, hq⟩ := h
  cases ix with
  | int i => cases iy with
    | int j => exact op_mod pins s σ H _ _ v u Q I rx ry ⟨i, j, rfl, rfl, hr.1, hq _ _ _ S H hr.2 (Same.refl _) rep (.int _)⟩
    | _ => exact hr.elim
  | _ => exact hr.elim
theorem dop_pow : OpR X (binaryOp .Pow) (liftR2 X.K dPow) := by
  intro pins s σ H x y v u Q I rx ry h
  obtain ⟨F, S, M, dx, dy, QD, rep, ix, iy, hr, hq⟩ := h
  cases ix with
  | int i => cases iy with
    | int j => exact op_pow pins s σ H _ _ v u Q I rx ry ⟨i, j, rfl, rfl, hr.1, hq _ _ _ S H hr.2 (Same.refl _) rep (.int _)⟩
    | _ => exact hr.elim
  | _ => exact hr.elim
theorem dop_lt : OpR X (compareOp .Lt) (liftR2 X.K dLt) := by
  intro pins s σ H x y v u Q I rx ry h
  obtain ⟨F, S, M, dx, dy, QD, rep, ix, iy, hr, hq⟩ := h
  cases ix with
  | int i => cases iy with
    | int j => exact op_lt pins s σ H _ _ v u Q I rx ry ⟨i, j, rfl, rfl, hq _ _ _ S H hr (Same.refl _) rep (.bl _)⟩
    | _ => exact hr.elim
  | _ => exact hr.elim
theorem dop_le : OpR X (compareOp .LtE) (liftR2 X.K dLe) := by
  intro pins s σ H x y v u Q I rx ry h
  obtain ⟨F, S, M, dx, dy, QD, rep, ix, iy, hr, hq⟩ := h
  cases ix with
  | int i => cases iy with
    | int j => exact op_le pins s σ H _ _ v u Q I rx ry ⟨i, j, rfl, rfl, hq _ _ _ S H hr (Same.refl _) rep (.bl _)⟩
    | _ => exact hr.elim
  | _ => exact hr.elim
theorem dop_gt : OpR X (compareOp .Gt) (liftR2 X.K dGt) := by
  intro pins s σ H x y v u Q I rx ry h
  obtain ⟨F, S, M, dx, dy, QD, rep, ix, iy, hr, hq⟩ := h
  cases ix with
  | int i => cases iy with
    | int j => exact op_gt pins s σ H _ _ v u Q I rx ry ⟨i, j, rfl, rfl, hq _ _ _ S H hr (Same.refl _) rep (.bl _)⟩
    | _ => exact hr.elim
  | _ => exact hr.elim
theorem dop_ge : OpR X (compareOp .GtE) (liftR2 X.K dGe) := by
  intro pins s σ H x y v u Q I rx ry h
  obtain ⟨F, S, M, dx, dy, QD, rep, ix, iy, hr, hq⟩ := h
  cases ix with
  | int i => cases iy with
    | int j => exact op_ge pins s σ H _ _ v u Q I rx ry ⟨i, j, rfl, rfl, hq _ _ _ S H hr (Same.refl _) rep (.bl _)⟩
    | _ => exact hr.elim
  | _ => exact hr.elim
theorem dop_is : OpR X (compareOp .Is) (liftR2 X.K dIs) := by
  intro pins s σ H x y v u Q I rx ry h
  obtain ⟨F, S, M, dx, dy, QD, rep, ix, iy, hr, hq⟩ := h
  cases iy with
  | non => exact op_isN pins s σ H _ _ v u Q I rx ry ⟨rfl, by rw [isNon_of ix]; exact hq _ _ _ S H hr (Same.refl _) rep (.bl _)⟩
  | _ => exact hr.elim
theorem dop_isnot : OpR X (compareOp .IsNot) (liftR2 X.K dIsNot) := by
  intro pins s σ H x y v u Q I rx ry h
  obtain ⟨F, S, M, dx, dy, QD, rep, ix, iy, hr, hq⟩ := h
  cases iy with
  | non => exact op_notN pins s σ H _ _ v u Q I rx ry ⟨rfl, by rw [isNon_of ix]; exact hq _ _ _ S H hr (Same.refl _) rep (.bl _)⟩
  | _ => exact hr.elim
def dNeg : DR1 := fun x M Q => match x with
  | .int i => Q (.int (-i)) M
  | _ => False
theorem dun_neg : UnR X (unaryOp .USub) (liftR1 X.K dNeg) := by
  intro pins s σ H x v Q I rx h
  obtain ⟨F, S, M, dx, QD, rep, ix, hr, hq⟩ := h
  cases ix with
  | int i => exact un_neg pins s σ H _ v Q I rx ⟨i, rfl, hq _ _ _ S H hr (Same.refl _) rep (.int _)⟩
  | _ => exact hr.elim
end
end DL

/-! DStmt: statements, loops, comprehensions, calls over trees. -/
namespace DL
open PySem PySem.Spec PyProof.Rows L2

/-! ### blocks and small statements -/
@[reducible] def dNext : DTS := fun D σ M => D.nx σ M
@[reducible] def dSeq (t u : DTS) : DTS := fun D σ M => t { D with nx := u D } σ M
@[reducible] def dSeqC (t u : DTS) : DTS := fun D σ M => ∃ P : DSt → Mem → Prop, t { D with nx := P } σ M ∧ ∀ σ' M', P σ' M' → u D σ' M'
@[reducible] def dBreak : DTS := fun D σ M => D.bk σ M
@[reducible] def dCont : DTS := fun D σ M => D.ct σ M
@[reducible] def dDrop (te : DTE) : DTS := fun D σ M => te σ M fun _ M1 => D.nx σ M1
@[reducible] def dRet (te : DTE) : DTS := fun D σ M => te σ M D.rt
@[reducible] def dRetN : DTS := fun D _ M => D.rt .non M
@[reducible] def dIfS (c : DTT) (t u : DTS) : DTS := fun D σ M => c σ M fun b M1 => (b = true → t D σ M1) ∧ (b = false → u D σ M1)
def dNever : DTS := fun _ _ _ => False
section
variable {X : Cx} {g : Gr} {st : Stmt} {rest : List Stmt} {t u : DTS} {e : Expr} {te : DTE} {pos : Pos}
theorem dss_nil : DSs X g [] dNext := ⟨pss_imp pss_nil fun D' σ H ⟨S, M, sd, DD, a, q, k⟩ => k.nx _ _ _ _ _ q (Same.refl _) a⟩
theorem dss_cons (h1 : DS X g st t) (h2 : DSs X g rest u) : DSs X g (st :: rest) (dSeq t u) := by
  refine ⟨pss_imp (pss_cons h1.run h2.run) fun D' σ H h => ?_⟩
  obtain ⟨S, M, sd, DD, a, q, k⟩ := h
  refine ⟨S, M, sd, _, a, q, ⟨fun sd1 M1 σ1 S1 H1 q1 e1 a1 => ?_, k.rt, k.bk, k.ct⟩⟩
  exact ⟨S1, M1, sd1, DD, a1, q1, k.mono e1⟩
/-- .. with a word of one's own between the two -/
theorem dss_cut (h1 : DS X g st t) (h2 : DSs X g rest u) : DSs X g (st :: rest) (dSeqC t u) := by
  refine ⟨pss_imp (pss_cons h1.run h2.run) fun D' σ H h => ?_⟩
  obtain ⟨S, M, sd, DD, a, ⟨P, q, n⟩, k⟩ := h
  refine ⟨S, M, sd, _, a, q, ⟨fun sd1 M1 σ1 S1 H1 q1 e1 a1 => ?_, k.rt, k.bk, k.ct⟩⟩
  exact ⟨S1, M1, sd1, DD, a1, n _ _ q1, k.mono e1⟩
theorem dss_one (h1 : DS X g st t) : DSs X g [st] t := ⟨pss_one h1.run⟩
theorem ds_pass : DS X g (.Pass pos) dNext := ⟨ps_imp ps_pass fun D' σ H ⟨S, M, sd, DD, a, q, k⟩ => k.nx _ _ _ _ _ q (Same.refl _) a⟩
theorem ds_break : DS X g (.Break pos) dBreak := ⟨ps_imp ps_break fun D' σ H ⟨S, M, sd, DD, a, q, k⟩ => k.bk _ _ _ _ _ q (Same.refl _) a⟩
theorem ds_cont : DS X g (.Continue pos) dCont := ⟨ps_imp ps_continue fun D' σ H ⟨S, M, sd, DD, a, q, k⟩ => k.ct _ _ _ _ _ q (Same.refl _) a⟩
theorem ds_expr (he : DE X g e te) (hs : swapsWith e none pos.line X.env = pure false := by rfl) : DS X g (.Expr e pos) (dDrop te) := by
  refine ⟨ps_imp (ps_expr he.run hs) fun D' σ H h => ?_⟩
  obtain ⟨S, M, sd, DD, a, q, k⟩ := h
  exact ⟨S, M, sd, _, a, q, fun d M1 v S1 H1 q1 e1 r1 i1 => k.nx _ _ _ _ _ q1 e1 (a.step e1 r1)⟩
theorem ds_ret (he : DE X g e te) : DS X g (.Return (some e) pos) (dRet te) := by
  refine ⟨ps_imp (ps_ret he.run) fun D' σ H h => ?_⟩
  obtain ⟨S, M, sd, DD, a, q, k⟩ := h
  exact ⟨S, M, sd, _, a, q, fun d M1 v S1 H1 q1 e1 r1 i1 => k.rt _ _ _ _ _ q1 e1 r1 i1⟩
theorem ds_retN : DS X g (.Return none pos) dRetN := ⟨ps_imp ps_retN fun D' σ H ⟨S, M, sd, DD, a, q, k⟩ => k.rt _ _ _ _ _ q (Same.refl _) a.rep .non⟩
theorem ds_if {c : Expr} {a b : List Stmt} {tc : DTT} (hc : DT X g c tc) (ha : DSs X g a t) (hb : DSs X g b u) : DS X g (.If c a b pos) (dIfS tc t u) := by
  refine ⟨ps_imp (ps_if hc.run ha.run hb.run) fun D' σ H h => ?_⟩
  obtain ⟨S, M, sd, DD, a, q, k⟩ := h
  refine ⟨S, M, sd, _, a, q, fun b M1 S1 H1 q1 e1 r1 => ?_⟩
  cases b with
  | true =>
    rw [if_pos rfl]
    exact ⟨S1, M1, sd, DD, a.step e1 r1, q1.1 rfl, k.mono e1⟩
  | false =>
    rw [if_neg Bool.false_ne_true]
    exact ⟨S1, M1, sd, DD, a.step e1 r1, q1.2 rfl, k.mono e1⟩
theorem ds_never : DS X g st dNever := ⟨ps_imp ps_never fun D' σ H ⟨S, M, sd, DD, a, q, k⟩ => q⟩
/-- a ghost step: what is known is said otherwise -/
theorem dss_ghost {sts : List Stmt} {t' : DTS} (h : DSs X g sts t) (i : ∀ S M sd σ H DD, At X.K g S M sd σ H → t' DD sd M → ∃ S' M' sd', Same S S' ∧ At X.K g S' M' sd' σ H ∧ t DD sd' M') : DSs X g sts t' := by
  refine ⟨pss_imp h.run fun D' σ H hh => ?_⟩
  obtain ⟨S, M, sd, DD, a, q, k⟩ := hh
  obtain ⟨S', M', sd', e, a', q'⟩ := i S M sd σ H DD a q
  exact ⟨S', M', sd', DD, a', q', k.mono e⟩
end

/-! ### targets, assignments -/
@[reducible] def dgName (i : Nat) : DTG := fun v σ M Q => Q (σ.set i (some v)) M
@[reducible] def dgNil : DTGs := fun vs σ M Q => vs = [] ∧ Q σ M
@[reducible] def dgCons (t : DTG) (u : DTGs) : DTGs := fun vs σ M Q => match vs with
  | v :: r => t v σ M fun σ' M' => u r σ' M' Q
  | [] => False
/-- (a, b, ..) = a tuple of that length -/
@[reducible] def dgTup (n : Nat) (t : DTGs) : DTG := fun v σ M Q => match v with
  | .tup ds => ds.length = n ∧ t ds σ M Q
  | _ => False
def dSetIx (o i v : D) (M : Mem) (Q : Mem → Prop) : Prop := ∃ a ds k j, o = .ref a ∧ i = .int k ∧ M a = some (.lst ds) ∧ ixN ds.length k = some j ∧ Q (mset M a (.lst (ds.set j v)))
@[reducible] def dgSub (to ti : DTE) : DTG := fun v σ M Q => to σ M fun o M1 => ti σ M1 fun i M2 => dSetIx o i v M2 fun M3 => Q σ M3
@[reducible] def dAsg (te : DTE) (gt : DTG) : DTS := fun D σ M => te σ M fun x M1 => gt x σ M1 D.nx
section
variable {X : Cx} {g : Gr} {pos : Pos}
theorem dg_name {i : Nat} {x : PySem.Str} (h : PG X (.Name x pos) (gName i)) : DG X g (.Name x pos) (dgName i) := ⟨pg_imp h fun v σ H Q ⟨S, M, sd, d, QD, a, iv, q, k⟩ =>
  k _ _ _ _ _ q (Same.refl _) ⟨a.base, a.rep, a.sl.set (v := some v) (d := some d) iv i⟩⟩
theorem dgs_nil : DGs X g [] dgNil := ⟨pgs_imp pgs_nil fun v σ H Q ⟨S, M, sd, ds, QD, a, iv, q, k⟩ => by
  obtain ⟨rfl, q⟩ := q
  cases iv
  exact ⟨rfl, k _ _ _ _ _ q (Same.refl _) a⟩⟩
theorem dgs_cons {e : Expr} {es : List Expr} {t : DTG} {u : DTGs} (h1 : DG X g e t) (h2 : DGs X g es u)
    (hs : (assignEach (e :: es) X.env).map (·.2) = assign e X.env :: (assignEach es X.env).map (·.2) := by rfl) : DGs X g (e :: es) (dgCons t u) := by
  refine ⟨pgs_imp (pgs_cons h1.run h2.run hs) fun v σ H Q h => ?_⟩
  obtain ⟨S, M, sd, ds, QD, a, iv, q, k⟩ := h
  cases iv with
  | nil => exact q.elim
  | cons i1 i2 =>
    refine ⟨_, _, rfl, S, M, sd, _, _, a, i1, q, fun sd1 M1 σ1 S1 H1 q1 e1 a1 => ?_⟩
    exact ⟨S1, M1, sd1, _, QD, a1, i2.mono e1, q1, fun sd2 M2 σ2 S2 H2 q2 e2 a2 => k _ _ _ _ _ q2 (e1.trans e2) a2⟩
theorem dg_tup {es : List Expr} {k : Nat} {t : DTGs} {n : Nat} (hc : X.calm = true) (h : DGs X g es t)
    (hn : (assignEach es X.env).length = n := by rfl) (hst : (assignEach es X.env).findIdx? (·.1) = none := by rfl) : DG X g (.Tuple es k pos) (dgTup n t) := by
  refine ⟨pg_imp (pg_tup hc h.run hn hst) fun v σ H Q hh => ?_⟩
  obtain ⟨S, M, sd, d, QD, a, iv, q, k⟩ := hh
  cases iv with
  | tup s l => exact ⟨_, _, rfl, sqT_mono a.rep.same s, by rw [l.length]; exact q.1, S, M, sd, _, QD, a, l, q.2, k⟩
  | _ => exact q.elim
theorem dg_sub {o i : Expr} {to ti : DTE} (ho : DE X g o to) (hi : DE X g i ti) (ha : ∀ v, assign (.Subscript o i pos) X.env v = (do
      let ov ← holding [v] (eval o X.env)
      let iv ← holding [v, ov] (eval i X.env)
      standAt pos
      holding [v, ov, iv] (setItem ov iv v)
      release [v, ov, iv] []) := by intro _; rfl) : DG X g (.Subscript o i pos) (dgSub to ti) := by
  refine ⟨pg_imp (pg_sub ho.run hi.run set_list ha) fun v σ H Q hh => ?_⟩
  obtain ⟨S, M, sd, d, QD, a, iv, q, k⟩ := hh
  refine ⟨S, M, sd, _, a, q, fun d1 M1 v1 S1 H1 q1 e1 r1 i1 => ?_⟩
  refine ⟨S1, M1, sd, _, a.step e1 r1, q1, fun d2 M2 v2 S2 H2 q2 e2 r2 i2 => ?_⟩
  obtain ⟨p, ds, kk, j, rfl, rfl, hm, hj, q3⟩ := q2
  cases i1
  cases i2
  obtain ⟨_, vs, hv, l⟩ := r2.cell p _ hm
  refine ⟨p, vs, kk, j, rfl, rfl, hv, by rw [l.length]; exact hj, ?_⟩
  have rw' := r2.write (o := .lst (vs.set j v)) hm (co' := .lst (ds.set j d)) ⟨_, upd_same, l.set ((iv.mono e1).mono e2) j⟩
  exact k _ _ _ _ _ q3 (e1.trans e2) ((a.step e1 r1).step e2 rw')
theorem ds_asg {tg e : Expr} {te : DTE} {gt : DTG} (he : DE X g e te) (hg : DG X g tg gt) (hs : swapsWithSole [tg] e pos.line X.env = pure false := by rfl) (hw : swappedStores [tg] e X.env = pure none := by rfl)
    (h1 : (assignEach [tg] X.env).map (·.2) = [assign tg X.env] := by rfl) : DS X g (.Assign [tg] e pos) (dAsg te gt) := by
  refine ⟨ps_imp (ps_asg he.run hg.run hs hw h1) fun D' σ H h => ?_⟩
  obtain ⟨S, M, sd, DD, a, q, k⟩ := h
  refine ⟨S, M, sd, _, a, q, fun d M1 v S1 H1 q1 e1 r1 i1 => ?_⟩
  exact ⟨S1, M1, sd, d, _, a.step e1 r1, i1, q1, fun sd2 M2 σ2 S2 H2 q2 e2 a2 => k.nx _ _ _ _ _ q2 (e1.trans e2) a2⟩
/-- name = value -/
theorem ds_set {i : Nat} {x : PySem.Str} {e : Expr} {te : DTE} {pos' : Pos} (hN : X.N.Nodup) (hi : X.N[i]? = some x) (hx : Loc X.env.scope x) (he : DE X g e te) (hs : swapsWith e (some (.Name x pos')) pos.line X.env = pure false := by rfl)
    (hf : X.fn x = true ∨ X.env.scope.names.lookup x = some .local := by first | exact .inl rfl | exact .inr rfl | assumption) :
    DS X g (.Assign [.Name x pos'] e pos) (dAsg te (dgName i)) := by
  refine ⟨ps_imp (ps_set hN hi hx he.run hs hf) fun D' σ H h => ?_⟩
  obtain ⟨S, M, sd, DD, a, q, k⟩ := h
  refine ⟨S, M, sd, _, a, q, fun d M1 v S1 H1 q1 e1 r1 i1 => ?_⟩
  exact k.nx _ _ _ _ _ q1 e1 ⟨a.base.trans e1, r1, (a.sl.mono e1).set (v := some v) (d := some d) i1 i⟩
end

/-! ### while -/
@[reducible] def dWhile (c : DTT) (tb : DTS) : DTS := fun D σ M => ∃ W : Nat → DSt → Mem → Prop, (∃ m, W m σ M) ∧ ∀ m σ M, W m σ M →
  c σ M fun b M1 => (b = true → ∃ N : DSt → Mem → Prop, (∀ σ' M', N σ' M' → ∃ m', m' < m ∧ W m' σ' M') ∧ tb { D with nx := N, ct := N, bk := D.nx } σ M1) ∧ (b = false → D.nx σ M1)
section
variable {X : Cx} {g : Gr} {pos : Pos}
theorem ds_while {c : Expr} {body : List Stmt} {tc : DTT} {tb : DTS} (hp : PassesOwn (model X.prog X.w) X.A X.env X.xe) (hc : DT X g c tc) (hb : DSs X g body tb) : DS X g (.While c body [] pos) (dWhile tc tb) := by
  refine ⟨ps_imp (ps_while hp hc.run hb.run) fun D' σ H h => ?_⟩
  obtain ⟨S, M, sd, DD, a, ⟨W, ⟨m0, w0⟩, turn⟩, k⟩ := h
  refine ⟨fun m σ H => ∃ S' M' sd', Same S S' ∧ At X.K g S' M' sd' σ H ∧ W m sd' M', ⟨m0, S, M, sd, Same.refl _, a, w0⟩, ?_⟩
  rintro m σ1 H1 ⟨S1, M1, sd1, e1, a1, w1⟩
  refine ⟨S1, M1, sd1, _, a1, turn m sd1 M1 w1, fun b M2 S2 H2 q2 e2 r2 => ?_⟩
  cases b with
  | true =>
    rw [if_pos rfl]
    obtain ⟨N, hN, q⟩ := q2.1 rfl
    refine ⟨fun σ' H' => ∃ S' M' sd', Same S S' ∧ At X.K g S' M' sd' σ' H' ∧ N sd' M', ?_, S2, M2, sd1, _, a1.step e2 r2, q, ?_⟩
    · rintro σ' H' ⟨S', M', sd', e', a', n'⟩
      obtain ⟨m', hm, w'⟩ := hN _ _ n'
      exact ⟨m', hm, S', M', sd', e', a', w'⟩
    · exact ⟨fun sd' M' σ' S' H' q' e' a' => ⟨S', M', sd', (e1.trans e2).trans e', a', q'⟩, fun d M' v S' H' q' e' r' i' => k.rt _ _ _ _ _ q' ((e1.trans e2).trans e') r' i',
        fun sd' M' σ' S' H' q' e' a' => k.nx _ _ _ _ _ q' ((e1.trans e2).trans e') a', fun sd' M' σ' S' H' q' e' a' => ⟨S', M', sd', (e1.trans e2).trans e', a', q'⟩⟩
  | false =>
    rw [if_neg Bool.false_ne_true]
    exact k.nx _ _ _ _ _ (q2.2 rfl) (e1.trans e2) (a1.step e2 r2)
end

/-! ### what is walked -/
/-- what must hold of the cells as long as the walk goes on -/
abbrev DGd := Option (Mem → Prop)
@[reducible] def DGd.ok : DGd → Mem → Prop
  | none, _ => True
  | some c, M => c M
abbrev DTI := DSt → Mem → (List D → DGd → Mem → Prop) → Prop
structure IterOf (K : PySem.W.Frag) (F S : Hp) (C : DGd) (J : It) (ds : List D) : Prop where
  go : ∀ i S1 M H, Same S S1 → Rep K F S1 M H → C.ok M → i < ds.length → J.go i H
  stop : ∀ i S1 M H, Same S S1 → Rep K F S1 M H → C.ok M → ds.length ≤ i → J.stop i H
  yld : ∀ i S1 M H x H', Same S S1 → Rep K F S1 M H → C.ok M → i < ds.length → J.yld i H x H' → ∃ S2 d, Same S1 S2 ∧ Rep K F S2 M H' ∧ ds[i]? = some d ∧ Is K S2 x d
def liftI (K : PySem.W.Frag) (g : Gr) (w : DTI) : TI := fun σ H R => ∃ S M sd, ∃ QD : List D → DGd → Mem → Prop, At K g S M sd σ H ∧ w sd M QD ∧
  ∀ ds C M' S' H' J, QD ds C M' → Same S S' → Rep K g.F S' M' H' → (∀ F, (∀ a o, g.F a = some o → F a = some o) → IterOf K F S' C J ds) → R J H'
structure DI (X : Cx) (g : Gr) (tg e : Expr) (w : DTI) : Prop where
  run : PI X tg e (liftI X.K g w)
theorem pi_imp {X : Cx} {tg e : Expr} {t t' : TI} (h : PI X tg e t) (i : ∀ σ H R, t' σ H R → t σ H R) : PI X tg e t' := ⟨fun pins s σ H R I w => h.run pins s σ H R I (i _ _ _ w)⟩
/-- a list, a tuple -/
def dItems (x : D) (M : Mem) (Q : List D → DGd → Mem → Prop) : Prop := match x with
  | .lst ds => Q ds none M
  | .ro ds => Q ds none M
  | _ => False
@[reducible] def diList (te : DTE) : DTI := fun σ M Q => te σ M fun x M1 => dItems x M1 Q
@[reducible] def diTup (te : DTE) : DTI := fun σ M Q => te σ M fun x M1 => match x with
  | .tup ds => Q ds none M1
  | _ => False
theorem iter_list {K : PySem.W.Frag} {F S : Hp} {a : Addr} {vs : List V} {ds : List D} (s : SqL K S a vs) (l : IsL K S vs ds) (inj : ∀ H, Same S H → ∀ ys, SqL K H a ys → ys = vs) : IterOf K F S none (Itl K a) ds where
  go := fun i S1 M H e r _ hi => by
    have hl := l.length
    exact ⟨vs, vs[i]'(by omega), (e.trans r.same).seq s, by simp⟩
  stop := fun i S1 M H e r _ hi => ⟨vs, (e.trans r.same).seq s, by rw [l.length]; exact hi⟩
  yld := fun i S1 M H x H' e r _ hi y => by
    obtain ⟨rfl, y⟩ := y
    have hx := y vs ((e.trans r.same).seq s)
    obtain ⟨d, hd, id⟩ := l.get' hx
    exact ⟨S1, d, Same.refl _, r, hd, id.mono e⟩
section
variable {X : Cx} {g : Gr} {tg l : Expr} {tl : DTE} {pos : Pos}
theorem di_list (hl : DE X g l tl) : DI X g tg l (diList tl) := by
  refine ⟨pi_imp (pi_list hl.run) fun σ H R h => ?_⟩
  obtain ⟨S, M, sd, QD, a, q, k⟩ := h
  refine ⟨S, M, sd, _, a, q, fun d M1 v S1 H1 q1 e1 r1 i1 => ?_⟩
  have main : ∀ {b : Addr} {vs : List V} {ds : List D}, SqL X.K S1 b vs → IsL X.K S1 vs ds → QD ds none M1 → ∃ a, V.ref b = .ref a ∧ (∃ xs, SqL X.K H1 a xs) ∧ R (Itl X.K a) H1 := fun {b vs ds} s l q =>
    ⟨b, rfl, ⟨vs, r1.same.seq s⟩, k ds none M1 S1 H1 _ q e1 r1 fun F _ => ⟨fun i S2 M H e r _ hi => by
      have hl := l.length
      exact ⟨vs, vs[i]'(by omega), (e.trans r.same).seq s, by simp⟩,
      fun i S2 M H e r _ hi => ⟨vs, (e.trans r.same).seq s, by rw [l.length]; exact hi⟩,
      fun i S2 M H x H' e r _ hi y => by
        obtain ⟨rfl, y⟩ := y
        have hx := y vs ((e.trans r.same).seq s)
        obtain ⟨d, hd, id⟩ := l.get' hx
        exact ⟨S2, d, Same.refl _, r, hd, id.mono e⟩⟩⟩
  cases i1 with
  | lst s l => exact main (SqL.of s) l q1
  | ro s l => exact main s l q1
  | _ => exact q1.elim
theorem di_tup (hl : DE X g l tl) : DI X g tg l (diTup tl) := by
  refine ⟨pi_imp (pi_tup hl.run) fun σ H R h => ?_⟩
  obtain ⟨S, M, sd, QD, a, q, k⟩ := h
  refine ⟨S, M, sd, _, a, q, fun d M1 v S1 H1 q1 e1 r1 i1 => ?_⟩
  cases i1 with
  | @tup b vs ds s l =>
    exact ⟨b, rfl, ⟨vs, sqT_mono r1.same s⟩, k ds none M1 S1 H1 _ q1 e1 r1 fun F _ => ⟨fun i S2 M H e r _ hi => by
      have hl := l.length
      exact ⟨vs, vs[i]'(by omega), sqT_mono (e.trans r.same) s, by simp⟩,
      fun i S2 M H e r _ hi => ⟨vs, sqT_mono (e.trans r.same) s, by rw [l.length]; exact hi⟩,
      fun i S2 M H x H' e r _ hi y => by
        obtain ⟨rfl, y⟩ := y
        have hx := y vs (sqT_mono (e.trans r.same) s)
        obtain ⟨d, hd, id⟩ := l.get' hx
        exact ⟨S2, d, Same.refl _, r, hd, id.mono e⟩⟩⟩
  | _ => exact q1.elim
def rgD (lo : Int) (n : Nat) : List D := (List.range n).map fun (i : Nat) => D.int (lo + (i : Int))
theorem rgD_get {lo : Int} {n i : Nat} {d : D} (h : (rgD lo n)[i]? = some d) : i < n ∧ d = .int (lo + i) := by
  unfold rgD at h
  rw [List.getElem?_map] at h
  by_cases hi : i < n
  · rw [List.getElem?_range hi] at h
    exact ⟨hi, (Option.some.inj h).symm⟩
  · rw [List.getElem?_eq_none (by simpa using Nat.le_of_not_lt hi)] at h
    cases h
theorem rgD_len {lo : Int} {n : Nat} : (rgD lo n).length = n := by simp [rgD]
theorem iter_range {K : PySem.W.Frag} {F S : Hp} {lo : Int} {n : Nat} : IterOf K F S none (Itr lo n) (rgD lo n) where
  go := fun i S1 M H e r _ hi => by rw [rgD_len] at hi; exact hi
  stop := fun i S1 M H e r _ hi => by rw [rgD_len] at hi; exact hi
  yld := fun i S1 M H x H' e r _ hi y => by
    obtain ⟨rfl, rfl⟩ := y
    rw [rgD_len] at hi
    refine ⟨S1, .int (lo + i), Same.refl _, r, ?_, .int _⟩
    unfold rgD
    rw [List.getElem?_map, List.getElem?_range hi]
    rfl
def RgOk62 (j : Int) : Prop := -(2 ^ 62) ≤ j ∧ j < 2 ^ 62
@[reducible] def diRange1 (ta : DTA) : DTI := fun σ M Q => ta σ M fun vs M1 => match vs with
  | [.int j] => RgOk62 j ∧ Q (rgD 0 j.toNat) none M1
  | _ => False
@[reducible] def diRange2 (ta : DTA) : DTI := fun σ M Q => ta σ M fun vs M1 => match vs with
  | [.int i, .int j] => RgOk62 i ∧ RgOk62 j ∧ Q (rgD i (j - i).toNat) none M1
  | _ => False
theorem isL1 {K : PySem.W.Frag} {S : Hp} {vs : List V} {d : D} (h : IsL K S vs [d]) : ∃ v, vs = [v] ∧ Is K S v d := by
  cases h with
  | cons a b => cases b; exact ⟨_, rfl, a⟩
theorem isL2 {K : PySem.W.Frag} {S : Hp} {vs : List V} {d e : D} (h : IsL K S vs [d, e]) : ∃ v w, vs = [v, w] ∧ Is K S v d ∧ Is K S w e := by
  cases h with
  | cons a b =>
    obtain ⟨w, rfl, i⟩ := isL1 b
    exact ⟨_, _, rfl, a, i⟩
theorem diRange1_inv {Q : List D → DGd → Mem → Prop} {vs : List D} {M : Mem} (h : match vs with
  | [.int j] => RgOk62 j ∧ Q (rgD 0 j.toNat) none M
  | _ => False) : ∃ j, vs = [.int j] ∧ RgOk62 j ∧ Q (rgD 0 j.toNat) none M := by
  split at h
  · exact ⟨_, rfl, h⟩
  · exact h.elim
theorem diRange2_inv {Q : List D → DGd → Mem → Prop} {vs : List D} {M : Mem} (h : match vs with
  | [.int i, .int j] => RgOk62 i ∧ RgOk62 j ∧ Q (rgD i (j - i).toNat) none M
  | _ => False) : ∃ i j, vs = [.int i, .int j] ∧ RgOk62 i ∧ RgOk62 j ∧ Q (rgD i (j - i).toNat) none M := by
  split at h
  · exact ⟨_, _, rfl, h⟩
  · exact h.elim
theorem di_range1 {a : Expr} {ta : DTA} {p : Pos} (hg : Gl X "range") (hm : X.mg "range" = none) (ha : DA X g [a] ta) (hs : starEach [a] X.env = [(false, eval a X.env)] := by rfl) : DI X g tg (.Call (.Name "range" p) [a] [] pos) (diRange1 ta) := by
  refine ⟨pi_imp (pi_range1 hg hm ha.run hs) fun σ H R h => ?_⟩
  obtain ⟨S, M, sd, QD, a, q, k⟩ := h
  refine ⟨S, M, sd, _, a, q, fun ds M1 vs S1 H1 q1 e1 r1 i1 => ?_⟩
  obtain ⟨j, rfl, b, q⟩ := diRange1_inv q1
  obtain ⟨v, rfl, iv⟩ := isL1 i1
  cases iv
  exact ⟨j, rfl, b.1, b.2, k _ none M1 S1 H1 _ q e1 r1 fun F _ => iter_range⟩
theorem di_range2 {a b : Expr} {ta : DTA} {p : Pos} (hg : Gl X "range") (hm : X.mg "range" = none) (ha : DA X g [a, b] ta) (hs : starEach [a, b] X.env = [(false, eval a X.env), (false, eval b X.env)] := by rfl) (hs2 : starEach [b] X.env = [(false, eval b X.env)] := by rfl) :
    DI X g tg (.Call (.Name "range" p) [a, b] [] pos) (diRange2 ta) := by
  refine ⟨pi_imp (pi_range2 hg hm ha.run hs hs2) fun σ H R h => ?_⟩
  obtain ⟨S, M, sd, QD, a, q, k⟩ := h
  refine ⟨S, M, sd, _, a, q, fun ds M1 vs S1 H1 q1 e1 r1 i1 => ?_⟩
  obtain ⟨i, j, rfl, b, c, q⟩ := diRange2_inv q1
  obtain ⟨v, w, rfl, iv, iw⟩ := isL2 i1
  cases iv
  cases iw
  exact ⟨i, j, rfl, ⟨b.1, b.2, c.1, c.2⟩, k _ none M1 S1 H1 _ q e1 r1 fun F _ => iter_range⟩
end

/-! ### for -/
/-- the turns of a walk -/
@[reducible] def dTurns (gt : DTG) (tb : DTS) (D : DEnds) (ds : List DL.D) (σ : DSt) (M1 : Mem) (Pv : Nat → DSt → Mem → Prop) : Prop := Pv 0 σ M1 ∧
  (∀ i d σ M, ds[i]? = some d → Pv i σ M → gt d σ M fun σ2 M2 => tb { D with nx := Pv (i + 1), ct := Pv (i + 1), bk := D.nx } σ2 M2) ∧ ∀ σ M, Pv ds.length σ M → D.nx σ M
@[reducible] def dFor (wi : DTI) (gt : DTG) (tb : DTS) : DTS := fun D σ M => wi σ M fun ds C M1 => match C with
  | none => ∃ Pv : Nat → DSt → Mem → Prop, dTurns gt tb D ds σ M1 Pv
  | some c => ∃ Pv : Nat → DSt → Mem → Prop, (∀ i σ M, Pv i σ M → c M) ∧ dTurns gt tb D ds σ M1 Pv
section
variable {X : Cx} {g : Gr} {pos : Pos}
theorem ds_for {tg iter : Expr} {body : List Stmt} {wi : DTI} {gt : DTG} {tb : DTS} (hp : PassesOwn (model X.prog X.w) X.A X.env X.xe) (hc : X.calm = true) (hi : DI X g tg iter wi) (hg : DG X g tg gt) (hb : DSs X g body tb)
    (hs : ∀ x, foldedSetIterable iter X.env x = pure x := by intro _; rfl) : DS X g (.For tg iter body [] pos) (dFor wi gt tb) := by
  refine ⟨ps_imp (ps_for hp hc hi.run hg.run hb.run hs) fun D' σ H h => ?_⟩
  obtain ⟨S, M, sd, DD, a, q, k⟩ := h
  refine ⟨S, M, sd, _, a, q, fun ds C M1 S1 H1 J q1 e1 r1 it => ?_⟩
  have it := it g.F fun _ _ z => z
  have q1' : ∃ Pv : Nat → DSt → Mem → Prop, (∀ i σ M, Pv i σ M → C.ok M) ∧ dTurns gt tb DD ds sd M1 Pv := by
    cases C with
    | none =>
      obtain ⟨Pv, q⟩ := q1
      exact ⟨Pv, fun _ _ _ _ => trivial, q⟩
    | some c => exact q1
  obtain ⟨Pv, gd, p0, step, done⟩ := q1'
  have a1 := a.step e1 r1
  refine ⟨fun i m σ H => m = ds.length - i ∧ i ≤ ds.length ∧ ∃ S' M' sd', Same S1 S' ∧ At X.K g S' M' sd' σ H ∧ Pv i sd' M', ⟨ds.length, by simp, Nat.zero_le _, S1, M1, sd, Same.refl _, a1, p0⟩, ?_⟩
  rintro i m σ2 H2 ⟨rfl, hi, S2, M2, sd2, e2, a2, p2⟩
  by_cases hlt : i < ds.length
  · refine .inr ⟨it.go i S2 M2 H2 e2 a2.rep (gd _ _ _ p2) hlt, fun σ' H' => ∃ S' M' sd', Same S1 S' ∧ At X.K g S' M' sd' σ' H' ∧ Pv (i + 1) sd' M', fun σ' H' ⟨S', M', sd', e', a', p'⟩ => ⟨ds.length - (i + 1), by omega, rfl, hlt, S', M', sd', e', a', p'⟩, fun x H3 y => ?_⟩
    obtain ⟨S3, d, e3, r3, hd, i3⟩ := it.yld i S2 M2 H2 x H3 e2 a2.rep (gd _ _ _ p2) hlt y
    refine ⟨S3, M2, sd2, d, _, a2.step e3 r3, i3, step i d sd2 M2 hd p2, fun sd4 M4 σ4 S4 H4 q4 e4 a4 => ?_⟩
    refine ⟨S4, M4, sd4, _, a4, q4, ?_⟩
    have e5 : Same S1 S4 := (e2.trans e3).trans e4
    exact ⟨fun sd' M' σ' S' H' q' e' a' => ⟨S', M', sd', e5.trans e', a', q'⟩, fun d M' v S' H' q' e' r' i' => k.rt _ _ _ _ _ q' ((e1.trans e5).trans e') r' i',
      fun sd' M' σ' S' H' q' e' a' => k.nx _ _ _ _ _ q' ((e1.trans e5).trans e') a', fun sd' M' σ' S' H' q' e' a' => ⟨S', M', sd', e5.trans e', a', q'⟩⟩
  · have e : i = ds.length := by omega
    subst e
    exact .inl ⟨it.stop _ S2 M2 H2 e2 a2.rep (gd _ _ _ p2) (Nat.le_refl _), k.nx _ _ _ _ _ (done sd2 M2 p2) (e1.trans e2) a2⟩
end

/-! ### comprehensions -/
/-- the target of a comprehension: a slot, a tuple of slots -/
inductive Tg where
  | nm (i : Nat) | tp (is : List Nat)
def gNames : List Nat → TGs
  | [] => gNil
  | i :: is => gCons (gName i) (gNames is)
def Tg.h (K : PySem.W.Frag) : Tg → TG
  | .nm i => gName i
  | .tp is => gTup K is.length (gNames is)
def setAll : DSt → List Nat → List D → DSt
  | σ, i :: is, d :: ds => setAll (σ.set i (some d)) is ds
  | σ, _, _ => σ
def Tg.d : Tg → DTG
  | .nm i => fun v σ M Q => Q (σ.set i (some v)) M
  | .tp is => fun v σ M Q => match v with
    | .tup ds => ds.length = is.length ∧ Q (setAll σ is ds) M
    | _ => False
def Tg.slots : Tg → List Nat
  | .nm i => [i]
  | .tp is => is
def dwipe (σ : DSt) : List Nat → DSt
  | [] => σ
  | v :: vs => (dwipe σ vs).set v none
theorem IsO.wipe {K : PySem.W.Frag} {S : Hp} {σ : L2.St} {sd : DSt} (h : IsO K S σ sd) : ∀ vs : List Nat, IsO K S (L2.wipe σ vs) (dwipe sd vs)
  | [] => h
  | v :: vs => by
    unfold L2.wipe dwipe
    exact (IsO.wipe h vs).set (v := none) (d := none) trivial v
theorem wipe_set {σ : L2.St} {i : Nat} {o : Option V} : ∀ {vs : List Nat}, i ∈ vs → L2.wipe (σ.set i o) vs = L2.wipe σ vs
  | [], h => by simp at h
  | v :: vs, h => by
    unfold L2.wipe
    by_cases hv : i ∈ vs
    · rw [wipe_set hv]
    · have e : i = v := by
        rcases List.mem_cons.mp h with e | e
        · exact e
        · exact absurd e hv
      subst e
      have key : ∀ (vs : List Nat), i ∉ vs → L2.wipe (σ.set i o) vs = (L2.wipe σ vs).set i o := by
        intro vs
        induction vs with
        | nil => intro _; rfl
        | cons w ws ih =>
          intro hn
          have h1 : i ≠ w := fun z => hn (by simp [z])
          have h2 : i ∉ ws := fun z => hn (by simp [z])
          unfold L2.wipe
          rw [ih h2, List.set_comm _ _ h1]
      rw [key vs hv, List.set_set]
theorem wipe_wipe (σ : L2.St) : ∀ (vs : List Nat), L2.wipe (L2.wipe σ vs) vs = L2.wipe σ vs := by
  intro vs
  have gen : ∀ (ws : List Nat) (τ : L2.St), (∀ v ∈ ws, v ∈ vs) → L2.wipe (L2.wipe τ ws) vs = L2.wipe τ vs := by
    intro ws
    induction ws with
    | nil => intro τ _; rfl
    | cons w ws ih =>
      intro τ h
      show L2.wipe ((L2.wipe τ ws).set w none) vs = L2.wipe τ vs
      rw [wipe_set (h w (by simp))]
      exact ih τ fun v hv => h v (by simp [hv])
  exact gen vs σ fun _ h => h
theorem names_h {K : PySem.W.Frag} {S : Hp} {vs0 : List Nat} {σ0 : L2.St} {H : Hp} {Q : L2.St → Hp → Prop} : ∀ {is : List Nat} {vs : List V} {ds : List D} {σ : L2.St} {sd : DSt}, (∀ i ∈ is, i ∈ vs0) → IsL K S vs ds → ds.length = is.length → IsO K S σ sd → L2.wipe σ vs0 = L2.wipe σ0 vs0 →
    (∀ σ', IsO K S σ' (setAll sd is ds) → L2.wipe σ' vs0 = L2.wipe σ0 vs0 → Q σ' H) → gNames is vs σ H Q
  | [], _, _, σ, sd, _, l, hl, o, hw, k => by
    cases l with
    | nil => exact ⟨rfl, k σ o hw⟩
    | cons a b => simp at hl
  | i :: is, _, _, σ, sd, hm, l, hl, o, hw, k => by
    cases l with
    | nil => simp at hl
    | @cons v vs d ds a b =>
      refine ⟨v, vs, rfl, ?_⟩
      exact names_h (is := is) (fun j hj => hm j (by simp [hj])) b (by simpa using hl) (o.set (v := some v) (d := some d) a i) (by rw [wipe_set (hm i (by simp))]; exact hw) k
/-- what a comprehension's target stores -/
theorem Tg.run {K : PySem.W.Frag} {F S H : Hp} {M : Mem} {vs0 : List Nat} {σ : L2.St} {sd : DSt} {x : V} {d : D} {QD : DSt → Mem → Prop} {Q : L2.St → Hp → Prop} (t : Tg) (ht : ∀ i ∈ t.slots, i ∈ vs0) (r : Rep K F S M H) (i : Is K S x d) (o : IsO K S σ sd)
    (h : t.d d (dwipe sd vs0) M QD) (k : ∀ σ' sd', IsO K S σ' sd' → QD sd' M → L2.wipe σ' vs0 = L2.wipe σ vs0 → Q σ' H) : t.h K x (L2.wipe σ vs0) H Q := by
  have ow := o.wipe vs0
  cases t with
  | nm j => exact k _ _ (ow.set (v := some x) (d := some d) i j) h (by rw [wipe_set (ht j (by simp [Tg.slots])), wipe_wipe])
  | tp is =>
    cases i with
    | tup s l =>
      obtain ⟨h1, h2⟩ := h
      refine ⟨_, _, rfl, sqT_mono r.same s, by rw [l.length]; exact h1, ?_⟩
      exact names_h ht l h1 ow (wipe_wipe _ _) fun σ' o' hw => k σ' _ o' h2 hw
    | _ => exact h.elim
@[reducible] def dYes : DTT := fun _ M Q => Q true M
/-- tests of a comprehension -/
structure DTs (X : Cx) (g : Gr) (es : List Expr) (t : DTT) : Prop where
  run : PTs X es (liftT X.K g t)
theorem pts_imp {X : Cx} {e : List Expr} {t t' : TT} (h : PTs X e t) (i : ∀ σ H Q, t' σ H Q → t σ H Q) : PTs X e t' := ⟨fun pins s σ H Q I w => h.run pins s σ H Q I (i _ _ _ w)⟩
end DL

/-! DComp: comprehensions over trees. -/
namespace DL
open PySem PySem.Spec PyProof.Rows L2
section
variable {K : PySem.W.Frag} {F S H : Hp} {M : Mem} {p : Addr} {o u : HO}
theorem noX_lst {vs : List V} : NoX (.lst vs) := ⟨(fun _ z => nomatch z), (fun z => nomatch z)⟩
theorem Rep.hide (r : Rep K F S M H) (h : H p = none) (nx : NoX o := by exact noX_lst) : Rep K (upd F p o) S M (upd H p o) where
  same := r.same.trans (same_upd h)
  cell := (r.junk (o := o) h).cell
  hid := fun a v e => by
    by_cases hb : a = p
    · subst hb
      rw [upd_same] at e; cases e
      exact ⟨r.freeS h, r.freeM h, upd_same⟩
    · rw [upd_ne hb] at e
      obtain ⟨h1, h2, h3⟩ := r.hid a v e
      exact ⟨h1, h2, by rw [upd_ne hb]; exact h3⟩
  sown := r.sown
  fl := fun a v e => by
    by_cases hb : a = p
    · subst hb
      rw [upd_same] at e; cases e
      exact nx
    · rw [upd_ne hb] at e
      exact r.fl a v e
theorem Rep.rehide (r : Rep K (upd F p o) S M H) (nx : NoX u := by exact noX_lst) : Rep K (upd F p u) S M (upd H p u) where
  same := fun b v e => by
    have hne : b ≠ p := fun z => by subst z; rw [(r.hid b o upd_same).1] at e; cases e
    rw [upd_ne hne]; exact r.same b v e
  cell := fun a co e => by
    have hne : a ≠ p := fun z => by subst z; rw [(r.hid a o upd_same).2.1] at e; cases e
    obtain ⟨h1, h2⟩ := r.cell a co e
    refine ⟨h1, h2.mono (Same.refl _) (keep_upd hne fun u q => ?_)⟩
    have nx := r.fl p o upd_same
    rw [(r.hid p _ upd_same).2.2] at q
    cases q
    exact nx
  hid := fun a v e => by
    by_cases hb : a = p
    · subst hb
      rw [upd_same] at e; cases e
      obtain ⟨h1, h2, _⟩ := r.hid a o upd_same
      exact ⟨h1, h2, upd_same⟩
    · rw [upd_ne hb] at e
      obtain ⟨h1, h2, h3⟩ := r.hid a v (by rw [upd_ne hb]; exact e)
      exact ⟨h1, h2, by rw [upd_ne hb]; exact h3⟩
  sown := r.sown
  fl := fun a v e => by
    by_cases hb : a = p
    · subst hb
      rw [upd_same] at e; cases e
      exact nx
    · rw [upd_ne hb] at e
      exact r.fl a v (by rw [upd_ne hb]; exact e)
theorem Rep.unfl (r : Rep K (upd F p o) S M H) (hF : F p = none) : ∀ a v, F a = some v → NoX v := fun a v e => r.fl a v (by rw [upd_ne (ne_of_none e hF)]; exact e)
theorem Rep.unhide (r : Rep K (upd F p o) S M H) (hF : F p = none) : Rep K F (upd S p o) M H ∧ Same S (upd S p o) := by
  obtain ⟨h1, h2, h3⟩ := r.hid p o upd_same
  have e : Same S (upd S p o) := same_upd h1
  refine ⟨⟨fun b v q => ?_, fun a co q => ?_, fun a v q => ?_, own_upd r.sown fun x z => ?_, r.unfl hF⟩, e⟩
  · by_cases hb : b = p
    · subst hb; rw [upd_same] at q; cases q; exact h3
    · rw [upd_ne hb] at q; exact r.same b v q
  · have hne : a ≠ p := fun z => by subst z; rw [h2] at q; cases q
    obtain ⟨g1, g2⟩ := r.cell a co q
    exact ⟨by rw [upd_ne hne]; exact g1, g2.base e⟩
  · have hne : a ≠ p := ne_of_none q hF
    obtain ⟨g1, g2, g3⟩ := r.hid a v (by rw [upd_ne hne]; exact q)
    exact ⟨by rw [upd_ne hne]; exact g1, g2, g3⟩
  · exact (r.fl p o upd_same).1 x z
/-- .. as a cell -/
theorem Rep.uncell {vs : List V} {ds : List D} (r : Rep K (upd F p (.lst vs)) S M H) (hF : F p = none) (l : IsL K S vs ds) : Rep K F S (mset M p (.lst ds)) H ∧ M p = none := by
  obtain ⟨h1, h2, h3⟩ := r.hid p _ upd_same
  refine ⟨⟨r.same, fun a co q => ?_, fun a v q => ?_, r.sown, r.unfl hF⟩, h2⟩
  · by_cases hb : a = p
    · subst hb; rw [mset_same] at q; cases q; exact ⟨h1, vs, h3, l⟩
    · rw [mset_ne hb] at q; exact r.cell a co q
  · have hne : a ≠ p := ne_of_none q hF
    obtain ⟨g1, g2, g3⟩ := r.hid a v (by rw [upd_ne hne]; exact q)
    exact ⟨g1, by rw [mset_ne hne]; exact g2, g3⟩
end
def liftEx (K : PySem.W.Frag) (t : DTE) : TE := fun σ H Q => ∃ g, liftE K g t σ H Q
def liftTx (K : PySem.W.Frag) (t : DTT) : TT := fun σ H Q => ∃ g, liftT K g t σ H Q
theorem pe_ex {X : Cx} {e : Expr} {t : DTE} (h : ∀ g, DE X g e t) : PE X e (liftEx X.K t) := ⟨fun pins s σ H Q I ⟨g, w⟩ => (h g).run.run pins s σ H Q I w⟩
theorem pts_ex {X : Cx} {e : List Expr} {t : DTT} (h : ∀ g, DTs X g e t) : PTs X e (liftTx X.K t) := ⟨fun pins s σ H Q I ⟨g, w⟩ => (h g).run.run pins s σ H Q I w⟩
theorem dts_nil {X : Cx} {g : Gr} : DTs X g [] dYes := ⟨pts_imp pts_nil fun σ H Q ⟨S, M, sd, QD, a, q, k⟩ => k _ _ _ _ q (Same.refl _) a.rep⟩
theorem dts_one {X : Cx} {g : Gr} {c : Expr} {t : DTT} (h : DT X g c t) : DTs X g [c] t := ⟨pts_one h.run⟩

@[reducible] def dGoes (tg : Tg) (tt : DTT) (te : DTE) (vs : List Nat) (Q : List D → Mem → Prop) (ds : List D) (σ : DSt) (M1 : Mem) (Pv : Nat → List D → Mem → Prop) : Prop := Pv 0 [] M1 ∧
  (∀ i acc d M, ds[i]? = some d → acc.length ≤ i → Pv i acc M → tg.d d (dwipe σ vs) M fun σ2 M2 => tt σ2 M2 fun b M3 => (b = true → te σ2 M3 fun y M4 => Pv (i + 1) (acc ++ [y]) M4) ∧ (b = false → Pv (i + 1) acc M3)) ∧
  ∀ acc M, acc.length ≤ ds.length → Pv ds.length acc M → Q acc M
/-- what a comprehension gathers -/
def dGather (wi : DTI) (tg : Tg) (tt : DTT) (te : DTE) (vs : List Nat) : DSt → Mem → (List D → Mem → Prop) → Prop := fun σ M Q => wi σ M fun ds C M1 => ds.length ≤ sizeLine ∧ match C with
  | none => ∃ Pv : Nat → List D → Mem → Prop, dGoes tg tt te vs Q ds σ M1 Pv
  | some c => ∃ Pv : Nat → List D → Mem → Prop, (∀ i acc M, Pv i acc M → c M) ∧ dGoes tg tt te vs Q ds σ M1 Pv
@[reducible] def dLc (wi : DTI) (tg : Tg) (tt : DTT) (te : DTE) (vs : List Nat) : DTE := fun σ M Q => dGather wi tg tt te vs σ M fun acc M' => Q (.lst acc) M'
@[reducible] def dLcC (wi : DTI) (tg : Tg) (tt : DTT) (te : DTE) (vs : List Nat) : DTE := fun σ M Q => dGather wi tg tt te vs σ M fun acc M' => ∀ p, M' p = none → Q (.ref p) (mset M' p (.lst acc))
theorem lift_gather {K : PySem.W.Frag} {g : Gr} {wi : DTI} {tg : Tg} {tt : DTT} {te : DTE} {vs : List Nat} {σ : L2.St} {H : Hp} {Q : VK} (ht : ∀ i ∈ tg.slots, i ∈ vs) {S : Hp} {M : Mem} {sd : DSt} {QD : List D → Mem → Prop} (a : At K g S M sd σ H) (q : dGather wi tg tt te vs sd M QD)
    (k : ∀ acc M' S' H' p accV, QD acc M' → Same S S' → Rep K (upd g.F p (.lst accV)) S' M' H' → IsL K S' accV acc → g.F p = none → Q (.ref p) H') : tLc (liftI K g wi) (tg.h K) (liftTx K tt) (liftEx K te) vs σ H Q := by
  refine ⟨S, M, sd, _, a, q, fun ds C M1 S1 H1 J q1 e1 r1 it => ?_⟩
  have q1' : ∃ Pv : Nat → List D → Mem → Prop, (∀ i acc M, Pv i acc M → C.ok M) ∧ dGoes tg tt te vs QD ds sd M1 Pv := by
    cases C with
    | none =>
      obtain ⟨_, Pv, q⟩ := q1
      exact ⟨Pv, fun _ _ _ _ => trivial, q⟩
    | some c => exact q1.2
  obtain ⟨Pv, gd, p0, step, done⟩ := q1'
  intro D hD
  have hF : g.F D = none := r1.freeF hD
  have a1 := a.step e1 r1
  have hsub : ∀ accV, ∀ b o, g.F b = some o → upd g.F D (.lst accV) b = some o := fun accV b o z => by rw [upd_ne (ne_of_none z hF)]; exact z
  refine ⟨fun i m H => m = ds.length - i ∧ i ≤ ds.length ∧ ∃ S' M' accV acc, Same S1 S' ∧ Rep K (upd g.F D (.lst accV)) S' M' H ∧ IsL K S' accV acc ∧ acc.length ≤ i ∧ Pv i acc M',
    ⟨ds.length, by simp, Nat.zero_le _, S1, M1, [], [], Same.refl _, r1.hide hD, .nil, Nat.le_refl _, p0⟩, ?_⟩
  rintro i m H2 ⟨rfl, hi, S2, M2, accV, acc, e2, r2, l2, hl, p2⟩
  have it := it (upd g.F D (.lst accV)) (hsub accV)
  by_cases hlt : i < ds.length
  · refine .inr ⟨it.go i S2 M2 H2 e2 r2 (gd _ _ _ p2) hlt, fun H' => ∃ S' M' accV acc, Same S1 S' ∧ Rep K (upd g.F D (.lst accV)) S' M' H' ∧ IsL K S' accV acc ∧ acc.length ≤ i + 1 ∧ Pv (i + 1) acc M',
      fun H' ⟨S', M', accV, acc, e', r', l', hl', p'⟩ => ⟨ds.length - (i + 1), by omega, rfl, hlt, S', M', accV, acc, e', r', l', hl', p'⟩, fun x H3 y => ?_⟩
    obtain ⟨S3, d, e3, r3, hd, i3⟩ := it.yld i S2 M2 H2 x H3 e2 r2 (gd _ _ _ p2) hlt y
    have o3 : IsO K S3 σ sd := ((a1.sl.mono e2).mono e3)
    refine Tg.run tg ht r3 i3 o3 (step i acc d M2 hd hl p2) fun σ4 sd4 o4 q4 hw => ⟨hw, ?_⟩
    have e13 : Same S1 S3 := e2.trans e3
    refine ⟨⟨upd g.F D (.lst accV), S3⟩, S3, M2, sd4, _, ⟨Same.refl _, r3, o4⟩, q4, fun b M5 S5 H5 q5 e5 r5 => ?_⟩
    cases b with
    | false =>
      rw [if_neg Bool.false_ne_true]
      exact ⟨S5, M5, accV, acc, e13.trans e5, r5, (l2.mono e3).mono e5, by omega, q5.2 rfl⟩
    | true =>
      rw [if_pos rfl]
      refine ⟨⟨upd g.F D (.lst accV), S5⟩, S5, M5, sd4, _, ⟨Same.refl _, r5, o4.mono e5⟩, q5.1 rfl, fun y M6 yv S6 H6 q6 e6 r6 i6 => ?_⟩
      refine ⟨accV, (r6.hid D _ upd_same).2.2, ?_, S6, M6, accV ++ [yv], acc ++ [y], (e13.trans e5).trans e6, r6.rehide, (((l2.mono e3).mono e5).mono e6).app (.one i6), by simp; omega, q6⟩
      rw [l2.length]; omega
  · have e : i = ds.length := by omega
    subst e
    exact .inl ⟨it.stop _ S2 M2 H2 e2 r2 (gd _ _ _ p2) (Nat.le_refl _), k acc M2 S2 H2 D accV (done acc M2 hl p2) (e1.trans e2) r2 l2 hF⟩
section
variable {X : Cx} {g : Gr}
variable {elt tgE iter : Expr} {ifs : List Expr} {scope : Scope} {own : List (PySem.Str × Nat)} {pos spos py : Pos} {wi : DTI} {tg : Tg} {tt : DTT} {te : DTE}
theorem de_lc (hc : X.calm = true) (hN : X.N.Nodup) (hi : DI X g tgE iter wi) (ok : BlkOk X.N X.env.scope scope own) (hs0 : ∀ i ∈ tg.slots, i ∈ own.map (·.2))
    (hg : ∀ (s : Shared) (H : Hp) (C : Addr) (cl : List (PySem.Str × Addr)) (fp : List Addr), PG (X.blk s H scope (compEnvC scope cl C X.env) fp) tgE (tg.h X.K))
    (ht : ∀ (s : Shared) (H : Hp) (C : Addr) (cl : List (PySem.Str × Addr)) (fp : List Addr) (g' : Gr), DTs (X.blk s H scope (compEnvC scope cl C X.env) fp) g' ifs tt)
    (he : ∀ (s : Shared) (H : Hp) (C : Addr) (cl : List (PySem.Str × Addr)) (fp : List Addr) (g' : Gr), DE (X.blk s H scope (compEnvC scope cl C X.env) fp) g' elt te) (hs : ∀ x, foldedSetIterable iter X.env x = pure x := by intro _; rfl) :
    DE X g (.ListComp elt [⟨tgE, iter, ifs, 0⟩] scope pos) (dLc wi tg tt te (own.map (·.2))) := by
  refine ⟨pe_imp (pe_lc (te := liftEx X.K te) (tt := liftTx X.K tt) (g := tg.h X.K) hc hN hi.run ok hg (fun s H C cl fp => pts_ex (ht s H C cl fp)) (fun s H C cl fp => pe_ex (he s H C cl fp)) hs) fun σ H Q h => ?_⟩
  obtain ⟨S, M, sd, QD, a, q, k⟩ := h
  refine lift_gather hs0 a q fun acc M' S' H' p accV q' e' r' l' hF => ?_
  obtain ⟨r2, e2⟩ := r'.unhide hF
  exact k _ M' _ _ H' q' (e'.trans e2) r2 (.lst upd_same (l'.mono e2))
theorem de_lcC (hc : X.calm = true) (hN : X.N.Nodup) (hi : DI X g tgE iter wi) (ok : BlkOk X.N X.env.scope scope own) (hs0 : ∀ i ∈ tg.slots, i ∈ own.map (·.2))
    (hg : ∀ (s : Shared) (H : Hp) (C : Addr) (cl : List (PySem.Str × Addr)) (fp : List Addr), PG (X.blk s H scope (compEnvC scope cl C X.env) fp) tgE (tg.h X.K))
    (ht : ∀ (s : Shared) (H : Hp) (C : Addr) (cl : List (PySem.Str × Addr)) (fp : List Addr) (g' : Gr), DTs (X.blk s H scope (compEnvC scope cl C X.env) fp) g' ifs tt)
    (he : ∀ (s : Shared) (H : Hp) (C : Addr) (cl : List (PySem.Str × Addr)) (fp : List Addr) (g' : Gr), DE (X.blk s H scope (compEnvC scope cl C X.env) fp) g' elt te) (hs : ∀ x, foldedSetIterable iter X.env x = pure x := by intro _; rfl) :
    DE X g (.ListComp elt [⟨tgE, iter, ifs, 0⟩] scope pos) (dLcC wi tg tt te (own.map (·.2))) := by
  refine ⟨pe_imp (pe_lc (te := liftEx X.K te) (tt := liftTx X.K tt) (g := tg.h X.K) hc hN hi.run ok hg (fun s H C cl fp => pts_ex (ht s H C cl fp)) (fun s H C cl fp => pe_ex (he s H C cl fp)) hs) fun σ H Q h => ?_⟩
  obtain ⟨S, M, sd, QD, a, q, k⟩ := h
  refine lift_gather hs0 a q fun acc M' S' H' p accV q' e' r' l' hF => ?_
  obtain ⟨r2, hM⟩ := r'.uncell hF l'
  exact k _ _ _ S' H' (q' p hM) e' r2 (.ref p)
theorem ds_setLc {i : Nat} {y : PySem.Str} (hc : X.calm = true) (hN : X.N.Nodup) (hy : X.N[i]? = some y) (hyl : X.env.scope.names.lookup y = some .local)
    (hsw : swapsWith (.ListComp elt [⟨tgE, iter, ifs, 0⟩] scope pos) (some (.Name y py)) spos.line X.env = pure true) (hi : DI X g tgE iter wi) (ok : BlkOk X.N X.env.scope scope own) (hs0 : ∀ i ∈ tg.slots, i ∈ own.map (·.2))
    (hg : ∀ (s : Shared) (H : Hp) (C : Addr) (cl : List (PySem.Str × Addr)) (fp : List Addr), PG (X.blk s H scope (compEnvC scope cl C X.env) fp) tgE (tg.h X.K))
    (ht : ∀ (s : Shared) (H : Hp) (C : Addr) (cl : List (PySem.Str × Addr)) (fp : List Addr) (g' : Gr), DTs (X.blk s H scope (compEnvC scope cl C X.env) fp) g' ifs tt)
    (he : ∀ (s : Shared) (H : Hp) (C : Addr) (cl : List (PySem.Str × Addr)) (fp : List Addr) (g' : Gr), DE (X.blk s H scope (compEnvC scope cl C X.env) fp) g' elt te) (hs : ∀ x, foldedSetIterable iter X.env x = pure x := by intro _; rfl) :
    DS X g (.Assign [.Name y py] (.ListComp elt [⟨tgE, iter, ifs, 0⟩] scope pos) spos) (dAsg (dLc wi tg tt te (own.map (·.2))) (dgName i)) := by
  refine ⟨ps_imp (ps_setLc (te := liftEx X.K te) (tt := liftTx X.K tt) (g := tg.h X.K) hc hN hy hyl hsw hi.run ok hg (fun s H C cl fp => pts_ex (ht s H C cl fp)) (fun s H C cl fp => pe_ex (he s H C cl fp)) hs) fun D' σ H h => ?_⟩
  obtain ⟨S, M, sd, DD, a, q, k⟩ := h
  refine lift_gather (Q := fun x H1 => gName i x σ H1 D'.nx) hs0 a q fun acc M' S' H' p accV q' e' r' l' hF => ?_
  obtain ⟨r2, e2⟩ := r'.unhide hF
  exact k.nx _ _ _ _ _ q' (e'.trans e2) ⟨a.base.trans (e'.trans e2), r2, (a.sl.mono (e'.trans e2)).set (v := some (.ref p)) (d := some (.lst acc)) (.lst upd_same (l'.mono e2)) i⟩
theorem ds_setLcC {i : Nat} {y : PySem.Str} (hc : X.calm = true) (hN : X.N.Nodup) (hy : X.N[i]? = some y) (hyl : X.env.scope.names.lookup y = some .local)
    (hsw : swapsWith (.ListComp elt [⟨tgE, iter, ifs, 0⟩] scope pos) (some (.Name y py)) spos.line X.env = pure true) (hi : DI X g tgE iter wi) (ok : BlkOk X.N X.env.scope scope own) (hs0 : ∀ i ∈ tg.slots, i ∈ own.map (·.2))
    (hg : ∀ (s : Shared) (H : Hp) (C : Addr) (cl : List (PySem.Str × Addr)) (fp : List Addr), PG (X.blk s H scope (compEnvC scope cl C X.env) fp) tgE (tg.h X.K))
    (ht : ∀ (s : Shared) (H : Hp) (C : Addr) (cl : List (PySem.Str × Addr)) (fp : List Addr) (g' : Gr), DTs (X.blk s H scope (compEnvC scope cl C X.env) fp) g' ifs tt)
    (he : ∀ (s : Shared) (H : Hp) (C : Addr) (cl : List (PySem.Str × Addr)) (fp : List Addr) (g' : Gr), DE (X.blk s H scope (compEnvC scope cl C X.env) fp) g' elt te) (hs : ∀ x, foldedSetIterable iter X.env x = pure x := by intro _; rfl) :
    DS X g (.Assign [.Name y py] (.ListComp elt [⟨tgE, iter, ifs, 0⟩] scope pos) spos) (dAsg (dLcC wi tg tt te (own.map (·.2))) (dgName i)) := by
  refine ⟨ps_imp (ps_setLc (te := liftEx X.K te) (tt := liftTx X.K tt) (g := tg.h X.K) hc hN hy hyl hsw hi.run ok hg (fun s H C cl fp => pts_ex (ht s H C cl fp)) (fun s H C cl fp => pe_ex (he s H C cl fp)) hs) fun D' σ H h => ?_⟩
  obtain ⟨S, M, sd, DD, a, q, k⟩ := h
  refine lift_gather (Q := fun x H1 => gName i x σ H1 D'.nx) hs0 a q fun acc M' S' H' p accV q' e' r' l' hF => ?_
  obtain ⟨r2, hM⟩ := r'.uncell hF l'
  exact k.nx _ _ _ _ _ (q' p hM) e' ⟨a.base.trans e', r2, (a.sl.mono e').set (v := some (.ref p)) (d := some (.ref p)) (.ref p) i⟩
end
end DL

/-! DCall: promises over trees; calls of defs, of built-ins; subscripts, slices, equality. -/
namespace DL
open PySem PySem.Spec PyProof.Rows L2

/-! ### exceptions as trees: the class, the own fields -/
abbrev DXK := Value → List (PySem.Str × D) → Mem → Prop
abbrev DWX := Value → List (PySem.Str × D) → DSt → Mem → Prop
abbrev IsF (K : PySem.W.Frag) (S : Hp) : List (PySem.Str × V) → List (PySem.Str × D) → Prop := Paired fun (p : PySem.Str × V) (q : PySem.Str × D) => p.1 = q.1 ∧ Is K S p.2 q.2
def ExIs (K : PySem.W.Frag) (S : Hp) (d : Option Addr) (fs : List (PySem.Str × D)) : Prop := (d = none ∧ fs = []) ∨ ∃ a fv, d = some a ∧ S a = some (.xd fv) ∧ IsF K S fv fs
def liftW (K : PySem.W.Frag) (g : Gr) (wd : DWX) : WX := fun cls d σ H => ∃ S M sd fs, At K g S M sd σ H ∧ ExIs K S d fs ∧ wd cls fs sd M
/-- nothing is let out -/
def wNo : DWX := fun _ _ _ _ => False
abbrev EX (P : Program) (w : World) : CXT := L2N.CX P w

/-! ### promises -/
abbrev DSp := List D → Mem → DK → DXK → Prop
def liftSp (K : PySem.W.Frag) (sp : DSp) : Sp := fun vs H Q E => ∃ F S M ds, ∃ QD : DK, ∃ ED : DXK, Rep K F S M H ∧ IsL K S vs ds ∧ sp ds M QD ED ∧
  (∀ d M' v S' H', QD d M' → Same S S' → Rep K F S' M' H' → Is K S' v d → Q v H') ∧
  ∀ c fs M' dd S' H', ED c fs M' → Same S S' → Rep K F S' M' H' → ExIs K S' dd fs → E c dd H'
/-- what a def hands back may be seen otherwise; cells of its own are forgotten -/
def QF (Q : DK) : DK := fun d M => ∃ d' M', View d M d' M' ∧ Q d' M'
def EF (E : DXK) : DXK := fun c fs M => ∃ M', (∀ a co, M' a = some co → M a = some co) ∧ E c fs M'
theorem qf_same {Q : DK} {d : D} {M : Mem} (h : Q d M) : QF Q d M := ⟨d, M, .less fun _ _ z => z, h⟩
theorem qf_less {Q : DK} {d : D} {M M' : Mem} (h : ∀ a co, M' a = some co → M a = some co) (q : Q d M') : QF Q d M := ⟨d, M', .less h, q⟩
theorem qf_frz {Q : DK} {p : Addr} {ds : List D} {M M' : Mem} (h : M p = some (.lst ds)) (hm : ∀ a co, M' a = some co → a ≠ p ∧ M a = some co) (q : Q (.lst ds) M') : QF Q (.ref p) M := ⟨_, M', .frz h hm, q⟩
theorem ef_same {E : DXK} {c : Value} {fs : List (PySem.Str × D)} {M : Mem} (h : E c fs M) : EF E c fs M := ⟨M, fun _ _ z => z, h⟩

/-- the slots at the entry -/
def dstart (N : Nat) (ds : List D) : DSt := ds.map some ++ List.replicate (N - ds.length) none
theorem isO_start {K : PySem.W.Frag} {S : Hp} {N : List PySem.Str} {vs : List V} {ds : List D} (h : IsL K S vs ds) : IsO K S (L2.start N vs) (dstart N.length ds) := by
  unfold L2.start dstart
  have hl := h.length
  rw [hl]
  have nones : ∀ n : Nat, IsO K S (List.replicate n none) (List.replicate n none) := by
    intro n
    induction n with
    | zero => exact .nil
    | succ n ih => exact .cons trivial ih
  have main : ∀ {ds : List D} {vs : List V}, IsL K S vs ds → ∀ {τ : L2.St} {t : DSt}, IsO K S τ t → IsO K S (vs.map some ++ τ) (ds.map some ++ t) := by
    intro ds
    induction ds with
    | nil => intro vs h τ t o; cases h; exact o
    | cons d ds ih =>
      intro vs h τ t o
      cases h with
      | cons a b => exact .cons a (ih b o)
  exact main h (nones _)

section
variable {P : Program} {w : World} {K : PySem.W.Frag} {mg : PySem.Str → Option Value} {base : Heap}
variable {x qual : PySem.Str} {params : Arguments} {body : List Stmt} {scope : Scope} {dvs : List V} {kws : List (PySem.Str × V)} {f : Addr} {fd : FuncData} {N ps : List PySem.Str} {k : Nat} {sp : DSp}
/-- a def that lets nothing out -/
theorem dfn_ok {t : DTS} {CX : CXT} (F : FunD K x qual params body scope dvs kws f fd) (S : FnScope N ps scope) (len : ∀ ds M Q E, sp ds M Q E → ds.length = ps.length)
    (hbody : ∀ (cdv : Value) (A : Around) (outer : List Env) (s : Shared) (H : Hp) (E : XK) (g : Gr), Room k (A.deeper (envOfC qual scope s.heap.objs.size f cdv)) →
      DSs (cxOf CX P w K mg base N qual scope f cdv A outer s H E).nox g body t)
    (hread : ∀ ds M Q E, sp ds M Q E → t { nx := fun _ M' => QF Q .non M', rt := QF Q } (dstart N.length ds) M) : FnOk P w K mg base CX (k + 1) f fd ps (liftSp K sp) := by
  refine F.ok S (fun vs H Q E h => ?_) (fun cdv A outer s H vs Q E hr h => ?_)
  · obtain ⟨F, S, M, ds, QD, ED, r, l, h, _⟩ := h
    rw [l.length]
    exact len _ _ _ _ h
  · obtain ⟨F, S, M, ds, QD, ED, r, l, h, kq, ke⟩ := h
    refine ⟨_, PSs.nox (hbody cdv A outer s H E ⟨F, S⟩ hr).run, S, M, _, _, ⟨Same.refl _, r, isO_start l⟩, hread ds M QD ED h, ?_⟩
    refine ⟨fun sd M1 σ S1 H1 q e a => ?_, fun d M1 v S1 H1 q e r1 i => ?_, fun _ _ _ _ _ q => q.elim, fun _ _ _ _ _ q => q.elim⟩
    · obtain ⟨d', M', vw, q⟩ := q
      obtain ⟨S2, e2, r2, i2⟩ := vw.rep a.rep (.non : Is K S1 .non .non)
      exact kq _ _ _ _ _ q (e.trans e2) r2 i2
    · obtain ⟨d', M', vw, q⟩ := q
      obtain ⟨S2, e2, r2, i2⟩ := vw.rep r1 i
      exact kq _ _ _ _ _ q (e.trans e2) r2 i2
/-- a def that may raise -/
theorem dfn_okX {t : DWX → DTS} (F : FunD K x qual params body scope dvs kws f fd) (S : FnScope N ps scope) (len : ∀ ds M Q E, sp ds M Q E → ds.length = ps.length)
    (hbody : ∀ (cdv : Value) (A : Around) (outer : List Env) (s : Shared) (H : Hp) (E : XK) (g : Gr) (wd : DWX), Room k (A.deeper (envOfC qual scope s.heap.objs.size f cdv)) →
      L2N.Takes (cxOf (EX P w) P w K mg base N qual scope f cdv A outer s H E) (liftW K g wd) →
      DSs (cxOf (EX P w) P w K mg base N qual scope f cdv A outer s H E) g body (t wd))
    (hread : ∀ ds M Q E, sp ds M Q E → t (fun c fs _ M' => EF E c fs M') { nx := fun _ M' => QF Q .non M', rt := QF Q } (dstart N.length ds) M) : FnOk P w K mg base (EX P w) (k + 1) f fd ps (liftSp K sp) := by
  refine F.ok S (fun vs H Q E h => ?_) (fun cdv A outer s H vs Q E hr h => ?_)
  · obtain ⟨F, S, M, ds, QD, ED, r, l, h, _⟩ := h
    rw [l.length]
    exact len _ _ _ _ h
  · obtain ⟨F, S, M, ds, QD, ED, r, l, h, kq, ke⟩ := h
    have tk : L2N.Takes (cxOf (EX P w) P w K mg base N qual scope f cdv A outer s H E) (liftW K ⟨F, S⟩ fun c fs _ M' => EF ED c fs M') := by
      refine (L2N.takes_of rfl rfl rfl rfl : L2N.Takes (cxOf (EX P w) P w K mg base N qual scope f cdv A outer s H E) (fun cls d _ H => E cls d H)).imp fun c d σ H1 hw => ?_
      obtain ⟨S1, M1, sd, fs, a, x1, M2, hm, e⟩ := hw
      exact ke c fs M2 d S1 H1 e a.base (a.rep.less hm) x1
    refine ⟨_, (hbody cdv A outer s H E ⟨F, S⟩ _ hr tk).run, S, M, _, _, ⟨Same.refl _, r, isO_start l⟩, hread ds M QD ED h, ?_⟩
    refine ⟨fun sd M1 σ S1 H1 q e a => ?_, fun d M1 v S1 H1 q e r1 i => ?_, fun _ _ _ _ _ q => q.elim, fun _ _ _ _ _ q => q.elim⟩
    · obtain ⟨d', M', vw, q⟩ := q
      obtain ⟨S2, e2, r2, i2⟩ := vw.rep a.rep (.non : Is K S1 .non .non)
      exact kq _ _ _ _ _ q (e.trans e2) r2 i2
    · obtain ⟨d', M', vw, q⟩ := q
      obtain ⟨S2, e2, r2, i2⟩ := vw.rep r1 i
      exact kq _ _ _ _ _ q (e.trans e2) r2 i2
end
/-- a def of the module keeps its promise -/
structure DCal (P : Program) (w : World) (K : PySem.W.Frag) (mg : PySem.Str → Option Value) (base : Heap) (k : Nat) (x : PySem.Str) (sp : DSp) (dd : List D) : Prop where
  ex : ∃ (f : Addr) (fd : FuncData) (ps : List PySem.Str) (ds : List Value) (dvs : List V), FnOk P w K mg base (EX P w) k f fd ps (liftSp K sp) ∧ mg x = some (.ref f) ∧ PySem.W.keepIn K (.ref f) = true ∧ Binds K fd ps ds ∧ Vals dvs ds ∧ ∀ S, IsL K S dvs dd

/-! ### calls -/
@[reducible] def dCall (sp : DSp) (dd : List D) (wd : DWX) (t : DTA) : DTE := fun σ M Q => t σ M fun ds M1 => sp (ds ++ dd) M1 Q fun c fs M2 => wd c fs σ M2
section
variable {X : Cx} {g : Gr} {wd : DWX} {k j : Nat} {x : PySem.Str} {sp : DSp} {dd : List D} {p pos : Pos} {e : Expr} {es : List Expr} {t : DTA}
theorem pass_of (tk : L2N.Takes X (liftW X.K g wd)) (σ : L2.St) : PassesAt (EX X.prog X.w) X σ (fun cls d H => liftW X.K g wd cls d σ H) := L2N.passAt tk σ
theorem pass_no (σ : L2.St) : PassesAt (EX X.prog X.w) X σ (fun cls d H => liftW X.K g wNo cls d σ H) := by
  intro pins H s e s' I c
  obtain ⟨_, _, _, _, _, _, _, _, _, _, _, _, hE⟩ := c
  obtain ⟨_, _, _, _, _, _, z⟩ := hE
  exact z.elim
theorem lift_call {σ : L2.St} {H : Hp} {Q : VK} {dvs : List V} {K : PySem.W.Frag} (hd : ∀ S, IsL K S dvs dd) (h : liftE K g (dCall sp dd wd t) σ H Q) : tCallSD (liftSp K sp) dvs (fun σ cls d H => liftW K g wd cls d σ H) (liftA K g t) σ H Q := by
  obtain ⟨S, M, sd, QD, a, q, k⟩ := h
  refine ⟨S, M, sd, _, a, q, fun ds M1 vs S1 H1 q1 e1 r1 i1 => ?_⟩
  refine ⟨g.F, S1, M1, _, QD, _, r1, i1.app (hd S1), q1, fun d M' v S' H' q' e' r' i' => k _ _ _ _ _ q' (e1.trans e') r' i', fun c fs M' dd S' H' hw e' r' x' => ?_⟩
  exact ⟨S', M', sd, fs, (a.step e1 r1).step e' r', x', hw⟩
theorem de_call (c : DCal X.prog X.w X.K X.mg X.base k x sp dd) (hr : Room j X.A) (hk : k ≤ j) (hg : Gl X x) (hx : ∀ σ, PassesAt (EX X.prog X.w) X σ (fun cls d H => liftW X.K g wd cls d σ H)) (ha : DA X g (e :: es) t)
    (hdb : (x == ("__debug__" : PySem.Str)) = false := by decide) (he : starEach (e :: es) X.env = (false, eval e X.env) :: starEach es X.env := by rfl) (hpl : (backTo pos (starEach es X.env)).any (·.1) = false := by rfl) :
    DE X g (.Call (.Name x p) (e :: es) [] pos) (dCall sp dd wd t) := by
  obtain ⟨f, fd, ps, ds, dvs, F, hm, kp, hb, hv, hd⟩ := c.ex
  exact ⟨pe_imp (pe_callSD F (hr.mono hk) hg hm kp hb hv hx ha.run hdb he hpl) fun σ H Q h => lift_call hd h⟩
end

/-! ### built-ins by name -/
@[reducible] def dCB (r : DRL) (t : DTA) : DTE := fun σ M Q => t σ M fun ds M1 => r ds M1 Q
section
variable {X : Cx} {g : Gr} {x : PySem.Str} {p pos : Pos} {e : Expr} {es : List Expr} {t : DTA} {id T : String} {r : DRL}
theorem lift_cb {K : PySem.W.Frag} {σ : L2.St} {H : Hp} {Q : VK} (h : liftE K g (dCB r t) σ H Q) : tCB (liftRL K r) (liftA K g t) σ H Q := by
  obtain ⟨S, M, sd, QD, a, q, k⟩ := h
  refine ⟨S, M, sd, _, a, q, fun ds M1 vs S1 H1 q1 e1 r1 i1 => ?_⟩
  exact ⟨g.F, S1, M1, ds, QD, r1, i1, q1, fun d M' v S' H' q' e' r' i' => k _ _ _ _ _ q' (e1.trans e') r' i'⟩
theorem de_callB (hc : CallR X (.builtin id) (liftRL X.K r)) (hg : Gl X x) (hm : X.mg x = none) (hv : bootBuiltins x = some (.builtin id)) (ha : DA X g (e :: es) t) (hn : x ≠ "__name__" := by decide) (hdb : (x == ("__debug__" : PySem.Str)) = false := by decide)
    (he : starEach (e :: es) X.env = (false, eval e X.env) :: starEach es X.env := by rfl) (hpl : (backTo pos (starEach es X.env)).any (·.1) = false := by rfl) : DE X g (.Call (.Name x p) (e :: es) [] pos) (dCB r t) :=
  ⟨pe_imp (pe_callB hc hg hm hv ha.run hn hdb he hpl) fun σ H Q h => lift_cb h⟩
theorem de_callTy (hc : CallR X (.type T) (liftRL X.K r)) (hg : Gl X x) (hm : X.mg x = none) (hv : bootBuiltins x = some (.type T)) (ha : DA X g (e :: es) t) (hn : x ≠ "__name__" := by decide) (hdb : (x == ("__debug__" : PySem.Str)) = false := by decide)
    (he : starEach (e :: es) X.env = (false, eval e X.env) :: starEach es X.env := by rfl) (hpl : (backTo pos (starEach es X.env)).any (·.1) = false := by rfl) : DE X g (.Call (.Name x p) (e :: es) [] pos) (dCB r t) :=
  ⟨pe_imp (pe_callTy hc hg hm hv ha.run hn hdb he hpl) fun σ H Q h => lift_cb h⟩
end
@[reducible] def r1 (r : DR1) : DRL := fun ds M Q => match ds with
  | [x] => r x M Q
  | _ => False
@[reducible] def r2 (r : DR2) : DRL := fun ds M Q => match ds with
  | [x, y] => r x y M Q
  | _ => False
theorem r1_inv {r : DR1} {ds : List D} {M : Mem} {Q : DK} (h : r1 r ds M Q) : ∃ x, ds = [x] ∧ r x M Q := by
  unfold r1 at h
  split at h
  · exact ⟨_, rfl, h⟩
  · exact h.elim
theorem r2_inv {r : DR2} {ds : List D} {M : Mem} {Q : DK} (h : r2 r ds M Q) : ∃ x y, ds = [x, y] ∧ r x y M Q := by
  unfold r2 at h
  split at h
  · exact ⟨_, _, rfl, h⟩
  · exact h.elim
/-- a rule for one argument -/
theorem call1 {X : Cx} {f : Value} {r : DR1} {rr : List V → Hp → VK → Prop} (hc : CallR X f rr)
    (h : ∀ {F S H : Hp} {M : Mem} {x : V} {d : D} {QD : DK} {Q : VK}, Rep X.K F S M H → Is X.K S x d → r d M QD → (∀ d M' v S' H', QD d M' → Same S S' → Rep X.K F S' M' H' → Is X.K S' v d → Q v H') → rr [x] H Q) : CallR X f (liftRL X.K (r1 r)) := by
  intro pins s σ H xs us Q I rx hh
  obtain ⟨F, S, M, ds, QD, rep, ix, hr, hq⟩ := hh
  obtain ⟨d, rfl, hr⟩ := r1_inv hr
  obtain ⟨v, rfl, iv⟩ := isL1 ix
  exact hc pins s σ H _ us Q I rx (h rep iv hr hq)
theorem call2 {X : Cx} {f : Value} {r : DR2} {rr : List V → Hp → VK → Prop} (hc : CallR X f rr)
    (h : ∀ {F S H : Hp} {M : Mem} {x y : V} {d e : D} {QD : DK} {Q : VK}, Rep X.K F S M H → Is X.K S x d → Is X.K S y e → r d e M QD → (∀ d M' v S' H', QD d M' → Same S S' → Rep X.K F S' M' H' → Is X.K S' v d → Q v H') → rr [x, y] H Q) : CallR X f (liftRL X.K (r2 r)) := by
  intro pins s σ H xs us Q I rx hh
  obtain ⟨F, S, M, ds, QD, rep, ix, hr, hq⟩ := hh
  obtain ⟨d, e, rfl, hr⟩ := r2_inv hr
  obtain ⟨v, w, rfl, iv, iw⟩ := isL2 ix
  exact hc pins s σ H _ us Q I rx (h rep iv iw hr hq)
def CO.isL : CO → Option (List D)
  | .lst ds => some ds
  | _ => none
def dLen : DR1 := fun x M Q => match x with
  | .str s => s.length ≤ sizeLine ∧ Q (.int s.length) M
  | .tup ds => Q (.int ds.length) M
  | .lst ds => Q (.int ds.length) M
  | .ro ds => Q (.int ds.length) M
  | .ref a => ∃ ds, M a = some (.lst ds) ∧ Q (.int ds.length) M
  | _ => False
theorem dcall_len {X : Cx} : CallR X (.builtin "len") (liftRL X.K (r1 dLen)) := call1 call_len fun {F S H M x d QD Q} rep i hr hq => by
  cases i with
  | str s => exact ⟨_, _, rfl, ⟨hr.1, rfl⟩, hq _ _ _ S H hr.2 (Same.refl _) rep (.int _)⟩
  | tup s l => exact ⟨_, _, rfl, .inr ⟨_, sqT_mono rep.same s, rfl⟩, hq _ _ _ S H hr (Same.refl _) rep (by rw [l.length]; exact .int _)⟩
  | lst s l => exact ⟨_, _, rfl, .inl ⟨_, SqL.of (rep.same _ _ s), rfl⟩, hq _ _ _ S H hr (Same.refl _) rep (by rw [l.length]; exact .int _)⟩
  | ro s l => exact ⟨_, _, rfl, .inl ⟨_, rep.same.seq s, rfl⟩, hq _ _ _ S H hr (Same.refl _) rep (by rw [l.length]; exact .int _)⟩
  | ref a =>
    obtain ⟨ds, hm, q⟩ := hr
    obtain ⟨_, vs, hv, l⟩ := rep.cell a _ hm
    exact ⟨_, _, rfl, .inl ⟨vs, SqL.of hv, rfl⟩, hq _ _ _ S H q (Same.refl _) rep (by rw [l.length]; exact .int _)⟩
  | _ => exact hr.elim
def dInt : DR1 := fun x M Q => match x with
  | .int i => Q (.int i) M
  | .bl b => Q (.int (if b then 1 else 0)) M
  | _ => False
theorem dcall_int {X : Cx} : CallR X (.type "int") (liftRL X.K (r1 dInt)) := call1 call_int1 fun {F S H M x d QD Q} rep i hr hq => by
  cases i with
  | int i => exact .inl ⟨_, rfl, hq _ _ _ S H hr (Same.refl _) rep (.int _)⟩
  | bl b => exact .inr ⟨_, rfl, hq _ _ _ S H hr (Same.refl _) rep (.int _)⟩
  | _ => exact hr.elim
def dAbs : DR1 := fun x M Q => match x with
  | .int i => Q (.int (i.natAbs : Int)) M
  | _ => False
theorem abs_if (i : Int) : (if i < 0 then -i else i) = (i.natAbs : Int) := by split <;> omega
theorem dcall_abs {X : Cx} : CallR X (.builtin "abs") (liftRL X.K (r1 dAbs)) := call1 call_abs fun {F S H M x d QD Q} rep i hr hq => by
  cases i with
  | int i => exact ⟨_, rfl, by rw [abs_if]; exact hq _ _ _ S H hr (Same.refl _) rep (.int _)⟩
  | _ => exact hr.elim
def dStr : DR1 := fun x M Q => match x with
  | .int i => i.natAbs.log2 < 1920 ∧ Q (.str (toString i)) M
  | _ => False
theorem dcall_str {X : Cx} : CallR X (.type "str") (liftRL X.K (r1 dStr)) := call1 call_str_int fun {F S H M x d QD Q} rep i hr hq => by
  cases i with
  | int i => exact ⟨_, rfl, hr.1, hq _ _ _ S H hr.2 (Same.refl _) rep (.str _)⟩
  | _ => exact hr.elim
def dMin : DR2 := fun x y M Q => match x, y with
  | .int i, .int j => Q (.int (if j < i then j else i)) M
  | _, _ => False
def dMax : DR2 := fun x y M Q => match x, y with
  | .int i, .int j => Q (.int (if j > i then j else i)) M
  | _, _ => False
theorem dcall_min {X : Cx} (hc : X.calm = true) : CallR X (.builtin "min") (liftRL X.K (r2 dMin)) := call2 (call_min2 hc) fun {F S H M x y d e QD Q} rep i j hr hq => by
  cases i with
  | int i => cases j with
    | int j => exact ⟨_, _, rfl, hq _ _ _ S H hr (Same.refl _) rep (.int _)⟩
    | _ => exact hr.elim
  | _ => exact hr.elim
theorem dcall_max {X : Cx} (hc : X.calm = true) : CallR X (.builtin "max") (liftRL X.K (r2 dMax)) := call2 (call_max2 hc) fun {F S H M x y d e QD Q} rep i j hr hq => by
  cases i with
  | int i => cases j with
    | int j => exact ⟨_, _, rfl, hq _ _ _ S H hr (Same.refl _) rep (.int _)⟩
    | _ => exact hr.elim
  | _ => exact hr.elim
def dAll : DR1 := fun x M Q => match x with
  | .lst ds => ∃ bs : List Bool, ds = bs.map D.bl ∧ Q (.bl (bs.all id)) M
  | _ => False
def dAny : DR1 := fun x M Q => match x with
  | .lst ds => ∃ bs : List Bool, ds = bs.map D.bl ∧ Q (.bl (bs.any id)) M
  | _ => False
def dSum : DR1 := fun x M Q => match x with
  | .lst ds => ∃ ns : List Int, ds = ns.map D.int ∧ Q (.int ns.sum) M
  | _ => False
theorem dcall_all {X : Cx} (hc : X.calm = true) : CallR X (.builtin "all") (liftRL X.K (r1 dAll)) := call1 (cr_all hc) fun {F S H M x d QD Q} rep i hr hq => by
  cases i with
  | lst s l =>
    obtain ⟨bs, rfl, q⟩ := hr
    have e := l.bls
    subst e
    exact ⟨_, bs, rfl, SqL.of (rep.same _ _ s), hq _ _ _ S H q (Same.refl _) rep (.bl _)⟩
  | _ => exact hr.elim
theorem dcall_any {X : Cx} (hc : X.calm = true) : CallR X (.builtin "any") (liftRL X.K (r1 dAny)) := call1 (cr_any hc) fun {F S H M x d QD Q} rep i hr hq => by
  cases i with
  | lst s l =>
    obtain ⟨bs, rfl, q⟩ := hr
    have e := l.bls
    subst e
    exact ⟨_, bs, rfl, SqL.of (rep.same _ _ s), hq _ _ _ S H q (Same.refl _) rep (.bl _)⟩
  | _ => exact hr.elim
theorem dcall_sum {X : Cx} (hc : X.calm = true) : CallR X (.builtin "sum") (liftRL X.K (r1 dSum)) := call1 (cr_sum hc) fun {F S H M x d QD Q} rep i hr hq => by
  cases i with
  | lst s l =>
    obtain ⟨bs, rfl, q⟩ := hr
    have e := l.ints
    subst e
    exact ⟨_, bs, rfl, SqL.of (rep.same _ _ s), hq _ _ _ S H q (Same.refl _) rep (.int _)⟩
  | _ => exact hr.elim
/-- the items of a list or tuple of any kind -/
def Seq (x : D) (M : Mem) (ds : List D) : Prop := x = .lst ds ∨ x = .tup ds ∨ x = .ro ds ∨ ∃ a, x = .ref a ∧ M a = some (.lst ds)
theorem Seq.sq {K : PySem.W.Frag} {F S H : Hp} {M : Mem} {x : D} {v : V} {ds : List D} (h : Seq x M ds) (rep : Rep K F S M H) (i : Is K S v x) : ∃ p vs, v = .ref p ∧ (SqL K H p vs ∨ SqT K H p vs) ∧ IsL K S vs ds := by
  rcases h with rfl | rfl | rfl | ⟨a, rfl, hm⟩
  · cases i with
    | lst s l => exact ⟨_, _, rfl, .inl (SqL.of (rep.same _ _ s)), l⟩
  · cases i with
    | tup s l => exact ⟨_, _, rfl, .inr (sqT_mono rep.same s), l⟩
  · cases i with
    | ro s l => exact ⟨_, _, rfl, .inl (rep.same.seq s), l⟩
  · cases i
    obtain ⟨_, vs, hv, l⟩ := rep.cell a _ hm
    exact ⟨_, vs, rfl, .inl (SqL.of hv), l⟩
def dListF : DR1 := fun x M Q => ∃ ds, Seq x M ds ∧ Q (.lst ds) M
def dListC : DR1 := fun x M Q => ∃ ds, Seq x M ds ∧ ∀ p, M p = none → Q (.ref p) (mset M p (.lst ds))
def dTupF : DR1 := fun x M Q => ∃ ds, Seq x M ds ∧ Q (.tup ds) M
theorem dcall_list {X : Cx} : CallR X (.type "list") (liftRL X.K (r1 dListF)) := call1 call_list_of fun {F S H M x d QD Q} rep i hr hq => by
  obtain ⟨ds, sq, q⟩ := hr
  obtain ⟨p, vs, rfl, s, l⟩ := sq.sq rep i
  refine ⟨p, vs, rfl, s, fun l' hl => ?_⟩
  have s1 : Same S (upd S l' (.lst vs)) := same_upd (rep.freeS hl)
  exact hq _ M _ _ _ q s1 (rep.frozen hl) (.lst upd_same (l.mono s1))
theorem dcall_listC {X : Cx} : CallR X (.type "list") (liftRL X.K (r1 dListC)) := call1 call_list_of fun {F S H M x d QD Q} rep i hr hq => by
  obtain ⟨ds, sq, q⟩ := hr
  obtain ⟨p, vs, rfl, s, l⟩ := sq.sq rep i
  exact ⟨p, vs, rfl, s, fun l' hl => hq _ _ _ S _ (q l' (rep.freeM hl)) (Same.refl _) (rep.newCell hl ⟨vs, upd_same, l⟩) (.ref _)⟩
theorem Seq.two {K : PySem.W.Frag} {F S H : Hp} {M : Mem} {x : D} {v : V} {ds : List D} (h : Seq x M ds) (rep : Rep K F S M H) (i : Is K S v x) : (x = .tup ds ∧ ∃ p vs, v = .ref p ∧ SqT K H p vs) ∨ ∃ p vs, v = .ref p ∧ SqL K H p vs ∧ IsL K S vs ds := by
  rcases h with rfl | rfl | rfl | ⟨a, rfl, hm⟩
  · cases i with
    | lst s l => exact .inr ⟨_, _, rfl, SqL.of (rep.same _ _ s), l⟩
  · cases i with
    | tup s l => exact .inl ⟨rfl, _, _, rfl, sqT_mono rep.same s⟩
  · cases i with
    | ro s l => exact .inr ⟨_, _, rfl, rep.same.seq s, l⟩
  · cases i
    obtain ⟨_, vs, hv, l⟩ := rep.cell a _ hm
    exact .inr ⟨_, vs, rfl, SqL.of hv, l⟩
theorem dcall_tuple {X : Cx} : CallR X (.type "tuple") (liftRL X.K (r1 dTupF)) := call1 call_tuple_of fun {F S H M x d QD Q} rep i hr hq => by
  obtain ⟨ds, sq, q⟩ := hr
  rcases sq.two rep i with ⟨e, p, vs, rfl, s⟩ | ⟨p, vs, rfl, s, l⟩
  · subst e
    exact ⟨p, vs, rfl, .inr ⟨s, hq _ M _ S H q (Same.refl _) rep i⟩⟩
  · refine ⟨p, vs, rfl, .inl ⟨s, fun l' hl => ?_⟩⟩
    have s1 : Same S (upd S l' (.tup vs)) := same_upd (rep.freeS hl)
    exact hq _ M _ _ _ q s1 (rep.frozen hl) (.tup (SqT.of upd_same) (l.mono s1))
/-! ### isinstance -/
inductive Ty where
  | nt | bo | it | st | tu | li | di
  deriving DecidableEq
def Ty.name : Ty → String
  | .nt => "NoneType" | .bo => "bool" | .it => "int" | .st => "str" | .tu => "tuple" | .li => "list" | .di => "dict"
def Ty.sub (a b : Ty) : Bool := decide (a = b) || (decide (a = .bo) && decide (b = .it))
theorem kit_ty2 {K : PySem.W.Frag} (a b : Ty) : PySem.W.kitOne K (.type a.name) (.type b.name) = some (a.sub b) := by
  cases a <;> cases b <;> exact kit_ty (by decide +kernel)
def CO.ty : CO → Ty
  | .lst _ => .li
  | .dK _ => .di
  | .ins _ _ => .di
  | .own _ _ => .di
def CO.plain : CO → Bool
  | .ins _ _ => false
  | .own _ _ => false
  | _ => true
/-- the built-in type of a value -/
inductive TyD (M : Mem) : D → Ty → Prop
  | non : TyD M .non .nt
  | bl (b : Bool) : TyD M (.bl b) .bo
  | int (i : Int) : TyD M (.int i) .it
  | str (x : PySem.Str) : TyD M (.str x) .st
  | tup (ds : List D) : TyD M (.tup ds) .tu
  | lst (ds : List D) : TyD M (.lst ds) .li
  | ref {a : Addr} {co : CO} (h : M a = some co) (hp : co.plain = true := by rfl) : TyD M (.ref a) co.ty
theorem tyX_of {K : PySem.W.Frag} {F S H : Hp} {M : Mem} {x : D} {v : V} {t : Ty} (h : TyD M x t) (rep : Rep K F S M H) (i : Is K S v x) : TyX K H v (.type t.name) := by
  cases h with
  | non => cases i; exact .base .non
  | bl b => cases i; exact .base (.bl b)
  | int b => cases i; exact .base (.int b)
  | str b => cases i; exact .base (.str b)
  | tup ds =>
    cases i with
    | tup s l =>
      rcases sqT_mono rep.same s with (h | ⟨o, h⟩) | ⟨o, its, n, h, c, _⟩
      · exact .base (.tup h)
      · exact .fTuple h
      · exact .kTuple h c
  | lst ds =>
    cases i with
    | lst s l => exact .base (.lst (rep.same _ _ s))
  | @ref a co h hp =>
    cases i
    obtain ⟨_, c⟩ := rep.cell a _ h
    cases co with
    | ins C fs => cases hp
    | own C fs => cases hp
    | lst ds =>
      obtain ⟨vs, hv, l⟩ := c
      exact .base (.lst hv)
    | dK kvs =>
      obtain ⟨vs, hv, l⟩ := c
      exact .base (.dK hv)
def dIsi (T : Ty) : DR2 := fun x y M Q => match y with
  | .ty n => n = T.name ∧ ∃ t, TyD M x t ∧ Q (.bl (t.sub T)) M
  | _ => False
theorem dcall_isi {X : Cx} (T : Ty) : CallR X (.builtin "isinstance") (liftRL X.K (r2 (dIsi T))) := call2 call_isi fun {F S H M x y d e QD Q} rep i j hr hq => by
  cases j with
  | ty n =>
    obtain ⟨rfl, t, ht, q⟩ := hr
    exact ⟨_, _, _, _, _, rfl, .ty _, tyX_of ht rep i, kit_ty2 t T, hq _ _ _ S H q (Same.refl _) rep (.bl _)⟩
  | _ => exact hr.elim

/-! ### subscripts, slices -/
def dIx : DR2 := fun x y M Q => match x, y with
  | .tup ds, .int i => ∃ d, atI ds i = some d ∧ Q d M
  | .lst ds, .int i => ∃ d, atI ds i = some d ∧ Q d M
  | .ro ds, .int i => ∃ d, atI ds i = some d ∧ Q d M
  | .str s, .int i => s.length ≤ sizeLine ∧ ∃ c, atI s.cps.toList i = some c ∧ Q (.str ⟨#[c]⟩) M
  | .ref a, .int i => ∃ ds d, M a = some (.lst ds) ∧ atI ds i = some d ∧ Q d M
  | _, _ => False
theorem atI_is {K : PySem.W.Frag} {S : Hp} {vs : List V} {ds : List D} {i : Int} {d : D} (l : IsL K S vs ds) (h : atI ds i = some d) : ∃ v, atI vs i = some v ∧ Is K S v d := by
  unfold atI at h ⊢
  rw [l.length]
  cases e : ixN ds.length i with
  | none => rw [e] at h; cases h
  | some j =>
    rw [e] at h
    obtain ⟨v, h1, h2⟩ := l.get (i := j) h
    exact ⟨v, h1, h2⟩
section
variable {X : Cx} {g : Gr} {pos p2 : Pos} {a b e : Expr} {ta tb te : DTE}
theorem dix_seq : IxR X (liftR2 X.K dIx) := by
  intro value slice pins s σ H x y v u Q I rx ry h hs
  obtain ⟨F, S, M, dx, dy, QD, rep, ix, iy, hr, hq⟩ := h
  refine ix_seq value slice pins s σ H x y v u Q I rx ry ?_ hs
  cases iy with
  | int i =>
    cases ix with
    | tup s l =>
      obtain ⟨d, hd, q⟩ := hr
      obtain ⟨w, hw, iw⟩ := atI_is l hd
      exact .inr (.inl ⟨_, _, i, w, rfl, rfl, sqT_mono rep.same s, hw, hq _ _ _ S H q (Same.refl _) rep iw⟩)
    | lst s l =>
      obtain ⟨d, hd, q⟩ := hr
      obtain ⟨w, hw, iw⟩ := atI_is l hd
      exact .inl ⟨_, _, i, w, rfl, rfl, SqL.of (rep.same _ _ s), hw, hq _ _ _ S H q (Same.refl _) rep iw⟩
    | ro s l =>
      obtain ⟨d, hd, q⟩ := hr
      obtain ⟨w, hw, iw⟩ := atI_is l hd
      exact .inl ⟨_, _, i, w, rfl, rfl, rep.same.seq s, hw, hq _ _ _ S H q (Same.refl _) rep iw⟩
    | str z =>
      obtain ⟨hz, c, hc, q⟩ := hr
      exact .inr (.inr ⟨z, i, c, rfl, rfl, hz, hc, hq _ _ _ S H q (Same.refl _) rep (.str _)⟩)
    | ref p =>
      obtain ⟨ds, d, hm, hd, q⟩ := hr
      obtain ⟨_, vs, hv, l⟩ := rep.cell p _ hm
      obtain ⟨w, hw, iw⟩ := atI_is l hd
      exact .inl ⟨_, _, i, w, rfl, rfl, SqL.of hv, hw, hq _ _ _ S H q (Same.refl _) rep iw⟩
    | _ => exact hr.elim
  | _ => exact (by cases ix <;> exact hr.elim)
theorem de_ix (ha : DE X g a ta) (hb : DE X g b tb) (hs : PlainIx b) : DE X g (.Subscript a b pos) (dBin dIx ta tb) := ⟨pe_imp (pe_ix dix_seq ha.run hb.run hs) fun σ H Q h => lift_seq2 h⟩
abbrev DTO := DSt → Mem → (Option Int → Mem → Prop) → Prop
def liftO (K : PySem.W.Frag) (g : Gr) (t : DTO) : TO := fun σ H Q => ∃ S M sd, ∃ QD : Option Int → Mem → Prop, At K g S M sd σ H ∧ t sd M QD ∧
  ∀ o M' S' H', QD o M' → Same S S' → Rep K g.F S' M' H' → Q o H'
structure DO (X : Cx) (g : Gr) (e : Option Expr) (t : DTO) : Prop where
  run : PO X e (liftO X.K g t)
theorem po_imp {X : Cx} {e : Option Expr} {t t' : TO} (h : PO X e t) (i : ∀ σ H Q, t' σ H Q → t σ H Q) : PO X e t' := ⟨fun pins s σ H Q I w => h.run pins s σ H Q I (i _ _ _ w)⟩
@[reducible] def dNoPart : DTO := fun _ M Q => Q none M
@[reducible] def dPart (t : DTE) : DTO := fun σ M Q => t σ M fun x M1 => match x with
  | .int i => Q (some i) M1
  | _ => False
theorem do_none : DO X g none dNoPart := ⟨po_imp po_none fun σ H Q ⟨S, M, sd, QD, a, q, k⟩ => k _ _ _ _ q (Same.refl _) a.rep⟩
theorem do_some (h : DE X g e te) : DO X g (some e) (dPart te) := ⟨po_imp (po_some h.run) fun σ H Q ⟨S, M, sd, QD, a, q, k⟩ => by
  refine ⟨S, M, sd, _, a, q, fun d M1 v S1 H1 q1 e1 r1 i1 => ?_⟩
  cases i1 with
  | int i => exact ⟨i, rfl, k _ _ _ _ q1 e1 r1⟩
  | _ => exact q1.elim⟩
def cutD (xs : List D) (lo hi : Option Int) : List D := (xs.drop (HT.sIx xs.length 0 lo)).take (HT.sIx xs.length xs.length hi - HT.sIx xs.length 0 lo)
theorem cut_is {K : PySem.W.Frag} {S : Hp} {vs : List V} {ds : List D} {lo hi : Option Int} (l : IsL K S vs ds) : IsL K S (cutV vs lo hi) (cutD ds lo hi) := by
  unfold cutV cutD
  rw [l.length]
  exact (l.drop _).take _
theorem cutV_whole {xs : List V} {lo hi : Option Int} (e : HT.sIx xs.length 0 lo = 0 ∧ HT.sIx xs.length xs.length hi = xs.length) : cutV xs lo hi = xs := by
  unfold cutV
  rw [e.1, e.2, List.drop_zero, Nat.sub_zero, List.take_length]
abbrev DRS := D → Option Int → Option Int → Mem → DK → Prop
def liftRS (K : PySem.W.Frag) (r : DRS) : V → Option Int → Option Int → Hp → VK → Prop := fun x lo hi H Q => ∃ F S M dx, ∃ QD : DK, Rep K F S M H ∧ Is K S x dx ∧ r dx lo hi M QD ∧
  ∀ d M' v S' H', QD d M' → Same S S' → Rep K F S' M' H' → Is K S' v d → Q v H'
/-- a slice of a list or a text -/
def dSl : DRS := fun x lo hi M Q => match x with
  | .lst ds => Q (.lst (cutD ds lo hi)) M
  | .ro ds => Q (.lst (cutD ds lo hi)) M
  | .tup ds => Q (.tup (cutD ds lo hi)) M
  | .str s => s.length ≤ sizeLine ∧ Q (.str (cutS s lo hi)) M
  | .ref a => ∃ ds, M a = some (.lst ds) ∧ Q (.lst (cutD ds lo hi)) M
  | _ => False
theorem dsl_ok : SlR X (liftRS X.K dSl) := by
  intro pins s σ H x v vl vu lo hi sl Q I rx hs pl pu h
  obtain ⟨F, S, M, dx, QD, rep, ix, hr, hq⟩ := h
  have lst : ∀ {p : Addr} {vs : List V} {ds : List D}, x = .ref p → SqL X.K H p vs → IsL X.K S vs ds → QD (.lst (cutD ds lo hi)) M →
      ∃ T id, typeLookup (.type T) "__getitem__" = pure (some (.builtin id)) ∧ s.TypeIs v T ∧ wpAny (model X.prog X.w) X.A (getItem v (.ref sl)) (EP X pins σ Q) X.xe s := fun {p vs ds} e sq l q => by
    refine sl_list pins s σ H x v vl vu lo hi sl Q I rx hs pl pu ⟨p, vs, e, sq, fun q' hq' => ?_⟩
    have s1 : Same S (upd S q' (.lst (cutV vs lo hi))) := same_upd (rep.freeS hq')
    exact hq _ M _ _ _ q s1 (rep.frozen hq') (.lst upd_same ((cut_is l).mono s1))
  cases ix with
  | lst s l => exact lst rfl (SqL.of (rep.same _ _ s)) l hr
  | ro s l => exact lst rfl (rep.same.seq s) l hr
  | @tup _ vx _ sx lx =>
    refine sl_tupA pins s σ H _ v vl vu lo hi sl Q I rx hs pl pu ⟨_, _, rfl, sqT_mono rep.same sx, fun e => ?_, fun _ q' hq' => ?_⟩
    · have e2 := cutV_whole e
      have e3 := cut_is (lo := lo) (hi := hi) lx
      rw [e2] at e3
      exact hq _ M _ S H hr (Same.refl _) rep (.tup sx e3)
    · have s1 : Same S (upd S q' (.tup (cutV vx lo hi))) := same_upd (rep.freeS hq')
      exact hq _ M _ _ _ hr s1 (rep.frozen hq') (.tup (SqT.of upd_same) ((cut_is lx).mono s1))
  | str z => exact sl_str pins s σ H _ v vl vu lo hi sl Q I rx hs pl pu ⟨z, rfl, hr.1, hq _ _ _ S H hr.2 (Same.refl _) rep (.str _)⟩
  | ref p =>
    obtain ⟨ds, hm, q⟩ := hr
    obtain ⟨_, vs, hv, l⟩ := rep.cell p _ hm
    exact lst rfl (SqL.of hv) l q
  | _ => exact hr.elim
@[reducible] def dSlice (r : DRS) (te : DTE) (tl th : DTO) : DTE := fun σ M Q => te σ M fun x M1 => tl σ M1 fun l M2 => th σ M2 fun u M3 => r x l u M3 Q
theorem de_slice {r : DRS} {lo hi : Option Expr} {tl th : DTO} (hr : SlR X (liftRS X.K r)) (he : DE X g e te) (hl : DO X g lo tl) (hu : DO X g hi th) : DE X g (.Subscript e (.Slice lo hi none p2) pos) (dSlice r te tl th) := by
  refine ⟨pe_imp (pe_slice hr he.run hl.run hu.run) fun σ H Q h => ?_⟩
  obtain ⟨S, M, sd, QD, a, q, k⟩ := h
  refine ⟨S, M, sd, _, a, q, fun d M1 v S1 H1 q1 e1 r1 i1 => ?_⟩
  refine ⟨S1, M1, sd, _, a.step e1 r1, q1, fun o M2 S2 H2 q2 e2 r2 => ?_⟩
  refine ⟨S2, M2, sd, _, (a.step e1 r1).step e2 r2, q2, fun o2 M3 S3 H3 q3 e3 r3 => ?_⟩
  exact ⟨_, S3, M3, d, QD, r3, (i1.mono e2).mono e3, q3, fun d4 M4 v4 S4 H4 q4 e4 r4 i4 => k _ _ _ _ _ q4 (((e1.trans e2).trans e3).trans e4) r4 i4⟩
end

/-! ### equality -/
mutual
inductive Py (M : Mem) : D → PyData → Prop
  | non : Py M .non .none
  | bl (b : Bool) : Py M (.bl b) (.bool b)
  | int (i : Int) : Py M (.int i) (.int i)
  | str (x : PySem.Str) : Py M (.str x) (.str x)
  | tup {ds : List D} {ps : List PyData} : PyL M ds ps → Py M (.tup ds) (.tuple ps)
  | lst {ds : List D} {ps : List PyData} : PyL M ds ps → Py M (.lst ds) (.list ps)
  | ro {ds : List D} {ps : List PyData} : PyL M ds ps → Py M (.ro ds) (.list ps)
  | ref {a : Addr} {ds : List D} {ps : List PyData} : M a = some (.lst ds) → PyL M ds ps → Py M (.ref a) (.list ps)
inductive PyL (M : Mem) : List D → List PyData → Prop
  | nil : PyL M [] []
  | cons {d : D} {ds : List D} {p : PyData} {ps : List PyData} : Py M d p → PyL M ds ps → PyL M (d :: ds) (p :: ps)
end
section
variable {K : PySem.W.Frag} {F S H : Hp} {M : Mem}
mutual
theorem Py.dp (rep : Rep K F S M H) : ∀ {p : PyData} {d : D} {v : V}, Py M d p → Is K S v d → Dp K H v p
  | .none, _, _, h, i => by cases h; cases i; exact .non
  | .bool b, _, _, h, i => by cases h; cases i; exact .bl b
  | .int b, _, _, h, i => by cases h; cases i; exact .int b
  | .str b, _, _, h, i => by cases h; cases i; exact .str b
  | .list ps, _, _, h, i => by
    cases h with
    | lst h =>
      cases i with
      | lst s l => exact .lst (SqL.of (rep.same _ _ s)) (PyL.dp rep h l)
    | ro h =>
      cases i with
      | ro s l => exact .lst (rep.same.seq s) (PyL.dp rep h l)
    | ref hm h =>
      cases i
      obtain ⟨_, vs, hv, l⟩ := rep.cell _ _ hm
      exact .lst (SqL.of hv) (PyL.dp rep h l)
  | .tuple ps, _, _, h, i => by
    cases h with
    | tup h =>
      cases i with
      | tup s l => exact .tup (sqT_mono rep.same s) (PyL.dp rep h l)
  | .dict kvs, _, _, h, i => by cases h
theorem PyL.dp (rep : Rep K F S M H) : ∀ {ps : List PyData} {ds : List D} {vs : List V}, PyL M ds ps → IsL K S vs ds → DpAll K H vs ps
  | [], _, _, h, i => by cases h; cases i; exact .nil
  | p :: ps, _, _, h, i => by
    cases h with
    | cons a b =>
      cases i with
      | cons c d => exact .cons (Py.dp rep a c) (PyL.dp rep b d)
end
end
/-- ==, of plain data -/
def dEq : DR2 := fun x y M Q => match x, y with
  | .int i, .int j => Q (.bl (decide (i = j))) M
  | .str a, .str b => Q (.bl (decide (a = b))) M
  | .bl a, .bl b => Q (.bl (decide (a = b))) M
  | x, y => ∃ p q, Py M x p ∧ Py M y q ∧ SeqAt.shaped p = true ∧ SeqAt.shaped q = true ∧ Q (.bl (PyData.eqv p q)) M
def dNe : DR2 := fun x y M Q => match x, y with
  | .int i, .int j => Q (.bl (!decide (i = j))) M
  | .str a, .str b => Q (.bl (!decide (a = b))) M
  | .bl a, .bl b => Q (.bl (!decide (a = b))) M
  | x, y => ∃ p q, Py M x p ∧ Py M y q ∧ SeqAt.shaped p = true ∧ SeqAt.shaped q = true ∧ Q (.bl (!PyData.eqv p q)) M
theorem vdec {a b : V} {p : Prop} [Decidable p] (h : (a = b) ↔ p) : decide (a = b) = decide p := by
  by_cases hp : p
  · rw [decide_eq_true hp, decide_eq_true (h.mpr hp)]
  · rw [decide_eq_false hp, decide_eq_false fun z => hp (h.mp z)]
section
variable {X : Cx}
theorem dop_eq (hu : X.A.units + 64 < cLine) : OpR X (compareOp .Eq) (liftR2 X.K dEq) := by
  intro pins s σ H x y v u Q I rx ry h
  obtain ⟨F, S, M, dx, dy, QD, rep, ix, iy, hr, hq⟩ := h
  have deep : (∃ p q, Py M dx p ∧ Py M dy q ∧ SeqAt.shaped p = true ∧ SeqAt.shaped q = true ∧ QD (.bl (PyData.eqv p q)) M) → wpAny (model X.prog X.w) X.A (compareOp .Eq v u) (EP X pins σ Q) X.xe s := by
    rintro ⟨p, q, hp, hq', sp, sq, z⟩
    exact op_eqD hu pins s σ H x y v u Q I rx ry ⟨p, q, hp.dp rep ix, hq'.dp rep iy, sp, sq, hq _ _ _ S H z (Same.refl _) rep (.bl _)⟩
  unfold dEq at hr
  split at hr
  · cases ix
    cases iy
    exact op_eq pins s σ H _ _ v u Q I rx ry ⟨rfl, by rw [vdec (iff_of_eq (V.int.injEq _ _))]; exact hq _ _ _ S H hr (Same.refl _) rep (.bl _)⟩
  · cases ix
    cases iy
    exact op_eq pins s σ H _ _ v u Q I rx ry ⟨rfl, by rw [vdec (iff_of_eq (V.str.injEq _ _))]; exact hq _ _ _ S H hr (Same.refl _) rep (.bl _)⟩
  · cases ix
    cases iy
    exact op_eq pins s σ H _ _ v u Q I rx ry ⟨rfl, by rw [vdec (iff_of_eq (V.bl.injEq _ _))]; exact hq _ _ _ S H hr (Same.refl _) rep (.bl _)⟩
  · exact deep hr
theorem dop_ne (hu : X.A.units + 64 < cLine) : OpR X (compareOp .NotEq) (liftR2 X.K dNe) := by
  intro pins s σ H x y v u Q I rx ry h
  obtain ⟨F, S, M, dx, dy, QD, rep, ix, iy, hr, hq⟩ := h
  have deep : (∃ p q, Py M dx p ∧ Py M dy q ∧ SeqAt.shaped p = true ∧ SeqAt.shaped q = true ∧ QD (.bl (!PyData.eqv p q)) M) → wpAny (model X.prog X.w) X.A (compareOp .NotEq v u) (EP X pins σ Q) X.xe s := by
    rintro ⟨p, q, hp, hq', sp, sq, z⟩
    exact op_neD hu pins s σ H x y v u Q I rx ry ⟨p, q, hp.dp rep ix, hq'.dp rep iy, sp, sq, hq _ _ _ S H z (Same.refl _) rep (.bl _)⟩
  unfold dNe at hr
  split at hr
  · cases ix
    cases iy
    exact op_ne pins s σ H _ _ v u Q I rx ry ⟨rfl, by rw [vdec (iff_of_eq (V.int.injEq _ _))]; exact hq _ _ _ S H hr (Same.refl _) rep (.bl _)⟩
  · cases ix
    cases iy
    exact op_ne pins s σ H _ _ v u Q I rx ry ⟨rfl, by rw [vdec (iff_of_eq (V.str.injEq _ _))]; exact hq _ _ _ S H hr (Same.refl _) rep (.bl _)⟩
  · cases ix
    cases iy
    exact op_ne pins s σ H _ _ v u Q I rx ry ⟨rfl, by rw [vdec (iff_of_eq (V.bl.injEq _ _))]; exact hq _ _ _ S H hr (Same.refl _) rep (.bl _)⟩
  · exact deep hr
end

/-! ### list.append -/
def dAppend : D → List D → Mem → DK → Prop := fun x ds M Q => ∃ a l y, x = .ref a ∧ ds = [y] ∧ M a = some (.lst l) ∧ l.length < sizeLine ∧ Q .non (mset M a (.lst (l ++ [y])))
def isCellL (x : D) (M : Mem) : Prop := ∃ a l, x = .ref a ∧ M a = some (.lst l)
@[reducible] def dApp (to : DTE) (t : DTA) : DTE := fun σ M Q => to σ M fun x M1 => isCellL x M1 ∧ t σ M1 fun ds M2 => dAppend x ds M2 Q
theorem de_append {X : Cx} {g : Gr} {o e : Expr} {es : List Expr} {to : DTE} {t : DTA} {apos cpos : Pos} (ho : DE X g o to) (ha : DA X g (e :: es) t)
    (h : ∀ {to' : TE} {t' : TA}, PE X o to' → PA X (e :: es) t' → PE X (.Call (.Attribute o "append" apos) (e :: es) [] cpos) (tBM X.K "list" rAppend to' t')) : DE X g (.Call (.Attribute o "append" apos) (e :: es) [] cpos) (dApp to t) := by
  refine ⟨pe_imp (h ho.run ha.run) fun σ H Q hh => ?_⟩
  obtain ⟨S, M, sd, QD, a, q, k⟩ := hh
  refine ⟨S, M, sd, _, a, q, fun d M1 v S1 H1 q1 e1 r1 i1 => ?_⟩
  obtain ⟨⟨p, l, rfl, hm⟩, q1⟩ := q1
  cases i1
  obtain ⟨_, vs, hv, il⟩ := r1.cell p _ hm
  refine ⟨.inl ⟨rfl, vs, SqL.of hv⟩, S1, M1, sd, _, a.step e1 r1, q1, fun ds M2 ws S2 H2 q2 e2 r2 i2 => ?_⟩
  obtain ⟨p', l', y, e3, rfl, hm', hz, q3⟩ := q2
  cases e3
  obtain ⟨w, rfl, iw⟩ := isL1 i2
  obtain ⟨_, vs', hv', il'⟩ := r2.cell p _ hm'
  refine ⟨p, vs', w, rfl, rfl, hv', by rw [il'.length]; exact hz, ?_⟩
  have rw' := r2.write (o := .lst (vs' ++ [w])) hm' (co' := .lst (l' ++ [y])) ⟨_, upd_same, il'.app (.one iw)⟩
  exact k _ _ _ _ _ q3 (e1.trans e2) rw' .non
end DL

/-! DSpec: promises by the number of arguments; the draws' box. -/
namespace DL
open PySem PySem.Spec PyProof.Rows L2
@[reducible] def spk1 (r : D → Mem → DK → DXK → Prop) : DSp := fun ds M Q E => match ds with
  | [a] => r a M Q E
  | _ => False
@[reducible] def spk2 (r : D → D → Mem → DK → DXK → Prop) : DSp := fun ds M Q E => match ds with
  | [a, b] => r a b M Q E
  | _ => False
@[reducible] def spk3 (r : D → D → D → Mem → DK → DXK → Prop) : DSp := fun ds M Q E => match ds with
  | [a, b, c] => r a b c M Q E
  | _ => False
@[reducible] def spk4 (r : D → D → D → D → Mem → DK → DXK → Prop) : DSp := fun ds M Q E => match ds with
  | [a, b, c, d] => r a b c d M Q E
  | _ => False
@[reducible] def spk5 (r : D → D → D → D → D → Mem → DK → DXK → Prop) : DSp := fun ds M Q E => match ds with
  | [a, b, c, d, e] => r a b c d e M Q E
  | _ => False
theorem spk1_len {r} : ∀ ds M Q E, spk1 r ds M Q E → ds.length = 1 := fun ds M Q E h => by
  unfold spk1 at h; split at h <;> first | rfl | exact h.elim
theorem spk2_len {r} : ∀ ds M Q E, spk2 r ds M Q E → ds.length = 2 := fun ds M Q E h => by
  unfold spk2 at h; split at h <;> first | rfl | exact h.elim
theorem spk3_len {r} : ∀ ds M Q E, spk3 r ds M Q E → ds.length = 3 := fun ds M Q E h => by
  unfold spk3 at h; split at h <;> first | rfl | exact h.elim
theorem spk4_len {r} : ∀ ds M Q E, spk4 r ds M Q E → ds.length = 4 := fun ds M Q E h => by
  unfold spk4 at h; split at h <;> first | rfl | exact h.elim
theorem spk5_len {r} : ∀ ds M Q E, spk5 r ds M Q E → ds.length = 5 := fun ds M Q E h => by
  unfold spk5 at h; split at h <;> first | rfl | exact h.elim
/-- a def's reading, by its arguments -/
theorem rd1 {r : D → Mem → DK → DXK → Prop} {t : DTS} {N : Nat} (h : ∀ a M Q E, r a M Q E → t { nx := fun _ M' => QF Q .non M', rt := QF Q } (dstart N [a]) M) :
    ∀ ds M Q E, spk1 r ds M Q E → t { nx := fun _ M' => QF Q .non M', rt := QF Q } (dstart N ds) M := fun ds M Q E q => by
  unfold spk1 at q; split at q <;> first | exact h _ M Q E q | exact q.elim
theorem rd2 {r : D → D → Mem → DK → DXK → Prop} {t : DTS} {N : Nat} (h : ∀ a b M Q E, r a b M Q E → t { nx := fun _ M' => QF Q .non M', rt := QF Q } (dstart N [a, b]) M) :
    ∀ ds M Q E, spk2 r ds M Q E → t { nx := fun _ M' => QF Q .non M', rt := QF Q } (dstart N ds) M := fun ds M Q E q => by
  unfold spk2 at q; split at q <;> first | exact h _ _ M Q E q | exact q.elim
theorem rd3 {r : D → D → D → Mem → DK → DXK → Prop} {t : DTS} {N : Nat} (h : ∀ a b c M Q E, r a b c M Q E → t { nx := fun _ M' => QF Q .non M', rt := QF Q } (dstart N [a, b, c]) M) :
    ∀ ds M Q E, spk3 r ds M Q E → t { nx := fun _ M' => QF Q .non M', rt := QF Q } (dstart N ds) M := fun ds M Q E q => by
  unfold spk3 at q; split at q <;> first | exact h _ _ _ M Q E q | exact q.elim
theorem rd4 {r : D → D → D → D → Mem → DK → DXK → Prop} {t : DTS} {N : Nat} (h : ∀ a b c d M Q E, r a b c d M Q E → t { nx := fun _ M' => QF Q .non M', rt := QF Q } (dstart N [a, b, c, d]) M) :
    ∀ ds M Q E, spk4 r ds M Q E → t { nx := fun _ M' => QF Q .non M', rt := QF Q } (dstart N ds) M := fun ds M Q E q => by
  unfold spk4 at q; split at q <;> first | exact h _ _ _ _ M Q E q | exact q.elim
theorem rd5 {r : D → D → D → D → D → Mem → DK → DXK → Prop} {t : DTS} {N : Nat} (h : ∀ a b c d e M Q E, r a b c d e M Q E → t { nx := fun _ M' => QF Q .non M', rt := QF Q } (dstart N [a, b, c, d, e]) M) :
    ∀ ds M Q E, spk5 r ds M Q E → t { nx := fun _ M' => QF Q .non M', rt := QF Q } (dstart N ds) M := fun ds M Q E q => by
  unfold spk5 at q; split at q <;> first | exact h _ _ _ _ _ M Q E q | exact q.elim

/-- a test whose answer is known -/
theorem yes {A B : Prop} (h : A) : (true = true → A) ∧ (true = false → B) := ⟨fun _ => h, fun z => Bool.noConfusion z⟩
theorem no {A B : Prop} (h : B) : (false = true → A) ∧ (false = false → B) := ⟨fun z => Bool.noConfusion z, fun _ => h⟩
theorem sure {b : Bool} {A B : Prop} (e : b = true) (h : A) : (b = true → A) ∧ (b = false → B) := ⟨fun _ => h, fun z => by rw [e] at z; cases z⟩
theorem never {b : Bool} {A B : Prop} (e : b = false) (h : B) : (b = true → A) ∧ (b = false → B) := ⟨fun z => (by rw [e] at z; cases z), fun _ => h⟩
/-- by cases, the propositions as they stand -/
theorem byc {p : Prop} [Decidable p] {A B : Prop} (h1 : p → A) (h2 : ¬ p → B) : (decide p = true → A) ∧ (decide p = false → B) := ⟨fun z => h1 (of_decide_eq_true z), fun z => h2 (of_decide_eq_false z)⟩
theorem bync {p : Prop} [Decidable p] {A B : Prop} (h1 : ¬ p → A) (h2 : p → B) : ((!decide p) = true → A) ∧ ((!decide p) = false → B) := ⟨fun z => h1 (by simpa using z), fun z => h2 (by simpa using z)⟩
/-- lists of ints -/
theorem atI_ints {ns : List Int} {i : Int} (h0 : 0 ≤ i) (h1 : i < ns.length) : ∃ v, atI (ns.map D.int) i = some (.int v) := by
  obtain ⟨j, rfl⟩ : ∃ j : Nat, i = j := ⟨i.toNat, by omega⟩
  have hj : j < ns.length := by omega
  exact ⟨ns[j], atI_nat (by simp [hj])⟩

/-! ### cells that others leave alone -/
def Only (a : Addr) (M M' : Mem) : Prop := ∀ c, c ≠ a → M' c = M c
theorem Only.refl {a : Addr} {M : Mem} : Only a M M := fun _ _ => rfl
theorem Only.trans {a : Addr} {M M1 M2 : Mem} (h : Only a M M1) (g : Only a M1 M2) : Only a M M2 := fun c hc => (g c hc).trans (h c hc)
theorem Only.mset {a : Addr} {M M' : Mem} {o : CO} (h : Only a M M') : Only a M (mset M' a o) := fun c hc => by rw [mset_ne hc]; exact h c hc
theorem Only.at {a c : Addr} {M M' : Mem} {o : CO} (h : Only a M M') (hc : c ≠ a) (e : M c = some o) : M' c = some o := by rw [h c hc]; exact e

/-! ### the box of the draws -/
def BoxAt (M : Mem) (b : Addr) : Prop := ∃ l i : Int, M b = some (.lst [.int l, .int i]) ∧ 0 ≤ l ∧ 0 ≤ i
/-- what every draw leaves: the box, and all other cells -/
structure Drawn (b : Addr) (M M' : Mem) : Prop where
  box : BoxAt M' b
  only : Only b M M'
theorem Drawn.trans {b : Addr} {M M1 M2 : Mem} (h : Drawn b M M1) (g : Drawn b M1 M2) : Drawn b M M2 := ⟨g.box, h.only.trans g.only⟩
end DL

/-! DEqu: == of trees that hold neither bools nor cells is equality. -/
namespace DL
open PySem PySem.Spec PyProof.Rows L2
/-- a tree of None, ints, texts, tuples, lists, at most n deep -/
def Pure : Nat → D → Prop
  | _, .non => True
  | _, .int _ => True
  | _, .str s => PyData.strOk s = true
  | n + 1, .tup ds => ∀ d ∈ ds, Pure n d
  | n + 1, .lst ds => ∀ d ∈ ds, Pure n d
  | _, _ => False
theorem Pure.up : ∀ {n : Nat} {d : D}, Pure n d → Pure (n + 1) d
  | 0, .non, _ => trivial
  | 0, .int _, _ => trivial
  | 0, .str _, h => h
  | n + 1, .non, _ => trivial
  | n + 1, .int _, _ => trivial
  | n + 1, .str _, h => h
  | n + 1, .tup ds, h => fun d hd => Pure.up (n := n) (h d hd)
  | n + 1, .lst ds, h => fun d hd => Pure.up (n := n) (h d hd)
  | 0, .tup _, h => False.elim h
  | 0, .lst _, h => False.elim h
  | 0, .bl _, h => False.elim h
  | 0, .ty _, h => False.elim h
  | 0, .ref _, h => False.elim h
  | 0, .ro _, h => False.elim h
  | 0, .obj _ _, h => False.elim h
  | n + 1, .bl _, h => False.elim h
  | n + 1, .ty _, h => False.elim h
  | n + 1, .ref _, h => False.elim h
  | n + 1, .ro _, h => False.elim h
  | n + 1, .obj _ _, h => False.elim h
theorem Pure.le {n m : Nat} {d : D} (h : Pure n d) (l : n ≤ m) : Pure m d := by
  induction l with
  | refl => exact h
  | step _ ih => exact ih.up
/-- the data of a pure tree -/
def pyOf : Nat → D → PyData
  | _, .int i => .int i
  | _, .str s => .str s
  | n + 1, .tup ds => .tuple (ds.map (pyOf n))
  | n + 1, .lst ds => .list (ds.map (pyOf n))
  | _, _ => .none
theorem pyOf_ok {M : Mem} : ∀ {n : Nat} {d : D}, Pure n d → Py M d (pyOf n d) ∧ (pyOf n d).canLay0 = true ∧ (pyOf n d).depth ≤ n + 1 := by
  intro n
  induction n with
  | zero =>
    intro d h
    cases d with
    | non => exact ⟨.non, rfl, by decide⟩
    | int i => exact ⟨.int i, rfl, by show (PyData.int i).depth ≤ 1; simp [PyData.depth]⟩
    | str s => exact ⟨.str s, h, by show (PyData.str s).depth ≤ 1; simp [PyData.depth]⟩
    | _ => exact h.elim
  | succ n ih =>
    have all : ∀ {ds : List D}, (∀ d ∈ ds, Pure n d) → PyL M ds (ds.map (pyOf n)) ∧ PyData.canLayAll0 (ds.map (pyOf n)) = true ∧ PyData.depthAll (ds.map (pyOf n)) ≤ n + 1 := by
      intro ds
      induction ds with
      | nil => intro _; exact ⟨.nil, rfl, Nat.zero_le _⟩
      | cons d ds ihl =>
        intro h
        obtain ⟨a1, a2, a3⟩ := ih (h d (by simp))
        obtain ⟨b1, b2, b3⟩ := ihl fun e he => h e (by simp [he])
        refine ⟨.cons a1 b1, ?_, ?_⟩
        · show (PyData.canLay0 _ && PyData.canLayAll0 _) = true
          rw [a2, b2]
          rfl
        · show max _ _ ≤ n + 1
          exact Nat.max_le.mpr ⟨a3, b3⟩
    intro d h
    cases d with
    | non => exact ⟨.non, rfl, by show (PyData.none).depth ≤ _; simp [PyData.depth]⟩
    | int i => exact ⟨.int i, rfl, by show (PyData.int i).depth ≤ _; simp [PyData.depth]⟩
    | str s => exact ⟨.str s, h, by show (PyData.str s).depth ≤ _; simp [PyData.depth]⟩
    | tup ds =>
      obtain ⟨a, b, c⟩ := all h
      refine ⟨.tup a, b, ?_⟩
      show PyData.depth (.tuple _) ≤ _
      simp only [PyData.depth]
      omega
    | lst ds =>
      obtain ⟨a, b, c⟩ := all h
      refine ⟨.lst a, b, ?_⟩
      show PyData.depth (.list _) ≤ _
      simp only [PyData.depth]
      omega
    | _ => exact h.elim
theorem shaped_of {n : Nat} {d : D} {M : Mem} (h : Pure n d) (hn : n ≤ 63) : SeqAt.shaped (pyOf n d) = true := by
  obtain ⟨_, b, c⟩ := pyOf_ok (M := M) h
  unfold SeqAt.shaped
  rw [b, Bool.true_and]
  exact decide_eq_true (by omega)
theorem eqv_of : ∀ {n : Nat} {d e : D}, Pure n d → Pure n e → ((pyOf n d).eqv (pyOf n e) = true ↔ d = e) := by
  intro n
  induction n with
  | zero =>
    intro d e h g
    cases d <;> cases e <;> first | exact h.elim | exact g.elim | simp [pyOf, PyData.eqv]
  | succ n ih =>
    have all : ∀ {ds es : List D}, (∀ d ∈ ds, Pure n d) → (∀ d ∈ es, Pure n d) → (PyData.eqvAll (ds.map (pyOf n)) (es.map (pyOf n)) = true ↔ ds = es) := by
      intro ds
      induction ds with
      | nil => intro es _ _; cases es <;> simp [PyData.eqvAll]
      | cons d ds ihl =>
        intro es h g
        cases es with
        | nil => simp [PyData.eqvAll]
        | cons e es =>
          have h1 := ih (h d (by simp)) (g e (by simp))
          have h2 := ihl (es := es) (fun x hx => h x (by simp [hx])) (fun x hx => g x (by simp [hx]))
          simp only [List.map_cons, PyData.eqvAll, Bool.and_eq_true, h1, h2, List.cons.injEq]
    intro d e h g
    cases d <;> cases e <;> first
      | exact h.elim
      | exact g.elim
      | (simp only [pyOf, PyData.eqv, D.tup.injEq, D.lst.injEq]; exact all h g)
      | simp [pyOf, PyData.eqv]
/-- the answer of == -/
theorem dEq_pure {n : Nat} {x y : D} {M : Mem} {Q : DK} (h : Pure n x) (g : Pure n y) (hn : n ≤ 63) (k : ∀ b : Bool, (b = true ↔ x = y) → Q (.bl b) M) : dEq x y M Q := by
  have main : ∃ p q, Py M x p ∧ Py M y q ∧ SeqAt.shaped p = true ∧ SeqAt.shaped q = true ∧ Q (.bl (PyData.eqv p q)) M :=
    ⟨_, _, (pyOf_ok h).1, (pyOf_ok g).1, shaped_of (M := M) h hn, shaped_of (M := M) g hn, k _ (eqv_of h g)⟩
  unfold dEq
  split
  · exact k _ (by simp)
  · exact k _ (by simp)
  · exact k _ (by simp)
  · exact main
theorem dNe_pure {n : Nat} {x y : D} {M : Mem} {Q : DK} (h : Pure n x) (g : Pure n y) (hn : n ≤ 63) (k : ∀ b : Bool, (b = true ↔ x = y) → Q (.bl (!b)) M) : dNe x y M Q := by
  have main : ∃ p q, Py M x p ∧ Py M y q ∧ SeqAt.shaped p = true ∧ SeqAt.shaped q = true ∧ Q (.bl (!PyData.eqv p q)) M :=
    ⟨_, _, (pyOf_ok h).1, (pyOf_ok g).1, shaped_of (M := M) h hn, shaped_of (M := M) g hn, k _ (eqv_of h g)⟩
  unfold dNe
  split
  · exact k _ (by simp)
  · exact k _ (by simp)
  · exact k _ (by simp)
  · exact main
/-- .. where a list may stand in a cell -/
theorem py_cell {a : Addr} {n : Nat} {ds : List D} {M : Mem} (hm : M a = some (.lst ds)) (h : Pure n (.lst ds)) : Py M (.ref a) (pyOf n (.lst ds)) := by
  cases n with
  | zero => exact h.elim
  | succ n =>
    have := (pyOf_ok (M := M) h).1
    cases this with
    | lst l => exact .ref hm l
theorem dNe_cellR {n : Nat} {a : Addr} {xs ds : List D} {M : Mem} {Q : DK} (hm : M a = some (.lst ds)) (h : Pure n (.lst xs)) (g : Pure n (.lst ds)) (hn : n ≤ 63) (k : ∀ b : Bool, (b = true ↔ xs = ds) → Q (.bl (!b)) M) : dNe (.lst xs) (.ref a) M Q :=
  ⟨_, _, (pyOf_ok h).1, py_cell hm g, shaped_of (M := M) h hn, shaped_of (M := M) g hn, k _ (by rw [eqv_of h g]; simp)⟩
theorem dNe_cellL {n : Nat} {a : Addr} {xs ds : List D} {M : Mem} {Q : DK} (hm : M a = some (.lst xs)) (h : Pure n (.lst xs)) (g : Pure n (.lst ds)) (hn : n ≤ 63) (k : ∀ b : Bool, (b = true ↔ xs = ds) → Q (.bl (!b)) M) : dNe (.ref a) (.lst ds) M Q :=
  ⟨_, _, py_cell hm h, (pyOf_ok g).1, shaped_of (M := M) h hn, shaped_of (M := M) g hn, k _ (by rw [eqv_of h g]; simp)⟩
theorem pure_ints {ns : List Int} {n : Nat} : Pure (n + 1) (.lst (ns.map D.int)) := fun d hd => by
  obtain ⟨i, _, rfl⟩ := List.mem_map.mp hd
  cases n <;> trivial
theorem pure_row {ns : List Int} {n : Nat} : Pure (n + 1) (.tup (ns.map D.int)) := fun d hd => by
  obtain ⟨i, _, rfl⟩ := List.mem_map.mp hd
  cases n <;> trivial
theorem map_int_inj : ∀ {a b : List Int}, a.map D.int = b.map D.int → a = b
  | [], [], _ => rfl
  | [], _ :: _, h => by simp at h
  | _ :: _, [], h => by simp at h
  | x :: xs, y :: ys, h => by
    simp only [List.map_cons, List.cons.injEq, D.int.injEq] at h
    rw [h.1, map_int_inj h.2]
/-! ### of sequences of any kind -/
theorem dLen_seq {x : D} {M : Mem} {ds : List D} {Q : DK} (h : Seq x M ds) (q : Q (.int ds.length) M) : dLen x M Q := by
  rcases h with rfl | rfl | rfl | ⟨a, rfl, hm⟩
  · exact q
  · exact q
  · exact q
  · exact ⟨ds, hm, q⟩
theorem dIx_seq {x : D} {M : Mem} {ds : List D} {i : Int} {d : D} {Q : DK} (h : Seq x M ds) (hd : atI ds i = some d) (q : Q d M) : dIx x (.int i) M Q := by
  rcases h with rfl | rfl | rfl | ⟨a, rfl, hm⟩
  · exact ⟨d, hd, q⟩
  · exact ⟨d, hd, q⟩
  · exact ⟨d, hd, q⟩
  · exact ⟨ds, d, hm, hd, q⟩
theorem Seq.lst {ds : List D} {M : Mem} : Seq (.lst ds) M ds := .inl rfl
theorem Seq.tup {ds : List D} {M : Mem} : Seq (.tup ds) M ds := .inr (.inl rfl)
theorem Seq.cell {a : Addr} {ds : List D} {M : Mem} (h : M a = some (.lst ds)) : Seq (.ref a) M ds := .inr (.inr (.inr ⟨a, rfl, h⟩))
/-! ### a law's promise -/
@[irreducible] def S_law (s : D) (_ : Mem) (Q : DK) (_ : DXK) : Prop := ∃ ns : List Int, s = .ro (ns.map D.int) ∧ ns.length ≤ 63 ∧ ∀ M', Q (.bl true) M'
@[reducible] def sp_law : DSp := spk1 S_law
/-- the heap without the dicts of fresh instances -/
def noOwn (H : Hp) : Hp := fun b => match H b with
  | some (.own _) => none
  | o => o
theorem noOwn_at {H : Hp} {b : Addr} {o : HO} (h : H b = some o) (n : ∀ x, o ≠ .own x) : noOwn H b = some o := by
  unfold noOwn
  rw [h]
  cases o <;> first | rfl | exact absurd rfl (n _)
theorem noOwn_same (H : Hp) : Same (noOwn H) H := fun b u e => by
  unfold noOwn at e
  split at e
  · cases e
  · exact e
theorem noOwn_sown (H : Hp) : ∀ a x, noOwn H a ≠ some (.own x) := fun a x e => by
  unfold noOwn at e
  split at e
  · cases e
  · rename_i h
    exact h _ e
theorem noOwn_seq {K : PySem.W.Frag} {H : Hp} {a : Addr} {xs : List V} (h : SqL K H a xs) : SqL K (noOwn H) a xs := by
  rcases h with (h | ⟨o, h⟩) | h
  · exact .inl (.inl (noOwn_at h fun _ z => nomatch z))
  · exact .inl (.inr ⟨o, noOwn_at h fun _ z => nomatch z⟩)
  · exact .inr h
/-- at the law's start the script stands alone -/
theorem law_start {K : PySem.W.Frag} {H : Hp} {a : Addr} {ns : List Int} (hl : ns.length ≤ 63) (hS : SqL K H a (ns.map V.int)) : liftSp K sp_law [.ref a] H (fun v _ => v = .bl true) fun _ _ _ => False := by
  refine ⟨fun _ => none, noOwn H, fun _ => none, [.ro (ns.map D.int)], fun d _ => d = .bl true, fun _ _ _ => False, ⟨noOwn_same H, (fun _ _ z => nomatch z), (fun _ _ z => nomatch z), noOwn_sown H, (fun _ _ z => nomatch z)⟩, .cons (.ro (noOwn_seq hS) IsL.ofInts) .nil, ?_, ?_, fun _ _ _ _ _ _ z => z.elim⟩
  · show S_law _ _ _ _
    unfold S_law
    exact ⟨ns, rfl, hl, fun _ => rfl⟩
  · rintro d _ v _ _ rfl _ _ i
    cases i
    rfl
theorem ex_none {P : Program} {w : World} {o : List Env} {H : Hp} {s : Shared} {e : Value} {s' : Shared} (z : EX P w o H s (fun _ _ _ => False) e s') : False := by
  obtain ⟨_, _, _, _, _, _, _, _, _, _, _, _, h⟩ := z
  exact h
/-- a law lets nothing out -/
theorem fn_quiet {P : Program} {w : World} {K : PySem.W.Frag} {mg : PySem.Str → Option Value} {base : Heap} {k : Nat} {f : Addr} {fd : FuncData} {ps : List PySem.Str} {sp : Sp} (F : FnOk P w K mg base (EX P w) k f fd ps sp)
    (h : ∀ vs H Q E, sp vs H Q E → sp vs H Q fun _ _ _ => False) : FnOk P w K mg base CX0 k f fd ps sp :=
  ⟨F.len, fun A outer s H args us vs Q E hr e0 hb hv hs => codeAny_mono (F.run A outer s H args us vs Q _ hr e0 hb hv (h vs H Q E hs)) fun r s' z => by
    cases r with
    | ok r => cases r <;> exact z
    | error e => exact (ex_none z).elim⟩
theorem law_quiet {K : PySem.W.Frag} : ∀ vs H Q E, liftSp K sp_law vs H Q E → liftSp K sp_law vs H Q fun _ _ _ => False := fun vs H Q E h => by
  obtain ⟨F, S, M, ds, QD, ED, r, l, h, kq, ke⟩ := h
  refine ⟨F, S, M, ds, QD, fun _ _ _ => False, r, l, ?_, kq, fun _ _ _ _ _ _ z => z.elim⟩
  have e : ds.length = 1 := spk1_len _ _ _ _ h
  match ds, e with
  | [d], _ =>
    show S_law _ _ _ _
    have h : S_law _ _ _ _ := h
    unfold S_law at h ⊢
    exact h
end DL

/-! DText: written forms of integers. -/
namespace DL
open PySem PySem.Spec PyProof.Rows L2 TL
theorem mulW {i j : Int} {a b : Nat} (ha : i.natAbs < 2 ^ a) (hb : j.natAbs < 2 ^ b) (h0 : 0 < a) (h1 : 0 < b) (h : a + b ≤ 1000000) : MulOk i j := .inr (wide_mul ha hb h0 h1 h)
theorem mulL {i j : Int} (h0 : -(2 ^ 64) < i) (h1 : i < 2 ^ 64) : MulOk i j := .inl (.inl ⟨h0, h1⟩)
/-- the written form -/
@[reducible] def numT (i : Int) : PySem.Str := PySem.Str.ofString (toString i)
def intL (i : Int) : List Nat := if i < 0 then 45 :: numL i.natAbs else numL i.natAbs
theorem tl_int (i : Int) : tl (numT i) = intL i := by
  cases i with
  | ofNat n =>
    have e : intL (Int.ofNat n) = numL n := if_neg (by simp)
    rw [e]
    exact tl_num n
  | negSucc n =>
    have e : intL (Int.negSucc n) = 45 :: numL (n + 1) := if_pos (Int.negSucc_lt_zero n)
    rw [e, tl_ofString]
    have s : toString (Int.negSucc n) = "-" ++ toString (n + 1) := rfl
    rw [s, String.toList_append, List.map_append]
    have t := tl_num (n + 1)
    rw [tl_ofString] at t
    rw [show (toString (n + 1)) = toString (((n + 1 : Nat)) : Int) from rfl, t]
    rfl
theorem digit_at {d : Int} (h0 : 0 ≤ d) (h1 : d < 10) : atI ("0123456789" : PySem.Str).cps.toList d = some (48 + d.toNat) := by
  have h : ∀ k : _root_.Fin 10, atI ("0123456789" : PySem.Str).cps.toList ((k.val : Nat) : Int) = some (48 + k.val) := by decide +kernel
  have := h ⟨d.toNat, by omega⟩
  have e : ((d.toNat : Nat) : Int) = d := by omega
  rw [e] at this
  exact this
theorem intL_len {i : Int} (h : i.natAbs < 10 ^ 60) : (intL i).length ≤ 61 := by
  unfold intL
  have := numL_len (n := i.natAbs) (k := 60) (by decide) h
  split
  · simp; omega
  · omega
end DL

/-! DMore: walks over lists, tuples, texts. -/
namespace DL
open PySem PySem.Spec PyProof.Rows L2
/-! ### a list, a tuple or a text is walked -/
def iAny (K : PySem.W.Frag) (tl : TE) : TI := fun σ H R => tl σ H fun x H1 => (∃ a, x = .ref a ∧ (∃ xs, SqL K H1 a xs) ∧ R (Itl K a) H1) ∨ (∃ a, x = .ref a ∧ (∃ xs, SqT K H1 a xs) ∧ R (Itt K a) H1) ∨ ∃ x', x = .str x' ∧ R (Its x') H1
theorem pi_any {X : Cx} {tg l : Expr} {tl : TE} (hl : PE X l tl) : PI X tg l (iAny X.K tl) := by
  refine ⟨fun pins s σ H R I h => ?_⟩
  refine thn (hl.run pins s σ H _ I h) fun v s1 ⟨x, H1, I1, r1, q1⟩ => ?_
  have fp : ∀ b ∈ [s1.heap.objs.size], _ := fun b hb => by
    have e : b = s1.heap.objs.size := by simpa using hb
    subst e
    exact I1.fpOk (Nat.le_refl _) (I1.hok.fresh (Nat.le_refl _))
  rcases q1 with ⟨a, e, ⟨xs, hq⟩, q⟩ | ⟨a, e, ⟨xs, hq⟩, q⟩ | ⟨y, e, q⟩
  · subst e
    cases r1
    obtain ⟨its, rv, p, hz⟩ := I1.list hq
    refine wpAny_pyIter_list p.isList ?_
    exact ⟨s1.heap.objs.size, [s1.heap.objs.size], _, _, H1, rfl, I1.kept (t' := s1.toks) fun b o e => Heap.get?_push_of_some _ e, turn_list a _, ⟨_, Heap.get?_push_size _ rfl, rfl, rfl⟩, fp, q⟩
  · subst e
    cases r1
    obtain ⟨its, rv, p, hz⟩ := I1.tuple hq
    refine wpAny_pyIter_tuple (show s1.heap.IsTuple a its.toArray from p) ?_
    exact ⟨s1.heap.objs.size, [s1.heap.objs.size], _, _, H1, rfl, I1.kept (t' := s1.toks) fun b o e => Heap.get?_push_of_some _ e, turn_tuple a _, ⟨_, Heap.get?_push_size _ rfl, rfl, rfl⟩, fp, q⟩
  · subst e
    obtain ⟨t, rfl⟩ := r1
    cases ha : y.cps.all (· < 128)
    · exact wpAny_pyIter_wide ha (pi_one (tk := s1.toks) I1 _ (turn_str _ y t "str_iterator" (.inr rfl)) ⟨_, Heap.get?_push_size _ rfl, rfl, rfl⟩ q)
    · exact wpAny_pyIter_ascii ha (pi_one (tk := s1.toks) I1 _ (turn_str _ y t "str_ascii_iterator" (.inl rfl)) ⟨_, Heap.get?_push_size _ rfl, rfl, rfl⟩ q)
/-- the characters of a text -/
def chD (s : PySem.Str) : List D := s.cps.toList.map fun c => D.str ⟨#[c]⟩
theorem iter_str {K : PySem.W.Frag} {F S : Hp} {x : PySem.Str} : IterOf K F S none (Its x) (chD x) where
  go := fun i S1 M H e r _ hi => by
    show i < x.cps.size
    simpa [chD] using hi
  stop := fun i S1 M H e r _ hi => by
    show x.cps.size ≤ i
    simpa [chD] using hi
  yld := fun i S1 M H v H' e r _ hi y => by
    obtain ⟨rfl, c, hc, rfl⟩ := y
    refine ⟨S1, .str ⟨#[c]⟩, Same.refl _, r, ?_, .str _⟩
    simp only [chD, List.getElem?_map, Array.getElem?_toList, hc, Option.map_some]
def dSeqOf (x : D) (M : Mem) (Q : List D → DGd → Mem → Prop) : Prop := match x with
  | .lst ds => Q ds none M
  | .ro ds => Q ds none M
  | .tup ds => Q ds none M
  | .str s => Q (chD s) none M
  | .ref a => ∃ ds, M a = some (.lst ds) ∧ Q ds (some fun M' => M' a = some (.lst ds)) M
  | _ => False
@[reducible] def diSeq (te : DTE) : DTI := fun σ M Q => te σ M fun x M1 => dSeqOf x M1 Q
section
variable {X : Cx} {g : Gr} {tg l : Expr} {tl : DTE}
theorem di_seq (hl : DE X g l tl) : DI X g tg l (diSeq tl) := by
  refine ⟨pi_imp (pi_any hl.run) fun σ H R h => ?_⟩
  obtain ⟨S, M, sd, QD, a, q, k⟩ := h
  refine ⟨S, M, sd, _, a, q, fun d M1 v S1 H1 q1 e1 r1 i1 => ?_⟩
  have main : ∀ {b : Addr} {vs : List V} {ds : List D}, SqL X.K S1 b vs → IsL X.K S1 vs ds → QD ds none M1 → (∃ xs, SqL X.K H1 b xs) ∧ R (Itl X.K b) H1 := fun {b vs ds} s l q =>
    ⟨⟨vs, r1.same.seq s⟩, k ds none M1 S1 H1 _ q e1 r1 fun F _ => ⟨fun i S2 M H e r _ hi => by
      have hl := l.length
      exact ⟨vs, vs[i]'(by omega), (e.trans r.same).seq s, by simp⟩,
      fun i S2 M H e r _ hi => ⟨vs, (e.trans r.same).seq s, by rw [l.length]; exact hi⟩,
      fun i S2 M H x H' e r _ hi y => by
        obtain ⟨rfl, y⟩ := y
        have hx := y vs ((e.trans r.same).seq s)
        obtain ⟨d, hd, id⟩ := l.get' hx
        exact ⟨S2, d, Same.refl _, r, hd, id.mono e⟩⟩⟩
  cases i1 with
  | lst s l => exact .inl ⟨_, rfl, main (SqL.of s) l q1⟩
  | ro s l => exact .inl ⟨_, rfl, main s l q1⟩
  | @tup b vs ds s l =>
    exact .inr (.inl ⟨b, rfl, ⟨vs, sqT_mono r1.same s⟩, k ds none M1 S1 H1 _ q1 e1 r1 fun F _ => ⟨fun i S2 M H e r _ hi => by
      have hl := l.length
      exact ⟨vs, vs[i]'(by omega), sqT_mono (e.trans r.same) s, by simp⟩,
      fun i S2 M H e r _ hi => ⟨vs, sqT_mono (e.trans r.same) s, by rw [l.length]; exact hi⟩,
      fun i S2 M H x H' e r _ hi y => by
        obtain ⟨rfl, y⟩ := y
        have hx := y vs (sqT_mono (e.trans r.same) s)
        obtain ⟨d, hd, id⟩ := l.get' hx
        exact ⟨S2, d, Same.refl _, r, hd, id.mono e⟩⟩⟩)
  | ref b =>
    obtain ⟨ds, hm, q⟩ := q1
    obtain ⟨_, vs, hv, l⟩ := r1.cell b _ hm
    refine .inl ⟨b, rfl, ⟨vs, SqL.of hv⟩, k ds _ M1 S1 H1 _ q e1 r1 fun F _ => ⟨fun i S2 M H e r c hi => ?_, fun i S2 M H e r c hi => ?_, fun i S2 M H x H' e r c hi y => ?_⟩⟩
    · obtain ⟨_, ws, hw, l2⟩ := r.cell b _ c
      have hl := l2.length
      exact ⟨ws, ws[i]'(by omega), SqL.of hw, by simp⟩
    · obtain ⟨_, ws, hw, l2⟩ := r.cell b _ c
      exact ⟨ws, SqL.of hw, by rw [l2.length]; exact hi⟩
    · obtain ⟨_, ws, hw, l2⟩ := r.cell b _ c
      obtain ⟨rfl, y⟩ := y
      have hx := y ws (SqL.of hw)
      obtain ⟨d, hd, id⟩ := l2.get' hx
      exact ⟨S2, d, Same.refl _, r, hd, id⟩
  | str x => exact .inr (.inr ⟨x, rfl, k _ none M1 S1 H1 _ q1 e1 r1 fun F _ => iter_str⟩)
  | _ => exact q1.elim
end
/-- a new list is handed out: the caller takes it as one that never changes, or as a cell -/
def FL (Q : DK) (M : Mem) (ds : List D) : Prop := Q (.lst ds) M ∨ ∀ p, M p = none → Q (.ref p) (mset M p (.lst ds))
theorem fl_ret {Q : DK} {M : Mem} {ds : List D} {p : Addr} (h : FL Q M ds) (hp : M p = none) : QF Q (.ref p) (mset M p (.lst ds)) := by
  rcases h with h | h
  · exact qf_frz mset_same (fun a co e => ⟨mne e hp, by rw [mset_ne (mne e hp)]; exact e⟩) h
  · exact qf_same (h p hp)
/-- .. where more cells of one's own are forgotten -/
theorem fl_cell {Q : DK} {M M' : Mem} {ds : List D} {p : Addr} (h : FL Q M ds) (hp : M p = none) (hm : M' p = some (.lst ds)) (hs : ∀ a co, M a = some co → M' a = some co) : QF Q (.ref p) M' := by
  rcases h with h | h
  · exact qf_frz hm (fun a co e => ⟨mne e hp, hs a co e⟩) h
  · refine qf_less (fun a co e => ?_) (h p hp)
    by_cases hap : a = p
    · subst hap
      rw [mset_same] at e
      cases e
      exact hm
    · rw [mset_ne hap] at e
      exact hs a co e
theorem LstOf.py {n : Nat} {x : D} {ds : List D} {M : Mem} (h : LstOf x M ds) (p : Pure n (.lst ds)) : Py M x (pyOf n (.lst ds)) := by
  rcases h with rfl | ⟨a, rfl, hm⟩
  · exact (pyOf_ok p).1
  · exact py_cell hm p
theorem dEq_lists {n : Nat} {x y : D} {xs ys : List D} {M : Mem} {Q : DK} (h : LstOf x M xs) (g : LstOf y M ys) (p : Pure n (.lst xs)) (q : Pure n (.lst ys)) (hn : n ≤ 63) (k : ∀ b : Bool, (b = true ↔ xs = ys) → Q (.bl b) M) : dEq x y M Q := by
  have main : ∃ p q, Py M x p ∧ Py M y q ∧ SeqAt.shaped p = true ∧ SeqAt.shaped q = true ∧ Q (.bl (PyData.eqv p q)) M :=
    ⟨_, _, h.py p, g.py q, shaped_of (M := M) p hn, shaped_of (M := M) q hn, k _ (by rw [eqv_of p q]; simp)⟩
  rcases h with rfl | ⟨a, rfl, hm⟩ <;> rcases g with rfl | ⟨b, rfl, hm'⟩ <;> exact main
theorem dNe_lists {n : Nat} {x y : D} {xs ys : List D} {M : Mem} {Q : DK} (h : LstOf x M xs) (g : LstOf y M ys) (p : Pure n (.lst xs)) (q : Pure n (.lst ys)) (hn : n ≤ 63) (k : ∀ b : Bool, (b = true ↔ xs = ys) → Q (.bl (!b)) M) : dNe x y M Q := by
  have main : ∃ p q, Py M x p ∧ Py M y q ∧ SeqAt.shaped p = true ∧ SeqAt.shaped q = true ∧ Q (.bl (!PyData.eqv p q)) M :=
    ⟨_, _, h.py p, g.py q, shaped_of (M := M) p hn, shaped_of (M := M) q hn, k _ (by rw [eqv_of p q]; simp)⟩
  rcases h with rfl | ⟨a, rfl, hm⟩ <;> rcases g with rfl | ⟨b, rfl, hm'⟩ <;> exact main
theorem LstOf.seq {x : D} {M : Mem} {ds : List D} (h : LstOf x M ds) : Seq x M ds := h.elim .inl fun ⟨a, e, hm⟩ => .inr (.inr (.inr ⟨a, e, hm⟩))
theorem LstOf.ty {x : D} {M : Mem} {ds : List D} (h : LstOf x M ds) : TyD M x .li := by
  rcases h with rfl | ⟨a, rfl, hm⟩
  · exact .lst _
  · exact .ref hm
theorem LstOf.lst {ds : List D} {M : Mem} : LstOf (.lst ds) M ds := .inl rfl
theorem LstOf.cell {a : Addr} {ds : List D} {M : Mem} (h : M a = some (.lst ds)) : LstOf (.ref a) M ds := .inr ⟨a, rfl, h⟩
/-- a walk over a list of any kind: no turn changes it -/
theorem dSeqOf_list {x : D} {M : Mem} {ds : List D} {Q : List D → DGd → Mem → Prop} (h : LstOf x M ds) (q : ∀ C : DGd, C.ok M → (C = none ∨ ∃ a, x = .ref a ∧ C = some fun M' => M' a = some (.lst ds)) → Q ds C M) : dSeqOf x M Q := by
  rcases h with rfl | ⟨a, rfl, hm⟩
  · exact q none trivial (.inl rfl)
  · exact ⟨ds, hm, q _ hm (.inr ⟨a, rfl, rfl⟩)⟩
/-- .. of a loop, of a comprehension -/
theorem for_list {x : D} {M : Mem} {ds : List D} {gt : DTG} {tb : DTS} {E : DEnds} {σ : DSt} (h : LstOf x M ds) (Pv : Nat → DSt → Mem → Prop) (keep : ∀ i σ M', Pv i σ M' → LstOf x M' ds) (t : dTurns gt tb E ds σ M Pv) :
    dSeqOf x M fun ds C M1 => match C with
      | none => ∃ Pv : Nat → DSt → Mem → Prop, dTurns gt tb E ds σ M1 Pv
      | some c => ∃ Pv : Nat → DSt → Mem → Prop, (∀ i σ M, Pv i σ M → c M) ∧ dTurns gt tb E ds σ M1 Pv := by
  rcases h with rfl | ⟨a, rfl, hm⟩
  · exact ⟨Pv, t⟩
  · refine ⟨ds, hm, Pv, fun i σ M' p => ?_, t⟩
    rcases keep i σ M' p with e | ⟨b, e, hb⟩
    · cases e
    · cases e; exact hb
theorem comp_list {x : D} {M : Mem} {ds : List D} {tg : Tg} {tt : DTT} {te : DTE} {vs : List Nat} {Q : List D → Mem → Prop} {σ : DSt} (h : LstOf x M ds) (hz : ds.length ≤ sizeLine) (Pv : Nat → List D → Mem → Prop) (keep : ∀ i acc M', Pv i acc M' → LstOf x M' ds) (t : dGoes tg tt te vs Q ds σ M Pv) :
    dSeqOf x M fun ds C M1 => ds.length ≤ sizeLine ∧ match C with
      | none => ∃ Pv : Nat → List D → Mem → Prop, dGoes tg tt te vs Q ds σ M1 Pv
      | some c => ∃ Pv : Nat → List D → Mem → Prop, (∀ i acc M, Pv i acc M → c M) ∧ dGoes tg tt te vs Q ds σ M1 Pv := by
  rcases h with rfl | ⟨a, rfl, hm⟩
  · exact ⟨hz, Pv, t⟩
  · refine ⟨ds, hm, hz, Pv, fun i acc M' p => ?_, t⟩
    rcases keep i acc M' p with e | ⟨b, e, hb⟩
    · cases e
    · cases e; exact hb
/-- values that have a built-in type wherever they stand -/
def Typ (d : D) : Prop := ∃ t, ∀ M, TyD M d t
theorem typ_int (i : Int) : Typ (.int i) := ⟨_, fun _ => .int i⟩
theorem typ_bl (b : Bool) : Typ (.bl b) := ⟨_, fun _ => .bl b⟩
theorem typ_str (b : PySem.Str) : Typ (.str b) := ⟨_, fun _ => .str b⟩
theorem typ_non : Typ .non := ⟨_, fun _ => .non⟩
theorem typ_tup (ds : List D) : Typ (.tup ds) := ⟨_, fun _ => .tup ds⟩
theorem typ_lst (ds : List D) : Typ (.lst ds) := ⟨_, fun _ => .lst ds⟩
theorem typ_ints {ns : List Int} : ∀ d ∈ ns.map D.int, Typ d := fun d h => by
  obtain ⟨i, _, rfl⟩ := List.mem_map.mp h
  exact typ_int i
def isI : D → Bool
  | .int _ => true
  | _ => false
/-- a row of the width -/
def rowB (w : Int) : D → Bool
  | .tup ds => decide ((ds.length : Int) = w) && ds.all isI
  | _ => false
theorem all_isI {ns : List Int} : (ns.map D.int).all isI = true := by
  rw [List.all_eq_true]
  intro d h
  obtain ⟨i, _, rfl⟩ := List.mem_map.mp h
  rfl
theorem of_all_isI : ∀ {ds : List D}, ds.all isI = true → ∃ ns : List Int, ds = ns.map .int
  | [], _ => ⟨[], rfl⟩
  | d :: ds, h => by
    simp only [List.all_cons, Bool.and_eq_true] at h
    obtain ⟨ns, rfl⟩ := of_all_isI h.2
    cases d with
    | int i => exact ⟨i :: ns, rfl⟩
    | _ => exact absurd h.1 (by simp [isI])
end DL

/-! DMeth: methods of texts and of lists; x in y. -/
namespace DL
open PySem PySem.Spec PyProof.Rows L2
/-! ### methods of texts -/
abbrev DMS := PySem.Str → List D → Mem → DK → Prop
def liftMS (K : PySem.W.Frag) (r : DMS) : V → List V → Hp → VK → Prop := fun x xs H Q => ∃ F S M s ds, ∃ QD : DK, Rep K F S M H ∧ x = .str s ∧ IsL K S xs ds ∧ r s ds M QD ∧
  ∀ d M' v S' H', QD d M' → Same S S' → Rep K F S' M' H' → Is K S' v d → Q v H'
@[reducible] def dSM (r : DMS) (to : DTE) (t : DTA) : DTE := fun σ M Q => to σ M fun x M1 => match x with
  | .str s => t σ M1 fun ds M2 => r s ds M2 Q
  | _ => False
section
variable {X : Cx} {g : Gr} {o e : Expr} {es : List Expr} {to : DTE} {t : DTA} {apos cpos : Pos} {name : PySem.Str} {id : String} {r : DMS}
theorem de_sm (slot : Slot "str" name id) (hty : typeOf (.builtin id) = pure (.type "method_descriptor")) (hm : MtR X id (liftMS X.K r)) (ho : DE X g o to) (ha : DA X g (e :: es) t)
    (h : ∀ {to' : TE} {t' : TA}, PE X o to' → PA X (e :: es) t' → PE X (.Call (.Attribute o name apos) (e :: es) [] cpos) (tBM X.K "str" (liftMS X.K r) to' t')) : DE X g (.Call (.Attribute o name apos) (e :: es) [] cpos) (dSM r to t) := by
  refine ⟨pe_imp (h ho.run ha.run) fun σ H Q hh => ?_⟩
  obtain ⟨S, M, sd, QD, a, q, k⟩ := hh
  refine ⟨S, M, sd, _, a, q, fun d M1 v S1 H1 q1 e1 r1 i1 => ?_⟩
  cases i1 with
  | str s =>
    refine ⟨rfl, S1, M1, sd, _, a.step e1 r1, q1, fun ds M2 ws S2 H2 q2 e2 r2 i2 => ?_⟩
    exact ⟨g.F, S2, M2, s, ds, QD, r2, rfl, i2, q2, fun d M' v S' H' q' e' r' i' => k _ _ _ _ _ q' ((e1.trans e2).trans e') r' i'⟩
  | _ => exact q1.elim
theorem de_sm0 (slot : Slot "str" name id) (hty : typeOf (.builtin id) = pure (.type "method_descriptor")) (hm : MtR X id (liftMS X.K r)) (ho : DE X g o to)
    (h : ∀ {to' : TE}, PE X o to' → PE X (.Call (.Attribute o name apos) [] [] cpos) (tBM0 X.K "str" (liftMS X.K r) to')) : DE X g (.Call (.Attribute o name apos) [] [] cpos) (dSM r to dNil) := by
  refine ⟨pe_imp (h ho.run) fun σ H Q hh => ?_⟩
  obtain ⟨S, M, sd, QD, a, q, k⟩ := hh
  refine ⟨S, M, sd, _, a, q, fun d M1 v S1 H1 q1 e1 r1 i1 => ?_⟩
  cases i1 with
  | str s => exact ⟨rfl, g.F, S1, M1, s, [], QD, r1, rfl, .nil, q1, fun d M' v S' H' q' e' r' i' => k _ _ _ _ _ q' (e1.trans e') r' i'⟩
  | _ => exact q1.elim
end
/-- of a text and a text -/
def dS1 (f : PySem.Str → PySem.Str → D) : DMS := fun s ds M Q => match ds with
  | [.str b] => Q (f s b) M
  | _ => False
theorem dS1_inv {f : PySem.Str → PySem.Str → D} {s : PySem.Str} {ds : List D} {M : Mem} {Q : DK} (h : dS1 f s ds M Q) : ∃ b, ds = [.str b] ∧ Q (f s b) M := by
  unfold dS1 at h
  split at h
  · exact ⟨_, rfl, h⟩
  · exact h.elim
def dStarts : DMS := dS1 fun a b => .bl (Txt.startswith a b)
def dEnds : DMS := dS1 fun a b => .bl (Txt.endswith a b)
def dFind : DMS := dS1 fun a b => .int (Txt.find a b)
def dSplit : DMS := fun s ds M Q => ∃ b, ds = [.str b] ∧ (b.length == 0) = false ∧ s.length + 2 ≤ sizeLine ∧ Q (.lst ((Txt.split s b).map .str)) M
def dSplitC : DMS := fun s ds M Q => ∃ b, ds = [.str b] ∧ (b.length == 0) = false ∧ s.length + 2 ≤ sizeLine ∧ ∀ p, M p = none → Q (.ref p) (mset M p (.lst ((Txt.split s b).map .str)))
def dJoin : DMS := fun s ds M Q => ∃ (x : D) (ys : List PySem.Str), ds = [x] ∧ Seq x M (ys.map .str) ∧ (ys.map (·.length)).sum + ys.length * s.length ≤ 16777216 ∧ Q (.str (Txt.join s ys)) M
def dRjust : DMS := fun s ds M Q => ∃ i, ds = [.int i] ∧ PadOk i = true ∧ Q (.str (Txt.rjust s i)) M
section
variable {X : Cx}
theorem dmt1 {id : String} {f : PySem.Str → PySem.Str → D} {fv : PySem.Str → PySem.Str → V} (hf : ∀ K S a b, Is K S (fv a b) (f a b)) (h : MtR X id (fun x xs H Q => ∃ a b, x = .str a ∧ xs = [.str b] ∧ Q (fv a b) H)) : MtR X id (liftMS X.K (dS1 f)) := by
  intro pins s σ H x xs v us Q I rx rxs hh
  obtain ⟨F, S, M, z, ds, QD, rep, rfl, il, hr, hq⟩ := hh
  obtain ⟨b, rfl, q⟩ := dS1_inv hr
  obtain ⟨w, rfl, iw⟩ := isL1 il
  cases iw
  exact h pins s σ H _ _ v us Q I rx rxs ⟨z, b, rfl, rfl, hq _ _ _ S H q (Same.refl _) rep (hf _ _ _ _)⟩
theorem dmt_starts : MtR X "str.startswith" (liftMS X.K dStarts) := dmt1 (fun _ _ _ _ => .bl _) mt_startswith
theorem dmt_ends : MtR X "str.endswith" (liftMS X.K dEnds) := dmt1 (fun _ _ _ _ => .bl _) mt_endswith
theorem dmt_find : MtR X "str.find" (liftMS X.K dFind) := dmt1 (fun _ _ _ _ => .int _) mt_find
theorem dmt_split : MtR X "str.split" (liftMS X.K dSplit) := by
  intro pins s σ H x xs v us Q I rx rxs hh
  obtain ⟨F, S, M, z, ds, QD, rep, rfl, il, ⟨b, rfl, h1, h2, q⟩, hq⟩ := hh
  obtain ⟨w, rfl, iw⟩ := isL1 il
  cases iw
  refine mt_split pins s σ H _ _ v us Q I rx rxs ⟨z, b, rfl, rfl, h1, h2, fun p hp => ?_⟩
  have s1 : Same S (upd S p (.lst ((Txt.split z b).map V.str))) := same_upd (rep.freeS hp)
  exact hq _ M _ _ _ q s1 (rep.frozen hp) (.lst upd_same IsL.ofStrs)
theorem dmt_splitC : MtR X "str.split" (liftMS X.K dSplitC) := by
  intro pins s σ H x xs v us Q I rx rxs hh
  obtain ⟨F, S, M, z, ds, QD, rep, rfl, il, ⟨b, rfl, h1, h2, q⟩, hq⟩ := hh
  obtain ⟨w, rfl, iw⟩ := isL1 il
  cases iw
  refine mt_split pins s σ H _ _ v us Q I rx rxs ⟨z, b, rfl, rfl, h1, h2, fun p hp => ?_⟩
  exact hq _ _ _ S _ (q p (rep.freeM hp)) (Same.refl _) (rep.newCell hp ⟨_, upd_same, IsL.ofStrs⟩) (.ref p)
theorem dmt_join : MtR X "str.join" (liftMS X.K dJoin) := by
  intro pins s σ H x xs v us Q I rx rxs hh
  obtain ⟨F, S, M, z, ds, QD, rep, rfl, il, ⟨y, ys, rfl, sq, hz, q⟩, hq⟩ := hh
  obtain ⟨w, rfl, iw⟩ := isL1 il
  obtain ⟨p, vs, rfl, hs, l⟩ := sq.sq rep iw
  have e := l.strs
  subst e
  exact mt_join pins s σ H _ _ v us Q I rx rxs ⟨z, p, ys, rfl, rfl, hs, hz, hq _ _ _ S H q (Same.refl _) rep (.str _)⟩
theorem dmt_rjust : MtR X "str.rjust" (liftMS X.K dRjust) := by
  intro pins s σ H x xs v us Q I rx rxs hh
  obtain ⟨F, S, M, z, ds, QD, rep, rfl, il, ⟨i, rfl, hz, q⟩, hq⟩ := hh
  obtain ⟨w, rfl, iw⟩ := isL1 il
  cases iw
  exact mt_rjust pins s σ H _ _ v us Q I rx rxs ⟨z, i, rfl, rfl, hz, hq _ _ _ S H q (Same.refl _) rep (.str _)⟩
end
/-! ### methods of lists in cells -/
abbrev DML := Addr → List D → Mem → DK → Prop
def liftML (K : PySem.W.Frag) (r : DML) : V → List V → Hp → VK → Prop := fun x xs H Q => ∃ F S M a ds, ∃ QD : DK, Rep K F S M H ∧ x = .ref a ∧ IsL K S xs ds ∧ r a ds M QD ∧
  ∀ d M' v S' H', QD d M' → Same S S' → Rep K F S' M' H' → Is K S' v d → Q v H'
@[reducible] def dLM (r : DML) (to : DTE) (t : DTA) : DTE := fun σ M Q => to σ M fun x M1 => isCellL x M1 ∧ t σ M1 fun ds M2 => match x with
  | .ref a => r a ds M2 Q
  | _ => False
section
variable {X : Cx} {g : Gr} {o e : Expr} {es : List Expr} {to : DTE} {t : DTA} {apos cpos : Pos} {name : PySem.Str} {id : String} {r : DML}
theorem de_lm (ho : DE X g o to) (ha : DA X g (e :: es) t)
    (h : ∀ {to' : TE} {t' : TA}, PE X o to' → PA X (e :: es) t' → PE X (.Call (.Attribute o name apos) (e :: es) [] cpos) (tBM X.K "list" (liftML X.K r) to' t')) : DE X g (.Call (.Attribute o name apos) (e :: es) [] cpos) (dLM r to t) := by
  refine ⟨pe_imp (h ho.run ha.run) fun σ H Q hh => ?_⟩
  obtain ⟨S, M, sd, QD, a, q, k⟩ := hh
  refine ⟨S, M, sd, _, a, q, fun d M1 v S1 H1 q1 e1 r1 i1 => ?_⟩
  obtain ⟨⟨p, l, rfl, hm⟩, q1⟩ := q1
  cases i1
  obtain ⟨_, vs, hv, il⟩ := r1.cell p _ hm
  refine ⟨.inl ⟨rfl, vs, SqL.of hv⟩, S1, M1, sd, _, a.step e1 r1, q1, fun ds M2 ws S2 H2 q2 e2 r2 i2 => ?_⟩
  exact ⟨g.F, S2, M2, p, ds, QD, r2, rfl, i2, q2, fun d M' v S' H' q' e' r' i' => k _ _ _ _ _ q' ((e1.trans e2).trans e') r' i'⟩
theorem de_lm0 (ho : DE X g o to)
    (h : ∀ {to' : TE}, PE X o to' → PE X (.Call (.Attribute o name apos) [] [] cpos) (tBM0 X.K "list" (liftML X.K r) to')) : DE X g (.Call (.Attribute o name apos) [] [] cpos) (dLM r to dNil) := by
  refine ⟨pe_imp (h ho.run) fun σ H Q hh => ?_⟩
  obtain ⟨S, M, sd, QD, a, q, k⟩ := hh
  refine ⟨S, M, sd, _, a, q, fun d M1 v S1 H1 q1 e1 r1 i1 => ?_⟩
  obtain ⟨⟨p, l, rfl, hm⟩, q1⟩ := q1
  cases i1
  obtain ⟨_, vs, hv, il⟩ := r1.cell p _ hm
  exact ⟨.inl ⟨rfl, vs, SqL.of hv⟩, g.F, S1, M1, p, [], QD, r1, rfl, .nil, q1, fun d M' v S' H' q' e' r' i' => k _ _ _ _ _ q' (e1.trans e') r' i'⟩
end
def dPop : DML := fun a ds M Q => ∃ l y, ds = [] ∧ M a = some (.lst l) ∧ l[l.length - 1]? = some y ∧ Q y (mset M a (.lst l.dropLast))
def dPopAt : DML := fun a ds M Q => ∃ l i k y, ds = [.int i] ∧ M a = some (.lst l) ∧ -(2 ^ 63) ≤ i ∧ i < 2 ^ 63 ∧ seqIndex? i l.length = some k ∧ l[k]? = some y ∧ Q y (mset M a (.lst (l.eraseIdx k)))
def dInsert : DML := fun a ds M Q => ∃ l i y, ds = [.int i, y] ∧ M a = some (.lst l) ∧ l.length < sizeLine ∧ 0 ≤ i ∧ i < 2 ^ 63 ∧ Q .non (mset M a (.lst (l.take i.toNat ++ [y] ++ l.drop i.toNat)))
def dExtend : DML := fun a ds M Q => ∃ l x zs, ds = [x] ∧ M a = some (.lst l) ∧ LstOf x M zs ∧ l.length + zs.length ≤ sizeLine ∧ Q .non (mset M a (.lst (l ++ zs)))
theorem IsL.dropLast {K : PySem.W.Frag} {S : Hp} {ds : List D} {vs : List V} (l : IsL K S vs ds) : IsL K S vs.dropLast ds.dropLast := by
  rw [List.dropLast_eq_take, List.dropLast_eq_take, l.length]
  exact l.take _
theorem IsL.eraseIdx {K : PySem.W.Frag} {S : Hp} : ∀ {ds : List D} {vs : List V} (k : Nat), IsL K S vs ds → IsL K S (vs.eraseIdx k) (ds.eraseIdx k)
  | [], _, k, g => by cases g; exact .nil
  | _ :: _, _, 0, g => by
    cases g with
    | cons a b => exact b
  | _ :: _, _, k + 1, g => by
    cases g with
    | cons a b => exact .cons a (IsL.eraseIdx k b)
section
variable {X : Cx}
theorem dmt_pop : MtR X "list.pop" (liftML X.K dPop) := by
  intro pins s σ H x xs v us Q I rx rxs hh
  obtain ⟨F, S, M, a, ds, QD, rep, rfl, il, ⟨l, y, rfl, hm, hy, q⟩, hq⟩ := hh
  cases il
  obtain ⟨hS, vs, hv, l'⟩ := rep.cell a _ hm
  obtain ⟨w, hw, iw⟩ := l'.get hy
  refine mt_pop pins s σ H _ _ v us Q I rx rxs ⟨a, vs, w, rfl, rfl, hv, by rw [l'.length]; exact hw, ?_⟩
  have rw' := rep.write (o := .lst vs.dropLast) hm (co' := .lst l.dropLast) ⟨_, upd_same, l'.dropLast⟩
  exact hq _ _ _ S _ q (Same.refl _) rw' iw
theorem dmt_popAt : MtR X "list.pop" (liftML X.K dPopAt) := by
  intro pins s σ H x xs v us Q I rx rxs hh
  obtain ⟨F, S, M, a, ds, QD, rep, rfl, il, ⟨l, i, k, y, rfl, hm, h1, h2, hk, hy, q⟩, hq⟩ := hh
  obtain ⟨u, rfl, iu⟩ := isL1 il
  cases iu
  obtain ⟨hS, vs, hv, l'⟩ := rep.cell a _ hm
  obtain ⟨w, hw, iw⟩ := l'.get hy
  refine mt_popAt pins s σ H _ _ v us Q I rx rxs ⟨a, vs, i, k, w, rfl, rfl, hv, h1, h2, by rw [l'.length]; exact hk, hw, ?_⟩
  have rw' := rep.write (o := .lst (vs.eraseIdx k)) hm (co' := .lst (l.eraseIdx k)) ⟨_, upd_same, l'.eraseIdx k⟩
  exact hq _ _ _ S _ q (Same.refl _) rw' iw
theorem dmt_insert : MtR X "list.insert" (liftML X.K dInsert) := by
  intro pins s σ H x xs v us Q I rx rxs hh
  obtain ⟨F, S, M, a, ds, QD, rep, rfl, il, ⟨l, i, y, rfl, hm, hz, h1, h2, q⟩, hq⟩ := hh
  obtain ⟨u, w, rfl, iu, iw⟩ := isL2 il
  cases iu
  obtain ⟨hS, vs, hv, l'⟩ := rep.cell a _ hm
  refine mt_insert pins s σ H _ _ v us Q I rx rxs ⟨a, vs, i, w, rfl, rfl, hv, by rw [l'.length]; exact hz, h1, h2, ?_⟩
  have rw' := rep.write (o := .lst (vs.take i.toNat ++ [w] ++ vs.drop i.toNat)) hm (co' := .lst (l.take i.toNat ++ [y] ++ l.drop i.toNat)) ⟨_, upd_same, ((l'.take _).app (.one iw)).app (l'.drop _)⟩
  exact hq _ _ _ S _ q (Same.refl _) rw' .non
theorem dmt_extend : MtR X "list.extend" (liftML X.K dExtend) := by
  intro pins s σ H x xs v us Q I rx rxs hh
  obtain ⟨F, S, M, a, ds, QD, rep, rfl, il, ⟨l, y, zs, rfl, hm, hy, hz, q⟩, hq⟩ := hh
  obtain ⟨w, rfl, iw⟩ := isL1 il
  obtain ⟨hS, vs, hv, l'⟩ := rep.cell a _ hm
  obtain ⟨b, ws, rfl, hb, l2⟩ := hy.at rep iw
  refine mt_extend pins s σ H _ _ v us Q I rx rxs ⟨a, b, vs, ws, rfl, rfl, hv, hb, by rw [l'.length, l2.length]; exact hz, ?_⟩
  have rw' := rep.write (o := .lst (vs ++ ws)) hm (co' := .lst (l ++ zs)) ⟨_, upd_same, l'.app l2⟩
  exact hq _ _ _ S _ q (Same.refl _) rw' .non
/-! ### a sign in a text -/
def dInS : DR2 := fun x y M Q => ∃ (c : Nat) (z : PySem.Str), x = .str ⟨#[c]⟩ ∧ y = .str z ∧ Q (.bl (decide (c ∈ z.cps.toList))) M
def dNotInS : DR2 := fun x y M Q => ∃ (c : Nat) (z : PySem.Str), x = .str ⟨#[c]⟩ ∧ y = .str z ∧ Q (.bl (!decide (c ∈ z.cps.toList))) M
theorem dop_inS : OpR X (compareOp .In) (liftR2 X.K dInS) := by
  intro pins s σ H x y v u Q I rx ry h
  obtain ⟨F, S, M, dx, dy, QD, rep, ix, iy, ⟨c, z, rfl, rfl, hr⟩, hq⟩ := h
  cases ix
  cases iy
  exact op_in_sign pins s σ H _ _ v u Q I rx ry ⟨c, z, rfl, rfl, hq _ _ _ S H hr (Same.refl _) rep (.bl _)⟩
theorem dop_notInS : OpR X (compareOp .NotIn) (liftR2 X.K dNotInS) := by
  intro pins s σ H x y v u Q I rx ry h
  obtain ⟨F, S, M, dx, dy, QD, rep, ix, iy, ⟨c, z, rfl, rfl, hr⟩, hq⟩ := h
  cases ix
  cases iy
  exact op_notIn_sign pins s σ H _ _ v u Q I rx ry ⟨c, z, rfl, rfl, hq _ _ _ S H hr (Same.refl _) rep (.bl _)⟩
/-- int(text) -/
def dIntS : DR1 := fun x M Q => ∃ a n, x = .str a ∧ PySem.intText? a = some n ∧ a.length ≤ 640 ∧ Q (.int n) M
theorem dcall_intS : CallR X (.type "int") (liftRL X.K (r1 dIntS)) := call1 call_int_str fun {F S H M x d QD Q} rep i hr hq => by
  obtain ⟨a, n, rfl, h1, h2, q⟩ := hr
  cases i
  exact ⟨a, n, rfl, h1, h2, hq _ _ _ S H q (Same.refl _) rep (.int _)⟩
end
end DL

/-! DNum: written forms are read. -/
namespace DL
open PySem PySem.Spec PyProof.Rows L2 TL
/-! ### texts as lists of signs -/
theorem starts_tl (x y : PySem.Str) : Txt.startswith x y = pre (tl y) (tl x) := by
  unfold Txt.startswith
  rw [StrLaws.subAt_eq, Bool.eq_iff_iff]
  simp only [Bool.and_eq_true, decide_eq_true_eq, pre, List.drop_zero]
  rw [len_tl, len_tl x]
  constructor
  · exact fun h => h.2
  · intro h
    refine ⟨?_, h⟩
    have e := congrArg List.length (eq_of_beq h)
    rw [List.length_take] at e
    omega
theorem starts_one {x : PySem.Str} {c : Nat} {y : PySem.Str} (hy : tl y = [c]) : Txt.startswith x y = decide ((tl x).head? = some c) := by
  rw [starts_tl, hy, pre]
  cases tl x with
  | nil => rfl
  | cons d r =>
    simp only [List.length_singleton, List.take_succ_cons, List.take_zero, List.head?_cons, Option.some.injEq]
    rw [Bool.eq_iff_iff, decide_eq_true_eq]
    simp
theorem tl_cut (z : PySem.Str) (lo hi : Option Int) : tl (cutS z lo hi) = ((tl z).drop (HT.sIx (tl z).length 0 lo)).take (HT.sIx (tl z).length (tl z).length hi - HT.sIx (tl z).length 0 lo) := by
  unfold cutS
  rw [len_tl z]
theorem tl_from (z : PySem.Str) (k : Nat) : tl (cutS z (some (k : Int)) none) = (tl z).drop k := by
  rw [tl_cut, HT.sIx_nat, HT.sIx_none]
  by_cases h : k ≤ (tl z).length
  · rw [Nat.min_eq_left h, List.take_of_length_le (by simp)]
  · rw [Nat.min_eq_right (by omega), List.drop_eq_nil_of_le (Nat.le_refl _), List.drop_eq_nil_of_le (by omega), List.take_nil]
theorem tl_upto (z : PySem.Str) (k : Nat) : tl (cutS z none (some (k : Int))) = (tl z).take k := by
  rw [tl_cut, HT.sIx_nat, HT.sIx_none, List.drop_zero, Nat.sub_zero]
  by_cases h : k ≤ (tl z).length
  · rw [Nat.min_eq_left h]
  · rw [Nat.min_eq_right (by omega), List.take_of_length_le (Nat.le_refl _), List.take_of_length_le (by omega)]
theorem str_eq {x y : PySem.Str} : x = y ↔ tl x = tl y := ⟨fun h => by rw [h], ext_tl⟩
theorem revInd {α : Type} {P : List α → Prop} (nil : P []) (snoc : ∀ l a, P l → P (l ++ [a])) (l : List α) : P l := by
  have h : ∀ m : List α, P m.reverse := by
    intro m
    induction m with
    | nil => exact nil
    | cons a m ih =>
      rw [List.reverse_cons]
      exact snoc _ _ ih
  have := h l.reverse
  rwa [List.reverse_reverse] at this
/-! ### values of digits -/
abbrev digs (l : List Nat) : Bool := l.all fun c => decide (48 ≤ c) && decide (c ≤ 57)
theorem digs_all {l : List Nat} (h : digs l = true) : NumText.AllDigits l := fun c hc => by
  have := List.all_eq_true.mp h c hc
  simpa using this
theorem digs_of {l : List Nat} (h : NumText.AllDigits l) : digs l = true := by
  refine List.all_eq_true.mpr fun c hc => ?_
  simpa using h c hc
theorem val_snoc (l : List Nat) (c : Nat) : NumText.digitsVal (l ++ [c]) = NumText.digitsVal l * 10 + (c - 48) := by
  unfold NumText.digitsVal
  rw [List.foldl_append]
  rfl
theorem val_lt : ∀ (l : List Nat), digs l = true → NumText.digitsVal l < 10 ^ l.length := by
  refine revInd (fun _ => by decide) fun l c ih => ?_
  · intro h
    have h1 : digs l = true ∧ digs [c] = true := by simpa [digs, List.all_append] using h
    have h2 : 48 ≤ c ∧ c ≤ 57 := by simpa [digs] using h1.2
    have := ih h1.1
    rw [val_snoc, List.length_append, List.length_singleton, Nat.pow_succ]
    omega
theorem num_of_val : ∀ (l : List Nat), digs l = true → l ≠ [] → (l.head? ≠ some 48 ∨ l = [48]) → numL (NumText.digitsVal l) = l ∧ (l.head? ≠ some 48 → 0 < NumText.digitsVal l) := by
  refine revInd (fun _ h => absurd rfl h) fun l c ih => ?_
  · intro h _ hh
    have h1 : digs l = true ∧ digs [c] = true := by simpa [digs, List.all_append] using h
    have h2 : 48 ≤ c ∧ c ≤ 57 := by simpa [digs] using h1.2
    rw [val_snoc]
    cases l with
    | nil =>
      have e : NumText.digitsVal [] * 10 + (c - 48) = c - 48 := by simp [NumText.digitsVal]
      rw [e]
      refine ⟨?_, fun h => ?_⟩
      · rw [numL_lt (by omega)]
        simp
        omega
      · have : c ≠ 48 := fun z => h (by rw [z]; rfl)
        omega
    | cons d r =>
      have hd : (d :: r).head? ≠ some 48 := by
        rcases hh with h | h
        · simpa using h
        · exact absurd (congrArg List.length h) (by simp)
      obtain ⟨i1, i2⟩ := ih h1.1 (by simp) (.inl hd)
      have hp := i2 hd
      refine ⟨?_, fun _ => by omega⟩
      rw [numL_step (by omega), show (NumText.digitsVal (d :: r) * 10 + (c - 48)) / 10 = NumText.digitsVal (d :: r) by omega, i1, show 48 + (NumText.digitsVal (d :: r) * 10 + (c - 48)) % 10 = c by omega]
/-! ### the integer that a text writes -/
def numOfL (l : List Nat) : Option Int :=
  if l.head? = some 45 then
    if 1 ≤ l.tail.length ∧ l.tail.length ≤ 60 ∧ digs l.tail = true ∧ l.tail.head? ≠ some 48 then some (-(NumText.digitsVal l.tail : Int)) else none
  else if 1 ≤ l.length ∧ l.length ≤ 60 ∧ digs l = true ∧ (l.head? ≠ some 48 ∨ l = [48]) then some (NumText.digitsVal l : Int) else none
def numOf (z : PySem.Str) : Option Int := numOfL (tl z)
def optI : Option Int → D
  | none => .non
  | some i => .int i
theorem ten60 {n k : Nat} (h : n < 10 ^ k) (hk : k ≤ 60) : n < 10 ^ 60 := Nat.lt_of_lt_of_le h (Nat.pow_le_pow_right (by decide) hk)
theorem intL_val {l : List Nat} {i : Int} (h : numOfL l = some i) : intL i = l ∧ i.natAbs < 10 ^ 60 := by
  unfold numOfL at h
  split at h
  · rename_i h0
    split at h
    · rename_i h1
      obtain ⟨a, b, c, d⟩ := h1
      injection h with h
      subst h
      have ne : l.tail ≠ [] := fun z => by rw [z] at a; simp at a
      obtain ⟨e1, e2⟩ := num_of_val _ c ne (.inl d)
      have hp := e2 d
      unfold intL
      rw [if_pos (by omega), show (-(NumText.digitsVal l.tail : Int)).natAbs = NumText.digitsVal l.tail by omega, e1]
      refine ⟨?_, ten60 (val_lt _ c) b⟩
      cases l with
      | nil => cases h0
      | cons x r => injection h0 with h0; rw [h0]; rfl
    · cases h
  · split at h
    · rename_i h1
      obtain ⟨a, b, c, d⟩ := h1
      injection h with h
      subst h
      have ne : l ≠ [] := fun z => by rw [z] at a; simp at a
      obtain ⟨e1, e2⟩ := num_of_val _ c ne d
      unfold intL
      rw [if_neg (by omega), show ((NumText.digitsVal l : Int)).natAbs = NumText.digitsVal l by omega, e1]
      exact ⟨rfl, ten60 (val_lt _ c) b⟩
    · cases h
theorem numOf_text {z : PySem.Str} {i : Int} (h : numOf z = some i) : numT i = z := by
  rw [str_eq, tl_int]
  exact (intL_val h).1
theorem numOf_room {z : PySem.Str} {i : Int} (h : numOf z = some i) : i.natAbs < 10 ^ 60 := (intL_val h).2
theorem numL_pos {n : Nat} (h : 0 < n) : (numL n).head? ≠ some 48 := by
  induction n using Nat.strongRecOn with
  | _ n ih =>
    by_cases hn : n < 10
    · rw [numL_lt hn]
      simp
      omega
    · rw [numL_step (by omega), List.head?_append]
      have := ih (n / 10) (by omega) (by omega)
      cases e : (numL (n / 10)).head? with
      | none =>
        rw [List.head?_eq_none_iff] at e
        exact absurd e (numL_ne _)
      | some c => rw [e] at this; simpa using this
theorem numOfL_int {i : Int} (h : i.natAbs < 10 ^ 60) : numOfL (intL i) = some i := by
  have hl := numL_len (n := i.natAbs) (k := 60) (by decide) h
  have hne : 1 ≤ (numL i.natAbs).length := List.length_pos_iff.mpr (numL_ne _)
  have hd := digs_of (numL_digits i.natAbs)
  unfold numOfL intL
  by_cases hi : i < 0
  · rw [if_pos hi]
    refine (if_pos (show (45 :: numL i.natAbs).head? = some 45 from rfl)).trans ?_
    refine (if_pos (show _ ∧ _ ∧ _ ∧ _ from ⟨hne, hl, hd, numL_pos (by omega)⟩)).trans ?_
    show some (-(NumText.digitsVal (numL i.natAbs) : Int)) = some i
    rw [numL_val]
    congr 1
    omega
  · rw [if_neg hi]
    have h45 : (numL i.natAbs).head? ≠ some 45 := fun e => by
      have := numL_digits i.natAbs 45 (List.mem_of_mem_head? e)
      omega
    have hc : (numL i.natAbs).head? ≠ some 48 ∨ numL i.natAbs = [48] := by
      by_cases h0 : i.natAbs = 0
      · rw [h0]
        exact .inr (numL_lt (by decide))
      · exact .inl (numL_pos (by omega))
    refine (if_neg h45).trans ((if_pos (show _ ∧ _ ∧ _ ∧ _ from ⟨hne, hl, hd, hc⟩)).trans ?_)
    rw [numL_val]
    congr 1
    omega
theorem numOf_int {i : Int} (h : i.natAbs < 10 ^ 60) : numOf (numT i) = some i := by
  unfold numOf
  rw [tl_int]
  exact numOfL_int h
/-- int(text) of a text that writes an integer -/
theorem intText_of {z : PySem.Str} {i : Int} (h : numOf z = some i) : PySem.intText? z = some i ∧ z.length ≤ 61 := by
  have hl := len_tl z
  unfold numOf numOfL at h
  split at h
  · rename_i h0
    split at h
    · rename_i h1
      obtain ⟨a, b, c, d⟩ := h1
      injection h with h
      subst h
      obtain ⟨r, hr⟩ : ∃ r, tl z = 45 :: r := by
        cases hz : tl z with
        | nil => rw [hz] at h0; cases h0
        | cons x r => rw [hz] at h0; injection h0 with h0; exact ⟨r, by rw [h0]⟩
      rw [hr] at a b c d hl ⊢
      simp only [List.tail_cons, List.length_cons] at a b c d hl ⊢
      refine ⟨intText_neg hr (digs_all c) (fun z => by rw [z] at a; simp at a) (by omega), by omega⟩
    · cases h
  · split at h
    · rename_i h1
      obtain ⟨a, b, c, d⟩ := h1
      injection h with h
      subst h
      exact ⟨intText_digits (digs_all c) (fun e => by rw [show tl z = [] from e] at a; simp at a) (by omega), by omega⟩
    · cases h
theorem numOf_len {z : PySem.Str} {i : Int} (h : numOf z = some i) : z.length ≤ 61 := (intText_of h).2
end DL
namespace DL
open PySem PySem.Spec PyProof.Rows L2 TL
/-- the sign's place among the digits, or -1 -/
theorem find_digit (c : Nat) : Txt.find "0123456789" ⟨#[c]⟩ = if 48 ≤ c ∧ c ≤ 57 then (c : Int) - 48 else -1 := by
  have ht : tl (⟨#[c]⟩ : PySem.Str) = [c] := rfl
  have hx : ∀ i : Nat, pre [c] ((tl ("0123456789" : PySem.Str)).drop i) = true ↔ i < 10 ∧ c = 48 + i := by
    intro i
    have hl : tl ("0123456789" : PySem.Str) = [48, 49, 50, 51, 52, 53, 54, 55, 56, 57] := by decide +kernel
    rw [hl]
    by_cases hi : i < 10
    · have : i = 0 ∨ i = 1 ∨ i = 2 ∨ i = 3 ∨ i = 4 ∨ i = 5 ∨ i = 6 ∨ i = 7 ∨ i = 8 ∨ i = 9 := by omega
      rcases this with h | h | h | h | h | h | h | h | h | h <;> subst h <;> simp [pre] <;> omega
    · rw [List.drop_eq_nil_of_le (by simp; omega)]
      simp [pre]
      omega
  rcases find_whole ("0123456789" : PySem.Str) ⟨#[c]⟩ with ⟨e, h⟩ | ⟨i, e, h, _⟩
  · rw [e, if_neg]
    intro hc
    refine h (c - 48) ((at_iff (by rw [ht]; simp) _).mpr ?_)
    rw [ht, hx]
    omega
  · have := (at_iff (by rw [ht]; simp) _).mp h
    rw [ht, hx] at this
    rw [e, if_pos (by omega)]
    omega
theorem chD_get {z : PySem.Str} {i : Nat} {d : D} (h : (chD z)[i]? = some d) : ∃ c, (tl z)[i]? = some c ∧ d = .str ⟨#[c]⟩ := by
  unfold chD at h
  rw [List.getElem?_map] at h
  obtain ⟨c, hc, rfl⟩ := Option.map_eq_some_iff.mp h
  exact ⟨c, hc, rfl⟩
theorem chD_len {z : PySem.Str} : (chD z).length = (tl z).length := by simp [chD]
theorem digs_take {l : List Nat} {i c : Nat} (h : l[i]? = some c) : digs (l.take (i + 1)) = (digs (l.take i) && (decide (48 ≤ c) && decide (c ≤ 57))) := by
  rw [List.take_succ, h]
  simp [digs, List.all_append]
theorem val_take {l : List Nat} {i c : Nat} (h : l[i]? = some c) : NumText.digitsVal (l.take (i + 1)) = NumText.digitsVal (l.take i) * 10 + (c - 48) := by
  rw [List.take_succ, h]
  exact val_snoc _ _
theorem digs_false {l : List Nat} {i c : Nat} (h : l[i]? = some c) (hc : ¬ (48 ≤ c ∧ c ≤ 57)) : digs l = false := by
  refine List.all_eq_false.mpr ⟨c, List.mem_of_getElem? h, ?_⟩
  simp
  omega
/-- the digits behind the sign -/
def digL (l : List Nat) : List Nat := if l.head? = some 45 then l.tail else l
/-- .. by the digits -/
theorem numOfL_by (l : List Nat) : numOfL l = if 1 ≤ (digL l).length ∧ (digL l).length ≤ 60 ∧ digs (digL l) = true ∧ ¬ ((digL l).head? = some 48 ∧ l ≠ [48]) then
    some (if l.head? = some 45 then -(NumText.digitsVal (digL l) : Int) else (NumText.digitsVal (digL l) : Int)) else none := by
  unfold numOfL digL
  by_cases h : l.head? = some 45
  · simp only [if_pos h]
    have : l ≠ [48] := fun e => by rw [e] at h; simp at h
    simp [this]
  · simp only [if_neg h]
    congr 1
    simp only [eq_iff_iff]
    refine and_congr_right fun _ => and_congr_right fun _ => and_congr_right fun _ => ?_
    by_cases h1 : l = [48] <;> simp [h1]
end DL

/-! DSet: set(a list of ints), sorted(a set). -/
namespace L2
open PySem PySem.Spec PyProof.Rows
section
variable {P : Program} {w : World} {A : Around} {E : Value → Shared → Prop} {s : Shared}
/-- the new set, empty -/
abbrev emptySet (w : World) : Obj := { cls := .type "set", dict := none, data := .set #[] 0 (.fresh 0 0 (!w.params.followText "set-order")) }
/-- what set(xs) has made at p -/
abbrev MadeSet (w : World) (s : Shared) (ns : List Int) (h' : Heap) (c : Nat) : Prop :=
  SetR w h' s.heap.objs.size (fun j => decide (j ∈ ns)) c ∧ c ≤ ns.length ∧ ∀ b o, s.heap.get? b = some o → h'.get? b = some o
/-- set(xs), of a list of ints -/
theorem set_of_list {l : Addr} {items : Array Value} (ns : List Int) {Q : Value → Shared → Prop} (hh : A.handled = none) (hl : s.heap.IsList l items) (hit : IntsAre items.toList ns) (hb : ns.length + 1 < scanBound)
    (h : ∀ h' tk c, MadeSet w s ns h' c → Q (.ref s.heap.objs.size) { s with heap := h', toks := tk }) :
    wpAny (model P w) A (call (.type "set") [.ref l]) Q E s := by
  have hisz : items.size = ns.length := (Array.length_toList (xs := items)).symm.trans (IntsAre.length hit)
  have ⟨c, tl, hmro⟩ := F.called_set.mro
  have m1 := F.called_set.made
  have m2 := F.called_set.sub
  apply wpAny_call
  apply codeAny_of_tree
  show wpAny _ _ (callAny (.type "set") _) _ _ _
  apply wpAny_pure
  refine ⟨Code.quiet_builtin _ (by decide +kernel), ?_⟩
  apply codeAny_builtin F.entry_type_call
  rw [Around.under_plain (weight_type_call_type "set" [.ref l] []) rfl]
  have m3 := F.called_set.notType
  have m4 := F.called_set.canCreate
  have m5 := F.typeCall_set_1 (.ref l)
  repeat (any_goals (first | assumption | wp_step))
  let Q1 : Value → Shared → Prop := fun obj s₁ => obj = .ref s.heap.objs.size ∧ s₁ = { s with heap := s.heap.push (emptySet w) }
  refine codeAny_mono (code_set_led1 (.ref l) (E := E) (Q₁ := Q1) ⟨rfl, rfl⟩) fun r s₁ hr => ?_
  cases r with
  | error e => exact hr
  | ok fl =>
    cases fl with
    | ret obj =>
      have ⟨e1, e2⟩ : obj = .ref s.heap.objs.size ∧ s₁ = { s with heap := s.heap.push (emptySet w) } := hr
      subst e1 e2
      have hS : (s.heap.push (emptySet w)).get? s.heap.objs.size = some (emptySet w) := Heap.get?_push_size _ rfl
      have hT : Shared.TypeIs { s with heap := s.heap.push (emptySet w) } (.ref s.heap.objs.size) "set" := ⟨_, hS, rfl⟩
      have m6 := F.called_set.init.lookup
      have m7 := F.called_set.init.bind (.ref s.heap.objs.size)
      repeat (any_goals (first | assumption | wp_step))
      let Q2 : Value → Shared → Prop := fun r s₂ => r = .none ∧ ∃ h' tk c, s₂ = { s with heap := h', toks := tk } ∧ MadeSet w s ns h' c
      refine codeAny_mono (codeAny_call_builtin (R := wants Q2 E) F.called_set.init.plain F.entry_set_init (check_set_init_1 hT ?_)) fun r₂ s₂ hr₂ => ?_
      · have ⟨ol, hol, hcl, nl, hdl⟩ := hl
        have ⟨ocls, odict, odata, oslots⟩ := ol
        simp only at hcl hdl
        subst hcl hdl
        have g1 : (s.heap.push (emptySet w)).get? l = some { cls := .type "list", dict := odict, data := .seq items nl, slots := oslots } := Heap.get?_push_of_some _ hol
        have n1 := F.sub_list_set
        have n2 := F.sub_list_frozenset
        have n3 : (Value.type "list" == Value.type "dict") = false := by decide
        have hl1 : (s.heap.push (emptySet w)).IsList l items := ⟨_, g1, rfl, nl, rfl⟩
        unfold Builtin.«set.__init__» noKeywords
        unfold Builtin.Frozenset.updateFrom
        generalize hPI : pyIter = PI
        wp_walk
        subst hPI
        refine wpAny_pyIter_list hl1 ?_
        apply wpAny_bind
        apply wpAny_runValue
        have hlS : l < s.heap.objs.size := Heap.lt_size hol
        have z1 : (s.heap.push (emptySet w)).objs.size = s.heap.objs.size + 1 := Heap.size_push ..
        have dI : l ≠ (s.heap.push (emptySet w)).objs.size := Nat.ne_of_lt (z1 ▸ Nat.lt_succ_of_lt hlS)
        have dS : s.heap.objs.size ∉ [(s.heap.push (emptySet w)).objs.size, l] := by
          rw [z1]
          intro hx
          rcases List.mem_cons.mp hx with e | e
          · exact absurd e (Nat.ne_of_lt (Nat.lt_succ_self _))
          · exact absurd (List.mem_singleton.mp e) (Nat.ne_of_gt hlS)
        have val : ∀ (i : Nat) (v : Value), items[i]? = some v → ∃ k t, ns[i]? = some k ∧ v = .int k t := fun i v hv => by
          have hi : i < ns.length := by
            rw [← hisz]
            exact (Array.getElem?_eq_some_iff.mp hv).1
          have ⟨t, e⟩ := PyProof.Rows.IntsAre.int_at hit i v (by rw [Array.getElem?_toList]; exact hv)
          refine ⟨ns[i], t, List.getElem?_eq_getElem hi, ?_⟩
          rw [e, List.getD_eq_getElem?_getD, List.getElem?_eq_getElem hi]
          rfl
        have hh3 : A.in1.in1.in1.handled = none := by simp [hh]
        refine set_update_ints ((Walks.list hh3 _ l dI items).toS) s.heap.objs.size dS ns hisz hb val (items.size - 0) 0 _ (by omega) (Nat.zero_le _) ⟨⟨_, Heap.get?_push_size _ rfl, rfl, rfl⟩, hl1.push _⟩ ?_ ?_
        · exact ⟨0, Nat.le_refl 0, setR_new_at (Heap.get?_push_of_some _ hS)⟩
        · intro s' c' hm hc' hS'
          have ⟨h', g2, d', tk', os'⟩ := s'
          have eg : g2 = s.gens := hm.gens
          have ed : d' = s.drawn := hm.drawn
          have eo : os' = s.os := hm.os
          subst eg ed eo
          show wpAny _ _ _ _ _ _
          apply wpAny_pure
          show wpAny _ _ (ret Value.none) _ _ _
          rw [hisz] at hc'
          apply wpAny_pure
          refine ⟨rfl, h', tk', c', rfl, hS', hc', fun b o e => ?_⟩
          have b0 : b < s.heap.objs.size := Heap.lt_size e
          refine hm.heap b o ?_ (Heap.get?_push_of_some _ (Heap.get?_push_of_some _ e))
          rw [z1]
          intro hx
          rcases List.mem_cons.mp hx with e | e
          · exact absurd e (Nat.ne_of_lt b0)
          · exact absurd (List.mem_singleton.mp e) (Nat.ne_of_lt (Nat.lt_succ_of_lt b0))
      · cases r₂ with
        | error e => exact hr₂
        | ok fl₂ =>
          cases fl₂ with
          | ret r =>
            have ⟨e1, h', tk, c', e2, made⟩ := hr₂
            subst e1 e2
            repeat (any_goals (first | assumption | wp_step))
            exact h _ _ _ made
          | _ => exact hr₂.elim
    | _ => exact hr.elim
end
section
variable {X : Cx}
/-- set(xs): the members, counted -/
def rSetOf (K : PySem.W.Frag) (w : World) : List V → Hp → VK → Prop := fun vs H Q => ∃ (a : Addr) (ns : List Int), vs = [V.ref a] ∧ SqL K H a (ns.map V.int) ∧ ns.length ≤ 1000 ∧
  ∀ p c, H p = none → c ≤ ns.length → Q (.ref p) (upd H p (SetO w p (fun j => decide (j ∈ ns)) c))
theorem cr_setOf (hc : X.calm = true) : CallR X (.type "set") (rSetOf X.K X.w) := by
  intro pins s σ H vs us Q I r h
  obtain ⟨a, ns, rfl, hs, hn, q⟩ := h
  obtain ⟨its, rv, hl, _⟩ := I.list hs
  rw [Vals.ref1 r]
  refine set_of_list ns (I.ok.hd hc) hl.isList rv.ints (by unfold scanBound; omega) fun h' tk c ⟨R, hcn, k⟩ => ?_
  exact ⟨.ref _, upd H s.heap.objs.size (SetO X.w s.heap.objs.size (fun j => decide (j ∈ ns)) c), I.laid (t' := tk) k (Nat.le_refl _) (setO_new R), rfl, q _ c (I.hok.fresh (Nat.le_refl _)) hcn⟩
end
end L2

/-! ### sorted(a set), of fewer than 1000 ints -/
namespace L2
open PySem PySem.Spec PyProof.Rows
section
variable {P : Program} {w : World} {A : Around} {E : Value → Shared → Prop} {s : Shared} {a : Addr}
theorem sorted_setO {S : Int → Bool} {n : Nat} {Q : Value → Shared → Prop} (R : SetR w s.heap a S n) (hh : A.handled = none) (hz0 : n < 1000)
    (hQ : ∀ s' p (out : Array Value) (c : Nat) (ns : List Int), (∀ b o, s.heap.get? b = some o → s'.heap.get? b = some o) → s'.gens = s.gens → s'.os = s.os → s.heap.objs.size ≤ p →
      s'.heap.get? p = some (seqObj "list" out c) → IntsAre out.toList ns → ns.Pairwise (· < ·) → (∀ k, k ∈ ns ↔ S k = true) → ns.length = n → Q (.ref p) s') :
    wpAny (model P w) A (call (.builtin "sorted") [.ref a]) Q E s := by
  obtain ⟨o, es, ep, t, ho, hex, hd, g, nd, hm, hb, hf, hn, hr, hl⟩ := R
  refine Calls.call_function_entry kind_sorted plain_sorted entry_sorted (args_sorted1 _) ?_
  unfold Builtin.«sorted»
  refine wpAny_bind (m := checkCount "sorted" 1 1 _) (wpAny_pure ?_)
  refine wpAny_bind (collect_set (A := A.in1) hh ⟨o, ho, hex.1, hd⟩ hf hb hr hl fun s1 vs k1 hz g1 o1 pm => ?_)
  have hvl : vs.length = n := by rw [pm.length_eq, List.length_map, Array.length_toList]; exact hn
  have hI : IntsAre vs (vs.map Builtin.Re.reRawOf) := ints_of vs fun v hv => by
    obtain ⟨e, he, q⟩ := List.mem_map.mp (pm.mem_iff.mp hv)
    obtain ⟨k, tk, h1, _⟩ := g e he
    exact ⟨k, tk, by rw [← q]; exact h1⟩
  have pk : (vs.map Builtin.Re.reRawOf).Perm (es.toList.map keyOf) := by
    have q := pm.map Builtin.Re.reRawOf
    rw [List.map_map] at q
    exact q
  refine wpAny_bind (wpAny_newList ?_ (by rw [hvl, sizeLine_eq]; omega))
  have hoL : (s1.heap.push (seqObj "list" vs.toArray 0)).get? s1.heap.objs.size = some (seqObj "list" vs.toArray 0) := Heap.get?_push_size _ rfl
  refine wpAny_bind (wpAny_holding (wpAny_call_entry slot_list_sort ⟨_, hoL, rfl⟩ entry_list_sort (SrtO.list_sort_ord SrtO.swo_int hoL (by rw [hvl, sizeLine_eq]; omega) (fun h2 => SrtO.ints_sortable hI h2) fun out z1 z2 => ⟨_, rfl, ?_⟩) (args_list_sort _)))
  obtain ⟨a1, a2, a3⟩ := SrtO.ints_out hI z1 z2
  obtain ⟨c, hc⟩ := sortedHeap_at (vs := vs) (out := out.toArray) hoL
  have pn : (out.map SrtO.iv).Perm (es.toList.map keyOf) := a2.trans pk
  refine wpAny_pure ⟨_, rfl, hQ _ s1.heap.objs.size out.toArray c (out.map SrtO.iv) (fun b u e => ?_) g1 o1 hz hc a1 (lt_of_le_nodup _ a3 (pn.nodup_iff.mpr nd)) (fun k => by rw [pn.mem_iff, ← hm k]) ?_⟩
  · have q := k1 b u e
    have hlt := Heap.lt_size q
    show (sortedHeap (s1.heap.push (seqObj "list" vs.toArray 0)) s1.heap.objs.size vs out.toArray).get? b = some u
    rw [sortedHeap_old (Nat.ne_of_lt hlt) (by rw [size_push']; exact Nat.lt_succ_of_lt hlt)]
    exact Heap.get?_push_of_some _ q
  · rw [pn.length_eq, List.length_map, Array.length_toList]; exact hn
end
section
variable {X : Cx}
def rSortedSetO (w : World) : List V → Hp → VK → Prop := fun vs H Q => ∃ (a : Addr) (S : Int → Bool) (n : Nat), vs = [V.ref a] ∧ H a = some (SetO w a S n) ∧ n < 1000 ∧
  ∀ (ns : List Int) (p : Addr), ns.Pairwise (· < ·) → (∀ k : Int, k ∈ ns ↔ S k = true) → ns.length = n → H p = none → Q (.ref p) (upd H p (.lst (ns.map V.int)))
theorem cr_sortedSetO (hc : X.calm = true) : CallR X (.builtin "sorted") (rSortedSetO X.w) := by
  intro pins s σ H vs us Q I r h
  obtain ⟨a, S, n, rfl, ha, h64, q⟩ := h
  have R := setO_get I ha
  rw [Vals.ref1 r]
  refine sorted_setO R (I.ok.hd hc) h64 fun s' p out c ns k g o hp hg hi hs hm hl => ?_
  have hlen : (ns.map V.int).length ≤ sizeLine := by rw [List.length_map, hl, sizeLine_eq]; omega
  have hn : H p = none := I.hok.fresh hp
  have J : Inv X pins σ (upd H p (.lst (ns.map V.int))) { s with heap := s'.heap, gens := s'.gens, drawn := s'.drawn, toks := s'.toks } :=
    I.call (ch := []) (Un.laid k hp hn) (I.hok.laid k hp ⟨hlen, out.toList, c, vals_of_ints hi, hg⟩) (by rw [g]; exact I.bare) (fun _ z => nomatch z)
  have e : s' = { s with heap := s'.heap, gens := s'.gens, drawn := s'.drawn, toks := s'.toks } := by
    cases s'
    cases s
    cases o
    rfl
  rw [e]
  exact ⟨.ref p, _, J, rfl, q ns p hs hm hl hn⟩
end
end L2

/-! DSort: sorted(set(xs)), sorted(xs) over trees. -/
namespace DL
open PySem PySem.Spec PyProof.Rows L2
/-- sorted(set(xs)), of ints -/
def dSortSet : DRL := fun ds M Q => ∃ (x : D) (ns : List Int), ds = [x] ∧ LstOf x M (ns.map D.int) ∧ ns.length < 1000 ∧ ∀ ms : List Int, ms.Pairwise (· < ·) → (∀ k, k ∈ ms ↔ k ∈ ns) → Q (.lst (ms.map D.int)) M
/-- sorted(xs), of ints -/
def dSortI : DRL := fun ds M Q => ∃ (x : D) (ns : List Int), ds = [x] ∧ LstOf x M (ns.map D.int) ∧ ns.length < 1000 ∧ ∀ ms : List Int, ms.Perm ns → ms.Pairwise (· ≤ ·) → Q (.lst (ms.map D.int)) M
section
variable {X : Cx} {g : Gr} {p pos p2 pos2 : Pos} {e : Expr} {t : DTA}
theorem de_sortSet (hc : X.calm = true) (hg : Gl X "sorted") (hm : X.mg "sorted" = none) (hg2 : Gl X "set") (hm2 : X.mg "set" = none) (ha : DA X g [e] t)
    (hv : bootBuiltins "sorted" = some (.builtin "sorted") := by decide +kernel) (hv2 : bootBuiltins "set" = some (.type "set") := by decide +kernel)
    (he : starEach [e] X.env = [(false, eval e X.env)] := by rfl) (hs : starEach [Expr.Call (.Name "set" p2) [e] [] pos2] X.env = [(false, eval (Expr.Call (.Name "set" p2) [e] [] pos2) X.env)] := by rfl) :
    DE X g (.Call (.Name "sorted" p) [.Call (.Name "set" p2) [e] [] pos2] [] pos) (dCB dSortSet t) := by
  have inner : PE X (.Call (.Name "set" p2) [e] [] pos2) (tCB (rSetOf X.K X.w) (liftA X.K g t)) := pe_callTy (cr_setOf hc) hg2 hm2 hv2 ha.run (by decide) (by decide) he rfl
  refine ⟨pe_imp (pe_callB (cr_sortedSetO hc) hg hm hv (pa_cons inner pa_nil hs) (by decide) (by decide) hs rfl) fun σ H Q h => ?_⟩
  obtain ⟨S, M, sd, QD, a, q, k⟩ := h
  refine ⟨S, M, sd, _, a, q, fun ds M1 vs S1 H1 q1 e1 r1 i1 => ?_⟩
  obtain ⟨x, ns, rfl, hx, hn, q2⟩ := q1
  obtain ⟨v, rfl, iv⟩ := isL1 i1
  obtain ⟨b, ws, rfl, hb, l⟩ := hx.at r1 iv
  have ew := l.ints
  subst ew
  refine ⟨b, ns, rfl, SqL.of hb, by omega, fun p0 c hp hcn => ?_⟩
  refine ⟨p0, _, c, rfl, upd_same, by omega, fun ms p1 hs hm _ hp1 => ?_⟩
  have r2 : Rep X.K g.F S1 M1 (upd H1 p0 (SetO X.w p0 (fun j => decide (j ∈ ns)) c)) := r1.junk hp
  have s1 : Same S1 (upd S1 p1 (.lst (ms.map V.int))) := same_upd (r2.freeS hp1)
  exact k _ M1 _ _ _ (q2 ms hs fun j => by rw [hm j, decide_eq_true_eq]) (e1.trans s1) (r2.frozen hp1) (.lst upd_same IsL.ofInts)
theorem dcall_sortI : CallR X (.builtin "sorted") (liftRL X.K dSortI) := by
  intro pins s σ H xs us Q I rx hh
  obtain ⟨F, S, M, ds, QD, rep, ix, ⟨x, ns, rfl, hx, hn, q⟩, hq⟩ := hh
  obtain ⟨v, rfl, iv⟩ := isL1 ix
  obtain ⟨b, ws, rfl, hb, l⟩ := hx.at rep iv
  have ew := l.ints
  subst ew
  refine cr_sortedI pins s σ H _ us Q I rx ⟨b, ns, rfl, SqL.of hb, fun ms p1 hp hs hp1 => ?_⟩
  have s1 : Same S (upd S p1 (.lst (ms.map V.int))) := same_upd (rep.freeS hp1)
  exact hq _ M _ _ _ (q ms hp hs) s1 (rep.frozen hp1) (.lst upd_same IsL.ofInts)
end
end DL

/-! DTab: tables as lists of rows, and the layer between two of them. -/
namespace DL
open PySem PySem.Spec PyProof.Rows L2
abbrev Row := List Int
def key (r : Row) : Int := r.headD 0
def rowD (r : Row) : D := .tup (r.map D.int)
/-- a table of the width -/
structure Tab (w : Nat) (S : List Row) : Prop where
  pos : 1 ≤ w
  wid : ∀ r ∈ S, r.length = w
  asc : S.Pairwise fun r s => key r < key s
def find (S : List Row) (k : Int) : Option Row := S.find? fun r => decide (key r = k)
def rank (S : List Row) (k : Int) : Nat := S.countP fun r => decide (key r < k)
def optRow : Option Row → D
  | none => .non
  | some r => rowD r
/-- an entry of a layer -/
structure Ent where
  p : Int
  old : Option Row
  new : Option Row
  deriving DecidableEq
def entD (e : Ent) : D := .tup [.int e.p, optRow e.old, optRow e.new]
def Ent.key (e : Ent) : Int := match e.old, e.new with
  | some r, _ => DL.key r
  | none, some r => DL.key r
  | none, none => 0
def Ent.growth (e : Ent) : Int := (if e.new.isSome then 1 else 0) - (if e.old.isSome then 1 else 0)
/-! ### ascending lists -/
theorem asc_ext : ∀ {a b : List Int}, a.Pairwise (· < ·) → b.Pairwise (· < ·) → (∀ k, k ∈ a ↔ k ∈ b) → a = b
  | [], [], _, _, _ => rfl
  | [], y :: b, _, _, h => absurd ((h y).mpr (by simp)) (by simp)
  | x :: a, [], _, _, h => absurd ((h x).mp (by simp)) (by simp)
  | x :: a, y :: b, ha, hb, h => by
    rw [List.pairwise_cons] at ha hb
    have hx : x = y := by
      rcases List.mem_cons.mp ((h x).mp (by simp)) with e | e
      · exact e
      · rcases List.mem_cons.mp ((h y).mpr (by simp)) with e2 | e2
        · exact e2.symm
        · have := ha.1 y e2
          have := hb.1 x e
          omega
    subst hx
    congr 1
    refine asc_ext ha.2 hb.2 fun k => ?_
    constructor
    · intro hk
      rcases List.mem_cons.mp ((h k).mp (by simp [hk])) with e | e
      · have := ha.1 k hk; omega
      · exact e
    · intro hk
      rcases List.mem_cons.mp ((h k).mpr (by simp [hk])) with e | e
      · have := hb.1 k hk; omega
      · exact e
def insU (k : Int) : List Int → List Int
  | [] => [k]
  | x :: r => if k < x then k :: x :: r else if k = x then x :: r else x :: insU k r
theorem mem_insU {k j : Int} : ∀ {l : List Int}, j ∈ insU k l ↔ j = k ∨ j ∈ l
  | [] => by simp [insU]
  | x :: r => by
    unfold insU
    split
    · simp
    · split
      · rename_i h; subst h; simp
      · simp only [List.mem_cons, mem_insU (l := r)]
        constructor
        · rintro (h | h | h) <;> simp [h]
        · rintro (h | h | h) <;> simp [h]
theorem asc_insU {k : Int} : ∀ {l : List Int}, l.Pairwise (· < ·) → (insU k l).Pairwise (· < ·)
  | [], _ => by simp [insU]
  | x :: r, h => by
    have h' := List.pairwise_cons.mp h
    unfold insU
    split
    · rename_i hk
      refine List.pairwise_cons.mpr ⟨fun j hj => ?_, h⟩
      rcases List.mem_cons.mp hj with e | e
      · omega
      · have := h'.1 j e; omega
    · split
      · exact h
      · refine List.pairwise_cons.mpr ⟨fun j hj => ?_, asc_insU h'.2⟩
        rcases mem_insU.mp hj with e | e
        · omega
        · exact h'.1 j e
/-- the members, ascending -/
def ascOf (ks : List Int) : List Int := ks.foldr insU []
theorem mem_ascOf {j : Int} : ∀ {ks : List Int}, j ∈ ascOf ks ↔ j ∈ ks
  | [] => by simp [ascOf]
  | k :: ks => by
    show j ∈ insU k (ascOf ks) ↔ _
    rw [mem_insU, mem_ascOf, List.mem_cons]
theorem asc_ascOf : ∀ (ks : List Int), (ascOf ks).Pairwise (· < ·)
  | [] => .nil
  | k :: ks => asc_insU (asc_ascOf ks)
theorem ascOf_uniq {ks ms : List Int} (h : ms.Pairwise (· < ·)) (hm : ∀ k, k ∈ ms ↔ k ∈ ks) : ms = ascOf ks := asc_ext h (asc_ascOf ks) fun k => by rw [hm k, mem_ascOf]
/-! ### find, rank -/
theorem find_some {S : List Row} {k : Int} {r : Row} (h : find S k = some r) : r ∈ S ∧ key r = k := by
  unfold find at h
  exact ⟨List.mem_of_find?_eq_some h, by simpa using List.find?_some h⟩
theorem Tab.keyInj {w : Nat} {S : List Row} (t : Tab w S) {r s : Row} (hr : r ∈ S) (hs : s ∈ S) (h : key r = key s) : r = s := by
  have := t.asc
  induction S with
  | nil => cases hr
  | cons x l ih =>
    have a := List.pairwise_cons.mp this
    rcases List.mem_cons.mp hr with e1 | e1 <;> rcases List.mem_cons.mp hs with e2 | e2
    · rw [e1, e2]
    · subst e1; have := a.1 s e2; omega
    · subst e2; have := a.1 r e1; omega
    · exact ih ⟨t.pos, fun r hr => t.wid r (by simp [hr]), a.2⟩ e1 e2 a.2
theorem Tab.find {w : Nat} {S : List Row} (t : Tab w S) {r : Row} (hr : r ∈ S) : find S (key r) = some r := by
  cases h : DL.find S (key r) with
  | some s =>
    obtain ⟨h1, h2⟩ := find_some h
    rw [t.keyInj h1 hr h2]
  | none =>
    unfold DL.find at h
    rw [List.find?_eq_none] at h
    exact (h r hr (by simp)).elim
theorem Tab.findIff {w : Nat} {S : List Row} (t : Tab w S) {k : Int} {r : Row} : DL.find S k = some r ↔ r ∈ S ∧ key r = k := ⟨find_some, fun ⟨h, e⟩ => e ▸ t.find h⟩
theorem find_isSome {S : List Row} {k : Int} : (find S k).isSome = true ↔ k ∈ S.map key := by
  unfold find
  rw [List.find?_isSome]
  simp [List.mem_map]
theorem find_none {S : List Row} {k : Int} : find S k = none ↔ k ∉ S.map key := by
  rw [← find_isSome]
  cases find S k <;> simp
theorem Tab.keys {w : Nat} {S : List Row} (t : Tab w S) : (S.map key).Pairwise (· < ·) := by
  rw [List.pairwise_map]
  exact t.asc
theorem Tab.tail {w : Nat} {r : Row} {S : List Row} (t : Tab w (r :: S)) : Tab w S := ⟨t.pos, fun s hs => t.wid s (by simp [hs]), (List.pairwise_cons.mp t.asc).2⟩
theorem Tab.nil {w : Nat} (h : 1 ≤ w) : Tab w [] := ⟨h, by simp, .nil⟩
/-- rows counted by their keys -/
theorem Tab.cnt {w : Nat} {S : List Row} (t : Tab w S) {ks : List Int} (hk : ks.Pairwise (· < ·)) (hs : ∀ r ∈ S, key r ∈ ks) (P : Int → Bool) : S.countP (fun r => P (key r)) = ks.countP fun k => P k && (DL.find S k).isSome := by
  have e : S.map key = ks.filter fun k => (DL.find S k).isSome := by
    refine asc_ext t.keys (hk.filter _) fun k => ?_
    rw [List.mem_filter, find_isSome]
    constructor
    · intro h
      obtain ⟨r, hr, rfl⟩ := List.mem_map.mp h
      exact ⟨hs r hr, h⟩
    · exact fun h => h.2
  have c : S.countP (fun r => P (key r)) = (S.map key).countP P := by rw [List.countP_map]; rfl
  rw [c, e, List.countP_filter]
/-! ### the layer between two tables -/
/-- all keys of two tables, ascending -/
def keysOf (S T : List Row) : List Int := ascOf ((S ++ T).map key)
def diff (S T : List Row) (k : Int) : Option Ent := if find S k = find T k then none else some ⟨rank S k, find S k, find T k⟩
def lay (S T : List Row) : List Ent := (keysOf S T).filterMap (diff S T)
theorem mem_keysOf {S T : List Row} {k : Int} : k ∈ keysOf S T ↔ k ∈ S.map key ∨ k ∈ T.map key := by
  unfold keysOf
  rw [mem_ascOf, List.map_append, List.mem_append]
theorem diff_key {S T : List Row} {k : Int} {e : Ent} (h : diff S T k = some e) : e.key = k ∧ e.p = rank S k ∧ e.old = find S k ∧ e.new = find T k ∧ find S k ≠ find T k := by
  unfold diff at h
  split at h
  · cases h
  · rename_i hne
    injection h with h
    subst h
    refine ⟨?_, rfl, rfl, rfl, hne⟩
    show Ent.key ⟨_, find S k, find T k⟩ = k
    unfold Ent.key
    cases h1 : find S k with
    | some r => exact (find_some h1).2
    | none =>
      cases h2 : find T k with
      | some r => exact (find_some h2).2
      | none => rw [h1, h2] at hne; exact absurd rfl hne
theorem mem_lay {S T : List Row} {e : Ent} : e ∈ lay S T ↔ ∃ k, diff S T k = some e := by
  unfold lay
  rw [List.mem_filterMap]
  constructor
  · rintro ⟨k, _, h⟩
    exact ⟨k, h⟩
  · rintro ⟨k, h⟩
    refine ⟨k, ?_, h⟩
    obtain ⟨_, _, _, _, hne⟩ := diff_key h
    rw [mem_keysOf, ← find_isSome, ← find_isSome]
    cases h1 : find S k with
    | some r => simp
    | none =>
      cases h2 : find T k with
      | some r => simp
      | none => rw [h1, h2] at hne; exact absurd rfl hne
/-- the keys of a layer ascend -/
theorem lay_asc (S T : List Row) : ((lay S T).map Ent.key).Pairwise (· < ·) := by
  rw [List.pairwise_map]
  unfold lay
  rw [List.pairwise_filterMap]
  refine (asc_ascOf _).imp ?_
  intro a b hab e he e' he'
  rw [(diff_key he).1, (diff_key he').1]
  exact hab
theorem sum_filterMap (f : Int → Option Ent) (g : Ent → Int) (h : Int → Int) (hh : ∀ k e, f k = some e → g e = h k) (h0 : ∀ k, f k = none → h k = 0) : ∀ ks : List Int, ((ks.filterMap f).map g).sum = (ks.map h).sum
  | [] => rfl
  | k :: ks => by
    cases e : f k with
    | none => rw [List.filterMap_cons_none e, sum_filterMap f g h hh h0 ks, List.map_cons, List.sum_cons, h0 k e, Int.zero_add]
    | some x => rw [List.filterMap_cons_some e, List.map_cons, List.sum_cons, sum_filterMap f g h hh h0 ks, List.map_cons, List.sum_cons, hh k x e]
theorem sum_ind (P Q : Int → Bool) : ∀ ks : List Int, (ks.map fun k => (if P k then (1 : Int) else 0) - (if Q k then (1 : Int) else 0)).sum = (ks.countP P : Int) - (ks.countP Q : Int)
  | [] => rfl
  | k :: ks => by
    rw [List.map_cons, List.sum_cons, sum_ind P Q ks, List.countP_cons, List.countP_cons]
    cases P k <;> cases Q k <;> simp <;> omega
/-- the growth of the entries whose keys answer to P -/
theorem lay_growth {w : Nat} {S T : List Row} (hS : Tab w S) (hT : Tab w T) (P : Int → Bool) :
    ((lay S T).map fun e => if P e.key then e.growth else 0).sum = (T.countP fun r => P (key r) : Nat) - (S.countP fun r => P (key r) : Nat) := by
  rw [hS.cnt (ks := keysOf S T) (asc_ascOf _) (fun r hr => mem_keysOf.mpr (.inl (List.mem_map_of_mem hr))) P, hT.cnt (ks := keysOf S T) (asc_ascOf _) (fun r hr => mem_keysOf.mpr (.inr (List.mem_map_of_mem hr))) P, ← sum_ind]
  unfold lay
  refine sum_filterMap _ _ _ (fun k e h => ?_) (fun k h => ?_) _
  · obtain ⟨h1, _, h3, h4, _⟩ := diff_key h
    rw [h1]
    unfold Ent.growth
    rw [h3, h4]
    cases P k <;> simp
  · unfold diff at h
    split at h
    · rename_i e
      rw [e]
      omega
    · cases h
theorem lay_growth_all {w : Nat} {S T : List Row} (hS : Tab w S) (hT : Tab w T) : ((lay S T).map Ent.growth).sum = (T.length : Int) - (S.length : Int) := by
  have := lay_growth hS hT fun _ => true
  simpa using this
theorem lay_growth_before {w : Nat} {S T : List Row} (hS : Tab w S) (hT : Tab w T) (k : Int) : (((lay S T).filter fun e => decide (e.key < k)).map Ent.growth).sum = (rank T k : Int) - (rank S k : Int) := by
  have := lay_growth hS hT fun j => decide (j < k)
  unfold rank
  rw [← this]
  generalize lay S T = l
  induction l with
  | nil => rfl
  | cons e l ih =>
    rw [List.filter_cons]
    by_cases h : e.key < k
    · rw [if_pos (by simpa using h), List.map_cons, List.sum_cons, ih, List.map_cons, List.sum_cons, if_pos (by simpa using h)]
    · rw [if_neg (by simpa using h), ih, List.map_cons, List.sum_cons, if_neg (by simpa using h), Int.zero_add]
/-- the rows between two keys -/
theorem rank_between {S : List Row} {a b : Int} (h : a < b) : rank S b = rank S a + S.countP (fun r => decide (key r = a)) + S.countP fun r => decide (a < key r) && decide (key r < b) := by
  unfold rank
  induction S with
  | nil => rfl
  | cons r S ih =>
    simp only [List.countP_cons]
    rw [ih]
    by_cases h1 : key r < a
    · have h2 : key r < b := by omega
      have h3 : ¬ key r = a := by omega
      have h4 : ¬ a < key r := by omega
      simp [h1, h2, h3, h4]; omega
    · by_cases h2 : key r = a
      · have h3 : key r < b := by omega
        have h4 : ¬ a < key r := by omega
        simp [h2, h] ; omega
      · by_cases h3 : key r < b
        · have h4 : a < key r := by omega
          simp [h1, h2, h3, h4]; omega
        · simp [h1, h2, h3]
theorem Tab.cntKey {w : Nat} {S : List Row} (t : Tab w S) (k : Int) : S.countP (fun r => decide (key r = k)) = if (DL.find S k).isSome then 1 else 0 := by
  induction S with
  | nil => rfl
  | cons r S ih =>
    have a := List.pairwise_cons.mp t.asc
    rw [List.countP_cons, ih t.tail]
    by_cases h : key r = k
    · have h0 : (DL.find S k).isSome = false := by
        cases e : DL.find S k with
        | none => rfl
        | some s =>
          obtain ⟨h1, h2⟩ := find_some e
          have := a.1 s h1
          omega
      have h1 : DL.find (r :: S) k = some r := by unfold DL.find; rw [List.find?_cons_of_pos (by simpa using h)]
      rw [h0, h1]
      simp [h]
    · have h1 : DL.find (r :: S) k = DL.find S k := by unfold DL.find; rw [List.find?_cons_of_neg (by simpa using h)]
      rw [h1]
      simp [h]
end DL

/-! DEnt: rows and entries as trees. -/
namespace DL
open PySem PySem.Spec PyProof.Rows L2
theorem sz9 {n : Nat} (h : n ≤ 1000) : n ≤ sizeLine := Nat.le_trans h (by decide)
theorem szlt {n : Nat} (h : n < 1000) : n < sizeLine := Nat.lt_of_lt_of_le h (by decide)
theorem row_key {r : Row} (h : r ≠ []) : atI (r.map D.int) 0 = some (.int (key r)) := by
  cases r with
  | nil => exact absurd rfl h
  | cons a r =>
    have e : ((D.int a :: r.map D.int))[0]? = some (.int a) := rfl
    exact atI_nat (xs := D.int a :: r.map D.int) (v := D.int a) e
theorem Tab.ne {w : Nat} {S : List Row} (t : Tab w S) {r : Row} (hr : r ∈ S) : r ≠ [] := fun e => by
  have := t.wid r hr
  have := t.pos
  rw [e] at *
  simp at *
  omega
theorem rowD_inj {r s : Row} (h : rowD r = rowD s) : r = s := by
  unfold rowD at h
  injection h with h
  exact map_int_inj h
theorem optRow_inj {a b : Option Row} (h : optRow a = optRow b) : a = b := by
  cases a <;> cases b
  · rfl
  · cases h
  · cases h
  · exact congrArg some (rowD_inj h)
theorem pure_opt {n : Nat} (a : Option Row) : Pure (n + 1) (optRow a) := by
  cases a with
  | none => cases n <;> trivial
  | some r => exact pure_row
theorem typ_row (r : Row) : Typ (rowD r) := typ_tup _
theorem typ_opt (a : Option Row) : Typ (optRow a) := by
  cases a with
  | none => exact typ_non
  | some r => exact typ_row r
theorem typ_ent (e : Ent) : Typ (entD e) := typ_tup _
theorem pure_ent {n : Nat} (e : Ent) : Pure (n + 2) (entD e) := by
  intro d hd
  simp only [List.mem_cons, List.not_mem_nil, or_false] at hd
  rcases hd with h | h | h <;> subst h
  · cases n <;> trivial
  · exact pure_opt _
  · exact pure_opt _
theorem entD_inj {e f : Ent} (h : entD e = entD f) : e = f := by
  unfold entD at h
  injection h with h
  simp only [List.cons.injEq, and_true, D.int.injEq] at h
  obtain ⟨h1, h2, h3⟩ := h
  have := optRow_inj h2
  have := optRow_inj h3
  cases e; cases f
  simp_all
theorem map_inj {α : Type} {f : α → D} (hf : ∀ a b, f a = f b → a = b) : ∀ {l m : List α}, l.map f = m.map f → l = m
  | [], [], _ => rfl
  | [], _ :: _, h => by simp at h
  | _ :: _, [], h => by simp at h
  | a :: l, b :: m, h => by
    simp only [List.map_cons, List.cons.injEq] at h
    rw [hf _ _ h.1, map_inj hf h.2]
theorem tabs_inj {S T : List Row} (h : S.map rowD = T.map rowD) : S = T := map_inj (fun _ _ => rowD_inj) h
theorem ents_inj {l m : List Ent} (h : l.map entD = m.map entD) : l = m := map_inj (fun _ _ => entD_inj) h
theorem pure_tab {n : Nat} (S : List Row) : Pure (n + 2) (.lst (S.map rowD)) := fun d hd => by
  obtain ⟨r, _, rfl⟩ := List.mem_map.mp hd
  exact pure_row
theorem pure_ents {n : Nat} (l : List Ent) : Pure (n + 3) (.lst (l.map entD)) := fun d hd => by
  obtain ⟨r, _, rfl⟩ := List.mem_map.mp hd
  exact pure_ent r
/-- == of two optional rows -/
theorem dNe_opt {a b : Option Row} {M : Mem} {Q : DK} (q : Q (.bl (!decide (a = b))) M) : dNe (optRow a) (optRow b) M Q :=
  dNe_pure (n := 1) (pure_opt a) (pure_opt b) (by decide) fun e he => by
    have : e = decide (a = b) := by
      rw [Bool.eq_iff_iff, he, decide_eq_true_eq]
      exact ⟨optRow_inj, fun z => by rw [z]⟩
    rw [this]
    exact q
theorem dEq_opt {a b : Option Row} {M : Mem} {Q : DK} (q : Q (.bl (decide (a = b))) M) : dEq (optRow a) (optRow b) M Q :=
  dEq_pure (n := 1) (pure_opt a) (pure_opt b) (by decide) fun e he => by
    have : e = decide (a = b) := by
      rw [Bool.eq_iff_iff, he, decide_eq_true_eq]
      exact ⟨optRow_inj, fun z => by rw [z]⟩
    rw [this]
    exact q
theorem isNon_opt (a : Option Row) : isNon (optRow a) = a.isNone := by cases a <;> rfl
/-- an entry that has a key -/
structure Ent.Ok (e : Ent) : Prop where
  any : e.old.isSome = true ∨ e.new.isSome = true
  old : ∀ r, e.old = some r → r ≠ []
  new : ∀ r, e.new = some r → r ≠ []
theorem lay_ok {w : Nat} {S T : List Row} (hS : Tab w S) (hT : Tab w T) {e : Ent} (h : e ∈ lay S T) : e.Ok := by
  obtain ⟨k, hk⟩ := mem_lay.mp h
  obtain ⟨_, _, h3, h4, h5⟩ := diff_key hk
  refine ⟨?_, fun r hr => ?_, fun r hr => ?_⟩
  · rw [h3, h4]
    cases h1 : find S k with
    | some r => exact .inl rfl
    | none =>
      cases h2 : find T k with
      | some r => exact .inr rfl
      | none => rw [h1, h2] at h5; exact absurd rfl h5
  · rw [h3] at hr
    exact hS.ne (find_some hr).1
  · rw [h4] at hr
    exact hT.ne (find_some hr).1
def Ent.kind (e : Ent) : PySem.Str := if e.old.isNone then "insert" else if e.new.isNone then "delete" else "change"
/-- numbers of at most so many digits -/
def Big (B : Nat) (S : List Row) : Prop := ∀ r ∈ S, ∀ n ∈ r, n.natAbs ≤ B
theorem Big.le {B C : Nat} {S : List Row} (h : Big B S) (l : B ≤ C) : Big C S := fun r hr n hn => Nat.le_trans (h r hr n hn) l
theorem rows_get {S : List Row} {i : Nat} {d : D} (h : (S.map rowD)[i]? = some d) : ∃ r, S[i]? = some r ∧ d = rowD r := by
  rw [List.getElem?_map] at h
  obtain ⟨r, hr, rfl⟩ := Option.map_eq_some_iff.mp h
  exact ⟨r, hr, rfl⟩
theorem ents_get {l : List Ent} {i : Nat} {d : D} (h : (l.map entD)[i]? = some d) : ∃ e, l[i]? = some e ∧ d = entD e := by
  rw [List.getElem?_map] at h
  obtain ⟨r, hr, rfl⟩ := Option.map_eq_some_iff.mp h
  exact ⟨r, hr, rfl⟩
theorem atI_map {α : Type} {f : α → D} {l : List α} {i : Nat} {a : α} (h : l[i]? = some a) : atI (l.map f) (i : Int) = some (f a) := atI_nat (by rw [List.getElem?_map, h]; rfl)
theorem dAdd_lists {x y : D} {a b : List D} {M : Mem} {Q : DK} (h : LstOf x M a) (g : LstOf y M b) (hz : a.length + b.length ≤ sizeLine) (q : Q (.lst (a ++ b)) M) : dAdd x y M Q := by
  rcases h with rfl | ⟨p, rfl, hm⟩ <;> rcases g with rfl | ⟨p', rfl, hm'⟩
  · exact ⟨_, _, .inl rfl, .inl rfl, hz, q⟩
  · exact ⟨_, _, .inl rfl, .inr ⟨_, rfl, hm'⟩, hz, q⟩
  · exact ⟨_, _, .inr ⟨_, rfl, hm⟩, .inl rfl, hz, q⟩
  · exact ⟨_, _, .inr ⟨_, rfl, hm⟩, .inr ⟨_, rfl, hm'⟩, hz, q⟩
theorem LstOf.more {x : D} {M : Mem} {p : Addr} {o : CO} {ds : List D} (h : LstOf x M ds) (hp : M p = none) : LstOf x (DL.mset M p o) ds := by
  rcases h with rfl | ⟨a, rfl, hm⟩
  · exact .inl rfl
  · exact .inr ⟨a, rfl, by rw [mset_ne (mne hm hp)]; exact hm⟩
theorem LstOf.keep {x : D} {M M' : Mem} {ds : List D} (h : LstOf x M ds) (k : ∀ a co, M a = some co → M' a = some co) : LstOf x M' ds := by
  rcases h with rfl | ⟨a, rfl, hm⟩
  · exact .inl rfl
  · exact .inr ⟨a, rfl, k _ _ hm⟩
theorem sl_set_ne : ∀ {σ : DSt} {i j : Nat} {d : Option D}, i ≠ j → sl (σ.set i d) j = sl σ j
  | [], _, _, _, _ => rfl
  | _ :: _, 0, 0, _, h => absurd rfl h
  | _ :: _, 0, _ + 1, _, _ => rfl
  | _ :: _, _ + 1, 0, _, _ => rfl
  | _ :: r, i + 1, j + 1, d, h => sl_set_ne (σ := r) (fun e => h (by rw [e]))
/-- a box beside other cells -/
theorem BoxAt.mset {M : Mem} {b c : Addr} {o : CO} (hc : b ≠ c) (h : BoxAt M b) : BoxAt (mset M c o) b := by
  obtain ⟨l, i, e, a1, a2⟩ := h
  exact ⟨l, i, by rw [mset_ne hc]; exact e, a1, a2⟩
theorem BoxAt.ne {M : Mem} {b c : Addr} (h : BoxAt M b) (hc : M c = none) : b ≠ c := by
  obtain ⟨_, _, e, _⟩ := h
  exact mne e hc
/-- what a drawing def leaves: the box, and all cells that were there -/
structure Kept (b : Addr) (M M' : Mem) : Prop where
  box : BoxAt M' b
  old : ∀ c co, c ≠ b → M c = some co → M' c = some co
theorem Drawn.kept {b : Addr} {M M' : Mem} (h : Drawn b M M') : Kept b M M' := ⟨h.box, fun c co hc e => by rw [h.only c hc]; exact e⟩
theorem Kept.trans {b : Addr} {M M1 M2 : Mem} (h : Kept b M M1) (g : Kept b M1 M2) : Kept b M M2 := ⟨g.box, fun c co hc e => g.old c co hc (h.old c co hc e)⟩
theorem Kept.mset {b p : Addr} {M M' : Mem} {o : CO} (h : Kept b M M') (hp : M p = none) (hbp : b ≠ p) : Kept b M (mset M' p o) := ⟨h.box.mset hbp, fun c co hc e => by
  rw [mset_ne (mne e hp)]
  exact h.old c co hc e⟩
theorem fl_cellK {Q : DK} {M M6 : Mem} {ds : List D} {p a : Addr} (h : ∀ M', Kept a M M' → FL Q M' ds) (k : Kept a M M6) (hp : M p = none) (hap : a ≠ p) (hm : M6 p = some (.lst ds)) : QF Q (.ref p) M6 := by
  refine fl_cell (M := fun c => if c = p then none else M6 c) (h _ ⟨?_, fun c co hc e => ?_⟩) (if_pos rfl) hm fun c co e => ?_
  · obtain ⟨l, i, e, a1, a2⟩ := k.box
    exact ⟨l, i, by show (if a = p then none else M6 a) = _; rw [if_neg hap]; exact e, a1, a2⟩
  · show (if c = p then none else M6 c) = _
    rw [if_neg (mne e hp)]
    exact k.old c co hc e
  · have e : (if c = p then none else M6 c) = some co := e
    split at e
    · cases e
    · exact e
theorem Kept.fresh {a q : Addr} {M M' : Mem} (k : Kept a M M') (hq : M' q = none) : M q = none := by
  cases e : M q with
  | none => rfl
  | some co =>
    by_cases hqa : q = a
    · obtain ⟨_, _, e2, _⟩ := k.box
      rw [hqa, e2] at hq
      cases hq
    · rw [k.old q co hqa e] at hq
      cases hq
/-- values with a built-in type, so deep -/
def TyN : Nat → Mem → D → Prop
  | 0, M, d => ∃ t, TyD M d t
  | n + 1, M, d => (∃ t, TyD M d t) ∧ ∀ ds, d = .tup ds → ds.length ≤ sizeLine ∧ ∀ e ∈ ds, TyN n M e
theorem TyN.ty : ∀ {n : Nat} {M : Mem} {d : D}, TyN n M d → ∃ t, TyD M d t
  | 0, _, _, h => h
  | _ + 1, _, _, h => h.1
theorem tyN_of {n : Nat} {M : Mem} {d : D} (h : Typ d) (hn : ∀ ds, d ≠ .tup ds) : TyN n M d := by
  obtain ⟨t, ht⟩ := h
  cases n with
  | zero => exact ⟨t, ht M⟩
  | succ n => exact ⟨⟨t, ht M⟩, fun ds e => absurd e (hn ds)⟩
theorem tyN_int {n : Nat} {M : Mem} (i : Int) : TyN n M (.int i) := tyN_of (typ_int i) (fun _ z => nomatch z)
theorem tyN_non {n : Nat} {M : Mem} : TyN n M .non := tyN_of typ_non (fun _ z => nomatch z)
theorem tyN_tup {n : Nat} {M : Mem} {ds : List D} (hz : ds.length ≤ sizeLine) (h : ∀ e ∈ ds, TyN n M e) : TyN (n + 1) M (.tup ds) := ⟨⟨_, .tup ds⟩, fun es e => by cases e; exact ⟨hz, h⟩⟩
theorem tyN_row {n : Nat} {M : Mem} {r : Row} (hz : r.length ≤ 1000) : TyN (n + 1) M (rowD r) := tyN_tup (sz9 (by simpa using hz)) fun e he => by
  obtain ⟨i, _, rfl⟩ := List.mem_map.mp he
  exact tyN_int i
theorem tyN_opt {n : Nat} {M : Mem} {r : Option Row} (hz : ∀ x, r = some x → x.length ≤ 1000) : TyN (n + 1) M (optRow r) := by
  cases r with
  | none => exact tyN_non
  | some x => exact tyN_row (hz x rfl)
theorem tyN_ent {n : Nat} {M : Mem} {e : Ent} (h1 : ∀ x, e.old = some x → x.length ≤ 1000) (h2 : ∀ x, e.new = some x → x.length ≤ 1000) : TyN (n + 2) M (entD e) := tyN_tup (sz9 (show 3 ≤ 1000 by decide)) fun d hd => by
  simp only [List.mem_cons, List.not_mem_nil, or_false] at hd
  rcases hd with h | h | h <;> subst h
  · exact tyN_int _
  · exact tyN_opt h1
  · exact tyN_opt h2
/-! ### is a tree an entry -/
def intsL : List D → List Int
  | [] => []
  | .int i :: r => i :: intsL r
  | _ :: r => intsL r
def rowI : D → List Int
  | .tup ds => intsL ds
  | _ => []
theorem rowI_row : ∀ r : Row, rowI (rowD r) = r
  | [] => rfl
  | a :: r => congrArg (a :: ·) (rowI_row r)
def rowO (w : Int) : D → Bool
  | .non => true
  | d => rowB w d
def pairB : D → D → Bool
  | .non, .non => false
  | .non, _ => true
  | _, .non => true
  | o, n => decide (key (rowI o) = key (rowI n)) && !decide (rowI o = rowI n)
/-- an entry of the width -/
def entB (w : Int) : D → Bool
  | .tup [.int p, o, n] => decide (0 ≤ p) && (rowO w o && (rowO w n && pairB o n))
  | _ => false
theorem rowB_row {w : Int} {r : Row} : rowB w (rowD r) = decide ((r.length : Int) = w) := by
  show (decide (((r.map D.int).length : Int) = w) && (r.map D.int).all isI) = _
  rw [all_isI, Bool.and_true, List.length_map]
theorem of_rowB {w : Int} {d : D} (h : rowB w d = true) : ∃ r : Row, d = rowD r ∧ (r.length : Int) = w := by
  cases d with
  | tup ds =>
    simp only [rowB, Bool.and_eq_true, decide_eq_true_eq] at h
    obtain ⟨ns, rfl⟩ := of_all_isI h.2
    exact ⟨ns, rfl, by simpa using h.1⟩
  | _ => exact absurd h (by simp [rowB])
theorem of_rowO {w : Int} {d : D} (h : rowO w d = true) : ∃ r : Option Row, d = optRow r ∧ ∀ x, r = some x → (x.length : Int) = w := by
  by_cases hd : d = .non
  · exact ⟨none, hd, fun x z => nomatch z⟩
  · have h' : rowB w d = true := by
      cases d <;> first | exact absurd rfl hd | exact h
    obtain ⟨r, e, l⟩ := of_rowB h'
    exact ⟨some r, e, fun x z => by cases z; exact l⟩
/-- an entry of a width is told by its trees -/
theorem of_entB {w : Int} {d : D} (h : entB w d = true) : ∃ e : Ent, d = entD e ∧ 0 ≤ e.p ∧ (∀ x, e.old = some x → (x.length : Int) = w) ∧ (∀ x, e.new = some x → (x.length : Int) = w) ∧ (e.old.isSome = true ∨ e.new.isSome = true) ∧
    ∀ x y, e.old = some x → e.new = some y → key x = key y ∧ x ≠ y := by
  unfold entB at h
  split at h
  · rename_i p o n
    simp only [Bool.and_eq_true, decide_eq_true_eq] at h
    obtain ⟨h1, h2, h3, h4⟩ := h
    obtain ⟨a, rfl, ha⟩ := of_rowO h2
    obtain ⟨b, rfl, hb⟩ := of_rowO h3
    refine ⟨⟨p, a, b⟩, rfl, h1, ha, hb, ?_, ?_⟩
    · cases a <;> cases b
      · exact absurd h4 (by simp [optRow, pairB])
      · exact .inr rfl
      · exact .inl rfl
      · exact .inl rfl
    · intro x y hx hy
      have hx : a = some x := hx
      have hy : b = some y := hy
      subst hx hy
      have h4 : (decide (key (rowI (rowD x)) = key (rowI (rowD y))) && !decide (rowI (rowD x) = rowI (rowD y))) = true := h4
      rw [rowI_row, rowI_row] at h4
      simpa using h4
  · cases h
theorem entB_ent {w : Int} {e : Ent} (h0 : 0 ≤ e.p) (h1 : ∀ x, e.old = some x → (x.length : Int) = w) (h2 : ∀ x, e.new = some x → (x.length : Int) = w) (h3 : e.old.isSome = true ∨ e.new.isSome = true) (h4 : ∀ x y, e.old = some x → e.new = some y → key x = key y ∧ x ≠ y) : entB w (entD e) = true := by
  obtain ⟨p, o, n⟩ := e
  have hr : ∀ r : Option Row, (∀ x, r = some x → (x.length : Int) = w) → rowO w (optRow r) = true := fun r hr => by
    cases r with
    | none => rfl
    | some x =>
      show rowB w (rowD x) = true
      rw [rowB_row, decide_eq_true_eq]
      exact hr x rfl
  show (decide (0 ≤ p) && (rowO w (optRow o) && (rowO w (optRow n) && pairB (optRow o) (optRow n)))) = true
  rw [hr o h1, hr n h2, decide_eq_true h0]
  cases o with
  | none =>
    cases n with
    | none => rcases h3 with h | h <;> cases h
    | some y => rfl
  | some x =>
    cases n with
    | none => rfl
    | some y =>
      have h := h4 x y rfl rfl
      show (true && (true && (true && (decide (key (rowI (rowD x)) = key (rowI (rowD y))) && !decide (rowI (rowD x) = rowI (rowD y)))))) = true
      rw [rowI_row, rowI_row]
      simp [h.1, h.2]
/-- an entry of one width is none of another one -/
theorem entB_width {w v : Int} {d : D} (h : entB w d = true) (hv : v ≠ w) : entB v d = false := by
  cases hb : entB v d with
  | false => rfl
  | true =>
    obtain ⟨e, rfl, _, h1, h2, h3, _⟩ := of_entB h
    obtain ⟨f, he, _, g1, g2, _⟩ := of_entB hb
    have := entD_inj he
    subst this
    exfalso
    rcases h3 with h | h
    · obtain ⟨x, hx⟩ := Option.isSome_iff_exists.mp h
      have := h1 x hx
      have := g1 x hx
      omega
    · obtain ⟨x, hx⟩ := Option.isSome_iff_exists.mp h
      have := h2 x hx
      have := g2 x hx
      omega
theorem rowB_len {w : Int} {ds : List D} (h : (ds.length : Int) ≠ w) : rowB w (.tup ds) = false := by simp [rowB, h]
theorem rowB_set {w : Int} {ds : List D} {j : Nat} {d : D} (hj : j < ds.length) (h : isI d = false) : rowB w (.tup (ds.set j d)) = false := by
  have e : (ds.set j d).all isI = false := by
    rw [List.all_eq_false]
    exact ⟨d, List.mem_set hj d, by simp [h]⟩
  simp [rowB, e]
theorem ixN_in {n : Nat} {k : Int} (h0 : 0 ≤ k) (h1 : k < n) : ixN n k = some k.toNat := by
  unfold ixN
  rw [if_pos h0, if_pos (by omega)]
theorem log_small {i : Int} (h0 : 0 ≤ i) (h : i < 9000) : i.natAbs.log2 < 9000 := Nat.lt_of_le_of_lt (Nat.log2_le_self _) (by omega)
end DL

/-! DWord: texts of words. -/
namespace DL
open PySem PySem.Spec PyProof.Rows L2 TL
/-- the words of a text -/
def words (z : PySem.Str) : List PySem.Str := Txt.split z " "
theorem spl_room (S : List Nat) : ∀ (l : List Nat) (k : Nat) (acc : List Nat), (spl S k acc l).length ≤ l.length + 1 ∧ ∀ p ∈ spl S k acc l, p.length ≤ acc.length + l.length
  | [], k, acc => by
    rw [spl_nil]
    simp
  | c :: l, 0, acc => by
    cases h : pre S (c :: l) with
    | true =>
      rw [spl_hit h]
      obtain ⟨h1, h2⟩ := spl_room S l (S.length - 1) []
      refine ⟨by simp; omega, fun p hp => ?_⟩
      rcases List.mem_cons.mp hp with e | e
      · rw [e]; omega
      · have := h2 p e; simp at this ⊢; omega
    | false =>
      rw [spl_miss h]
      obtain ⟨h1, h2⟩ := spl_room S l 0 (acc ++ [c])
      refine ⟨by simp; omega, fun p hp => ?_⟩
      have := h2 p hp
      simp at this ⊢
      omega
  | c :: l, k + 1, acc => by
    obtain ⟨h1, h2⟩ := spl_room S l k acc
    refine ⟨?_, fun p hp => ?_⟩
    · show (spl S k acc l).length ≤ _
      simp; omega
    · have := h2 p hp
      simp
      omega
theorem tl_space : tl (" " : PySem.Str) = [32] := by decide +kernel
theorem words_tl (z : PySem.Str) : (words z).map tl = spl [32] 0 [] (tl z) := by
  have := split_spl z " " (by rw [tl_space]; simp) (kind_ok (by decide +kernel))
  rw [tl_space] at this
  exact this
theorem words_room (z : PySem.Str) : (words z).length ≤ z.length + 1 ∧ ∀ y ∈ words z, y.length ≤ z.length := by
  obtain ⟨h1, h2⟩ := spl_room [32] (tl z) 0 []
  rw [← words_tl] at h1 h2
  rw [len_tl]
  refine ⟨by simpa using h1, fun y hy => ?_⟩
  have := h2 (tl y) (List.mem_map_of_mem hy)
  rw [len_tl]
  simpa using this
theorem join_words (z : PySem.Str) : Txt.join " " (words z) = z := by
  rw [join_eq]
  exact StrLaws.join_split z " "
theorem joinL_len (S : List Nat) : ∀ ps : List (List Nat), (joinL S ps).length ≤ (ps.map List.length).sum + ps.length * S.length
  | [] => by simp [joinL]
  | [p] => by simp [joinL]
  | p :: q :: r => by
    have h := joinL_len S (q :: r)
    show (p ++ (S ++ joinL S (q :: r))).length ≤ _
    simp only [List.length_append, List.map_cons, List.sum_cons, List.length_cons] at h ⊢
    rw [Nat.add_mul (r.length + 1) 1, Nat.one_mul]
    omega
theorem join_len (y : PySem.Str) (ps : List PySem.Str) : (Txt.join y ps).length ≤ (ps.map (·.length)).sum + ps.length * y.length := by
  rw [join_eq, len_tl, tl_join]
  have h := joinL_len (tl y) (ps.map tl)
  simp only [List.length_map, List.map_map] at h
  rw [len_tl y]
  have e : (ps.map (List.length ∘ tl)) = ps.map (·.length) := List.map_congr_left fun p _ => (len_tl p).symm
  rw [e] at h
  exact h
/-- what the words write -/
def wordsD (ys : List PySem.Str) : List D := ys.map fun y => optI (numOf y)
/-- the row that a text writes, or None -/
def rowOfD (w : Int) (z : PySem.Str) : D := if rowB w (.tup (wordsD (words z))) = true then .tup (wordsD (words z)) else .non
theorem wordsD_row : ∀ {ys : List PySem.Str}, (wordsD ys).all isI = true → ∃ r : Row, wordsD ys = r.map D.int ∧ r.map (fun n => numT n) = ys ∧ ∀ n ∈ r, n.natAbs < 10 ^ 60
  | [], _ => ⟨[], rfl, rfl, by simp⟩
  | y :: ys, h => by
    have h' : isI (optI (numOf y)) = true ∧ (wordsD ys).all isI = true := by simpa [wordsD] using h
    obtain ⟨r, h1, h2, h3⟩ := wordsD_row h'.2
    cases e : numOf y with
    | none => rw [e] at h'; exact absurd h'.1 (by simp [optI, isI])
    | some i =>
      refine ⟨i :: r, ?_, ?_, fun n hn => ?_⟩
      · show optI (numOf y) :: wordsD ys = _
        rw [e, h1]
        rfl
      · rw [List.map_cons, h2, numOf_text e]
      · rcases List.mem_cons.mp hn with z | z
        · rw [z]; exact numOf_room e
        · exact h3 n z
theorem typ_optI (o : Option Int) : Typ (optI o) := by
  cases o with
  | none => exact typ_non
  | some i => exact typ_int i
theorem wordsD_typ {ys : List PySem.Str} : ∀ d ∈ wordsD ys, Typ d := fun d hd => by
  obtain ⟨y, _, rfl⟩ := List.mem_map.mp hd
  exact typ_optI _
/-- a row's text is read back -/
theorem rowOfD_some {w : Int} {z : PySem.Str} (h : rowB w (.tup (wordsD (words z))) = true) : ∃ r : Row, rowOfD w z = rowD r ∧ (r.length : Int) = w ∧ Txt.join " " (r.map fun n => numT n) = z ∧ ∀ n ∈ r, n.natAbs < 10 ^ 60 := by
  have h' : ((wordsD (words z)).length : Int) = w ∧ (wordsD (words z)).all isI = true := by simpa [rowB] using h
  obtain ⟨r, h1, h2, h3⟩ := wordsD_row h'.2
  refine ⟨r, ?_, ?_, ?_, h3⟩
  · unfold rowOfD
    rw [if_pos h, h1]
    rfl
  · rw [h1] at h'
    simpa using h'.1
  · rw [h2]
    exact join_words z
theorem len_app (a b : PySem.Str) : (a ++ b).length = a.length + b.length := by rw [len_tl, tl_append, List.length_append, ← len_tl, ← len_tl]
theorem map_erase {α β : Type} (f : α → β) : ∀ (l : List α) (k : Nat), (l.map f).eraseIdx k = (l.eraseIdx k).map f
  | [], _ => rfl
  | _ :: _, 0 => rfl
  | a :: l, k + 1 => congrArg (f a :: ·) (map_erase f l k)
end DL

/-! DObj: instances of own classes with slots: fields, methods, making, properties. -/
namespace DL
open PySem PySem.Spec PyProof.Rows L2
/-- where the program's classes stand -/
class Cl where
  adr : PySem.Str → Addr
abbrev cA [Cl] (n : PySem.Str) : Addr := Cl.adr n
/-- an instance of the class at C -/
def InsOf (x : D) (M : Mem) (C : Addr) : Prop := match x with
  | .obj C' _ => C' = C
  | .ref a => ∃ fs, M a = some (.ins C fs)
  | _ => False
/-- its slot i holds a d with P d -/
def FldOf (x : D) (M : Mem) (C : Addr) (i : Nat) (P : D → Prop) : Prop := match x with
  | .obj C' ds => C' = C ∧ ∃ d, ds[i]? = some d ∧ P d
  | .ref a => ∃ fs d, M a = some (.ins C fs) ∧ fs[i]? = some (some d) ∧ P d
  | _ => False
section
variable {K : PySem.W.Frag} {F S H : Hp} {M : Mem} {v : V} {x : D} {C : Addr}
theorem InsOf.at (h : InsOf x M C) (rep : Rep K F S M H) (i : Is K S v x) : ∃ a dx vs, v = .ref a ∧ SlX.Slt H a C dx vs := by
  cases i with
  | obj n s x l =>
    have e : _ = C := h
    subst e
    exact ⟨_, _, _, rfl, .inr ⟨rep.same _ _ s, rep.same _ _ x⟩⟩
  | ref a =>
    obtain ⟨fs, hm⟩ := h
    obtain ⟨_, dx, vs, at_, l⟩ := rep.cell a _ hm
    exact ⟨a, dx, vs, rfl, at_.slt⟩
  | _ => exact h.elim
theorem FldOf.at {i : Nat} {P : D → Prop} (h : FldOf x M C i P) (rep : Rep K F S M H) (iv : Is K S v x) : ∃ a dx vs d u, v = .ref a ∧ SlX.Slt H a C dx vs ∧ vs[i]? = some (some u) ∧ Is K S u d ∧ P d := by
  cases iv with
  | obj n s x l =>
    obtain ⟨e, d, hd, p⟩ := h
    subst e
    obtain ⟨u, hu, iu⟩ := l.get hd
    exact ⟨_, _, _, d, u, rfl, .inr ⟨rep.same _ _ s, rep.same _ _ x⟩, by rw [List.getElem?_map, hu]; rfl, iu, p⟩
  | ref a =>
    obtain ⟨fs, d, hm, hd, p⟩ := h
    obtain ⟨_, dx, vs, at_, l⟩ := rep.cell a _ hm
    obtain ⟨u, hu, iu⟩ := IsO.get l hd
    exact ⟨a, dx, vs, d, u, rfl, at_.slt, hu, iu, p⟩
  | _ => exact h.elim
end
/-! ### fields -/
@[reducible] def dFld [Cl] (n : PySem.Str) (i : Nat) (te : DTE) : DTE := fun σ M Q => te σ M fun x M1 => FldOf x M1 (cA n) i fun d => Q d M1
/-- a slot of a new instance is stored -/
def SetF (x : D) (M : Mem) (C : Addr) (i : Nat) (y : D) (P : Mem → Prop) : Prop := ∃ a fs, x = .ref a ∧ M a = some (.ins C fs) ∧ P (mset M a (.ins C (putD i y fs)))
@[reducible] def dSetF [Cl] (n : PySem.Str) (i : Nat) (te tv : DTE) : DTS := fun D σ M => tv σ M fun y M1 => te σ M1 fun x M2 => SetF x M2 (cA n) i y fun M3 => D.nx σ M3
section
variable {X : Cx} {g : Gr} {e o value : Expr} {f : PySem.Str} {pos pos' : Pos} {te tv : DTE} [Cl] {n : PySem.Str} {i : Nat}
theorem de_fld (c : SlX.SCls X.K (cA n)) (t : ∃ p, SlX.Slot1 X.K (cA n) f p i) (he : DE X g e te) (hb : attributeBase e f X.env (eval e X.env) = eval e X.env := by rfl) : DE X g (.Attribute e f pos) (dFld n i te) := by
  obtain ⟨p, t⟩ := t
  refine ⟨pe_imp (SlX.pe_sl he.run hb) fun σ H Q h => ?_⟩
  obtain ⟨S, M, sd, QD, a, q, k⟩ := h
  refine ⟨S, M, sd, _, a, q, fun d M1 v S1 H1 q1 e1 r1 i1 => ?_⟩
  obtain ⟨b, dx, vs, d', u, rfl, hs, hu, iu, q2⟩ := FldOf.at q1 r1 i1
  exact ⟨b, _, dx, p, vs, i, u, rfl, hs, c, t, hu, k _ _ _ _ _ q2 e1 r1 iu⟩
theorem ds_setF (c : SlX.SCls X.K (cA n)) (t : ∃ p, SlX.Slot1 X.K (cA n) f p i) (ho : DE X g o te) (hv : DE X g value tv) (hs : swapsWith value (some (.Attribute o f pos')) pos.line X.env = pure false := by rfl) :
    DS X g (.Assign [.Attribute o f pos'] value pos) (dSetF n i te tv) := by
  obtain ⟨p, t⟩ := t
  refine ⟨ps_imp (SlX.ps_sl ho.run hv.run hs) fun D' σ H h => ?_⟩
  obtain ⟨S, M, sd, DD, a, q, k⟩ := h
  refine ⟨S, M, sd, _, a, q, fun d1 M1 v1 S1 H1 q1 e1 r1 i1 => ?_⟩
  refine ⟨S1, M1, sd, _, a.step e1 r1, q1, fun d2 M2 v2 S2 H2 q2 e2 r2 i2 => ?_⟩
  obtain ⟨b, fs, rfl, hm, q3⟩ := q2
  cases i2
  obtain ⟨dx, vs, hsl, _, w⟩ := r2.writeI hm
  exact ⟨b, _, dx, p, vs, i, rfl, hsl, c, t, k.nx _ _ _ _ _ q3 (e1.trans e2) ((a.step e1 r1).step e2 (w i v1 d1 (i1.mono e2)))⟩
end
/-! ### calls of methods -/
theorem run_fnRS {X : Cx} {pins : List (Addr × Obj)} {σ : L2.St} {H : Hp} {s : Shared} {CX : CXT} {k : Nat} {f : Addr} {sp : Sp} {E : XK} {Q : VK} {us : List Value} {vs : List V} (F : FnR X.prog X.w X.K X.mg X.base CX k f sp) (hr : Room k X.A) (hx : PassesAt CX X σ E) (I : Inv X pins σ H s) (r : Vals vs us) (h : sp vs H Q E) :
    codeAny (model X.prog X.w) X.A (.call (.ref f) ⟨us, []⟩) (fun r s' => match r with | .ok (.ret v) => EP X pins σ Q v s' | .ok _ => False | .error e => X.xe e s') s := by
  refine codeAny_mono (F X.A X.stack s H us vs Q E hr I.env0 r h) fun r s' hq => ?_
  cases r with
  | error e => exact hx pins H s e s' I hq
  | ok fl =>
    cases fl with
    | ret u => exact I.after hq
    | next => exact False.elim hq
    | brk => exact False.elim hq
    | cont => exact False.elim hq
def tMethS2 (C : Addr) (sp : Sp) (E : L2.St → XK) (ta : TE) (t : TA) : TE := fun σ H Q => ta σ H fun x H1 => ∃ a dx vs, x = .ref a ∧ SlX.Slt H1 a C dx vs ∧ t σ H1 fun ws H2 => sp (x :: ws) H2 Q (E σ)
section
variable {X : Cx} {o e : Expr} {es : List Expr} {m : PySem.Str} {pos apos : Pos} {ta : TE} {t : TA} {CX : CXT} {k : Nat} {C g : Addr} {sp : Sp} {E : L2.St → XK} {pl : Sem Bool}
theorem pe_methS2 (he : PE X o ta) (c : SlX.SCls X.K C) (hm : Meth X.K C m g) (F : FnR X.prog X.w X.K X.mg X.base CX k g sp) (hr : Room k X.A) (hx : ∀ σ, PassesAt CX X σ (E σ)) (ha : PA X (e :: es) t)
    (hst : starEach (e :: es) X.env = (false, eval e X.env) :: starEach es X.env := by rfl) (hpl : (backTo pos (starEach es X.env)).any (·.1) = false := by rfl)
    (ht : eval (.Call (.Attribute o m apos) (e :: es) [] pos) X.env = (do
      let ov ← eval o X.env
      standAt apos.atName
      let (f, first) ← holding [ov] (getMethod ov m pl)
      callWith pos f first (backTo pos (starEach (e :: es) X.env)) (backToKw pos (keywordEach [] X.env))) := by rfl) :
    PE X (.Call (.Attribute o m apos) (e :: es) [] pos) (tMethS2 C sp E ta t) := by
  refine ⟨fun pins s σ H Q I h => ?_⟩
  refine PySem.W.methodCall_KW (pl := pl) (thn (he.run pins s σ H _ I h) fun u s1 ⟨x, H1, I1, rx, a, dx, vs, ex, hsl, q⟩ => ?_) ht
  subst ex
  obtain rfl : u = Value.ref a := rx
  refine SlX.getmethsl_ok I1 hsl c hm ?_
  refine PySem.W.callWith_K (first := [.ref a]) (h₀ := X.base) I1.ok.mod.kin hm.kp (thn (ha.run pos pins s1 σ H1 _ I1 q) fun us s2 ⟨ws, H2, I2, r, q2⟩ => ⟨I2.kIn, ?_⟩) hst hpl
  exact wpAny_call (run_fnRS (us := .ref a :: us) (vs := .ref a :: ws) F hr (hx σ) I2 (.cons rfl r) q2)
theorem pe_methS20 (he : PE X o ta) (c : SlX.SCls X.K C) (hm : Meth X.K C m g) (F : FnR X.prog X.w X.K X.mg X.base CX k g sp) (hr : Room k X.A) (hx : ∀ σ, PassesAt CX X σ (E σ))
    (ht : eval (.Call (.Attribute o m apos) [] [] pos) X.env = (do
      let ov ← eval o X.env
      standAt apos.atName
      let (f, first) ← holding [ov] (getMethod ov m pl)
      callWith pos f first (backTo pos (starEach [] X.env)) (backToKw pos (keywordEach [] X.env))) := by rfl) :
    PE X (.Call (.Attribute o m apos) [] [] pos) (tMethS2 C sp E ta tNil) := by
  refine ⟨fun pins s σ H Q I h => ?_⟩
  refine PySem.W.methodCall_KW (pl := pl) (thn (he.run pins s σ H _ I h) fun u s1 ⟨x, H1, I1, rx, a, dx, vs, ex, hsl, q⟩ => ?_) ht
  subst ex
  obtain rfl : u = Value.ref a := rx
  refine SlX.getmethsl_ok I1 hsl c hm ?_
  exact PySem.W.callWith_K0 (first := [.ref a]) I1.kIn hm.kp (wpAny_call (run_fnRS (us := [.ref a]) (vs := [.ref a]) F hr (hx σ) I1 (.cons rfl .nil) q))
end
/-- a method keeps its promise -/
structure DMet (P : Program) (w : World) (K : PySem.W.Frag) (mg : PySem.Str → Option Value) (base : Heap) (k : Nat) (C : Addr) (m : PySem.Str) (sp : DSp) : Prop where
  ex : ∃ g, Meth K C m g ∧ FnR P w K mg base (EX P w) k g (liftSp K sp)
@[reducible] def dMeth [Cl] (n : PySem.Str) (sp : DSp) (wd : DWX) (to : DTE) (t : DTA) : DTE := fun σ M Q => to σ M fun x M1 => InsOf x M1 (cA n) ∧ t σ M1 fun ds M2 => sp (x :: ds) M2 Q fun c fs M3 => wd c fs σ M3
section
variable {X : Cx} {g : Gr} {wd : DWX} {k j : Nat} {m : PySem.Str} {sp : DSp} {p pos apos : Pos} {o e : Expr} {es : List Expr} {to : DTE} {t : DTA} [Cl] {n : PySem.Str}
theorem de_meth (c : SlX.SCls X.K (cA n)) (d : DMet X.prog X.w X.K X.mg X.base k (cA n) m sp) (hr : Room j X.A) (hk : k ≤ j) (hx : ∀ σ, PassesAt (EX X.prog X.w) X σ (fun cls d H => liftW X.K g wd cls d σ H)) (ho : DE X g o to) (ha : DA X g (e :: es) t)
    {pl : Sem Bool} (hst : starEach (e :: es) X.env = (false, eval e X.env) :: starEach es X.env := by rfl) (hpl : (backTo pos (starEach es X.env)).any (·.1) = false := by rfl)
    (ht : eval (.Call (.Attribute o m apos) (e :: es) [] pos) X.env = (do
      let ov ← eval o X.env
      standAt apos.atName
      let (f, first) ← holding [ov] (getMethod ov m pl)
      callWith pos f first (backTo pos (starEach (e :: es) X.env)) (backToKw pos (keywordEach [] X.env))) := by rfl) :
    DE X g (.Call (.Attribute o m apos) (e :: es) [] pos) (dMeth n sp wd to t) := by
  obtain ⟨f, hm, F⟩ := d.ex
  refine ⟨pe_imp (pe_methS2 ho.run c hm F (hr.mono hk) hx ha.run hst hpl ht) fun σ H Q h => ?_⟩
  obtain ⟨S, M, sd, QD, a, q, kk⟩ := h
  refine ⟨S, M, sd, _, a, q, fun d1 M1 v1 S1 H1 q1 e1 r1 i1 => ?_⟩
  obtain ⟨hi, q1⟩ := q1
  obtain ⟨b, dx, vs, rfl, hs⟩ := hi.at r1 i1
  refine ⟨b, dx, vs, rfl, hs, S1, M1, sd, _, a.step e1 r1, q1, fun ds M2 ws S2 H2 q2 e2 r2 i2 => ?_⟩
  refine ⟨g.F, S2, M2, _, QD, _, r2, .cons (i1.mono e2) i2, q2, fun d M' v S' H' q' e' r' i' => kk _ _ _ _ _ q' ((e1.trans e2).trans e') r' i', fun c fs M' dd S' H' hw e' r' x' => ?_⟩
  exact ⟨S', M', sd, fs, ((a.step e1 r1).step e2 r2).step e' r', x', hw⟩
theorem de_meth0 (c : SlX.SCls X.K (cA n)) (d : DMet X.prog X.w X.K X.mg X.base k (cA n) m sp) (hr : Room j X.A) (hk : k ≤ j) (hx : ∀ σ, PassesAt (EX X.prog X.w) X σ (fun cls d H => liftW X.K g wd cls d σ H)) (ho : DE X g o to)
    {pl : Sem Bool} (ht : eval (.Call (.Attribute o m apos) [] [] pos) X.env = (do
      let ov ← eval o X.env
      standAt apos.atName
      let (f, first) ← holding [ov] (getMethod ov m pl)
      callWith pos f first (backTo pos (starEach [] X.env)) (backToKw pos (keywordEach [] X.env))) := by rfl) :
    DE X g (.Call (.Attribute o m apos) [] [] pos) (dMeth n sp wd to dNil) := by
  obtain ⟨f, hm, F⟩ := d.ex
  refine ⟨pe_imp (pe_methS20 ho.run c hm F (hr.mono hk) hx ht) fun σ H Q h => ?_⟩
  obtain ⟨S, M, sd, QD, a, q, kk⟩ := h
  refine ⟨S, M, sd, _, a, q, fun d1 M1 v1 S1 H1 q1 e1 r1 i1 => ?_⟩
  obtain ⟨hi, q1⟩ := q1
  obtain ⟨b, dx, vs, rfl, hs⟩ := hi.at r1 i1
  refine ⟨b, dx, vs, rfl, hs, g.F, S1, M1, _, QD, _, r1, .cons i1 .nil, q1, fun d M' v S' H' q' e' r' i' => kk _ _ _ _ _ q' (e1.trans e') r' i', fun c fs M' dd S' H' hw e' r' x' => ?_⟩
  exact ⟨S', M', sd, fs, (a.step e1 r1).step e' r', x', hw⟩
end
/-! ### an instance is made -/
def mdel (M : Mem) (p : Addr) : Mem := fun a => if a = p then none else M a
theorem mdel_same {M : Mem} {p : Addr} : mdel M p p = none := if_pos rfl
theorem mdel_ne {M : Mem} {p a : Addr} (h : a ≠ p) : mdel M p a = M a := if_neg h
theorem mdel_mset {M : Mem} {p : Addr} {o : CO} (h : M p = none) : mdel (mset M p o) p = M := by
  funext a
  by_cases ha : a = p
  · rw [ha, mdel_same, h]
  · rw [mdel_ne ha, mset_ne ha]
/-- the promise of a class's __init__, from the class's -/
@[reducible] def dinit (C : Addr) (sp : DSp) : DSp := fun ds M Q E => match ds with
  | .ref p :: rest => M p = some (.ins C []) ∧ sp rest (mdel M p) (fun d M' => ∃ fs, d = .obj C fs ∧ fs ≠ [] ∧ M' p = none ∧ Q .non (mset M' p (.ins C (fs.map some)))) E
  | _ => False
theorem dinit_inv {C : Addr} {sp : DSp} {ds : List D} {M : Mem} {Q : DK} {E : DXK} (h : dinit C sp ds M Q E) : ∃ p rest, ds = .ref p :: rest ∧ M p = some (.ins C []) ∧ sp rest (mdel M p) (fun d M' => ∃ fs, d = .obj C fs ∧ fs ≠ [] ∧ M' p = none ∧ Q .non (mset M' p (.ins C (fs.map some)))) E := by
  unfold dinit at h
  split at h
  · exact ⟨_, _, rfl, h⟩
  · exact h.elim
/-- a class whose making keeps a promise -/
structure DNew [Cl] (P : Program) (w : World) (K : PySem.W.Frag) (mg : PySem.Str → Option Value) (base : Heap) (k : Nat) (x : PySem.Str) (n : PySem.Str) (sp : DSp) : Prop where
  ex : ∃ f, Mk K (cA n) f ∧ mg x = some (.ref (cA n)) ∧ FnR P w K mg base (EX P w) k f (liftSp K (dinit (cA n) sp))
/-- .. where the last arguments are left out -/
@[reducible] def dfl (sp : DSp) (dd : List D) : DSp := fun ds M Q E => sp (ds ++ dd) M Q E
theorem lift_dfl {K : PySem.W.Frag} {C : Addr} {sp : DSp} {dd : List D} {dvs : List V} (hd : ∀ S, IsL K S dvs dd) : ∀ vs H Q E, liftSp K (dinit C (dfl sp dd)) vs H Q E → liftSp K (dinit C sp) (vs ++ dvs) H Q E := fun vs H Q E h => by
  obtain ⟨F, S, M, ds, QD, ED, r, l, h, kq, ke⟩ := h
  obtain ⟨p, rest, rfl, hm, h⟩ := dinit_inv h
  exact ⟨F, S, M, .ref p :: (rest ++ dd), QD, ED, r, l.app (hd S), ⟨hm, h⟩, kq, ke⟩
@[reducible] def dNew [Cl] (n : PySem.Str) (sp : DSp) (wd : DWX) (t : DTA) : DTE := fun σ M Q => t σ M fun ds M1 => ∀ p, M1 p = none → sp ds M1 (fun d M' => ∃ fs, d = .obj (cA n) fs ∧ fs ≠ [] ∧ M' p = none ∧ Q d M') fun c fs M3 => wd c fs σ M3
def tMakeS (C : Addr) (sp : Sp) (E : L2.St → XK) (t : TA) : TE := fun σ H Q => t σ H fun vs H1 => ∀ x dx, H1 x = none → H1 dx = none → dx ≠ x →
  sp (V.ref x :: vs) (upd (upd H1 dx (.own x)) x (.ins C dx [])) (fun v H2 => v = .non ∧ Q (.ref x) H2) (E σ)
section
variable {X : Cx} {CX : CXT} {k i : Nat} {f C : Addr} {sp : Sp} {E : L2.St → XK} {x : PySem.Str} {e fe : Expr} {es : List Expr} {te tf : TE} {t : TA} {p pos : Pos}
theorem run_makeS {pins : List (Addr × Obj)} {σ : L2.St} {H : Hp} {s : Shared} {Q : VK} {us : List Value} {vs : List V} (M : Mk X.K C f) (F : FnR X.prog X.w X.K X.mg X.base CX k f sp) (hr : Room (k + 1) X.A) (hx : PassesAt CX X σ (E σ)) (I : Inv X pins σ H s) (r : Vals vs us)
    (h : ∀ x dx, H x = none → H dx = none → dx ≠ x → sp (V.ref x :: vs) (upd (upd H dx (.own x)) x (.ins C dx [])) (fun v H2 => v = .non ∧ Q (.ref x) H2) (E σ)) :
    wpAny (model X.prog X.w) X.A (call (.ref C) us) (EP X pins σ Q) X.xe s := by
  have hq := h (s.heap.objs.size + 1) s.heap.objs.size (I.hok.fresh (Nat.le_succ _)) (I.hok.fresh (Nat.le_refl _)) (Nat.ne_of_lt (Nat.lt_succ_self _))
  have I2 := Inv.made (C := C) I
  have r2 : Vals (V.ref (s.heap.objs.size + 1) :: vs) (Value.ref (s.heap.objs.size + 1) :: us) := .cons rfl r
  refine wpAny_call (make_map (f := f) I.kIn M.makes M.init (beq_iff_eq.mp M.fn) (codeAny_mono (F _ X.stack _ _ (Value.ref (s.heap.objs.size + 1) :: us) _ _ (E σ) (hr.make C us []) (I2.env0.make C us []) r2 hq) fun r s' hq' => ?_))
  cases r with
  | error e => exact hx pins _ _ e s' I2 hq'
  | ok fl =>
    cases fl with
    | ret u =>
      obtain ⟨v, H', I3, rv, ev, q3⟩ := I2.after hq'
      subst ev
      exact ⟨rv, ⟨V.ref (s.heap.objs.size + 1), H', I3, rfl, q3⟩⟩
    | next => exact False.elim hq'
    | brk => exact False.elim hq'
    | cont => exact False.elim hq'
theorem pe_makeS (M : Mk X.K C f) (F : FnR X.prog X.w X.K X.mg X.base CX k f sp) (hr : Room (k + 1) X.A) (hg : Gl X x) (hm : X.mg x = some (.ref C)) (hx : ∀ σ, PassesAt CX X σ (E σ)) (ha : PA X (e :: es) t) (hdb : (x == ("__debug__" : PySem.Str)) = false := by decide)
    (he : starEach (e :: es) X.env = (false, eval e X.env) :: starEach es X.env := by rfl) (hpl : (backTo pos (starEach es X.env)).any (·.1) = false := by rfl) : PE X (.Call (.Name x p) (e :: es) [] pos) (tMakeS C sp E t) := by
  refine ⟨fun pins s σ H Q I h => ?_⟩
  refine wpAny_Call_Name_kw (ld_glob I hg hm ?_ hdb)
  refine PySem.W.callWith_K (h₀ := X.base) I.ok.mod.kin M.kp (thn (ha.run pos pins s σ H _ I h) fun us s1 ⟨vs, H1, I1, r, q⟩ => ⟨I1.kIn, ?_⟩) he hpl
  exact run_makeS M F hr (hx σ) I1 r q
end
section
variable {X : Cx} {g : Gr} {wd : DWX} {k j : Nat} {x : PySem.Str} {sp : DSp} {p pos apos : Pos} {e : Expr} {es : List Expr} {t : DTA} [Cl] {n : PySem.Str}
theorem lift_new {σ : L2.St} {H : Hp} {Q : VK} {K : PySem.W.Frag} (h : liftE K g (dNew n sp wd t) σ H Q) : tMakeS (cA n) (liftSp K (dinit (cA n) sp)) (fun σ cls d H => liftW K g wd cls d σ H) (liftA K g t) σ H Q := by
  obtain ⟨S, M, sd, QD, a, q, kk⟩ := h
  refine ⟨S, M, sd, _, a, q, fun ds M1 vs S1 H1 q1 e1 r1 i1 => fun p dx hp hd ne => ?_⟩
  have q1 := q1 p (r1.freeM hp)
  have r2 := r1.newIns (C := cA n) hp hd ne
  have eq : (fun (d : D) (M' : Mem) => ∃ fs, d = D.obj (cA n) fs ∧ fs ≠ [] ∧ M' p = none ∧ QD d M') =
      fun (d : D) (M' : Mem) => ∃ fs, d = D.obj (cA n) fs ∧ fs ≠ [] ∧ M' p = none ∧ (D.non = D.non ∧ ∃ fs', fs' ≠ [] ∧ mset M' p (.ins (cA n) (fs.map some)) p = some (.ins (cA n) (fs'.map some)) ∧ QD (.obj (cA n) fs') (mdel (mset M' p (.ins (cA n) (fs.map some))) p)) := by
    funext d M'
    refine propext ⟨?_, ?_⟩
    · rintro ⟨fs, rfl, h1, h2, h3⟩
      exact ⟨fs, rfl, h1, h2, rfl, fs, h1, mset_same, by rw [mdel_mset h2]; exact h3⟩
    · rintro ⟨fs, rfl, h1, h2, _, fs', h4, h5, h6⟩
      rw [mset_same] at h5
      injection h5 with h5
      injection h5 with _ h5
      have e : fs = fs' := by
        have z := congrArg (List.map fun (o : Option D) => o.getD .non) h5
        rw [List.map_map, List.map_map, show ((fun (o : Option D) => o.getD .non) ∘ some) = id from rfl, List.map_id, List.map_id] at z
        exact z
      subst e
      rw [mdel_mset h2] at h6
      exact ⟨fs, rfl, h1, h2, h6⟩
  rw [eq] at q1
  refine ⟨g.F, S1, mset M1 p (.ins (cA n) []), .ref p :: ds, fun d M' => d = .non ∧ ∃ fs', fs' ≠ [] ∧ M' p = some (.ins (cA n) (fs'.map some)) ∧ QD (.obj (cA n) fs') (mdel M' p), fun c fs M3 => wd c fs sd M3, r2, .cons (.ref p) i1, ⟨mset_same, ?_⟩, ?_, ?_⟩
  · rw [mdel_mset (r1.freeM hp)]
    exact q1
  · rintro d M' v S' H' ⟨rfl, fs', h1, h2, q'⟩ e' r' i'
    cases i'
    have vw : View (.ref p) M' (.obj (cA n) fs') (mdel M' p) := .frzI h2 h1 fun a co z => by
      by_cases ha : a = p
      · rw [ha, mdel_same] at z; cases z
      · rw [mdel_ne ha] at z; exact ⟨ha, z⟩
    obtain ⟨S2, e2, r2, i2⟩ := vw.rep r' (.ref p)
    exact ⟨rfl, kk _ _ _ _ _ q' ((e1.trans e').trans e2) r2 i2⟩
  · intro c fs M' dd S' H' hw e' r' x'
    exact ⟨S', M', sd, fs, (a.step e1 r1).step e' r', x', hw⟩
theorem de_new (d : DNew X.prog X.w X.K X.mg X.base k x n sp) (hr : Room j X.A) (hk : k + 1 ≤ j) (hg : Gl X x) (hx : ∀ σ, PassesAt (EX X.prog X.w) X σ (fun cls d H => liftW X.K g wd cls d σ H)) (ha : DA X g (e :: es) t) (hdb : (x == ("__debug__" : PySem.Str)) = false := by decide)
    (he : starEach (e :: es) X.env = (false, eval e X.env) :: starEach es X.env := by rfl) (hpl : (backTo pos (starEach es X.env)).any (·.1) = false := by rfl) : DE X g (.Call (.Name x p) (e :: es) [] pos) (dNew n sp wd t) := by
  obtain ⟨f, mk, hm, F⟩ := d.ex
  refine ⟨pe_imp (pe_makeS mk F (hr.mono hk) hg hm hx ha.run hdb he hpl) fun σ H Q h => lift_new h⟩
end
end DL

/-! DOwn: instances: properties, own operators, len, list(o). -/
namespace DL
open PySem PySem.Spec PyProof.Rows L2
def noE : XK := fun _ _ _ => False
theorem ex_noE {P : Program} {w : World} {o : List Env} {H : Hp} {s : Shared} {e : Value} {s' : Shared} (z : EX P w o H s noE e s') : False := ex_none z
theorem passes_noE {X : Cx} : Passes (EX X.prog X.w) X noE := fun _ _ _ _ _ _ _ z => (ex_noE z).elim
section
variable {X : Cx} {pins : List (Addr × Obj)} {σ : L2.St} {H : Hp} {s : Shared} {n : Nat} {g : Addr} {sp : Sp}
/-- a callee that lets nothing out, below the running body -/
theorem run_no {A : Around} {Q : VK} {us : List Value} {ws : List V} {E : Value → Shared → Prop} (F : FnR X.prog X.w X.K X.mg X.base (EX X.prog X.w) n g sp) (sb : Sub X n A) (I : Inv X pins σ H s) (r : Vals ws us) (h : sp ws H Q noE) :
    wpAny (model X.prog X.w) A (call (.ref g) us) (EP X pins σ Q) E s := by
  have e0 : Env0 X.prog X.w X.K X.mg X.base A X.stack s H := by
    have e := I.env0
    exact ⟨by rw [sb.fr]; exact e.frames, e.mod, e.bs, e.bsz, e.funs, e.frf, e.hok, e.bare⟩
  refine wpAny_call (codeAny_mono (F A X.stack s H us ws Q noE sb.room e0 r h) fun r s' hq => ?_)
  cases r with
  | error e => exact (ex_noE hq).elim
  | ok fl =>
    cases fl with
    | ret u => exact I.after hq
    | next => exact False.elim hq
    | brk => exact False.elim hq
    | cont => exact False.elim hq
end
/-! ### properties -/
structure PropK (K : PySem.W.Frag) (C : Addr) (f : PySem.Str) (p g : Addr) : Prop where
  at_ : PySem.W.findIn K (.ref C) f = some (some (.ref p))
  get : PySem.W.specialIn K (.ref p) "__get__" = some (some (.builtin "property.__get__"))
  tk : PySem.W.takesIn K (.ref p) = some true
  rc : ∃ rest, PySem.W.recIn K p "property" = some (.ref g :: rest)
structure DPrp (P : Program) (w : World) (K : PySem.W.Frag) (mg : PySem.Str → Option Value) (base : Heap) (k : Nat) (C : Addr) (f : PySem.Str) (sp : DSp) : Prop where
  ex : ∃ p g, PropK K C f p g ∧ FnR P w K mg base (EX P w) k g (liftSp K sp)
@[reducible] def dProp [Cl] (n : PySem.Str) (sp : DSp) (te : DTE) : DTE := fun σ M Q => te σ M fun x M1 => InsOf x M1 (cA n) ∧ sp [x] M1 Q fun _ _ _ => False
/-- a promise that lets nothing out, at values -/
theorem lift_no {K : PySem.W.Frag} {F S H : Hp} {M : Mem} {sp : DSp} {vs : List V} {ds : List D} {QD : DK} {Q : VK} (r : Rep K F S M H) (l : IsL K S vs ds) (h : sp ds M QD fun _ _ _ => False) (k : ∀ d M' v S' H', QD d M' → Same S S' → Rep K F S' M' H' → Is K S' v d → Q v H') : liftSp K sp vs H Q noE :=
  ⟨F, S, M, ds, QD, fun _ _ _ => False, r, l, h, k, fun _ _ _ _ _ _ z => z.elim⟩
section
variable {X : Cx} {g : Gr} {k j : Nat} {f : PySem.Str} {sp : DSp} {pos : Pos} {e : Expr} {te : DTE} [Cl] {n : PySem.Str}
theorem de_prop (c : SlX.SCls X.K (cA n)) (d : DPrp X.prog X.w X.K X.mg X.base k (cA n) f sp) (hr : Room j X.A) (hk : k + 1 ≤ j) (he : DE X g e te) (hb : attributeBase e f X.env (eval e X.env) = eval e X.env := by rfl) : DE X g (.Attribute e f pos) (dProp n sp te) := by
  obtain ⟨p, q, P, F⟩ := d.ex
  refine ⟨pe_imp (SlX.pe_propSl (E := noE) he.run c P.at_ P.get P.tk P.rc F (hr.mono hk) (fun _ _ _ _ z => ex_noE z) hb) fun σ H Q h => ?_⟩
  obtain ⟨S, M, sd, QD, a, q, kk⟩ := h
  refine ⟨S, M, sd, _, a, q, fun d1 M1 v1 S1 H1 q1 e1 r1 i1 => ?_⟩
  obtain ⟨hi, q1⟩ := q1
  obtain ⟨b, dx, vs, rfl, hs⟩ := hi.at r1 i1
  exact ⟨b, dx, vs, rfl, hs, lift_no r1 (.cons i1 .nil) q1 fun d M' v S' H' q' e' r' i' => kk _ _ _ _ _ q' (e1.trans e') r' i'⟩
end
/-! ### own operators -/
/-- a method at a name of its own (no attribute look-up) -/
structure DSpc (P : Program) (w : World) (K : PySem.W.Frag) (mg : PySem.Str → Option Value) (base : Heap) (k : Nat) (C : Addr) (m : PySem.Str) (sp : DSp) : Prop where
  ex : ∃ g, PySem.W.findIn K (.ref C) m = some (some (.ref g)) ∧ PySem.W.isFn K (.ref g) = true ∧ FnR P w K mg base (EX P w) k g (liftSp K sp)
theorem DMet.spc {P : Program} {w : World} {K : PySem.W.Frag} {mg : PySem.Str → Option Value} {base : Heap} {k : Nat} {C : Addr} {m : PySem.Str} {sp : DSp} (d : DMet P w K mg base k C m sp) : DSpc P w K mg base k C m sp := by
  obtain ⟨g, hm, F⟩ := d.ex
  exact ⟨g, hm.at_, hm.fn, F⟩
def dNegO [Cl] (n : PySem.Str) (sp : DSp) : DR1 := fun x M Q => InsOf x M (cA n) ∧ sp [x] M Q fun _ _ _ => False
def dBinO [Cl] (n : PySem.Str) (sp : DSp) : DR2 := fun x y M Q => InsOf x M (cA n) ∧ InsOf y M (cA n) ∧ sp [x, y] M Q fun _ _ _ => False
section
variable {X : Cx} {k j : Nat} {sp : DSp} [Cl] {n : PySem.Str}
theorem dun_negO (d : DSpc X.prog X.w X.K X.mg X.base k (cA n) "__neg__" sp) (hr : Room j X.A) (hk : k ≤ j) : UnR X (unaryOp .USub) (liftR1 X.K (dNegO n sp)) := by
  obtain ⟨gf, hs, hf, F⟩ := d.ex
  intro pins s σ H x v Q I rx h
  obtain ⟨Fh, S, M, dx, QD, rep, ix, ⟨hi, hr'⟩, hq⟩ := h
  obtain ⟨b, dxx, vs, rfl, hsl⟩ := hi.at rep ix
  obtain rfl : v = Value.ref b := rx
  obtain ⟨sl, od, _, J, _⟩ := SlX.slt_inst I hsl
  obtain ⟨m, hF⟩ := I.fr
  refine PySem.W.ksp_neg hF I.ok.mod.kin J hs hf (wpAny_call (run_fnR (us := [.ref b]) (vs := [.ref b]) F (hr.mono hk) passes_noE I (.cons rfl .nil) (lift_no rep (.cons ix .nil) hr' fun d M' v S' H' q' e' r' i' => hq _ _ _ _ _ q' e' r' i')))
theorem dop_binO {op : Operator} (hc : PySem.W.selfFirst X.K (cA n) = true) (d : DSpc X.prog X.w X.K X.mg X.base k (cA n) (PySem.dunder op.info.2) sp) (hr : Room j X.A) (hk : k ≤ j) : OpR X (binaryOp op) (liftR2 X.K (dBinO n sp)) := by
  obtain ⟨gf, hs, hf, F⟩ := d.ex
  intro pins s σ H x y v u Q I rx ry h
  obtain ⟨Fh, S, M, dx, dy, QD, rep, ix, iy, ⟨hi, hi2, hr'⟩, hq⟩ := h
  obtain ⟨b, dxx, vs, rfl, hsl⟩ := hi.at rep ix
  obtain ⟨b2, dxx2, vs2, rfl, hsl2⟩ := hi2.at rep iy
  obtain rfl : v = Value.ref b := rx
  obtain rfl : u = Value.ref b2 := ry
  obtain ⟨sl, od, _, J, _⟩ := SlX.slt_inst I hsl
  obtain ⟨sl2, od2, _, J2, _⟩ := SlX.slt_inst I hsl2
  obtain ⟨m, hF⟩ := I.fr
  refine PySem.W.binop_K hF I.ok.mod.kin J J2.type hc hs hf (wpAny_mono (wpAny_call (run_fnR (us := [.ref b, .ref b2]) (vs := [.ref b, .ref b2]) F (hr.mono hk) passes_noE I (.cons rfl (.cons rfl .nil)) (lift_no rep (.cons ix (.cons iy .nil)) hr' fun d M' v S' H' q' e' r' i' => hq _ _ _ _ _ q' e' r' i'))) (fun w s' z => ?_) fun _ _ x => x)
  obtain ⟨z', H', I', rz, qz⟩ := z
  exact SlX.cmpback rz ⟨z', H', I', rz, qz⟩
end
/-! ### len(o) -/
def dLenO [Cl] (n : PySem.Str) (sp : DSp) : DR1 := fun x M Q => InsOf x M (cA n) ∧ sp [x] M (fun d M' => ∃ i : Int, d = .int i ∧ 0 ≤ i ∧ i < 2 ^ 63 ∧ Q (.int i) M') fun _ _ _ => False
section
variable {X : Cx} {pins : List (Addr × Obj)} {σ : L2.St} {H : Hp} {s : Shared} {k : Nat} {a C dx gf : Addr} {sl : List (Option V)} {sp : Sp} {A : Around}
theorem len_slt {Q : Value → Shared → Prop} {E : Value → Shared → Prop} (sb : Sub X k A.in1) (hs : PySem.W.findIn X.K (.ref C) "__len__" = some (some (.ref gf))) (hf : PySem.W.isFn X.K (.ref gf) = true) (F : FnR X.prog X.w X.K X.mg X.base (EX X.prog X.w) k gf sp) (I : Inv X pins σ H s) (hsl : SlX.Slt H a C dx sl)
    (h : sp [.ref a] H (fun v H' => ∃ i : Int, v = .int i ∧ 0 ≤ i ∧ i < 2 ^ 63 ∧ ∀ u s', Inv X pins σ H' s' → RelV (.int i) u → Q u s') noE) : wpAny (model X.prog X.w) A (call (.builtin "len") [.ref a]) Q E s := by
  obtain ⟨sl', od, _, J, _⟩ := SlX.slt_inst I hsl
  refine Calls.call_function_entry kind_len plain_len entry_len (args_len1 _) ?_
  unfold Builtin.«len»
  refine wpAny_bind (m := oneArg "len" _) (wpAny_pure ?_)
  refine wpAny_bind (m := callSpecial? (.ref a) (Str.ofString "__len__")) (PySem.W.special_fn I.kIn J hs (beq_iff_eq.mp hf) (wpAny_mono (run_no (us := [.ref a]) (ws := [.ref a]) F sb I (.cons rfl .nil) h) (fun r s' hr => ?_) fun _ _ y => y))
  obtain ⟨v, H', I', rv, i, rfl, h0, h1, hq⟩ := hr
  obtain ⟨t, rfl⟩ := rv
  refine wpAny_bind (wpAny_holding (wpAny_pure ?_))
  refine wpAny_bind (wpAny_letGo ?_)
  show wpAny _ _ (if i < 0 then _ else _) _ _ _
  rw [if_neg (by omega)]
  show wpAny _ _ (if i ≥ 2 ^ 63 then _ else _) _ _ _
  rw [if_neg (by omega)]
  exact wpAny_bind (wpAny_mkInt (wpAny_pure ⟨_, rfl, hq _ _ (I'.tok _) ⟨_, rfl⟩⟩))
end
section
variable {X : Cx} {k j : Nat} {sp : DSp} [Cl] {n : PySem.Str}
theorem dcall_lenO (d : DSpc X.prog X.w X.K X.mg X.base k (cA n) "__len__" sp) (hr : Room j X.A) (hk : k + 1 ≤ j) : CallR X (.builtin "len") (liftRL X.K (r1 (dLenO n sp))) := by
  obtain ⟨gf, hs, hf, F⟩ := d.ex
  intro pins s σ H xs us Q I rx hh
  obtain ⟨Fh, S, M, ds, QD, rep, ix, hr', hq⟩ := hh
  obtain ⟨x, rfl, hi, h⟩ := r1_inv hr'
  obtain ⟨v, rfl, iv⟩ := isL1 ix
  obtain ⟨b, dxx, vs, rfl, hsl⟩ := hi.at rep iv
  obtain ⟨u, rfl, ru⟩ := vals1 rx
  cases ru
  have sb : Sub X k X.A.in1 := Sub.in1 (⟨hr.mono hk, rfl⟩ : Sub X (k + 1) X.A)
  refine len_slt sb hs hf F I hsl (lift_no rep (.cons iv .nil) h fun d M' v S' H' q' e' r' i' => ?_)
  obtain ⟨i, rfl, h0, h1, q'⟩ := q'
  cases i'
  exact ⟨i, rfl, h0, h1, fun u s' I' ru => ⟨.int i, H', I', ru, hq _ _ _ _ _ q' e' r' (.int i)⟩⟩
end
/-! ### list(o), o's __iter__ hands out an iterator over a list of its own -/
/-- what such an __iter__ promises -/
def spIt (K : PySem.W.Frag) (C : Addr) (i : Nat) : Sp := fun vs H Q _ => ∃ a dx sl l zs, vs = [.ref a] ∧ SlX.Slt H a C dx sl ∧ sl[i]? = some (some (.ref l)) ∧ SqL K H l zs ∧ ∀ it, H it = none → Q (.ref it) (upd H it (ItO l it 0))
structure ItK (P : Program) (w : World) (K : PySem.W.Frag) (mg : PySem.Str → Option Value) (base : Heap) (k : Nat) (C : Addr) (i : Nat) : Prop where
  ex : ∃ g, PySem.W.findIn K (.ref C) "__iter__" = some (some (.ref g)) ∧ PySem.W.isFn K (.ref g) = true ∧ FnR P w K mg base (EX P w) k g (spIt K C i)
section
variable {X : Cx} {pins : List (Addr × Obj)} {σ : L2.St} {H : Hp} {s : Shared} {k : Nat} {a C dx gf l it q : Addr} {sl : List (Option V)} {zs : List V} {A A1 : Around} {i : Nat}
/-- pyIter of such an instance -/
theorem iter_slt {Q : Value → Shared → Prop} {E : Value → Shared → Prop} (sb : Sub X k A) (hs : PySem.W.findIn X.K (.ref C) "__iter__" = some (some (.ref gf))) (hf : PySem.W.isFn X.K (.ref gf) = true) (F : FnR X.prog X.w X.K X.mg X.base (EX X.prog X.w) k gf (spIt X.K C i)) (I : Inv X pins σ H s) (hsl : SlX.Slt H a C dx sl)
    (hl : sl[i]? = some (some (.ref l))) (hq : SqL X.K H l zs) (h : ∀ it s', H it = none → Inv X pins σ (upd H it (ItO l it 0)) s' → Q (.ref it) s') : wpAny (model X.prog X.w) A (pyIter (.ref a)) Q E s := by
  obtain ⟨sl', od, _, J, _⟩ := SlX.slt_inst I hsl
  obtain ⟨m0, hF⟩ := I.fr
  refine PySem.W.owit_iter hF I.ok.mod.kin J hs hf (wpAny_mono (run_no (us := [.ref a]) (ws := [.ref a]) (Q := fun v H' => ∃ it, v = .ref it ∧ H it = none ∧ H' = upd H it (ItO l it 0)) F sb I (.cons rfl .nil)
    ⟨a, dx, sl, l, zs, rfl, hsl, hl, hq, fun it hit => ⟨it, rfl, hit, rfl⟩⟩) (fun r s' hr => ?_) fun _ _ y => y)
  obtain ⟨v, H', I', rv, it, rfl, hit, eH⟩ := hr
  subst eH
  obtain rfl : r = Value.ref it := rv
  have ho := itO_get I' (upd_same)
  unfold PySem.W.OwitIt
  exact wpAny_specialOf (T := "list_iterator") ⟨_, ho, rfl⟩ slot_listiter_next.lookup (h it s' hit I')
/-- one turn of a list's iterator, its object told whole -/
theorem next_it {Q : Option Value → Shared → Prop} {x : Value} {items : Array Value} (ho : s.heap.get? it = some (GNX.itObj l i)) (hl : s.heap.IsList l items) (hx : items[i]? = some x)
    (hQ : ∀ h', h'.get? it = some (GNX.itObj l (i + 1)) → Heap.SameBut it s.heap h' → Q (some x) { s with heap := h' }) {E : Value → Shared → Prop} : wpAny (model X.prog X.w) A (pyNext (.ref it)) Q E s := by
  have hT : s.TypeIs (.ref it) "list_iterator" := ⟨_, ho, rfl⟩
  unfold pyNext
  refine wpAny_bind (wpAny_attempt (wpAny_callSpecial?_slot (name := Str.ofString "__next__") hT slot_listiter_next (wpAny_call_entry slot_listiter_next hT entry_listiter_next ?_ (args_listiter_next _))))
  refine wpAny_mono (GNX.next_item (Q := fun v s' => v = x ∧ Q (some x) s') ho hl hx fun h' e sb => ⟨rfl, hQ h' e sb⟩) (fun fin s' hq => ?_) fun _ _ z => z
  obtain ⟨v, e, rfl, q⟩ := hq
  exact ⟨_, e, wpAny_pure q⟩
theorem end_it {Q : Option Value → Shared → Prop} {items : Array Value} (hh : A.handled = none) (ho : s.heap.get? it = some (GNX.itObj l i)) (hl : s.heap.IsList l items) (hx : items[i]? = none)
    (hQ : ∀ h', h'.get? it = some (GNX.itEnd i) → (∀ b o, b ≠ it → s.heap.get? b = some o → h'.get? b = some o) → Q none { s with heap := h' }) {E : Value → Shared → Prop} : wpAny (model X.prog X.w) A (pyNext (.ref it)) Q E s := by
  have hT : s.TypeIs (.ref it) "list_iterator" := ⟨_, ho, rfl⟩
  unfold pyNext
  refine wpAny_bind (wpAny_attempt (wpAny_callSpecial?_slot (name := Str.ofString "__next__") hT slot_listiter_next (wpAny_call_entry slot_listiter_next hT entry_listiter_next ?_ (args_listiter_next _))))
  refine wpAny_mono (GNX.next_end (Q := fun _ _ => False) hh ho hl hx fun h1 h' e vs e1 sb k ne he' hv => ?_) (fun fin s' hq => ?_) fun _ _ z => z
  · refine wpAny_bind (wpAny_isInstance (T := "StopIteration") (b := true) ⟨_, he', rfl⟩ isSubtype_stop ?_)
    exact wpAny_pure (hQ h' (k _ _ e1) fun b o hb hbo => k _ _ ((sb.2 b hb).trans hbo))
  · obtain ⟨v, e, z⟩ := hq
    exact z.elim
/-- what is said of the length -/
theorem hint_slt {Q : Bool → Shared → Prop} {E : Value → Shared → Prop} {sp : Sp} {gl : Addr} (sb : Sub X k A.in1) (hs : PySem.W.findIn X.K (.ref C) "__len__" = some (some (.ref gl))) (hf : PySem.W.isFn X.K (.ref gl) = true) (F : FnR X.prog X.w X.K X.mg X.base (EX X.prog X.w) k gl sp) (I : Inv X pins σ H s) (hsl : SlX.Slt H a C dx sl)
    (h : sp [.ref a] H (fun v H' => ∃ i : Int, v = .int i ∧ 0 ≤ i ∧ i < 2 ^ 63 ∧ ∀ u s', Inv X pins σ H' s' → RelV (.int i) u → ∃ (j : Int) (t : Tok), u = .int j t ∧ j.toNat ≤ sizeLine ∧ ∀ b, Q b s') noE) : wpAny (model X.prog X.w) A (Builtin.List.listLengthHint (.ref a)) Q E s := by
  obtain ⟨sl', od, _, J, _⟩ := SlX.slt_inst I hsl
  unfold Builtin.List.listLengthHint
  refine wpAny_bind (wpAny_bind (J.type.here ((PySem.W.looks_findIn I.kIn hs).here ?_)))
  refine PySem.W.KFB.if_not rfl ?_
  refine PySem.W.KFB.if_so rfl ?_
  refine wpAny_bind (wpAny_rule ?_)
  refine wpAny_bind (wpAny_attempt (wpAny_mono (len_slt (Q := fun u s' => ∃ (j : Int) (t : Tok), u = .int j t ∧ j.toNat ≤ sizeLine ∧ ∀ b, Q b s') sb hs hf F I hsl h) (fun u s' hu => ?_) fun _ _ z => z))
  obtain ⟨j, t, rfl, hz, q⟩ := hu
  refine wpAny_bind (wpAny_pure ?_)
  refine PySem.W.KFB.if_not (notLongL hz) ?_
  exact wpAny_pure (q _)
/-- the walk of list(..) over a list's iterator: zs stands at l, what was taken at q -/
theorem it_loop {H0 : Hp} {Rs : Result → Shared → Prop} (hh : A1.handled = none) (hq0 : H0 q = none) (hit : H0 it = none) (ne : q ≠ it) (hl : SqL X.K H0 l zs) (hz : zs.length ≤ sizeLine)
    (hdone : ∀ s, Inv X pins σ (upd (upd H0 q (.lst zs)) it (ItE it zs.length)) s → Rs (.ok (.ret .none)) s) :
    ∀ (m i : Nat) (s : Shared), i + m = zs.length → Inv X pins σ (upd (upd H0 q (.lst (zs.take i))) it (ItO l it i)) s → codeAny (model X.prog X.w) A1 (.builtin "list.extend.loop" ⟨[.ref q, .ref it, .none], []⟩) Rs s := by
  have same : ∀ (o u : HO), Same H0 (upd (upd H0 q o) it u) := fun o u => (same_upd hq0).trans (same_upd (by rw [upd_ne (Ne.symm ne)]; exact hit))
  have at_q : ∀ (o u : HO), upd (upd H0 q o) it u q = some o := fun o u => by rw [upd_ne ne, upd_same]
  intro m
  induction m with
  | zero =>
    intro i s hi I
    have e : i = zs.length := by omega
    subst e
    rw [List.take_length] at I
    refine codeAny_builtin PySem.F.entry_extend_loop ?_
    rw [Around.under_plainId PySem.F.plain_extend_loop _]
    obtain ⟨its, rv, pl, _⟩ := I.list ((same _ _).seq hl)
    have ho := itO_get I upd_same
    have hlen := rv.length
    refine wpAny_bind (m := pyNext (.ref it)) (end_it (X := X) (A := A1.in1) (show A1.in1.handled = none from hh) ho pl.isList (by simp; omega) fun h' e k => ?_)
    have mu : Mut ((upd (upd H0 q (.lst zs)) it (ItO l it zs.length)) it) := by rw [upd_same]; exact True.intro
    have I2 := I.write (x := it) (e := it) (t' := s.toks) mu (.inl rfl) k ⟨_, e⟩ (itE_ok e)
    rw [upd_upd] at I2
    exact wpAny_pure (hdone _ I2)
  | succ m ih =>
    intro i s hi I
    have hlt : i < zs.length := by omega
    refine codeAny_builtin PySem.F.entry_extend_loop ?_
    rw [Around.under_plainId PySem.F.plain_extend_loop _]
    obtain ⟨its, rv, pl, _⟩ := I.list ((same _ _).seq hl)
    have ho := itO_get I upd_same
    obtain ⟨u, hu, ru⟩ := rv.get (List.getElem?_eq_getElem hlt)
    refine wpAny_bind (m := pyNext (.ref it)) (next_it (X := X) (A := A1.in1) ho pl.isList (by rw [List.getElem?_toArray]; exact hu) fun h' e sb => ?_)
    have mu : Mut ((upd (upd H0 q (.lst (zs.take i))) it (ItO l it i)) it) := by rw [upd_same]; exact True.intro
    have I2 := I.write (x := it) (e := it) (t' := s.toks) mu (.inl rfl) (fun b o nb z => (sb.2 b nb).trans z) ⟨_, e⟩ (itO_ok e)
    rw [upd_upd] at I2
    obtain ⟨_, its2, k2, r2, hl2, e2⟩ := I2.lstM (at_q _ _)
    have hl3 : (zs.take i).length = i := by rw [List.length_take]; omega
    refine wpAny_bind (m := updateSeq q (·.push u)) (wpAny_updateSeq e2 rfl (wpAny_pure ⟨plainId_quiet PySem.F.plain_extend_loop _, ?_⟩) (by rw [List.size_toArray]; omega) (by show (its2.toArray.push u).size ≤ sizeLine + 1; rw [Array.size_push, List.size_toArray]; omega))
    have I3 := I2.lset (its' := its2 ++ [u]) (t' := s.toks) (at_q _ _) e2 (f := (·.push u)) (by simp) (r2.append (.cons ru .nil)) (by rw [List.length_append, List.length_singleton]; omega)
    have eH : upd (upd (upd H0 q (.lst (zs.take i))) it (ItO l it (i + 1))) q (.lst (zs.take i ++ [zs[i]])) = upd (upd H0 q (.lst (zs.take (i + 1)))) it (ItO l it (i + 1)) := by
      rw [List.take_succ_eq_append_getElem hlt]
      funext b
      by_cases h1 : b = q
      · subst h1; rw [upd_same, at_q]
      · rw [upd_ne h1]
        by_cases h2 : b = it
        · subst h2; rw [upd_same, upd_same]
        · rw [upd_ne h2, upd_ne h1, upd_ne h2, upd_ne h1]
    rw [eH] at I3
    exact ih (i + 1) _ (by omega) I3
end
open ItX (dropH dropH_same dropH_ne dropH_upd)
def rListO (K : PySem.W.Frag) (C : Addr) (i : Nat) (spL : Sp) : List V → Hp → VK → Prop := fun xs H Q => ∃ a dx sl l zs, xs = [.ref a] ∧ SlX.Slt H a C dx sl ∧ sl[i]? = some (some (.ref l)) ∧ SqL K H l zs ∧ ∀ q it, H q = none → H it = none → q ≠ it →
  ∀ QL : VK, (∀ (j : Int) (H0 : Hp), 0 ≤ j → j ≤ sizeLine → H0 q = none → H0 it = none → SqL K H0 l zs → Q (.ref q) (upd (upd H0 q (.lst zs)) it (ItE it zs.length)) → QL (.int j) (upd (upd H0 q (.lst [])) it (ItO l it 0))) → spL [.ref a] (upd (upd H q (.lst [])) it (ItO l it 0)) QL noE
theorem call_listO {X : Cx} {k : Nat} {C gi gl : Addr} {i : Nat} {spL : Sp} (hc : X.calm = true) (hr : Room (k + 3) X.A) (his : PySem.W.findIn X.K (.ref C) "__iter__" = some (some (.ref gi))) (hif : PySem.W.isFn X.K (.ref gi) = true) (FI : FnR X.prog X.w X.K X.mg X.base (EX X.prog X.w) k gi (spIt X.K C i))
    (hls : PySem.W.findIn X.K (.ref C) "__len__" = some (some (.ref gl))) (hlf : PySem.W.isFn X.K (.ref gl) = true) (FL : FnR X.prog X.w X.K X.mg X.base (EX X.prog X.w) k gl spL) : CallR X (.type "list") (rListO X.K C i spL) := by
  intro pins s σ H xs us Q I rv h
  obtain ⟨a, dx, sl, l, zs, rfl, hsl, hl, hzs, h⟩ := h
  obtain ⟨u, rfl, ru⟩ := vals1 rv
  cases ru
  have sb3 : Sub X (k + 3) X.A := ⟨hr, rfl⟩
  have sb1 : Sub X (k + 1) X.A.in1.in1 := sb3.in1.in1
  have sb0 : Sub X k X.A.in1.in1.in1 := sb1.in1
  refine callType_codes (Q₁ := fun obj s₁ => obj = .ref s.heap.objs.size ∧ s₁ = { s with heap := s.heap.push { cls := .type "list", data := .seq #[] } }) PySem.F.called_list (PySem.F.typeCall_list_1 _) PySem.F.entry_list_init
    (code_list_new _ ⟨rfl, rfl⟩) fun obj s₁ h₁ => ?_
  obtain ⟨rfl, rfl⟩ := h₁
  have hS : (s.heap.push { cls := .type "list", data := .seq #[] }).get? s.heap.objs.size = some { cls := .type "list", data := .seq #[] } := Heap.get?_push_size _ rfl
  refine ⟨⟨_, hS, rfl⟩, PySem.F.args_list_init_2 _ _, ?_⟩
  generalize hqd : s.heap.objs.size = q at *
  have fr : H q = none := by rw [← hqd]; exact I.hok.fresh (Nat.le_refl _)
  have I1 : Inv X pins σ (upd H q (.lst [])) { s with heap := s.heap.push { cls := .type "list", data := .seq #[] } } := by rw [← hqd]; exact I.lnew (its := []) (t' := s.toks) .nil (Nat.zero_le _)
  refine wpAny_bind (m := Builtin.List.listItems (.ref q)) ?_
  unfold Builtin.List.listItems
  refine wpAny_bind (wpAny_seqItems hS rfl (wpAny_pure ?_))
  refine wpAny_bind (m := updateSeq q (fun _ => #[])) (wpAny_updateSeq hS rfl ?_)
  have I2 := I1.lset (f := fun _ => #[]) (its := []) (its' := []) (ys := []) (t' := s.toks) upd_same hS rfl .nil (Nat.zero_le _)
  rw [upd_upd] at I2
  refine wpAny_bind (wpAny_letGo ?_)
  have ne_a : a ≠ q := by
    rcases hsl with ⟨z, _⟩ | ⟨z, _⟩ <;> exact ne_of_none z fr
  have hsl2 : SlX.Slt (upd H q (.lst [])) a C dx sl := by
    rcases hsl with ⟨z, e⟩ | ⟨z, e⟩
    · exact .inl ⟨by rw [upd_ne ne_a]; exact z, e⟩
    · exact .inr ⟨by rw [upd_ne ne_a]; exact z, by rw [upd_ne (ne_of_none e fr)]; exact e⟩
  have hzs2 : SqL X.K (upd H q (.lst [])) l zs := (same_upd fr).seq hzs
  unfold Builtin.List.listExtendWith
  obtain ⟨sl', od, _, J, _⟩ := SlX.slt_inst I2 hsl2
  refine wpAny_bind (J.type.here ?_)
  have h1 : Builtin.List.listSameRef (.ref q) (.ref a) = false := by simp [Builtin.List.listSameRef, Ne.symm ne_a]
  have h2 : (Value.ref C == Value.type "list") = false := rfl
  have h3 : (Value.ref C == Value.type "tuple") = false := rfl
  simp only [h1, h2, h3, Bool.or_false, Bool.false_eq_true, if_false]
  refine wpAny_bind (iter_slt (i := i) (sb1.mono (Nat.le_succ _)) his hif FI I2 hsl2 hl hzs2 fun it s3 hit I3 => ?_)
  have hit0 : H it = none := by
    by_cases z : it = q
    · rw [z]; exact fr
    · rw [upd_ne z] at hit; exact hit
  have ne : q ≠ it := fun z => by
    rw [← z, upd_same] at hit
    cases hit
  have ne_b : a ≠ it := by
    rcases hsl with ⟨z, _⟩ | ⟨z, _⟩ <;> exact ne_of_none z hit0
  have hsl3 : SlX.Slt (upd (upd H q (.lst [])) it (ItO l it 0)) a C dx sl := by
    rcases hsl2 with ⟨z, e⟩ | ⟨z, e⟩
    · exact .inl ⟨by rw [upd_ne ne_b]; exact z, e⟩
    · exact .inr ⟨by rw [upd_ne ne_b]; exact z, by rw [upd_ne (ne_of_none e hit)]; exact e⟩
  have hh : X.A.in1.handled = none := (show X.A.handled = none from I.ok.hd hc)
  refine wpAny_bind (wpAny_holding (hint_slt sb0 hls hlf FL I3 hsl3 (h q it fr hit0 ne _ fun j H0 j0 j1 e1 e2 e3 hQ => ?_)))
  refine ⟨j, rfl, j0, Int.lt_of_le_of_lt j1 (by rw [sizeLine_eq]; decide), fun u s4 I4 ru => ?_⟩
  obtain ⟨t, rfl⟩ := ru
  refine ⟨j, t, rfl, by omega, fun room => ?_⟩
  have hz : zs.length ≤ sizeLine := by
    obtain ⟨its, rv, _, hz⟩ := I4.list (((same_upd e1).trans (same_upd (by rw [upd_ne (Ne.symm ne)]; exact e2))).seq e3)
    exact hz
  have fin : ∀ s5, Inv X pins σ (upd (upd H0 q (.lst [])) it (ItO l it 0)) s5 → codeAny (model X.prog X.w) X.A.in1 (.builtin "list.extend.loop" ⟨[.ref q, .ref it, .none], []⟩) (wants (fun r s₂ => r = .none ∧ EP X pins σ Q (.ref q) s₂) X.xe) s5 := fun s5 I5 =>
    it_loop hh e1 e2 ne e3 hz (fun s6 I6 => ⟨rfl, .ref q, _, I6, rfl, hQ⟩) zs.length 0 s5 (by omega) I5
  refine wpAny_ite_split (fun _ => ?_) (fun _ => wpAny_pure ⟨plainId_quiet PySem.F.plain_extend_loop _, fin s4 I4⟩)
  have hq4 : upd (upd H0 q (.lst [])) it (ItO l it 0) q = some (.lst []) := by rw [upd_ne ne, upd_same]
  obtain ⟨z, its, k4, r3, hl3, e4⟩ := I4.lstM hq4
  cases r3
  refine wpAny_bind (wpAny_rule ?_)
  refine wpAny_bind ?_
  show wpAny _ _ (updateSeq q (·.push .none) >>= fun _ => updateSeq q (·.pop)) _ _ _
  refine wpAny_bind (wpAny_updateSeq e4 rfl ?_)
  have I5 := I4.lset (f := (·.push Value.none)) (its' := [Value.none]) (ys := [.non]) (t' := s4.toks) hq4 e4 (by simp) (.cons rfl .nil) (by rw [List.length_singleton, sizeLine_eq]; decide)
  obtain ⟨z5, its5, k5, r5, hl5, e5⟩ := I5.lstM upd_same
  obtain ⟨u5, rfl, ru5⟩ := r5.one
  refine wpAny_updateSeq e5 rfl ?_ (by show 1 ≤ sizeLine; rw [sizeLine_eq]; decide) (by show 0 ≤ sizeLine + 1; exact Nat.zero_le _)
  refine wpAny_pure ⟨plainId_quiet PySem.F.plain_extend_loop _, fin _ ?_⟩
  have I6 := I5.lset (f := (·.pop)) (its := [u5]) (its' := []) (ys := []) (t' := s4.toks) upd_same e5 (by rfl) .nil (Nat.zero_le _)
  rw [upd_upd] at I6
  have eH : upd (upd (upd H0 q (.lst [])) it (ItO l it 0)) q (.lst []) = upd (upd H0 q (.lst [])) it (ItO l it 0) := by
    funext b
    by_cases hb : b = q
    · rw [hb, upd_same, hq4]
    · rw [upd_ne hb]
  rw [eH] at I6
  exact I6
/-- what was hidden is forgotten -/
theorem Rep.drop {K : PySem.W.Frag} {F S H : Hp} {M : Mem} {p : Addr} {o : HO} (r : Rep K (upd F p o) S M H) (hF : F p = none) : Rep K F S M (dropH H p) ∧ S p = none ∧ M p = none ∧ H p = some o := by
  obtain ⟨h1, h2, h3⟩ := r.hid p o upd_same
  have nx := r.fl p o upd_same
  refine ⟨⟨fun b u e => ?_, fun a co e => ?_, fun a u e => ?_, r.sown, r.unfl hF⟩, h1, h2, h3⟩
  · have hb : b ≠ p := fun z => by subst z; rw [h1] at e; cases e
    rw [dropH_ne hb]
    exact r.same b u e
  · obtain ⟨g1, g2⟩ := r.cell a co e
    refine ⟨g1, g2.mono (Same.refl _) fun b u q z => ?_⟩
    have hb : b ≠ p := fun y => by
      subst y
      rw [h3] at q
      cases q
      rcases z with z | z | z
      · subst z; rw [h2] at e; cases e
      · exact nx.1 _ z
      · exact nx.2 z
    rw [dropH_ne hb]
    exact q
  · have hb : a ≠ p := ne_of_none e hF
    obtain ⟨g1, g2, g3⟩ := r.hid a u (by rw [upd_ne hb]; exact e)
    exact ⟨g1, g2, by rw [dropH_ne hb]; exact g3⟩
/-- the list that o's __iter__ walks is copied -/
def dListO [Cl] (n : PySem.Str) (i : Nat) (spl : DSp) : DR1 := fun x M Q => FldOf x M (cA n) i fun e => ∃ es, e = .lst es ∧ spl [x] M (fun d M' => ∃ j : Int, d = .int j ∧ 0 ≤ j ∧ j ≤ sizeLine ∧ Q (.lst es) M') fun _ _ _ => False
def dListOC [Cl] (n : PySem.Str) (i : Nat) (spl : DSp) : DR1 := fun x M Q => FldOf x M (cA n) i fun e => ∃ es, e = .lst es ∧ spl [x] M (fun d M' => ∃ j : Int, d = .int j ∧ 0 ≤ j ∧ j ≤ sizeLine ∧ ∀ p, M' p = none → Q (.ref p) (mset M' p (.lst es))) fun _ _ _ => False
theorem noX_it {l it : Addr} {i : Nat} : NoX (ItO l it i) := ⟨(fun _ z => by unfold ItO at z; cases z), (fun z => by unfold ItO at z; cases z)⟩
section
variable {X : Cx} {k j : Nat} {sp : DSp} [Cl] {n : PySem.Str} {i : Nat}
theorem listO_main {R : List D → Mem → Prop} {F S H : Hp} {M : Mem} {v : V} {x : D} {spl : DSp} {Q : VK} (rep : Rep X.K F S M H) (iv : Is X.K S v x)
    (h : FldOf x M (cA n) i fun e => ∃ es, e = .lst es ∧ spl [x] M (fun d M' => ∃ j : Int, d = .int j ∧ 0 ≤ j ∧ j ≤ sizeLine ∧ R es M') fun _ _ _ => False)
    (k : ∀ (es : List D) (ws : List V) (M' : Mem) (S' H' : Hp) (q : Addr), R es M' → Same S S' → Rep X.K F S' M' H' → IsL X.K S' ws es → H' q = none → ∀ it u, it ≠ q → H' it = none → Q (.ref q) (upd (upd H' q (.lst ws)) it u)) : rListO X.K (cA n) i (liftSp X.K spl) [v] H Q := by
  obtain ⟨b, dx, vs, d, u, rfl, hsl, hu, iu, es, rfl, hl⟩ := h.at rep iv
  cases iu with
  | @lst l ws _ s il =>
    refine ⟨b, dx, vs, l, ws, rfl, hsl, hu, SqL.of (rep.same _ _ s), fun q it hq hit ne QL hQL => ?_⟩
    have r1 := rep.hide (o := .lst []) hq
    have hit1 : upd H q (.lst []) it = none := by rw [upd_ne (Ne.symm ne)]; exact hit
    have r2 := r1.hide (o := ItO l it 0) hit1 noX_it
    have fq : F q = none := rep.freeF hq
    have fit : upd F q (.lst []) it = none := r1.freeF hit1
    refine lift_no r2 (.cons iv .nil) hl fun d M' v' S' H' q' e' r' i' => ?_
    obtain ⟨j, rfl, j0, j1, q2⟩ := q'
    cases i'
    obtain ⟨r3, _, _, a1⟩ := r'.drop fit
    obtain ⟨r4, _, _, a2⟩ := r3.drop fq
    have eH : H' = upd (upd (dropH (dropH H' it) q) q (.lst [])) it (ItO l it 0) := by
      funext b
      by_cases h1 : b = it
      · rw [h1, upd_same, a1]
      · rw [upd_ne h1]
        by_cases h2 : b = q
        · rw [h2, upd_same]
          rw [dropH_ne ne] at a2
          exact a2
        · rw [upd_ne h2, dropH_ne h2, dropH_ne h1]
    have f1 : dropH (dropH H' it) q q = none := dropH_same
    have f2 : dropH (dropH H' it) q it = none := by rw [dropH_ne (Ne.symm ne), dropH_same]
    rw [eH]
    exact hQL j _ j0 j1 f1 f2 (SqL.of (r4.same _ _ (e' _ _ s))) (k es ws M' S' _ q q2 e' r4 (il.mono e') f1 it _ (Ne.symm ne) f2)
theorem dcall_listO (hc : X.calm = true) (di : ItK X.prog X.w X.K X.mg X.base k (cA n) i) (d : DSpc X.prog X.w X.K X.mg X.base k (cA n) "__len__" sp) (hr : Room j X.A) (hk : k + 3 ≤ j) : CallR X (.type "list") (liftRL X.K (r1 (dListO n i sp))) := by
  obtain ⟨gl, hls, hlf, FL⟩ := d.ex
  obtain ⟨gi, his, hif, FI⟩ := di.ex
  intro pins s σ H xs us Q I rx hh
  obtain ⟨Fh, S, M, ds, QD, rep, ix, hr', hq⟩ := hh
  obtain ⟨x, rfl, h⟩ := r1_inv hr'
  obtain ⟨v, rfl, iv⟩ := isL1 ix
  refine call_listO hc (hr.mono hk) his hif FI hls hlf FL pins s σ H _ us Q I rx (listO_main (R := fun es M' => QD (.lst es) M') rep iv h fun es ws M' S' H' q q' e' r' il hq0 it u ne hit0 => ?_)
  have s1 : Same S' (upd S' q (.lst ws)) := same_upd (r'.freeS hq0)
  exact hq _ M' _ _ _ q' (e'.trans s1) ((r'.frozen hq0).junk (by rw [upd_ne ne]; exact hit0)) (.lst upd_same (il.mono s1))
theorem dcall_listOC (hc : X.calm = true) (di : ItK X.prog X.w X.K X.mg X.base k (cA n) i) (d : DSpc X.prog X.w X.K X.mg X.base k (cA n) "__len__" sp) (hr : Room j X.A) (hk : k + 3 ≤ j) : CallR X (.type "list") (liftRL X.K (r1 (dListOC n i sp))) := by
  obtain ⟨gl, hls, hlf, FL⟩ := d.ex
  obtain ⟨gi, his, hif, FI⟩ := di.ex
  intro pins s σ H xs us Q I rx hh
  obtain ⟨Fh, S, M, ds, QD, rep, ix, hr', hq⟩ := hh
  obtain ⟨x, rfl, h⟩ := r1_inv hr'
  obtain ⟨v, rfl, iv⟩ := isL1 ix
  refine call_listO hc (hr.mono hk) his hif FI hls hlf FL pins s σ H _ us Q I rx (listO_main (R := fun es M' => ∀ p, M' p = none → QD (.ref p) (mset M' p (.lst es))) rep iv h fun es ws M' S' H' q q' e' r' il hq0 it u ne hit0 => ?_)
  exact hq _ _ _ _ _ (q' q (r'.freeM hq0)) e' ((r'.newCell (co := .lst es) hq0 ⟨ws, upd_same, il⟩).junk (by rw [upd_ne ne]; exact hit0)) (.ref q)
end
end DL

/-! DEnum: enumerate of a list or a tuple. -/
namespace DL
open PySem PySem.Spec PyProof.Rows L2
open Builtin in
theorem meets_enum1 {v : Value} {o : Obj} {H : Heap → Prop} (B : Begins v o H) :
    Meets (Builtin.«enumerate.__new__» ⟨[.type "enumerate", v], []⟩) (fun _ R s => H s.heap ∧
      R (.ok (.ret (.ref (s.heap.push o).objs.size))) { s with heap := (s.heap.push o).push { cls := .type "enumerate", data := .fields #[.none, .bool false, .ref s.heap.objs.size, rawInt 0, .none, .none] } }) :=
  .of_wp fun prog w A R s h => by
    obtain ⟨hp, g, d, tk, os⟩ := s
    obtain ⟨h1, h⟩ := h
    have hsub := sub_enumerate
    have q1 : ∀ {A' : Around} {E : Value → Shared → Prop} {Q : Value → Shared → Prop}, Q (.ref hp.objs.size) ⟨hp.push o, g, d, tk, os⟩ → wpAny (model prog w) A' (pyIter v) Q E ⟨hp, g, d, tk, os⟩ :=
      fun q => B.iter prog w _ _ ⟨hp, g, d, tk, os⟩ _ h1 q
    wp_walk using q1
    refine wpAny_stack_any fun st => wpAny_pure ?_
    split
    · rename_i c _ _ _ _ _
      cases (c == Value.type "enumerate") <;> (wp_walk using q1; exact ⟨_, rfl, h⟩)
    · wp_walk using q1
      exact ⟨_, rfl, h⟩
section
variable {prog : Program} {w : World} {A : Around} {E : Value → Shared → Prop} {s : Shared}
theorem enum_begins1 {v : Value} {o : Obj} {H : Heap → Prop} {Q : Value → Shared → Prop} (B : Begins v o H) (h1 : H s.heap)
    (h : ∀ h', IsEnum h' (s.heap.objs.size + 1) s.heap.objs.size 0 .none → h'.get? s.heap.objs.size = some o → (∀ b o, s.heap.get? b = some o → h'.get? b = some o) → Q (.ref (s.heap.objs.size + 1)) { s with heap := h' }) :
    wpAny (model prog w) A (call (.type "enumerate") [v]) Q E s := by
  refine callType_new F.called_enumerate (by decide) (F.typeCall_enumerate_1 _) (F.newCall_enumerate_1 _) (fun obj => F.args_object_init_2 obj _) F.entry_enumerate_new (meets_enum1 B) ⟨h1, ?_⟩
  have hz : (s.heap.push o).objs.size = s.heap.objs.size + 1 := Heap.size_push ..
  show _ ∧ _
  rw [hz]
  have he := Heap.get?_push_size (s.heap.push o) (o := { cls := .type "enumerate", data := .fields #[.none, .bool false, .ref s.heap.objs.size, rawInt 0, .none, .none] }) rfl
  rw [hz] at he
  exact ⟨⟨_, he, rfl⟩, h _ he (Heap.get?_push_of_some _ (Heap.get?_push_size _ B.free)) fun b o x => Heap.get?_push_of_some _ (Heap.get?_push_of_some _ x)⟩
end
def IteT (K : PySem.W.Frag) (a : Addr) : It :=
  ⟨fun i H => ∃ (xs : List V) (x : V), SqT K H a xs ∧ xs[i]? = some x, fun i H v H' => ∃ T x, v = .ref T ∧ H T = none ∧ H' = upd H T (.tup [.int (i : Nat), x]) ∧ ∀ xs, SqT K H a xs → xs[i]? = some x, fun i H => ∃ xs : List V, SqT K H a xs ∧ xs.length ≤ i⟩
theorem turn_enumT {P : Program} {w : World} {K : PySem.W.Frag} {elts : List Expr} {kk : Nat} {tpos : Pos} (a e it : Addr) :
    Turn P w K (.Tuple elts kk tpos) (IteT K a) [e, it] e (fun i h => (∃ old, IsEnum h e it ((i : Nat) : Int) old) ∧ h.IsTupleIter it a i ∧ e ≠ it ∧ e ≠ a ∧ a ≠ it) where
  mem := by simp
  obj := fun i h st b hb => by
    obtain ⟨⟨old, he⟩, ⟨o, ho, hc, hd⟩, _⟩ := st
    have e' : b = e ∨ b = it := by simpa using hb
    rcases e' with z | z
    · rw [z]; exact ⟨_, he, fun v q => nomatch q⟩
    · rw [z]; exact ⟨o, ho, fun v q => by rw [hd] at q; cases q⟩
  keep := fun i h h' st k => let ⟨⟨old, he⟩, hi, hne⟩ := st; ⟨⟨old, k e (by simp) _ he⟩, hi.at fun o q => k it (by simp) o q, hne⟩
  item := by
    intro X hP hw hK hc i pins s σ H E I hf st hg
    subst hP hw hK
    obtain ⟨⟨old, he⟩, hit, hne, hea, hai⟩ := st
    obtain ⟨xs, x, hq, hx⟩ := hg
    obtain ⟨its, rv, p, hz⟩ := I.tuple hq
    obtain ⟨u, hu, ru⟩ := rv.get hx
    have hel : e < s.heap.objs.size := Heap.lt_size he
    have hil : it < s.heap.objs.size := by obtain ⟨_, q, _⟩ := hit; exact Heap.lt_size q
    have hin : i < its.toArray.size := by
      rw [List.size_toArray]
      exact (List.getElem?_eq_some_iff.mp hu).1
    have D := Draws.tuple (prog := X.prog) (w := X.w) (A := X.A.in1) (show X.A.in1.handled = none from I.ok.hd hc) it a hai its.toArray
    refine wpAny_pyNext_enum_itemD D he ⟨hit, p⟩ hin hne (by simp [hne, hea]) fun x' h' tk hP ho hst hT hsz hk => ?_
    have ex : x' = u := by
      rw [List.getElem?_toArray, hu] at hP
      exact (Option.some.inj hP).symm
    subst ex
    refine ⟨_, rfl, wpAny_letOwnedTupleGo_enum (s := { s with heap := h', toks := tk + 1 }) ho fun h'' he' sb => ?_⟩
    have hT2 : h''.get? s.heap.objs.size = some { cls := .type "tuple", data := .seq #[.int i tk, x'] } := (sb.2 _ (Nat.ne_of_gt hel)).trans hT
    have new : ObjOk X.prog X.w (upd H s.heap.objs.size (.tup [.int (i : Nat), x])) h'' s.heap.objs.size (.tup [.int (i : Nat), x]) :=
      ⟨by show 2 ≤ sizeLine; decide, [.int i tk, x'], .cons ⟨_, rfl⟩ (.cons ru .nil), ⟨_, hT2, rfl, _, rfl⟩⟩
    have I1 : Inv X pins σ (upd H s.heap.objs.size (.tup [.int (i : Nat), x])) { s with heap := h'', toks := tk + 1 } :=
      I.turnedNew (ch := [e, it]) (fun b ob hb q => (sb.2 b (fun z => hb (by simp [z]))).trans (hk b ob (fun z => hb (by simp [z])) (fun z => hb (by simp [z])) q)) hf (Nat.le_refl _) new
    refine ⟨.ref s.heap.objs.size, _, I1, rfl, ⟨_, x, rfl, I.hok.fresh (Nat.le_refl _), rfl, fun ys hy => by rw [I.tuple_inj hy hq]; exact hx⟩, ⟨⟨x', ?_⟩, hst.1.at fun o q => (sb.2 it (Ne.symm hne)).trans q, hne, hea, hai⟩, fun b hb => ?_⟩
    · have e1 : ((i + 1 : Nat) : Int) = (i : Int) + 1 := by omega
      rw [e1]; exact he'
    · have hb' : b < s.heap.objs.size := by
        have e' : b = e ∨ b = it := by simpa using hb
        rcases e' with z | z
        · rw [z]; exact hel
        · rw [z]; exact hil
      rw [upd_ne (Nat.ne_of_lt hb')]
      exact (hf b hb).1
  done := by
    intro X hP hw hK hc i pins s σ H E I hf st hg
    subst hP hw hK
    obtain ⟨⟨old, he⟩, hit, hne, hea, hai⟩ := st
    obtain ⟨xs, hq, hx⟩ := hg
    obtain ⟨its, rv, p, hz⟩ := I.tuple hq
    obtain ⟨f0, f1, f2, f3, f4, f5⟩ := hf it (by simp)
    have hl := rv.length
    have hT : s.TypeIs (.ref e) "enumerate" := ⟨_, he, rfl⟩
    unfold pyNext
    refine wpAny_bind (wpAny_attempt (wpAny_callSpecial?_slot (name := Str.ofString "__next__") hT F.slot_enumerate_next (wpAny_call_entry F.slot_enumerate_next hT F.entry_enumerate_next ?_ (F.args_enumerate_next_1 _))))
    refine wpAny_bind (m := field (.ref e) 2) (wpAny_field he rfl (x := .ref it) rfl ?_)
    refine wpAny_bind (wpAny_nextOf_tuple_end (show X.A.in1.handled = none from I.ok.hd hc) hit p (by simp; omega) fun h' x he' hx' => ?_)
    obtain ⟨o, ho, hc'⟩ := hx'
    refine wpAny_bind (wpAny_isInstance (T := "StopIteration") (b := true) ⟨o, ho, hc'⟩ isSubtype_stop ?_)
    exact wpAny_pure ⟨rfl, I.turned (t' := s.toks) (fun b o hb q => he' b o hb q) f0 f1 f3 f4 f5⟩
  self := fun A i s Q E st h => let ⟨⟨_, he⟩, _⟩ := st; wpAny_pyIter_enum he h
def iEnumA (K : PySem.W.Frag) (ta : TA) : TI := fun σ H R => ta σ H fun vs H1 => (∃ a xs, vs = [.ref a] ∧ SqL K H1 a xs ∧ R (Ite K a) H1) ∨ ∃ a xs, vs = [.ref a] ∧ SqT K H1 a xs ∧ R (IteT K a) H1
theorem pi_enumA {X : Cx} {e : Expr} {ta : TA} {p pos tpos : Pos} {elts : List Expr} {kk : Nat} (hg : Gl X "enumerate") (hm : X.mg "enumerate" = none) (ha : PA X [e] ta) (hs : starEach [e] X.env = [(false, eval e X.env)] := by rfl) :
    PI X (.Tuple elts kk tpos) (.Call (.Name "enumerate" p) [e] [] pos) (iEnumA X.K ta) := by
  refine ⟨fun pins s σ H R I h => ?_⟩
  refine Call_ (ld_blt I hg hm boot_enumerate (PyProof.Rows.callWith_type1 (thn (ha.run pos pins s σ H _ I h) fun us s1 ⟨vs, H1, I1, r1, q1⟩ => ?_) hs rfl))
  have fp : ∀ b ∈ [s1.heap.objs.size + 1, s1.heap.objs.size], FpOk X pins H1 b := fun b hb => by
    have e' : b = s1.heap.objs.size + 1 ∨ b = s1.heap.objs.size := by simpa using hb
    have hle : s1.heap.objs.size ≤ b := by
      rcases e' with z | z
      · rw [z]; exact Nat.le_add_right _ _
      · rw [z]; exact Nat.le_refl _
    exact I1.fpOk hle (I1.hok.fresh hle)
  rcases q1 with ⟨a, xs, ex, hq, q⟩ | ⟨a, xs, ex, hq, q⟩
  · subst ex
    obtain ⟨u, rfl, ru⟩ := vals1 r1
    cases ru
    obtain ⟨its, rv, p', hz⟩ := I1.list hq
    refine enum_begins1 (begins_list a its.toArray) p'.isList fun h' he hit hk => wpAny_pyIter_enum he ?_
    exact ⟨s1.heap.objs.size + 1, [s1.heap.objs.size + 1, s1.heap.objs.size], _, _, H1, rfl, I1.kept (t' := s1.toks) hk, turn_enum a (s1.heap.objs.size + 1) s1.heap.objs.size, ⟨⟨.none, he⟩, ⟨_, hit, rfl, rfl⟩, Nat.succ_ne_self _⟩, fp, q⟩
  · subst ex
    obtain ⟨u, rfl, ru⟩ := vals1 r1
    cases ru
    obtain ⟨its, rv, p', hz⟩ := I1.tuple hq
    have p2 : s1.heap.IsTuple a its.toArray := p'
    have hal : a < s1.heap.objs.size := by obtain ⟨_, z, _⟩ := p2; exact Heap.lt_size z
    refine enum_begins1 (begins_tuple a its.toArray) p2 fun h' he hit hk => wpAny_pyIter_enum he ?_
    exact ⟨s1.heap.objs.size + 1, [s1.heap.objs.size + 1, s1.heap.objs.size], _, _, H1, rfl, I1.kept (t' := s1.toks) hk, turn_enumT a (s1.heap.objs.size + 1) s1.heap.objs.size, ⟨⟨.none, he⟩, ⟨_, hit, rfl, rfl⟩, Nat.succ_ne_self _, Nat.ne_of_gt (Nat.lt_succ_of_lt hal), Nat.ne_of_lt hal⟩, fp, q⟩
/-- (i, d) -/
def enD (ds : List D) : List D := ds.mapIdx fun i d => .tup [.int (i : Nat), d]
theorem enD_get {ds : List D} {i : Nat} {d : D} (h : ds[i]? = some d) : (enD ds)[i]? = some (.tup [.int (i : Nat), d]) := by
  unfold enD
  rw [List.getElem?_mapIdx, h]
  rfl
theorem enD_of {ds : List D} {i : Nat} {e : D} (h : (enD ds)[i]? = some e) : ∃ d, ds[i]? = some d ∧ e = .tup [.int (i : Nat), d] := by
  unfold enD at h
  rw [List.getElem?_mapIdx] at h
  obtain ⟨d, hd, rfl⟩ := Option.map_eq_some_iff.mp h
  exact ⟨d, hd, rfl⟩
theorem enD_len {ds : List D} : (enD ds).length = ds.length := by simp [enD]
def dEnumOf (x : D) (M : Mem) (Q : List D → DGd → Mem → Prop) : Prop := match x with
  | .lst ds => Q (enD ds) none M
  | .ro ds => Q (enD ds) none M
  | .tup ds => Q (enD ds) none M
  | .ref a => ∃ ds, M a = some (.lst ds) ∧ Q (enD ds) (some fun M' => M' a = some (.lst ds)) M
  | _ => False
@[reducible] def diEnum (ta : DTA) : DTI := fun σ M Q => ta σ M fun xs M1 => match xs with
  | [x] => dEnumOf x M1 Q
  | _ => False
theorem diEnum_inv {xs : List D} {M : Mem} {Q : List D → DGd → Mem → Prop} (h : match xs with
  | [x] => dEnumOf x M Q
  | _ => False) : ∃ x, xs = [x] ∧ dEnumOf x M Q := by
  split at h
  · exact ⟨_, rfl, h⟩
  · exact h.elim
section
variable {X : Cx} {g : Gr} {e : Expr} {ta : DTA} {p pos tpos : Pos} {elts : List Expr} {kk : Nat}
theorem en_step {K : PySem.W.Frag} {F S1 : Hp} {M : Mem} {H : Hp} {i : Nat} {T : Addr} {x : V} {d : D} (r : Rep K F S1 M H) (hT : H T = none) (ix : Is K S1 x d) :
    ∃ S2, Same S1 S2 ∧ Rep K F S2 M (upd H T (.tup [.int (i : Nat), x])) ∧ Is K S2 (.ref T) (.tup [.int (i : Nat), d]) := by
  have s1 : Same S1 (upd S1 T (.tup [.int (i : Nat), x])) := same_upd (r.freeS hT)
  exact ⟨_, s1, r.frozen hT, .tup (SqT.of upd_same) (.cons (.int _) (.cons (ix.mono s1) .nil))⟩
theorem di_enum (hg : Gl X "enumerate") (hm : X.mg "enumerate" = none) (ha : DA X g [e] ta) (hs : starEach [e] X.env = [(false, eval e X.env)] := by rfl) : DI X g (.Tuple elts kk tpos) (.Call (.Name "enumerate" p) [e] [] pos) (diEnum ta) := by
  refine ⟨pi_imp (pi_enumA hg hm ha.run hs) fun σ H R h => ?_⟩
  obtain ⟨S, M, sd, QD, a, q, k⟩ := h
  refine ⟨S, M, sd, _, a, q, fun ds M1 vs S1 H1 q1 e1 r1 i1 => ?_⟩
  obtain ⟨x, rfl, q1⟩ := diEnum_inv q1
  obtain ⟨v, rfl, iv⟩ := isL1 i1
  have main : ∀ {b : Addr} {vs : List V} {ds : List D}, SqL X.K S1 b vs → IsL X.K S1 vs ds → QD (enD ds) none M1 → (∃ xs, SqL X.K H1 b xs) ∧ R (Ite X.K b) H1 := fun {b vs ds} s l q =>
    ⟨⟨vs, r1.same.seq s⟩, k _ none M1 S1 H1 _ q e1 r1 fun F _ => ⟨fun i S2 M H e r _ hi => by
      rw [enD_len] at hi
      have hl := l.length
      exact ⟨vs, vs[i]'(by omega), (e.trans r.same).seq s, by simp⟩,
      fun i S2 M H e r _ hi => ⟨vs, (e.trans r.same).seq s, by rw [enD_len] at hi; rw [l.length]; exact hi⟩,
      fun i S2 M H x H' e r _ hi y => by
        obtain ⟨T, z, rfl, hT, rfl, y⟩ := y
        have hx := y vs ((e.trans r.same).seq s)
        obtain ⟨d, hd, id⟩ := l.get' hx
        obtain ⟨S3, e3, r3, i3⟩ := en_step (i := i) r hT (id.mono e)
        exact ⟨S3, _, e3, r3, enD_get hd, i3⟩⟩⟩
  cases iv with
  | lst s l =>
    obtain ⟨⟨xs, hx⟩, m⟩ := main (SqL.of s) l q1
    exact .inl ⟨_, xs, rfl, hx, m⟩
  | ro s l =>
    obtain ⟨⟨xs, hx⟩, m⟩ := main s l q1
    exact .inl ⟨_, xs, rfl, hx, m⟩
  | @tup b vs ds s l =>
    refine .inr ⟨b, vs, rfl, sqT_mono r1.same s, k _ none M1 S1 H1 _ q1 e1 r1 fun F _ => ⟨fun i S2 M H e r _ hi => ?_, fun i S2 M H e r _ hi => ?_, fun i S2 M H x H' e r _ hi y => ?_⟩⟩
    · rw [enD_len] at hi
      have hl := l.length
      exact ⟨vs, vs[i]'(by omega), sqT_mono (e.trans r.same) s, by simp⟩
    · rw [enD_len] at hi
      exact ⟨vs, sqT_mono (e.trans r.same) s, by rw [l.length]; exact hi⟩
    · obtain ⟨T, z, rfl, hT, rfl, y⟩ := y
      have hx := y vs (sqT_mono (e.trans r.same) s)
      obtain ⟨d, hd, id⟩ := l.get' hx
      obtain ⟨S3, e3, r3, i3⟩ := en_step (i := i) r hT (id.mono e)
      exact ⟨S3, _, e3, r3, enD_get hd, i3⟩
  | ref b =>
    obtain ⟨ds, hm', q⟩ := q1
    obtain ⟨_, vs, hv, l⟩ := r1.cell b _ hm'
    refine .inl ⟨b, vs, rfl, SqL.of hv, k _ _ M1 S1 H1 _ q e1 r1 fun F _ => ⟨fun i S2 M H e r c hi => ?_, fun i S2 M H e r c hi => ?_, fun i S2 M H x H' e r c hi y => ?_⟩⟩
    · rw [enD_len] at hi
      obtain ⟨_, ws, hw, l2⟩ := r.cell b _ c
      have hl := l2.length
      exact ⟨ws, ws[i]'(by omega), SqL.of hw, by simp⟩
    · rw [enD_len] at hi
      obtain ⟨_, ws, hw, l2⟩ := r.cell b _ c
      exact ⟨ws, SqL.of hw, by rw [l2.length]; exact hi⟩
    · obtain ⟨_, ws, hw, l2⟩ := r.cell b _ c
      obtain ⟨T, z, rfl, hT, rfl, y⟩ := y
      have hx := y ws (SqL.of hw)
      obtain ⟨d, hd, id⟩ := l2.get' hx
      obtain ⟨S3, e3, r3, i3⟩ := en_step (i := i) r hT id
      exact ⟨S3, _, e3, r3, enD_get hd, i3⟩
  | _ => exact q1.elim
end
end DL

/-! DIn: x in y, of ints and of trees. -/
namespace DL
open PySem PySem.Spec PyProof.Rows L2
/-- an int in ints -/
def dInI : DR2 := fun x y M Q => ∃ (i : Int) (ns : List Int), x = .int i ∧ Seq y M (ns.map .int) ∧ Q (.bl (decide (i ∈ ns))) M
def dNotInI : DR2 := fun x y M Q => ∃ (i : Int) (ns : List Int), x = .int i ∧ Seq y M (ns.map .int) ∧ Q (.bl (!decide (i ∈ ns))) M
/-- a tree in a list -/
def dInL : DR2 := fun x y M Q => ∃ n ds, LstOf y M ds ∧ Pure n x ∧ Pure (n + 1) (.lst ds) ∧ n + 1 ≤ 63 ∧ ∀ b : Bool, (b = true ↔ x ∈ ds) → Q (.bl b) M
def dNotInL : DR2 := fun x y M Q => ∃ n ds, LstOf y M ds ∧ Pure n x ∧ Pure (n + 1) (.lst ds) ∧ n + 1 ≤ 63 ∧ ∀ b : Bool, (b = true ↔ x ∈ ds) → Q (.bl (!b)) M
theorem all_flat {ns : List Int} : (ns.map V.int).all flatV = true := by
  rw [List.all_eq_true]
  intro v h
  obtain ⟨i, _, rfl⟩ := List.mem_map.mp h
  rfl
theorem inV_ints {i : Int} {ns : List Int} : inV (.int i) (ns.map V.int) = decide (i ∈ ns) := by
  rw [Bool.eq_iff_iff, decide_eq_true_eq]
  unfold inV
  rw [List.any_eq_true]
  constructor
  · rintro ⟨v, hv, e⟩
    obtain ⟨j, hj, rfl⟩ := List.mem_map.mp hv
    have e : (j == i) = true := e
    rw [← eq_of_beq e]
    exact hj
  · intro h
    exact ⟨.int i, List.mem_map_of_mem h, by show (i == i) = true; simp⟩
theorem any_eqv {n : Nat} {x : D} (hx : Pure n x) : ∀ {ds : List D}, (∀ d ∈ ds, Pure n d) → (((ds.map (pyOf n)).any fun z => PyData.eqv z (pyOf n x)) = true ↔ x ∈ ds)
  | [], _ => by simp
  | d :: ds, h => by
    have ih := any_eqv hx (ds := ds) fun e he => h e (by simp [he])
    rw [List.map_cons, List.any_cons, Bool.or_eq_true, ih, eqv_of (h d (by simp)) hx, List.mem_cons]
    exact ⟨fun z => z.imp Eq.symm id, fun z => z.imp Eq.symm id⟩
section
variable {X : Cx}
theorem dop_inI : OpR X (compareOp .In) (liftR2 X.K dInI) := by
  intro pins s σ H x y v u Q I rx ry h
  obtain ⟨F, S, M, dx, dy, QD, rep, ix, iy, ⟨i, ns, rfl, sq, hr⟩, hq⟩ := h
  cases ix
  obtain ⟨p, vs, rfl, hs, l⟩ := sq.sq rep iy
  have e := l.ints
  subst e
  refine op_in_seq pins s σ H _ _ v u Q I rx ry ⟨p, _, rfl, hs, rfl, all_flat, ?_⟩
  rw [if_neg Bool.false_ne_true, inV_ints]
  exact hq _ _ _ S H hr (Same.refl _) rep (.bl _)
theorem dop_notInI : OpR X (compareOp .NotIn) (liftR2 X.K dNotInI) := by
  intro pins s σ H x y v u Q I rx ry h
  obtain ⟨F, S, M, dx, dy, QD, rep, ix, iy, ⟨i, ns, rfl, sq, hr⟩, hq⟩ := h
  cases ix
  obtain ⟨p, vs, rfl, hs, l⟩ := sq.sq rep iy
  have e := l.ints
  subst e
  refine op_notIn_seq pins s σ H _ _ v u Q I rx ry ⟨p, _, rfl, hs, rfl, all_flat, ?_⟩
  rw [if_pos rfl, inV_ints]
  exact hq _ _ _ S H hr (Same.refl _) rep (.bl _)
theorem LstOf.dpl {F S H : Hp} {M : Mem} {n : Nat} {y : D} {v : V} {ds : List D} (h : LstOf y M ds) (rep : Rep X.K F S M H) (i : Is X.K S v y) (p : Pure (n + 1) (.lst ds)) : Dp X.K H v (.list (ds.map (pyOf n))) := Py.dp rep (h.py p) i
theorem dop_inL (hu : X.A.units + 65 < cLine) : OpR X (compareOp .In) (liftR2 X.K dInL) := by
  intro pins s σ H x y v u Q I rx ry h
  obtain ⟨F, S, M, dx, dy, QD, rep, ix, iy, ⟨n, ds, hl, px, pl, hn, hr⟩, hq⟩ := h
  refine op_inD hu pins s σ H _ _ v u Q I rx ry ⟨pyOf n dx, ds.map (pyOf n), Py.dp rep (pyOf_ok px).1 ix, hl.dpl rep iy pl, shaped_of (M := M) px (by omega), shaped_of (M := M) pl hn, hq _ _ _ S H (hr _ (any_eqv px fun d hd => pl d hd)) (Same.refl _) rep (.bl _)⟩
theorem dop_notInL (hu : X.A.units + 65 < cLine) : OpR X (compareOp .NotIn) (liftR2 X.K dNotInL) := by
  intro pins s σ H x y v u Q I rx ry h
  obtain ⟨F, S, M, dx, dy, QD, rep, ix, iy, ⟨n, ds, hl, px, pl, hn, hr⟩, hq⟩ := h
  refine op_notInD hu pins s σ H _ _ v u Q I rx ry ⟨pyOf n dx, ds.map (pyOf n), Py.dp rep (pyOf_ok px).1 ix, hl.dpl rep iy pl, shaped_of (M := M) px (by omega), shaped_of (M := M) pl hn, hq _ _ _ S H (hr _ (any_eqv px fun d hd => pl d hd)) (Same.refl _) rep (.bl _)⟩
end
end DL

/-! DHead: facts of the top as Bools of the written part; classes. -/
namespace DL
open PySem PySem.Spec PyProof.Rows L2 He
def SaysF (fa : List FaF) (fn : List He5.DefA) (K : PySem.W.Frag) : Prop := obsF fa fn K = valF fn
def obsFG (n : Nat) (fa : List FaF) (fn : List He5.DefA) (g : Addr → Option Obj) : AlD := obsF fa fn (frG g (He5.asA g n))
def hookF (n : Nat) (fa : List FaF) (fn : List He5.DefA) : PySem.W.Hook where
  α := AlD
  obs := fun s => obsFG n fa fn s.heap.get?
  val := fun _ => valF fn
  says := fun _ h => ∃ K : PySem.W.Frag, K.In h ∧ SaysF fa fn K
  of := fun _ _ e => ⟨_, frG_in, e⟩
  keeps := fun _ _ _ ⟨K, hK, c⟩ k => ⟨K, PySem.W.Frag.In.keeps hK k, c⟩
theorem obsFG_eq {n : Nat} {fa : List FaF} {fn : List He5.DefA} {g : Addr → Option Obj} {s : Shared} (h : ∀ a, g a = s.heap.get? a) : obsFG n fa fn g = (hookF n fa fn).obs s := by
  have e : g = s.heap.get? := funext h
  rw [e] <;> rfl
section
variable {fa : List FaF} {fn : List He5.DefA} {K : PySem.W.Frag}
theorem SaysF.fact (c : SaysF fa fn K) (i : Nat) {f : FaF} (h : fa[i]? = some f := by rfl) : f K = true := by
  have c1 := (ba (show ((fa.all fun f => f K) && fn.all fun d => d.ok K) = true from congrArg (fun z : AlD => z.1) c)).1
  exact List.all_eq_true.mp c1 f (List.mem_of_getElem? h)
theorem SaysF.def_ (c : SaysF fa fn K) (i : Nat) {d : He5.DefA} (h : fn[i]? = some d := by rfl) : ∃ fd, FunD K d.name d.qual d.params d.body d.scope (d.dvs K) (d.kws K) (d.at_ K) fd := by
  have c2 := (ba (show ((fa.all fun f => f K) && fn.all fun d => d.ok K) = true from congrArg (fun z : AlD => z.1) c)).2
  have e : fn.map (fun d => He5.fnA K (d.at_ K)) = fn.map He5.DefA.val := congrArg (fun z : AlD => z.2) c
  have e2 : (fn.map fun d => He5.fnA K (d.at_ K))[i]? = (fn.map He5.DefA.val)[i]? := by rw [e]
  rw [List.getElem?_map, List.getElem?_map, h] at e2
  exact He5.DefA.funD (Option.some.inj e2) (List.all_eq_true.mp c2 d (List.mem_of_getElem? h))
end
/-! ### facts -/
/-- an empty tuple stands there -/
def fTup (a : PySem.W.Frag → Addr) : FaF := fun K => match K.lookup (a K) with
  | some ⟨.type c, _, .seq its _, _⟩ => decide (c = "tuple") && its.isEmpty
  | _ => false
section
variable {K : PySem.W.Frag}
theorem fSc_ok {x : PySem.Str} (c : fSc x K = true) : SlX.SCls K (ga K x) := by
  obtain ⟨c1, c⟩ := ba c
  obtain ⟨c2, c⟩ := ba c
  obtain ⟨c3, c4⟩ := ba c
  exact ⟨c1, c2, c3, eqO_ok c4⟩
theorem fSl_ok {x f : PySem.Str} {i : Nat} (c : fSl x f i K = true) : ∃ p, SlX.Slot1 K (ga K x) f p i := by
  obtain ⟨c1, c⟩ := ba c
  obtain ⟨c2, c⟩ := ba c
  obtain ⟨c3, c⟩ := ba c
  obtain ⟨c4, c⟩ := ba c
  obtain ⟨c5, c6⟩ := ba c
  exact ⟨_, eqO_ok c1, eqO_ok c2, of_decide_eq_true c3, of_decide_eq_true c4, of_decide_eq_true c5, of_decide_eq_true c6⟩
theorem fPr_ok {x f : PySem.Str} (c : fPr x f K = true) : PropK K (ga K x) f (ma K (ga K x) f) (pAd x f K) := by
  obtain ⟨c1, c⟩ := ba c
  obtain ⟨c2, c⟩ := ba c
  obtain ⟨c3, c4⟩ := ba c
  refine ⟨eqO_ok c1, eqO_ok c2, of_decide_eq_true c3, ?_⟩
  unfold pAd He5.wf
  split at c4
  · rename_i f r e
    exact ⟨r, by rw [e]⟩
  · cases c4
theorem fTup_ok {a : PySem.W.Frag → Addr} (c : fTup a K = true) (S : Hp) : IsL K S [.ref (a K)] [.tup []] := by
  refine .cons (.tup (vs := []) ?_ .nil) .nil
  unfold fTup at c
  split at c
  · rename_i t od its n sl e
    obtain ⟨c1, c2⟩ := ba c
    have e2 : its = #[] := Array.isEmpty_iff.mp c2
    subst e2
    exact .inr ⟨_, #[], n, e, congrArg Value.type (of_decide_eq_true c1), rfl, Nat.zero_le _, .nil⟩
  · cases c
end
theorem raw0 {P : Program} {w : World} {K : PySem.W.Frag} {mg : PySem.Str → Option Value} {base : Heap} {k : Nat} {f : Addr} {fd : FuncData} {ps : List PySem.Str} {sp : Sp} (F : FnOk P w K mg base (EX P w) k f fd ps sp) (hb : Binds K fd ps []) : FnR P w K mg base (EX P w) k f sp :=
  (F.raw hb .nil).imp fun vs H Q E h => by rw [List.append_nil]; exact h
theorem dinit_len {C : Addr} {sp : DSp} {n : Nat} (h : ∀ ds M Q E, sp ds M Q E → ds.length = n) : ∀ ds M Q E, dinit C sp ds M Q E → ds.length = n + 1 := fun ds M Q E q => by
  obtain ⟨p, rest, rfl, _, q⟩ := dinit_inv q
  rw [List.length_cons, h _ _ _ _ q]
/-- a class's __init__, by its arguments -/
theorem rdI {C : Addr} {sp : DSp} {t : DTS} {N : Nat} (h : ∀ p rest M Q E, M p = some (.ins C []) → sp rest (mdel M p) (fun d M' => ∃ fs, d = .obj C fs ∧ fs ≠ [] ∧ M' p = none ∧ Q .non (mset M' p (.ins C (fs.map some)))) E → t { nx := fun _ M' => QF Q .non M', rt := QF Q } (dstart N (.ref p :: rest)) M) :
    ∀ ds M Q E, dinit C sp ds M Q E → t { nx := fun _ M' => QF Q .non M', rt := QF Q } (dstart N ds) M := fun ds M Q E q => by
  obtain ⟨p, rest, rfl, hm, q⟩ := dinit_inv q
  exact h p rest M Q E hm q
end DL

/-! DLay: lists of entries that make a layer; layers as trees. -/
namespace DL
open PySem PySem.Spec PyProof.Rows L2
theorem units65 {k : Nat} {A : Around} (r : Room k A) : A.units + 65 < cLine := by have := r.un; omega
/-- the gap between two entries -/
def gapOf (e f : Ent) : Int := f.p - e.p - (if e.old.isSome then 1 else 0)
/-- the second entry can stand next behind the first one -/
def Nxt (e f : Ent) : Prop := 0 ≤ gapOf e f ∧ gapOf e f < f.key - e.key
structure LayOk (w : Nat) (es : List Ent) : Prop where
  pos : 1 ≤ w
  sm : w ≤ 1000
  len : es.length ≤ 1000
  ent : ∀ e ∈ es, entB w (entD e) = true
  ord : ∀ i e f, es[i]? = some e → es[i + 1]? = some f → Nxt e f
theorem entD_tyN {w : Nat} {e : Ent} {M : Mem} (hw : w ≤ 1000) (h : entB w (entD e) = true) : TyN 2 M (entD e) := by
  obtain ⟨f, hf, _, h1, h2, _⟩ := of_entB h
  have := entD_inj hf
  subst this
  exact tyN_ent (fun x hx => by have := h1 x hx; omega) (fun x hx => by have := h2 x hx; omega)
theorem ok_of_entB {w : Nat} {e : Ent} (hw : 1 ≤ w) (h : entB w (entD e) = true) : e.Ok := by
  obtain ⟨f, hf, _, h1, h2, h3, _⟩ := of_entB h
  have := entD_inj hf
  subst this
  refine ⟨h3, fun r hr e => ?_, fun r hr e => ?_⟩
  · have := h1 r hr; rw [e] at this; simp at this; omega
  · have := h2 r hr; rw [e] at this; simp at this; omega
theorem LayOk.eok {w : Nat} {es : List Ent} (h : LayOk w es) {e : Ent} (he : e ∈ es) : e.Ok := ok_of_entB h.pos (h.ent e he)
def Ent.Sm (e : Ent) : Prop := (∀ r, e.old = some r → r.length ≤ 1000) ∧ ∀ r, e.new = some r → r.length ≤ 1000
theorem LayOk.small {w : Nat} {es : List Ent} (h : LayOk w es) : ∀ e ∈ es, e.Sm := fun e he => by
  obtain ⟨f, hf, _, h1, h2, _⟩ := of_entB (h.ent e he)
  have := entD_inj hf
  subst this
  have := h.sm
  exact ⟨fun r hr => by have := h1 r hr; omega, fun r hr => by have := h2 r hr; omega⟩
theorem LayOk.nil {w : Nat} (h1 : 1 ≤ w) (h2 : w ≤ 1000) : LayOk w [] := ⟨h1, h2, by simp, by simp, by simp⟩
/-! ### the entries between two tables -/
theorem asc_count {a b : Int} : ∀ {ks : List Int}, ks.Pairwise (· < ·) → (∀ k ∈ ks, a < k ∧ k < b) → a < b → (ks.length : Int) ≤ b - a - 1
  | [], _, _, h => by simp; omega
  | k :: ks, hp, hk, h => by
    have hp' := List.pairwise_cons.mp hp
    have h1 := hk k (by simp)
    have ih := asc_count (a := k) (b := b) (ks := ks) hp'.2 (fun j hj => ⟨hp'.1 j hj, (hk j (by simp [hj])).2⟩) h1.2
    simp
    omega
theorem lay_gap {w : Nat} {S T : List Row} (hS : Tab w S) {e f : Ent} (he : e ∈ lay S T) (hf : f ∈ lay S T) (h : e.key < f.key) :
    gapOf e f = (S.countP (fun r => decide (e.key < key r) && decide (key r < f.key)) : Nat) := by
  obtain ⟨a, ha⟩ := mem_lay.mp he
  obtain ⟨c, hc⟩ := mem_lay.mp hf
  obtain ⟨a1, a2, a3, _⟩ := diff_key ha
  obtain ⟨c1, c2, _⟩ := diff_key hc
  have hr := rank_between (S := S) h
  rw [hS.cntKey] at hr
  unfold gapOf
  rw [a2, c2, a3, ← a1, ← c1]
  rw [a1] at hr ⊢
  rw [hr]
  split <;> omega
theorem lay_nxt {w : Nat} {S T : List Row} (hS : Tab w S) {e f : Ent} (he : e ∈ lay S T) (hf : f ∈ lay S T) (h : e.key < f.key) : Nxt e f := by
  unfold Nxt
  rw [lay_gap hS he hf h]
  refine ⟨Int.natCast_nonneg _, ?_⟩
  have hk : ((S.map key).filter fun k => decide (e.key < k) && decide (k < f.key)).Pairwise (· < ·) := hS.keys.filter _
  have hc := asc_count hk (a := e.key) (b := f.key) (fun k hk => by
    have := (List.mem_filter.mp hk).2
    simpa using this) h
  rw [← List.countP_eq_length_filter, List.countP_map] at hc
  have e1 : ((fun k => decide (e.key < k) && decide (k < f.key)) ∘ key) = fun r => decide (e.key < key r) && decide (key r < f.key) := rfl
  rw [e1] at hc
  omega
theorem lay_ent {w : Nat} {S T : List Row} (hS : Tab w S) (hT : Tab w T) {e : Ent} (he : e ∈ lay S T) : entB w (entD e) = true := by
  obtain ⟨k, hk⟩ := mem_lay.mp he
  obtain ⟨h1, h2, h3, h4, h5⟩ := diff_key hk
  refine entB_ent (by rw [h2]; omega) (fun x hx => ?_) (fun x hx => ?_) (lay_ok hS hT he).any (fun x y hx hy => ?_)
  · rw [h3] at hx; rw [hS.wid x (find_some hx).1]
  · rw [h4] at hx; rw [hT.wid x (find_some hx).1]
  · rw [h3] at hx
    rw [h4] at hy
    refine ⟨by rw [(find_some hx).2, (find_some hy).2], fun z => h5 ?_⟩
    rw [hx, hy, z]
/-- any part of the entries between two tables makes a layer -/
theorem sub_layOk {w : Nat} {S T : List Row} {es : List Ent} (hS : Tab w S) (hT : Tab w T) (hw : w ≤ 1000) (hl : es.length ≤ 1000) (h : es.Sublist (lay S T)) : LayOk w es := by
  refine ⟨hS.pos, hw, hl, fun e he => lay_ent hS hT (h.subset he), fun i e f he hf => ?_⟩
  have hp : (es.map Ent.key).Pairwise (· < ·) := (lay_asc S T).sublist (h.map _)
  have hlt : e.key < f.key := by
    obtain ⟨hi, rfl⟩ := List.getElem?_eq_some_iff.mp he
    obtain ⟨hj, rfl⟩ := List.getElem?_eq_some_iff.mp hf
    exact List.pairwise_iff_getElem.mp (List.pairwise_map.mp hp) i (i + 1) hi hj (by omega)
  exact lay_nxt hS (h.subset (List.mem_of_getElem? he)) (h.subset (List.mem_of_getElem? hf)) hlt
theorem adj_pairwise {α : Type} {r : α → α → Prop} (tr : ∀ a b c, r a b → r b c → r a c) : ∀ {l : List α}, (∀ i a b, l[i]? = some a → l[i + 1]? = some b → r a b) → l.Pairwise r
  | [], _ => .nil
  | a :: l, h => by
    have ih := adj_pairwise tr (l := l) fun i x y hx hy => h (i + 1) x y (by simpa using hx) (by simpa using hy)
    refine List.pairwise_cons.mpr ⟨fun b hb => ?_, ih⟩
    cases l with
    | nil => cases hb
    | cons c l =>
      have hac : r a c := h 0 a c rfl rfl
      rcases List.mem_cons.mp hb with e | e
      · rw [e]; exact hac
      · exact tr a c b hac ((List.pairwise_cons.mp ih).1 b e)
theorem LayOk.asc {w : Nat} {es : List Ent} (h : LayOk w es) : es.Pairwise fun e f => e.key < f.key :=
  adj_pairwise (r := fun e f : Ent => e.key < f.key) (fun _ _ _ => Int.lt_trans) fun i e f he hf => by have := h.ord i e f he hf; unfold Nxt at this; omega
/-- the entries with lesser keys stand ahead -/
theorem take_lt {k : Int} : ∀ {es : List Ent}, es.Pairwise (fun e f => e.key < f.key) → es.take ((es.map Ent.key).countP (· < k)) = es.filter fun e => decide (e.key < k)
  | [], _ => rfl
  | e :: es, h => by
    have h' := List.pairwise_cons.mp h
    rw [List.map_cons, List.countP_cons, List.filter_cons]
    by_cases hk : e.key < k
    · rw [if_pos (by simpa using hk), if_pos (by simpa using hk), List.take_succ_cons, take_lt h'.2]
    · rw [if_neg (by simpa using hk), if_neg (by simpa using hk), Nat.add_zero]
      have z : (es.map Ent.key).countP (· < k) = 0 := by
        rw [List.countP_eq_zero]
        intro j hj
        obtain ⟨f, hf, rfl⟩ := List.mem_map.mp hj
        have := h'.1 f hf
        simp; omega
      have z2 : (es.filter fun e => decide (e.key < k)) = [] := by
        rw [List.filter_eq_nil_iff]
        intro f hf
        have := h'.1 f hf
        simp; omega
      rw [z, z2, List.take_zero]
theorem key_le_of_lt {es : List Ent} (h : es.Pairwise fun e f => e.key < f.key) : (es.map Ent.key).Pairwise (· ≤ ·) := by
  rw [List.pairwise_map]
  exact h.imp fun h => Int.le_of_lt h
/-- the entry with the key stands where the lesser ones end -/
theorem at_key {k : Int} : ∀ {es : List Ent}, es.Pairwise (fun e f => e.key < f.key) → (es.filter fun e => decide (e.key = k)).head? = (es[(es.map Ent.key).countP (· < k)]?).filter fun e => decide (e.key = k)
  | [], _ => rfl
  | e :: es, h => by
    have h' := List.pairwise_cons.mp h
    have c : ((e :: es).map Ent.key).countP (· < k) = (es.map Ent.key).countP (· < k) + if e.key < k then 1 else 0 := by
      rw [List.map_cons, List.countP_cons]
      simp
    by_cases hk : e.key < k
    · rw [if_pos hk] at c
      rw [c, List.getElem?_cons_succ, List.filter_cons, if_neg (by simp; omega)]
      exact at_key h'.2
    · have z : (es.map Ent.key).countP (· < k) = 0 := by
        rw [List.countP_eq_zero]
        intro j hj
        obtain ⟨f, hf, rfl⟩ := List.mem_map.mp hj
        have := h'.1 f hf
        simp; omega
      rw [if_neg hk, z] at c
      rw [c, List.filter_cons]
      show _ = (some e).filter _
      by_cases he : e.key = k
      · rw [if_pos (by simpa using he)]
        simp [Option.filter, he]
      · have z2 : (es.filter fun e => decide (e.key = k)) = [] := by
          rw [List.filter_eq_nil_iff]
          intro f hf
          have := h'.1 f hf
          simp; omega
        rw [if_neg (by simpa using he), z2]
        simp [Option.filter, he]
theorem cutD_take {ds : List D} {n : Nat} : cutD ds none (some (n : Int)) = ds.take n := by
  unfold cutD
  rw [HT.sIx_none, HT.sIx_nat, List.drop_zero, Nat.sub_zero]
  by_cases h : n ≤ ds.length
  · rw [Nat.min_eq_left h]
  · rw [Nat.min_eq_right (by omega), List.take_length, List.take_of_length_le (by omega)]
theorem sl_take {ds : List D} {n : Nat} {M : Mem} {Q : DK} (q : Q (.lst (ds.take n)) M) : dSl (.lst ds) none (some (n : Int)) M Q := by
  show Q (.lst (cutD ds none (some (n : Int)))) M
  rw [cutD_take]
  exact q
def optEnt : Option Ent → D
  | none => .non
  | some e => entD e
/-! ### a walk over a list of any kind by enumerate -/
theorem Seq.more {x : D} {M : Mem} {p : Addr} {o : CO} {ds : List D} (h : Seq x M ds) (hp : M p = none) : Seq x (DL.mset M p o) ds := by
  rcases h with h | h | h | ⟨a, rfl, hm⟩
  · exact .inl h
  · exact .inr (.inl h)
  · exact .inr (.inr (.inl h))
  · exact .inr (.inr (.inr ⟨a, rfl, by rw [mset_ne (mne hm hp)]; exact hm⟩))
theorem for_enum {x : D} {M : Mem} {ds : List D} {gt : DTG} {tb : DTS} {E : DEnds} {σ : DSt} (h : Seq x M ds) (Pv : Nat → DSt → Mem → Prop) (keep : ∀ i σ M', Pv i σ M' → Seq x M' ds) (t : dTurns gt tb E (enD ds) σ M Pv) :
    dEnumOf x M fun ds C M1 => match C with
      | none => ∃ Pv : Nat → DSt → Mem → Prop, dTurns gt tb E ds σ M1 Pv
      | some c => ∃ Pv : Nat → DSt → Mem → Prop, (∀ i σ M, Pv i σ M → c M) ∧ dTurns gt tb E ds σ M1 Pv := by
  rcases h with rfl | rfl | rfl | ⟨a, rfl, hm⟩
  · exact ⟨Pv, t⟩
  · exact ⟨Pv, t⟩
  · exact ⟨Pv, t⟩
  · refine ⟨ds, hm, Pv, fun i σ M' p => ?_, t⟩
    rcases keep i σ M' p with e | e | e | ⟨b, e, hb⟩
    · cases e
    · cases e
    · cases e
    · cases e; exact hb
theorem atI_last {ds : List D} {d : D} : atI (ds ++ [d]) (-1) = some d := by
  unfold atI ixN
  rw [if_neg (by decide), if_pos (by simp; omega)]
  show (ds ++ [d])[(((ds ++ [d]).length : Int) + -1).toNat]? = some d
  have e : (((ds ++ [d]).length : Int) + -1).toNat = ds.length := by simp; omega
  rw [e]
  simp
/-! ### layers -/
def keysD (es : List Ent) : List D := es.map fun e => .int e.key
/-- a layer as a tree -/
def layD [Cl] (w : Nat) (es : List Ent) : D := .obj (cA "Layer") [.lst (es.map entD), .lst (keysD es), .int w]
end DL

/-! DTru: bool(o) by an own __len__; isinstance(o, C). -/
namespace PySem.W
open PySem PySem.Spec
section
variable {prog : Program} {w : World} {A : Around} {E : Value → Shared → Prop} {s : Shared} {K : Frag} {x C : Addr} {f : Value} {ox : Obj} {odd : Option Obj}
theorem dl_type_bool : isType (.type "bool") = pure true := by first | rfl | kernel_rfl | (unfold isType; rw [isSubtype_type]; kernel_rfl)
/-- the truth of an instance with an own __len__ and no __bool__ -/
theorem dl_truthy {Q : Bool → Shared → Prop} (X : K.In s.heap) (I : InstAt s.heap x ox C odd) (hb : findIn K (.ref C) "__bool__" = some none) (hl : findIn K (.ref C) "__len__" = some (some f))
    (h : wpAny (model prog w) A.in1 (Builtin.«len» ⟨[.ref x], []⟩) (fun fin s₁ => ∃ n u, fin = .done (.ret (.int n u)) ∧ Q (n != 0) s₁) E s) : wpAny (model prog w) A (truthy (.ref x)) Q E s := by
  unfold truthy
  refine wpAny_bind (m := callSpecial? (.ref x) (Str.ofString "__bool__")) (wpAny_bind (wpAny_bind (I.type.here ((looks_findIn X hb).here (wpAny_pure ?_)))))
  refine wpAny_bind (wpAny_bind (I.type.here ((looks_findIn X hl).here ?_)))
  show wpAny _ _ (if (some f).isNone = true then _ else _) _ _ _
  rw [if_neg (by simp)]
  refine wpAny_bind (wpAny_mono (wpAny_runValue (Q := fun r s₁ => ∃ n u, r = Value.int n u ∧ Q (n != 0) s₁) (codeAny_builtin entry_len ?_)) (fun r s₁ z => ?_) fun _ _ z => z)
  · rw [Around.under_plainId plain_len _]
    exact wpAny_mono h (fun fin s' h' => by obtain ⟨n, u, rfl, hq⟩ := h'; exact ⟨n, u, rfl, hq⟩) fun _ _ e => e
  · obtain ⟨n, u, rfl, hq⟩ := z
    exact wpAny_pure hq
theorem dl_bool {Q : Value → Shared → Prop} (X : K.In s.heap) (I : InstAt s.heap x ox C odd) (hb : findIn K (.ref C) "__bool__" = some none) (hl : findIn K (.ref C) "__len__" = some (some f))
    (h : wpAny (model prog w) A.in1.in1.in1 (Builtin.«len» ⟨[.ref x], []⟩) (fun fin s₁ => ∃ n u, fin = .done (.ret (.int n u)) ∧ Q (.bool (n != 0)) s₁) E s) : wpAny (model prog w) A (call (.type "bool") [.ref x]) Q E s := by
  refine callType_codes (T := "bool") (Bi := Builtin.«object.__init__») (Q₁ := fun r s₁ => ∃ b, r = Value.bool b ∧ Q r s₁) PySem.F.called_bool (PySem.F.typeCall_bool_1 _) PySem.F.entry_object_init ?_ ?_
  · refine codeAny_of_tree ?_
    show wpAny _ A.in1.in1 (do checkBuiltinCall "bool.__new__" ⟨[.type "bool", .ref x], []⟩; again (.builtin "bool.__new__" ⟨[.type "bool", .ref x], []⟩)) _ _ s
    refine wpAny_bind (wpAny_of_eq (PySem.F.newCall_bool_1 _) (wpAny_pure ⟨plainId_quiet (by decide +kernel) _, codeAny_builtin PySem.F.entry_bool_new ?_⟩))
    rw [Around.under_plainId (by decide +kernel) _]
    unfold Builtin.«bool.__new__»
    refine wpAny_bind (wpAny_of_eq (a := true) dl_type_bool ?_)
    refine KFB.if_not rfl ?_
    refine wpAny_bind (wpAny_of_eq (a := true) PySem.F.conv_sub_bool ?_)
    refine KFB.if_not rfl ?_
    refine wpAny_bind (wpAny_of_eq (a := [Value.ref x]) (by first | rfl | kernel_rfl) ?_)
    refine wpAny_bind (dl_truthy (Q := fun b s₁ => Q (.bool b) s₁) X I hb hl (wpAny_mono h (fun fin s₁ hr => hr) fun _ _ y => y) |> fun z => wpAny_mono z (fun b s₁ hq => ?_) fun _ _ y => y)
    exact wpAny_pure ⟨b, rfl, hq⟩
  · rintro obj s₁ ⟨b, rfl, hq⟩
    exact ⟨rfl, PySem.F.args_object_init_2 _ _, object_init_meets PySem.F.called_bool.init.lookup PySem.F.called_bool.made (by decide) prog w A.in1 _ s₁ ⟨rfl, rfl, hq⟩⟩
end
end PySem.W
namespace DL
open PySem PySem.Spec PyProof.Rows L2
section
variable {X : Cx} {pins : List (Addr × Obj)} {σ : L2.St} {H : Hp} {s : Shared} {k : Nat} {a C dx gf : Addr} {sl : List (Option V)} {sp : Sp} {A : Around}
theorem len_sltB {Q : Value → Shared → Prop} {E : Value → Shared → Prop} (sb : Sub X k A) (hs : PySem.W.findIn X.K (.ref C) "__len__" = some (some (.ref gf))) (hf : PySem.W.isFn X.K (.ref gf) = true) (F : FnR X.prog X.w X.K X.mg X.base (EX X.prog X.w) k gf sp) (I : Inv X pins σ H s) (hsl : SlX.Slt H a C dx sl)
    (h : sp [.ref a] H (fun v H' => ∃ i : Int, v = .int i ∧ 0 ≤ i ∧ i < 2 ^ 63 ∧ ∀ u s', Inv X pins σ H' s' → RelV (.int i) u → Q u s') noE) : wpAny (model X.prog X.w) A (Builtin.«len» ⟨[.ref a], []⟩) (fun fin s₁ => ∃ n u, fin = .done (.ret (.int n u)) ∧ Q (.int n u) s₁) E s := by
  obtain ⟨sl', od, _, J, _⟩ := SlX.slt_inst I hsl
  unfold Builtin.«len»
  refine wpAny_bind (m := oneArg "len" _) (wpAny_pure ?_)
  refine wpAny_bind (m := callSpecial? (.ref a) (Str.ofString "__len__")) (PySem.W.special_fn I.kIn J hs (beq_iff_eq.mp hf) (wpAny_mono (run_no (us := [.ref a]) (ws := [.ref a]) F sb I (.cons rfl .nil) h) (fun r s' hr => ?_) fun _ _ y => y))
  obtain ⟨v, H', I', rv, i, rfl, h0, h1, hq⟩ := hr
  obtain ⟨t, rfl⟩ := rv
  refine wpAny_bind (wpAny_holding (wpAny_pure ?_))
  refine wpAny_bind (wpAny_letGo ?_)
  show wpAny _ _ (if i < 0 then _ else _) _ _ _
  rw [if_neg (by omega)]
  show wpAny _ _ (if i ≥ 2 ^ 63 then _ else _) _ _ _
  rw [if_neg (by omega)]
  exact wpAny_bind (wpAny_mkInt (wpAny_pure ⟨_, _, rfl, hq _ _ (I'.tok _) ⟨_, rfl⟩⟩))
end
def dBoolO [Cl] (n : PySem.Str) (sp : DSp) : DR1 := fun x M Q => InsOf x M (cA n) ∧ sp [x] M (fun d M' => ∃ i : Int, d = .int i ∧ 0 ≤ i ∧ i < 2 ^ 63 ∧ Q (.bl (i != 0)) M') fun _ _ _ => False
def dIsC [Cl] (n : PySem.Str) (te : DTE) : DTE := fun σ M Q => te σ M fun x M1 => InsOf x M1 (cA n) ∧ Q (.bl true) M1
section
variable {X : Cx} {g : Gr} {k j : Nat} {sp : DSp} {p p2 pos : Pos} {e : Expr} {te : DTE} [Cl] {n : PySem.Str}
theorem dcall_boolO (hb : PySem.W.findIn X.K (.ref (cA n)) "__bool__" = some none) (d : DSpc X.prog X.w X.K X.mg X.base k (cA n) "__len__" sp) (hr : Room j X.A) (hk : k + 3 ≤ j) : CallR X (.type "bool") (liftRL X.K (r1 (dBoolO n sp))) := by
  obtain ⟨gf, hs, hf, F⟩ := d.ex
  intro pins s σ H xs us Q I rx hh
  obtain ⟨Fh, S, M, ds, QD, rep, ix, hr', hq⟩ := hh
  obtain ⟨x, rfl, hi, h⟩ := r1_inv hr'
  obtain ⟨v, rfl, iv⟩ := isL1 ix
  obtain ⟨b, dxx, vs, rfl, hsl⟩ := hi.at rep iv
  obtain ⟨u, rfl, ru⟩ := vals1 rx
  cases ru
  have sb : Sub X k X.A.in1.in1.in1 := Sub.in1 (Sub.in1 (Sub.in1 (⟨hr.mono hk, rfl⟩ : Sub X (k + 3) X.A)))
  obtain ⟨sl', od, _, J, _⟩ := SlX.slt_inst I hsl
  refine PySem.W.dl_bool I.kIn J hb hs ?_
  refine wpAny_mono (len_sltB (Q := fun r s₁ => ∃ n t, r = Value.int n t ∧ ∃ H', Inv X pins σ H' s₁ ∧ Q (.bl (n != 0)) H') sb hs hf F I hsl (lift_no rep (.cons iv .nil) h fun d M' v S' H' q' e' r' i' => ?_)) (fun fin s₁ z => ?_) fun _ _ y => y
  · obtain ⟨i, rfl, h0, h1, q'⟩ := q'
    cases i'
    refine ⟨i, rfl, h0, h1, fun u s' I' ru => ?_⟩
    obtain ⟨t, rfl⟩ := ru
    exact ⟨i, t, rfl, H', I', hq _ _ _ _ _ q' e' r' (.bl _)⟩
  · obtain ⟨m, t, rfl, m', t', e', H', I', q⟩ := z
    cases e'
    exact ⟨m, t, rfl, .bl (m != 0), H', I', rfl, q⟩
theorem de_isC (hc : SlX.SCls X.K (cA n)) (hi : SlX.SIsi X.K (cA n)) (hg : Gl X "isinstance") (hm : X.mg "isinstance" = none) (hgn : Gl X n) (hmn : X.mg n = some (.ref (cA n))) (hk : PySem.W.kitOne X.K (.ref (cA n)) (.ref (cA n)) = some true) (he : DE X g e te) (hdn : (n == ("__debug__" : PySem.Str)) = false := by decide)
    (hse : starEach [e, .Name n p2] X.env = (false, eval e X.env) :: starEach [.Name n p2] X.env := by rfl) (hse2 : starEach [.Name n p2] X.env = (false, eval (.Name n p2) X.env) :: starEach [] X.env := by rfl) (hpl : (backTo pos (starEach [.Name n p2] X.env)).any (·.1) = false := by rfl) :
    DE X g (.Call (.Name "isinstance" p) [e, .Name n p2] [] pos) (dIsC n te) := by
  refine ⟨pe_imp (pe_callB (SlX.call_isiSl (.ref (cA n))) hg hm (by decide +kernel) (pa_cons he.run (pa_cons (pe_glob (v := .ref (cA n)) hgn hmn rfl hdn) pa_nil hse2) hse) (by decide) (by decide) hse hpl) fun σ H Q h => ?_⟩
  obtain ⟨S, M, sd, QD, a, q, kk⟩ := h
  refine ⟨S, M, sd, _, a, q, fun d1 M1 v1 S1 H1 q1 e1 r1 i1 => ?_⟩
  obtain ⟨hi1, q1⟩ := q1
  obtain ⟨b, dxx, vs, rfl, hsl⟩ := hi1.at r1 i1
  exact ⟨b, cA n, dxx, vs, .ref (cA n), true, rfl, rfl, fun w rw => rw, hsl, hc, hi, hk, kk _ _ _ _ _ q1 e1 r1 (.bl _)⟩
end
/-! ### own == -/
def dEqO [Cl] (n : PySem.Str) (sp : DSp) : DR2 := fun x y M Q => InsOf x M (cA n) ∧ InsOf y M (cA n) ∧ sp [x, y] M Q fun _ _ _ => False
section
variable {X : Cx} {k j : Nat} {sp : DSp} [Cl] {n : PySem.Str}
theorem dop_eqO {op : CmpOp} (hn : PySem.W.notFirst X.K (cA n) (.ref (cA n)) = true) (d : DSpc X.prog X.w X.K X.mg X.base k (cA n) (PySem.cmpInfo op).2.1 sp) (hr : Room j X.A) (hk : k ≤ j) (hop : ∀ a b, compareOp op a b = richCompare op a b := by intro _ _; rfl) : OpR X (compareOp op) (liftR2 X.K (dEqO n sp)) := by
  obtain ⟨gf, hs, hf, F⟩ := d.ex
  intro pins s σ H x y v u Q I rx ry h
  obtain ⟨Fh, S, M, dx, dy, QD, rep, ix, iy, ⟨hi, hi2, hr'⟩, hq⟩ := h
  obtain ⟨b, dxx, vs, rfl, hsl⟩ := hi.at rep ix
  obtain ⟨b2, dxx2, vs2, rfl, hsl2⟩ := hi2.at rep iy
  exact SlX.op_own hop hs hf F (hr.mono hk) passes_noE pins s σ H _ _ v u Q I rx ry ⟨b, dxx, vs, b2, _, dxx2, vs2, rfl, rfl, hsl, hsl2, hn, lift_no rep (.cons ix (.cons iy .nil)) hr' fun d M' v S' H' q' e' r' i' => hq _ _ _ _ _ q' e' r' i'⟩
end
/-! ### a walk over a list of any kind -/
theorem for_seq {x : D} {M : Mem} {ds : List D} {gt : DTG} {tb : DTS} {E : DEnds} {σ : DSt} (h : Seq x M ds) (Pv : Nat → DSt → Mem → Prop) (keep : ∀ i σ M', Pv i σ M' → Seq x M' ds) (t : dTurns gt tb E ds σ M Pv) :
    dSeqOf x M fun ds C M1 => match C with
      | none => ∃ Pv : Nat → DSt → Mem → Prop, dTurns gt tb E ds σ M1 Pv
      | some c => ∃ Pv : Nat → DSt → Mem → Prop, (∀ i σ M, Pv i σ M → c M) ∧ dTurns gt tb E ds σ M1 Pv := by
  rcases h with rfl | rfl | rfl | ⟨a, rfl, hm⟩
  · exact ⟨Pv, t⟩
  · exact ⟨Pv, t⟩
  · exact ⟨Pv, t⟩
  · refine ⟨ds, hm, Pv, fun i σ M' p => ?_, t⟩
    rcases keep i σ M' p with e | e | e | ⟨b, e, hb⟩
    · cases e
    · cases e
    · cases e
    · cases e; exact hb
theorem fm_congr {α β : Type} {f g : α → Option β} : ∀ {l : List α}, (∀ a ∈ l, f a = g a) → l.filterMap f = l.filterMap g
  | [], _ => rfl
  | a :: l, h => by
    have ih := fm_congr (l := l) fun b hb => h b (by simp [hb])
    have h0 := h a (by simp)
    cases e : g a with
    | none => rw [List.filterMap_cons_none (h0.trans e), List.filterMap_cons_none e, ih]
    | some b => rw [List.filterMap_cons_some (h0.trans e), List.filterMap_cons_some e, ih]
/-! ### lengths -/
theorem filterMap_len {α β : Type} {f : α → Option β} {l : List α} : (l.filterMap f).length ≤ l.length := by
  induction l with
  | nil => simp
  | cons a l ih =>
    cases h : f a with
    | none => rw [List.filterMap_cons_none h]; simp; omega
    | some b => rw [List.filterMap_cons_some h]; simp; omega
theorem insU_len {k : Int} : ∀ {l : List Int}, (insU k l).length ≤ l.length + 1
  | [] => by simp [insU]
  | x :: r => by
    unfold insU
    have := insU_len (k := k) (l := r)
    split
    · simp
    · split
      · simp
      · simp; omega
theorem ascOf_len : ∀ {ks : List Int}, (ascOf ks).length ≤ ks.length
  | [] => by simp [ascOf]
  | k :: ks => by
    have h1 := insU_len (k := k) (l := ascOf ks)
    have h2 := ascOf_len (ks := ks)
    show (insU k (ascOf ks)).length ≤ _
    simp
    omega
theorem keysOf_len {S T : List Row} : (keysOf S T).length ≤ S.length + T.length := by
  unfold keysOf
  exact Nat.le_trans ascOf_len (by simp)
theorem lay_len {S T : List Row} : (lay S T).length ≤ S.length + T.length := Nat.le_trans filterMap_len keysOf_len
/-! ### the facts -/
open He in
def fIs (x : PySem.Str) : FaF := fun K => eqO (PySem.W.findIn K (.ref (ga K x)) "__class__") (some (some (.builtin "object.__class__"))) && (eqO (PySem.W.specialIn K (.builtin "object.__class__") "__get__") (some (some (.builtin "getset_descriptor.__get__"))) &&
  (decide (PySem.W.takesIn K (.builtin "object.__class__") = some true) && decide (PySem.W.mroIn K (ga K x) (.type "object") = some true)))
open He in
theorem fIs_ok {K : PySem.W.Frag} {x : PySem.Str} (c : fIs x K = true) : SlX.SIsi K (ga K x) := by
  obtain ⟨c1, c⟩ := ba c
  obtain ⟨c2, c⟩ := ba c
  obtain ⟨c3, c4⟩ := ba c
  exact ⟨eqO_ok c1, eqO_ok c2, of_decide_eq_true c3, of_decide_eq_true c4⟩
def fNf (x : PySem.Str) : FaF := fun K => PySem.W.notFirst K (He.ga K x) (.ref (He.ga K x))
theorem kit_self {K : PySem.W.Frag} {C : Addr} : PySem.W.kitOne K (.ref C) (.ref C) = some true := by
  unfold PySem.W.kitOne
  rw [if_pos (by simp)]
end DL

/-! DDict: dict comprehensions, get, in, d[k]; a starred list in a display. -/
namespace DL
open PySem PySem.Spec PyProof.Rows L2
def keyD : Key → D
  | .inl i => .int i
  | .inr s => .str s
def kGet (kvs : List (Key × D)) (k : Key) : Option D := (kvs.find? fun kv => decide (kv.1 = k)).map (·.2)
def kPut (kvs : List (Key × D)) (k : Key) (v : D) : List (Key × D) :=
  if (kvs.any fun kv => decide (kv.1 = k)) = true then kvs.map (fun kv => if kv.1 = k then (kv.1, v) else kv) else kvs ++ [(k, v)]
theorem kPut_new {kvs : List (Key × D)} {k : Key} {v : D} (h : ∀ kv ∈ kvs, kv.1 ≠ k) : kPut kvs k v = kvs ++ [(k, v)] := by
  unfold kPut
  rw [if_neg]
  intro z
  obtain ⟨kv, hm, e⟩ := List.any_eq_true.mp z
  exact h kv hm (of_decide_eq_true e)
section
variable {K : PySem.W.Frag} {F S H : Hp} {M : Mem} {p : Addr}
theorem isKV_any {k : Key} : ∀ {ws : List (Key × V)} {kvs : List (Key × D)}, IsKV K S ws kvs → (ws.any fun kv => decide (kv.1 = k)) = kvs.any fun kv => decide (kv.1 = k)
  | _, _, .nil => rfl
  | _, _, .cons h t => by rw [List.any_cons, List.any_cons, h.1, isKV_any t]
theorem isKV_map {k : Key} {v : V} {d : D} (hv : Is K S v d) : ∀ {ws : List (Key × V)} {kvs : List (Key × D)}, IsKV K S ws kvs → IsKV K S (ws.map fun kv => if kv.1 = k then (kv.1, v) else kv) (kvs.map fun kv => if kv.1 = k then (kv.1, d) else kv)
  | _, _, .nil => .nil
  | (k1, v1) :: _, (k2, d2) :: _, .cons h t => by
    have e : k1 = k2 := h.1
    subst e
    rw [List.map_cons, List.map_cons]
    refine .cons ?_ (isKV_map hv t)
    by_cases z : k1 = k
    · rw [if_pos z, if_pos z]; exact ⟨rfl, hv⟩
    · rw [if_neg z, if_neg z]; exact h
theorem isKV_snoc {k : Key} {v : V} {d : D} (hv : Is K S v d) : ∀ {ws : List (Key × V)} {kvs : List (Key × D)}, IsKV K S ws kvs → IsKV K S (ws ++ [(k, v)]) (kvs ++ [(k, d)])
  | _, _, .nil => .cons ⟨rfl, hv⟩ .nil
  | _, _, .cons h t => .cons h (isKV_snoc hv t)
theorem isKV_put {k : Key} {v : V} {d : D} {ws : List (Key × V)} {kvs : List (Key × D)} (h : IsKV K S ws kvs) (hv : Is K S v d) : IsKV K S (putK ws k v) (kPut kvs k d) := by
  unfold putK kPut
  rw [isKV_any h]
  split
  · exact isKV_map hv h
  · exact isKV_snoc hv h
theorem isKV_mono {S' : Hp} {ws : List (Key × V)} {kvs : List (Key × D)} (h : IsKV K S ws kvs) (e : Same S S') : IsKV K S' ws kvs := Paired.mapP h fun a b z => ⟨z.1, z.2.mono e⟩
theorem isKV_get {k : Key} : ∀ {ws : List (Key × V)} {kvs : List (Key × D)}, IsKV K S ws kvs → (valV ws k = none ∧ kGet kvs k = none) ∨ ∃ v d, valV ws k = some v ∧ kGet kvs k = some d ∧ Is K S v d
  | _, _, .nil => .inl ⟨rfl, rfl⟩
  | (k1, v1) :: ws, (k2, d2) :: kvs, .cons h t => by
    have e : k1 = k2 := h.1
    subst e
    unfold valV kGet
    rw [List.find?_cons, List.find?_cons]
    by_cases z : k1 = k
    · rw [show decide (k1 = k) = true from decide_eq_true z]
      exact .inr ⟨v1, d2, rfl, rfl, h.2⟩
    · rw [show decide (k1 = k) = false from decide_eq_false z]
      exact isKV_get t
theorem isKV_len : ∀ {ws : List (Key × V)} {kvs : List (Key × D)}, IsKV K S ws kvs → ws.length = kvs.length
  | _, _, .nil => rfl
  | _, _, .cons _ t => by rw [List.length_cons, List.length_cons, isKV_len t]
theorem noX_dK {ws : List (Key × V)} : NoX (.dK ws) := ⟨(fun _ z => nomatch z), (fun z => nomatch z)⟩
theorem Rep.uncellD {ws : List (Key × V)} {kvs : List (Key × D)} (r : Rep K (upd F p (.dK ws)) S M H) (hF : F p = none) (l : IsKV K S ws kvs) : Rep K F S (mset M p (.dK kvs)) H ∧ M p = none := by
  obtain ⟨h1, h2, h3⟩ := r.hid p _ upd_same
  refine ⟨⟨r.same, fun a co q => ?_, fun a v q => ?_, r.sown, r.unfl hF⟩, h2⟩
  · by_cases hb : a = p
    · subst hb; rw [mset_same] at q; cases q; exact ⟨h1, ws, h3, l⟩
    · rw [mset_ne hb] at q; exact r.cell a co q
  · have hne : a ≠ p := ne_of_none q hF
    obtain ⟨g1, g2, g3⟩ := r.hid a v (by rw [upd_ne hne]; exact q)
    exact ⟨g1, by rw [mset_ne hne]; exact g2, g3⟩
theorem is_key {v : V} {k : Key} (i : Is K S v (keyD k)) : v = kV k := by
  cases k with
  | inl i => cases i; rfl
  | inr s => cases i; rfl
theorem kPut_len {kvs : List (Key × D)} {k : Key} {v : D} : (kPut kvs k v).length ≤ kvs.length + 1 := by
  unfold kPut
  split
  · rw [List.length_map]; omega
  · rw [List.length_append]; exact Nat.le_refl _
end
@[reducible] def dGoesD (tg : Tg) (tt : DTT) (tk tv : DTE) (vs : List Nat) (Q : List (Key × D) → Mem → Prop) (ds : List D) (σ : DSt) (M1 : Mem) (Pv : Nat → List (Key × D) → Mem → Prop) : Prop := Pv 0 [] M1 ∧
  (∀ i acc d M, ds[i]? = some d → acc.length ≤ i → Pv i acc M → tg.d d (dwipe σ vs) M fun σ2 M2 => tt σ2 M2 fun b M3 => (b = true → tk σ2 M3 fun y M4 => ∃ k, y = keyD k ∧ tv σ2 M4 fun z M5 => Pv (i + 1) (kPut acc k z) M5) ∧ (b = false → Pv (i + 1) acc M3)) ∧
  ∀ acc M, acc.length ≤ ds.length → Pv ds.length acc M → Q acc M
def dGatherD (wi : DTI) (tg : Tg) (tt : DTT) (tk tv : DTE) (vs : List Nat) : DSt → Mem → (List (Key × D) → Mem → Prop) → Prop := fun σ M Q => wi σ M fun ds C M1 => ds.length ≤ sizeLine ∧ match C with
  | none => ∃ Pv : Nat → List (Key × D) → Mem → Prop, dGoesD tg tt tk tv vs Q ds σ M1 Pv
  | some c => ∃ Pv : Nat → List (Key × D) → Mem → Prop, (∀ i acc M, Pv i acc M → c M) ∧ dGoesD tg tt tk tv vs Q ds σ M1 Pv
/-- {k: v for ..}: a cell -/
@[reducible] def dDc (wi : DTI) (tg : Tg) (tt : DTT) (tk tv : DTE) (vs : List Nat) : DTE := fun σ M Q => dGatherD wi tg tt tk tv vs σ M fun acc M' => ∀ p, M' p = none → Q (.ref p) (mset M' p (.dK acc))
theorem lift_gatherD {K : PySem.W.Frag} {g : Gr} {wi : DTI} {tg : Tg} {tt : DTT} {tk tv : DTE} {vs : List Nat} {σ : L2.St} {H : Hp} {Q : VK} (ht : ∀ i ∈ tg.slots, i ∈ vs) {S : Hp} {M : Mem} {sd : DSt} {QD : List (Key × D) → Mem → Prop} (a : At K g S M sd σ H) (q : dGatherD wi tg tt tk tv vs sd M QD)
    (k : ∀ acc M' S' H' p accV, QD acc M' → Same S S' → Rep K (upd g.F p (.dK accV)) S' M' H' → IsKV K S' accV acc → g.F p = none → Q (.ref p) H') : tDc (liftI K g wi) (tg.h K) (liftTx K tt) (liftEx K tk) (liftEx K tv) vs σ H Q := by
  refine ⟨S, M, sd, _, a, q, fun ds C M1 S1 H1 J q1 e1 r1 it => ?_⟩
  have hz : ds.length ≤ sizeLine := q1.1
  have q1' : ∃ Pv : Nat → List (Key × D) → Mem → Prop, (∀ i acc M, Pv i acc M → C.ok M) ∧ dGoesD tg tt tk tv vs QD ds sd M1 Pv := by
    cases C with
    | none =>
      obtain ⟨_, Pv, q⟩ := q1
      exact ⟨Pv, fun _ _ _ _ => trivial, q⟩
    | some c => exact q1.2
  obtain ⟨Pv, gd, p0, step, done⟩ := q1'
  intro D hD
  have hF : g.F D = none := r1.freeF hD
  have a1 := a.step e1 r1
  have hsub : ∀ accV, ∀ b o, g.F b = some o → upd g.F D (.dK accV) b = some o := fun accV b o z => by rw [upd_ne (ne_of_none z hF)]; exact z
  refine ⟨fun i m H => m = ds.length - i ∧ i ≤ ds.length ∧ ∃ S' M' accV acc, Same S1 S' ∧ Rep K (upd g.F D (.dK accV)) S' M' H ∧ IsKV K S' accV acc ∧ acc.length ≤ i ∧ Pv i acc M',
    ⟨ds.length, by simp, Nat.zero_le _, S1, M1, [], [], Same.refl _, r1.hide hD noX_dK, .nil, Nat.le_refl _, p0⟩, ?_⟩
  rintro i m H2 ⟨rfl, hi, S2, M2, accV, acc, e2, r2, l2, hl, p2⟩
  have it := it (upd g.F D (.dK accV)) (hsub accV)
  by_cases hlt : i < ds.length
  · refine .inr ⟨it.go i S2 M2 H2 e2 r2 (gd _ _ _ p2) hlt, fun H' => ∃ S' M' accV acc, Same S1 S' ∧ Rep K (upd g.F D (.dK accV)) S' M' H' ∧ IsKV K S' accV acc ∧ acc.length ≤ i + 1 ∧ Pv (i + 1) acc M',
      fun H' ⟨S', M', accV, acc, e', r', l', hl', p'⟩ => ⟨ds.length - (i + 1), by omega, rfl, hlt, S', M', accV, acc, e', r', l', hl', p'⟩, fun x H3 y => ?_⟩
    obtain ⟨S3, d, e3, r3, hd, i3⟩ := it.yld i S2 M2 H2 x H3 e2 r2 (gd _ _ _ p2) hlt y
    have o3 : IsO K S3 σ sd := ((a1.sl.mono e2).mono e3)
    refine Tg.run tg ht r3 i3 o3 (step i acc d M2 hd hl p2) fun σ4 sd4 o4 q4 hw => ⟨hw, ?_⟩
    have e13 : Same S1 S3 := e2.trans e3
    refine ⟨⟨upd g.F D (.dK accV), S3⟩, S3, M2, sd4, _, ⟨Same.refl _, r3, o4⟩, q4, fun b M5 S5 H5 q5 e5 r5 => ?_⟩
    cases b with
    | false =>
      rw [if_neg Bool.false_ne_true]
      exact ⟨S5, M5, accV, acc, e13.trans e5, r5, isKV_mono (isKV_mono l2 e3) e5, by omega, q5.2 rfl⟩
    | true =>
      rw [if_pos rfl]
      refine ⟨⟨upd g.F D (.dK accV), S5⟩, S5, M5, sd4, _, ⟨Same.refl _, r5, o4.mono e5⟩, q5.1 rfl, fun y M6 yv S6 H6 q6 e6 r6 i6 => ?_⟩
      obtain ⟨ky, rfl, q6⟩ := q6
      have ek := is_key i6
      refine ⟨⟨upd g.F D (.dK accV), S6⟩, S6, M6, sd4, _, ⟨Same.refl _, r6, (o4.mono e5).mono e6⟩, q6, fun z M7 zv S7 H7 q7 e7 r7 i7 => ?_⟩
      have l7 : IsKV K S7 accV acc := isKV_mono (isKV_mono (isKV_mono (isKV_mono l2 e3) e5) e6) e7
      refine ⟨accV, ky, ek, (r7.hid D _ upd_same).2.2, ?_, S7, M7, putK accV ky zv, kPut acc ky z, ((e13.trans e5).trans e6).trans e7, r7.rehide noX_dK, isKV_put l7 i7, ?_, q7⟩
      · rw [isKV_len l2]; omega
      · have := kPut_len (kvs := acc) (k := ky) (v := z); omega
  · have e : i = ds.length := by omega
    subst e
    exact .inl ⟨it.stop _ S2 M2 H2 e2 r2 (gd _ _ _ p2) (Nat.le_refl _), k acc M2 S2 H2 D accV (done acc M2 hl p2) (e1.trans e2) r2 l2 hF⟩
section
variable {X : Cx} {g : Gr}
variable {kx vx tgE iter : Expr} {ifs : List Expr} {scope : Scope} {own : List (PySem.Str × Nat)} {pos spos py : Pos} {wi : DTI} {tg : Tg} {tt : DTT} {tk tv : DTE}
theorem sw_trueD {gs : List Comprehension} {scope : Scope} {pos py : Pos} {y : PySem.Str} {l : Nat} {env : Env} (hk : env.scope.kind = .function) (hy : env.scope.names.lookup y = some .local) (hl : (py.line == pos.line) = true)
    (ha : (scope.names.any fun (n, k) => n == y && (k == .local || k == .cell)) = false) : swapsWith (.DictComp kx vx gs scope pos) (some (.Name y py)) l env = pure true := by
  have ky : env.kindOf y = some .local := hy
  have hb : env.blockKind = .function := by unfold Env.blockKind; rw [hk]; rfl
  unfold swapsWith
  simp only [hb, ky, ha, Expr.pos, hl]
  rfl
/-- name = {k: v for ..} -/
theorem ps_setDc {i : Nat} {y : PySem.Str} {wi : TI} {g : TG} {tt : TT} {tk tv : TE} (hc : X.calm = true) (hN : X.N.Nodup) (hy : X.N[i]? = some y) (hyl : X.env.scope.names.lookup y = some .local)
    (hsw : swapsWith (.DictComp kx vx [⟨tgE, iter, ifs, 0⟩] scope pos) (some (.Name y py)) spos.line X.env = pure true) (hi : PI X tgE iter wi) (ok : BlkOk X.N X.env.scope scope own)
    (hg : ∀ (s : Shared) (H : Hp) (C : Addr) (cl : List (PySem.Str × Addr)) (fp : List Addr), PG (X.blk s H scope (compEnvC scope cl C X.env) fp) tgE g)
    (ht : ∀ (s : Shared) (H : Hp) (C : Addr) (cl : List (PySem.Str × Addr)) (fp : List Addr), PTs (X.blk s H scope (compEnvC scope cl C X.env) fp) ifs tt)
    (hk : ∀ (s : Shared) (H : Hp) (C : Addr) (cl : List (PySem.Str × Addr)) (fp : List Addr), PE (X.blk s H scope (compEnvC scope cl C X.env) fp) kx tk)
    (he : ∀ (s : Shared) (H : Hp) (C : Addr) (cl : List (PySem.Str × Addr)) (fp : List Addr), PE (X.blk s H scope (compEnvC scope cl C X.env) fp) vx tv) (hs : ∀ x, foldedSetIterable iter X.env x = pure x := by intro _; rfl) :
    PS X (.Assign [.Name y py] (.DictComp kx vx [⟨tgE, iter, ifs, 0⟩] scope pos) spos) (tAsg (tDc wi g tt tk tv (own.map (·.2))) (gName i)) := by
  refine ⟨fun pins s σ H D I h => ?_⟩
  rw [exec_Assign_Name_used _ _ _ _ hsw]
  refine wpAny_bind (wpAny_standAt (wpAny_bind ?_))
  show wpAny _ X.A (do let _ ← comprehension (.DictComp kx vx [⟨tgE, iter, ifs, 0⟩] scope pos) scope X.env (firstIterPos [⟨tgE, iter, ifs, 0⟩] pos) newDict false (eval iter X.env) (some (assign (.Name y py) X.env))) _ _ s
  have h : tDc wi g tt tk tv (own.map (·.2)) σ H (fun x H1 => gName i x σ H1 D.nx) := h
  refine wpAny_bind (thn (dc_core (Qf := fun _ s' => SP X pins D .next s') hc hN I hi ok hg ht hk he hs h fun L C s' m H' I' q hn f => ?_) fun _ s' hq => wpAny_pure (wpAny_pure hq))
  show wpAny _ _ (assign (.Name y py) X.env (.ref L)) _ _ _
  refine wpAny_assign_Name (store_ok2 (v := V.ref L) I' hN hy (.inl hyl) rfl (fun s2 I2 ⟨a, sb, ha⟩ => ?_) (.inr hyl))
  obtain ⟨f0, f1, f2, f3, f4, f5⟩ := f
  refine ⟨m, hn.sameBut sb ?_, fun h3 sb3 => ⟨_, H', I2.turned (t' := s2.toks) (fun b o hb e => (sb3.2 b hb).trans e) f0 f1 f3 f4 f5, q⟩⟩
  rcases ha with z | z
  · rw [z]; exact f1
  · exact fun e => f4 y a z e.symm
theorem ds_setDc {i : Nat} {y : PySem.Str} (hc : X.calm = true) (hN : X.N.Nodup) (hy : X.N[i]? = some y) (hyl : X.env.scope.names.lookup y = some .local)
    (hsw : swapsWith (.DictComp kx vx [⟨tgE, iter, ifs, 0⟩] scope pos) (some (.Name y py)) spos.line X.env = pure true) (hi : DI X g tgE iter wi) (ok : BlkOk X.N X.env.scope scope own) (hs0 : ∀ i ∈ tg.slots, i ∈ own.map (·.2))
    (hg : ∀ (s : Shared) (H : Hp) (C : Addr) (cl : List (PySem.Str × Addr)) (fp : List Addr), PG (X.blk s H scope (compEnvC scope cl C X.env) fp) tgE (tg.h X.K))
    (ht : ∀ (s : Shared) (H : Hp) (C : Addr) (cl : List (PySem.Str × Addr)) (fp : List Addr) (g' : Gr), DTs (X.blk s H scope (compEnvC scope cl C X.env) fp) g' ifs tt)
    (hk : ∀ (s : Shared) (H : Hp) (C : Addr) (cl : List (PySem.Str × Addr)) (fp : List Addr) (g' : Gr), DE (X.blk s H scope (compEnvC scope cl C X.env) fp) g' kx tk)
    (he : ∀ (s : Shared) (H : Hp) (C : Addr) (cl : List (PySem.Str × Addr)) (fp : List Addr) (g' : Gr), DE (X.blk s H scope (compEnvC scope cl C X.env) fp) g' vx tv) (hs : ∀ x, foldedSetIterable iter X.env x = pure x := by intro _; rfl) :
    DS X g (.Assign [.Name y py] (.DictComp kx vx [⟨tgE, iter, ifs, 0⟩] scope pos) spos) (dAsg (dDc wi tg tt tk tv (own.map (·.2))) (dgName i)) := by
  refine ⟨ps_imp (ps_setDc (tk := liftEx X.K tk) (tv := liftEx X.K tv) (tt := liftTx X.K tt) (g := tg.h X.K) hc hN hy hyl hsw hi.run ok hg (fun s H C cl fp => pts_ex (ht s H C cl fp)) (fun s H C cl fp => pe_ex (hk s H C cl fp)) (fun s H C cl fp => pe_ex (he s H C cl fp)) hs) fun D' σ H h => ?_⟩
  obtain ⟨S, M, sd, DD, a, q, k⟩ := h
  refine lift_gatherD (Q := fun x H1 => gName i x σ H1 D'.nx) hs0 a q fun acc M' S' H' p accV q' e' r' l' hF => ?_
  obtain ⟨r2, hM⟩ := r'.uncellD hF l'
  exact k.nx _ _ _ _ _ (q' p hM) e' ⟨a.base.trans e', r2, (a.sl.mono e').set (v := some (.ref p)) (d := some (.ref p)) (.ref p) i⟩
end
/-! ### d.get(k), k in d, d[k] -/
@[reducible] def dGet1 (td ty : DTE) : DTE := fun σ M Q => td σ M fun x M1 => ∃ a kvs, x = .ref a ∧ M1 a = some (.dK kvs) ∧ ty σ M1 fun y M2 => ∃ kvs k, M2 a = some (.dK kvs) ∧ y = keyD k ∧ Q ((kGet kvs k).getD .non) M2
@[reducible] def dGetI (td ty : DTE) : DTE := fun σ M Q => td σ M fun x M1 => ty σ M1 fun y M2 => ∃ a kvs k d, x = .ref a ∧ M2 a = some (.dK kvs) ∧ y = keyD k ∧ kGet kvs k = some d ∧ Q d M2
def dInD : DR2 := fun x y M Q => ∃ k a kvs, x = keyD k ∧ y = .ref a ∧ M a = some (.dK kvs) ∧ Q (.bl (kGet kvs k).isSome) M
def dNotInD : DR2 := fun x y M Q => ∃ k a kvs, x = keyD k ∧ y = .ref a ∧ M a = some (.dK kvs) ∧ Q (.bl (!(kGet kvs k).isSome)) M
section
variable {X : Cx} {g : Gr} {o e : Expr} {apos cpos pos : Pos} {td ty : DTE}
theorem Rep.dictAt {K : PySem.W.Frag} {F S H : Hp} {M : Mem} {a : Addr} {kvs : List (Key × D)} (r : Rep K F S M H) (h : M a = some (.dK kvs)) : ∃ ws, H a = some (.dK ws) ∧ IsKV K S ws kvs := (r.cell a _ h).2
theorem is_ref {K : PySem.W.Frag} {S : Hp} {v : V} {a : Addr} (i : Is K S v (.ref a)) : v = .ref a := by cases i; rfl
theorem de_get1 (hu : X.A.units + 1 < cLine) (ho : DE X g o td) (he : DE X g e ty) (m : M1 X o "get" apos e cpos) : DE X g (.Call (.Attribute o "get" apos) [e] [] cpos) (dGet1 td ty) := by
  refine ⟨pe_imp (pe_dget1 hu ho.run he.run m) fun σ H Q h => ?_⟩
  obtain ⟨S, M, sd, QD, a, q, k⟩ := h
  refine ⟨S, M, sd, _, a, q, fun d M1 v S1 H1 q1 e1 r1 i1 => ?_⟩
  obtain ⟨p, kvs, rfl, hm, q1⟩ := q1
  obtain ⟨ws, hw, _⟩ := r1.dictAt hm
  refine ⟨p, is_ref i1, .inl ⟨ws, Rd.of hw⟩, S1, M1, sd, _, a.step e1 r1, q1, fun y M2 u S2 H2 q2 e2 r2 i2 => ?_⟩
  obtain ⟨kvs2, ky, hm2, rfl, q2⟩ := q2
  obtain ⟨ws2, hw2, l2⟩ := r2.dictAt hm2
  have ek := is_key i2
  refine ⟨valV ws2 ky, .inl ⟨ws2, ky, Rd.of hw2, ek, rfl⟩, ?_⟩
  rcases isKV_get (k := ky) l2 with ⟨z1, z2⟩ | ⟨v1, d1, z1, z2, iv⟩
  · rw [z1]
    rw [z2] at q2
    exact k _ _ _ S2 H2 q2 (e1.trans e2) r2 .non
  · rw [z1]
    rw [z2] at q2
    exact k _ _ _ S2 H2 q2 (e1.trans e2) r2 iv
theorem de_getI (hu : X.A.units + 1 < cLine) (ho : DE X g o td) (he : DE X g e ty) (hs : NoSl e) : DE X g (.Subscript o e pos) (dGetI td ty) := by
  refine ⟨pe_imp (pe_dget hu ho.run he.run hs) fun σ H Q h => ?_⟩
  obtain ⟨S, M, sd, QD, a, q, k⟩ := h
  refine ⟨S, M, sd, _, a, q, fun d M1 v S1 H1 q1 e1 r1 i1 => ?_⟩
  refine ⟨S1, M1, sd, _, a.step e1 r1, q1, fun y M2 u S2 H2 q2 e2 r2 i2 => ?_⟩
  obtain ⟨p, kvs, ky, d1, rfl, hm, rfl, hg, q2⟩ := q2
  obtain ⟨ws, hw, l⟩ := r2.dictAt hm
  have ek := is_key i2
  rcases isKV_get (k := ky) l with ⟨z1, z2⟩ | ⟨v1, d2, z1, z2, iv⟩
  · rw [z2] at hg; cases hg
  · rw [z2] at hg
    cases hg
    exact ⟨p, v1, is_ref i1, .inl ⟨ws, ky, Rd.of hw, ek, z1.symm⟩, k _ _ _ S2 H2 q2 (e1.trans e2) r2 iv⟩
theorem isKV_isSome {K : PySem.W.Frag} {S : Hp} {ws : List (Key × V)} {kvs : List (Key × D)} {k : Key} (l : IsKV K S ws kvs) : (valV ws k).isSome = (kGet kvs k).isSome := by
  rcases isKV_get (k := k) l with ⟨z1, z2⟩ | ⟨v1, d2, z1, z2, iv⟩ <;> rw [z1, z2] <;> rfl
theorem dop_inD (hu : X.A.units + 1 < cLine) : OpR X (compareOp .In) (liftR2 X.K dInD) := by
  intro pins s σ H x y v u Q I rx ry h
  obtain ⟨F, S, M, dx, dy, QD, rep, ix, iy, ⟨ky, a, kvs, rfl, rfl, hm, hr⟩, hq⟩ := h
  obtain ⟨ws, hw, l⟩ := rep.dictAt hm
  have ek := is_key ix
  subst ek
  obtain rfl : y = .ref a := is_ref iy
  obtain rfl : u = Value.ref a := ry
  refine d_in hu I (.inl ⟨ws, ky, Rd.of hw, rfl, rfl⟩) rx fun s' I' => ⟨.bl (valV ws ky).isSome, H, I', rfl, ?_⟩
  rw [isKV_isSome l]
  exact hq _ _ _ _ _ hr (Same.refl _) rep (.bl _)
theorem dop_notInD (hu : X.A.units + 1 < cLine) : OpR X (compareOp .NotIn) (liftR2 X.K dNotInD) := by
  intro pins s σ H x y v u Q I rx ry h
  obtain ⟨F, S, M, dx, dy, QD, rep, ix, iy, ⟨ky, a, kvs, rfl, rfl, hm, hr⟩, hq⟩ := h
  obtain ⟨ws, hw, l⟩ := rep.dictAt hm
  have ek := is_key ix
  subst ek
  obtain rfl : y = .ref a := is_ref iy
  obtain rfl : u = Value.ref a := ry
  refine d_notIn hu I (.inl ⟨ws, ky, Rd.of hw, rfl, rfl⟩) rx fun s' I' => ⟨.bl (!(valV ws ky).isSome), H, I', rfl, ?_⟩
  rw [isKV_isSome l]
  exact hq _ _ _ _ _ hr (Same.refl _) rep (.bl _)
end
theorem units1 {k : Nat} {A : Around} (r : Room k A) : A.units + 1 < cLine := by have := r.un; omega
/-! ### *e in a display -/
@[reducible] def dStar (te : DTE) (tr : DTA) : DTA := fun σ M Q => te σ M fun x M1 => ∃ ds, LstOf x M1 ds ∧ tr σ M1 fun xs M2 => Q (ds ++ xs) M2
section
variable {X : Cx} {g : Gr} {pos : Pos} {e : Expr} {es : List Expr} {te : DTE} {t : DTA}
theorem da_star (ha : DE X g e te) (hr : DA X g es t) (hs : starEach (.Starred e pos :: es) X.env = (true, eval e X.env) :: starEach es X.env := by rfl) : DA X g (.Starred e pos :: es) (dStar te t) := by
  refine ⟨pa_imp (StX.pa_star ha.run hr.run hs) fun σ H Q h => ?_⟩
  obtain ⟨S, M, sd, QD, a, q, k⟩ := h
  refine ⟨S, M, sd, _, a, q, fun d M1 v S1 H1 q1 e1 r1 i1 => ?_⟩
  obtain ⟨ds, hx, q1⟩ := q1
  obtain ⟨b, ws, rfl, hb, l⟩ := hx.at r1 i1
  refine ⟨b, ws, rfl, .inr (SqL.of hb), S1, M1, sd, _, a.step e1 r1, q1, fun xs M2 vs S2 H2 q2 e2 r2 i2 => ?_⟩
  exact k _ _ _ S2 H2 q2 (e1.trans e2) r2 ((l.mono e2).app i2)
end
end DL

/-! DCls: classmethods; cls(..). -/
namespace DL
open PySem PySem.Spec PyProof.Rows L2
/-- C.m is a classmethod whose def keeps a promise; its first argument is the class -/
structure DCm (P : Program) (w : World) (K : PySem.W.Frag) (mg : PySem.Str → Option Value) (base : Heap) (k : Nat) (C : Addr) (m : PySem.Str) (sp : DSp) : Prop where
  ex : ∃ p g, ClX.CRead K C (.type "type") ∧ ClX.CMet K C (.type "type") m p g ∧ FnR P w K mg base (EX P w) k g (liftSp K sp)
@[reducible] def dCm [Cl] (n : PySem.Str) (sp : DSp) (t : DTA) : DTE := fun σ M Q => t σ M fun ds M1 => sp (.ref (cA n) :: ds) M1 Q fun _ _ _ => False
/-- cls(..), the class in slot i -/
@[reducible] def dNewL [Cl] (i : Nat) (n : PySem.Str) (sp : DSp) (wd : DWX) (t : DTA) : DTE := fun σ M Q => σ[i]? = some (some (.ref (cA n))) ∧ dNew n sp wd t σ M Q
section
variable {X : Cx} {g : Gr} {wd : DWX} {k j i : Nat} {x m : PySem.Str} {sp : DSp} {p p2 pos apos : Pos} {e : Expr} {es : List Expr} {t : DTA} [Cl] {n : PySem.Str} {pl : Sem Bool}
theorem de_cm (d : DCm X.prog X.w X.K X.mg X.base k (cA n) m sp) (hr : Room j X.A) (hk : k ≤ j) (hg : Gl X n) (hm : X.mg n = some (.ref (cA n))) (ha : DA X g (e :: es) t) (hdn : (n == ("__debug__" : PySem.Str)) = false := by decide)
    (hst : starEach (e :: es) X.env = (false, eval e X.env) :: starEach es X.env := by rfl) (hpl : (backTo pos (starEach es X.env)).any (·.1) = false := by rfl)
    (ht : eval (.Call (.Attribute (.Name n p) m apos) (e :: es) [] pos) X.env = (do
      let ov ← eval (.Name n p) X.env
      standAt apos.atName
      let (f, first) ← holding [ov] (getMethod ov m pl)
      callWith pos f first (backTo pos (starEach (e :: es) X.env)) (backToKw pos (keywordEach [] X.env))) := by rfl) :
    DE X g (.Call (.Attribute (.Name n p) m apos) (e :: es) [] pos) (dCm n sp t) := by
  obtain ⟨q, f, rd, cm, F⟩ := d.ex
  refine ⟨pe_imp (ClX.pe_cmeth (E := noE) (pe_glob (v := .ref (cA n)) hg hm rfl hdn) rd cm F (hr.mono hk) passes_noE ha.run hst hpl ht) fun σ H Q h => ?_⟩
  obtain ⟨S, M, sd, QD, a, q, kk⟩ := h
  refine ⟨rfl, S, M, sd, _, a, q, fun ds M1 vs S1 H1 q1 e1 r1 i1 => ?_⟩
  exact lift_no r1 (.cons (.ref _) i1) q1 fun d M' v S' H' q' e' r' i' => kk _ _ _ _ _ q' (e1.trans e') r' i'
theorem pe_makeL {C f : Addr} {sp : Sp} {E : L2.St → XK} {t : TA} {CX : CXT} (M : Mk X.K C f) (F : FnR X.prog X.w X.K X.mg X.base CX k f sp) (hr : Room (k + 1) X.A) (hN : X.N[i]? = some x) (hv : Vis X.env.scope x) (hx : ∀ σ, PassesAt CX X σ (E σ)) (ha : PA X (e :: es) t) (hdb : (x == ("__debug__" : PySem.Str)) = false := by decide) (hcd : (x == ("__classdict__" : PySem.Str)) = false := by decide)
    (he : starEach (e :: es) X.env = (false, eval e X.env) :: starEach es X.env := by rfl) (hpl : (backTo pos (starEach es X.env)).any (·.1) = false := by rfl) : PE X (.Call (.Name x p) (e :: es) [] pos) (fun σ H Q => σ[i]? = some (some (.ref C)) ∧ tMakeS C sp E t σ H Q) := by
  refine ⟨fun pins s σ H Q I ⟨hs, h⟩ => ?_⟩
  refine wpAny_Call_Name_kw (thn ((pe_var (pos := p) hN hv hdb hcd).run pins s σ H (fun v H1 => v = .ref C ∧ H1 = H) I ⟨.ref C, hs, rfl, rfl⟩) fun u s1 ⟨v, H1, I1, r1, q1⟩ => ?_)
  obtain ⟨rfl, rfl⟩ := q1
  cases r1
  refine PySem.W.callWith_K (h₀ := X.base) I.ok.mod.kin M.kp (thn (ha.run pos pins s1 σ _ _ I1 h) fun us s2 ⟨vs, H2, I2, r, q⟩ => ⟨I2.kIn, ?_⟩) he hpl
  exact run_makeS M F hr (hx σ) I2 r q
theorem de_newL {y : PySem.Str} (d : DNew X.prog X.w X.K X.mg X.base k y n sp) (hr : Room j X.A) (hk : k + 1 ≤ j) (hN : X.N[i]? = some x) (hv : Vis X.env.scope x) (hx : ∀ σ, PassesAt (EX X.prog X.w) X σ (fun cls d H => liftW X.K g wd cls d σ H)) (ha : DA X g (e :: es) t) (hdb : (x == ("__debug__" : PySem.Str)) = false := by decide) (hcd : (x == ("__classdict__" : PySem.Str)) = false := by decide)
    (he : starEach (e :: es) X.env = (false, eval e X.env) :: starEach es X.env := by rfl) (hpl : (backTo pos (starEach es X.env)).any (·.1) = false := by rfl) : DE X g (.Call (.Name x p) (e :: es) [] pos) (dNewL i n sp wd t) := by
  obtain ⟨f, mk, hm, F⟩ := d.ex
  refine ⟨pe_imp (pe_makeL mk F (hr.mono hk) hN hv hx ha.run hdb hcd he hpl) fun σ H Q h => ?_⟩
  obtain ⟨S, M, sd, QD, a, ⟨hs, q⟩, kk⟩ := h
  refine ⟨?_, lift_new ⟨S, M, sd, QD, a, q, kk⟩⟩
  obtain ⟨v, h1, h2⟩ := IsO.get a.sl hs
  rw [h1, is_ref h2]
end
/-! ### the facts -/
open He in
def fCr (x : PySem.Str) : FaF := fun K => PySem.W.readsIn K (ga K x) (.type "type") && eqO (PySem.W.specialIn K (.ref (ga K x)) "__getattribute__") (some (some (.builtin "type.__getattribute__")))
open He in
theorem fCr_ok {K : PySem.W.Frag} {x : PySem.Str} (c : fCr x K = true) : ClX.CRead K (ga K x) (.type "type") := by
  obtain ⟨c1, c2⟩ := ba c
  exact ⟨c1, eqO_ok c2⟩
/-- the classmethod's def -/
def cmAd (x f : PySem.Str) (K : PySem.W.Frag) : Addr := He5.wf K (He.ga K x) "classmethod" f
def fCm (x m : PySem.Str) : FaF := fun K => He5.wrapB K (He.ga K x) "classmethod" "classmethod.__get__" m && PySem.W.fnIn K (cmAd x m K)
theorem fCm_ok {K : PySem.W.Frag} {x m : PySem.Str} (c : fCm x m K = true) : ClX.CMet K (He.ga K x) (.type "type") m (He.ma K (He.ga K x) m) (cmAd x m K) := by
  obtain ⟨c1, c2⟩ := He.ba c
  exact He5.cmet_of c1 c2
end DL

/-! DStar: defs with a star parameter. -/
namespace DL
open PySem PySem.Spec PyProof.Rows L2
theorem cxUpN {P : Program} {w : World} : StX.CXUp (EX P w) := by
  rintro outer s H s2 H2 E e s' un kp ho ⟨a, B, H', cls, d, ea, fl, hok, ub, na, os, ag, he⟩
  refine ⟨a, B, H', cls, d, ea, fl, hok, ⟨fun b o q n hb => ub.keep b o (kp b o q) (un.free b o q n (by simp)) hb, fun b o q hb => ub.slot b o (kp b o q) hb, fun b o q n => ub.free b o (kp b o q) (un.free b o q n (by simp)),
    fun b o q hb => ub.there b o (kp b o q) hb, fun b xs q => ub.tups b xs (un.tups b xs q), fun b o xs q => ub.frzs b o xs (un.frzs b o xs q), fun b ps q => ?_⟩, na, os.trans ho, ag, he⟩
  obtain ⟨m1, e1⟩ := un.tbls b ps q
  obtain ⟨m2, e2⟩ := ub.tbls b _ e1
  exact ⟨m1 ++ m2, by rw [e2, Array.append_assoc]⟩
/-- the promise to the caller, from the one over the parameters -/
@[reducible] def dstar (n : Nat) (sp : DSp) : DSp := fun ds M Q E => n ≤ ds.length ∧ ds.length ≤ sizeLine ∧ sp (ds.take n ++ [.tup (ds.drop n)]) M Q E
section
variable {P : Program} {w : World} {K : PySem.W.Frag} {mg : PySem.Str → Option Value} {base : Heap}
variable {x qual : PySem.Str} {params : Arguments} {body : List Stmt} {scope : Scope} {kws : List (PySem.Str × V)} {f : Addr} {fd : FuncData} {N ps : List PySem.Str} {k : Nat} {sp : DSp}
theorem dfn_star {t : DTS} {pv : PySem.Str} (F : FunD K x qual params body scope [] kws f fd) (S : FnScope N (ps ++ [pv]) scope)
    (hb : ∀ (kV doc pm : Value) (an : Option Addr) (cdv ct : Value) (us rest : List Value), us.length = ps.length → bindArgs (PySem.W.fnOf x qual params body scope .none kV doc pm an cdv ct) ⟨us ++ rest, []⟩ = (newTuple rest >>= fun t => pure (ps.zip us ++ [(pv, t)])))
    (hbody : ∀ (cdv : Value) (A : Around) (outer : List Env) (s : Shared) (H : Hp) (E : XK) (g : Gr), Room k (A.deeper (envOfC qual scope s.heap.objs.size f cdv)) →
      DSs (cxOf (EX P w) P w K mg base N qual scope f cdv A outer s H E).nox g body t)
    (hread : ∀ ds M Q E, sp ds M Q E → t { nx := fun _ M' => QF Q .non M', rt := QF Q } (dstart N.length ds) M) : FnR P w K mg base (EX P w) (k + 1) f (liftSp K (dstar ps.length sp)) := by
  obtain ⟨oc, od, dV, kV, doc, pm, an, cdv, ct, osl, rfl, lk, hcd, hD, _⟩ := F.ex
  rcases hD with ⟨_, rfl⟩ | ⟨e, _⟩
  · refine (StX.fn_star (sp := liftSp K sp) lk hcd S cxUpN (hb kV doc pm an cdv ct) fun A outer s H vs Q E hr h => ?_).imp fun vs H Q E h => ?_
    · obtain ⟨Fh, Sh, M, ds, QD, ED, r, l, h, kq, ke⟩ := h
      refine ⟨_, PSs.nox (hbody cdv A outer s H E ⟨Fh, Sh⟩ hr).run, Sh, M, _, _, ⟨Same.refl _, r, isO_start l⟩, hread ds M QD ED h, ?_⟩
      refine ⟨fun sd M1 σ S1 H1 q e a => ?_, fun d M1 v S1 H1 q e r1 i => ?_, fun _ _ _ _ _ q => q.elim, fun _ _ _ _ _ q => q.elim⟩
      · obtain ⟨d', M', vw, q⟩ := q
        obtain ⟨S2, e2, r2, i2⟩ := vw.rep a.rep (.non : Is K S1 .non .non)
        exact kq _ _ _ _ _ q (e.trans e2) r2 i2
      · obtain ⟨d', M', vw, q⟩ := q
        obtain ⟨S2, e2, r2, i2⟩ := vw.rep r1 i
        exact kq _ _ _ _ _ q (e.trans e2) r2 i2
    · obtain ⟨Fh, Sh, M, ds, QD, ED, r, l, ⟨h1, h2, h⟩, kq, ke⟩ := h
      have ll := l.length
      refine ⟨vs.take ps.length, vs.drop ps.length, (List.take_append_drop _ _).symm, by rw [List.length_take]; omega, by rw [List.length_drop]; omega, fun p hp => ?_⟩
      have s1 : Same Sh (upd Sh p (.tup (vs.drop ps.length))) := same_upd (r.freeS hp)
      refine ⟨Fh, upd Sh p (.tup (vs.drop ps.length)), M, _, QD, ED, r.frozen hp, ((l.mono s1).take _).app (.cons (.tup (.inl (Rd.of upd_same)) ((l.mono s1).drop _)) .nil), h, fun d M' v S' H' q e r' i => kq _ _ _ _ _ q (s1.trans e) r' i, fun c fs M' d S' H' hq e r' x' => ke _ _ _ _ _ _ hq (s1.trans e) r' x'⟩
  · exact absurd rfl e
end
end DL

/-! DWalk: a walk over an instance whose __iter__ hands out an iterator over a list of its own. -/
namespace DL
open PySem PySem.Spec PyProof.Rows L2
/-- such an __iter__: the iterator is younger than the call -/
def FnIt (P : Program) (w : World) (K : PySem.W.Frag) (mg : PySem.Str → Option Value) (base : Heap) (k : Nat) (f C : Addr) (i : Nat) : Prop :=
  ∀ (A : Around) (outer : List Env) (s : Shared) (H : Hp) (a dx : Addr) (sl : List (Option V)) (l : Addr) (zs : List V) (Q : VK) (E : XK), Room k A → Env0 P w K mg base A outer s H → SlX.Slt H a C dx sl → sl[i]? = some (some (.ref l)) → SqL K H l zs →
    (∀ it, H it = none → s.heap.objs.size ≤ it → Q (.ref it) (upd H it (ItO l it 0))) → codeAny (model P w) A (.call (.ref f) ⟨[.ref a], []⟩) (CR (EX P w) outer P w H s Q E) s
theorem FnIt.raw {P : Program} {w : World} {K : PySem.W.Frag} {mg : PySem.Str → Option Value} {base : Heap} {k : Nat} {f C : Addr} {i : Nat} (F : FnIt P w K mg base k f C i) : FnR P w K mg base (EX P w) k f (spIt K C i) := by
  intro A outer s H us vs Q E hr e0 r h
  obtain ⟨a, dx, sl, l, zs, rfl, hsl, hl, hq, q⟩ := h
  obtain ⟨u, rfl, ru⟩ := vals1 r
  cases ru
  exact F A outer s H a dx sl l zs Q E hr e0 hsl hl hq fun it hit _ => q it hit
structure ItW (P : Program) (w : World) (K : PySem.W.Frag) (mg : PySem.Str → Option Value) (base : Heap) (k : Nat) (C : Addr) (i : Nat) : Prop where
  ex : ∃ g, PySem.W.findIn K (.ref C) "__iter__" = some (some (.ref g)) ∧ PySem.W.isFn K (.ref g) = true ∧ FnIt P w K mg base k g C i
section
variable {P : Program} {w : World} {K : PySem.W.Frag} {mg : PySem.Str → Option Value} {base : Heap} {x qual p0 : PySem.Str} {params : Arguments} {body : List Stmt} {scope : Scope} {dvs : List V} {kws : List (PySem.Str × V)} {f C : Addr} {fd : FuncData} {N : List PySem.Str} {k i : Nat}
theorem fnIt_of (F : FunD K x qual params body scope dvs kws f fd) (S : FnScope N [p0] scope) (hb : Binds K fd [p0] [])
    (hbody : ∀ (cdv : Value) (A : Around) (outer : List Env) (s : Shared) (H : Hp) (Q : VK) (E : XK) (a dx : Addr) (sl : List (Option V)) (l : Addr) (zs : List V), SlX.Slt H a C dx sl → sl[i]? = some (some (.ref l)) → SqL K H l zs → (∀ it, H it = none → s.heap.objs.size ≤ it → Q (.ref it) (upd H it (ItO l it 0))) →
      ∃ t, PSs (cxOf (EX P w) P w K mg base N qual scope f cdv A outer s H E) body t ∧ t { nx := fun _ H' => Q .non H', rt := Q } (start N [.ref a]) H) : FnIt P w K mg base (k + 1) f C i := by
  obtain ⟨oc, od, dV, kV, doc, pm, an, cdv, ct, osl, rfl, lk, hcd, _, _⟩ := F.ex
  intro A outer s H a dx sl l zs Q E hr e0 hsl hl hq q
  have KX : K.In s.heap := e0.mod.kin.keeps fun b o e => (e0.bs b o e).1
  have lim : s.heap.NoLimit := e0.mod.nolimit.keeps fun b o e => (e0.bs b o e).1
  have r : Vals [V.ref a] [Value.ref a] := .cons rfl .nil
  have hkind : ∀ y ∈ [p0].zip [Value.ref a], scope.names.lookup y.1 = some .local ∨ (scope.names.lookup y.1 = some .cell ∧ ((cellsFrom (s.heap.objs.size + 1) scope.names []).lookup y.1).isSome = true) := fun y hy =>
    (S.par y.1 (List.of_mem_zip hy).1).elim .inl fun z => .inr ⟨z, PySem.W.cellsFrom_some _ _ _ (.inl z)⟩
  have hb' : BindsTo s (PySem.W.fnOf x qual params body scope dV kV doc pm an cdv ct) ⟨[Value.ref a], []⟩ ([p0].zip [Value.ref a]) := hb s [.ref a] KX rfl
  refine codeAny_call_function hr.depth (KX _ _ lk) rfl S.co S.gen rfl (PySem.W.codeRec_of KX hcd) (hb' _ _ _ _ ?_)
  refine wpAny_newFunctionEnv_cells S.kind hkind fun env he s1 x => ?_
  subst he
  refine ⟨lim.keeps x.toInCall.keep, codeAny_func ?_⟩
  obtain ⟨t, ht, hq'⟩ := hbody cdv A outer s H Q E a dx sl l zs hsl hl hq q
  have I : Inv (cxOf (EX P w) P w K mg base N qual scope f cdv A outer s H E) [] (start N [V.ref a]) H s1 := inv_start S hr.hd e0 rfl r x
  refine wpAny_mono (ht.run [] s1 _ H _ I hq') (fun fl s' hs => ?_) fun e s' hs => hs
  have fin : ∀ {σ' : L2.St} {H' : Hp} {v : V} {u : Value}, Inv (cxOf (EX P w) P w K mg base N qual scope f cdv A outer s H E) [] σ' H' s' → RelV v u → Q v H' → CE outer P w H s Q u s' :=
    fun {σ' H' v u} J rv q => ⟨v, H', J.os, J.bare, J.base, J.hok, rv, q⟩
  match fl, hs with
  | .ret u, ⟨v, σ', H', J, rv, q⟩ => exact fin J rv q
  | .next, ⟨σ', H', J, q⟩ => exact fin (v := V.non) (u := Value.none) J rfl q
  | .brk, ⟨_, _, _, q⟩ => exact False.elim q
  | .cont, ⟨_, _, _, q⟩ => exact False.elim q
end
/-- what stands behind e, walked -/
def iOwn (K : PySem.W.Frag) (C : Addr) (i : Nat) (te : TE) : TI := fun σ H R => te σ H fun x H1 => ∃ a dx sl l zs, x = .ref a ∧ SlX.Slt H1 a C dx sl ∧ sl[i]? = some (some (.ref l)) ∧ SqL K H1 l zs ∧ R (Itl K l) H1
section
variable {X : Cx} {tg e : Expr} {te : TE} {k i : Nat} {C : Addr}
theorem pi_own (he : PE X e te) (d : ItW X.prog X.w X.K X.mg X.base k C i) (hr : Room k X.A) : PI X tg e (iOwn X.K C i te) := by
  obtain ⟨gf, hs, hf, F⟩ := d.ex
  refine ⟨fun pins s σ H R I h => ?_⟩
  refine thn (he.run pins s σ H _ I h) fun v s1 ⟨x, H1, I1, rx, a, dx, sl, l, zs, ex, hsl, hl, hq, q⟩ => ?_
  subst ex
  cases rx
  obtain ⟨sl', od, _, J, _⟩ := SlX.slt_inst I1 hsl
  obtain ⟨m0, hF⟩ := I1.fr
  refine PySem.W.owit_iter hF I1.ok.mod.kin J hs hf (wpAny_call (codeAny_mono (F X.A X.stack s1 H1 a dx sl l zs (fun v H' => ∃ it, v = .ref it ∧ H1 it = none ∧ s1.heap.objs.size ≤ it ∧ H' = upd H1 it (ItO l it 0)) noE hr I1.env0 hsl hl hq fun it hit hn => ⟨it, rfl, hit, hn, rfl⟩) fun r s' hq' => ?_))
  cases r with
  | error e => exact (ex_noE hq').elim
  | ok fl =>
    cases fl with
    | next => exact False.elim hq'
    | brk => exact False.elim hq'
    | cont => exact False.elim hq'
    | ret u =>
      obtain ⟨v, H', I', rv, it, rfl, hit, hn, eH⟩ := I1.after hq'
      subst eH
      obtain rfl : u = Value.ref it := rv
      have ho := itO_get I' upd_same
      have up : upd H1 it (ItO l it 0) it = some (ItO l it 0) := upd_same
      have fp := ItX.inv_fp I' up (Nat.le_trans I1.sz hn)
      unfold ItO at up
      have I2 := ItX.inv_drop I' up
      rw [ItX.dropH_upd hit] at I2 fp
      show PySem.W.OwitIt _ _ _ _ _ _
      unfold PySem.W.OwitIt
      refine wpAny_specialOf (T := "list_iterator") ⟨_, ho, rfl⟩ slot_listiter_next.lookup ?_
      refine ⟨it, [it], _, _, H1, rfl, I2, turn_list l it, ⟨_, ho, rfl, rfl⟩, fun b hb => ?_, q⟩
      have e : b = it := by simpa using hb
      rw [e]
      exact fp
end
/-- for x in o -/
@[reducible] def diOwn [Cl] (n : PySem.Str) (i : Nat) (te : DTE) : DTI := fun σ M Q => te σ M fun x M1 => FldOf x M1 (cA n) i fun d => ∃ ds, d = .lst ds ∧ Q ds none M1
section
variable {X : Cx} {g : Gr} {tg l : Expr} {tl : DTE} {k j i : Nat} [Cl] {n : PySem.Str}
theorem di_own (d : ItW X.prog X.w X.K X.mg X.base k (cA n) i) (hr : Room j X.A) (hk : k ≤ j) (hl : DE X g l tl) : DI X g tg l (diOwn n i tl) := by
  refine ⟨pi_imp (pi_own hl.run d (hr.mono hk)) fun σ H R h => ?_⟩
  obtain ⟨S, M, sd, QD, a, q, kk⟩ := h
  refine ⟨S, M, sd, _, a, q, fun d M1 v S1 H1 q1 e1 r1 i1 => ?_⟩
  obtain ⟨b, dx, vs, d', u, rfl, hsl, hu, iu, ds, rfl, q2⟩ := FldOf.at q1 r1 i1
  cases iu with
  | @lst l ws _ s il =>
    refine ⟨b, dx, vs, l, ws, rfl, hsl, hu, SqL.of (r1.same _ _ s), kk ds none M1 S1 H1 _ q2 e1 r1 fun F _ => ⟨fun i S2 M H e r _ hi => ?_, fun i S2 M H e r _ hi => ?_, fun i S2 M H x H' e r _ hi y => ?_⟩⟩
    · have hl := il.length
      exact ⟨ws, ws[i]'(by omega), (e.trans r.same).seq (SqL.of s), by simp⟩
    · exact ⟨ws, (e.trans r.same).seq (SqL.of s), by rw [il.length]; exact hi⟩
    · obtain ⟨rfl, y⟩ := y
      have hx := y ws ((e.trans r.same).seq (SqL.of s))
      obtain ⟨d, hd, id⟩ := il.get' hx
      exact ⟨S2, d, Same.refl _, r, hd, id.mono e⟩
end
end DL

/-! DEnO: enumerate of an instance. -/
namespace DL
open PySem PySem.Spec PyProof.Rows L2
open Builtin in
theorem enum_new_run {prog : Program} {w : World} {A : Around} {E : Value → Shared → Prop} {s : Shared} {v : Value} {R : Value → Shared → Prop}
    (h : wpAny (model prog w) A (pyIter v) (fun itv s1 => R (.ref s1.heap.objs.size) { s1 with heap := s1.heap.push { cls := .type "enumerate", data := .fields #[.none, .bool false, itv, rawInt 0, .none, .none] } }) E s) :
    wpAny (model prog w) A (Builtin.«enumerate.__new__» ⟨[.type "enumerate", v], []⟩) (fun fin s' => ∃ r, fin = .done (.ret r) ∧ R r s') E s := by
  have fin : ∀ {Q : Value → Shared → Prop}, (∀ itv s1, R (.ref s1.heap.objs.size) { s1 with heap := s1.heap.push { cls := .type "enumerate", data := .fields #[.none, .bool false, itv, rawInt 0, .none, .none] } } → Q itv s1) → wpAny (model prog w) A (pyIter v) Q E s := fun k => wpAny_mono h k fun _ _ z => z
  obtain ⟨hp, g, d, tk, os⟩ := s
  have hsub := sub_enumerate
  wp_walk using fin
  refine wpAny_stack_any fun st => wpAny_pure ?_
  split
  · rename_i c _ _ _ _ _
    cases (c == Value.type "enumerate") <;> (wp_walk using fin; intro itv s1 z; wp_walk; exact ⟨_, rfl, z⟩)
  · wp_walk using fin
    intro itv s1 z
    wp_walk
    exact ⟨_, rfl, z⟩

section
variable {prog : Program} {w : World} {A : Around} {E : Value → Shared → Prop} {s : Shared}
theorem enum_call {v : Value} {Q : Value → Shared → Prop}
    (h : wpAny (model prog w) A.in1.in1 (pyIter v) (fun itv s1 => Q (.ref s1.heap.objs.size) { s1 with heap := s1.heap.push { cls := .type "enumerate", data := .fields #[.none, .bool false, itv, rawInt 0, .none, .none] } }) E s) : wpAny (model prog w) A (call (.type "enumerate") [v]) Q E s := by
  refine callType_codes (T := "enumerate") (Bi := Builtin.«object.__init__») (Q₁ := fun obj s₁ => s₁.TypeIs obj "enumerate" ∧ Q obj s₁) F.called_enumerate (F.typeCall_enumerate_1 _) F.entry_object_init ?_ ?_
  · refine codeAny_of_tree ?_
    show wpAny _ A.in1.in1 (do checkBuiltinCall "enumerate.__new__" ⟨[.type "enumerate", v], []⟩; again (.builtin "enumerate.__new__" ⟨[.type "enumerate", v], []⟩)) _ _ s
    refine wpAny_bind (wpAny_of_eq (F.newCall_enumerate_1 _) (wpAny_pure ⟨plainId_quiet (by decide +kernel) _, codeAny_builtin F.entry_enumerate_new ?_⟩))
    rw [Around.under_plainId (by decide +kernel) _]
    refine wpAny_mono (enum_new_run (R := fun r s₁ => s₁.TypeIs r "enumerate" ∧ Q r s₁) (wpAny_mono h (fun itv s1 q => ⟨⟨_, Heap.get?_push_size _ rfl, rfl⟩, q⟩) fun _ _ z => z)) (fun fin s' z => ?_) fun _ _ z => z
    obtain ⟨r, rfl, q⟩ := z
    exact q
  · rintro obj s₁ ⟨t, q⟩
    exact ⟨t, F.args_object_init_2 _ _, object_init_meets F.called_enumerate.init.lookup F.called_enumerate.made (by decide) prog w A.in1 _ s₁ ⟨t, rfl, q⟩⟩
end
section
variable {X : Cx} {tg e : Expr} {te : TE} {k i : Nat} {C : Addr}
theorem own_iter {A : Around} {pins : List (Addr × Obj)} {σ : L2.St} {H : Hp} {s : Shared} {a dx l : Addr} {sl : List (Option V)} {zs : List V} {Q : Value → Shared → Prop} {E : Value → Shared → Prop} (d : ItW X.prog X.w X.K X.mg X.base k C i) (sb : Sub X k A) (I : Inv X pins σ H s)
    (hsl : SlX.Slt H a C dx sl) (hl : sl[i]? = some (some (.ref l))) (hq : SqL X.K H l zs) (h : ∀ it s', Inv X pins σ H s' → s'.heap.get? it = some (GNX.itObj l 0) → FpOk X pins H it → Q (.ref it) s') : wpAny (model X.prog X.w) A (pyIter (.ref a)) Q E s := by
  obtain ⟨gf, hs, hf, F⟩ := d.ex
  have e0 : Env0 X.prog X.w X.K X.mg X.base A X.stack s H := by
    have e := I.env0
    exact ⟨by rw [sb.fr]; exact e.frames, e.mod, e.bs, e.bsz, e.funs, e.frf, e.hok, e.bare⟩
  obtain ⟨sl', od, _, J, _⟩ := SlX.slt_inst I hsl
  obtain ⟨m0, hF⟩ := I.fr
  refine PySem.W.owit_iter hF I.ok.mod.kin J hs hf (wpAny_call (codeAny_mono (F A X.stack s H a dx sl l zs (fun v H' => ∃ it, v = .ref it ∧ H it = none ∧ s.heap.objs.size ≤ it ∧ H' = upd H it (ItO l it 0)) noE sb.room e0 hsl hl hq fun it hit hn => ⟨it, rfl, hit, hn, rfl⟩) fun r s' hq' => ?_))
  cases r with
  | error e => exact (ex_noE hq').elim
  | ok fl =>
    cases fl with
    | next => exact False.elim hq'
    | brk => exact False.elim hq'
    | cont => exact False.elim hq'
    | ret u =>
      obtain ⟨v, H', I', rv, it, rfl, hit, hn, eH⟩ := I.after hq'
      subst eH
      obtain rfl : u = Value.ref it := rv
      have ho := itO_get I' upd_same
      have up : upd H it (ItO l it 0) it = some (ItO l it 0) := upd_same
      have fp := ItX.inv_fp I' up (Nat.le_trans I.sz hn)
      unfold ItO at up
      have I2 := ItX.inv_drop I' up
      rw [ItX.dropH_upd hit] at I2 fp
      show PySem.W.OwitIt _ _ _ _ _ _
      unfold PySem.W.OwitIt
      exact wpAny_specialOf (T := "list_iterator") ⟨_, ho, rfl⟩ slot_listiter_next.lookup (h it s' I2 ho fp)
/-- enumerate of such an instance -/
def iEnumO (K : PySem.W.Frag) (C : Addr) (i : Nat) (te : TE) : TI := fun σ H R => te σ H fun x H1 => ∃ a dx sl l zs, [x] = [V.ref a] ∧ SlX.Slt H1 a C dx sl ∧ sl[i]? = some (some (.ref l)) ∧ SqL K H1 l zs ∧ R (Ite K l) H1
theorem pi_enumO {p pos tpos : Pos} {elts : List Expr} {kk : Nat} (hg : Gl X "enumerate") (hm : X.mg "enumerate" = none) (he : PE X e te) (d : ItW X.prog X.w X.K X.mg X.base k C i) (hr : Room (k + 2) X.A) (hs : starEach [e] X.env = [(false, eval e X.env)] := by rfl) :
    PI X (.Tuple elts kk tpos) (.Call (.Name "enumerate" p) [e] [] pos) (iEnumO X.K C i te) := by
  refine ⟨fun pins s σ H R I h => ?_⟩
  refine Call_ (ld_blt I hg hm boot_enumerate (PyProof.Rows.callWith_type1 (thn ((pa_cons he pa_nil hs).run pos pins s σ H (fun vs H1 => ∃ a dx sl l zs, vs = [.ref a] ∧ SlX.Slt H1 a C dx sl ∧ sl[i]? = some (some (.ref l)) ∧ SqL X.K H1 l zs ∧ R (Ite X.K l) H1) I ?_) fun us s1 ⟨vs, H1, I1, r1, q1⟩ => ?_) hs rfl))
  · exact h
  obtain ⟨a, dx, sl, l, zs, rfl, hsl, hl, hq, q⟩ := q1
  obtain ⟨u, rfl, ru⟩ := vals1 r1
  cases ru
  have sb : Sub X k X.A.in1.in1 := Sub.in1 (Sub.in1 (⟨hr, rfl⟩ : Sub X (k + 2) X.A))
  refine enum_call (own_iter d sb I1 hsl hl hq fun it s2 I2 hit fp => ?_)
  have hil : it < s2.heap.objs.size := Heap.lt_size hit
  have he' := Heap.get?_push_size s2.heap (o := { cls := .type "enumerate", data := .fields #[.none, .bool false, .ref it, rawInt 0, .none, .none] }) rfl
  refine wpAny_pyIter_enum he' ?_
  refine ⟨s2.heap.objs.size, [s2.heap.objs.size, it], _, _, H1, rfl, I2.kept (t' := s2.toks) (fun b o x => Heap.get?_push_of_some _ x), turn_enum l s2.heap.objs.size it, ⟨⟨.none, he'⟩, ⟨_, Heap.get?_push_of_some _ hit, rfl, rfl⟩, Nat.ne_of_gt hil⟩, fun b hb => ?_, q⟩
  have e' : b = s2.heap.objs.size ∨ b = it := by simpa using hb
  rcases e' with z | z
  · rw [z]; exact I2.fpOk (Nat.le_refl _) (I2.hok.fresh (Nat.le_refl _))
  · rw [z]; exact fp
end
@[reducible] def diEnumO [Cl] (n : PySem.Str) (i : Nat) (te : DTE) : DTI := fun σ M Q => te σ M fun x M1 => FldOf x M1 (cA n) i fun d => ∃ ds, d = .lst ds ∧ Q (enD ds) none M1
section
variable {X : Cx} {g : Gr} {l : Expr} {tl : DTE} {k j i : Nat} [Cl] {n : PySem.Str} {p pos tpos : Pos} {elts : List Expr} {kk : Nat}
theorem di_enumO (hg : Gl X "enumerate") (hm : X.mg "enumerate" = none) (d : ItW X.prog X.w X.K X.mg X.base k (cA n) i) (hr : Room j X.A) (hk : k + 2 ≤ j) (hl : DE X g l tl) (hs : starEach [l] X.env = [(false, eval l X.env)] := by rfl) : DI X g (.Tuple elts kk tpos) (.Call (.Name "enumerate" p) [l] [] pos) (diEnumO n i tl) := by
  refine ⟨pi_imp (pi_enumO hg hm hl.run d (hr.mono hk) hs) fun σ H R h => ?_⟩
  obtain ⟨S, M, sd, QD, a, q, kk⟩ := h
  refine ⟨S, M, sd, _, a, q, fun d M1 v S1 H1 q1 e1 r1 i1 => ?_⟩
  obtain ⟨b, dx, vs, d', u, rfl, hsl, hu, iu, ds, rfl, q2⟩ := FldOf.at q1 r1 i1
  cases iu with
  | @lst l ws _ s il =>
    refine ⟨b, dx, vs, l, ws, rfl, hsl, hu, SqL.of (r1.same _ _ s), kk _ none M1 S1 H1 _ q2 e1 r1 fun F _ => ⟨fun i S2 M H e r _ hi => ?_, fun i S2 M H e r _ hi => ?_, fun i S2 M H x H' e r _ hi y => ?_⟩⟩
    · rw [enD_len] at hi
      have hl := il.length
      exact ⟨ws, ws[i]'(by omega), (e.trans r.same).seq (SqL.of s), by simp⟩
    · rw [enD_len] at hi
      exact ⟨ws, (e.trans r.same).seq (SqL.of s), by rw [il.length]; exact hi⟩
    · obtain ⟨T, z, rfl, hT, rfl, y⟩ := y
      have hx := y ws ((e.trans r.same).seq (SqL.of s))
      obtain ⟨d, hd, id⟩ := il.get' hx
      obtain ⟨S3, e3, r3, i3⟩ := en_step (i := i) r hT (id.mono e)
      exact ⟨S3, _, e3, r3, enD_get hd, i3⟩
end
end DL

/-! DBin2: an operator of two own classes. -/
namespace PySem.W
open PySem PySem.Calls PyProof.Rows
section
variable {prog : Program} {w : World} {A : Around} {E : Value → Shared → Prop} {s : Shared} {K : Frag} {x y C C2 L f f2 : Addr} {h₀ : Heap} {m : Str → Option Value} {ox : Obj} {od : Option Obj}
theorem dl_bin2 {op : Operator} {rc : Option Value} {Q : Value → Shared → Prop} (F : Fr h₀ L s.heap m) (X₀ : K.In h₀) (I : InstAt s.heap x ox C od) (hb : Looks (model prog w) s.heap (typeOf (.ref y)) (.ref C2)) (hc : selfFirst K C = true) (hc2 : selfFirst K C2 = true)
    (hs : findIn K (.ref C) (PySem.dunder op.info.2) = some (some (.ref f))) (hf : isFn K (.ref f) = true) (hr : findIn K (.ref C) (dunderR op.info.2) = some rc) (hp : rc = none ∨ ∃ g : Addr, rc = some (.ref g))
    (hs2 : findIn K (.ref C2) (PySem.dunder op.info.2) = some (some (.ref f2))) (hr2 : findIn K (.ref C2) (dunderR op.info.2) = some none) (hsub : subIn K (.ref C2) (.ref C) = some false) (hne : C ≠ C2)
    (h : wpAny (model prog w) A (call (.ref f) [.ref x, .ref y]) (CmpBack Q) E s) : wpAny (model prog w) A (binaryOp op (.ref x) (.ref y)) Q E s := by
  have X := X₀.keeps F.keep
  obtain ⟨cd, rest, hcd, hm⟩ := ksp_first hc
  obtain ⟨cd2, rest2, hcd2, hm2⟩ := ksp_first hc2
  rcases hi : op.info with ⟨sym, nm'⟩
  rw [hi] at hs hr hs2 hr2
  dsimp only at hs hr hs2 hr2
  have one := ksp_try X I hs hf h
  obtain ⟨hh, g, d, tt, os⟩ := s
  have L1 : Looks (model prog w) hh (typeOf (.ref x)) (.ref C) := I.type
  have L2 : Looks (model prog w) hh (typeOf (.ref y)) (.ref C2) := hb
  have L3 : Looks (model prog w) hh (fillsNumberSlot (.ref C) nm') true := fills_K X hcd hm hs
  have L4 : Looks (model prog w) hh (fillsNumberSlot (.ref C2) nm') true := fills_K X hcd2 hm2 hs2
  have L5 : Looks (model prog w) hh (isSubtype (.ref C2) (.ref C)) false := looks_subIn X hsub
  have L6 : Looks (model prog w) hh (numberSlotInPython (.ref C) nm') true := ksp_inPy X hs hr hp
  have L7 : Looks (model prog w) hh (numberSlotInPython (.ref C2) nm') true := ksp_inPy X hs2 hr2 (.inl rfl)
  have L8 : Looks (model prog w) hh (typeLookup (.ref C2) (dunderR nm')) none := looks_findIn X hr2
  have hne : (Value.ref C == Value.ref C2) = false := Bool.eq_false_iff.mpr fun q => by cases beq_iff_eq.mp q; exact hne rfl
  simp only [binaryOp, hi]
  refine wpAny_holding (wpAny_bind ?_)
  unfold binaryOp1
  refine wpAny_bind (L1.at (wpAny_bind (L2.at (wpAny_bind (L3.at ?_)))))
  simp only [hne, Bool.false_eq_true, if_false]
  ksp_lk
  refine wpAny_mono one (fun r s' hr' => ?_) fun _ _ e => e
  obtain ⟨v, rfl, hq⟩ := hr'
  ksp_lk
  exact hq
end
end PySem.W
namespace DL
open PySem PySem.Spec PyProof.Rows L2
/-- what an operator asks of the two classes -/
structure Two (K : PySem.W.Frag) (C C2 : Addr) (nm : String) : Prop where
  r1 : PySem.W.findIn K (.ref C) (PySem.dunderR nm) = some none
  a2 : ∃ f : Addr, PySem.W.findIn K (.ref C2) (PySem.dunder nm) = some (some (.ref f))
  r2 : PySem.W.findIn K (.ref C2) (PySem.dunderR nm) = some none
  sub : PySem.W.subIn K (.ref C2) (.ref C) = some false
  ne : C ≠ C2
def dBinO2 [Cl] (n n2 : PySem.Str) (sp : DSp) : DR2 := fun x y M Q => InsOf x M (cA n) ∧ InsOf y M (cA n2) ∧ sp [x, y] M Q fun _ _ _ => False
section
variable {X : Cx} {k j : Nat} {sp : DSp} [Cl] {n n2 : PySem.Str}
theorem dop_binO2 {op : Operator} (hc : PySem.W.selfFirst X.K (cA n) = true) (hc2 : PySem.W.selfFirst X.K (cA n2) = true) (tw : Two X.K (cA n) (cA n2) op.info.2) (d : DSpc X.prog X.w X.K X.mg X.base k (cA n) (PySem.dunder op.info.2) sp) (hr : Room j X.A) (hk : k ≤ j) : OpR X (binaryOp op) (liftR2 X.K (dBinO2 n n2 sp)) := by
  obtain ⟨gf, hs, hf, F⟩ := d.ex
  obtain ⟨f2, h2⟩ := tw.a2
  intro pins s σ H x y v u Q I rx ry h
  obtain ⟨Fh, S, M, dx, dy, QD, rep, ix, iy, ⟨hi, hi2, hr'⟩, hq⟩ := h
  obtain ⟨b, dxx, vs, rfl, hsl⟩ := hi.at rep ix
  obtain ⟨b2, dxx2, vs2, rfl, hsl2⟩ := hi2.at rep iy
  obtain rfl : v = Value.ref b := rx
  obtain rfl : u = Value.ref b2 := ry
  obtain ⟨sl, od, _, J, _⟩ := SlX.slt_inst I hsl
  obtain ⟨sl2, od2, _, J2, _⟩ := SlX.slt_inst I hsl2
  obtain ⟨m, hF⟩ := I.fr
  refine PySem.W.dl_bin2 hF I.ok.mod.kin J J2.type hc hc2 hs hf tw.r1 (.inl rfl) h2 tw.r2 tw.sub tw.ne (wpAny_mono (wpAny_call (run_fnR (us := [.ref b, .ref b2]) (vs := [.ref b, .ref b2]) F (hr.mono hk) passes_noE I (.cons rfl (.cons rfl .nil)) (lift_no rep (.cons ix (.cons iy .nil)) hr' fun d M' v S' H' q' e' r' i' => hq _ _ _ _ _ q' e' r' i'))) (fun w s' z => ?_) fun _ _ x => x)
  obtain ⟨z', H', I', rz, qz⟩ := z
  exact SlX.cmpback rz ⟨z', H', I', rz, qz⟩
end
open He in
open He in
theorem fTwo_ok {K : PySem.W.Frag} {x y : PySem.Str} {nm : String} (c : fTwo x y nm K = true) : Two K (ga K x) (ga K y) nm := by
  obtain ⟨c1, c⟩ := ba c
  obtain ⟨c2, c⟩ := ba c
  obtain ⟨c3, c⟩ := ba c
  obtain ⟨c4, c5⟩ := ba c
  refine ⟨eqO_ok c1, ?_, eqO_ok c3, of_decide_eq_true c4, of_decide_eq_true c5⟩
  split at c2
  · rename_i f e
    exact ⟨f, e⟩
  · cases c2
end DL

/-! DGet: o[i], an own __getitem__. -/
namespace DL
open PySem PySem.Spec PyProof.Rows L2
structure DGi (P : Program) (w : World) (K : PySem.W.Frag) (mg : PySem.Str → Option Value) (base : Heap) (k : Nat) (C : Addr) (sp : DSp) : Prop where
  ex : ∃ g, PySem.W.findIn K (.ref C) "__getitem__" = some (some (.ref g)) ∧ PySem.W.isFn K (.ref g) = true ∧ PySem.W.fnIn K g = true ∧ FnR P w K mg base (EX P w) k g (liftSp K sp)
@[reducible] def dGetO [Cl] (n : PySem.Str) (sp : DSp) (te ty : DTE) : DTE := fun σ M Q => te σ M fun x M1 => ty σ M1 fun y M2 => InsOf x M2 (cA n) ∧ sp [x, y] M2 Q fun _ _ _ => False
section
variable {X : Cx} {g : Gr} {k j : Nat} {sp : DSp} {pos : Pos} {o i : Expr} {td ty : TE} {te tyD : DTE} [Cl] {n : PySem.Str}
theorem pe_getO {C gf : Addr} {sp : Sp} (ho : PE X o td) (hi : PE X i ty) (hs : PySem.W.findIn X.K (.ref C) "__getitem__" = some (some (.ref gf))) (hf : PySem.W.isFn X.K (.ref gf) = true) (hfn : PySem.W.fnIn X.K gf = true) (F : FnR X.prog X.w X.K X.mg X.base (EX X.prog X.w) k gf sp) (hr : Room (k + 1) X.A)
    (hsl : ∀ x v, subscripted i true (.ref x) v = runValue (.builtin "lifetime.subscript" ⟨[.ref x, v], []⟩) := by intro _ _; with_unfolding_all rfl) :
    PE X (.Subscript o i pos) (fun σ H Q => td σ H fun x H1 => ty σ H1 fun y H2 => ∃ a dx sl, x = .ref a ∧ SlX.Slt H2 a C dx sl ∧ sp [.ref a, y] H2 Q noE) := by
  refine ⟨fun pins s σ H Q I h => ?_⟩
  refine Subscript_ (thn (ho.run pins s σ H _ I h) fun u s1 ⟨x, H1, I1, rx, q1⟩ => thn (hi.run pins s1 σ H1 _ I1 q1) fun iv s2 ⟨y, H2, I2, ry, a, dx, sl, ex, hslt, q2⟩ => ?_)
  subst ex
  obtain rfl : u = Value.ref a := rx
  obtain ⟨sl', od, _, J, _⟩ := SlX.slt_inst I2 hslt
  obtain ⟨m, hF⟩ := I2.fr
  have sb : Sub X k X.A.in1 := Sub.in1 (⟨hr, rfl⟩ : Sub X (k + 1) X.A)
  exact PySem.W.sub_K hF I2.ok.mod.kin J hs hfn hf (wpAny_mono (run_no (us := [.ref a, iv]) (ws := [.ref a, y]) F sb I2 (.cons rfl (.cons ry .nil)) q2) (fun _ _ z => z) fun _ _ z => z) (hsl a iv)
theorem de_getO (d : DGi X.prog X.w X.K X.mg X.base k (cA n) sp) (hr : Room j X.A) (hk : k + 1 ≤ j) (ho : DE X g o te) (hi : DE X g i tyD)
    (hsl : ∀ x v, subscripted i true (.ref x) v = runValue (.builtin "lifetime.subscript" ⟨[.ref x, v], []⟩) := by intro _ _; with_unfolding_all rfl) : DE X g (.Subscript o i pos) (dGetO n sp te tyD) := by
  obtain ⟨gf, hs, hf, hfn, F⟩ := d.ex
  refine ⟨pe_imp (pe_getO ho.run hi.run hs hf hfn F (hr.mono hk) hsl) fun σ H Q h => ?_⟩
  obtain ⟨S, M, sd, QD, a, q, kk⟩ := h
  refine ⟨S, M, sd, _, a, q, fun d M1 v S1 H1 q1 e1 r1 i1 => ?_⟩
  refine ⟨S1, M1, sd, _, a.step e1 r1, q1, fun y M2 u S2 H2 q2 e2 r2 i2 => ?_⟩
  obtain ⟨hi2, q2⟩ := q2
  obtain ⟨b, dx, vs, rfl, hsl2⟩ := hi2.at r2 (i1.mono e2)
  exact ⟨b, dx, vs, rfl, hsl2, lift_no r2 (.cons (i1.mono e2) (.cons i2 .nil)) q2 fun d M' v S' H' q' e' r' i' => kk _ _ _ _ _ q' ((e1.trans e2).trans e') r' i'⟩
end
end DL

/-! DExc: an own error whose __init__ says super().__init__(text) and stores its arguments: made. -/
namespace PySem.W
open PySem PySem.Calls PyProof.Rows PySem.HandSPX
section
variable {prog : Program} {w : World} {A : Around} {E : Value → Shared → Prop} {h : Heap} {g : Array GenState} {d : Drawn} {t : Nat} {os : OsState}
variable {nm q : Str} {C N : Addr} {bs bm : List Value} {hdct : Bool} {sn : List Str} {sub : List Value} {ab : Bool} {col : Option Bool} {dd : Option Addr} {k0 k1 k2 k3 k5 : Option Value}
theorem dx_call_bw {u e t0 : Addr} {rest : List Value} {Q : Value → Shared → Prop}
    (hC : h.get? C = some (excClassObj nm q C N bs bm hdct sn sub ab col dd k0 k1 k2 k3 k5 "ValueError.__new__")) (he : h.get? e = some (excO C t0)) (hu : h.get? u = some (kxs_mw "ValueError.__init__" e)) (hrest : rest.length ≤ sizeLine)
    (hq : ∀ h' t1, (∀ b o, b ≠ e → h.get? b = some o → h'.get? b = some o) → h'.get? e = some (excO C t1) → Q .none ⟨h', g, d, t, os⟩) :
    wpAny (model prog w) A (call (.ref u) rest) Q E ⟨h, g, d, t, os⟩ := by
  refine wpAny_call (codeAny_of_tree ?_)
  show wpAny _ A.in1 (callAny (.ref u) ⟨rest, []⟩) _ _ _
  simp only [callAny]
  refine wpAny_bind (wpAny_load hu ?_)
  simp only [kxs_mw, show (Value.type "method-wrapper" == Value.type "method" || Value.type "method-wrapper" == Value.type "builtin_function_or_method" || Value.type "method-wrapper" == Value.type "method-wrapper") = true by decide, if_true]
  refine W.KFB.if_so (by decide) ?_
  refine wpAny_bind (check_bound_init F.excBase_ValueError.toExcCallFacts hC he rfl ?_)
  refine wpAny_bind (wpAny_pure (wpAny_pure ?_))
  refine ⟨Code.quiet_builtin _ (by decide +kernel), codeAny_builtin F.excBase_ValueError.initEntry ?_⟩
  rw [Around.under_plainId F.excBase_ValueError.init.plain _]
  wp_walk
  refine hq _ h.objs.size (fun b o hb ho => ?_) ?_
  · rw [Heap.get?_update_other _ _ (Ne.symm hb)]
    exact Heap.get?_push_of_some _ ho
  · rw [Heap.get?_update_self _ (Heap.get?_push_of_some _ he) rfl]
    rfl
end
/-- self.f = f -/
inductive ErrSet : Stmt → Str → Prop
  | mk (f : Str) (q0 q1 q2 q3 : Pos) : ErrSet (.Assign [.Attribute (.Name "self" q0) f q1] (.Name f q2) q3) f
/-- super().__init__(text); self.f = f; .. -/
inductive ErrBody : List Stmt → List Str → Prop
  | one {s1 : Stmt} {f : Str} (msg : Str) (k : Nat) (p0 p1 p2 p3 p4 p5 : Pos) (hp : (p2.endLine == p4.line) = true) : ErrSet s1 f → ErrBody [.Expr (.Call (.Attribute (.Call (.Name "super" p0) [] [] p1) "__init__" p2) [.Constant (.str msg) k p3] [] p4) p5, s1] [f]
  | two {s1 s2 : Stmt} {f f2 : Str} (msg : Str) (k : Nat) (p0 p1 p2 p3 p4 p5 : Pos) (hp : (p2.endLine == p4.line) = true) : ErrSet s1 f → ErrSet s2 f2 → ErrBody [.Expr (.Call (.Attribute (.Call (.Name "super" p0) [] [] p1) "__init__" p2) [.Constant (.str msg) k p3] [] p4) p5, s1, s2] [f, f2]
/-- what the def must have -/
structure ErrDef (params : Arguments) (body : List Stmt) (scope : Scope) (fs : List Str) : Prop where
  bodyOk : ErrBody body fs
  self : ∃ ar, (params.posonlyargs ++ params.args).head? = some ar ∧ ar.arg = "self"
  kind : scope.kind = .function
  co : scope.isCoroutine = false
  gen : scope.isGenerator = false
  cell : ∀ x ∈ scope.names, x.2 ≠ .cell
  sup : scope.names.lookup ("super" : Str) = some .globalImplicit
  cls : scope.names.lookup ("__class__" : Str) = some .free
  slf : scope.names.lookup ("self" : Str) = some .local
  loc : ∀ f ∈ fs, scope.names.lookup f = some .local
  nd : (("self" : Str) :: fs).Nodup
  dbg : ∀ f ∈ fs, (f == ("__debug__" : Str)) = false
  bind : ∀ (qual : Str) (kV doc pm : Value) (an : Option Addr) (cdv ct : Value) (cc : Addr) (us : List Value), us.length = fs.length + 1 → bindArgs (ksFn "__init__" qual params body scope .none kV doc pm an cdv ct cc) ⟨us, []⟩ = pure ((("self" : Str) :: fs).zip us)
/-- what the written part says of the class -/
structure ErrK (prog : Program) (K : Frag) (C : Addr) (fs : List Str) : Prop where
  o : L2.OexC K C
  fn : ∃ fI cc cda : Addr, findIn K (.ref C) "__init__" = some (some (.ref fI)) ∧ typeIn K (.ref fI) = some (.type "function") ∧
    (∃ oc od osl qual params body scope kV doc pm an ct, K.lookup fI = some ⟨oc, od, .func (ksFn "__init__" qual params body scope .none kV doc pm an (.ref cda) ct cc), osl⟩ ∧ codeIn K (.ref cda) qual = true ∧ ErrDef params body scope fs) ∧
    (∃ ccl cdd vs ccs file tf, K.lookup cda = some ⟨ccl, cdd, .fields vs, ccs⟩ ∧ vs[2]? = some (.str file tf) ∧ ((prog.main.file : Str) == file) = true) ∧ ∃ cl cld csl, K.lookup cc = some ⟨cl, cld, .cell (some (.ref C)), csl⟩
  sup : ks_superIn K C C "__init__" = some (some (.builtin "ValueError.__init__"))
  ve : subIn K (.ref C) (.type "ValueError") = some true
  me : mroIn K C (.ref C) = some true
  any : nsIn K cStatics "thirdparty.any" = some none
  no : ∀ f ∈ fs, findIn K (.ref C) f = some none
  nt : (prog.main.scope.names.lookup ("super" : Str)).isSome = false
/-- the fields, the last one first -/
def errNs (fs : List Str) (us : List Value) : List (Str × Value) := (fs.zip us).reverse
abbrev excD (C t : Addr) (d : Option Addr) : Obj := { cls := .ref C, dict := d, data := .fields #[.ref t, .none, .none, .none, .bool false, .none] }
section
variable {prog : Program} {w : World} {A : Around} {K : Frag} {h : Heap} {g : Array GenState} {d : Drawn} {t : Nat} {os : OsState} {C : Addr} {fs : List Str} {mg mb : Str → Option Value}
theorem nd_self {f : Str} {fs : List Str} (n : (("self" : Str) :: fs).Nodup) (hf : f ∈ fs) : f ≠ "self" := fun z => by
  subst z
  exact (List.nodup_cons.mp n).1 hf
/-- one store -/
theorem dx_set {e : Addr} {m : Str → Option Value} {env : Env} {st : Stmt} {f : Str} {u : Value} {Q : Flow → Shared → Prop} {E : Value → Shared → Prop} (S : ErrSet st f) (hn : h.Ns env.locals m) (hu : m f = some u) (hs : m "self" = some (.ref e)) (hk : env.scope.kind = .function) (hl : env.kindOf f = some .local) (hl2 : env.kindOf "self" = some .local) (hd : (f == ("__debug__" : Str)) = false)
    (hq : wpAny (model prog w) A (setAttr (.ref e) f u) (fun _ => Q .next) E ⟨h, g, d, t, os⟩) : wpAny (model prog w) A (exec st env) Q E ⟨h, g, d, t, os⟩ := by
  cases S with
  | mk q0 q1 q2 q3 =>
    refine plainObj_wpAny_Assign_Attribute (ESX.ldL hn hu ?_ hk hl hd)
    exact ESX.ldL hn hs hq hk hl2 (by decide)

theorem dx_methodCall {M : Model} {A : Around} {E : Value → Shared → Prop} {s : Shared} {env : Env} {c : Code} {o e1 : Expr} {name : Str} {apos pos : Pos} {Q : Value → Shared → Prop} (hp : (apos.endLine == pos.line) = true)
    (h : wpAt M A c (attributeBase o name env (eval o env)) (fun ov s₁ => wpAny M A (getMethod ov name (do return (← importBound o env).getD true)) (fun fx s₂ => wpAny M A (callWith pos fx.1 fx.2 (backTo pos (starEach [e1] env)) []) Q E s₂) E s₁) E s)
    (hf : methodCallForm 1 (backTo pos (starEach [e1] env)) [] = true)
    (he : eval (.Call (.Attribute o name apos) [e1] [] pos) env = (do
      let ov ← attributeBase o name env (eval o env)
      standAt apos.atName
      methodCall o name apos pos env ov 1 (backTo pos (starEach [e1] env)) []) := by rfl) :
    wpAt M A c (eval (.Call (.Attribute o name apos) [e1] [] pos) env) Q E s := by
  rw [he]
  refine wpAt_bind (wpAt_mono h (fun ov s₁ h₁ => wpAt_of_wpAny (wpAny_bind (wpAny_standAt ?_))) fun _ _ x => x)
  unfold methodCall
  rw [hf]
  refine wpAny_bind (wpAny_holding (wpAny_mono h₁ (fun fx s₂ h₂ => ?_) fun _ _ x => x))
  unfold methodCallPos
  rw [if_pos (by rw [hp]; rfl)]
  exact wpAny_bind (wpAny_pure h₂)
/-- the init's frame, up to what follows super().__init__(text) -/
theorem dx_super {L e t0 fI cc cda : Addr} {m : Str → Option Value} {qual : Str} {params : Arguments} {body rest : List Stmt} {scope : Scope} {kV doc pm ct oc ccl cl : Value} {an od cdd cld : Option Addr} {osl ccs csl : Array (Option Value)} {vs : Array Value} {file msg : Str} {tf : Tok} {k : Nat} {p0 p1 p2 p3 p4 p5 : Pos}
    {Q : Flow → Shared → Prop} {E : Value → Shared → Prop} {whole : List Stmt} (T : ErrK prog K C fs) (D : ErrDef params body scope fs) (X : K.In h) (hg : h.Ns mainGlobals mg) (hmg : mg "super" = none) (hb : h.Ns builtinsNs mb) (hmb : mb "super" = some (.type "super"))
    (lk : K.lookup fI = some ⟨oc, od, .func (ksFn "__init__" qual params body scope .none kV doc pm an (.ref cda) ct cc), osl⟩) (lc : K.lookup cda = some ⟨ccl, cdd, .fields vs, ccs⟩) (hvs : vs[2]? = some (.str file tf)) (hfile : ((prog.main.file : Str) == file) = true) (lx : K.lookup cc = some ⟨cl, cld, .cell (some (.ref C)), csl⟩)
    (he : h.get? e = some (excD C t0 none)) (hn : h.Ns L m) (hm : m "self" = some (.ref e)) (hp : (p2.endLine == p4.line) = true)
    (hq : ∀ h' t1 tk, (∀ b o, b ≠ e → h.get? b = some o → h'.get? b = some o) → h'.get? e = some (excD C t1 none) → wpAny (model prog w) A (execs rest (ksEnv qual scope L fI (.ref cda) cc)) Q E ⟨h', g, d, tk, os⟩) :
    wpAt (model prog w) A (.func whole (ksEnv qual scope L fI (.ref cda) cc)) (execs (.Expr (.Call (.Attribute (.Call (.Name "super" p0) [] [] p1) "__init__" p2) [.Constant (.str msg) k p3] [] p4) p5 :: rest) (ksEnv qual scope L fI (.ref cda) cc)) Q E ⟨h, g, d, t, os⟩ := by
  obtain ⟨ar, har, har2⟩ := D.self
  obtain ⟨nm, q, N, bs, bm, sn, sub, ab, col, dd, k0, k1, k2, k3, k5, hC, hbm⟩ := T.o.cls
  have hD1 := X _ _ hC
  obtain ⟨cd, hcd⟩ : ∃ cd, clsIn K C = some cd := ⟨_, by unfold clsIn; rw [hC]⟩
  have hks : (ksEnv qual scope L fI (.ref cda) cc).kindOf "super" = some .globalImplicit := D.sup
  have hkc : (ksEnv qual scope L fI (.ref cda) cc).kindOf "__class__" = some .free := D.cls
  have hkn : (ksEnv qual scope L fI (.ref cda) cc).scope.kind = .function := D.kind
  have hi : interactive (ksEnv qual scope L fI (.ref cda) cc) = false := by unfold interactive; simp [D.kind]
  have hlf := X _ _ lk
  have hlc := X _ _ lc
  refine ks_wpAt_execs_cons (ks_wpAt_Expr_any (dx_methodCall hp ?_ rfl) hi)
  refine ks_wpAt_super_base hks hkc rfl rfl hlf rfl har rfl hlc rfl hvs hfile T.nt ?_
  refine ks_loadName_global hkn hks (loadGlobal_builtin (env := ksEnv qual scope L fI (.ref cda) cc) hg hmg hb hmb ⟨rfl, ?_⟩)
  refine wpAny_loadName_free hkn hkc rfl ⟨_, X _ _ lx, rfl⟩ ?_
  rw [har2]
  refine wpAny_loadName_local hkn D.slf hn hm ?_
  refine ks_wpAny_isType_cls hD1 rfl ⟨rfl, ?_⟩
  refine ks_wpAny_call_super hD1 rfl he rfl (fun c z => by cases z) (looks_mroIn X T.me) (fun h1 hso k1 => ?_)
  have X1 : K.In h1 := X.keeps k1
  have he1 := k1 _ _ he
  have I1 : InstAt h1 e (excD C t0 none) C none := ⟨he1, rfl, rfl, trivial⟩
  have hI : Looks (model prog w) h1 (isInstance (.ref e) (.type "ValueError")) true := I1.type.andThen (looks_subIn X1 T.ve)
  have hsup := T.sup
  unfold ks_superIn at hsup
  rw [hcd] at hsup
  refine kxs_getMethod kxs_ValueError hso (looks_opaque X1 T.any) (l₀ := cd.mro) (fun A Q E s k q => wpAny_bind ((looks_clsIn X1 hcd) A _ E s k (wpAny_pure q))) rfl X1 hsup hI (ks_ne X1 I1 hcd) rfl ?_
  have k2 : ∀ b o, h1.get? b = some o → (h1.push (kxs_mw "ValueError.__init__" e)).get? b = some o := fun b o z => Heap.get?_push_of_some _ z
  have hu : (h1.push (kxs_mw "ValueError.__init__" e)).get? h1.objs.size = some (kxs_mw "ValueError.__init__" e) := Heap.get?_push_at rfl rfl
  refine kxs_callWith (i := "ValueError.__init__") (x := e) (by rfl) (evalArgs_plain ?_)
  refine spliced_more (Calls.Constant_str ?_)
  refine spliced_none ⟨hu, ?_⟩
  refine dx_call_bw (k2 _ _ (k1 _ _ hD1)) (k2 _ _ he1) hu (by show 1 ≤ sizeLine; rw [sizeLine_eq]; omega) fun h2 t1 k3 he2 => ?_
  refine wpAt_of_wpAny (hq h2 t1 _ (fun b o hb ho => k3 b o hb (k2 _ _ (k1 _ _ ho))) he2)
/-- the init's end: the fields stand -/
def ErrNs (dx : Addr) (h : Heap) : List Str → List Value → Prop
  | [f], [u] => h.Ns1 dx (fun y => if y = f then some u else none)
  | [f, f2], [u, u2] => h.Ns1 dx (fun y => if y = f2 then some u2 else if y = f then some u else none)
  | _, _ => False
theorem dx_setattr {e t0 : Addr} {f : Str} {u : Value} {Q : Unit → Shared → Prop} {E : Value → Shared → Prop} (T : ErrK prog K C fs) (X : K.In h) (he : h.get? e = some (excD C t0 none)) (hf : f ∈ fs)
    (hq : ∀ h' tk dx, (∀ b o, b ≠ e → h.get? b = some o → h'.get? b = some o) → h.objs.size ≤ dx → dx ≠ e → h'.get? e = some (excD C t0 (some dx)) → h'.Ns1 dx (fun y => if y = f then some u else none) → Q () ⟨h', g, d, tk, os⟩) :
    wpAny (model prog w) A (setAttr (.ref e) f u) Q E ⟨h, g, d, t, os⟩ := by
  obtain ⟨nm, q, N, bs, bm, sn, sub, ab, col, dd, k0, k1, k2, k3, k5, hC, hbm⟩ := T.o.cls
  have hcl : clsIn K C = some { name := nm, bases := bs, mro := .ref C :: bm, ns := N, qualname := q, hasDict := true, slotNames := sn, subclasses := sub, abstract := ab, collection := col, hasDel := false } := by unfold clsIn; rw [hC]
  refine set_plain X (ox := excD C t0 none) (od := none) ⟨he, rfl, rfl, trivial⟩ T.o.sa ?_
  refine exc_osa X he hcl (show refsVE (.ref C :: bm) = true from hbm) rfl (T.no f hf) (fun h' tk' dx k dn dne hx hn => ?_)
  exact hq h' tk' dx k dn dne hx hn
theorem dx_setattr2 {e t0 dx : Addr} {f : Str} {u : Value} {m0 : Str → Option Value} {nl : List Str} {Q : Unit → Shared → Prop} {E : Value → Shared → Prop} (T : ErrK prog K C fs) (X : K.In h) (he : h.get? e = some (excD C t0 (some dx))) (hf : f ∈ fs) (hns : h.Ns1 dx m0) (hw : Within m0 nl) (hz : nl.length ≤ 1000)
    (hq : ∀ h' tk, (∀ b o, b ≠ dx → h.get? b = some o → h'.get? b = some o) → h'.Ns1 dx (fun y => if y = f then some u else m0 y) → Q () ⟨h', g, d, tk, os⟩) :
    wpAny (model prog w) A (setAttr (.ref e) f u) Q E ⟨h, g, d, t, os⟩ := by
  obtain ⟨nm, q, N, bs, bm, sn, sub, ab, col, dd, k0, k1, k2, k3, k5, hC, hbm⟩ := T.o.cls
  have hcl : clsIn K C = some { name := nm, bases := bs, mro := .ref C :: bm, ns := N, qualname := q, hasDict := true, slotNames := sn, subclasses := sub, abstract := ab, collection := col, hasDel := false } := by unfold clsIn; rw [hC]
  obtain ⟨oD, _, _, hoD, _, _⟩ := hns.count hw
  refine set_plain X (ox := excD C t0 (some dx)) (od := some oD) ⟨he, rfl, rfl, hoD⟩ T.o.sa ?_
  refine OEX.osa_old X he hns hw hz hcl (show refsVE (.ref C :: bm) = true from hbm) rfl (T.no f hf) (fun h' tk' k hn => ?_)
  exact hq h' tk' k hn
theorem within_one {f : Str} {u : Value} : Within (fun y : Str => if y = f then some u else none) [f] := fun y hy => by
  by_cases e : y = f
  · simp [e]
  · have hy' : (if y = f then some u else none) ≠ none := hy
    rw [if_neg e] at hy'; exact absurd rfl hy'
/-- the init called -/
theorem dx_init {fI e t0 : Addr} {us : List Value} {R : Result → Shared → Prop} (T : ErrK prog K C fs) (hfI : findIn K (.ref C) "__init__" = some (some (.ref fI))) (X : K.In h) (hg : h.Ns mainGlobals mg) (hmg : mg "super" = none) (hb : h.Ns builtinsNs mb) (hmb : mb "super" = some (.type "super")) (lim : h.NoLimit) (room : A.depth < recursionLimit) (hKe : K.lookup e = none)
    (he : h.get? e = some (excD C t0 none)) (hl : us.length = fs.length)
    (hq : ∀ h' t1 tk dx, (∀ b o, b ≠ e → h.get? b = some o → h'.get? b = some o) → h'.get? e = some (excD C t1 (some dx)) → h.get? dx = none → dx ≠ e → ErrNs dx h' fs us → R (.ok (.ret .none)) ⟨h', g, d, tk, os⟩) :
    codeAny (model prog w) A (.call (.ref fI) ⟨.ref e :: us, []⟩) R ⟨h, g, d, t, os⟩ := by
  obtain ⟨fI2, cc, cda, hf2, _, ⟨oc, od, osl, qual, params, body, scope, kV, doc, pm, an, ct, lk, hcd, D⟩, ⟨ccl, cdd, vs, ccs, file, tf, lc, hvs, hfile⟩, cl, cld, csl, lx⟩ := T.fn
  obtain rfl : fI = fI2 := by
    have z := hf2.symm.trans hfI
    simpa using z.symm
  have ND := D.nd
  refine ks_codeAny_call_defAt (fd := ksFn "__init__" qual params body scope .none kV doc pm an (.ref cda) ct cc) (body := body) (binds := (("self" : Str) :: fs).zip (.ref e :: us)) room (X _ _ lk) rfl lim (codeRec_of X hcd) rfl (.of_eq (D.bind qual kV doc pm an (.ref cda) ct cc (.ref e :: us) (by simp [hl]))) D.cell ?_ (fun h₁ hns hk₁ => ?_) D.co D.gen D.kind
  · intro y hy
    have := (List.of_mem_zip hy).1
    rcases List.mem_cons.mp this with z | z
    · rw [z]; exact D.slf
    · exact D.loc _ z
  have X1 : K.In h₁ := X.keeps hk₁
  have he1 := hk₁ _ _ he
  have hle : h.objs.size ≠ e := Ne.symm (Nat.ne_of_lt (Heap.lt_size he))
  have hB := D.bodyOk
  have inK : ∀ {h2 : Heap}, (∀ b o, b ≠ e → h₁.get? b = some o → h2.get? b = some o) → K.In h2 := fun {h2} k2 a o z => k2 a o (fun y => by rw [y, hKe] at z; cases z) (X1 a o z)
  have free : ∀ {h2 : Heap} {dx : Addr}, (∀ b o, b ≠ e → h₁.get? b = some o → h2.get? b = some o) → h2.objs.size ≤ dx → dx ≠ e → h.get? dx = none := fun {h2 dx} k2 hd ne => by
    cases z : h.get? dx with
    | none => rfl
    | some o => exact absurd (Heap.lt_size (k2 _ _ ne (hk₁ _ _ z))) (Nat.not_lt.mpr hd)
  match fs, us, body, hB, hl with
  | [f], [u], _, .one msg k p0 p1 p2 p3 p4 p5 hp S1, _ =>
    have nf : f ≠ "self" := nd_self ND (by simp)
    have bf : (("self" : Str) == f) = false := by simpa using Ne.symm nf
    have m1 : List.lookup ("self" : Str) (([("self" : Str), f].zip [Value.ref e, u]).reverse) = some (.ref e) := by
      show List.lookup ("self" : Str) [(f, u), (("self" : Str), Value.ref e)] = _
      simp [List.lookup, bf]
    have m2 : List.lookup f (([("self" : Str), f].zip [Value.ref e, u]).reverse) = some u := by
      show List.lookup f [(f, u), (("self" : Str), Value.ref e)] = _
      simp [List.lookup]
    refine dx_super T D X1 (hg.keeps hk₁) hmg (hb.keeps hk₁) hmb lk lc hvs hfile lx he1 hns m1 hp fun h2 t1 tk k2 he2 => ?_
    have hns2 := hns.at' fun o z => k2 _ _ hle z
    refine wpAny_execs_cons (dx_set (env := ksEnv qual scope h.objs.size fI (.ref cda) cc) S1 hns2 m2 m1 D.kind (D.loc f (by simp)) D.slf (D.dbg f (by simp)) ?_)
    refine dx_setattr T (inK k2) he2 (by simp) fun h3 tk3 dx k3 hdx hne he3 hn3 => ?_
    exact wpAny_execs_nil (hq h3 t1 tk3 dx (fun b o ne z => k3 b o ne (k2 b o ne (hk₁ b o z))) he3 (free k2 hdx hne) hne hn3)
  | [f, f2], [u, u2], _, .two msg k p0 p1 p2 p3 p4 p5 hp S1 S2, _ =>
    have nf : f ≠ "self" := nd_self ND (by simp)
    have nf2 : f2 ≠ "self" := nd_self ND (by simp)
    have nff : f ≠ f2 := by
      have := (List.nodup_cons.mp ND).2
      simp at this
      exact this
    have bf : (("self" : Str) == f) = false := by simpa using Ne.symm nf
    have bf2 : (("self" : Str) == f2) = false := by simpa using Ne.symm nf2
    have bff : (f == f2) = false := by simpa using nff
    have m1 : List.lookup ("self" : Str) (([("self" : Str), f, f2].zip [Value.ref e, u, u2]).reverse) = some (.ref e) := by
      show List.lookup ("self" : Str) [(f2, u2), (f, u), (("self" : Str), Value.ref e)] = _
      simp [List.lookup, bf, bf2]
    have m2 : List.lookup f (([("self" : Str), f, f2].zip [Value.ref e, u, u2]).reverse) = some u := by
      show List.lookup f [(f2, u2), (f, u), (("self" : Str), Value.ref e)] = _
      simp [List.lookup, bff]
    have m3 : List.lookup f2 (([("self" : Str), f, f2].zip [Value.ref e, u, u2]).reverse) = some u2 := by
      show List.lookup f2 [(f2, u2), (f, u), (("self" : Str), Value.ref e)] = _
      simp [List.lookup]
    refine dx_super T D X1 (hg.keeps hk₁) hmg (hb.keeps hk₁) hmb lk lc hvs hfile lx he1 hns m1 hp fun h2 t1 tk k2 he2 => ?_
    have hns2 := hns.at' fun o z => k2 _ _ hle z
    refine wpAny_execs_cons (dx_set (env := ksEnv qual scope h.objs.size fI (.ref cda) cc) S1 hns2 m2 m1 D.kind (D.loc f (by simp)) D.slf (D.dbg f (by simp)) ?_)
    refine dx_setattr T (inK k2) he2 (by simp) fun h3 tk3 dx k3 hdx hne he3 hn3 => ?_
    have hfr := free k2 hdx hne
    have k13 : ∀ b o, b ≠ e → h₁.get? b = some o → h3.get? b = some o := fun b o ne z => k3 b o ne (k2 b o ne z)
    have hns3 := hns.at' fun o z => k13 _ _ hle z
    refine wpAny_execs_cons (dx_set (env := ksEnv qual scope h.objs.size fI (.ref cda) cc) S2 hns3 m3 m1 D.kind (D.loc f2 (by simp)) D.slf (D.dbg f2 (by simp)) ?_)
    refine dx_setattr2 T (inK k13) he3 (by simp) hn3 within_one (by simp) fun h4 tk4 k4 hn4 => ?_
    exact wpAny_execs_nil (hq h4 t1 tk4 dx (fun b o ne z => k4 b o (fun y => by rw [y, hfr] at z; cases z) (k13 b o ne (hk₁ b o z))) (k4 _ _ (Ne.symm hne) he3) hfr hne hn4)
end
end PySem.W
namespace DL
open PySem PySem.Spec PyProof.Rows L2
/-! ### the error at the hand layer -/
/-- the fields of a new error, the last one first -/
def fldV (fs : List PySem.Str) (vs : List V) : List (PySem.Str × V) := (fs.zip vs).reverse
def fldD (fs : List PySem.Str) (ds : List D) : List (PySem.Str × D) := (fs.zip ds).reverse
def tMkErr (C : Addr) (fs : List PySem.Str) (ta : TA) : L2.St → Hp → XK → Prop := fun σ H Q => ta σ H fun vs H1 => vs.length = fs.length ∧ ∀ d, H1 d = none → Q (.ref C) (some d) (upd H1 d (.xd (fldV fs vs)))
theorem errNs_rel {dx : Addr} {h : Heap} {fs : List PySem.Str} {us : List Value} {vs : List V} (n : PySem.W.ErrNs dx h fs us) (r : Vals vs us) : ∃ mA, h.Ns1 dx mA ∧ ∀ f, RelO ((fldV fs vs).lookup f) (mA f) := by
  match fs, us, n with
  | [f], [u], n =>
    cases r with
    | cons r1 r2 =>
      cases r2
      exact ⟨_, n, relO_put (fs := []) r1 fun _ => True.intro⟩
  | [f, f2], [u, u2], n =>
    cases r with
    | cons r1 r2 =>
      cases r2 with
      | cons r2 r3 =>
        cases r3
        exact ⟨_, n, relO_put r2 (relO_put (fs := []) r1 fun _ => True.intro)⟩
section
variable {X : Cx} {C : Addr} {fs : List PySem.Str} {x : PySem.Str} {e : Expr} {es : List Expr} {ta : TA} {p pos : Pos} {k : Nat}
theorem pmk5_err (T : PySem.W.ErrK X.prog X.K C fs) (hr : L2H.RoomH k X.A) (hk : 1 ≤ k) (hs : X.mg "super" = none) (hg : Gl X x) (hm : X.mg x = some (.ref C)) (ha : PA X (e :: es) ta)
    (hdb : (x == ("__debug__" : PySem.Str)) = false := by decide) (he : starEach (e :: es) X.env = (false, eval e X.env) :: starEach es X.env := by rfl) (hpl : (backTo pos (starEach es X.env)).any (·.1) = false := by rfl) :
    L2H.PMk5 X (.Call (.Name x p) (e :: es) [] pos) (tMkErr C fs ta) := by
  intro pins s σ H Q I h
  obtain ⟨nm, q, N, bs, bm, sn, sub, ab, col, dd, k0, k1, k2, k3, k5, hC, hbm⟩ := T.o.cls
  obtain ⟨fI, cc, cda, hfI, htI, _⟩ := id T.fn
  refine wpAny_Call_Name_kw (ld_glob I hg hm ?_ hdb)
  refine PySem.W.callWith_K (h₀ := X.base) I.ok.mod.kin T.o.kC (thn (ha.run pos pins s σ H _ I h) fun us s1 ⟨vs, H1, I1, r1, hz, q1⟩ => ⟨I1.kIn, ?_⟩) he hpl
  show wpAny _ _ (call (.ref C) us) _ _ _
  have hus : us.length ≤ sizeLine := by
    rw [← Paired.length r1, hz]
    have : fs.length ≤ 2 := by
      obtain ⟨_, _, _, _, _, ⟨_, _, _, _, _, _, _, _, _, _, _, _, _, _, D⟩, _⟩ := T.fn
      cases D.bodyOk <;> simp
    rw [sizeLine_eq]
    omega
  have hr1 : L2H.RoomH 1 X.A := hr.mono hk
  have hroom := (hr1.make C us []).depth
  have sz := I1.sz
  have e0 := I1.env0
  obtain ⟨mb, hb1, hb2⟩ := I1.ok.mod.blt
  obtain ⟨hp, g, dr, tk, os⟩ := s1
  have kk : ∀ b o, hp.get? b = some o → ((hp.push (PySem.W.kdv_tup us)).push (PySem.HandSPX.excO C hp.objs.size)).get? b = some o := fun b o e => Heap.get?_push_of_some _ (Heap.get?_push_of_some _ e)
  have hget : ((hp.push (PySem.W.kdv_tup us)).push (PySem.HandSPX.excO C hp.objs.size)).get? (hp.objs.size + 1) = some (PySem.HandSPX.excO C hp.objs.size) := by heap_get
  have bk : ∀ b o, X.base.get? b = some o → hp.get? b = some o := fun b o z => (e0.bs b o z).1
  have bk2 : ∀ b o, X.base.get? b = some o → ((hp.push (PySem.W.kdv_tup us)).push (PySem.HandSPX.excO C hp.objs.size)).get? b = some o := fun b o z => kk b o (bk b o z)
  have hnp : hp.get? (hp.objs.size + 1) = none := by
    cases z : hp.get? (hp.objs.size + 1) with
    | none => rfl
    | some o => exact absurd (Heap.lt_size z) (Nat.not_lt.mpr (Nat.le_succ _))
  have hKe : X.K.lookup (hp.objs.size + 1) = none := by
    cases z : X.K.lookup (hp.objs.size + 1) with
    | none => rfl
    | some o =>
      have y := bk _ _ (I1.ok.mod.kin _ _ z)
      rw [hnp] at y
      cases y
  refine wpAny_call (PySem.HandSPX.call_own F.excBase_ValueError (fun Y => PySem.HandSPX.refsVE_contains Y bm hbm) (I1.kIn _ _ hC) (PySem.W.looks_findIn I1.kIn hfI) (fun self => PySem.W.bind_fn I1.kIn self htI) hus
    (PySem.W.dx_init T hfI (I1.kIn.keeps kk) (I1.ok.mod.glob.keeps bk2) hs (hb1.keeps bk2) ((hb2 _ (by decide)).trans PyProof.Rows.Boot.«super») (I1.ok.mod.nolimit.keeps bk2) hroom hKe hget (by rw [← Paired.length r1]; exact hz) fun h2 t1 tk2 dx k2 hx hd hne hns => ?_))
  refine ⟨rfl, ?_⟩
  obtain ⟨mA, hn1, hrel⟩ := errNs_rel hns r1
  have hd0 : hp.get? dx = none := by
    cases z : hp.get? dx with
    | none => rfl
    | some o => rw [kk _ _ z] at hd; cases hd
  have hdH : H1 dx = none := I1.hok.gone hd0
  have hn : H1 (hp.objs.size + 1) = none := I1.hok.gone hnp
  obtain ⟨G, g1', g2'⟩ := restrict h2 fun b => decide (b ≠ hp.objs.size + 1)
  have gk : ∀ b, b ≠ hp.objs.size + 1 → G.get? b = h2.get? b := fun b hb => g1' b (decide_eq_true hb)
  have ge : G.get? (hp.objs.size + 1) = none := g2' _ (by simp)
  have kG : ∀ b o, hp.get? b = some o → G.get? b = some o := fun b o z => by
    have hb : b ≠ hp.objs.size + 1 := fun y => by rw [y, hnp] at z; cases z
    rw [gk b hb]
    exact k2 b o hb (kk b o z)
  have J := I1.laidN (t' := tk2) (a := dx) (o := .xd (fldV fs vs)) (h' := G) kG hd0 hdH ⟨mA, hn1.at fun o y => (gk dx hne).trans y, hrel⟩
  refine ⟨⟨hp.objs.size + 1, _, _, ⟨G, g, dr, tk2, os⟩, _, .ref C, some dx, rfl, J, fun b o z => ?_, ge, hx, ⟨rfl, rfl, fun vs q => by cases q; rfl⟩, rfl, rfl, ?_, rfl, I1.bare, raises_own T.o.exC T.o.tyC, q1 dx hdH⟩, fun a oe vs ea hg hd5 => ?_⟩
  · by_cases hba : b = hp.objs.size + 1
    · rw [hba, ge] at z
      cases z
    · exact (gk b hba).symm.trans z
  · rw [upd_ne (Ne.symm hne)]
    exact hn
  · cases ea
    have hg3 : h2.get? (hp.objs.size + 1) = some oe := hg
    rw [hx] at hg3
    cases hg3
    cases hd5
    show (4 : Nat) < 6
    decide
theorem pmk_err (T : PySem.W.ErrK X.prog X.K C fs) (hr : Room k X.A) (hk : 1 ≤ k) (hs : X.mg "super" = none) (hg : Gl X x) (hm : X.mg x = some (.ref C)) (ha : PA X (e :: es) ta)
    (hdb : (x == ("__debug__" : PySem.Str)) = false := by decide) (he : starEach (e :: es) X.env = (false, eval e X.env) :: starEach es X.env := by rfl) (hpl : (backTo pos (starEach es X.env)).any (·.1) = false := by rfl) :
    L2N.PMk X (.Call (.Name x p) (e :: es) [] pos) (tMkErr C fs ta) := (pmk5_err T (L2H.roomH_of hr) hk hs hg hm ha hdb he hpl).pmk
end
end DL

/-! DTry: raise, try .. except X as e, over trees. -/
namespace L2
open PySem PySem.Spec PyProof.Rows
/-! ### a try with several clauses, with or without a name -/
structure Clause where
  c : Value
  i : Option Nat
  ts : Addr → Value → Option Addr → TS
def Clause.run (k : Clause) (a : Addr) (cls : Value) (d : Option Addr) (D : Ends) (σ : St) (H : Hp) : Prop := match k.i with
  | none => k.ts a cls d D σ H
  | some i => k.ts a cls d { nx := fun σ' H' => D.nx (σ'.set i none) H', rt := D.rt, bk := fun σ' H' => D.bk (σ'.set i none) H', ct := fun σ' H' => D.ct (σ'.set i none) H' } (σ.set i (some (.ref a))) H
def wCl (K : PySem.W.Frag) (Wout : WX) (D : Ends) : List Clause → WX
  | [] => Wout
  | k :: r => fun cls d σ H => ∃ b, PySem.W.exmOne K cls k.c = some b ∧ (b = true → ∀ a, H a = none → k.run a cls d D σ H) ∧ (b = false → wCl K Wout D r cls d σ H)
inductive HdsCl (X : Cx) : List ExceptHandler → List Clause → Prop
  | nil : HdsCl X [] []
  | cons0 {x : Str} {c : Value} {ts : Addr → Value → Option Addr → TS} {b₀ : Stmt} {suite : List Stmt} {np pos' : Pos} {hds : List ExceptHandler} {l : List Clause} (hc : Names X x c)
      (hsu : ∀ (a : Addr) (oe : Obj) (cls : Value) (d : Option Addr) (pn : List (Addr × Obj)), Zc cls d oe → (∃ vs, oe.data = .fields vs) → PSs (X.suite a ((a, oe) :: pn)) (b₀ :: suite) (ts a cls d)) (r : HdsCl X hds l) :
      HdsCl X (.ExceptHandler (some (.Name x np)) none (b₀ :: suite) pos' :: hds) (⟨c, none, ts⟩ :: l)
  | consN {x n : Str} {i : Nat} {c : Value} {ts : Addr → Value → Option Addr → TS} {b₀ : Stmt} {suite : List Stmt} {np pos' : Pos} {hds : List ExceptHandler} {l : List Clause} (hc : Names X x c) (hi : X.N[i]? = some n) (hln : X.env.kindOf n = some .local)
      (hsu : ∀ (a : Addr) (oe : Obj) (cls : Value) (d : Option Addr) (pn : List (Addr × Obj)), Zc cls d oe → (∃ vs, oe.data = .fields vs) → PSs (X.suite a ((a, oe) :: pn)) (b₀ :: suite) (ts a cls d)) (r : HdsCl X hds l) :
      HdsCl X (.ExceptHandler (some (.Name x np)) (some n) (b₀ :: suite) pos' :: hds) (⟨c, some i, ts⟩ :: l)
section
variable {X : Cx} {body : List Stmt} {h₀ : ExceptHandler} {hds : List ExceptHandler} {l : List Clause} {pos : Pos} {tb : WX → TS} {Wout : WX}
theorem ps_try_cl (hs : X.stack = X.env :: X.outer) (hf : X.env.frame = some X.env.locals) (hN : X.N.Nodup) (tk : L2N.Takes X Wout)
    (hb : ∀ (W : WX) (pn : List (Addr × Obj)) (xe : Value → Shared → Prop), L2N.Takes (X.tr pn xe) W → PassesOwn (model X.prog X.w) X.A X.env xe → PSs (X.tr pn xe) body (tb W))
    (hh : HdsCl X (h₀ :: hds) l) : PS X (.Try body (h₀ :: hds) [] [] pos) (fun D σ H => tb (wCl X.K Wout D l) D σ H) := by
  refine ⟨fun pins s σ H D I h => ?_⟩
  have ok := I.ok
  have hfr : X.A.frames = some (X.env :: X.outer) := by rw [ok.frames, hs]
  refine wpAny_Try_except ?_
  refine wpAny_mono ((hb (wCl X.K Wout D l) (X.pn ++ pins) (fun e s₁ => wpAny (model X.prog X.w) X.A (noteFrame e X.env) (fun _ s₂ => wpAny (model X.prog X.w) X.A (setFlight e none) (fun _ s₃ =>
    wpAny (model X.prog X.w) X.A (handleBy e X.env (h₀ :: hds)) (SP X pins D) X.xe s₃) X.xe s₂) X.xe s₁) (fun u s' xx => ?_) PassesOwn.looking).run [] s σ H D (I.toTry _) h) (fun f s1 hsp => ?_) (fun e s1 he => he)
  · -- the catch
    obtain ⟨a, B, sI, pins', σ', H', cls, d, rfl, J', nb, up, sky, na, os, ag, w⟩ := xx
    have J : Inv X pins σ' H' sI := J'.ofTry ok
    have sky' : Sky B (X.env :: X.outer) a (L2N.Zn cls d) X.env.locals s'.heap := by rw [← hs]; exact sky
    show wpAny (model X.prog X.w) X.A (noteFrame (.ref a) X.env) _ _ _
    refine L2N.Sky.land L2N.Zn.steady hfr hf sky' fun h3 fl3 up3 => ?_
    have J3 : Inv X pins σ' H' { s' with heap := h3 } := J.landed nb fl3.1 (up.trans up3) os ag
    obtain ⟨oe3, vs3, he3, hz3, hd3⟩ := fl3.there
    have notFr : ∀ {h : Heap} {o : Obj} {vs : Array Value}, h.FunFrames B (X.env :: X.outer) → h.get? a = some o → o.data = .fields vs → a ∉ frs (X.env :: X.outer) := fun {h o vs} ff e dd hm => by
      obtain ⟨_, o', e', hnf⟩ := ff.mem hm
      rw [e] at e'; cases e'
      exact hnf _ dd
    have nfr := notFr fl3.2.2.1 he3 hd3
    have nL : a ≠ X.env.locals := fun z => nfr (List.mem_filterMap.mpr ⟨X.env, List.mem_cons_self, by rw [hf, z]⟩)
    have nF : a ∉ X.fs := fun hm => by
      obtain ⟨e, he, q⟩ := List.mem_filterMap.mp hm
      exact nfr (List.mem_filterMap.mpr ⟨e, List.mem_cons_of_mem _ he, q⟩)
    have S3 := J3.suite he3 hd3 na nL nF
    have LT : PySem.W.Looks (model X.prog X.w) h3 (typeOf (.ref a)) cls := fun A Q E s k q => wpAny_typeOf_ref (k _ _ he3) (by rw [hz3.1]; exact q)
    have test : ∀ {x : Str} {c : Value} {np : Pos} {Q : Value → Shared → Prop} {E : Value → Shared → Prop}, Names X x c → Q c { s' with heap := h3 } → wpAny (model X.prog X.w) (X.A.mark (some (.ref a))) (eval (.Name x np) X.env) Q E { s' with heap := h3 } := fun {x c np Q E} hc q => by
      obtain ⟨hg, hdbg, hm | ⟨hm, hv, hnn⟩⟩ := hc
      · exact ld_glob (X := X.suite a ((a, oe3) :: (X.pn ++ pins))) S3 hg hm q hdbg
      · exact ld_blt (X := X.suite a ((a, oe3) :: (X.pn ++ pins))) S3 hg hm hv q hnn hdbg
    have go : ∀ {hds' : List ExceptHandler} {l' : List Clause}, HdsCl X hds' l' → wCl X.K Wout D l' cls d σ' H' →
        wpAny (model X.prog X.w) X.A (handleBy (.ref a) X.env hds') (SP X pins D) X.xe { s' with heap := h3 } := by
      intro hds' l' hk
      induction hk with
      | nil =>
        intro w
        refine wpAny_handleBy_nil ?_
        obtain ⟨k1, k2, k3, oe, vs, T, oT, ts', he, hz, hd, h1, hr⟩ := id fl3
        unfold PySem.passOn
        refine wpAny_bind (wpAny_field he hd h1 ?_)
        rw [if_neg (show ¬ ((Value.ref T == Value.none) = true) from by simp)]
        have fin : wpAny (model X.prog X.w) X.A (setFlight (.ref a) X.env.frame) (fun _ s4 => wpAny (model X.prog X.w) X.A (throw (.ref a) : Sem Flow) (SP X pins D) X.xe s4) X.xe { s' with heap := h3 } := by
          rw [hf]
          refine HandSPX.setFlight_upZ fl3 fun h4 hh4 up4 => wpAny_throw (tk _ _ ?_)
          exact ⟨a, B, sI, pins, σ', H', cls, d, rfl, J, nb, (up.trans up3).trans up4, .inr (.inr (by rw [hs]; exact hh4)), na, os, ag, w⟩
        first
          | exact wpAny_bind (wpAny_pure (wpAny_bind fin))
          | exact wpAny_bind fin
      | @cons0 x c ts b₀ suite np pos' hds2 l2 hc hsu r ih =>
        intro w
        obtain ⟨b, hb1, hyes, hno⟩ := w
        refine wpAny_handleBy_cons (codeAny_handlers_test ?_) (by intro q; cases q)
        have LM := PySem.W.exm_one (M := model X.prog X.w) (J3.kIn) LT hb1
        refine test hc (LM.here ?_)
        cases b with
        | true =>
          refine codeAny_handlers_suite ?_
          refine HandSPX.lands_againZ fl3 fun h4 fl4 up4 => ?_
          have J4 : Inv X pins σ' H' { s' with heap := h4 } := J.landed nb fl4.1 ((up.trans up3).trans up4) os ag
          obtain ⟨oe4, vs4, he4, hz4, hd4⟩ := fl4.there
          have S4 := J4.suite he4 hd4 na nL nF
          refine wpAny_mono ((hsu a oe4 cls d (X.pn ++ pins) hz4.zc ⟨_, hd4⟩).run [] _ _ H' _ S4 (hyes rfl a na)) (fun f s6 hsp => ?_) (fun _ _ z => False.elim z)
          cases f with
          | next =>
            obtain ⟨σ6, H6, S6, q6⟩ := hsp
            exact ⟨_, _, S6.unsuite ok, q6⟩
          | brk =>
            obtain ⟨σ6, H6, S6, q6⟩ := hsp
            exact ⟨_, _, S6.unsuite ok, q6⟩
          | cont =>
            obtain ⟨σ6, H6, S6, q6⟩ := hsp
            exact ⟨_, _, S6.unsuite ok, q6⟩
          | ret u =>
            obtain ⟨v6, σ6, H6, S6, r6, q6⟩ := hsp
            exact ⟨_, _, _, S6.unsuite ok, r6, q6⟩
        | false =>
          show wpAny _ X.A (handleBy (.ref a) X.env hds2) _ _ _
          exact ih (hno rfl)
      | @consN x n i c ts b₀ suite np pos' hds2 l2 hc hi hln hsu r ih =>
        intro w
        obtain ⟨b, hb1, hyes, hno⟩ := w
        refine wpAny_handleBy_cons (codeAny_handlers_test ?_) (by intro q; cases q)
        have LM := PySem.W.exm_one (M := model X.prog X.w) (J3.kIn) LT hb1
        refine test hc (LM.here ?_)
        cases b with
        | true =>
          refine codeAny_handlers_suite_as ?_
          refine HandSPX.lands_againZ fl3 fun h4 fl4 up4 => ?_
          have J4 : Inv X pins σ' H' { s' with heap := h4 } := J.landed nb fl4.1 ((up.trans up3).trans up4) os ag
          obtain ⟨oe4, vs4, he4, hz4, hd4⟩ := fl4.there
          have S4 := J4.suite he4 hd4 na nL nF
          refine store_ok (X := X.suite a ((a, oe4) :: (X.pn ++ pins))) (v := .ref a) S4 hN hi (.inl hln) rfl (fun s5 S5 => ?_) (.inr hln)
          refine wpAny_mono ((hsu a oe4 cls d (X.pn ++ pins) hz4.zc ⟨_, hd4⟩).run [] s5 _ H' _ S5 (hyes rfl a na)) (fun f s6 hsp => ?_) (fun _ _ z => False.elim z)
          have end_ : ∀ {σ6 : St} {H6 : Hp} {Q : Shared → Prop}, Inv (X.suite a ((a, oe4) :: (X.pn ++ pins))) [] σ6 H6 s6 → (∀ s7, Inv X pins (σ6.set i none) H6 s7 → Q s7) →
              wpAny (model X.prog X.w) X.A (do bindName X.env n .none; unbindBehindTheSuite X.env n pos') (fun _ s7 => Q s7) X.xe s6 := fun {σ6 H6 Q} S6 hq => gone_ok (S6.unsuite ok) hN hi hln hq
          cases f with
          | next =>
            obtain ⟨σ6, H6, S6, q6⟩ := hsp
            exact end_ S6 fun s7 J7 => ⟨_, _, J7, q6⟩
          | brk =>
            obtain ⟨σ6, H6, S6, q6⟩ := hsp
            exact end_ S6 fun s7 J7 => ⟨_, _, J7, q6⟩
          | cont =>
            obtain ⟨σ6, H6, S6, q6⟩ := hsp
            exact end_ S6 fun s7 J7 => ⟨_, _, J7, q6⟩
          | ret u =>
            obtain ⟨v6, σ6, H6, S6, r6, q6⟩ := hsp
            exact end_ S6 fun s7 J7 => ⟨_, _, _, J7, r6, q6⟩
        | false =>
          show wpAny _ X.A (handleBy (.ref a) X.env hds2) _ _ _
          exact ih (hno rfl)
    exact go hh w
  · cases f with
    | next =>
      obtain ⟨σ', H', J', q⟩ := hsp
      exact wpAny_execs_nil ⟨σ', H', J'.ofTry ok, q⟩
    | brk =>
      obtain ⟨σ', H', J', q⟩ := hsp
      exact ⟨σ', H', J'.ofTry ok, q⟩
    | cont =>
      obtain ⟨σ', H', J', q⟩ := hsp
      exact ⟨σ', H', J'.ofTry ok, q⟩
    | ret u =>
      obtain ⟨v, σ', H', J', r, q⟩ := hsp
      exact ⟨v, σ', H', J'.ofTry ok, r, q⟩
end
end L2

namespace DL
open PySem PySem.Spec PyProof.Rows L2
/-! ### raise -/
@[reducible] def dRaise [Cl] (n : PySem.Str) (fs : List PySem.Str) (wd : DWX) (ta : DTA) : DTS := fun _ σ M => ta σ M fun ds M1 => ds.length = fs.length ∧ wd (.ref (cA n)) (fldD fs ds) σ M1
@[reducible] def dRaise0 [Cl] (n : PySem.Str) (wd : DWX) : DTS := fun _ σ M => wd (.ref (cA n)) [] σ M
theorem isF_of {K : PySem.W.Frag} {S : Hp} : ∀ {fs : List PySem.Str} {vs : List V} {ds : List D}, IsL K S vs ds → IsF K S (fs.zip vs) (fs.zip ds)
  | [], _, _, _ => .nil
  | _ :: _, _, _, .nil => .nil
  | _ :: _, _, _, .cons a b => .cons ⟨rfl, a⟩ (isF_of b)
theorem paired_snoc {α β : Type} {R : α → β → Prop} {a : α} {b : β} (h : R a b) : ∀ {xs : List α} {ys : List β}, Paired R xs ys → Paired R (xs ++ [a]) (ys ++ [b])
  | _, _, .nil => .cons h .nil
  | _, _, .cons x y => .cons x (paired_snoc h y)
theorem paired_rev {α β : Type} {R : α → β → Prop} : ∀ {xs : List α} {ys : List β}, Paired R xs ys → Paired R xs.reverse ys.reverse
  | _, _, .nil => .nil
  | _, _, .cons x y => by
    rw [List.reverse_cons, List.reverse_cons]
    exact paired_snoc x (paired_rev y)
theorem IsF.mono {K : PySem.W.Frag} {S S' : Hp} {fv : List (PySem.Str × V)} {fs : List (PySem.Str × D)} (e : Same S S') (h : IsF K S fv fs) : IsF K S' fv fs := Paired.mapP h fun _ _ z => ⟨z.1, z.2.mono e⟩
theorem ExIs.mono {K : PySem.W.Frag} {S S' : Hp} {d : Option Addr} {fs : List (PySem.Str × D)} (e : Same S S') (h : ExIs K S d fs) : ExIs K S' d fs := by
  rcases h with h | ⟨a, fv, h1, h2, h3⟩
  · exact .inl h
  · exact .inr ⟨a, fv, h1, e _ _ h2, h3.mono e⟩
section
variable {X : Cx} {g : Gr} {wd : DWX} {fs : List PySem.Str} {x m : PySem.Str} {e : Expr} {es : List Expr} {ta : DTA} {p p2 pos pos2 : Pos} {k j : Nat} [Cl] {n : PySem.Str}
theorem ds_raise (T : PySem.W.ErrK X.prog X.K (cA n) fs) (hc : X.calm = true) (tk : L2N.Takes X (liftW X.K g wd)) (hr : Room k X.A) (hk : 1 ≤ k) (hs : X.mg "super" = none) (hg : Gl X x) (hm : X.mg x = some (.ref (cA n))) (ha : DA X g (e :: es) ta)
    (hdb : (x == ("__debug__" : PySem.Str)) = false := by decide) (he : starEach (e :: es) X.env = (false, eval e X.env) :: starEach es X.env := by rfl) (hpl : (backTo pos (starEach es X.env)).any (·.1) = false := by rfl) :
    DS X g (.Raise (some (.Call (.Name x p) (e :: es) [] pos)) none pos2) (dRaise n fs wd ta) := by
  refine ⟨ps_imp (L2N.ps_raise hc tk (pmk_err T hr hk hs hg hm ha.run hdb he hpl)) fun D' σ H h => ?_⟩
  obtain ⟨S, M, sd, DD, a, q, kk⟩ := h
  refine ⟨S, M, sd, _, a, q, fun ds M1 vs S1 H1 q1 e1 r1 i1 => ?_⟩
  obtain ⟨hl, q1⟩ := q1
  refine ⟨by rw [i1.length]; exact hl, fun d hd => ?_⟩
  have s1 : Same S1 (upd S1 d (.xd (fldV fs vs))) := same_upd (r1.freeS hd)
  exact ⟨_, M1, sd, _, (a.step e1 r1).step s1 (r1.frozen hd), .inr ⟨d, _, rfl, upd_same, paired_rev (isF_of (i1.mono s1))⟩, q1⟩
theorem ds_raise0 (hx : PySem.W.excIn X.K (cA n) He.veBase "ValueError.__new__" = true ∧ PySem.W.keepIn X.K (.ref (cA n)) = true ∧ PySem.W.subIn X.K (.ref (cA n)) (.type "BaseException") = some true ∧ PySem.W.typeIn X.K (.ref (cA n)) = some (.type "type"))
    (hc : X.calm = true) (tk : L2N.Takes X (liftW X.K g wd)) (hg : Gl X x) (hm : X.mg x = some (.ref (cA n))) (hdb : (x == ("__debug__" : PySem.Str)) = false := by decide) :
    DS X g (.Raise (some (.Call (.Name x p) [.Constant (.str m) j p2] [] pos)) none pos2) (dRaise0 n wd) := by
  refine ⟨ps_imp (L2N.ps_raise hc tk (L2N.pmk_own F.excBase_ValueError hx.1 hm hx.2.1 (raises_own hx.2.2.1 hx.2.2.2) hg hdb)) fun D' σ H h => ?_⟩
  obtain ⟨S, M, sd, DD, a, q, kk⟩ := h
  exact ⟨S, M, sd, [], a, .inl ⟨rfl, rfl⟩, q⟩
end
/-! ### try -/
structure DCl where
  n : PySem.Str
  i : Option Nat
  th : Addr → PySem.Str → List (PySem.Str × D) → DTS
@[reducible] def dHand (c : DCl) (a : Addr) (n : PySem.Str) (fs : List (PySem.Str × D)) (DD : DEnds) (sd : DSt) (M : Mem) : Prop := match c.i with
  | none => c.th a n fs DD sd M
  | some i => c.th a n fs { nx := fun σ' M' => DD.nx (σ'.set i none) M', rt := DD.rt, bk := fun σ' M' => DD.bk (σ'.set i none) M', ct := fun σ' M' => DD.ct (σ'.set i none) M' } (sd.set i (some (.ref a))) M
@[reducible] def dCls [Cl] (wd : DWX) (DD : DEnds) (n : PySem.Str) (fs : List (PySem.Str × D)) (sd : DSt) (M : Mem) : List DCl → Prop
  | [] => wd (.ref (cA n)) fs sd M
  | c :: r => (exSub n c.n = true → ∀ a, M a = none → dHand c a n fs DD sd M) ∧ (exSub n c.n = false → dCls wd DD n fs sd M r)
@[reducible] def dWish [Cl] (xs : List PySem.Str) (wd : DWX) (DD : DEnds) (cs : List DCl) : DWX := fun cls fs sd M => ∃ n ∈ xs, cls = .ref (cA n) ∧ dCls wd DD n fs sd M cs
@[reducible] def dTry [Cl] (xs : List PySem.Str) (tb : DWX → DTS) (cs : List DCl) (wd : DWX) : DTS := fun D σ M => tb (dWish xs wd D cs) D σ M
/-- the clauses of a try, read -/
inductive DHds [Cl] (X : Cx) (F : Hp) (xs : List PySem.Str) : List ExceptHandler → List DCl → Prop
  | nil : DHds X F xs [] []
  | cons0 {x n : PySem.Str} {th : Addr → PySem.Str → List (PySem.Str × D) → DTS} {b₀ : Stmt} {suite : List Stmt} {np pos' : Pos} {hds : List ExceptHandler} {l : List DCl} (hc : Names X x (.ref (cA n)))
      (hx : ∀ m ∈ xs, PySem.W.exmOne X.K (.ref (cA m)) (.ref (cA n)) = some (exSub m n))
      (hsu : ∀ (a : Addr) (oe : Obj) (d : Option Addr) (pn : List (Addr × Obj)) (S : Hp) (n : PySem.Str) (fs : List (PySem.Str × D)), n ∈ xs → Zc (.ref (cA n)) d oe → (∃ vs, oe.data = .fields vs) → ExIs X.K S d fs → DSs (X.suite a ((a, oe) :: pn)) ⟨F, S⟩ (b₀ :: suite) (th a n fs)) (r : DHds X F xs hds l) :
      DHds X F xs (.ExceptHandler (some (.Name x np)) none (b₀ :: suite) pos' :: hds) (⟨n, none, th⟩ :: l)
  | consN {x n v : PySem.Str} {i : Nat} {th : Addr → PySem.Str → List (PySem.Str × D) → DTS} {b₀ : Stmt} {suite : List Stmt} {np pos' : Pos} {hds : List ExceptHandler} {l : List DCl} (hc : Names X x (.ref (cA n))) (hi : X.N[i]? = some v) (hln : X.env.kindOf v = some .local)
      (hx : ∀ m ∈ xs, PySem.W.exmOne X.K (.ref (cA m)) (.ref (cA n)) = some (exSub m n))
      (hsu : ∀ (a : Addr) (oe : Obj) (d : Option Addr) (pn : List (Addr × Obj)) (S : Hp) (n : PySem.Str) (fs : List (PySem.Str × D)), n ∈ xs → Zc (.ref (cA n)) d oe → (∃ vs, oe.data = .fields vs) → ExIs X.K S d fs → DSs (X.suite a ((a, oe) :: pn)) ⟨F, S⟩ (b₀ :: suite) (th a n fs)) (r : DHds X F xs hds l) :
      DHds X F xs (.ExceptHandler (some (.Name x np)) (some v) (b₀ :: suite) pos' :: hds) (⟨n, some i, th⟩ :: l)
section
variable {X : Cx} [Cl] {F : Hp} {xs : List PySem.Str}
def clOf (K : PySem.W.Frag) (F : Hp) (xs : List PySem.Str) (c : DCl) : Clause := ⟨.ref (cA c.n), c.i, fun a cls d D σ H => ∃ n fs S, n ∈ xs ∧ cls = .ref (cA n) ∧ ExIs K S d fs ∧ liftS K ⟨F, S⟩ (c.th a n fs) D σ H⟩
theorem DHds.cl {hds : List ExceptHandler} {l : List DCl} (h : DHds X F xs hds l) : HdsCl X hds (l.map (clOf X.K F xs)) := by
  induction h with
  | nil => exact .nil
  | cons0 hc hx hsu r ih =>
    refine .cons0 hc (fun a oe cls d pn hz hf => ⟨fun pins s σ H D I q => ?_⟩) ih
    obtain ⟨n, fs, S, hn, rfl, hx, h⟩ := q
    exact (hsu a oe d pn S n fs hn hz hf hx).run.run pins s σ H D I h
  | consN hc hi hln hx hsu r ih =>
    refine .consN hc hi hln (fun a oe cls d pn hz hf => ⟨fun pins s σ H D I q => ?_⟩) ih
    obtain ⟨n, fs, S, hn, rfl, hx, h⟩ := q
    exact (hsu a oe d pn S n fs hn hz hf hx).run.run pins s σ H D I h
theorem DHds.wish {F S0 : Hp} {wd : DWX} {DD : DEnds} {D' : Ends} {g : Gr} (gF : g.F = F) (kk : EndsOk X.K g S0 DD D') (g0 : Same g.S S0) {hds : List ExceptHandler} {l : List DCl} (h : DHds X F xs hds l) :
    ∀ {n : PySem.Str} {fs : List (PySem.Str × D)} {d : Option Addr} {S : Hp} {M : Mem} {sd : DSt} {σ : L2.St} {H : Hp}, n ∈ xs → At X.K ⟨F, S0⟩ S M sd σ H → ExIs X.K S d fs → dCls wd DD n fs sd M l → wCl X.K (liftW X.K g wd) D' (l.map (clOf X.K F xs)) (.ref (cA n)) d σ H := by
  subst gF
  have ends0 : ∀ {S : Hp}, Same S0 S → EndsOk X.K ⟨g.F, S⟩ S DD D' := fun {S} e => ⟨fun sd1 M1 σ1 S1 H1 q e1 a1 => kk.nx _ _ _ _ _ q (e.trans e1) ⟨g0.trans (e.trans e1), a1.rep, a1.sl⟩, fun d M1 v S1 H1 q e1 r1 i1 => kk.rt _ _ _ _ _ q (e.trans e1) r1 i1, fun sd1 M1 σ1 S1 H1 q e1 a1 => kk.bk _ _ _ _ _ q (e.trans e1) ⟨g0.trans (e.trans e1), a1.rep, a1.sl⟩, fun sd1 M1 σ1 S1 H1 q e1 a1 => kk.ct _ _ _ _ _ q (e.trans e1) ⟨g0.trans (e.trans e1), a1.rep, a1.sl⟩⟩
  induction h with
  | nil =>
    intro n fs d S M sd σ H hn a x q
    exact ⟨S, M, sd, fs, ⟨g0.trans a.base, a.rep, a.sl⟩, x, q⟩
  | cons0 hc hx hsu r ih =>
    intro n fs d S M sd σ H hn a x q
    refine ⟨_, hx n hn, fun hb e he => ?_, fun hb => ih hn a x (q.2 hb)⟩
    exact ⟨n, fs, S, hn, rfl, x, S, M, sd, DD, ⟨Same.refl _, a.rep, a.sl⟩, q.1 hb e (a.rep.freeM he), ends0 a.base⟩
  | @consN x0 n0 v i th b₀ suite np pos' hds l hc hi hln hx hsu r ih =>
    intro n fs d S M sd σ H hn a x q
    refine ⟨_, hx n hn, fun hb e he => ?_, fun hb => ih hn a x (q.2 hb)⟩
    have E0 := ends0 a.base
    have un : ∀ {S1 M1 sd1 σ1 H1}, At X.K ⟨g.F, S⟩ S1 M1 sd1 σ1 H1 → At X.K ⟨g.F, S⟩ S1 M1 (sd1.set i none) (σ1.set i none) H1 := fun a1 => ⟨a1.base, a1.rep, a1.sl.set (v := none) (d := none) trivial i⟩
    exact ⟨n, fs, S, hn, rfl, x, S, M, _, _, ⟨Same.refl _, a.rep, a.sl.set (v := some (.ref e)) (d := some (.ref e)) (.ref e) i⟩, q.1 hb e (a.rep.freeM he),
      ⟨fun sd1 M1 σ1 S1 H1 q e1 a1 => E0.nx _ _ _ _ _ q e1 (un a1), fun d M1 v S1 H1 q e1 r1 i1 => E0.rt _ _ _ _ _ q e1 r1 i1, fun sd1 M1 σ1 S1 H1 q e1 a1 => E0.bk _ _ _ _ _ q e1 (un a1), fun sd1 M1 σ1 S1 H1 q e1 a1 => E0.ct _ _ _ _ _ q e1 (un a1)⟩⟩
end
end DL

/-! DExX: the try statement; the caught error's fields, isinstance of it; operators, classmethods, o[i] that may raise. -/
namespace DL
open PySem PySem.Spec PyProof.Rows L2
section
variable {X : Cx} {g : Gr} [Cl] {wd : DWX} {xs : List PySem.Str} {body : List Stmt} {h₀ : ExceptHandler} {hds : List ExceptHandler} {cs : List DCl} {pos : Pos} {tb : DWX → DTS}
theorem ds_try (hs : X.stack = X.env :: X.outer) (hf : X.env.frame = some X.env.locals) (hN : X.N.Nodup) (tk : L2N.Takes X (liftW X.K g wd))
    (hb : ∀ (wd' : DWX) (S : Hp) (pn : List (Addr × Obj)) (xe : Value → Shared → Prop), L2N.Takes (X.tr pn xe) (liftW X.K ⟨g.F, S⟩ wd') → PassesOwn (model X.prog X.w) X.A X.env xe → DSs (X.tr pn xe) ⟨g.F, S⟩ body (tb wd'))
    (hh : DHds X g.F xs (h₀ :: hds) cs) : DS X g (.Try body (h₀ :: hds) [] [] pos) (dTry xs tb cs wd) := by
  refine ⟨ps_imp (ps_try_cl hs hf hN tk (tb := fun W D σ H => ∃ S wd', (∀ cls d σ H, liftW X.K ⟨g.F, S⟩ wd' cls d σ H → W cls d σ H) ∧ liftS X.K ⟨g.F, S⟩ (tb wd') D σ H) (fun W pn xe tkW po => ⟨fun pins s σ H D I q => ?_⟩) hh.cl) fun D' σ H h => ?_⟩
  · obtain ⟨S, wd', himp, h⟩ := q
    exact (hb wd' S pn xe (tkW.imp himp) po).run.run pins s σ H D I h
  · obtain ⟨S, M, sd, DD, a, q, k⟩ := h
    refine ⟨S, dWish xs wd DD cs, fun cls d σ1 H1 hw => ?_, S, M, sd, DD, ⟨Same.refl _, a.rep, a.sl⟩, q, ?_⟩
    · obtain ⟨S1, M1, sd1, fs, a1, x1, n, hn, rfl, q1⟩ := hw
      exact hh.wish rfl k a.base hn a1 x1 q1
    · exact ⟨fun sd1 M1 σ1 S1 H1 q e1 a1 => k.nx _ _ _ _ _ q e1 ⟨a.base.trans e1, a1.rep, a1.sl⟩, fun d M1 v S1 H1 q e1 r1 i1 => k.rt _ _ _ _ _ q e1 r1 i1, fun sd1 M1 σ1 S1 H1 q e1 a1 => k.bk _ _ _ _ _ q e1 ⟨a.base.trans e1, a1.rep, a1.sl⟩, fun sd1 M1 σ1 S1 H1 q e1 a1 => k.ct _ _ _ _ _ q e1 ⟨a.base.trans e1, a1.rep, a1.sl⟩⟩
end
/-! ### the caught error -/
/-- what isinstance asks of an error's class -/
structure ExcQ (K : PySem.W.Frag) (D : Addr) : Prop where
  cl : (PySem.W.clsIn K D).isSome = true
  hg : PySem.W.findIn K (.ref D) "__getattribute__" = some (some (.builtin "BaseException.__getattribute__"))
  hk : PySem.W.findIn K (.ref D) "__getattr__" = some none
  hs : PySem.W.subIn K (.ref D) (.type "BaseException") = some true
  hd : PySem.W.hasDictIn K D = true
  ha : PySem.W.findIn K (.ref D) "__class__" = some (some (.builtin "object.__class__"))
  hn : PySem.W.specialIn K (.builtin "object.__class__") "__get__" = some (some (.builtin "getset_descriptor.__get__"))
  ht : PySem.W.takesIn K (.builtin "object.__class__") = some true
  hm : PySem.W.mroIn K D (.type "object") = some true
/-- the error's dict stands -/
def XdAt (d : Option Addr) (H : Hp) : Prop := d = none ∨ ∃ dd fs, d = some dd ∧ H dd = some (.xd fs)
theorem ExIs.at {K : PySem.W.Frag} {S H : Hp} {d : Option Addr} {fs : List (PySem.Str × D)} (x : ExIs K S d fs) (e : Same S H) : XdAt d H := by
  rcases x with ⟨rfl, _⟩ | ⟨a, fv, rfl, h, _⟩
  · exact .inl rfl
  · exact .inr ⟨a, fv, rfl, e _ _ h⟩
/-- isinstance(e, c), e the error that the suite holds -/
def rIsE2 (K : PySem.W.Frag) (D a : Addr) (d : Option Addr) : List V → Hp → VK → Prop := fun xs H Q => ∃ (c : V) (cv : Value) (b : Bool), xs = [.ref a, c] ∧ (∀ u, RelV c u → u = cv) ∧ PySem.W.kitOne K (.ref D) cv = some b ∧ XdAt d H ∧ Q (.bl b) H
theorem call_isE2 {X : Cx} {a D : Addr} {d : Option Addr} {oe : Obj} {pn : List (Addr × Obj)} (C : ExcQ X.K D) (hz : Zc (.ref D) d oe) (hf : ∃ vs, oe.data = .fields vs) : CallR (X.suite a ((a, oe) :: pn)) (.builtin "isinstance") (rIsE2 X.K D a d) := by
  intro pins s σ H xs us Q I r h
  obtain ⟨c, cv, b, rfl, hcv, e, hd, q⟩ := h
  cases r with
  | cons rx rr =>
    cases rr with
    | cons rt rr =>
      cases rr
      cases rx
      have ec := hcv _ rt
      subst ec
      obtain ⟨hget, _⟩ := I.pin (a, oe) (List.mem_append.mpr (.inl List.mem_cons_self))
      obtain ⟨vs, hv⟩ := hf
      have J : ∃ od, PySem.W.InstAt s.heap a oe D od := by
        obtain ⟨oc, od, oda, osl⟩ := oe
        obtain ⟨h1, h2⟩ := hz
        dsimp only at h1 h2 hv
        subst h1 h2 hv
        rcases hd with rfl | ⟨dd, fs, rfl, hdd⟩
        · exact ⟨none, hget, rfl, rfl, trivial⟩
        · have hx : ObjOk X.prog X.w H s.heap dd (.xd fs) := I.hok dd _ hdd
          obtain ⟨mA, hns, _⟩ := hx
          obtain ⟨o, es, ep, ho, _⟩ := hns
          exact ⟨some o, hget, rfl, rfl, ho⟩
      obtain ⟨od, J⟩ := J
      exact PySem.W.kia_one (PySem.W.kitx_exc C.cl C.hg C.hk C.hs C.ha C.hn C.ht C.hm) I.kIn J e (fun z => nomatch z) fun tk => ⟨.bl b, H, I.kept (t' := tk) fun _ _ z => z, rfl, q⟩
/-- .. the class: an own one, or a built-in one -/
@[reducible] def dExcIs [Cl] (a : Addr) (n n2 : PySem.Str) (t : DTA) : DTE := fun σ M Q => t σ M fun ds M1 => ds = [.ref a, .ref (cA n2)] ∧ Q (.bl (exSub n n2)) M1
@[reducible] def dExcVe (a : Addr) (t : DTA) : DTE := fun σ M Q => t σ M fun ds M1 => ds = [.ref a, .ty "ValueError"] ∧ Q (.bl true) M1
/-- e.f -/
@[reducible] def dExcF (a : Addr) (fs : List (PySem.Str × D)) (f : PySem.Str) (te : DTE) : DTE := fun σ M Q => te σ M fun x M1 => x = .ref a ∧ ∃ d, fs.lookup f = some d ∧ Q d M1
theorem lookup_cons2 {α : Type} (x f : PySem.Str) (v : α) (l : List (PySem.Str × α)) : List.lookup f ((x, v) :: l) = if f = x then some v else List.lookup f l := by
  by_cases h : f = x
  · subst h; simp [List.lookup]
  · have e : (f == x) = false := by simpa using h
    rw [if_neg h]; simp [List.lookup, e]
theorem isF_lookup {K : PySem.W.Frag} {S : Hp} {f : PySem.Str} {d : D} : ∀ {fv : List (PySem.Str × V)} {fs : List (PySem.Str × D)}, IsF K S fv fs → fs.lookup f = some d → ∃ v, fv.lookup f = some v ∧ Is K S v d
  | _, _, .nil, h => by cases h
  | (x, v) :: fv, (y, e) :: fs, .cons r t, h => by
    obtain ⟨h1, h2⟩ := r
    dsimp only at h1 h2
    subst h1
    rw [lookup_cons2] at h ⊢
    by_cases hx : f = x
    · rw [if_pos hx] at h ⊢
      cases h
      exact ⟨v, rfl, h2⟩
    · rw [if_neg hx] at h ⊢
      exact isF_lookup t h
section
variable {X : Cx} {F S0 : Hp} [Cl] {n n2 : PySem.Str} {a : Addr} {oe : Obj} {d : Option Addr} {pn : List (Addr × Obj)} {fs : List (PySem.Str × D)} {x : PySem.Str} {e e2 : Expr} {t : DTA} {te : DTE} {p pos : Pos}
theorem de_excIs (C : ExcQ X.K (cA n)) (hz : Zc (.ref (cA n)) d oe) (hf : ∃ vs, oe.data = .fields vs) (hx : ExIs X.K S0 d fs) (hk : PySem.W.kitOne X.K (.ref (cA n)) (.ref (cA n2)) = some (exSub n n2)) (hg : Gl X x) (hm : X.mg x = none) (hv : bootBuiltins x = some (.builtin "isinstance")) (ha : DA (X.suite a ((a, oe) :: pn)) ⟨F, S0⟩ [e, e2] t)
    (hn : x ≠ "__name__" := by decide) (hdb : (x == ("__debug__" : PySem.Str)) = false := by decide) (he : starEach [e, e2] X.env = (false, eval e X.env) :: starEach [e2] X.env := by rfl) (hpl : (backTo pos (starEach [e2] X.env)).any (·.1) = false := by rfl) :
    DE (X.suite a ((a, oe) :: pn)) ⟨F, S0⟩ (.Call (.Name x p) [e, e2] [] pos) (dExcIs a n n2 t) := by
  refine ⟨pe_imp (pe_callB (X := X.suite a ((a, oe) :: pn)) (call_isE2 C hz hf) hg hm hv ha.run hn hdb he hpl) fun σ H Q h => ?_⟩
  obtain ⟨S, M, sd, QD, aa, q, k⟩ := h
  refine ⟨S, M, sd, _, aa, q, fun ds M1 vs S1 H1 q1 e1 r1 i1 => ?_⟩
  obtain ⟨rfl, q1⟩ := q1
  obtain ⟨v, w, rfl, iv, iw⟩ := isL2 i1
  cases iv
  cases iw
  exact ⟨.ref (cA n2), .ref (cA n2), _, rfl, fun u ru => by cases ru; rfl, hk, hx.at ((aa.base.trans e1).trans r1.same), k _ _ _ _ _ q1 e1 r1 (.bl _)⟩
theorem de_excVe (C : ExcQ X.K (cA n)) (hz : Zc (.ref (cA n)) d oe) (hf : ∃ vs, oe.data = .fields vs) (hx : ExIs X.K S0 d fs) (hk : PySem.W.kitOne X.K (.ref (cA n)) (.type "ValueError") = some true) (hg : Gl X x) (hm : X.mg x = none) (hv : bootBuiltins x = some (.builtin "isinstance")) (ha : DA (X.suite a ((a, oe) :: pn)) ⟨F, S0⟩ [e, e2] t)
    (hn : x ≠ "__name__" := by decide) (hdb : (x == ("__debug__" : PySem.Str)) = false := by decide) (he : starEach [e, e2] X.env = (false, eval e X.env) :: starEach [e2] X.env := by rfl) (hpl : (backTo pos (starEach [e2] X.env)).any (·.1) = false := by rfl) :
    DE (X.suite a ((a, oe) :: pn)) ⟨F, S0⟩ (.Call (.Name x p) [e, e2] [] pos) (dExcVe a t) := by
  refine ⟨pe_imp (pe_callB (X := X.suite a ((a, oe) :: pn)) (call_isE2 C hz hf) hg hm hv ha.run hn hdb he hpl) fun σ H Q h => ?_⟩
  obtain ⟨S, M, sd, QD, aa, q, k⟩ := h
  refine ⟨S, M, sd, _, aa, q, fun ds M1 vs S1 H1 q1 e1 r1 i1 => ?_⟩
  obtain ⟨rfl, q1⟩ := q1
  obtain ⟨v, w, rfl, iv, iw⟩ := isL2 i1
  cases iv
  cases iw
  exact ⟨.ty "ValueError", .type "ValueError", _, rfl, fun u ru => by cases ru; rfl, hk, hx.at ((aa.base.trans e1).trans r1.same), k _ _ _ _ _ q1 e1 r1 (.bl _)⟩
theorem de_excF {f : PySem.Str} (T : XfC X.K (cA n)) (hno : PySem.W.findIn X.K (.ref (cA n)) f = some none) (hz : Zc (.ref (cA n)) d oe) (hf : ∃ vs, oe.data = .fields vs) (hx : ExIs X.K S0 d fs) (he : DE (X.suite a ((a, oe) :: pn)) ⟨F, S0⟩ e te) (hb : attributeBase e f X.env (eval e X.env) = eval e X.env := by rfl) :
    DE (X.suite a ((a, oe) :: pn)) ⟨F, S0⟩ (.Attribute e f pos) (dExcF a fs f te) := by
  refine ⟨pe_imp (pe_xf T hno hz hf he.run hb) fun σ H Q h => ?_⟩
  obtain ⟨S, M, sd, QD, aa, q, k⟩ := h
  refine ⟨S, M, sd, _, aa, q, fun d1 M1 v S1 H1 q1 e1 r1 i1 => ?_⟩
  obtain ⟨rfl, y, hl, q1⟩ := q1
  cases i1
  have e2 : Same S0 S1 := aa.base.trans e1
  rcases hx.mono e2 with ⟨_, rfl⟩ | ⟨dd, fv, rfl, hS, hF⟩
  · cases hl
  · obtain ⟨w, hw, iw⟩ := isF_lookup hF hl
    exact ⟨rfl, rfl, dd, fv, w, rfl, r1.same _ _ hS, hw, k _ _ _ _ _ q1 e1 r1 iw⟩
end
/-- an own class as a value -/
theorem de_gcls {X : Cx} {g : Gr} [Cl] {n x : PySem.Str} {pos : Pos} (hg : Gl X x) (hm : X.mg x = some (.ref (cA n))) (hd : (x == ("__debug__" : PySem.Str)) = false := by decide) : DE X g (.Name x pos) (dC (.ref (cA n))) := de_const (pe_glob (v := .ref (cA n)) hg hm rfl hd) fun _ => .ref _
/-! ### what may raise -/
section
variable {X : Cx} {pins : List (Addr × Obj)} {σ : L2.St} {H : Hp} {s : Shared} {n : Nat} {gf : Addr} {sp : Sp}
/-- a callee that may raise, below the running body -/
theorem run_sub {A : Around} {Q : VK} {E : XK} {us : List Value} {ws : List V} (F : FnR X.prog X.w X.K X.mg X.base (EX X.prog X.w) n gf sp) (sb : Sub X n A) (hx : PassesAt (EX X.prog X.w) X σ E) (I : Inv X pins σ H s) (r : Vals ws us) (h : sp ws H Q E) :
    wpAny (model X.prog X.w) A (call (.ref gf) us) (EP X pins σ Q) X.xe s := by
  have e0 : Env0 X.prog X.w X.K X.mg X.base A X.stack s H := by
    have e := I.env0
    exact ⟨by rw [sb.fr]; exact e.frames, e.mod, e.bs, e.bsz, e.funs, e.frf, e.hok, e.bare⟩
  refine wpAny_call (codeAny_mono (F A X.stack s H us ws Q E sb.room e0 r h) fun r s' hq => ?_)
  cases r with
  | error e => exact hx pins H s e s' I hq
  | ok fl =>
    cases fl with
    | ret u => exact I.after hq
    | next => exact False.elim hq
    | brk => exact False.elim hq
    | cont => exact False.elim hq
end
/-- a promise that may let out, at values -/
theorem lift_wd {K : PySem.W.Frag} {g : Gr} {S : Hp} {H : Hp} {M : Mem} {sd : DSt} {σ : L2.St} {wd : DWX} {sp : DSp} {vs : List V} {ds : List D} {QD : DK} {Q : VK} (a : At K g S M sd σ H) (l : IsL K S vs ds) (h : sp ds M QD fun c fs M' => wd c fs sd M') (k : ∀ d M' v S' H', QD d M' → Same S S' → Rep K g.F S' M' H' → Is K S' v d → Q v H') :
    liftSp K sp vs H Q (fun cls d H => liftW K g wd cls d σ H) :=
  ⟨g.F, S, M, ds, QD, fun c fs M' => wd c fs sd M', a.rep, l, h, k, fun c fs M' dd S' H' hw e' r' x' => ⟨S', M', sd, fs, a.step e' r', x', hw⟩⟩
@[reducible] def dBinX [Cl] (n : PySem.Str) (sp : DSp) (wd : DWX) (ta tb : DTE) : DTE := fun σ M Q => ta σ M fun x M1 => tb σ M1 fun y M2 => InsOf x M2 (cA n) ∧ InsOf y M2 (cA n) ∧ sp [x, y] M2 Q fun c fs M3 => wd c fs σ M3
@[reducible] def dBinX2 [Cl] (n n2 : PySem.Str) (sp : DSp) (wd : DWX) (ta tb : DTE) : DTE := fun σ M Q => ta σ M fun x M1 => tb σ M1 fun y M2 => InsOf x M2 (cA n) ∧ InsOf y M2 (cA n2) ∧ sp [x, y] M2 Q fun c fs M3 => wd c fs σ M3
@[reducible] def dCmX [Cl] (n : PySem.Str) (sp : DSp) (wd : DWX) (t : DTA) : DTE := fun σ M Q => t σ M fun ds M1 => sp (.ref (cA n) :: ds) M1 Q fun c fs M3 => wd c fs σ M3
@[reducible] def dGetX [Cl] (n : PySem.Str) (sp : DSp) (wd : DWX) (te ty : DTE) : DTE := fun σ M Q => te σ M fun x M1 => ty σ M1 fun y M2 => InsOf x M2 (cA n) ∧ sp [x, y] M2 Q fun c fs M3 => wd c fs σ M3
section
variable {X : Cx} {g : Gr} {wd : DWX} {k j : Nat} {sp : DSp} [Cl] {n n2 : PySem.Str} {a b : Expr} {ta tb : DTE} {pos : Pos}
/-- the two operands, with the slots -/
theorem pe_opS {op : Operator} {ta tb : TE} {r : L2.St → V → V → Hp → VK → Prop} (ho : ∀ (pins : List (Addr × Obj)) (s : Shared) (σ : L2.St) (H : Hp) (x y : V) (v u : Value) (Q : VK), Inv X pins σ H s → RelV x v → RelV y u → r σ x y H Q → wpAny (model X.prog X.w) X.A (binaryOp op v u) (EP X pins σ Q) X.xe s) (ha : PE X a ta) (hb : PE X b tb) :
    PE X (.BinOp a op b pos) (fun σ H Q => ta σ H fun x H1 => tb σ H1 fun y H2 => r σ x y H2 Q) := by
  refine ⟨fun pins s σ H Q I h => ?_⟩
  exact wpAny_BinOp (binT ha hb I h fun v u s2 x y H2 I2 rx ry q => ho pins s2 σ H2 x y v u Q I2 rx ry q)
/-- the operator's call: x an instance, y -/
def rBin (K : PySem.W.Frag) (C C2 : Addr) (sp : Sp) (E : L2.St → XK) (σ : L2.St) (x y : V) (H : Hp) (Q : VK) : Prop := ∃ p dx sl p2 dx2 sl2, x = .ref p ∧ SlX.Slt H p C dx sl ∧ y = .ref p2 ∧ SlX.Slt H p2 C2 dx2 sl2 ∧ sp [.ref p, .ref p2] H Q (E σ)
theorem de_binX {op : Operator} (hc : PySem.W.selfFirst X.K (cA n) = true) (d : DSpc X.prog X.w X.K X.mg X.base k (cA n) (PySem.dunder op.info.2) sp) (hr : Room j X.A) (hk : k ≤ j) (hx : ∀ σ, PassesAt (EX X.prog X.w) X σ (fun cls d H => liftW X.K g wd cls d σ H)) (ha : DE X g a ta) (hb : DE X g b tb) : DE X g (.BinOp a op b pos) (dBinX n sp wd ta tb) := by
  obtain ⟨gf, hs, hf, F⟩ := d.ex
  refine ⟨pe_imp (pe_opS (r := rBin X.K (cA n) (cA n) (liftSp X.K sp) (fun σ cls d H => liftW X.K g wd cls d σ H)) (fun pins s σ H x y v u Q I rx ry h => ?_) ha.run hb.run) fun σ H Q h => ?_⟩
  · obtain ⟨p, dx, sl, p2, dx2, sl2, rfl, hsl, rfl, hsl2, h⟩ := h
    obtain rfl : v = Value.ref p := rx
    obtain rfl : u = Value.ref p2 := ry
    obtain ⟨sl, od, _, J, _⟩ := SlX.slt_inst I hsl
    obtain ⟨sl2, od2, _, J2, _⟩ := SlX.slt_inst I hsl2
    obtain ⟨m, hF⟩ := I.fr
    refine PySem.W.binop_K hF I.ok.mod.kin J J2.type hc hs hf (wpAny_mono (run_sub (us := [.ref p, .ref p2]) (ws := [.ref p, .ref p2]) F ⟨hr.mono hk, rfl⟩ (hx σ) I (.cons rfl (.cons rfl .nil)) h) (fun w s' z => ?_) fun _ _ x => x)
    obtain ⟨z', H', I', rz, qz⟩ := z
    exact SlX.cmpback rz ⟨z', H', I', rz, qz⟩
  · obtain ⟨S, M, sd, QD, aa, q, kk⟩ := h
    refine ⟨S, M, sd, _, aa, q, fun d1 M1 v1 S1 H1 q1 e1 r1 i1 => ?_⟩
    refine ⟨S1, M1, sd, _, aa.step e1 r1, q1, fun d2 M2 v2 S2 H2 q2 e2 r2 i2 => ?_⟩
    obtain ⟨h1, h2, q2⟩ := q2
    obtain ⟨p, dx, vs, rfl, hsl⟩ := h1.at r2 (i1.mono e2)
    obtain ⟨p2, dx2, vs2, rfl, hsl2⟩ := h2.at r2 i2
    exact ⟨p, dx, vs, p2, dx2, vs2, rfl, hsl, rfl, hsl2, lift_wd ((aa.step e1 r1).step e2 r2) (.cons (i1.mono e2) (.cons i2 .nil)) q2 fun d M' v S' H' q' e' r' i' => kk _ _ _ _ _ q' ((e1.trans e2).trans e') r' i'⟩
theorem de_binX2 {op : Operator} (hc : PySem.W.selfFirst X.K (cA n) = true) (hc2 : PySem.W.selfFirst X.K (cA n2) = true) (tw : Two X.K (cA n) (cA n2) op.info.2) (d : DSpc X.prog X.w X.K X.mg X.base k (cA n) (PySem.dunder op.info.2) sp) (hr : Room j X.A) (hk : k ≤ j) (hx : ∀ σ, PassesAt (EX X.prog X.w) X σ (fun cls d H => liftW X.K g wd cls d σ H)) (ha : DE X g a ta) (hb : DE X g b tb) : DE X g (.BinOp a op b pos) (dBinX2 n n2 sp wd ta tb) := by
  obtain ⟨gf, hs, hf, F⟩ := d.ex
  obtain ⟨f2, h2⟩ := tw.a2
  refine ⟨pe_imp (pe_opS (r := rBin X.K (cA n) (cA n2) (liftSp X.K sp) (fun σ cls d H => liftW X.K g wd cls d σ H)) (fun pins s σ H x y v u Q I rx ry h => ?_) ha.run hb.run) fun σ H Q h => ?_⟩
  · obtain ⟨p, dx, sl, p2, dx2, sl2, rfl, hsl, rfl, hsl2, h⟩ := h
    obtain rfl : v = Value.ref p := rx
    obtain rfl : u = Value.ref p2 := ry
    obtain ⟨sl, od, _, J, _⟩ := SlX.slt_inst I hsl
    obtain ⟨sl2, od2, _, J2, _⟩ := SlX.slt_inst I hsl2
    obtain ⟨m, hF⟩ := I.fr
    refine PySem.W.dl_bin2 hF I.ok.mod.kin J J2.type hc hc2 hs hf tw.r1 (.inl rfl) h2 tw.r2 tw.sub tw.ne (wpAny_mono (run_sub (us := [.ref p, .ref p2]) (ws := [.ref p, .ref p2]) F ⟨hr.mono hk, rfl⟩ (hx σ) I (.cons rfl (.cons rfl .nil)) h) (fun w s' z => ?_) fun _ _ x => x)
    obtain ⟨z', H', I', rz, qz⟩ := z
    exact SlX.cmpback rz ⟨z', H', I', rz, qz⟩
  · obtain ⟨S, M, sd, QD, aa, q, kk⟩ := h
    refine ⟨S, M, sd, _, aa, q, fun d1 M1 v1 S1 H1 q1 e1 r1 i1 => ?_⟩
    refine ⟨S1, M1, sd, _, aa.step e1 r1, q1, fun d2 M2 v2 S2 H2 q2 e2 r2 i2 => ?_⟩
    obtain ⟨h1, h2, q2⟩ := q2
    obtain ⟨p, dx, vs, rfl, hsl⟩ := h1.at r2 (i1.mono e2)
    obtain ⟨p2, dx2, vs2, rfl, hsl2⟩ := h2.at r2 i2
    exact ⟨p, dx, vs, p2, dx2, vs2, rfl, hsl, rfl, hsl2, lift_wd ((aa.step e1 r1).step e2 r2) (.cons (i1.mono e2) (.cons i2 .nil)) q2 fun d M' v S' H' q' e' r' i' => kk _ _ _ _ _ q' ((e1.trans e2).trans e') r' i'⟩
/-- C.m(..), a classmethod that may raise -/
theorem pe_cmethS {mc : Value} {C p2 gf : Addr} {sp : Sp} {o e : Expr} {es : List Expr} {m : PySem.Str} {ta : TE} {t : TA} {E : L2.St → XK} {apos : Pos} {pl : Sem Bool} (he : PE X o ta) (r : ClX.CRead X.K C mc) (c : ClX.CMet X.K C mc m p2 gf) (F : FnR X.prog X.w X.K X.mg X.base (EX X.prog X.w) k gf sp) (hr : Room k X.A) (hx : ∀ σ, PassesAt (EX X.prog X.w) X σ (E σ)) (ha : PA X (e :: es) t)
    (hst : starEach (e :: es) X.env = (false, eval e X.env) :: starEach es X.env := by rfl) (hpl : (backTo pos (starEach es X.env)).any (·.1) = false := by rfl)
    (ht : eval (.Call (.Attribute o m apos) (e :: es) [] pos) X.env = (do
      let ov ← eval o X.env
      standAt apos.atName
      let (f, first) ← holding [ov] (getMethod ov m pl)
      callWith pos f first (backTo pos (starEach (e :: es) X.env)) (backToKw pos (keywordEach [] X.env))) := by rfl) :
    PE X (.Call (.Attribute o m apos) (e :: es) [] pos) (fun σ H Q => ta σ H fun x H1 => x = .ref C ∧ t σ H1 fun vs H2 => sp (.ref C :: vs) H2 Q (E σ)) := by
  refine ⟨fun pins s σ H Q I h => ?_⟩
  refine PySem.W.methodCall_KW (pl := pl) (thn (he.run pins s σ H _ I h) fun u s1 ⟨x, H1, I1, rx, ex, q⟩ => ?_) ht
  subst ex
  obtain rfl : u = Value.ref C := rx
  refine ClX.getmethcm_ok I1 r c fun s2 I2 => ?_
  refine ClX.callwith_cm I2 (ClX.base_none I1 (Nat.le_refl _)) c.fi (thn (ha.run pos _ s2 σ H1 _ I2 q) fun us s3 ⟨vs, H2, I3, rv, q2⟩ => ⟨⟨ClX.pin_at I3, I3.kIn⟩, ?_⟩) hst hpl
  have z : wpAny (model X.prog X.w) X.A (call (.ref s1.heap.objs.size) us) (EP X ((s1.heap.objs.size, PySem.W.methodObj (.ref gf) (.ref C)) :: pins) σ Q) X.xe s3 :=
    wpAny_call (PySem.W.method_call (ClX.pin_at I3) (run_fnRS (us := .ref C :: us) (vs := .ref C :: vs) F hr (hx σ) I3 (.cons rfl rv) q2))
  exact thn z fun _ _ y => ClX.unpinE y
theorem de_cmX {m : PySem.Str} {p apos : Pos} {e : Expr} {es : List Expr} {t : DTA} {pl : Sem Bool} (d : DCm X.prog X.w X.K X.mg X.base k (cA n) m sp) (hr : Room j X.A) (hk : k ≤ j) (hx : ∀ σ, PassesAt (EX X.prog X.w) X σ (fun cls d H => liftW X.K g wd cls d σ H)) (hg : Gl X n) (hm : X.mg n = some (.ref (cA n))) (ha : DA X g (e :: es) t) (hdn : (n == ("__debug__" : PySem.Str)) = false := by decide)
    (hst : starEach (e :: es) X.env = (false, eval e X.env) :: starEach es X.env := by rfl) (hpl : (backTo pos (starEach es X.env)).any (·.1) = false := by rfl)
    (ht : eval (.Call (.Attribute (.Name n p) m apos) (e :: es) [] pos) X.env = (do
      let ov ← eval (.Name n p) X.env
      standAt apos.atName
      let (f, first) ← holding [ov] (getMethod ov m pl)
      callWith pos f first (backTo pos (starEach (e :: es) X.env)) (backToKw pos (keywordEach [] X.env))) := by rfl) :
    DE X g (.Call (.Attribute (.Name n p) m apos) (e :: es) [] pos) (dCmX n sp wd t) := by
  obtain ⟨q, f, rd, cm, F⟩ := d.ex
  refine ⟨pe_imp (pe_cmethS (E := fun σ cls d H => liftW X.K g wd cls d σ H) (pe_glob (v := .ref (cA n)) hg hm rfl hdn) rd cm F (hr.mono hk) hx ha.run hst hpl ht) fun σ H Q h => ?_⟩
  obtain ⟨S, M, sd, QD, aa, q, kk⟩ := h
  refine ⟨rfl, S, M, sd, _, aa, q, fun ds M1 vs S1 H1 q1 e1 r1 i1 => ?_⟩
  exact lift_wd (aa.step e1 r1) (.cons (.ref _) i1) q1 fun d M' v S' H' q' e' r' i' => kk _ _ _ _ _ q' (e1.trans e') r' i'
/-- o[i], an own __getitem__ that may raise -/
theorem pe_getX {o i : Expr} {td ty : TE} {C gf : Addr} {sp : Sp} {E : L2.St → XK} (ho : PE X o td) (hi : PE X i ty) (hs : PySem.W.findIn X.K (.ref C) "__getitem__" = some (some (.ref gf))) (hf : PySem.W.isFn X.K (.ref gf) = true) (hfn : PySem.W.fnIn X.K gf = true) (F : FnR X.prog X.w X.K X.mg X.base (EX X.prog X.w) k gf sp) (hr : Room (k + 1) X.A) (hx : ∀ σ, PassesAt (EX X.prog X.w) X σ (E σ))
    (hsl : ∀ x v, subscripted i true (.ref x) v = runValue (.builtin "lifetime.subscript" ⟨[.ref x, v], []⟩) := by intro _ _; with_unfolding_all rfl) :
    PE X (.Subscript o i pos) (fun σ H Q => td σ H fun x H1 => ty σ H1 fun y H2 => ∃ a dx sl, x = .ref a ∧ SlX.Slt H2 a C dx sl ∧ sp [.ref a, y] H2 Q (E σ)) := by
  refine ⟨fun pins s σ H Q I h => ?_⟩
  refine Subscript_ (thn (ho.run pins s σ H _ I h) fun u s1 ⟨x, H1, I1, rx, q1⟩ => thn (hi.run pins s1 σ H1 _ I1 q1) fun iv s2 ⟨y, H2, I2, ry, a, dx, sl, ex, hslt, q2⟩ => ?_)
  subst ex
  obtain rfl : u = Value.ref a := rx
  obtain ⟨sl', od, _, J, _⟩ := SlX.slt_inst I2 hslt
  obtain ⟨m, hF⟩ := I2.fr
  have sb : Sub X k X.A.in1 := Sub.in1 (⟨hr, rfl⟩ : Sub X (k + 1) X.A)
  exact PySem.W.sub_K hF I2.ok.mod.kin J hs hfn hf (wpAny_mono (run_sub (us := [.ref a, iv]) (ws := [.ref a, y]) F sb (hx σ) I2 (.cons rfl (.cons ry .nil)) q2) (fun _ _ z => z) fun _ _ z => z) (hsl a iv)
theorem de_getX {o i : Expr} {te tyD : DTE} (d : DGi X.prog X.w X.K X.mg X.base k (cA n) sp) (hr : Room j X.A) (hk : k + 1 ≤ j) (hx : ∀ σ, PassesAt (EX X.prog X.w) X σ (fun cls d H => liftW X.K g wd cls d σ H)) (ho : DE X g o te) (hi : DE X g i tyD)
    (hsl : ∀ x v, subscripted i true (.ref x) v = runValue (.builtin "lifetime.subscript" ⟨[.ref x, v], []⟩) := by intro _ _; with_unfolding_all rfl) : DE X g (.Subscript o i pos) (dGetX n sp wd te tyD) := by
  obtain ⟨gf, hs, hf, hfn, F⟩ := d.ex
  refine ⟨pe_imp (pe_getX (E := fun σ cls d H => liftW X.K g wd cls d σ H) ho.run hi.run hs hf hfn F (hr.mono hk) hx hsl) fun σ H Q h => ?_⟩
  obtain ⟨S, M, sd, QD, aa, q, kk⟩ := h
  refine ⟨S, M, sd, _, aa, q, fun d M1 v S1 H1 q1 e1 r1 i1 => ?_⟩
  refine ⟨S1, M1, sd, _, aa.step e1 r1, q1, fun y M2 u S2 H2 q2 e2 r2 i2 => ?_⟩
  obtain ⟨hi2, q2⟩ := q2
  obtain ⟨b, dx, vs, rfl, hsl2⟩ := hi2.at r2 (i1.mono e2)
  exact ⟨b, dx, vs, rfl, hsl2, lift_wd ((aa.step e1 r1).step e2 r2) (.cons (i1.mono e2) (.cons i2 .nil)) q2 fun d M' v S' H' q' e' r' i' => kk _ _ _ _ _ q' ((e1.trans e2).trans e') r' i'⟩
end
end DL

/-! DErr: the head's facts of own errors; readings of defs that may raise. -/
namespace DL
open PySem PySem.Spec PyProof.Rows L2 He
/-! ### facts -/
theorem oexB_ok {K : PySem.W.Frag} {C : Addr} (h : oexB K C = true) : OexC K C := by
  obtain ⟨h1, h⟩ := ba h
  obtain ⟨h2, h⟩ := ba h
  obtain ⟨h3, h⟩ := ba h
  obtain ⟨h4, h5⟩ := ba h
  refine ⟨?_, eqO_ok h2, of_decide_eq_true h3, of_decide_eq_true h4, h5⟩
  cases q : K.lookup C with
  | none => rw [q] at h1; cases h1
  | some o =>
    obtain ⟨oc, dd, dt, sl⟩ := o
    rw [q] at h1
    cases oc with
    | type c =>
      cases dt with
      | cls cd =>
        obtain ⟨nm, bs, mro, ns, qn, hd, sn, sub, ab, col, del⟩ := cd
        obtain ⟨hc, h1⟩ := ba (show (decide (c = "type") && _) = true from h1)
        have hc := of_decide_eq_true hc
        subst hc
        dsimp only at h1
        split at h1
        · rename_i C' bm k0 k1 k2 k3 n k5 hs hs2
          obtain ⟨_, h1⟩ := ba h1
          obtain ⟨g1, h1⟩ := ba h1
          obtain ⟨g2, h1⟩ := ba h1
          obtain ⟨g3, h1⟩ := ba h1
          obtain ⟨g4, g5⟩ := ba h1
          have g1 := of_decide_eq_true g1
          have g2 := of_decide_eq_true g2
          have g3 : del = false := by simpa using g3
          subst g1 g2 g3 g4
          have hsl : sl = #[k0, k1, k2, k3, some (.builtin "ValueError.__new__"), k5] := by
            obtain ⟨l⟩ := sl
            simp only at hs
            rw [hs]
          subst hsl
          exact ⟨nm, qn, ns, bs, bm, sn, sub, ab, col, dd, k0, k1, k2, k3, k5, rfl, g5⟩
        · cases h1
      | _ => cases h1
    | _ => cases dt <;> cases h1
def ExD.val0 (d : ExD) : He5.FnW := some ("__init__", d.qual, d.params, .stmts d.body, d.scope, mainGlobals, [("__class__", 0)], builtinsNs)
structure ProgOk (P : Program) (file : PySem.Str) : Prop where
  f : (P.main.file : PySem.Str) = file
  nt : (P.main.scope.names.lookup ("super" : PySem.Str)).isSome = false
theorem ExD.errK {P : Program} {file : PySem.Str} {d : ExD} {K : PySem.W.Frag} (p : ProgOk P file) (D : PySem.W.ErrDef d.params d.body d.scope d.fs) (hm : d.m = none) (e : fnX K (d.ad K) = d.val) (c : d.ok file K = true) : PySem.W.ErrK P K (ga K d.n) d.fs := by
  have em : d.mth = "__init__" := by unfold ExD.mth; rw [hm]
  have e : fnX K (d.ad0 K) = d.val0 := by
    unfold ExD.ad ExD.val at e
    rw [em] at e
    exact e
  have c : d.okE file K = true := by
    unfold ExD.ok at c
    rw [hm] at c
    exact c
  obtain ⟨c1, c⟩ := ba c
  obtain ⟨c2, c⟩ := ba c
  obtain ⟨c3, c⟩ := ba c
  obtain ⟨c4, c⟩ := ba c
  obtain ⟨c5, c⟩ := ba c
  obtain ⟨c6, c⟩ := ba c
  obtain ⟨c7, c⟩ := ba c
  obtain ⟨c8, c9⟩ := ba c
  refine ⟨oexB_ok c1, ?_, eqO_ok c5, of_decide_eq_true c6, of_decide_eq_true c7, eqO_ok c8, fun f hf => eqO_ok (List.all_eq_true.mp c9 f hf), p.nt⟩
  unfold fnX at e
  cases q : K.lookup (d.ad0 K) with
  | none => rw [q] at c4; cases c4
  | some o =>
    obtain ⟨oc, od, dt, osl⟩ := o
    rw [q] at c4 e
    cases dt with
    | func fd =>
      obtain ⟨n1, n2, n3, n4, n5, n6, n7, n8, n9, n10, n11, n12, n13, n14, n15⟩ := fd
      have e2 : (some (n1, n2, n3, n4, n5, n6, n7.map fun p => (p.1, 0), n15) : He5.FnW) = some (("__init__" : PySem.Str), d.qual, d.params, FuncBody.stmts d.body, d.scope, mainGlobals, [(("__class__" : PySem.Str), (0 : Addr))], builtinsNs) := e
      simp only [Option.some.injEq, Prod.mk.injEq] at e2
      obtain ⟨h1, h2, h3, h4, h5, h6, h7, h8⟩ := e2
      subst h1 h2 h3 h4 h5 h6 h8
      obtain ⟨k1, c4⟩ := ba (show (noDfl n8 && (PySem.W.codeIn K n13 d.qual && (codB file K n13 && celB K (ga K d.n) n7))) = true from c4)
      obtain ⟨k2, c4⟩ := ba c4
      obtain ⟨k3, k4⟩ := ba c4
      have k1' : n8 = .none := by
        cases n8 <;> first | rfl | cases k1
      subst k1'
      obtain ⟨cc, rfl⟩ : ∃ cc : Addr, n7 = [(("__class__" : PySem.Str), cc)] := by
        cases n7 with
        | nil => cases h7
        | cons a r =>
          cases r with
          | nil =>
            obtain ⟨x, y⟩ := a
            simp only [List.map_cons, List.map_nil, List.cons.injEq, Prod.mk.injEq, and_true] at h7
            exact ⟨y, by rw [h7]⟩
          | cons b r => simp at h7
      have cod : ∃ cda ccl cdd vs ccs f tf, n13 = .ref cda ∧ K.lookup cda = some ⟨ccl, cdd, .fields vs, ccs⟩ ∧ vs[2]? = some (.str f tf) ∧ (file == f) = true := by
        clear e c c4 q k2
        unfold codB at k3
        split at k3
        · split at k3
          · split at k3
            · exact ⟨_, _, _, _, _, _, _, rfl, by assumption, by assumption, k3⟩
            · cases k3
          · cases k3
        · cases k3
      obtain ⟨cda, ccl, cdd, vs, ccs, f, tf, rfl, hcd, hf, hff⟩ := cod
      have cel : ∃ cl cld csl, K.lookup cc = some ⟨cl, cld, .cell (some (.ref (ga K d.n))), csl⟩ := by
        clear e c c4 q k2 k3 hcd hf hff
        unfold celB at k4
        dsimp only at k4
        split at k4
        · rename_i a _ _
          first
            | exact ⟨_, _, _, by rw [← of_decide_eq_true k4]; assumption⟩
        · cases k4
      obtain ⟨cl, cld, csl, hce⟩ := cel
      exact ⟨d.ad0 K, cc, cda, eqO_ok c2, of_decide_eq_true c3, ⟨oc, od, osl, d.qual, d.params, d.body, d.scope, n9, n10, n11, n12, n14, q, k2, D⟩, ⟨ccl, cdd, vs, ccs, f, tf, hcd, hf, by rw [p.f]; exact hff⟩, cl, cld, csl, hce⟩
    | _ => cases c4
/-! ### the hook -/
def obsX (file : PySem.Str) (fa : List FaF) (fn : List He5.DefA) (ex : List ExD) (K : PySem.W.Frag) : AlD := (((fa.all fun f => f K) && fn.all fun d => d.ok K) && ex.all fun d => d.ok file K, (fn.map fun d => He5.fnA K (d.at_ K)) ++ ex.map fun d => fnX K (d.ad K))
def valX (fn : List He5.DefA) (ex : List ExD) : AlD := (true, fn.map He5.DefA.val ++ ex.map ExD.val)
def SaysX (file : PySem.Str) (fa : List FaF) (fn : List He5.DefA) (ex : List ExD) (K : PySem.W.Frag) : Prop := obsX file fa fn ex K = valX fn ex
/-- .. and the cells of closures -/
def clsX (g : Addr → Option Obj) (as : List Addr) : List Addr := as ++ as.flatMap fun a => match g a with
  | some ⟨_, _, .func fd, _⟩ => fd.closure.map (·.2)
  | _ => []
def obsXG (n : Nat) (file : PySem.Str) (fa : List FaF) (fn : List He5.DefA) (ex : List ExD) (g : Addr → Option Obj) : AlD := obsX file fa fn ex (frG g (clsX g (He5.asA g n)))
def hookX (n : Nat) (file : PySem.Str) (fa : List FaF) (fn : List He5.DefA) (ex : List ExD) : PySem.W.Hook where
  α := AlD
  obs := fun s => obsXG n file fa fn ex s.heap.get?
  val := fun _ => valX fn ex
  says := fun _ h => ∃ K : PySem.W.Frag, K.In h ∧ SaysX file fa fn ex K
  of := fun _ _ e => ⟨_, frG_in, e⟩
  keeps := fun _ _ _ ⟨K, hK, c⟩ k => ⟨K, PySem.W.Frag.In.keeps hK k, c⟩
theorem obsXG_eq {n : Nat} {file : PySem.Str} {fa : List FaF} {fn : List He5.DefA} {ex : List ExD} {g : Addr → Option Obj} {s : Shared} (h : ∀ a, g a = s.heap.get? a) : obsXG n file fa fn ex g = (hookX n file fa fn ex).obs s := by
  have e : g = s.heap.get? := funext h
  rw [e] <;> rfl
section
variable {file : PySem.Str} {fa : List FaF} {fn : List He5.DefA} {ex : List ExD} {K : PySem.W.Frag}
theorem SaysX.f (c : SaysX file fa fn ex K) : SaysF fa fn K := by
  have c1 := (ba (show (((fa.all fun f => f K) && fn.all fun d => d.ok K) && ex.all fun d => d.ok file K) = true from congrArg (fun z : AlD => z.1) c)).1
  have e : (fn.map fun d => He5.fnA K (d.at_ K)) ++ ex.map (fun d => fnX K (d.ad K)) = fn.map He5.DefA.val ++ ex.map ExD.val := congrArg (fun z : AlD => z.2) c
  have e1 := (List.append_inj e (by simp)).1
  exact Prod.ext c1 e1
theorem SaysX.ex_ {P : Program} (c : SaysX file fa fn ex K) (p : ProgOk P file) (i : Nat) {d : ExD} (h : ex[i]? = some d) (hm : d.m = none) (D : PySem.W.ErrDef d.params d.body d.scope d.fs) : PySem.W.ErrK P K (ga K d.n) d.fs := by
  have c2 := (ba (show (((fa.all fun f => f K) && fn.all fun d => d.ok K) && ex.all fun d => d.ok file K) = true from congrArg (fun z : AlD => z.1) c)).2
  have e : (fn.map fun d => He5.fnA K (d.at_ K)) ++ ex.map (fun d => fnX K (d.ad K)) = fn.map He5.DefA.val ++ ex.map ExD.val := congrArg (fun z : AlD => z.2) c
  have e1 := (List.append_inj e (by simp)).2
  have e2 : (ex.map fun d => fnX K (d.ad K))[i]? = (ex.map ExD.val)[i]? := by rw [e1]
  rw [List.getElem?_map, List.getElem?_map, h] at e2
  exact ExD.errK p D hm (Option.some.inj e2) (List.all_eq_true.mp c2 d (List.mem_of_getElem? h))
end
structure XsK [Cl] (K : PySem.W.Frag) (xs fs : List PySem.Str) (ve : Bool) : Prop where
  xm : ∀ m ∈ xs, ∀ n ∈ xs, PySem.W.exmOne K (.ref (cA m)) (.ref (cA n)) = some (exSub m n)
  kt : ∀ m ∈ xs, ∀ n ∈ xs, PySem.W.kitOne K (.ref (cA m)) (.ref (cA n)) = some (exSub m n)
  kv : ve = true → ∀ m ∈ xs, PySem.W.kitOne K (.ref (cA m)) (.type "ValueError") = some true
  no : ∀ m ∈ xs, ∀ f ∈ fs, PySem.W.findIn K (.ref (cA m)) f = some none
  xf : ∀ m ∈ xs, XfC K (cA m)
  xq : ∀ m ∈ xs, ExcQ K (cA m)
theorem fXs_ok {K : PySem.W.Frag} {xs fs : List PySem.Str} {ve : Bool} (c : fXs xs fs ve K = true) : @XsK ⟨fun n => ga K n⟩ K xs fs ve := by
  letI : Cl := ⟨fun n => ga K n⟩
  have key : ∀ m ∈ xs, _ := fun m hm => List.all_eq_true.mp c m hm
  have p1 := fun m hm => (ba (key m hm)).1
  have r1 := fun m hm => (ba (key m hm)).2
  have p2 := fun m hm => (ba (r1 m hm)).1
  have r2 := fun m hm => (ba (r1 m hm)).2
  have p3 := fun m hm => (ba (r2 m hm)).1
  have r3 := fun m hm => (ba (r2 m hm)).2
  have p4 := fun m hm => (ba (r3 m hm)).1
  have r4 := fun m hm => (ba (r3 m hm)).2
  have p5 := fun m hm => (ba (r4 m hm)).1
  have r5 := fun m hm => (ba (r4 m hm)).2
  have p6 := fun m hm => (ba (r5 m hm)).1
  have r6 := fun m hm => (ba (r5 m hm)).2
  have p7 := fun m hm => (ba (r6 m hm)).1
  have r7 := fun m hm => (ba (r6 m hm)).2
  have p8 := fun m hm => (ba (r7 m hm)).1
  have p9 := fun m hm => (ba (r7 m hm)).2
  refine ⟨fun m hm n hn => of_decide_eq_true (ba (List.all_eq_true.mp (p1 m hm) n hn)).1, fun m hm n hn => of_decide_eq_true (ba (List.all_eq_true.mp (p1 m hm) n hn)).2, fun hv m hm => ?_, fun m hm f hf => eqO_ok (List.all_eq_true.mp (p3 m hm) f hf), fun m hm => xfB_ok (p4 m hm), fun m hm => ?_⟩
  · have z := p2 m hm
    rw [hv] at z
    have z2 : decide (PySem.W.kitOne K (.ref (ga K m)) (.type "ValueError") = some true) = true := by simpa using z
    exact of_decide_eq_true z2
  · have x := xfB_ok (p4 m hm)
    exact ⟨p5 m hm, x.ga, x.gg, x.exC, x.hdC, eqO_ok (p6 m hm), eqO_ok (p7 m hm), of_decide_eq_true (p8 m hm), of_decide_eq_true (p9 m hm)⟩
/-! ### readings of defs that may raise -/
theorem takes_wno {X : Cx} {g : Gr} : L2N.Takes X (liftW X.K g wNo) := fun _ _ ⟨_, _, _, _, _, _, _, _, _, _, _, _, _, _, _, _, w⟩ => by
  obtain ⟨_, _, _, _, _, _, z⟩ := w
  exact z.elim
abbrev wE (E : DXK) : DWX := fun c fs _ M' => EF E c fs M'
theorem rdX1 {r : D → Mem → DK → DXK → Prop} {t : DWX → DTS} {N : Nat} (h : ∀ a M Q E, r a M Q E → t (wE E) { nx := fun _ M' => QF Q .non M', rt := QF Q } (dstart N [a]) M) :
    ∀ ds M Q E, spk1 r ds M Q E → t (wE E) { nx := fun _ M' => QF Q .non M', rt := QF Q } (dstart N ds) M := fun ds M Q E q => by
  unfold spk1 at q; split at q <;> first | exact h _ M Q E q | exact q.elim
theorem rdX2 {r : D → D → Mem → DK → DXK → Prop} {t : DWX → DTS} {N : Nat} (h : ∀ a b M Q E, r a b M Q E → t (wE E) { nx := fun _ M' => QF Q .non M', rt := QF Q } (dstart N [a, b]) M) :
    ∀ ds M Q E, spk2 r ds M Q E → t (wE E) { nx := fun _ M' => QF Q .non M', rt := QF Q } (dstart N ds) M := fun ds M Q E q => by
  unfold spk2 at q; split at q <;> first | exact h _ _ M Q E q | exact q.elim
theorem rdX3 {r : D → D → D → Mem → DK → DXK → Prop} {t : DWX → DTS} {N : Nat} (h : ∀ a b c M Q E, r a b c M Q E → t (wE E) { nx := fun _ M' => QF Q .non M', rt := QF Q } (dstart N [a, b, c]) M) :
    ∀ ds M Q E, spk3 r ds M Q E → t (wE E) { nx := fun _ M' => QF Q .non M', rt := QF Q } (dstart N ds) M := fun ds M Q E q => by
  unfold spk3 at q; split at q <;> first | exact h _ _ _ M Q E q | exact q.elim
theorem rdX4 {r : D → D → D → D → Mem → DK → DXK → Prop} {t : DWX → DTS} {N : Nat} (h : ∀ a b c d M Q E, r a b c d M Q E → t (wE E) { nx := fun _ M' => QF Q .non M', rt := QF Q } (dstart N [a, b, c, d]) M) :
    ∀ ds M Q E, spk4 r ds M Q E → t (wE E) { nx := fun _ M' => QF Q .non M', rt := QF Q } (dstart N ds) M := fun ds M Q E q => by
  unfold spk4 at q; split at q <;> first | exact h _ _ _ _ M Q E q | exact q.elim
/-- a class's __init__ that may raise -/
theorem rdIX {C : Addr} {sp : DSp} {t : DWX → DTS} {N : Nat} (h : ∀ p rest M Q E, M p = some (.ins C []) → sp rest (mdel M p) (fun d M' => ∃ fs, d = .obj C fs ∧ fs ≠ [] ∧ M' p = none ∧ Q .non (mset M' p (.ins C (fs.map some)))) E → t (wE E) { nx := fun _ M' => QF Q .non M', rt := QF Q } (dstart N (.ref p :: rest)) M) :
    ∀ ds M Q E, dinit C sp ds M Q E → t (wE E) { nx := fun _ M' => QF Q .non M', rt := QF Q } (dstart N ds) M := fun ds M Q E q => by
  obtain ⟨p, rest, rfl, hm, q⟩ := dinit_inv q
  exact h p rest M Q E hm q
end DL

/-! DHd: the head's run in parts (each part runs the top anew: less memory a declaration). -/
namespace DL
open PySem PySem.Spec PyProof.Rows L2 He
theorem map_pair {α β γ : Type} {x : Option α} {f : α → β} {g : α → γ} {b : β} {c : γ} (h1 : x.map f = some b) (h2 : x.map g = some c) : x.map (fun s => (f s, g s)) = some (b, c) := by
  cases x with
  | none => cases h1
  | some a =>
    simp only [Option.map_some, Option.some.injEq] at h1 h2 ⊢
    rw [h1, h2]
theorem map_of {α β γ : Type} {x : Option α} {f : α → β} {g : α → γ} {b : β} {c : γ} (h1 : x.map f = some b) (h : ∀ s, f s = b → g s = c) : x.map g = some c := by
  cases x with
  | none => cases h1
  | some a =>
    simp only [Option.map_some, Option.some.injEq] at h1 ⊢
    exact h a h1
theorem map_two {α β γ δ : Type} {x : Option α} {f : α → β} {g : α → γ} {k : α → δ} {b : β} {c : γ} {d : δ} (h1 : x.map f = some b) (h2 : x.map g = some c) (h : ∀ s, f s = b → g s = c → k s = d) : x.map k = some d := by
  cases x with
  | none => cases h1
  | some a =>
    simp only [Option.map_some, Option.some.injEq] at h1 h2 ⊢
    exact h a h1 h2
theorem runEq_of {r : PySem.W.OpenRow} {q : Program} {H : PySem.W.Hook} {ob : PySem.W.SharedT → H.α} {M : Nat} {loose : List PySem.Str} {w : World}
    (a : ∀ os, (endS r M w os).map (fun s => HandSHeadRun.looksF r.prog (PySem.W.boot_heap w.params) s.abs) = some true)
    (b : ∀ os, (endS r M w os).map (fun s => HandSHeadRun.seenQ q loose (importedModules r.prog.main.body) (fun s => PySem.W.xlAt q [] s && PySem.W.recOk r.toRowW.records s) s.abs) = some (PySem.W.openGood q loose))
    (c : ∀ os, (endS r M w os).map ob = some (H.val w)) : HandSHeadRun.RunEq r q H ob M loose w := fun os => map_pair (a os) (map_pair (b os) (c os))
/-! ### the facts in parts -/
noncomputable def partF (n : Nat) (fa : List FaF) (fn : List He5.DefA) (s : PySem.W.SharedT) : AlD := obsF fa fn (frG (HandSHeadRun.getT s) (clsX (HandSHeadRun.getT s) (He5.asA (HandSHeadRun.getT s) n)))
noncomputable def partE (n : Nat) (file : PySem.Str) (ex : List ExD) (s : PySem.W.SharedT) : AlD := obsE file ex (frG (HandSHeadRun.getT s) (clsX (HandSHeadRun.getT s) (He5.asA (HandSHeadRun.getT s) n)))
theorem obsF_app {fa fa2 : List FaF} {fn fn2 : List He5.DefA} {K : PySem.W.Frag} (h1 : obsF fa fn K = valF fn) (h2 : obsF fa2 fn2 K = valF fn2) : obsF (fa ++ fa2) (fn ++ fn2) K = valF (fn ++ fn2) := by
  have a1 : ((fa.all fun f => f K) && fn.all fun d => d.ok K) = true := congrArg (fun z : AlD => z.1) h1
  have a2 : ((fa2.all fun f => f K) && fn2.all fun d => d.ok K) = true := congrArg (fun z : AlD => z.1) h2
  have b1 : (fn.map fun d => He5.fnA K (d.at_ K)) = fn.map He5.DefA.val := congrArg (fun z : AlD => z.2) h1
  have b2 : (fn2.map fun d => He5.fnA K (d.at_ K)) = fn2.map He5.DefA.val := congrArg (fun z : AlD => z.2) h2
  obtain ⟨c1, c2⟩ := ba a1
  obtain ⟨d1, d2⟩ := ba a2
  show ((((fa ++ fa2).all fun f => f K) && (fn ++ fn2).all fun d => d.ok K), (fn ++ fn2).map fun d => He5.fnA K (d.at_ K)) = (true, (fn ++ fn2).map He5.DefA.val)
  rw [List.all_append, List.all_append, c1, c2, d1, d2, List.map_append, List.map_append, b1, b2]
  rfl
theorem obsX_of {file : PySem.Str} {fa : List FaF} {fn : List He5.DefA} {ex : List ExD} {K : PySem.W.Frag} (h1 : obsF fa fn K = valF fn) (h2 : obsE file ex K = valEx ex) : obsX file fa fn ex K = valX fn ex := by
  have a1 : ((fa.all fun f => f K) && fn.all fun d => d.ok K) = true := congrArg (fun z : AlD => z.1) h1
  have b1 : (fn.map fun d => He5.fnA K (d.at_ K)) = fn.map He5.DefA.val := congrArg (fun z : AlD => z.2) h1
  have a2 : (ex.all fun d => d.ok file K) = true := congrArg (fun z : AlD => z.1) h2
  have b2 : (ex.map fun d => fnX K (d.ad K)) = ex.map ExD.val := congrArg (fun z : AlD => z.2) h2
  show ((((fa.all fun f => f K) && fn.all fun d => d.ok K) && ex.all fun d => d.ok file K), (fn.map fun d => He5.fnA K (d.at_ K)) ++ ex.map fun d => fnX K (d.ad K)) = (true, fn.map He5.DefA.val ++ ex.map ExD.val)
  rw [a1, a2, b1, b2]
  rfl
theorem part_two {x : Option PySem.W.SharedT} {n : Nat} {fa fa2 : List FaF} {fn fn2 : List He5.DefA} (h1 : x.map (partF n fa fn) = some (valF fn)) (h2 : x.map (partF n fa2 fn2) = some (valF fn2)) : x.map (partF n (fa ++ fa2) (fn ++ fn2)) = some (valF (fn ++ fn2)) :=
  map_two h1 h2 fun _ a b => obsF_app a b
theorem part_end {x : Option PySem.W.SharedT} {n : Nat} {file : PySem.Str} {fa : List FaF} {fn : List He5.DefA} {ex : List ExD} (h1 : x.map (partF n fa fn) = some (valF fn)) (h2 : x.map (partE n file ex) = some (valEx ex)) : x.map (fun s => obsXG n file fa fn ex (HandSHeadRun.getT s)) = some (valX fn ex) :=
  map_two h1 h2 fun _ a b => obsX_of a b
theorem part_end0 {x : Option PySem.W.SharedT} {n : Nat} {file : PySem.Str} {fa : List FaF} {fn : List He5.DefA} (h1 : x.map (partF n fa fn) = some (valF fn)) : x.map (fun s => obsXG n file fa fn [] (HandSHeadRun.getT s)) = some (valX fn []) :=
  map_of h1 fun _ a => obsX_of a rfl
end DL

/-! DTold: == of lists of flat things (bools too) with themselves. -/
namespace DL
open PySem PySem.Spec PyProof.Rows L2
def Flat1 : D → Prop
  | .non => True
  | .bl _ => True
  | .int _ => True
  | .str s => PyData.strOk s = true
  | _ => False
def pyFlat : D → PyData
  | .bl b => .bool b
  | .int i => .int i
  | .str s => .str s
  | _ => .none
theorem flat_ok {M : Mem} : ∀ {d : D}, Flat1 d → Py M d (pyFlat d) ∧ (pyFlat d).canLay0 = true ∧ (pyFlat d).depth ≤ 1 ∧ PyData.eqv (pyFlat d) (pyFlat d) = true
  | .non, _ => ⟨.non, rfl, by simp [pyFlat, PyData.depth], by simp [pyFlat, PyData.eqv]⟩
  | .bl b, _ => ⟨.bl b, rfl, by simp [pyFlat, PyData.depth], by simp [pyFlat, PyData.eqv]⟩
  | .int i, _ => ⟨.int i, rfl, by simp [pyFlat, PyData.depth], by simp [pyFlat, PyData.eqv]⟩
  | .str s, h => ⟨.str s, h, by simp [pyFlat, PyData.depth], by simp [pyFlat, PyData.eqv]⟩
theorem flats_ok {M : Mem} : ∀ {ds : List D}, (∀ d ∈ ds, Flat1 d) → PyL M ds (ds.map pyFlat) ∧ PyData.canLayAll0 (ds.map pyFlat) = true ∧ PyData.depthAll (ds.map pyFlat) ≤ 1 ∧ PyData.eqvAll (ds.map pyFlat) (ds.map pyFlat) = true
  | [], _ => ⟨.nil, by simp [PyData.canLayAll0], by simp [PyData.depthAll], by simp [PyData.eqvAll]⟩
  | d :: ds, h => by
    obtain ⟨a1, a2, a3, a4⟩ := flat_ok (M := M) (h d (by simp))
    obtain ⟨b1, b2, b3, b4⟩ := flats_ok (M := M) (ds := ds) fun e he => h e (by simp [he])
    exact ⟨.cons a1 b1, by simp [PyData.canLayAll0, a2, b2], by simp only [List.map_cons, PyData.depthAll]; omega, by simp [PyData.eqvAll, a4, b4]⟩
theorem told_main {ds : List D} {M : Mem} (h : ∀ d ∈ ds, Flat1 d) : ∃ ps, PyL M ds ps ∧ SeqAt.shaped (.list ps) = true ∧ PyData.eqv (.list ps) (.list ps) = true := by
  obtain ⟨b1, b2, b3, b4⟩ := flats_ok (M := M) h
  refine ⟨_, b1, ?_, by simp [PyData.eqv, b4]⟩
  unfold SeqAt.shaped
  have e : PyData.canLay0 (.list (ds.map pyFlat)) = true := by simp [PyData.canLay0, b2]
  rw [e, Bool.true_and]
  refine decide_eq_true ?_
  simp only [PyData.depth]
  omega
theorem LstOf.pyL {x : D} {M : Mem} {ds : List D} {ps : List PyData} (h : LstOf x M ds) (p : PyL M ds ps) : Py M x (.list ps) := by
  rcases h with rfl | ⟨a, rfl, hm⟩
  · exact .lst p
  · exact .ref hm p
theorem dEq_told {x y : D} {ds : List D} {M : Mem} {Q : DK} (hx : LstOf x M ds) (hy : LstOf y M ds) (h : ∀ d ∈ ds, Flat1 d) (q : Q (.bl true) M) : dEq x y M Q := by
  obtain ⟨ps, p, s, e⟩ := told_main (M := M) h
  have main : ∃ p q, Py M x p ∧ Py M y q ∧ SeqAt.shaped p = true ∧ SeqAt.shaped q = true ∧ Q (.bl (PyData.eqv p q)) M := ⟨_, _, hx.pyL p, hy.pyL p, s, s, by rw [e]; exact q⟩
  rcases hx with rfl | ⟨a, rfl, hm⟩ <;> rcases hy with rfl | ⟨b, rfl, hm2⟩ <;> exact main
theorem dNe_told {x y : D} {ds : List D} {M : Mem} {Q : DK} (hx : LstOf x M ds) (hy : LstOf y M ds) (h : ∀ d ∈ ds, Flat1 d) (q : Q (.bl false) M) : dNe x y M Q := by
  obtain ⟨ps, p, s, e⟩ := told_main (M := M) h
  have main : ∃ p q, Py M x p ∧ Py M y q ∧ SeqAt.shaped p = true ∧ SeqAt.shaped q = true ∧ Q (.bl (!PyData.eqv p q)) M := ⟨_, _, hx.pyL p, hy.pyL p, s, s, by rw [e]; exact q⟩
  rcases hx with rfl | ⟨a, rfl, hm⟩ <;> rcases hy with rfl | ⟨b, rfl, hm2⟩ <;> exact main
theorem flatW : PyData.strOk "width" = true ∧ PyData.strOk "none" = true ∧ PyData.strOk "follow" = true ∧ PyData.strOk "entry" = true ∧ PyData.strOk "order" = true ∧ PyData.strOk "row" = true ∧ PyData.strOk "misfit" = true ∧ PyData.strOk "sum" = true ∧ PyData.strOk "fit" = true := by decide +kernel
/-! ### == of a shaped thing with itself -/
/-- None, ints, bools, texts, tuples and lists of such -/
def Shp : Nat → D → Prop
  | _, .non => True
  | _, .bl _ => True
  | _, .int _ => True
  | _, .str s => PyData.strOk s = true
  | n + 1, .tup ds => ∀ d ∈ ds, Shp n d
  | n + 1, .lst ds => ∀ d ∈ ds, Shp n d
  | _, _ => False
def pyS : Nat → D → PyData
  | _, .bl b => .bool b
  | _, .int i => .int i
  | _, .str s => .str s
  | n + 1, .tup ds => .tuple (ds.map (pyS n))
  | n + 1, .lst ds => .list (ds.map (pyS n))
  | _, _ => .none
def ShpOk (M : Mem) (n : Nat) (d : D) (p : PyData) : Prop := Py M d p ∧ p.canLay0 = true ∧ p.depth ≤ n + 1 ∧ PyData.eqv p p = true
theorem shps_ok {M : Mem} {n : Nat} (ih : ∀ {d : D}, Shp n d → ShpOk M n d (pyS n d)) : ∀ {ds : List D}, (∀ d ∈ ds, Shp n d) → PyL M ds (ds.map (pyS n)) ∧ PyData.canLayAll0 (ds.map (pyS n)) = true ∧ PyData.depthAll (ds.map (pyS n)) ≤ n + 1 ∧ PyData.eqvAll (ds.map (pyS n)) (ds.map (pyS n)) = true
  | [], _ => ⟨.nil, by simp [PyData.canLayAll0], by simp [PyData.depthAll], by simp [PyData.eqvAll]⟩
  | d :: ds, h => by
    obtain ⟨a1, a2, a3, a4⟩ := ih (h d (by simp))
    obtain ⟨b1, b2, b3, b4⟩ := shps_ok ih (ds := ds) fun e he => h e (by simp [he])
    exact ⟨.cons a1 b1, by simp [PyData.canLayAll0, a2, b2], by simp only [List.map_cons, PyData.depthAll]; omega, by simp [PyData.eqvAll, a4, b4]⟩
theorem shp_ok {M : Mem} : ∀ {n : Nat} {d : D}, Shp n d → ShpOk M n d (pyS n d) := by
  intro n
  induction n with
  | zero =>
    intro d h
    cases d with
    | non => exact ⟨.non, rfl, by simp [pyS, PyData.depth], by simp [pyS, PyData.eqv]⟩
    | bl b => exact ⟨.bl b, rfl, by simp [pyS, PyData.depth], by simp [pyS, PyData.eqv]⟩
    | int i => exact ⟨.int i, rfl, by simp [pyS, PyData.depth], by simp [pyS, PyData.eqv]⟩
    | str s => exact ⟨.str s, h, by simp [pyS, PyData.depth], by simp [pyS, PyData.eqv]⟩
    | _ => exact h.elim
  | succ n ih =>
    intro d h
    cases d with
    | non => exact ⟨.non, rfl, by simp [pyS, PyData.depth], by simp [pyS, PyData.eqv]⟩
    | bl b => exact ⟨.bl b, rfl, by simp [pyS, PyData.depth], by simp [pyS, PyData.eqv]⟩
    | int i => exact ⟨.int i, rfl, by simp [pyS, PyData.depth], by simp [pyS, PyData.eqv]⟩
    | str s => exact ⟨.str s, h, by simp [pyS, PyData.depth], by simp [pyS, PyData.eqv]⟩
    | tup ds =>
      obtain ⟨b1, b2, b3, b4⟩ := shps_ok ih h
      exact ⟨.tup b1, by simp [pyS, PyData.canLay0, b2], by simp only [pyS, PyData.depth]; omega, by simp [pyS, PyData.eqv, b4]⟩
    | lst ds =>
      obtain ⟨b1, b2, b3, b4⟩ := shps_ok ih h
      exact ⟨.lst b1, by simp [pyS, PyData.canLay0, b2], by simp only [pyS, PyData.depth]; omega, by simp [pyS, PyData.eqv, b4]⟩
    | _ => exact h.elim
theorem ShpOk.shaped {M : Mem} {n : Nat} {d : D} {p : PyData} (h : ShpOk M n d p) (hn : n ≤ 62) : SeqAt.shaped p = true := by
  obtain ⟨_, a, b, _⟩ := h
  unfold SeqAt.shaped
  rw [a, Bool.true_and]
  exact decide_eq_true (by omega)
theorem dNe_self {n : Nat} {d : D} {M : Mem} {Q : DK} (h : Shp n d) (hn : n ≤ 62) (q : Q (.bl false) M) : dNe d d M Q := by
  have ok := shp_ok (M := M) h
  have sh := ok.shaped hn
  obtain ⟨a, _, _, e⟩ := ok
  have main : ∃ p q, Py M d p ∧ Py M d q ∧ SeqAt.shaped p = true ∧ SeqAt.shaped q = true ∧ Q (.bl (!PyData.eqv p q)) M := ⟨_, _, a, a, sh, sh, by rw [e]; exact q⟩
  cases d with
  | int i => show Q (.bl (!decide (i = i))) M; rw [decide_eq_true rfl]; exact q
  | str i => show Q (.bl (!decide (i = i))) M; rw [decide_eq_true rfl]; exact q
  | bl i => show Q (.bl (!decide (i = i))) M; rw [decide_eq_true rfl]; exact q
  | _ => exact main
theorem dEq_self {n : Nat} {d : D} {M : Mem} {Q : DK} (h : Shp n d) (hn : n ≤ 62) (q : Q (.bl true) M) : dEq d d M Q := by
  have ok := shp_ok (M := M) h
  have sh := ok.shaped hn
  obtain ⟨a, _, _, e⟩ := ok
  have main : ∃ p q, Py M d p ∧ Py M d q ∧ SeqAt.shaped p = true ∧ SeqAt.shaped q = true ∧ Q (.bl (PyData.eqv p q)) M := ⟨_, _, a, a, sh, sh, by rw [e]; exact q⟩
  cases d with
  | int i => show Q (.bl (decide (i = i))) M; rw [decide_eq_true rfl]; exact q
  | str i => show Q (.bl (decide (i = i))) M; rw [decide_eq_true rfl]; exact q
  | bl i => show Q (.bl (decide (i = i))) M; rw [decide_eq_true rfl]; exact q
  | _ => exact main
theorem dNe_selfL {n : Nat} {x y : D} {ds : List D} {M : Mem} {Q : DK} (hx : LstOf x M ds) (hy : LstOf y M ds) (h : ∀ d ∈ ds, Shp n d) (hn : n ≤ 61) (q : Q (.bl false) M) : dNe x y M Q := by
  have ok := shp_ok (M := M) (n := n + 1) (d := .lst ds) h
  have sh := ok.shaped (by omega)
  obtain ⟨b1, _⟩ := shps_ok (M := M) shp_ok h
  have e := ok.2.2.2
  have main : ∃ p q, Py M x p ∧ Py M y q ∧ SeqAt.shaped p = true ∧ SeqAt.shaped q = true ∧ Q (.bl (!PyData.eqv p q)) M := ⟨_, _, hx.pyL b1, hy.pyL b1, sh, sh, by rw [show PyData.eqv (.list (ds.map (pyS n))) (.list (ds.map (pyS n))) = true from e]; exact q⟩
  rcases hx with rfl | ⟨a, rfl, hm⟩ <;> rcases hy with rfl | ⟨b, rfl, hm2⟩ <;> exact main
end DL

/-! DHdF: the head's part of the heap by the names that are used, level by level (no list without doubles is made: that costs the kernel too much). -/
namespace DL
open PySem PySem.Spec PyProof.Rows L2 He
def obsYG (xs : List PySem.Str) (file : PySem.Str) (fa : List FaF) (fn : List He5.DefA) (ex : List ExD) (g : Addr → Option Obj) : AlD := obsX file fa fn ex (frG g (asF g xs))
def hookY (xs : List PySem.Str) (file : PySem.Str) (fa : List FaF) (fn : List He5.DefA) (ex : List ExD) : PySem.W.Hook where
  α := AlD
  obs := fun s => obsYG xs file fa fn ex s.heap.get?
  val := fun _ => valX fn ex
  says := fun _ h => ∃ K : PySem.W.Frag, K.In h ∧ SaysX file fa fn ex K
  of := fun _ _ e => ⟨_, frG_in, e⟩
  keeps := fun _ _ _ ⟨K, hK, c⟩ k => ⟨K, PySem.W.Frag.In.keeps hK k, c⟩
theorem obsYG_eq {xs : List PySem.Str} {file : PySem.Str} {fa : List FaF} {fn : List He5.DefA} {ex : List ExD} {g : Addr → Option Obj} {s : Shared} (h : ∀ a, g a = s.heap.get? a) : obsYG xs file fa fn ex g = (hookY xs file fa fn ex).obs s := by
  have e : g = s.heap.get? := funext h
  rw [e] <;> rfl
theorem partG_two {x : Option PySem.W.SharedT} {xs : List PySem.Str} {fa fa2 : List FaF} {fn fn2 : List He5.DefA} (h1 : x.map (partG xs fa fn) = some (valF fn)) (h2 : x.map (partG xs fa2 fn2) = some (valF fn2)) : x.map (partG xs (fa ++ fa2) (fn ++ fn2)) = some (valF (fn ++ fn2)) :=
  map_two h1 h2 fun _ a b => obsF_app a b
theorem partG_end {x : Option PySem.W.SharedT} {xs : List PySem.Str} {file : PySem.Str} {fa : List FaF} {fn : List He5.DefA} {ex : List ExD} (h1 : x.map (partG xs fa fn) = some (valF fn)) (h2 : x.map (partEG xs file ex) = some (valEx ex)) : x.map (fun s => obsYG xs file fa fn ex (HandSHeadRun.getT s)) = some (valX fn ex) :=
  map_two h1 h2 fun _ a b => obsX_of a b
theorem partG_end0 {x : Option PySem.W.SharedT} {xs : List PySem.Str} {file : PySem.Str} {fa : List FaF} {fn : List He5.DefA} (h1 : x.map (partG xs fa fn) = some (valF fn)) : x.map (fun s => obsYG xs file fa fn [] (HandSHeadRun.getT s)) = some (valX fn []) :=
  map_of h1 fun _ a => obsX_of a rfl
end DL

/-! DKw: calls with keywords; a tuple of texts of the module; x in a tuple. -/
namespace DL
open PySem PySem.Spec PyProof.Rows L2
/-! ### calls with keywords -/
def tCallNS (n m : Nat) (sp : Sp) (gV : List V → List V → List V) (E : L2.St → XK) (t tk : TA) : TE := fun σ H Q => t σ H fun vs H1 => tk σ H1 fun zs H2 => vs.length = n ∧ zs.length = m ∧ sp (gV vs zs) H2 Q (E σ)
section
variable {X : Cx} {CX : CXT} {k n : Nat} {f : Addr} {fd : FuncData} {ps ks : List PySem.Str} {sp : Sp} {E : L2.St → XK} {x : PySem.Str} {p pos : Pos} {e : Expr} {es : List Expr} {kws : List Keyword} {t tk : TA} {g : List Value → List Value → List Value} {gV : List V → List V → List V}
theorem run_fnNS {pins : List (Addr × Obj)} {σ : L2.St} {H : Hp} {s : Shared} {Q : VK} {us ws : List Value} {vs zs : List V} (F : FnOk X.prog X.w X.K X.mg X.base CX k f fd ps sp) (hr : Room k X.A) (hb : KBn X.K fd ps n ks g gV) (hx : PassesAt CX X σ (E σ))
    (I : Inv X pins σ H s) (r : Vals vs us) (rz : Vals zs ws) (l1 : vs.length = n) (l2 : zs.length = ks.length) (h : sp (gV vs zs) H Q (E σ)) : wpAny (model X.prog X.w) X.A (call (.ref f) us (ks.zip ws)) (EP X pins σ Q) X.xe s := by
  have r2 := hb.rel r rz
  refine wpAny_call (codeAny_mono (F.run X.A X.stack s H ⟨us, ks.zip ws⟩ (g us ws) (gV vs zs) Q (E σ) hr I.env0 (hb.to s us ws I.kIn (r.length.symm.trans l1) (rz.length.symm.trans l2)) r2 h) fun r s' hq => ?_)
  cases r with
  | error e => exact hx pins H s e s' I hq
  | ok fl =>
    cases fl with
    | ret u => exact I.after hq
    | next => exact False.elim hq
    | brk => exact False.elim hq
    | cont => exact False.elim hq
theorem pe_callNS (F : FnOk X.prog X.w X.K X.mg X.base CX k f fd ps sp) (hr : Room k X.A) (hg : Gl X x) (hm : X.mg x = some (.ref f)) (hk : PySem.W.keepIn X.K (.ref f) = true) (hb : KBn X.K fd ps n ks g gV) (hx : ∀ σ, PassesAt CX X σ (E σ))
    (ha : PA X (e :: es) t) (hkw : PK X kws tk) (hall : (backToKw pos (keywordEach kws X.env)).all (·.1.isSome) = true := by rfl) (hks : (backToKw pos (keywordEach kws X.env)).filterMap (·.1) = ks := by rfl)
    (hdb : (x == ("__debug__" : PySem.Str)) = false := by decide) (he : starEach (e :: es) X.env = (false, eval e X.env) :: starEach es X.env := by rfl)
    (hpl : ((backTo pos (starEach (e :: es) X.env)).any (·.1) || (backToKw pos (keywordEach kws X.env)).any (·.1.isNone)) = false := by rfl) :
    PE X (.Call (.Name x p) (e :: es) kws pos) (tCallNS n ks.length sp gV E t tk) := by
  refine ⟨fun pins s σ H Q I h => ?_⟩
  refine wpAny_Call_Name_kw (ld_glob I hg hm ?_ hdb)
  refine PySem.W.callWith_KW (h₀ := X.base) I.ok.mod.kin hk hall (thn (ha.run pos pins s σ H _ I h) fun us s1 ⟨vs, H1, I1, r, q⟩ => ?_) hpl he
  refine thn (hkw.run pos pins s1 σ H1 _ I1 q) fun ws s2 ⟨zs, H2, I2, rz, l1, l2, q2⟩ => ⟨I2.kIn, ?_⟩
  rw [hks]
  exact run_fnNS F hr hb (hx σ) I2 r rz l1 l2 q2
end
/-- keywords' values -/
structure DKv (X : Cx) (g : Gr) (kws : List Keyword) (t : DTA) : Prop where
  run : PK X kws (liftA X.K g t)
theorem pk_imp {X : Cx} {e : List Keyword} {t t' : TA} (h : PK X e t) (i : ∀ σ H Q, t' σ H Q → t σ H Q) : PK X e t' := ⟨fun pos pins s σ H Q I w => h.run pos pins s σ H Q I (i _ _ _ w)⟩
section
variable {X : Cx} {g : Gr} {e : Expr} {kws : List Keyword} {te : DTE} {t : DTA} {nm : Option PySem.Str} {kpos : Pos}
theorem dkv_nil : DKv X g [] dNil := ⟨pk_imp pk_nil fun σ H Q ⟨S, M, sd, QD, a, q, k⟩ => k _ _ _ _ _ q (Same.refl _) a.rep .nil⟩
theorem dkv_cons (ha : DE X g e te) (hr : DKv X g kws t) : DKv X g (⟨nm, e, kpos⟩ :: kws) (dCons te t) := by
  refine ⟨pk_imp (pk_cons ha.run hr.run) fun σ H Q h => ?_⟩
  obtain ⟨S, M, sd, QD, a, q, k⟩ := h
  refine ⟨S, M, sd, _, a, q, fun d M1 v S1 H1 q1 e1 r1 i1 => ?_⟩
  exact ⟨S1, M1, sd, _, a.step e1 r1, q1, fun ds M2 vs S2 H2 q2 e2 r2 i2 => k _ _ _ _ _ q2 (e1.trans e2) r2 (.cons (i1.mono e2) i2)⟩
end
/-- a def called with keywords -/
structure DCalK (P : Program) (w : World) (K : PySem.W.Frag) (mg : PySem.Str → Option Value) (base : Heap) (k : Nat) (x : PySem.Str) (sp : DSp) (n : Nat) (ks : List PySem.Str) : Prop where
  ex : ∃ (f : Addr) (fd : FuncData) (ps : List PySem.Str), FnOk P w K mg base (EX P w) k f fd ps (liftSp K sp) ∧ mg x = some (.ref f) ∧ PySem.W.keepIn K (.ref f) = true ∧ KBn K fd ps n ks (fun us ws => us ++ ws) (fun vs zs => vs ++ zs)
@[reducible] def dCallK (sp : DSp) (n m : Nat) (wd : DWX) (t tk : DTA) : DTE := fun σ M Q => t σ M fun ds M1 => tk σ M1 fun es M2 => ds.length = n ∧ es.length = m ∧ sp (ds ++ es) M2 Q fun c fs M3 => wd c fs σ M3
section
variable {X : Cx} {g : Gr} {wd : DWX} {k j n : Nat} {x : PySem.Str} {sp : DSp} {ks : List PySem.Str} {p pos : Pos} {e : Expr} {es : List Expr} {kws : List Keyword} {t tk : DTA}
theorem de_callK (c : DCalK X.prog X.w X.K X.mg X.base k x sp n ks) (hr : Room j X.A) (hk : k ≤ j) (hg : Gl X x) (hx : ∀ σ, PassesAt (EX X.prog X.w) X σ (fun cls d H => liftW X.K g wd cls d σ H)) (ha : DA X g (e :: es) t) (hkw : DKv X g kws tk)
    (hall : (backToKw pos (keywordEach kws X.env)).all (·.1.isSome) = true := by rfl) (hks : (backToKw pos (keywordEach kws X.env)).filterMap (·.1) = ks := by rfl)
    (hdb : (x == ("__debug__" : PySem.Str)) = false := by decide) (he : starEach (e :: es) X.env = (false, eval e X.env) :: starEach es X.env := by rfl)
    (hpl : ((backTo pos (starEach (e :: es) X.env)).any (·.1) || (backToKw pos (keywordEach kws X.env)).any (·.1.isNone)) = false := by rfl) :
    DE X g (.Call (.Name x p) (e :: es) kws pos) (dCallK sp n ks.length wd t tk) := by
  obtain ⟨f, fd, ps, F, hm, kp, hb⟩ := c.ex
  refine ⟨pe_imp (pe_callNS F (hr.mono hk) hg hm kp hb hx ha.run hkw.run hall hks hdb he hpl) fun σ H Q h => ?_⟩
  obtain ⟨S, M, sd, QD, a, q, kk⟩ := h
  refine ⟨S, M, sd, _, a, q, fun ds M1 vs S1 H1 q1 e1 r1 i1 => ?_⟩
  refine ⟨S1, M1, sd, _, a.step e1 r1, q1, fun es M2 zs S2 H2 q2 e2 r2 i2 => ?_⟩
  obtain ⟨l1, l2, q2⟩ := q2
  refine ⟨by rw [i1.length]; exact l1, by rw [i2.length]; exact l2, ?_⟩
  refine ⟨g.F, S2, M2, _, QD, _, r2, (IsL.mono e2 i1).app i2, q2, fun d M' v S' H' q' e' r' i' => kk _ _ _ _ _ q' ((e1.trans e2).trans e') r' i', fun c fs M' dd S' H' hw e' r' x' => ?_⟩
  exact ⟨S', M', sd, fs, ((a.step e1 r1).step e2 r2).step e' r', x', hw⟩
end
/-- no defaults, all values written: some by position, the keyword-only ones by name -/
theorem kbindsN {K : PySem.W.Frag} {x qual : PySem.Str} {params : Arguments} {body : List Stmt} {scope : Scope} {kws : List (PySem.Str × V)} {f : Addr} {fd : FuncData} {ps : List PySem.Str} (F : FunD K x qual params body scope [] kws f fd) (n : Nat) (ks : List PySem.Str)
    (h : ∀ (kV doc pm : Value) (an : Option Addr) (cdv ct : Value) (us ws : List Value), us.length = n → ws.length = ks.length → bindArgs (PySem.W.fnOf x qual params body scope .none kV doc pm an cdv ct) ⟨us, ks.zip ws⟩ = pure (ps.zip (us ++ ws))) : KBn K fd ps n ks (fun us ws => us ++ ws) (fun vs zs => vs ++ zs) := by
  obtain ⟨oc, od, dV, kV, doc, pm, an, cdv, ct, osl, rfl, lk, hcd, hD, hK⟩ := F.ex
  rcases hD with ⟨_, rfl⟩ | ⟨e, _⟩
  · exact ⟨fun s us ws _ l1 l2 => BindsTo.of_eq (h kV doc pm an cdv ct us ws l1 l2), fun r1 r2 => r1.append r2⟩
  · exact absurd rfl e
/-! ### a tuple of texts of the module -/
/-- such a tuple stands at the global x -/
structure GTup [Cl] (K : PySem.W.Frag) (mg : PySem.Str → Option Value) (x : PySem.Str) (ws : List PySem.Str) : Prop where
  ex : ∃ (a : Addr) (o : Obj) (its : Array Value) (n : Nat), mg x = some (.ref a) ∧ K.lookup a = some o ∧ o.cls = .type "tuple" ∧ o.data = .seq its n ∧ its.size ≤ sizeLine ∧ Vals (ws.map V.str) its.toList
theorem de_gtup [Cl] {X : Cx} {g : Gr} {pos : Pos} {x : PySem.Str} {ws : List PySem.Str} (hg : Gl X x) (h : GTup X.K X.mg x ws) (hd : (x == ("__debug__" : PySem.Str)) = false := by decide) : DE X g (.Name x pos) (dC (.tup (ws.map .str))) := by
  obtain ⟨a, o, its, n, hm, h1, h2, h3, h4, h5⟩ := h.ex
  exact de_const (pe_glob (v := .ref a) hg hm rfl hd) fun S => .tup (.inr ⟨o, its, n, h1, h2, h3, h4, h5⟩) IsL.ofStrs
def strB : List PySem.Str → List Value → Bool
  | [], [] => true
  | w :: ws, .str y _ :: vs => decide (y = w) && strB ws vs
  | _, _ => false
theorem strB_ok : ∀ {ws : List PySem.Str} {vs : List Value}, strB ws vs = true → Vals (ws.map V.str) vs
  | [], [], _ => .nil
  | w :: ws, v :: vs, h => by
    cases v with
    | str y t =>
      obtain ⟨h1, h2⟩ := He.ba (show (decide (y = w) && strB ws vs) = true from h)
      have e : y = w := of_decide_eq_true h1
      subst e
      exact .cons ⟨t, rfl⟩ (strB_ok h2)
    | _ => cases h
  | [], _ :: _, h => by cases h
  | _ :: _, [], h => by cases h
/-- .. as a fact of the head -/
def fTupS (x : PySem.Str) (ws : List PySem.Str) : FaF := fun K => He.eqO (PySem.W.nsIn K mainGlobals x) (some (some (.ref (He.ga K x)))) && (match K.lookup (He.ga K x) with
  | some ⟨.type c, _, .seq its _, _⟩ => decide (c = "tuple") && (decide (its.size ≤ 100) && strB ws its.toList)
  | _ => false)
theorem fTupS_ok [Cl] {K : PySem.W.Frag} {h : Heap} {mg : PySem.Str → Option Value} (X : K.In h) (G : h.Ns mainGlobals mg) {x : PySem.Str} {ws : List PySem.Str} (c : fTupS x ws K = true) : GTup K mg x ws := by
  obtain ⟨c1, c⟩ := He.ba c
  have hm : mg x = some (.ref (He.ga K x)) := PySem.W.mg_of X G (He.eqO_ok c1)
  split at c
  · rename_i t od its n sl e
    obtain ⟨c2, c⟩ := He.ba c
    obtain ⟨c3, c4⟩ := He.ba c
    exact ⟨_, _, its, n, hm, e, congrArg Value.type (of_decide_eq_true c2), rfl, Nat.le_trans (of_decide_eq_true c3) (by decide), strB_ok c4⟩
  · cases c
end DL
namespace DL
open PySem PySem.Spec PyProof.Rows L2
/-- a text in texts -/
def dInW : DR2 := fun x y M Q => ∃ (i : PySem.Str) (ns : List PySem.Str), x = .str i ∧ Seq y M (ns.map .str) ∧ Q (.bl (decide (i ∈ ns))) M
def dNotInW : DR2 := fun x y M Q => ∃ (i : PySem.Str) (ns : List PySem.Str), x = .str i ∧ Seq y M (ns.map .str) ∧ Q (.bl (!decide (i ∈ ns))) M
theorem all_flatW {ns : List PySem.Str} : (ns.map V.str).all flatV = true := by
  rw [List.all_eq_true]
  intro v h
  obtain ⟨i, _, rfl⟩ := List.mem_map.mp h
  rfl
theorem inV_strs {i : PySem.Str} {ns : List PySem.Str} : inV (.str i) (ns.map V.str) = decide (i ∈ ns) := by
  rw [Bool.eq_iff_iff, decide_eq_true_eq]
  unfold inV
  rw [List.any_eq_true]
  constructor
  · rintro ⟨v, hv, e⟩
    obtain ⟨j, hj, rfl⟩ := List.mem_map.mp hv
    have e : (j == i) = true := e
    rw [← eq_of_beq e]
    exact hj
  · intro h
    exact ⟨.str i, List.mem_map_of_mem h, by show (i == i) = true; simp⟩
section
variable {X : Cx}
theorem dop_inW : OpR X (compareOp .In) (liftR2 X.K dInW) := by
  intro pins s σ H x y v u Q I rx ry h
  obtain ⟨F, S, M, dx, dy, QD, rep, ix, iy, ⟨i, ns, rfl, sq, hr⟩, hq⟩ := h
  cases ix
  obtain ⟨p, vs, rfl, hs, l⟩ := sq.sq rep iy
  have e := l.strs
  subst e
  refine op_in_seq pins s σ H _ _ v u Q I rx ry ⟨p, _, rfl, hs, rfl, all_flatW, ?_⟩
  rw [if_neg Bool.false_ne_true, inV_strs]
  exact hq _ _ _ S H hr (Same.refl _) rep (.bl _)
theorem dop_notInW : OpR X (compareOp .NotIn) (liftR2 X.K dNotInW) := by
  intro pins s σ H x y v u Q I rx ry h
  obtain ⟨F, S, M, dx, dy, QD, rep, ix, iy, ⟨i, ns, rfl, sq, hr⟩, hq⟩ := h
  cases ix
  obtain ⟨p, vs, rfl, hs, l⟩ := sq.sq rep iy
  have e := l.strs
  subst e
  refine op_notIn_seq pins s σ H _ _ v u Q I rx ry ⟨p, _, rfl, hs, rfl, all_flatW, ?_⟩
  rw [if_pos rfl, inV_strs]
  exact hq _ _ _ S H hr (Same.refl _) rep (.bl _)
end
end DL
namespace DL
open PySem PySem.Spec PyProof.Rows L2
/-- *e in a display, e a list or a tuple -/
@[reducible] def dStarQ (te : DTE) (tr : DTA) : DTA := fun σ M Q => te σ M fun x M1 => ∃ ds, Seq x M1 ds ∧ tr σ M1 fun xs M2 => Q (ds ++ xs) M2
section
variable {X : Cx} {g : Gr} {pos : Pos} {e : Expr} {es : List Expr} {te : DTE} {t : DTA}
theorem da_starQ (ha : DE X g e te) (hr : DA X g es t) (hs : starEach (.Starred e pos :: es) X.env = (true, eval e X.env) :: starEach es X.env := by rfl) : DA X g (.Starred e pos :: es) (dStarQ te t) := by
  refine ⟨pa_imp (StX.pa_star ha.run hr.run hs) fun σ H Q h => ?_⟩
  obtain ⟨S, M, sd, QD, a, q, k⟩ := h
  refine ⟨S, M, sd, _, a, q, fun d M1 v S1 H1 q1 e1 r1 i1 => ?_⟩
  obtain ⟨ds, hx, q1⟩ := q1
  obtain ⟨b, ws, rfl, hb, l⟩ := hx.sq r1 i1
  refine ⟨b, ws, rfl, hb.symm, S1, M1, sd, _, a.step e1 r1, q1, fun xs M2 vs S2 H2 q2 e2 r2 i2 => ?_⟩
  exact k _ _ _ S2 H2 q2 (e1.trans e2) r2 ((IsL.mono e2 l).app i2)
end
end DL

/-! DDst: d[k] = v and list(d) of a dict. -/
namespace DL
open PySem PySem.Spec PyProof.Rows L2
section
variable {K : PySem.W.Frag} {F S H : Hp} {M : Mem} {p : Addr}
theorem is_keyV {k : Key} : Is K S (kV k) (keyD k) := by
  cases k with
  | inl i => exact .int i
  | inr s => exact .str s
theorem isL_keys : ∀ {ws : List (Key × V)} {kvs : List (Key × D)}, IsKV K S ws kvs → IsL K S (ws.map fun kv => kV kv.1) (kvs.map fun kv => keyD kv.1)
  | _, _, .nil => .nil
  | _, _, .cons (a := a) (b := b) h t => by
    rw [List.map_cons, List.map_cons]
    refine .cons ?_ (isL_keys t)
    obtain ⟨k1, v1⟩ := a
    obtain ⟨k2, d2⟩ := b
    have e : k1 = k2 := h.1
    subst e
    exact is_keyV
end
def dListD : DR1 := fun x M Q => ∃ a kvs, x = .ref a ∧ M a = some (.dK kvs) ∧ Q (.lst (kvs.map fun kv => keyD kv.1)) M
theorem dcall_listD {X : Cx} (hcalm : X.calm = true) : CallR X (.type "list") (liftRL X.K (r1 dListD)) := call1 (call_listD hcalm) fun {F S H M x d QD Q} rep i hr hq => by
  obtain ⟨a, kvs, rfl, hm, q⟩ := hr
  obtain ⟨ws, hw, l⟩ := rep.dictAt hm
  refine ⟨a, ws, by rw [is_ref i], Rd.of hw, fun l' hl => ?_⟩
  have s1 : Same S (upd S l' (.lst (ws.map fun kv => kV kv.1))) := same_upd (rep.freeS hl)
  exact hq _ M _ _ _ q s1 (rep.frozen hl) (.lst upd_same ((isL_keys l).mono s1))
def dSetK (o i v : D) (M : Mem) (Q : Mem → Prop) : Prop := ∃ a kvs k, o = .ref a ∧ i = keyD k ∧ M a = some (.dK kvs) ∧ kvs.length < sizeLine ∧ Q (mset M a (.dK (kPut kvs k v)))
@[reducible] def dgSubK (to ti : DTE) : DTG := fun v σ M Q => to σ M fun o M1 => ti σ M1 fun i M2 => dSetK o i v M2 fun M3 => Q σ M3
section
variable {X : Cx} {g : Gr} {pos : Pos}
theorem dg_subK {o i : Expr} {to ti : DTE} (hu : X.A.units + 1 < cLine) (ho : DE X g o to) (hi : DE X g i ti) (ha : ∀ v, assign (.Subscript o i pos) X.env v = (do
      let ov ← holding [v] (eval o X.env)
      let iv ← holding [v, ov] (eval i X.env)
      standAt pos
      holding [v, ov, iv] (setItem ov iv v)
      release [v, ov, iv] []) := by intro _; rfl) : DG X g (.Subscript o i pos) (dgSubK to ti) := by
  refine ⟨pg_imp (pg_sub ho.run hi.run (set_dict hu) ha) fun v σ H Q hh => ?_⟩
  obtain ⟨S, M, sd, d, QD, a, iv, q, k⟩ := hh
  refine ⟨S, M, sd, _, a, q, fun d1 M1 v1 S1 H1 q1 e1 r1 i1 => ?_⟩
  refine ⟨S1, M1, sd, _, a.step e1 r1, q1, fun d2 M2 v2 S2 H2 q2 e2 r2 i2 => ?_⟩
  obtain ⟨p, kvs, ky, rfl, rfl, hm, hl, q3⟩ := q2
  obtain ⟨ws, hw, l⟩ := r2.dictAt hm
  have ek := is_key i2
  subst ek
  have hl' : ws.length < sizeLine := by rw [isKV_len l]; exact hl
  have rw' := r2.write (o := .dK (putK ws ky v)) hm (co' := .dK (kPut kvs ky d)) ⟨_, upd_same, isKV_put l ((iv.mono e1).mono e2)⟩
  exact ⟨p, _, is_ref i1, DPut.k hw hl', k _ _ _ _ _ q3 (e1.trans e2) ((a.step e1 r1).step e2 rw')⟩
end
section
variable {X : Cx} {g : Gr}
variable {kx vx tgE iter : Expr} {ifs : List Expr} {scope : Scope} {own : List (PySem.Str × Nat)} {pos : Pos} {wi : DTI} {tg : Tg} {tt : DTT} {tk tv : DTE}
theorem de_dc (hc : X.calm = true) (hN : X.N.Nodup) (hi : DI X g tgE iter wi) (ok : BlkOk X.N X.env.scope scope own) (hs0 : ∀ i ∈ tg.slots, i ∈ own.map (·.2))
    (hg : ∀ (s : Shared) (H : Hp) (C : Addr) (cl : List (PySem.Str × Addr)) (fp : List Addr), PG (X.blk s H scope (compEnvC scope cl C X.env) fp) tgE (tg.h X.K))
    (ht : ∀ (s : Shared) (H : Hp) (C : Addr) (cl : List (PySem.Str × Addr)) (fp : List Addr) (g' : Gr), DTs (X.blk s H scope (compEnvC scope cl C X.env) fp) g' ifs tt)
    (hk : ∀ (s : Shared) (H : Hp) (C : Addr) (cl : List (PySem.Str × Addr)) (fp : List Addr) (g' : Gr), DE (X.blk s H scope (compEnvC scope cl C X.env) fp) g' kx tk)
    (he : ∀ (s : Shared) (H : Hp) (C : Addr) (cl : List (PySem.Str × Addr)) (fp : List Addr) (g' : Gr), DE (X.blk s H scope (compEnvC scope cl C X.env) fp) g' vx tv) (hs : ∀ x, foldedSetIterable iter X.env x = pure x := by intro _; rfl) :
    DE X g (.DictComp kx vx [⟨tgE, iter, ifs, 0⟩] scope pos) (dDc wi tg tt tk tv (own.map (·.2))) := by
  refine ⟨pe_imp (pe_dc (tk := liftEx X.K tk) (tv := liftEx X.K tv) (tt := liftTx X.K tt) (g := tg.h X.K) hc hN hi.run ok hg (fun s H C cl fp => pts_ex (ht s H C cl fp)) (fun s H C cl fp => pe_ex (hk s H C cl fp)) (fun s H C cl fp => pe_ex (he s H C cl fp)) hs) fun σ H Q h => ?_⟩
  obtain ⟨S, M, sd, QD, a, q, k⟩ := h
  refine lift_gatherD hs0 a q fun acc M' S' H' p accV q' e' r' l' hF => ?_
  obtain ⟨r2, hM⟩ := r'.uncellD hF l'
  exact k _ _ _ S' H' (q' p hM) e' r2 (.ref p)
end
@[reducible] def spk6 (r : D → D → D → D → D → D → Mem → DK → DXK → Prop) : DSp := fun ds M Q E => match ds with
  | [a, b, c, d, e, f] => r a b c d e f M Q E
  | _ => False
theorem spk6_len {r} : ∀ ds M Q E, spk6 r ds M Q E → ds.length = 6 := fun ds M Q E h => by
  unfold spk6 at h; split at h <;> first | rfl | exact h.elim
theorem rd6 {r : D → D → D → D → D → D → Mem → DK → DXK → Prop} {t : DTS} {N : Nat} (h : ∀ a b c d e f M Q E, r a b c d e f M Q E → t { nx := fun _ M' => QF Q .non M', rt := QF Q } (dstart N [a, b, c, d, e, f]) M) :
    ∀ ds M Q E, spk6 r ds M Q E → t { nx := fun _ M' => QF Q .non M', rt := QF Q } (dstart N ds) M := fun ds M Q E q => by
  unfold spk6 at q; split at q <;> first | exact h _ _ _ _ _ _ M Q E q | exact q.elim
@[reducible] def spk7 (r : D → D → D → D → D → D → D → Mem → DK → DXK → Prop) : DSp := fun ds M Q E => match ds with
  | [a, b, c, d, e, f, g] => r a b c d e f g M Q E
  | _ => False
theorem spk7_len {r} : ∀ ds M Q E, spk7 r ds M Q E → ds.length = 7 := fun ds M Q E h => by
  unfold spk7 at h; split at h <;> first | rfl | exact h.elim
theorem rd7 {r : D → D → D → D → D → D → D → Mem → DK → DXK → Prop} {t : DTS} {N : Nat} (h : ∀ a b c d e f g M Q E, r a b c d e f g M Q E → t { nx := fun _ M' => QF Q .non M', rt := QF Q } (dstart N [a, b, c, d, e, f, g]) M) :
    ∀ ds M Q E, spk7 r ds M Q E → t { nx := fun _ M' => QF Q .non M', rt := QF Q } (dstart N ds) M := fun ds M Q E q => by
  unfold spk7 at q; split at q <;> first | exact h _ _ _ _ _ _ _ M Q E q | exact q.elim
end DL

/-! DKwD: calls with keywords behind values left to their defaults. -/
namespace DL
open PySem PySem.Spec PyProof.Rows L2
/-- n values by position, b defaults from the a-th on, the others by name -/
theorem kbindsM {K : PySem.W.Frag} {x qual : PySem.Str} {params : Arguments} {body : List Stmt} {scope : Scope} {dvs : List V} {kws : List (PySem.Str × V)} {f : Addr} {fd : FuncData} {ps : List PySem.Str} (F : FunD K x qual params body scope dvs kws f fd) (n : Nat) (ks : List PySem.Str) (a b : Nat) (hd : dvs ≠ [])
    (h : ∀ (T : Addr) (kV doc pm : Value) (an : Option Addr) (cdv ct : Value) (us its ws : List Value), us.length = n → its.length = dvs.length → ws.length = ks.length →
      ∃ k, bindArgs (PySem.W.fnOf x qual params body scope (.ref T) kV doc pm an cdv ct) ⟨us, ks.zip ws⟩ = seqItems? (.ref T) >>= k ∧ k (some its.toArray) = pure (ps.zip ((us ++ (its.drop a).take b) ++ ws))) :
    ∃ mv : List Value, KBn K fd ps n ks (fun us ws => (us ++ mv) ++ ws) (fun vs zs => (vs ++ (dvs.drop a).take b) ++ zs) := by
  obtain ⟨oc, od, dV, kV, doc, pm, an, cdv, ct, osl, rfl, lk, hcd, hD, hK⟩ := F.ex
  rcases hD with ⟨e, _⟩ | ⟨_, T, o, its, m, rfl, lT, oT, rT⟩
  · exact absurd e hd
  · refine ⟨(its.drop a).take b, ⟨fun s us ws X l1 l2 => ?_, fun r1 r2 => (r1.append ((rT.drop a).take b)).append r2⟩⟩
    obtain ⟨k, e1, e2⟩ := h T kV doc pm an cdv ct us its ws l1 rT.length.symm l2
    refine BindsTo.of_looks fun M => ?_
    rw [e1]
    exact looks_items X lT oT (.of_pure e2)
structure DCalM (P : Program) (w : World) (K : PySem.W.Frag) (mg : PySem.Str → Option Value) (base : Heap) (k : Nat) (x : PySem.Str) (sp : DSp) (n : Nat) (ks : List PySem.Str) (mid : List D) : Prop where
  ex : ∃ (f : Addr) (fd : FuncData) (ps : List PySem.Str) (mv : List Value) (md : List V), FnOk P w K mg base (EX P w) k f fd ps (liftSp K sp) ∧ mg x = some (.ref f) ∧ PySem.W.keepIn K (.ref f) = true ∧ KBn K fd ps n ks (fun us ws => (us ++ mv) ++ ws) (fun vs zs => (vs ++ md) ++ zs) ∧ ∀ S, IsL K S md mid
@[reducible] def dCallM (sp : DSp) (n m : Nat) (mid : List D) (wd : DWX) (t tk : DTA) : DTE := fun σ M Q => t σ M fun ds M1 => tk σ M1 fun es M2 => ds.length = n ∧ es.length = m ∧ sp ((ds ++ mid) ++ es) M2 Q fun c fs M3 => wd c fs σ M3
section
variable {X : Cx} {g : Gr} {wd : DWX} {k j n : Nat} {x : PySem.Str} {sp : DSp} {ks : List PySem.Str} {mid : List D} {p pos : Pos} {e : Expr} {es : List Expr} {kws : List Keyword} {t tk : DTA}
theorem de_callM (c : DCalM X.prog X.w X.K X.mg X.base k x sp n ks mid) (hr : Room j X.A) (hk : k ≤ j) (hg : Gl X x) (hx : ∀ σ, PassesAt (EX X.prog X.w) X σ (fun cls d H => liftW X.K g wd cls d σ H)) (ha : DA X g (e :: es) t) (hkw : DKv X g kws tk)
    (hall : (backToKw pos (keywordEach kws X.env)).all (·.1.isSome) = true := by rfl) (hks : (backToKw pos (keywordEach kws X.env)).filterMap (·.1) = ks := by rfl)
    (hdb : (x == ("__debug__" : PySem.Str)) = false := by decide) (he : starEach (e :: es) X.env = (false, eval e X.env) :: starEach es X.env := by rfl)
    (hpl : ((backTo pos (starEach (e :: es) X.env)).any (·.1) || (backToKw pos (keywordEach kws X.env)).any (·.1.isNone)) = false := by rfl) :
    DE X g (.Call (.Name x p) (e :: es) kws pos) (dCallM sp n ks.length mid wd t tk) := by
  obtain ⟨f, fd, ps, mv, md, F, hm, kp, hb, hmd⟩ := c.ex
  refine ⟨pe_imp (pe_callNS F (hr.mono hk) hg hm kp hb hx ha.run hkw.run hall hks hdb he hpl) fun σ H Q h => ?_⟩
  obtain ⟨S, M, sd, QD, a, q, kk⟩ := h
  refine ⟨S, M, sd, _, a, q, fun ds M1 vs S1 H1 q1 e1 r1 i1 => ?_⟩
  refine ⟨S1, M1, sd, _, a.step e1 r1, q1, fun es M2 zs S2 H2 q2 e2 r2 i2 => ?_⟩
  obtain ⟨l1, l2, q2⟩ := q2
  refine ⟨by rw [i1.length]; exact l1, by rw [i2.length]; exact l2, ?_⟩
  refine ⟨g.F, S2, M2, _, QD, _, r2, ((IsL.mono e2 i1).app (hmd S2)).app i2, q2, fun d M' v S' H' q' e' r' i' => kk _ _ _ _ _ q' ((e1.trans e2).trans e') r' i', fun c fs M' dd S' H' hw e' r' x' => ?_⟩
  exact ⟨S', M', sd, fs, ((a.step e1 r1).step e2 r2).step e' r', x', hw⟩
end
end DL

/-! DGenL: a for loop inside of a generator def (own, over the hand layer). -/
namespace L2
open PySem PySem.Spec PyProof.Rows GenW

section
variable {M : Model} {A : Around} {R : GenEnd} {Y : Protocol} {n : Nat} {s₀ : Shared} {c : Code} {fs : List Frame} {s : Shared} {env : Env} {K : Flow → Sem PySem.Fin} {H : Value → Sem PySem.Fin} {gd : Bool → Bool} {lv : List Value → List Value}
theorem seg_For {target iter : Expr} {body orelse : List Stmt} {pos : Pos}
    (h : wpAny M (A.over c fs) (eval iter env) (fun x s₁ => wpAny M (A.over c fs) (pyIter x) (fun it s₂ =>
      ∀ p, Seg M A R Y n s₀ (.forLoop target it body orelse env) (M.den (.forLoop target it body orelse env))
      (.ret (fun r => ((match r with | .ok f => (.pure f : Sem Flow) | .error e => .raise e).onRaise fun (x : Value) => do
        if (← field x 1) == Value.none then unsupported "frame.own-activation:exception-without-traceback"
        setFlight x env.frame).wrap K H gd lv) none (gd false) (lv []) c p [] :: fs) s₂)
      (fun x s' => Seg M A R Y n s₀ c (H x) fs s') s₁) (fun x s' => Seg M A R Y n s₀ c (H x) fs s') s)
    (hs : ∀ x, foldedSetIterable iter env x = pure x := by intro _; rfl) :
    Seg M A R Y n s₀ c ((exec (.For target iter body orelse pos) env).wrap K H gd lv) fs s := by
  rw [exec_For]
  refine seg_bind_wrap (wpAny_standAt ?_)
  refine seg_bind_wrap (wpAny_mono h (fun x s₁ h₁ => ?_) fun _ _ h' => h')
  refine seg_bind_wrap (wpAny_of_eq (hs x) ?_)
  refine seg_bind_wrap (wpAny_standAt ?_)
  refine seg_bind_wrap (wpAny_holding (wpAny_mono h₁ (fun it s₂ h₂ => ?_) fun _ _ h' => h'))
  exact seg_call h₂
end

section
variable {prog : Program} {w : World} {A : Around} {R : GenEnd} {Y : Protocol} {n : Nat} {s₀ : Shared} {fs : List Frame} {s : Shared} {env : Env}
abbrev raises (env : Env) (e : Value) : Sem PySem.Fin := (do noteFrame e env; theTreesLotGoes e : Sem Unit).wrap (fun _ => .raise e) .raise id id
theorem seg_forLoop {target : Expr} {it : Value} {body : List Stmt}
    (h : wpAny (model prog w) (A.over (.forLoop target it body [] env) fs) (pyNext it) (fun r s₁ => match r with
        | none => Seg (model prog w) A R Y n s₀ (.forLoop target it body [] env) (.pure (.again (.block [] env))) fs s₁
        | some v => wpAny (model prog w) (A.over (.forLoop target it body [] env) fs) (letOwnedTupleGo target it v) (fun _ s₂ =>
            wpAny (model prog w) (A.over (.forLoop target it body [] env) fs) (assign target env v) (fun _ s₃ =>
              Seg (model prog w) A R Y n s₀ (.forLoop target it body [] env) ((execs body env).wrap (fun f => match f with
                | .next | .cont => .pure (.again (.forLoop target it body [] env))
                | .brk => .pure (.done .next)
                | .ret v => .pure (.done (.ret v))) (raises env) id id) fs s₃)
              (fun x s' => Seg (model prog w) A R Y n s₀ (.forLoop target it body [] env) (raises env x) fs s') s₂)
            (fun x s' => Seg (model prog w) A R Y n s₀ (.forLoop target it body [] env) (raises env x) fs s') s₁)
      (fun x s' => Seg (model prog w) A R Y n s₀ (.forLoop target it body [] env) (raises env x) fs s') s) :
    Seg (model prog w) A R Y n s₀ (.forLoop target it body [] env) ((model prog w).den (.forLoop target it body [] env)) fs s := by
  show Seg _ A R Y n s₀ _ ((forTurn target it body [] env).onRaise (fun x => do noteFrame x env; theTreesLotGoes x)) fs s
  unfold forTurn
  rw [Sem.onRaise_eq_wrap]
  have eR : ∀ e, ((do noteFrame e env; theTreesLotGoes e : Sem Unit).bind (fun _ => (.raise e : Sem PySem.Fin))) = raises env e := fun e => Sem.bind_eq_wrap _ _
  refine seg_bind_wrap (wpAny_standAt ?_)
  refine seg_bind_wrap (wpAny_onRaise (wpAny_mono h (fun r s₁ h₁ => ?_) fun x s' hx => wpAny_standAt (by rw [eR]; exact hx)))
  cases r with
  | none => exact h₁
  | some v =>
    refine seg_bind_wrap (wpAny_mono h₁ (fun _ s₂ h₂ => ?_) fun x s' hx => by rw [eR]; exact hx)
    refine seg_bind_wrap (wpAny_mono h₂ (fun _ s₃ h₃ => ?_) fun x s' hx => by rw [eR]; exact hx)
    rw [Sem.bind_eq_wrap', Sem.wrap_wrap]
    rw [Sem.wrap_congr (execs body env) _ _ (K' := fun f => match f with
            | .next | .cont => .pure (.again (.forLoop target it body [] env))
            | .brk => .pure (.done .next)
            | .ret v => .pure (.done (.ret v))) (H' := raises env)
        (fun f => by cases f <;> rfl)
        (fun e => by first | exact eR e | (show _ = _; rw [← eR]; rfl))]
    exact h₃
end

section
variable {X : Cx} {tg : Expr}
/-- W: the invariant by the turn and a measure; what is out so far goes along -/
def tGFor (wi : TI) (g : TG) (tb : TGn) : TGn := fun D ys σ H => wi σ H fun J H1 => ∃ W : Nat → Nat → List V → St → Hp → Prop, (∃ m, W 0 m ys σ H1) ∧ ∀ i m ys σ H, W i m ys σ H →
  (J.stop i H ∧ D.nx ys σ H) ∨ (J.go i H ∧ ∃ N : List V → St → Hp → Prop, (∀ ys' σ' H', N ys' σ' H' → ∃ m', m' < m ∧ W (i + 1) m' ys' σ' H') ∧ ∀ x H', J.yld i H x H' → g x σ H' fun σ2 H2 => tb { D with nx := N, ct := N, bk := D.nx } ys σ2 H2)
theorem seg_block0 {M : Program} {w : World} {A : Around} {R : GenEnd} {Y : Protocol} {n : Nat} {s₀ s : Shared} {c : Code} {fs : List Frame} {env : Env} (h : Seg (model M w) A R Y n s₀ (.block [] env) (leafOf (.ok .next)) fs s) :
    Seg (model M w) A R Y n s₀ c (.pure (.again (.block [] env))) fs s := seg_again rfl h
theorem gs_for {iter : Expr} {body : List Stmt} {wi : TI} {g : TG} {tb : TGn} {pos : Pos} (hp : PassesOwn (model X.prog X.w) X.A X.env X.xe) (hc : X.calm = true) (hi : PI X tg iter wi) (hg : PG X tg g) (hb : GSs X body tb)
    (hs : ∀ x, foldedSetIterable iter X.env x = pure x := by intro _; rfl) : GS X (.For tg iter body [] pos) (tGFor wi g tb) := by
  refine ⟨fun A S ip R n ys s₀ c fs K J gd lv s σ H D gc hn k hI ht => ?_⟩
  have hI0 := hI
  obtain ⟨acc, cc, r, I⟩ := hI
  refine seg_For ?_ hs
  rw [gc.over]
  refine wpAny_mono (hi.run _ s σ H _ I ht) (fun v s1 h1 => ?_) fun x s' hx => k.exc n s₀ x s' hx
  refine wpAny_mono h1 (fun itv s2 h2 => ?_) fun x s' hx => k.exc n s₀ x s' hx
  obtain ⟨it, fp, tn, Jt, H2, e, I2, T, st2, f2, W, ⟨m0, w0⟩, turn⟩ := h2
  subst e
  intro p
  have gl := fun (kk : Result → Sem PySem.Fin) => gc_loop (k := kk) (c' := .forLoop tg (.ref it) body [] X.env) (l := lv []) (kp := []) (p := p) gc rfl rfl
  have stat : ∀ {H' : Hp} {acc' : Array Value} {c' : Nat}, (∀ b ∈ fp, H' b = none) → ∀ b ∈ fp, FpOk X ((S, lstObj acc' c') :: ip) H' b := fun {H' acc' c'} hn' b hb => by
    obtain ⟨_, f1, f3, f4, f5, f6⟩ := f2 b hb
    refine ⟨hn' b hb, f1, f3, f4, f5, fun q hq => ?_⟩
    rcases List.mem_append.mp hq with z | z
    · exact f6 q (List.mem_append_left _ z)
    · rcases List.mem_cons.mp z with z | z
      · rw [z]
        exact f6 (S, lstObj acc cc) (List.mem_append_right _ List.mem_cons_self)
      · exact f6 q (List.mem_append_right _ (List.mem_cons_of_mem _ z))
  have hSfp : ∀ b ∈ fp, b ≠ S := fun b hb z => (stat (acc' := acc) (c' := cc) (fun b hb => (f2 b hb).1) b hb).2.2.2.2.2 (S, lstObj acc cc) (List.mem_append_right _ List.mem_cons_self) z.symm
  have ee : ∀ (n : Nat) (s₀ : Shared) (x : Value) (s' : Shared), X.xe x s' → Seg (model X.prog X.w) A R (GY X S) n s₀ (.forLoop tg (.ref it) body [] X.env) (raises X.env x)
      (.ret (fun r => ((match r with | .ok f => (.pure f : Sem Flow) | .error e => .raise e).onRaise (cameBack X.env)).wrap K J gd lv) none (gd false) (lv []) c p [] :: fs) s' := fun n s₀ x s' hx => by
    refine seg_wrap ?_
    rw [(gl _).over]
    refine wpAny_bind (wpAny_mono (hp x s' hx) (fun _ s'' hcb => wpAny_theTreesLotGoes ?_) fun y s'' hcb => ?_)
    · exact seg_leaf (.error x) (seg_cameBack gc k hcb)
    · exact seg_leaf (.error y) (seg_cameBack gc k hcb)
  have loop : ∀ (m i n : Nat) (ys : List V) (s₀ s : Shared) (σ : St) (H : Hp), n + ys.length = sizeLine → W i m ys σ H → GI X S ip ys σ H s → tn i s.heap → (∀ b ∈ fp, H b = none) →
      Seg (model X.prog X.w) A R (GY X S) n s₀ (.forLoop tg (.ref it) body [] X.env) ((model X.prog X.w).den (.forLoop tg (.ref it) body [] X.env))
        (.ret (fun r => ((match r with | .ok f => (.pure f : Sem Flow) | .error e => .raise e).onRaise (cameBack X.env)).wrap K J gd lv) none (gd false) (lv []) c p [] :: fs) s := by
    intro m
    induction m using Nat.strongRecOn with
    | ind m ih =>
      intro i n ys s₀ s σ H hn wi hI st fr
      refine seg_forLoop ?_
      rw [(gl _).over]
      have hI1 := hI
      obtain ⟨acc3, cc3, r3, I3⟩ := hI
      rcases turn i m ys σ H wi with ⟨stop, qn⟩ | ⟨go, N, hN, step⟩
      · refine wpAny_mono (T.done X rfl rfl rfl hc i _ s σ H (fun _ _ => False) I3 (stat fr) st stop) (fun r s4 h4 => ?_) fun _ _ h4 => h4.elim
        obtain ⟨rfl, I4⟩ := h4
        exact seg_block0 (seg_leaf (.ok .next) (k.ok n ys s₀ s4 .next hn ⟨σ, H, ⟨acc3, cc3, r3, I4⟩, qn⟩))
      · refine wpAny_mono (T.item X rfl rfl rfl hc i _ s σ H (fun _ _ => False) I3 (stat fr) st go) (fun r s4 h4 => ?_) fun _ _ h4 => h4.elim
        obtain ⟨u, rfl, h4⟩ := h4
        refine wpAny_mono h4 (fun _ s5 h5 => ?_) fun _ _ h5 => h5.elim
        obtain ⟨x, H5, I5, r5, y5, st5, fr5⟩ := h5
        have I5' := I5.pinned (stat fr5) (T.obj _ _ st5)
        refine wpAny_mono (hg.run _ s5 σ H5 x u _ I5' r5 (step x H5 y5)) (fun _ s6 h6 => ?_) fun x s' hx => ee n s₀ x s' hx
        obtain ⟨σ6, H6, I6, q6⟩ := h6
        have gb : GC X S (ip ++ pinsAt fp s5.heap) A (.forLoop tg (.ref it) body [] X.env) (.ret (fun r => ((match r with | .ok f => (.pure f : Sem Flow) | .error e => .raise e).onRaise (cameBack X.env)).wrap K J gd lv) none (gd false) (lv []) c p [] :: fs) id :=
          ⟨gc.pn, fun q hq => (List.mem_append.mp hq).elim (gc.ip q) fun z => hSfp _ (of_pinsAt z).1, gc.apart, (gl _).over, (gl _).split, (gl _).guard, rfl⟩
        refine hb.run A S (ip ++ pinsAt fp s5.heap) R n ys s₀ _ _ _ _ id id s6 σ6 H6 { D with nx := N, ct := N, bk := D.nx } gb hn ⟨fun n' ys' s₀' s7 f hn' hs7 => ?_, fun n' s₀' x s7 hx => ee n' s₀' x s7 hx⟩ ⟨acc3, cc3, r3, I6⟩ q6
        have un : ∀ {ys7 : List V} {σ7 : St} {H7 : Hp}, GI X S (ip ++ pinsAt fp s5.heap) ys7 σ7 H7 s7 → GI X S ip ys7 σ7 H7 s7 ∧ tn (i + 1) s7.heap ∧ ∀ b ∈ fp, H7 b = none := fun {ys7 σ7 H7} hI7 => by
          obtain ⟨acc7, cc7, r7, I7⟩ := hI7
          refine ⟨⟨acc7, cc7, r7, I7.unpinned⟩, T.keep _ _ _ st5 fun b hb o e => (I7.pin (b, o) (List.mem_append_right _ (List.mem_cons_of_mem _ (List.mem_append_right _ (mem_pinsAt hb e))))).1, fun b hb => ?_⟩
          obtain ⟨o, e, d⟩ := T.obj _ _ st5 b hb
          exact (I7.pin (b, o) (List.mem_append_right _ (List.mem_cons_of_mem _ (List.mem_append_right _ (mem_pinsAt hb e))))).2.1
        have again : ∀ {σ7 : St} {H7 : Hp}, GI X S (ip ++ pinsAt fp s5.heap) ys' σ7 H7 s7 → N ys' σ7 H7 → Seg (model X.prog X.w) A R (GY X S) n' s₀' (.forLoop tg (.ref it) body [] X.env) (.pure (.again (.forLoop tg (.ref it) body [] X.env)))
            (.ret (fun r => ((match r with | .ok f => (.pure f : Sem Flow) | .error e => .raise e).onRaise (cameBack X.env)).wrap K J gd lv) none (gd false) (lv []) c p [] :: fs) s7 := fun {σ7 H7} I7 n7 => by
          obtain ⟨m', hm, w7⟩ := hN ys' σ7 H7 n7
          obtain ⟨g7, t7, z7⟩ := un I7
          exact seg_again rfl (ih m' hm (i + 1) n' ys' s₀' s7 σ7 H7 hn' w7 g7 t7 z7)
        cases f with
        | next => obtain ⟨σ7, H7, I7, n7⟩ := hs7; exact again I7 n7
        | cont => obtain ⟨σ7, H7, I7, n7⟩ := hs7; exact again I7 n7
        | brk =>
          obtain ⟨σ7, H7, I7, q7⟩ := hs7
          exact seg_leaf (.ok .next) (k.ok n' ys' s₀' s7 .next hn' ⟨σ7, H7, (un I7).1, q7⟩)
        | ret v =>
          obtain ⟨x7, σ7, H7, I7, r7, q7⟩ := hs7
          exact seg_leaf (.ok (.ret v)) (k.ok n' ys' s₀' s7 (.ret v) hn' ⟨x7, σ7, H7, (un I7).1, r7, q7⟩)
  exact loop m0 0 n ys s₀ s2 σ H2 hn w0 ⟨acc, cc, r, I2⟩ st2 fun b hb => (f2 b hb).1
end
end L2

/-! DGen: generator defs over trees; list(o.m(..)) of a generator method. -/
namespace DL
open PySem PySem.Spec PyProof.Rows L2 GenW
structure DGEnds where
  nx : List D → DSt → Mem → Prop
  rt : List D → DK
  bk : List D → DSt → Mem → Prop := fun _ _ _ => False
  ct : List D → DSt → Mem → Prop := fun _ _ _ => False
abbrev DTGn := DGEnds → List D → DSt → Mem → Prop
def DGEnds.at (D : DGEnds) (ds : List DL.D) : DEnds := { nx := D.nx ds, rt := D.rt ds, bk := D.bk ds, ct := D.ct ds }
structure GEndsOk (K : PySem.W.Frag) (g : Gr) (S : Hp) (DD : DGEnds) (D' : GEnds) : Prop where
  nx : ∀ ds sd M ys σ S' H, DD.nx ds sd M → Same S S' → At K g S' M sd σ H → IsL K S' ys ds → D'.nx ys σ H
  rt : ∀ ds d M ys v S' H, DD.rt ds d M → Same S S' → Rep K g.F S' M H → IsL K S' ys ds → Is K S' v d → D'.rt ys v H
  bk : ∀ ds sd M ys σ S' H, DD.bk ds sd M → Same S S' → At K g S' M sd σ H → IsL K S' ys ds → D'.bk ys σ H
  ct : ∀ ds sd M ys σ S' H, DD.ct ds sd M → Same S S' → At K g S' M sd σ H → IsL K S' ys ds → D'.ct ys σ H
theorem GEndsOk.mono {K : PySem.W.Frag} {g : Gr} {S S1 : Hp} {DD : DGEnds} {D' : GEnds} (k : GEndsOk K g S DD D') (e : Same S S1) : GEndsOk K g S1 DD D' :=
  ⟨fun _ _ _ _ _ _ _ q e' a l => k.nx _ _ _ _ _ _ _ q (e.trans e') a l, fun _ _ _ _ _ _ _ q e' r l i => k.rt _ _ _ _ _ _ _ q (e.trans e') r l i,
    fun _ _ _ _ _ _ _ q e' a l => k.bk _ _ _ _ _ _ _ q (e.trans e') a l, fun _ _ _ _ _ _ _ q e' a l => k.ct _ _ _ _ _ _ _ q (e.trans e') a l⟩
def liftGn (K : PySem.W.Frag) (g : Gr) (t : DTGn) : TGn := fun D' ys σ H => ∃ S M sd ds DD, At K g S M sd σ H ∧ IsL K S ys ds ∧ t DD ds sd M ∧ GEndsOk K g S DD D'
structure DGn (X : Cx) (g : Gr) (st : Stmt) (t : DTGn) : Prop where
  run : GS X st (liftGn X.K g t)
structure DGns (X : Cx) (g : Gr) (st : List Stmt) (t : DTGn) : Prop where
  run : GSs X st (liftGn X.K g t)
theorem gs_imp {X : Cx} {st : Stmt} {t t' : TGn} (h : GS X st t) (i : ∀ D ys σ H, t' D ys σ H → t D ys σ H) : GS X st t' := ⟨fun A S ip R n ys s₀ c fs K J gd lv s σ H D g hn k hI ht => h.run A S ip R n ys s₀ c fs K J gd lv s σ H D g hn k hI (i _ _ _ _ ht)⟩
theorem gss_imp {X : Cx} {st : List Stmt} {t t' : TGn} (h : GSs X st t) (i : ∀ D ys σ H, t' D ys σ H → t D ys σ H) : GSs X st t' := ⟨fun A S ip R n ys s₀ c fs K J gd lv s σ H D g hn k hI ht => h.run A S ip R n ys s₀ c fs K J gd lv s σ H D g hn k hI (i _ _ _ _ ht)⟩
@[reducible] def dPlain (t : DTS) : DTGn := fun D ds σ M => t (D.at ds) σ M
@[reducible] def dGNext : DTGn := fun D ds σ M => D.nx ds σ M
@[reducible] def dGSeq (t u : DTGn) : DTGn := fun D ds σ M => t { D with nx := fun ds' σ' M' => u D ds' σ' M' } ds σ M
@[reducible] def dGSeqC (t u : DTGn) : DTGn := fun D ds σ M => ∃ P : List DL.D → DSt → Mem → Prop, t { D with nx := P } ds σ M ∧ ∀ ds' σ' M', P ds' σ' M' → u D ds' σ' M'
@[reducible] def dYield (te : DTE) : DTGn := fun D ds σ M => ds.length < sizeLine ∧ te σ M fun x M1 => D.nx (ds ++ [x]) σ M1
@[reducible] def dGTurns (gt : DTG) (tb : DTGn) (D : DGEnds) (xs : List DL.D) (ds : List DL.D) (σ : DSt) (M1 : Mem) (Pv : Nat → List DL.D → DSt → Mem → Prop) : Prop := Pv 0 ds σ M1 ∧
  (∀ i d ds σ M, xs[i]? = some d → Pv i ds σ M → gt d σ M fun σ2 M2 => tb { D with nx := Pv (i + 1), ct := Pv (i + 1), bk := D.nx } ds σ2 M2) ∧ ∀ ds σ M, Pv xs.length ds σ M → D.nx ds σ M
@[reducible] def dGFor (wi : DTI) (gt : DTG) (tb : DTGn) : DTGn := fun D ds σ M => wi σ M fun xs C M1 => match C with
  | none => ∃ Pv : Nat → List DL.D → DSt → Mem → Prop, dGTurns gt tb D xs ds σ M1 Pv
  | some c => ∃ Pv : Nat → List DL.D → DSt → Mem → Prop, (∀ i ds σ M, Pv i ds σ M → c M) ∧ dGTurns gt tb D xs ds σ M1 Pv
section
variable {X : Cx} {g : Gr} {st : Stmt} {rest : List Stmt} {pos : Pos}
theorem dgn_plain {t : DTS} (h : DS X g st t) : DGn X g st (dPlain t) := ⟨gs_imp (gs_ps h.run) fun D' ys σ H ⟨S, M, sd, ds, DD, a, il, q, k⟩ => ⟨S, M, sd, DD.at ds, a, q,
  ⟨fun sd1 M1 σ1 S1 H1 q1 e1 a1 => k.nx _ _ _ _ _ _ _ q1 e1 a1 (il.mono e1), fun d1 M1 v1 S1 H1 q1 e1 r1 i1 => k.rt _ _ _ _ _ _ _ q1 e1 r1 (il.mono e1) i1,
    fun sd1 M1 σ1 S1 H1 q1 e1 a1 => k.bk _ _ _ _ _ _ _ q1 e1 a1 (il.mono e1), fun sd1 M1 σ1 S1 H1 q1 e1 a1 => k.ct _ _ _ _ _ _ _ q1 e1 a1 (il.mono e1)⟩⟩⟩
theorem dgns_nil : DGns X g [] dGNext := ⟨gss_imp gss_nil fun D' ys σ H ⟨S, M, sd, ds, DD, a, il, q, k⟩ => k.nx _ _ _ _ _ _ _ q (Same.refl _) a il⟩
theorem dgns_cons {t u : DTGn} (h1 : DGn X g st t) (h2 : DGns X g rest u) : DGns X g (st :: rest) (dGSeq t u) := by
  refine ⟨gss_imp (gss_cons h1.run h2.run) fun D' ys σ H h => ?_⟩
  obtain ⟨S, M, sd, ds, DD, a, il, q, k⟩ := h
  refine ⟨S, M, sd, ds, _, a, il, q, ⟨fun ds1 sd1 M1 ys1 σ1 S1 H1 q1 e1 a1 l1 => ?_, k.rt, k.bk, k.ct⟩⟩
  exact ⟨S1, M1, sd1, ds1, DD, a1, l1, q1, k.mono e1⟩
/-- .. with a word of one's own between the two -/
theorem dgns_cut {t u : DTGn} (h1 : DGn X g st t) (h2 : DGns X g rest u) : DGns X g (st :: rest) (dGSeqC t u) := by
  refine ⟨gss_imp (gss_cons h1.run h2.run) fun D' ys σ H h => ?_⟩
  obtain ⟨S, M, sd, ds, DD, a, il, ⟨P, q, n⟩, k⟩ := h
  refine ⟨S, M, sd, ds, _, a, il, q, ⟨fun ds1 sd1 M1 ys1 σ1 S1 H1 q1 e1 a1 l1 => ?_, k.rt, k.bk, k.ct⟩⟩
  exact ⟨S1, M1, sd1, ds1, DD, a1, l1, n _ _ _ q1, k.mono e1⟩
theorem dgns_one {t : DTGn} (h1 : DGn X g st t) : DGns X g [st] t := by
  have h := (dgns_cons h1 (dgns_nil (X := X) (g := g))).run
  refine ⟨gss_imp h fun D' ys σ H h => ?_⟩
  exact h
theorem dgn_yield {e : Expr} {te : DTE} {yp : Pos} (he : DE X g e te) (hco : X.env.scope.isCoroutine = false := by rfl) (hi : interactive X.env = false := by rfl) : DGn X g (.Expr (.Yield (some e) yp) pos) (dYield te) := by
  refine ⟨gs_imp (gs_yield he.run hco hi) fun D' ys σ H h => ?_⟩
  obtain ⟨S, M, sd, ds, DD, a, il, ⟨hl, q⟩, k⟩ := h
  refine ⟨by rw [il.length]; exact hl, S, M, sd, _, a, q, fun d M1 v S1 H1 q1 e1 r1 i1 => ?_⟩
  exact k.nx _ _ _ _ _ _ _ q1 e1 (a.step e1 r1) ((il.mono e1).app (.one i1))
theorem dgn_for {tg iter : Expr} {body : List Stmt} {wi : DTI} {gt : DTG} {tb : DTGn} (hp : PassesOwn (model X.prog X.w) X.A X.env X.xe) (hc : X.calm = true) (hi : DI X g tg iter wi) (hg : DG X g tg gt) (hb : DGns X g body tb)
    (hs : ∀ x, foldedSetIterable iter X.env x = pure x := by intro _; rfl) : DGn X g (.For tg iter body [] pos) (dGFor wi gt tb) := by
  refine ⟨gs_imp (gs_for hp hc hi.run hg.run hb.run hs) fun D' ys σ H h => ?_⟩
  obtain ⟨S, M, sd, ds, DD, a, il, q, k⟩ := h
  refine ⟨S, M, sd, _, a, q, fun xs C M1 S1 H1 J q1 e1 r1 it => ?_⟩
  have it := it g.F fun _ _ z => z
  have q1' : ∃ Pv : Nat → List DL.D → DSt → Mem → Prop, (∀ i ds σ M, Pv i ds σ M → C.ok M) ∧ dGTurns gt tb DD xs ds sd M1 Pv := by
    cases C with
    | none =>
      obtain ⟨Pv, q⟩ := q1
      exact ⟨Pv, fun _ _ _ _ _ => trivial, q⟩
    | some c => exact q1
  obtain ⟨Pv, gd, p0, step, done⟩ := q1'
  have a1 := a.step e1 r1
  refine ⟨fun i m ys σ H => m = xs.length - i ∧ i ≤ xs.length ∧ ∃ S' M' sd' ds', Same S1 S' ∧ At X.K g S' M' sd' σ H ∧ IsL X.K S' ys ds' ∧ Pv i ds' sd' M', ⟨xs.length, by simp, Nat.zero_le _, S1, M1, sd, ds, Same.refl _, a1, il.mono e1, p0⟩, ?_⟩
  rintro i m ys2 σ2 H2 ⟨rfl, hi, S2, M2, sd2, ds2, e2, a2, l2, p2⟩
  by_cases hlt : i < xs.length
  · refine .inr ⟨it.go i S2 M2 H2 e2 a2.rep (gd _ _ _ _ p2) hlt, fun ys' σ' H' => ∃ S' M' sd' ds', Same S1 S' ∧ At X.K g S' M' sd' σ' H' ∧ IsL X.K S' ys' ds' ∧ Pv (i + 1) ds' sd' M', fun ys' σ' H' ⟨S', M', sd', ds', e', a', l', p'⟩ => ⟨xs.length - (i + 1), by omega, rfl, hlt, S', M', sd', ds', e', a', l', p'⟩, fun x H3 y => ?_⟩
    obtain ⟨S3, d, e3, r3, hd, i3⟩ := it.yld i S2 M2 H2 x H3 e2 a2.rep (gd _ _ _ _ p2) hlt y
    refine ⟨S3, M2, sd2, d, _, a2.step e3 r3, i3, step i d ds2 sd2 M2 hd p2, fun sd4 M4 σ4 S4 H4 q4 e4 a4 => ?_⟩
    refine ⟨S4, M4, sd4, ds2, _, a4, l2.mono (e3.trans e4), q4, ?_⟩
    have e5 : Same S1 S4 := (e2.trans e3).trans e4
    exact ⟨fun ds' sd' M' ys' σ' S' H' q' e' a' l' => ⟨S', M', sd', ds', e5.trans e', a', l', q'⟩, fun ds' d M' ys' v S' H' q' e' r' l' i' => k.rt _ _ _ _ _ _ _ q' ((e1.trans e5).trans e') r' l' i',
      fun ds' sd' M' ys' σ' S' H' q' e' a' l' => k.nx _ _ _ _ _ _ _ q' ((e1.trans e5).trans e') a' l', fun ds' sd' M' ys' σ' S' H' q' e' a' l' => ⟨S', M', sd', ds', e5.trans e', a', l', q'⟩⟩
  · have e : i = xs.length := by omega
    subst e
    exact .inl ⟨it.stop _ S2 M2 H2 e2 a2.rep (gd _ _ _ _ p2) (Nat.le_refl _), k.nx _ _ _ _ _ _ _ (done ds2 sd2 M2 p2) (e1.trans e2) a2 l2⟩
end
/-! ### promises of generator defs -/
abbrev DSpG := List D → Mem → (List D → Mem → Prop) → Prop
def liftSpG (K : PySem.W.Frag) (sp : DSpG) : SpG := fun vs H Q _ => ∃ F S M ds, ∃ QD : List D → Mem → Prop, Rep K F S M H ∧ IsL K S vs ds ∧ sp ds M QD ∧
  ∀ out M' ys S' H', QD out M' → Same S S' → Rep K F S' M' H' → IsL K S' ys out → Q ys H'
section
variable {P : Program} {w : World} {K : PySem.W.Frag} {mg : PySem.Str → Option Value} {base : Heap}
variable {x qual : PySem.Str} {params : Arguments} {body : List Stmt} {scope : Scope} {dvs : List V} {kws : List (PySem.Str × V)} {f : Addr} {fd : FuncData} {N ps : List PySem.Str} {k : Nat} {sp : DSpG}
theorem dgfn_ok {t : DTGn} (F : FunD K x qual params body scope dvs kws f fd) (S : GScope N ps scope) (len : ∀ ds M Q, sp ds M Q → ds.length = ps.length)
    (hbody : ∀ (cdv : Value) (A : Around) (outer : List Env) (s : Shared) (H : Hp) (E : XK) (pn : List (Addr × Obj)) (g : Gr), Room k (A.deeper (envOfC qual scope s.heap.objs.size f cdv)) →
      DGns (gcxOf P w K mg base N qual scope f cdv A outer s H E pn) g body t)
    (hread : ∀ ds M Q, sp ds M Q → t { nx := fun out _ M' => Q out M', rt := fun out d M' => d = .non ∧ Q out M' } [] (dstart N.length ds) M) : GFn P w K mg base (k + 1) f fd ps (liftSpG K sp) := by
  obtain ⟨oc, od, dV, kV, doc, pm, an, cdv, ct, osl, rfl, lk, hcd, _, _⟩ := F.ex
  refine gfn_of lk hcd S (fun vs H Q E h => ?_) (fun A outer s H vs Q E pn hr h => ?_)
  · obtain ⟨F, S, M, ds, QD, r, l, h, _⟩ := h
    rw [l.length]
    exact len _ _ _ h
  · obtain ⟨F, S, M, ds, QD, r, l, h, kq⟩ := h
    refine ⟨_, (hbody cdv A outer s H E pn ⟨F, S⟩ hr).run, S, M, _, [], _, ⟨Same.refl _, r, isO_start l⟩, .nil, hread ds M QD h, ?_⟩
    refine ⟨fun ds' sd M1 ys σ S1 H1 q e a l' => kq _ _ _ _ _ q e a.rep l', fun ds' d M1 ys v S1 H1 q e r1 l' i => ?_, fun _ _ _ _ _ _ _ q => q.elim, fun _ _ _ _ _ _ _ q => q.elim⟩
    obtain ⟨rfl, q⟩ := q
    cases i
    exact ⟨rfl, kq _ _ _ _ _ q e r1 l'⟩
end
@[reducible] def spg2 (r : D → D → Mem → (List D → Mem → Prop) → Prop) : DSpG := fun ds M Q => match ds with
  | [a, b] => r a b M Q
  | _ => False
@[reducible] def spg3 (r : D → D → D → Mem → (List D → Mem → Prop) → Prop) : DSpG := fun ds M Q => match ds with
  | [a, b, c] => r a b c M Q
  | _ => False
theorem spg2_len {r} : ∀ ds M Q, spg2 r ds M Q → ds.length = 2 := fun ds M Q h => by
  unfold spg2 at h; split at h <;> first | rfl | exact h.elim
theorem spg3_len {r} : ∀ ds M Q, spg3 r ds M Q → ds.length = 3 := fun ds M Q h => by
  unfold spg3 at h; split at h <;> first | rfl | exact h.elim
theorem rdG2 {r : D → D → Mem → (List D → Mem → Prop) → Prop} {t : DTGn} {N : Nat} (h : ∀ a b M Q, r a b M Q → t { nx := fun out _ M' => Q out M', rt := fun out d M' => d = .non ∧ Q out M' } [] (dstart N [a, b]) M) :
    ∀ ds M Q, spg2 r ds M Q → t { nx := fun out _ M' => Q out M', rt := fun out d M' => d = .non ∧ Q out M' } [] (dstart N ds) M := fun ds M Q q => by
  unfold spg2 at q; split at q <;> first | exact h _ _ M Q q | exact q.elim
theorem rdG3 {r : D → D → D → Mem → (List D → Mem → Prop) → Prop} {t : DTGn} {N : Nat} (h : ∀ a b c M Q, r a b c M Q → t { nx := fun out _ M' => Q out M', rt := fun out d M' => d = .non ∧ Q out M' } [] (dstart N [a, b, c]) M) :
    ∀ ds M Q, spg3 r ds M Q → t { nx := fun out _ M' => Q out M', rt := fun out d M' => d = .non ∧ Q out M' } [] (dstart N ds) M := fun ds M Q q => by
  unfold spg3 at q; split at q <;> first | exact h _ _ _ M Q q | exact q.elim
/-- the promise of a call: by position with the rest by default; with keywords behind defaults -/
@[reducible] def gPos (sp : DSpG) (dd : List D) : DSpG := fun xs M Q => sp (xs ++ dd) M Q
@[reducible] def gKw (sp : DSpG) (n : Nat) (mid : List D) : DSpG := fun xs M Q => sp ((xs.take n ++ mid) ++ xs.drop n) M Q
/-- a generator def called with n values and keywords -/
def GRun (P : Program) (w : World) (K : PySem.W.Frag) (mg : PySem.Str → Option Value) (base : Heap) (k : Nat) (f : Addr) (n : Nat) (ks : List PySem.Str) (sp : SpG) : Prop :=
  ∀ (A : Around) (outer : List Env) (s : Shared) (H : Hp) (us ws : List Value) (vs zs : List V) (Q : List V → Hp → Prop) (E : XK), Room k A → Env0 P w K mg base A outer s H → us.length = n → ws.length = ks.length → Vals vs us → Vals zs ws → sp (vs ++ zs) H Q E →
    codeAny (model P w) A (.call (.ref f) ⟨us, ks.zip ws⟩) (fun r s' => match r with | .ok (.ret u) => GMade P w k outer H s [] Q E u s' | _ => False) s
structure DMetG (P : Program) (w : World) (K : PySem.W.Frag) (mg : PySem.Str → Option Value) (base : Heap) (k : Nat) (C : Addr) (m : PySem.Str) (n : Nat) (ks : List PySem.Str) (sp : DSpG) : Prop where
  ex : ∃ f, Meth K C m f ∧ GRun P w K mg base k f (n + 1) ks (liftSpG K sp)
/-- by position, the rest by default -/
theorem grun_pos {P : Program} {w : World} {K : PySem.W.Frag} {mg : PySem.Str → Option Value} {base : Heap} {k n : Nat} {f : Addr} {fd : FuncData} {ps : List PySem.Str} {sp : DSpG} {ds : List Value} {dvs : List V} {dd : List D} (F : GFn P w K mg base k f fd ps (liftSpG K sp))
    (hb : Binds K fd ps ds) (hd : Vals dvs ds) (hi : ∀ S, IsL K S dvs dd) : GRun P w K mg base k f n [] (liftSpG K fun xs M Q => sp (xs ++ dd) M Q) := by
  intro A outer s H us ws vs zs Q E hr e0 hl hl2 r rz h
  have ew : ws = [] := List.length_eq_zero_iff.mp hl2
  subst ew
  cases rz
  rw [List.append_nil] at h
  obtain ⟨F', S, M, xs, QD, r1, l, h, kq⟩ := h
  have h2 : liftSpG K sp (vs ++ dvs) H Q E := ⟨F', S, M, xs ++ dd, QD, r1, l.app (hi S), h, kq⟩
  have r2 : Vals (vs ++ dvs) (us ++ ds) := r.append hd
  have hl3 : (us ++ ds).length = ps.length := by rw [← r2.length]; exact F.len _ _ _ _ h2
  exact F.run A outer s H ⟨us, []⟩ (us ++ ds) (vs ++ dvs) Q E hr e0 (hb s us (e0.mod.kin.keeps fun b o e => (e0.bs b o e).1) hl3) r2 h2
/-- keywords behind values left to their defaults -/
theorem grun_kw {P : Program} {w : World} {K : PySem.W.Frag} {mg : PySem.Str → Option Value} {base : Heap} {k n : Nat} {f : Addr} {fd : FuncData} {ps ks : List PySem.Str} {sp : DSpG} {mv : List Value} {md : List V} {mid : List D} (F : GFn P w K mg base k f fd ps (liftSpG K sp))
    (hb : KBn K fd ps n ks (fun us ws => (us ++ mv) ++ ws) (fun vs zs => (vs ++ md) ++ zs)) (hi : ∀ S, IsL K S md mid) : GRun P w K mg base k f n ks (liftSpG K fun xs M Q => sp ((xs.take n ++ mid) ++ xs.drop n) M Q) := by
  intro A outer s H us ws vs zs Q E hr e0 hl hl2 r rz h
  obtain ⟨F', S, M, xs, QD, r1, l, h, kq⟩ := h
  have lv : vs.length = n := by rw [r.length]; exact hl
  have l1 : IsL K S vs (xs.take n) := by
    have := l.take n
    rw [← lv, List.take_left, lv] at this
    exact this
  have l2 : IsL K S zs (xs.drop n) := by
    have := l.drop n
    rw [← lv, List.drop_left, lv] at this
    exact this
  have h2 : liftSpG K sp ((vs ++ md) ++ zs) H Q E := ⟨F', S, M, _, QD, r1, (l1.app (hi S)).app l2, h, kq⟩
  exact F.run A outer s H ⟨us, ks.zip ws⟩ ((us ++ mv) ++ ws) ((vs ++ md) ++ zs) Q E hr e0 (hb.to s us ws (e0.mod.kin.keeps fun b o e => (e0.bs b o e).1) hl hl2) (hb.rel r rz) h2
/-! ### list(o.m(..)) -/
def tMethG2 (C : Addr) (n : Nat) (sp : SpG) (ta : TE) (t : TA) : TGen := fun σ H cont => ta σ H fun x H1 => ∃ a dx vs, x = .ref a ∧ SlX.Slt H1 a C dx vs ∧ t σ H1 fun ws H2 => ws.length = n ∧ sp (x :: ws) H2 cont fun _ _ _ => False
section
variable {X : Cx} {k n : Nat} {C f : Addr} {m : PySem.Str} {ks : List PySem.Str} {sp : SpG} {o e : Expr} {es : List Expr} {pos apos : Pos} {ta : TE} {t : TA} {pl : Sem Bool}
theorem made_of {pins : List (Addr × Obj)} {σ : L2.St} {H : Hp} {s : Shared} {us ws : List Value} {vs zs : List V} {cont : List V → Hp → Prop} {E : XK} {E1 : Value → Shared → Prop} (F : GRun X.prog X.w X.K X.mg X.base k f n ks sp) (hr : Room k X.A)
    (I : Inv X pins σ H s) (hl : us.length = n) (hl2 : ws.length = ks.length) (r : Vals vs us) (rz : Vals zs ws) (h : sp (vs ++ zs) H cont E) :
    wpAny (model X.prog X.w) X.A (call (.ref f) us (ks.zip ws)) (fun u s' => ∃ H1 sc ex, Inv X pins σ H1 sc ∧ ExOk X pins ex ∧ GMade X.prog X.w k X.stack H1 sc ex cont E u s') E1 s := by
  refine wpAny_call (codeAny_mono (F X.A X.stack s H us ws vs zs cont E hr I.env0 hl hl2 r rz h) fun r s' hq => ?_)
  cases r with
  | error e => exact False.elim hq
  | ok fl =>
    cases fl with
    | ret u => exact ⟨H, s, [], I, .nil, hq⟩
    | next => exact False.elim hq
    | brk => exact False.elim hq
    | cont => exact False.elim hq
theorem pgen_m0 (he : PE X o ta) (c : SlX.SCls X.K C) (hm : Meth X.K C m f) (F : GRun X.prog X.w X.K X.mg X.base k f 1 [] sp) (hr : Room k X.A)
    (ht : eval (.Call (.Attribute o m apos) [] [] pos) X.env = (do
      let ov ← eval o X.env
      standAt apos.atName
      let (f, first) ← holding [ov] (getMethod ov m pl)
      callWith pos f first (backTo pos (starEach [] X.env)) (backToKw pos (keywordEach [] X.env))) := by rfl) :
    PGen X k (.Call (.Attribute o m apos) [] [] pos) (tMethG2 C 0 sp ta tNil) (fun _ _ _ => False) := by
  refine ⟨fun pins s σ H cont I h => ?_⟩
  refine PySem.W.methodCall_KW (pl := pl) (thn (he.run pins s σ H _ I h) fun u s1 ⟨x, H1, I1, rx, a, dx, vs, ex, hsl, q⟩ => ?_) ht
  subst ex
  obtain rfl : u = Value.ref a := rx
  obtain ⟨_, q⟩ := q
  refine SlX.getmethsl_ok I1 hsl c hm ?_
  exact PySem.W.callWith_K0 (first := [.ref a]) I1.kIn hm.kp (made_of (us := [.ref a]) (ws := []) (vs := [.ref a]) (zs := []) F hr I1 rfl rfl (.cons rfl .nil) .nil q)
theorem pgen_m (he : PE X o ta) (c : SlX.SCls X.K C) (hm : Meth X.K C m f) (F : GRun X.prog X.w X.K X.mg X.base k f (n + 1) [] sp) (hr : Room k X.A) (ha : PA X (e :: es) t)
    (hst : starEach (e :: es) X.env = (false, eval e X.env) :: starEach es X.env := by rfl) (hpl : (backTo pos (starEach es X.env)).any (·.1) = false := by rfl)
    (ht : eval (.Call (.Attribute o m apos) (e :: es) [] pos) X.env = (do
      let ov ← eval o X.env
      standAt apos.atName
      let (f, first) ← holding [ov] (getMethod ov m pl)
      callWith pos f first (backTo pos (starEach (e :: es) X.env)) (backToKw pos (keywordEach [] X.env))) := by rfl) :
    PGen X k (.Call (.Attribute o m apos) (e :: es) [] pos) (tMethG2 C n sp ta t) (fun _ _ _ => False) := by
  refine ⟨fun pins s σ H cont I h => ?_⟩
  refine PySem.W.methodCall_KW (pl := pl) (thn (he.run pins s σ H _ I h) fun u s1 ⟨x, H1, I1, rx, a, dx, vs, ex, hsl, q⟩ => ?_) ht
  subst ex
  obtain rfl : u = Value.ref a := rx
  refine SlX.getmethsl_ok I1 hsl c hm ?_
  refine PySem.W.callWith_K (first := [.ref a]) (h₀ := X.base) I1.ok.mod.kin hm.kp (thn (ha.run pos pins s1 σ H1 _ I1 q) fun us s2 ⟨ws, H2, I2, r, hl, q2⟩ => ⟨I2.kIn, ?_⟩) hst hpl
  exact made_of (us := .ref a :: us) (ws := []) (vs := .ref a :: ws) (zs := []) F hr I2 (by rw [List.length_cons, ← r.length, hl]) rfl (.cons rfl r) .nil (by rw [List.append_nil]; exact q2)
theorem pgen_k0 {kws : List Keyword} (he : PE X o ta) (c : SlX.SCls X.K C) (hm : Meth X.K C m f) (F : GRun X.prog X.w X.K X.mg X.base k f 1 ks sp) (hr : Room k X.A) (hkw : PK X kws t)
    (hall : (backToKw pos (keywordEach kws X.env)).all (·.1.isSome) = true := by rfl) (hks : (backToKw pos (keywordEach kws X.env)).filterMap (·.1) = ks := by rfl)
    (hpl : ((backTo pos (starEach [] X.env)).any (·.1) || (backToKw pos (keywordEach kws X.env)).any (·.1.isNone)) = false := by rfl)
    (ht : eval (.Call (.Attribute o m apos) [] kws pos) X.env = (do
      let ov ← eval o X.env
      standAt apos.atName
      let (f, first) ← holding [ov] (getMethod ov m pl)
      callWith pos f first (backTo pos (starEach [] X.env)) (backToKw pos (keywordEach kws X.env))) := by rfl) :
    PGen X k (.Call (.Attribute o m apos) [] kws pos) (tMethG2 C ks.length sp ta t) (fun _ _ _ => False) := by
  refine ⟨fun pins s σ H cont I h => ?_⟩
  refine PySem.W.methodCall_KW (pl := pl) (thn (he.run pins s σ H _ I h) fun u s1 ⟨x, H1, I1, rx, a, dx, vs, ex, hsl, q⟩ => ?_) ht
  subst ex
  obtain rfl : u = Value.ref a := rx
  refine SlX.getmethsl_ok I1 hsl c hm ?_
  refine PySem.W.callWith_KW0 (h₀ := X.base) (first := [.ref a]) I1.ok.mod.kin hm.kp hall (thn (hkw.run pos pins s1 σ H1 _ I1 q) fun ws s2 ⟨zs, H2, I2, rz, hl, q2⟩ => ⟨I2.kIn, ?_⟩) hpl
  rw [hks]
  exact made_of (us := [.ref a]) (ws := ws) (vs := [.ref a]) (zs := zs) F hr I2 rfl (by rw [← rz.length, hl]) (.cons rfl .nil) rz q2
end
theorem pass_none {X : Cx} : Passes (CX X.prog X.w) X fun _ _ _ => False := by
  intro pins σ H s e s' I c
  obtain ⟨_, _, _, _, _, _, _, _, _, _, _, _, hE⟩ := c
  exact hE.elim
theorem noStop_none {K : PySem.W.Frag} : NoStop K fun _ _ _ => False := fun _ _ _ h => h.elim
/-- list(o.m(..)): cnt values behind o -/
@[reducible] def dListG [Cl] (n : PySem.Str) (cnt : Nat) (sp : DSpG) (to : DTE) (t : DTA) : DTE := fun σ M Q => to σ M fun x M1 => InsOf x M1 (cA n) ∧ t σ M1 fun ds M2 => ds.length = cnt ∧ sp (x :: ds) M2 fun out M3 => Q (.lst out) M3
section
variable {X : Cx} {g : Gr} {k j cnt : Nat} {m nm : PySem.Str} {ks : List PySem.Str} {sp : DSpG} {o e : Expr} {es : List Expr} {p pos pos' apos : Pos} {to : DTE} {t : DTA} [Cl] {n : PySem.Str}
theorem lift_listG {σ : L2.St} {H : Hp} {Q : VK} {K : PySem.W.Frag} (h : liftE K g (dListG n cnt sp to t) σ H Q) : tListG (tMethG2 (cA n) cnt (liftSpG K sp) (liftE K g to) (liftA K g t)) σ H Q := by
  obtain ⟨S, M, sd, QD, a, q, kk⟩ := h
  refine ⟨S, M, sd, _, a, q, fun d1 M1 v1 S1 H1 q1 e1 r1 i1 => ?_⟩
  obtain ⟨hi, q1⟩ := q1
  obtain ⟨b, dx, vs, rfl, hs⟩ := hi.at r1 i1
  refine ⟨b, dx, vs, rfl, hs, S1, M1, sd, _, a.step e1 r1, q1, fun ds M2 ws S2 H2 q2 e2 r2 i2 => ?_⟩
  obtain ⟨hl, q2⟩ := q2
  refine ⟨by rw [i2.length]; exact hl, g.F, S2, M2, _, _, r2, .cons (i1.mono e2) i2, q2, fun out M' ys S' H' q' e' r' l' p hp => ?_⟩
  have s1 : Same S' (upd S' p (.lst ys)) := same_upd (r'.freeS hp)
  exact kk _ _ _ _ _ q' (((e1.trans e2).trans e').trans s1) (r'.frozen hp) (.lst upd_same (l'.mono s1))
theorem de_listG0 (c : SlX.SCls X.K (cA n)) (d : DMetG X.prog X.w X.K X.mg X.base k (cA n) m 0 [] sp) (hr : Room j X.A) (hk : k + 3 ≤ j) (ho : DE X g o to) (hg : Gl X nm) (hmg : X.mg nm = none) (hv : bootBuiltins nm = some (.type "list"))
    (hnm : nm ≠ "__name__" := by decide) (hdb : (nm == ("__debug__" : PySem.Str)) = false := by decide) {pl : Sem Bool}
    (he : starEach [.Call (.Attribute o m apos) [] [] pos] X.env = (false, eval (.Call (.Attribute o m apos) [] [] pos) X.env) :: starEach [] X.env := by rfl)
    (ht : eval (.Call (.Attribute o m apos) [] [] pos) X.env = (do
      let ov ← eval o X.env
      standAt apos.atName
      let (f, first) ← holding [ov] (getMethod ov m pl)
      callWith pos f first (backTo pos (starEach [] X.env)) (backToKw pos (keywordEach [] X.env))) := by rfl) :
    DE X g (.Call (.Name nm p) [.Call (.Attribute o m apos) [] [] pos] [] pos') (dListG n 0 sp to dNil) := by
  obtain ⟨f, hm, F⟩ := d.ex
  refine ⟨pe_imp (pe_listG (pgen_m0 (pl := pl) ho.run c hm F (hr.mono (by omega)) ht) pass_none noStop_none (hr.mono hk) hg hmg hv hnm hdb he) fun σ H Q h => ?_⟩
  have h2 := lift_listG h
  obtain ⟨S, M, sd, QD, a, q, kk⟩ := h2
  refine ⟨S, M, sd, _, a, q, fun d1 M1 v1 S1 H1 q1 e1 r1 i1 => ?_⟩
  obtain ⟨b, dx, vs, ex, hs, q2⟩ := kk _ _ _ _ _ q1 e1 r1 i1
  refine ⟨b, dx, vs, ex, hs, ?_⟩
  obtain ⟨S2, M2, sd2, QD2, a2, q2, k2⟩ := q2
  exact k2 _ _ _ _ _ q2 (Same.refl _) a2.rep .nil
theorem de_listG (c : SlX.SCls X.K (cA n)) (d : DMetG X.prog X.w X.K X.mg X.base k (cA n) m cnt [] sp) (hr : Room j X.A) (hk : k + 3 ≤ j) (ho : DE X g o to) (ha : DA X g (e :: es) t) (hg : Gl X nm) (hmg : X.mg nm = none) (hv : bootBuiltins nm = some (.type "list"))
    (hnm : nm ≠ "__name__" := by decide) (hdb : (nm == ("__debug__" : PySem.Str)) = false := by decide) {pl : Sem Bool}
    (he : starEach [.Call (.Attribute o m apos) (e :: es) [] pos] X.env = (false, eval (.Call (.Attribute o m apos) (e :: es) [] pos) X.env) :: starEach [] X.env := by rfl)
    (hst : starEach (e :: es) X.env = (false, eval e X.env) :: starEach es X.env := by rfl) (hpl : (backTo pos (starEach es X.env)).any (·.1) = false := by rfl)
    (ht : eval (.Call (.Attribute o m apos) (e :: es) [] pos) X.env = (do
      let ov ← eval o X.env
      standAt apos.atName
      let (f, first) ← holding [ov] (getMethod ov m pl)
      callWith pos f first (backTo pos (starEach (e :: es) X.env)) (backToKw pos (keywordEach [] X.env))) := by rfl) :
    DE X g (.Call (.Name nm p) [.Call (.Attribute o m apos) (e :: es) [] pos] [] pos') (dListG n cnt sp to t) := by
  obtain ⟨f, hm, F⟩ := d.ex
  exact ⟨pe_imp (pe_listG (pgen_m (pl := pl) ho.run c hm F (hr.mono (by omega)) ha.run hst hpl ht) pass_none noStop_none (hr.mono hk) hg hmg hv hnm hdb he) fun σ H Q h => lift_listG h⟩
theorem de_listGK {kws : List Keyword} (c : SlX.SCls X.K (cA n)) (d : DMetG X.prog X.w X.K X.mg X.base k (cA n) m 0 ks sp) (hr : Room j X.A) (hk : k + 3 ≤ j) (ho : DE X g o to) (hkw : DKv X g kws t) (hg : Gl X nm) (hmg : X.mg nm = none) (hv : bootBuiltins nm = some (.type "list"))
    (hnm : nm ≠ "__name__" := by decide) (hdb : (nm == ("__debug__" : PySem.Str)) = false := by decide) {pl : Sem Bool}
    (he : starEach [.Call (.Attribute o m apos) [] kws pos] X.env = (false, eval (.Call (.Attribute o m apos) [] kws pos) X.env) :: starEach [] X.env := by rfl)
    (hall : (backToKw pos (keywordEach kws X.env)).all (·.1.isSome) = true := by rfl) (hks : (backToKw pos (keywordEach kws X.env)).filterMap (·.1) = ks := by rfl)
    (hpl : ((backTo pos (starEach [] X.env)).any (·.1) || (backToKw pos (keywordEach kws X.env)).any (·.1.isNone)) = false := by rfl)
    (ht : eval (.Call (.Attribute o m apos) [] kws pos) X.env = (do
      let ov ← eval o X.env
      standAt apos.atName
      let (f, first) ← holding [ov] (getMethod ov m pl)
      callWith pos f first (backTo pos (starEach [] X.env)) (backToKw pos (keywordEach kws X.env))) := by rfl) :
    DE X g (.Call (.Name nm p) [.Call (.Attribute o m apos) [] kws pos] [] pos') (dListG n ks.length sp to t) := by
  obtain ⟨f, hm, F⟩ := d.ex
  exact ⟨pe_imp (pe_listG (pgen_k0 (pl := pl) ho.run c hm F (hr.mono (by omega)) hkw.run hall hks hpl ht) pass_none noStop_none (hr.mono hk) hg hmg hv hnm hdb he) fun σ H Q h => lift_listG h⟩
end
end DL

/-! DSlp: code that runs leaves a generator that sleeps as it is, if it would not run were it dead (own, over the semantics). -/
namespace Slp
open PySem
open Sem (wp)
/-- a generator that sleeps, but can't be woken -/
def kill : GenState → GenState
  | .suspended _ l c p fs cl => .suspended (fun _ => .unsupported "asleep") l c p fs cl
  | x => x
def sleeps : GenState → Bool
  | .suspended .. => true
  | _ => false
def noG (fs : List Frame) : Prop := ∀ f ∈ fs, ∃ k h g l c p kp, f = Frame.ret k h g l c p kp
def frNo : GenState → Prop
  | .suspended _ _ _ _ fs _ => noG fs
  | _ => True
def endNo : End → Prop
  | .susp _ _ _ _ _ _ fs => noG fs
  | _ => True
theorem noG_split : ∀ {fs : List Frame}, noG fs → splitAtGen fs = none
  | [], _ => rfl
  | f :: fs, h => by
    obtain ⟨k, hh, g, l, c, p, kp, rfl⟩ := h f List.mem_cons_self
    show (splitAtGen fs).map _ = none
    rw [noG_split fun x hx => h x (List.mem_cons_of_mem _ hx)]
    rfl
theorem noG_app {a b : List Frame} (h : noG a) (h2 : noG b) : noG (a ++ b) := fun f hf => (List.mem_append.mp hf).elim (h f) (h2 f)
theorem frNo_of {e : End} (h : endNo e) : frNo e.genState := by
  cases e with
  | ret r => trivial
  | susp v g l k c p fs => exact h
theorem seen_kill (x : GenState) : (kill x).seen = x.seen := by cases x <;> rfl
theorem bare_kill (x : GenState) : (kill x).bare = x.bare := by cases x <;> rfl
theorem no_runs {M : Model} {Γ : Ctx} {p : Pos} {t : Sem PySem.Fin} {fs : List Frame} {s s' : Shared} {e : End} (h : Runs M Γ p t fs s e s') : ∀ m, t = .unsupported m → False := by
  induction h <;> intro m ht <;> first | (cases ht; done) | (rename_i ih _; exact ih m ht) | (rename_i ih; exact ih m ht) | (rename_i ih _ _; exact ih m ht) | skip
/-- D: the generators that slept; G1: they are dead, G2: they sleep -/
structure Sim (D : Nat → Option GenState) (G1 G2 : Array GenState) : Prop where
  sz : G2.size = G1.size
  old : ∀ i x, D i = some x → sleeps x = true ∧ G1[i]? = some (kill x) ∧ G2[i]? = some x
  new : ∀ i, D i = none → G2[i]? = G1[i]? ∧ ∀ x, G1[i]? = some x → frNo x
theorem lt_of_some {G : Array GenState} {i : Nat} {x : GenState} (h : G[i]? = some x) : i < G.size := (Array.getElem?_eq_some_iff.mp h).1
theorem Sim.push {D : Nat → Option GenState} {G1 G2 : Array GenState} (h : Sim D G1 G2) (c : Code) : Sim D (G1.push (.fresh c)) (G2.push (.fresh c)) := by
  refine ⟨by rw [Array.size_push, Array.size_push, h.sz], fun i x e => ?_, fun i e => ?_⟩
  · obtain ⟨a, b, d⟩ := h.old i x e
    refine ⟨a, ?_, ?_⟩
    · rw [Array.getElem?_push_lt (lt_of_some b)]; exact (Array.getElem?_eq_getElem (lt_of_some b)).symm.trans b
    · rw [Array.getElem?_push_lt (lt_of_some d)]; exact (Array.getElem?_eq_getElem (lt_of_some d)).symm.trans d
  · obtain ⟨a, b⟩ := h.new i e
    rw [Array.getElem?_push, Array.getElem?_push, h.sz]
    by_cases hi : i = G1.size
    · rw [if_pos hi, if_pos hi]
      exact ⟨rfl, fun x hx => by cases hx; trivial⟩
    · rw [if_neg hi, if_neg hi]
      exact ⟨a, b⟩
theorem Sim.set {D : Nat → Option GenState} {G1 G2 : Array GenState} (h : Sim D G1 G2) {g : Nat} (hg : D g = none) {x : GenState} (hx : frNo x) : Sim D (G1.setIfInBounds g x) (G2.setIfInBounds g x) := by
  refine ⟨by rw [Array.size_setIfInBounds, Array.size_setIfInBounds, h.sz], fun i y e => ?_, fun i e => ?_⟩
  · obtain ⟨a, b, d⟩ := h.old i y e
    have hi : g ≠ i := fun z => by rw [z, e] at hg; cases hg
    rw [Array.getElem?_setIfInBounds_ne hi, Array.getElem?_setIfInBounds_ne hi]
    exact ⟨a, b, d⟩
  · obtain ⟨a, b⟩ := h.new i e
    rw [Array.getElem?_setIfInBounds, Array.getElem?_setIfInBounds, h.sz]
    by_cases hi : g = i
    · rw [if_pos hi, if_pos hi]
      refine ⟨rfl, fun y hy => ?_⟩
      split at hy
      · cases hy; exact hx
      · cases hy
    · rw [if_neg hi, if_neg hi]
      exact ⟨a, b⟩
theorem Sim.asleep {D : Nat → Option GenState} {G1 G2 : Array GenState} (h : Sim D G1 G2) {g : Nat} {x : GenState} (hs : sleeps x = false) (e : G1[g]? = some x) : D g = none ∧ G2[g]? = some x := by
  cases q : D g with
  | none => exact ⟨rfl, (h.new g q).1.trans e⟩
  | some y =>
    obtain ⟨a, b, _⟩ := h.old g y q
    rw [b] at e
    cases e
    cases y with
    | suspended => cases hs
    | _ => cases a
theorem Sim.seen {D : Nat → Option GenState} {G1 G2 : Array GenState} (h : Sim D G1 G2) {g : Nat} {x : GenState} (e : G1[g]? = some x) : ∃ y, G2[g]? = some y ∧ y.seen = x.seen := by
  cases q : D g with
  | none => exact ⟨x, (h.new g q).1.trans e, rfl⟩
  | some y =>
    obtain ⟨_, h1, h2⟩ := h.old g y q
    rw [h1] at e
    cases e
    exact ⟨y, h2, (seen_kill y).symm⟩
theorem runs_sim {M : Model} {D : Nat → Option GenState} {Γ : Ctx} {p : Pos} {t : Sem PySem.Fin} {fs : List Frame} {s s' : Shared} {e : End} (h : Runs M Γ p t fs s e s') : noG fs → ∀ G2, Sim D s.gens G2 →
    ∃ G2', Sim D s'.gens G2' ∧ Runs M Γ p t fs { s with gens := G2 } e { s' with gens := G2' } ∧ endNo e := by
  induction h with
  | done => exact fun _ G2 h => ⟨G2, h, .done, trivial⟩
  | raise => exact fun _ G2 h => ⟨G2, h, .raise, trivial⟩
  | again hq _ ih => exact fun hn G2 h => let ⟨G, a, b, c⟩ := ih hn G2 h; ⟨G, a, .again hq b, c⟩
  | rule _ ih => exact fun hn G2 h => let ⟨G, a, b, c⟩ := ih hn G2 h; ⟨G, a, .rule b, c⟩
  | «at» _ ih => exact fun hn G2 h => let ⟨G, a, b, c⟩ := ih hn G2 h; ⟨G, a, .at b, c⟩
  | load ho _ ih => exact fun hn G2 h => let ⟨G, a, b, c⟩ := ih hn G2 h; ⟨G, a, .load ho b, c⟩
  | update ho _ ih => exact fun hn G2 h => let ⟨G, a, b, c⟩ := ih hn G2 h; ⟨G, a, .update ho b, c⟩
  | loadIfAlive _ ih => exact fun hn G2 h => let ⟨G, a, b, c⟩ := ih hn G2 h; ⟨G, a, .loadIfAlive b, c⟩
  | point _ ih => exact fun hn G2 h => let ⟨G, a, b, c⟩ := ih hn G2 h; ⟨G, a, .point b, c⟩
  | alloc _ ih => exact fun hn G2 h => let ⟨G, a, b, c⟩ := ih hn G2 h; ⟨G, a, .alloc b, c⟩
  | fresh _ ih => exact fun hn G2 h => let ⟨G, a, b, c⟩ := ih hn G2 h; ⟨G, a, .fresh b, c⟩
  | ask _ ih => exact fun hn G2 h => let ⟨G, a, b, c⟩ := ih hn G2 h; ⟨G, a, .ask b, c⟩
  | choose hne _ ih => exact fun hn G2 h => let ⟨G, a, b, c⟩ := ih hn G2 h; ⟨G, a, .choose hne b, c⟩
  | os _ ih => exact fun hn G2 h => let ⟨G, a, b, c⟩ := ih hn G2 h; ⟨G, a, .os b, c⟩
  | handled _ ih => exact fun hn G2 h => let ⟨G, a, b, c⟩ := ih hn G2 h; ⟨G, a, .handled b, c⟩
  | genState hst _ ih =>
    intro hn G2 h
    obtain ⟨G, a, b, c⟩ := ih hn G2 h
    obtain ⟨x, e2, e3⟩ := h.seen hst
    exact ⟨G, a, .genState (st := x) e2 (by rw [e3]; exact b), c⟩
  | stack _ ih => exact fun hn G2 h => let ⟨G, a, b, c⟩ := ih hn G2 h; ⟨G, a, .stack b, c⟩
  | thread _ ih => exact fun hn G2 h => let ⟨G, a, b, c⟩ := ih hn G2 h; ⟨G, a, .thread b, c⟩
  | newGen _ ih =>
    intro hn G2 h
    obtain ⟨G, a, b, c⟩ := ih hn _ (h.push _)
    refine ⟨G, a, .newGen ?_, c⟩
    dsimp only
    rw [h.sz]
    exact b
  | call _ _ ih1 ih2 =>
    intro hn G2 h
    obtain ⟨G, a, b, _⟩ := ih1 (fun _ z => nomatch z) G2 h
    obtain ⟨G', a', b', c'⟩ := ih2 hn G a
    exact ⟨G', a', .call b b', c'⟩
  | callSusp _ ih =>
    intro hn G2 h
    obtain ⟨G, a, b, c⟩ := ih hn G2 h
    exact ⟨G, a, .callSusp b, noG_app c fun f hf => by rw [List.mem_singleton.mp hf]; exact ⟨_, _, _, _, _, _, _, rfl⟩⟩
  | yield => exact fun hn G2 h => ⟨G2, h, .yield, fun _ z => nomatch z⟩
  | resumeFresh hg _ hq _ ih1 ih2 =>
    intro hn G2 h
    obtain ⟨q, e2⟩ := h.asleep rfl hg
    obtain ⟨G, a, b, c⟩ := ih1 (fun _ z => nomatch z) _ (h.set (x := .running) q trivial)
    obtain ⟨G', a', b', c'⟩ := ih2 hn _ (a.set q (frNo_of c))
    exact ⟨G', a', .resumeFresh e2 b hq b', c'⟩
  | @resumeSuspended Γ p g r l k s k₀ l₀ c₀ p₀ fs cl e₁ s₁ e s' hg hr hq _ ih1 ih2 =>
    intro hn G2 h
    cases q : D g with
    | some x =>
      obtain ⟨_, h1, _⟩ := h.old g x q
      rw [h1] at hg
      cases x with
      | suspended =>
        cases hg
        exact (no_runs hr _ rfl).elim
      | _ => cases hg
    | none =>
      obtain ⟨e2, f2⟩ := h.new g q
      obtain ⟨G, a, b, c⟩ := ih1 (f2 _ hg) _ (h.set (x := .running) q trivial)
      obtain ⟨G', a', b', c'⟩ := ih2 hn _ (a.set q (frNo_of c))
      exact ⟨G', a', .resumeSuspended (e2.trans hg) b hq b', c'⟩
  | resumeJustStarted hg hv _ ih =>
    intro hn G2 h
    obtain ⟨q, e2⟩ := h.asleep rfl hg
    obtain ⟨G, a, b, c⟩ := ih hn G2 h
    exact ⟨G, a, .resumeJustStarted e2 hv b, c⟩
  | resumeThrowFresh hg _ ih =>
    intro hn G2 h
    obtain ⟨q, e2⟩ := h.asleep rfl hg
    obtain ⟨G, a, b, c⟩ := ih hn _ (h.set (x := .finished) q trivial)
    exact ⟨G, a, .resumeThrowFresh e2 b, c⟩
  | resumeRunning hg _ ih =>
    intro hn G2 h
    obtain ⟨q, e2⟩ := h.asleep rfl hg
    obtain ⟨G, a, b, c⟩ := ih hn G2 h
    exact ⟨G, a, .resumeRunning e2 b, c⟩
  | resumeFinished hg _ ih =>
    intro hn G2 h
    obtain ⟨q, e2⟩ := h.asleep rfl hg
    obtain ⟨G, a, b, c⟩ := ih hn G2 h
    exact ⟨G, a, .resumeFinished e2 b, c⟩
  | segRet _ _ ih1 ih2 =>
    intro hn G2 h
    obtain ⟨G, a, b, _⟩ := ih1 (fun _ z => nomatch z) G2 h
    obtain ⟨G', a', b', c'⟩ := ih2 (fun f hf => hn f (List.mem_cons_of_mem _ hf)) G a
    exact ⟨G', a', .segRet b b', c'⟩
  | segGen _ _ ih1 ih2 =>
    intro hn
    obtain ⟨_, _, _, _, _, _, _, z⟩ := hn _ List.mem_cons_self
    cases z
  | segSuspOut hsp _ ih =>
    intro hn G2 h
    obtain ⟨G, a, b, c⟩ := ih (fun _ z => nomatch z) G2 h
    exact ⟨G, a, .segSuspOut hsp b, noG_app c hn⟩
  | segSuspGen hsp _ _ _ ih1 ih2 =>
    intro hn
    rw [noG_split hn] at hsp
    cases hsp
/-! ### what is wanted for many reasons at once -/
theorem runs_det {M : Model} {Γ : Ctx} {p : Pos} {t : Sem PySem.Fin} {fs : List Frame} {s s' : Shared} {e : End} (h : Runs M Γ p t fs s e s') : ∀ {e2 : End} {s2 : Shared}, Runs M Γ p t fs s e2 s2 → e2 = e ∧ s2 = s' := by
  induction h with
  | done => intro e2 s2 h; cases h; exact ⟨rfl, rfl⟩
  | raise => intro e2 s2 h; cases h; exact ⟨rfl, rfl⟩
  | again _ _ ih => intro e2 s2 h; cases h; apply ih; assumption
  | rule _ ih => intro e2 s2 h; cases h; apply ih; assumption
  | «at» _ ih => intro e2 s2 h; cases h; apply ih; assumption
  | load ho _ ih => intro e2 s2 h; cases h with | load ho2 h2 => rw [ho] at ho2; cases ho2; exact ih h2
  | update _ _ ih => intro e2 s2 h; cases h; apply ih; assumption
  | loadIfAlive _ ih => intro e2 s2 h; cases h; apply ih; assumption
  | point _ ih => intro e2 s2 h; cases h; apply ih; assumption
  | alloc _ ih => intro e2 s2 h; cases h; apply ih; assumption
  | fresh _ ih => intro e2 s2 h; cases h; apply ih; assumption
  | ask _ ih => intro e2 s2 h; cases h; apply ih; assumption
  | choose _ _ ih => intro e2 s2 h; cases h; apply ih; assumption
  | os _ ih => intro e2 s2 h; cases h; apply ih; assumption
  | handled _ ih => intro e2 s2 h; cases h; apply ih; assumption
  | genState hst _ ih => intro e2 s2 h; cases h with | genState h1 h2 => rw [hst] at h1; cases h1; exact ih h2
  | stack _ ih => intro e2 s2 h; cases h; apply ih; assumption
  | thread _ ih => intro e2 s2 h; cases h; apply ih; assumption
  | newGen _ ih => intro e2 s2 h; cases h; apply ih; assumption
  | call _ _ ih1 ih2 =>
    intro e2 s2 h
    cases h with
    | call a b => obtain ⟨e1, e2⟩ := ih1 a; cases e1; cases e2; exact ih2 b
    | callSusp a => obtain ⟨e1, e2⟩ := ih1 a; cases e1
  | callSusp _ ih =>
    intro e2 s2 h
    cases h with
    | call a b => obtain ⟨e1, e2⟩ := ih a; cases e1
    | callSusp a => obtain ⟨e1, e2⟩ := ih a; cases e1; cases e2; exact ⟨rfl, rfl⟩
  | yield => intro e2 s2 h; cases h; exact ⟨rfl, rfl⟩
  | resumeFresh hg _ _ _ ih1 ih2 =>
    intro e2 s2 h
    cases h with
    | resumeFresh a b c d => rw [hg] at a; cases a; obtain ⟨e1, e2⟩ := ih1 b; cases e1; cases e2; exact ih2 d
    | resumeSuspended a => rw [hg] at a; cases a
    | resumeJustStarted a b => exact absurd rfl b
    | resumeRunning a => rw [hg] at a; cases a
    | resumeFinished a => rw [hg] at a; cases a
  | resumeSuspended hg _ _ _ ih1 ih2 =>
    intro e2 s2 h
    cases h with
    | resumeFresh a => rw [hg] at a; cases a
    | resumeSuspended a b c d => rw [hg] at a; cases a; obtain ⟨e1, e2⟩ := ih1 b; cases e1; cases e2; exact ih2 d
    | resumeJustStarted a => rw [hg] at a; cases a
    | resumeThrowFresh a => rw [hg] at a; cases a
    | resumeRunning a => rw [hg] at a; cases a
    | resumeFinished a => rw [hg] at a; cases a
  | resumeJustStarted hg hv _ ih =>
    intro e2 s2 h
    cases h with
    | resumeFresh a => exact absurd rfl hv
    | resumeSuspended a => rw [hg] at a; cases a
    | resumeJustStarted a b c => exact ih c
    | resumeRunning a => rw [hg] at a; cases a
    | resumeFinished a => rw [hg] at a; cases a
  | resumeThrowFresh hg _ ih =>
    intro e2 s2 h
    cases h with
    | resumeSuspended a => rw [hg] at a; cases a
    | resumeThrowFresh a b => exact ih b
    | resumeRunning a => rw [hg] at a; cases a
    | resumeFinished a => rw [hg] at a; cases a
  | resumeRunning hg _ ih =>
    intro e2 s2 h
    cases h with
    | resumeFresh a => rw [hg] at a; cases a
    | resumeSuspended a => rw [hg] at a; cases a
    | resumeJustStarted a => rw [hg] at a; cases a
    | resumeThrowFresh a => rw [hg] at a; cases a
    | resumeRunning a b => exact ih b
    | resumeFinished a => rw [hg] at a; cases a
  | resumeFinished hg _ ih =>
    intro e2 s2 h
    cases h with
    | resumeFresh a => rw [hg] at a; cases a
    | resumeSuspended a => rw [hg] at a; cases a
    | resumeJustStarted a => rw [hg] at a; cases a
    | resumeThrowFresh a => rw [hg] at a; cases a
    | resumeRunning a => rw [hg] at a; cases a
    | resumeFinished a b => exact ih b
  | segRet _ _ ih1 ih2 =>
    intro e2 s2 h
    cases h with
    | segRet a b => obtain ⟨e1, e2⟩ := ih1 a; cases e1; cases e2; exact ih2 b
    | segSuspOut _ a => obtain ⟨e1, e2⟩ := ih1 a; cases e1
    | segSuspGen _ a => obtain ⟨e1, e2⟩ := ih1 a; cases e1
  | segGen _ _ ih1 ih2 =>
    intro e2 s2 h
    cases h with
    | segGen a b => obtain ⟨e1, e2⟩ := ih1 a; cases e1; cases e2; exact ih2 b
    | segSuspOut _ a => obtain ⟨e1, e2⟩ := ih1 a; cases e1
    | segSuspGen _ a => obtain ⟨e1, e2⟩ := ih1 a; cases e1
  | segSuspOut hsp _ ih =>
    intro e2 s2 h
    cases h with
    | segRet a b => obtain ⟨e1, e2⟩ := ih a; cases e1
    | segGen a b => obtain ⟨e1, e2⟩ := ih a; cases e1
    | segSuspOut _ a => obtain ⟨e1, e2⟩ := ih a; cases e1; cases e2; exact ⟨rfl, rfl⟩
    | segSuspGen a => rw [hsp] at a; cases a
  | segSuspGen hsp _ _ _ ih1 ih2 =>
    intro e2 s2 h
    cases h with
    | segRet a b => obtain ⟨e1, e2⟩ := ih1 a; cases e1
    | segGen a b => obtain ⟨e1, e2⟩ := ih1 a; cases e1
    | segSuspOut a => rw [hsp] at a; cases a
    | segSuspGen a b c d => rw [hsp] at a; cases a; obtain ⟨e1, e2⟩ := ih1 b; cases e1; cases e2; exact ih2 d
theorem wakes_det {M : Model} {Γ : Ctx} {p : Pos} {g : Nat} {r : Resume} {s s1 s2 : Shared} {a b : GenResult} (h : Wakes M Γ p g r s a s1) (h2 : Wakes M Γ p g r s b s2) : b = a ∧ s2 = s1 := by
  unfold Wakes at h h2
  split at h
  · exact h.elim
  · rename_i c hg
    simp only [hg] at h2
    split at h
    · obtain ⟨e₁, s₁, hr, _, rfl, rfl⟩ := h
      obtain ⟨e₂, s₂, hr2, _, rfl, rfl⟩ := h2
      obtain ⟨rfl, rfl⟩ := runs_det hr hr2
      exact ⟨rfl, rfl⟩
    · rename_i v hv
      cases v <;> first | exact (hv rfl).elim | (obtain ⟨rfl, rfl⟩ := h; obtain ⟨rfl, rfl⟩ := h2; exact ⟨rfl, rfl⟩)
    · obtain ⟨rfl, rfl⟩ := h
      obtain ⟨rfl, rfl⟩ := h2
      exact ⟨rfl, rfl⟩
  · rename_i hg
    simp only [hg] at h2
    obtain ⟨e₁, s₁, hr, _, rfl, rfl⟩ := h
    obtain ⟨e₂, s₂, hr2, _, rfl, rfl⟩ := h2
    obtain ⟨rfl, rfl⟩ := runs_det hr hr2
    exact ⟨rfl, rfl⟩
  · rename_i hg
    simp only [hg] at h2
    obtain ⟨rfl, rfl⟩ := h
    obtain ⟨rfl, rfl⟩ := h2
    exact ⟨rfl, rfl⟩
  · rename_i hg
    simp only [hg] at h2
    obtain ⟨rfl, rfl⟩ := h
    obtain ⟨rfl, rfl⟩ := h2
    exact ⟨rfl, rfl⟩
theorem wp_all {α ι : Type} (i0 : ι) (M : Model) (Γ : Ctx) (t : Sem α) : ∀ (Q : ι → α → Pos → Shared → Prop) (E : ι → Value → Pos → Shared → Prop) (p : Pos) (s : Shared), (∀ i, wp M Γ t (Q i) (E i) p s) →
    wp M Γ t (fun a p' s' => ∀ i, Q i a p' s') (fun e p' s' => ∀ i, E i e p' s') p s := by
  induction t with
  | pure a => intro Q E p s h; exact h
  | raise e => intro Q E p s h; exact h
  | unsupported _ => intro Q E p s h; exact h i0
  | finish _ => intro Q E p s h; exact h i0
  | rule _ k ih => intro Q E p s h; exact ih () Q E p s h
  | «at» p' k ih => intro Q E p s h; exact ih () Q E p' s h
  | load a _ k ih =>
    intro Q E p s h
    obtain ⟨o, ho, _⟩ := h i0
    exact ⟨o, ho, ih o Q E p s fun i => by obtain ⟨o2, ho2, h2⟩ := h i; rw [ho] at ho2; cases ho2; exact h2⟩
  | update a _ f k ih => intro Q E p s h; exact ⟨(h i0).1, ih () Q E p _ fun i => (h i).2⟩
  | loadIfAlive a k ih => intro Q E p s h; exact ih _ Q E p s h
  | point _ k ih => intro Q E p s h; exact ih () Q E p s h
  | register _ _ => intro Q E p s h; exact h i0
  | alloc o k ih => intro Q E p s h; exact ih _ Q E p _ h
  | fresh k ih => intro Q E p s h; exact ih _ Q E p _ h
  | ask k ih => intro Q E p s h; exact ih _ Q E p s h
  | choose src m k ih => intro Q E p s h; exact ⟨(h i0).1, ih _ Q E p _ fun i => (h i).2⟩
  | os q _ k ih => intro Q E p s h; exact ih _ Q E p _ h
  | call c hd _ _ k ih =>
    intro Q E p s h
    obtain ⟨r, s', hr, _⟩ := h i0
    refine ⟨r, s', hr, ih r Q E p s' fun i => ?_⟩
    obtain ⟨r2, s2, hr2, h2⟩ := h i
    obtain ⟨e1, e2⟩ := runs_det hr hr2
    cases e1
    cases e2
    exact h2
  | handled own k ih => intro Q E p s h; exact ih _ Q E p s h
  | genState g k ih =>
    intro Q E p s h
    obtain ⟨o, ho, _⟩ := h i0
    exact ⟨o, ho, ih _ Q E p s fun i => by obtain ⟨o2, ho2, h2⟩ := h i; rw [ho] at ho2; cases ho2; exact h2⟩
  | newGen c k ih => intro Q E p s h; exact ih _ Q E p _ h
  | resume g r _ k ih =>
    intro Q E p s h
    obtain ⟨res, s', hw, _⟩ := h i0
    refine ⟨res, s', hw, ih res Q E p s' fun i => ?_⟩
    obtain ⟨r2, s2, hr2, h2⟩ := h i
    obtain ⟨rfl, rfl⟩ := wakes_det hw hr2
    exact h2
  | yield _ _ _ _ => intro Q E p s h; exact h i0
  | stack k ih => intro Q E p s h; exact ih _ Q E p s h
  | fork _ _ => intro Q E p s h; exact h i0
  | thread k ih => intro Q E p s h; exact ih _ Q E p s h
  | await _ _ _ _ _ => intro Q E p s h; exact h i0
theorem wpAny_all {α ι : Type} (i0 : ι) {M : Model} {A : Around} {s : Shared} {t : Sem α} {Q : ι → α → Shared → Prop} {E : ι → Value → Shared → Prop} (h : ∀ i, wpAny M A t (Q i) (E i) s) :
    wpAny M A t (fun a s' => ∀ i, Q i a s') (fun e s' => ∀ i, E i e s') s :=
  fun Γ p hΓ => wp_all i0 M Γ t _ _ p s fun i => h i Γ p hΓ
/-- the state in which all that sleep are dead -/
def dead (s : Shared) : Shared := { s with gens := s.gens.map kill }
def slp (s : Shared) : Nat → Option GenState := fun i => match s.gens[i]? with
  | some x => if sleeps x = true then some x else none
  | none => none
theorem sim_dead (s : Shared) : Sim (slp s) (dead s).gens s.gens := by
  refine ⟨by show s.gens.size = (s.gens.map kill).size; rw [Array.size_map], fun i x e => ?_, fun i e => ?_⟩
  · unfold slp at e
    cases q : s.gens[i]? with
    | none => rw [q] at e; cases e
    | some y =>
      rw [q] at e
      by_cases hy : sleeps y = true
      · rw [show (match some y with | some x => if sleeps x = true then some x else none | none => none) = if sleeps y = true then some y else none from rfl, if_pos hy] at e
        cases e
        refine ⟨hy, ?_, rfl⟩
        show (s.gens.map kill)[i]? = _
        rw [Array.getElem?_map, q]; rfl
      · rw [show (match some y with | some x => if sleeps x = true then some x else none | none => none) = if sleeps y = true then some y else none from rfl, if_neg hy] at e
        cases e
  · unfold slp at e
    show s.gens[i]? = (s.gens.map kill)[i]? ∧ ∀ x, (s.gens.map kill)[i]? = some x → frNo x
    rw [Array.getElem?_map]
    cases q : s.gens[i]? with
    | none => exact ⟨rfl, fun x hx => by cases hx⟩
    | some y =>
      rw [q] at e
      cases y with
      | suspended => cases e
      | _ => exact ⟨rfl, fun x hx => by cases hx; trivial⟩
theorem slp_at {s : Shared} {g : Nat} {x : GenState} (h : s.gens[g]? = some x) (hs : sleeps x = true) : slp s g = some x := by
  unfold slp
  rw [h]
  exact if_pos hs
theorem wakes_sim {M : Model} {D : Nat → Option GenState} {Γ : Ctx} {p : Pos} {g : Nat} {r : Resume} {s s' : Shared} {res : GenResult} {G2 : Array GenState} (h : Wakes M Γ p g r s res s') (hs : Sim D s.gens G2) :
    ∃ G2', Sim D s'.gens G2' ∧ Wakes M Γ p g r { s with gens := G2 } res { s' with gens := G2' } := by
  unfold Wakes at h
  split at h
  · exact h.elim
  · rename_i c hg
    obtain ⟨q, e2⟩ := hs.asleep rfl hg
    split at h
    · obtain ⟨e₁, s₁, hr, hq, rfl, rfl⟩ := h
      obtain ⟨G, a, b, c1⟩ := runs_sim hr (fun _ z => nomatch z) _ (hs.set (x := .running) q trivial)
      refine ⟨G.setIfInBounds g e₁.genState, a.set q (frNo_of c1), ?_⟩
      unfold Wakes
      show match G2[g]? with | none => False | some (.fresh c) => _ | some (.suspended k₀ _ c₀ p₀ fs _) => _ | some .running => _ | some .finished => _
      rw [e2]
      exact ⟨e₁, { s₁ with gens := G }, b, hq, rfl, rfl⟩
    · obtain ⟨rfl, rfl⟩ := h
      refine ⟨G2, hs, ?_⟩
      unfold Wakes
      show match G2[g]? with | none => False | some (.fresh c) => _ | some (.suspended k₀ _ c₀ p₀ fs _) => _ | some .running => _ | some .finished => _
      rw [e2]
      rename_i v hv
      cases v <;> first | exact ⟨rfl, rfl⟩ | exact (hv rfl).elim
    · obtain ⟨rfl, rfl⟩ := h
      refine ⟨G2.setIfInBounds g .finished, hs.set q trivial, ?_⟩
      unfold Wakes
      show match G2[g]? with | none => False | some (.fresh c) => _ | some (.suspended k₀ _ c₀ p₀ fs _) => _ | some .running => _ | some .finished => _
      rw [e2]
      exact ⟨rfl, rfl⟩
  · rename_i k₀ l₀ c₀ p₀ fs cl hg
    obtain ⟨e₁, s₁, hr, hq, rfl, rfl⟩ := h
    cases q : D g with
    | some x =>
      obtain ⟨_, h1, _⟩ := hs.old g x q
      rw [h1] at hg
      cases x with
      | suspended =>
        cases hg
        exact (no_runs hr _ rfl).elim
      | _ => cases hg
    | none =>
      obtain ⟨e2, f2⟩ := hs.new g q
      obtain ⟨G, a, b, c1⟩ := runs_sim hr (f2 _ hg) _ (hs.set (x := .running) q trivial)
      refine ⟨G.setIfInBounds g e₁.genState, a.set q (frNo_of c1), ?_⟩
      unfold Wakes
      show match G2[g]? with | none => False | some (.fresh c) => _ | some (.suspended k₀ _ c₀ p₀ fs _) => _ | some .running => _ | some .finished => _
      rw [e2, hg]
      exact ⟨e₁, { s₁ with gens := G }, b, hq, rfl, rfl⟩
  · rename_i hg
    obtain ⟨rfl, rfl⟩ := h
    obtain ⟨q, e2⟩ := hs.asleep rfl hg
    refine ⟨G2, hs, ?_⟩
    unfold Wakes
    show match G2[g]? with | none => False | some (.fresh c) => _ | some (.suspended k₀ _ c₀ p₀ fs _) => _ | some .running => _ | some .finished => _
    rw [e2]
    exact ⟨rfl, rfl⟩
  · rename_i hg
    obtain ⟨rfl, rfl⟩ := h
    obtain ⟨q, e2⟩ := hs.asleep rfl hg
    refine ⟨G2, hs, ?_⟩
    unfold Wakes
    show match G2[g]? with | none => False | some (.fresh c) => _ | some (.suspended k₀ _ c₀ p₀ fs _) => _ | some .running => _ | some .finished => _
    rw [e2]
    exact ⟨rfl, rfl⟩
theorem wp_sim {α : Type} {D : Nat → Option GenState} (M : Model) (Γ : Ctx) (t : Sem α) : ∀ (Q : α → Pos → Shared → Prop) (E : Value → Pos → Shared → Prop) (p : Pos) (s : Shared) (G2 : Array GenState), Sim D s.gens G2 → wp M Γ t Q E p s →
    wp M Γ t (fun a p' s' => ∃ G1, Sim D G1 s'.gens ∧ Q a p' { s' with gens := G1 }) (fun e p' s' => ∃ G1, Sim D G1 s'.gens ∧ E e p' { s' with gens := G1 }) p { s with gens := G2 } := by
  induction t with
  | pure a => intro Q E p s G2 hs h; exact ⟨s.gens, hs, h⟩
  | raise e => intro Q E p s G2 hs h; exact ⟨s.gens, hs, h⟩
  | unsupported _ => intro Q E p s G2 hs h; exact h
  | finish _ => intro Q E p s G2 hs h; exact h
  | rule _ k ih => intro Q E p s G2 hs h; exact ih () Q E p s G2 hs h
  | «at» p' k ih => intro Q E p s G2 hs h; exact ih () Q E p' s G2 hs h
  | load a _ k ih => intro Q E p s G2 hs h; obtain ⟨o, ho, h⟩ := h; exact ⟨o, ho, ih o Q E p s G2 hs h⟩
  | update a _ f k ih => intro Q E p s G2 hs h; exact ⟨h.1, ih () Q E p { s with heap := s.heap.update a f } G2 hs h.2⟩
  | loadIfAlive a k ih => intro Q E p s G2 hs h; exact ih _ Q E p s G2 hs h
  | point _ k ih => intro Q E p s G2 hs h; exact ih () Q E p s G2 hs h
  | register _ _ => intro Q E p s G2 hs h; exact h
  | alloc o k ih => intro Q E p s G2 hs h; exact ih _ Q E p { s with heap := s.heap.push o } G2 hs h
  | fresh k ih => intro Q E p s G2 hs h; exact ih _ Q E p { s with toks := s.toks + 1 } G2 hs h
  | ask k ih => intro Q E p s G2 hs h; exact ih _ Q E p s G2 hs h
  | choose src m k ih => intro Q E p s G2 hs h; exact ⟨h.1, ih _ Q E p { s with drawn := s.drawn.bump src } G2 hs h.2⟩
  | os q _ k ih => intro Q E p s G2 hs h; exact ih _ Q E p { s with os := (Os.step s.os q).1 } G2 hs h
  | call c hd _ _ k ih =>
    intro Q E p s G2 hs h
    obtain ⟨r, s', hr, h⟩ := h
    obtain ⟨G, a, b, _⟩ := runs_sim hr (fun _ z => nomatch z) G2 hs
    exact ⟨r, { s' with gens := G }, b, ih r Q E p s' G a h⟩
  | handled own k ih => intro Q E p s G2 hs h; exact ih _ Q E p s G2 hs h
  | genState g k ih =>
    intro Q E p s G2 hs h
    obtain ⟨st, hst, h⟩ := h
    obtain ⟨x, e2, e3⟩ := hs.seen hst
    exact ⟨x, e2, by rw [e3]; exact ih _ Q E p s G2 hs h⟩
  | newGen c k ih =>
    intro Q E p s G2 hs h
    have q := ih s.gens.size Q E p { s with gens := s.gens.push (.fresh c) } (G2.push (.fresh c)) (hs.push c) h
    show wp M Γ (k G2.size) _ _ p _
    rw [hs.sz]
    exact q
  | resume g r _ k ih =>
    intro Q E p s G2 hs h
    obtain ⟨res, s', hw, h⟩ := h
    obtain ⟨G, a, b⟩ := wakes_sim hw hs
    exact ⟨res, { s' with gens := G }, b, ih res Q E p s' G a h⟩
  | yield _ _ _ _ => intro Q E p s G2 hs h; exact h
  | stack k ih => intro Q E p s G2 hs h; exact ih _ Q E p s G2 hs h
  | fork _ _ => intro Q E p s G2 hs h; exact h
  | thread k ih => intro Q E p s G2 hs h; exact ih _ Q E p s G2 hs h
  | await _ _ _ _ _ => intro Q E p s G2 hs h; exact h
/-- THE RULE: what holds of the state in which all that sleep are dead holds, and those that slept sleep as they did -/
theorem wpAny_asleep {α : Type} {M : Model} {A : Around} {s : Shared} {t : Sem α} {Q : α → Shared → Prop} {E : Value → Shared → Prop} (h : wpAny M A t Q E (dead s)) :
    wpAny M A t (fun a s' => ∃ G1, Sim (slp s) G1 s'.gens ∧ Q a { s' with gens := G1 }) (fun e s' => ∃ G1, Sim (slp s) G1 s'.gens ∧ E e { s' with gens := G1 }) s :=
  fun Γ p hΓ => wp_sim M Γ t _ _ p (dead s) s.gens (sim_dead s) (h Γ p hΓ)
theorem Sim.bare {D : Nat → Option GenState} {G1 G2 : Array GenState} (h : Sim D G1 G2) (hb : ∀ x ∈ G1, x.bare = true) : ∀ x ∈ G2, x.bare = true := fun x hx => by
  obtain ⟨i, hi, e⟩ := Array.mem_iff_getElem.mp hx
  have e2 : G2[i]? = some x := by rw [Array.getElem?_eq_getElem hi, e]
  cases q : D i with
  | none => exact hb x (Array.mem_of_getElem? ((h.new i q).1.symm.trans e2))
  | some y =>
    obtain ⟨_, h1, h2⟩ := h.old i y q
    rw [h2] at e2
    cases e2
    rw [← bare_kill]
    exact hb _ (Array.mem_of_getElem? h1)
theorem dead_bare {s : Shared} (hb : ∀ x ∈ s.gens, x.bare = true) : ∀ x ∈ (dead s).gens, x.bare = true := fun x hx => by
  obtain ⟨y, hy, rfl⟩ := Array.mem_map.mp hx
  rw [bare_kill]
  exact hb y hy
end Slp

/-! DStp: one stretch of a generator's run, to where it sleeps again or ends (own). -/
namespace Slp
open PySem PySem.Spec PyProof.Rows GenW L2
open Sem (wp)
/-- an exception leaves a loop's code -/
abbrev rz (env : Env) (e : Value) : Sem PySem.Fin := (do noteFrame e env; theTreesLotGoes e : Sem Unit).wrap (fun _ => .raise e) .raise id id
/-- from here on it runs to an end z, of which Z holds -/
def Stp (M : Model) (A : Around) (Z : End → Shared → Prop) (c : Code) (t : Sem PySem.Fin) (fs : List Frame) (s : Shared) : Prop :=
  ∀ G q, Ctx.code G = c → Ctx.Woken G A → ∃ z s', Runs M G q t fs s z s' ∧ Z z s'
section
variable {M : Model} {A : Around} {Z : End → Shared → Prop} {c : Code} {fs : List Frame} {s : Shared}
theorem stp_wrap {α : Type} {m : Sem α} {K : α → Sem PySem.Fin} {J : Value → Sem PySem.Fin} {gd : Bool → Bool} {lv : List Value → List Value}
    (h : wpAny M (A.over c fs) m (fun a s' => Stp M A Z c (K a) fs s') (fun x s' => Stp M A Z c (J x) fs s') s) : Stp M A Z c (m.wrap K J gd lv) fs s := by
  intro G q hc hG
  subst hc
  exact runs_wrap_of_wp K J gd lv m (h (G.over fs) q (hG.over fs)) (fun a q' s' y => y G q' rfl hG) (fun x q' s' y => y G q' rfl hG)
theorem stp_bind {α β : Type} {m : Sem α} {K : α → Sem β} {K' : β → Sem PySem.Fin} {J : Value → Sem PySem.Fin} {gd : Bool → Bool} {lv : List Value → List Value}
    (h : wpAny M (A.over c fs) m (fun a s' => Stp M A Z c ((K a).wrap K' J gd lv) fs s') (fun x s' => Stp M A Z c (J x) fs s') s) : Stp M A Z c ((m >>= K).wrap K' J gd lv) fs s := by
  rw [Sem.bind_eq_wrap', Sem.wrap_wrap]
  exact stp_wrap h
theorem stp_at {q' : Pos} {k : Unit → Sem PySem.Fin} (h : Stp M A Z c (k ()) fs s) : Stp M A Z c (.at q' k) fs s :=
  stp_wrap (m := standAt q') (K := k) (J := .raise) (gd := id) (lv := id) (wpAny_standAt h)
theorem stp_point {l : List Value} {k : Unit → Sem PySem.Fin} (h : Stp M A Z c (k ()) fs s) : Stp M A Z c (.point l k) fs s :=
  stp_wrap (m := point) (K := k) (J := .raise) (gd := id) (lv := fun _ => l) (wpAny_point h)
theorem stp_call {c' : Code} {hd : Option Value} {g : Bool} {l : List Value} {k : Result → Sem PySem.Fin} (hc : ∀ q, Stp M A Z c' (M.den c') (.ret k hd g l c q [] :: fs) s) : Stp M A Z c (.call c' hd g l k) fs s := by
  intro G q e hG
  subst e
  obtain ⟨z, s', r, y⟩ := hc q (G.goto c') q rfl (hG.goto c')
  exact ⟨z, s', runs_call_seg r, y⟩
theorem stp_leaf {k : Result → Sem PySem.Fin} {hd : Option Value} {g : Bool} {l kp : List Value} {c₁ : Code} {p₁ : Pos} (r : Result) (hk : Stp M A Z c₁ (k r) fs s) : Stp M A Z c (leafOf r) (.ret k hd g l c₁ p₁ kp :: fs) s := by
  intro G q e hG
  subst e
  obtain ⟨z, s', y, y2⟩ := hk (G.goto c₁) p₁ rfl (hG.goto c₁)
  exact ⟨z, s', Runs.pop r y, y2⟩
theorem stp_again {c' : Code} (hq : c'.quiet = true) (hc : Stp M A Z c' (M.den c') fs s) : Stp M A Z c (.pure (.again c')) fs s := by
  intro G q e hG
  subst e
  obtain ⟨z, s', y, y2⟩ := hc (G.goto c') q rfl (hG.goto c')
  exact ⟨z, s', Runs.head (c₁ := c') (fun _ _ x => .again hq x) y, y2⟩
theorem stp_end (r : Result) (h : Z (.ret r) s) : Stp M A Z c (leafOf r) [] s := by
  intro G q e hG
  subst e
  exact ⟨.ret r, s, Runs.leaf r, h⟩
theorem stp_yield {v : Value} {g : Bool} {l : List Value} {k : Resume → Sem PySem.Fin} (hfs : splitAtGen fs = none) (h : ∀ q, Z (.susp v g l k c q fs) s) : Stp M A Z c (.yield v g l k) fs s := by
  intro G q e hG
  subst e
  exact ⟨_, s, Runs.yield' fs hfs, h q⟩
variable {env : Env} {K : Flow → Sem PySem.Fin} {J : Value → Sem PySem.Fin} {gd : Bool → Bool} {lv : List Value → List Value}
theorem stp_Yield {e : Expr} {yp pos : Pos} (hfs : splitAtGen fs = none) (hgd : gd false = false)
    (h : wpAny M (A.over c fs) (eval e env) (fun v s' => ∀ g k l q, g = false → (∀ A' Z' s'', Stp M A' Z' c (K .next) fs s'' → Stp M A' Z' c (k (.send .none)) fs s'') → Z (.susp v g l k c q fs) s')
      (fun x s' => Stp M A Z c (J x) fs s') s) (hco : env.scope.isCoroutine = false := by rfl) (hi : interactive env = false := by rfl) :
    Stp M A Z c ((exec (.Expr (.Yield (some e) yp) pos) env).wrap K J gd lv) fs s := by
  rw [exec_Expr env _ pos hi rfl]
  show Stp M A Z c (.at pos fun _ => ((eval e env >>= fun v => (standAt yp >>= fun _ => yieldOut env v)) >>= fun x => dropValue (.Yield (some e) yp) pos x).wrap K J gd lv) fs s
  have hy : ∀ v, yieldOut env v = yieldValue v := fun v => by simp only [yieldOut, hco, Bool.false_eq_true, if_false]
  simp only [hy]
  refine stp_at ?_
  rw [Sem.bind_eq_wrap', Sem.bind_eq_wrap', Sem.wrap_wrap, Sem.wrap_wrap]
  refine stp_wrap (wpAny_mono h (fun v s' y => ?_) fun _ _ x => x)
  refine stp_at (stp_yield hfs fun q => ?_)
  exact y _ _ _ q hgd fun A' Z' s'' z => z
theorem stp_For {target iter : Expr} {body orelse : List Stmt} {pos : Pos}
    (h : wpAny M (A.over c fs) (eval iter env) (fun x s₁ => wpAny M (A.over c fs) (pyIter x) (fun it s₂ =>
      ∀ q, Stp M A Z (.forLoop target it body orelse env) (M.den (.forLoop target it body orelse env))
      (.ret (fun r => ((match r with | .ok f => (.pure f : Sem Flow) | .error e => .raise e).onRaise (cameBack env)).wrap K J gd lv) none (gd false) (lv []) c q [] :: fs) s₂)
      (fun x s' => Stp M A Z c (J x) fs s') s₁) (fun x s' => Stp M A Z c (J x) fs s') s)
    (hs : ∀ x, foldedSetIterable iter env x = pure x := by intro _; rfl) :
    Stp M A Z c ((exec (.For target iter body orelse pos) env).wrap K J gd lv) fs s := by
  rw [exec_For]
  refine stp_bind (wpAny_standAt ?_)
  refine stp_bind (wpAny_mono h (fun x s₁ y => ?_) fun _ _ y => y)
  refine stp_bind (wpAny_of_eq (hs x) ?_)
  refine stp_bind (wpAny_standAt ?_)
  refine stp_bind (wpAny_holding (wpAny_mono y (fun it s₂ y2 => ?_) fun _ _ y => y))
  exact stp_call y2
end
section
variable {prog : Program} {w : World} {A : Around} {Z : End → Shared → Prop} {fs : List Frame} {s : Shared} {env : Env}
theorem stp_forLoop {target : Expr} {it : Value} {body : List Stmt}
    (h : wpAny (model prog w) (A.over (.forLoop target it body [] env) fs) (pyNext it) (fun r s₁ => match r with
        | none => Stp (model prog w) A Z (.forLoop target it body [] env) (.pure (.again (.block [] env))) fs s₁
        | some v => wpAny (model prog w) (A.over (.forLoop target it body [] env) fs) (letOwnedTupleGo target it v) (fun _ s₂ =>
            wpAny (model prog w) (A.over (.forLoop target it body [] env) fs) (assign target env v) (fun _ s₃ =>
              Stp (model prog w) A Z (.forLoop target it body [] env) ((execs body env).wrap (fun f => match f with
                | .next | .cont => .pure (.again (.forLoop target it body [] env))
                | .brk => .pure (.done .next)
                | .ret v => .pure (.done (.ret v))) (rz env) id id) fs s₃)
              (fun x s' => Stp (model prog w) A Z (.forLoop target it body [] env) (rz env x) fs s') s₂)
            (fun x s' => Stp (model prog w) A Z (.forLoop target it body [] env) (rz env x) fs s') s₁)
      (fun x s' => Stp (model prog w) A Z (.forLoop target it body [] env) (rz env x) fs s') s) :
    Stp (model prog w) A Z (.forLoop target it body [] env) ((model prog w).den (.forLoop target it body [] env)) fs s := by
  show Stp _ A Z _ ((forTurn target it body [] env).onRaise (fun x => do noteFrame x env; theTreesLotGoes x)) fs s
  unfold forTurn
  rw [Sem.onRaise_eq_wrap]
  have eR : ∀ e, ((do noteFrame e env; theTreesLotGoes e : Sem Unit).bind (fun _ => (.raise e : Sem PySem.Fin))) = rz env e := fun e => Sem.bind_eq_wrap _ _
  refine stp_bind (wpAny_standAt ?_)
  refine stp_bind (wpAny_onRaise (wpAny_mono h (fun r s₁ y => ?_) fun x s' hx => wpAny_standAt (by rw [eR]; exact hx)))
  cases r with
  | none => exact y
  | some v =>
    refine stp_bind (wpAny_mono y (fun _ s₂ y2 => ?_) fun x s' hx => by rw [eR]; exact hx)
    refine stp_bind (wpAny_mono y2 (fun _ s₃ y3 => ?_) fun x s' hx => by rw [eR]; exact hx)
    rw [Sem.bind_eq_wrap', Sem.wrap_wrap]
    rw [Sem.wrap_congr (execs body env) _ _ (K' := fun f => match f with
            | .next | .cont => .pure (.again (.forLoop target it body [] env))
            | .brk => .pure (.done .next)
            | .ret v => .pure (.done (.ret v))) (H' := rz env)
        (fun f => by cases f <;> rfl)
        (fun e => by first | exact eR e | (show _ = _; rw [← eR]; rfl))]
    exact y3
theorem stp_func {body : List Stmt}
    (h : Stp (model prog w) A Z (.func body env) ((execs body env).wrap (fun f => .pure (.done (.ret (match f with | .ret v => v | _ => .none))))
      (fun e => (leaving env e).wrap (fun _ => .raise e) .raise id id) id id) fs s) :
    Stp (model prog w) A Z (.func body env) ((model prog w).den (.func body env)) fs s := by
  show Stp _ A Z _ (.point [] fun _ => ((execs body env).onRaise (leaving env)) >>= _) fs s
  refine stp_point ?_
  rw [Sem.onRaise_eq_wrap, Sem.bind_eq_wrap', Sem.wrap_wrap]
  rw [Sem.wrap_congr (execs body env) _ _ (K' := fun f => .pure (.done (.ret (match f with | .ret v => v | _ => .none))))
    (H' := fun e => (leaving env e).wrap (fun _ => .raise e) .raise id id) (fun f => by cases f <;> rfl)
    (fun e => by
      show (Sem.bind (leaving env e) fun _ => .raise e).wrap _ _ _ _ = _
      rw [Sem.bind_eq_wrap, Sem.wrap_wrap]; rfl)]
  exact h
end
/-! ### woken -/
def Gos (M : Model) (A : Around) (Z : End → Shared → Prop) (gs : GenState) (s : Shared) : Prop :=
  match gs with
  | .fresh c => Stp M A Z c (M.den c) [] s
  | .suspended k _ c _ fs _ => Stp M A Z c (k (.send .none)) fs s
  | _ => False
theorem wpAny_resumeS {M : Model} {A : Around} {Z : End → Shared → Prop} {E : Value → Shared → Prop} {s : Shared} {g : Nat} {gs : GenState} {l : List Value} {α : Type} {k : GenResult → Sem α} {Q : α → Shared → Prop} (hg : s.gens[g]? = some gs)
    (hgo : Gos M A Z gs (s.setGen g .running)) (hZ : ∀ z s₁, Z z s₁ → z.quiet = true ∧ wpAny M A (k z.result) Q E (s₁.setGen g z.genState)) : wpAny M A (.resume g (.send .none) l k) Q E s := by
  intro Γ p hΓ
  rw [Sem.wp_resume]
  have hB : ∀ c, (Γ.wake c p).Woken A := fun c => hΓ.wake c p
  cases gs with
  | fresh c =>
    obtain ⟨z, s₁, hr, hz⟩ := hgo (Γ.wake c p) p rfl (hB c)
    obtain ⟨q1, q2⟩ := hZ z s₁ hz
    exact ⟨_, _, by unfold Wakes; rw [hg]; exact ⟨z, s₁, hr, q1, rfl, rfl⟩, q2 Γ p hΓ⟩
  | suspended k₀ l₀ c₀ p₀ fs₀ cl =>
    obtain ⟨z, s₁, hr, hz⟩ := hgo (Γ.wake c₀ p) p₀ rfl (hB c₀)
    obtain ⟨q1, q2⟩ := hZ z s₁ hz
    exact ⟨_, _, by unfold Wakes; rw [hg]; exact ⟨z, s₁, hr, q1, rfl, rfl⟩, q2 Γ p hΓ⟩
  | running => exact hgo.elim
  | finished => exact hgo.elim
theorem next_gos {P : Program} {w : World} {A : Around} {E : Value → Shared → Prop} {s : Shared} {a : Addr} {g : Nat} {gs : GenState} {Z : End → Shared → Prop} {Q : Option Value → Shared → Prop} (hh : A.handled = none)
    (hl : s.heap.NoLimit) (hroom : A.depth < recursionLimit) (hg : s.heap.IsGen a g) (hgs : s.gens[g]? = some gs) (hgo : Gos (model P w) A.in1 Z gs (s.setGen g .running))
    (hZ : ∀ z s₁, Z z s₁ → (∃ v gd l k c p fs, z = .susp v gd l k c p fs ∧ z.quiet = true ∧ Q (some v) (s₁.setGen g z.genState)) ∨
      (∃ r, z = .ret r ∧ (r = .ok (.ret .none) ∨ r = .ok .next) ∧ ∀ h', (∀ b o, s₁.heap.get? b = some o → h'.get? b = some o) → Q none { s₁.setGen g .finished with heap := h' })) :
    wpAny (model P w) A (pyNext (.ref a)) Q E s := by
  unfold pyNext
  refine wpAny_bind (wpAny_attempt (wpAny_callSpecial?_slot (name := Str.ofString "__next__") hg.typeIs slot_gen_next
    (wpAny_call_entry slot_gen_next hg.typeIs entry_gen_next ?_ (args_gen_next _))))
  show wpAny _ A.in1 (Builtin.Generator.genWake (.ref a) (.send .none)) _ _ s
  unfold Builtin.Generator.genWake
  refine wpAny_bind (wpAny_holding (wpAny_genNumber hg (wpAny_bind (wpAny_genState hgs ?_))))
  cases gs with
  | running => exact hgo.elim
  | finished => exact hgo.elim
  | _ =>
    refine wpAny_bind (wpAny_roomToWake hl hroom ?_)
    show wpAny _ A.in1 (.resume g (.send .none) [] _) _ _ s
    refine wpAny_resumeS hgs hgo fun z s₁ hz => ?_
    rcases hZ z s₁ hz with ⟨v, gd, l, k, c, p, fs, rfl, hq, hQ⟩ | ⟨r, rfl, hr, hQ⟩
    · exact ⟨hq, wpAny_pure ⟨v, rfl, wpAny_pure hQ⟩⟩
    · refine ⟨rfl, ?_⟩
      have hres : End.result (.ret r) = .returned .none := by
        rcases hr with hr | hr <;> rw [hr] <;> rfl
      first | rw [hres] | simp only [hres]
      show wpAny _ A.in1 (newExc (.type "StopIteration") [] >>= _) _ _ _
      refine wpAny_bind ?_
      simp only [newExc, newTuple]
      refine wpAny_bind (wpAny_newObj_type ?_ (by size_fits))
      refine wpAny_bind (m := firstArgMember _ _) (wpAny_of_eq (a := Value.none) (by first | rfl | (simp only [firstArgMember]; rfl)) ?_)
      refine wpAny_newObj_type ?_ (by size_fits)
      simp only [raiseNew]
      refine wpAny_bind (wpAny_bind (wpAny_handled ?_))
      first | rw [show A.in1.handled = none from hh] | rw [hh]
      refine wpAny_throw ?_
      refine wpAny_bind (wpAny_isInstance (T := "StopIteration") (b := true) ⟨_, Heap.get?_push_size _ rfl, rfl⟩ isSubtype_stop ?_)
      exact wpAny_pure (hQ _ fun b o hb => Heap.get?_push_of_some _ (Heap.get?_push_of_some _ hb))
end Slp

/-! DWlk: a generator that a loop walks while the loop's body runs others (own). -/
namespace DL
open PySem PySem.Spec PyProof.Rows L2 GenW Slp
/-! ### the heap as far as n -/
def cutH (n : Nat) (h : Heap) : Heap := ⟨h.objs.extract 0 n, h.life⟩
theorem cut_lt {n : Nat} {h : Heap} {b : Addr} (hb : b < n) : (cutH n h).get? b = h.get? b := by
  have hb : @LT.lt Nat _ b n := hb
  have e : (h.objs.extract 0 n)[b]? = h.objs[b]? := by
    rw [Array.getElem?_extract]
    by_cases z : @LT.lt Nat _ b h.objs.size
    · rw [if_pos (show b < min n h.objs.size - 0 from by rw [Nat.sub_zero]; exact Nat.lt_min.mpr ⟨hb, z⟩), Nat.zero_add]
    · rw [if_neg (fun y => z (Nat.lt_of_lt_of_le (show @LT.lt Nat _ b (min n h.objs.size - 0) from y) (Nat.le_trans (Nat.sub_le _ _) (Nat.min_le_right _ _)))), Array.getElem?_eq_none (Nat.le_of_not_lt z)]
  unfold Heap.get? cutH
  dsimp only
  rw [e]
theorem cut_some {n : Nat} {h : Heap} {b : Addr} {o : Obj} (e : (cutH n h).get? b = some o) : b < n ∧ h.get? b = some o := by
  have hb : b < n := by
    have z : @LT.lt Nat _ b (cutH n h).objs.size := Heap.lt_size e
    have z2 : (cutH n h).objs.size ≤ n := by
      show (h.objs.extract 0 n).size ≤ n
      rw [Array.size_extract]; exact Nat.le_trans (Nat.sub_le _ _) (Nat.min_le_left _ _)
    exact Nat.lt_of_lt_of_le z z2
  exact ⟨hb, by rw [← cut_lt hb]; exact e⟩
theorem cut_sz {n : Nat} {h : Heap} (hn : n ≤ h.objs.size) : (cutH n h).objs.size = n := by
  show (h.objs.extract 0 n).size = n
  rw [Array.size_extract]; omega
theorem frames_cut {h base : Heap} {n : Nat} : ∀ {l : List Env}, (∀ b ∈ frs l, b < n) → h.FunFrames base l → (cutH n h).FunFrames base l
  | [], _, _ => trivial
  | env :: r, hb, x => by
    obtain ⟨hk, ⟨L, o, hf, hn, ho, hd⟩, hr⟩ := x
    have hL : L < n := hb L (by unfold frs; rw [List.filterMap_cons, hf]; exact List.mem_cons_self)
    exact ⟨hk, ⟨L, o, hf, hn, (cut_lt hL).trans ho, hd⟩, frames_cut (fun b z => hb b (by unfold frs; rw [List.filterMap_cons, hf]; exact List.mem_cons_of_mem _ z)) hr⟩
/-! ### the context of a generator that has slept -/
abbrev E0 : XK := fun _ _ _ => False
def wcx (P : Program) (w : World) (K : PySem.W.Frag) (mg : PySem.Str → Option Value) (base : Heap) (N : List PySem.Str) (qual : PySem.Str) (scope : Scope) (f : Addr) (cd : Value) (A : Around) (outer : List Env) (n : Nat) (s : Shared) (H : Hp) : Cx :=
  { gcxOf P w K mg base N qual scope f cd A outer s H E0 [] with
    A := A.deeper (envOfC qual scope n f cd)
    env := envOfC qual scope n f cd
    stack := envOfC qual scope n f cd :: outer
    xe := fun e s' => wpAny (model P w) (A.deeper (envOfC qual scope n f cd)) (leaving (envOfC qual scope n f cd) e) (fun _ s'' => CX P w outer H s E0 e s'' ∧ ∀ p ∈ ([] : List (Addr × Obj)), s''.heap.get? p.1 = some p.2) (fun _ _ => False) s' }
section
variable {P : Program} {w : World} {K : PySem.W.Frag} {mg : PySem.Str → Option Value} {base : Heap} {N : List PySem.Str} {qual : PySem.Str} {scope : Scope} {f : Addr} {cd : Value} {outer : List Env} {n : Nat} {os : OsState}
theorem wcx_eq {A : Around} {s : Shared} {H : Hp} (hn : s.heap.objs.size = n) : gcxOf P w K mg base N qual scope f cd A outer s H E0 [] = wcx P w K mg base N qual scope f cd A outer n s H := by
  subst hn; rfl
theorem wcx_exc {A : Around} {s s' s2 : Shared} {H : Hp} {x : Value} {Z : End → Shared → Prop} {c : Code} {t : Sem PySem.Fin} {fs : List Frame} (ho : A.over c fs = (wcx P w K mg base N qual scope f cd A outer n s H).A)
    (h : (wcx P w K mg base N qual scope f cd A outer n s H).xe x s') : Stp (model P w) A Z c t fs s2 := by
  intro G q hc hG
  subst hc
  have h1 : wpAny (model P w) (A.over G.code fs) (leaving (envOfC qual scope n f cd) x) (fun _ _ => False) (fun _ _ => False) s' := by
    rw [ho]
    refine wpAny_mono h (fun _ s'' z => ?_) fun _ _ z => z
    obtain ⟨⟨_, _, _, _, _, _, _, _, _, _, _, _, z⟩, _⟩ := z
    exact z
  obtain ⟨_, _, _, z⟩ := runs_wrap_of_wp (Φ := fun _ _ => False) (fun _ => .pure (.done .next)) (fun _ => .pure (.done .next)) id id _ (h1 (G.over fs) q (hG.over fs)) (fun _ _ _ z => z.elim) fun _ _ _ z => z.elim
  exact z.elim
/-- what a walked generator finds when it is woken -/
structure Gd (P : Program) (w : World) (K : PySem.W.Frag) (base : Heap) (outer : List Env) (n : Nat) (os : OsState) (F S : Hp) (M : Mem) (H : Hp) (fp : List (Addr × Obj)) (s : Shared) : Prop where
  rep : Rep K F S M H
  hok : HOk P w H s.heap
  bare : AllBare s.gens
  bs : ∀ b o, base.get? b = some o → s.heap.get? b = some o ∧ H b = none
  sz : n ≤ s.heap.objs.size
  funs : s.heap.FunFrames base outer
  frf : ∀ b ∈ frs outer, H b = none
  os : s.os = os
  fp : ∀ q ∈ fp, s.heap.get? q.1 = some q.2 ∧ H q.1 = none
/-- what it leaves behind a turn -/
structure Af (P : Program) (w : World) (K : PySem.W.Frag) (outer : List Env) (n : Nat) (os : OsState) (F S : Hp) (M : Mem) (H : Hp) (s : Shared) (S1 H1 : Hp) (s1 : Shared) : Prop where
  os : s1.os = os
  bare : AllBare s1.gens
  same : Same S S1
  rep : Rep K F S1 M H1
  un : Un (frs outer) [] H H1 (cutH n s.heap) s1.heap
  hok : HOk P w H1 s1.heap
def ZEnd (P : Program) (w : World) (K : PySem.W.Frag) (outer : List Env) (n : Nat) (os : OsState) (F S : Hp) (M : Mem) (H : Hp) (s : Shared) (z : End) (s1 : Shared) : Prop :=
  (∃ r, z = .ret r ∧ (r = .ok (.ret .none) ∨ r = .ok .next)) ∧ ∃ S1 H1, Af P w K outer n os F S M H s S1 H1 s1
/-- qa: the generator's own object -/
def ZItem (P : Program) (w : World) (K : PySem.W.Frag) (outer : List Env) (n : Nat) (os : OsState) (qa : Addr × Obj) (F : Hp) (W : Hp → GenState → List (Addr × Obj) → Prop) (d : D) (S : Hp) (M : Mem) (H : Hp) (s : Shared) (z : End) (s1 : Shared) : Prop :=
  ∃ v gd l k c p fs, z = .susp v gd l k c p fs ∧ z.quiet = true ∧ ∃ S1 H1 x, RelV x v ∧ Is K S1 x d ∧ Af P w K outer n os F S M H s S1 H1 s1 ∧
    ∃ fp', qa ∈ fp' ∧ (∀ q ∈ fp', n ≤ q.1 ∧ (∀ u, q.2.data ≠ .cell u) ∧ s1.heap.get? q.1 = some q.2 ∧ H1 q.1 = none) ∧ W S1 z.genState fp'
/-- a generator that will hand out these -/
def Wk (P : Program) (w : World) (K : PySem.W.Frag) (base : Heap) (outer : List Env) (n : Nat) (os : OsState) (qa : Addr × Obj) (F : Hp) (k : Nat) : List D → Hp → GenState → List (Addr × Obj) → Prop
  | [], Sc, gs, fp => ∀ (A : Around) (S : Hp) (M : Mem) (H : Hp) (s : Shared), Room k A → A.frames = some outer → Gd P w K base outer n os F S M H fp s → Same Sc S → Gos (model P w) A (ZEnd P w K outer n os F S M H s) gs s
  | d :: ds, Sc, gs, fp => ∀ (A : Around) (S : Hp) (M : Mem) (H : Hp) (s : Shared), Room k A → A.frames = some outer → Gd P w K base outer n os F S M H fp s → Same Sc S → Gos (model P w) A (ZItem P w K outer n os qa F (Wk P w K base outer n os qa F k ds) d S M H s) gs s
def Zl (P : Program) (w : World) (K : PySem.W.Frag) (base : Heap) (outer : List Env) (n : Nat) (os : OsState) (qa : Addr × Obj) (F : Hp) (k : Nat) : List D → Hp → Mem → Hp → Shared → End → Shared → Prop
  | [] => ZEnd P w K outer n os F
  | d :: ds => ZItem P w K outer n os qa F (Wk P w K base outer n os qa F k ds) d
theorem wk_iff {qa : Addr × Obj} {F Sc : Hp} {k : Nat} {ds : List D} {gs : GenState} {fp : List (Addr × Obj)} : Wk P w K base outer n os qa F k ds Sc gs fp ↔ ∀ (A : Around) (S : Hp) (M : Mem) (H : Hp) (s : Shared), Room k A → A.frames = some outer → Gd P w K base outer n os F S M H fp s → Same Sc S → Gos (model P w) A (Zl P w K base outer n os qa F k ds S M H s) gs s := by
  cases ds <;> exact Iff.rfl
/-- its frame stands in the new state -/
theorem inv_wake {A1 A2 : Around} {s1c s1 s2 : Shared} {H1c H1 H2 S F : Hp} {M : Mem} {pins1 pins2 fp : List (Addr × Obj)} {σ : L2.St} (J : Inv (wcx P w K mg base N qual scope f cd A1 outer n s1c H1c) pins1 σ H1 s1) (hc : ∀ m, cellsFrom m scope.names [] = [])
    (hA : A2.handled = none) (hf : A2.frames = some outer) (G : Gd P w K base outer n os F S M H2 fp s2) (bsz : base.objs.size ≤ n) (hfr : ∀ b ∈ frs outer, b < n)
    (hL : ∀ o, s1.heap.get? n = some o → (n, o) ∈ fp) (hp : ∀ p ∈ pins2, p ∈ fp ∧ n < p.1 ∧ ∀ v, p.2.data ≠ .cell v) :
    Inv (wcx P w K mg base N qual scope f cd A2 outer n { s2 with heap := cutH n s2.heap } H2) pins2 σ H2 s2 := by
  have nc : ∀ x c, (envOfC qual scope n f cd).cells.lookup x = some c → False := fun x c e => by
    have e' : (cellsFrom (n + 1) scope.names []).lookup x = some c := e
    rw [hc] at e'
    cases e'
  have hLn : H2 n = none := by
    obtain ⟨m, ⟨o, _, _, ho, _⟩, _⟩ := J.loc
    exact (G.fp (n, o) (hL o ho)).2
  have nof : ∀ b, n ≤ b → b ∉ frs outer := fun b hb z => absurd (Nat.lt_of_lt_of_le (hfr b z) hb) (Nat.lt_irrefl _)
  refine ⟨⟨J.ok.mod, J.ok.kind, rfl, rfl, Nat.le_of_eq (cut_sz G.sz), fun x y c h1 h2 => (nc x c h1).elim, J.ok.has, fun y c _ h => (nc y c h).elim, fun _ => hA, Around.frames_deeper hf, .inr ⟨rfl, rfl⟩, fun b z => absurd (show b ∈ ([] : List Addr) from z) (by simp), fun b o e => ?_, ?_, fun b _ _ => (fun z => absurd (show b ∈ ([] : List Addr) from z) (by simp)), fun b z => absurd (show b ∈ ([] : List Addr) from z) (by simp), frames_cut hfr G.funs, G.frf⟩,
    rfl, G.bare, Un.kept fun b u e => (cut_some e).2, ?_, fun y c h => (nc y c h).elim, hLn, fun y c h => (nc y c h).elim, fun p hp' => ?_, G.hok, J.len⟩
  · obtain ⟨q1, q2⟩ := G.bs b o e
    exact ⟨(cut_lt (Nat.lt_of_lt_of_le (Heap.lt_size e) bsz)).trans q1, q2⟩
  · show base.objs.size ≤ (cutH n s2.heap).objs.size
    rw [cut_sz G.sz]; exact bsz
  · obtain ⟨m, ⟨o, es, ep, ho, r⟩, hl⟩ := J.loc
    refine ⟨m, ⟨o, es, ep, (G.fp (n, o) (hL o ho)).1, r⟩, fun i x v e1 e2 e3 => ?_⟩
    obtain ⟨u, r, l⟩ := hl i x v e1 e2 e3
    rcases l with l | ⟨_, c, e, _⟩
    · exact ⟨u, r, .inl l⟩
    · exact (nc x c e).elim
  · obtain ⟨q1, q2, q3⟩ := hp p hp'
    obtain ⟨g1, g2⟩ := G.fp p q1
    exact ⟨g1, g2, Nat.ne_of_gt q2, nof p.1 (Nat.le_of_lt q2), q3⟩
/-- the turns that are left, by what the loop hands out -/
@[reducible] def dWTurns (gt : DTG) (te : DTE) (xs out : List D) (Pv : Nat → DSt → Prop) : Prop := ∀ i d σ M, xs[i]? = some d → Pv i σ → gt d σ M fun σ2 M2 => te σ2 M2 fun x M3 => M3 = M ∧ out[i]? = some x ∧ Pv (i + 1) σ2
/-- a generator def whose body is a loop that yields: it hands out these, whatever stands beside -/
@[reducible] def dWalk (wi : DTI) (gt : DTG) (te : DTE) (out : List D) : DSt → Mem → Prop := fun σ M => wi σ M fun xs C M1 => C = none ∧ M1 = M ∧ xs.length = out.length ∧ ∃ Pv : Nat → DSt → Prop, Pv 0 σ ∧ dWTurns gt te xs out Pv
theorem walk_loop {tg e : Expr} {yp pos2 : Pos} {fs : List Frame} {gt : DTG} {te : DTE} {out xs : List D} {Pv : Nat → DSt → Prop} {J : It} {fpI : List Addr} {it : Addr} {tn : Nat → Heap → Prop} {F S0 : Hp} {k : Nat} {g : Gr} {qa : Addr × Obj}
    (hg : ∀ (A : Around) (s : Shared) (H : Hp), s.heap.objs.size = n → Room k (A.deeper (envOfC qual scope n f cd)) → DG (wcx P w K mg base N qual scope f cd A outer n s H) g tg gt)
    (he : ∀ (A : Around) (s : Shared) (H : Hp), s.heap.objs.size = n → Room k (A.deeper (envOfC qual scope n f cd)) → DE (wcx P w K mg base N qual scope f cd A outer n s H) g e te)
    (hc : ∀ m, cellsFrom m scope.names [] = []) (hco : scope.isCoroutine = false) (hin : interactive (envOfC qual scope n f cd) = false) (bsz : base.objs.size ≤ n) (hfr : ∀ b ∈ frs outer, b < n) (hqa : n < qa.1 ∧ ∀ u, qa.2.data ≠ .cell u) (gF : g.F = F)
    (T : Turn P w K tg J fpI it tn) (iof : IterOf K F S0 none J xs) (hg0 : Same g.S S0) (hlen : xs.length = out.length) (turns : dWTurns gt te xs out Pv)
    (hov : ∀ A : Around, A.over (.forLoop tg (.ref it) [.Expr (.Yield (some e) yp) pos2] [] (envOfC qual scope n f cd)) fs = A.deeper (envOfC qual scope n f cd)) (hsp : splitAtGen fs = none) (hgu : fs.any Frame.guarded = false)
    (hend : ∀ (A : Around) (Z : End → Shared → Prop) (c : Code) (s : Shared), Z (.ret (.ok (.ret .none))) s → Stp (model P w) A Z c (leafOf (.ok .next)) fs s) :
    ∀ (ds : List D) (i : Nat), out.drop i = ds → i ≤ out.length → ∀ (A : Around) (S Sx : Hp) (M : Mem) (Hb H : Hp) (sb s : Shared) (σ : L2.St) (sd : DSt), Room (k + 1) A → A.frames = some outer → sb.os = os → n ≤ sb.heap.objs.size → Same S0 Sx → Same S Sx → Rep K F Sx M H →
      Inv (wcx P w K mg base N qual scope f cd A outer n { sb with heap := cutH n sb.heap } Hb) [qa] σ H s → tn i s.heap → (∀ b ∈ fpI, FpOk (wcx P w K mg base N qual scope f cd A outer n { sb with heap := cutH n sb.heap } Hb) [qa] H b) → IsO K Sx σ sd → Pv i sd →
      Stp (model P w) A (Zl P w K base outer n os qa F (k + 1) ds S M Hb sb) (.forLoop tg (.ref it) [.Expr (.Yield (some e) yp) pos2] [] (envOfC qual scope n f cd)) ((model P w).den (.forLoop tg (.ref it) [.Expr (.Yield (some e) yp) pos2] [] (envOfC qual scope n f cd))) fs s := by
  intro ds
  induction ds with
  | nil =>
    intro i hd hi A S Sx M Hb H sb s σ sd hr hf hos hn e0 e1 r I st hfp il pv
    have hi2 : out.length ≤ i := by
      have q := congrArg List.length hd
      rw [List.length_drop] at q
      simp only [List.length_nil] at q
      omega
    refine stp_forLoop ?_
    rw [hov]
    refine wpAny_mono (T.done _ rfl rfl rfl rfl i [qa] s σ H (fun _ _ => False) I hfp st (iof.stop i Sx M H e0 r trivial (by omega))) (fun rr s4 h4 => ?_) fun _ _ z => z.elim
    obtain ⟨rfl, I4⟩ := h4
    refine stp_again rfl (hend A _ _ s4 ?_)
    exact ⟨⟨_, rfl, .inl rfl⟩, Sx, H, ⟨I4.os.trans hos, I4.bare, e1, r, I4.base, I4.hok⟩⟩
  | cons d ds ih =>
    intro i hd hi A S Sx M Hb H sb s σ sd hr hf hos hn e0 e1 r I st hfp il pv
    have hi2 : i < out.length := by
      have q := congrArg List.length hd
      rw [List.length_drop] at q
      simp only [List.length_cons] at q
      omega
    have hdi : out[i]? = some d := by
      have q : (out.drop i)[0]? = some d := by rw [hd]; rfl
      rw [List.getElem?_drop] at q
      exact q
    have hdr : out.drop (i + 1) = ds := by
      rw [← List.drop_drop (i := 1) (j := i), hd]; rfl
    have hxe : ∀ {x : Value} {s' : Shared} {t : Sem PySem.Fin} {s2 : Shared}, (wcx P w K mg base N qual scope f cd A outer n { sb with heap := cutH n sb.heap } Hb).xe x s' → Stp (model P w) A (Zl P w K base outer n os qa F (k + 1) (d :: ds) S M Hb sb) (.forLoop tg (.ref it) [.Expr (.Yield (some e) yp) pos2] [] (envOfC qual scope n f cd)) t fs s2 := fun h => wcx_exc (hov A) h
    refine stp_forLoop ?_
    rw [hov]
    refine wpAny_mono (T.item _ rfl rfl rfl rfl i [qa] s σ H (fun _ _ => False) I hfp st (iof.go i Sx M H e0 r trivial (by omega))) (fun rr s4 h4 => ?_) fun _ _ z => z.elim
    obtain ⟨u, rfl, h4⟩ := h4
    refine wpAny_mono h4 (fun _ s5 h5 => ?_) fun _ _ z => z.elim
    obtain ⟨x, H5, I5, r5, y5, st5, fr5⟩ := h5
    obtain ⟨S3, d0, e3, r3, hd0, i3⟩ := iof.yld i Sx M H x H5 e0 r trivial (by omega) y5
    have stat : ∀ b ∈ fpI, FpOk (wcx P w K mg base N qual scope f cd A outer n { sb with heap := cutH n sb.heap } Hb) [qa] H5 b := fun b hb => ⟨fr5 b hb, (hfp b hb).2⟩
    have I5' := I5.pinned stat (T.obj _ _ st5)
    have hsz : ({ sb with heap := cutH n sb.heap } : Shared).heap.objs.size = n := cut_sz hn
    have hgX := hg A { sb with heap := cutH n sb.heap } Hb hsz (hr.deeper _)
    have heX := he A { sb with heap := cutH n sb.heap } Hb hsz (hr.deeper _)
    refine wpAny_mono (hgX.run.run _ s5 σ H5 x u (fun σ6 H6 => ∃ S4 sd4 M4, Same S3 S4 ∧ At K g S4 M4 sd4 σ6 H6 ∧ te sd4 M4 fun y M3 => M3 = M ∧ out[i]? = some y ∧ Pv (i + 1) sd4) I5' r5
      ⟨S3, M, sd, d0, _, ⟨(hg0.trans e0).trans e3, by rw [gF]; exact r3, il.mono e3⟩, i3, turns i d0 sd M hd0 pv, fun sd4 M4 σ6 S4 H6 q4 e4 a4 => ⟨S4, sd4, M4, e4, a4, q4⟩⟩) (fun _ s6 h6 => ?_) fun x s' hx => hxe hx
    obtain ⟨σ6, H6, I6, S4, sd4, M4, e4, a4, q4⟩ := h6
    rw [execs_cons_wrap]
    refine stp_Yield hsp rfl ?_ hco hin
    rw [hov]
    refine wpAny_mono (heX.run.run _ s6 σ6 H6 (fun y H7 => ∃ S7, Same S4 S7 ∧ Rep K F S7 M H7 ∧ Is K S7 y d ∧ Pv (i + 1) sd4) I6
      ⟨S4, M4, sd4, _, a4, q4, fun y M7 v S7 H7 q7 e7 r7 i7 => ?_⟩) (fun v s7 h7 => ?_) fun x s' hx => hxe hx
    · obtain ⟨rfl, q7, q8⟩ := q7
      rw [hdi] at q7
      cases q7
      rw [gF] at r7
      exact ⟨S7, e7, r7, i7, q8⟩
    obtain ⟨y, H7, I7, r7, S7, e7, rep7, is7, pv7⟩ := h7
    intro gg kk ll qq hgg cont
    subst hgg
    obtain ⟨m7, ⟨oL, es, ep, hoL, hdL, rL⟩, _⟩ := id I7.loc
    have hoL : s7.heap.get? n = some oL := hoL
    have eS7 : Same Sx S7 := (e3.trans e4).trans e7
    have hpin : ∀ p ∈ pinsAt fpI s5.heap, s7.heap.get? p.1 = some p.2 ∧ H7 p.1 = none ∧ (∀ v, p.2.data ≠ .cell v) := fun p hp => by
      obtain ⟨q1, q2, _, _, q5⟩ := I7.pin p (List.mem_append_right _ (List.mem_append_right _ hp))
      exact ⟨q1, q2, q5⟩
    have hbn : ∀ b ∈ fpI, n < b := fun b hb => by
      obtain ⟨_, q1, _, q3, _⟩ := hfp b hb
      have q1' : b ≠ n := q1
      rcases q3 with z | z
      · exact absurd (show b ∈ ([] : List Addr) from z) (by simp)
      · have z' : (cutH n sb.heap).objs.size ≤ b := z
        rw [cut_sz hn] at z'
        exact Nat.lt_of_le_of_ne z' (Ne.symm q1')
    refine ⟨v, false, ll, kk, _, qq, fs, rfl, by simp [End.quiet, hgu], S7, H7, y, r7, is7, ⟨I7.os.trans hos, I7.bare, e1.trans eS7, rep7, I7.base, I7.hok⟩, (n, oL) :: qa :: pinsAt fpI s5.heap, List.mem_cons_of_mem _ List.mem_cons_self, fun q hq => ?_, ?_⟩
    · rcases List.mem_cons.mp hq with rfl | hq
      · exact ⟨Nat.le_refl _, (fun u z => by rw [show (n, oL).2.data = _ from hdL] at z; cases z), hoL, I7.free⟩
      · rcases List.mem_cons.mp hq with rfl | hq
        · obtain ⟨q1, q2, _, _, _⟩ := I7.pin q (List.mem_append_right _ (List.mem_append_left _ List.mem_cons_self))
          exact ⟨Nat.le_of_lt hqa.1, hqa.2, q1, q2⟩
        · obtain ⟨q1, q2, q3⟩ := hpin q hq
          exact ⟨Nat.le_of_lt (hbn q.1 (of_pinsAt hq).1), q3, q1, q2⟩
    · rw [wk_iff]
      intro A' S' M' H' s'' hr' hf' G' e'
      refine cont A' _ s'' ?_
      refine stp_again rfl ?_
      have I' := inv_wake (A2 := A') (pins2 := [qa]) I7 hc hr'.hd hf' G' bsz hfr (fun o ho => by rw [hoL] at ho; cases ho; exact List.mem_cons_self) (fun p hp => by
        rw [List.mem_singleton.mp hp]
        exact ⟨List.mem_cons_of_mem _ List.mem_cons_self, hqa⟩)
      refine ih (i + 1) hdr hi2 A' S' S' M' H' H' s'' s'' σ6 sd4 hr' hf' G'.os G'.sz ((e0.trans eS7).trans e') (Same.refl _) G'.rep I' (T.keep _ _ _ st5 fun b hb o eo => (G'.fp (b, o) (List.mem_cons_of_mem _ (List.mem_cons_of_mem _ (mem_pinsAt hb eo)))).1) (fun b hb => ?_) (a4.sl.mono (e7.trans e')) pv7
      obtain ⟨o, eo, _⟩ := T.obj _ _ st5 b hb
      have hb2 := hbn b hb
      obtain ⟨_, _, q2, _, _, q6⟩ := hfp b hb
      refine ⟨(G'.fp (b, o) (List.mem_cons_of_mem _ (List.mem_cons_of_mem _ (mem_pinsAt hb eo)))).2, Nat.ne_of_gt hb2, q2, .inr ?_, fun x c ec => ?_, q6⟩
      · show (cutH n s''.heap).objs.size ≤ b
        rw [cut_sz G'.sz]; exact Nat.le_of_lt hb2
      · have ec' : (cellsFrom (n + 1) scope.names []).lookup x = some c := ec
        rw [hc] at ec'
        cases ec'
end
/-! ### the promise of a generator def that is walked -/
/-- a call has made it -/
def WMade (P : Program) (w : World) (K : PySem.W.Frag) (base : Heap) (outer : List Env) (k : Nat) (F S : Hp) (s : Shared) (out : List D) (u : Value) (s' : Shared) : Prop :=
  ∃ (a : Addr) (gn : Nat) (go : Obj) (gs : GenState) (fp : List (Addr × Obj)), u = .ref a ∧ s.heap.objs.size < a ∧ (∀ h : Heap, h.get? a = some go → h.IsGen a gn) ∧ (∀ v, go.data ≠ .cell v) ∧ s'.gens[gn]? = some gs ∧ s'.os = s.os ∧ AllBare s'.gens ∧
    (∀ b o, s.heap.get? b = some o → s'.heap.get? b = some o) ∧ (a, go) ∈ fp ∧ (∀ q ∈ fp, s.heap.objs.size ≤ q.1 ∧ (∀ v, q.2.data ≠ .cell v) ∧ s'.heap.get? q.1 = some q.2) ∧ Wk P w K base outer s.heap.objs.size s.os (a, go) F k out S gs fp
abbrev DSpW := List D → List D → Prop
structure GWFn (P : Program) (w : World) (K : PySem.W.Frag) (mg : PySem.Str → Option Value) (base : Heap) (k : Nat) (f : Addr) (fd : FuncData) (ps : List PySem.Str) (sp : DSpW) : Prop where
  len : ∀ ds out, sp ds out → ds.length = ps.length
  run : ∀ (A : Around) (outer : List Env) (s : Shared) (H : Hp) (args : Args) (us : List Value) (vs : List V), Room k A → Env0 P w K mg base A outer s H → BindsTo s fd args (ps.zip us) → Vals vs us → ∀ (F S : Hp) (M : Mem) (ds out : List D), Rep K F S M H → IsL K S vs ds → sp ds out →
    codeAny (model P w) A (.call (.ref f) args) (fun r s' => match r with | .ok (.ret u) => WMade P w K base outer k F S s out u s' | _ => False) s
section
variable {P : Program} {w : World} {K : PySem.W.Frag} {mg : PySem.Str → Option Value} {base : Heap} {x qual : PySem.Str} {params : Arguments} {scope : Scope} {dvs : List V} {kws : List (PySem.Str × V)} {f : Addr} {fd : FuncData} {N ps : List PySem.Str} {k : Nat} {sp : DSpW}
theorem gwfn_of {tg iter e : Expr} {yp pos1 pos2 : Pos} {wi : DTI} {gt : DTG} {te : DTE} (Fd : FunD K x qual params [.For tg iter [.Expr (.Yield (some e) yp) pos2] [] pos1] scope dvs kws f fd) (Sg : GScope N ps scope) (hc : ∀ m, cellsFrom m scope.names [] = []) (len : ∀ ds out, sp ds out → ds.length = ps.length)
    (hbody : ∀ (cdv : Value) (A : Around) (outer : List Env) (s : Shared) (H : Hp) (E : XK) (pn : List (Addr × Obj)) (g : Gr), Room k (A.deeper (envOfC qual scope s.heap.objs.size f cdv)) →
      DI (gcxOf P w K mg base N qual scope f cdv A outer s H E pn) g tg iter wi ∧ DG (gcxOf P w K mg base N qual scope f cdv A outer s H E pn) g tg gt ∧ DE (gcxOf P w K mg base N qual scope f cdv A outer s H E pn) g e te)
    (hs : ∀ (env : Env) (x : Value), foldedSetIterable iter env x = pure x)
    (hread : ∀ ds out, sp ds out → ∀ M, dWalk wi gt te out (dstart N.length ds) M) : GWFn P w K mg base (k + 1) f fd ps sp := by
  refine ⟨len, fun A outer s H args us vs hr e0 hb rv F' S M ds out rep il hsp => ?_⟩
  obtain ⟨oc, od, dV, kV, doc, pm, an, cdv, ct, osl, rfl, lk, hcd, _, _⟩ := Fd.ex
  have hl : vs.length = ps.length := il.length.trans (len _ _ hsp)
  have KX : K.In s.heap := e0.mod.kin.keeps fun b o e => (e0.bs b o e).1
  have lim : s.heap.NoLimit := e0.mod.nolimit.keeps fun b o e => (e0.bs b o e).1
  have hkind : ∀ y ∈ ps.zip us, scope.names.lookup y.1 = some .local ∨ (scope.names.lookup y.1 = some .cell ∧ ((cellsFrom (s.heap.objs.size + 1) scope.names []).lookup y.1).isSome = true) := fun ⟨n, v⟩ hy => by
    rcases Sg.par n (List.of_mem_zip hy).1 with q | q
    · exact .inl q
    · exact .inr ⟨q, PySem.W.cellsFrom_some _ _ _ (.inl q)⟩
  refine codeAny_call_generator hr.depth (KX _ _ lk) rfl Sg.co Sg.gen rfl (PySem.W.codeRec_of KX hcd) (hb _ _ _ _ ?_)
  refine wpAny_newFunctionEnv_cells Sg.kind hkind fun env he s1 x => ?_
  subst he
  refine ⟨lim.keeps x.toInCall.keep, ?_⟩
  obtain ⟨h1, tk, es1, hk1⟩ := x.done
  have os1 : s1.os = s.os := by rw [es1]
  have gen1 : s1.gens = s.gens := by rw [es1]
  have lt1 : s.heap.objs.size < s1.heap.objs.size := x.toInCall.ns.lt
  have kp1 : ∀ b o, s.heap.get? b = some o → s1.heap.get? b = some o := x.toInCall.keep
  have hfr : ∀ b ∈ frs outer, b < s.heap.objs.size := fun b hb => by
    obtain ⟨_, o, ho, _⟩ := e0.funs.mem hb
    exact Heap.lt_size ho
  obtain ⟨oL, es, ep, hoL, hdL, _⟩ := id x.toInCall.ns
  have hoL : s1.heap.get? s.heap.objs.size = some oL := hoL
  have main : ∀ (go : Obj) (nm qn : Value) (tk2 : Nat), go.cls = .type "generator" → go.data = .fields #[.int s1.gens.size 0, nm, qn] → go.slots = #[] → (∀ h : Heap, (h.push go).get? h.objs.size = some go) →
      WMade P w K base outer (k + 1) F' S s out (.ref s1.heap.objs.size) { s1 with gens := s1.gens.push (.fresh (.func [.For tg iter [.Expr (.Yield (some e) yp) pos2] [] pos1] (envOfC qual scope s.heap.objs.size f cdv))), toks := tk2, heap := s1.heap.push go } := by
    intro go nm qn tk2 hgc hgd0 hgs hgp
    have hgd : ∀ v, go.data ≠ .cell v := fun v q => by rw [hgd0] at q; cases q
    have hld : ∀ v, oL.data ≠ .cell v := fun v q => by rw [hdL] at q; cases q
    refine ⟨s1.heap.objs.size, s1.gens.size, go, _, [(s.heap.objs.size, oL), (s1.heap.objs.size, go)], rfl, lt1, fun h e => ⟨go, nm, qn, e, hgc, hgd0, hgs⟩, hgd, Array.getElem?_push_size .., os1, AllBare.push (by rw [gen1]; exact e0.bare) rfl,
      fun b o e => Heap.get?_push_of_some _ (kp1 b o e), List.mem_cons_of_mem _ List.mem_cons_self, fun q hq => ?_, ?_⟩
    · rcases List.mem_cons.mp hq with rfl | hq
      · exact ⟨Nat.le_refl _, hld, Heap.get?_push_of_some _ hoL⟩
      · rw [List.mem_singleton.mp hq]
        exact ⟨Nat.le_of_lt lt1, hgd, hgp _⟩
    · rw [wk_iff]
      intro A' S' M' H' s2 hr' hf' G' e'
      have I1 : Inv (wcx P w K mg base N qual scope f cdv A' outer s.heap.objs.size s H) [] (start N vs) H s1 :=
        inv_startG (E := E0) Sg hr'.hd ⟨hf', e0.mod, e0.bs, e0.bsz, e0.funs, e0.frf, e0.hok, e0.bare⟩ hl rv x
      have I2 := inv_wake (A2 := A') (pins2 := [(s1.heap.objs.size, go)]) I1 hc hr'.hd hf' G' e0.bsz hfr (fun o ho => by rw [hoL] at ho; cases ho; exact List.mem_cons_self) (fun p hp => by
        rw [List.mem_singleton.mp hp]
        exact ⟨List.mem_cons_of_mem _ List.mem_cons_self, lt1, hgd⟩)
      have hsz : ({ s2 with heap := cutH s.heap.objs.size s2.heap } : Shared).heap.objs.size = s.heap.objs.size := cut_sz G'.sz
      have hb1 : ∀ (A : Around) (s' : Shared) (H : Hp), s'.heap.objs.size = s.heap.objs.size → Room k (A.deeper (envOfC qual scope s.heap.objs.size f cdv)) →
          DI (wcx P w K mg base N qual scope f cdv A outer s.heap.objs.size s' H) ⟨F', S⟩ tg iter wi ∧ DG (wcx P w K mg base N qual scope f cdv A outer s.heap.objs.size s' H) ⟨F', S⟩ tg gt ∧ DE (wcx P w K mg base N qual scope f cdv A outer s.heap.objs.size s' H) ⟨F', S⟩ e te := fun A s' H hs' hr => by
        rw [← wcx_eq hs']
        exact hbody cdv A outer s' H E0 [] ⟨F', S⟩ (by rw [hs']; exact hr)
      have hiX := (hb1 A' { s2 with heap := cutH s.heap.objs.size s2.heap } H' hsz (hr'.deeper _)).1
      show Stp (model P w) A' _ (.func _ _) ((model P w).den (.func _ _)) [] s2
      refine stp_func ?_
      rw [execs_cons_wrap]
      refine stp_For ?_ (hs _)
      rw [over_func]
      refine wpAny_mono (hiX.run.run _ s2 (start N vs) H' (fun J H4 => ∃ S0 xs, ∃ Pv : Nat → DSt → Prop, Same S' S0 ∧ Rep K F' S0 M' H4 ∧ IterOf K F' S0 none J xs ∧ xs.length = out.length ∧ Pv 0 (dstart N.length ds) ∧ dWTurns gt te xs out Pv) I2
        ⟨S', M', dstart N.length ds, _, ⟨e', G'.rep, (isO_start il).mono e'⟩, hread ds out hsp M', fun xs C M1 S1 H1 J q e1 r1 itf => ?_⟩) (fun v s3 h3 => ?_) fun x s' hx => wcx_exc over_func hx
      · obtain ⟨rfl, rfl, q1, Pv, q2, q3⟩ := q
        exact ⟨S1, xs, Pv, e1, r1, itf F' fun _ _ z => z, q1, q2, q3⟩
      refine wpAny_mono h3 (fun itv s4 h4 => ?_) fun x s' hx => wcx_exc over_func hx
      obtain ⟨it, fpI, tn, J, H4, rfl, I4, T, st4, f4, S0, xs, Pv, e4, rep4, iof, hlen, pv0, turns⟩ := h4
      intro q
      refine walk_loop (g := ⟨F', S⟩) (gt := gt) (te := te) (xs := xs) (out := out) (Pv := Pv) (J := J) (fpI := fpI) (tn := tn) (S0 := S0) (fun A s' H h1 h2 => (hb1 A s' H h1 h2).2.1) (fun A s' H h1 h2 => (hb1 A s' H h1 h2).2.2) hc Sg.co (by unfold interactive; rw [show (envOfC qual scope s.heap.objs.size f cdv).scope.kind = .function from Sg.kind]; rfl) e0.bsz hfr ⟨lt1, hgd⟩ rfl T iof (e'.trans e4) hlen turns
        (fun A => (over_loop rfl rfl).trans over_func) rfl rfl (fun A Z c s hz => ?_) out 0 (by simp) (Nat.zero_le _) A' S' S0 M' H' H4 s2 s4 (start N vs) (dstart N.length ds) hr' hf' G'.os G'.sz (Same.refl _) e4 rep4 I4 st4 f4 ((isO_start il).mono (e'.trans e4)) pv0
      exact stp_leaf (.ok .next) (stp_end (.ok (.ret .none)) hz)
  exact main _ _ _ _ rfl rfl rfl fun h => Heap.get?_push_size _ rfl
end
/-- by position, the rest by default -/
def GWRun (P : Program) (w : World) (K : PySem.W.Frag) (mg : PySem.Str → Option Value) (base : Heap) (k : Nat) (f : Addr) (n : Nat) (sp : DSpW) : Prop :=
  ∀ (A : Around) (outer : List Env) (s : Shared) (H : Hp) (us : List Value) (vs : List V), Room k A → Env0 P w K mg base A outer s H → us.length = n → Vals vs us → ∀ (F S : Hp) (M : Mem) (ds out : List D), Rep K F S M H → IsL K S vs ds → sp ds out →
    codeAny (model P w) A (.call (.ref f) ⟨us, []⟩) (fun r s' => match r with | .ok (.ret u) => WMade P w K base outer k F S s out u s' | _ => False) s
structure DMetWk (P : Program) (w : World) (K : PySem.W.Frag) (mg : PySem.Str → Option Value) (base : Heap) (k : Nat) (C : Addr) (m : PySem.Str) (n : Nat) (sp : DSpW) : Prop where
  ex : ∃ f, Meth K C m f ∧ GWRun P w K mg base k f (n + 1) sp
@[reducible] def wPos (sp : DSpW) (dd : List D) : DSpW := fun xs out => sp (xs ++ dd) out
theorem gwrun_pos {P : Program} {w : World} {K : PySem.W.Frag} {mg : PySem.Str → Option Value} {base : Heap} {k n : Nat} {f : Addr} {fd : FuncData} {ps : List PySem.Str} {sp : DSpW} {ds : List Value} {dvs : List V} {dd : List D} (F : GWFn P w K mg base k f fd ps sp)
    (hb : Binds K fd ps ds) (hd : Vals dvs ds) (hi : ∀ S, IsL K S dvs dd) : GWRun P w K mg base k f n (wPos sp dd) := by
  intro A outer s H us vs hr e0 hl r F' S M xs out rep il h
  have r2 : Vals (vs ++ dvs) (us ++ ds) := r.append hd
  have il2 : IsL K S (vs ++ dvs) (xs ++ dd) := il.app (hi S)
  have hl3 : (us ++ ds).length = ps.length := by rw [← r2.length, il2.length]; exact F.len _ _ h
  exact F.run A outer s H ⟨us, []⟩ (us ++ ds) (vs ++ dvs) hr e0 (hb s us (e0.mod.kin.keeps fun b o e => (e0.bs b o e).1) hl3) r2 F' S M (xs ++ dd) out rep il2 h
/-! ### the loop that walks it -/
section
variable {X : Cx} {pins : List (Addr × Obj)} {σ : L2.St} {H : Hp} {s : Shared}
theorem inv_gens {G : Array GenState} (I : Inv X pins σ H { s with gens := G }) (hb : AllBare s.gens) : Inv X pins σ H s :=
  ⟨I.ok, I.os, hb, I.base, I.loc, I.cell, I.free, I.freeC, I.pin, I.hok, I.len⟩
theorem inv_dead (I : Inv X pins σ H s) : Inv X pins σ H (dead s) :=
  ⟨I.ok, I.os, dead_bare I.bare, I.base, I.loc, I.cell, I.free, I.freeC, I.pin, I.hok, I.len⟩
/-- all that the loop's frame knows is older than the generator -/
structure Old (X : Cx) (pins : List (Addr × Obj)) (n : Nat) : Prop where
  s0 : X.s_0.heap.objs.size ≤ n
  loc : X.env.locals < n
  cell : ∀ x c, X.env.cells.lookup x = some c → c < n
  pin : ∀ p ∈ X.pn ++ pins, p.1 < n
  fs : ∀ b ∈ X.fs, b < n
theorem inv_old (I : Inv X pins σ H s) : Old X pins s.heap.objs.size :=
  ⟨I.sz, I.lt, fun x c e => let ⟨_, o, ho, _⟩ := I.cell x c e; Heap.lt_size ho, fun p hp => Heap.lt_size (I.pin p hp).1, fun b hb => by
    obtain ⟨_, o, ho, _⟩ := I.ok.funs.mem hb
    exact Nat.lt_of_lt_of_le (Heap.lt_size ho) I.sz⟩
/-- behind a generator's turn -/
theorem inv_walked {n : Nat} {H1 : Hp} {h1 : Heap} {g1 : Array GenState} {d1 : PySem.Drawn} {t1 : Nat} (I : Inv X pins σ H s) (o : Old X pins n) (u : Un (frs X.stack) [] H H1 (cutH n s.heap) h1) (hok : HOk X.prog X.w H1 h1) (hg : AllBare g1) :
    Inv X pins σ H1 { s with heap := h1, gens := g1, drawn := d1, toks := t1 } := by
  obtain ⟨m, ⟨oL, es, ep, hoL, r⟩, _⟩ := id I.loc
  obtain ⟨sl, hL⟩ := u.any ((cut_lt o.loc).trans hoL) I.free (by simp)
  have lt : ∀ b ob, b ∉ (List.range s.heap.objs.size).filter (fun b => decide (n ≤ b)) → s.heap.get? b = some ob → b < n := fun b ob hb e => by
    refine Nat.lt_of_not_le fun z => hb (List.mem_filter.mpr ⟨List.mem_range.mpr (Heap.lt_size e), decide_eq_true z⟩)
  refine I.step (ch := (List.range s.heap.objs.size).filter fun b => decide (n ≤ b)) (fun b hb => ?_) (fun b ob hbL hbf hc e hn => u.keep b ob ((cut_lt (lt b ob hc e)).trans e) hn (fun z => (List.mem_cons.mp (I.stkSub b z)).elim hbL hbf) (by simp))
    (fun b ob _ _ hc e hn => u.any ((cut_lt (lt b ob hc e)).trans e) hn (by simp)) (fun b ob hc e hn => u.free b ob ((cut_lt (lt b ob hc e)).trans e) hn (by simp)) (fun b ob hc e => u.there b ob ((cut_lt (lt b ob hc e)).trans e) (by simp)) u.tups u.frzs u.tbls (fun m' hm => ?_) hok hg
  · have hn : n ≤ b := of_decide_eq_true (List.mem_filter.mp hb).2
    exact ⟨.inr (Nat.le_trans o.s0 hn), Nat.ne_of_gt (Nat.lt_of_lt_of_le o.loc hn), fun x c e z => by
      have q := o.cell x c e
      rw [z] at q
      exact absurd (Nat.lt_of_lt_of_le q hn) (Nat.lt_irrefl _), fun p hp z => by
      have q := o.pin p hp
      rw [z] at q
      exact absurd (Nat.lt_of_lt_of_le q hn) (Nat.lt_irrefl _)⟩
  · obtain ⟨o', es', ep', ho', r'⟩ := hm
    rw [hoL] at ho'; cases ho'
    exact ⟨_, es', ep', hL, r'⟩
end
/-- `for x in o.m(): ..`, where o.m is a generator that hands out the same whatever the loop does -/
@[reducible] def dForW [Cl] (n : PySem.Str) (sp : DSpW) (to : DTE) (gt : DTG) (tb : DTS) : DTS := fun D σ M => to σ M fun x M1 => InsOf x M1 (cA n) ∧ ∃ out, sp [x] out ∧ ∃ Pv : Nat → DSt → Mem → Prop, dTurns gt tb D out σ M1 Pv
section
variable {X : Cx} {g : Gr} {k j : Nat} {m : PySem.Str} {sp : DSpW} {o : Expr} {pos cpos apos : Pos} {to : DTE} [Cl] {n : PySem.Str}
theorem ds_forW {tg : Expr} {body : List Stmt} {gt : DTG} {tb : DTS} {pl : Sem Bool} (hxe : ∀ e s, X.xe e s → False) (hcm : X.calm = true) (c : SlX.SCls X.K (cA n)) (d : DMetWk X.prog X.w X.K X.mg X.base k (cA n) m 0 sp) (hr : Room j X.A) (hk : k + 1 ≤ j) (ho : DE X g o to) (hg : DG X g tg gt) (hb : DSs X g body tb)
    (ht : eval (.Call (.Attribute o m apos) [] [] cpos) X.env = (do
      let ov ← eval o X.env
      standAt apos.atName
      let (f, first) ← holding [ov] (getMethod ov m pl)
      callWith cpos f first (backTo cpos (starEach [] X.env)) (backToKw cpos (keywordEach [] X.env))) := by rfl)
    (hs : ∀ x, foldedSetIterable (.Call (.Attribute o m apos) [] [] cpos) X.env x = pure x := by intro _; rfl) : DS X g (.For tg (.Call (.Attribute o m apos) [] [] cpos) body [] pos) (dForW n sp to gt tb) := by
  replace hr := hr.mono hk
  obtain ⟨f, hm, Fr⟩ := d.ex
  refine ⟨⟨fun pins s σ H D' I h => ?_⟩⟩
  obtain ⟨S, M, sd, DD, a0, q, kk⟩ := h
  have nox : ∀ {Y : Value → Shared → Prop} {x : Value} {s' : Shared}, X.xe x s' → Y x s' := fun h => (hxe _ _ h).elim
  refine wpAny_For (thn (Q := fun u s' => ∃ sc H1 S1 M1 out, Inv X pins σ H1 sc ∧ At X.K g S1 M1 sd σ H1 ∧ Same S S1 ∧ (∃ Pv : Nat → DSt → Mem → Prop, dTurns gt tb DD out sd M1 Pv) ∧ WMade X.prog X.w X.K X.base X.stack k g.F S1 sc out u s') ?_ fun v s1 h1 => ?_) hs
  · refine PySem.W.methodCall_KW (pl := pl) (thn (ho.run.run pins s σ H (fun v H1 => ∃ S1 M1 x, Same S S1 ∧ Rep X.K g.F S1 M1 H1 ∧ Is X.K S1 v x ∧ InsOf x M1 (cA n) ∧ ∃ out, sp [x] out ∧ ∃ Pv : Nat → DSt → Mem → Prop, dTurns gt tb DD out sd M1 Pv) I
      ⟨S, M, sd, _, a0, q, fun x M1 v S1 H1 q1 e1 r1 i1 => ⟨S1, M1, x, e1, r1, i1, q1⟩⟩) fun u s1 ⟨v, H1, I1, rv, S1, M1, x, e1, r1, i1, hi, out, hsp, Pv, tn⟩ => ?_) ht
    obtain ⟨b, dx, vs, rfl, hsl⟩ := hi.at r1 i1
    obtain rfl : u = Value.ref b := rv
    refine SlX.getmethsl_ok I1 hsl c hm ?_
    refine PySem.W.callWith_K0 (first := [.ref b]) I1.kIn hm.kp (wpAny_call (codeAny_mono (Fr X.A X.stack s1 H1 [.ref b] [.ref b] (hr.mono (by omega)) I1.env0 rfl (.cons rfl .nil) g.F S1 M1 [x] out r1 (.cons i1 .nil) hsp) fun r s' hq => ?_))
    cases r with
    | error e => exact False.elim hq
    | ok fl =>
      cases fl with
      | ret u => exact ⟨s1, H1, S1, M1, out, I1, a0.step e1 r1, e1, ⟨Pv, tn⟩, hq⟩
      | next => exact False.elim hq
      | brk => exact False.elim hq
      | cont => exact False.elim hq
  obtain ⟨sc, H1, S1, M1, out, I1, a1, e1, ⟨Pv, p0, step, done⟩, a, gn, go, gs, fp, rfl, han, hgo, hgd, hgs, hos, hbare, hkp, hafp, hfp, wk⟩ := h1
  have old : Old X pins sc.heap.objs.size := inv_old I1
  have hgen : ∀ h : Heap, h.get? a = some go → h.IsGen a gn := hgo
  refine wpAny_pyIter_gen (hgo _ (hfp (a, go) hafp).2.2) ?_
  have Iv0 : Inv X pins σ H1 s1 := by
    obtain ⟨hh, gg, dd, tt, oo⟩ := s1
    have eo : oo = sc.os := hos
    subst eo
    exact (I1.step (h' := hh) (g' := gg) (t' := tt) (d' := dd) (ch := []) (fun _ z => nomatch z) (fun b ob _ _ _ e _ => hkp b ob e) (fun b ob _ _ _ e _ => ⟨ob.slots, hkp b ob e⟩) (fun _ _ _ _ z => z) (fun b ob _ e => ⟨ob, hkp b ob e⟩) (fun _ _ z => z) (fun _ _ _ z => z) (fun b ps z => ⟨#[], by rw [z]; simp⟩) (fun m hm => by
      obtain ⟨ob, es, ep, ho, r⟩ := hm
      exact ⟨ob, es, ep, hkp _ ob ho, r⟩) (I1.hok.kept hkp) hbare)
  have fresh : ∀ q ∈ fp, H1 q.1 = none := fun q hq => I1.hok.fresh (hfp q hq).1
  refine codeAny_forLoop_any (fun mm s' => ∃ i σ' S' M' sd' H' gs' fp' Sw, mm = out.length - i ∧ i ≤ out.length ∧ Inv X pins σ' H' s' ∧ At X.K g S' M' sd' σ' H' ∧ Same S1 S' ∧ Pv i sd' M' ∧ s'.gens[gn]? = some gs' ∧ (a, go) ∈ fp' ∧
    (∀ q ∈ fp', sc.heap.objs.size ≤ q.1 ∧ (∀ v, q.2.data ≠ .cell v) ∧ s'.heap.get? q.1 = some q.2 ∧ H' q.1 = none) ∧ Wk X.prog X.w X.K X.base X.stack sc.heap.objs.size sc.os (a, go) g.F k (out.drop i) Sw gs' fp' ∧ Same Sw S') ?_ out.length
    ⟨0, σ, S1, M1, sd, H1, gs, fp, S1, rfl, Nat.zero_le _, Iv0, a1, Same.refl _, p0, hgs, hafp, fun q hq => ⟨(hfp q hq).1, (hfp q hq).2.1, (hfp q hq).2.2, fresh q hq⟩, wk, Same.refl _⟩
  rintro mm s3 ⟨i, σ3, S3, M3, sd3, H3, gs3, fp3, Sw, rfl, hi, I3, a3, e3, p3, hg3, ha3, hf3, wk3, ew3⟩
  have hn3 : sc.heap.objs.size ≤ s3.heap.objs.size := by
    have z : a < s3.heap.objs.size := Heap.lt_size (hf3 (a, go) ha3).2.2.1
    exact Nat.le_of_lt (Nat.lt_of_le_of_lt (Nat.le_of_lt han) z)
  have G3 : Gd X.prog X.w X.K X.base X.stack sc.heap.objs.size sc.os g.F S3 M3 H3 fp3 (s3.setGen gn .running) :=
    ⟨a3.rep, I3.hok, allBare_setGen I3.bare rfl, I3.bs, hn3, I3.stack, I3.stkFree, I3.os.trans I1.os.symm, fun q hq => ⟨(hf3 q hq).2.2.1, (hf3 q hq).2.2.2⟩⟩
  have gos := (wk_iff.mp wk3) X.A.in1 S3 M3 H3 (s3.setGen gn .running) hr.in1 I3.ok.frames G3 ew3
  refine wpAny_gsz (n := gn + 1) (lt_of_some hg3) ?_
  by_cases hlt : i < out.length
  · obtain ⟨d, hd⟩ : ∃ d, out[i]? = some d := ⟨out[i], List.getElem?_eq_getElem hlt⟩
    have hdr : out.drop i = d :: out.drop (i + 1) := by
      rw [List.drop_eq_getElem_cons hlt]
      rw [List.getElem?_eq_getElem hlt] at hd
      cases hd
      rfl
    rw [hdr] at gos
    refine next_gos hr.hd I3.nolimit hr.depth (hgo _ (hf3 (a, go) ha3).2.2.1) hg3 gos fun z s4 hz => .inl ?_
    obtain ⟨v, gd, l, kc, c, p, fs, ez, hq, S4, H4, x, rx, ix, af, fp4, ha4, hf4, wk4⟩ := hz
    refine ⟨v, gd, l, kc, c, p, fs, ez, hq, fun hsz => ?_⟩
    have hsl : sleeps z.genState = true := by rw [ez]; rfl
    have hg5 : (s4.setGen gn z.genState).gens[gn]? = some z.genState := setGen_at (by
      have q : (s4.setGen gn z.genState).gens.size = s4.gens.size := setGen_size _ _ _
      rw [q] at hsz
      exact hsz)
    have I5 : Inv X pins σ3 H4 (s4.setGen gn z.genState) := by
      have h1 := af.un
      have h2 := af.hok
      have h3 := allBare_setGen (g := gn) af.bare (End.bare_of_quiet hq)
      have h4 : s4.os = s3.os := af.os.trans (I1.os.trans I3.os.symm)
      obtain ⟨hh, gg, dd, tt, oo⟩ := s4
      have eo : oo = s3.os := h4
      subst eo
      exact inv_walked (s := s3) I3 old h1 h2 h3
    have Ip : Inv X (pins ++ fp4) σ3 H4 (s4.setGen gn z.genState) := I5.pins_of fun p hp => (List.mem_append.mp hp).elim (fun y => I5.pin p (List.mem_append_right _ y)) fun y => by
      obtain ⟨q1, q2, q3, q4⟩ := hf4 p y
      exact ⟨q3, q4, Nat.ne_of_gt (Nat.lt_of_lt_of_le old.loc q1), fun y2 => absurd (Nat.lt_of_lt_of_le (old.fs p.1 y2) q1) (Nat.lt_irrefl _), q2⟩
    obtain ⟨og, nm, qn, hog, hcg, hdg, _⟩ := hgo _ (hf4 (a, go) ha4).2.2.1
    refine go_of (s := s4.setGen gn z.genState) hog hcg hdg (by decide) ?_
    refine wpAny_mono (wpAny_asleep (hg.run.run (pins ++ fp4) (dead (s4.setGen gn z.genState)) σ3 H4 x v (fun σ6 H6 => ∃ S6 sd6 M6, Same S4 S6 ∧ At X.K g S6 M6 sd6 σ6 H6 ∧ tb { DD with nx := Pv (i + 1), ct := Pv (i + 1), bk := DD.nx } sd6 M6) (inv_dead Ip) rx
      ⟨S4, M3, sd3, d, _, a3.step af.same af.rep, ix, step i d sd3 M3 hd p3, fun sd6 M6 σ6 S6 H6 q6 e6 a6 => ⟨S6, sd6, M6, e6, a6, q6⟩⟩)) (fun _ s6 h6 => ?_) fun x s' hx => by obtain ⟨_, _, hx⟩ := hx; exact (hxe _ _ hx).elim
    obtain ⟨G6, sim6, σ6, H6, I6, S6, sd6, M6, e6, a6, q6⟩ := h6
    have I6 : Inv X (pins ++ fp4) σ6 H6 s6 := inv_gens I6 (sim6.bare I6.bare)
    have hg6 : s6.gens[gn]? = some z.genState := (sim6.old gn _ (slp_at hg5 hsl)).2.2
    have es4 : Same S S4 := (e1.trans e3).trans af.same
    refine wpAny_mono (wpAny_asleep (hb.run.run (pins ++ fp4) (dead s6) σ6 H6 { D' with nx := fun σ H => ∃ S' M' sd', Same S4 S' ∧ At X.K g S' M' sd' σ H ∧ Pv (i + 1) sd' M', ct := fun σ H => ∃ S' M' sd', Same S4 S' ∧ At X.K g S' M' sd' σ H ∧ Pv (i + 1) sd' M', bk := D'.nx } (inv_dead I6)
      ⟨S6, M6, sd6, _, a6, q6, ⟨fun sd' M' σ' S' H' q' e' a' => ⟨S', M', sd', e6.trans e', a', q'⟩, fun d M' v S' H' q' e' r' i' => kk.rt _ _ _ _ _ q' ((es4.trans e6).trans e') r' i', fun sd' M' σ' S' H' q' e' a' => kk.nx _ _ _ _ _ q' ((es4.trans e6).trans e') a', fun sd' M' σ' S' H' q' e' a' => ⟨S', M', sd', e6.trans e', a', q'⟩⟩⟩)) (fun f s7 h7 => ?_) fun x s' hx => by obtain ⟨_, _, hx⟩ := hx; exact (hxe _ _ hx).elim
    obtain ⟨G7, sim7, q7⟩ := h7
    have hg7 : s7.gens[gn]? = some z.genState := (sim7.old gn _ (slp_at hg6 hsl)).2.2
    have un : ∀ {σ7 : L2.St} {H7 : Hp}, Inv X (pins ++ fp4) σ7 H7 { s7 with gens := G7 } → Inv X (pins ++ fp4) σ7 H7 s7 := fun I7 => inv_gens I7 (sim7.bare I7.bare)
    have again : ∀ {σ7 : L2.St} {H7 : Hp}, Inv X (pins ++ fp4) σ7 H7 { s7 with gens := G7 } → (∃ S' M' sd', Same S4 S' ∧ At X.K g S' M' sd' σ7 H7 ∧ Pv (i + 1) sd' M') → ∃ m, m < out.length - i ∧ ∃ i σ' S' M' sd' H' gs' fp' Sw, m = out.length - i ∧ i ≤ out.length ∧ Inv X pins σ' H' s7 ∧ At X.K g S' M' sd' σ' H' ∧ Same S1 S' ∧ Pv i sd' M' ∧ s7.gens[gn]? = some gs' ∧ (a, go) ∈ fp' ∧
        (∀ q ∈ fp', sc.heap.objs.size ≤ q.1 ∧ (∀ v, q.2.data ≠ .cell v) ∧ s7.heap.get? q.1 = some q.2 ∧ H' q.1 = none) ∧ Wk X.prog X.w X.K X.base X.stack sc.heap.objs.size sc.os (a, go) g.F k (out.drop i) Sw gs' fp' ∧ Same Sw S' := fun {σ7 H7} I7 ⟨S', M', sd', e', a', p'⟩ => by
      refine ⟨out.length - (i + 1), by omega, i + 1, σ7, S', M', sd', H7, z.genState, fp4, S4, rfl, hlt, (un I7).unpinned, a', (e3.trans af.same).trans e', p', hg7, ha4, fun q hq => ?_, wk4, e'⟩
      obtain ⟨y1, y2, _, _⟩ := hf4 q hq
      obtain ⟨y3, y4, _⟩ := (un I7).pin q (List.mem_append_right _ (List.mem_append_right _ hq))
      exact ⟨y1, y2, y3, y4⟩
    cases f with
    | next => obtain ⟨σ7, H7, I7, n7⟩ := q7; exact again I7 n7
    | cont => obtain ⟨σ7, H7, I7, n7⟩ := q7; exact again I7 n7
    | brk => obtain ⟨σ7, H7, I7, q7⟩ := q7; exact ⟨σ7, H7, (un I7).unpinned, q7⟩
    | ret v => obtain ⟨x7, σ7, H7, I7, r7, q7⟩ := q7; exact ⟨x7, σ7, H7, (un I7).unpinned, r7, q7⟩
  · have hie : i = out.length := by omega
    have hdr : out.drop i = [] := by rw [hie, List.drop_length]
    rw [hdr] at gos
    refine next_gos hr.hd I3.nolimit hr.depth (hgo _ (hf3 (a, go) ha3).2.2.1) hg3 gos fun z s4 hz => .inr ?_
    obtain ⟨⟨r, ez, hrr⟩, S4, H4, af⟩ := hz
    refine ⟨r, ez, hrr, fun h' hk _ => ?_⟩
    have I4 : Inv X pins σ3 H4 { s4.setGen gn .finished with heap := h' } := by
      have h1 := af.un.trans (Un.kept hk)
      have h2 := af.hok.kept hk
      have h3 := allBare_setGen (g := gn) (x := .finished) af.bare rfl
      have h4 : s4.os = s3.os := af.os.trans (I1.os.trans I3.os.symm)
      obtain ⟨hh, gg, dd, tt, oo⟩ := s4
      have eo : oo = s3.os := h4
      subst eo
      exact inv_walked (s := s3) I3 old h1 h2 h3
    subst hie
    exact wpAny_execs_nil ⟨σ3, H4, I4, kk.nx _ _ _ _ _ (done sd3 M3 p3) ((e1.trans e3).trans af.same) (a3.step af.same af.rep)⟩
end
end DL

namespace DL
open PySem PySem.Spec PyProof.Rows L2 TL
variable [Cl]
/-! is_integer(value) -/
@[irreducible] def S_is_integer (x : D) (M : Mem) (Q : DK) (_ : DXK) : Prop := (∃ t, TyD M x t) ∧ Q (.bl (isI x)) M
def sp_is_integer : DSp := spk1 S_is_integer
theorem isint_in {x : D} {M : Mem} {Q : DK} {E : DXK} (h : Typ x) (q : Q (.bl (isI x)) M) : S_is_integer x M Q E := by
  unfold S_is_integer
  exact ⟨h.imp fun t ht => ht M, q⟩
theorem isint_inM {x : D} {M : Mem} {Q : DK} {E : DXK} (h : ∃ t, TyD M x t) (q : Q (.bl (isI x)) M) : S_is_integer x M Q E := by
  unfold S_is_integer
  exact ⟨h, q⟩
def t_is_integer : DTS :=
  dRet (dAndV (dCB (r2 (dIsi .it)) (dCons (dVar 0) (dCons (dC (.ty "int")) (dNil)))) (dNotV (dCB (r2 (dIsi .bo)) (dCons (dVar 0) (dCons (dC (.ty "bool")) (dNil))))))
theorem rd_is_integer : ∀ ds M Q E, sp_is_integer ds M Q E → t_is_integer { nx := fun _ M' => QF Q .non M', rt := QF Q } (dstart 1 ds) M := rd1 fun x M Q E h => by
  unfold S_is_integer at h
  obtain ⟨⟨t, ht⟩, h⟩ := h
  have ht' := ht
  refine ⟨_, rfl, rfl, t, ht', ?_⟩
  cases ht' with
  | int i => exact yes ⟨_, rfl, rfl, .it, .int i, qf_same h⟩
  | bl b => exact yes ⟨_, rfl, rfl, .bo, .bl b, qf_same h⟩
  | @ref a co hm => cases co <;> exact no (qf_same h)
  | _ => exact no (qf_same h)

/-! count_below(numbers, bound) of an ascending list -/
@[irreducible] def S_count_below (x b : D) (M : Mem) (Q : DK) (_ : DXK) : Prop := ∃ (ns : List Int) (k : Int), Seq x M (ns.map D.int) ∧ b = .int k ∧ ns.Pairwise (· ≤ ·) ∧ Q (.int (ns.countP (· < k))) M
def sp_count_below : DSp := spk2 S_count_below
theorem count_in {ns : List Int} {x : D} {k : Int} {M : Mem} {Q : DK} {E : DXK} (hx : Seq x M (ns.map D.int)) (hs : ns.Pairwise (· ≤ ·)) (h : Q (.int (ns.countP (· < k))) M) : S_count_below x (.int k) M Q E := by
  unfold S_count_below
  exact ⟨ns, k, hx, rfl, hs, h⟩
/-- in an ascending list the lesser items stand ahead -/
theorem sorted_count {k : Int} : ∀ {ns : List Int}, ns.Pairwise (· ≤ ·) → ∀ (m : Nat) (h : m < ns.length), (ns[m] < k ↔ m < ns.countP (· < k))
  | [], _, m, h => by simp at h
  | x :: xs, hs, m, h => by
    obtain ⟨h1, h2⟩ := List.pairwise_cons.mp hs
    rw [List.countP_cons]
    cases m with
    | zero =>
      show x < k ↔ _
      by_cases hx : x < k
      · simp [hx]
      · have : xs.countP (· < k) = 0 := by
          rw [List.countP_eq_zero]
          intro y hy
          have := h1 y hy
          simp; omega
        simp [hx, this]
    | succ m =>
      have ih := sorted_count (k := k) h2 m (by simpa using h)
      have hm : m < xs.length := by simpa using h
      show xs[m] < k ↔ _
      rw [ih]
      by_cases hx : x < k
      · simp [hx]
      · have : xs.countP (· < k) = 0 := by
          rw [List.countP_eq_zero]
          intro y hy
          have := h1 y hy
          simp; omega
        simp [hx, this]
def t_count_below : DTS :=
  dSeq (dAsg (dC (.int 0)) (dgName 2))
  (dSeq (dAsg (dCB (r1 dLen) (dCons (dVar 0) (dNil))) (dgName 3))
  (dSeq (dWhile (dTest (dBin dLt (dVar 2) (dVar 3))) (dSeq (dAsg (dBin dFdiv (dBin dAdd (dVar 2) (dVar 3)) (dC (.int 2))) (dgName 4))
  (dIfS (dTest (dBin dLt (dBin dIx (dVar 0) (dVar 4)) (dVar 1))) (dAsg (dBin dAdd (dVar 4) (dC (.int 1))) (dgName 2)) (dAsg (dVar 4) (dgName 3)))))
  (dRet (dVar 2))))
theorem rd_count_below : ∀ ds M Q E, sp_count_below ds M Q E → t_count_below { nx := fun _ M' => QF Q .non M', rt := QF Q } (dstart 5 ds) M := rd2 fun x b M Q E h => by
  unfold S_count_below at h
  obtain ⟨ns, k, hx, rfl, hs, h⟩ := h
  refine ⟨_, rfl, dLen_seq hx ?_⟩
  have hc : ns.countP (· < k) ≤ ns.length := List.countP_le_length
  refine ⟨fun m σ M' => ∃ (lo hi : Nat) (mid : Option D), σ = [some x, some (.int k), some (.int lo), some (.int hi), mid] ∧ M' = M ∧ lo ≤ ns.countP (· < k) ∧ ns.countP (· < k) ≤ hi ∧ hi ≤ ns.length ∧ m = hi - lo,
    ⟨ns.length, 0, ns.length, none, by simp [dstart], rfl, Nat.zero_le _, hc, Nat.le_refl _, by omega⟩, ?_⟩
  rintro m σ M' ⟨lo, hi, mid, rfl, rfl, hlo, hhi, hn, rfl⟩
  refine ⟨_, rfl, _, rfl, byc (fun hlt => ?_) fun hge => ?_⟩
  · refine ⟨fun σ' M2 => ∃ (lo' hi' : Nat) (mid : Option D), σ' = [some x, some (.int k), some (.int lo'), some (.int hi'), mid] ∧ M2 = M' ∧ lo' ≤ ns.countP (· < k) ∧ ns.countP (· < k) ≤ hi' ∧ hi' ≤ ns.length ∧ hi' - lo' < hi - lo,
      fun σ' M2 ⟨lo', hi', mid, e, em, a, b, c, d⟩ => ⟨hi' - lo', d, lo', hi', mid, e, em, a, b, c, rfl⟩, ?_⟩
    obtain ⟨md, hmd⟩ : ∃ md : Nat, ((lo : Int) + hi) / 2 = md := ⟨(((lo : Int) + hi) / 2).toNat, by omega⟩
    have hml : md < ns.length := by omega
    have hat : atI (ns.map D.int) (md : Int) = some (.int ns[md]) := atI_nat (by simp [hml])
    refine ⟨_, rfl, _, rfl, ⟨by decide, by decide⟩, ?_⟩
    rw [hmd]
    have key := sorted_count (k := k) hs md hml
    refine ⟨_, rfl, _, rfl, dIx_seq hx hat ⟨_, rfl, byc (fun hv => ?_) fun hv => ?_⟩⟩
    · have := key.mp hv
      exact ⟨_, rfl, md + 1, hi, some (.int md), by simp [dstart], rfl, by omega, hhi, hn, by omega⟩
    · have : ¬ md < ns.countP (· < k) := fun z => hv (key.mpr z)
      exact ⟨_, rfl, lo, md, some (.int md), by simp [dstart], rfl, hlo, by omega, by omega, by omega⟩
  · have e : lo = ns.countP (· < k) := by omega
    subst e
    exact ⟨_, rfl, qf_same h⟩

/-! check_width(width), of widths -/
@[irreducible] def S_check_width (x : D) (M : Mem) (Q : DK) (_ : DXK) : Prop := ∃ w : Int, x = .int w ∧ 1 ≤ w ∧ Q .non M
def sp_check_width : DSp := spk1 S_check_width
theorem checkw_in {w : Int} {M : Mem} {Q : DK} {E : DXK} (h : 1 ≤ w) (q : Q .non M) : S_check_width (.int w) M Q E := by
  unfold S_check_width
  exact ⟨w, rfl, h, q⟩
def t_check_width : DTS :=
  dIfS (dOr (dNot (dTruth (dCall sp_is_integer [] wNo (dCons (dVar 0) (dNil))))) (dTest (dBin dLt (dVar 0) (dC (.int 1))))) (dNever) (dNext)
theorem rd_check_width : ∀ ds M Q E, sp_check_width ds M Q E → t_check_width { nx := fun _ M' => QF Q .non M', rt := QF Q } (dstart 1 ds) M := rd1 fun x M Q E h => by
  unfold S_check_width at h
  obtain ⟨w, rfl, hw, h⟩ := h
  exact ⟨_, rfl, isint_in (typ_int _) (no ⟨_, rfl, byc (fun hn => absurd hn (by omega)) fun _ => qf_same h⟩)⟩

/-! is_row(value, width) -/
@[irreducible] def S_is_row (x y : D) (M : Mem) (Q : DK) (_ : DXK) : Prop := ∃ w : Int, y = .int w ∧ TyN 1 M x ∧ Q (.bl (rowB w x)) M
def sp_is_row : DSp := spk2 S_is_row
theorem isrow_in {x : D} {w : Int} {M : Mem} {Q : DK} {E : DXK} (h : Typ x) (h2 : ∀ ds, x = .tup ds → ds.length ≤ sizeLine ∧ ∀ d ∈ ds, Typ d) (q : Q (.bl (rowB w x)) M) : S_is_row x (.int w) M Q E := by
  unfold S_is_row
  exact ⟨w, rfl, ⟨h.imp fun t ht => ht M, fun ds e => ⟨(h2 ds e).1, fun d hd => ((h2 ds e).2 d hd).imp fun t ht => ht M⟩⟩, q⟩
theorem isrow_inM {x : D} {w : Int} {M : Mem} {Q : DK} {E : DXK} (h : TyN 1 M x) (q : Q (.bl (rowB w x)) M) : S_is_row x (.int w) M Q E := by
  unfold S_is_row
  exact ⟨w, rfl, h, q⟩
def t_is_row : DTS :=
  dSeq (dIfS (dOr (dNot (dTruth (dCB (r2 (dIsi .tu)) (dCons (dVar 0) (dCons (dC (.ty "tuple")) (dNil)))))) (dTest (dBin dNe (dCB (r1 dLen) (dCons (dVar 0) (dNil))) (dVar 1)))) (dRet (dC (.bl false))) (dNext))
  (dRet (dCB (r1 dAll) (dCons (dLc (diSeq (dVar 0)) (.nm 2) (dYes) (dCall sp_is_integer [] wNo (dCons (dVar 2) (dNil))) [2]) (dNil))))
theorem rd_is_row : ∀ ds M Q E, sp_is_row ds M Q E → t_is_row { nx := fun _ M' => QF Q .non M', rt := QF Q } (dstart 3 ds) M := rd2 fun x y M Q E h => by
  unfold S_is_row at h
  obtain ⟨w, rfl, ⟨⟨t, ht⟩, h2⟩, h⟩ := h
  have ht' := ht
  refine ⟨_, rfl, rfl, t, ht', ?_⟩
  cases ht' with
  | tup ds =>
    obtain ⟨hz, h3⟩ := h2 ds rfl
    refine no ⟨_, rfl, _, rfl, bync (fun hn => ?_) fun hn => ?_⟩
    · have e : rowB w (.tup ds) = false := by simp [rowB, hn]
      rw [e] at h
      exact qf_same h
    · have e : rowB w (.tup ds) = ds.all isI := by simp [rowB, hn]
      rw [e] at h
      refine ⟨_, rfl, hz, fun i acc M' => M' = M ∧ acc = (ds.take i).map fun d => D.bl (isI d), ⟨rfl, by simp⟩, ?_, ?_⟩
      · rintro i acc d _ hd _ ⟨rfl, rfl⟩
        refine yes ⟨_, rfl, isint_inM (h3 d (List.mem_of_getElem? hd)) ⟨rfl, ?_⟩⟩
        rw [List.take_succ, hd, List.map_append]
        rfl
      · rintro acc _ _ ⟨rfl, rfl⟩
        refine ⟨ds.map isI, by simp, qf_same ?_⟩
        rw [List.all_map]
        exact h
  | @ref a co hm => cases co <;> exact yes (yes (qf_same h))
  | _ => exact yes (yes (qf_same h))

/-! check_rows(width, rows), of a table's rows -/
@[irreducible] def S_check_rows (x y : D) (M : Mem) (Q : DK) (_ : DXK) : Prop := ∃ (w : Nat) (S : List Row), x = .int w ∧ Seq y M (S.map rowD) ∧ Tab w S ∧ w ≤ 1000 ∧ S.length < 1000 ∧ FL Q M (S.map rowD)
def sp_check_rows : DSp := spk2 S_check_rows
theorem checkr_in {y : D} {w : Nat} {S : List Row} {M : Mem} {Q : DK} {E : DXK} (hy : Seq y M (S.map rowD)) (h : Tab w S) (hw : w ≤ 1000) (hz : S.length < 1000) (q : FL Q M (S.map rowD)) : S_check_rows (.int w) y M Q E := by
  unfold S_check_rows
  exact ⟨w, S, rfl, hy, h, hw, hz, q⟩
def t_check_rows : DTS :=
  dSeq (dAsg (dLstC (dNil)) (dgName 2))
  (dSeq (dFor (diEnum (dCons (dVar 1) (dNil))) (dgTup 2 (dgCons (dgName 3) (dgCons (dgName 4) (dgNil)))) (dSeq (dIfS (dNot (dTruth (dCall sp_is_row [] wNo (dCons (dVar 4) (dCons (dVar 0) (dNil)))))) (dNever) (dNext))
  (dSeqC (dIfS (dAnd (dTest (dBin dGt (dVar 3) (dC (.int 0)))) (dTest (dBin dLe (dBin dIx (dVar 4) (dC (.int 0))) (dBin dIx (dBin dIx (dVar 2) (dUn dNeg (dC (.int 1)))) (dC (.int 0)))))) (dNever) (dNext))
  (dDrop (dApp (dVar 2) (dCons (dVar 4) (dNil)))))))
  (dRet (dVar 2)))
theorem rd_check_rows : ∀ ds M Q E, sp_check_rows ds M Q E → t_check_rows { nx := fun _ M' => QF Q .non M', rt := QF Q } (dstart 5 ds) M := rd2 fun x y M Q E h => by
  unfold S_check_rows at h
  obtain ⟨w, S, rfl, hy, tS, hw, hz, h⟩ := h
  refine ⟨by decide, fun p hp => ⟨_, rfl, ?_⟩⟩
  refine for_enum (hy.more hp) (fun i σ M' => ∃ x3 x4 : Option D, σ = [some (.int w), some y, some (.ref p), x3, x4] ∧ M' = mset M p (.lst ((S.take i).map rowD))) (fun i σ M' ⟨_, _, _, e⟩ => by rw [e]; exact hy.more hp) ⟨⟨_, _, rfl, rfl⟩, ?_, ?_⟩
  · rintro i d _ _ hd ⟨x3, x4, rfl, rfl⟩
    obtain ⟨d, hd', rfl⟩ := enD_of hd
    obtain ⟨r, hr, rfl⟩ := rows_get hd'
    have hm := List.mem_of_getElem? hr
    have hl : i < S.length := (List.getElem?_eq_some_iff.mp hr).1
    refine ⟨rfl, rfl, ?_⟩
    refine ⟨_, rfl, _, rfl, isrow_in (typ_row r) (fun ds e => ?_) ?_⟩
    · unfold rowD at e
      injection e with e
      subst e
      refine ⟨sz9 (by rw [List.length_map, tS.wid r hm]; exact hw), fun d hd => ?_⟩
      obtain ⟨n, _, rfl⟩ := List.mem_map.mp hd
      exact typ_int _
    rw [rowB_row, tS.wid r hm, decide_eq_true rfl]
    refine no ⟨fun σ M' => σ = [some (.int w), some y, some (.ref p), some (.int i), some (rowD r)] ∧ M' = mset M p (.lst ((S.take i).map rowD)), ?_, ?_⟩
    · refine ⟨_, rfl, byc (fun h0 => ?_) fun _ => no ⟨rfl, rfl⟩⟩
      obtain ⟨j, rfl⟩ : ∃ j, i = j + 1 := ⟨i - 1, by omega⟩
      have hj : S[j]? = some S[j] := List.getElem?_eq_getElem (by omega)
      refine ⟨_, rfl, _, row_key (tS.ne hm), _, rfl, _, rowD S[j], mset_same, ?_, _, row_key (tS.ne (List.mem_of_getElem? hj)), byc (fun hle => ?_) fun _ => ⟨rfl, rfl⟩⟩
      · rw [List.take_succ, hj, List.map_append]
        exact atI_last
      · obtain ⟨h1, h2⟩ := List.getElem?_eq_some_iff.mp hr
        have := List.pairwise_iff_getElem.mp tS.asc j (j + 1) (by omega) h1 (Nat.lt_succ_self j)
        rw [h2] at this
        omega
    · rintro _ _ ⟨rfl, rfl⟩
      refine ⟨_, rfl, ⟨p, _, rfl, mset_same⟩, _, rfl, p, _, _, rfl, rfl, mset_same, szlt (by simp; omega), _, _, rfl, ?_⟩
      rw [mset_mset, List.take_succ, hr, List.map_append]
      rfl
  · rintro _ _ ⟨x3, x4, rfl, rfl⟩
    refine ⟨_, rfl, ?_⟩
    rw [enD_len, List.length_map, List.take_length]
    exact fl_ret h hp

/-! is_entry(value, width) -/
@[irreducible] def S_is_entry (x y : D) (M : Mem) (Q : DK) (_ : DXK) : Prop := ∃ w : Int, y = .int w ∧ 1 ≤ w ∧ TyN 2 M x ∧ Q (.bl (entB w x)) M
def sp_is_entry : DSp := spk2 S_is_entry
theorem isent_in {x : D} {w : Int} {M : Mem} {Q : DK} {E : DXK} (hw : 1 ≤ w) (h : TyN 2 M x) (q : Q (.bl (entB w x)) M) : S_is_entry x (.int w) M Q E := by
  unfold S_is_entry
  exact ⟨w, rfl, hw, h, q⟩
theorem entB_no3 {w : Int} {ds : List D} (h : ds.length ≠ 3) : entB w (.tup ds) = false := by
  unfold entB
  split
  · rename_i e
    injection e with e
    rw [e] at h
    exact absurd rfl h
  · rfl
def t_is_entry : DTS :=
  dSeq (dIfS (dOr (dNot (dTruth (dCB (r2 (dIsi .tu)) (dCons (dVar 0) (dCons (dC (.ty "tuple")) (dNil)))))) (dTest (dBin dNe (dCB (r1 dLen) (dCons (dVar 0) (dNil))) (dC (.int 3))))) (dRet (dC (.bl false))) (dNext))
  (dSeq (dAsg (dVar 0) (dgTup 3 (dgCons (dgName 2) (dgCons (dgName 3) (dgCons (dgName 4) (dgNil))))))
  (dSeq (dIfS (dOr (dNot (dTruth (dCall sp_is_integer [] wNo (dCons (dVar 2) (dNil))))) (dTest (dBin dLt (dVar 2) (dC (.int 0))))) (dRet (dC (.bl false))) (dNext))
  (dSeq (dFor (diSeq (dTup (dCons (dVar 3) (dCons (dVar 4) (dNil))))) (dgName 5) (dIfS (dAnd (dTest (dBin dIsNot (dVar 5) (dC .non))) (dNot (dTruth (dCall sp_is_row [] wNo (dCons (dVar 5) (dCons (dVar 1) (dNil))))))) (dRet (dC (.bl false))) (dNext)))
  (dSeq (dIfS (dOr (dTest (dBin dIs (dVar 3) (dC .non))) (dTest (dBin dIs (dVar 4) (dC .non)))) (dRet (dOrV (dBin dIsNot (dVar 3) (dC .non)) (dBin dIsNot (dVar 4) (dC .non)))) (dNext))
  (dRet (dAndV (dBin dEq (dBin dIx (dVar 3) (dC (.int 0))) (dBin dIx (dVar 4) (dC (.int 0)))) (dBin dNe (dVar 3) (dVar 4))))))))
theorem rd_is_entry : ∀ ds M Q E, sp_is_entry ds M Q E → t_is_entry { nx := fun _ M' => QF Q .non M', rt := QF Q } (dstart 6 ds) M := rd2 fun x y M Q E h => by
  unfold S_is_entry at h
  obtain ⟨w, rfl, hw, ⟨⟨t, ht⟩, h2⟩, h⟩ := h
  refine ⟨_, rfl, rfl, t, ht, ?_⟩
  have hno : (∀ ds, x ≠ .tup ds) → entB w x = false := fun hx => by
    cases x <;> first | rfl | exact absurd rfl (hx _)
  cases ht with
  | tup ds =>
    obtain ⟨hz, h3⟩ := h2 ds rfl
    refine no ⟨_, rfl, bync (fun hn => ?_) fun hn => ?_⟩
    · rw [entB_no3 (by omega)] at h
      exact qf_same h
    obtain ⟨p, o, n, rfl⟩ : ∃ p o n, ds = [p, o, n] := by
      match ds, hn with
      | [p, o, n], _ => exact ⟨p, o, n, rfl⟩
    have hp := h3 p (by simp)
    have ho := h3 o (by simp)
    have hn := h3 n (by simp)
    refine ⟨_, rfl, rfl, rfl, ?_⟩
    refine ⟨_, rfl, isint_inM hp.ty ?_⟩
    by_cases hpi : ∃ i, p = .int i
    rotate_left
    · have hi : isI p = false := by cases p <;> first | rfl | exact absurd ⟨_, rfl⟩ hpi
      have he : entB w (.tup [p, o, n]) = false := by cases p <;> first | rfl | exact absurd ⟨_, rfl⟩ hpi
      rw [he] at h
      exact sure (by rw [hi]; rfl) (yes (qf_same h))
    obtain ⟨p, rfl⟩ := hpi
    refine no ⟨_, rfl, byc (fun hneg => ?_) fun hpos => ?_⟩
    · have he : entB w (.tup [.int p, o, n]) = false := by
        show (decide (0 ≤ p) && _) = false
        rw [decide_eq_false (by omega)]
        rfl
      rw [he] at h
      exact qf_same h
    have he : entB w (.tup [.int p, o, n]) = (rowO w o && (rowO w n && pairB o n)) := by
      show (decide (0 ≤ p) && _) = _
      rw [decide_eq_true (by omega)]
      rfl
    rw [he] at h
    -- the two rows
    refine ⟨_, rfl, _, rfl, sz9 (show 2 ≤ 1000 by decide), fun i σ' M' => ∃ x5, σ' = [some (.tup [.int p, o, n]), some (.int w), some (.int p), some o, some n, x5] ∧ M' = M ∧ ∀ j d, j < i → [o, n][j]? = some d → rowO w d = true, ⟨_, rfl, rfl, fun j d hj => absurd hj (by omega)⟩, ?_, ?_⟩
    · rintro i d _ M hd ⟨x5, rfl, rfl, hr⟩
      have hty : TyN 1 M d := by
        have := List.mem_of_getElem? hd
        simp at this
        rcases this with e | e <;> rw [e] <;> assumption
      have hnx : rowO w d = true → ∀ j e, j < i + 1 → [o, n][j]? = some e → rowO w e = true := fun hd' j e hj he => by
        rcases Nat.lt_succ_iff_lt_or_eq.mp hj with h | h
        · exact hr j e h he
        · subst h
          rw [hd] at he
          injection he with he
          rw [← he]
          exact hd'
      by_cases hnon : d = .non
      · subst hnon
        exact ⟨_, rfl, no (no ⟨_, rfl, rfl, hnx rfl⟩)⟩
      · have e1 : isNon d = false := by cases d <;> first | rfl | exact absurd rfl hnon
        have e2 : rowO w d = rowB w d := by cases d <;> first | rfl | exact absurd rfl hnon
        refine ⟨_, rfl, sure (b := !isNon d) (by rw [e1]; rfl) ⟨_, rfl, _, rfl, isrow_inM hty ?_⟩⟩
        cases hb : rowB w d with
        | true => exact no ⟨_, rfl, rfl, hnx (by rw [e2, hb])⟩
        | false =>
          refine yes (qf_same ?_)
          have hbad : (rowO w o && (rowO w n && pairB o n)) = false := by
            have hd' := List.mem_of_getElem? hd
            simp at hd'
            rw [hb] at e2
            rcases hd' with z | z
            · rw [← z, e2]; rfl
            · rw [← z, e2]; simp
          rw [hbad] at h
          exact h
    · rintro _ M ⟨x5, rfl, rfl, hr⟩
      have hro : rowO w o = true := hr 0 o (by simp) rfl
      have hrn : rowO w n = true := hr 1 n (by simp) rfl
      rw [hro, hrn] at h
      obtain ⟨a, rfl, ha⟩ := of_rowO hro
      obtain ⟨b, rfl, hb⟩ := of_rowO hrn
      cases a with
      | none =>
        refine ⟨_, rfl, yes (yes ⟨_, rfl, no ⟨_, rfl, ?_⟩⟩)⟩
        cases b <;> exact qf_same h
      | some x =>
        cases b with
        | none => exact ⟨_, rfl, no ⟨_, rfl, yes ⟨_, rfl, yes (qf_same h)⟩⟩⟩
        | some y =>
          have hx : x ≠ [] := fun e => by have := ha x rfl; rw [e] at this; simp at this; omega
          have hy : y ≠ [] := fun e => by have := hb y rfl; rw [e] at this; simp at this; omega
          have h : Q (.bl (true && (true && (decide (key (rowI (rowD x)) = key (rowI (rowD y))) && !decide (rowI (rowD x) = rowI (rowD y)))))) M := h
          rw [rowI_row, rowI_row] at h
          refine ⟨_, rfl, no ⟨_, rfl, no ⟨_, rfl, _, row_key hx, _, rfl, _, row_key hy, byc (fun hk => ?_) fun hk => ?_⟩⟩⟩
          · refine ⟨_, rfl, _, rfl, dNe_opt (a := some x) (b := some y) (qf_same ?_)⟩
            have : decide (x = y) = decide (some x = some y) := by simp
            rw [decide_eq_true hk, this] at h
            exact h
          · rw [decide_eq_false hk] at h
            exact qf_same h
  | @ref a co hm => cases co <;> exact yes (yes (qf_same (hno (fun _ z => nomatch z) ▸ h)))
  | _ => exact yes (yes (qf_same (hno (fun _ z => nomatch z) ▸ h)))

/-! entry_key(entry) -/
@[irreducible] def S_entry_key (x : D) (M : Mem) (Q : DK) (_ : DXK) : Prop := ∃ e : Ent, x = entD e ∧ e.Ok ∧ Q (.int e.key) M
def sp_entry_key : DSp := spk1 S_entry_key
theorem ekey_in {e : Ent} {M : Mem} {Q : DK} {E : DXK} (h : e.Ok) (q : Q (.int e.key) M) : S_entry_key (entD e) M Q E := by
  unfold S_entry_key
  exact ⟨e, rfl, h, q⟩
def t_entry_key : DTS :=
  dSeq (dAsg (dVar 0) (dgTup 3 (dgCons (dgName 1) (dgCons (dgName 2) (dgCons (dgName 3) (dgNil))))))
  (dSeq (dIfS (dTest (dBin dIs (dVar 2) (dC .non))) (dRet (dBin dIx (dVar 3) (dC (.int 0)))) (dNext))
  (dRet (dBin dIx (dVar 2) (dC (.int 0)))))
theorem rd_entry_key : ∀ ds M Q E, sp_entry_key ds M Q E → t_entry_key { nx := fun _ M' => QF Q .non M', rt := QF Q } (dstart 4 ds) M := rd1 fun x M Q E h => by
  unfold S_entry_key at h
  obtain ⟨⟨p, o, n⟩, rfl, ok, h⟩ := h
  refine ⟨_, rfl, rfl, rfl, ?_⟩
  cases o with
  | none =>
    cases n with
    | none => rcases ok.any with h | h <;> cases h
    | some r => exact ⟨_, rfl, yes ⟨_, rfl, _, row_key (ok.new r rfl), qf_same h⟩⟩
  | some r => exact ⟨_, rfl, no ⟨_, rfl, _, row_key (ok.old r rfl), qf_same h⟩⟩

/-! entry_growth(entry) -/
@[irreducible] def S_entry_growth (x : D) (M : Mem) (Q : DK) (_ : DXK) : Prop := ∃ e : Ent, x = entD e ∧ Q (.int e.growth) M
def sp_entry_growth : DSp := spk1 S_entry_growth
theorem egrowth_in {e : Ent} {M : Mem} {Q : DK} {E : DXK} (q : Q (.int e.growth) M) : S_entry_growth (entD e) M Q E := by
  unfold S_entry_growth
  exact ⟨e, rfl, q⟩
def t_entry_growth : DTS :=
  dSeq (dAsg (dVar 0) (dgTup 3 (dgCons (dgName 1) (dgCons (dgName 2) (dgCons (dgName 3) (dgNil))))))
  (dRet (dBin dSub (dCB (r1 dInt) (dCons (dBin dIsNot (dVar 3) (dC .non)) (dNil))) (dCB (r1 dInt) (dCons (dBin dIsNot (dVar 2) (dC .non)) (dNil)))))
theorem rd_entry_growth : ∀ ds M Q E, sp_entry_growth ds M Q E → t_entry_growth { nx := fun _ M' => QF Q .non M', rt := QF Q } (dstart 4 ds) M := rd1 fun x M Q E h => by
  unfold S_entry_growth at h
  obtain ⟨⟨p, o, n⟩, rfl, h⟩ := h
  refine ⟨_, rfl, rfl, rfl, ?_⟩
  cases o <;> cases n <;> exact ⟨_, rfl, _, rfl, qf_same h⟩

/-! gap_size(entry, following), of entries and of links -/
@[irreducible] def S_gap_size (x y : D) (M : Mem) (Q : DK) (_ : DXK) : Prop := ∃ (p q : Int) (o : Option Row) (ds es : List D), x = .tup (.int p :: optRow o :: ds) ∧ y = .tup (.int q :: es) ∧ Q (.int (q - p - if o.isSome then 1 else 0)) M
def sp_gap_size : DSp := spk2 S_gap_size
theorem gap_in {e f : Ent} {M : Mem} {Q : DK} {E : DXK} (q : Q (.int (gapOf e f)) M) : S_gap_size (entD e) (entD f) M Q E := by
  unfold S_gap_size
  exact ⟨e.p, f.p, e.old, _, _, rfl, rfl, q⟩
theorem gapl_in {p q : Int} {o : Option Row} {ds es : List D} {M : Mem} {Q : DK} {E : DXK} (h : Q (.int (q - p - if o.isSome then 1 else 0)) M) : S_gap_size (.tup (.int p :: optRow o :: ds)) (.tup (.int q :: es)) M Q E := by
  unfold S_gap_size
  exact ⟨p, q, o, ds, es, rfl, rfl, h⟩
theorem ent_at0 (e : Ent) : atI [D.int e.p, optRow e.old, optRow e.new] 0 = some (.int e.p) := rfl
theorem ent_at1 (e : Ent) : atI [D.int e.p, optRow e.old, optRow e.new] 1 = some (optRow e.old) := rfl
theorem ent_at2 (e : Ent) : atI [D.int e.p, optRow e.old, optRow e.new] 2 = some (optRow e.new) := rfl
def t_gap_size : DTS :=
  dRet (dBin dSub (dBin dSub (dBin dIx (dVar 1) (dC (.int 0))) (dBin dIx (dVar 0) (dC (.int 0)))) (dCB (r1 dInt) (dCons (dBin dIsNot (dBin dIx (dVar 0) (dC (.int 1))) (dC .non)) (dNil))))
theorem rd_gap_size : ∀ ds M Q E, sp_gap_size ds M Q E → t_gap_size { nx := fun _ M' => QF Q .non M', rt := QF Q } (dstart 2 ds) M := rd2 fun x y M Q E h => by
  unfold S_gap_size at h
  obtain ⟨p, q, o, ds, es, rfl, rfl, h⟩ := h
  have a0 : atI (D.int p :: optRow o :: ds) 0 = some (.int p) := atI_nat (xs := D.int p :: optRow o :: ds) (v := D.int p) (j := 0) rfl
  have a1 : atI (D.int p :: optRow o :: ds) 1 = some (optRow o) := atI_nat (xs := D.int p :: optRow o :: ds) (v := optRow o) (j := 1) rfl
  have b0 : atI (D.int q :: es) 0 = some (.int q) := atI_nat (xs := D.int q :: es) (v := D.int q) (j := 0) rfl
  refine ⟨_, rfl, _, b0, _, rfl, _, a0, _, rfl, _, a1, ?_⟩
  cases o <;> exact qf_same h

/-! in_order(entry, following) -/
@[irreducible] def S_in_order (x y : D) (M : Mem) (Q : DK) (_ : DXK) : Prop := ∃ e f : Ent, x = entD e ∧ y = entD f ∧ e.Ok ∧ f.Ok ∧ ∀ b : Bool, (b = true ↔ Nxt e f) → Q (.bl b) M
def sp_in_order : DSp := spk2 S_in_order
theorem inord_in {e f : Ent} {M : Mem} {Q : DK} {E : DXK} (he : e.Ok) (hf : f.Ok) (q : ∀ b : Bool, (b = true ↔ Nxt e f) → Q (.bl b) M) : S_in_order (entD e) (entD f) M Q E := by
  unfold S_in_order
  exact ⟨e, f, rfl, rfl, he, hf, q⟩
def t_in_order : DTS :=
  dRet (dChain dLe dLt (dC (.int 0)) (dCall sp_gap_size [] wNo (dCons (dVar 0) (dCons (dVar 1) (dNil)))) (dBin dSub (dCall sp_entry_key [] wNo (dCons (dVar 1) (dNil))) (dCall sp_entry_key [] wNo (dCons (dVar 0) (dNil)))))
theorem rd_in_order : ∀ ds M Q E, sp_in_order ds M Q E → t_in_order { nx := fun _ M' => QF Q .non M', rt := QF Q } (dstart 2 ds) M := rd2 fun x y M Q E h => by
  unfold S_in_order at h
  obtain ⟨e, f, rfl, rfl, he, hf, h⟩ := h
  refine ⟨_, rfl, _, rfl, gap_in (byc (fun h1 => ?_) fun h1 => ?_)⟩
  · refine ⟨_, rfl, ekey_in hf ⟨_, rfl, ekey_in he ?_⟩⟩
    refine qf_same (h _ ?_)
    rw [decide_eq_true_eq]
    exact ⟨fun h2 => ⟨h1, h2⟩, fun h2 => h2.2⟩
  · exact qf_same (h false ⟨(fun z => nomatch z), (fun z => absurd z.1 h1)⟩)

/-! check_entries(width, entries), of entries that make a layer -/
@[irreducible] def S_check_entries (x y : D) (M : Mem) (Q : DK) (_ : DXK) : Prop := ∃ (w : Nat) (es : List Ent), x = .int w ∧ Seq y M (es.map entD) ∧ LayOk w es ∧ FL Q M (es.map entD)
def sp_check_entries : DSp := spk2 S_check_entries
theorem checke_in {y : D} {w : Nat} {es : List Ent} {M : Mem} {Q : DK} {E : DXK} (hy : Seq y M (es.map entD)) (h : LayOk w es) (q : FL Q M (es.map entD)) : S_check_entries (.int w) y M Q E := by
  unfold S_check_entries
  exact ⟨w, es, rfl, hy, h, q⟩
def t_check_entries : DTS :=
  dSeq (dAsg (dLstC (dNil)) (dgName 2))
  (dSeq (dFor (diEnum (dCons (dVar 1) (dNil))) (dgTup 2 (dgCons (dgName 3) (dgCons (dgName 4) (dgNil)))) (dSeq (dIfS (dNot (dTruth (dCall sp_is_entry [] wNo (dCons (dVar 4) (dCons (dVar 0) (dNil)))))) (dNever) (dNext))
  (dSeqC (dIfS (dAnd (dTest (dBin dGt (dVar 3) (dC (.int 0)))) (dNot (dTruth (dCall sp_in_order [] wNo (dCons (dBin dIx (dVar 2) (dUn dNeg (dC (.int 1)))) (dCons (dVar 4) (dNil))))))) (dNever) (dNext))
  (dDrop (dApp (dVar 2) (dCons (dVar 4) (dNil)))))))
  (dRet (dVar 2)))
theorem rd_check_entries : ∀ ds M Q E, sp_check_entries ds M Q E → t_check_entries { nx := fun _ M' => QF Q .non M', rt := QF Q } (dstart 5 ds) M := rd2 fun x y M Q E h => by
  unfold S_check_entries at h
  obtain ⟨w, es, rfl, hy, ok, h⟩ := h
  refine ⟨by decide, fun p hp => ⟨_, rfl, ?_⟩⟩
  refine for_enum (hy.more hp) (fun i σ M' => ∃ x3 x4 : Option D, σ = [some (.int w), some y, some (.ref p), x3, x4] ∧ M' = mset M p (.lst ((es.take i).map entD))) (fun i σ M' ⟨_, _, _, e⟩ => by rw [e]; exact hy.more hp) ⟨⟨_, _, rfl, rfl⟩, ?_, ?_⟩
  · rintro i d _ _ hd ⟨x3, x4, rfl, rfl⟩
    obtain ⟨d, hd', rfl⟩ := enD_of hd
    obtain ⟨e, he, rfl⟩ := ents_get hd'
    have hm := List.mem_of_getElem? he
    have hl : i < es.length := (List.getElem?_eq_some_iff.mp he).1
    refine ⟨rfl, rfl, ?_⟩
    refine ⟨_, rfl, _, rfl, isent_in (by have := ok.pos; omega) (entD_tyN ok.sm (ok.ent e hm)) ?_⟩
    rw [ok.ent e hm]
    refine no ⟨fun σ M' => σ = [some (.int w), some y, some (.ref p), some (.int i), some (entD e)] ∧ M' = mset M p (.lst ((es.take i).map entD)), ?_, ?_⟩
    · refine ⟨_, rfl, byc (fun h0 => ?_) fun _ => no ⟨rfl, rfl⟩⟩
      obtain ⟨j, rfl⟩ : ∃ j, i = j + 1 := ⟨i - 1, by omega⟩
      have hj : es[j]? = some es[j] := List.getElem?_eq_getElem (by omega)
      refine ⟨_, rfl, _, _, mset_same, ?_, _, rfl, inord_in (e := es[j]) (ok.eok (List.mem_of_getElem? hj)) (ok.eok hm) fun b hb => ?_⟩
      · rw [List.take_succ, hj, List.map_append]
        exact atI_last
      · have := hb.mpr (ok.ord j _ _ hj he)
        subst this
        exact no ⟨rfl, rfl⟩
    · rintro _ _ ⟨rfl, rfl⟩
      refine ⟨_, rfl, ⟨p, _, rfl, mset_same⟩, _, rfl, p, _, _, rfl, rfl, mset_same, szlt (by have := ok.len; simp; omega), _, _, rfl, ?_⟩
      rw [mset_mset, List.take_succ, he, List.map_append]
      rfl
  · rintro _ _ ⟨x3, x4, rfl, rfl⟩
    refine ⟨_, rfl, ?_⟩
    rw [enD_len, List.length_map, List.take_length]
    exact fl_ret h hp

/-! Layer(width, entries), of entries that make a layer -/
@[irreducible] def S_Layer_new (x y : D) (M : Mem) (Q : DK) (_ : DXK) : Prop := ∃ (w : Nat) (es : List Ent), x = .int w ∧ Seq y M (es.map entD) ∧ LayOk w es ∧ Q (layD w es) M
def sp_Layer_new : DSp := spk2 S_Layer_new
def sp_Layer___init : DSp := dinit (cA "Layer") sp_Layer_new
theorem layer_in {y : D} {w : Nat} {es : List Ent} {M : Mem} {Q : DK} {E : DXK} (hy : Seq y M (es.map entD)) (h : LayOk w es) (q : Q (layD w es) M) : S_Layer_new (.int w) y M Q E := by
  unfold S_Layer_new
  exact ⟨w, es, rfl, hy, h, q⟩
/-- .. as a new object -/
theorem new_layer {y : D} {w : Nat} {es : List Ent} {M : Mem} {Q : DK} {E : DXK} (hy : Seq y M (es.map entD)) (h : LayOk w es) (q : Q (layD w es) M) : ∀ p, M p = none → S_Layer_new (.int w) y M (fun d M' => ∃ fs, d = .obj (cA "Layer") fs ∧ fs ≠ [] ∧ M' p = none ∧ Q d M') E :=
  fun p hp => layer_in hy h ⟨_, rfl, by simp, hp, q⟩
theorem Seq.del {x : D} {M : Mem} {p : Addr} {ds : List D} (h : Seq x (mdel M p) ds) : Seq x M ds := by
  rcases h with h | h | h | ⟨a, rfl, hm⟩
  · exact .inl h
  · exact .inr (.inl h)
  · exact .inr (.inr (.inl h))
  · by_cases ha : a = p
    · rw [ha, mdel_same] at hm; cases hm
    · rw [mdel_ne ha] at hm; exact .inr (.inr (.inr ⟨a, rfl, hm⟩))
theorem mset_del {M : Mem} {p : Addr} {o : CO} : mset (mdel M p) p o = mset M p o := by
  funext a
  by_cases ha : a = p
  · rw [ha, mset_same, mset_same]
  · rw [mset_ne ha, mset_ne ha, mdel_ne ha]
theorem Seq.mset_ne {x : D} {M : Mem} {p : Addr} {o : CO} {ds : List D} (h : Seq x (mdel M p) ds) : Seq x (DL.mset M p o) ds := by
  rw [← mset_del]
  exact h.more mdel_same
theorem keys_of {es : List Ent} {i : Nat} {e : Ent} (h : es[i]? = some e) : keysD (es.take i) ++ [D.int e.key] = keysD (es.take (i + 1)) := by
  unfold keysD
  rw [List.take_succ, h, List.map_append]
  rfl
def t_Layer___init : DTS :=
  dSeq (dDrop (dCall sp_check_width [] wNo (dCons (dVar 1) (dNil))))
  (dSeq (dSetF "Layer" 2 (dVar 0) (dVar 1))
  (dSeq (dSetF "Layer" 0 (dVar 0) (dCall sp_check_entries [] wNo (dCons (dVar 1) (dCons (dVar 2) (dNil)))))
  (dSetF "Layer" 1 (dVar 0) (dLc (diSeq (dFld "Layer" 0 (dVar 0))) (.nm 3) (dYes) (dCall sp_entry_key [] wNo (dCons (dVar 3) (dNil))) [3]))))
theorem rd_Layer___init : ∀ ds M Q E, sp_Layer___init ds M Q E → t_Layer___init { nx := fun _ M' => QF Q .non M', rt := QF Q } (dstart 4 ds) M := rdI fun p rest M Q E hm h => by
  match rest, h with
  | [x, y], h =>
    have h : S_Layer_new _ _ _ _ _ := h
    unfold S_Layer_new at h
    obtain ⟨w, es, rfl, hy, ok, fs, e, hne, _, h⟩ := h
    injection e with _ e
    subst e
    refine ⟨_, rfl, checkw_in (by have := ok.pos; omega) ?_⟩
    refine ⟨_, rfl, _, rfl, p, _, rfl, hm, ?_⟩
    refine ⟨_, rfl, _, rfl, checke_in hy.mset_ne ok (.inl ⟨_, rfl, p, _, rfl, mset_same, ?_⟩)⟩
    rw [mset_mset]
    refine ⟨_, rfl, _, _, mset_same, rfl, ?_⟩
    refine ⟨sz9 (by have := ok.len; simpa using this), fun i acc M' => M' = mset M p (.ins (cA "Layer") [some (.lst (es.map entD)), none, some (.int w)]) ∧ acc = keysD (es.take i), ⟨rfl, rfl⟩, ?_, ?_⟩
    · rintro i acc d _ hd _ ⟨rfl, rfl⟩
      obtain ⟨e, he, rfl⟩ := ents_get hd
      refine yes ⟨_, rfl, ekey_in (ok.eok (List.mem_of_getElem? he)) ⟨rfl, keys_of he⟩⟩
    · rintro acc _ _ ⟨rfl, rfl⟩
      refine ⟨_, rfl, p, _, rfl, mset_same, ?_⟩
      rw [mset_mset, List.length_map, List.take_length]
      rw [mset_del] at h
      exact qf_same h

/-! len(layer) -/
@[irreducible] def S_Layer___len (x : D) (M : Mem) (Q : DK) (_ : DXK) : Prop := ∃ (w : Nat) (es : List Ent), x = layD w es ∧ Q (.int es.length) M
def sp_Layer___len : DSp := spk1 S_Layer___len
theorem llen_in {w : Nat} {es : List Ent} {M : Mem} {Q : DK} {E : DXK} (q : Q (.int es.length) M) : S_Layer___len (layD w es) M Q E := by
  unfold S_Layer___len
  exact ⟨w, es, rfl, q⟩
/-- list(layer) -/
theorem list_layer {w : Nat} {es : List Ent} {M : Mem} {Q : DK} (hl : es.length ≤ 1000) (q : Q (.lst (es.map entD)) M) : dListO "Layer" 0 sp_Layer___len (layD w es) M Q :=
  ⟨rfl, _, rfl, _, rfl, llen_in ⟨_, rfl, by omega, by have := sz9 hl; omega, q⟩⟩
def t_Layer___len : DTS :=
  dRet (dCB (r1 dLen) (dCons (dFld "Layer" 0 (dVar 0)) (dNil)))
theorem rd_Layer___len : ∀ ds M Q E, sp_Layer___len ds M Q E → t_Layer___len { nx := fun _ M' => QF Q .non M', rt := QF Q } (dstart 1 ds) M := rd1 fun x M Q E h => by
  unfold S_Layer___len at h
  obtain ⟨w, es, rfl, h⟩ := h
  refine ⟨_, rfl, rfl, _, rfl, ?_⟩
  rw [show (es.length : Int) = ((es.map entD).length : Int) by simp] at h
  exact qf_same h

/-! layer.growth -/
@[irreducible] def S_Layer_growth (x : D) (M : Mem) (Q : DK) (_ : DXK) : Prop := ∃ (w : Nat) (es : List Ent), x = layD w es ∧ es.length ≤ 1000 ∧ Q (.int (es.map Ent.growth).sum) M
def sp_Layer_growth : DSp := spk1 S_Layer_growth
theorem lgrowth_in {w : Nat} {es : List Ent} {M : Mem} {Q : DK} {E : DXK} (hz : es.length ≤ 1000) (q : Q (.int (es.map Ent.growth).sum) M) : S_Layer_growth (layD w es) M Q E := by
  unfold S_Layer_growth
  exact ⟨w, es, rfl, hz, q⟩
def t_Layer_growth : DTS :=
  dRet (dCB (r1 dSum) (dCons (dLc (diSeq (dFld "Layer" 0 (dVar 0))) (.nm 1) (dYes) (dCall sp_entry_growth [] wNo (dCons (dVar 1) (dNil))) [1]) (dNil)))
theorem rd_Layer_growth : ∀ ds M Q E, sp_Layer_growth ds M Q E → t_Layer_growth { nx := fun _ M' => QF Q .non M', rt := QF Q } (dstart 2 ds) M := rd1 fun x M Q E h => by
  unfold S_Layer_growth at h
  obtain ⟨w, es, rfl, hz, h⟩ := h
  refine ⟨_, rfl, rfl, _, rfl, sz9 (by simpa using hz), fun i acc M' => M' = M ∧ acc = ((es.take i).map Ent.growth).map .int, ⟨rfl, rfl⟩, ?_, ?_⟩
  · rintro i acc d _ hd _ ⟨rfl, rfl⟩
    obtain ⟨e, he, rfl⟩ := ents_get hd
    refine yes ⟨_, rfl, egrowth_in ⟨rfl, ?_⟩⟩
    rw [List.take_succ, he]
    simp
  · rintro acc _ _ ⟨rfl, rfl⟩
    rw [List.length_map, List.take_length]
    exact ⟨_, rfl, qf_same h⟩

/-! writer_at(layer, place) -/
def wrP (p : Int) : Int → Nat → List Ent → Option Nat
  | _, _, [] => none
  | g, i, e :: es => if e.new.isSome = true ∧ e.p + g = p then some i else wrP p (g + e.growth) (i + 1) es
def optNat : Option Nat → D
  | none => .non
  | some i => .int i
theorem wrP_cons {p g : Int} {i : Nat} {e : Ent} {es : List Ent} : wrP p g i (e :: es) = if e.new.isSome = true ∧ e.p + g = p then some i else wrP p (g + e.growth) (i + 1) es := rfl
@[irreducible] def S_writer_at (x y : D) (M : Mem) (Q : DK) (_ : DXK) : Prop := ∃ (w : Nat) (es : List Ent) (p : Int), x = layD w es ∧ y = .int p ∧ Q (optNat (wrP p 0 0 es)) M
def sp_writer_at : DSp := spk2 S_writer_at
theorem writer_in {w : Nat} {es : List Ent} {p : Int} {M : Mem} {Q : DK} {E : DXK} (q : Q (optNat (wrP p 0 0 es)) M) : S_writer_at (layD w es) (.int p) M Q E := by
  unfold S_writer_at
  exact ⟨w, es, p, rfl, rfl, q⟩
def t_writer_at : DTS :=
  dSeq (dAsg (dC (.int 0)) (dgName 2))
  (dSeq (dFor (diEnumO "Layer" 0 (dVar 0)) (dgTup 2 (dgCons (dgName 3) (dgCons (dgName 4) (dgNil)))) (dSeqC (dIfS (dAnd (dTest (dBin dIsNot (dBin dIx (dVar 4) (dC (.int 2))) (dC .non))) (dTest (dBin dEq (dBin dAdd (dBin dIx (dVar 4) (dC (.int 0))) (dVar 2)) (dVar 1)))) (dRet (dVar 3)) (dNext))
  (dAsg (dBin dAdd (dVar 2) (dCall sp_entry_growth [] wNo (dCons (dVar 4) (dNil)))) (dgName 2))))
  (dRet (dC .non)))
theorem rd_writer_at : ∀ ds M Q E, sp_writer_at ds M Q E → t_writer_at { nx := fun _ M' => QF Q .non M', rt := QF Q } (dstart 5 ds) M := rd2 fun x y M Q E h => by
  unfold S_writer_at at h
  obtain ⟨w, es, p, rfl, rfl, h⟩ := h
  refine ⟨_, rfl, rfl, _, rfl, _, rfl, ?_⟩
  refine ⟨fun i σ M' => ∃ (x3 x4 : Option D) (g : Int), σ = [some (layD w es), some (.int p), some (.int g), x3, x4] ∧ M' = M ∧ wrP p 0 0 es = wrP p g i (es.drop i), ⟨_, _, 0, rfl, rfl, rfl⟩, ?_, ?_⟩
  · rintro i d _ M hd ⟨x3, x4, g, rfl, rfl, hg⟩
    obtain ⟨d, hd', rfl⟩ := enD_of hd
    obtain ⟨e, he, rfl⟩ := ents_get hd'
    have hdr : es.drop i = e :: es.drop (i + 1) := by
      obtain ⟨h1, rfl⟩ := List.getElem?_eq_some_iff.mp he
      exact (List.getElem_cons_drop h1).symm
    rw [hdr, wrP_cons] at hg
    refine ⟨rfl, rfl, ?_⟩
    refine ⟨fun σ M' => σ = [some (layD w es), some (.int p), some (.int g), some (.int i), some (entD e)] ∧ M' = M ∧ wrP p 0 0 es = wrP p (g + e.growth) (i + 1) (es.drop (i + 1)), ?_, ?_⟩
    · refine ⟨_, rfl, _, ent_at2 e, ?_⟩
      cases hn : e.new with
      | none =>
        rw [if_neg (by rw [hn]; simp)] at hg
        exact no (no ⟨rfl, rfl, hg⟩)
      | some r =>
        refine yes ⟨_, rfl, _, ent_at0 e, _, rfl, _, rfl, byc (fun h2 => ?_) fun h2 => ?_⟩
        · rw [if_pos ⟨by rw [hn]; rfl, h2⟩] at hg
          rw [hg] at h
          exact ⟨_, rfl, qf_same h⟩
        · rw [if_neg (fun z => h2 z.2)] at hg
          exact ⟨rfl, rfl, hg⟩
    · rintro _ _ ⟨rfl, rfl, hg⟩
      exact ⟨_, rfl, _, rfl, egrowth_in ⟨_, _, _, rfl, rfl, hg⟩⟩
  · rintro _ M ⟨x3, x4, g, rfl, rfl, hg⟩
    rw [enD_len, List.length_map, List.drop_length] at hg
    rw [hg] at h
    exact qf_same h

/-! old_place(layer, place) -/
def optIntO : Option Int → D
  | none => .non
  | some i => .int i
def oldP (p : Int) : Int → List Ent → Option Int
  | g, [] => some (p - g)
  | g, e :: es => if p < e.p + g then some (p - g) else if e.new.isSome = true ∧ e.p + g = p then none else oldP p (g + e.growth) es
theorem oldP_cons {p g : Int} {e : Ent} {es : List Ent} : oldP p g (e :: es) = if p < e.p + g then some (p - g) else if e.new.isSome = true ∧ e.p + g = p then none else oldP p (g + e.growth) es := rfl
theorem isNon_optB (a : Option Row) : (!isNon (optRow a)) = a.isSome := by cases a <;> rfl
@[irreducible] def S_old_place (x y : D) (M : Mem) (Q : DK) (_ : DXK) : Prop := ∃ (w : Nat) (es : List Ent) (p : Int), x = layD w es ∧ y = .int p ∧ Q (optIntO (oldP p 0 es)) M
def sp_old_place : DSp := spk2 S_old_place
theorem oldp_in {w : Nat} {es : List Ent} {p : Int} {M : Mem} {Q : DK} {E : DXK} (q : Q (optIntO (oldP p 0 es)) M) : S_old_place (layD w es) (.int p) M Q E := by
  unfold S_old_place
  exact ⟨w, es, p, rfl, rfl, q⟩
/-- the entries of a layer between two tables, split at a key -/
theorem split_lt {k : Int} : ∀ {l : List Ent}, l.Pairwise (fun e f => e.key < f.key) → ∃ pre post, l = pre ++ post ∧ (∀ e ∈ pre, e.key < k) ∧ (∀ e ∈ post, k ≤ e.key) ∧ pre = l.filter fun e => decide (e.key < k)
  | [], _ => ⟨[], [], rfl, by simp, by simp, rfl⟩
  | e :: l, h => by
    have h' := List.pairwise_cons.mp h
    by_cases hk : e.key < k
    · obtain ⟨pre, post, h1, h2, h3, h4⟩ := split_lt (k := k) h'.2
      refine ⟨e :: pre, post, by rw [h1]; rfl, fun f hf => ?_, h3, by rw [List.filter_cons, if_pos (by simpa using hk), ← h4]⟩
      rcases List.mem_cons.mp hf with z | z
      · rw [z]; exact hk
      · exact h2 f z
    · have all : ∀ f ∈ e :: l, k ≤ f.key := fun f hf => by
        rcases List.mem_cons.mp hf with z | z
        · rw [z]; omega
        · have := h'.1 f z; omega
      refine ⟨[], e :: l, rfl, by simp, all, (List.filter_eq_nil_iff.mpr fun f hf => ?_).symm⟩
      have := all f hf
      simp; omega
theorem lay_ascE (S T : List Row) : (lay S T).Pairwise fun e f => e.key < f.key := by have := lay_asc S T; rwa [List.pairwise_map] at this
theorem lay_at {S T : List Row} {e : Ent} (he : e ∈ lay S T) : e.p = rank S e.key ∧ e.old = find S e.key ∧ e.new = find T e.key ∧ find S e.key ≠ find T e.key := by
  obtain ⟨k, hk⟩ := mem_lay.mp he
  obtain ⟨h1, h2, h3, h4, h5⟩ := diff_key hk
  rw [h1]
  exact ⟨h2, h3, h4, h5⟩
theorem rank_lt {w : Nat} {S : List Row} (hS : Tab w S) {a b : Int} (h : a < b) (hf : (find S a).isSome = true) : rank S a < rank S b := by
  have := rank_between (S := S) h
  rw [hS.cntKey, if_pos hf] at this
  omega
theorem rank_le {S : List Row} {a : Int} : rank S a ≤ S.length := by unfold rank; exact List.countP_le_length
theorem rank_ltl {w : Nat} {S : List Row} (hS : Tab w S) {a : Int} (hf : (find S a).isSome = true) : rank S a < S.length :=
  Nat.lt_of_lt_of_le (rank_lt hS (show a < a + 1 by omega) hf) rank_le
/-- where an entry stands in the second table -/
theorem pos_at {w : Nat} {S T : List Row} (hS : Tab w S) (hT : Tab w T) {pre post : List Ent} {e : Ent} (h : pre ++ e :: post = lay S T) : e.p + (pre.map Ent.growth).sum = rank T e.key := by
  have ha := lay_ascE S T
  rw [← h] at ha
  have hp := List.pairwise_append.mp ha
  have hq := List.pairwise_cons.mp hp.2.1
  have hf : ((lay S T).filter fun f => decide (f.key < e.key)) = pre := by
    rw [← h, List.filter_append, List.filter_eq_self.mpr (fun f hf => by simpa using hp.2.2 f hf e (by simp)), List.filter_eq_nil_iff.mpr, List.append_nil]
    intro f hf
    rcases List.mem_cons.mp hf with z | z
    · rw [z]; simp
    · have := hq.1 f z; simp; omega
  have hg := lay_growth_before hS hT e.key
  rw [hf] at hg
  have := (lay_at (S := S) (T := T) (e := e) (by rw [← h]; simp)).1
  omega
theorem oldP_skip {w : Nat} {S T : List Row} (hS : Tab w S) (hT : Tab w T) {p : Int} : ∀ (pre pre0 post : List Ent), pre0 ++ (pre ++ post) = lay S T → (∀ e ∈ pre, ¬ p < rank T e.key ∧ ¬ (e.new.isSome = true ∧ (rank T e.key : Int) = p)) →
    oldP p (pre0.map Ent.growth).sum (pre ++ post) = oldP p ((pre0.map Ent.growth).sum + (pre.map Ent.growth).sum) post
  | [], pre0, post, _, _ => by simp
  | e :: pre, pre0, post, h, hc => by
    have hpos := pos_at hS hT (pre := pre0) (e := e) (post := pre ++ post) h
    obtain ⟨h1, h2⟩ := hc e (by simp)
    show oldP p _ (e :: (pre ++ post)) = _
    rw [oldP_cons, hpos, if_neg h1, if_neg h2]
    have ih := oldP_skip hS hT (p := p) pre (pre0 ++ [e]) post (by rw [← h]; simp) fun f hf => hc f (by simp [hf])
    rw [List.map_append, List.sum_append] at ih
    rw [show (pre0.map Ent.growth).sum + e.growth = (pre0.map Ent.growth).sum + ([e].map Ent.growth).sum by simp, ih]
    rw [List.map_cons, List.sum_cons]
    congr 1
    simp
    omega
theorem oldP_same {w : Nat} {S T : List Row} (hS : Tab w S) (hT : Tab w T) {k : Int} (hk : (find S k).isSome = true) (he : find S k = find T k) : oldP (rank T k) 0 (lay S T) = some (rank S k : Int) := by
  obtain ⟨pre, post, h1, h2, h3, h4⟩ := split_lt (k := k) (lay_ascE S T)
  have hkT : (find T k).isSome = true := by rw [← he]; exact hk
  have hg := lay_growth_before hS hT k
  rw [← h4] at hg
  have sk := oldP_skip hS hT (p := rank T k) pre [] post h1.symm fun e hm => by
    have hlt := h2 e hm
    have hat := lay_at (S := S) (T := T) (e := e) (by rw [h1]; simp [hm])
    have mono : rank T e.key ≤ rank T k := by have := rank_between (S := T) hlt; omega
    refine ⟨by omega, fun z => ?_⟩
    have := rank_lt hT hlt (by rw [← hat.2.2.1]; exact z.1)
    omega
  rw [h1]
  refine sk.trans ?_
  rw [List.map_nil, List.sum_nil, Int.zero_add]
  cases post with
  | nil => show some _ = some _; congr 1; omega
  | cons e rest =>
    have hm : e ∈ lay S T := by rw [h1]; simp
    have hat := lay_at hm
    have hge := h3 e (by simp)
    have hne : e.key ≠ k := fun z => hat.2.2.2 (by rw [z]; exact he)
    have hpos := pos_at hS hT (pre := pre) (e := e) (post := rest) h1.symm
    have := rank_lt hT (show k < e.key by omega) hkT
    rw [oldP_cons, hpos, if_pos (by omega)]
    congr 1
    omega
theorem oldP_far {w : Nat} {S T : List Row} (hS : Tab w S) (hT : Tab w T) {p : Int} (hp : (T.length : Int) ≤ p) : oldP p 0 (lay S T) = some (p - (T.length - S.length)) := by
  have sk := oldP_skip hS hT (p := p) (lay S T) [] [] (by simp) fun e hm => by
    have h1 := rank_le (S := T) (a := e.key)
    refine ⟨by omega, fun z => ?_⟩
    have := rank_ltl hT (a := e.key) (by rw [← (lay_at hm).2.2.1]; exact z.1)
    omega
  rw [List.append_nil, List.map_nil, List.sum_nil, Int.zero_add, lay_growth_all hS hT] at sk
  exact sk
def t_old_place : DTS :=
  dSeq (dAsg (dC (.int 0)) (dgName 2))
  (dSeq (dFor (diOwn "Layer" 0 (dVar 0)) (dgName 3) (dSeq (dIfS (dTest (dBin dGt (dBin dAdd (dBin dIx (dVar 3) (dC (.int 0))) (dVar 2)) (dVar 1))) (dBreak) (dNext))
  (dSeqC (dIfS (dAnd (dTest (dBin dIsNot (dBin dIx (dVar 3) (dC (.int 2))) (dC .non))) (dTest (dBin dEq (dBin dAdd (dBin dIx (dVar 3) (dC (.int 0))) (dVar 2)) (dVar 1)))) (dRet (dC .non)) (dNext))
  (dAsg (dBin dAdd (dVar 2) (dCall sp_entry_growth [] wNo (dCons (dVar 3) (dNil)))) (dgName 2)))))
  (dRet (dBin dSub (dVar 1) (dVar 2))))
theorem rd_old_place : ∀ ds M Q E, sp_old_place ds M Q E → t_old_place { nx := fun _ M' => QF Q .non M', rt := QF Q } (dstart 4 ds) M := rd2 fun x y M Q E h => by
  unfold S_old_place at h
  obtain ⟨w, es, p, rfl, rfl, h⟩ := h
  refine ⟨_, rfl, rfl, _, rfl, _, rfl, ?_⟩
  refine ⟨fun i σ M' => ∃ (x3 : Option D) (g : Int), σ = [some (layD w es), some (.int p), some (.int g), x3] ∧ M' = M ∧ oldP p 0 es = oldP p g (es.drop i), ⟨_, 0, rfl, rfl, rfl⟩, ?_, ?_⟩
  · rintro i d _ M hd ⟨x3, g, rfl, rfl, hg⟩
    obtain ⟨e, he, rfl⟩ := ents_get hd
    have hdr : es.drop i = e :: es.drop (i + 1) := by
      obtain ⟨h1, rfl⟩ := List.getElem?_eq_some_iff.mp he
      exact (List.getElem_cons_drop h1).symm
    rw [hdr, oldP_cons] at hg
    refine ⟨_, rfl, _, ent_at0 e, _, rfl, _, rfl, byc (fun h1 => ?_) fun h1 => ?_⟩
    · rw [if_pos h1] at hg
      rw [hg] at h
      exact ⟨_, rfl, _, rfl, qf_same h⟩
    rw [if_neg h1] at hg
    refine ⟨fun σ M' => σ = [some (layD w es), some (.int p), some (.int g), some (entD e)] ∧ M' = M ∧ oldP p 0 es = oldP p (g + e.growth) (es.drop (i + 1)), ?_, ?_⟩
    · refine ⟨_, rfl, _, ent_at2 e, ?_⟩
      cases hn : e.new with
      | none =>
        rw [if_neg (by rw [hn]; simp)] at hg
        exact no (no ⟨rfl, rfl, hg⟩)
      | some r =>
        refine yes ⟨_, rfl, _, ent_at0 e, _, rfl, _, rfl, byc (fun h2 => ?_) fun h2 => ?_⟩
        · rw [if_pos ⟨by rw [hn]; rfl, h2⟩] at hg
          rw [hg] at h
          exact qf_same h
        · rw [if_neg (fun z => h2 z.2)] at hg
          exact ⟨rfl, rfl, hg⟩
    · rintro _ _ ⟨rfl, rfl, hg⟩
      exact ⟨_, rfl, _, rfl, egrowth_in ⟨_, _, rfl, rfl, hg⟩⟩
  · rintro _ M ⟨x3, g, rfl, rfl, hg⟩
    rw [List.length_map, List.drop_length] at hg
    rw [hg] at h
    exact ⟨_, rfl, _, rfl, qf_same h⟩

/-! end_place(size, stop) -/
/-- a place where a stretch ends, or none -/
def stopD : Option Nat → D
  | none => .non
  | some b => .int b
def endN (n : Nat) : Option Nat → Nat
  | none => n
  | some b => min b n
@[irreducible] def S_end_place (x y : D) (M : Mem) (Q : DK) (_ : DXK) : Prop := ∃ (n : Nat) (o : Option Nat), x = .int n ∧ y = stopD o ∧ Q (.int (endN n o : Nat)) M
def sp_end_place : DSp := spk2 S_end_place
theorem endp_in {n : Nat} {o : Option Nat} {M : Mem} {Q : DK} {E : DXK} (q : Q (.int (endN n o : Nat)) M) : S_end_place (.int n) (stopD o) M Q E := by
  unfold S_end_place
  exact ⟨n, o, rfl, rfl, q⟩
def t_end_place : DTS :=
  dSeq (dIfS (dOr (dTest (dBin dIs (dVar 1) (dC .non))) (dTest (dBin dGt (dVar 1) (dVar 0)))) (dRet (dVar 0)) (dNext))
  (dRet (dVar 1))
theorem rd_end_place : ∀ ds M Q E, sp_end_place ds M Q E → t_end_place { nx := fun _ M' => QF Q .non M', rt := QF Q } (dstart 2 ds) M := rd2 fun x y M Q E h => by
  unfold S_end_place at h
  obtain ⟨n, o, rfl, rfl, h⟩ := h
  cases o with
  | none => exact ⟨_, rfl, yes (yes ⟨_, rfl, qf_same h⟩)⟩
  | some b =>
    refine ⟨_, rfl, no ⟨_, rfl, _, rfl, byc (fun hb => ⟨_, rfl, qf_same ?_⟩) fun hb => ⟨_, rfl, qf_same ?_⟩⟩⟩
    · have e : endN n (some b) = n := Nat.min_eq_right (by omega)
      rw [e] at h
      exact h
    · have e : endN n (some b) = b := Nat.min_eq_left (by omega)
      rw [e] at h
      exact h

/-! Table(width, rows), of a table's rows -/
/-- a table as a tree -/
def tableD (w : Nat) (S : List Row) : D := .obj (cA "Table") [.lst (S.map fun r => D.int (key r)), .lst (S.map rowD), .int w]
@[irreducible] def S_Table_new (x y : D) (M : Mem) (Q : DK) (_ : DXK) : Prop := ∃ (w : Nat) (S : List Row), x = .int w ∧ Seq y M (S.map rowD) ∧ Tab w S ∧ w ≤ 1000 ∧ S.length < 1000 ∧ Q (tableD w S) M
def sp_Table_new : DSp := spk2 S_Table_new
def sp_Table___init : DSp := dinit (cA "Table") sp_Table_new
theorem new_table {y : D} {w : Nat} {S : List Row} {M : Mem} {Q : DK} {E : DXK} (hy : Seq y M (S.map rowD)) (h : Tab w S) (hw : w ≤ 1000) (hz : S.length < 1000) (q : Q (tableD w S) M) : ∀ p, M p = none → S_Table_new (.int w) y M (fun d M' => ∃ fs, d = .obj (cA "Table") fs ∧ fs ≠ [] ∧ M' p = none ∧ Q d M') E :=
  fun p hp => by
    unfold S_Table_new
    exact ⟨w, S, rfl, hy, h, hw, hz, _, rfl, by simp, hp, q⟩
theorem keysT_of {S : List Row} {i : Nat} {r : Row} (h : S[i]? = some r) : ((S.take i).map fun r => D.int (key r)) ++ [D.int (key r)] = (S.take (i + 1)).map fun r => D.int (key r) := by
  rw [List.take_succ, h, List.map_append]
  rfl
theorem mset_delT {M : Mem} {p : Addr} {o : CO} : mset (mdel M p) p o = mset M p o := by
  funext a
  by_cases ha : a = p
  · rw [ha, mset_same, mset_same]
  · rw [mset_ne ha, mset_ne ha, mdel_ne ha]
theorem seq_msetT {x : D} {M : Mem} {p : Addr} {o : CO} {ds : List D} (h : Seq x (mdel M p) ds) : Seq x (mset M p o) ds := by
  rw [← mset_delT]
  exact h.more mdel_same
def t_Table___init : DTS :=
  dSeq (dDrop (dCall sp_check_width [] wNo (dCons (dVar 1) (dNil))))
  (dSeq (dSetF "Table" 2 (dVar 0) (dVar 1))
  (dSeq (dSetF "Table" 1 (dVar 0) (dCall sp_check_rows [] wNo (dCons (dVar 1) (dCons (dVar 2) (dNil)))))
  (dSetF "Table" 0 (dVar 0) (dLc (diSeq (dFld "Table" 1 (dVar 0))) (.nm 3) (dYes) (dBin dIx (dVar 3) (dC (.int 0))) [3]))))
theorem rd_Table___init : ∀ ds M Q E, sp_Table___init ds M Q E → t_Table___init { nx := fun _ M' => QF Q .non M', rt := QF Q } (dstart 4 ds) M := rdI fun p rest M Q E hm h => by
  match rest, h with
  | [x, y], h =>
    have h : S_Table_new _ _ _ _ _ := h
    unfold S_Table_new at h
    obtain ⟨w, S, rfl, hy, tS, hw, hz, fs, e, hne, _, h⟩ := h
    injection e with _ e
    subst e
    refine ⟨_, rfl, checkw_in (by have := tS.pos; omega) ?_⟩
    refine ⟨_, rfl, _, rfl, p, _, rfl, hm, ?_⟩
    refine ⟨_, rfl, _, rfl, checkr_in (seq_msetT hy) tS hw hz (.inl ⟨_, rfl, p, _, rfl, mset_same, ?_⟩)⟩
    rw [mset_mset]
    refine ⟨_, rfl, _, _, mset_same, rfl, ?_⟩
    refine ⟨sz9 (by rw [List.length_map]; omega), fun i acc M' => M' = mset M p (.ins (cA "Table") [none, some (.lst (S.map rowD)), some (.int w)]) ∧ acc = (S.take i).map fun r => D.int (key r), ⟨rfl, rfl⟩, ?_, ?_⟩
    · rintro i acc d _ hd _ ⟨rfl, rfl⟩
      obtain ⟨r, hr, rfl⟩ := rows_get hd
      exact yes ⟨_, rfl, _, row_key (tS.ne (List.mem_of_getElem? hr)), rfl, keysT_of hr⟩
    · rintro acc _ _ ⟨rfl, rfl⟩
      refine ⟨_, rfl, p, _, rfl, mset_same, ?_⟩
      rw [mset_mset, List.length_map, List.take_length]
      rw [mset_delT] at h
      exact qf_same h

/-! table.rank(key) -/
@[irreducible] def S_Table_rank (x y : D) (M : Mem) (Q : DK) (_ : DXK) : Prop := ∃ (w : Nat) (S : List Row) (k : Int), x = tableD w S ∧ y = .int k ∧ Tab w S ∧ Q (.int (rank S k)) M
def sp_Table_rank : DSp := spk2 S_Table_rank
theorem trank_in {w : Nat} {S : List Row} {k : Int} {M : Mem} {Q : DK} {E : DXK} (h : Tab w S) (q : Q (.int (rank S k)) M) : S_Table_rank (tableD w S) (.int k) M Q E := by
  unfold S_Table_rank
  exact ⟨w, S, k, rfl, rfl, h, q⟩
def t_Table_rank : DTS :=
  dRet (dCall sp_count_below [] wNo (dCons (dFld "Table" 0 (dVar 0)) (dCons (dVar 1) (dNil))))
theorem rd_Table_rank : ∀ ds M Q E, sp_Table_rank ds M Q E → t_Table_rank { nx := fun _ M' => QF Q .non M', rt := QF Q } (dstart 2 ds) M := rd2 fun x y M Q E h => by
  unfold S_Table_rank at h
  obtain ⟨w, S, k, rfl, rfl, tS, h⟩ := h
  have e : (S.map fun r => D.int (key r)) = (S.map key).map D.int := by rw [List.map_map]; rfl
  refine ⟨_, rfl, rfl, _, rfl, _, rfl, count_in (ns := S.map key) (by rw [e]; exact Seq.lst) (tS.keys.imp fun h => Int.le_of_lt h) (qf_same ?_)⟩
  have er : (S.map key).countP (· < k) = rank S k := by
    unfold rank
    rw [List.countP_map]
    rfl
  rw [er]
  exact h

/-! table.find(key) -/
theorem rank_pos {w : Nat} {T : List Row} (hT : Tab w T) {j : Nat} {r : Row} (hj : T[j]? = some r) : rank T (key r) = j := by
  unfold rank
  obtain ⟨h1, h2⟩ := List.getElem?_eq_some_iff.mp hj
  have hp := List.pairwise_iff_getElem.mp hT.asc
  have h0 : T = T.take j ++ T.drop j := (List.take_append_drop j T).symm
  rw [h0, List.countP_append]
  have c1 : (T.take j).countP (fun s => decide (key s < key r)) = j := by
    have hl : (T.take j).length = j := by simp; omega
    refine (List.countP_eq_length.mpr fun s hs => ?_).trans hl
    obtain ⟨i, hi⟩ := List.mem_iff_getElem?.mp hs
    obtain ⟨hi1, hi2⟩ := List.getElem?_eq_some_iff.mp hi
    have hij : i < j := by simp at hi1; omega
    rw [List.getElem_take] at hi2
    have := hp i j (by omega) h1 hij
    rw [hi2, h2] at this
    simpa using this
  have c2 : (T.drop j).countP (fun s => decide (key s < key r)) = 0 := by
    rw [List.countP_eq_zero]
    intro s hs
    obtain ⟨i, hi⟩ := List.mem_iff_getElem?.mp hs
    obtain ⟨hi1, hi2⟩ := List.getElem?_eq_some_iff.mp hi
    rw [List.getElem_drop] at hi2
    rcases Nat.eq_zero_or_pos i with z | z
    · subst z
      rw [← hi2, ← h2]
      simp
    · have := hp j (j + i) h1 (by simp at hi1; omega) (by omega)
      rw [hi2, h2] at this
      simp; omega
  rw [c1, c2]
  rfl
theorem find_at {w : Nat} {S : List Row} (tS : Tab w S) {k : Int} : find S k = (S[rank S k]?).filter fun r => decide (key r = k) := by
  cases h : find S k with
  | some r =>
    obtain ⟨h1, h2⟩ := find_some h
    obtain ⟨j, hj⟩ := List.mem_iff_getElem?.mp h1
    have := rank_pos tS hj
    rw [h2] at this
    rw [this, hj]
    simp [Option.filter, h2]
  | none =>
    cases hg : S[rank S k]? with
    | none => rfl
    | some r =>
      by_cases hk : key r = k
      · have := tS.find (List.mem_of_getElem? hg)
        rw [hk, h] at this
        cases this
      · simp [Option.filter, hk]
@[irreducible] def S_Table_find (x y : D) (M : Mem) (Q : DK) (_ : DXK) : Prop := ∃ (w : Nat) (S : List Row) (k : Int), x = tableD w S ∧ y = .int k ∧ Tab w S ∧ Q (optRow (find S k)) M
def sp_Table_find : DSp := spk2 S_Table_find
theorem tfind_in {w : Nat} {S : List Row} {k : Int} {M : Mem} {Q : DK} {E : DXK} (h : Tab w S) (q : Q (optRow (find S k)) M) : S_Table_find (tableD w S) (.int k) M Q E := by
  unfold S_Table_find
  exact ⟨w, S, k, rfl, rfl, h, q⟩
def t_Table_find : DTS :=
  dSeq (dAsg (dMeth "Table" sp_Table_rank wNo (dVar 0) (dCons (dVar 1) (dNil))) (dgName 2))
  (dSeqC (dIfS (dAnd (dTest (dBin dLt (dVar 2) (dCB (r1 dLen) (dCons (dFld "Table" 1 (dVar 0)) (dNil))))) (dTest (dBin dEq (dBin dIx (dFld "Table" 0 (dVar 0)) (dVar 2)) (dVar 1)))) (dRet (dBin dIx (dFld "Table" 1 (dVar 0)) (dVar 2))) (dNext))
  (dRet (dC .non)))
theorem rd_Table_find : ∀ ds M Q E, sp_Table_find ds M Q E → t_Table_find { nx := fun _ M' => QF Q .non M', rt := QF Q } (dstart 3 ds) M := rd2 fun x y M Q E h => by
  unfold S_Table_find at h
  obtain ⟨w, S, k, rfl, rfl, tS, h⟩ := h
  rw [find_at tS] at h
  refine ⟨_, rfl, rfl, _, rfl, trank_in tS ?_⟩
  generalize rank S k = c at h
  have hle : (S.map rowD).length = S.length := List.length_map ..
  refine ⟨fun σ M' => (∀ r, S[c]? = some r → key r ≠ k) ∧ M' = M, ?_, ?_⟩
  · refine ⟨_, rfl, _, rfl, rfl, _, rfl, byc (fun hc => ?_) fun hc => no ⟨fun r hr => ?_, rfl⟩⟩
    · have hc : c < S.length := by omega
      have hg : S[c]? = some S[c] := List.getElem?_eq_getElem hc
      generalize S[c] = r at hg
      refine ⟨_, rfl, rfl, _, rfl, _, rfl, D.int (key r), atI_nat (by rw [List.getElem?_map, hg]; rfl), _, rfl, byc (fun he => ?_) fun he => ⟨fun r' hr' => ?_, rfl⟩⟩
      · rw [hg] at h
        refine ⟨_, rfl, rfl, _, rfl, _, rfl, _, atI_map hg, qf_same ?_⟩
        have e1 : (some r).filter (fun r => decide (key r = k)) = some r := by simp [Option.filter, he]
        rw [e1] at h
        exact h
      · rw [hg] at hr'
        cases hr'
        exact he
    · have hl := (List.getElem?_eq_some_iff.mp hr).1
      omega
  · rintro σ M' ⟨hn, rfl⟩
    have e1 : (S[c]?).filter (fun r => decide (key r = k)) = none := by
      cases hg : S[c]? with
      | none => rfl
      | some r => simp [Option.filter, hn r hg]
    rw [e1] at h
    exact qf_same h

/-! table.misfit(layer), of any entries -/
/-- the entries fit the table -/
def Fits (S : List Row) (es : List Ent) : Prop := ∀ e ∈ es, e.Ok ∧ e.p = rank S e.key ∧ e.old = find S e.key
/-- the entry does not fit -/
def misB (S : List Row) (e : Ent) : Bool := !(decide (e.p = rank S e.key) && decide (e.old = find S e.key))
def misI (S : List Row) (es : List Ent) : Option Nat := es.findIdx? (misB S)
def optN : Option Nat → D
  | none => .non
  | some i => .int i
theorem isNon_optN (a : Option Nat) : isNon (optN a) = a.isNone := by cases a <;> rfl
theorem misB_no {S : List Row} {e : Ent} : misB S e = false ↔ e.p = rank S e.key ∧ e.old = find S e.key := by
  unfold misB
  simp
theorem misI_fits {S : List Row} {es : List Ent} (h : Fits S es) : misI S es = none := by
  unfold misI
  rw [List.findIdx?_eq_none_iff]
  intro e he
  exact misB_no.mpr (h e he).2
theorem misI_none {S : List Row} {es : List Ent} (ok : ∀ e ∈ es, e.Ok) (h : misI S es = none) : Fits S es := by
  unfold misI at h
  rw [List.findIdx?_eq_none_iff] at h
  exact fun e he => ⟨ok e he, misB_no.mp (h e he)⟩
@[irreducible] def S_Table_misfit (x y : D) (M : Mem) (Q : DK) (_ : DXK) : Prop := ∃ (w v : Nat) (S : List Row) (es : List Ent), x = tableD w S ∧ y = layD v es ∧ Tab w S ∧ (∀ e ∈ es, e.Ok) ∧ Q (optN (misI S es)) M
def sp_Table_misfit : DSp := spk2 S_Table_misfit
theorem misfit_any {w v : Nat} {S : List Row} {es : List Ent} {M : Mem} {Q : DK} {E : DXK} (h : Tab w S) (hf : ∀ e ∈ es, e.Ok) (q : Q (optN (misI S es)) M) : S_Table_misfit (tableD w S) (layD v es) M Q E := by
  unfold S_Table_misfit
  exact ⟨w, v, S, es, rfl, rfl, h, hf, q⟩
theorem misfit_in {w v : Nat} {S : List Row} {es : List Ent} {M : Mem} {Q : DK} {E : DXK} (h : Tab w S) (hf : Fits S es) (q : Q .non M) : S_Table_misfit (tableD w S) (layD v es) M Q E :=
  misfit_any h (fun e he => (hf e he).1) (by rw [misI_fits hf]; exact q)
def t_Table_misfit : DTS :=
  dSeq (dFor (diEnumO "Layer" 0 (dVar 1)) (dgTup 2 (dgCons (dgName 2) (dgCons (dgName 3) (dgNil)))) (dSeq (dAsg (dCall sp_entry_key [] wNo (dCons (dVar 3) (dNil))) (dgName 4))
  (dIfS (dOr (dTest (dBin dNe (dBin dIx (dVar 3) (dC (.int 0))) (dMeth "Table" sp_Table_rank wNo (dVar 0) (dCons (dVar 4) (dNil))))) (dTest (dBin dNe (dBin dIx (dVar 3) (dC (.int 1))) (dMeth "Table" sp_Table_find wNo (dVar 0) (dCons (dVar 4) (dNil)))))) (dRet (dVar 2)) (dNext))))
  (dRet (dC .non))
theorem rd_Table_misfit : ∀ ds M Q E, sp_Table_misfit ds M Q E → t_Table_misfit { nx := fun _ M' => QF Q .non M', rt := QF Q } (dstart 5 ds) M := rd2 fun x y M Q E h => by
  unfold S_Table_misfit at h
  obtain ⟨w, v, S, es, rfl, rfl, tS, hf, h⟩ := h
  refine ⟨_, rfl, rfl, _, rfl, _, rfl, ?_⟩
  have found : ∀ {i : Nat} {e : Ent}, es[i]? = some e → (∀ f ∈ es.take i, misB S f = false) → misB S e = true → misI S es = some i := fun {i e} he hb hm => by
    obtain ⟨hi, rfl⟩ := List.getElem?_eq_some_iff.mp he
    unfold misI
    rw [List.findIdx?_eq_some_iff_getElem]
    refine ⟨hi, hm, fun j hj => ?_⟩
    rw [hb _ (List.mem_iff_getElem?.mpr ⟨j, by rw [List.getElem?_take_of_lt hj, List.getElem?_eq_getElem (by omega)]⟩)]
    decide
  refine ⟨fun i σ M' => ∃ x2 x3 x4 : Option D, σ = [some (tableD w S), some (layD v es), x2, x3, x4] ∧ M' = M ∧ ∀ f ∈ es.take i, misB S f = false, ⟨_, _, _, rfl, rfl, by simp⟩, ?_, ?_⟩
  · rintro i d _ M hd ⟨x2, x3, x4, rfl, rfl, hb⟩
    obtain ⟨d, hd', rfl⟩ := enD_of hd
    obtain ⟨e, he, rfl⟩ := ents_get hd'
    have h1 := hf e (List.mem_of_getElem? he)
    refine ⟨rfl, rfl, ?_⟩
    have ret : misB S e = true → QF Q (.int i) M := fun hm => by
      have z := found he hb hm
      rw [z] at h
      exact qf_same h
    refine ⟨_, rfl, ekey_in h1 ?_⟩
    refine ⟨_, rfl, _, ent_at0 e, _, rfl, rfl, _, rfl, trank_in tS (bync (fun hn => yes ⟨_, rfl, ret ?_⟩) fun h2 => ?_)⟩
    · unfold misB
      simp [hn]
    refine ⟨_, rfl, _, ent_at1 e, _, rfl, rfl, _, rfl, tfind_in tS (dNe_opt (bync (fun hn => ⟨_, rfl, ret ?_⟩) fun h3 => ⟨_, _, _, rfl, rfl, ?_⟩))⟩
    · unfold misB
      simp [hn]
    · rw [List.take_succ, he]
      intro f hf
      rcases List.mem_append.mp hf with hf | hf
      · exact hb f hf
      · have : f = e := by simpa using hf
        rw [this]
        exact misB_no.mpr ⟨h2, h3⟩
  · rintro _ M ⟨x2, x3, x4, rfl, rfl, hb⟩
    have z : misI S es = none := by
      unfold misI
      rw [List.findIdx?_eq_none_iff]
      intro e he
      exact hb e (by rw [enD_len, List.length_map, List.take_length]; exact he)
    rw [z] at h
    exact qf_same h

/-! laid(rows, layer), of a layer whose places are no less than 0 -/
def laidE (S : List Row) : Nat → List Ent → List Row
  | d, [] => S.drop d
  | d, e :: es => (S.drop d).take (e.p.toNat - d) ++ e.new.toList ++ laidE S (e.p.toNat + if e.old.isSome then 1 else 0) es
theorem laidE_cons {S : List Row} {d : Nat} {e : Ent} {es : List Ent} : laidE S d (e :: es) = (S.drop d).take (e.p.toNat - d) ++ e.new.toList ++ laidE S (e.p.toNat + if e.old.isSome then 1 else 0) es := rfl
theorem cutD_from {ds : List D} {n : Nat} : cutD ds (some (n : Int)) none = ds.drop n := by
  unfold cutD
  rw [HT.sIx_none, HT.sIx_nat]
  rcases Nat.le_total n ds.length with h | h
  · rw [Nat.min_eq_left h]
    exact List.take_of_length_le (by simp)
  · rw [Nat.min_eq_right h, List.drop_length, List.drop_of_length_le h]
    simp
theorem sl_from {ds : List D} {a : Nat} {M : Mem} {Q : DK} (q : Q (.lst (ds.drop a)) M) : dSl (.lst ds) (some (a : Int)) none M Q := by
  show Q (.lst (cutD ds (some (a : Int)) none)) M
  rw [cutD_from]
  exact q
theorem cutD_mid {ds : List D} {a b : Nat} : cutD ds (some (a : Int)) (some (b : Int)) = (ds.drop a).take (b - a) := by
  unfold cutD
  rw [HT.sIx_nat, HT.sIx_nat]
  rcases Nat.le_total a ds.length with h | h
  · rw [Nat.min_eq_left h]
    rcases Nat.le_total b ds.length with h2 | h2
    · rw [Nat.min_eq_left h2]
    · rw [Nat.min_eq_right h2, List.take_of_length_le (by simp), List.take_of_length_le (by simp; omega)]
  · rw [Nat.min_eq_right h, List.drop_length, List.drop_of_length_le h]
    simp
theorem sl_mid {ds : List D} {a b : Nat} {M : Mem} {Q : DK} (q : Q (.lst ((ds.drop a).take (b - a))) M) : dSl (.lst ds) (some (a : Int)) (some (b : Int)) M Q := by
  show Q (.lst (cutD ds (some (a : Int)) (some (b : Int)))) M
  rw [cutD_mid]
  exact q
theorem szBig {n : Nat} (h : n ≤ 100000) : n ≤ sizeLine := Nat.le_trans h (by decide)
theorem szBlt {n : Nat} (h : n ≤ 100000) : n < sizeLine := Nat.lt_of_le_of_lt h (by decide)
@[irreducible] def S_laid (x y : D) (M : Mem) (Q : DK) (_ : DXK) : Prop := ∃ (w : Nat) (S : List Row) (es : List Ent), x = .lst (S.map rowD) ∧ y = layD w es ∧ S.length ≤ 200 ∧ es.length ≤ 200 ∧ (∀ e ∈ es, 0 ≤ e.p) ∧ FL Q M ((laidE S 0 es).map rowD)
def sp_laid : DSp := spk2 S_laid
theorem laid_in {w : Nat} {S : List Row} {es : List Ent} {M : Mem} {Q : DK} {E : DXK} (h1 : S.length ≤ 200) (h2 : es.length ≤ 200) (h3 : ∀ e ∈ es, 0 ≤ e.p) (q : FL Q M ((laidE S 0 es).map rowD)) : S_laid (.lst (S.map rowD)) (layD w es) M Q E := by
  unfold S_laid
  exact ⟨w, S, es, rfl, rfl, h1, h2, h3, q⟩
def t_laid : DTS :=
  dSeq (dAsg (dLstC (dNil)) (dgName 2))
  (dSeq (dAsg (dC (.int 0)) (dgName 3))
  (dSeq (dFor (diOwn "Layer" 0 (dVar 1)) (dgTup 3 (dgCons (dgName 4) (dgCons (dgName 5) (dgCons (dgName 6) (dgNil))))) (dSeq (dDrop (dLM dExtend (dVar 2) (dCons (dSlice dSl (dVar 0) (dPart (dVar 3)) (dPart (dVar 4))) (dNil))))
  (dSeq (dAsg (dBin dAdd (dVar 4) (dCB (r1 dInt) (dCons (dBin dIsNot (dVar 5) (dC .non)) (dNil)))) (dgName 3))
  (dIfS (dTest (dBin dIsNot (dVar 6) (dC .non))) (dDrop (dApp (dVar 2) (dCons (dVar 6) (dNil)))) (dNext)))))
  (dSeq (dDrop (dLM dExtend (dVar 2) (dCons (dSlice dSl (dVar 0) (dPart (dVar 3)) (dNoPart)) (dNil))))
  (dRet (dVar 2)))))
theorem rd_laid : ∀ ds M Q E, sp_laid ds M Q E → t_laid { nx := fun _ M' => QF Q .non M', rt := QF Q } (dstart 7 ds) M := rd2 fun x y M Q E h => by
  unfold S_laid at h
  obtain ⟨w, S, es, rfl, rfl, hS, hE, hp0, h⟩ := h
  refine ⟨by decide, fun p hp => ⟨_, rfl, rfl, _, rfl, _, rfl, ?_⟩⟩
  refine ⟨fun i σ M' => ∃ (x4 x5 x6 : Option D) (d : Nat) (R : List Row), σ = [some (.lst (S.map rowD)), some (layD w es), some (.ref p), some (.int d), x4, x5, x6] ∧ M' = mset M p (.lst (R.map rowD)) ∧ R ++ laidE S d (es.drop i) = laidE S 0 es ∧ R.length ≤ 201 * i, ⟨_, _, _, 0, [], rfl, rfl, rfl, Nat.le_refl _⟩, ?_, ?_⟩
  · rintro i d _ _ hd ⟨x4, x5, x6, d0, R, rfl, rfl, hR, hl⟩
    obtain ⟨e, he, rfl⟩ := ents_get hd
    have hp1 := hp0 e (List.mem_of_getElem? he)
    have hil : i < es.length := (List.getElem?_eq_some_iff.mp he).1
    have hdr : es.drop i = e :: es.drop (i + 1) := by
      obtain ⟨h1, rfl⟩ := List.getElem?_eq_some_iff.mp he
      exact (List.getElem_cons_drop h1).symm
    rw [hdr] at hR
    clear hd he hdr
    obtain ⟨ep, eo, en⟩ := e
    obtain ⟨q, rfl⟩ : ∃ q : Nat, ep = q := ⟨ep.toNat, by have : 0 ≤ ep := hp1; omega⟩
    rw [laidE_cons] at hR
    have hR : R ++ ((S.drop d0).take (q - d0) ++ en.toList ++ laidE S (q + if eo.isSome then 1 else 0) (es.drop (i + 1))) = laidE S 0 es := hR
    have hcut : ((S.drop d0).take (q - d0)).length ≤ 200 := by simp; omega
    refine ⟨rfl, rfl, ?_⟩
    refine ⟨_, rfl, ⟨p, _, rfl, mset_same⟩, _, rfl, _, rfl, _, rfl, sl_mid ?_⟩
    refine ⟨_, _, _, rfl, mset_same, LstOf.lst, szBig (by simp; omega), ?_⟩
    rw [mset_mset, ← List.map_drop, ← List.map_take, ← List.map_append]
    have ed : ((q : Int) + if (!isNon (optRow eo)) = true then 1 else 0) = ((q + if eo.isSome then 1 else 0 : Nat) : Int) := by
      cases eo <;> rfl
    refine ⟨_, rfl, _, rfl, ?_⟩
    cases en with
    | none =>
      refine ⟨_, rfl, no ⟨_, _, _, q + if eo.isSome then 1 else 0, R ++ (S.drop d0).take (q - d0), by rw [← ed]; rfl, rfl, ?_, by simp; omega⟩⟩
      rw [← hR]
      simp
    | some r =>
      refine ⟨_, rfl, yes ⟨_, rfl, ⟨p, _, rfl, mset_same⟩, _, rfl, p, _, _, rfl, rfl, mset_same, szBlt (by simp; omega), ?_⟩⟩
      refine ⟨_, _, _, q + if eo.isSome then 1 else 0, R ++ (S.drop d0).take (q - d0) ++ [r], by rw [← ed]; rfl, ?_, ?_, by simp; omega⟩
      · rw [mset_mset, List.map_append (l₂ := [r])]
        rfl
      · rw [← hR]
        simp
  · rintro _ _ ⟨x4, x5, x6, d0, R, rfl, rfl, hR, hl⟩
    rw [List.length_map, List.drop_length] at hR
    have hR : R ++ S.drop d0 = laidE S 0 es := hR
    rw [List.length_map] at hl
    refine ⟨_, rfl, ⟨p, _, rfl, mset_same⟩, _, rfl, _, rfl, sl_from ?_⟩
    refine ⟨_, _, _, rfl, mset_same, LstOf.lst, szBig (by simp; omega), ?_⟩
    rw [mset_mset, ← List.map_drop, ← List.map_append, hR]
    exact ⟨_, rfl, fl_ret h hp⟩

/-! parts of a layer -/
theorem ext_by {α : Type} {f : α → Int} : ∀ {a b : List α}, a.Pairwise (fun x y => f x < f y) → b.Pairwise (fun x y => f x < f y) → (∀ k, k ∈ a ↔ k ∈ b) → a = b
  | [], [], _, _, _ => rfl
  | [], y :: b, _, _, h => absurd ((h y).mpr (by simp)) (by simp)
  | x :: a, [], _, _, h => absurd ((h x).mp (by simp)) (by simp)
  | x :: a, y :: b, ha, hb, h => by
    rw [List.pairwise_cons] at ha hb
    have hx : x = y := by
      rcases List.mem_cons.mp ((h x).mp (by simp)) with e | e
      · exact e
      · rcases List.mem_cons.mp ((h y).mpr (by simp)) with e2 | e2
        · exact e2.symm
        · have := ha.1 y e2
          have := hb.1 x e
          omega
    subst hx
    congr 1
    refine ext_by ha.2 hb.2 fun k => ?_
    constructor
    · intro hk
      rcases List.mem_cons.mp ((h k).mp (by simp [hk])) with e | e
      · have := ha.1 k hk; rw [e] at this; omega
      · exact e
    · intro hk
      rcases List.mem_cons.mp ((h k).mpr (by simp [hk])) with e | e
      · have := hb.1 k hk; rw [e] at this; omega
      · exact e
theorem lay_atL {S T : List Row} {e : Ent} (he : e ∈ lay S T) : e.p = rank S e.key ∧ e.old = find S e.key ∧ e.new = find T e.key ∧ find S e.key ≠ find T e.key := by
  obtain ⟨k, hk⟩ := mem_lay.mp he
  obtain ⟨h1, h2, h3, h4, h5⟩ := diff_key hk
  rw [h1]
  exact ⟨h2, h3, h4, h5⟩
theorem lay_pwL {S T : List Row} : (lay S T).Pairwise fun e f => e.key < f.key := by have := lay_asc S T; rwa [List.pairwise_map] at this
/-- the second table's rows at the keys, else the first one's -/
def mixG (S T : List Row) (ks : List Int) (k : Int) : Option Row := if k ∈ ks then find T k else find S k
def mixE (S T : List Row) (ks : List Int) : List Row := (keysOf S T).filterMap (mixG S T ks)
/-- a part of a layer leads to a table of its own -/
theorem part_mix {w : Nat} {S T : List Row} (tS : Tab w S) (tT : Tab w T) {es : List Ent} (hs : es.Sublist (lay S T)) : Tab w (mixE S T (es.map Ent.key)) ∧ (mixE S T (es.map Ent.key)).length ≤ S.length + T.length ∧ lay S (mixE S T (es.map Ent.key)) = es := by
  let g : Int → Option Row := mixG S T (es.map Ent.key)
  have gk : ∀ k r, g k = some r → key r = k ∧ (r ∈ S ∨ r ∈ T) := fun k r h => by
    by_cases z : k ∈ es.map Ent.key
    · have h : find T k = some r := by rw [← h]; exact (if_pos z).symm
      exact ⟨(find_some h).2, .inr (find_some h).1⟩
    · have h : find S k = some r := by rw [← h]; exact (if_neg z).symm
      exact ⟨(find_some h).2, .inl (find_some h).1⟩
  have tM : Tab w ((keysOf S T).filterMap g) := by
    refine ⟨tS.pos, fun r hr => ?_, ?_⟩
    · obtain ⟨k, _, hk⟩ := List.mem_filterMap.mp hr
      exact (gk k r hk).2.elim (tS.wid r) (tT.wid r)
    · rw [List.pairwise_filterMap]
      refine (asc_ascOf _).imp ?_
      intro a b hab r hr s hs
      rw [(gk a r hr).1, (gk b s hs).1]
      exact hab
  have hf : ∀ k, find ((keysOf S T).filterMap g) k = g k := fun k => by
    cases hg : g k with
    | some r =>
      have hm : r ∈ (keysOf S T).filterMap g := List.mem_filterMap.mpr ⟨k, by
        rw [mem_keysOf]
        obtain ⟨h1, h2⟩ := gk k r hg
        rw [← h1]
        exact h2.imp (fun h => List.mem_map_of_mem h) fun h => List.mem_map_of_mem h, hg⟩
      have := tM.find hm
      rw [(gk k r hg).1] at this
      exact this
    | none =>
      cases hx : find ((keysOf S T).filterMap g) k with
      | none => rfl
      | some r =>
        obtain ⟨h1, h2⟩ := find_some hx
        obtain ⟨j, _, hj⟩ := List.mem_filterMap.mp h1
        have := (gk j r hj).1
        rw [h2] at this
        rw [← this, hg] at hj
        cases hj
  refine ⟨tM, Nat.le_trans filterMap_len keysOf_len, ?_⟩
  have hpe : es.Pairwise fun e f => e.key < f.key := lay_pwL.sublist hs
  refine ext_by (f := Ent.key) lay_pwL hpe fun e => ?_
  constructor
  · intro he
    obtain ⟨p1, p2, p3, p4⟩ := lay_atL he
    have p3 : e.new = find ((keysOf S T).filterMap g) e.key := p3
    have p4 : find S e.key ≠ find ((keysOf S T).filterMap g) e.key := p4
    rw [hf] at p3 p4
    have z : e.key ∈ es.map Ent.key := by
      cases Classical.em (e.key ∈ es.map Ent.key) with
      | inl z => exact z
      | inr z => exact absurd (show find S e.key = g e.key from (if_neg z).symm) p4
    have hg : g e.key = find T e.key := if_pos z
    obtain ⟨f, hfm, hfk⟩ := List.mem_map.mp z
    obtain ⟨q1, q2, q3, _⟩ := lay_atL (hs.subset hfm)
    rw [hfk] at q1 q2 q3
    have a1 : f.p = e.p := by rw [q1, p1]
    have a2 : f.old = e.old := by rw [q2, p2]
    have a3 : f.new = e.new := by rw [q3, p3, hg]
    have : f = e := by
      show (⟨f.p, f.old, f.new⟩ : Ent) = ⟨e.p, e.old, e.new⟩
      rw [a1, a2, a3]
    rw [← this]
    exact hfm
  · intro he
    obtain ⟨q1, q2, q3, q4⟩ := lay_atL (hs.subset he)
    have hg : g e.key = find T e.key := if_pos (List.mem_map_of_mem he)
    refine mem_lay.mpr ⟨e.key, ?_⟩
    unfold diff
    show (if find S e.key = find ((keysOf S T).filterMap g) e.key then none else some (⟨rank S e.key, find S e.key, find ((keysOf S T).filterMap g) e.key⟩ : Ent)) = some e
    rw [hf, hg, if_neg q4, ← q1, ← q2, ← q3]
theorem part_table {w : Nat} {S T : List Row} (tS : Tab w S) (tT : Tab w T) {es : List Ent} (hs : es.Sublist (lay S T)) : ∃ M, Tab w M ∧ M.length ≤ S.length + T.length ∧ lay S M = es := ⟨_, part_mix tS tT hs⟩

/-! table + layer, of a layer that fits -/
@[irreducible] def S_Table___add (x y : D) (M : Mem) (Q : DK) (_ : DXK) : Prop := ∃ (w : Nat) (S R : List Row) (es : List Ent), x = tableD w S ∧ y = layD w es ∧ Tab w S ∧ w ≤ 1000 ∧ S.length ≤ 200 ∧ es.length ≤ 200 ∧ Fits S es ∧ laidE S 0 es = R ∧ Tab w R ∧ R.length < 1000 ∧ Q (tableD w R) M
def sp_Table___add : DSp := spk2 S_Table___add
theorem tadd_in {w : Nat} {S R : List Row} {es : List Ent} {M : Mem} {Q : DK} (h1 : Tab w S) (h2 : w ≤ 1000) (h3 : S.length ≤ 200) (h4 : es.length ≤ 200) (h5 : Fits S es) (h6 : laidE S 0 es = R) (h7 : Tab w R) (h8 : R.length < 1000) (q : Q (tableD w R) M) : dBinO2 "Table" "Layer" sp_Table___add (tableD w S) (layD w es) M Q := by
  refine ⟨rfl, rfl, ?_⟩
  show S_Table___add _ _ _ _ _
  unfold S_Table___add
  exact ⟨w, S, R, es, rfl, rfl, h1, h2, h3, h4, h5, h6, h7, h8, q⟩
theorem split_by {α : Type} {f : α → Int} {l : List α} (h : l.Pairwise fun x y => f x < f y) {a k : Int} (hak : a ≤ k) : (l.filter fun x => decide (a ≤ f x)) = (l.filter fun x => decide (a ≤ f x) && decide (f x < k)) ++ l.filter fun x => decide (k ≤ f x) := by
  refine ext_by (f := f) (h.filter _) (List.pairwise_append.mpr ⟨h.filter _, h.filter _, fun x hx y hy => ?_⟩) fun x => ?_
  · have := (List.mem_filter.mp hx).2
    have := (List.mem_filter.mp hy).2
    simp at *
    omega
  · rw [List.mem_append, List.mem_filter, List.mem_filter, List.mem_filter]
    simp
    constructor
    · rintro ⟨h1, h2⟩
      by_cases z : f x < k
      · exact .inl ⟨h1, h2, z⟩
      · exact .inr ⟨h1, by omega⟩
    · rintro (⟨h1, h2, _⟩ | ⟨h1, h2⟩)
      · exact ⟨h1, h2⟩
      · exact ⟨h1, by omega⟩
theorem drop_rank {w : Nat} {S : List Row} (tS : Tab w S) {a : Int} : S.drop (rank S a) = S.filter fun r => decide (a ≤ key r) := by
  induction S with
  | nil => rfl
  | cons r S ih =>
    have hp := List.pairwise_cons.mp tS.asc
    have e : rank (r :: S) a = rank S a + if key r < a then 1 else 0 := by
      unfold rank
      rw [List.countP_cons]
      simp
    rw [e, List.filter_cons]
    by_cases h : key r < a
    · rw [if_pos h, if_neg (by simp; omega), List.drop_succ_cons]
      exact ih tS.tail
    · have z : rank S a = 0 := by
        unfold rank
        rw [List.countP_eq_zero]
        intro s hs
        have := hp.1 s hs
        simp; omega
      rw [if_neg h, z, if_pos (by simp; omega)]
      show r :: S = r :: _
      congr 1
      exact (List.filter_eq_self.mpr fun s hs => by have := hp.1 s hs; simp; omega).symm
theorem rank_mid {S : List Row} {a k : Int} (hak : a ≤ k) : rank S k = rank S a + (S.filter fun r => decide (a ≤ key r) && decide (key r < k)).length := by
  induction S with
  | nil => rfl
  | cons r S ih =>
    have e : ∀ b, rank (r :: S) b = rank S b + if key r < b then 1 else 0 := fun b => by
      unfold rank
      rw [List.countP_cons]
      simp
    rw [e, e, ih, List.filter_cons]
    by_cases h1 : key r < a
    · rw [if_pos (by omega), if_pos h1, if_neg (by simp; omega)]
      omega
    · by_cases h2 : key r < k
      · rw [if_pos h2, if_neg h1, if_pos (by simp; omega), List.length_cons]
        omega
      · rw [if_neg h2, if_neg h1, if_neg (by simp; omega)]
        omega
theorem cut_rank {w : Nat} {S : List Row} (tS : Tab w S) {a k : Int} (hak : a ≤ k) : (S.drop (rank S a)).take (rank S k - rank S a) = S.filter fun r => decide (a ≤ key r) && decide (key r < k) := by
  rw [drop_rank tS, split_by (f := key) tS.asc hak, rank_mid hak, Nat.add_sub_cancel_left, List.take_left]
theorem rank_succ {w : Nat} {S : List Row} (tS : Tab w S) {k : Int} : rank S (k + 1) = rank S k + if (find S k).isSome then 1 else 0 := by
  have h := rank_between (S := S) (show k < k + 1 by omega)
  have z : (S.countP fun r => decide (k < key r) && decide (key r < k + 1)) = 0 := by
    rw [List.countP_eq_zero]
    intro r _ hc
    have hc : k < key r ∧ key r < k + 1 := by simpa using hc
    omega
  rw [z, tS.cntKey] at h
  exact h
theorem same_part {w : Nat} {S M : List Row} (tS : Tab w S) (tM : Tab w M) {P : Int → Bool} (no : ∀ e ∈ lay S M, P e.key = false) : (S.filter fun r => P (key r)) = M.filter fun r => P (key r) := by
  have hf : ∀ k, P k = true → find S k = find M k := fun k hk => by
    cases hd : diff S M k with
    | none =>
      unfold diff at hd
      split at hd
      · assumption
      · cases hd
    | some e =>
      have := no e (mem_lay.mpr ⟨k, hd⟩)
      rw [(diff_key hd).1, hk] at this
      cases this
  refine ext_by (f := key) (tS.asc.filter _) (tM.asc.filter _) fun r => ?_
  rw [List.mem_filter, List.mem_filter]
  constructor
  · rintro ⟨h1, h2⟩
    have := tS.find h1
    rw [hf _ h2] at this
    exact ⟨(find_some this).1, h2⟩
  · rintro ⟨h1, h2⟩
    have := tM.find h1
    rw [← hf _ h2] at this
    exact ⟨(find_some this).1, h2⟩
theorem find_list {w : Nat} {M : List Row} (tM : Tab w M) {k : Int} : (find M k).toList = M.filter fun r => decide (k ≤ key r) && decide (key r < k + 1) := by
  refine ext_by (f := key) (by cases find M k <;> simp) (tM.asc.filter _) fun r => ?_
  rw [List.mem_filter, Option.mem_toList]
  constructor
  · intro h
    have h : find M k = some r := h
    obtain ⟨h1, h2⟩ := find_some h
    exact ⟨h1, by simp; omega⟩
  · rintro ⟨h1, h2⟩
    have hk : key r = k := by simp at h2; omega
    have := tM.find h1
    rw [hk] at this
    exact this
theorem laid_from {w : Nat} {S M : List Row} (tS : Tab w S) (tM : Tab w M) : ∀ (n : Nat) (a : Int) (es : List Ent), es.length = n → es = (lay S M).filter (fun e => decide (a ≤ e.key)) → laidE S (rank S a) es = M.filter fun r => decide (a ≤ key r)
  | 0, a, es, hl, he => by
    obtain rfl := List.length_eq_zero_iff.mp hl
    show S.drop (rank S a) = _
    rw [drop_rank tS]
    refine same_part (P := fun k => decide (a ≤ k)) tS tM fun e hm => ?_
    have := List.filter_eq_nil_iff.mp he.symm e hm
    simpa using this
  | n + 1, a, [], hl, _ => by simp at hl
  | n + 1, a, e :: rest, hl, he => by
    have hm : e ∈ (lay S M).filter (fun e => decide (a ≤ e.key)) := by rw [← he]; simp
    obtain ⟨hm1, hak⟩ := List.mem_filter.mp hm
    have hak : a ≤ e.key := by simpa using hak
    obtain ⟨p1, p2, p3, p4⟩ := lay_atL hm1
    have hpw : (e :: rest).Pairwise fun e f => e.key < f.key := by rw [he]; exact lay_pwL.filter _
    have hpc := List.pairwise_cons.mp hpw
    have hrest : rest = (lay S M).filter fun f => decide (e.key + 1 ≤ f.key) := by
      refine ext_by (f := Ent.key) hpc.2 (lay_pwL.filter _) fun f => ?_
      rw [List.mem_filter]
      constructor
      · intro hf
        have : f ∈ (lay S M).filter (fun e => decide (a ≤ e.key)) := by rw [← he]; simp [hf]
        have h2 := hpc.1 f hf
        exact ⟨(List.mem_filter.mp this).1, by simp; omega⟩
      · rintro ⟨h1, h2⟩
        have h2 : e.key + 1 ≤ f.key := by simpa using h2
        have : f ∈ e :: rest := by rw [he, List.mem_filter]; exact ⟨h1, by simp; omega⟩
        rcases List.mem_cons.mp this with z | z
        · rw [z] at h2; omega
        · exact z
    have ih := laid_from tS tM n (e.key + 1) rest (by simpa using hl) hrest
    rw [laidE_cons, p1, Int.toNat_natCast, p2, p3, ← rank_succ tS, ih, cut_rank tS hak, find_list tM, split_by (f := key) tM.asc hak, split_by (f := key) tM.asc (show e.key ≤ e.key + 1 by omega), List.append_assoc]
    congr 1
    refine same_part (P := fun k => decide (a ≤ k) && decide (k < e.key)) tS tM fun f hf => ?_
    by_cases h1 : a ≤ f.key
    · have : f ∈ e :: rest := by rw [he, List.mem_filter]; exact ⟨hf, by simpa using h1⟩
      rcases List.mem_cons.mp this with z | z
      · rw [z]; simp
      · have := hpc.1 f z
        simp; omega
    · simp; omega
theorem low_key : ∀ (l : List Int), ∃ a, ∀ k ∈ l, a ≤ k
  | [] => ⟨0, by simp⟩
  | x :: l => by
    obtain ⟨a, h⟩ := low_key l
    refine ⟨min a x, fun k hk => ?_⟩
    rcases List.mem_cons.mp hk with e | e
    · rw [e]; exact Int.min_le_right ..
    · exact Int.le_trans (Int.min_le_left ..) (h k e)
theorem laid_lay {w : Nat} {S M : List Row} (tS : Tab w S) (tM : Tab w M) : laidE S 0 (lay S M) = M := by
  obtain ⟨a, ha⟩ := low_key ((S ++ M).map key)
  have h1 : ∀ r ∈ S, a ≤ key r := fun r hr => ha _ (List.mem_map_of_mem (List.mem_append_left _ hr))
  have h2 : ∀ r ∈ M, a ≤ key r := fun r hr => ha _ (List.mem_map_of_mem (List.mem_append_right _ hr))
  have z : rank S a = 0 := by
    unfold rank
    rw [List.countP_eq_zero]
    intro r hr
    have := h1 r hr
    simp; omega
  have hl : lay S M = (lay S M).filter fun e => decide (a ≤ e.key) := (List.filter_eq_self.mpr fun e he => by
    obtain ⟨_, _, _, p4⟩ := lay_atL he
    have : e.key ∈ (S ++ M).map key := by
      rw [List.map_append, List.mem_append, ← find_isSome, ← find_isSome]
      cases h1 : find S e.key with
      | some r => simp
      | none =>
        cases h2 : find M e.key with
        | some r => simp
        | none => rw [h1, h2] at p4; exact absurd rfl p4
    simpa using ha _ this).symm
  have := laid_from tS tM _ a (lay S M) rfl hl
  rw [z] at this
  rw [this]
  exact List.filter_eq_self.mpr fun r hr => by simpa using h2 r hr
theorem fits_lay {w : Nat} {S M : List Row} (tS : Tab w S) (tM : Tab w M) : Fits S (lay S M) := fun e he => by
  obtain ⟨p1, p2, _, _⟩ := lay_atL he
  exact ⟨lay_ok tS tM he, p1, p2⟩
theorem lay_selfT {S : List Row} : lay S S = [] := by
  unfold lay
  rw [List.filterMap_eq_nil_iff]
  intro k _
  unfold diff
  rw [if_pos rfl]
def t_Table___add : DTS :=
  dSeq (dIfS (dTest (dBin dNe (dFld "Table" 2 (dVar 0)) (dFld "Layer" 2 (dVar 1)))) (dNever) (dNext))
  (dSeq (dAsg (dMeth "Table" sp_Table_misfit wNo (dVar 0) (dCons (dVar 1) (dNil))) (dgName 2))
  (dSeq (dIfS (dTest (dBin dIsNot (dVar 2) (dC .non))) (dNever) (dNext))
  (dRet (dNew "Table" sp_Table_new wNo (dCons (dFld "Table" 2 (dVar 0)) (dCons (dCall sp_laid [] wNo (dCons (dFld "Table" 1 (dVar 0)) (dCons (dVar 1) (dNil)))) (dNil)))))))
theorem rd_Table___add : ∀ ds M Q E, sp_Table___add ds M Q E → t_Table___add { nx := fun _ M' => QF Q .non M', rt := QF Q } (dstart 3 ds) M := rd2 fun x y M Q E h => by
  unfold S_Table___add at h
  obtain ⟨w, S, R, es, rfl, rfl, h1, h2, h3, h4, h5, h6, h7, h8, h⟩ := h
  refine ⟨_, rfl, rfl, _, rfl, _, rfl, rfl, _, rfl, bync (fun hn => absurd rfl hn) fun _ => ?_⟩
  refine ⟨_, rfl, rfl, _, rfl, misfit_in h1 h5 ?_⟩
  refine ⟨_, rfl, no ?_⟩
  refine ⟨_, rfl, rfl, _, rfl, _, rfl, rfl, _, rfl, _, rfl, laid_in h3 h4 (fun e he => by rw [(h5 e he).2.1]; omega) (.inl ?_)⟩
  rw [h6]
  exact new_table Seq.lst h7 h2 h8 (qf_same h)

/-! layers from table to table -/
/-- the layers from table to table -/
def lays : List Row → List (List Row) → List (List Ent)
  | _, [] => []
  | S, T :: Ts => lay S T :: lays T Ts
theorem lays_len : ∀ {S : List Row} {Ts : List (List Row)}, (lays S Ts).length = Ts.length
  | _, [] => rfl
  | _, _ :: _ => by
    unfold lays
    rw [List.length_cons, List.length_cons, lays_len]
theorem lays_get : ∀ {S : List Row} {Ts : List (List Row)} {i : Nat} {es : List Ent}, (lays S Ts)[i]? = some es → ∃ A B, (S :: Ts)[i]? = some A ∧ (S :: Ts)[i + 1]? = some B ∧ es = lay A B
  | _, [], i, es, h => by
    unfold lays at h
    simp at h
  | S, T :: Ts, 0, es, h => by
    unfold lays at h
    injection h with h
    exact ⟨S, T, rfl, rfl, h.symm⟩
  | S, T :: Ts, i + 1, es, h => by
    unfold lays at h
    obtain ⟨A, B, h1, h2, h3⟩ := lays_get (S := T) (Ts := Ts) (i := i) (es := es) h
    exact ⟨A, B, h1, h2, h3⟩
/-- tables of a chain -/
def Chain (w : Nat) (Ts : List (List Row)) : Prop := ∀ T ∈ Ts, Tab w T ∧ T.length ≤ 100
/-- the table on top -/
def topR (S : List Row) (Ts : List (List Row)) : List Row := Ts.getLastD S
theorem topR_cons {S T : List Row} {Ts : List (List Row)} : topR S (T :: Ts) = topR T Ts := by
  unfold topR
  cases Ts <;> rfl
theorem lays_ok {w : Nat} {S : List Row} {Ts : List (List Row)} (h : Chain w (S :: Ts)) (hw : w ≤ 1000) : ∀ es ∈ lays S Ts, LayOk w es ∧ es.length ≤ 200 := fun es hes => by
  obtain ⟨i, hi⟩ := List.mem_iff_getElem?.mp hes
  obtain ⟨A, B, h1, h2, rfl⟩ := lays_get hi
  obtain ⟨tA, lA⟩ := h A (List.mem_of_getElem? h1)
  obtain ⟨tB, lB⟩ := h B (List.mem_of_getElem? h2)
  exact ⟨sub_layOk tA tB hw (Nat.le_trans lay_len (by omega)) (List.Sublist.refl _), Nat.le_trans lay_len (by omega)⟩
theorem topR_mem : ∀ {S : List Row} {Ts : List (List Row)}, topR S Ts ∈ S :: Ts
  | S, [] => by
    show S ∈ [S]
    simp
  | S, T :: Ts => by
    rw [topR_cons]
    exact List.mem_cons_of_mem _ topR_mem
theorem topR_last : ∀ {S : List Row} {Ts : List (List Row)}, (S :: Ts)[Ts.length]? = some (topR S Ts)
  | S, [] => rfl
  | S, T :: Ts => by
    rw [topR_cons]
    exact topR_last (S := T) (Ts := Ts)
theorem lays_snoc : ∀ {S T : List Row} {Ts : List (List Row)}, lays S (Ts ++ [T]) = lays S Ts ++ [lay (topR S Ts) T]
  | S, T, [] => rfl
  | S, T, U :: Ts => by
    rw [topR_cons]
    show lay S U :: lays U (Ts ++ [T]) = lay S U :: (lays U Ts ++ [lay (topR U Ts) T])
    rw [lays_snoc]
theorem topR_snoc : ∀ {S T : List Row} {Ts : List (List Row)}, topR S (Ts ++ [T]) = T
  | S, T, [] => rfl
  | S, T, U :: Ts => by
    show topR S (U :: (Ts ++ [T])) = T
    rw [topR_cons]
    exact topR_snoc

/-- a stack as a tree -/
def stackD (w : Nat) (S : List Row) (Ts : List (List Row)) : D := .obj (cA "Stack") [.lst ((lays S Ts).map (layD w)), tableD w S, .int w]

/-! Stack(base, layers), of layers that lead from table to table -/
@[irreducible] def S_Stack_new (x y : D) (M : Mem) (Q : DK) (_ : DXK) : Prop := ∃ (w : Nat) (S : List Row) (Ts : List (List Row)), x = tableD w S ∧ Seq y M ((lays S Ts).map (layD w)) ∧ Chain w (S :: Ts) ∧ w ≤ 1000 ∧ Ts.length ≤ 100 ∧ Q (stackD w S Ts) M
def sp_Stack_new : DSp := spk2 S_Stack_new
def sp_Stack___init : DSp := dinit (cA "Stack") sp_Stack_new
theorem new_stack {y : D} {w : Nat} {S : List Row} {Ts : List (List Row)} {M : Mem} {Q : DK} {E : DXK} (hy : Seq y M ((lays S Ts).map (layD w))) (h : Chain w (S :: Ts)) (hw : w ≤ 1000) (hz : Ts.length ≤ 100) (q : Q (stackD w S Ts) M) : ∀ p, M p = none → S_Stack_new (tableD w S) y M (fun d M' => ∃ fs, d = .obj (cA "Stack") fs ∧ fs ≠ [] ∧ M' p = none ∧ Q d M') E :=
  fun p hp => by
    unfold S_Stack_new
    exact ⟨w, S, Ts, rfl, hy, h, hw, hz, _, rfl, by simp, hp, q⟩
def t_Stack___init : DTS :=
  dSeq (dAsg (dVar 1) (dgName 3))
  (dSeq (dFor (diSeq (dVar 2)) (dgName 4) (dAsg (dBin (dBinO2 "Table" "Layer" sp_Table___add) (dVar 3) (dVar 4)) (dgName 3)))
  (dSeq (dSetF "Stack" 1 (dVar 0) (dVar 1))
  (dSeq (dSetF "Stack" 2 (dVar 0) (dFld "Table" 2 (dVar 1)))
  (dSetF "Stack" 0 (dVar 0) (dCB (r1 dListF) (dCons (dVar 2) (dNil)))))))
theorem rd_Stack___init : ∀ ds M Q E, sp_Stack___init ds M Q E → t_Stack___init { nx := fun _ M' => QF Q .non M', rt := QF Q } (dstart 5 ds) M := rdI fun p rest M Q E hm h => by
  match rest, h with
  | [x, y], h =>
    have h : S_Stack_new _ _ _ _ _ := h
    unfold S_Stack_new at h
    obtain ⟨w, S, Ts, rfl, hy, hc, hw, hz, fs, e, hne, _, h⟩ := h
    injection e with _ e
    subst e
    have hyM : Seq y M ((lays S Ts).map (layD w)) := hy.del
    have z0 : (lays S Ts).length = Ts.length := lays_len
    refine ⟨_, rfl, ?_⟩
    refine ⟨_, rfl, for_seq hyM (fun i σ M' => ∃ (A : List Row) (x4 : Option D), σ = [some (.ref p), some (tableD w S), some y, some (tableD w A), x4] ∧ (S :: Ts)[i]? = some A ∧ M' = M) (fun i σ M' z => by obtain ⟨_, _, _, _, rfl⟩ := z; exact hyM) ⟨⟨S, _, rfl, rfl, rfl⟩, ?_, ?_⟩⟩
    · rintro i d _ _ hd ⟨A, x4, rfl, hA, rfl⟩
      rw [List.getElem?_map] at hd
      obtain ⟨es, hes, rfl⟩ := Option.map_eq_some_iff.mp hd
      obtain ⟨A', B, h1, h2, rfl⟩ := lays_get hes
      rw [hA] at h1
      injection h1 with h1
      subst h1
      obtain ⟨tA, lA⟩ := hc A (List.mem_of_getElem? hA)
      obtain ⟨tB, lB⟩ := hc B (List.mem_of_getElem? h2)
      exact ⟨_, rfl, _, rfl, tadd_in tA hw (by omega) (Nat.le_trans lay_len (by omega)) (fits_lay tA tB) (laid_lay tA tB) tB (by omega) ⟨B, _, rfl, h2, rfl⟩⟩
    rintro _ _ ⟨A, x4, rfl, _, rfl⟩
    refine ⟨_, rfl, _, rfl, p, _, rfl, hm, ?_⟩
    refine ⟨_, rfl, rfl, _, rfl, _, rfl, p, _, rfl, mset_same, ?_⟩
    rw [mset_mset]
    refine ⟨_, rfl, _, hy.mset_ne, _, rfl, p, _, rfl, mset_same, ?_⟩
    rw [mset_mset]
    rw [mset_del] at h
    exact qf_same h

/-! len(table) -/
@[irreducible] def S_Table___len (x : D) (M : Mem) (Q : DK) (_ : DXK) : Prop := ∃ (w : Nat) (S : List Row), x = tableD w S ∧ Q (.int S.length) M
def sp_Table___len : DSp := spk1 S_Table___len
theorem tlen_in {w : Nat} {S : List Row} {M : Mem} {Q : DK} {E : DXK} (q : Q (.int S.length) M) : S_Table___len (tableD w S) M Q E := by
  unfold S_Table___len
  exact ⟨w, S, rfl, q⟩
/-- list(table) -/
theorem list_table {w : Nat} {S : List Row} {M : Mem} {Q : DK} (hl : S.length ≤ 1000) (q : Q (.lst (S.map rowD)) M) : dListO "Table" 1 sp_Table___len (tableD w S) M Q :=
  ⟨rfl, _, rfl, _, rfl, tlen_in ⟨_, rfl, by omega, by have := sz9 hl; omega, q⟩⟩
def t_Table___len : DTS :=
  dRet (dCB (r1 dLen) (dCons (dFld "Table" 1 (dVar 0)) (dNil)))
theorem rd_Table___len : ∀ ds M Q E, sp_Table___len ds M Q E → t_Table___len { nx := fun _ M' => QF Q .non M', rt := QF Q } (dstart 1 ds) M := rd1 fun x M Q E h => by
  unfold S_Table___len at h
  obtain ⟨w, S, rfl, h⟩ := h
  refine ⟨_, rfl, rfl, _, rfl, ?_⟩
  rw [show (S.length : Int) = ((S.map rowD).length : Int) by simp] at h
  exact qf_same h

/-! stack.size -/
theorem sizes_top {w : Nat} : ∀ {S : List Row} {Ts : List (List Row)}, Chain w (S :: Ts) → (S.length : Int) + ((lays S Ts).map fun es => (es.map Ent.growth).sum).sum = (topR S Ts).length
  | S, [], _ => by
    show (S.length : Int) + 0 = S.length
    omega
  | S, T :: Ts, h => by
    have ih := sizes_top (S := T) (Ts := Ts) fun R hR => h R (by simp [hR])
    have hg := lay_growth_all (h S (by simp)).1 (h T (by simp)).1
    unfold lays
    rw [List.map_cons, List.sum_cons, topR_cons, hg]
    omega
@[irreducible] def S_Stack_size (x : D) (M : Mem) (Q : DK) (_ : DXK) : Prop := ∃ (w : Nat) (S : List Row) (Ts : List (List Row)), x = stackD w S Ts ∧ Chain w (S :: Ts) ∧ w ≤ 1000 ∧ Ts.length ≤ 100 ∧ Q (.int ((topR S Ts).length : Nat)) M
def sp_Stack_size : DSp := spk1 S_Stack_size
theorem ssize_in {w : Nat} {S : List Row} {Ts : List (List Row)} {M : Mem} {Q : DK} {E : DXK} (h : Chain w (S :: Ts)) (hw : w ≤ 1000) (hz : Ts.length ≤ 100) (q : Q (.int ((topR S Ts).length : Nat)) M) : S_Stack_size (stackD w S Ts) M Q E := by
  unfold S_Stack_size
  exact ⟨w, S, Ts, rfl, h, hw, hz, q⟩
def t_Stack_size : DTS :=
  dRet (dBin dAdd (dCB (r1 (dLenO "Table" sp_Table___len)) (dCons (dFld "Stack" 1 (dVar 0)) (dNil))) (dCB (r1 dSum) (dCons (dLc (diSeq (dFld "Stack" 0 (dVar 0))) (.nm 1) (dYes) (dProp "Layer" sp_Layer_growth (dVar 1)) [1]) (dNil))))
theorem rd_Stack_size : ∀ ds M Q E, sp_Stack_size ds M Q E → t_Stack_size { nx := fun _ M' => QF Q .non M', rt := QF Q } (dstart 2 ds) M := rd1 fun x M Q E h => by
  unfold S_Stack_size at h
  obtain ⟨w, S, Ts, rfl, hc, hw, hz, h⟩ := h
  have z0 : (lays S Ts).length = Ts.length := lays_len
  have lS := (hc S (by simp)).2
  refine ⟨_, rfl, rfl, _, rfl, rfl, tlen_in ⟨_, rfl, by omega, by omega, ?_⟩⟩
  refine ⟨_, rfl, rfl, _, rfl, sz9 (by rw [List.length_map]; omega), fun i acc M' => M' = M ∧ acc = (((lays S Ts).take i).map fun es => (es.map Ent.growth).sum).map D.int, ⟨rfl, rfl⟩, ?_, ?_⟩
  · rintro i acc d M hd _ ⟨rfl, rfl⟩
    rw [List.getElem?_map] at hd
    obtain ⟨es, hes, rfl⟩ := Option.map_eq_some_iff.mp hd
    refine yes ⟨_, rfl, rfl, lgrowth_in (by have := (lays_ok hc hw es (List.mem_of_getElem? hes)).2; omega) ⟨rfl, ?_⟩⟩
    rw [List.take_succ, hes]
    simp
  rintro acc M _ ⟨rfl, rfl⟩
  rw [List.length_map, List.take_length]
  refine ⟨_, rfl, qf_same ?_⟩
  rw [sizes_top hc]
  exact h

/-! the entry with a key -/
theorem lay_entry {S T : List Row} {k : Int} : ((lay S T).filter fun e => decide (e.key = k)).head? = diff S T k := by
  cases h : (lay S T).filter fun e => decide (e.key = k) with
  | nil =>
    cases hd : diff S T k with
    | none => rfl
    | some e =>
      have hm : e ∈ (lay S T).filter fun e => decide (e.key = k) := List.mem_filter.mpr ⟨mem_lay.mpr ⟨k, hd⟩, decide_eq_true (diff_key hd).1⟩
      rw [h] at hm
      cases hm
  | cons f fs =>
    have hm : f ∈ (lay S T).filter fun e => decide (e.key = k) := by rw [h]; simp
    obtain ⟨h1, h2⟩ := List.mem_filter.mp hm
    obtain ⟨j, hj⟩ := mem_lay.mp h1
    have e : j = k := by rw [← (diff_key hj).1]; exact of_decide_eq_true h2
    rw [e] at hj
    rw [hj]
    rfl
/-- the entry with the key -/
def entL (es : List Ent) (k : Int) : Option Ent := (es.filter fun e => decide (e.key = k)).head?
theorem has_key {es : List Ent} {k : Int} : k ∈ es.map Ent.key ↔ (entL es k).isSome = true := by
  unfold entL
  constructor
  · intro h
    obtain ⟨e, he, ek⟩ := List.mem_map.mp h
    have hm : e ∈ es.filter fun e => decide (e.key = k) := List.mem_filter.mpr ⟨he, decide_eq_true ek⟩
    cases z : es.filter fun e => decide (e.key = k) with
    | nil => rw [z] at hm; cases hm
    | cons f fs => rfl
  · intro h
    cases z : es.filter fun e => decide (e.key = k) with
    | nil => rw [z] at h; cases h
    | cons f fs =>
      have hm : f ∈ es.filter fun e => decide (e.key = k) := by rw [z]; simp
      obtain ⟨h1, h2⟩ := List.mem_filter.mp hm
      exact List.mem_map.mpr ⟨f, h1, of_decide_eq_true h2⟩

/-! levels -/
/-- the highest level whose layer has an entry with the key, of the first n -/
def lvl (Ls : List (List Ent)) (k : Int) : Nat → Nat
  | 0 => 0
  | n + 1 => if (entL (Ls.getD n []) k).isSome then n + 1 else lvl Ls k n
theorem lvl_yes {Ls : List (List Ent)} {k : Int} {n : Nat} {es : List Ent} (h : Ls[n]? = some es) (hk : (entL es k).isSome = true) : lvl Ls k (n + 1) = n + 1 := by
  unfold lvl
  rw [List.getD_eq_getElem?_getD, h, Option.getD_some, if_pos hk]
theorem lvl_no {Ls : List (List Ent)} {k : Int} {n : Nat} {es : List Ent} (h : Ls[n]? = some es) (hk : (entL es k).isSome = false) : lvl Ls k (n + 1) = lvl Ls k n := by
  conv => lhs; unfold lvl
  rw [List.getD_eq_getElem?_getD, h, Option.getD_some, if_neg (by rw [hk]; decide)]
theorem lays_some {S : List Row} {Ts : List (List Row)} {n : Nat} (h : n < Ts.length) : ∃ es, (lays S Ts)[n]? = some es := ⟨_, List.getElem?_eq_getElem (by rw [lays_len]; exact h)⟩
/-- what the level tells of the tables -/
theorem lvl_at {S : List Row} {Ts : List (List Row)} {k : Int} : ∀ {m : Nat} {B : List Row}, (S :: Ts)[m]? = some B → (lvl (lays S Ts) k m = 0 ∧ find B k = find S k) ∨ ∃ j es e, lvl (lays S Ts) k m = j + 1 ∧ (lays S Ts)[j]? = some es ∧ entL es k = some e ∧ e.new = find B k ∧ j < m
  | 0, B, h => by
    injection h with h
    subst h
    exact .inl ⟨rfl, rfl⟩
  | m + 1, B, h => by
    have hm : m < Ts.length := by
      have := (List.getElem?_eq_some_iff.mp h).1
      rw [List.length_cons] at this
      omega
    obtain ⟨es, hes⟩ := lays_some (S := S) hm
    obtain ⟨A, B', h1, h2, rfl⟩ := lays_get hes
    rw [h] at h2
    injection h2 with h2
    subst h2
    cases hd : diff A B k with
    | some e =>
      have he : entL (lay A B) k = some e := by unfold entL; rw [lay_entry, hd]
      exact .inr ⟨m, _, e, lvl_yes hes (by rw [he]; rfl), hes, he, (diff_key hd).2.2.2.1, by omega⟩
    | none =>
      have he : entL (lay A B) k = none := by unfold entL; rw [lay_entry, hd]
      have hf : find A k = find B k := by
        unfold diff at hd
        by_cases z : find A k = find B k
        · exact z
        · rw [if_neg z] at hd; cases hd
      rw [lvl_no hes (by rw [he]; rfl)]
      rcases lvl_at h1 with ⟨z1, z2⟩ | ⟨j, es, e, z1, z2, z3, z4, z5⟩
      · exact .inl ⟨z1, by rw [← hf, z2]⟩
      · exact .inr ⟨j, es, e, z1, z2, z3, by rw [← hf, z4], by omega⟩
theorem topR_at0 : ∀ {S : List Row} {Ts : List (List Row)}, (S :: Ts)[Ts.length]? = some (topR S Ts)
  | S, [] => rfl
  | S, T :: Ts => by
    rw [topR_cons]
    exact topR_at0 (S := T) (Ts := Ts)
theorem isNon_optEnt (o : Option Ent) : isNon (optEnt o) = o.isNone := by cases o <;> rfl
def chgD (Ls : List (List Ent)) : D := .lst (Ls.map fun es => D.lst (es.map entD))
/-- the place of the entry with the key -/
def idxK (es : List Ent) (k : Int) : Nat := es.findIdx fun e => decide (e.key = k)
theorem idx_at {k : Int} : ∀ {es : List Ent}, (entL es k).isSome = true → ∃ e, es[idxK es k]? = some e ∧ e.key = k ∧ entL es k = some e
  | [], h => by cases h
  | e :: es, h => by
    unfold entL idxK at *
    rw [List.findIdx_cons]
    by_cases he : e.key = k
    · rw [List.filter_cons_of_pos (by simpa using he)]
      simp [he]
    · rw [List.filter_cons_of_neg (by simpa using he)] at h ⊢
      obtain ⟨f, h1, h2, h3⟩ := idx_at (es := es) h
      unfold idxK entL at *
      refine ⟨f, ?_, h2, h3⟩
      simp [he, h1]
/-- where a row comes from -/
def srcP (S : List Row) (Ls : List (List Ent)) (k : Int) : Nat → D
  | 0 => .tup [.int 0, .int (rank S k : Nat)]
  | j + 1 => .tup [.int (j + 1 : Nat), .int (idxK (Ls.getD j []) k : Nat)]
def srcD (S : List Row) (Ls : List (List Ent)) (k : Int) : D := srcP S Ls k (lvl Ls k Ls.length)

/-! who wrote a row -/
theorem wr_skip {w : Nat} {S T : List Row} (hS : Tab w S) (hT : Tab w T) {p : Int} : ∀ (pre pre0 post : List Ent), pre0 ++ (pre ++ post) = lay S T → (∀ e ∈ pre, ¬ (e.new.isSome = true ∧ (rank T e.key : Int) = p)) →
    wrP p (pre0.map Ent.growth).sum pre0.length (pre ++ post) = wrP p ((pre0.map Ent.growth).sum + (pre.map Ent.growth).sum) (pre0.length + pre.length) post
  | [], pre0, post, _, _ => by simp
  | e :: pre, pre0, post, h, hc => by
    have hpos := pos_at hS hT (pre := pre0) (e := e) (post := pre ++ post) h
    show wrP p _ _ (e :: (pre ++ post)) = _
    rw [wrP_cons, hpos, if_neg (hc e (by simp))]
    have ih := wr_skip hS hT (p := p) pre (pre0 ++ [e]) post (by rw [← h]; simp) fun f hf => hc f (by simp [hf])
    rw [List.map_append, List.sum_append, List.length_append, List.length_singleton] at ih
    rw [show (pre0.map Ent.growth).sum + e.growth = (pre0.map Ent.growth).sum + ([e].map Ent.growth).sum by simp, ih]
    rw [List.map_cons, List.sum_cons, List.length_cons]
    congr 1
    · simp; omega
    · omega
theorem wr_none {w : Nat} {S T : List Row} (hS : Tab w S) (hT : Tab w T) {p : Int} (h : ∀ e ∈ lay S T, ¬ (e.new.isSome = true ∧ (rank T e.key : Int) = p)) : wrP p 0 0 (lay S T) = none := by
  have sk := wr_skip hS hT (p := p) (lay S T) [] [] (by simp) h
  rw [List.append_nil] at sk
  exact sk
/-- no two keys of a table stand at one place -/
theorem rank_inj {w : Nat} {T : List Row} (hT : Tab w T) {a b : Int} (ha : (find T a).isSome = true) (hb : (find T b).isSome = true) (h : rank T a = rank T b) : a = b := by
  rcases Int.lt_trichotomy a b with z | z | z
  · have := rank_lt hT z ha; omega
  · exact z
  · have := rank_lt hT z hb; omega
theorem wr_far {w : Nat} {S T : List Row} (hS : Tab w S) (hT : Tab w T) {p : Int} (hp : (T.length : Int) ≤ p) : wrP p 0 0 (lay S T) = none := wr_none hS hT fun e hm z => by
  have := rank_ltl hT (a := e.key) (by rw [← (lay_at hm).2.2.1]; exact z.1)
  omega
theorem wr_same {w : Nat} {S T : List Row} (hS : Tab w S) (hT : Tab w T) {k : Int} (hk : (find T k).isSome = true) (no : ∀ e ∈ lay S T, e.key ≠ k) : wrP (rank T k) 0 0 (lay S T) = none := wr_none hS hT fun e hm z =>
  no e hm (rank_inj hT (by rw [← (lay_at hm).2.2.1]; exact z.1) hk (by omega))
theorem keep_at {S T : List Row} {k : Int} (no : ∀ e ∈ lay S T, e.key ≠ k) : find S k = find T k := by
  cases hd : diff S T k with
  | none =>
    unfold diff at hd
    split at hd
    · assumption
    · cases hd
  | some e => exact absurd (diff_key hd).1 (no e (mem_lay.mpr ⟨k, hd⟩))
theorem at_entry {w : Nat} {S T : List Row} (hS : Tab w S) (hT : Tab w T) {j : Nat} {e : Ent} (hj : (lay S T)[j]? = some e) (hk : (find T e.key).isSome = true) : wrP (rank T e.key) 0 0 (lay S T) = some j ∧ oldP (rank T e.key) 0 (lay S T) = none := by
  obtain ⟨h1, h2⟩ := List.getElem?_eq_some_iff.mp hj
  have hsp : lay S T = (lay S T).take j ++ e :: (lay S T).drop (j + 1) := by
    rw [← h2, List.getElem_cons_drop]
    exact (List.take_append_drop j _).symm
  have hp := List.pairwise_append.mp (hsp ▸ lay_ascE S T)
  have hlt : ∀ f ∈ (lay S T).take j, f.key < e.key := fun f hf => hp.2.2 f hf e (by simp)
  have hin : ∀ f ∈ (lay S T).take j, f ∈ lay S T := fun f hf => List.mem_of_mem_take hf
  have c1 : ∀ f ∈ (lay S T).take j, ¬ (f.new.isSome = true ∧ (rank T f.key : Int) = rank T e.key) := fun f hf z => by
    have := rank_lt hT (hlt f hf) (by rw [← (lay_at (hin f hf)).2.2.1]; exact z.1)
    omega
  have c2 : ∀ f ∈ (lay S T).take j, ¬ (rank T e.key : Int) < rank T f.key ∧ ¬ (f.new.isSome = true ∧ (rank T f.key : Int) = rank T e.key) := fun f hf =>
    ⟨by have := rank_between (S := T) (hlt f hf); omega, c1 f hf⟩
  have w1 := wr_skip hS hT (p := rank T e.key) ((lay S T).take j) [] (e :: (lay S T).drop (j + 1)) hsp.symm c1
  have o1 := oldP_skip hS hT (p := rank T e.key) ((lay S T).take j) [] (e :: (lay S T).drop (j + 1)) hsp.symm c2
  have hpos := pos_at hS hT hsp.symm
  have hm : e ∈ lay S T := List.mem_of_getElem? hj
  have hn : e.new.isSome = true := by rw [(lay_at hm).2.2.1]; exact hk
  rw [← hsp, List.map_nil, List.sum_nil, Int.zero_add] at w1 o1
  rw [wrP_cons, hpos, if_pos ⟨hn, rfl⟩] at w1
  rw [oldP_cons, hpos, if_neg (by omega), if_pos ⟨hn, rfl⟩] at o1
  refine ⟨w1.trans ?_, o1⟩
  congr 1
  simp
  omega
/-- one level down -/
theorem step_down {w : Nat} {S A B : List Row} {Ts : List (List Row)} {k : Int} {n : Nat} (hA : (S :: Ts)[n]? = some A) (hB : (S :: Ts)[n + 1]? = some B) (tA : Tab w A) (tB : Tab w B) (hf : (find B k).isSome = true) :
    (wrP (rank B k) 0 0 (lay A B) = none ∧ lvl (lays S Ts) k (n + 1) = lvl (lays S Ts) k n ∧ (find A k).isSome = true ∧ oldP (rank B k) 0 (lay A B) = some (rank A k : Int) ∧ find A k = find B k) ∨ (wrP (rank B k) 0 0 (lay A B) = some (idxK (lay A B) k) ∧ lvl (lays S Ts) k (n + 1) = n + 1) := by
  have hn : n < Ts.length := by
    have := (List.getElem?_eq_some_iff.mp hB).1
    rw [List.length_cons] at this
    omega
  obtain ⟨es, hes⟩ := lays_some (S := S) hn
  obtain ⟨A', B', h1, h2, rfl⟩ := lays_get hes
  rw [hA] at h1
  rw [hB] at h2
  cases h1
  cases h2
  cases hk : entL (lay A B) k with
  | none =>
    have no : ∀ e ∈ lay A B, e.key ≠ k := fun e he ek => by
      have := has_key.mp (List.mem_map.mpr ⟨e, he, ek⟩)
      rw [hk] at this
      cases this
    have hk2 := keep_at no
    exact .inl ⟨wr_same tA tB hf no, lvl_no hes (by rw [hk]; rfl), by rw [hk2]; exact hf, oldP_same tA tB (by rw [hk2]; exact hf) hk2, hk2⟩
  | some e =>
    obtain ⟨f, f1, f2, _⟩ := idx_at (es := lay A B) (k := k) (by rw [hk]; rfl)
    have := (at_entry tA tB f1 (by rw [f2]; exact hf)).1
    rw [f2] at this
    exact .inr ⟨this, lvl_yes hes (by rw [hk]; rfl)⟩
/-- the levels and places of a row from the top down -/
def prD (a b : Nat) : D := .tup [.int (a : Nat), .int (b : Nat)]
def pathF (Rs : List (List Row)) (k : Int) (n i : Nat) : D := prD (n - i) (rank (Rs.getD (n - i) []) k)
def pathD (S : List Row) (Ts : List (List Row)) (k : Int) : List D := (List.range (Ts.length - lvl (lays S Ts) k Ts.length + 1)).map (pathF (S :: Ts) k Ts.length)
theorem getD_at {Rs : List (List Row)} {n : Nat} {A : List Row} (h : Rs[n]? = some A) : Rs.getD n [] = A := by rw [List.getD_eq_getElem?_getD, h, Option.getD_some]

/-! stack.trace(place) -/
@[irreducible] def S_Stack_trace (x y : D) (M : Mem) (Q : DK) (E : DXK) : Prop := ∃ (w : Nat) (S : List Row) (Ts : List (List Row)) (p : Int), x = stackD w S Ts ∧ y = .int p ∧ Chain w (S :: Ts) ∧ w ≤ 1000 ∧ Ts.length ≤ 100 ∧
  ((∃ (i : Nat) (r : Row), p = i ∧ (topR S Ts)[i]? = some r ∧ FL Q M (pathD S Ts (key r))) ∨ ((p < 0 ∨ ((topR S Ts).length : Int) ≤ p) ∧ E (.ref (cA "NoPlace")) [("place", .int p)] M))
def sp_Stack_trace : DSp := spk2 S_Stack_trace
theorem strace_in {w : Nat} {S : List Row} {Ts : List (List Row)} {i : Nat} {r : Row} {M : Mem} {Q : DK} {E : DXK} (h : Chain w (S :: Ts)) (hw : w ≤ 1000) (hz : Ts.length ≤ 100) (hr : (topR S Ts)[i]? = some r) (q : FL Q M (pathD S Ts (key r))) : S_Stack_trace (stackD w S Ts) (.int i) M Q E := by
  unfold S_Stack_trace
  exact ⟨w, S, Ts, i, rfl, rfl, h, hw, hz, .inl ⟨i, r, rfl, hr, q⟩⟩
theorem strace_bad {w : Nat} {S : List Row} {Ts : List (List Row)} {p : Int} {M : Mem} {Q : DK} {E : DXK} (h : Chain w (S :: Ts)) (hw : w ≤ 1000) (hz : Ts.length ≤ 100) (hp : p < 0 ∨ ((topR S Ts).length : Int) ≤ p) (q : E (.ref (cA "NoPlace")) [("place", .int p)] M) : S_Stack_trace (stackD w S Ts) (.int p) M Q E := by
  unfold S_Stack_trace
  exact ⟨w, S, Ts, p, rfl, rfl, h, hw, hz, .inr ⟨hp, q⟩⟩
def t_Stack_trace (wd : DWX) : DTS :=
  dSeq (dIfS (dNot (dTest (dChain dLe dLt (dC (.int 0)) (dVar 1) (dProp "Stack" sp_Stack_size (dVar 0))))) (dRaise "NoPlace" ["place"] wd (dCons (dVar 1) (dNil))) (dNext))
  (dSeq (dAsg (dCB (r1 dLen) (dCons (dFld "Stack" 0 (dVar 0)) (dNil))) (dgName 2))
  (dSeq (dAsg (dLstC (dCons (dTup (dCons (dVar 2) (dCons (dVar 1) (dNil)))) (dNil))) (dgName 3))
  (dSeq (dWhile (dAnd (dTest (dBin dGt (dVar 2) (dC (.int 0)))) (dTest (dBin dIs (dCall sp_writer_at [] wNo (dCons (dBin dIx (dFld "Stack" 0 (dVar 0)) (dBin dSub (dVar 2) (dC (.int 1)))) (dCons (dVar 1) (dNil)))) (dC .non)))) (dSeq (dAsg (dCall sp_old_place [] wNo (dCons (dBin dIx (dFld "Stack" 0 (dVar 0)) (dBin dSub (dVar 2) (dC (.int 1)))) (dCons (dVar 1) (dNil)))) (dgName 1))
  (dSeq (dAsg (dBin dSub (dVar 2) (dC (.int 1))) (dgName 2))
  (dDrop (dApp (dVar 3) (dCons (dTup (dCons (dVar 2) (dCons (dVar 1) (dNil)))) (dNil)))))))
  (dRet (dVar 3)))))
theorem rd_Stack_trace : ∀ ds M Q E, sp_Stack_trace ds M Q E → t_Stack_trace (wE E) { nx := fun _ M' => QF Q .non M', rt := QF Q } (dstart 4 ds) M := rdX2 fun x y M Q E h => by
  unfold S_Stack_trace at h
  obtain ⟨w, S, Ts, p, rfl, rfl, hc, hw, hz, h⟩ := h
  rcases h with ⟨i0, r, rfl, hr, h⟩ | ⟨hp, h⟩
  · obtain ⟨tT, lT⟩ := hc _ (topR_mem (S := S) (Ts := Ts))
    have hi0 := (List.getElem?_eq_some_iff.mp hr).1
    have hrk := rank_pos tT hr
    have hfk : (find (topR S Ts) (key r)).isSome = true := by rw [tT.find (List.mem_of_getElem? hr)]; rfl
    generalize key r = k at hrk hfk h
    subst hrk
    have z0 : ((lays S Ts).map (layD w)).length = Ts.length := by rw [List.length_map, lays_len]
    refine ⟨_, rfl, byc (fun _ => ⟨_, rfl, rfl, ssize_in hc hw hz (bync (fun hn => absurd (by omega) hn) fun _ => ?_)⟩) fun hn => absurd (by omega) hn⟩
    refine ⟨_, rfl, rfl, _, rfl, ?_⟩
    refine ⟨_, rfl, _, rfl, sz9 (show 2 ≤ 1000 by decide), sz9 (show 1 ≤ 1000 by decide), fun p hp => ?_⟩
    have hp0 : pathF (S :: Ts) k Ts.length 0 = .tup [.int (Ts.length : Nat), .int (rank (topR S Ts) k : Nat)] := by
      unfold pathF
      rw [Nat.sub_zero, getD_at topR_at0]
      rfl
    refine ⟨fun m σ M' => ∃ (n i : Nat) (B : List Row), n + i = Ts.length ∧ (S :: Ts)[n]? = some B ∧ (find B k).isSome = true ∧ lvl (lays S Ts) k Ts.length = lvl (lays S Ts) k n ∧ σ = [some (stackD w S Ts), some (.int (rank B k : Nat)), some (.int (n : Nat)), some (.ref p)] ∧ M' = mset M p (.lst ((List.range (i + 1)).map (pathF (S :: Ts) k Ts.length))) ∧ m = n,
      ⟨Ts.length, Ts.length, 0, _, by omega, topR_at0, hfk, rfl, by rw [← z0]; rfl, ?_, rfl⟩, ?_⟩
    · show mset M p (.lst [.tup [.int (((lays S Ts).map (layD w)).length : Nat), .int (rank (topR S Ts) k : Nat)]]) = mset M p (.lst [pathF (S :: Ts) k Ts.length 0])
      rw [hp0, z0]
    rintro m σ M' ⟨n, i, B, hni, hB, hfB, hl, rfl, rfl, rfl⟩
    cases m with
    | zero =>
      refine ⟨_, rfl, byc (fun z => absurd z (by decide)) fun _ => no ⟨_, rfl, ?_⟩⟩
      have e : pathD S Ts k = (List.range (i + 1)).map (pathF (S :: Ts) k Ts.length) := by
        unfold pathD
        rw [hl, show Ts.length - lvl (lays S Ts) k 0 = i by show Ts.length - 0 = i; omega]
      rw [e] at h
      exact fl_ret h hp
    | succ n =>
      obtain ⟨es, hes⟩ := lays_some (S := S) (n := n) (Ts := Ts) (by omega)
      obtain ⟨A, B', h1, h2, rfl⟩ := lays_get hes
      rw [hB] at h2
      cases h2
      have hat : atI ((lays S Ts).map (layD w)) (((n + 1 : Nat) : Int) - 1) = some (layD w (lay A B)) := by
        rw [show ((n + 1 : Nat) : Int) - 1 = (n : Int) by omega]
        exact atI_map hes
      obtain ⟨tA, lA⟩ := hc A (List.mem_of_getElem? h1)
      obtain ⟨tB, lB⟩ := hc B (List.mem_of_getElem? hB)
      refine ⟨_, rfl, byc (fun _ => ?_) fun z => absurd (by omega) z⟩
      refine ⟨_, rfl, rfl, _, rfl, _, rfl, _, hat, _, rfl, writer_in ?_⟩
      rcases step_down h1 hB tA tB hfB with ⟨z1, z2, z3, z4, z5⟩ | ⟨z1, z2⟩
      · rw [z1]
        refine yes ⟨fun σ' M2 => σ' = [some (stackD w S Ts), some (.int (rank A k : Nat)), some (.int (n : Nat)), some (.ref p)] ∧ M2 = mset M p (.lst ((List.range (i + 1 + 1)).map (pathF (S :: Ts) k Ts.length))), fun σ' M2 ⟨e1, e2⟩ => ⟨n, by omega, n, i + 1, A, by omega, h1, z3, by rw [hl, z2], e1, e2, rfl⟩, ?_⟩
        refine ⟨_, rfl, rfl, _, rfl, _, rfl, _, hat, _, rfl, oldp_in ?_⟩
        rw [z4]
        have e1 : ((n + 1 : Nat) : Int) - 1 = (n : Int) := by omega
        refine ⟨_, rfl, _, rfl, ⟨p, _, rfl, mset_same⟩, _, rfl, _, rfl, sz9 (show 2 ≤ 1000 by decide), p, _, _, rfl, rfl, mset_same, szlt (by rw [List.length_map, List.length_range]; omega), ?_, ?_⟩
        · show [_, _, some (D.int (((n + 1 : Nat) : Int) - 1)), _] = _
          rw [e1]
          rfl
        show mset _ _ (.lst (_ ++ [.tup [.int (((n + 1 : Nat) : Int) - 1), _]])) = _
        rw [e1, mset_mset, List.range_succ (n := i + 1), List.map_append]
        have e : pathF (S :: Ts) k Ts.length (i + 1) = .tup [.int (n : Nat), .int (rank A k : Nat)] := by
          unfold pathF
          rw [show Ts.length - (i + 1) = n by omega, getD_at h1]
          rfl
        rw [List.map_singleton, e]
        rfl
      · rw [z1]
        refine no ⟨_, rfl, ?_⟩
        have e : pathD S Ts k = (List.range (i + 1)).map (pathF (S :: Ts) k Ts.length) := by
          unfold pathD
          rw [hl, z2, show Ts.length - (n + 1) = i by omega]
        rw [e] at h
        exact fl_ret h hp
  · refine ⟨_, rfl, byc (fun h0 => ⟨_, rfl, rfl, ssize_in hc hw hz (bync (fun hn => ⟨_, rfl, rfl, ef_same h⟩) fun hn => absurd hn (by omega))⟩) fun hn => yes ⟨_, rfl, rfl, ef_same h⟩⟩

/-! stack.source(place) -/
theorem path_last {S : List Row} {Ts : List (List Row)} {k : Int} (hl : lvl (lays S Ts) k Ts.length ≤ Ts.length) : atI (pathD S Ts k) (-1) = some (prD (lvl (lays S Ts) k Ts.length) (rank ((S :: Ts).getD (lvl (lays S Ts) k Ts.length) []) k)) := by
  unfold pathD
  rw [List.range_succ, List.map_append]
  refine atI_last.trans ?_
  unfold pathF
  rw [show Ts.length - (Ts.length - lvl (lays S Ts) k Ts.length) = lvl (lays S Ts) k Ts.length by omega]
theorem lvl_le {Ls : List (List Ent)} {k : Int} : ∀ {n : Nat}, lvl Ls k n ≤ n
  | 0 => Nat.le_refl _
  | n + 1 => by
    unfold lvl
    split
    · exact Nat.le_refl _
    · exact Nat.le_succ_of_le lvl_le
@[irreducible] def S_Stack_source (x y : D) (M : Mem) (Q : DK) (E : DXK) : Prop := ∃ (w : Nat) (S : List Row) (Ts : List (List Row)) (p : Int), x = stackD w S Ts ∧ y = .int p ∧ Chain w (S :: Ts) ∧ w ≤ 1000 ∧ Ts.length ≤ 100 ∧
  ((∃ (i : Nat) (r : Row), p = i ∧ (topR S Ts)[i]? = some r ∧ Q (srcD S (lays S Ts) (key r)) M) ∨ ((p < 0 ∨ ((topR S Ts).length : Int) ≤ p) ∧ E (.ref (cA "NoPlace")) [("place", .int p)] M))
def sp_Stack_source : DSp := spk2 S_Stack_source
theorem ssource_in {w : Nat} {S : List Row} {Ts : List (List Row)} {i : Nat} {r : Row} {M : Mem} {Q : DK} {E : DXK} (h : Chain w (S :: Ts)) (hw : w ≤ 1000) (hz : Ts.length ≤ 100) (hr : (topR S Ts)[i]? = some r) (q : Q (srcD S (lays S Ts) (key r)) M) : S_Stack_source (stackD w S Ts) (.int i) M Q E := by
  unfold S_Stack_source
  exact ⟨w, S, Ts, i, rfl, rfl, h, hw, hz, .inl ⟨i, r, rfl, hr, q⟩⟩
theorem ssource_bad {w : Nat} {S : List Row} {Ts : List (List Row)} {p : Int} {M : Mem} {Q : DK} {E : DXK} (h : Chain w (S :: Ts)) (hw : w ≤ 1000) (hz : Ts.length ≤ 100) (hp : p < 0 ∨ ((topR S Ts).length : Int) ≤ p) (q : E (.ref (cA "NoPlace")) [("place", .int p)] M) : S_Stack_source (stackD w S Ts) (.int p) M Q E := by
  unfold S_Stack_source
  exact ⟨w, S, Ts, p, rfl, rfl, h, hw, hz, .inr ⟨hp, q⟩⟩
def t_Stack_source (wd : DWX) : DTS :=
  dSeq (dAsg (dBin dIx (dMeth "Stack" sp_Stack_trace wd (dVar 0) (dCons (dVar 1) (dNil))) (dUn dNeg (dC (.int 1)))) (dgTup 2 (dgCons (dgName 2) (dgCons (dgName 3) (dgNil)))))
  (dSeq (dIfS (dTest (dBin dEq (dVar 2) (dC (.int 0)))) (dRet (dTup (dCons (dC (.int 0)) (dCons (dVar 3) (dNil))))) (dNext))
  (dRet (dTup (dCons (dVar 2) (dCons (dCall sp_writer_at [] wNo (dCons (dBin dIx (dFld "Stack" 0 (dVar 0)) (dBin dSub (dVar 2) (dC (.int 1)))) (dCons (dVar 3) (dNil)))) (dNil))))))
theorem rd_Stack_source : ∀ ds M Q E, sp_Stack_source ds M Q E → t_Stack_source (wE E) { nx := fun _ M' => QF Q .non M', rt := QF Q } (dstart 4 ds) M := rdX2 fun x y M Q E h => by
  unfold S_Stack_source at h
  obtain ⟨w, S, Ts, p, rfl, rfl, hc, hw, hz, h⟩ := h
  rcases h with ⟨i0, r, rfl, hr, h⟩ | ⟨hp, h⟩
  · obtain ⟨tT, lT⟩ := hc _ (topR_mem (S := S) (Ts := Ts))
    have hfk : (find (topR S Ts) (key r)).isSome = true := by rw [tT.find (List.mem_of_getElem? hr)]; rfl
    refine ⟨_, rfl, rfl, _, rfl, strace_in hc hw hz hr (.inl ?_)⟩
    generalize key r = k at hfk h
    refine ⟨_, path_last lvl_le, rfl, rfl, ?_⟩
    unfold srcD at h
    rw [lays_len] at h
    rcases lvl_at (k := k) (topR_at0 (S := S) (Ts := Ts)) with ⟨z1, z2⟩ | ⟨j, es, e, z1, z2, z3, z4, z5⟩
    · rw [z1] at h ⊢
      refine ⟨_, rfl, byc (fun _ => ⟨_, rfl, sz9 (show 2 ≤ 1000 by decide), qf_same h⟩) fun z => absurd rfl z⟩
    · rw [z1] at h ⊢
      obtain ⟨A, B, h1, h2, rfl⟩ := lays_get z2
      obtain ⟨tA, lA⟩ := hc A (List.mem_of_getElem? h1)
      obtain ⟨tB, lB⟩ := hc B (List.mem_of_getElem? h2)
      have hat : atI ((lays S Ts).map (layD w)) (((j + 1 : Nat) : Int) - 1) = some (layD w (lay A B)) := by
        rw [show ((j + 1 : Nat) : Int) - 1 = (j : Int) by omega]
        exact atI_map z2
      have hkB : e.new = find B k := by
        obtain ⟨k', hk'⟩ := mem_lay.mp (List.mem_filter.mp (List.mem_of_head? z3)).1
        have : e.key = k := by
          have := (List.mem_filter.mp (List.mem_of_head? z3)).2
          simpa using this
        rw [← this, (diff_key hk').1]
        exact (diff_key hk').2.2.2.1
      rw [getD_at h2]
      refine ⟨_, rfl, byc (fun z => absurd z (by omega)) fun _ => ?_⟩
      refine ⟨_, rfl, _, rfl, rfl, _, rfl, _, rfl, _, hat, _, rfl, writer_in ?_⟩
      rcases step_down h1 h2 tA tB (by rw [← hkB, z4]; exact hfk) with ⟨_, y2, _⟩ | ⟨y1, _⟩
      · have y3 := lvl_yes z2 (k := k) (by rw [z3]; rfl)
        have := lvl_le (Ls := lays S Ts) (k := k) (n := j)
        omega
      · rw [y1]
        refine ⟨sz9 (show 2 ≤ 1000 by decide), qf_same ?_⟩
        have h : Q (.tup [.int (j + 1 : Nat), .int (idxK ((lays S Ts).getD j []) k : Nat)]) M := h
        rw [List.getD_eq_getElem?_getD, z2, Option.getD_some] at h
        exact h
  · exact ⟨_, rfl, rfl, _, rfl, strace_bad hc hw hz hp (ef_same h)⟩

/-! table[at] -/
@[irreducible] def S_Table___getitem (x y : D) (M : Mem) (Q : DK) (_ : DXK) : Prop := ∃ (w : Nat) (S : List Row) (i : Nat) (r : Row), x = tableD w S ∧ y = .int i ∧ S[i]? = some r ∧ Q (rowD r) M
def sp_Table___getitem : DSp := spk2 S_Table___getitem
theorem tget_in {w : Nat} {S : List Row} {i : Nat} {r : Row} {M : Mem} {Q : DK} {E : DXK} (h : S[i]? = some r) (q : Q (rowD r) M) : S_Table___getitem (tableD w S) (.int i) M Q E := by
  unfold S_Table___getitem
  exact ⟨w, S, i, r, rfl, rfl, h, q⟩
def t_Table___getitem : DTS :=
  dSeq (dIfS (dNot (dTest (dChain dLe dLt (dC (.int 0)) (dVar 1) (dCB (r1 dLen) (dCons (dFld "Table" 1 (dVar 0)) (dNil)))))) (dNever) (dNext))
  (dRet (dBin dIx (dFld "Table" 1 (dVar 0)) (dVar 1)))
theorem rd_Table___getitem : ∀ ds M Q E, sp_Table___getitem ds M Q E → t_Table___getitem { nx := fun _ M' => QF Q .non M', rt := QF Q } (dstart 2 ds) M := rd2 fun x y M Q E h => by
  unfold S_Table___getitem at h
  obtain ⟨w, S, i, r, rfl, rfl, hr, h⟩ := h
  have hi := (List.getElem?_eq_some_iff.mp hr).1
  have hle : (S.map rowD).length = S.length := List.length_map ..
  refine ⟨_, rfl, byc (fun _ => ⟨_, rfl, rfl, _, rfl, bync (fun hn => absurd (by omega) hn) fun _ => ?_⟩) fun hn => absurd (by omega) hn⟩
  exact ⟨_, rfl, rfl, _, rfl, _, rfl, _, atI_map hr, qf_same h⟩

/-! stack.row_at(place) -/
@[irreducible] def S_Stack_row_at (x y : D) (M : Mem) (Q : DK) (E : DXK) : Prop := ∃ (w : Nat) (S : List Row) (Ts : List (List Row)) (p : Int), x = stackD w S Ts ∧ y = .int p ∧ Chain w (S :: Ts) ∧ w ≤ 1000 ∧ Ts.length ≤ 100 ∧
  ((∃ (i : Nat) (r : Row), p = i ∧ (topR S Ts)[i]? = some r ∧ Q (rowD r) M) ∨ ((p < 0 ∨ ((topR S Ts).length : Int) ≤ p) ∧ E (.ref (cA "NoPlace")) [("place", .int p)] M))
def sp_Stack_row_at : DSp := spk2 S_Stack_row_at
theorem srow_in {w : Nat} {S : List Row} {Ts : List (List Row)} {i : Nat} {r : Row} {M : Mem} {Q : DK} {E : DXK} (h : Chain w (S :: Ts)) (hw : w ≤ 1000) (hz : Ts.length ≤ 100) (hr : (topR S Ts)[i]? = some r) (q : Q (rowD r) M) : S_Stack_row_at (stackD w S Ts) (.int i) M Q E := by
  unfold S_Stack_row_at
  exact ⟨w, S, Ts, i, rfl, rfl, h, hw, hz, .inl ⟨i, r, rfl, hr, q⟩⟩
theorem srow_bad {w : Nat} {S : List Row} {Ts : List (List Row)} {p : Int} {M : Mem} {Q : DK} {E : DXK} (h : Chain w (S :: Ts)) (hw : w ≤ 1000) (hz : Ts.length ≤ 100) (hp : p < 0 ∨ ((topR S Ts).length : Int) ≤ p) (q : E (.ref (cA "NoPlace")) [("place", .int p)] M) : S_Stack_row_at (stackD w S Ts) (.int p) M Q E := by
  unfold S_Stack_row_at
  exact ⟨w, S, Ts, p, rfl, rfl, h, hw, hz, .inr ⟨hp, q⟩⟩
def t_Stack_row_at (wd : DWX) : DTS :=
  dSeq (dAsg (dMeth "Stack" sp_Stack_source wd (dVar 0) (dCons (dVar 1) (dNil))) (dgTup 2 (dgCons (dgName 2) (dgCons (dgName 3) (dgNil)))))
  (dSeq (dIfS (dTest (dBin dEq (dVar 2) (dC (.int 0)))) (dRet (dGetO "Table" sp_Table___getitem (dFld "Stack" 1 (dVar 0)) (dVar 3))) (dNext))
  (dRet (dBin dIx (dBin dIx (dCB (r1 (dListO "Layer" 0 sp_Layer___len)) (dCons (dBin dIx (dFld "Stack" 0 (dVar 0)) (dBin dSub (dVar 2) (dC (.int 1)))) (dNil))) (dVar 3)) (dC (.int 2)))))
theorem rd_Stack_row_at : ∀ ds M Q E, sp_Stack_row_at ds M Q E → t_Stack_row_at (wE E) { nx := fun _ M' => QF Q .non M', rt := QF Q } (dstart 4 ds) M := rdX2 fun x y M Q E h => by
  unfold S_Stack_row_at at h
  obtain ⟨w, S, Ts, p, rfl, rfl, hc, hw, hz, h⟩ := h
  rcases h with ⟨i0, r, rfl, hr, h⟩ | ⟨hp, h⟩
  · obtain ⟨tT, lT⟩ := hc _ (topR_mem (S := S) (Ts := Ts))
    have hfr : find (topR S Ts) (key r) = some r := tT.find (List.mem_of_getElem? hr)
    refine ⟨_, rfl, rfl, _, rfl, ssource_in hc hw hz hr ?_⟩
    generalize key r = k at hfr
    show (match srcD S (lays S Ts) k with | .tup ds => _ | _ => False)
    unfold srcD
    rw [lays_len]
    rcases lvl_at (k := k) (topR_at0 (S := S) (Ts := Ts)) with ⟨z1, z2⟩ | ⟨j, es, e, z1, z2, z3, z4, z5⟩
    · rw [z1]
      refine ⟨rfl, rfl, ?_⟩
      rw [hfr] at z2
      obtain ⟨m1, m2⟩ := find_some z2.symm
      have hat : S[rank S k]? = some r := by
        obtain ⟨j, hj⟩ := List.mem_iff_getElem?.mp m1
        have := rank_pos (hc S (by simp)).1 hj
        rw [m2] at this
        rw [this, hj]
      refine ⟨_, rfl, byc (fun _ => ⟨_, rfl, rfl, _, rfl, _, rfl, rfl, tget_in hat (qf_same h)⟩) fun z => absurd rfl z⟩
    · rw [z1]
      refine ⟨rfl, rfl, ?_⟩
      obtain ⟨ok, lo⟩ := lays_ok hc hw es (List.mem_of_getElem? z2)
      have hat : atI ((lays S Ts).map (layD w)) (((j + 1 : Nat) : Int) - 1) = some (layD w es) := by
        rw [show ((j + 1 : Nat) : Int) - 1 = (j : Int) by omega]
        exact atI_map z2
      obtain ⟨f, f1, f2, f3⟩ := idx_at (es := es) (k := k) (by rw [z3]; rfl)
      rw [z3] at f3
      cases f3
      refine ⟨_, rfl, byc (fun z => absurd z (by omega)) fun _ => ?_⟩
      refine ⟨_, rfl, rfl, _, rfl, _, rfl, _, hat, list_layer (by omega) ⟨_, rfl, entD e, ?_, optRow e.new, rfl, qf_same ?_⟩⟩
      · rw [show (lays S Ts).getD j [] = es by rw [List.getD_eq_getElem?_getD, z2, Option.getD_some]]
        exact atI_map f1
      · rw [z4, hfr]
        exact h
  · exact ⟨_, rfl, rfl, _, rfl, ssource_bad hc hw hz hp (ef_same h)⟩

/-- the same statement from an equal list of slots -/
theorem norm {α : Type} {T : α → DSt → Mem → Prop} {D : α} {σ σ' : DSt} {M : Mem} (e : σ = σ') (h : T D σ' M) : T D σ M := e ▸ h
theorem normA {i : Nat} {v : D} {σ σ' : DSt} {M : Mem} {K : DSt → Mem → Prop} (e : σ.set i (some v) = σ') (h : K σ' M) : dgName i v σ M K := by
  show K (σ.set i (some v)) M
  rw [e]
  exact h
theorem dAdd_int {a b : Int} {M : Mem} {Q : DK} (q : Q (.int (a + b)) M) : dAdd (.int a) (.int b) M Q := q

/-! stack.stretch(start, stop), a generator -/
def strR (T : List Row) (a : Nat) (o : Option Nat) : List Row := (T.take (endN T.length o)).drop a
theorem endN_le {n : Nat} {o : Option Nat} : endN n o ≤ n := by
  cases o with
  | none => exact Nat.le_refl _
  | some b => exact Nat.min_le_right ..
theorem strR_len {T : List Row} {a : Nat} {o : Option Nat} : (strR T a o).length = endN T.length o - a := by
  unfold strR
  rw [List.length_drop, List.length_take, Nat.min_eq_left endN_le]
theorem strR_get {T : List Row} {a i : Nat} {o : Option Nat} (h : i < endN T.length o - a) : (strR T a o)[i]? = T[a + i]? := by
  unfold strR
  rw [List.getElem?_drop, List.getElem?_take_of_lt (by omega)]
theorem strR_some {T : List Row} {a b : Nat} : strR T a (some b) = (T.drop a).take (b - a) := by
  unfold strR
  show (T.take (min b T.length)).drop a = _
  rw [List.drop_take, List.take_eq_take_iff, List.length_drop]
  omega
theorem strR_none {T : List Row} {a : Nat} : strR T a none = T.drop a := by
  unfold strR
  show (T.take T.length).drop a = _
  rw [List.take_length]
@[irreducible] def S_Stack_stretch (x y z : D) (M : Mem) (Q : List D → Mem → Prop) : Prop := ∃ (w : Nat) (S : List Row) (Ts : List (List Row)) (a : Nat) (o : Option Nat), x = stackD w S Ts ∧ y = .int a ∧ z = stopD o ∧ Chain w (S :: Ts) ∧ w ≤ 1000 ∧ Ts.length ≤ 100 ∧ a ≤ 4000000000 ∧ Q ((strR (topR S Ts) a o).map rowD) M
def sp_Stack_stretch : DSpG := spg3 S_Stack_stretch
theorem sstr_in {w : Nat} {S : List Row} {Ts : List (List Row)} (a : Nat) (o : Option Nat) {M : Mem} {Q : List D → Mem → Prop} (h : Chain w (S :: Ts)) (hw : w ≤ 1000) (hz : Ts.length ≤ 100) (ha : a ≤ 4000000000) (q : Q ((strR (topR S Ts) a o).map rowD) M) : S_Stack_stretch (stackD w S Ts) (.int a) (stopD o) M Q := by
  unfold S_Stack_stretch
  exact ⟨w, S, Ts, a, o, rfl, rfl, rfl, h, hw, hz, ha, q⟩
def spw_Stack_stretch : DSpW := fun ds out => ∃ (w : Nat) (S : List Row) (Ts : List (List Row)) (a : Nat) (o : Option Nat), ds = [stackD w S Ts, .int a, stopD o] ∧ Chain w (S :: Ts) ∧ w ≤ 1000 ∧ Ts.length ≤ 100 ∧ a ≤ 4000000000 ∧ out = (strR (topR S Ts) a o).map rowD
theorem spw_Stack_stretch_len : ∀ ds out, spw_Stack_stretch ds out → ds.length = 3 := by
  rintro ds out ⟨w, S, Ts, a, o, rfl, _⟩
  rfl
def t_Stack_stretch : DTGn :=
  dGFor (diRange2 (dCons (dVar 1) (dCons (dCall sp_end_place [] wNo (dCons (dProp "Stack" sp_Stack_size (dVar 0)) (dCons (dVar 2) (dNil)))) (dNil)))) (dgName 3) (dYield (dMeth "Stack" sp_Stack_row_at wNo (dVar 0) (dCons (dVar 3) (dNil))))
abbrev twi_Stack_stretch : DTI := diRange2 (dCons (dVar 1) (dCons (dCall sp_end_place [] wNo (dCons (dProp "Stack" sp_Stack_size (dVar 0)) (dCons (dVar 2) (dNil)))) (dNil)))
abbrev twg_Stack_stretch : DTG := dgName 3
abbrev twe_Stack_stretch : DTE := dMeth "Stack" sp_Stack_row_at wNo (dVar 0) (dCons (dVar 3) (dNil))
theorem rd_Stack_stretch : ∀ ds M Q, sp_Stack_stretch ds M Q → t_Stack_stretch { nx := fun out _ M' => Q out M', rt := fun out d M' => d = .non ∧ Q out M' } [] (dstart 4 ds) M := rdG3 fun x y z M Q h => by
  unfold S_Stack_stretch at h
  obtain ⟨w, S, Ts, a, o, rfl, rfl, rfl, hc, hw, hz, ha, h⟩ := h
  obtain ⟨tT, lT⟩ := hc _ (topR_mem (S := S) (Ts := Ts))
  have hlen := strR_len (T := topR S Ts) (a := a) (o := o)
  have hend := endN_le (n := (topR S Ts).length) (o := o)
  refine ⟨_, rfl, _, rfl, rfl, ssize_in hc hw hz ⟨_, rfl, endp_in ⟨⟨by omega, by omega⟩, ⟨by omega, by omega⟩, fun i ds' σ' M2 => ∃ x3 : Option D, σ' = [some (stackD w S Ts), some (.int a), some (stopD o), x3] ∧ M2 = M ∧ ds' = ((strR (topR S Ts) a o).take i).map rowD, ⟨_, rfl, rfl, rfl⟩, ?_, ?_⟩⟩⟩
  · rintro i d _ _ _ hd ⟨x3, rfl, rfl, rfl⟩
    obtain ⟨hlt, rfl⟩ := rgD_get hd
    have hlt : i < endN (topR S Ts).length o - a := by omega
    obtain ⟨r, hr⟩ : ∃ r, (strR (topR S Ts) a o)[i]? = some r := ⟨_, List.getElem?_eq_getElem (by omega)⟩
    have hr2 : (topR S Ts)[a + i]? = some r := by rw [← strR_get hlt]; exact hr
    refine ⟨by rw [List.length_map, List.length_take, sizeLine_eq]; omega, ?_⟩
    refine ⟨_, rfl, rfl, _, rfl, ?_⟩
    rw [show (a : Int) + (i : Int) = ((a + i : Nat) : Int) by omega]
    refine srow_in hc hw hz hr2 ⟨_, rfl, rfl, ?_⟩
    rw [List.take_succ, hr, List.map_append]
    rfl
  rintro _ _ _ ⟨x3, rfl, rfl, rfl⟩
  rw [List.take_of_length_le (by rw [rgD_len]; omega)]
  exact h
theorem rdw_Stack_stretch : ∀ ds out, spw_Stack_stretch ds out → ∀ M, dWalk twi_Stack_stretch twg_Stack_stretch twe_Stack_stretch out (dstart 4 ds) M := by
  rintro ds out ⟨w, S, Ts, a, o, rfl, hc, hw, hz, ha, rfl⟩ M
  obtain ⟨tT, lT⟩ := hc _ (topR_mem (S := S) (Ts := Ts))
  have hlen := strR_len (T := topR S Ts) (a := a) (o := o)
  have hend := endN_le (n := (topR S Ts).length) (o := o)
  refine ⟨_, rfl, _, rfl, rfl, ssize_in hc hw hz ⟨_, rfl, endp_in ⟨⟨by omega, by omega⟩, ⟨by omega, by omega⟩, rfl, rfl, ?_, fun i σ' => ∃ x3 : Option D, σ' = [some (stackD w S Ts), some (.int a), some (stopD o), x3], ⟨_, rfl⟩, ?_⟩⟩⟩
  · rw [rgD_len, List.length_map, hlen]; omega
  rintro i d _ M hd ⟨x3, rfl⟩
  obtain ⟨hlt, rfl⟩ := rgD_get hd
  have hlt : i < endN (topR S Ts).length o - a := by omega
  obtain ⟨r, hr⟩ : ∃ r, (strR (topR S Ts) a o)[i]? = some r := ⟨_, List.getElem?_eq_getElem (by omega)⟩
  have hr2 : (topR S Ts)[a + i]? = some r := by rw [← strR_get hlt]; exact hr
  refine ⟨_, rfl, rfl, _, rfl, ?_⟩
  rw [show (a : Int) + (i : Int) = ((a + i : Nat) : Int) by omega]
  exact srow_in hc hw hz hr2 ⟨rfl, by rw [List.getElem?_map, hr]; rfl, _, rfl⟩

/-! _law_take(script, box, limit): a number from 0 on, below the limit; the box alone changes -/
@[irreducible] def S_law_take (s b n : D) (M : Mem) (Q : DK) (_ : DXK) : Prop := ∃ (ns : List Int) (a : Addr) (k : Int), s = .ro (ns.map D.int) ∧ b = .ref a ∧ n = .int k ∧ BoxAt M a ∧ 0 < k ∧ k.natAbs.log2 < 9000 ∧
  ∀ v M', 0 ≤ v → v < k → Drawn a M M' → Q (.int v) M'
def sp_law_take : DSp := spk3 S_law_take
theorem take_in {ns : List Int} {a : Addr} {k : Int} {M : Mem} {Q : DK} {E : DXK} (hb : BoxAt M a) (h0 : 0 < k) (h1 : k.natAbs.log2 < 9000) (h : ∀ v M', 0 ≤ v → v < k → Drawn a M M' → Q (.int v) M') :
    S_law_take (.ro (ns.map D.int)) (.ref a) (.int k) M Q E := by
  unfold S_law_take
  exact ⟨ns, a, k, rfl, rfl, rfl, hb, h0, h1, h⟩
def t_law_take : DTS :=
  dSeqC (dIfS (dAnd (dTest (dBin dEq (dBin dIx (dVar 1) (dC (.int 0))) (dC (.int 0)))) (dTest (dBin dLt (dBin dIx (dVar 1) (dC (.int 1))) (dCB (r1 dLen) (dCons (dVar 0) (dNil)))))) (dSeq (dAsg (dCB (r1 dInt) (dCons (dBin dIx (dVar 0) (dBin dIx (dVar 1) (dC (.int 1)))) (dNil))) (dgName 3))
  (dSeq (dAsg (dCB (r1 dAbs) (dCons (dVar 3) (dNil))) (dgName 4))
  (dSeqC (dIfS (dTest (dBin dLt (dVar 4) (dBin dPow (dC (.int 10)) (dC (.int 18))))) (dSeq (dAsg (dBin dMod (dCB (r1 dInt) (dCons (dBin dMul (dBin dAdd (dBin dAdd (dBin dMul (dC (.int 2)) (dVar 4)) (dCB (r1 dInt) (dCons (dBin dLt (dVar 3) (dC (.int 0))) (dNil)))) (dC (.int 1))) (dBin dAdd (dC (.int 1000000007)) (dBin dMul (dC (.int 2)) (dBin dIx (dVar 1) (dC (.int 1)))))) (dNil))) (dC (.int 2147483647))) (dgName 4))
  (dAsg (dBin dMod (dCB (r1 dInt) (dCons (dBin dMul (dVar 4) (dVar 4)) (dNil))) (dC (.int 998244353))) (dgName 4))) (dNext))
  (dSeq (dAsg (dVar 4) (dgSub (dVar 1) (dC (.int 0))))
  (dAsg (dBin dAdd (dBin dIx (dVar 1) (dC (.int 1))) (dC (.int 1))) (dgSub (dVar 1) (dC (.int 1)))))))) (dNext))
  (dSeq (dAsg (dBin dMod (dCB (r1 dInt) (dCons (dBin dIx (dVar 1) (dC (.int 0))) (dNil))) (dVar 2)) (dgName 5))
  (dSeq (dAsg (dBin dFdiv (dBin dIx (dVar 1) (dC (.int 0))) (dVar 2)) (dgSub (dVar 1) (dC (.int 0))))
  (dRet (dVar 5))))
theorem rd_law_take : ∀ ds M Q E, sp_law_take ds M Q E → t_law_take { nx := fun _ M' => QF Q .non M', rt := QF Q } (dstart 6 ds) M := rd3 fun s b n M Q E h => by
  unfold S_law_take at h
  obtain ⟨ns, a, k, rfl, rfl, rfl, ⟨l, i, hb, hl, hi⟩, h0, h1, h⟩ := h
  refine ⟨fun σ' M' => ∃ (l i : Int) (x3 x4 : Option D), σ' = [some (.ro (ns.map D.int)), some (.ref a), some (.int k), x3, x4, none] ∧ M' a = some (.lst [.int l, .int i]) ∧ 0 ≤ l ∧ 0 ≤ i ∧ Only a M M', ?_, ?_⟩
  · refine ⟨_, rfl, _, _, hb, rfl, byc (fun _ => ?_) fun _ => no ⟨l, i, _, _, rfl, hb, hl, hi, .refl⟩⟩
    refine ⟨_, rfl, _, _, hb, rfl, _, rfl, byc (fun hlt => ?_) fun _ => ⟨l, i, _, _, rfl, hb, hl, hi, .refl⟩⟩
    have hlt : i < ns.length := by simpa using hlt
    obtain ⟨v, hv⟩ := atI_ints hi hlt
    refine ⟨_, rfl, _, rfl, _, _, hb, rfl, _, hv, _, rfl, ?_⟩
    refine ⟨fun σ' M' => ∃ left : Int, σ' = [some (.ro (ns.map D.int)), some (.ref a), some (.int k), some (.int v), some (.int left), none] ∧ M' = M ∧ 0 ≤ left, ?_, ?_⟩
    · have hav : 0 ≤ (v.natAbs : Int) := by omega
      refine ⟨_, rfl, ⟨by decide, by decide, by decide⟩, byc (fun hs => ?_) fun _ => ⟨_, rfl, rfl, hav⟩⟩
      have hs : (v.natAbs : Int) < 10 ^ 18 := hs
      generalize (v.natAbs : Int) = left at hav hs
      refine ⟨_, rfl, .inl (.inl ⟨by decide, by decide⟩), _, rfl, _, rfl, _, _, hb, rfl, .inl (.inl ⟨by decide, by decide⟩), .inl (.inl ?_), by decide, ?_⟩
      · split <;> omega
      refine ⟨_, rfl, _, rfl, .inl (.inl ?_), by decide, ?_⟩
      · have h1 := Int.emod_nonneg ((2 * left + (if decide (v < 0) = true then 1 else 0) + 1) * (1000000007 + 2 * i)) (show (2147483647 : Int) ≠ 0 by decide)
        have h2 := Int.emod_lt_of_pos ((2 * left + (if decide (v < 0) = true then 1 else 0) + 1) * (1000000007 + 2 * i)) (show (0 : Int) < 2147483647 by decide)
        omega
      exact ⟨_, rfl, rfl, Int.emod_nonneg _ (by decide)⟩
    · rintro _ _ ⟨left, rfl, rfl, h0⟩
      refine ⟨_, rfl, _, rfl, a, _, 0, 0, rfl, rfl, hb, rfl, ?_⟩
      refine ⟨_, rfl, _, _, mset_same, rfl, _, rfl, a, _, 1, 1, rfl, rfl, mset_same, rfl, ?_⟩
      exact ⟨left, i + 1, _, _, rfl, mset_same, h0, by omega, Only.refl.mset.mset⟩
  · rintro _ M' ⟨l, i, x3, x4, rfl, hb, hl, hi, ho⟩
    refine ⟨_, rfl, _, _, hb, rfl, _, rfl, h0, ?_⟩
    refine ⟨_, rfl, _, _, hb, rfl, _, rfl, ⟨h0, h1⟩, _, rfl, a, _, 0, 0, rfl, rfl, hb, rfl, _, rfl, qf_same ?_⟩
    exact h _ _ (Int.emod_nonneg _ (by omega)) (Int.emod_lt_of_pos _ h0) ⟨⟨_, _, mset_same, Int.ediv_nonneg hl (by omega), hi⟩, ho.mset⟩

/-! _law_number(script, box): an integer of at most 41 digits -/
@[irreducible] def S_law_number (s b : D) (M : Mem) (Q : DK) (_ : DXK) : Prop := ∃ (ns : List Int) (a : Addr), s = .ro (ns.map D.int) ∧ b = .ref a ∧ BoxAt M a ∧
  ∀ v M', v.natAbs ≤ 10 ^ 40 → Drawn a M M' → Q (.int v) M'
def sp_law_number : DSp := spk2 S_law_number
theorem number_in {ns : List Int} {a : Addr} {M : Mem} {Q : DK} {E : DXK} (hb : BoxAt M a) (h : ∀ v M', v.natAbs ≤ 10 ^ 40 → Drawn a M M' → Q (.int v) M') :
    S_law_number (.ro (ns.map D.int)) (.ref a) M Q E := by
  unfold S_law_number
  exact ⟨ns, a, rfl, rfl, hb, h⟩
def t_law_number : DTS :=
  dSeq (dAsg (dCall sp_law_take [] wNo (dCons (dVar 0) (dCons (dVar 1) (dCons (dC (.int 6)) (dNil))))) (dgName 2))
  (dSeq (dIfS (dTest (dBin dLt (dVar 2) (dC (.int 4)))) (dRet (dBin dIx (dLst (dCons (dC (.int 0)) (dCons (dC (.int 1)) (dCons (dC (.int 2)) (dCons (dUn dNeg (dC (.int 1))) (dNil)))))) (dVar 2))) (dNext))
  (dSeq (dAsg (dCall sp_law_take [] wNo (dCons (dVar 0) (dCons (dVar 1) (dCons (dBin dPow (dC (.int 10)) (dC (.int 40))) (dNil))))) (dgName 3))
  (dSeq (dIfS (dTest (dBin dEq (dVar 2) (dC (.int 4)))) (dRet (dVar 3)) (dNext))
  (dRet (dBin dSub (dUn dNeg (dC (.int 1))) (dVar 3))))))
theorem rd_law_number : ∀ ds M Q E, sp_law_number ds M Q E → t_law_number { nx := fun _ M' => QF Q .non M', rt := QF Q } (dstart 4 ds) M := rd2 fun s b M Q E h => by
  unfold S_law_number at h
  obtain ⟨ns, a, rfl, rfl, hb, h⟩ := h
  refine ⟨_, rfl, _, rfl, take_in hb (by decide) (by decide) fun v M1 h0 h1 d1 => ?_⟩
  refine ⟨_, rfl, byc (fun hv => ?_) fun hv => ?_⟩
  · have : v = 0 ∨ v = 1 ∨ v = 2 ∨ v = 3 := by omega
    rcases this with rfl | rfl | rfl | rfl <;> exact ⟨by decide, _, rfl, _, rfl, qf_same (h _ _ (by decide) d1)⟩
  · refine ⟨_, rfl, _, rfl, ⟨by decide, by decide, by decide⟩, take_in d1.box (by decide) (by decide) fun w M2 h2 h3 d2 => ?_⟩
    have h3 : w < 10 ^ 40 := h3
    refine ⟨_, rfl, byc (fun hv => ?_) fun hv => ?_⟩
    · exact ⟨_, rfl, qf_same (h _ _ (by omega) (d1.trans d2))⟩
    · exact ⟨_, rfl, qf_same (h _ _ (by omega) (d1.trans d2))⟩

/-! _law_width(script, box): a width from 1 to 8 -/
@[irreducible] def S_law_width (s b : D) (M : Mem) (Q : DK) (_ : DXK) : Prop := ∃ (ns : List Int) (a : Addr), s = .ro (ns.map D.int) ∧ b = .ref a ∧ BoxAt M a ∧
  ∀ (w : Nat) M', 1 ≤ w → w ≤ 8 → Drawn a M M' → Q (.int w) M'
def sp_law_width : DSp := spk2 S_law_width
theorem width_in {ns : List Int} {a : Addr} {M : Mem} {Q : DK} {E : DXK} (hb : BoxAt M a) (h : ∀ (w : Nat) M', 1 ≤ w → w ≤ 8 → Drawn a M M' → Q (.int w) M') :
    S_law_width (.ro (ns.map D.int)) (.ref a) M Q E := by
  unfold S_law_width
  exact ⟨ns, a, rfl, rfl, hb, h⟩
def t_law_width : DTS :=
  dSeq (dAsg (dBin dIx (dLst (dCons (dC (.int 2)) (dCons (dC (.int 3)) (dCons (dC (.int 1)) (dCons (dC (.int 4)) (dCons (dC (.int 2)) (dCons (dC (.int 3)) (dCons (dC (.int 5)) (dCons (dC (.int 8)) (dNil)))))))))) (dCall sp_law_take [] wNo (dCons (dVar 0) (dCons (dVar 1) (dCons (dC (.int 8)) (dNil)))))) (dgName 2))
  (dSeqC (dIfS (dTest (dBin dEq (dVar 2) (dC (.int 8)))) (dAsg (dBin dAdd (dC (.int 5)) (dCall sp_law_take [] wNo (dCons (dVar 0) (dCons (dVar 1) (dCons (dC (.int 4)) (dNil)))))) (dgName 2)) (dNext))
  (dRet (dVar 2)))
theorem rd_law_width : ∀ ds M Q E, sp_law_width ds M Q E → t_law_width { nx := fun _ M' => QF Q .non M', rt := QF Q } (dstart 3 ds) M := rd2 fun s b M Q E h => by
  unfold S_law_width at h
  obtain ⟨ns, a, rfl, rfl, hb, h⟩ := h
  refine ⟨by decide, _, rfl, _, rfl, take_in hb (by decide) (by decide) fun v M1 h0 h1 d1 => ?_⟩
  have done : ∀ (w : Int) M', 1 ≤ w → w ≤ 8 → Drawn a M M' → QF Q (.int w) M' := fun w M' a b d => by
    obtain ⟨k, rfl⟩ : ∃ k : Nat, w = k := ⟨w.toNat, by omega⟩
    exact qf_same (h k M' (by omega) (by omega) d)
  have go : ∃ u : Int, 1 ≤ u ∧ u ≤ 8 ∧ atI [D.int 2, .int 3, .int 1, .int 4, .int 2, .int 3, .int 5, .int 8] v = some (.int u) := by
    have : v = 0 ∨ v = 1 ∨ v = 2 ∨ v = 3 ∨ v = 4 ∨ v = 5 ∨ v = 6 ∨ v = 7 := by omega
    rcases this with rfl | rfl | rfl | rfl | rfl | rfl | rfl | rfl <;> exact ⟨_, by decide, by decide, rfl⟩
  obtain ⟨u, u0, u1, e⟩ := go
  refine ⟨_, e, ?_⟩
  refine ⟨fun σ' M' => ∃ u : Int, σ' = [some (.ro (ns.map D.int)), some (.ref a), some (.int u)] ∧ 1 ≤ u ∧ u ≤ 8 ∧ Drawn a M M', ?_, ?_⟩
  · refine ⟨_, rfl, byc (fun _ => ?_) fun _ => ⟨u, rfl, u0, u1, d1⟩⟩
    exact ⟨_, rfl, _, rfl, take_in d1.box (by decide) (by decide) fun v M2 h2 h3 d2 => ⟨_, rfl, by omega, by omega, d1.trans d2⟩⟩
  · rintro _ M' ⟨u, rfl, h2, h3, d⟩
    exact ⟨_, rfl, done _ _ h2 h3 d⟩

/-! numbers drawn -/
/-- the numbers of a new row behind its key -/
theorem nums_gather {ns : List Int} {a : Addr} {w : Nat} {M : Mem} {σ : DSt} {i0 i1 i2 : Nat} {Q : DK} (h0 : sl σ i0 = some (.ro (ns.map D.int))) (h1 : sl σ i1 = some (.ref a)) (h2 : sl σ i2 = some (.int (w : Nat))) (hw : 1 ≤ w ∧ w ≤ 8) (hb : BoxAt M a) {c : Nat} (hc : c ≠ i0 ∧ c ≠ i1)
    (q : ∀ (xs : List Int) M', xs.length = w - 1 → (∀ x ∈ xs, x.natAbs ≤ 10 ^ 40) → Drawn a M M' → Q (.lst (xs.map D.int)) M') :
    dLc (diRange1 (dCons (dBin dSub (dVar i2) (dC (.int 1))) (dNil))) (.nm c) (dYes) (dCall sp_law_number [] wNo (dCons (dVar i0) (dCons (dVar i1) (dNil)))) [c] σ M Q := by
  have e : ((w : Int) - 1).toNat = w - 1 := by omega
  have v0 : ∀ d, sl ((dwipe σ [c]).set c d) i0 = some (.ro (ns.map D.int)) := fun d => by
    rw [sl_set_ne hc.1]
    show sl (σ.set c none) i0 = _
    rw [sl_set_ne hc.1]
    exact h0
  have v1 : ∀ d, sl ((dwipe σ [c]).set c d) i1 = some (.ref a) := fun d => by
    rw [sl_set_ne hc.2]
    show sl (σ.set c none) i1 = _
    rw [sl_set_ne hc.2]
    exact h1
  refine ⟨_, h2, ⟨by omega, by omega⟩, ?_⟩
  refine ⟨by rw [rgD_len]; exact sz9 (by omega), fun i acc M' => acc.length = i ∧ (∃ xs : List Int, acc = xs.map .int ∧ ∀ x ∈ xs, x.natAbs ≤ 10 ^ 40) ∧ BoxAt M' a ∧ Only a M M', ⟨rfl, ⟨[], rfl, by simp⟩, hb, .refl⟩, ?_, ?_⟩
  · rintro i _ d M' _ _ ⟨hl, ⟨xs, rfl, hx⟩, bx, on⟩
    refine yes ⟨_, v0 _, _, v1 _, number_in bx fun v M2 hv d2 => ⟨by simpa using hl, ⟨xs ++ [v], by simp, fun x hx' => ?_⟩, d2.box, on.trans d2.only⟩⟩
    rcases List.mem_append.mp hx' with h | h
    · exact hx x h
    · simp at h; rw [h]; exact hv
  · rintro _ M' _ ⟨hl, ⟨xs, rfl, hx⟩, bx, on⟩
    rw [rgD_len, e] at hl
    exact q xs M' (by simpa using hl) hx ⟨bx, on⟩

/-! _law_rows(script, box, width, most): a table of at most so many rows -/
@[irreducible] def S_law_rows (s b x y : D) (M : Mem) (Q : DK) (_ : DXK) : Prop := ∃ (ns : List Int) (a : Addr) (w most : Nat), s = .ro (ns.map D.int) ∧ b = .ref a ∧ x = .int w ∧ y = .int most ∧ BoxAt M a ∧ 1 ≤ w ∧ w ≤ 8 ∧ 2 ≤ most ∧ most ≤ 20 ∧
  ∀ (S : List Row) M', Tab w S → S.length ≤ most → Big (10 ^ 43) S → Kept a M M' → FL Q M' (S.map rowD)
def sp_law_rows : DSp := spk4 S_law_rows
theorem rows_in {ns : List Int} {a : Addr} {w most : Nat} {M : Mem} {Q : DK} {E : DXK} (hb : BoxAt M a) (h1 : 1 ≤ w) (h2 : w ≤ 8) (h3 : 2 ≤ most) (h4 : most ≤ 20) (h : ∀ (S : List Row) M', Tab w S → S.length ≤ most → Big (10 ^ 43) S → Kept a M M' → FL Q M' (S.map rowD)) :
    S_law_rows (.ro (ns.map D.int)) (.ref a) (.int w) (.int most) M Q E := by
  unfold S_law_rows
  exact ⟨ns, a, w, most, rfl, rfl, rfl, rfl, hb, h1, h2, h3, h4, h⟩
theorem tab_snoc {w : Nat} {S : List Row} {r : Row} (t : Tab w S) (hr : r.length = w) (h : ∀ s ∈ S, key s < key r) : Tab w (S ++ [r]) := by
  refine ⟨t.pos, fun s hs => ?_, ?_⟩
  · rcases List.mem_append.mp hs with h | h
    · exact t.wid s h
    · simp at h; rw [h]; exact hr
  · rw [List.pairwise_append]
    exact ⟨t.asc, by simp, fun s hs x hx => by simp at hx; rw [hx]; exact h s hs⟩
theorem big_snoc {B : Nat} {S : List Row} {r : Row} (h : Big B S) (hr : ∀ n ∈ r, n.natAbs ≤ B) : Big B (S ++ [r]) := fun s hs => by
  rcases List.mem_append.mp hs with h' | h'
  · exact h s h'
  · simp at h'; rw [h']; exact hr
def t_law_rows : DTS :=
  dSeq (dAsg (dCall sp_law_take [] wNo (dCons (dVar 0) (dCons (dVar 1) (dCons (dBin dAdd (dVar 3) (dC (.int 6))) (dNil))))) (dgName 4))
  (dSeqC (dIfS (dTest (dBin dGt (dVar 4) (dVar 3))) (dAsg (dBin dIx (dLst (dCons (dC (.int 0)) (dCons (dC (.int 1)) (dCons (dC (.int 2)) (dCons (dVar 3) (dCons (dVar 3) (dNil))))))) (dBin dSub (dBin dSub (dVar 4) (dVar 3)) (dC (.int 1)))) (dgName 4)) (dNext))
  (dSeq (dAsg (dCall sp_law_number [] wNo (dCons (dVar 0) (dCons (dVar 1) (dNil)))) (dgName 5))
  (dSeq (dAsg (dLstC (dNil)) (dgName 6))
  (dSeq (dFor (diRange1 (dCons (dVar 4) (dNil))) (dgName 7) (dSeq (dDrop (dApp (dVar 6) (dCons (dCB (r1 dTupF) (dCons (dBin dAdd (dLst (dCons (dVar 5) (dNil))) (dLc (diRange1 (dCons (dBin dSub (dVar 2) (dC (.int 1))) (dNil))) (.nm 8) (dYes) (dCall sp_law_number [] wNo (dCons (dVar 0) (dCons (dVar 1) (dNil)))) [8])) (dNil))) (dNil))))
  (dAsg (dBin dAdd (dBin dAdd (dVar 5) (dC (.int 1))) (dCB (r1 dAbs) (dCons (dCall sp_law_number [] wNo (dCons (dVar 0) (dCons (dVar 1) (dNil)))) (dNil)))) (dgName 5))))
  (dRet (dVar 6))))))
theorem rd_law_rows : ∀ ds M Q E, sp_law_rows ds M Q E → t_law_rows { nx := fun _ M' => QF Q .non M', rt := QF Q } (dstart 9 ds) M := rd4 fun s b x y M Q E h => by
  unfold S_law_rows at h
  obtain ⟨ns, a, w, most, rfl, rfl, rfl, rfl, hb, hw1, hw8, hm2, hm12, h⟩ := h
  refine ⟨_, rfl, _, rfl, _, rfl, take_in hb (by omega) ?_ fun many M1 h0 h1 d1 => ?_⟩
  · have : ((most : Int) + 6).natAbs = most + 6 := by omega
    rw [this]
    exact Nat.lt_of_le_of_lt (Nat.log2_le_self _) (by omega)
  refine ⟨fun σ' M' => ∃ many : Nat, σ' = [some (.ro (ns.map D.int)), some (.ref a), some (.int w), some (.int most), some (.int many), none, none, none, none] ∧ many ≤ most ∧ M' = M1, ?_, ?_⟩
  · refine ⟨_, rfl, _, rfl, byc (fun hk => ?_) fun hk => ⟨many.toNat, by rw [Int.toNat_of_nonneg h0]; rfl, by omega, rfl⟩⟩
    refine ⟨_, rfl, _, rfl, sz9 (show 5 ≤ 1000 by decide), _, rfl, _, rfl, ?_⟩
    have go : ∃ u : Nat, u ≤ most ∧ atI [D.int 0, .int 1, .int 2, .int most, .int most] (many - most - 1) = some (.int u) := by
      have : many - most - 1 = 0 ∨ many - most - 1 = 1 ∨ many - most - 1 = 2 ∨ many - most - 1 = 3 ∨ many - most - 1 = 4 := by omega
      rcases this with e | e | e | e | e <;> rw [e]
      · exact ⟨0, by omega, rfl⟩
      · exact ⟨1, by omega, rfl⟩
      · exact ⟨2, by omega, rfl⟩
      · exact ⟨most, by omega, rfl⟩
      · exact ⟨most, by omega, rfl⟩
    obtain ⟨u, hu, e⟩ := go
    exact ⟨_, e, u, rfl, hu, rfl⟩
  rintro _ M2 ⟨many, rfl, hmany, rfl⟩
  refine ⟨_, rfl, _, rfl, number_in d1.box fun k0 M3 hk0 d3 => ?_⟩
  refine ⟨by decide, fun p hp => ?_⟩
  have hbp := d3.box.ne hp
  have d13 := d1.trans d3
  have hp0 : M p = none := by rw [← d13.only p (Ne.symm hbp)]; exact hp
  have p40 : (10 : Nat) ^ 40 = 10000000000000000000000000000000000000000 := by decide
  have p43 : (10 : Nat) ^ 43 = 10000000000000000000000000000000000000000000 := by decide
  refine ⟨_, rfl, ⟨by omega, by omega⟩, fun i σ' M' => ∃ (k : Int) (S : List Row) (x7 : Option D), σ' = [some (.ro (ns.map D.int)), some (.ref a), some (.int w), some (.int most), some (.int many), some (.int k), some (.ref p), x7, none] ∧
    Tab w S ∧ S.length = i ∧ Big (10 ^ 43) S ∧ (∀ r ∈ S, key r < k) ∧ k.natAbs ≤ (i + 1) * (10 ^ 40 + 1) ∧ M' p = some (.lst (S.map rowD)) ∧ Kept a M M', ⟨k0, [], _, rfl, .nil hw1, rfl, (fun r hr => nomatch hr), (fun r hr => nomatch hr), by omega, mset_same, d13.kept.mset hp0 hbp⟩, ?_, ?_⟩
  · rintro i d _ M' hd ⟨k, S, x7, rfl, tS, hl, bS, hk, hkb, hmp, kp⟩
    obtain ⟨hi, rfl⟩ := rgD_get hd
    refine ⟨_, rfl, ⟨p, _, rfl, hmp⟩, _, rfl, sz9 (show 1 ≤ 1000 by decide), nums_gather rfl rfl rfl ⟨hw1, hw8⟩ kp.box ⟨by decide, by decide⟩ fun xs M4 hxl hxb d4 => ?_⟩
    have hmp4 := d4.only.at (Ne.symm hbp) hmp
    refine ⟨[.int k], xs.map .int, .inl rfl, .inl rfl, sz9 (by simp; omega), _, Seq.lst, p, _, _, rfl, rfl, hmp4, szlt (by simp; omega), ?_⟩
    have kp4 := (kp.trans d4.kept).mset (o := .lst (S.map rowD ++ [rowD (k :: xs)])) hp0 hbp
    refine ⟨_, rfl, _, rfl, _, rfl, number_in kp4.box fun v M5 hv d5 => ?_⟩
    have hkk : key (k :: xs) = k := rfl
    refine ⟨k + 1 + (v.natAbs : Int), S ++ [k :: xs], _, rfl, tab_snoc tS (by simp; omega) hk, by simp [hl], big_snoc bS ?_, ?_, ?_, ?_, kp4.trans d5.kept⟩
    · intro n hn
      rcases List.mem_cons.mp hn with e | e
      · rw [e]
        have : (i + 1) * (10 ^ 40 + 1) ≤ 21 * (10 ^ 40 + 1) := Nat.mul_le_mul_right _ (by omega)
        omega
      · have := hxb n e
        omega
    · intro r hr
      rcases List.mem_append.mp hr with h | h
      · have := hk r h; omega
      · simp at h; subst h; rw [hkk]; omega
    · have : (i + 1 + 1) * (10 ^ 40 + 1) = (i + 1) * (10 ^ 40 + 1) + (10 ^ 40 + 1) := by rw [Nat.add_mul (i + 1) 1, Nat.one_mul]
      omega
    · have := d5.only.at (o := .lst (S.map rowD ++ [rowD (k :: xs)])) (Ne.symm hbp) mset_same
      rw [List.map_append]
      exact this
  · rintro _ M6 ⟨k, S, x7, rfl, tS, hl, bS, hk, hkb, hmp, kp⟩
    rw [rgD_len] at hl
    refine ⟨_, rfl, ?_⟩
    exact fl_cellK (fun M' k' => h S M' tS (by omega) bS k') kp hp0 hbp hmp

/-! _law_target(script, box, rows, width, room): a table made from another one -/
/-- rows are put in only where there is room -/
def InsOk (S T : List Row) (rm : Nat) : Prop := (∀ t ∈ T, ∃ r ∈ S, key r = key t) ∨ T.length ≤ rm
@[irreducible] def S_law_target (s b x y z : D) (M : Mem) (Q : DK) (_ : DXK) : Prop := ∃ (ns : List Int) (a : Addr) (S : List Row) (w room N B : Nat), s = .ro (ns.map D.int) ∧ b = .ref a ∧ x = .lst (S.map rowD) ∧ y = .int w ∧ z = .int room ∧ BoxAt M a ∧ Tab w S ∧ w ≤ 8 ∧ S.length ≤ N ∧ room ≤ N ∧ N ≤ 100 ∧ room ≤ 20 ∧ Big B S ∧
  ∀ (T : List Row) M', Tab w T → T.length ≤ N → Big (B + 10 ^ 43) T → InsOk S T room → Kept a M M' → FL Q M' (T.map rowD)
def sp_law_target : DSp := spk5 S_law_target
theorem target_in {ns : List Int} {a : Addr} {S : List Row} {w room B : Nat} {M : Mem} {Q : DK} {E : DXK} (hb : BoxAt M a) (tS : Tab w S) (h2 : w ≤ 8) (h3 : S.length ≤ room) (h4 : room ≤ 20) (bS : Big B S) (h : ∀ (T : List Row) M', Tab w T → T.length ≤ room → Big (B + 10 ^ 43) T → Kept a M M' → FL Q M' (T.map rowD)) :
    S_law_target (.ro (ns.map D.int)) (.ref a) (.lst (S.map rowD)) (.int w) (.int room) M Q E := by
  unfold S_law_target
  exact ⟨ns, a, S, w, room, room, B, rfl, rfl, rfl, rfl, rfl, hb, tS, h2, h3, Nat.le_refl _, by omega, h4, bS, fun T M' h1 h2 h3 _ h5 => h T M' h1 h2 h3 h5⟩
theorem target_inN {ns : List Int} {a : Addr} {S : List Row} {w room N B : Nat} {M : Mem} {Q : DK} {E : DXK} (hb : BoxAt M a) (tS : Tab w S) (h2 : w ≤ 8) (h3 : S.length ≤ N) (h5 : room ≤ N) (h6 : N ≤ 100) (h4 : room ≤ 20) (bS : Big B S) (h : ∀ (T : List Row) M', Tab w T → T.length ≤ N → Big (B + 10 ^ 43) T → Kept a M M' → FL Q M' (T.map rowD)) :
    S_law_target (.ro (ns.map D.int)) (.ref a) (.lst (S.map rowD)) (.int w) (.int room) M Q E := by
  unfold S_law_target
  exact ⟨ns, a, S, w, room, N, B, rfl, rfl, rfl, rfl, rfl, hb, tS, h2, h3, h5, h6, h4, bS, fun T M' h1 h2 h3 _ h5 => h T M' h1 h2 h3 h5⟩
theorem target_inK {ns : List Int} {a : Addr} {S : List Row} {w room N B : Nat} {M : Mem} {Q : DK} {E : DXK} (hb : BoxAt M a) (tS : Tab w S) (h2 : w ≤ 8) (h3 : S.length ≤ N) (h5 : room ≤ N) (h6 : N ≤ 100) (h4 : room ≤ 20) (bS : Big B S) (h : ∀ (T : List Row) M', Tab w T → T.length ≤ N → Big (B + 10 ^ 43) T → InsOk S T room → Kept a M M' → FL Q M' (T.map rowD)) :
    S_law_target (.ro (ns.map D.int)) (.ref a) (.lst (S.map rowD)) (.int w) (.int room) M Q E := by
  unfold S_law_target
  exact ⟨ns, a, S, w, room, N, B, rfl, rfl, rfl, rfl, rfl, hb, tS, h2, h3, h5, h6, h4, bS, h⟩
theorem edge_step {e B J n P : Nat} (h : e ≤ B + P + 3 + J) (hn : n ≤ e + (P + 1)) : n ≤ B + P + 3 + (J + (P + 1)) := by omega
/-- what holds of the target ahead of row i -/
structure TgI (w room rm B i : Nat) (S T : List Row) (edge : Int) (j : Nat) : Prop where
  tab : Tab w T
  len : T.length + (S.length - i) ≤ room
  big : Big (B + 10 ^ 43) T
  low : ∀ t ∈ T, key t ≤ edge
  high : ∀ k r, i ≤ k → S[k]? = some r → edge < key r
  edge : edge.natAbs ≤ B + 10 ^ 40 + 3 + j * (10 ^ 40 + 1)
  ins : (∀ t ∈ T, ∃ r ∈ S, key r = key t) ∨ T.length + (S.length - i) ≤ rm
theorem key_le {w B : Nat} {S : List Row} (t : Tab w S) (b : Big B S) {r : Row} (hr : r ∈ S) : (key r).natAbs ≤ B := by
  cases h : r with
  | nil => exact absurd h (t.ne hr)
  | cons a l => exact b r hr _ (by rw [h]; exact List.mem_cons_self)
theorem Tab.lt {w : Nat} {S : List Row} (t : Tab w S) {i j : Nat} {r s : Row} (hi : S[i]? = some r) (hj : S[j]? = some s) (h : i < j) : key r < key s := by
  obtain ⟨hi', rfl⟩ := List.getElem?_eq_some_iff.mp hi
  obtain ⟨hj', rfl⟩ := List.getElem?_eq_some_iff.mp hj
  exact List.pairwise_iff_getElem.mp t.asc i j hi' hj' h
def t_law_target : DTS :=
  dSeq (dAsg (dCall sp_law_take [] wNo (dCons (dVar 0) (dCons (dVar 1) (dCons (dC (.int 6)) (dNil))))) (dgName 5))
  (dSeq (dIfS (dTest (dBin dEq (dVar 5) (dC (.int 3)))) (dRet (dCB (r1 dListC) (dCons (dVar 2) (dNil)))) (dNext))
  (dSeq (dAsg (dLstC (dNil)) (dgName 6))
  (dSeq (dAsg (dCall sp_law_number [] wNo (dCons (dVar 0) (dCons (dVar 1) (dNil)))) (dgName 7))
  (dSeqC (dIfS (dTruth (dVar 2)) (dAsg (dCB (r2 dMin) (dCons (dVar 7) (dCons (dBin dSub (dBin dSub (dBin dIx (dBin dIx (dVar 2) (dC (.int 0))) (dC (.int 0))) (dC (.int 1))) (dCall sp_law_take [] wNo (dCons (dVar 0) (dCons (dVar 1) (dCons (dC (.int 3)) (dNil)))))) (dNil)))) (dgName 7)) (dNext))
  (dSeq (dFor (diRange1 (dCons (dBin dAdd (dCB (r1 dLen) (dCons (dVar 2) (dNil))) (dC (.int 1))) (dNil))) (dgName 8) (dSeq (dFor (diRange1 (dCons (dBin dIx (dLst (dCons (dC (.int 0)) (dCons (dC (.int 0)) (dCons (dC (.int 0)) (dCons (dC (.int 1)) (dCons (dC (.int 1)) (dCons (dC (.int 2)) (dCons (dC (.int 3)) (dCons (dVar 4) (dNil)))))))))) (dCall sp_law_take [] wNo (dCons (dVar 0) (dCons (dVar 1) (dCons (dC (.int 8)) (dNil)))))) (dNil))) (dgName 9) (dSeq (dAsg (dBin dAdd (dBin dAdd (dVar 7) (dC (.int 1))) (dCB (r1 dAbs) (dCons (dCall sp_law_number [] wNo (dCons (dVar 0) (dCons (dVar 1) (dNil)))) (dNil)))) (dgName 10))
  (dIfS (dAnd (dOr (dTest (dBin dEq (dVar 8) (dCB (r1 dLen) (dCons (dVar 2) (dNil))))) (dTest (dBin dLt (dVar 10) (dBin dIx (dBin dIx (dVar 2) (dVar 8)) (dC (.int 0)))))) (dTest (dBin dLt (dBin dSub (dBin dAdd (dCB (r1 dLen) (dCons (dVar 6) (dNil))) (dCB (r1 dLen) (dCons (dVar 2) (dNil)))) (dVar 8)) (dVar 4)))) (dSeq (dDrop (dApp (dVar 6) (dCons (dCB (r1 dTupF) (dCons (dBin dAdd (dLst (dCons (dVar 10) (dNil))) (dLc (diRange1 (dCons (dBin dSub (dVar 3) (dC (.int 1))) (dNil))) (.nm 14) (dYes) (dCall sp_law_number [] wNo (dCons (dVar 0) (dCons (dVar 1) (dNil)))) [14])) (dNil))) (dNil))))
  (dAsg (dVar 10) (dgName 7))) (dNext))))
  (dIfS (dTest (dBin dLt (dVar 8) (dCB (r1 dLen) (dCons (dVar 2) (dNil))))) (dSeq (dAsg (dCB (r1 dListC) (dCons (dBin dIx (dVar 2) (dVar 8)) (dNil))) (dgName 11))
  (dSeq (dAsg (dBin dIx (dVar 11) (dC (.int 0))) (dgName 7))
  (dSeq (dAsg (dCall sp_law_take [] wNo (dCons (dVar 0) (dCons (dVar 1) (dCons (dC (.int 4)) (dNil))))) (dgName 12))
  (dSeqC (dIfS (dAnd (dTest (dBin dEq (dVar 12) (dC (.int 1)))) (dTest (dBin dGt (dVar 3) (dC (.int 1))))) (dSeq (dAsg (dBin dAdd (dC (.int 1)) (dCall sp_law_take [] wNo (dCons (dVar 0) (dCons (dVar 1) (dCons (dBin dSub (dVar 3) (dC (.int 1))) (dNil)))))) (dgName 13))
  (dAsg (dBin dAdd (dBin dAdd (dBin dIx (dVar 11) (dVar 13)) (dC (.int 1))) (dCall sp_law_take [] wNo (dCons (dVar 0) (dCons (dVar 1) (dCons (dC (.int 2)) (dNil)))))) (dgSub (dVar 11) (dVar 13)))) (dNext))
  (dSeqC (dIfS (dTest (dBin dEq (dVar 12) (dC (.int 2)))) (dAsg (dBin dAddC (dLst (dCons (dVar 7) (dNil))) (dLc (diRange1 (dCons (dBin dSub (dVar 3) (dC (.int 1))) (dNil))) (.nm 14) (dYes) (dCall sp_law_number [] wNo (dCons (dVar 0) (dCons (dVar 1) (dNil)))) [14])) (dgName 11)) (dNext))
  (dIfS (dAnd (dOr (dTest (dBin dLt (dVar 12) (dC (.int 3)))) (dTest (dBin dEq (dVar 5) (dC (.int 5))))) (dTest (dBin dNe (dVar 5) (dC (.int 4))))) (dDrop (dApp (dVar 6) (dCons (dCB (r1 dTupF) (dCons (dVar 11) (dNil))) (dNil)))) (dNext))))))) (dNext))))
  (dRet (dVar 6)))))))
theorem rd_law_target : ∀ ds M Q E, sp_law_target ds M Q E → t_law_target { nx := fun _ M' => QF Q .non M', rt := QF Q } (dstart 15 ds) M := rd5 fun s b x y z M Q E h => by
  unfold S_law_target at h
  obtain ⟨ns, a, S, w, room, N, B, rfl, rfl, rfl, rfl, rfl, hb, tS, hw8, hlen, hrN, hN, hroom, bS, h⟩ := h
  have hw1 := tS.pos
  have p40 : (10 : Nat) ^ 40 = 10000000000000000000000000000000000000000 := by decide
  have p43 : (10 : Nat) ^ 43 = 10000000000000000000000000000000000000000000 := by decide
  refine ⟨_, rfl, _, rfl, take_in hb (by decide) (by decide) fun mode M1 _ _ d1 => ?_⟩
  refine ⟨_, rfl, byc (fun _ => ⟨_, rfl, _, Seq.lst, fun p hp => fl_ret (h S _ tS hlen (bS.le (by omega)) (.inl fun t ht => ⟨t, ht, rfl⟩) d1.kept) hp⟩) fun _ => ?_⟩
  refine ⟨by decide, fun p hp => ?_⟩
  have hbp := d1.box.ne hp
  have hp0 : M p = none := by rw [← d1.only p (Ne.symm hbp)]; exact hp
  refine ⟨_, rfl, _, rfl, number_in (d1.box.mset hbp) fun e0 M2 he0 d2 => ?_⟩
  have kp2 : Kept a M M2 := (d1.kept.mset (o := .lst []) hp0 hbp).trans d2.kept
  have hm2 : M2 p = some (.lst []) := d2.only.at (Ne.symm hbp) mset_same
  refine ⟨fun σ' M' => ∃ edge : Int, σ' = [some (.ro (ns.map D.int)), some (.ref a), some (.lst (S.map rowD)), some (.int w), some (.int room), some (.int mode), some (.ref p), some (.int edge), none, none, none, none, none, none, none] ∧
    (∀ r ∈ S, edge < key r) ∧ edge.natAbs ≤ B + 10 ^ 40 + 3 ∧ M' p = some (.lst []) ∧ Kept a M M', ?_, ?_⟩
  · refine ⟨_, rfl, ?_⟩
    cases hS : S with
    | nil => exact no ⟨e0, rfl, (fun r hr => nomatch hr), by omega, hm2, kp2⟩
    | cons r0 S' =>
      have hr0 : r0 ∈ S := by rw [hS]; simp
      have hk0 := key_le tS bS hr0
      have h00 : S[0]? = some r0 := by rw [hS]; rfl
      refine yes ⟨_, rfl, _, rfl, _, atI_map (i := 0) (l := r0 :: S') (f := rowD) rfl, _, row_key (tS.ne hr0), _, rfl, _, rfl, take_in kp2.box (by decide) (by decide) fun v M3 hv0 hv1 d3 => ?_⟩
      refine ⟨_, rfl, fun r hr => ?_, ?_, d3.only.at (Ne.symm hbp) hm2, kp2.trans d3.kept⟩
      · have : key r0 ≤ key r := by
          rw [← hS] at hr
          obtain ⟨j, hj⟩ := List.getElem?_of_mem hr
          cases j with
          | zero => rw [h00] at hj; injection hj with hj; rw [hj]; omega
          | succ j => have := tS.lt h00 hj (by omega); omega
        split <;> omega
      · split <;> omega
  rintro _ M3 ⟨edge, rfl, he1, he2, hm3, kp3⟩
  refine ⟨_, rfl, ⟨by omega, by simp; omega⟩, ?_⟩
  have hrg : (((S.map rowD).length : Int) + 1).toNat = S.length + 1 := by simp
  refine ⟨fun i σ' M' => ∃ (edge : Int) (T : List Row) (x8 x9 x10 x11 x12 x13 : Option D), σ' = [some (.ro (ns.map D.int)), some (.ref a), some (.lst (S.map rowD)), some (.int w), some (.int room), some (.int mode), some (.ref p), some (.int edge), x8, x9, x10, x11, x12, x13, none] ∧
    (i ≤ S.length → TgI w N room B i S T edge 0) ∧ Tab w T ∧ T.length ≤ N ∧ Big (B + 10 ^ 43) T ∧ InsOk S T room ∧ M' p = some (.lst (T.map rowD)) ∧ Kept a M M', ?_, ?_, ?_⟩
  · refine ⟨edge, [], _, _, _, _, _, _, rfl, fun _ => ⟨.nil hw1, by simp; omega, (fun r hr => nomatch hr), (fun r hr => nomatch hr), fun k r _ hk => he1 r (List.mem_of_getElem? hk), by omega, .inl (fun r hr => nomatch hr)⟩, .nil hw1, by simp, (fun r hr => nomatch hr), .inl (fun r hr => nomatch hr), hm3, kp3⟩
  · rintro i d _ M4 hd ⟨edge, T, x8, x9, x10, x11, x12, x13, rfl, tg, -, -, -, -, hmp, kp⟩
    obtain ⟨hi, rfl⟩ := rgD_get hd
    rw [hrg] at hi
    have tg := tg (by omega)
    have hi0 : (0 + (i : Int)) = (i : Int) := by omega
    rw [hi0]
    -- the rows that are put in
    refine ⟨_, rfl, sz9 (show 8 ≤ 1000 by decide), _, rfl, _, rfl, take_in kp.box (by decide) (by decide) fun v M5 hv0 hv1 d5 => ?_⟩
    have go : ∃ u : Nat, u ≤ 20 ∧ atI [D.int 0, .int 0, .int 0, .int 1, .int 1, .int 2, .int 3, .int room] v = some (.int u) := by
      have : v = 0 ∨ v = 1 ∨ v = 2 ∨ v = 3 ∨ v = 4 ∨ v = 5 ∨ v = 6 ∨ v = 7 := by omega
      rcases this with e | e | e | e | e | e | e | e <;> rw [e]
      · exact ⟨0, by omega, rfl⟩
      · exact ⟨0, by omega, rfl⟩
      · exact ⟨0, by omega, rfl⟩
      · exact ⟨1, by omega, rfl⟩
      · exact ⟨1, by omega, rfl⟩
      · exact ⟨2, by omega, rfl⟩
      · exact ⟨3, by omega, rfl⟩
      · exact ⟨room, by omega, rfl⟩
    obtain ⟨u, hu, e⟩ := go
    refine ⟨_, e, ⟨by omega, by omega⟩, ?_⟩
    clear e
    refine ⟨fun j σ' M' => ∃ (edge : Int) (T : List Row) (x9 x10 : Option D), σ' = [some (.ro (ns.map D.int)), some (.ref a), some (.lst (S.map rowD)), some (.int w), some (.int room), some (.int mode), some (.ref p), some (.int edge), some (.int (i : Nat)), x9, x10, x11, x12, x13, none] ∧
      TgI w N room B i S T edge j ∧ M' p = some (.lst (T.map rowD)) ∧ Kept a M M', ⟨edge, T, _, _, rfl, tg, d5.only.at (Ne.symm hbp) hmp, kp.trans d5.kept⟩, ?_, ?_⟩
    · rintro j d' _ M6 hd' ⟨edge, T, x9, x10, rfl, tg, hmp, kp⟩
      obtain ⟨hj, rfl⟩ := rgD_get hd'
      have hj : j < u := by simpa using hj
      refine ⟨_, rfl, _, rfl, _, rfl, number_in kp.box fun v M7 hv d7 => ?_⟩
      have hmp7 := d7.only.at (Ne.symm hbp) hmp
      have kp7 := kp.trans d7.kept
      have hjb : j * (10 ^ 40 + 1) ≤ 20 * (10 ^ 40 + 1) := Nat.mul_le_mul_right _ (by omega)
      have hj1 : (j + 1) * (10 ^ 40 + 1) = j * (10 ^ 40 + 1) + (10 ^ 40 + 1) := by rw [Nat.add_mul j 1, Nat.one_mul]
      have heb := tg.edge
      have hstep : ∀ n : Nat, n ≤ edge.natAbs + (10 ^ 40 + 1) → n ≤ B + 10 ^ 40 + 3 + (j + 1) * (10 ^ 40 + 1) := fun n hn => by
        rw [hj1]
        exact edge_step heb hn
      have heb2 : edge.natAbs ≤ B + 10 ^ 40 + 3 + 20 * (10 ^ 40 + 1) := Nat.le_trans heb (Nat.add_le_add_left hjb _)
      have tg' : TgI w N room B i S T edge (j + 1) := ⟨tg.tab, tg.len, tg.big, tg.low, tg.high, hstep _ (by omega), tg.ins⟩
      clear heb hjb hj1
      have hcase : i = S.length ∨ (∃ r, S[i]? = some r ∧ edge + 1 + (v.natAbs : Int) < key r) ∨ ∃ r, S[i]? = some r ∧ ¬ edge + 1 + (v.natAbs : Int) < key r := by
        by_cases h1 : i = S.length
        · exact .inl h1
        · have hlt : i < S.length := by omega
          have hSi : S[i]? = some S[i] := List.getElem?_eq_getElem hlt
          by_cases h2 : edge + 1 + (v.natAbs : Int) < key S[i]
          · exact .inr (.inl ⟨_, hSi, h2⟩)
          · exact .inr (.inr ⟨_, hSi, h2⟩)
      have hneq : ∀ r, S[i]? = some r → ¬ (i : Int) = ((S.map rowD).length : Int) := fun r hr e => by
        obtain ⟨h', _⟩ := List.getElem?_eq_some_iff.mp hr
        simp at e
        omega
      have hnew : (i = S.length ∨ ∃ r, S[i]? = some r ∧ edge + 1 + (v.natAbs : Int) < key r) → ∀ k r, i ≤ k → S[k]? = some r → edge + 1 + (v.natAbs : Int) < key r := by
        rintro (e | ⟨r0, hr0, h0⟩) k r hk hr
        · obtain ⟨h', _⟩ := List.getElem?_eq_some_iff.mp hr
          omega
        · rcases Nat.lt_or_eq_of_le hk with hk | hk
          · have := tS.lt hr0 hr hk
            omega
          · subst hk
            rw [hr0] at hr
            injection hr with hr
            rw [← hr]
            exact h0
      rcases hcase with c1 | ⟨r0, hr0, h0⟩ | ⟨r0, hr0, h0⟩
      rotate_right
      · refine ⟨_, rfl, _, rfl, byc (fun e => absurd e (hneq r0 hr0)) fun _ => ⟨_, rfl, _, rfl, _, rfl, _, atI_map hr0, _, row_key (tS.ne (List.mem_of_getElem? hr0)), byc (fun e => absurd e h0) fun _ => no ⟨_, _, _, _, rfl, tg', hmp7, kp7⟩⟩⟩
      · have hnew := hnew (.inl c1)
        refine ⟨_, rfl, _, rfl, byc (fun _ => yes ?_) fun ne => absurd (by simp; omega) ne⟩
        refine ⟨_, rfl, _, hmp7, _, rfl, _, rfl, _, rfl, byc (fun hfit => ?_) fun _ => ⟨_, _, _, _, rfl, tg', hmp7, kp7⟩⟩
        have hfit : ((T.map rowD).length : Int) + ((S.map rowD).length : Int) - (i : Int) < (room : Int) := hfit
        simp only [List.length_map] at hfit
        refine ⟨_, rfl, ⟨p, _, rfl, hmp7⟩, _, rfl, sz9 (show 1 ≤ 1000 by decide), nums_gather rfl rfl rfl ⟨hw1, hw8⟩ kp7.box ⟨by decide, by decide⟩ fun xs M8 hxl hxb d8 => ?_⟩
        have hmp8 := d8.only.at (Ne.symm hbp) hmp7
        refine ⟨[.int (edge + 1 + (v.natAbs : Int))], xs.map .int, .inl rfl, .inl rfl, sz9 (by simp; omega), _, Seq.lst, p, _, _, rfl, rfl, hmp8, szlt (by simp; omega), ?_⟩
        have kp9 := (kp7.trans d8.kept).mset (o := .lst (T.map rowD ++ [rowD ((edge + 1 + (v.natAbs : Int)) :: xs)])) hp0 hbp
        have hkk : key ((edge + 1 + (v.natAbs : Int)) :: xs) = edge + 1 + (v.natAbs : Int) := rfl
        refine ⟨_, rfl, edge + 1 + (v.natAbs : Int), T ++ [(edge + 1 + (v.natAbs : Int)) :: xs], _, _, rfl, ⟨tab_snoc tg.tab (by simp; omega) ?_, by simp; omega, big_snoc tg.big ?_, ?_, ?_, hstep _ (by omega), .inr (by simp; omega)⟩, ?_, kp9⟩
        · intro t ht
          have := tg.low t ht
          rw [hkk]
          omega
        · intro n hn
          rcases List.mem_cons.mp hn with e | e
          · rw [e]; omega
          · have := hxb n e; omega
        · intro t ht
          rcases List.mem_append.mp ht with h | h
          · have := tg.low t h; omega
          · simp at h; rw [h, hkk]; omega
        · intro k r hk hr
          exact hnew k r hk hr
        · rw [List.map_append]
          exact mset_same
      · have hnew := hnew (.inr ⟨r0, hr0, h0⟩)
        refine ⟨_, rfl, _, rfl, byc (fun e => absurd e (hneq r0 hr0)) fun _ => ⟨_, rfl, _, rfl, _, rfl, _, atI_map hr0, _, row_key (tS.ne (List.mem_of_getElem? hr0)), byc (fun _ => ?_) fun ne => absurd h0 ne⟩⟩
        refine ⟨_, rfl, _, hmp7, _, rfl, _, rfl, _, rfl, byc (fun hfit => ?_) fun _ => ⟨_, _, _, _, rfl, tg', hmp7, kp7⟩⟩
        have hfit : ((T.map rowD).length : Int) + ((S.map rowD).length : Int) - (i : Int) < (room : Int) := hfit
        simp only [List.length_map] at hfit
        refine ⟨_, rfl, ⟨p, _, rfl, hmp7⟩, _, rfl, sz9 (show 1 ≤ 1000 by decide), nums_gather rfl rfl rfl ⟨hw1, hw8⟩ kp7.box ⟨by decide, by decide⟩ fun xs M8 hxl hxb d8 => ?_⟩
        have hmp8 := d8.only.at (Ne.symm hbp) hmp7
        refine ⟨[.int (edge + 1 + (v.natAbs : Int))], xs.map .int, .inl rfl, .inl rfl, sz9 (by simp; omega), _, Seq.lst, p, _, _, rfl, rfl, hmp8, szlt (by simp; omega), ?_⟩
        have kp9 := (kp7.trans d8.kept).mset (o := .lst (T.map rowD ++ [rowD ((edge + 1 + (v.natAbs : Int)) :: xs)])) hp0 hbp
        have hkk : key ((edge + 1 + (v.natAbs : Int)) :: xs) = edge + 1 + (v.natAbs : Int) := rfl
        refine ⟨_, rfl, edge + 1 + (v.natAbs : Int), T ++ [(edge + 1 + (v.natAbs : Int)) :: xs], _, _, rfl, ⟨tab_snoc tg.tab (by simp; omega) ?_, by simp; omega, big_snoc tg.big ?_, ?_, ?_, hstep _ (by omega), .inr (by simp; omega)⟩, ?_, kp9⟩
        · intro t ht
          have := tg.low t ht
          rw [hkk]
          omega
        · intro n hn
          rcases List.mem_cons.mp hn with e | e
          · rw [e]; omega
          · have := hxb n e; omega
        · intro t ht
          rcases List.mem_append.mp ht with h | h
          · have := tg.low t h; omega
          · simp at h; rw [h, hkk]; omega
        · intro k r hk hr
          exact hnew k r hk hr
        · rw [List.map_append]
          exact mset_same
    · -- the row at i
      rintro _ M6 ⟨edge, T, x9, x10, rfl, tg, hmp, kp⟩
      rw [rgD_len] at tg
      have hub : ((u : Int) - 0).toNat ≤ 20 := by omega
      have hleT : T.length ≤ N := by have := tg.len; omega
      refine ⟨_, rfl, _, rfl, byc (fun hlt => ?_) fun hge => ?_⟩
      rotate_left
      · have hge : ¬ (i : Int) < ((S.map rowD).length : Int) := hge
        simp only [List.length_map] at hge
        exact ⟨edge, T, _, _, _, _, _, _, rfl, fun h => absurd h (by omega), tg.tab, hleT, tg.big, tg.ins.imp id fun z => by omega, hmp, kp⟩
      have hlt : (i : Int) < ((S.map rowD).length : Int) := hlt
      simp only [List.length_map] at hlt
      have hlt : i < S.length := by omega
      have hSi : S[i]? = some S[i] := List.getElem?_eq_getElem hlt
      have hrm : S[i] ∈ S := List.getElem_mem hlt
      generalize S[i] = r at hSi hrm
      have hrk := key_le tS bS hrm
      have hrw := tS.wid r hrm
      have hrne := tS.ne hrm
      refine ⟨_, rfl, _, rfl, _, atI_map hSi, _, Seq.tup, fun q hq => ?_⟩
      have hpq : p ≠ q := mne hmp hq
      have hq0 : M q = none := by
        cases e : M q with
        | none => rfl
        | some co =>
          by_cases hqa : q = a
          · obtain ⟨_, _, e2, _⟩ := kp.box
            rw [hqa, e2] at hq
            cases hq
          · rw [kp.old q co hqa e] at hq
            cases hq
      have haq : a ≠ q := kp.box.ne hq
      have kp7 := kp.mset (o := .lst (r.map D.int)) hq0 haq
      refine ⟨_, rfl, _, _, mset_same, row_key hrne, ?_⟩
      refine ⟨_, rfl, _, rfl, take_in kp7.box (by decide) (by decide) fun pick M8 _ _ d8 => ?_⟩
      have kp8 := kp7.trans d8.kept
      have hq8 : M8 q = some (.lst (r.map D.int)) := d8.only.at (Ne.symm haq) mset_same
      have hp8 : M8 p = some (.lst (T.map rowD)) := d8.only.at (Ne.symm hbp) (by rw [mset_ne hpq]; exact hmp)
      have W : ∃ P : DSt → Mem → Prop, P = fun σ' M' => ∃ (q : Addr) (r' : Row) (x13 : Option D), σ' = [some (.ro (ns.map D.int)), some (.ref a), some (.lst (S.map rowD)), some (.int w), some (.int room), some (.int mode), some (.ref p), some (.int (key r)), some (.int (i : Nat)), x9, x10, some (.ref q), some (.int pick), x13, none] ∧
        q ≠ p ∧ q ≠ a ∧ M' q = some (.lst (r'.map .int)) ∧ r'.length = w ∧ key r' = key r ∧ (∀ n ∈ r', n.natAbs ≤ B + 10 ^ 43) ∧ M' p = some (.lst (T.map rowD)) ∧ Kept a M M' ∧ M q = none := ⟨_, rfl⟩
      have hrb : ∀ n ∈ r, n.natAbs ≤ B := bS r hrm
      obtain ⟨P, eP⟩ := W
      refine ⟨P, ?_, ?_⟩
      · rw [eP]
        refine ⟨_, rfl, byc (fun _ => ⟨_, rfl, byc (fun hw => ?_) fun _ => ⟨q, r, _, rfl, Ne.symm hpq, Ne.symm haq, hq8, hrw, rfl, fun n hn => by have := hrb n hn; omega, hp8, kp8, hq0⟩⟩) fun _ => no ⟨q, r, _, rfl, Ne.symm hpq, Ne.symm haq, hq8, hrw, rfl, fun n hn => by have := hrb n hn; omega, hp8, kp8, hq0⟩⟩
        have hw : (1 : Int) < (w : Int) := hw
        refine ⟨_, rfl, _, rfl, _, rfl, take_in kp8.box (by omega) ?_ fun cc M9 hc0 hc1 d9 => ?_⟩
        · have : ((w : Int) - 1).natAbs = w - 1 := by omega
          rw [this]
          exact Nat.lt_of_le_of_lt (Nat.log2_le_self _) (by omega)
        have hq9 := d9.only.at (Ne.symm haq) hq8
        have hp9 := d9.only.at (Ne.symm hbp) hp8
        obtain ⟨c, rfl⟩ : ∃ c : Nat, cc = c := ⟨cc.toNat, by omega⟩
        have hc : 1 + c < r.length := by omega
        have hrc : r[1 + c]? = some r[1 + c] := List.getElem?_eq_getElem hc
        have e1 : (1 : Int) + (c : Int) = ((1 + c : Nat) : Int) := by omega
        have hat : atI (r.map D.int) (1 + (c : Int)) = some (.int r[1 + c]) := by rw [e1]; exact atI_map hrc
        refine ⟨_, rfl, _, rfl, _, _, hq9, hat, _, rfl, _, rfl, take_in (kp8.trans d9.kept).box (by decide) (by decide) fun dd M10 hd0 hd1 d10 => ?_⟩
        have hq10 := d10.only.at (Ne.symm haq) hq9
        have hp10 := d10.only.at (Ne.symm hbp) hp9
        have hix : ixN (r.map D.int).length (1 + (c : Int)) = some (1 + c) := by
          unfold ixN
          rw [if_pos (by omega), if_pos (by simp; omega)]
          congr 1
        refine ⟨_, rfl, _, rfl, q, _, _, _, rfl, rfl, hq10, hix, ?_⟩
        have hset : (r.map D.int).set (1 + c) (.int (r[1 + c] + 1 + dd)) = (r.set (1 + c) (r[1 + c] + 1 + dd)).map .int := by rw [List.map_set]
        refine ⟨q, r.set (1 + c) (r[1 + c] + 1 + dd), _, rfl, Ne.symm hpq, Ne.symm haq, by rw [mset_same, hset], by simp [hrw], ?_, ?_, by rw [mset_ne hpq]; exact hp10, ((kp8.trans d9.kept).trans d10.kept).mset hq0 haq, hq0⟩
        · cases r with
          | nil => exact absurd rfl hrne
          | cons x l =>
            have hx : ∀ v, key ((x :: l).set (1 + c) v) = x := fun v => by rw [Nat.add_comm 1 c]; rfl
            exact hx _
        · intro n hn
          rcases List.mem_or_eq_of_mem_set hn with h | h
          · have := hrb n h; omega
          · have := hrb _ (List.getElem_mem hc)
            rw [h]
            omega
      rw [eP]
      rintro _ M9 ⟨q1, r1, x13, rfl, hq1p, hq1a, hq9, hr1w, hr1k, hr1b, hp9, kp9, hq10⟩
      refine ⟨P, ?_, ?_⟩
      · rw [eP]
        refine ⟨_, rfl, byc (fun _ => ?_) fun _ => ⟨q1, r1, _, rfl, hq1p, hq1a, hq9, hr1w, hr1k, hr1b, hp9, kp9, hq10⟩⟩
        refine ⟨_, rfl, sz9 (show 1 ≤ 1000 by decide), nums_gather rfl rfl rfl ⟨hw1, hw8⟩ kp9.box ⟨by decide, by decide⟩ fun xs M10 hxl hxb d10 => ?_⟩
        refine ⟨[.int (key r)], xs.map .int, .inl rfl, .inl rfl, sz9 (by simp; omega), fun q2 hq2 => ?_⟩
        have hp10 := d10.only.at (Ne.symm hbp) hp9
        have kp10 := kp9.trans d10.kept
        have hpq2 : p ≠ q2 := mne hp10 hq2
        have haq2 : a ≠ q2 := kp10.box.ne hq2
        have hq20 : M q2 = none := by
          cases e : M q2 with
          | none => rfl
          | some co => rw [kp10.old q2 co (Ne.symm haq2) e] at hq2; cases hq2
        refine ⟨q2, key r :: xs, _, rfl, Ne.symm hpq2, Ne.symm haq2, mset_same, by simp; omega, rfl, ?_, by rw [mset_ne hpq2]; exact hp10, kp10.mset hq20 haq2, hq20⟩
        intro n hn
        rcases List.mem_cons.mp hn with e | e
        · rw [e]; omega
        · have := hxb n e; omega
      rw [eP]
      clear hq9 hr1w hr1k hr1b hp9 kp9 hq10 hq1p hq1a
      rintro _ M11 ⟨q2, r2, x13', rfl, hq2p, hq2a, hq11, hr2w, hr2k, hr2b, hp11, kp11, hq20⟩
      -- put in or left out
      have hhigh : ∀ k r', i + 1 ≤ k → S[k]? = some r' → key r < key r' := fun k r' hk hr' => tS.lt hSi hr' (by omega)
      have hlow : ∀ t ∈ T, key t ≤ key r := fun t ht => by
        have h1 := tg.low t ht
        have h2 := tg.high i r (Nat.le_refl _) hSi
        omega
      have hlow' : ∀ t ∈ T, key t < key r := fun t ht => by
        have h1 := tg.low t ht
        have h2 := tg.high i r (Nat.le_refl _) hSi
        omega
      have htl := tg.len
      have insA : (∀ t ∈ T ++ [r2], ∃ r ∈ S, key r = key t) ∨ (T ++ [r2]).length + (S.length - (i + 1)) ≤ room := by
        rcases tg.ins with z | z
        · refine .inl fun t ht => ?_
          rcases List.mem_append.mp ht with h | h
          · exact z t h
          · have : t = r2 := by simpa using h
            exact ⟨r, hrm, by rw [this, hr2k]⟩
        · exact .inr (by simp; omega)
      have skip : ∃ (edge : Int) (T' : List Row) (y8 y9 y10 y11 y12 y13 : Option D), [some (.ro (ns.map D.int)), some (.ref a), some (.lst (S.map rowD)), some (.int w), some (.int room), some (.int mode), some (.ref p), some (.int (key r)), some (.int (i : Nat)), x9, x10, some (.ref q2), some (.int pick), x13', none] = [some (D.ro (ns.map D.int)), some (.ref a), some (.lst (S.map rowD)), some (.int w), some (.int room), some (.int mode), some (.ref p), some (.int edge), y8, y9, y10, y11, y12, y13, none] ∧
          (i + 1 ≤ S.length → TgI w N room B (i + 1) S T' edge 0) ∧ Tab w T' ∧ T'.length ≤ N ∧ Big (B + 10 ^ 43) T' ∧ InsOk S T' room ∧ M11 p = some (.lst (T'.map rowD)) ∧ Kept a M M11 :=
        ⟨key r, T, _, _, _, _, _, _, rfl, fun _ => ⟨tg.tab, by omega, tg.big, hlow, hhigh, by omega, tg.ins.imp id fun z => by omega⟩, tg.tab, hleT, tg.big, tg.ins.imp id fun z => by omega, hp11, kp11⟩
      by_cases c1 : pick < 3
      · refine ⟨_, rfl, byc (fun _ => yes ?_) fun ne => absurd c1 ne⟩
        refine ⟨_, rfl, bync (fun _ => ?_) fun _ => skip⟩
        refine ⟨_, rfl, ⟨p, _, rfl, hp11⟩, _, rfl, _, Seq.cell hq11, p, _, _, rfl, rfl, hp11, szlt (by simp; omega), ?_⟩
        refine ⟨key r, T ++ [r2], _, _, _, _, _, _, rfl, fun _ => ⟨tab_snoc tg.tab hr2w (by rw [hr2k]; exact hlow'), by simp; omega, big_snoc tg.big hr2b, ?_, hhigh, by omega, insA⟩, tab_snoc tg.tab hr2w (by rw [hr2k]; exact hlow'), by simp; omega, big_snoc tg.big hr2b, insA.imp id fun z => by omega, ?_, kp11.mset hp0 hbp⟩
        · intro t ht
          rcases List.mem_append.mp ht with h | h
          · exact hlow t h
          · simp at h; rw [h, hr2k]; omega
        · rw [List.map_append]
          exact mset_same
      by_cases c2 : mode = 5
      · refine ⟨_, rfl, byc (fun e => absurd e c1) fun _ => ⟨_, rfl, byc (fun _ => ?_) fun ne => absurd c2 ne⟩⟩
        refine ⟨_, rfl, bync (fun _ => ?_) fun _ => skip⟩
        refine ⟨_, rfl, ⟨p, _, rfl, hp11⟩, _, rfl, _, Seq.cell hq11, p, _, _, rfl, rfl, hp11, szlt (by simp; omega), ?_⟩
        refine ⟨key r, T ++ [r2], _, _, _, _, _, _, rfl, fun _ => ⟨tab_snoc tg.tab hr2w (by rw [hr2k]; exact hlow'), by simp; omega, big_snoc tg.big hr2b, ?_, hhigh, by omega, insA⟩, tab_snoc tg.tab hr2w (by rw [hr2k]; exact hlow'), by simp; omega, big_snoc tg.big hr2b, insA.imp id fun z => by omega, ?_, kp11.mset hp0 hbp⟩
        · intro t ht
          rcases List.mem_append.mp ht with h | h
          · exact hlow t h
          · simp at h; rw [h, hr2k]; omega
        · rw [List.map_append]
          exact mset_same
      exact ⟨_, rfl, byc (fun e => absurd e c1) fun _ => ⟨_, rfl, byc (fun e => absurd e c2) fun _ => no skip⟩⟩
  · rintro _ M4 ⟨edge, T, x8, x9, x10, x11, x12, x13, rfl, -, tT, hl, bT, iT, hmp, kp⟩
    exact ⟨_, rfl, fl_cellK (fun M' k' => h T M' tT hl bT iT k') kp hp0 hbp hmp⟩

/-! _law_rank(rows, key) -/
@[irreducible] def S_law_rank (x y : D) (M : Mem) (Q : DK) (_ : DXK) : Prop := ∃ (S : List Row) (k : Int), LstOf x M (S.map rowD) ∧ y = .int k ∧ (∀ r ∈ S, r ≠ []) ∧ S.length ≤ 1000 ∧ Q (.int (rank S k : Nat)) M
def sp_law_rank : DSp := spk2 S_law_rank
theorem rank_in {x : D} {S : List Row} {k : Int} {M : Mem} {Q : DK} {E : DXK} (hx : LstOf x M (S.map rowD)) (h : ∀ r ∈ S, r ≠ []) (hz : S.length ≤ 1000) (q : Q (.int (rank S k : Nat)) M) : S_law_rank x (.int k) M Q E := by
  unfold S_law_rank
  exact ⟨S, k, hx, rfl, h, hz, q⟩
def t_law_rank : DTS :=
  dRet (dCB (r1 dLen) (dCons (dLc (diSeq (dVar 0)) (.nm 2) (dTest (dBin dLt (dBin dIx (dVar 2) (dC (.int 0))) (dVar 1))) (dVar 2) [2]) (dNil)))
theorem rd_law_rank : ∀ ds M Q E, sp_law_rank ds M Q E → t_law_rank { nx := fun _ M' => QF Q .non M', rt := QF Q } (dstart 3 ds) M := rd2 fun x y M Q E h => by
  unfold S_law_rank at h
  obtain ⟨S, k, hx, rfl, hne, hz, h⟩ := h
  refine ⟨_, rfl, comp_list hx (sz9 (by simpa using hz)) (fun i acc M' => M' = M ∧ acc = ((S.take i).filter fun r => decide (key r < k)).map rowD) ?_ ⟨⟨rfl, by simp⟩, ?_, ?_⟩⟩
  · rintro _ _ _ ⟨rfl, _⟩
    exact hx
  · rintro i acc d M hd _ ⟨rfl, rfl⟩
    obtain ⟨r, hr, rfl⟩ := rows_get hd
    refine ⟨_, rfl, _, row_key (hne r (List.mem_of_getElem? hr)), _, rfl, byc (fun hk => ⟨_, rfl, rfl, ?_⟩) fun hk => ⟨rfl, ?_⟩⟩
    · rw [List.take_succ, hr, List.filter_append, List.map_append]
      simp [hk]
    · rw [List.take_succ, hr, List.filter_append, List.map_append]
      simp [hk]
  · rintro acc M _ ⟨rfl, rfl⟩
    rw [List.length_map, List.take_length]
    refine qf_same ?_
    rw [List.length_map, ← List.countP_eq_length_filter]
    exact h

/-! _law_find(rows, key) -/
@[irreducible] def S_law_find (x y : D) (M : Mem) (Q : DK) (_ : DXK) : Prop := ∃ (S : List Row) (k : Int), LstOf x M (S.map rowD) ∧ y = .int k ∧ (∀ r ∈ S, r ≠ []) ∧ Q (optRow (find S k)) M
def sp_law_find : DSp := spk2 S_law_find
theorem find_in {x : D} {S : List Row} {k : Int} {M : Mem} {Q : DK} {E : DXK} (hx : LstOf x M (S.map rowD)) (h : ∀ r ∈ S, r ≠ []) (q : Q (optRow (find S k)) M) : S_law_find x (.int k) M Q E := by
  unfold S_law_find
  exact ⟨S, k, hx, rfl, h, q⟩
theorem find_take {S : List Row} {i : Nat} {k : Int} {r : Row} (h : find (S.take i) k = none) (hr : S[i]? = some r) : (key r = k → find S k = some r) ∧ (key r ≠ k → find (S.take (i + 1)) k = none) := by
  have e : S = S.take i ++ r :: S.drop (i + 1) := by
    obtain ⟨hi, rfl⟩ := List.getElem?_eq_some_iff.mp hr
    rw [← List.drop_eq_getElem_cons hi, List.take_append_drop]
  constructor
  · intro hk
    unfold find at h ⊢
    rw [e, List.find?_append, h, List.find?_cons_of_pos (by simpa using hk)]
    rfl
  · intro hk
    unfold find at h ⊢
    rw [List.take_succ, hr, List.find?_append, h]
    simp [hk]
def t_law_find : DTS :=
  dSeq (dFor (diSeq (dVar 0)) (dgName 2) (dIfS (dTest (dBin dEq (dBin dIx (dVar 2) (dC (.int 0))) (dVar 1))) (dRet (dVar 2)) (dNext)))
  (dRet (dC .non))
theorem rd_law_find : ∀ ds M Q E, sp_law_find ds M Q E → t_law_find { nx := fun _ M' => QF Q .non M', rt := QF Q } (dstart 3 ds) M := rd2 fun x y M Q E h => by
  unfold S_law_find at h
  obtain ⟨S, k, hx, rfl, hne, h⟩ := h
  refine ⟨_, rfl, for_list hx (fun i σ M' => ∃ x2, σ = [some x, some (.int k), x2] ∧ M' = M ∧ find (S.take i) k = none) ?_ ⟨⟨_, rfl, rfl, rfl⟩, ?_, ?_⟩⟩
  · rintro _ _ _ ⟨_, _, rfl, _⟩
    exact hx
  · rintro i d _ M hd ⟨x2, rfl, rfl, hf⟩
    obtain ⟨r, hr, rfl⟩ := rows_get hd
    obtain ⟨f1, f2⟩ := find_take hf hr
    refine ⟨_, rfl, _, row_key (hne r (List.mem_of_getElem? hr)), _, rfl, byc (fun hk => ?_) fun hk => ⟨_, rfl, rfl, f2 hk⟩⟩
    rw [f1 hk] at h
    exact ⟨_, rfl, qf_same h⟩
  · rintro _ M ⟨x2, rfl, rfl, hf⟩
    rw [List.length_map, List.take_length] at hf
    rw [hf] at h
    exact qf_same h

/-! _law_entries(rows, target): the entries of the layer between them -/
@[irreducible] def S_law_entries (x y : D) (M : Mem) (Q : DK) (_ : DXK) : Prop := ∃ S T : List Row, LstOf x M (S.map rowD) ∧ LstOf y M (T.map rowD) ∧ (∀ r ∈ S, r ≠ []) ∧ (∀ r ∈ T, r ≠ []) ∧ S.length + T.length < 900 ∧
  FL Q M ((lay S T).map entD)
def sp_law_entries : DSp := spk2 S_law_entries
theorem entries_in {x y : D} {S T : List Row} {M : Mem} {Q : DK} {E : DXK} (hx : LstOf x M (S.map rowD)) (hy : LstOf y M (T.map rowD)) (hS : ∀ r ∈ S, r ≠ []) (hT : ∀ r ∈ T, r ≠ []) (hz : S.length + T.length < 900)
    (q : FL Q M ((lay S T).map entD)) : S_law_entries x y M Q E := by
  unfold S_law_entries
  exact ⟨S, T, hx, hy, hS, hT, hz, q⟩
def t_law_entries : DTS :=
  dSeq (dAsg (dLstC (dNil)) (dgName 2))
  (dSeq (dFor (diSeq (dCB dSortSet (dCons (dLc (diSeq (dBin dAdd (dVar 0) (dVar 1))) (.nm 6) (dYes) (dBin dIx (dVar 6) (dC (.int 0))) [6]) (dNil)))) (dgName 3) (dSeq (dAsg (dCall sp_law_find [] wNo (dCons (dVar 0) (dCons (dVar 3) (dNil)))) (dgName 4))
  (dSeq (dAsg (dCall sp_law_find [] wNo (dCons (dVar 1) (dCons (dVar 3) (dNil)))) (dgName 5))
  (dIfS (dTest (dBin dNe (dVar 4) (dVar 5))) (dDrop (dApp (dVar 2) (dCons (dTup (dCons (dCall sp_law_rank [] wNo (dCons (dVar 0) (dCons (dVar 3) (dNil)))) (dCons (dVar 4) (dCons (dVar 5) (dNil))))) (dNil)))) (dNext)))))
  (dRet (dVar 2)))
theorem rd_law_entries : ∀ ds M Q E, sp_law_entries ds M Q E → t_law_entries { nx := fun _ M' => QF Q .non M', rt := QF Q } (dstart 7 ds) M := rd2 fun x y M Q E h => by
  unfold S_law_entries at h
  obtain ⟨S, T, hx, hy, hS, hT, hz, h⟩ := h
  refine ⟨by decide, fun p hp => ?_⟩
  have hx0 : LstOf x (mset M p (.lst [])) (S.map rowD) := hx.more hp
  have hy0 : LstOf y (mset M p (.lst [])) (T.map rowD) := hy.more hp
  refine ⟨_, rfl, _, rfl, dAdd_lists hx0 hy0 (sz9 (by simp; omega)) ?_⟩
  rw [← List.map_append]
  refine ⟨sz9 (by simp; omega), fun i acc M' => M' = mset M p (.lst []) ∧ acc = ((S ++ T).take i).map fun r => D.int (key r), ⟨rfl, by simp⟩, ?_, ?_⟩
  · rintro i acc d _ hd _ ⟨rfl, rfl⟩
    obtain ⟨r, hr, rfl⟩ := rows_get hd
    have hne : r ≠ [] := (List.mem_append.mp (List.mem_of_getElem? hr)).elim (hS r) (hT r)
    refine yes ⟨_, rfl, _, row_key hne, rfl, ?_⟩
    rw [List.take_succ, hr, List.map_append]
    rfl
  rintro acc _ _ ⟨rfl, rfl⟩
  rw [List.length_map, List.take_length]
  refine ⟨_, (S ++ T).map key, rfl, .inl (by rw [List.map_map]; rfl), by simp; omega, fun ms h1 h2 => ?_⟩
  have hms : ms = keysOf S T := ascOf_uniq h1 h2
  subst hms
  refine ⟨fun i σ' M' => ∃ x3 x4 x5 : Option D, σ' = [some x, some y, some (.ref p), x3, x4, x5, none] ∧ M' = mset M p (.lst (((keysOf S T).take i).filterMap (diff S T) |>.map entD)), ⟨_, _, _, rfl, rfl⟩, ?_, ?_⟩
  · rintro i d _ _ hd ⟨x3, x4, x5, rfl, rfl⟩
    rw [List.getElem?_map] at hd
    obtain ⟨k, hk, rfl⟩ := Option.map_eq_some_iff.mp hd
    have hx1 : ∀ o, LstOf x (mset M p o) (S.map rowD) := fun o => hx.more hp
    have hy1 : ∀ o, LstOf y (mset M p o) (T.map rowD) := fun o => hy.more hp
    refine ⟨_, rfl, _, rfl, find_in (hx1 _) hS ?_⟩
    refine ⟨_, rfl, _, rfl, find_in (hy1 _) hT ?_⟩
    refine ⟨_, rfl, _, rfl, dNe_opt (bync (fun hn => ?_) fun he => ?_)⟩
    · have hdf : diff S T k = some ⟨rank S k, find S k, find T k⟩ := by unfold diff; rw [if_neg hn]
      refine ⟨_, rfl, ⟨p, _, rfl, mset_same⟩, _, rfl, _, rfl, rank_in (hx1 _) hS (by omega) ?_⟩
      refine ⟨_, rfl, _, rfl, sz9 (show 3 ≤ 1000 by decide), p, _, _, rfl, rfl, mset_same, szlt ?_, ?_⟩
      · rw [List.length_map]
        have h1 : (((keysOf S T).take i).filterMap (diff S T)).length ≤ ((keysOf S T).take i).length := filterMap_len
        have h2 : ((keysOf S T).take i).length ≤ (keysOf S T).length := by simp; omega
        have h3 := keysOf_len (S := S) (T := T)
        omega
      · refine ⟨_, _, _, rfl, ?_⟩
        rw [mset_mset, List.take_succ, hk, List.filterMap_append, List.map_append]
        show _ = mset M p (.lst (_ ++ (List.filterMap (diff S T) [k]).map entD))
        rw [List.filterMap_cons_some hdf]
        rfl
    · have hdf : diff S T k = none := by unfold diff; rw [if_pos he]
      refine ⟨_, _, _, rfl, ?_⟩
      rw [List.take_succ, hk, List.filterMap_append, List.map_append]
      show _ = mset M p (.lst (_ ++ (List.filterMap (diff S T) [k]).map entD))
      rw [List.filterMap_cons_none hdf]
      simp
  · rintro _ _ ⟨x3, x4, x5, rfl, rfl⟩
    rw [List.length_map, List.take_length]
    exact ⟨_, rfl, fl_ret h hp⟩

/-! _law_is_int(value) -/
@[irreducible] def S_law_is_int (x : D) (M : Mem) (Q : DK) (_ : DXK) : Prop := Typ x ∧ Q (.bl (isI x)) M
def sp_law_is_int : DSp := spk1 S_law_is_int
theorem lisint_in {x : D} {M : Mem} {Q : DK} {E : DXK} (h : Typ x) (q : Q (.bl (isI x)) M) : S_law_is_int x M Q E := by
  unfold S_law_is_int
  exact ⟨h, q⟩
def t_law_is_int : DTS :=
  dRet (dAndV (dCB (r2 (dIsi .it)) (dCons (dVar 0) (dCons (dC (.ty "int")) (dNil)))) (dNotV (dCB (r2 (dIsi .bo)) (dCons (dVar 0) (dCons (dC (.ty "bool")) (dNil))))))
theorem rd_law_is_int : ∀ ds M Q E, sp_law_is_int ds M Q E → t_law_is_int { nx := fun _ M' => QF Q .non M', rt := QF Q } (dstart 1 ds) M := rd1 fun x M Q E h => by
  unfold S_law_is_int at h
  obtain ⟨⟨t, ht⟩, h⟩ := h
  have ht' := ht M
  refine ⟨_, rfl, rfl, t, ht', ?_⟩
  cases ht' with
  | int i => exact yes ⟨_, rfl, rfl, .it, .int i, qf_same h⟩
  | bl b => exact yes ⟨_, rfl, rfl, .bo, .bl b, qf_same h⟩
  | @ref a co hm => cases co <;> exact no (qf_same h)
  | _ => exact no (qf_same h)

/-! _law_is_row(value, row), of rows -/
@[irreducible] def S_law_is_row (x y : D) (M : Mem) (Q : DK) (_ : DXK) : Prop := ∃ a b : Row, x = rowD a ∧ y = rowD b ∧ a.length ≤ 1000 ∧ Q (.bl (decide (a = b))) M
def sp_law_is_row : DSp := spk2 S_law_is_row
theorem lisrow_in {a b : Row} {M : Mem} {Q : DK} {E : DXK} (hz : a.length ≤ 1000) (q : Q (.bl (decide (a = b))) M) : S_law_is_row (rowD a) (rowD b) M Q E := by
  unfold S_law_is_row
  exact ⟨a, b, rfl, rfl, hz, q⟩
def t_law_is_row : DTS :=
  dSeq (dIfS (dOr (dNot (dTruth (dCB (r2 (dIsi .tu)) (dCons (dVar 0) (dCons (dC (.ty "tuple")) (dNil)))))) (dTest (dBin dNe (dCB (r1 dLen) (dCons (dVar 0) (dNil))) (dCB (r1 dLen) (dCons (dVar 1) (dNil)))))) (dRet (dC (.bl false))) (dNext))
  (dRet (dAndV (dCB (r1 dAll) (dCons (dLc (diSeq (dVar 0)) (.nm 2) (dYes) (dCall sp_law_is_int [] wNo (dCons (dVar 2) (dNil))) [2]) (dNil))) (dBin dEq (dVar 0) (dVar 1))))
theorem rd_law_is_row : ∀ ds M Q E, sp_law_is_row ds M Q E → t_law_is_row { nx := fun _ M' => QF Q .non M', rt := QF Q } (dstart 3 ds) M := rd2 fun x y M Q E h => by
  unfold S_law_is_row at h
  obtain ⟨a, b, rfl, rfl, hz, h⟩ := h
  refine ⟨_, rfl, rfl, _, .tup _, no ⟨_, rfl, _, rfl, bync (fun hn => ?_) fun hn => ?_⟩⟩
  · have e : decide (a = b) = false := decide_eq_false fun e => hn (by rw [e])
    rw [e] at h
    exact qf_same h
  refine ⟨_, rfl, sz9 (by simpa using hz), fun i acc M' => M' = M ∧ acc = (a.take i).map fun _ => D.bl true, ⟨rfl, rfl⟩, ?_, ?_⟩
  · rintro i acc d M hd _ ⟨rfl, rfl⟩
    rw [List.getElem?_map] at hd
    obtain ⟨v, hv, rfl⟩ := Option.map_eq_some_iff.mp hd
    refine yes ⟨_, rfl, lisint_in (typ_int _) ⟨rfl, ?_⟩⟩
    rw [List.take_succ, hv, List.map_append]
    rfl
  · rintro acc M _ ⟨rfl, rfl⟩
    refine ⟨(a.take (a.map D.int).length).map fun _ => true, by simp, ?_⟩
    refine sure (by simp) ⟨_, rfl, _, rfl, dEq_opt (a := some a) (b := some b) (qf_same ?_)⟩
    have e : decide (some a = some b) = decide (a = b) := by simp
    rw [e]
    exact h
/-- one optional row of an entry, of a link, held against another's: the body of the law's loop -/
def t_row2 : DTS := dIfS (dTest (dBin dIs (dBin dIx (dVar 1) (dVar 2)) (dC .non))) (dIfS (dTest (dBin dIsNot (dBin dIx (dVar 0) (dVar 2)) (dC .non))) (dRet (dC (.bl false))) (dNext)) (dIfS (dNot (dTruth (dCall sp_law_is_row [] wNo (dCons (dBin dIx (dVar 0) (dVar 2)) (dCons (dBin dIx (dVar 1) (dVar 2)) (dNil)))))) (dRet (dC (.bl false))) (dNext))
theorem rd_row2 {a : Option Row} {ds es : List D} {j : Int} {E : DEnds} {M : Mem} (ha : atI ds j = some (optRow a)) (hb : atI es j = some (optRow a)) (hz : ∀ r, a = some r → r.length ≤ 1000) (he : E.nx [some (.tup ds), some (.tup es), some (.int j)] M) :
    t_row2 E [some (.tup ds), some (.tup es), some (.int j)] M := by
  refine ⟨_, rfl, _, rfl, _, hb, ?_⟩
  cases a with
  | none => exact yes ⟨_, rfl, _, rfl, _, ha, no he⟩
  | some y =>
    refine no ⟨_, rfl, _, rfl, _, ha, _, rfl, _, rfl, _, hb, lisrow_in (hz y rfl) ?_⟩
    rw [decide_eq_true rfl]
    exact no he

/-! _law_is_rows(value, rows), of equal lists -/
@[irreducible] def S_law_is_rows (x y : D) (M : Mem) (Q : DK) (_ : DXK) : Prop := ∃ S : List Row, LstOf x M (S.map rowD) ∧ LstOf y M (S.map rowD) ∧ S.length ≤ 1000 ∧ (∀ r ∈ S, r.length ≤ 1000) ∧ Q (.bl true) M
def sp_law_is_rows : DSp := spk2 S_law_is_rows
theorem lisrows_in {x y : D} {S : List Row} {M : Mem} {Q : DK} {E : DXK} (hx : LstOf x M (S.map rowD)) (hy : LstOf y M (S.map rowD)) (h1 : S.length ≤ 1000) (h3 : ∀ r ∈ S, r.length ≤ 1000) (q : Q (.bl true) M) : S_law_is_rows x y M Q E := by
  unfold S_law_is_rows
  exact ⟨S, hx, hy, h1, h3, q⟩
def t_law_is_rows : DTS :=
  dSeq (dIfS (dOr (dNot (dTruth (dCB (r2 (dIsi .li)) (dCons (dVar 0) (dCons (dC (.ty "list")) (dNil)))))) (dTest (dBin dNe (dCB (r1 dLen) (dCons (dVar 0) (dNil))) (dCB (r1 dLen) (dCons (dVar 1) (dNil)))))) (dRet (dC (.bl false))) (dNext))
  (dRet (dCB (r1 dAll) (dCons (dLc (diRange1 (dCons (dCB (r1 dLen) (dCons (dVar 1) (dNil))) (dNil))) (.nm 2) (dYes) (dCall sp_law_is_row [] wNo (dCons (dBin dIx (dVar 0) (dVar 2)) (dCons (dBin dIx (dVar 1) (dVar 2)) (dNil)))) [2]) (dNil))))
theorem rd_law_is_rows : ∀ ds M Q E, sp_law_is_rows ds M Q E → t_law_is_rows { nx := fun _ M' => QF Q .non M', rt := QF Q } (dstart 3 ds) M := rd2 fun x y M Q E h => by
  unfold S_law_is_rows at h
  obtain ⟨S, hx, hy, h1, h3, h⟩ := h
  refine ⟨_, rfl, rfl, _, hx.ty, no ⟨_, rfl, dLen_seq hx.seq ⟨_, rfl, dLen_seq hy.seq (bync (fun hn => absurd rfl hn) fun _ => ?_)⟩⟩⟩
  have hle : (S.map rowD).length = S.length := List.length_map ..
  refine ⟨_, rfl, dLen_seq hy.seq ⟨⟨by omega, by simp; omega⟩, sz9 (by simp [rgD_len]; omega), fun i acc M' => M' = M ∧ acc = (List.replicate i true).map D.bl, ⟨rfl, rfl⟩, ?_, ?_⟩⟩
  · rintro i acc d _ hd _ ⟨rfl, rfl⟩
    obtain ⟨hi, rfl⟩ := rgD_get hd
    have hi : i < S.length := by simp at hi; omega
    have he : S[i]? = some S[i] := List.getElem?_eq_getElem hi
    rw [Int.zero_add]
    refine yes ⟨_, rfl, _, rfl, dIx_seq hx.seq (atI_map he) ⟨_, rfl, _, rfl, dIx_seq hy.seq (atI_map he) (lisrow_in (h3 _ (List.mem_of_getElem? he)) ⟨rfl, ?_⟩)⟩⟩
    rw [decide_eq_true rfl, List.replicate_succ', List.map_append]
    rfl
  · rintro acc _ _ ⟨rfl, rfl⟩
    refine ⟨_, rfl, qf_same ?_⟩
    rw [show (List.replicate _ true).all id = true from by simp]
    exact h

def tabL (R : List Row) : D := .lst (R.map rowD)

/-! _law_chain(script, box, width, many): tables, each made from the one ahead -/
@[irreducible] def S_law_chain (s b x y : D) (M : Mem) (Q : DK) (_ : DXK) : Prop := ∃ (ns : List Int) (a : Addr) (w n : Nat), s = .ro (ns.map D.int) ∧ b = .ref a ∧ x = .int w ∧ y = .int n ∧ BoxAt M a ∧ 1 ≤ w ∧ w ≤ 8 ∧ n ≤ 100 ∧
  ∀ (S : List Row) (Ts : List (List Row)) M', Chain w (S :: Ts) → (∀ R ∈ S :: Ts, R.length ≤ 8) → (∀ R ∈ S :: Ts, ∃ B, Big B R) → Ts.length = n → Kept a M M' → FL Q M' ((S :: Ts).map tabL)
def sp_law_chain : DSp := spk4 S_law_chain
theorem lchain_in {ns : List Int} {a : Addr} {w n : Nat} {M : Mem} {Q : DK} {E : DXK} (hb : BoxAt M a) (h1 : 1 ≤ w) (h2 : w ≤ 8) (h3 : n ≤ 100)
    (h : ∀ (S : List Row) (Ts : List (List Row)) M', Chain w (S :: Ts) → (∀ R ∈ S :: Ts, R.length ≤ 8) → (∀ R ∈ S :: Ts, ∃ B, Big B R) → Ts.length = n → Kept a M M' → FL Q M' ((S :: Ts).map tabL)) : S_law_chain (.ro (ns.map D.int)) (.ref a) (.int w) (.int n) M Q E := by
  unfold S_law_chain
  exact ⟨ns, a, w, n, rfl, rfl, rfl, rfl, hb, h1, h2, h3, h⟩
def t_law_chain : DTS :=
  dSeq (dAsg (dLstC (dCons (dCall sp_law_rows [] wNo (dCons (dVar 0) (dCons (dVar 1) (dCons (dVar 2) (dCons (dC (.int 6)) (dNil)))))) (dNil))) (dgName 4))
  (dSeq (dFor (diRange1 (dCons (dVar 3) (dNil))) (dgName 5) (dDrop (dApp (dVar 4) (dCons (dCall sp_law_target [] wNo (dCons (dVar 0) (dCons (dVar 1) (dCons (dBin dIx (dVar 4) (dUn dNeg (dC (.int 1)))) (dCons (dVar 2) (dCons (dC (.int 8)) (dNil))))))) (dNil)))))
  (dRet (dVar 4)))
theorem rd_law_chain : ∀ ds M Q E, sp_law_chain ds M Q E → t_law_chain { nx := fun _ M' => QF Q .non M', rt := QF Q } (dstart 6 ds) M := rd4 fun s b x y M Q E h => by
  unfold S_law_chain at h
  obtain ⟨ns, a, w, n, rfl, rfl, rfl, rfl, hb, hw1, hw8, hn, h⟩ := h
  refine ⟨_, rfl, _, rfl, _, rfl, rows_in (most := 6) hb hw1 hw8 (by decide) (by decide) fun S M1 tS lS bS k1 => .inl ⟨sz9 (show 1 ≤ 1000 by decide), fun p hp1 => ?_⟩⟩
  have hp : M p = none := k1.fresh hp1
  have hap : a ≠ p := k1.box.ne hp1
  refine ⟨_, rfl, ⟨by omega, by omega⟩, fun i σ M' => ∃ (x5 : Option D) (Rs : List (List Row)) (L : List Row) (B : Nat), σ = [some (.ro (ns.map D.int)), some (.ref a), some (.int w), some (.int n), some (.ref p), x5] ∧ Kept a M M' ∧ M' p = some (.lst ((Rs ++ [L]).map tabL)) ∧ Rs.length = i ∧ (∀ R ∈ Rs ++ [L], Tab w R ∧ R.length ≤ 8 ∧ ∃ B, Big B R) ∧ Big B L, ⟨_, [], S, _, rfl, k1.mset hp hap, mset_same, rfl, fun R hR => ?_, bS⟩, ?_, ?_⟩
  · have : R = S := by simpa using hR
    rw [this]
    exact ⟨tS, by omega, _, bS⟩
  · rintro i d _ M' hd ⟨x5, Rs, L, B, rfl, kp, hm, hl, hR, bL⟩
    obtain ⟨hi, rfl⟩ := rgD_get hd
    obtain ⟨tL, lL, _⟩ := hR L (by simp)
    refine ⟨_, rfl, ⟨p, _, rfl, hm⟩, _, rfl, _, rfl, _, rfl, _, tabL L, hm, by rw [List.map_append]; exact atI_last, _, rfl, target_in (room := 8) kp.box tL hw8 lL (by decide) bL fun T M2 tT lT bT k2 => .inl ?_⟩
    have hm2 : M2 p = some (.lst ((Rs ++ [L]).map tabL)) := k2.old p _ (Ne.symm hap) hm
    refine ⟨p, _, _, rfl, rfl, hm2, szlt (by simp; omega), ?_⟩
    refine ⟨_, Rs ++ [L], T, _, rfl, (kp.trans k2).mset hp hap, ?_, by simp [hl], fun R hR' => ?_, bT⟩
    · rw [mset_same, List.map_append (l₂ := [T])]
      rfl
    · rcases List.mem_append.mp hR' with z | z
      · exact hR R z
      · have : R = T := by simpa using z
        rw [this]
        exact ⟨tT, lT, _, bT⟩
  · rintro _ M' ⟨x5, Rs, L, B, rfl, kp, hm, hl, hR, bL⟩
    rw [rgD_len, Int.toNat_natCast] at hl
    obtain ⟨S0, Ts, e⟩ : ∃ S0 Ts, Rs ++ [L] = S0 :: Ts := by
      cases Rs with
      | nil => exact ⟨_, _, rfl⟩
      | cons A Rs => exact ⟨_, _, rfl⟩
    have hlen : Ts.length = n := by
      have := congrArg List.length e
      simp at this
      omega
    rw [e] at hm hR
    exact ⟨_, rfl, fl_cellK (fun M2 k => h S0 Ts M2 (fun R hR' => ⟨(hR R hR').1, by have := (hR R hR').2.1; omega⟩) (fun R hR' => (hR R hR').2.1) (fun R hR' => (hR R hR').2.2) hlen k) kp hp hap hm⟩

/-! slices of lists -/
theorem cutD_fromT {ds : List D} {n : Nat} : cutD ds (some (n : Int)) none = ds.drop n := by
  unfold cutD
  rw [HT.sIx_none, HT.sIx_nat]
  rcases Nat.le_total n ds.length with h | h
  · rw [Nat.min_eq_left h]
    exact List.take_of_length_le (by simp)
  · rw [Nat.min_eq_right h, List.drop_length, List.drop_of_length_le h]
    simp
theorem sl_fromT {ds : List D} {a : Nat} {M : Mem} {Q : DK} (q : Q (.lst (ds.drop a)) M) : dSl (.lst ds) (some (a : Int)) none M Q := by
  show Q (.lst (cutD ds (some (a : Int)) none)) M
  rw [cutD_fromT]
  exact q
theorem cutD_midT {ds : List D} {a b : Nat} : cutD ds (some (a : Int)) (some (b : Int)) = (ds.drop a).take (b - a) := by
  unfold cutD
  rw [HT.sIx_nat, HT.sIx_nat]
  rcases Nat.le_total a ds.length with h | h
  · rw [Nat.min_eq_left h]
    rcases Nat.le_total b ds.length with h2 | h2
    · rw [Nat.min_eq_left h2]
    · rw [Nat.min_eq_right h2, List.take_of_length_le (by simp), List.take_of_length_le (by simp; omega)]
  · rw [Nat.min_eq_right h, List.drop_length, List.drop_of_length_le h]
    simp
theorem sl_midT {ds : List D} {a b : Nat} {M : Mem} {Q : DK} (q : Q (.lst ((ds.drop a).take (b - a))) M) : dSl (.lst ds) (some (a : Int)) (some (b : Int)) M Q := by
  show Q (.lst (cutD ds (some (a : Int)) (some (b : Int)))) M
  rw [cutD_midT]
  exact q
theorem sl_toT {ds : List D} {b : Nat} {M : Mem} {Q : DK} (q : Q (.lst (ds.take b)) M) : dSl (.lst ds) none (some (b : Int)) M Q := by
  show Q (.lst (cutD ds none (some (b : Int)))) M
  have e : cutD ds none (some (b : Int)) = ds.take b := by
    unfold cutD
    rw [HT.sIx_none, HT.sIx_nat, List.drop_zero, Nat.sub_zero]
    rcases Nat.le_total b ds.length with h2 | h2
    · rw [Nat.min_eq_left h2]
    · rw [Nat.min_eq_right h2, List.take_of_length_le (Nat.le_refl _), List.take_of_length_le h2]
  rw [e]
  exact q

/-! _law_stretches(stack, rows, first, end) -/
@[irreducible] def S_law_stretches (x y z u : D) (M : Mem) (Q : DK) (_ : DXK) : Prop := ∃ (w : Nat) (S : List Row) (Ts : List (List Row)) (a b : Nat), x = stackD w S Ts ∧ y = tabL (topR S Ts) ∧ z = .int a ∧ u = .int b ∧ Chain w (S :: Ts) ∧ w ≤ 1000 ∧ Ts.length ≤ 100 ∧ a ≤ 4000000000 ∧ Q (.bl true) M
def sp_law_stretches : DSp := spk4 S_law_stretches
theorem lstrs_in {w : Nat} {S : List Row} {Ts : List (List Row)} (a b : Nat) {M : Mem} {Q : DK} {E : DXK} (h : Chain w (S :: Ts)) (hw : w ≤ 1000) (hz : Ts.length ≤ 100) (ha : a ≤ 4000000000) (q : Q (.bl true) M) : S_law_stretches (stackD w S Ts) (tabL (topR S Ts)) (.int a) (.int b) M Q E := by
  unfold S_law_stretches
  exact ⟨w, S, Ts, a, b, rfl, rfl, rfl, rfl, h, hw, hz, ha, q⟩
def t_law_stretches : DTS :=
  dSeq (dIfS (dNot (dTruth (dCall sp_law_is_rows [] wNo (dCons (dListG "Stack" 2 (gPos sp_Stack_stretch []) (dVar 0) (dCons (dVar 2) (dCons (dVar 3) (dNil)))) (dCons (dSlice dSl (dVar 1) (dPart (dVar 2)) (dPart (dVar 3))) (dNil)))))) (dRet (dC (.bl false))) (dNext))
  (dSeq (dIfS (dNot (dTruth (dCall sp_law_is_rows [] wNo (dCons (dListG "Stack" 1 (gPos sp_Stack_stretch [.non]) (dVar 0) (dCons (dVar 2) (dNil))) (dCons (dSlice dSl (dVar 1) (dPart (dVar 2)) (dNoPart)) (dNil)))))) (dRet (dC (.bl false))) (dNext))
  (dSeq (dIfS (dNot (dTruth (dCall sp_law_is_rows [] wNo (dCons (dListG "Stack" 2 (gPos sp_Stack_stretch []) (dVar 0) (dCons (dVar 2) (dCons (dC .non) (dNil)))) (dCons (dSlice dSl (dVar 1) (dPart (dVar 2)) (dNoPart)) (dNil)))))) (dRet (dC (.bl false))) (dNext))
  (dRet (dCall sp_law_is_rows [] wNo (dCons (dListG "Stack" 1 (gKw sp_Stack_stretch 1 [.int 0]) (dVar 0) (dCons (dVar 3) (dNil))) (dCons (dSlice dSl (dVar 1) (dNoPart) (dPart (dVar 3))) (dNil)))))))
theorem rd_law_stretches : ∀ ds M Q E, sp_law_stretches ds M Q E → t_law_stretches { nx := fun _ M' => QF Q .non M', rt := QF Q } (dstart 4 ds) M := rd4 fun x y z u M Q E h => by
  unfold S_law_stretches at h
  obtain ⟨w, S, Ts, a, b, rfl, rfl, rfl, rfl, hc, hw, hz, ha, h⟩ := h
  obtain ⟨tT, lT⟩ := hc _ (topR_mem (S := S) (Ts := Ts))
  refine ⟨_, rfl, rfl, _, rfl, _, rfl, rfl, sstr_in a (some b) hc hw hz ha ?_⟩
  rw [strR_some]
  refine ⟨_, rfl, _, rfl, _, rfl, sl_midT ?_⟩
  rw [← List.map_drop, ← List.map_take]
  refine lisrows_in LstOf.lst LstOf.lst (by rw [List.length_take, List.length_drop]; omega) (fun r hr => by rw [tT.wid r (List.mem_of_mem_drop (List.mem_of_mem_take hr))]; exact hw) (no ?_)
  have hd1 : ((topR S Ts).drop a).length ≤ 1000 := by rw [List.length_drop]; omega
  have hd2 : ∀ r ∈ (topR S Ts).drop a, r.length ≤ 1000 := fun r hr => by rw [tT.wid r (List.mem_of_mem_drop hr)]; exact hw
  refine ⟨_, rfl, rfl, _, rfl, rfl, sstr_in a none hc hw hz ha ?_⟩
  rw [strR_none]
  refine ⟨_, rfl, _, rfl, sl_fromT ?_⟩
  rw [← List.map_drop]
  refine lisrows_in LstOf.lst LstOf.lst hd1 hd2 (no ?_)
  refine ⟨_, rfl, rfl, _, rfl, rfl, sstr_in a none hc hw hz ha ?_⟩
  rw [strR_none]
  refine ⟨_, rfl, _, rfl, sl_fromT ?_⟩
  rw [← List.map_drop]
  refine lisrows_in LstOf.lst LstOf.lst hd1 hd2 (no ?_)
  refine ⟨_, rfl, rfl, _, rfl, rfl, sstr_in 0 (some b) hc hw hz (by omega) ?_⟩
  rw [strR_some]
  refine ⟨_, rfl, _, rfl, sl_toT ?_⟩
  rw [← List.map_take, List.drop_zero, Nat.sub_zero]
  exact lisrows_in LstOf.lst LstOf.lst (by rw [List.length_take]; omega) (fun r hr => by rw [tT.wid r (List.mem_of_mem_take hr)]; exact hw) (qf_same h)

/-! sums of ints in readings -/
theorem dEq_same {a b : Int} {M : Mem} {Q : DK} (h : a = b) (q : Q (.bl true) M) : dEq (.int a) (.int b) M Q := by
  show Q (.bl (decide (a = b))) M
  rw [decide_eq_true h]
  exact q
theorem dSub_int {i j : Int} {M : Mem} {Q : DK} (q : Q (.int (i - j)) M) : dSub (.int i) (.int j) M Q := q

/-! _law_walked(stack, rows): a stretch is walked while others run -/
@[irreducible] def S_law_walked (x y : D) (M : Mem) (Q : DK) (_ : DXK) : Prop := ∃ (w : Nat) (S : List Row) (Ts : List (List Row)), x = stackD w S Ts ∧ y = tabL (topR S Ts) ∧ Chain w (S :: Ts) ∧ w ≤ 1000 ∧ Ts.length ≤ 100 ∧ Q (.bl true) M
def sp_law_walked : DSp := spk2 S_law_walked
theorem lwalked_in {w : Nat} {S : List Row} {Ts : List (List Row)} {M : Mem} {Q : DK} {E : DXK} (h : Chain w (S :: Ts)) (hw : w ≤ 1000) (hz : Ts.length ≤ 100) (q : Q (.bl true) M) : S_law_walked (stackD w S Ts) (tabL (topR S Ts)) M Q E := by
  unfold S_law_walked
  exact ⟨w, S, Ts, rfl, rfl, h, hw, hz, q⟩
def t_law_walked : DTS :=
  dSeq (dAsg (dC (.int 0)) (dgName 2))
  (dSeq (dForW "Stack" (wPos spw_Stack_stretch [.int 0, .non]) (dVar 0) (dgName 3) (dSeq (dIfS (dOr (dTest (dBin dGe (dVar 2) (dCB (r1 dLen) (dCons (dVar 1) (dNil))))) (dNot (dTruth (dCall sp_law_is_row [] wNo (dCons (dVar 3) (dCons (dBin dIx (dVar 1) (dVar 2)) (dNil))))))) (dRet (dC (.bl false))) (dNext))
  (dSeq (dIfS (dNot (dTruth (dCall sp_law_is_rows [] wNo (dCons (dListG "Stack" 1 (gPos sp_Stack_stretch [.non]) (dVar 0) (dCons (dVar 2) (dNil))) (dCons (dSlice dSl (dVar 1) (dPart (dVar 2)) (dNoPart)) (dNil)))))) (dRet (dC (.bl false))) (dNext))
  (dAsg (dBin dAdd (dVar 2) (dC (.int 1))) (dgName 2)))))
  (dRet (dBin dEq (dVar 2) (dCB (r1 dLen) (dCons (dVar 1) (dNil))))))
theorem rd_law_walked : ∀ ds M Q E, sp_law_walked ds M Q E → t_law_walked { nx := fun _ M' => QF Q .non M', rt := QF Q } (dstart 4 ds) M := rd2 fun x y M Q E h => by
  unfold S_law_walked at h
  obtain ⟨w, S, Ts, rfl, rfl, hc, hw, hz, h⟩ := h
  obtain ⟨tT, lT⟩ := hc _ (topR_mem (S := S) (Ts := Ts))
  refine ⟨_, rfl, rfl, (topR S Ts).map rowD, ⟨w, S, Ts, 0, none, rfl, hc, hw, hz, by omega, by rw [strR_none, List.drop_zero]⟩, fun i σ M' => ∃ x3 : Option D, σ = [some (stackD w S Ts), some (tabL (topR S Ts)), some (.int i), x3] ∧ M' = M, ⟨_, rfl, rfl⟩, ?_, ?_⟩
  · rintro i d _ _ hd ⟨x3, rfl, rfl⟩
    obtain ⟨r, hr, rfl⟩ := rows_get hd
    have hi : i < (topR S Ts).length := (List.getElem?_eq_some_iff.mp hr).1
    have hm := List.mem_of_getElem? hr
    refine ⟨_, rfl, _, rfl, dLen_seq Seq.lst (byc (fun z => absurd z (by simp; omega)) fun _ => ?_)⟩
    refine ⟨_, rfl, _, rfl, _, rfl, dIx_seq Seq.lst (atI_map hr) (lisrow_in (by rw [tT.wid r hm]; exact hw) ?_)⟩
    rw [decide_eq_true rfl]
    refine no ?_
    refine ⟨_, rfl, rfl, _, rfl, rfl, sstr_in i none hc hw hz (by omega) ?_⟩
    rw [strR_none]
    refine ⟨_, rfl, _, rfl, sl_fromT ?_⟩
    rw [← List.map_drop]
    refine lisrows_in LstOf.lst LstOf.lst (by rw [List.length_drop]; omega) (fun r hr => by rw [tT.wid r (List.mem_of_mem_drop hr)]; exact hw) (no ?_)
    refine ⟨_, rfl, ?_⟩
    refine dAdd_int ?_
    rw [show (i : Int) + 1 = ((i + 1 : Nat) : Int) by omega]
    exact ⟨_, rfl, rfl⟩
  rintro _ _ ⟨x3, rfl, rfl⟩
  refine ⟨_, rfl, _, rfl, dLen_seq Seq.lst ?_⟩
  exact dEq_same (by rw [List.length_map]) (qf_same h)

/-! the law -/
theorem lays_take : ∀ {S : List Row} {Ts : List (List Row)} {n : Nat}, lays S (Ts.take n) = (lays S Ts).take n
  | _, [], n => by simp [lays]
  | _, _ :: _, 0 => rfl
  | S, T :: Ts, n + 1 => by
    rw [List.take_succ_cons]
    unfold lays
    rw [List.take_succ_cons, lays_take]
theorem lays_at : ∀ {S : List Row} {Ts : List (List Row)} {i : Nat} {A B : List Row}, (S :: Ts)[i]? = some A → (S :: Ts)[i + 1]? = some B → (lays S Ts)[i]? = some (lay A B)
  | S, [], i, A, B, _, h => by simp at h
  | S, T :: Ts, 0, A, B, h1, h2 => by
    injection h1 with h1
    injection h2 with h2
    subst h1 h2
    rfl
  | S, T :: Ts, i + 1, A, B, h1, h2 => lays_at (S := T) (Ts := Ts) (i := i) h1 h2
theorem topR_at : ∀ {S : List Row} {Ts : List (List Row)}, (S :: Ts)[Ts.length]? = some (topR S Ts)
  | S, [] => rfl
  | S, T :: Ts => by
    rw [topR_cons]
    exact topR_at (S := T) (Ts := Ts)
theorem sl_init {ds : List D} {M : Mem} {Q : DK} (q : Q (.lst ds.dropLast) M) : dSl (.lst ds) none (some (-1)) M Q := by
  show Q (.lst (cutD ds none (some (-1)))) M
  have e : cutD ds none (some (-1)) = ds.dropLast := by
    unfold cutD
    rw [HT.sIx_none, List.drop_zero, Nat.sub_zero, List.dropLast_eq_take]
    show ds.take (if (-1 : Int) < 0 then ((-1 : Int) + (ds.length : Int)).toNat else min (-1 : Int).toNat ds.length) = _
    rw [if_pos (show (-1 : Int) < 0 by decide), show ((-1 : Int) + (ds.length : Int)).toNat = ds.length - 1 by omega]
  rw [e]
  exact q
theorem init_var {i : Nat} {σ : DSt} {ds : List D} {M : Mem} {Q : DK} (h : sl σ i = some (.lst ds)) (q : Q (.lst ds.dropLast) M) : dSlice dSl (dVar i) dNoPart (dPart (dUn dNeg (dC (.int 1)))) σ M Q := ⟨_, h, show dSl (.lst ds) none (some (-1)) M Q from sl_init q⟩
theorem lays_dropLast {S : List Row} {Ts : List (List Row)} : lays S Ts.dropLast = (lays S Ts).dropLast := by
  rw [List.dropLast_eq_take, lays_take, List.dropLast_eq_take, lays_len]
theorem top_snoc : ∀ {S : List Row} {Ts : List (List Row)}, ∃ Us, S :: Ts = Us ++ [topR S Ts]
  | S, [] => ⟨[], rfl⟩
  | S, T :: Ts => by
    obtain ⟨Us, e⟩ := top_snoc (S := T) (Ts := Ts)
    rw [topR_cons]
    exact ⟨S :: Us, by rw [e]; rfl⟩
theorem atI_top {S : List Row} {Ts : List (List Row)} : atI ((S :: Ts).map tabL) (-1) = some (tabL (topR S Ts)) := by
  obtain ⟨Us, e⟩ := top_snoc (S := S) (Ts := Ts)
  rw [e, List.map_append]
  exact atI_last
theorem topR_under {S : List Row} {Ts : List (List Row)} : (S :: Ts)[Ts.length - 1]? = some (topR S Ts.dropLast) := by
  rcases List.eq_nil_or_concat Ts with rfl | ⟨Us, x, rfl⟩
  · rfl
  · rw [List.concat_eq_append, List.dropLast_concat, List.length_append, ← List.cons_append, List.getElem?_append_left (by simp)]
    exact topR_at
theorem atI_under {S : List Row} {Ts : List (List Row)} : atI ((S :: Ts).map tabL) (if (((S :: Ts).map tabL).length : Int) - 2 > 0 then (((S :: Ts).map tabL).length : Int) - 2 else 0) = some (tabL (topR S Ts.dropLast)) := by
  rw [List.length_map, List.length_cons, show (if ((Ts.length + 1 : Nat) : Int) - 2 > 0 then ((Ts.length + 1 : Nat) : Int) - 2 else 0) = ((Ts.length - 1 : Nat) : Int) by split <;> omega]
  exact atI_map topR_under
theorem init_cell {i : Nat} {σ : DSt} {p : Addr} {ds : List D} {M : Mem} {Q : DK} (h : sl σ i = some (.ref p)) (hm : M p = some (.lst ds)) (q : Q (.lst ds.dropLast) M) : dSlice dSl (dVar i) dNoPart (dPart (dUn dNeg (dC (.int 1)))) σ M Q :=
  ⟨_, h, ds, hm, show dSl (.lst ds) none (some (-1)) M Q from sl_init q⟩
def t_law : DTS :=
  dSeq (dAsg (dLstC (dCons (dC (.int 0)) (dCons (dC (.int 0)) (dNil)))) (dgName 1))
  (dSeq (dAsg (dCall sp_law_width [] wNo (dCons (dVar 0) (dCons (dVar 1) (dNil)))) (dgName 2))
  (dSeq (dAsg (dCall sp_law_chain [] wNo (dCons (dVar 0) (dCons (dVar 1) (dCons (dVar 2) (dCons (dCall sp_law_take [] wNo (dCons (dVar 0) (dCons (dVar 1) (dCons (dC (.int 6)) (dNil))))) (dNil)))))) (dgName 3))
  (dSeq (dAsg (dLstC (dNil)) (dgName 4))
  (dSeq (dFor (diRange1 (dCons (dBin dSub (dCB (r1 dLen) (dCons (dVar 3) (dNil))) (dC (.int 1))) (dNil))) (dgName 5) (dDrop (dApp (dVar 4) (dCons (dNew "Layer" sp_Layer_new wNo (dCons (dVar 2) (dCons (dCall sp_law_entries [] wNo (dCons (dBin dIx (dVar 3) (dVar 5)) (dCons (dBin dIx (dVar 3) (dBin dAdd (dVar 5) (dC (.int 1)))) (dNil)))) (dNil)))) (dNil)))))
  (dSeq (dAsg (dNew "Stack" sp_Stack_new wNo (dCons (dNew "Table" sp_Table_new wNo (dCons (dVar 2) (dCons (dBin dIx (dVar 3) (dC (.int 0))) (dNil)))) (dCons (dVar 4) (dNil)))) (dgName 6))
  (dSeq (dAsg (dNew "Stack" sp_Stack_new wNo (dCons (dNew "Table" sp_Table_new wNo (dCons (dVar 2) (dCons (dBin dIx (dVar 3) (dC (.int 0))) (dNil)))) (dCons (dSlice dSl (dVar 4) (dNoPart) (dPart (dUn dNeg (dC (.int 1))))) (dNil)))) (dgName 7))
  (dSeq (dAsg (dBin dIx (dVar 3) (dUn dNeg (dC (.int 1)))) (dgName 8))
  (dSeq (dAsg (dBin dIx (dVar 3) (dCB (r2 dMax) (dCons (dC (.int 0)) (dCons (dBin dSub (dCB (r1 dLen) (dCons (dVar 3) (dNil))) (dC (.int 2))) (dNil))))) (dgName 9))
  (dSeq (dFor (diRange1 (dCons (dC (.int 4)) (dNil))) (dgName 5) (dSeq (dAsg (dCall sp_law_take [] wNo (dCons (dVar 0) (dCons (dVar 1) (dCons (dBin dAdd (dCB (r1 dLen) (dCons (dVar 8) (dNil))) (dC (.int 3))) (dNil))))) (dgName 10))
  (dSeq (dAsg (dCall sp_law_take [] wNo (dCons (dVar 0) (dCons (dVar 1) (dCons (dBin dAdd (dCB (r1 dLen) (dCons (dVar 8) (dNil))) (dC (.int 3))) (dNil))))) (dgName 11))
  (dIfS (dOr (dNot (dTruth (dCall sp_law_stretches [] wNo (dCons (dVar 6) (dCons (dVar 8) (dCons (dVar 10) (dCons (dVar 11) (dNil)))))))) (dNot (dTruth (dCall sp_law_stretches [] wNo (dCons (dVar 7) (dCons (dVar 9) (dCons (dVar 10) (dCons (dVar 11) (dNil))))))))) (dRet (dC (.bl false))) (dNext)))))
  (dSeq (dAsg (dBin dAdd (dBin dAdd (dCB (r1 dLen) (dCons (dVar 8) (dNil))) (dC (.int 9))) (dCall sp_law_take [] wNo (dCons (dVar 0) (dCons (dVar 1) (dCons (dBin dPow (dC (.int 10)) (dC (.int 9))) (dNil)))))) (dgName 12))
  (dSeq (dIfS (dOr (dNot (dTruth (dCall sp_law_stretches [] wNo (dCons (dVar 6) (dCons (dVar 8) (dCons (dVar 12) (dCons (dBin dAdd (dVar 12) (dC (.int 1))) (dNil)))))))) (dNot (dTruth (dCall sp_law_stretches [] wNo (dCons (dVar 6) (dCons (dVar 8) (dCons (dC (.int 0)) (dCons (dVar 12) (dNil))))))))) (dRet (dC (.bl false))) (dNext))
  (dRet (dCall sp_law_walked [] wNo (dCons (dVar 6) (dCons (dVar 8) (dNil))))))))))))))))
theorem rd_law : ∀ ds M Q E, sp_law ds M Q E → t_law { nx := fun _ M' => QF Q .non M', rt := QF Q } (dstart 13 ds) M := rd1 fun s M Q E h => by
  unfold S_law at h
  obtain ⟨ns, rfl, hlen, h⟩ := h
  refine ⟨by decide, fun b hb => ?_⟩
  have hbox : BoxAt (mset M b (.lst [.int 0, .int 0])) b := ⟨0, 0, mset_same, by decide, by decide⟩
  refine ⟨_, rfl, _, rfl, width_in hbox fun w M1 hw1 hw8 d1 => ?_⟩
  refine ⟨_, rfl, _, rfl, _, rfl, _, rfl, _, rfl, take_in d1.box (by decide) (by decide) fun many M2 m0 m1 d2 => ?_⟩
  obtain ⟨n, rfl⟩ : ∃ n : Nat, many = n := ⟨many.toNat, by omega⟩
  refine lchain_in d2.box hw1 hw8 (by omega) fun S Ts M3 hc h8 hbg hn k3 => .inl ?_
  have zl : ((S :: Ts).map tabL).length = n + 1 := by rw [List.length_map, List.length_cons, hn]
  have z0 : (lays S Ts).length = n := by rw [lays_len, hn]
  have tab : ∀ {i : Nat}, i ≤ n → ∃ R, (S :: Ts)[i]? = some R ∧ Tab w R ∧ R.length ≤ 8 := fun {i} hi => by
    have e : (S :: Ts)[i]? = some ((S :: Ts)[i]'(by rw [List.length_cons]; omega)) := List.getElem?_eq_getElem _
    exact ⟨_, e, (hc _ (List.mem_of_getElem? e)).1, h8 _ (List.mem_of_getElem? e)⟩
  have lok := lays_ok (w := w) hc (by omega)
  -- the layers
  refine ⟨by decide, fun p hp => ?_⟩
  have hbp : b ≠ p := k3.box.ne hp
  refine ⟨_, rfl, ?_⟩
  refine ⟨⟨by omega, by omega⟩, fun i σ M' => ∃ x5 : Option D, σ = [some (.ro (ns.map D.int)), some (.ref b), some (.int w), some (.lst ((S :: Ts).map tabL)), some (.ref p), x5, none, none, none, none, none, none, none] ∧ M' = mset M3 p (.lst (((lays S Ts).take i).map (layD w))), ⟨_, rfl, rfl⟩, ?_, ?_⟩
  · rintro i d _ _ hd ⟨x5, rfl, rfl⟩
    obtain ⟨hi, rfl⟩ := rgD_get hd
    have hi : i < n := by omega
    obtain ⟨A, hA, tA, lA⟩ := tab (i := i) (by omega)
    obtain ⟨B, hB, tB, lB⟩ := tab (i := i + 1) (by omega)
    have hL := lays_at hA hB
    rw [Int.zero_add]
    refine ⟨_, rfl, ⟨p, _, rfl, mset_same⟩, _, rfl, _, rfl, _, rfl, tabL A, atI_map hA, _, rfl, _, rfl, tabL B, by rw [show (i : Int) + 1 = ((i + 1 : Nat) : Int) by omega]; exact atI_map hB, entries_in LstOf.lst LstOf.lst (fun r hr => tA.ne hr) (fun r hr => tB.ne hr) (by omega) (.inl ?_)⟩
    refine new_layer Seq.lst (lok _ (List.mem_of_getElem? hL)).1 ?_
    refine ⟨p, _, _, rfl, rfl, mset_same, szlt (by rw [List.length_map, List.length_take]; omega), _, rfl, ?_⟩
    rw [mset_mset, List.take_succ, hL, List.map_append]
    rfl
  rintro _ _ ⟨x5, rfl, rfl⟩
  have zr : (rgD 0 ((((S :: Ts).map tabL).length : Int) - 1).toNat).length = n := by rw [rgD_len, zl]; omega
  rw [zr, List.take_of_length_le (by omega)]
  obtain ⟨tS, lS⟩ := hc S (by simp)
  refine ⟨_, rfl, _, rfl, tabL S, atI_map (l := S :: Ts) (i := 0) rfl, new_table Seq.lst tS (by omega) (by omega) ⟨_, rfl, new_stack (Seq.cell mset_same) hc (by omega) (by omega) ?_⟩⟩
  have hcl : Chain w (S :: Ts.dropLast) := fun R hR => hc R (by
    rcases List.mem_cons.mp hR with rfl | hR
    · simp
    · exact List.mem_cons_of_mem _ (List.dropLast_subset _ hR))
  have hzl : Ts.dropLast.length ≤ 5 := by rw [List.length_dropLast]; omega
  have hmp : mset M3 p (.lst ((lays S Ts).map (layD w))) p = some (.lst ((lays S Ts).map (layD w))) := mset_same
  have hbx := k3.box.mset (o := .lst ((lays S Ts).map (layD w))) hbp
  refine ⟨_, rfl, _, rfl, tabL S, atI_map (l := S :: Ts) (i := 0) rfl, new_table Seq.lst tS (by omega) (by omega) (init_cell rfl hmp ?_)⟩
  rw [show ((lays S Ts).map (layD w)).dropLast = (lays S Ts.dropLast).map (layD w) by rw [lays_dropLast, List.map_dropLast]]
  refine new_stack Seq.lst hcl (by omega) (by omega) ?_
  refine ⟨_, rfl, tabL (topR S Ts), atI_top, ?_⟩
  refine ⟨_, rfl, _, rfl, _, atI_under (S := S) (Ts := Ts), ?_⟩
  obtain ⟨tT, lT⟩ := hc _ (topR_mem (S := S) (Ts := Ts))
  obtain ⟨tU, lU⟩ := hcl _ (topR_mem (S := S) (Ts := Ts.dropLast))
  have lTl : ((topR S Ts).map rowD).length = (topR S Ts).length := List.length_map ..
  refine ⟨⟨by decide, by decide⟩, fun i σ M' => ∃ x5 x10 x11 : Option D, σ = [some (.ro (ns.map D.int)), some (.ref b), some (.int w), some (.lst ((S :: Ts).map tabL)), some (.ref p), x5, some (stackD w S Ts), some (stackD w S Ts.dropLast), some (tabL (topR S Ts)), some (tabL (topR S Ts.dropLast)), x10, x11, none] ∧ BoxAt M' b, ⟨_, _, _, rfl, hbx⟩, ?_, ?_⟩
  · rintro i d _ M5 hd ⟨x5, x10, x11, rfl, bx⟩
    obtain ⟨hi, rfl⟩ := rgD_get hd
    have hlg : ((((topR S Ts).map rowD).length : Int) + 3).natAbs.log2 < 9000 := Nat.lt_of_le_of_lt (Nat.log2_le_self _) (by rw [lTl]; omega)
    refine ⟨_, rfl, _, rfl, _, rfl, dLen_seq Seq.lst ?_⟩
    refine dAdd_int ?_
    refine take_in bx (by omega) hlg fun v M6 v0 v1 d6 => ?_
    obtain ⟨v, rfl⟩ : ∃ n : Nat, v = n := ⟨v.toNat, by omega⟩
    refine ⟨_, rfl, _, rfl, _, rfl, dLen_seq Seq.lst ?_⟩
    refine dAdd_int ?_
    refine take_in d6.box (by omega) hlg fun v' M7 v0' v1' d7 => ?_
    obtain ⟨v', rfl⟩ : ∃ n : Nat, v' = n := ⟨v'.toNat, by omega⟩
    rw [lTl] at v1
    refine ⟨_, rfl, _, rfl, _, rfl, _, rfl, lstrs_in v v' hc (by omega) (by omega) (by omega) (no ⟨_, rfl, _, rfl, _, rfl, _, rfl, lstrs_in v v' hcl (by omega) (by omega) (by omega) (no ⟨_, _, _, rfl, d7.box⟩)⟩)⟩
  rintro _ M5 ⟨x5, x10, x11, rfl, bx⟩
  refine ⟨_, rfl, dLen_seq Seq.lst ?_⟩
  refine dAdd_int ?_
  refine ⟨_, rfl, _, rfl, ⟨by decide, by decide, by decide⟩, take_in bx (by decide) (by decide) fun v M6 v0 v1 d6 => ?_⟩
  obtain ⟨v, rfl⟩ : ∃ n : Nat, v = n := ⟨v.toNat, by omega⟩
  have hv : v < 1000000000 := by
    have e : ((10 : Int) ^ (9 : Int).toNat) = 1000000000 := by decide
    omega
  refine dAdd_int ?_
  rw [lTl, show (((topR S Ts).length : Int) + 9 + (v : Int)) = (((topR S Ts).length + 9 + v : Nat) : Int) by omega]
  refine ⟨_, rfl, _, rfl, _, rfl, _, rfl, ?_⟩
  refine dAdd_int ?_
  rw [show (((topR S Ts).length + 9 + v : Nat) : Int) + 1 = (((topR S Ts).length + 9 + v + 1 : Nat) : Int) by omega]
  refine lstrs_in _ _ hc (by omega) (by omega) (by omega) (no ?_)
  refine ⟨_, rfl, _, rfl, _, rfl, lstrs_in 0 _ hc (by omega) (by omega) (by omega) (no ?_)⟩
  exact ⟨_, rfl, _, rfl, lwalked_in hc (by omega) (by omega) (qf_same (h _))⟩

end DL
set_option maxHeartbeats 0
namespace LawW
open PySem PySem.Spec PyProof.Rows L2 DL
theorem sc_is_integer : FnScope N_is_integer ["value"] (defScope st_is_integer) := ⟨rfl, rfl, rfl, by decide +kernel, rfl, by decide +kernel, by decide +kernel⟩
theorem sc_count_below : FnScope N_count_below ["numbers", "bound"] (defScope st_count_below) := ⟨rfl, rfl, rfl, by decide +kernel, rfl, by decide +kernel, by decide +kernel⟩
theorem sc_check_width : FnScope N_check_width ["width"] (defScope st_check_width) := ⟨rfl, rfl, rfl, by decide +kernel, rfl, by decide +kernel, by decide +kernel⟩
theorem sc_is_row : FnScope N_is_row ["value", "width"] (defScope st_is_row) := ⟨rfl, rfl, rfl, by decide +kernel, rfl, by decide +kernel, by decide +kernel⟩
theorem sc_check_rows : FnScope N_check_rows ["width", "rows"] (defScope st_check_rows) := ⟨rfl, rfl, rfl, by decide +kernel, rfl, by decide +kernel, by decide +kernel⟩
theorem sc_is_entry : FnScope N_is_entry ["value", "width"] (defScope st_is_entry) := ⟨rfl, rfl, rfl, by decide +kernel, rfl, by decide +kernel, by decide +kernel⟩
theorem sc_entry_key : FnScope N_entry_key ["entry"] (defScope st_entry_key) := ⟨rfl, rfl, rfl, by decide +kernel, rfl, by decide +kernel, by decide +kernel⟩
theorem sc_entry_growth : FnScope N_entry_growth ["entry"] (defScope st_entry_growth) := ⟨rfl, rfl, rfl, by decide +kernel, rfl, by decide +kernel, by decide +kernel⟩
theorem sc_gap_size : FnScope N_gap_size ["entry", "following"] (defScope st_gap_size) := ⟨rfl, rfl, rfl, by decide +kernel, rfl, by decide +kernel, by decide +kernel⟩
theorem sc_in_order : FnScope N_in_order ["entry", "following"] (defScope st_in_order) := ⟨rfl, rfl, rfl, by decide +kernel, rfl, by decide +kernel, by decide +kernel⟩
theorem sc_check_entries : FnScope N_check_entries ["width", "entries"] (defScope st_check_entries) := ⟨rfl, rfl, rfl, by decide +kernel, rfl, by decide +kernel, by decide +kernel⟩
theorem sc_Layer___init : FnScope N_Layer___init ["self", "width", "entries"] (defScope st_Layer___init) := ⟨rfl, rfl, rfl, by decide +kernel, rfl, by decide +kernel, by decide +kernel⟩
theorem sc_Layer___iter : FnScope N_Layer___iter ["self"] (defScope st_Layer___iter) := ⟨rfl, rfl, rfl, by decide +kernel, rfl, by decide +kernel, by decide +kernel⟩
theorem sc_Layer___len : FnScope N_Layer___len ["self"] (defScope st_Layer___len) := ⟨rfl, rfl, rfl, by decide +kernel, rfl, by decide +kernel, by decide +kernel⟩
theorem sc_Layer_growth : FnScope N_Layer_growth ["self"] (defScope st_Layer_growth) := ⟨rfl, rfl, rfl, by decide +kernel, rfl, by decide +kernel, by decide +kernel⟩
theorem sc_writer_at : FnScope N_writer_at ["layer", "place"] (defScope st_writer_at) := ⟨rfl, rfl, rfl, by decide +kernel, rfl, by decide +kernel, by decide +kernel⟩
theorem sc_old_place : FnScope N_old_place ["layer", "place"] (defScope st_old_place) := ⟨rfl, rfl, rfl, by decide +kernel, rfl, by decide +kernel, by decide +kernel⟩
theorem sc_end_place : FnScope N_end_place ["size", "stop"] (defScope st_end_place) := ⟨rfl, rfl, rfl, by decide +kernel, rfl, by decide +kernel, by decide +kernel⟩
theorem sc_Table___init : FnScope N_Table___init ["self", "width", "rows"] (defScope st_Table___init) := ⟨rfl, rfl, rfl, by decide +kernel, rfl, by decide +kernel, by decide +kernel⟩
theorem sc_Table_rank : FnScope N_Table_rank ["self", "key"] (defScope st_Table_rank) := ⟨rfl, rfl, rfl, by decide +kernel, rfl, by decide +kernel, by decide +kernel⟩
theorem sc_Table_find : FnScope N_Table_find ["self", "key"] (defScope st_Table_find) := ⟨rfl, rfl, rfl, by decide +kernel, rfl, by decide +kernel, by decide +kernel⟩
theorem sc_Table_misfit : FnScope N_Table_misfit ["self", "layer"] (defScope st_Table_misfit) := ⟨rfl, rfl, rfl, by decide +kernel, rfl, by decide +kernel, by decide +kernel⟩
theorem sc_laid : FnScope N_laid ["rows", "layer"] (defScope st_laid) := ⟨rfl, rfl, rfl, by decide +kernel, rfl, by decide +kernel, by decide +kernel⟩
theorem sc_Table___add : FnScope N_Table___add ["self", "layer"] (defScope st_Table___add) := ⟨rfl, rfl, rfl, by decide +kernel, rfl, by decide +kernel, by decide +kernel⟩
theorem sc_Stack___init : FnScope N_Stack___init ["self", "base", "layers"] (defScope st_Stack___init) := ⟨rfl, rfl, rfl, by decide +kernel, rfl, by decide +kernel, by decide +kernel⟩
theorem sc_Table___len : FnScope N_Table___len ["self"] (defScope st_Table___len) := ⟨rfl, rfl, rfl, by decide +kernel, rfl, by decide +kernel, by decide +kernel⟩
theorem sc_Stack_size : FnScope N_Stack_size ["self"] (defScope st_Stack_size) := ⟨rfl, rfl, rfl, by decide +kernel, rfl, by decide +kernel, by decide +kernel⟩
theorem sc_Stack_trace : FnScope N_Stack_trace ["self", "place"] (defScope st_Stack_trace) := ⟨rfl, rfl, rfl, by decide +kernel, rfl, by decide +kernel, by decide +kernel⟩
theorem sc_Stack_source : FnScope N_Stack_source ["self", "place"] (defScope st_Stack_source) := ⟨rfl, rfl, rfl, by decide +kernel, rfl, by decide +kernel, by decide +kernel⟩
theorem sc_Table___getitem : FnScope N_Table___getitem ["self", "at"] (defScope st_Table___getitem) := ⟨rfl, rfl, rfl, by decide +kernel, rfl, by decide +kernel, by decide +kernel⟩
theorem sc_Stack_row_at : FnScope N_Stack_row_at ["self", "place"] (defScope st_Stack_row_at) := ⟨rfl, rfl, rfl, by decide +kernel, rfl, by decide +kernel, by decide +kernel⟩
theorem sc_Stack_stretch : GScope N_Stack_stretch ["self", "start", "stop"] (defScope st_Stack_stretch) := ⟨rfl, rfl, rfl, by decide +kernel, rfl, by decide +kernel, by decide +kernel⟩
theorem sc_law_take : FnScope N_law_take ["_law_script", "_law_box", "_law_limit"] (defScope st_law_take) := ⟨rfl, rfl, rfl, by decide +kernel, rfl, by decide +kernel, by decide +kernel⟩
theorem sc_law_number : FnScope N_law_number ["_law_script", "_law_box"] (defScope st_law_number) := ⟨rfl, rfl, rfl, by decide +kernel, rfl, by decide +kernel, by decide +kernel⟩
theorem sc_law_width : FnScope N_law_width ["_law_script", "_law_box"] (defScope st_law_width) := ⟨rfl, rfl, rfl, by decide +kernel, rfl, by decide +kernel, by decide +kernel⟩
theorem sc_law_rows : FnScope N_law_rows ["_law_script", "_law_box", "_law_width_here", "_law_most"] (defScope st_law_rows) := ⟨rfl, rfl, rfl, by decide +kernel, rfl, by decide +kernel, by decide +kernel⟩
theorem sc_law_target : FnScope N_law_target ["_law_script", "_law_box", "_law_rows_here", "_law_width_here", "_law_room"] (defScope st_law_target) := ⟨rfl, rfl, rfl, by decide +kernel, rfl, by decide +kernel, by decide +kernel⟩
theorem sc_law_rank : FnScope N_law_rank ["_law_rows_here", "_law_key"] (defScope st_law_rank) := ⟨rfl, rfl, rfl, by decide +kernel, rfl, by decide +kernel, by decide +kernel⟩
theorem sc_law_find : FnScope N_law_find ["_law_rows_here", "_law_key"] (defScope st_law_find) := ⟨rfl, rfl, rfl, by decide +kernel, rfl, by decide +kernel, by decide +kernel⟩
theorem sc_law_entries : FnScope N_law_entries ["_law_rows_here", "_law_target_here"] (defScope st_law_entries) := ⟨rfl, rfl, rfl, by decide +kernel, rfl, by decide +kernel, by decide +kernel⟩
theorem sc_law_is_int : FnScope N_law_is_int ["_law_value"] (defScope st_law_is_int) := ⟨rfl, rfl, rfl, by decide +kernel, rfl, by decide +kernel, by decide +kernel⟩
theorem sc_law_is_row : FnScope N_law_is_row ["_law_value", "_law_row"] (defScope st_law_is_row) := ⟨rfl, rfl, rfl, by decide +kernel, rfl, by decide +kernel, by decide +kernel⟩
theorem sc_law_is_rows : FnScope N_law_is_rows ["_law_value", "_law_rows_here"] (defScope st_law_is_rows) := ⟨rfl, rfl, rfl, by decide +kernel, rfl, by decide +kernel, by decide +kernel⟩
theorem sc_law_chain : FnScope N_law_chain ["_law_script", "_law_box", "_law_width_here", "_law_many"] (defScope st_law_chain) := ⟨rfl, rfl, rfl, by decide +kernel, rfl, by decide +kernel, by decide +kernel⟩
theorem sc_law_stretches : FnScope N_law_stretches ["_law_stack", "_law_rows_here", "_law_first", "_law_end"] (defScope st_law_stretches) := ⟨rfl, rfl, rfl, by decide +kernel, rfl, by decide +kernel, by decide +kernel⟩
theorem sc_law_walked : FnScope N_law_walked ["_law_stack", "_law_rows_here"] (defScope st_law_walked) := ⟨rfl, rfl, rfl, by decide +kernel, rfl, by decide +kernel, by decide +kernel⟩
theorem sc_law : FnScope N_law ["_law_script"] (defScope st_law) := ⟨rfl, rfl, rfl, by decide +kernel, rfl, by decide +kernel, by decide +kernel⟩
/-- what the top has written -/
structure Txt [Cl] (K : PySem.W.Frag) (mg : PySem.Str → Option Value) : Prop where
  n_abs : mg "abs" = none
  n_all : mg "all" = none
  n_bool : mg "bool" = none
  n_enumerate : mg "enumerate" = none
  n_int : mg "int" = none
  n_isinstance : mg "isinstance" = none
  n_iter : mg "iter" = none
  n_len : mg "len" = none
  n_list : mg "list" = none
  n_max : mg "max" = none
  n_min : mg "min" = none
  n_range : mg "range" = none
  n_set : mg "set" = none
  n_sorted : mg "sorted" = none
  n_sum : mg "sum" = none
  n_super : mg "super" = none
  n_tuple : mg "tuple" = none
  sc_Layer : SlX.SCls K (cA "Layer")
  sc_Stack : SlX.SCls K (cA "Stack")
  sc_Table : SlX.SCls K (cA "Table")
  sl_Layer__entries : ∃ p, SlX.Slot1 K (cA "Layer") "_entries" p 0
  sl_Layer__key_list : ∃ p, SlX.Slot1 K (cA "Layer") "_key_list" p 1
  sl_Layer_width : ∃ p, SlX.Slot1 K (cA "Layer") "width" p 2
  sl_Stack__layers : ∃ p, SlX.Slot1 K (cA "Stack") "_layers" p 0
  sl_Stack_base : ∃ p, SlX.Slot1 K (cA "Stack") "base" p 1
  sl_Stack_width : ∃ p, SlX.Slot1 K (cA "Stack") "width" p 2
  sl_Table__key_list : ∃ p, SlX.Slot1 K (cA "Table") "_key_list" p 0
  sl_Table__rows : ∃ p, SlX.Slot1 K (cA "Table") "_rows" p 1
  sl_Table_width : ∃ p, SlX.Slot1 K (cA "Table") "width" p 2
  g_NoPlace : mg "NoPlace" = some (.ref (cA "NoPlace"))
  two_add_Table_Layer : Two K (cA "Table") (cA "Layer") "add"
  sf_Layer : PySem.W.selfFirst K (cA "Layer") = true
  sf_Table : PySem.W.selfFirst K (cA "Table") = true
  xs : XsK K XS [] false
section
variable {P : Program} {w : World} {K : PySem.W.Frag} {mg : PySem.Str → Option Value} {base : Heap} [Cl] 
theorem ok_is_integer {f : Addr} {fd : FuncData} (F : FunD K "is_integer" "is_integer" (defArgs st_is_integer) (defBody st_is_integer) (defScope st_is_integer) [] [] f fd) (T : Txt K mg)  : FnOk P w K mg base (EX P w) 1 f fd ["value"] (liftSp K sp_is_integer) :=
  dfn_ok (N := N_is_integer) (k := 0) F sc_is_integer spk1_len (fun cdv A outer s H E g hr =>
      (dss_one (ds_ret (de_and (de_callB (dcall_isi .it) rfl T.n_isinstance (by decide +kernel) (da_cons (de_pv (pv 0)) (da_cons (de_ty rfl T.n_int boot_int) da_nil))) (de_one (de_not (de_callB (dcall_isi .bo) rfl T.n_isinstance (by decide +kernel) (da_cons (de_pv (pv 0)) (da_cons (de_ty rfl T.n_bool boot_bool) da_nil))))))))) rd_is_integer
theorem ok_count_below {f : Addr} {fd : FuncData} (F : FunD K "count_below" "count_below" (defArgs st_count_below) (defBody st_count_below) (defScope st_count_below) [] [] f fd) (T : Txt K mg)  : FnOk P w K mg base (EX P w) 1 f fd ["numbers", "bound"] (liftSp K sp_count_below) :=
  dfn_ok (N := N_count_below) (k := 0) F sc_count_below spk2_len (fun cdv A outer s H E g hr =>
      (dss_cons (ds_set (i := 2) sc_count_below.nd rfl (Or.inl rfl) de_int)
      (dss_cons (ds_set (i := 3) sc_count_below.nd rfl (Or.inl rfl) (de_callB dcall_len rfl T.n_len boot_len (da_cons (de_pv (pv 0)) da_nil)))
      (dss_cons (ds_while PassesOwn.never (dt_cmp dop_lt (de_pv (pv 2)) (de_pv (pv 3))) (dss_cons (ds_set (i := 4) sc_count_below.nd rfl (Or.inl rfl) (de_bin dop_fdiv (de_bin dop_add (de_pv (pv 2)) (de_pv (pv 3))) de_int))
      (dss_one (ds_if (dt_cmp dop_lt (de_ix (de_pv (pv 0)) (de_pv (pv 4)) (fun _ _ => rfl)) (de_pv (pv 1))) (dss_one (ds_set (i := 2) sc_count_below.nd rfl (Or.inl rfl) (de_bin dop_add (de_pv (pv 4)) de_int))) (dss_one (ds_set (i := 3) sc_count_below.nd rfl (Or.inl rfl) (de_pv (pv 4))))))))
      (dss_one (ds_ret (de_pv (pv 2)))))))) rd_count_below
theorem ok_check_width {f : Addr} {fd : FuncData} (F : FunD K "check_width" "check_width" (defArgs st_check_width) (defBody st_check_width) (defScope st_check_width) [] [] f fd) (T : Txt K mg) (c_is_integer : DCal P w K mg base 1 "is_integer" sp_is_integer []) : FnOk P w K mg base (EX P w) 2 f fd ["width"] (liftSp K sp_check_width) :=
  dfn_ok (N := N_check_width) (k := 1) F sc_check_width spk1_len (fun cdv A outer s H E g hr =>
      (dss_one (ds_if (dw_pt (dw_or (dt_not (dt_truth (de_call c_is_integer hr (by decide) rfl pass_no (da_cons (de_pv (pv 0)) da_nil)))) (dw_or1 (dt_cmp dop_lt (de_pv (pv 0)) de_int)))) (dss_one ds_never) dss_nil))) rd_check_width
theorem ok_is_row {f : Addr} {fd : FuncData} (F : FunD K "is_row" "is_row" (defArgs st_is_row) (defBody st_is_row) (defScope st_is_row) [] [] f fd) (T : Txt K mg) (c_is_integer : DCal P w K mg base 1 "is_integer" sp_is_integer []) : FnOk P w K mg base (EX P w) 2 f fd ["value", "width"] (liftSp K sp_is_row) :=
  dfn_ok (N := N_is_row) (k := 1) F sc_is_row spk2_len (fun cdv A outer s H E g hr =>
      (dss_cons (ds_if (dw_pt (dw_or (dt_not (dt_truth (de_callB (dcall_isi .tu) rfl T.n_isinstance (by decide +kernel) (da_cons (de_pv (pv 0)) (da_cons (de_ty rfl T.n_tuple boot_tuple) da_nil))))) (dw_or1 (dt_cmp (dop_ne hr.units) (de_callB dcall_len rfl T.n_len boot_len (da_cons (de_pv (pv 0)) da_nil)) (de_pv (pv 1)))))) (dss_one (ds_ret de_bl)) dss_nil)
      (dss_one (ds_ret (de_callB (dcall_all rfl) rfl T.n_all (by decide +kernel) (da_cons (de_lc (tg := .nm 2) (own := [("number", 2)]) rfl sc_is_row.nd (di_seq (de_pv (pv 0))) (blkOk_by (own := [("number", 2)]) (N := N_is_row) (sc := defScope st_is_row) (by decide +kernel)) (by decide) (fun _ _ _ _ _ => pg_name (i := 2) sc_is_row.nd rfl (Or.inl rfl)) (fun _ _ _ _ _ _ => dts_nil) (fun _ _ _ _ _ _ => (de_call c_is_integer hr (by decide) rfl pass_no (da_cons (de_pv (pv 2)) da_nil)))) da_nil)))))) rd_is_row
theorem ok_check_rows {f : Addr} {fd : FuncData} (F : FunD K "check_rows" "check_rows" (defArgs st_check_rows) (defBody st_check_rows) (defScope st_check_rows) [] [] f fd) (T : Txt K mg) (c_is_row : DCal P w K mg base 2 "is_row" sp_is_row []) : FnOk P w K mg base (EX P w) 3 f fd ["width", "rows"] (liftSp K sp_check_rows) :=
  dfn_ok (N := N_check_rows) (k := 2) F sc_check_rows spk2_len (fun cdv A outer s H E g hr =>
      (dss_cons (ds_set (i := 2) sc_check_rows.nd rfl (Or.inl rfl) (de_lstC da_nil))
      (dss_cons (ds_for PassesOwn.never rfl (di_enum rfl T.n_enumerate (da_cons (de_pv (pv 1)) da_nil)) (dg_tup rfl (dgs_cons (dg_name (pg_name (i := 3) sc_check_rows.nd rfl (Or.inl rfl))) (dgs_cons (dg_name (pg_name (i := 4) sc_check_rows.nd rfl (Or.inl rfl))) dgs_nil))) (dss_cons (ds_if (dt_not (dt_truth (de_call c_is_row hr (by decide) rfl pass_no (da_cons (de_pv (pv 4)) (da_cons (de_pv (pv 0)) da_nil))))) (dss_one ds_never) dss_nil)
      (dss_cut (ds_if (dw_pt (dw_and (dt_cmp dop_gt (de_pv (pv 3)) de_int) (dw_and1 (dt_cmp dop_le (de_ix (de_pv (pv 4)) de_int (fun _ _ => rfl)) (de_ix (de_ix (de_pv (pv 2)) (de_un dun_neg de_int) (fun _ _ => rfl)) de_int (fun _ _ => rfl)))))) (dss_one ds_never) dss_nil)
      (dss_one (ds_expr (de_append (de_pv (pv 2)) (da_cons (de_pv (pv 4)) da_nil) (fun ho ha => pe_bm PySem.F.plainAttrs_list PySem.F.slot_list_append PySem.F.type_list_append mt_append ho ha)))))))
      (dss_one (ds_ret (de_pv (pv 2))))))) rd_check_rows
theorem ok_is_entry {f : Addr} {fd : FuncData} (F : FunD K "is_entry" "is_entry" (defArgs st_is_entry) (defBody st_is_entry) (defScope st_is_entry) [] [] f fd) (T : Txt K mg) (c_is_integer : DCal P w K mg base 1 "is_integer" sp_is_integer []) (c_is_row : DCal P w K mg base 2 "is_row" sp_is_row []) : FnOk P w K mg base (EX P w) 3 f fd ["value", "width"] (liftSp K sp_is_entry) :=
  dfn_ok (N := N_is_entry) (k := 2) F sc_is_entry spk2_len (fun cdv A outer s H E g hr =>
      (dss_cons (ds_if (dw_pt (dw_or (dt_not (dt_truth (de_callB (dcall_isi .tu) rfl T.n_isinstance (by decide +kernel) (da_cons (de_pv (pv 0)) (da_cons (de_ty rfl T.n_tuple boot_tuple) da_nil))))) (dw_or1 (dt_cmp (dop_ne hr.units) (de_callB dcall_len rfl T.n_len boot_len (da_cons (de_pv (pv 0)) da_nil)) de_int)))) (dss_one (ds_ret de_bl)) dss_nil)
      (dss_cons (ds_asg (de_pv (pv 0)) (dg_tup rfl (dgs_cons (dg_name (pg_name (i := 2) sc_is_entry.nd rfl (Or.inl rfl))) (dgs_cons (dg_name (pg_name (i := 3) sc_is_entry.nd rfl (Or.inl rfl))) (dgs_cons (dg_name (pg_name (i := 4) sc_is_entry.nd rfl (Or.inl rfl))) dgs_nil)))))
      (dss_cons (ds_if (dw_pt (dw_or (dt_not (dt_truth (de_call c_is_integer hr (by decide) rfl pass_no (da_cons (de_pv (pv 2)) da_nil)))) (dw_or1 (dt_cmp dop_lt (de_pv (pv 2)) de_int)))) (dss_one (ds_ret de_bl)) dss_nil)
      (dss_cons (ds_for PassesOwn.never rfl (di_seq (de_tup (da_cons (de_pv (pv 3)) (da_cons (de_pv (pv 4)) da_nil)))) (dg_name (pg_name (i := 5) sc_is_entry.nd rfl (Or.inl rfl))) (dss_one (ds_if (dw_pt (dw_and (dt_cmp dop_isnot (de_pv (pv 5)) de_non) (dw_and1 (dt_not (dt_truth (de_call c_is_row hr (by decide) rfl pass_no (da_cons (de_pv (pv 5)) (da_cons (de_pv (pv 1)) da_nil)))))))) (dss_one (ds_ret de_bl)) dss_nil)))
      (dss_cons (ds_if (dw_pt (dw_or (dt_cmp dop_is (de_pv (pv 3)) de_non) (dw_or1 (dt_cmp dop_is (de_pv (pv 4)) de_non)))) (dss_one (ds_ret (de_or (de_cmp dop_isnot (de_pv (pv 3)) de_non) (de_one (de_cmp dop_isnot (de_pv (pv 4)) de_non))))) dss_nil)
      (dss_one (ds_ret (de_and (de_cmp (dop_eq hr.units) (de_ix (de_pv (pv 3)) de_int (fun _ _ => rfl)) (de_ix (de_pv (pv 4)) de_int (fun _ _ => rfl))) (de_one (de_cmp (dop_ne hr.units) (de_pv (pv 3)) (de_pv (pv 4))))))))))))) rd_is_entry
theorem ok_entry_key {f : Addr} {fd : FuncData} (F : FunD K "entry_key" "entry_key" (defArgs st_entry_key) (defBody st_entry_key) (defScope st_entry_key) [] [] f fd) (T : Txt K mg)  : FnOk P w K mg base (EX P w) 1 f fd ["entry"] (liftSp K sp_entry_key) :=
  dfn_ok (N := N_entry_key) (k := 0) F sc_entry_key spk1_len (fun cdv A outer s H E g hr =>
      (dss_cons (ds_asg (de_pv (pv 0)) (dg_tup rfl (dgs_cons (dg_name (pg_name (i := 1) sc_entry_key.nd rfl (Or.inl rfl))) (dgs_cons (dg_name (pg_name (i := 2) sc_entry_key.nd rfl (Or.inl rfl))) (dgs_cons (dg_name (pg_name (i := 3) sc_entry_key.nd rfl (Or.inl rfl))) dgs_nil)))))
      (dss_cons (ds_if (dt_cmp dop_is (de_pv (pv 2)) de_non) (dss_one (ds_ret (de_ix (de_pv (pv 3)) de_int (fun _ _ => rfl)))) dss_nil)
      (dss_one (ds_ret (de_ix (de_pv (pv 2)) de_int (fun _ _ => rfl))))))) rd_entry_key
theorem ok_entry_growth {f : Addr} {fd : FuncData} (F : FunD K "entry_growth" "entry_growth" (defArgs st_entry_growth) (defBody st_entry_growth) (defScope st_entry_growth) [] [] f fd) (T : Txt K mg)  : FnOk P w K mg base (EX P w) 1 f fd ["entry"] (liftSp K sp_entry_growth) :=
  dfn_ok (N := N_entry_growth) (k := 0) F sc_entry_growth spk1_len (fun cdv A outer s H E g hr =>
      (dss_cons (ds_asg (de_pv (pv 0)) (dg_tup rfl (dgs_cons (dg_name (pg_name (i := 1) sc_entry_growth.nd rfl (Or.inl rfl))) (dgs_cons (dg_name (pg_name (i := 2) sc_entry_growth.nd rfl (Or.inl rfl))) (dgs_cons (dg_name (pg_name (i := 3) sc_entry_growth.nd rfl (Or.inl rfl))) dgs_nil)))))
      (dss_one (ds_ret (de_bin dop_sub (de_callTy dcall_int rfl T.n_int boot_int (da_cons (de_cmp dop_isnot (de_pv (pv 3)) de_non) da_nil)) (de_callTy dcall_int rfl T.n_int boot_int (da_cons (de_cmp dop_isnot (de_pv (pv 2)) de_non) da_nil))))))) rd_entry_growth
theorem ok_gap_size {f : Addr} {fd : FuncData} (F : FunD K "gap_size" "gap_size" (defArgs st_gap_size) (defBody st_gap_size) (defScope st_gap_size) [] [] f fd) (T : Txt K mg)  : FnOk P w K mg base (EX P w) 1 f fd ["entry", "following"] (liftSp K sp_gap_size) :=
  dfn_ok (N := N_gap_size) (k := 0) F sc_gap_size spk2_len (fun cdv A outer s H E g hr =>
      (dss_one (ds_ret (de_bin dop_sub (de_bin dop_sub (de_ix (de_pv (pv 1)) de_int (fun _ _ => rfl)) (de_ix (de_pv (pv 0)) de_int (fun _ _ => rfl))) (de_callTy dcall_int rfl T.n_int boot_int (da_cons (de_cmp dop_isnot (de_ix (de_pv (pv 0)) de_int (fun _ _ => rfl)) de_non) da_nil)))))) rd_gap_size
theorem ok_in_order {f : Addr} {fd : FuncData} (F : FunD K "in_order" "in_order" (defArgs st_in_order) (defBody st_in_order) (defScope st_in_order) [] [] f fd) (T : Txt K mg) (c_gap_size : DCal P w K mg base 1 "gap_size" sp_gap_size []) (c_entry_key : DCal P w K mg base 1 "entry_key" sp_entry_key []) : FnOk P w K mg base (EX P w) 2 f fd ["entry", "following"] (liftSp K sp_in_order) :=
  dfn_ok (N := N_in_order) (k := 1) F sc_in_order spk2_len (fun cdv A outer s H E g hr =>
      (dss_one (ds_ret (de_chain dop_le dop_lt de_int (de_call c_gap_size hr (by decide) rfl pass_no (da_cons (de_pv (pv 0)) (da_cons (de_pv (pv 1)) da_nil))) (de_bin dop_sub (de_call c_entry_key hr (by decide) rfl pass_no (da_cons (de_pv (pv 1)) da_nil)) (de_call c_entry_key hr (by decide) rfl pass_no (da_cons (de_pv (pv 0)) da_nil))))))) rd_in_order
theorem ok_check_entries {f : Addr} {fd : FuncData} (F : FunD K "check_entries" "check_entries" (defArgs st_check_entries) (defBody st_check_entries) (defScope st_check_entries) [] [] f fd) (T : Txt K mg) (c_is_entry : DCal P w K mg base 3 "is_entry" sp_is_entry []) (c_in_order : DCal P w K mg base 2 "in_order" sp_in_order []) : FnOk P w K mg base (EX P w) 4 f fd ["width", "entries"] (liftSp K sp_check_entries) :=
  dfn_ok (N := N_check_entries) (k := 3) F sc_check_entries spk2_len (fun cdv A outer s H E g hr =>
      (dss_cons (ds_set (i := 2) sc_check_entries.nd rfl (Or.inl rfl) (de_lstC da_nil))
      (dss_cons (ds_for PassesOwn.never rfl (di_enum rfl T.n_enumerate (da_cons (de_pv (pv 1)) da_nil)) (dg_tup rfl (dgs_cons (dg_name (pg_name (i := 3) sc_check_entries.nd rfl (Or.inl rfl))) (dgs_cons (dg_name (pg_name (i := 4) sc_check_entries.nd rfl (Or.inl rfl))) dgs_nil))) (dss_cons (ds_if (dt_not (dt_truth (de_call c_is_entry hr (by decide) rfl pass_no (da_cons (de_pv (pv 4)) (da_cons (de_pv (pv 0)) da_nil))))) (dss_one ds_never) dss_nil)
      (dss_cut (ds_if (dw_pt (dw_and (dt_cmp dop_gt (de_pv (pv 3)) de_int) (dw_and1 (dt_not (dt_truth (de_call c_in_order hr (by decide) rfl pass_no (da_cons (de_ix (de_pv (pv 2)) (de_un dun_neg de_int) (fun _ _ => rfl)) (da_cons (de_pv (pv 4)) da_nil)))))))) (dss_one ds_never) dss_nil)
      (dss_one (ds_expr (de_append (de_pv (pv 2)) (da_cons (de_pv (pv 4)) da_nil) (fun ho ha => pe_bm PySem.F.plainAttrs_list PySem.F.slot_list_append PySem.F.type_list_append mt_append ho ha)))))))
      (dss_one (ds_ret (de_pv (pv 2))))))) rd_check_entries
theorem ok_Layer___init {f : Addr} {fd : FuncData} {dvs : List V} (F : FunD K "__init__" "Layer.__init__" (defArgs st_Layer___init) (defBody st_Layer___init) (defScope st_Layer___init) dvs [] f fd) (T : Txt K mg) (c_check_width : DCal P w K mg base 2 "check_width" sp_check_width []) (c_check_entries : DCal P w K mg base 4 "check_entries" sp_check_entries []) (c_entry_key : DCal P w K mg base 1 "entry_key" sp_entry_key []) : FnOk P w K mg base (EX P w) 5 f fd ["self", "width", "entries"] (liftSp K sp_Layer___init) :=
  dfn_ok (N := N_Layer___init) (k := 4) F sc_Layer___init (dinit_len spk2_len) (fun cdv A outer s H E g hr =>
      (dss_cons (ds_expr (de_call c_check_width hr (by decide) rfl pass_no (da_cons (de_pv (pv 1)) da_nil)))
      (dss_cons (ds_setF T.sc_Layer T.sl_Layer_width (de_pv (pv 0)) (de_pv (pv 1)))
      (dss_cons (ds_setF T.sc_Layer T.sl_Layer__entries (de_pv (pv 0)) (de_call c_check_entries hr (by decide) rfl pass_no (da_cons (de_pv (pv 1)) (da_cons (de_pv (pv 2)) da_nil))))
      (dss_one (ds_setF T.sc_Layer T.sl_Layer__key_list (de_pv (pv 0)) (de_lc (tg := .nm 3) (own := [("entry", 3)]) rfl sc_Layer___init.nd (di_seq (de_fld T.sc_Layer T.sl_Layer__entries (de_pv (pv 0)))) (blkOk_by (own := [("entry", 3)]) (N := N_Layer___init) (sc := defScope st_Layer___init) (by decide +kernel)) (by decide) (fun _ _ _ _ _ => pg_name (i := 3) sc_Layer___init.nd rfl (Or.inl rfl)) (fun _ _ _ _ _ _ => dts_nil) (fun _ _ _ _ _ _ => (de_call c_entry_key hr (by decide) rfl pass_no (da_cons (de_pv (pv 3)) da_nil)))))))))) rd_Layer___init
theorem ok_Layer___iter {f : Addr} {fd : FuncData} (F : FunD K "__iter__" "Layer.__iter__" (defArgs st_Layer___iter) (defBody st_Layer___iter) (defScope st_Layer___iter) [] [] f fd) (T : Txt K mg)  (hb : Binds K fd ["self"] []) : FnIt P w K mg base 1 f (cA "Layer") 0 :=
  fnIt_of F sc_Layer___iter hb fun cdv A outer s H Q E a dx sl l zs hsl hl hq k => by
    obtain ⟨p, t⟩ := T.sl_Layer__entries
    exact ⟨_, PSs.nox (pss_one (ps_ret (pe_callB ItX.call_iterN rfl T.n_iter (by decide +kernel) (pa_cons (SlX.pe_sl (pv 0)) pa_nil)))), .ref a, rfl, a, _, dx, p, sl, 0, .ref l, rfl, hsl, T.sc_Layer, t, hl, l, zs, rfl, hq, fun it hit hn => k it hit hn⟩
theorem ok_Layer___len {f : Addr} {fd : FuncData} (F : FunD K "__len__" "Layer.__len__" (defArgs st_Layer___len) (defBody st_Layer___len) (defScope st_Layer___len) [] [] f fd) (T : Txt K mg)  : FnOk P w K mg base (EX P w) 1 f fd ["self"] (liftSp K sp_Layer___len) :=
  dfn_ok (N := N_Layer___len) (k := 0) F sc_Layer___len spk1_len (fun cdv A outer s H E g hr =>
      (dss_one (ds_ret (de_callB dcall_len rfl T.n_len boot_len (da_cons (de_fld T.sc_Layer T.sl_Layer__entries (de_pv (pv 0))) da_nil))))) rd_Layer___len
theorem ok_Layer_growth {f : Addr} {fd : FuncData} (F : FunD K "growth" "Layer.growth" (defArgs st_Layer_growth) (defBody st_Layer_growth) (defScope st_Layer_growth) [] [] f fd) (T : Txt K mg) (c_entry_growth : DCal P w K mg base 1 "entry_growth" sp_entry_growth []) : FnOk P w K mg base (EX P w) 2 f fd ["self"] (liftSp K sp_Layer_growth) :=
  dfn_ok (N := N_Layer_growth) (k := 1) F sc_Layer_growth spk1_len (fun cdv A outer s H E g hr =>
      (dss_one (ds_ret (de_callB (dcall_sum rfl) rfl T.n_sum (by decide +kernel) (da_cons (de_lc (tg := .nm 1) (own := [("entry", 1)]) rfl sc_Layer_growth.nd (di_seq (de_fld T.sc_Layer T.sl_Layer__entries (de_pv (pv 0)))) (blkOk_by (own := [("entry", 1)]) (N := N_Layer_growth) (sc := defScope st_Layer_growth) (by decide +kernel)) (by decide) (fun _ _ _ _ _ => pg_name (i := 1) sc_Layer_growth.nd rfl (Or.inl rfl)) (fun _ _ _ _ _ _ => dts_nil) (fun _ _ _ _ _ _ => (de_call c_entry_growth hr (by decide) rfl pass_no (da_cons (de_pv (pv 1)) da_nil)))) da_nil))))) rd_Layer_growth
theorem ok_writer_at {f : Addr} {fd : FuncData} (F : FunD K "writer_at" "writer_at" (defArgs st_writer_at) (defBody st_writer_at) (defScope st_writer_at) [] [] f fd) (T : Txt K mg) (w_Layer : ItW P w K mg base 1 (cA "Layer") 0) (c_entry_growth : DCal P w K mg base 1 "entry_growth" sp_entry_growth []) : FnOk P w K mg base (EX P w) 4 f fd ["layer", "place"] (liftSp K sp_writer_at) :=
  dfn_ok (N := N_writer_at) (k := 3) F sc_writer_at spk2_len (fun cdv A outer s H E g hr =>
      (dss_cons (ds_set (i := 2) sc_writer_at.nd rfl (Or.inl rfl) de_int)
      (dss_cons (ds_for PassesOwn.never rfl (di_enumO rfl T.n_enumerate w_Layer hr (by decide) (de_pv (pv 0))) (dg_tup rfl (dgs_cons (dg_name (pg_name (i := 3) sc_writer_at.nd rfl (Or.inl rfl))) (dgs_cons (dg_name (pg_name (i := 4) sc_writer_at.nd rfl (Or.inl rfl))) dgs_nil))) (dss_cut (ds_if (dw_pt (dw_and (dt_cmp dop_isnot (de_ix (de_pv (pv 4)) de_int (fun _ _ => rfl)) de_non) (dw_and1 (dt_cmp (dop_eq hr.units) (de_bin dop_add (de_ix (de_pv (pv 4)) de_int (fun _ _ => rfl)) (de_pv (pv 2))) (de_pv (pv 1)))))) (dss_one (ds_ret (de_pv (pv 3)))) dss_nil)
      (dss_one (ds_set (i := 2) sc_writer_at.nd rfl (Or.inl rfl) (de_bin dop_add (de_pv (pv 2)) (de_call c_entry_growth hr (by decide) rfl pass_no (da_cons (de_pv (pv 4)) da_nil)))))))
      (dss_one (ds_ret de_non))))) rd_writer_at
theorem ok_old_place {f : Addr} {fd : FuncData} (F : FunD K "old_place" "old_place" (defArgs st_old_place) (defBody st_old_place) (defScope st_old_place) [] [] f fd) (T : Txt K mg) (w_Layer : ItW P w K mg base 1 (cA "Layer") 0) (c_entry_growth : DCal P w K mg base 1 "entry_growth" sp_entry_growth []) : FnOk P w K mg base (EX P w) 4 f fd ["layer", "place"] (liftSp K sp_old_place) :=
  dfn_ok (N := N_old_place) (k := 3) F sc_old_place spk2_len (fun cdv A outer s H E g hr =>
      (dss_cons (ds_set (i := 2) sc_old_place.nd rfl (Or.inl rfl) de_int)
      (dss_cons (ds_for PassesOwn.never rfl (di_own w_Layer hr (by decide) (de_pv (pv 0))) (dg_name (pg_name (i := 3) sc_old_place.nd rfl (Or.inl rfl))) (dss_cons (ds_if (dt_cmp dop_gt (de_bin dop_add (de_ix (de_pv (pv 3)) de_int (fun _ _ => rfl)) (de_pv (pv 2))) (de_pv (pv 1))) (dss_one ds_break) dss_nil)
      (dss_cut (ds_if (dw_pt (dw_and (dt_cmp dop_isnot (de_ix (de_pv (pv 3)) de_int (fun _ _ => rfl)) de_non) (dw_and1 (dt_cmp (dop_eq hr.units) (de_bin dop_add (de_ix (de_pv (pv 3)) de_int (fun _ _ => rfl)) (de_pv (pv 2))) (de_pv (pv 1)))))) (dss_one (ds_ret de_non)) dss_nil)
      (dss_one (ds_set (i := 2) sc_old_place.nd rfl (Or.inl rfl) (de_bin dop_add (de_pv (pv 2)) (de_call c_entry_growth hr (by decide) rfl pass_no (da_cons (de_pv (pv 3)) da_nil))))))))
      (dss_one (ds_ret (de_bin dop_sub (de_pv (pv 1)) (de_pv (pv 2)))))))) rd_old_place
theorem ok_end_place {f : Addr} {fd : FuncData} (F : FunD K "end_place" "end_place" (defArgs st_end_place) (defBody st_end_place) (defScope st_end_place) [] [] f fd) (T : Txt K mg)  : FnOk P w K mg base (EX P w) 1 f fd ["size", "stop"] (liftSp K sp_end_place) :=
  dfn_ok (N := N_end_place) (k := 0) F sc_end_place spk2_len (fun cdv A outer s H E g hr =>
      (dss_cons (ds_if (dw_pt (dw_or (dt_cmp dop_is (de_pv (pv 1)) de_non) (dw_or1 (dt_cmp dop_gt (de_pv (pv 1)) (de_pv (pv 0)))))) (dss_one (ds_ret (de_pv (pv 0)))) dss_nil)
      (dss_one (ds_ret (de_pv (pv 1)))))) rd_end_place
theorem ok_Table___init {f : Addr} {fd : FuncData} {dvs : List V} (F : FunD K "__init__" "Table.__init__" (defArgs st_Table___init) (defBody st_Table___init) (defScope st_Table___init) dvs [] f fd) (T : Txt K mg) (c_check_width : DCal P w K mg base 2 "check_width" sp_check_width []) (c_check_rows : DCal P w K mg base 3 "check_rows" sp_check_rows []) : FnOk P w K mg base (EX P w) 4 f fd ["self", "width", "rows"] (liftSp K sp_Table___init) :=
  dfn_ok (N := N_Table___init) (k := 3) F sc_Table___init (dinit_len spk2_len) (fun cdv A outer s H E g hr =>
      (dss_cons (ds_expr (de_call c_check_width hr (by decide) rfl pass_no (da_cons (de_pv (pv 1)) da_nil)))
      (dss_cons (ds_setF T.sc_Table T.sl_Table_width (de_pv (pv 0)) (de_pv (pv 1)))
      (dss_cons (ds_setF T.sc_Table T.sl_Table__rows (de_pv (pv 0)) (de_call c_check_rows hr (by decide) rfl pass_no (da_cons (de_pv (pv 1)) (da_cons (de_pv (pv 2)) da_nil))))
      (dss_one (ds_setF T.sc_Table T.sl_Table__key_list (de_pv (pv 0)) (de_lc (tg := .nm 3) (own := [("row", 3)]) rfl sc_Table___init.nd (di_seq (de_fld T.sc_Table T.sl_Table__rows (de_pv (pv 0)))) (blkOk_by (own := [("row", 3)]) (N := N_Table___init) (sc := defScope st_Table___init) (by decide +kernel)) (by decide) (fun _ _ _ _ _ => pg_name (i := 3) sc_Table___init.nd rfl (Or.inl rfl)) (fun _ _ _ _ _ _ => dts_nil) (fun _ _ _ _ _ _ => (de_ix (de_pv (pv 3)) de_int (fun _ _ => rfl)))))))))) rd_Table___init
theorem ok_Table_rank {f : Addr} {fd : FuncData} (F : FunD K "rank" "Table.rank" (defArgs st_Table_rank) (defBody st_Table_rank) (defScope st_Table_rank) [] [] f fd) (T : Txt K mg) (c_count_below : DCal P w K mg base 1 "count_below" sp_count_below []) : FnOk P w K mg base (EX P w) 2 f fd ["self", "key"] (liftSp K sp_Table_rank) :=
  dfn_ok (N := N_Table_rank) (k := 1) F sc_Table_rank spk2_len (fun cdv A outer s H E g hr =>
      (dss_one (ds_ret (de_call c_count_below hr (by decide) rfl pass_no (da_cons (de_fld T.sc_Table T.sl_Table__key_list (de_pv (pv 0))) (da_cons (de_pv (pv 1)) da_nil)))))) rd_Table_rank
theorem ok_Table_find {f : Addr} {fd : FuncData} (F : FunD K "find" "Table.find" (defArgs st_Table_find) (defBody st_Table_find) (defScope st_Table_find) [] [] f fd) (T : Txt K mg) (m_Table_rank : DMet P w K mg base 2 (cA "Table") "rank" sp_Table_rank) : FnOk P w K mg base (EX P w) 3 f fd ["self", "key"] (liftSp K sp_Table_find) :=
  dfn_ok (N := N_Table_find) (k := 2) F sc_Table_find spk2_len (fun cdv A outer s H E g hr =>
      (dss_cons (ds_set (i := 2) sc_Table_find.nd rfl (Or.inl rfl) (de_meth T.sc_Table m_Table_rank hr (by decide) pass_no (de_pv (pv 0)) (da_cons (de_pv (pv 1)) da_nil)))
      (dss_cut (ds_if (dw_pt (dw_and (dt_cmp dop_lt (de_pv (pv 2)) (de_callB dcall_len rfl T.n_len boot_len (da_cons (de_fld T.sc_Table T.sl_Table__rows (de_pv (pv 0))) da_nil))) (dw_and1 (dt_cmp (dop_eq hr.units) (de_ix (de_fld T.sc_Table T.sl_Table__key_list (de_pv (pv 0))) (de_pv (pv 2)) (fun _ _ => rfl)) (de_pv (pv 1)))))) (dss_one (ds_ret (de_ix (de_fld T.sc_Table T.sl_Table__rows (de_pv (pv 0))) (de_pv (pv 2)) (fun _ _ => rfl)))) dss_nil)
      (dss_one (ds_ret de_non))))) rd_Table_find
theorem ok_Table_misfit {f : Addr} {fd : FuncData} (F : FunD K "misfit" "Table.misfit" (defArgs st_Table_misfit) (defBody st_Table_misfit) (defScope st_Table_misfit) [] [] f fd) (T : Txt K mg) (w_Layer : ItW P w K mg base 1 (cA "Layer") 0) (c_entry_key : DCal P w K mg base 1 "entry_key" sp_entry_key []) (m_Table_rank : DMet P w K mg base 2 (cA "Table") "rank" sp_Table_rank) (m_Table_find : DMet P w K mg base 3 (cA "Table") "find" sp_Table_find) : FnOk P w K mg base (EX P w) 4 f fd ["self", "layer"] (liftSp K sp_Table_misfit) :=
  dfn_ok (N := N_Table_misfit) (k := 3) F sc_Table_misfit spk2_len (fun cdv A outer s H E g hr =>
      (dss_cons (ds_for PassesOwn.never rfl (di_enumO rfl T.n_enumerate w_Layer hr (by decide) (de_pv (pv 1))) (dg_tup rfl (dgs_cons (dg_name (pg_name (i := 2) sc_Table_misfit.nd rfl (Or.inl rfl))) (dgs_cons (dg_name (pg_name (i := 3) sc_Table_misfit.nd rfl (Or.inl rfl))) dgs_nil))) (dss_cons (ds_set (i := 4) sc_Table_misfit.nd rfl (Or.inl rfl) (de_call c_entry_key hr (by decide) rfl pass_no (da_cons (de_pv (pv 3)) da_nil)))
      (dss_one (ds_if (dw_pt (dw_or (dt_cmp (dop_ne hr.units) (de_ix (de_pv (pv 3)) de_int (fun _ _ => rfl)) (de_meth T.sc_Table m_Table_rank hr (by decide) pass_no (de_pv (pv 0)) (da_cons (de_pv (pv 4)) da_nil))) (dw_or1 (dt_cmp (dop_ne hr.units) (de_ix (de_pv (pv 3)) de_int (fun _ _ => rfl)) (de_meth T.sc_Table m_Table_find hr (by decide) pass_no (de_pv (pv 0)) (da_cons (de_pv (pv 4)) da_nil)))))) (dss_one (ds_ret (de_pv (pv 2)))) dss_nil))))
      (dss_one (ds_ret de_non)))) rd_Table_misfit
theorem ok_laid {f : Addr} {fd : FuncData} (F : FunD K "laid" "laid" (defArgs st_laid) (defBody st_laid) (defScope st_laid) [] [] f fd) (T : Txt K mg) (w_Layer : ItW P w K mg base 1 (cA "Layer") 0) : FnOk P w K mg base (EX P w) 4 f fd ["rows", "layer"] (liftSp K sp_laid) :=
  dfn_ok (N := N_laid) (k := 3) F sc_laid spk2_len (fun cdv A outer s H E g hr =>
      (dss_cons (ds_set (i := 2) sc_laid.nd rfl (Or.inl rfl) (de_lstC da_nil))
      (dss_cons (ds_set (i := 3) sc_laid.nd rfl (Or.inl rfl) de_int)
      (dss_cons (ds_for PassesOwn.never rfl (di_own w_Layer hr (by decide) (de_pv (pv 1))) (dg_tup rfl (dgs_cons (dg_name (pg_name (i := 4) sc_laid.nd rfl (Or.inl rfl))) (dgs_cons (dg_name (pg_name (i := 5) sc_laid.nd rfl (Or.inl rfl))) (dgs_cons (dg_name (pg_name (i := 6) sc_laid.nd rfl (Or.inl rfl))) dgs_nil)))) (dss_cons (ds_expr (de_lm (de_pv (pv 2)) (da_cons (de_slice dsl_ok (de_pv (pv 0)) (do_some (de_pv (pv 3))) (do_some (de_pv (pv 4)))) da_nil) (fun ho ha => pe_bm PySem.F.plainAttrs_list PySem.F.slot_list_extend PySem.F.type_list_extend dmt_extend ho ha)))
      (dss_cons (ds_set (i := 3) sc_laid.nd rfl (Or.inl rfl) (de_bin dop_add (de_pv (pv 4)) (de_callTy dcall_int rfl T.n_int boot_int (da_cons (de_cmp dop_isnot (de_pv (pv 5)) de_non) da_nil))))
      (dss_one (ds_if (dt_cmp dop_isnot (de_pv (pv 6)) de_non) (dss_one (ds_expr (de_append (de_pv (pv 2)) (da_cons (de_pv (pv 6)) da_nil) (fun ho ha => pe_bm PySem.F.plainAttrs_list PySem.F.slot_list_append PySem.F.type_list_append mt_append ho ha)))) dss_nil)))))
      (dss_cons (ds_expr (de_lm (de_pv (pv 2)) (da_cons (de_slice dsl_ok (de_pv (pv 0)) (do_some (de_pv (pv 3))) do_none) da_nil) (fun ho ha => pe_bm PySem.F.plainAttrs_list PySem.F.slot_list_extend PySem.F.type_list_extend dmt_extend ho ha)))
      (dss_one (ds_ret (de_pv (pv 2))))))))) rd_laid
theorem ok_Table___add {f : Addr} {fd : FuncData} (F : FunD K "__add__" "Table.__add__" (defArgs st_Table___add) (defBody st_Table___add) (defScope st_Table___add) [] [] f fd) (T : Txt K mg) (m_Table_misfit : DMet P w K mg base 4 (cA "Table") "misfit" sp_Table_misfit) (c_laid : DCal P w K mg base 4 "laid" sp_laid []) (n_Table : DNew P w K mg base 4 "Table" "Table" sp_Table_new) : FnOk P w K mg base (EX P w) 6 f fd ["self", "layer"] (liftSp K sp_Table___add) :=
  dfn_ok (N := N_Table___add) (k := 5) F sc_Table___add spk2_len (fun cdv A outer s H E g hr =>
      (dss_cons (ds_if (dt_cmp (dop_ne hr.units) (de_fld T.sc_Table T.sl_Table_width (de_pv (pv 0))) (de_fld T.sc_Layer T.sl_Layer_width (de_pv (pv 1)))) (dss_one ds_never) dss_nil)
      (dss_cons (ds_set (i := 2) sc_Table___add.nd rfl (Or.inl rfl) (de_meth T.sc_Table m_Table_misfit hr (by decide) pass_no (de_pv (pv 0)) (da_cons (de_pv (pv 1)) da_nil)))
      (dss_cons (ds_if (dt_cmp dop_isnot (de_pv (pv 2)) de_non) (dss_one ds_never) dss_nil)
      (dss_one (ds_ret (de_new n_Table hr (by decide) rfl pass_no (da_cons (de_fld T.sc_Table T.sl_Table_width (de_pv (pv 0))) (da_cons (de_call c_laid hr (by decide) rfl pass_no (da_cons (de_fld T.sc_Table T.sl_Table__rows (de_pv (pv 0))) (da_cons (de_pv (pv 1)) da_nil))) da_nil))))))))) rd_Table___add
theorem ok_Stack___init {f : Addr} {fd : FuncData} {dvs : List V} (F : FunD K "__init__" "Stack.__init__" (defArgs st_Stack___init) (defBody st_Stack___init) (defScope st_Stack___init) dvs [] f fd) (T : Txt K mg) (s_Table___add : DSpc P w K mg base 6 (cA "Table") "__add__" sp_Table___add) : FnOk P w K mg base (EX P w) 7 f fd ["self", "base", "layers"] (liftSp K sp_Stack___init) :=
  dfn_ok (N := N_Stack___init) (k := 6) F sc_Stack___init (dinit_len spk2_len) (fun cdv A outer s H E g hr =>
      (dss_cons (ds_set (i := 3) sc_Stack___init.nd rfl (Or.inl rfl) (de_pv (pv 1)))
      (dss_cons (ds_for PassesOwn.never rfl (di_seq (de_pv (pv 2))) (dg_name (pg_name (i := 4) sc_Stack___init.nd rfl (Or.inl rfl))) (dss_one (ds_set (i := 3) sc_Stack___init.nd rfl (Or.inl rfl) (de_bin (dop_binO2 T.sf_Table T.sf_Layer T.two_add_Table_Layer s_Table___add hr (by decide)) (de_pv (pv 3)) (de_pv (pv 4))))))
      (dss_cons (ds_setF T.sc_Stack T.sl_Stack_base (de_pv (pv 0)) (de_pv (pv 1)))
      (dss_cons (ds_setF T.sc_Stack T.sl_Stack_width (de_pv (pv 0)) (de_fld T.sc_Table T.sl_Table_width (de_pv (pv 1))))
      (dss_one (ds_setF T.sc_Stack T.sl_Stack__layers (de_pv (pv 0)) (de_callTy dcall_list rfl T.n_list boot_list (da_cons (de_pv (pv 2)) da_nil))))))))) rd_Stack___init
theorem ok_Table___len {f : Addr} {fd : FuncData} (F : FunD K "__len__" "Table.__len__" (defArgs st_Table___len) (defBody st_Table___len) (defScope st_Table___len) [] [] f fd) (T : Txt K mg)  : FnOk P w K mg base (EX P w) 1 f fd ["self"] (liftSp K sp_Table___len) :=
  dfn_ok (N := N_Table___len) (k := 0) F sc_Table___len spk1_len (fun cdv A outer s H E g hr =>
      (dss_one (ds_ret (de_callB dcall_len rfl T.n_len boot_len (da_cons (de_fld T.sc_Table T.sl_Table__rows (de_pv (pv 0))) da_nil))))) rd_Table___len
theorem ok_Stack_size {f : Addr} {fd : FuncData} (F : FunD K "size" "Stack.size" (defArgs st_Stack_size) (defBody st_Stack_size) (defScope st_Stack_size) [] [] f fd) (T : Txt K mg) (s_Table___len : DSpc P w K mg base 1 (cA "Table") "__len__" sp_Table___len) (p_Layer_growth : DPrp P w K mg base 2 (cA "Layer") "growth" sp_Layer_growth) : FnOk P w K mg base (EX P w) 5 f fd ["self"] (liftSp K sp_Stack_size) :=
  dfn_ok (N := N_Stack_size) (k := 4) F sc_Stack_size spk1_len (fun cdv A outer s H E g hr =>
      (dss_one (ds_ret (de_bin dop_add (de_callB (dcall_lenO s_Table___len hr (by decide)) rfl T.n_len boot_len (da_cons (de_fld T.sc_Stack T.sl_Stack_base (de_pv (pv 0))) da_nil)) (de_callB (dcall_sum rfl) rfl T.n_sum (by decide +kernel) (da_cons (de_lc (tg := .nm 1) (own := [("layer", 1)]) rfl sc_Stack_size.nd (di_seq (de_fld T.sc_Stack T.sl_Stack__layers (de_pv (pv 0)))) (blkOk_by (own := [("layer", 1)]) (N := N_Stack_size) (sc := defScope st_Stack_size) (by decide +kernel)) (by decide) (fun _ _ _ _ _ => pg_name (i := 1) sc_Stack_size.nd rfl (Or.inl rfl)) (fun _ _ _ _ _ _ => dts_nil) (fun _ _ _ _ _ _ => (de_prop T.sc_Layer p_Layer_growth hr (by decide) (de_pv (pv 1))))) da_nil)))))) rd_Stack_size
theorem ok_Stack_trace {f : Addr} {fd : FuncData} (F : FunD K "trace" "Stack.trace" (defArgs st_Stack_trace) (defBody st_Stack_trace) (defScope st_Stack_trace) [] [] f fd) (T : Txt K mg) (p_Stack_size : DPrp P w K mg base 5 (cA "Stack") "size" sp_Stack_size) (c_writer_at : DCal P w K mg base 4 "writer_at" sp_writer_at []) (c_old_place : DCal P w K mg base 4 "old_place" sp_old_place []) (er_NoPlace : PySem.W.ErrK P K (cA "NoPlace") ["place"]) : FnOk P w K mg base (EX P w) 7 f fd ["self", "place"] (liftSp K sp_Stack_trace) :=
  dfn_okX (N := N_Stack_trace) (k := 6) F sc_Stack_trace spk2_len (fun cdv A outer s H E g wd hr tk =>
      (dss_cons (ds_if (dt_not (dt_chain dop_le dop_lt de_int (de_pv (pv 1)) (de_prop T.sc_Stack p_Stack_size hr (by decide) (de_pv (pv 0))))) (dss_one (ds_raise er_NoPlace rfl tk hr (by decide) T.n_super rfl T.g_NoPlace (da_cons (de_pv (pv 1)) da_nil))) dss_nil)
      (dss_cons (ds_set (i := 2) sc_Stack_trace.nd rfl (Or.inl rfl) (de_callB dcall_len rfl T.n_len boot_len (da_cons (de_fld T.sc_Stack T.sl_Stack__layers (de_pv (pv 0))) da_nil)))
      (dss_cons (ds_set (i := 3) sc_Stack_trace.nd rfl (Or.inl rfl) (de_lstC (da_cons (de_tup (da_cons (de_pv (pv 2)) (da_cons (de_pv (pv 1)) da_nil))) da_nil)))
      (dss_cons (ds_while (passes_of rfl) (dw_pt (dw_and (dt_cmp dop_gt (de_pv (pv 2)) de_int) (dw_and1 (dt_cmp dop_is (de_call c_writer_at hr (by decide) rfl pass_no (da_cons (de_ix (de_fld T.sc_Stack T.sl_Stack__layers (de_pv (pv 0))) (de_bin dop_sub (de_pv (pv 2)) de_int) (fun _ _ => rfl)) (da_cons (de_pv (pv 1)) da_nil))) de_non)))) (dss_cons (ds_set (i := 1) sc_Stack_trace.nd rfl (Or.inl rfl) (de_call c_old_place hr (by decide) rfl pass_no (da_cons (de_ix (de_fld T.sc_Stack T.sl_Stack__layers (de_pv (pv 0))) (de_bin dop_sub (de_pv (pv 2)) de_int) (fun _ _ => rfl)) (da_cons (de_pv (pv 1)) da_nil))))
      (dss_cons (ds_set (i := 2) sc_Stack_trace.nd rfl (Or.inl rfl) (de_bin dop_sub (de_pv (pv 2)) de_int))
      (dss_one (ds_expr (de_append (de_pv (pv 3)) (da_cons (de_tup (da_cons (de_pv (pv 2)) (da_cons (de_pv (pv 1)) da_nil))) da_nil) (fun ho ha => pe_bm PySem.F.plainAttrs_list PySem.F.slot_list_append PySem.F.type_list_append mt_append ho ha)))))))
      (dss_one (ds_ret (de_pv (pv 3))))))))) rd_Stack_trace
theorem ok_Stack_source {f : Addr} {fd : FuncData} (F : FunD K "source" "Stack.source" (defArgs st_Stack_source) (defBody st_Stack_source) (defScope st_Stack_source) [] [] f fd) (T : Txt K mg) (m_Stack_trace : DMet P w K mg base 7 (cA "Stack") "trace" sp_Stack_trace) (c_writer_at : DCal P w K mg base 4 "writer_at" sp_writer_at []) : FnOk P w K mg base (EX P w) 8 f fd ["self", "place"] (liftSp K sp_Stack_source) :=
  dfn_okX (N := N_Stack_source) (k := 7) F sc_Stack_source spk2_len (fun cdv A outer s H E g wd hr tk =>
      (dss_cons (ds_asg (de_ix (de_meth T.sc_Stack m_Stack_trace hr (by decide) (pass_of tk) (de_pv (pv 0)) (da_cons (de_pv (pv 1)) da_nil)) (de_un dun_neg de_int) (fun _ _ => rfl)) (dg_tup rfl (dgs_cons (dg_name (pg_name (i := 2) sc_Stack_source.nd rfl (Or.inl rfl))) (dgs_cons (dg_name (pg_name (i := 3) sc_Stack_source.nd rfl (Or.inl rfl))) dgs_nil))))
      (dss_cons (ds_if (dt_cmp (dop_eq hr.units) (de_pv (pv 2)) de_int) (dss_one (ds_ret (de_tup (da_cons de_int (da_cons (de_pv (pv 3)) da_nil))))) dss_nil)
      (dss_one (ds_ret (de_tup (da_cons (de_pv (pv 2)) (da_cons (de_call c_writer_at hr (by decide) rfl pass_no (da_cons (de_ix (de_fld T.sc_Stack T.sl_Stack__layers (de_pv (pv 0))) (de_bin dop_sub (de_pv (pv 2)) de_int) (fun _ _ => rfl)) (da_cons (de_pv (pv 3)) da_nil))) da_nil)))))))) rd_Stack_source
theorem ok_Table___getitem {f : Addr} {fd : FuncData} (F : FunD K "__getitem__" "Table.__getitem__" (defArgs st_Table___getitem) (defBody st_Table___getitem) (defScope st_Table___getitem) [] [] f fd) (T : Txt K mg)  : FnOk P w K mg base (EX P w) 1 f fd ["self", "at"] (liftSp K sp_Table___getitem) :=
  dfn_ok (N := N_Table___getitem) (k := 0) F sc_Table___getitem spk2_len (fun cdv A outer s H E g hr =>
      (dss_cons (ds_if (dt_not (dt_chain dop_le dop_lt de_int (de_pv (pv 1)) (de_callB dcall_len rfl T.n_len boot_len (da_cons (de_fld T.sc_Table T.sl_Table__rows (de_pv (pv 0))) da_nil)))) (dss_one ds_never) dss_nil)
      (dss_one (ds_ret (de_ix (de_fld T.sc_Table T.sl_Table__rows (de_pv (pv 0))) (de_pv (pv 1)) (fun _ _ => rfl)))))) rd_Table___getitem
theorem ok_Stack_row_at {f : Addr} {fd : FuncData} (F : FunD K "row_at" "Stack.row_at" (defArgs st_Stack_row_at) (defBody st_Stack_row_at) (defScope st_Stack_row_at) [] [] f fd) (T : Txt K mg) (m_Stack_source : DMet P w K mg base 8 (cA "Stack") "source" sp_Stack_source) (gi_Table : DGi P w K mg base 1 (cA "Table") sp_Table___getitem) (s_Layer___len : DSpc P w K mg base 1 (cA "Layer") "__len__" sp_Layer___len) (i_Layer : ItK P w K mg base 1 (cA "Layer") 0) : FnOk P w K mg base (EX P w) 9 f fd ["self", "place"] (liftSp K sp_Stack_row_at) :=
  dfn_okX (N := N_Stack_row_at) (k := 8) F sc_Stack_row_at spk2_len (fun cdv A outer s H E g wd hr tk =>
      (dss_cons (ds_asg (de_meth T.sc_Stack m_Stack_source hr (by decide) (pass_of tk) (de_pv (pv 0)) (da_cons (de_pv (pv 1)) da_nil)) (dg_tup rfl (dgs_cons (dg_name (pg_name (i := 2) sc_Stack_row_at.nd rfl (Or.inl rfl))) (dgs_cons (dg_name (pg_name (i := 3) sc_Stack_row_at.nd rfl (Or.inl rfl))) dgs_nil))))
      (dss_cons (ds_if (dt_cmp (dop_eq hr.units) (de_pv (pv 2)) de_int) (dss_one (ds_ret (de_getO gi_Table hr (by decide) (de_fld T.sc_Stack T.sl_Stack_base (de_pv (pv 0))) (de_pv (pv 3))))) dss_nil)
      (dss_one (ds_ret (de_ix (de_ix (de_callTy (dcall_listO rfl i_Layer s_Layer___len hr (by decide)) rfl T.n_list boot_list (da_cons (de_ix (de_fld T.sc_Stack T.sl_Stack__layers (de_pv (pv 0))) (de_bin dop_sub (de_pv (pv 2)) de_int) (fun _ _ => rfl)) da_nil)) (de_pv (pv 3)) (fun _ _ => rfl)) de_int (fun _ _ => rfl))))))) rd_Stack_row_at
theorem ok_Stack_stretch {f : Addr} {fd : FuncData} {dvs : List V} (F : FunD K "stretch" "Stack.stretch" (defArgs st_Stack_stretch) (defBody st_Stack_stretch) (defScope st_Stack_stretch) dvs [] f fd) (T : Txt K mg) (c_end_place : DCal P w K mg base 1 "end_place" sp_end_place []) (p_Stack_size : DPrp P w K mg base 5 (cA "Stack") "size" sp_Stack_size) (m_Stack_row_at : DMet P w K mg base 9 (cA "Stack") "row_at" sp_Stack_row_at) : GFn P w K mg base 10 f fd ["self", "start", "stop"] (liftSpG K sp_Stack_stretch) :=
  dgfn_ok (N := N_Stack_stretch) (k := 9) F sc_Stack_stretch spg3_len (fun cdv A outer s H E pn g hr =>
      (dgns_one (dgn_for owns_gcx rfl (di_range2 rfl T.n_range (da_cons (de_pv (pv 1)) (da_cons (de_call c_end_place hr (by decide) rfl pass_no (da_cons (de_prop T.sc_Stack p_Stack_size hr (by decide) (de_pv (pv 0))) (da_cons (de_pv (pv 2)) da_nil))) da_nil))) (dg_name (pg_name (i := 3) sc_Stack_stretch.nd rfl (Or.inl rfl))) (dgns_one (dgn_yield (de_meth T.sc_Stack m_Stack_row_at hr (by decide) pass_no (de_pv (pv 0)) (da_cons (de_pv (pv 3)) da_nil))))))) rd_Stack_stretch
theorem okw_Stack_stretch {f : Addr} {fd : FuncData} {dvs : List V} (F : FunD K "stretch" "Stack.stretch" (defArgs st_Stack_stretch) (defBody st_Stack_stretch) (defScope st_Stack_stretch) dvs [] f fd) (T : Txt K mg) (c_end_place : DCal P w K mg base 1 "end_place" sp_end_place []) (p_Stack_size : DPrp P w K mg base 5 (cA "Stack") "size" sp_Stack_size) (m_Stack_row_at : DMet P w K mg base 9 (cA "Stack") "row_at" sp_Stack_row_at) : GWFn P w K mg base 10 f fd ["self", "start", "stop"] spw_Stack_stretch :=
  gwfn_of (N := N_Stack_stretch) (k := 9) F sc_Stack_stretch (fun _ => rfl) spw_Stack_stretch_len (fun cdv A outer s H E pn g hr =>
      ⟨(di_range2 rfl T.n_range (da_cons (de_pv (pv 1)) (da_cons (de_call c_end_place hr (by decide) rfl pass_no (da_cons (de_prop T.sc_Stack p_Stack_size hr (by decide) (de_pv (pv 0))) (da_cons (de_pv (pv 2)) da_nil))) da_nil))), (dg_name (pg_name (i := 3) sc_Stack_stretch.nd rfl (Or.inl rfl))), (de_meth T.sc_Stack m_Stack_row_at hr (by decide) pass_no (de_pv (pv 0)) (da_cons (de_pv (pv 3)) da_nil))⟩) (fun _ _ => rfl) rdw_Stack_stretch
theorem ok_law_take {f : Addr} {fd : FuncData} (F : FunD K "_law_take" "_law_take" (defArgs st_law_take) (defBody st_law_take) (defScope st_law_take) [] [] f fd) (T : Txt K mg)  : FnOk P w K mg base (EX P w) 1 f fd ["_law_script", "_law_box", "_law_limit"] (liftSp K sp_law_take) :=
  dfn_ok (N := N_law_take) (k := 0) F sc_law_take spk3_len (fun cdv A outer s H E g hr =>
      (dss_cut (ds_if (dw_pt (dw_and (dt_cmp (dop_eq hr.units) (de_ix (de_pv (pv 1)) de_int (fun _ _ => rfl)) de_int) (dw_and1 (dt_cmp dop_lt (de_ix (de_pv (pv 1)) de_int (fun _ _ => rfl)) (de_callB dcall_len rfl T.n_len boot_len (da_cons (de_pv (pv 0)) da_nil)))))) (dss_cons (ds_set (i := 3) sc_law_take.nd rfl (Or.inl rfl) (de_callTy dcall_int rfl T.n_int boot_int (da_cons (de_ix (de_pv (pv 0)) (de_ix (de_pv (pv 1)) de_int (fun _ _ => rfl)) (fun _ _ => rfl)) da_nil)))
      (dss_cons (ds_set (i := 4) sc_law_take.nd rfl (Or.inl rfl) (de_callB dcall_abs rfl T.n_abs (by decide +kernel) (da_cons (de_pv (pv 3)) da_nil)))
      (dss_cut (ds_if (dt_cmp dop_lt (de_pv (pv 4)) (de_bin dop_pow de_int de_int)) (dss_cons (ds_set (i := 4) sc_law_take.nd rfl (Or.inl rfl) (de_bin dop_mod (de_callTy dcall_int rfl T.n_int boot_int (da_cons (de_bin dop_mul (de_bin dop_add (de_bin dop_add (de_bin dop_mul de_int (de_pv (pv 4))) (de_callTy dcall_int rfl T.n_int boot_int (da_cons (de_cmp dop_lt (de_pv (pv 3)) de_int) da_nil))) de_int) (de_bin dop_add de_int (de_bin dop_mul de_int (de_ix (de_pv (pv 1)) de_int (fun _ _ => rfl))))) da_nil)) de_int))
      (dss_one (ds_set (i := 4) sc_law_take.nd rfl (Or.inl rfl) (de_bin dop_mod (de_callTy dcall_int rfl T.n_int boot_int (da_cons (de_bin dop_mul (de_pv (pv 4)) (de_pv (pv 4))) da_nil)) de_int)))) dss_nil)
      (dss_cons (ds_asg (de_pv (pv 4)) (dg_sub (de_pv (pv 1)) de_int))
      (dss_one (ds_asg (de_bin dop_add (de_ix (de_pv (pv 1)) de_int (fun _ _ => rfl)) de_int) (dg_sub (de_pv (pv 1)) de_int))))))) dss_nil)
      (dss_cons (ds_set (i := 5) sc_law_take.nd rfl (Or.inl rfl) (de_bin dop_mod (de_callTy dcall_int rfl T.n_int boot_int (da_cons (de_ix (de_pv (pv 1)) de_int (fun _ _ => rfl)) da_nil)) (de_pv (pv 2))))
      (dss_cons (ds_asg (de_bin dop_fdiv (de_ix (de_pv (pv 1)) de_int (fun _ _ => rfl)) (de_pv (pv 2))) (dg_sub (de_pv (pv 1)) de_int))
      (dss_one (ds_ret (de_pv (pv 5)))))))) rd_law_take
theorem ok_law_number {f : Addr} {fd : FuncData} (F : FunD K "_law_number" "_law_number" (defArgs st_law_number) (defBody st_law_number) (defScope st_law_number) [] [] f fd) (T : Txt K mg) (c_law_take : DCal P w K mg base 1 "_law_take" sp_law_take []) : FnOk P w K mg base (EX P w) 2 f fd ["_law_script", "_law_box"] (liftSp K sp_law_number) :=
  dfn_ok (N := N_law_number) (k := 1) F sc_law_number spk2_len (fun cdv A outer s H E g hr =>
      (dss_cons (ds_set (i := 2) sc_law_number.nd rfl (Or.inl rfl) (de_call c_law_take hr (by decide) rfl pass_no (da_cons (de_pv (pv 0)) (da_cons (de_pv (pv 1)) (da_cons de_int da_nil)))))
      (dss_cons (ds_if (dt_cmp dop_lt (de_pv (pv 2)) de_int) (dss_one (ds_ret (de_ix (de_lst (da_cons de_int (da_cons de_int (da_cons de_int (da_cons (de_un dun_neg de_int) da_nil))))) (de_pv (pv 2)) (fun _ _ => rfl)))) dss_nil)
      (dss_cons (ds_set (i := 3) sc_law_number.nd rfl (Or.inl rfl) (de_call c_law_take hr (by decide) rfl pass_no (da_cons (de_pv (pv 0)) (da_cons (de_pv (pv 1)) (da_cons (de_bin dop_pow de_int de_int) da_nil)))))
      (dss_cons (ds_if (dt_cmp (dop_eq hr.units) (de_pv (pv 2)) de_int) (dss_one (ds_ret (de_pv (pv 3)))) dss_nil)
      (dss_one (ds_ret (de_bin dop_sub (de_un dun_neg de_int) (de_pv (pv 3)))))))))) rd_law_number
theorem ok_law_width {f : Addr} {fd : FuncData} (F : FunD K "_law_width" "_law_width" (defArgs st_law_width) (defBody st_law_width) (defScope st_law_width) [] [] f fd) (T : Txt K mg) (c_law_take : DCal P w K mg base 1 "_law_take" sp_law_take []) : FnOk P w K mg base (EX P w) 2 f fd ["_law_script", "_law_box"] (liftSp K sp_law_width) :=
  dfn_ok (N := N_law_width) (k := 1) F sc_law_width spk2_len (fun cdv A outer s H E g hr =>
      (dss_cons (ds_set (i := 2) sc_law_width.nd rfl (Or.inl rfl) (de_ix (de_lst (da_cons de_int (da_cons de_int (da_cons de_int (da_cons de_int (da_cons de_int (da_cons de_int (da_cons de_int (da_cons de_int da_nil))))))))) (de_call c_law_take hr (by decide) rfl pass_no (da_cons (de_pv (pv 0)) (da_cons (de_pv (pv 1)) (da_cons de_int da_nil)))) (fun _ _ => rfl)))
      (dss_cut (ds_if (dt_cmp (dop_eq hr.units) (de_pv (pv 2)) de_int) (dss_one (ds_set (i := 2) sc_law_width.nd rfl (Or.inl rfl) (de_bin dop_add de_int (de_call c_law_take hr (by decide) rfl pass_no (da_cons (de_pv (pv 0)) (da_cons (de_pv (pv 1)) (da_cons de_int da_nil))))))) dss_nil)
      (dss_one (ds_ret (de_pv (pv 2))))))) rd_law_width
theorem ok_law_rows {f : Addr} {fd : FuncData} (F : FunD K "_law_rows" "_law_rows" (defArgs st_law_rows) (defBody st_law_rows) (defScope st_law_rows) [] [] f fd) (T : Txt K mg) (c_law_take : DCal P w K mg base 1 "_law_take" sp_law_take []) (c_law_number : DCal P w K mg base 2 "_law_number" sp_law_number []) : FnOk P w K mg base (EX P w) 3 f fd ["_law_script", "_law_box", "_law_width_here", "_law_most"] (liftSp K sp_law_rows) :=
  dfn_ok (N := N_law_rows) (k := 2) F sc_law_rows spk4_len (fun cdv A outer s H E g hr =>
      (dss_cons (ds_set (i := 4) sc_law_rows.nd rfl (Or.inl rfl) (de_call c_law_take hr (by decide) rfl pass_no (da_cons (de_pv (pv 0)) (da_cons (de_pv (pv 1)) (da_cons (de_bin dop_add (de_pv (pv 3)) de_int) da_nil)))))
      (dss_cut (ds_if (dt_cmp dop_gt (de_pv (pv 4)) (de_pv (pv 3))) (dss_one (ds_set (i := 4) sc_law_rows.nd rfl (Or.inl rfl) (de_ix (de_lst (da_cons de_int (da_cons de_int (da_cons de_int (da_cons (de_pv (pv 3)) (da_cons (de_pv (pv 3)) da_nil)))))) (de_bin dop_sub (de_bin dop_sub (de_pv (pv 4)) (de_pv (pv 3))) de_int) (fun _ _ => rfl)))) dss_nil)
      (dss_cons (ds_set (i := 5) sc_law_rows.nd rfl (Or.inl rfl) (de_call c_law_number hr (by decide) rfl pass_no (da_cons (de_pv (pv 0)) (da_cons (de_pv (pv 1)) da_nil))))
      (dss_cons (ds_set (i := 6) sc_law_rows.nd rfl (Or.inl rfl) (de_lstC da_nil))
      (dss_cons (ds_for PassesOwn.never rfl (di_range1 rfl T.n_range (da_cons (de_pv (pv 4)) da_nil)) (dg_name (pg_name (i := 7) sc_law_rows.nd rfl (Or.inl rfl))) (dss_cons (ds_expr (de_append (de_pv (pv 6)) (da_cons (de_callTy dcall_tuple rfl T.n_tuple boot_tuple (da_cons (de_bin dop_add (de_lst (da_cons (de_pv (pv 5)) da_nil)) (de_lc (tg := .nm 8) (own := [("_law_c", 8)]) rfl sc_law_rows.nd (di_range1 rfl T.n_range (da_cons (de_bin dop_sub (de_pv (pv 2)) de_int) da_nil)) (blkOk_by (own := [("_law_c", 8)]) (N := N_law_rows) (sc := defScope st_law_rows) (by decide +kernel)) (by decide) (fun _ _ _ _ _ => pg_name (i := 8) sc_law_rows.nd rfl (Or.inl rfl)) (fun _ _ _ _ _ _ => dts_nil) (fun _ _ _ _ _ _ => (de_call c_law_number hr (by decide) rfl pass_no (da_cons (de_pv (pv 0)) (da_cons (de_pv (pv 1)) da_nil)))))) da_nil)) da_nil) (fun ho ha => pe_bm PySem.F.plainAttrs_list PySem.F.slot_list_append PySem.F.type_list_append mt_append ho ha)))
      (dss_one (ds_set (i := 5) sc_law_rows.nd rfl (Or.inl rfl) (de_bin dop_add (de_bin dop_add (de_pv (pv 5)) de_int) (de_callB dcall_abs rfl T.n_abs (by decide +kernel) (da_cons (de_call c_law_number hr (by decide) rfl pass_no (da_cons (de_pv (pv 0)) (da_cons (de_pv (pv 1)) da_nil))) da_nil)))))))
      (dss_one (ds_ret (de_pv (pv 6)))))))))) rd_law_rows
theorem ok_law_target {f : Addr} {fd : FuncData} (F : FunD K "_law_target" "_law_target" (defArgs st_law_target) (defBody st_law_target) (defScope st_law_target) [] [] f fd) (T : Txt K mg) (c_law_take : DCal P w K mg base 1 "_law_take" sp_law_take []) (c_law_number : DCal P w K mg base 2 "_law_number" sp_law_number []) : FnOk P w K mg base (EX P w) 3 f fd ["_law_script", "_law_box", "_law_rows_here", "_law_width_here", "_law_room"] (liftSp K sp_law_target) :=
  dfn_ok (N := N_law_target) (k := 2) F sc_law_target spk5_len (fun cdv A outer s H E g hr =>
      (dss_cons (ds_set (i := 5) sc_law_target.nd rfl (Or.inl rfl) (de_call c_law_take hr (by decide) rfl pass_no (da_cons (de_pv (pv 0)) (da_cons (de_pv (pv 1)) (da_cons de_int da_nil)))))
      (dss_cons (ds_if (dt_cmp (dop_eq hr.units) (de_pv (pv 5)) de_int) (dss_one (ds_ret (de_callTy dcall_listC rfl T.n_list boot_list (da_cons (de_pv (pv 2)) da_nil)))) dss_nil)
      (dss_cons (ds_set (i := 6) sc_law_target.nd rfl (Or.inl rfl) (de_lstC da_nil))
      (dss_cons (ds_set (i := 7) sc_law_target.nd rfl (Or.inl rfl) (de_call c_law_number hr (by decide) rfl pass_no (da_cons (de_pv (pv 0)) (da_cons (de_pv (pv 1)) da_nil))))
      (dss_cut (ds_if (dt_truth (de_pv (pv 2))) (dss_one (ds_set (i := 7) sc_law_target.nd rfl (Or.inl rfl) (de_callB (dcall_min rfl) rfl T.n_min (by decide +kernel) (da_cons (de_pv (pv 7)) (da_cons (de_bin dop_sub (de_bin dop_sub (de_ix (de_ix (de_pv (pv 2)) de_int (fun _ _ => rfl)) de_int (fun _ _ => rfl)) de_int) (de_call c_law_take hr (by decide) rfl pass_no (da_cons (de_pv (pv 0)) (da_cons (de_pv (pv 1)) (da_cons de_int da_nil))))) da_nil))))) dss_nil)
      (dss_cons (ds_for PassesOwn.never rfl (di_range1 rfl T.n_range (da_cons (de_bin dop_add (de_callB dcall_len rfl T.n_len boot_len (da_cons (de_pv (pv 2)) da_nil)) de_int) da_nil)) (dg_name (pg_name (i := 8) sc_law_target.nd rfl (Or.inl rfl))) (dss_cons (ds_for PassesOwn.never rfl (di_range1 rfl T.n_range (da_cons (de_ix (de_lst (da_cons de_int (da_cons de_int (da_cons de_int (da_cons de_int (da_cons de_int (da_cons de_int (da_cons de_int (da_cons (de_pv (pv 4)) da_nil))))))))) (de_call c_law_take hr (by decide) rfl pass_no (da_cons (de_pv (pv 0)) (da_cons (de_pv (pv 1)) (da_cons de_int da_nil)))) (fun _ _ => rfl)) da_nil)) (dg_name (pg_name (i := 9) sc_law_target.nd rfl (Or.inl rfl))) (dss_cons (ds_set (i := 10) sc_law_target.nd rfl (Or.inl rfl) (de_bin dop_add (de_bin dop_add (de_pv (pv 7)) de_int) (de_callB dcall_abs rfl T.n_abs (by decide +kernel) (da_cons (de_call c_law_number hr (by decide) rfl pass_no (da_cons (de_pv (pv 0)) (da_cons (de_pv (pv 1)) da_nil))) da_nil))))
      (dss_one (ds_if (dw_pt (dw_and (dw_pt (dw_or (dt_cmp (dop_eq hr.units) (de_pv (pv 8)) (de_callB dcall_len rfl T.n_len boot_len (da_cons (de_pv (pv 2)) da_nil))) (dw_or1 (dt_cmp dop_lt (de_pv (pv 10)) (de_ix (de_ix (de_pv (pv 2)) (de_pv (pv 8)) (fun _ _ => rfl)) de_int (fun _ _ => rfl)))))) (dw_and1 (dt_cmp dop_lt (de_bin dop_sub (de_bin dop_add (de_callB dcall_len rfl T.n_len boot_len (da_cons (de_pv (pv 6)) da_nil)) (de_callB dcall_len rfl T.n_len boot_len (da_cons (de_pv (pv 2)) da_nil))) (de_pv (pv 8))) (de_pv (pv 4)))))) (dss_cons (ds_expr (de_append (de_pv (pv 6)) (da_cons (de_callTy dcall_tuple rfl T.n_tuple boot_tuple (da_cons (de_bin dop_add (de_lst (da_cons (de_pv (pv 10)) da_nil)) (de_lc (tg := .nm 14) (own := [("_law_c", 14)]) rfl sc_law_target.nd (di_range1 rfl T.n_range (da_cons (de_bin dop_sub (de_pv (pv 3)) de_int) da_nil)) (blkOk_by (own := [("_law_c", 14)]) (N := N_law_target) (sc := defScope st_law_target) (by decide +kernel)) (by decide) (fun _ _ _ _ _ => pg_name (i := 14) sc_law_target.nd rfl (Or.inl rfl)) (fun _ _ _ _ _ _ => dts_nil) (fun _ _ _ _ _ _ => (de_call c_law_number hr (by decide) rfl pass_no (da_cons (de_pv (pv 0)) (da_cons (de_pv (pv 1)) da_nil)))))) da_nil)) da_nil) (fun ho ha => pe_bm PySem.F.plainAttrs_list PySem.F.slot_list_append PySem.F.type_list_append mt_append ho ha)))
      (dss_one (ds_set (i := 7) sc_law_target.nd rfl (Or.inl rfl) (de_pv (pv 10))))) dss_nil))))
      (dss_one (ds_if (dt_cmp dop_lt (de_pv (pv 8)) (de_callB dcall_len rfl T.n_len boot_len (da_cons (de_pv (pv 2)) da_nil))) (dss_cons (ds_set (i := 11) sc_law_target.nd rfl (Or.inl rfl) (de_callTy dcall_listC rfl T.n_list boot_list (da_cons (de_ix (de_pv (pv 2)) (de_pv (pv 8)) (fun _ _ => rfl)) da_nil)))
      (dss_cons (ds_set (i := 7) sc_law_target.nd rfl (Or.inl rfl) (de_ix (de_pv (pv 11)) de_int (fun _ _ => rfl)))
      (dss_cons (ds_set (i := 12) sc_law_target.nd rfl (Or.inl rfl) (de_call c_law_take hr (by decide) rfl pass_no (da_cons (de_pv (pv 0)) (da_cons (de_pv (pv 1)) (da_cons de_int da_nil)))))
      (dss_cut (ds_if (dw_pt (dw_and (dt_cmp (dop_eq hr.units) (de_pv (pv 12)) de_int) (dw_and1 (dt_cmp dop_gt (de_pv (pv 3)) de_int)))) (dss_cons (ds_set (i := 13) sc_law_target.nd rfl (Or.inl rfl) (de_bin dop_add de_int (de_call c_law_take hr (by decide) rfl pass_no (da_cons (de_pv (pv 0)) (da_cons (de_pv (pv 1)) (da_cons (de_bin dop_sub (de_pv (pv 3)) de_int) da_nil))))))
      (dss_one (ds_asg (de_bin dop_add (de_bin dop_add (de_ix (de_pv (pv 11)) (de_pv (pv 13)) (fun _ _ => rfl)) de_int) (de_call c_law_take hr (by decide) rfl pass_no (da_cons (de_pv (pv 0)) (da_cons (de_pv (pv 1)) (da_cons de_int da_nil))))) (dg_sub (de_pv (pv 11)) (de_pv (pv 13)))))) dss_nil)
      (dss_cut (ds_if (dt_cmp (dop_eq hr.units) (de_pv (pv 12)) de_int) (dss_one (ds_set (i := 11) sc_law_target.nd rfl (Or.inl rfl) (de_bin dop_addC (de_lst (da_cons (de_pv (pv 7)) da_nil)) (de_lc (tg := .nm 14) (own := [("_law_c", 14)]) rfl sc_law_target.nd (di_range1 rfl T.n_range (da_cons (de_bin dop_sub (de_pv (pv 3)) de_int) da_nil)) (blkOk_by (own := [("_law_c", 14)]) (N := N_law_target) (sc := defScope st_law_target) (by decide +kernel)) (by decide) (fun _ _ _ _ _ => pg_name (i := 14) sc_law_target.nd rfl (Or.inl rfl)) (fun _ _ _ _ _ _ => dts_nil) (fun _ _ _ _ _ _ => (de_call c_law_number hr (by decide) rfl pass_no (da_cons (de_pv (pv 0)) (da_cons (de_pv (pv 1)) da_nil)))))))) dss_nil)
      (dss_one (ds_if (dw_pt (dw_and (dw_pt (dw_or (dt_cmp dop_lt (de_pv (pv 12)) de_int) (dw_or1 (dt_cmp (dop_eq hr.units) (de_pv (pv 5)) de_int)))) (dw_and1 (dt_cmp (dop_ne hr.units) (de_pv (pv 5)) de_int)))) (dss_one (ds_expr (de_append (de_pv (pv 6)) (da_cons (de_callTy dcall_tuple rfl T.n_tuple boot_tuple (da_cons (de_pv (pv 11)) da_nil)) da_nil) (fun ho ha => pe_bm PySem.F.plainAttrs_list PySem.F.slot_list_append PySem.F.type_list_append mt_append ho ha)))) dss_nil))))))) dss_nil))))
      (dss_one (ds_ret (de_pv (pv 6))))))))))) rd_law_target
theorem ok_law_rank {f : Addr} {fd : FuncData} (F : FunD K "_law_rank" "_law_rank" (defArgs st_law_rank) (defBody st_law_rank) (defScope st_law_rank) [] [] f fd) (T : Txt K mg)  : FnOk P w K mg base (EX P w) 1 f fd ["_law_rows_here", "_law_key"] (liftSp K sp_law_rank) :=
  dfn_ok (N := N_law_rank) (k := 0) F sc_law_rank spk2_len (fun cdv A outer s H E g hr =>
      (dss_one (ds_ret (de_callB dcall_len rfl T.n_len boot_len (da_cons (de_lc (tg := .nm 2) (own := [("_law_row", 2)]) rfl sc_law_rank.nd (di_seq (de_pv (pv 0))) (blkOk_by (own := [("_law_row", 2)]) (N := N_law_rank) (sc := defScope st_law_rank) (by decide +kernel)) (by decide) (fun _ _ _ _ _ => pg_name (i := 2) sc_law_rank.nd rfl (Or.inl rfl)) (fun _ _ _ _ _ _ => dts_one (dt_cmp dop_lt (de_ix (de_pv (pv 2)) de_int (fun _ _ => rfl)) (de_pv (pv 1)))) (fun _ _ _ _ _ _ => (de_pv (pv 2)))) da_nil))))) rd_law_rank
theorem ok_law_find {f : Addr} {fd : FuncData} (F : FunD K "_law_find" "_law_find" (defArgs st_law_find) (defBody st_law_find) (defScope st_law_find) [] [] f fd) (T : Txt K mg)  : FnOk P w K mg base (EX P w) 1 f fd ["_law_rows_here", "_law_key"] (liftSp K sp_law_find) :=
  dfn_ok (N := N_law_find) (k := 0) F sc_law_find spk2_len (fun cdv A outer s H E g hr =>
      (dss_cons (ds_for PassesOwn.never rfl (di_seq (de_pv (pv 0))) (dg_name (pg_name (i := 2) sc_law_find.nd rfl (Or.inl rfl))) (dss_one (ds_if (dt_cmp (dop_eq hr.units) (de_ix (de_pv (pv 2)) de_int (fun _ _ => rfl)) (de_pv (pv 1))) (dss_one (ds_ret (de_pv (pv 2)))) dss_nil)))
      (dss_one (ds_ret de_non)))) rd_law_find
theorem ok_law_entries {f : Addr} {fd : FuncData} (F : FunD K "_law_entries" "_law_entries" (defArgs st_law_entries) (defBody st_law_entries) (defScope st_law_entries) [] [] f fd) (T : Txt K mg) (c_law_find : DCal P w K mg base 1 "_law_find" sp_law_find []) (c_law_rank : DCal P w K mg base 1 "_law_rank" sp_law_rank []) : FnOk P w K mg base (EX P w) 2 f fd ["_law_rows_here", "_law_target_here"] (liftSp K sp_law_entries) :=
  dfn_ok (N := N_law_entries) (k := 1) F sc_law_entries spk2_len (fun cdv A outer s H E g hr =>
      (dss_cons (ds_set (i := 2) sc_law_entries.nd rfl (Or.inl rfl) (de_lstC da_nil))
      (dss_cons (ds_for PassesOwn.never rfl (di_seq (de_sortSet rfl rfl T.n_sorted rfl T.n_set (da_cons (de_lc (tg := .nm 6) (own := [("_law_row", 6)]) rfl sc_law_entries.nd (di_seq (de_bin dop_add (de_pv (pv 0)) (de_pv (pv 1)))) (blkOk_by (own := [("_law_row", 6)]) (N := N_law_entries) (sc := defScope st_law_entries) (by decide +kernel)) (by decide) (fun _ _ _ _ _ => pg_name (i := 6) sc_law_entries.nd rfl (Or.inl rfl)) (fun _ _ _ _ _ _ => dts_nil) (fun _ _ _ _ _ _ => (de_ix (de_pv (pv 6)) de_int (fun _ _ => rfl)))) da_nil))) (dg_name (pg_name (i := 3) sc_law_entries.nd rfl (Or.inl rfl))) (dss_cons (ds_set (i := 4) sc_law_entries.nd rfl (Or.inl rfl) (de_call c_law_find hr (by decide) rfl pass_no (da_cons (de_pv (pv 0)) (da_cons (de_pv (pv 3)) da_nil))))
      (dss_cons (ds_set (i := 5) sc_law_entries.nd rfl (Or.inl rfl) (de_call c_law_find hr (by decide) rfl pass_no (da_cons (de_pv (pv 1)) (da_cons (de_pv (pv 3)) da_nil))))
      (dss_one (ds_if (dt_cmp (dop_ne hr.units) (de_pv (pv 4)) (de_pv (pv 5))) (dss_one (ds_expr (de_append (de_pv (pv 2)) (da_cons (de_tup (da_cons (de_call c_law_rank hr (by decide) rfl pass_no (da_cons (de_pv (pv 0)) (da_cons (de_pv (pv 3)) da_nil))) (da_cons (de_pv (pv 4)) (da_cons (de_pv (pv 5)) da_nil)))) da_nil) (fun ho ha => pe_bm PySem.F.plainAttrs_list PySem.F.slot_list_append PySem.F.type_list_append mt_append ho ha)))) dss_nil)))))
      (dss_one (ds_ret (de_pv (pv 2))))))) rd_law_entries
theorem ok_law_is_int {f : Addr} {fd : FuncData} (F : FunD K "_law_is_int" "_law_is_int" (defArgs st_law_is_int) (defBody st_law_is_int) (defScope st_law_is_int) [] [] f fd) (T : Txt K mg)  : FnOk P w K mg base (EX P w) 1 f fd ["_law_value"] (liftSp K sp_law_is_int) :=
  dfn_ok (N := N_law_is_int) (k := 0) F sc_law_is_int spk1_len (fun cdv A outer s H E g hr =>
      (dss_one (ds_ret (de_and (de_callB (dcall_isi .it) rfl T.n_isinstance (by decide +kernel) (da_cons (de_pv (pv 0)) (da_cons (de_ty rfl T.n_int boot_int) da_nil))) (de_one (de_not (de_callB (dcall_isi .bo) rfl T.n_isinstance (by decide +kernel) (da_cons (de_pv (pv 0)) (da_cons (de_ty rfl T.n_bool boot_bool) da_nil))))))))) rd_law_is_int
theorem ok_law_is_row {f : Addr} {fd : FuncData} (F : FunD K "_law_is_row" "_law_is_row" (defArgs st_law_is_row) (defBody st_law_is_row) (defScope st_law_is_row) [] [] f fd) (T : Txt K mg) (c_law_is_int : DCal P w K mg base 1 "_law_is_int" sp_law_is_int []) : FnOk P w K mg base (EX P w) 2 f fd ["_law_value", "_law_row"] (liftSp K sp_law_is_row) :=
  dfn_ok (N := N_law_is_row) (k := 1) F sc_law_is_row spk2_len (fun cdv A outer s H E g hr =>
      (dss_cons (ds_if (dw_pt (dw_or (dt_not (dt_truth (de_callB (dcall_isi .tu) rfl T.n_isinstance (by decide +kernel) (da_cons (de_pv (pv 0)) (da_cons (de_ty rfl T.n_tuple boot_tuple) da_nil))))) (dw_or1 (dt_cmp (dop_ne hr.units) (de_callB dcall_len rfl T.n_len boot_len (da_cons (de_pv (pv 0)) da_nil)) (de_callB dcall_len rfl T.n_len boot_len (da_cons (de_pv (pv 1)) da_nil)))))) (dss_one (ds_ret de_bl)) dss_nil)
      (dss_one (ds_ret (de_and (de_callB (dcall_all rfl) rfl T.n_all (by decide +kernel) (da_cons (de_lc (tg := .nm 2) (own := [("_law_number_here", 2)]) rfl sc_law_is_row.nd (di_seq (de_pv (pv 0))) (blkOk_by (own := [("_law_number_here", 2)]) (N := N_law_is_row) (sc := defScope st_law_is_row) (by decide +kernel)) (by decide) (fun _ _ _ _ _ => pg_name (i := 2) sc_law_is_row.nd rfl (Or.inl rfl)) (fun _ _ _ _ _ _ => dts_nil) (fun _ _ _ _ _ _ => (de_call c_law_is_int hr (by decide) rfl pass_no (da_cons (de_pv (pv 2)) da_nil)))) da_nil)) (de_one (de_cmp (dop_eq hr.units) (de_pv (pv 0)) (de_pv (pv 1))))))))) rd_law_is_row
theorem ok_law_is_rows {f : Addr} {fd : FuncData} (F : FunD K "_law_is_rows" "_law_is_rows" (defArgs st_law_is_rows) (defBody st_law_is_rows) (defScope st_law_is_rows) [] [] f fd) (T : Txt K mg) (c_law_is_row : DCal P w K mg base 2 "_law_is_row" sp_law_is_row []) : FnOk P w K mg base (EX P w) 3 f fd ["_law_value", "_law_rows_here"] (liftSp K sp_law_is_rows) :=
  dfn_ok (N := N_law_is_rows) (k := 2) F sc_law_is_rows spk2_len (fun cdv A outer s H E g hr =>
      (dss_cons (ds_if (dw_pt (dw_or (dt_not (dt_truth (de_callB (dcall_isi .li) rfl T.n_isinstance (by decide +kernel) (da_cons (de_pv (pv 0)) (da_cons (de_ty rfl T.n_list boot_list) da_nil))))) (dw_or1 (dt_cmp (dop_ne hr.units) (de_callB dcall_len rfl T.n_len boot_len (da_cons (de_pv (pv 0)) da_nil)) (de_callB dcall_len rfl T.n_len boot_len (da_cons (de_pv (pv 1)) da_nil)))))) (dss_one (ds_ret de_bl)) dss_nil)
      (dss_one (ds_ret (de_callB (dcall_all rfl) rfl T.n_all (by decide +kernel) (da_cons (de_lc (tg := .nm 2) (own := [("_law_k", 2)]) rfl sc_law_is_rows.nd (di_range1 rfl T.n_range (da_cons (de_callB dcall_len rfl T.n_len boot_len (da_cons (de_pv (pv 1)) da_nil)) da_nil)) (blkOk_by (own := [("_law_k", 2)]) (N := N_law_is_rows) (sc := defScope st_law_is_rows) (by decide +kernel)) (by decide) (fun _ _ _ _ _ => pg_name (i := 2) sc_law_is_rows.nd rfl (Or.inl rfl)) (fun _ _ _ _ _ _ => dts_nil) (fun _ _ _ _ _ _ => (de_call c_law_is_row hr (by decide) rfl pass_no (da_cons (de_ix (de_pv (pv 0)) (de_pv (pv 2)) (fun _ _ => rfl)) (da_cons (de_ix (de_pv (pv 1)) (de_pv (pv 2)) (fun _ _ => rfl)) da_nil))))) da_nil)))))) rd_law_is_rows
theorem ok_law_chain {f : Addr} {fd : FuncData} (F : FunD K "_law_chain" "_law_chain" (defArgs st_law_chain) (defBody st_law_chain) (defScope st_law_chain) [] [] f fd) (T : Txt K mg) (c_law_rows : DCal P w K mg base 3 "_law_rows" sp_law_rows []) (c_law_target : DCal P w K mg base 3 "_law_target" sp_law_target []) : FnOk P w K mg base (EX P w) 4 f fd ["_law_script", "_law_box", "_law_width_here", "_law_many"] (liftSp K sp_law_chain) :=
  dfn_ok (N := N_law_chain) (k := 3) F sc_law_chain spk4_len (fun cdv A outer s H E g hr =>
      (dss_cons (ds_set (i := 4) sc_law_chain.nd rfl (Or.inl rfl) (de_lstC (da_cons (de_call c_law_rows hr (by decide) rfl pass_no (da_cons (de_pv (pv 0)) (da_cons (de_pv (pv 1)) (da_cons (de_pv (pv 2)) (da_cons de_int da_nil))))) da_nil)))
      (dss_cons (ds_for PassesOwn.never rfl (di_range1 rfl T.n_range (da_cons (de_pv (pv 3)) da_nil)) (dg_name (pg_name (i := 5) sc_law_chain.nd rfl (Or.inl rfl))) (dss_one (ds_expr (de_append (de_pv (pv 4)) (da_cons (de_call c_law_target hr (by decide) rfl pass_no (da_cons (de_pv (pv 0)) (da_cons (de_pv (pv 1)) (da_cons (de_ix (de_pv (pv 4)) (de_un dun_neg de_int) (fun _ _ => rfl)) (da_cons (de_pv (pv 2)) (da_cons de_int da_nil)))))) da_nil) (fun ho ha => pe_bm PySem.F.plainAttrs_list PySem.F.slot_list_append PySem.F.type_list_append mt_append ho ha)))))
      (dss_one (ds_ret (de_pv (pv 4))))))) rd_law_chain
theorem ok_law_stretches {f : Addr} {fd : FuncData} (F : FunD K "_law_stretches" "_law_stretches" (defArgs st_law_stretches) (defBody st_law_stretches) (defScope st_law_stretches) [] [] f fd) (T : Txt K mg) (c_law_is_rows : DCal P w K mg base 3 "_law_is_rows" sp_law_is_rows []) (gm2__Stack_stretch : DMetG P w K mg base 10 (cA "Stack") "stretch" 2 [] (gPos sp_Stack_stretch [])) (gm1__Stack_stretch : DMetG P w K mg base 10 (cA "Stack") "stretch" 1 [] (gPos sp_Stack_stretch [.non])) (gm0_stop_Stack_stretch : DMetG P w K mg base 10 (cA "Stack") "stretch" 0 ["stop"] (gKw sp_Stack_stretch 1 [.int 0])) : FnOk P w K mg base (EX P w) 14 f fd ["_law_stack", "_law_rows_here", "_law_first", "_law_end"] (liftSp K sp_law_stretches) :=
  dfn_ok (N := N_law_stretches) (k := 13) F sc_law_stretches spk4_len (fun cdv A outer s H E g hr =>
      (dss_cons (ds_if (dt_not (dt_truth (de_call c_law_is_rows hr (by decide) rfl pass_no (da_cons (de_listG T.sc_Stack gm2__Stack_stretch hr (by decide) (de_pv (pv 0)) (da_cons (de_pv (pv 2)) (da_cons (de_pv (pv 3)) da_nil)) rfl T.n_list boot_list) (da_cons (de_slice dsl_ok (de_pv (pv 1)) (do_some (de_pv (pv 2))) (do_some (de_pv (pv 3)))) da_nil))))) (dss_one (ds_ret de_bl)) dss_nil)
      (dss_cons (ds_if (dt_not (dt_truth (de_call c_law_is_rows hr (by decide) rfl pass_no (da_cons (de_listG T.sc_Stack gm1__Stack_stretch hr (by decide) (de_pv (pv 0)) (da_cons (de_pv (pv 2)) da_nil) rfl T.n_list boot_list) (da_cons (de_slice dsl_ok (de_pv (pv 1)) (do_some (de_pv (pv 2))) do_none) da_nil))))) (dss_one (ds_ret de_bl)) dss_nil)
      (dss_cons (ds_if (dt_not (dt_truth (de_call c_law_is_rows hr (by decide) rfl pass_no (da_cons (de_listG T.sc_Stack gm2__Stack_stretch hr (by decide) (de_pv (pv 0)) (da_cons (de_pv (pv 2)) (da_cons de_non da_nil)) rfl T.n_list boot_list) (da_cons (de_slice dsl_ok (de_pv (pv 1)) (do_some (de_pv (pv 2))) do_none) da_nil))))) (dss_one (ds_ret de_bl)) dss_nil)
      (dss_one (ds_ret (de_call c_law_is_rows hr (by decide) rfl pass_no (da_cons (de_listGK T.sc_Stack gm0_stop_Stack_stretch hr (by decide) (de_pv (pv 0)) (dkv_cons (de_pv (pv 3)) dkv_nil) rfl T.n_list boot_list) (da_cons (de_slice dsl_ok (de_pv (pv 1)) do_none (do_some (de_pv (pv 3)))) da_nil))))))))) rd_law_stretches
theorem ok_law_walked {f : Addr} {fd : FuncData} (F : FunD K "_law_walked" "_law_walked" (defArgs st_law_walked) (defBody st_law_walked) (defScope st_law_walked) [] [] f fd) (T : Txt K mg) (gw_Stack_stretch : DMetWk P w K mg base 10 (cA "Stack") "stretch" 0 (wPos spw_Stack_stretch [.int 0, .non])) (c_law_is_row : DCal P w K mg base 2 "_law_is_row" sp_law_is_row []) (c_law_is_rows : DCal P w K mg base 3 "_law_is_rows" sp_law_is_rows []) (gm1__Stack_stretch : DMetG P w K mg base 10 (cA "Stack") "stretch" 1 [] (gPos sp_Stack_stretch [.non])) : FnOk P w K mg base (EX P w) 14 f fd ["_law_stack", "_law_rows_here"] (liftSp K sp_law_walked) :=
  dfn_ok (N := N_law_walked) (k := 13) F sc_law_walked spk2_len (fun cdv A outer s H E g hr =>
      (dss_cons (ds_set (i := 2) sc_law_walked.nd rfl (Or.inl rfl) de_int)
      (dss_cons (ds_forW (fun _ _ h => h) rfl T.sc_Stack gw_Stack_stretch hr (by decide) (de_pv (pv 0)) (dg_name (pg_name (i := 3) sc_law_walked.nd rfl (Or.inl rfl))) (dss_cons (ds_if (dw_pt (dw_or (dt_cmp dop_ge (de_pv (pv 2)) (de_callB dcall_len rfl T.n_len boot_len (da_cons (de_pv (pv 1)) da_nil))) (dw_or1 (dt_not (dt_truth (de_call c_law_is_row hr (by decide) rfl pass_no (da_cons (de_pv (pv 3)) (da_cons (de_ix (de_pv (pv 1)) (de_pv (pv 2)) (fun _ _ => rfl)) da_nil)))))))) (dss_one (ds_ret de_bl)) dss_nil)
      (dss_cons (ds_if (dt_not (dt_truth (de_call c_law_is_rows hr (by decide) rfl pass_no (da_cons (de_listG T.sc_Stack gm1__Stack_stretch hr (by decide) (de_pv (pv 0)) (da_cons (de_pv (pv 2)) da_nil) rfl T.n_list boot_list) (da_cons (de_slice dsl_ok (de_pv (pv 1)) (do_some (de_pv (pv 2))) do_none) da_nil))))) (dss_one (ds_ret de_bl)) dss_nil)
      (dss_one (ds_set (i := 2) sc_law_walked.nd rfl (Or.inl rfl) (de_bin dop_add (de_pv (pv 2)) de_int))))))
      (dss_one (ds_ret (de_cmp (dop_eq hr.units) (de_pv (pv 2)) (de_callB dcall_len rfl T.n_len boot_len (da_cons (de_pv (pv 1)) da_nil)))))))) rd_law_walked
theorem ok_law {f : Addr} {fd : FuncData} (F : FunD K "law" "law" (defArgs st_law) (defBody st_law) (defScope st_law) [] [] f fd) (T : Txt K mg) (c_law_width : DCal P w K mg base 2 "_law_width" sp_law_width []) (c_law_chain : DCal P w K mg base 4 "_law_chain" sp_law_chain []) (c_law_take : DCal P w K mg base 1 "_law_take" sp_law_take []) (c_law_entries : DCal P w K mg base 2 "_law_entries" sp_law_entries []) (n_Layer : DNew P w K mg base 5 "Layer" "Layer" sp_Layer_new) (n_Table : DNew P w K mg base 4 "Table" "Table" sp_Table_new) (n_Stack : DNew P w K mg base 7 "Stack" "Stack" sp_Stack_new) (c_law_stretches : DCal P w K mg base 14 "_law_stretches" sp_law_stretches []) (c_law_walked : DCal P w K mg base 14 "_law_walked" sp_law_walked []) : FnOk P w K mg base (EX P w) 15 f fd ["_law_script"] (liftSp K sp_law) :=
  dfn_ok (N := N_law) (k := 14) F sc_law spk1_len (fun cdv A outer s H E g hr =>
      (dss_cons (ds_set (i := 1) sc_law.nd rfl (Or.inl rfl) (de_lstC (da_cons de_int (da_cons de_int da_nil))))
      (dss_cons (ds_set (i := 2) sc_law.nd rfl (Or.inl rfl) (de_call c_law_width hr (by decide) rfl pass_no (da_cons (de_pv (pv 0)) (da_cons (de_pv (pv 1)) da_nil))))
      (dss_cons (ds_set (i := 3) sc_law.nd rfl (Or.inl rfl) (de_call c_law_chain hr (by decide) rfl pass_no (da_cons (de_pv (pv 0)) (da_cons (de_pv (pv 1)) (da_cons (de_pv (pv 2)) (da_cons (de_call c_law_take hr (by decide) rfl pass_no (da_cons (de_pv (pv 0)) (da_cons (de_pv (pv 1)) (da_cons de_int da_nil)))) da_nil))))))
      (dss_cons (ds_set (i := 4) sc_law.nd rfl (Or.inl rfl) (de_lstC da_nil))
      (dss_cons (ds_for PassesOwn.never rfl (di_range1 rfl T.n_range (da_cons (de_bin dop_sub (de_callB dcall_len rfl T.n_len boot_len (da_cons (de_pv (pv 3)) da_nil)) de_int) da_nil)) (dg_name (pg_name (i := 5) sc_law.nd rfl (Or.inl rfl))) (dss_one (ds_expr (de_append (de_pv (pv 4)) (da_cons (de_new n_Layer hr (by decide) rfl pass_no (da_cons (de_pv (pv 2)) (da_cons (de_call c_law_entries hr (by decide) rfl pass_no (da_cons (de_ix (de_pv (pv 3)) (de_pv (pv 5)) (fun _ _ => rfl)) (da_cons (de_ix (de_pv (pv 3)) (de_bin dop_add (de_pv (pv 5)) de_int) (fun _ _ => rfl)) da_nil))) da_nil))) da_nil) (fun ho ha => pe_bm PySem.F.plainAttrs_list PySem.F.slot_list_append PySem.F.type_list_append mt_append ho ha)))))
      (dss_cons (ds_set (i := 6) sc_law.nd rfl (Or.inl rfl) (de_new n_Stack hr (by decide) rfl pass_no (da_cons (de_new n_Table hr (by decide) rfl pass_no (da_cons (de_pv (pv 2)) (da_cons (de_ix (de_pv (pv 3)) de_int (fun _ _ => rfl)) da_nil))) (da_cons (de_pv (pv 4)) da_nil))))
      (dss_cons (ds_set (i := 7) sc_law.nd rfl (Or.inl rfl) (de_new n_Stack hr (by decide) rfl pass_no (da_cons (de_new n_Table hr (by decide) rfl pass_no (da_cons (de_pv (pv 2)) (da_cons (de_ix (de_pv (pv 3)) de_int (fun _ _ => rfl)) da_nil))) (da_cons (de_slice dsl_ok (de_pv (pv 4)) do_none (do_some (de_un dun_neg de_int))) da_nil))))
      (dss_cons (ds_set (i := 8) sc_law.nd rfl (Or.inl rfl) (de_ix (de_pv (pv 3)) (de_un dun_neg de_int) (fun _ _ => rfl)))
      (dss_cons (ds_set (i := 9) sc_law.nd rfl (Or.inl rfl) (de_ix (de_pv (pv 3)) (de_callB (dcall_max rfl) rfl T.n_max (by decide +kernel) (da_cons de_int (da_cons (de_bin dop_sub (de_callB dcall_len rfl T.n_len boot_len (da_cons (de_pv (pv 3)) da_nil)) de_int) da_nil))) (fun _ _ => rfl)))
      (dss_cons (ds_for PassesOwn.never rfl (di_range1 rfl T.n_range (da_cons de_int da_nil)) (dg_name (pg_name (i := 5) sc_law.nd rfl (Or.inl rfl))) (dss_cons (ds_set (i := 10) sc_law.nd rfl (Or.inl rfl) (de_call c_law_take hr (by decide) rfl pass_no (da_cons (de_pv (pv 0)) (da_cons (de_pv (pv 1)) (da_cons (de_bin dop_add (de_callB dcall_len rfl T.n_len boot_len (da_cons (de_pv (pv 8)) da_nil)) de_int) da_nil)))))
      (dss_cons (ds_set (i := 11) sc_law.nd rfl (Or.inl rfl) (de_call c_law_take hr (by decide) rfl pass_no (da_cons (de_pv (pv 0)) (da_cons (de_pv (pv 1)) (da_cons (de_bin dop_add (de_callB dcall_len rfl T.n_len boot_len (da_cons (de_pv (pv 8)) da_nil)) de_int) da_nil)))))
      (dss_one (ds_if (dw_pt (dw_or (dt_not (dt_truth (de_call c_law_stretches hr (by decide) rfl pass_no (da_cons (de_pv (pv 6)) (da_cons (de_pv (pv 8)) (da_cons (de_pv (pv 10)) (da_cons (de_pv (pv 11)) da_nil))))))) (dw_or1 (dt_not (dt_truth (de_call c_law_stretches hr (by decide) rfl pass_no (da_cons (de_pv (pv 7)) (da_cons (de_pv (pv 9)) (da_cons (de_pv (pv 10)) (da_cons (de_pv (pv 11)) da_nil)))))))))) (dss_one (ds_ret de_bl)) dss_nil)))))
      (dss_cons (ds_set (i := 12) sc_law.nd rfl (Or.inl rfl) (de_bin dop_add (de_bin dop_add (de_callB dcall_len rfl T.n_len boot_len (da_cons (de_pv (pv 8)) da_nil)) de_int) (de_call c_law_take hr (by decide) rfl pass_no (da_cons (de_pv (pv 0)) (da_cons (de_pv (pv 1)) (da_cons (de_bin dop_pow de_int de_int) da_nil))))))
      (dss_cons (ds_if (dw_pt (dw_or (dt_not (dt_truth (de_call c_law_stretches hr (by decide) rfl pass_no (da_cons (de_pv (pv 6)) (da_cons (de_pv (pv 8)) (da_cons (de_pv (pv 12)) (da_cons (de_bin dop_add (de_pv (pv 12)) de_int) da_nil))))))) (dw_or1 (dt_not (dt_truth (de_call c_law_stretches hr (by decide) rfl pass_no (da_cons (de_pv (pv 6)) (da_cons (de_pv (pv 8)) (da_cons de_int (da_cons (de_pv (pv 12)) da_nil)))))))))) (dss_one (ds_ret de_bl)) dss_nil)
      (dss_one (ds_ret (de_call c_law_walked hr (by decide) rfl pass_no (da_cons (de_pv (pv 6)) (da_cons (de_pv (pv 8)) da_nil)))))))))))))))))) rd_law
end
theorem ed_NoPlace : PySem.W.ErrDef (defArgs se_NoPlace) (defBody se_NoPlace) (defScope se_NoPlace) ["place"] := ⟨.one _ _ _ _ _ _ _ _ rfl (.mk _ _ _ _ _), ⟨_, rfl, rfl⟩, rfl, rfl, rfl, by decide +kernel, rfl, rfl, rfl, by decide +kernel, by decide +kernel, by decide +kernel, fun _ _ _ _ _ _ _ _ us hl => match us, hl with | [_, _], _ => rfl⟩
abbrev hk : PySem.W.Hook := hookY used PF fa fn ex
def ob (s : PySem.W.SharedT) : He.AlD := obsYG used PF fa fn ex (HandSHeadRun.getT s)
theorem ob_eq (s : PySem.W.SharedT) : ob s = hk.obs s.abs := obsYG_eq (HandSHeadRun.getT_eq s)
-- RUN
-- RUNEND
theorem run (w : World) : HandSHeadRun.RunEq R (PySem.W.view R.prog [71]) hk ob 30000 loose w := runEq_of (pA w) (pB w) fun os => partG_end (partG_two (partG_two (pF_0 w os) (pF_1 w os)) (pF_2 w os)) (pE w os)
theorem facts {P : Program} {w : World} {K : PySem.W.Frag} {h : Heap} {mg : PySem.Str → Option Value} {f : Addr} (X : K.In h) (G : h.Ns mainGlobals mg) (hfa : mg ("law" : PySem.Str) = some (.ref f)) (hP : ProgOk P PF) (cx : SaysX PF fa fn ex K) :
    ∃ fd : FuncData, (∀ (s : Shared) (v : Value), BindsTo s fd ⟨[v], []⟩ [("_law_script", v)]) ∧ ∀ base : Heap, K.In base → base.Ns mainGlobals mg → FnOk P w K mg base (EX P w) 15 f fd ["_law_script"] (liftSp K sp_law) := by
  have c := cx.f
  letI : Cl := ⟨fun n => He.ga K n⟩
  have T : Txt K mg := ⟨He.free_ok X G (c.fact 30 (f := fA (.free "abs")) rfl), He.free_ok X G (c.fact 31 (f := fA (.free "all")) rfl), He.free_ok X G (c.fact 32 (f := fA (.free "bool")) rfl), He.free_ok X G (c.fact 33 (f := fA (.free "enumerate")) rfl), He.free_ok X G (c.fact 34 (f := fA (.free "int")) rfl), He.free_ok X G (c.fact 35 (f := fA (.free "isinstance")) rfl), He.free_ok X G (c.fact 36 (f := fA (.free "iter")) rfl), He.free_ok X G (c.fact 37 (f := fA (.free "len")) rfl), He.free_ok X G (c.fact 38 (f := fA (.free "list")) rfl), He.free_ok X G (c.fact 39 (f := fA (.free "max")) rfl), He.free_ok X G (c.fact 40 (f := fA (.free "min")) rfl), He.free_ok X G (c.fact 41 (f := fA (.free "range")) rfl), He.free_ok X G (c.fact 42 (f := fA (.free "set")) rfl), He.free_ok X G (c.fact 43 (f := fA (.free "sorted")) rfl), He.free_ok X G (c.fact 44 (f := fA (.free "sum")) rfl), He.free_ok X G (c.fact 45 (f := fA (.free "super")) rfl), He.free_ok X G (c.fact 46 (f := fA (.free "tuple")) rfl), fSc_ok (c.fact 49 (f := fSc "Layer") rfl), fSc_ok (c.fact 51 (f := fSc "Stack") rfl), fSc_ok (c.fact 53 (f := fSc "Table") rfl), fSl_ok (c.fact 54 (f := fSl "Layer" "_entries" 0) rfl), fSl_ok (c.fact 55 (f := fSl "Layer" "_key_list" 1) rfl), fSl_ok (c.fact 56 (f := fSl "Layer" "width" 2) rfl), fSl_ok (c.fact 57 (f := fSl "Stack" "_layers" 0) rfl), fSl_ok (c.fact 58 (f := fSl "Stack" "base" 1) rfl), fSl_ok (c.fact 59 (f := fSl "Stack" "width" 2) rfl), fSl_ok (c.fact 60 (f := fSl "Table" "_key_list" 0) rfl), fSl_ok (c.fact 61 (f := fSl "Table" "_rows" 1) rfl), fSl_ok (c.fact 62 (f := fSl "Table" "width" 2) rfl), He.glo_ok X G (c.fact 47 (f := fA (.glo "NoPlace")) rfl), fTwo_ok (c.fact 63 (f := fTwo "Table" "Layer" "add") rfl), (c.fact 64 (f := fSf "Layer") rfl), (c.fact 65 (f := fSf "Table") rfl), fXs_ok (c.fact 84 (f := fXs XS [] false) rfl)⟩
  have er_NoPlace := cx.ex_ hP 0 (d := e_NoPlace) rfl rfl ed_NoPlace
  obtain ⟨fd_is_integer, F_is_integer⟩ := c.def_ 0 (d := d_is_integer) rfl
  obtain ⟨fd_count_below, F_count_below⟩ := c.def_ 1 (d := d_count_below) rfl
  obtain ⟨fd_entry_key, F_entry_key⟩ := c.def_ 2 (d := d_entry_key) rfl
  obtain ⟨fd_entry_growth, F_entry_growth⟩ := c.def_ 3 (d := d_entry_growth) rfl
  obtain ⟨fd_gap_size, F_gap_size⟩ := c.def_ 4 (d := d_gap_size) rfl
  obtain ⟨fd_Layer___iter, F_Layer___iter⟩ := c.def_ 5 (d := d_Layer___iter) rfl
  obtain ⟨fd_Layer___len, F_Layer___len⟩ := c.def_ 6 (d := d_Layer___len) rfl
  obtain ⟨fd_end_place, F_end_place⟩ := c.def_ 7 (d := d_end_place) rfl
  obtain ⟨fd_Table___len, F_Table___len⟩ := c.def_ 8 (d := d_Table___len) rfl
  obtain ⟨fd_Table___getitem, F_Table___getitem⟩ := c.def_ 9 (d := d_Table___getitem) rfl
  obtain ⟨fd_law_take, F_law_take⟩ := c.def_ 10 (d := d_law_take) rfl
  obtain ⟨fd_law_rank, F_law_rank⟩ := c.def_ 11 (d := d_law_rank) rfl
  obtain ⟨fd_law_find, F_law_find⟩ := c.def_ 12 (d := d_law_find) rfl
  obtain ⟨fd_law_is_int, F_law_is_int⟩ := c.def_ 13 (d := d_law_is_int) rfl
  obtain ⟨fd_check_width, F_check_width⟩ := c.def_ 14 (d := d_check_width) rfl
  obtain ⟨fd_is_row, F_is_row⟩ := c.def_ 15 (d := d_is_row) rfl
  obtain ⟨fd_in_order, F_in_order⟩ := c.def_ 16 (d := d_in_order) rfl
  obtain ⟨fd_Layer_growth, F_Layer_growth⟩ := c.def_ 17 (d := d_Layer_growth) rfl
  obtain ⟨fd_Table_rank, F_Table_rank⟩ := c.def_ 18 (d := d_Table_rank) rfl
  obtain ⟨fd_law_number, F_law_number⟩ := c.def_ 19 (d := d_law_number) rfl
  obtain ⟨fd_law_width, F_law_width⟩ := c.def_ 20 (d := d_law_width) rfl
  obtain ⟨fd_law_entries, F_law_entries⟩ := c.def_ 21 (d := d_law_entries) rfl
  obtain ⟨fd_law_is_row, F_law_is_row⟩ := c.def_ 22 (d := d_law_is_row) rfl
  obtain ⟨fd_check_rows, F_check_rows⟩ := c.def_ 23 (d := d_check_rows) rfl
  obtain ⟨fd_is_entry, F_is_entry⟩ := c.def_ 24 (d := d_is_entry) rfl
  obtain ⟨fd_Table_find, F_Table_find⟩ := c.def_ 25 (d := d_Table_find) rfl
  obtain ⟨fd_law_rows, F_law_rows⟩ := c.def_ 26 (d := d_law_rows) rfl
  obtain ⟨fd_law_target, F_law_target⟩ := c.def_ 27 (d := d_law_target) rfl
  obtain ⟨fd_law_is_rows, F_law_is_rows⟩ := c.def_ 28 (d := d_law_is_rows) rfl
  obtain ⟨fd_check_entries, F_check_entries⟩ := c.def_ 29 (d := d_check_entries) rfl
  obtain ⟨fd_writer_at, F_writer_at⟩ := c.def_ 30 (d := d_writer_at) rfl
  obtain ⟨fd_old_place, F_old_place⟩ := c.def_ 31 (d := d_old_place) rfl
  obtain ⟨fd_Table___init, F_Table___init⟩ := c.def_ 32 (d := d_Table___init) rfl
  obtain ⟨fd_Table_misfit, F_Table_misfit⟩ := c.def_ 33 (d := d_Table_misfit) rfl
  obtain ⟨fd_laid, F_laid⟩ := c.def_ 34 (d := d_laid) rfl
  obtain ⟨fd_law_chain, F_law_chain⟩ := c.def_ 35 (d := d_law_chain) rfl
  obtain ⟨fd_Layer___init, F_Layer___init⟩ := c.def_ 36 (d := d_Layer___init) rfl
  obtain ⟨fd_Stack_size, F_Stack_size⟩ := c.def_ 37 (d := d_Stack_size) rfl
  obtain ⟨fd_Table___add, F_Table___add⟩ := c.def_ 38 (d := d_Table___add) rfl
  obtain ⟨fd_Stack___init, F_Stack___init⟩ := c.def_ 39 (d := d_Stack___init) rfl
  obtain ⟨fd_Stack_trace, F_Stack_trace⟩ := c.def_ 40 (d := d_Stack_trace) rfl
  obtain ⟨fd_Stack_source, F_Stack_source⟩ := c.def_ 41 (d := d_Stack_source) rfl
  obtain ⟨fd_Stack_row_at, F_Stack_row_at⟩ := c.def_ 42 (d := d_Stack_row_at) rfl
  obtain ⟨fd_Stack_stretch, F_Stack_stretch⟩ := c.def_ 43 (d := d_Stack_stretch) rfl
  obtain ⟨fd_law_stretches, F_law_stretches⟩ := c.def_ 44 (d := d_law_stretches) rfl
  obtain ⟨fd_law_walked, F_law_walked⟩ := c.def_ 45 (d := d_law_walked) rfl
  obtain ⟨fd_law, F_law⟩ := c.def_ 46 (d := d_law) rfl
  have e := hfa.symm.trans (He.glo_ok X G (c.fact 29 (f := fA (.glo "law")) rfl))
  cases e
  have b := FunD.bindsA (ps := ["_law_script"]) F_law fun _ _ _ _ _ _ us hl => match us, hl with | [_], _ => rfl
  refine ⟨fd_law, fun s v => b s [v] rfl, fun base _ _ => ?_⟩
  have o_is_integer := ok_is_integer (P := P) (w := w) (base := base) F_is_integer T 
  have c_is_integer : DCal P w K mg base 1 "is_integer" sp_is_integer [] := ⟨⟨_, fd_is_integer, _, [], [], o_is_integer, He.glo_ok X G (c.fact 0 (f := fA (.glo "is_integer")) rfl), F_is_integer.kp, (F_is_integer.bindsN fun _ _ _ _ _ _ us hl => match us, hl with | [_], _ => rfl), .nil, fun _ => .nil⟩⟩
  have o_count_below := ok_count_below (P := P) (w := w) (base := base) F_count_below T 
  have c_count_below : DCal P w K mg base 1 "count_below" sp_count_below [] := ⟨⟨_, fd_count_below, _, [], [], o_count_below, He.glo_ok X G (c.fact 1 (f := fA (.glo "count_below")) rfl), F_count_below.kp, (F_count_below.bindsN fun _ _ _ _ _ _ us hl => match us, hl with | [_, _], _ => rfl), .nil, fun _ => .nil⟩⟩
  have o_entry_key := ok_entry_key (P := P) (w := w) (base := base) F_entry_key T 
  have c_entry_key : DCal P w K mg base 1 "entry_key" sp_entry_key [] := ⟨⟨_, fd_entry_key, _, [], [], o_entry_key, He.glo_ok X G (c.fact 2 (f := fA (.glo "entry_key")) rfl), F_entry_key.kp, (F_entry_key.bindsN fun _ _ _ _ _ _ us hl => match us, hl with | [_], _ => rfl), .nil, fun _ => .nil⟩⟩
  have o_entry_growth := ok_entry_growth (P := P) (w := w) (base := base) F_entry_growth T 
  have c_entry_growth : DCal P w K mg base 1 "entry_growth" sp_entry_growth [] := ⟨⟨_, fd_entry_growth, _, [], [], o_entry_growth, He.glo_ok X G (c.fact 3 (f := fA (.glo "entry_growth")) rfl), F_entry_growth.kp, (F_entry_growth.bindsN fun _ _ _ _ _ _ us hl => match us, hl with | [_], _ => rfl), .nil, fun _ => .nil⟩⟩
  have o_gap_size := ok_gap_size (P := P) (w := w) (base := base) F_gap_size T 
  have c_gap_size : DCal P w K mg base 1 "gap_size" sp_gap_size [] := ⟨⟨_, fd_gap_size, _, [], [], o_gap_size, He.glo_ok X G (c.fact 4 (f := fA (.glo "gap_size")) rfl), F_gap_size.kp, (F_gap_size.bindsN fun _ _ _ _ _ _ us hl => match us, hl with | [_, _], _ => rfl), .nil, fun _ => .nil⟩⟩
  have o_Layer___iter := ok_Layer___iter (P := P) (w := w) (base := base) F_Layer___iter T (F_Layer___iter.bindsN fun _ _ _ _ _ _ us hl => match us, hl with | [_], _ => rfl)
  have w_Layer : ItW P w K mg base 1 (cA "Layer") 0 := ⟨⟨_, (He.meth_ok (c.fact 66 (f := fA (.meth "Layer" "__iter__")) rfl)).at_, (He.meth_ok (c.fact 66 (f := fA (.meth "Layer" "__iter__")) rfl)).fn, o_Layer___iter⟩⟩
  have i_Layer : ItK P w K mg base 1 (cA "Layer") 0 := ⟨⟨_, (He.meth_ok (c.fact 66 (f := fA (.meth "Layer" "__iter__")) rfl)).at_, (He.meth_ok (c.fact 66 (f := fA (.meth "Layer" "__iter__")) rfl)).fn, o_Layer___iter.raw⟩⟩
  have o_Layer___len := ok_Layer___len (P := P) (w := w) (base := base) F_Layer___len T 
  have s_Layer___len : DSpc P w K mg base 1 (cA "Layer") "__len__" sp_Layer___len := ⟨⟨_, (He.meth_ok (c.fact 79 (f := fA (.meth "Layer" "__len__")) rfl)).at_, (He.meth_ok (c.fact 79 (f := fA (.meth "Layer" "__len__")) rfl)).fn, raw0 o_Layer___len (F_Layer___len.bindsN fun _ _ _ _ _ _ us hl => match us, hl with | [_], _ => rfl)⟩⟩
  have o_end_place := ok_end_place (P := P) (w := w) (base := base) F_end_place T 
  have c_end_place : DCal P w K mg base 1 "end_place" sp_end_place [] := ⟨⟨_, fd_end_place, _, [], [], o_end_place, He.glo_ok X G (c.fact 5 (f := fA (.glo "end_place")) rfl), F_end_place.kp, (F_end_place.bindsN fun _ _ _ _ _ _ us hl => match us, hl with | [_, _], _ => rfl), .nil, fun _ => .nil⟩⟩
  have o_Table___len := ok_Table___len (P := P) (w := w) (base := base) F_Table___len T 
  have s_Table___len : DSpc P w K mg base 1 (cA "Table") "__len__" sp_Table___len := ⟨⟨_, (He.meth_ok (c.fact 72 (f := fA (.meth "Table" "__len__")) rfl)).at_, (He.meth_ok (c.fact 72 (f := fA (.meth "Table" "__len__")) rfl)).fn, raw0 o_Table___len (F_Table___len.bindsN fun _ _ _ _ _ _ us hl => match us, hl with | [_], _ => rfl)⟩⟩
  have o_Table___getitem := ok_Table___getitem (P := P) (w := w) (base := base) F_Table___getitem T 
  have gi_Table : DGi P w K mg base 1 (cA "Table") sp_Table___getitem := ⟨⟨_, (He.meth_ok (c.fact 77 (f := fA (.meth "Table" "__getitem__")) rfl)).at_, (He.meth_ok (c.fact 77 (f := fA (.meth "Table" "__getitem__")) rfl)).fn, (c.fact 78 (f := fFn "Table" "__getitem__") rfl), raw0 o_Table___getitem (F_Table___getitem.bindsN fun _ _ _ _ _ _ us hl => match us, hl with | [_, _], _ => rfl)⟩⟩
  have o_law_take := ok_law_take (P := P) (w := w) (base := base) F_law_take T 
  have c_law_take : DCal P w K mg base 1 "_law_take" sp_law_take [] := ⟨⟨_, fd_law_take, _, [], [], o_law_take, He.glo_ok X G (c.fact 6 (f := fA (.glo "_law_take")) rfl), F_law_take.kp, (F_law_take.bindsN fun _ _ _ _ _ _ us hl => match us, hl with | [_, _, _], _ => rfl), .nil, fun _ => .nil⟩⟩
  have o_law_rank := ok_law_rank (P := P) (w := w) (base := base) F_law_rank T 
  have c_law_rank : DCal P w K mg base 1 "_law_rank" sp_law_rank [] := ⟨⟨_, fd_law_rank, _, [], [], o_law_rank, He.glo_ok X G (c.fact 7 (f := fA (.glo "_law_rank")) rfl), F_law_rank.kp, (F_law_rank.bindsN fun _ _ _ _ _ _ us hl => match us, hl with | [_, _], _ => rfl), .nil, fun _ => .nil⟩⟩
  have o_law_find := ok_law_find (P := P) (w := w) (base := base) F_law_find T 
  have c_law_find : DCal P w K mg base 1 "_law_find" sp_law_find [] := ⟨⟨_, fd_law_find, _, [], [], o_law_find, He.glo_ok X G (c.fact 8 (f := fA (.glo "_law_find")) rfl), F_law_find.kp, (F_law_find.bindsN fun _ _ _ _ _ _ us hl => match us, hl with | [_, _], _ => rfl), .nil, fun _ => .nil⟩⟩
  have o_law_is_int := ok_law_is_int (P := P) (w := w) (base := base) F_law_is_int T 
  have c_law_is_int : DCal P w K mg base 1 "_law_is_int" sp_law_is_int [] := ⟨⟨_, fd_law_is_int, _, [], [], o_law_is_int, He.glo_ok X G (c.fact 9 (f := fA (.glo "_law_is_int")) rfl), F_law_is_int.kp, (F_law_is_int.bindsN fun _ _ _ _ _ _ us hl => match us, hl with | [_], _ => rfl), .nil, fun _ => .nil⟩⟩
  have o_check_width := ok_check_width (P := P) (w := w) (base := base) F_check_width T c_is_integer
  have c_check_width : DCal P w K mg base 2 "check_width" sp_check_width [] := ⟨⟨_, fd_check_width, _, [], [], o_check_width, He.glo_ok X G (c.fact 10 (f := fA (.glo "check_width")) rfl), F_check_width.kp, (F_check_width.bindsN fun _ _ _ _ _ _ us hl => match us, hl with | [_], _ => rfl), .nil, fun _ => .nil⟩⟩
  have o_is_row := ok_is_row (P := P) (w := w) (base := base) F_is_row T c_is_integer
  have c_is_row : DCal P w K mg base 2 "is_row" sp_is_row [] := ⟨⟨_, fd_is_row, _, [], [], o_is_row, He.glo_ok X G (c.fact 11 (f := fA (.glo "is_row")) rfl), F_is_row.kp, (F_is_row.bindsN fun _ _ _ _ _ _ us hl => match us, hl with | [_, _], _ => rfl), .nil, fun _ => .nil⟩⟩
  have o_in_order := ok_in_order (P := P) (w := w) (base := base) F_in_order T c_gap_size c_entry_key
  have c_in_order : DCal P w K mg base 2 "in_order" sp_in_order [] := ⟨⟨_, fd_in_order, _, [], [], o_in_order, He.glo_ok X G (c.fact 12 (f := fA (.glo "in_order")) rfl), F_in_order.kp, (F_in_order.bindsN fun _ _ _ _ _ _ us hl => match us, hl with | [_, _], _ => rfl), .nil, fun _ => .nil⟩⟩
  have o_Layer_growth := ok_Layer_growth (P := P) (w := w) (base := base) F_Layer_growth T c_entry_growth
  have p_Layer_growth : DPrp P w K mg base 2 (cA "Layer") "growth" sp_Layer_growth := ⟨⟨_, _, fPr_ok (c.fact 73 (f := fPr "Layer" "growth") rfl), raw0 o_Layer_growth (F_Layer_growth.bindsN fun _ _ _ _ _ _ us hl => match us, hl with | [_], _ => rfl)⟩⟩
  have o_Table_rank := ok_Table_rank (P := P) (w := w) (base := base) F_Table_rank T c_count_below
  have m_Table_rank : DMet P w K mg base 2 (cA "Table") "rank" sp_Table_rank := ⟨⟨_, He.meth_ok (c.fact 67 (f := fA (.meth "Table" "rank")) rfl), raw0 o_Table_rank (F_Table_rank.bindsN fun _ _ _ _ _ _ us hl => match us, hl with | [_, _], _ => rfl)⟩⟩
  have o_law_number := ok_law_number (P := P) (w := w) (base := base) F_law_number T c_law_take
  have c_law_number : DCal P w K mg base 2 "_law_number" sp_law_number [] := ⟨⟨_, fd_law_number, _, [], [], o_law_number, He.glo_ok X G (c.fact 13 (f := fA (.glo "_law_number")) rfl), F_law_number.kp, (F_law_number.bindsN fun _ _ _ _ _ _ us hl => match us, hl with | [_, _], _ => rfl), .nil, fun _ => .nil⟩⟩
  have o_law_width := ok_law_width (P := P) (w := w) (base := base) F_law_width T c_law_take
  have c_law_width : DCal P w K mg base 2 "_law_width" sp_law_width [] := ⟨⟨_, fd_law_width, _, [], [], o_law_width, He.glo_ok X G (c.fact 14 (f := fA (.glo "_law_width")) rfl), F_law_width.kp, (F_law_width.bindsN fun _ _ _ _ _ _ us hl => match us, hl with | [_, _], _ => rfl), .nil, fun _ => .nil⟩⟩
  have o_law_entries := ok_law_entries (P := P) (w := w) (base := base) F_law_entries T c_law_find c_law_rank
  have c_law_entries : DCal P w K mg base 2 "_law_entries" sp_law_entries [] := ⟨⟨_, fd_law_entries, _, [], [], o_law_entries, He.glo_ok X G (c.fact 15 (f := fA (.glo "_law_entries")) rfl), F_law_entries.kp, (F_law_entries.bindsN fun _ _ _ _ _ _ us hl => match us, hl with | [_, _], _ => rfl), .nil, fun _ => .nil⟩⟩
  have o_law_is_row := ok_law_is_row (P := P) (w := w) (base := base) F_law_is_row T c_law_is_int
  have c_law_is_row : DCal P w K mg base 2 "_law_is_row" sp_law_is_row [] := ⟨⟨_, fd_law_is_row, _, [], [], o_law_is_row, He.glo_ok X G (c.fact 16 (f := fA (.glo "_law_is_row")) rfl), F_law_is_row.kp, (F_law_is_row.bindsN fun _ _ _ _ _ _ us hl => match us, hl with | [_, _], _ => rfl), .nil, fun _ => .nil⟩⟩
  have o_check_rows := ok_check_rows (P := P) (w := w) (base := base) F_check_rows T c_is_row
  have c_check_rows : DCal P w K mg base 3 "check_rows" sp_check_rows [] := ⟨⟨_, fd_check_rows, _, [], [], o_check_rows, He.glo_ok X G (c.fact 17 (f := fA (.glo "check_rows")) rfl), F_check_rows.kp, (F_check_rows.bindsN fun _ _ _ _ _ _ us hl => match us, hl with | [_, _], _ => rfl), .nil, fun _ => .nil⟩⟩
  have o_is_entry := ok_is_entry (P := P) (w := w) (base := base) F_is_entry T c_is_integer c_is_row
  have c_is_entry : DCal P w K mg base 3 "is_entry" sp_is_entry [] := ⟨⟨_, fd_is_entry, _, [], [], o_is_entry, He.glo_ok X G (c.fact 18 (f := fA (.glo "is_entry")) rfl), F_is_entry.kp, (F_is_entry.bindsN fun _ _ _ _ _ _ us hl => match us, hl with | [_, _], _ => rfl), .nil, fun _ => .nil⟩⟩
  have o_Table_find := ok_Table_find (P := P) (w := w) (base := base) F_Table_find T m_Table_rank
  have m_Table_find : DMet P w K mg base 3 (cA "Table") "find" sp_Table_find := ⟨⟨_, He.meth_ok (c.fact 68 (f := fA (.meth "Table" "find")) rfl), raw0 o_Table_find (F_Table_find.bindsN fun _ _ _ _ _ _ us hl => match us, hl with | [_, _], _ => rfl)⟩⟩
  have o_law_rows := ok_law_rows (P := P) (w := w) (base := base) F_law_rows T c_law_take c_law_number
  have c_law_rows : DCal P w K mg base 3 "_law_rows" sp_law_rows [] := ⟨⟨_, fd_law_rows, _, [], [], o_law_rows, He.glo_ok X G (c.fact 19 (f := fA (.glo "_law_rows")) rfl), F_law_rows.kp, (F_law_rows.bindsN fun _ _ _ _ _ _ us hl => match us, hl with | [_, _, _, _], _ => rfl), .nil, fun _ => .nil⟩⟩
  have o_law_target := ok_law_target (P := P) (w := w) (base := base) F_law_target T c_law_take c_law_number
  have c_law_target : DCal P w K mg base 3 "_law_target" sp_law_target [] := ⟨⟨_, fd_law_target, _, [], [], o_law_target, He.glo_ok X G (c.fact 20 (f := fA (.glo "_law_target")) rfl), F_law_target.kp, (F_law_target.bindsN fun _ _ _ _ _ _ us hl => match us, hl with | [_, _, _, _, _], _ => rfl), .nil, fun _ => .nil⟩⟩
  have o_law_is_rows := ok_law_is_rows (P := P) (w := w) (base := base) F_law_is_rows T c_law_is_row
  have c_law_is_rows : DCal P w K mg base 3 "_law_is_rows" sp_law_is_rows [] := ⟨⟨_, fd_law_is_rows, _, [], [], o_law_is_rows, He.glo_ok X G (c.fact 21 (f := fA (.glo "_law_is_rows")) rfl), F_law_is_rows.kp, (F_law_is_rows.bindsN fun _ _ _ _ _ _ us hl => match us, hl with | [_, _], _ => rfl), .nil, fun _ => .nil⟩⟩
  have o_check_entries := ok_check_entries (P := P) (w := w) (base := base) F_check_entries T c_is_entry c_in_order
  have c_check_entries : DCal P w K mg base 4 "check_entries" sp_check_entries [] := ⟨⟨_, fd_check_entries, _, [], [], o_check_entries, He.glo_ok X G (c.fact 22 (f := fA (.glo "check_entries")) rfl), F_check_entries.kp, (F_check_entries.bindsN fun _ _ _ _ _ _ us hl => match us, hl with | [_, _], _ => rfl), .nil, fun _ => .nil⟩⟩
  have o_writer_at := ok_writer_at (P := P) (w := w) (base := base) F_writer_at T w_Layer c_entry_growth
  have c_writer_at : DCal P w K mg base 4 "writer_at" sp_writer_at [] := ⟨⟨_, fd_writer_at, _, [], [], o_writer_at, He.glo_ok X G (c.fact 23 (f := fA (.glo "writer_at")) rfl), F_writer_at.kp, (F_writer_at.bindsN fun _ _ _ _ _ _ us hl => match us, hl with | [_, _], _ => rfl), .nil, fun _ => .nil⟩⟩
  have o_old_place := ok_old_place (P := P) (w := w) (base := base) F_old_place T w_Layer c_entry_growth
  have c_old_place : DCal P w K mg base 4 "old_place" sp_old_place [] := ⟨⟨_, fd_old_place, _, [], [], o_old_place, He.glo_ok X G (c.fact 24 (f := fA (.glo "old_place")) rfl), F_old_place.kp, (F_old_place.bindsN fun _ _ _ _ _ _ us hl => match us, hl with | [_, _], _ => rfl), .nil, fun _ => .nil⟩⟩
  have o_Table___init := ok_Table___init (P := P) (w := w) (base := base) F_Table___init T c_check_width c_check_rows
  obtain ⟨ds_n_Table, hd_n_Table, hb_n_Table⟩ := F_Table___init.binds1 (ps := ["self", "width", "rows"]) 3 1 (List.cons_ne_nil _ _) rfl (fun _ _ _ _ _ _ _ us its hl hi => match us, its, hl, hi with | [_, _, _], [_], _, _ => ⟨_, rfl, rfl⟩)
  have n_Table : DNew P w K mg base 4 "Table" "Table" sp_Table_new := ⟨⟨_, He.mkr_ok (c.fact 70 (f := fA (.mkr "Table")) rfl), He.glo_ok X G (c.fact 52 (f := fA (.glo "Table")) rfl), (o_Table___init.raw hb_n_Table hd_n_Table).imp fun vs H Q E h => by show liftSp K sp_Table___init (vs ++ []) H Q E; rw [List.append_nil]; exact h⟩⟩
  have o_Table_misfit := ok_Table_misfit (P := P) (w := w) (base := base) F_Table_misfit T w_Layer c_entry_key m_Table_rank m_Table_find
  have m_Table_misfit : DMet P w K mg base 4 (cA "Table") "misfit" sp_Table_misfit := ⟨⟨_, He.meth_ok (c.fact 69 (f := fA (.meth "Table" "misfit")) rfl), raw0 o_Table_misfit (F_Table_misfit.bindsN fun _ _ _ _ _ _ us hl => match us, hl with | [_, _], _ => rfl)⟩⟩
  have o_laid := ok_laid (P := P) (w := w) (base := base) F_laid T w_Layer
  have c_laid : DCal P w K mg base 4 "laid" sp_laid [] := ⟨⟨_, fd_laid, _, [], [], o_laid, He.glo_ok X G (c.fact 25 (f := fA (.glo "laid")) rfl), F_laid.kp, (F_laid.bindsN fun _ _ _ _ _ _ us hl => match us, hl with | [_, _], _ => rfl), .nil, fun _ => .nil⟩⟩
  have o_law_chain := ok_law_chain (P := P) (w := w) (base := base) F_law_chain T c_law_rows c_law_target
  have c_law_chain : DCal P w K mg base 4 "_law_chain" sp_law_chain [] := ⟨⟨_, fd_law_chain, _, [], [], o_law_chain, He.glo_ok X G (c.fact 26 (f := fA (.glo "_law_chain")) rfl), F_law_chain.kp, (F_law_chain.bindsN fun _ _ _ _ _ _ us hl => match us, hl with | [_, _, _, _], _ => rfl), .nil, fun _ => .nil⟩⟩
  have o_Layer___init := ok_Layer___init (P := P) (w := w) (base := base) F_Layer___init T c_check_width c_check_entries c_entry_key
  obtain ⟨ds_n_Layer, hd_n_Layer, hb_n_Layer⟩ := F_Layer___init.binds1 (ps := ["self", "width", "entries"]) 3 1 (List.cons_ne_nil _ _) rfl (fun _ _ _ _ _ _ _ us its hl hi => match us, its, hl, hi with | [_, _, _], [_], _, _ => ⟨_, rfl, rfl⟩)
  have n_Layer : DNew P w K mg base 5 "Layer" "Layer" sp_Layer_new := ⟨⟨_, He.mkr_ok (c.fact 82 (f := fA (.mkr "Layer")) rfl), He.glo_ok X G (c.fact 48 (f := fA (.glo "Layer")) rfl), (o_Layer___init.raw hb_n_Layer hd_n_Layer).imp fun vs H Q E h => by show liftSp K sp_Layer___init (vs ++ []) H Q E; rw [List.append_nil]; exact h⟩⟩
  have o_Stack_size := ok_Stack_size (P := P) (w := w) (base := base) F_Stack_size T s_Table___len p_Layer_growth
  have p_Stack_size : DPrp P w K mg base 5 (cA "Stack") "size" sp_Stack_size := ⟨⟨_, _, fPr_ok (c.fact 74 (f := fPr "Stack" "size") rfl), raw0 o_Stack_size (F_Stack_size.bindsN fun _ _ _ _ _ _ us hl => match us, hl with | [_], _ => rfl)⟩⟩
  have o_Table___add := ok_Table___add (P := P) (w := w) (base := base) F_Table___add T m_Table_misfit c_laid n_Table
  have s_Table___add : DSpc P w K mg base 6 (cA "Table") "__add__" sp_Table___add := ⟨⟨_, (He.meth_ok (c.fact 71 (f := fA (.meth "Table" "__add__")) rfl)).at_, (He.meth_ok (c.fact 71 (f := fA (.meth "Table" "__add__")) rfl)).fn, raw0 o_Table___add (F_Table___add.bindsN fun _ _ _ _ _ _ us hl => match us, hl with | [_, _], _ => rfl)⟩⟩
  have o_Stack___init := ok_Stack___init (P := P) (w := w) (base := base) F_Stack___init T s_Table___add
  obtain ⟨ds_n_Stack, hd_n_Stack, hb_n_Stack⟩ := F_Stack___init.binds1 (ps := ["self", "base", "layers"]) 3 1 (List.cons_ne_nil _ _) rfl (fun _ _ _ _ _ _ _ us its hl hi => match us, its, hl, hi with | [_, _, _], [_], _, _ => ⟨_, rfl, rfl⟩)
  have n_Stack : DNew P w K mg base 7 "Stack" "Stack" sp_Stack_new := ⟨⟨_, He.mkr_ok (c.fact 83 (f := fA (.mkr "Stack")) rfl), He.glo_ok X G (c.fact 50 (f := fA (.glo "Stack")) rfl), (o_Stack___init.raw hb_n_Stack hd_n_Stack).imp fun vs H Q E h => by show liftSp K sp_Stack___init (vs ++ []) H Q E; rw [List.append_nil]; exact h⟩⟩
  have o_Stack_trace := ok_Stack_trace (P := P) (w := w) (base := base) F_Stack_trace T p_Stack_size c_writer_at c_old_place er_NoPlace
  have m_Stack_trace : DMet P w K mg base 7 (cA "Stack") "trace" sp_Stack_trace := ⟨⟨_, He.meth_ok (c.fact 75 (f := fA (.meth "Stack" "trace")) rfl), raw0 o_Stack_trace (F_Stack_trace.bindsN fun _ _ _ _ _ _ us hl => match us, hl with | [_, _], _ => rfl)⟩⟩
  have o_Stack_source := ok_Stack_source (P := P) (w := w) (base := base) F_Stack_source T m_Stack_trace c_writer_at
  have m_Stack_source : DMet P w K mg base 8 (cA "Stack") "source" sp_Stack_source := ⟨⟨_, He.meth_ok (c.fact 76 (f := fA (.meth "Stack" "source")) rfl), raw0 o_Stack_source (F_Stack_source.bindsN fun _ _ _ _ _ _ us hl => match us, hl with | [_, _], _ => rfl)⟩⟩
  have o_Stack_row_at := ok_Stack_row_at (P := P) (w := w) (base := base) F_Stack_row_at T m_Stack_source gi_Table s_Layer___len i_Layer
  have m_Stack_row_at : DMet P w K mg base 9 (cA "Stack") "row_at" sp_Stack_row_at := ⟨⟨_, He.meth_ok (c.fact 80 (f := fA (.meth "Stack" "row_at")) rfl), raw0 o_Stack_row_at (F_Stack_row_at.bindsN fun _ _ _ _ _ _ us hl => match us, hl with | [_, _], _ => rfl)⟩⟩
  have o_Stack_stretch := ok_Stack_stretch (P := P) (w := w) (base := base) F_Stack_stretch T c_end_place p_Stack_size m_Stack_row_at
  obtain ⟨ds_gm2__Stack_stretch, hd_gm2__Stack_stretch, hb_gm2__Stack_stretch⟩ := F_Stack_stretch.binds1 (ps := ["self", "start", "stop"]) 3 2 (List.cons_ne_nil _ _) rfl (fun _ _ _ _ _ _ _ us its hl hi => match us, its, hl, hi with | [_, _, _], [_, _], _, _ => ⟨_, rfl, by first | rfl | kernel_rfl⟩)
  have gm2__Stack_stretch : DMetG P w K mg base 10 (cA "Stack") "stretch" 2 [] (gPos sp_Stack_stretch []) := ⟨⟨_, He.meth_ok (c.fact 81 (f := fA (.meth "Stack" "stretch")) rfl), grun_pos o_Stack_stretch hb_gm2__Stack_stretch hd_gm2__Stack_stretch (fun _ => .nil)⟩⟩
  obtain ⟨ds_gm1__Stack_stretch, hd_gm1__Stack_stretch, hb_gm1__Stack_stretch⟩ := F_Stack_stretch.binds1 (ps := ["self", "start", "stop"]) 2 1 (List.cons_ne_nil _ _) rfl (fun _ _ _ _ _ _ _ us its hl hi => match us, its, hl, hi with | [_, _], [_, _], _, _ => ⟨_, rfl, by first | rfl | kernel_rfl⟩)
  have gm1__Stack_stretch : DMetG P w K mg base 10 (cA "Stack") "stretch" 1 [] (gPos sp_Stack_stretch [.non]) := ⟨⟨_, He.meth_ok (c.fact 81 (f := fA (.meth "Stack" "stretch")) rfl), grun_pos o_Stack_stretch hb_gm1__Stack_stretch hd_gm1__Stack_stretch (fun _ => .cons .non (.nil))⟩⟩
  obtain ⟨mv_gm0_stop_Stack_stretch, hb_gm0_stop_Stack_stretch⟩ := kbindsM (ps := ["self", "start", "stop"]) F_Stack_stretch 1 ["stop"] 0 1 (List.cons_ne_nil _ _) (fun _ _ _ _ _ _ _ us its ws hl hi hw => match us, its, ws, hl, hi, hw with | [_], [_, _], [_], _, _, _ => ⟨_, rfl, by first | rfl | kernel_rfl⟩)
  have gm0_stop_Stack_stretch : DMetG P w K mg base 10 (cA "Stack") "stretch" 0 ["stop"] (gKw sp_Stack_stretch 1 [.int 0]) := ⟨⟨_, He.meth_ok (c.fact 81 (f := fA (.meth "Stack" "stretch")) rfl), grun_kw o_Stack_stretch hb_gm0_stop_Stack_stretch (fun _ => .cons (.int _) (.nil))⟩⟩
  obtain ⟨ds_gw_Stack_stretch, hd_gw_Stack_stretch, hb_gw_Stack_stretch⟩ := F_Stack_stretch.binds1 (ps := ["self", "start", "stop"]) 1 0 (List.cons_ne_nil _ _) rfl (fun _ _ _ _ _ _ _ us its hl hi => match us, its, hl, hi with | [_], [_, _], _, _ => ⟨_, rfl, by first | rfl | kernel_rfl⟩)
  have gw_Stack_stretch : DMetWk P w K mg base 10 (cA "Stack") "stretch" 0 (wPos spw_Stack_stretch [.int 0, .non]) := ⟨⟨_, He.meth_ok (c.fact 81 (f := fA (.meth "Stack" "stretch")) rfl), gwrun_pos (okw_Stack_stretch (P := P) (w := w) (base := base) F_Stack_stretch T c_end_place p_Stack_size m_Stack_row_at) hb_gw_Stack_stretch hd_gw_Stack_stretch (fun _ => .cons (.int _) (.cons .non (.nil)))⟩⟩
  have o_law_stretches := ok_law_stretches (P := P) (w := w) (base := base) F_law_stretches T c_law_is_rows gm2__Stack_stretch gm1__Stack_stretch gm0_stop_Stack_stretch
  have c_law_stretches : DCal P w K mg base 14 "_law_stretches" sp_law_stretches [] := ⟨⟨_, fd_law_stretches, _, [], [], o_law_stretches, He.glo_ok X G (c.fact 27 (f := fA (.glo "_law_stretches")) rfl), F_law_stretches.kp, (F_law_stretches.bindsN fun _ _ _ _ _ _ us hl => match us, hl with | [_, _, _, _], _ => rfl), .nil, fun _ => .nil⟩⟩
  have o_law_walked := ok_law_walked (P := P) (w := w) (base := base) F_law_walked T gw_Stack_stretch c_law_is_row c_law_is_rows gm1__Stack_stretch
  have c_law_walked : DCal P w K mg base 14 "_law_walked" sp_law_walked [] := ⟨⟨_, fd_law_walked, _, [], [], o_law_walked, He.glo_ok X G (c.fact 28 (f := fA (.glo "_law_walked")) rfl), F_law_walked.kp, (F_law_walked.bindsN fun _ _ _ _ _ _ us hl => match us, hl with | [_, _], _ => rfl), .nil, fun _ => .nil⟩⟩
  exact ok_law F_law T c_law_width c_law_chain c_law_take c_law_entries n_Layer n_Table n_Stack c_law_stretches c_law_walked
end LawW
open PySem PySem.W PySem.Calls PyProof.Rows
set_option maxRecDepth 100000 in
set_option maxHeartbeats 0 in
theorem PySem.Challenge.cw_placelayers_k43_stretches_holds : PySem.Challenge.rw_placelayers_k43_stretches.Holds := by
  w_on; o_law
  refine HandSHeadRun.head_any (r := OpenLaw.row PySem.Challenge.rw_placelayers_k43_stretches) (q := view (OpenLaw.row PySem.Challenge.rw_placelayers_k43_stretches).prog [71]) (H := LawW.hk) (ob := LawW.ob) (M := 30000) (loose := LawW.loose) (d := HandSHeadRun.topDef (OpenLaw.row PySem.Challenge.rw_placelayers_k43_stretches).prog 71) (kwd := []) LawW.ob_eq
    (by kernel_rfl) (fun s => by kernel_rfl) LawW.run (by kernel_rfl) (by kernel_rfl) (by kernel_rfl) (by rfl) (by first | assumption | decide +kernel) (by decide +kernel) ⟨rfl, rfl, rfl, rfl, rfl, by decide +kernel⟩ ?hw ?hc
  case hw => w_witness2
  case hc =>
    refine L2.walk_ofE (l := PySem.Challenge.rw_placelayers_k43_stretches) (n := 63) (k := 15) (x := "_law_script") (CX := L2.CX0) rfl (by decide) (by kernel_rfl) ⟨rfl, by decide, by decide⟩ ?F (fun _ _ _ _ z => z)
    intro w mg fa h Y G hmg0
    obtain ⟨K, KX, c⟩ := Y
    have hmg : mg ("law" : PySem.Str) = some (.ref fa) := by
      have e : (HandSHeadRun.topDef (OpenLaw.row PySem.Challenge.rw_placelayers_k43_stretches).prog 71).name = ("law" : PySem.Str) := by kernel_rfl
      rw [← e]
      exact hmg0
    obtain ⟨fd, hb, hF⟩ := LawW.facts (P := (PySem.Challenge.rw_placelayers_k43_stretches).prog) (w := w) KX G hmg ⟨by kernel_rfl, by kernel_rfl⟩ c
    exact ⟨K, fd, DL.liftSp K DL.sp_law, KX, hb, fun H a ns hl _ hS => DL.law_start hl hS, fun base X G => DL.fn_quiet (hF base X G) DL.law_quiet⟩
