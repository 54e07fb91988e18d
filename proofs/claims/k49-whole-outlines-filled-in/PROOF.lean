import PyProof.Rows.All
import Wide.All
import OpenK.AllK
import Wide.FinOn
import KE.KStateDown
import HandS.Base
import HandS.Call
import HandS.Ends
import HandS.More
import HandS.Words
import HandS.Codes
import HandS.Defaults
import HandS.Slots
import HandS.Head0
import HandS.Head1
import HandS.Head2
import HandS.HeadEnd
import HandS.HeadHook1
import HandS.HeadHook2
import HandS.HeadHook3
import HandS.Property
import HandS.SlotsOwn
import HandS.List
import HandS.TupAny
import HandS.Comp
import HandS.Dict
import HandS.DictComp
import HandS.Iter
import HandS.Zip
import HandS.IsInst
import HandS.Style
import HandS.Conv
import HandS.ListItems
import HandS.Text
import HandS.Walk
import HandS.Keys
import PyProof.AutoSeq1
import HandS.TupSets
import KE.KDictPairs
import HandS.DictTup
import KE.KDictWalk
import KE.KDictDisplayH
import HandS.NamedTupGet
import HandS.OwnEq
import HandS.ListEq
import HandS.DictEq
import PyProof.DictUpdate
import PySem.Challenge.RW_stillread_k49_whole_outlines_filled_in
set_option Elab.async false
set_option linter.all false
set_option maxRecDepth 100000
set_option maxHeartbeats 0
namespace SR
open PySem PySem.Spec PyProof.Rows L2
/-! the text by places -/
def top (i : Nat) : Stmt := PySem.Challenge.pw_stillread_k49_whole_outlines_filled_in.main.body.getD i (.Pass ⟨0, 0, 0, 0⟩)

abbrev st_is_whole : Stmt := top 13
abbrev st_is_within : Stmt := top 14
abbrev st_is_cell : Stmt := top 15
abbrev st_is_cells : Stmt := top 16
abbrev st_is_name : Stmt := top 17
abbrev st_is_tree : Stmt := top 27
abbrev st_require_tree : Stmt := top 28
abbrev st_is_save_name : Stmt := top 31
abbrev st_require_save_name : Stmt := top 32
abbrev st_new_length : Stmt := top 40
abbrev st_is_patch_mark : Stmt := top 41
abbrev st_is_mark : Stmt := top 42
abbrev st_is_source : Stmt := top 43
abbrev st_is_piece : Stmt := top 44
abbrev st_goes_on : Stmt := top 45
abbrev st_is_row : Stmt := top 46
abbrev st_length_in : Stmt := top 47
abbrev st_row_of : Stmt := top 48
abbrev st_part_in : Stmt := top 49
abbrev st_joined_in : Stmt := top 50
abbrev st_origin_in : Stmt := top 51
abbrev st_require_mark : Stmt := top 52
abbrev st_require_row : Stmt := top 53
abbrev st_row_length : Stmt := top 54
abbrev st_origin : Stmt := top 55
abbrev st_cells_of_row : Stmt := top 60
abbrev st_require_save_cells : Stmt := top 62
abbrev st_law_deck : Stmt := top 64
abbrev st_law_dealt : Stmt := top 65
abbrev st_law_card : Stmt := top 66
abbrev st_law_cells : Stmt := top 67
abbrev st_law_new : Stmt := top 68
abbrev st_law_done : Stmt := top 69
abbrev st_law_mark : Stmt := top 70
abbrev st_law_deed_by : Stmt := top 71
abbrev st_law_length : Stmt := top 72
abbrev st_law_behind : Stmt := top 73
abbrev st_law_any_tree : Stmt := top 74
abbrev st_law_any_deed : Stmt := top 75
abbrev st_law_run : Stmt := top 76
abbrev st_law_marks_of : Stmt := top 77
abbrev st_law_all_behind : Stmt := top 78
abbrev st_law_asked : Stmt := top 79
abbrev st_law_fits : Stmt := top 80
abbrev st_law_other_tree : Stmt := top 81
abbrev st_law_save : Stmt := top 82
abbrev st_law_spotted : Stmt := top 83
abbrev st_law_outline : Stmt := top 84
abbrev st_law_is_outline : Stmt := top 85
abbrev st_law_right : Stmt := top 86
abbrev st_law : Stmt := top 87
abbrev sm_init : Stmt := inClass (top 61) 1
abbrev sm_copied : Stmt := inClass (top 61) 6
abbrev sm_is_fresh : Stmt := inClass (top 61) 7
abbrev sm_ask : Stmt := inClass (top 61) 8
abbrev sm_reason_for : Stmt := inClass (top 61) 9
abbrev sm_follow : Stmt := inClass (top 61) 10
abbrev sm_led : Stmt := inClass (top 61) 11
abbrev sm_behind : Stmt := inClass (top 61) 12
abbrev sm_fits : Stmt := inClass (top 61) 13
abbrev sm_does_fit : Stmt := inClass (top 61) 14
abbrev sm_wanted : Stmt := inClass (top 61) 15
abbrev sm_filled : Stmt := inClass (top 61) 16
abbrev sm_eq : Stmt := inClass (top 61) 17
abbrev sm_len : Stmt := inClass (top 61) 18
abbrev sm_ground : Stmt := inClass (top 61) 2
abbrev sm_entries : Stmt := inClass (top 61) 3
abbrev sm_gone : Stmt := inClass (top 61) 4
abbrev sm_asks : Stmt := inClass (top 61) 5
/-! the tables -/
def gdefs : List (Str × Stmt) := [(("is_whole" : Str), st_is_whole), (("is_within" : Str), st_is_within), (("is_cell" : Str), st_is_cell), (("is_cells" : Str), st_is_cells), (("is_name" : Str), st_is_name), (("is_tree" : Str), st_is_tree), (("require_tree" : Str), st_require_tree), (("is_save_name" : Str), st_is_save_name), (("require_save_name" : Str), st_require_save_name), (("new_length" : Str), st_new_length), (("is_patch_mark" : Str), st_is_patch_mark), (("is_mark" : Str), st_is_mark), (("is_source" : Str), st_is_source), (("is_piece" : Str), st_is_piece), (("goes_on" : Str), st_goes_on), (("is_row" : Str), st_is_row), (("length_in" : Str), st_length_in), (("row_of" : Str), st_row_of), (("part_in" : Str), st_part_in), (("joined_in" : Str), st_joined_in), (("origin_in" : Str), st_origin_in), (("require_mark" : Str), st_require_mark), (("require_row" : Str), st_require_row), (("row_length" : Str), st_row_length), (("origin" : Str), st_origin), (("cells_of_row" : Str), st_cells_of_row), (("require_save_cells" : Str), st_require_save_cells), (("_law_deck" : Str), st_law_deck), (("_law_dealt" : Str), st_law_dealt), (("_law_card" : Str), st_law_card), (("_law_cells" : Str), st_law_cells), (("_law_new" : Str), st_law_new), (("_law_done" : Str), st_law_done), (("_law_mark" : Str), st_law_mark), (("_law_deed_by" : Str), st_law_deed_by), (("_law_length" : Str), st_law_length), (("_law_behind" : Str), st_law_behind), (("_law_any_tree" : Str), st_law_any_tree), (("_law_any_deed" : Str), st_law_any_deed), (("_law_run" : Str), st_law_run), (("_law_marks_of" : Str), st_law_marks_of), (("_law_all_behind" : Str), st_law_all_behind), (("_law_asked" : Str), st_law_asked), (("_law_fits" : Str), st_law_fits), (("_law_other_tree" : Str), st_law_other_tree), (("_law_save" : Str), st_law_save), (("_law_spotted" : Str), st_law_spotted), (("_law_outline" : Str), st_law_outline), (("_law_is_outline" : Str), st_law_is_outline), (("_law_right" : Str), st_law_right), (("law" : Str), st_law)]
def mdefs : List (Str × Str × Stmt) := [(("__init__" : Str), ("Outline.__init__" : Str), sm_init), (("copied" : Str), ("Outline.copied" : Str), sm_copied), (("is_fresh" : Str), ("Outline.is_fresh" : Str), sm_is_fresh), (("ask" : Str), ("Outline.ask" : Str), sm_ask), (("reason_for" : Str), ("Outline.reason_for" : Str), sm_reason_for), (("follow" : Str), ("Outline.follow" : Str), sm_follow), (("led" : Str), ("Outline.led" : Str), sm_led), (("behind" : Str), ("Outline.behind" : Str), sm_behind), (("fits" : Str), ("Outline.fits" : Str), sm_fits), (("does_fit" : Str), ("Outline.does_fit" : Str), sm_does_fit), (("wanted" : Str), ("Outline.wanted" : Str), sm_wanted), (("filled" : Str), ("Outline.filled" : Str), sm_filled), (("__eq__" : Str), ("Outline.__eq__" : Str), sm_eq), (("__len__" : Str), ("Outline.__len__" : Str), sm_len)]
def pdefs : List (Str × Str × Stmt) := [(("ground" : Str), ("Outline.ground" : Str), sm_ground), (("entries" : Str), ("Outline.entries" : Str), sm_entries), (("gone" : Str), ("Outline.gone" : Str), sm_gone), (("asks" : Str), ("Outline.asks" : Str), sm_asks)]
def slts : List (Str × Nat) := [(("own_asks" : Str), 0), (("own_entries" : Str), 1), (("own_gone" : Str), 2), (("own_ground" : Str), 3)]
def frees : List Str := [("isinstance" : Str), ("all" : Str), ("any" : Str), ("len" : Str), ("sum" : Str), ("max" : Str), ("min" : Str), ("tuple" : Str), ("list" : Str), ("dict" : Str), ("sorted" : Str), ("zip" : Str), ("enumerate" : Str), ("range" : Str), ("int" : Str), ("abs" : Str), ("str" : Str), ("bool" : Str)]
def cints : List (Str × Int) := [(("MAX_CELL" : Str), 996), (("MAX_NAME" : Str), 4), (("MOST_LENGTH" : Str), 996), (("MOST_NEW" : Str), 48), (("PAIR_histories" : Str), 2), (("PAIR_marks" : Str), 2), (("TRIPLE" : Str), 3), (("LONGEST" : Str), 999999999999999999999999999999999999999999999999999999999999)]
def cstrs : List (Str × Str) := [(("PUT" : Str), ("put" : Str)), (("PATCH" : Str), ("patch" : Str)), (("DROP" : Str), ("drop" : Str)), (("RENAME" : Str), ("rename" : Str)), (("GONE" : Str), ("gone" : Str)), (("THERE" : Str), ("there" : Str)), (("NEW" : Str), ("new" : Str)), (("BELOW" : Str), ("below" : Str)), (("LENGTH" : Str), ("length" : Str)), (("FIT" : Str), ("fit" : Str)), (("CELLS" : Str), ("cells" : Str)), (("LETTERS" : Str), ("abcdefghijklmnopqrstuvwxyz" : Str))]
/-! what is asked of the written part -/
def gD (q : Str × Stmt) : He.DefD := ⟨(q.1, none), q.1, q.1, defArgs q.2, defBody q.2, defScope q.2, [], []⟩
def mD (q : Str × Str × Stmt) : He.DefD := ⟨("Outline", some q.1), q.1, q.2.1, defArgs q.2.2, defBody q.2.2, defScope q.2.2, [], []⟩
def fn : List He.DefD := gdefs.map gD ++ mdefs.map mD
def fa : List He.Fa := gdefs.map (fun q => He.Fa.glo q.1) ++ (mdefs.map (fun q => He.Fa.meth "Outline" q.1) ++ (frees.map He.Fa.free ++ (cints.map (fun q => He.Fa.int q.1 q.2) ++ (cstrs.map (fun q => He.Fa.str q.1 q.2) ++ [He.Fa.mkr "Outline", He.Fa.glo "Outline", He.Fa.glo "SIZES"]))))
/-- the class Outline -/
def oC (K : PySem.W.Frag) : Addr := He.ga K "Outline"
def pA (K : PySem.W.Frag) (m : Str) : Addr := He.ma K (oC K) m
/-- a property's getter -/
def gA (K : PySem.W.Frag) (m : Str) : Addr := match PySem.W.recIn K (pA K m) "property" with
  | some (.ref g :: _) => g
  | _ => 0
def eqV (a b : Option Value) : Bool := decide (a = b)
def slB (K : PySem.W.Frag) (q : Str × Nat) : Bool := He.eqO (PySem.W.findIn K (.ref (oC K)) q.1) (some (some (.ref (pA K q.1)))) && (He.eqO (PySem.W.specialIn K (.ref (pA K q.1)) "__get__") (some (some (.builtin "member_descriptor.__get__"))) &&
  (decide (PySem.W.takesIn K (.ref (pA K q.1)) = some true) && (eqV (PySem.W.typeIn K (.ref (pA K q.1))) (some (.type "member_descriptor")) && decide (PySem.W.slotIn K (pA K q.1) (oC K) = some q.2))))
def fdP (K : PySem.W.Frag) (a : Addr) : Option FuncData := match K.lookup a with
  | some ⟨_, _, .func fd, _⟩ => some fd
  | _ => none
/-- what a getter's object tells, to be compared -/
def fdW (K : PySem.W.Frag) (a : Addr) : He.FnW := (fdP K a).map fun fd => (fd.name, fd.qualname, fd.params, fd.body, fd.scope, fd.globals, fd.closure, fd.builtins)
def prB (K : PySem.W.Frag) (q : Str × Str × Stmt) : Bool := He.eqO (PySem.W.findIn K (.ref (oC K)) q.1) (some (some (.ref (pA K q.1)))) && (He.eqO (PySem.W.specialIn K (.ref (pA K q.1)) "__get__") (some (some (.builtin "property.__get__"))) &&
  (decide (PySem.W.takesIn K (.ref (pA K q.1)) = some true) && ((match PySem.W.recIn K (pA K q.1) "property" with | some (.ref _ :: _) => true | _ => false) && (PySem.W.keepIn K (.ref (gA K q.1)) && (match fdP K (gA K q.1) with
    | some fd => PySem.W.codeIn K fd.code q.2.1 && (match fd.defaults with | .none => true | _ => false)
    | none => false)))))
def szB (K : PySem.W.Frag) (x : Str) (n : Int) : Bool := match PySem.W.nsIn K (He.ga K "SIZES") x with
  | some (some (.int j _)) => decide (j = n)
  | _ => false
def moreB (K : PySem.W.Frag) : Bool := slts.all (slB K) && (pdefs.all (prB K) &&
  (PySem.W.plainGet K (oC K) Str.empty && (PySem.W.isClsIn K (oC K) && (PySem.W.plainOver K (oC K) && (He.eqO (PySem.W.findIn K (.ref (oC K)) "__setattr__") (some (some (.builtin "object.__setattr__"))) &&
  (He.eqO (PySem.W.findIn K (.ref (oC K)) "__class__") (some (some (.builtin "object.__class__"))) && (He.eqO (PySem.W.specialIn K (.builtin "object.__class__") "__get__") (some (some (.builtin "getset_descriptor.__get__"))) && (decide (PySem.W.takesIn K (.builtin "object.__class__") = some true) &&
  (decide (PySem.W.mroIn K (oC K) (.type "object") = some true) && (decide (PySem.W.kitOne K (.ref (oC K)) (.ref (oC K)) = some true) && (decide (PySem.W.kitOne K (.type "dict") (.ref (oC K)) = some false) && (He.eqO (PySem.W.findIn K (.ref (oC K)) "__ne__") (some (some (.builtin "object.__ne__"))) &&
  (PySem.W.notFirst K (oC K) (.ref (oC K)) && (szB K "put" 3 && (szB K "patch" 6 && (szB K "drop" 3 && szB K "rename" 4))))))))))))))))
abbrev AlS : Type := (Bool × List He.FnW) × Bool × List He.FnW × Option (List (Option (Str × Int)))
def szK : List Str := [("put" : Str), ("patch" : Str), ("drop" : Str), ("rename" : Str)]
def obsS (K : PySem.W.Frag) : AlS := (He.obsD fa fn K, moreB K, (pdefs.map fun q => fdW K (gA K q.1)), He.dicW K (He.ga K "SIZES"))
def valS (w : World) : AlS := (He.valD fn, true, (pdefs.map fun q => some (q.1, q.2.1, defArgs q.2.2, .stmts (defBody q.2.2), defScope q.2.2, mainGlobals, [], builtinsNs)), some (He.keysIn w.params szK))
def SaysS (w : World) (K : PySem.W.Frag) : Prop := obsS K = valS w
def obsSG (n : Nat) (g : Addr → Option Obj) : AlS := obsS (He.frG g (He.asD g n))
def hookS (n : Nat) : PySem.W.Hook where
  α := AlS
  obs := fun s => obsSG n s.heap.get?
  val := fun w => valS w
  says := fun w h => ∃ K : PySem.W.Frag, K.In h ∧ SaysS w K
  of := fun _ _ e => ⟨_, He.frG_in, e⟩
  keeps := fun _ _ _ ⟨K, hK, c⟩ k => ⟨K, PySem.W.Frag.In.keeps hK k, c⟩
theorem obsSG_eq {n : Nat} {g : Addr → Option Obj} {s : Shared} (h : ∀ a, g a = s.heap.get? a) : obsSG n g = (hookS n).obs s := by
  have e : g = s.heap.get? := funext h
  rw [e] <;> rfl
abbrev R : PySem.W.OpenRow := PySem.W.OpenLaw.row PySem.Challenge.rw_stillread_k49_whole_outlines_filled_in
abbrev hk : PySem.W.Hook := hookS 5
def ob (s : PySem.W.SharedT) : AlS := obsSG 5 (HandSHeadRun.getT s)
theorem ob_eq (s : PySem.W.SharedT) : ob s = hk.obs s.abs := obsSG_eq (HandSHeadRun.getT_eq s)
def loose0 : List Str := [("__name__" : Str), ("StillError" : Str), ("InvalidCells" : Str), ("InvalidDeed" : Str), ("InvalidTree" : Str), ("InvalidSave" : Str), ("InvalidOperation" : Str), ("InvalidNumber" : Str), ("Refused" : Str), ("MAX_CELL" : Str), ("MAX_NAME" : Str), ("LETTERS" : Str), ("is_whole" : Str), ("is_within" : Str), ("is_cell" : Str), ("is_cells" : Str), ("is_name" : Str), ("MOST_LENGTH" : Str), ("MOST_NEW" : Str), ("PUT" : Str), ("PATCH" : Str), ("DROP" : Str), ("RENAME" : Str), ("GONE" : Str), ("THERE" : Str), ("is_tree" : Str), ("require_tree" : Str), ("PAIR_histories" : Str), ("is_save_name" : Str), ("require_save_name" : Str)]
def loose1 : List Str := [("NEW" : Str), ("BELOW" : Str), ("PAIR_marks" : Str), ("TRIPLE" : Str), ("LONGEST" : Str), ("SIZES" : Str), ("new_length" : Str), ("is_patch_mark" : Str), ("is_mark" : Str), ("is_source" : Str), ("is_piece" : Str), ("goes_on" : Str), ("is_row" : Str), ("length_in" : Str), ("row_of" : Str), ("part_in" : Str), ("joined_in" : Str), ("origin_in" : Str), ("require_mark" : Str), ("require_row" : Str), ("row_length" : Str), ("origin" : Str), ("LENGTH" : Str), ("FIT" : Str), ("CELLS" : Str), ("cells_of_row" : Str), ("Outline" : Str), ("require_save_cells" : Str), ("_law_deck" : Str), ("_law_dealt" : Str)]
def loose2 : List Str := [("_law_card" : Str), ("_law_cells" : Str), ("_law_new" : Str), ("_law_done" : Str), ("_law_mark" : Str), ("_law_deed_by" : Str), ("_law_length" : Str), ("_law_behind" : Str), ("_law_any_tree" : Str), ("_law_any_deed" : Str), ("_law_run" : Str), ("_law_marks_of" : Str), ("_law_all_behind" : Str), ("_law_asked" : Str), ("_law_fits" : Str), ("_law_other_tree" : Str), ("_law_save" : Str), ("_law_spotted" : Str), ("_law_outline" : Str), ("_law_is_outline" : Str), ("_law_right" : Str)]
abbrev looseAll : List Str := loose0 ++ loose1 ++ loose2
end SR
set_option Elab.async false
set_option linter.all false
set_option maxRecDepth 100000
set_option maxHeartbeats 0
namespace SR
open PySem PySem.Spec PyProof.Rows L2
theorem runF (w : World) : HandSHeadRun.RunEq R (PySem.W.view R.prog [87]) hk ob 8000 looseAll (w.withFollow "special-get-raises" false) := by
  intro os
  kernel_rfl
theorem runT (w : World) : HandSHeadRun.RunEq R (PySem.W.view R.prog [87]) hk ob 8000 looseAll (w.withFollow "special-get-raises" true) := by
  intro os
  kernel_rfl
theorem run (w : World) : HandSHeadRun.RunEq R (PySem.W.view R.prog [87]) hk ob 8000 looseAll w :=
  PySem.W.byRow2 "special-get-raises" (P := fun w => HandSHeadRun.RunEq R (PySem.W.view R.prog [87]) hk ob 8000 looseAll w) runF runT w
end SR
set_option Elab.async false
set_option linter.all false
set_option maxRecDepth 100000
set_option maxHeartbeats 0
namespace SR
open PySem PySem.Spec PyProof.Rows L2
/-! what every def's proof leans on: the written part as the top left it -/
structure Txt (w : World) (K : PySem.W.Frag) (mg : Str → Option Value) : Prop where
  g : ∀ q ∈ gdefs, ∃ fd, FunD K q.1 q.1 (defArgs q.2) (defBody q.2) (defScope q.2) [] [] (He.ga K q.1) fd ∧ mg q.1 = some (.ref (He.ga K q.1))
  m : ∀ q ∈ mdefs, ∃ fd, FunD K q.1 q.2.1 (defArgs q.2.2) (defBody q.2.2) (defScope q.2.2) [] [] (pA K q.1) fd ∧ Meth K (oC K) q.1 (pA K q.1)
  p : ∀ q ∈ pdefs, ∃ fd, FunD K q.1 q.2.1 (defArgs q.2.2) (defBody q.2.2) (defScope q.2.2) [] [] (gA K q.1) fd ∧ PropOf K (oC K) q.1 (pA K q.1) (gA K q.1)
  fr : ∀ x ∈ frees, mg x = none
  ci : ∀ q ∈ cints, ∃ t, mg q.1 = some (.int q.2 t)
  cs : ∀ q ∈ cstrs, ∃ t, mg q.1 = some (.str q.2 t)
  sl : ∀ q ∈ slts, SlX.Slot1 K (oC K) q.1 (pA K q.1) q.2
  sc : SlX.SCls K (oC K)
  mkr : Mk K (oC K) (pA K "__init__")
  mgO : mg "Outline" = some (.ref (oC K))
  mgS : mg "SIZES" = some (.ref (He.ga K "SIZES"))
  sz : ∃ es n, KDict K w (He.ga K "SIZES") es n
  szv : ∀ q ∈ ([(("put" : Str), (3 : Int)), (("patch" : Str), 6), (("drop" : Str), 3), (("rename" : Str), 4)] : List (Str × Int)), ∃ t, PySem.W.nsIn K (He.ga K "SIZES") q.1 = some (some (.int q.2 t))
  isi : SlX.SIsi K (oC K)
  kit1 : PySem.W.kitOne K (.ref (oC K)) (.ref (oC K)) = some true
  kit2 : PySem.W.kitOne K (.type "dict") (.ref (oC K)) = some false
  ne : PySem.W.findIn K (.ref (oC K)) "__ne__" = some (some (.builtin "object.__ne__"))
  nf : PySem.W.notFirst K (oC K) (.ref (oC K)) = true

theorem bA {a b : Bool} (h : (a && b) = true) : a = true ∧ b = true := Bool.and_eq_true_iff.mp h
theorem facts_all {K : PySem.W.Frag} (c : He.SaysD fa fn K) : ∀ f ∈ fa, f.ok K = true := by
  have c1 := congrArg (fun z : He.AlD => z.1) c
  have c2 := (bA (show ((fa.all fun f => f.ok K) && fn.all fun d => d.ok K) = true from c1)).1
  exact List.all_eq_true.mp c2
theorem defs_all {K : PySem.W.Frag} (c : He.SaysD fa fn K) : ∀ d ∈ fn, ∃ fd, FunD K d.name d.qual d.params d.body d.scope (d.dvs K) (d.kws K) (He.fAd K d.at_) fd := by
  intro d hd
  obtain ⟨i, hi, e⟩ := List.mem_iff_getElem.mp hd
  exact c.def_ i (d := d) (by rw [List.getElem?_eq_getElem hi, e])
theorem fdP_some {K : PySem.W.Frag} {a : Addr} {fd : FuncData} (h : fdP K a = some fd) : ∃ oc od osl, K.lookup a = some ⟨oc, od, .func fd, osl⟩ := by
  unfold fdP at h
  split at h
  · rename_i oc od fd2 osl q
    have e : fd2 = fd := Option.some.inj h
    subst e
    exact ⟨oc, od, osl, q⟩
  · cases h
theorem prop_one {K : PySem.W.Frag} {q : Str × Str × Stmt} (h1 : prB K q = true) (h2 : fdW K (gA K q.1) = some (q.1, q.2.1, defArgs q.2.2, .stmts (defBody q.2.2), defScope q.2.2, mainGlobals, [], builtinsNs)) :
    ∃ fd, FunD K q.1 q.2.1 (defArgs q.2.2) (defBody q.2.2) (defScope q.2.2) [] [] (gA K q.1) fd ∧ PropOf K (oC K) q.1 (pA K q.1) (gA K q.1) := by
  unfold prB at h1
  obtain ⟨a1, h1⟩ := bA h1
  obtain ⟨a2, h1⟩ := bA h1
  obtain ⟨a3, h1⟩ := bA h1
  obtain ⟨a4, h1⟩ := bA h1
  obtain ⟨a5, a6⟩ := bA h1
  have hp : PropOf K (oC K) q.1 (pA K q.1) (gA K q.1) := by
    refine ⟨He.eqO_ok a1, He.eqO_ok a2, of_decide_eq_true a3, ?_⟩
    unfold gA
    split at a4
    · rename_i g r e
      rw [e]
      exact ⟨r, rfl⟩
    · cases a4
  cases hf : fdP K (gA K q.1) with
  | none =>
    rw [hf] at a6
    cases a6
  | some fd =>
    rw [hf] at a6
    obtain ⟨b1, b2⟩ := bA a6
    obtain ⟨oc, od, osl, lk⟩ := fdP_some hf
    unfold fdW at h2
    rw [hf] at h2
    obtain ⟨n1, n2, n3, n4, n5, n6, n7, n8, n9, n10, n11, n12, n13, n14, n15⟩ := fd
    simp only [Option.map_some, Option.some.injEq, Prod.mk.injEq] at h2
    obtain ⟨e1, e2, e3, e4, e5, e6, e7, e8⟩ := h2
    subst e1 e2 e3 e4 e5 e6 e7 e8
    have b3 : n8 = Value.none := by
      cases n8 with
      | none => rfl
      | _ => cases b2
    subst b3
    exact ⟨_, ⟨⟨oc, od, .none, n9, n10, n11, n12, n13, n14, osl, rfl, lk, b1, Or.inl ⟨rfl, rfl⟩, Or.inl rfl⟩, a5⟩, hp⟩
theorem sz_one {K : PySem.W.Frag} {x : Str} {n : Int} (h : szB K x n = true) : ∃ t, PySem.W.nsIn K (He.ga K "SIZES") x = some (some (.int n t)) := by
  unfold szB at h
  split at h
  · rename_i j t e
    rw [of_decide_eq_true h] at e
    exact ⟨t, e⟩
  · cases h
theorem slot_one {K : PySem.W.Frag} {q : Str × Nat} (h : slB K q = true) (hq : q.2 < 1000) : SlX.Slot1 K (oC K) q.1 (pA K q.1) q.2 := by
  unfold slB at h
  obtain ⟨a1, h⟩ := bA h
  obtain ⟨a2, h⟩ := bA h
  obtain ⟨a3, h⟩ := bA h
  obtain ⟨a4, a5⟩ := bA h
  exact ⟨He.eqO_ok a1, He.eqO_ok a2, of_decide_eq_true a3, of_decide_eq_true a4, of_decide_eq_true a5, hq⟩
theorem txt_of {w : World} {K : PySem.W.Frag} {h : Heap} {mg : Str → Option Value} (X : K.In h) (G : h.Ns mainGlobals mg) (c : SaysS w K) : Txt w K mg := by
  have c1 : He.SaysD fa fn K := congrArg (fun z : AlS => z.1) c
  have c2 : moreB K = true := congrArg (fun z : AlS => z.2.1) c
  have c3 : (pdefs.map fun q => fdW K (gA K q.1)) = (pdefs.map fun q => some (q.1, q.2.1, defArgs q.2.2, .stmts (defBody q.2.2), defScope q.2.2, mainGlobals, [], builtinsNs)) := congrArg (fun z : AlS => z.2.2.1) c
  have c4 : He.dicW K (He.ga K "SIZES") = some (He.keysIn w.params szK) := congrArg (fun z : AlS => z.2.2.2) c
  have F := facts_all c1
  have D := defs_all c1
  have F1 : ∀ q ∈ gdefs, (He.Fa.glo q.1).ok K = true := fun q hq => F _ (List.mem_append_left _ (List.mem_map_of_mem hq))
  have F2 : ∀ q ∈ mdefs, (He.Fa.meth "Outline" q.1).ok K = true := fun q hq => F _ (List.mem_append_right _ (List.mem_append_left _ (List.mem_map_of_mem (f := fun q : Str × Str × Stmt => He.Fa.meth "Outline" q.1) hq)))
  have F3 : ∀ q ∈ frees, (He.Fa.free q).ok K = true := fun q hq => F _ (List.mem_append_right _ (List.mem_append_right _ (List.mem_append_left _ (List.mem_map_of_mem hq))))
  have F4 : ∀ q ∈ cints, (He.Fa.int q.1 q.2).ok K = true := fun q hq => F _ (List.mem_append_right _ (List.mem_append_right _ (List.mem_append_right _ (List.mem_append_left _ (List.mem_map_of_mem (f := fun q : Str × Int => He.Fa.int q.1 q.2) hq)))))
  have F5 : ∀ q ∈ cstrs, (He.Fa.str q.1 q.2).ok K = true := fun q hq => F _ (List.mem_append_right _ (List.mem_append_right _ (List.mem_append_right _ (List.mem_append_right _ (List.mem_append_left _ (List.mem_map_of_mem (f := fun q : Str × Str => He.Fa.str q.1 q.2) hq))))))
  have F6 : ∀ f ∈ ([He.Fa.mkr "Outline", He.Fa.glo "Outline", He.Fa.glo "SIZES"] : List He.Fa), f.ok K = true := fun f hf => F _ (List.mem_append_right _ (List.mem_append_right _ (List.mem_append_right _ (List.mem_append_right _ (List.mem_append_right _ hf)))))
  unfold moreB at c2
  obtain ⟨m1, c2⟩ := bA c2
  obtain ⟨m2, c2⟩ := bA c2
  obtain ⟨m3, c2⟩ := bA c2
  obtain ⟨m4, c2⟩ := bA c2
  obtain ⟨m5, c2⟩ := bA c2
  obtain ⟨m6, c2⟩ := bA c2
  obtain ⟨m7, c2⟩ := bA c2
  obtain ⟨m8, c2⟩ := bA c2
  obtain ⟨m9, c2⟩ := bA c2
  obtain ⟨m10, c2⟩ := bA c2
  obtain ⟨m11, c2⟩ := bA c2
  obtain ⟨m12, c2⟩ := bA c2
  obtain ⟨m13, c2⟩ := bA c2
  obtain ⟨m14, c2⟩ := bA c2
  obtain ⟨z1, c2⟩ := bA c2
  obtain ⟨z2, c2⟩ := bA c2
  obtain ⟨z3, z4⟩ := bA c2
  refine ⟨fun q hq => ?_, fun q hq => ?_, fun q hq => ?_, fun x hx => He.free_ok X G (F3 x hx), fun q hq => He.int_ok X G (F4 q hq), fun q hq => He.str_ok X G (F5 q hq), fun q hq => slot_one (List.all_eq_true.mp m1 q hq) ?_,
    ⟨m3, m4, m5, He.eqO_ok m6⟩, He.mkr_ok (F6 _ List.mem_cons_self), He.glo_ok X G (F6 _ (List.mem_cons_of_mem _ List.mem_cons_self)), He.glo_ok X G (F6 _ (List.mem_cons_of_mem _ (List.mem_cons_of_mem _ List.mem_cons_self))),
    He.dicW_ok c4, ?_, ⟨He.eqO_ok m7, He.eqO_ok m8, of_decide_eq_true m9, of_decide_eq_true m10⟩, of_decide_eq_true m11, of_decide_eq_true m12, He.eqO_ok m13, m14⟩
  · obtain ⟨fd, hf⟩ := D (gD q) (List.mem_append_left _ (List.mem_map_of_mem hq))
    exact ⟨fd, hf, He.glo_ok X G (F1 q hq)⟩
  · obtain ⟨fd, hf⟩ := D (mD q) (List.mem_append_right _ (List.mem_map_of_mem (f := mD) hq))
    exact ⟨fd, hf, He.meth_ok (F2 q hq)⟩
  · refine prop_one (List.all_eq_true.mp m2 q hq) ?_
    obtain ⟨i, hi, e⟩ := List.mem_iff_getElem.mp hq
    have e2 := congrArg (fun l => l[i]?) c3
    simp only [List.getElem?_map, List.getElem?_eq_getElem hi, Option.map_some, Option.some.injEq] at e2
    rw [← e]
    exact e2
  · unfold slts at hq
    simp only [List.mem_cons, List.not_mem_nil, or_false] at hq
    rcases hq with e | e | e | e <;> (rw [e] <;> decide)
  · intro q hq
    simp only [List.mem_cons, List.not_mem_nil, or_false] at hq
    rcases hq with rfl | rfl | rfl | rfl
    · exact sz_one z1
    · exact sz_one z2
    · exact sz_one z3
    · exact sz_one z4
end SR
set_option Elab.async false
set_option linter.all false
set_option maxRecDepth 100000
set_option maxHeartbeats 2000000
/-! semantic readings, heaps that grow, data -/
namespace SR
open PySem PySem.Spec PyProof.Rows L2

/-! ### what a piece of text does, as a reading -/
section
variable (X : Cx)
def wE (e : Expr) : TE := fun σ H Q => ∀ (pins : List (Addr × Obj)) (s : Shared), Inv X pins σ H s → wpAny (model X.prog X.w) X.A (eval e X.env) (EP X pins σ Q) X.xe s
def wT (e : Expr) : TT := fun σ H Q => ∀ (pins : List (Addr × Obj)) (s : Shared), Inv X pins σ H s → wpAny (model X.prog X.w) X.A (isTrue e X.env (eval e X.env)) (TP X pins σ Q) X.xe s
def wW (e : Expr) : TT := fun σ H Q => ∀ (whole : Sem Value) (pins : List (Addr × Obj)) (s : Shared), Inv X pins σ H s → wpAny (model X.prog X.w) X.A (isTrue e X.env whole) (TP X pins σ Q) X.xe s
def wA (es : List Expr) : TA := fun σ H Q => ∀ (pos : Pos) (pins : List (Addr × Obj)) (s : Shared), Inv X pins σ H s → wpAny (model X.prog X.w) X.A (spliced (backTo pos (starEach es X.env))) (AP X pins σ Q) X.xe s
def wS (st : Stmt) : TS := fun D σ H => ∀ (pins : List (Addr × Obj)) (s : Shared), Inv X pins σ H s → wpAny (model X.prog X.w) X.A (exec st X.env) (SP X pins D) X.xe s
def wB (sts : List Stmt) : TS := fun D σ H => ∀ (pins : List (Addr × Obj)) (s : Shared), Inv X pins σ H s → wpAny (model X.prog X.w) X.A (execs sts X.env) (SP X pins D) X.xe s
def wI (tg iter : Expr) : TI := fun σ H R => ∀ (pins : List (Addr × Obj)) (s : Shared), Inv X pins σ H s →
  wpAny (model X.prog X.w) X.A (eval iter X.env) (fun v s1 => wpAny (model X.prog X.w) X.A (pyIter v) (PIE X pins σ tg R) X.xe s1) X.xe s
end
section
variable {X : Cx} {e : Expr} {es : List Expr} {st : Stmt} {sts : List Stmt} {tg iter : Expr}
theorem e_pe : PE X e (wE X e) := ⟨fun pins s _ _ _ I h => h pins s I⟩
theorem e_pt : PT X e (wT X e) := ⟨fun pins s _ _ _ I h => h pins s I⟩
theorem e_pw : PW X e (wW X e) := ⟨fun whole pins s _ _ _ I h => h whole pins s I⟩
theorem e_pa : PA X es (wA X es) := ⟨fun pos pins s _ _ _ I h => h pos pins s I⟩
theorem e_ps : PS X st (wS X st) := ⟨fun pins s _ _ _ I h => h pins s I⟩
theorem e_pss : PSs X sts (wB X sts) := ⟨fun pins s _ _ _ I h => h pins s I⟩
theorem e_pi : PI X tg iter (wI X tg iter) := ⟨fun pins s _ _ _ I h => h pins s I⟩
variable {σ : L2.St} {H : Hp}
theorem of_pe {t : TE} {Q : VK} (h : PE X e t) (q : t σ H Q) : wE X e σ H Q := fun pins s I => h.run pins s σ H Q I q
theorem of_pt {t : TT} {Q : Bool → Hp → Prop} (h : PT X e t) (q : t σ H Q) : wT X e σ H Q := fun pins s I => h.run pins s σ H Q I q
theorem of_pw {t : TT} {Q : Bool → Hp → Prop} (h : PW X e t) (q : t σ H Q) : wW X e σ H Q := fun whole pins s I => h.run whole pins s σ H Q I q
theorem of_pa {t : TA} {Q : List V → Hp → Prop} (h : PA X es t) (q : t σ H Q) : wA X es σ H Q := fun pos pins s I => h.run pos pins s σ H Q I q
theorem of_ps {t : TS} {D : Ends} (h : PS X st t) (q : t D σ H) : wS X st D σ H := fun pins s I => h.run pins s σ H D I q
theorem of_pss {t : TS} {D : Ends} (h : PSs X sts t) (q : t D σ H) : wB X sts D σ H := fun pins s I => h.run pins s σ H D I q
theorem of_pi {t : TI} {R : It → Hp → Prop} (h : PI X tg iter t) (q : t σ H R) : wI X tg iter σ H R := fun pins s I => h.run pins s σ H R I q
theorem wE_mono {Q Q' : VK} (h : wE X e σ H Q) (k : ∀ v H', Q v H' → Q' v H') : wE X e σ H Q' := fun pins s I => thn (h pins s I) fun u s1 ⟨v, H1, I1, r, q⟩ => ⟨v, H1, I1, r, k v H1 q⟩
theorem wT_mono {Q Q' : Bool → Hp → Prop} (h : wT X e σ H Q) (k : ∀ v H', Q v H' → Q' v H') : wT X e σ H Q' := fun pins s I => thn (h pins s I) fun u s1 ⟨H1, I1, q⟩ => ⟨H1, I1, k u H1 q⟩
theorem wA_mono {Q Q' : List V → Hp → Prop} (h : wA X es σ H Q) (k : ∀ v H', Q v H' → Q' v H') : wA X es σ H Q' := fun pos pins s I => thn (h pos pins s I) fun u s1 ⟨v, H1, I1, r, q⟩ => ⟨v, H1, I1, r, k v H1 q⟩
end

/-! ### heaps that grow: M holds at the deck alone -/
def Deck (H : Hp) (D : Addr) : Prop := ∃ a b c : Int, H D = some (.lst [.int a, .int b, .int c])
structure Gr (M : Addr → Prop) (H H' : Hp) : Prop where
  a : ∀ x, M x → Deck H x
  k : ∀ x o, ¬ M x → H x = some o → H' x = some o
  b : ∀ x, M x → Deck H' x
abbrev M0 : Addr → Prop := fun _ => False
abbrev M1 (D : Addr) : Addr → Prop := fun x => x = D
section
variable {M : Addr → Prop} {H H1 H2 H3 : Hp} {p : Addr} {o : HO}
theorem Gr.l (g : Gr M H H1) : Gr M H H := ⟨g.a, fun _ _ _ h => h, g.a⟩
theorem Gr.r (g : Gr M H H1) : Gr M H1 H1 := ⟨g.b, fun _ _ _ h => h, g.b⟩
theorem Gr.t (g : Gr M H H1) (g' : Gr M H1 H2) : Gr M H H2 := ⟨g.a, fun x o n h => g'.k x o n (g.k x o n h), g'.b⟩
theorem Gr.z (H : Hp) : Gr M0 H H := ⟨fun _ h => h.elim, fun _ _ _ h => h, fun _ h => h.elim⟩
theorem Gr.one {D : Addr} (h : Deck H D) : Gr (M1 D) H H := ⟨fun x e => by cases e; exact h, fun _ _ _ h => h, fun x e => by cases e; exact h⟩
theorem Deck.some (h : Deck H p) : H p ≠ none := by
  obtain ⟨a, b, c, e⟩ := h
  rw [e]
  intro z
  cases z
/-- a free place was free before -/
theorem Gr.back (g : Gr M H H1) (h : H1 p = none) : H p = none := by
  by_cases m : M p
  · exact ((g.b p m).some h).elim
  · cases q : H p with
    | none => rfl
    | some u =>
      rw [g.k p u m q] at h
      cases h
theorem Gr.nm (g : Gr M H H1) (h : H p = none) : ¬ M p := fun m => (g.a p m).some h
theorem Gr.nm' (g : Gr M H H1) (h : H1 p = none) : ¬ M p := fun m => (g.b p m).some h
theorem Gr.new (g : Gr M H H1) (h : H1 p = none) : Gr M H (upd H1 p o) := ⟨g.a, fun x u n e => by
    rw [upd_ne (ne_of_none (g.k x u n e) h)]
    exact g.k x u n e, fun x m => by
    obtain ⟨a, b, c, e⟩ := g.b x m
    refine ⟨a, b, c, ?_⟩
    rw [upd_ne (ne_of_none e h)]
    exact e⟩
/-- an object that the first heap does not know may change -/
theorem Gr.mut (g : Gr M H H1) (h : H p = none) : Gr M H (upd H1 p o) := ⟨g.a, fun x u n e => by
    rw [upd_ne (ne_of_none e h)]
    exact g.k x u n e, fun x m => by
    obtain ⟨a, b, c, e⟩ := g.b x m
    refine ⟨a, b, c, ?_⟩
    have : x ≠ p := fun z => g.nm h (z ▸ m)
    rw [upd_ne this]
    exact e⟩
theorem Gr.deck {D : Addr} {a b c : Int} (g : Gr (M1 D) H H1) : Gr (M1 D) H (upd H1 D (.lst [.int a, .int b, .int c])) := ⟨g.a, fun x u n e => by
    rw [upd_ne n]
    exact g.k x u n e, fun x m => by
    cases m
    exact ⟨a, b, c, upd_same⟩⟩
/-- what grows without a deck grows beside one -/
theorem Gr.up (g : Gr M0 H1 H2) (h : ∀ x, M x → Deck H1 x) : Gr M H1 H2 := ⟨h, fun x o _ e => g.k x o (fun z => z) e, fun x m => by
    obtain ⟨a, b, c, e⟩ := h x m
    exact ⟨a, b, c, g.k x _ (fun z => z) e⟩⟩
theorem Gr.rd {u : HO} (g : Gr M H H1) (h : Rd H p u) (hu : ∀ xs, u ≠ .lst xs) : Rd H1 p u := by
  have nm : ¬ M p := fun m => by
    obtain ⟨a, b, c, e⟩ := g.a p m
    rcases h with h | ⟨o, h⟩
    · rw [h] at e
      exact hu _ (Option.some.inj e)
    · rw [h] at e
      cases e
  rcases h with h | ⟨o, h⟩
  · exact .inl (g.k p _ nm h)
  · exact .inr ⟨o, g.k p _ nm h⟩
theorem Gr.tup {K : PySem.W.Frag} {xs : List V} (g : Gr M H H1) (h : SqT K H p xs) : SqT K H1 p xs := by
  rcases h with h | h
  · exact .inl (g.rd h fun _ z => nomatch z)
  · exact .inr h
end

/-! ### data that never changes -/
mutual
inductive Dv (K : PySem.W.Frag) (H : Hp) : V → PyData → Prop
  | non : Dv K H .non .none
  | bl (b : Bool) : Dv K H (.bl b) (.bool b)
  | int (i : Int) : Dv K H (.int i) (.int i)
  | str (x : Str) : Dv K H (.str x) (.str x)
  | tup {a : Addr} {xs : List V} {ds : List PyData} : H a = some (.tup xs) → DvA K H xs ds → Dv K H (.ref a) (.tuple ds)
inductive DvA (K : PySem.W.Frag) (H : Hp) : List V → List PyData → Prop
  | nil : DvA K H [] []
  | cons {v : V} {vs : List V} {d : PyData} {ds : List PyData} : Dv K H v d → DvA K H vs ds → DvA K H (v :: vs) (d :: ds)
end
section
variable {K : PySem.W.Frag} {H H' : Hp}
mutual
theorem Dv.imp (f : ∀ a xs, H a = some (.tup xs) → H' a = some (.tup xs)) : ∀ (d : PyData) (v : V), Dv K H v d → Dv K H' v d
  | .none, _, h => by cases h; exact .non
  | .bool _, _, h => by cases h; exact .bl _
  | .int _, _, h => by cases h; exact .int _
  | .str _, _, h => by cases h; exact .str _
  | .list _, _, h => by cases h
  | .dict _, _, h => by cases h
  | .tuple ds, v, h => by
    cases h with
    | tup hs ha => exact .tup (f _ _ hs) (DvA.imp f ds _ ha)
theorem DvA.imp (f : ∀ a xs, H a = some (.tup xs) → H' a = some (.tup xs)) : ∀ (ds : List PyData) (vs : List V), DvA K H vs ds → DvA K H' vs ds
  | [], _, h => by cases h; exact .nil
  | d :: ds, _, h => by
    cases h with
    | cons h1 h2 => exact .cons (Dv.imp f d _ h1) (DvA.imp f ds _ h2)
end
mutual
theorem Dv.dp : ∀ (d : PyData) (v : V), Dv K H v d → Dp K H v d
  | .none, _, h => by cases h; exact .non
  | .bool _, _, h => by cases h; exact .bl _
  | .int _, _, h => by cases h; exact .int _
  | .str _, _, h => by cases h; exact .str _
  | .list _, _, h => by cases h
  | .dict _, _, h => by cases h
  | .tuple ds, v, h => by
    cases h with
    | tup hs ha => exact .tup (.inl (.inl hs)) (DvA.dp ds _ ha)
theorem DvA.dp : ∀ (ds : List PyData) (vs : List V), DvA K H vs ds → DpAll K H vs ds
  | [], _, h => by cases h; exact .nil
  | d :: ds, _, h => by
    cases h with
    | cons h1 h2 => exact .cons (Dv.dp d _ h1) (DvA.dp ds _ h2)
end
theorem DvA.length : ∀ {vs : List V} {ds : List PyData}, DvA K H vs ds → vs.length = ds.length
  | _, _, .nil => rfl
  | _, _, .cons _ h => congrArg (· + 1) h.length
theorem DvA.get : ∀ {vs : List V} {ds : List PyData} {i : Nat} {d : PyData}, DvA K H vs ds → ds[i]? = some d → ∃ v, vs[i]? = some v ∧ Dv K H v d
  | _, _, _, _, .nil, e => by simp at e
  | _, _, 0, _, .cons h _, e => by simp at e; subst e; exact ⟨_, rfl, h⟩
  | _, _, i + 1, _, .cons _ h, e => by
    obtain ⟨v, e1, h1⟩ := h.get (i := i) (by simpa using e)
    exact ⟨v, by simpa using e1, h1⟩
theorem DvA.get' : ∀ {vs : List V} {ds : List PyData} {i : Nat} {v : V}, DvA K H vs ds → vs[i]? = some v → ∃ d, ds[i]? = some d ∧ Dv K H v d
  | _, _, _, _, .nil, e => by simp at e
  | _, _, 0, _, .cons h _, e => by simp at e; subst e; exact ⟨_, rfl, h⟩
  | _, _, i + 1, _, .cons _ h, e => by
    obtain ⟨v, e1, h1⟩ := h.get' (i := i) (by simpa using e)
    exact ⟨v, by simpa using e1, h1⟩
theorem DvA.app : ∀ {vs ws : List V} {ds es : List PyData}, DvA K H vs ds → DvA K H ws es → DvA K H (vs ++ ws) (ds ++ es)
  | _, _, _, _, .nil, h => h
  | _, _, _, _, .cons h1 h2, h => .cons h1 (h2.app h)
theorem DvA.take : ∀ {vs : List V} {ds : List PyData} (n : Nat), DvA K H vs ds → DvA K H (vs.take n) (ds.take n)
  | _, _, 0, _ => by simp; exact .nil
  | _, _, _ + 1, .nil => by simp; exact .nil
  | _, _, n + 1, .cons h1 h2 => by simp; exact .cons h1 (h2.take n)
theorem DvA.drop : ∀ {vs : List V} {ds : List PyData} (n : Nat), DvA K H vs ds → DvA K H (vs.drop n) (ds.drop n)
  | _, _, 0, h => by simpa using h
  | _, _, _ + 1, .nil => by simp; exact .nil
  | _, _, n + 1, .cons h1 h2 => by simpa using h2.drop n
theorem DvA.one {v : V} {d : PyData} (h : Dv K H v d) : DvA K H [v] [d] := .cons h .nil
theorem DvA.dropLast {vs : List V} {ds : List PyData} (h : DvA K H vs ds) : DvA K H vs.dropLast ds.dropLast := by
  rw [List.dropLast_eq_take, List.dropLast_eq_take, h.length]
  exact h.take _
variable {M : Addr → Prop}
theorem Gr.tu {a : Addr} {xs : List V} (g : Gr M H H') (h : H a = some (.tup xs)) : H' a = some (.tup xs) := by
  refine g.k a _ (fun m => ?_) h
  obtain ⟨x, y, w, e⟩ := g.a a m
  rw [h] at e
  cases e
theorem Dv.g {v : V} {d : PyData} (h : Dv K H v d) (g : Gr M H H') : Dv K H' v d := Dv.imp (fun _ _ z => g.tu z) d v h
theorem DvA.g {vs : List V} {ds : List PyData} (h : DvA K H vs ds) (g : Gr M H H') : DvA K H' vs ds := DvA.imp (fun _ _ z => g.tu z) ds vs h
/-- a store to what is no tuple -/
theorem tup_upd {p : Addr} {o u : HO} {a : Addr} {xs : List V} (hp : H p = some o) (ho : ∀ ys, o ≠ .tup ys) (hf : ∀ b x, o ≠ .frz b x) (h : SqT K H a xs) : SqT K (upd H p u) a xs := by
  rcases h with (h | ⟨b, h⟩) | h
  · refine .inl (.inl ?_)
    rw [upd_ne (fun z => ?_)]
    · exact h
    · rw [z, hp] at h
      exact ho _ (Option.some.inj h)
  · refine .inl (.inr ⟨b, ?_⟩)
    rw [upd_ne (fun z => ?_)]
    · exact h
    · rw [z, hp] at h
      exact hf _ _ (Option.some.inj h)
  · exact .inr h
theorem tu_upd {p : Addr} {o u : HO} {a : Addr} {xs : List V} (hp : H p = some o) (ho : ∀ ys, o ≠ .tup ys) (h : H a = some (.tup xs)) : upd H p u a = some (.tup xs) := by
  rw [upd_ne (fun z => ?_)]
  · exact h
  · rw [z, hp] at h
    exact ho _ (Option.some.inj h)
theorem tu_new {p : Addr} {u : HO} {a : Addr} {xs : List V} (hp : H p = none) (h : H a = some (.tup xs)) : upd H p u a = some (.tup xs) := by
  rw [upd_ne (ne_of_none h hp)]
  exact h
theorem Dv.st {v : V} {d : PyData} {p : Addr} {xs : List V} {u : HO} (h : Dv K H v d) (hp : H p = some (.lst xs)) : Dv K (upd H p u) v d := Dv.imp (fun _ _ z => tu_upd hp (fun _ z => nomatch z) z) d v h
theorem DvA.st {vs : List V} {ds : List PyData} {p : Addr} {xs : List V} {u : HO} (h : DvA K H vs ds) (hp : H p = some (.lst xs)) : DvA K (upd H p u) vs ds := DvA.imp (fun _ _ z => tu_upd hp (fun _ z => nomatch z) z) ds vs h
theorem Dv.sd {v : V} {d : PyData} {p : Addr} {xs : List (Key × V)} {u : HO} (h : Dv K H v d) (hp : H p = some (.dK xs)) : Dv K (upd H p u) v d := Dv.imp (fun _ _ z => tu_upd hp (fun _ z => nomatch z) z) d v h
theorem DvA.sd {vs : List V} {ds : List PyData} {p : Addr} {xs : List (Key × V)} {u : HO} (h : DvA K H vs ds) (hp : H p = some (.dK xs)) : DvA K (upd H p u) vs ds := DvA.imp (fun _ _ z => tu_upd hp (fun _ z => nomatch z) z) ds vs h
theorem Dv.sT {v : V} {d : PyData} {p : Addr} {xs : List (List Key × V)} {u : HO} (h : Dv K H v d) (hp : H p = some (.dT xs)) : Dv K (upd H p u) v d := Dv.imp (fun _ _ z => tu_upd hp (fun _ z => nomatch z) z) d v h
theorem DvA.sT {vs : List V} {ds : List PyData} {p : Addr} {xs : List (List Key × V)} {u : HO} (h : DvA K H vs ds) (hp : H p = some (.dT xs)) : DvA K (upd H p u) vs ds := DvA.imp (fun _ _ z => tu_upd hp (fun _ z => nomatch z) z) ds vs h
theorem tup_new {p : Addr} {u : HO} {a : Addr} {xs : List V} (hp : H p = none) (h : SqT K H a xs) : SqT K (upd H p u) a xs := by
  rcases h with (h | ⟨b, h⟩) | h
  · refine .inl (.inl ?_)
    rw [upd_ne (ne_of_none h hp)]
    exact h
  · refine .inl (.inr ⟨b, ?_⟩)
    rw [upd_ne (ne_of_none h hp)]
    exact h
  · exact .inr h
theorem Dv.sn {v : V} {d : PyData} {p : Addr} {u : HO} (h : Dv K H v d) (hp : H p = none) : Dv K (upd H p u) v d := Dv.imp (fun _ _ z => tu_new hp z) d v h
theorem DvA.sn {vs : List V} {ds : List PyData} {p : Addr} {u : HO} (h : DvA K H vs ds) (hp : H p = none) : DvA K (upd H p u) vs ds := DvA.imp (fun _ _ z => tu_new hp z) ds vs h
theorem Dv.tupN {p : Addr} {xs : List V} {ds : List PyData} (h : DvA K H xs ds) (e : H p = some (.tup xs)) : Dv K H (.ref p) (.tuple ds) := .tup e h
end
end SR
set_option Elab.async false
set_option linter.all false
set_option maxRecDepth 100000
set_option maxHeartbeats 2000000
/-! expressions: what they come to -/
namespace SR
open PySem PySem.Spec PyProof.Rows L2

abbrev PV := V → Hp → Hp → Prop
abbrev PVs := List V → Hp → Hp → Prop
def Ev (M : Addr → Prop) (te : TE) (σ : L2.St) (H : Hp) (P : PV) : Prop := ∀ H1, Gr M H H1 → ∀ Q : VK, (∀ v H2, Gr M H1 H2 → P v H1 H2 → Q v H2) → te σ H1 Q
def EvT (M : Addr → Prop) (t : TT) (σ : L2.St) (H : Hp) (P : Bool → Prop) : Prop := ∀ H1, Gr M H H1 → ∀ Q : Bool → Hp → Prop, (∀ b H2, Gr M H1 H2 → P b → Q b H2) → t σ H1 Q
def EvA (M : Addr → Prop) (t : TA) (σ : L2.St) (H : Hp) (P : PVs) : Prop := ∀ H1, Gr M H H1 → ∀ Q : List V → Hp → Prop, (∀ vs H2, Gr M H1 H2 → P vs H1 H2 → Q vs H2) → t σ H1 Q
def EvO (M : Addr → Prop) (t : TO) (σ : L2.St) (H : Hp) (o : Option Int) : Prop := ∀ H1, Gr M H H1 → ∀ Q : Option Int → Hp → Prop, (∀ H2, Gr M H1 H2 → Q o H2) → t σ H1 Q
/-! what a value is -/
def Pd (K : PySem.W.Frag) (d : PyData) : PV := fun v _ H2 => Dv K H2 v d
def PdE (K : PySem.W.Frag) (φ : PyData → Prop) : PV := fun v _ H2 => ∃ d, φ d ∧ Dv K H2 v d
def Pv (x : V) : PV := fun v _ _ => v = x
/-- a new list -/
def PL (K : PySem.W.Frag) (ds : List PyData) : PV := fun v H1 H2 => ∃ a vs, v = .ref a ∧ H1 a = none ∧ H2 a = some (.lst vs) ∧ DvA K H2 vs ds
def PdA (K : PySem.W.Frag) (ds : List PyData) : PVs := fun vs _ H2 => DvA K H2 vs ds
/-- holds on while the heap grows -/
def Stb (M : Addr → Prop) (P : PV) : Prop := ∀ v H0 H1 H2 H3, Gr M H0 H1 → Gr M H1 H2 → Gr M H2 H3 → P v H1 H2 → P v H0 H3
section
variable {M : Addr → Prop} {K : PySem.W.Frag}
theorem stb_d {d : PyData} : Stb M (Pd K d) := fun _ _ _ _ _ _ _ g h => Dv.g h g
theorem stb_e {φ : PyData → Prop} : Stb M (PdE K φ) := fun _ _ _ _ _ _ _ g ⟨d, h, z⟩ => ⟨d, h, z.g g⟩
theorem stb_v {x : V} : Stb M (Pv x) := fun _ _ _ _ _ _ _ _ h => h
theorem stb_l {ds : List PyData} : Stb M (PL K ds) := fun _ _ _ _ _ g0 g1 g ⟨a, vs, e, n, h, z⟩ => ⟨a, vs, e, g0.back n, g.k a _ (fun m => by
  obtain ⟨x, y, w, e2⟩ := g1.a a m
  rw [n] at e2
  cases e2) h, z.g g⟩
theorem Ev.g {te : TE} {σ : L2.St} {H H' : Hp} {P : PV} (h : Ev M te σ H P) (g : Gr M H H') : Ev M te σ H' P := fun H1 g1 => h H1 (g.t g1)
theorem EvT.g {te : TT} {σ : L2.St} {H H' : Hp} {P : Bool → Prop} (h : EvT M te σ H P) (g : Gr M H H') : EvT M te σ H' P := fun H1 g1 => h H1 (g.t g1)
theorem Ev.imp {te : TE} {σ : L2.St} {H : Hp} {P P' : PV} (h : Ev M te σ H P) (k : ∀ v H1 H2, Gr M H H1 → Gr M H1 H2 → P v H1 H2 → P' v H1 H2) : Ev M te σ H P' := fun H1 g1 Q q => h H1 g1 Q fun v H2 g2 p => q v H2 g2 (k v H1 H2 g1 g2 p)
theorem EvT.imp {te : TT} {σ : L2.St} {H : Hp} {P P' : Bool → Prop} (h : EvT M te σ H P) (k : ∀ b, P b → P' b) : EvT M te σ H P' := fun H1 g1 Q q => h H1 g1 Q fun v H2 g2 p => q v H2 g2 (k v p)
theorem EvT.is {te : TT} {σ : L2.St} {H : Hp} {b c : Bool} (h : EvT M te σ H (· = b)) (k : b = c) : EvT M te σ H (· = c) := h.imp fun x e => e.trans k
theorem Ev.is {te : TE} {σ : L2.St} {H : Hp} {d e : PyData} (h : Ev M te σ H (Pd K d)) (k : d = e) : Ev M te σ H (Pd K e) := by
  rw [← k]
  exact h
end
section
variable {M : Addr → Prop} {X : Cx} {σ : L2.St} {H : Hp} {a b c e : Expr} {es rest : List Expr} {pos : Pos} {P : PV}
/-! constants, names -/
theorem ev_int {i j} : Ev M (wE X (.Constant (.int i) j pos)) σ H (Pd X.K (.int i)) := fun H1 g Q q => of_pe pe_int (q _ _ g.r (.int _))
theorem ev_bl {i j} : Ev M (wE X (.Constant (.bool i) j pos)) σ H (Pd X.K (.bool i)) := fun H1 g Q q => of_pe pe_bl (q _ _ g.r (.bl _))
theorem ev_str {i j} : Ev M (wE X (.Constant (.str i) j pos)) σ H (Pd X.K (.str i)) := fun H1 g Q q => of_pe pe_str (q _ _ g.r (.str _))
theorem ev_non {j} : Ev M (wE X (.Constant .none j pos)) σ H (Pd X.K .none) := fun H1 g Q q => of_pe pe_non (q _ _ g.r .non)
theorem ev_nmV (i : Nat) {x : Str} {v : V} (hs : σ[i]? = some (some v) := by rfl) (hN : X.N[i]? = some x := by rfl) (hv : Vis X.env.scope x := by first | exact Or.inl rfl | exact Or.inr (Or.inl rfl) | exact Or.inr (Or.inr rfl)) (hd : (x == ("__debug__" : Str)) = false := by decide)
    (hcd : (x == ("__classdict__" : Str)) = false := by decide) : Ev M (wE X (.Name x pos)) σ H (Pv v) := fun H1 g Q q => of_pe (pe_var hN hv hd hcd) ⟨v, hs, q _ _ g.r rfl⟩
theorem ev_nm (i : Nat) {x : Str} {v : V} {d : PyData} (h : Dv X.K H v d) (hs : σ[i]? = some (some v) := by rfl) (hN : X.N[i]? = some x := by rfl) (hv : Vis X.env.scope x := by first | exact Or.inl rfl | exact Or.inr (Or.inl rfl) | exact Or.inr (Or.inr rfl)) (hd : (x == ("__debug__" : Str)) = false := by decide)
    (hcd : (x == ("__classdict__" : Str)) = false := by decide) : Ev M (wE X (.Name x pos)) σ H (Pd X.K d) := fun H1 g Q q => of_pe (pe_var hN hv hd hcd) ⟨v, hs, q _ _ g.r (h.g g)⟩
theorem ev_gi {x : Str} {i : Int} (h : ∃ t, X.mg x = some (.int i t)) (hg : Gl X x := by rfl) (hd : (x == ("__debug__" : Str)) = false := by decide) : Ev M (wE X (.Name x pos)) σ H (Pd X.K (.int i)) := fun H1 g Q q => by
  obtain ⟨t, e⟩ := h
  exact of_pe (pe_glob (v := .int i) hg e ⟨t, rfl⟩ hd) (q _ _ g.r (.int _))
theorem ev_gs {x z : Str} (h : ∃ t, X.mg x = some (.str z t)) (hg : Gl X x := by rfl) (hd : (x == ("__debug__" : Str)) = false := by decide) : Ev M (wE X (.Name x pos)) σ H (Pd X.K (.str z)) := fun H1 g Q q => by
  obtain ⟨t, e⟩ := h
  exact of_pe (pe_glob (v := .str z) hg e ⟨t, rfl⟩ hd) (q _ _ g.r (.str _))
/-! whole numbers -/
theorem dv_int {K : PySem.W.Frag} {v : V} {i : Int} (h : Dv K H v (.int i)) : v = .int i := by cases h; rfl
theorem dv_bl {K : PySem.W.Frag} {v : V} {i : Bool} (h : Dv K H v (.bool i)) : v = .bl i := by cases h; rfl
theorem dv_str {K : PySem.W.Frag} {v : V} {i : Str} (h : Dv K H v (.str i)) : v = .str i := by cases h; rfl
theorem dv_non {K : PySem.W.Frag} {v : V} (h : Dv K H v .none) : v = .non := by cases h; rfl
theorem dv_tu {K : PySem.W.Frag} {v : V} {ds : List PyData} (h : Dv K H v (.tuple ds)) : ∃ a xs, v = .ref a ∧ H a = some (.tup xs) ∧ DvA K H xs ds := by
  cases h with
  | tup h1 h2 => exact ⟨_, _, rfl, h1, h2⟩
theorem dv_tup {K : PySem.W.Frag} {v : V} {ds : List PyData} (h : Dv K H v (.tuple ds)) : ∃ a xs, v = .ref a ∧ SqT K H a xs ∧ DvA K H xs ds := by
  cases h with
  | tup h1 h2 => exact ⟨_, _, rfl, .inl (.inl h1), h2⟩
theorem ev_opI0 {op : Operator} {f : Int → Int → V} {g0 : Int → Int → PyData} {i j : Int} (ho : OpR X (binaryOp op) (rI0 f)) (hf : ∀ H' i j, Dv X.K H' (f i j) (g0 i j)) (h1 : Ev M (wE X a) σ H (Pd X.K (.int i))) (h2 : Ev M (wE X b) σ H (Pd X.K (.int j))) : Ev M (wE X (.BinOp a op b pos)) σ H (Pd X.K (g0 i j)) :=
  fun H1 g Q q => of_pe (pe_op ho e_pe e_pe) (h1 H1 g _ fun v H2 g2 p => h2 H2 (g.t g2) _ fun u H3 g3 p3 => ⟨i, j, dv_int p, dv_int p3, q _ _ (g2.t g3) (hf H3 i j)⟩)
theorem ev_opI {op : Operator} {C : Int → Int → Prop} {f : Int → Int → V} {g0 : Int → Int → PyData} {i j : Int} (ho : OpR X (binaryOp op) (rI C f)) (hf : ∀ H' i j, Dv X.K H' (f i j) (g0 i j)) (h1 : Ev M (wE X a) σ H (Pd X.K (.int i))) (h2 : Ev M (wE X b) σ H (Pd X.K (.int j))) (hc : C i j) : Ev M (wE X (.BinOp a op b pos)) σ H (Pd X.K (g0 i j)) :=
  fun H1 g Q q => of_pe (pe_op ho e_pe e_pe) (h1 H1 g _ fun v H2 g2 p => h2 H2 (g.t g2) _ fun u H3 g3 p3 => ⟨i, j, dv_int p, dv_int p3, hc, q _ _ (g2.t g3) (hf H3 i j)⟩)
theorem ev_add {i j : Int} (h1 : Ev M (wE X a) σ H (Pd X.K (.int i))) (h2 : Ev M (wE X b) σ H (Pd X.K (.int j))) : Ev M (wE X (.BinOp a .Add b pos)) σ H (Pd X.K (.int (i + j))) := ev_opI0 (g0 := fun i j => .int (i + j)) op_add (fun _ _ _ => .int _) h1 h2
theorem ev_sub {i j : Int} (h1 : Ev M (wE X a) σ H (Pd X.K (.int i))) (h2 : Ev M (wE X b) σ H (Pd X.K (.int j))) : Ev M (wE X (.BinOp a .Sub b pos)) σ H (Pd X.K (.int (i - j))) := ev_opI0 (g0 := fun i j => .int (i - j)) op_sub (fun _ _ _ => .int _) h1 h2
theorem ev_mul {i j : Int} (h1 : Ev M (wE X a) σ H (Pd X.K (.int i))) (h2 : Ev M (wE X b) σ H (Pd X.K (.int j))) (hc : CMul i j) : Ev M (wE X (.BinOp a .Mult b pos)) σ H (Pd X.K (.int (i * j))) := ev_opI (g0 := fun i j => .int (i * j)) op_mul (fun _ _ _ => .int _) h1 h2 hc
theorem ev_fdiv {i j : Int} (h1 : Ev M (wE X a) σ H (Pd X.K (.int i))) (h2 : Ev M (wE X b) σ H (Pd X.K (.int j))) (hc : CDiv i j) : Ev M (wE X (.BinOp a .FloorDiv b pos)) σ H (Pd X.K (.int (i / j))) := ev_opI (g0 := fun i j => .int (i / j)) op_fdiv (fun _ _ _ => .int _) h1 h2 hc
theorem ev_mod {i j : Int} (h1 : Ev M (wE X a) σ H (Pd X.K (.int i))) (h2 : Ev M (wE X b) σ H (Pd X.K (.int j))) (hc : 0 < j) : Ev M (wE X (.BinOp a .Mod b pos)) σ H (Pd X.K (.int (i % j))) := ev_opI (C := fun _ j => 0 < j) (g0 := fun i j => .int (i % j)) op_mod (fun _ _ _ => .int _) h1 h2 hc
theorem ev_pow {i j : Int} (h1 : Ev M (wE X a) σ H (Pd X.K (.int i))) (h2 : Ev M (wE X b) σ H (Pd X.K (.int j))) (hc : CPow i j) : Ev M (wE X (.BinOp a .Pow b pos)) σ H (Pd X.K (.int (i ^ j.toNat))) := ev_opI (g0 := fun i j => .int (i ^ j.toNat)) op_pow (fun _ _ _ => .int _) h1 h2 hc
theorem ev_neg {i : Int} (h : Ev M (wE X a) σ H (Pd X.K (.int i))) : Ev M (wE X (.UnaryOp .USub a pos)) σ H (Pd X.K (.int (-i))) :=
  fun H1 g Q q => of_pe (pe_un un_neg e_pe) (h H1 g _ fun v H2 g2 p => ⟨i, dv_int p, q _ _ g2 (.int _)⟩)
/-! comparisons -/
def Cv (M : Addr → Prop) (X : Cx) (op : CmpOp) (P1 P2 : PV) (d : Bool) : Prop := ∃ r : R2, OpR X (compareOp op) r ∧ ∀ x y H1 H2 H3, Gr M H1 H2 → P1 x H1 H2 → Gr M H2 H3 → P2 y H2 H3 → ∀ Q : VK, Q (.bl d) H3 → r x y H3 Q
theorem ev_cv {op : CmpOp} {P1 P2 : PV} {d : Bool} (h : Cv M X op P1 P2 d) (h1 : Ev M (wE X a) σ H P1) (h2 : Ev M (wE X b) σ H P2) (hm : behindInMarks op b = false) : Ev M (wE X (.Compare a [op] [b] pos)) σ H (Pd X.K (.bool d)) := by
  obtain ⟨r, ho, hr⟩ := h
  exact fun H1 g Q q => of_pe (pe_cmpR ho e_pe e_pe hm) (h1 H1 g _ fun v H2 g2 p => h2 H2 (g.t g2) _ fun u H3 g3 p3 => hr _ _ _ _ _ g2 p g3 p3 _ (q _ _ (g2.t g3) (.bl _)))
theorem et_cv {op : CmpOp} {P1 P2 : PV} {d : Bool} (h : Cv M X op P1 P2 d) (h1 : Ev M (wE X a) σ H P1) (h2 : Ev M (wE X b) σ H P2) (hm : behindInMarks op b = false) : EvT M (wT X (.Compare a [op] [b] pos)) σ H (· = d) := by
  obtain ⟨r, ho, hr⟩ := h
  exact fun H1 g Q q => of_pt (pt_cmpR ho e_pe e_pe hm) (h1 H1 g _ fun v H2 g2 p => h2 H2 (g.t g2) _ fun u H3 g3 p3 => hr _ _ _ _ _ g2 p g3 p3 _ ⟨d, rfl, q _ _ (g2.t g3) rfl⟩)
theorem cv_lt {i j : Int} : Cv M X .Lt (Pd X.K (.int i)) (Pd X.K (.int j)) (decide (i < j)) := ⟨_, op_lt, fun v u H1 H2 H3 g1 p1 g2 p2 Q q => ⟨i, j, dv_int p1, dv_int p2, q⟩⟩
theorem ev_lt {i j : Int} (h1 : Ev M (wE X a) σ H (Pd X.K (.int i))) (h2 : Ev M (wE X b) σ H (Pd X.K (.int j))) : Ev M (wE X (.Compare a [.Lt] [b] pos)) σ H (Pd X.K (.bool (decide (i < j)))) := ev_cv (cv_lt) h1 h2 (nomark _)
theorem et_lt {i j : Int} (h1 : Ev M (wE X a) σ H (Pd X.K (.int i))) (h2 : Ev M (wE X b) σ H (Pd X.K (.int j))) : EvT M (wT X (.Compare a [.Lt] [b] pos)) σ H (· = (decide (i < j))) := et_cv (cv_lt) h1 h2 (nomark _)
theorem cv_le {i j : Int} : Cv M X .LtE (Pd X.K (.int i)) (Pd X.K (.int j)) (decide (i ≤ j)) := ⟨_, op_le, fun v u H1 H2 H3 g1 p1 g2 p2 Q q => ⟨i, j, dv_int p1, dv_int p2, q⟩⟩
theorem ev_le {i j : Int} (h1 : Ev M (wE X a) σ H (Pd X.K (.int i))) (h2 : Ev M (wE X b) σ H (Pd X.K (.int j))) : Ev M (wE X (.Compare a [.LtE] [b] pos)) σ H (Pd X.K (.bool (decide (i ≤ j)))) := ev_cv (cv_le) h1 h2 (nomark _)
theorem et_le {i j : Int} (h1 : Ev M (wE X a) σ H (Pd X.K (.int i))) (h2 : Ev M (wE X b) σ H (Pd X.K (.int j))) : EvT M (wT X (.Compare a [.LtE] [b] pos)) σ H (· = (decide (i ≤ j))) := et_cv (cv_le) h1 h2 (nomark _)
theorem cv_gt {i j : Int} : Cv M X .Gt (Pd X.K (.int i)) (Pd X.K (.int j)) (decide (j < i)) := ⟨_, op_gt, fun v u H1 H2 H3 g1 p1 g2 p2 Q q => ⟨i, j, dv_int p1, dv_int p2, q⟩⟩
theorem ev_gt {i j : Int} (h1 : Ev M (wE X a) σ H (Pd X.K (.int i))) (h2 : Ev M (wE X b) σ H (Pd X.K (.int j))) : Ev M (wE X (.Compare a [.Gt] [b] pos)) σ H (Pd X.K (.bool (decide (j < i)))) := ev_cv (cv_gt) h1 h2 (nomark _)
theorem et_gt {i j : Int} (h1 : Ev M (wE X a) σ H (Pd X.K (.int i))) (h2 : Ev M (wE X b) σ H (Pd X.K (.int j))) : EvT M (wT X (.Compare a [.Gt] [b] pos)) σ H (· = (decide (j < i))) := et_cv (cv_gt) h1 h2 (nomark _)
theorem cv_ge {i j : Int} : Cv M X .GtE (Pd X.K (.int i)) (Pd X.K (.int j)) (decide (j ≤ i)) := ⟨_, op_ge, fun v u H1 H2 H3 g1 p1 g2 p2 Q q => ⟨i, j, dv_int p1, dv_int p2, q⟩⟩
theorem ev_ge {i j : Int} (h1 : Ev M (wE X a) σ H (Pd X.K (.int i))) (h2 : Ev M (wE X b) σ H (Pd X.K (.int j))) : Ev M (wE X (.Compare a [.GtE] [b] pos)) σ H (Pd X.K (.bool (decide (j ≤ i)))) := ev_cv (cv_ge) h1 h2 (nomark _)
theorem et_ge {i j : Int} (h1 : Ev M (wE X a) σ H (Pd X.K (.int i))) (h2 : Ev M (wE X b) σ H (Pd X.K (.int j))) : EvT M (wT X (.Compare a [.GtE] [b] pos)) σ H (· = (decide (j ≤ i))) := et_cv (cv_ge) h1 h2 (nomark _)
/-- l <= e <= u -/
theorem ev_leCh {i j k : Int} (h1 : Ev M (wE X a) σ H (Pd X.K (.int i))) (h2 : Ev M (wE X b) σ H (Pd X.K (.int j))) (h3 : Ev M (wE X c) σ H (Pd X.K (.int k))) (hm : lastMarks [.LtE, .LtE] [b, c] = false := by rfl) : Ev M (wE X (.Compare a [.LtE, .LtE] [b, c] pos)) σ H (Pd X.K (.bool (decide (i ≤ j) && decide (j ≤ k)))) :=
  fun H1 g Q q => of_pe (pe_chain op_le op_le e_pe e_pe e_pe hm) (h1 H1 g _ fun v H2 g2 p => h2 H2 (g.t g2) _ fun u H3 g3 p3 => ⟨i, j, dv_int p, dv_int p3, _, rfl, by
    by_cases hij : i ≤ j
    · rw [decide_eq_true hij]
      refine iteT (h3 H3 ((g.t g2).t g3) _ fun u' H4 g4 p4 => ⟨j, k, dv_int p3, dv_int p4, ?_⟩)
      refine q _ _ ((g2.t g3).t g4) ?_
      rw [decide_eq_true hij, Bool.true_and]
      exact .bl _
    · rw [decide_eq_false hij]
      refine iteF ?_
      refine q _ _ (g2.t g3) ?_
      rw [decide_eq_false hij, Bool.false_and]
      exact .bl _⟩)
theorem et_leCh {i j k : Int} (h1 : Ev M (wE X a) σ H (Pd X.K (.int i))) (h2 : Ev M (wE X b) σ H (Pd X.K (.int j))) (h3 : Ev M (wE X c) σ H (Pd X.K (.int k))) (hm : lastMarks [.LtE, .LtE] [b, c] = false := by rfl) : EvT M (wT X (.Compare a [.LtE, .LtE] [b, c] pos)) σ H (· = (decide (i ≤ j) && decide (j ≤ k))) :=
  fun H1 g Q q => of_pt (pt_chain op_le op_le e_pe e_pe e_pe hm) (h1 H1 g _ fun v H2 g2 p => h2 H2 (g.t g2) _ fun u H3 g3 p3 => ⟨i, j, dv_int p, dv_int p3, _, rfl, by
    by_cases hij : i ≤ j
    · rw [decide_eq_true hij]
      refine iteT (h3 H3 ((g.t g2).t g3) _ fun u' H4 g4 p4 => ⟨j, k, dv_int p3, dv_int p4, _, rfl, q _ _ ((g2.t g3).t g4) ?_⟩)
      rw [decide_eq_true hij, Bool.true_and]
    · rw [decide_eq_false hij]
      refine iteF ⟨_, rfl, q _ _ (g2.t g3) ?_⟩
      rw [decide_eq_false hij, Bool.false_and]⟩)
theorem cv_eq {d d' : PyData} (hu : X.A.units + 64 < cLine) (s1 : SeqAt.shaped d = true) (s2 : SeqAt.shaped d' = true) : Cv M X .Eq (Pd X.K d) (Pd X.K d') (PyData.eqv d d') := ⟨_, op_eqD hu, fun v u H1 H2 H3 g1 p1 g2 p2 Q q => ⟨d, d', Dv.dp _ _ (Dv.g p1 g2), Dv.dp _ _ p2, s1, s2, q⟩⟩
theorem ev_eq {d d' : PyData} (hu : X.A.units + 64 < cLine) (s1 : SeqAt.shaped d = true) (s2 : SeqAt.shaped d' = true) (h1 : Ev M (wE X a) σ H (Pd X.K d)) (h2 : Ev M (wE X b) σ H (Pd X.K d')) : Ev M (wE X (.Compare a [.Eq] [b] pos)) σ H (Pd X.K (.bool (PyData.eqv d d'))) := ev_cv (cv_eq hu s1 s2) h1 h2 (nomark _)
theorem et_eq {d d' : PyData} (hu : X.A.units + 64 < cLine) (s1 : SeqAt.shaped d = true) (s2 : SeqAt.shaped d' = true) (h1 : Ev M (wE X a) σ H (Pd X.K d)) (h2 : Ev M (wE X b) σ H (Pd X.K d')) : EvT M (wT X (.Compare a [.Eq] [b] pos)) σ H (· = (PyData.eqv d d')) := et_cv (cv_eq hu s1 s2) h1 h2 (nomark _)
theorem cv_ne {d d' : PyData} (hu : X.A.units + 64 < cLine) (s1 : SeqAt.shaped d = true) (s2 : SeqAt.shaped d' = true) : Cv M X .NotEq (Pd X.K d) (Pd X.K d') (!PyData.eqv d d') := ⟨_, op_neD hu, fun v u H1 H2 H3 g1 p1 g2 p2 Q q => ⟨d, d', Dv.dp _ _ (Dv.g p1 g2), Dv.dp _ _ p2, s1, s2, q⟩⟩
theorem ev_ne {d d' : PyData} (hu : X.A.units + 64 < cLine) (s1 : SeqAt.shaped d = true) (s2 : SeqAt.shaped d' = true) (h1 : Ev M (wE X a) σ H (Pd X.K d)) (h2 : Ev M (wE X b) σ H (Pd X.K d')) : Ev M (wE X (.Compare a [.NotEq] [b] pos)) σ H (Pd X.K (.bool (!PyData.eqv d d'))) := ev_cv (cv_ne hu s1 s2) h1 h2 (nomark _)
theorem et_ne {d d' : PyData} (hu : X.A.units + 64 < cLine) (s1 : SeqAt.shaped d = true) (s2 : SeqAt.shaped d' = true) (h1 : Ev M (wE X a) σ H (Pd X.K d)) (h2 : Ev M (wE X b) σ H (Pd X.K d')) : EvT M (wT X (.Compare a [.NotEq] [b] pos)) σ H (· = (!PyData.eqv d d')) := et_cv (cv_ne hu s1 s2) h1 h2 (nomark _)
theorem cv_eqS {x y : Str} : Cv M X .Eq (Pd X.K (.str x)) (Pd X.K (.str y)) (decide (x = y)) := ⟨_, op_eq, fun v u H1 H2 H3 g1 p1 g2 p2 Q q => by
    obtain rfl := dv_str p1
    obtain rfl := dv_str p2
    refine ⟨rfl, ?_⟩
    have e : decide (V.str x = V.str y) = decide (x = y) := by
      by_cases z : x = y
      · rw [z, decide_eq_true rfl, decide_eq_true rfl]
      · rw [decide_eq_false z, decide_eq_false (fun w => z (V.str.inj w))]
    rw [e]
    exact q⟩
theorem ev_eqS {x y : Str} (h1 : Ev M (wE X a) σ H (Pd X.K (.str x))) (h2 : Ev M (wE X b) σ H (Pd X.K (.str y))) : Ev M (wE X (.Compare a [.Eq] [b] pos)) σ H (Pd X.K (.bool (decide (x = y)))) := ev_cv (cv_eqS) h1 h2 (nomark _)
theorem et_eqS {x y : Str} (h1 : Ev M (wE X a) σ H (Pd X.K (.str x))) (h2 : Ev M (wE X b) σ H (Pd X.K (.str y))) : EvT M (wT X (.Compare a [.Eq] [b] pos)) σ H (· = (decide (x = y))) := et_cv (cv_eqS) h1 h2 (nomark _)
theorem cv_neS {x y : Str} : Cv M X .NotEq (Pd X.K (.str x)) (Pd X.K (.str y)) (!decide (x = y)) := ⟨_, op_ne, fun v u H1 H2 H3 g1 p1 g2 p2 Q q => by
    obtain rfl := dv_str p1
    obtain rfl := dv_str p2
    refine ⟨rfl, ?_⟩
    have e : decide (V.str x = V.str y) = decide (x = y) := by
      by_cases z : x = y
      · rw [z, decide_eq_true rfl, decide_eq_true rfl]
      · rw [decide_eq_false z, decide_eq_false (fun w => z (V.str.inj w))]
    rw [e]
    exact q⟩
theorem ev_neS {x y : Str} (h1 : Ev M (wE X a) σ H (Pd X.K (.str x))) (h2 : Ev M (wE X b) σ H (Pd X.K (.str y))) : Ev M (wE X (.Compare a [.NotEq] [b] pos)) σ H (Pd X.K (.bool (!decide (x = y)))) := ev_cv (cv_neS) h1 h2 (nomark _)
theorem et_neS {x y : Str} (h1 : Ev M (wE X a) σ H (Pd X.K (.str x))) (h2 : Ev M (wE X b) σ H (Pd X.K (.str y))) : EvT M (wT X (.Compare a [.NotEq] [b] pos)) σ H (· = (!decide (x = y))) := et_cv (cv_neS) h1 h2 (nomark _)
theorem cv_eqI {x y : Int} : Cv M X .Eq (Pd X.K (.int x)) (Pd X.K (.int y)) (decide (x = y)) := ⟨_, op_eq, fun v u H1 H2 H3 g1 p1 g2 p2 Q q => by
    obtain rfl := dv_int p1
    obtain rfl := dv_int p2
    refine ⟨rfl, ?_⟩
    have e : decide (V.int x = V.int y) = decide (x = y) := by
      by_cases z : x = y
      · rw [z, decide_eq_true rfl, decide_eq_true rfl]
      · rw [decide_eq_false z, decide_eq_false (fun w => z (V.int.inj w))]
    rw [e]
    exact q⟩
theorem ev_eqI {x y : Int} (h1 : Ev M (wE X a) σ H (Pd X.K (.int x))) (h2 : Ev M (wE X b) σ H (Pd X.K (.int y))) : Ev M (wE X (.Compare a [.Eq] [b] pos)) σ H (Pd X.K (.bool (decide (x = y)))) := ev_cv (cv_eqI) h1 h2 (nomark _)
theorem et_eqI {x y : Int} (h1 : Ev M (wE X a) σ H (Pd X.K (.int x))) (h2 : Ev M (wE X b) σ H (Pd X.K (.int y))) : EvT M (wT X (.Compare a [.Eq] [b] pos)) σ H (· = (decide (x = y))) := et_cv (cv_eqI) h1 h2 (nomark _)
theorem cv_neI {x y : Int} : Cv M X .NotEq (Pd X.K (.int x)) (Pd X.K (.int y)) (!decide (x = y)) := ⟨_, op_ne, fun v u H1 H2 H3 g1 p1 g2 p2 Q q => by
    obtain rfl := dv_int p1
    obtain rfl := dv_int p2
    refine ⟨rfl, ?_⟩
    have e : decide (V.int x = V.int y) = decide (x = y) := by
      by_cases z : x = y
      · rw [z, decide_eq_true rfl, decide_eq_true rfl]
      · rw [decide_eq_false z, decide_eq_false (fun w => z (V.int.inj w))]
    rw [e]
    exact q⟩
theorem ev_neI {x y : Int} (h1 : Ev M (wE X a) σ H (Pd X.K (.int x))) (h2 : Ev M (wE X b) σ H (Pd X.K (.int y))) : Ev M (wE X (.Compare a [.NotEq] [b] pos)) σ H (Pd X.K (.bool (!decide (x = y)))) := ev_cv (cv_neI) h1 h2 (nomark _)
theorem et_neI {x y : Int} (h1 : Ev M (wE X a) σ H (Pd X.K (.int x))) (h2 : Ev M (wE X b) σ H (Pd X.K (.int y))) : EvT M (wT X (.Compare a [.NotEq] [b] pos)) σ H (· = (!decide (x = y))) := et_cv (cv_neI) h1 h2 (nomark _)
theorem ev_isN {k} {p2} {n : Bool} (h1 : Ev M (wE X a) σ H P) (hn : ∀ v H1 H2, P v H1 H2 → decide (v = .non) = n) : Ev M (wE X (.Compare a [.Is] [.Constant .none k p2] pos)) σ H (Pd X.K (.bool n)) :=
  fun H1 g Q q => of_pe (pe_cmpR op_isN e_pe pe_non (nomark _)) (h1 H1 g _ fun v H2 g2 p => ⟨rfl, q _ _ g2 (by rw [hn v _ _ p]; exact .bl _)⟩)
theorem et_isN {k} {p2} {n : Bool} (h1 : Ev M (wE X a) σ H P) (hn : ∀ v H1 H2, P v H1 H2 → decide (v = .non) = n) : EvT M (wT X (.Compare a [.Is] [.Constant .none k p2] pos)) σ H (· = n) :=
  fun H1 g Q q => of_pt (pt_cmpR op_isN e_pe pe_non (nomark _)) (h1 H1 g _ fun v H2 g2 p => ⟨rfl, _, rfl, q _ _ g2 (hn v _ _ p)⟩)
theorem ev_notN {k} {p2} {n : Bool} (h1 : Ev M (wE X a) σ H P) (hn : ∀ v H1 H2, P v H1 H2 → decide (v = .non) = n) : Ev M (wE X (.Compare a [.IsNot] [.Constant .none k p2] pos)) σ H (Pd X.K (.bool (!n))) :=
  fun H1 g Q q => of_pe (pe_cmpR op_notN e_pe pe_non (nomark _)) (h1 H1 g _ fun v H2 g2 p => ⟨rfl, q _ _ g2 (by rw [hn v _ _ p]; exact .bl _)⟩)
theorem et_notN {k} {p2} {n : Bool} (h1 : Ev M (wE X a) σ H P) (hn : ∀ v H1 H2, P v H1 H2 → decide (v = .non) = n) : EvT M (wT X (.Compare a [.IsNot] [.Constant .none k p2] pos)) σ H (· = !n) :=
  fun H1 g Q q => of_pt (pt_cmpR op_notN e_pe pe_non (nomark _)) (h1 H1 g _ fun v H2 g2 p => ⟨rfl, _, rfl, q _ _ g2 (by rw [hn v _ _ p])⟩)
def isNon : PyData → Bool
  | .none => true
  | _ => false
theorem non_d {K : PySem.W.Frag} {d : PyData} {v : V} {H1 H2 : Hp} (h : Pd K d v H1 H2) : decide (v = .non) = isNon d := by
  unfold Pd at h
  cases h <;> rfl
theorem eqV_str {x y : Str} : L2.eqV (.str x) (.str y) = decide (x = y) := by
  show (x == y) = decide (x = y)
  by_cases z : x = y
  · rw [z]
    simp
  · rw [decide_eq_false z]
    exact beq_eq_false_iff_ne.mpr z
theorem inV_str {x : Str} {zs : List Str} : inV (.str x) (zs.map V.str) = decide (x ∈ zs) := by
  unfold inV
  induction zs with
  | nil => rfl
  | cons z zs ih =>
    rw [List.map_cons, List.any_cons, ih, eqV_str]
    by_cases e : z = x
    · rw [decide_eq_true e, Bool.true_or, decide_eq_true]
      rw [e]
      exact List.mem_cons_self
    · rw [decide_eq_false e, Bool.false_or]
      by_cases m : x ∈ zs
      · rw [decide_eq_true m, decide_eq_true (List.mem_cons_of_mem _ m)]
      · rw [decide_eq_false m, decide_eq_false]
        intro q
        rcases List.mem_cons.mp q with q | q
        · exact e q.symm
        · exact m q
theorem flat_strs (zs : List Str) : (zs.map V.str).all flatV = true := by
  induction zs with
  | nil => rfl
  | cons z zs ih =>
    rw [List.map_cons, List.all_cons, ih]
    rfl
theorem dvA_strs {K : PySem.W.Frag} {zs : List Str} {vs : List V} (h : DvA K H vs (zs.map PyData.str)) : vs = zs.map V.str := by
  induction zs generalizing vs with
  | nil =>
    cases h
    rfl
  | cons z zs ih =>
    rw [List.map_cons] at h
    cases h with
    | cons h1 h2 =>
      rw [dv_str h1, ih h2]
      rfl
theorem strs_dvA {K : PySem.W.Frag} (zs : List Str) : DvA K H (zs.map V.str) (zs.map PyData.str) := by
  induction zs with
  | nil => exact .nil
  | cons z zs ih => exact .cons (.str z) ih
theorem ints_dvA {K : PySem.W.Frag} (zs : List Int) : DvA K H (zs.map V.int) (zs.map PyData.int) := by
  induction zs with
  | nil => exact .nil
  | cons z zs ih => exact .cons (.int z) ih
theorem dvA_ints {K : PySem.W.Frag} {zs : List Int} {vs : List V} (h : DvA K H vs (zs.map PyData.int)) : vs = zs.map V.int := by
  induction zs generalizing vs with
  | nil =>
    cases h
    rfl
  | cons z zs ih =>
    rw [List.map_cons] at h
    cases h with
    | cons h1 h2 =>
      rw [dv_int h1, ih h2]
      rfl
theorem dvA_bls {K : PySem.W.Frag} {zs : List Bool} {vs : List V} (h : DvA K H vs (zs.map PyData.bool)) : vs = zs.map V.bl := by
  induction zs generalizing vs with
  | nil =>
    cases h
    rfl
  | cons z zs ih =>
    rw [List.map_cons] at h
    cases h with
    | cons h1 h2 =>
      rw [dv_bl h1, ih h2]
      rfl
/-- a text in a written tuple of texts -/
theorem cv_inT {x : Str} {zs : List Str} : Cv M X .In (Pd X.K (.str x)) (Pd X.K (.tuple (zs.map .str))) (decide (x ∈ zs)) := ⟨_, op_in_seq, fun v u H1 H2 H3 g1 p1 g2 p2 Q q => by
    obtain rfl := dv_str p1
    obtain ⟨t, xs, rfl, hs, ha⟩ := dv_tup p2
    obtain rfl := dvA_strs ha
    refine ⟨t, _, rfl, .inr hs, rfl, flat_strs zs, ?_⟩
    show Q (.bl (inV (.str x) (zs.map V.str))) H3
    rw [inV_str]
    exact q⟩
theorem ev_inT {x : Str} {zs : List Str} (h1 : Ev M (wE X a) σ H (Pd X.K (.str x))) (h2 : Ev M (wE X b) σ H (Pd X.K (.tuple (zs.map .str)))) (hm : behindInMarks .In b = false := by rfl) : Ev M (wE X (.Compare a [.In] [b] pos)) σ H (Pd X.K (.bool (decide (x ∈ zs)))) := ev_cv (cv_inT) h1 h2 hm
theorem et_inT {x : Str} {zs : List Str} (h1 : Ev M (wE X a) σ H (Pd X.K (.str x))) (h2 : Ev M (wE X b) σ H (Pd X.K (.tuple (zs.map .str)))) (hm : behindInMarks .In b = false := by rfl) : EvT M (wT X (.Compare a [.In] [b] pos)) σ H (· = (decide (x ∈ zs))) := et_cv (cv_inT) h1 h2 hm
/-- a text in a list of texts -/
def PLs (K : PySem.W.Frag) (zs : List Str) : PV := fun v _ H2 => ∃ a, v = .ref a ∧ SqL K H2 a (zs.map V.str)
theorem cv_notInL {x : Str} {zs : List Str} : Cv M X .NotIn (Pd X.K (.str x)) (PLs X.K zs) (!decide (x ∈ zs)) := ⟨_, op_notIn_seq, fun v u H1 H2 H3 g1 p1 g2 p2 Q q => by
    obtain ⟨t, e, hs⟩ := p2
    obtain rfl := dv_str p1
    subst e
    refine ⟨t, _, rfl, .inl hs, rfl, flat_strs zs, ?_⟩
    show Q (.bl (!inV (.str x) (zs.map V.str))) H3
    rw [inV_str]
    exact q⟩
theorem ev_notInL {x : Str} {zs : List Str} (h1 : Ev M (wE X a) σ H (Pd X.K (.str x))) (h2 : Ev M (wE X b) σ H (PLs X.K zs)) (hm : behindInMarks .NotIn b = false := by rfl) : Ev M (wE X (.Compare a [.NotIn] [b] pos)) σ H (Pd X.K (.bool (!decide (x ∈ zs)))) := ev_cv (cv_notInL) h1 h2 hm
theorem et_notInL {x : Str} {zs : List Str} (h1 : Ev M (wE X a) σ H (Pd X.K (.str x))) (h2 : Ev M (wE X b) σ H (PLs X.K zs)) (hm : behindInMarks .NotIn b = false := by rfl) : EvT M (wT X (.Compare a [.NotIn] [b] pos)) σ H (· = (!decide (x ∈ zs))) := et_cv (cv_notInL) h1 h2 hm
theorem cv_inS {n : Nat} {z : Str} : Cv M X .In (Pd X.K (.str ⟨#[n]⟩)) (Pd X.K (.str z)) (decide (n ∈ z.cps.toList)) := ⟨_, op_in_sign, fun v u H1 H2 H3 g1 p1 g2 p2 Q q => ⟨n, z, dv_str p1, dv_str p2, q⟩⟩
theorem ev_inS {n : Nat} {z : Str} (h1 : Ev M (wE X a) σ H (Pd X.K (.str ⟨#[n]⟩))) (h2 : Ev M (wE X b) σ H (Pd X.K (.str z))) (hm : behindInMarks .In b = false := by rfl) : Ev M (wE X (.Compare a [.In] [b] pos)) σ H (Pd X.K (.bool (decide (n ∈ z.cps.toList)))) := ev_cv (cv_inS) h1 h2 hm
theorem et_inS {n : Nat} {z : Str} (h1 : Ev M (wE X a) σ H (Pd X.K (.str ⟨#[n]⟩))) (h2 : Ev M (wE X b) σ H (Pd X.K (.str z))) (hm : behindInMarks .In b = false := by rfl) : EvT M (wT X (.Compare a [.In] [b] pos)) σ H (· = (decide (n ∈ z.cps.toList))) := et_cv (cv_inS) h1 h2 hm
/-! items, displays, slices -/
theorem atI_dv {K : PySem.W.Frag} {vs : List V} {ds : List PyData} {i : Int} {d : PyData} (h : DvA K H vs ds) (e : atI ds i = some d) : ∃ v, atI vs i = some v ∧ Dv K H v d := by
  unfold atI at e ⊢
  rw [h.length]
  cases q : ixN ds.length i with
  | none =>
    rw [q] at e
    cases e
  | some j =>
    rw [q] at e
    exact h.get e
theorem ev_ix {ds : List PyData} {i : Int} {d : PyData} (h1 : Ev M (wE X a) σ H (Pd X.K (.tuple ds))) (h2 : Ev M (wE X b) σ H (Pd X.K (.int i))) (e : atI ds i = some d) (hs : PlainIx b := by exact fun _ _ => rfl) : Ev M (wE X (.Subscript a b pos)) σ H (Pd X.K d) :=
  fun H1 g Q q => of_pe (pe_ix ix_tup e_pe e_pe hs) (h1 H1 g _ fun v H2 g2 p => h2 H2 (g.t g2) _ fun u H3 g3 p3 => by
    obtain ⟨t, xs, rfl, hx, ha⟩ := dv_tup p
    obtain ⟨w, e1, hw⟩ := atI_dv ha e
    exact ⟨t, xs, i, w, rfl, dv_int p3, g3.tup hx, e1, q _ _ (g2.t g3) (hw.g g3)⟩)
/-- an item of a list -/
def PLd (K : PySem.W.Frag) (ds : List PyData) : PV := fun v _ H2 => ∃ a vs, v = .ref a ∧ SqL K H2 a vs ∧ DvA K H2 vs ds
theorem ev_ixL {ds : List PyData} {i : Int} {d : PyData} (h1 : Ev M (wE X a) σ H (PLd X.K ds)) (hst : Stb M (PLd X.K ds)) (h2 : Ev M (wE X b) σ H (Pd X.K (.int i))) (e : atI ds i = some d) (hs : PlainIx b := by exact fun _ _ => rfl) : Ev M (wE X (.Subscript a b pos)) σ H (Pd X.K d) :=
  fun H1 g Q q => of_pe (pe_ix ix_list e_pe e_pe hs) (h1 H1 g _ fun v H2 g2 p => h2 H2 (g.t g2) _ fun u H3 g3 p3 => by
    obtain ⟨t, xs, rfl, hx, ha⟩ := hst _ _ _ _ _ g2.l g2 g3 p
    obtain ⟨w, e1, hw⟩ := atI_dv ha e
    exact ⟨t, xs, i, w, rfl, dv_int p3, hx, e1, q _ _ (g2.t g3) hw⟩)
theorem ea_nil : EvA M (wA X []) σ H (PdA X.K []) := fun H1 g Q q => of_pa pa_nil (q _ _ g.r .nil)
theorem ea_cons {d : PyData} {ds : List PyData} (h1 : Ev M (wE X e) σ H (Pd X.K d)) (h2 : EvA M (wA X es) σ H (PdA X.K ds)) (hs : starEach (e :: es) X.env = (false, eval e X.env) :: starEach es X.env := by rfl) : EvA M (wA X (e :: es)) σ H (PdA X.K (d :: ds)) :=
  fun H1 g Q q => of_pa (pa_cons e_pe e_pa hs) (h1 H1 g _ fun v H2 g2 p => h2 H2 (g.t g2) _ fun vs H3 g3 p3 => q _ _ (g2.t g3) (.cons (Dv.g p g3) p3))
/-- arguments of any kind -/
def PvA : List PV → PVs
  | [] => fun vs _ _ => vs = []
  | P :: r => fun vs H1 H2 => ∃ v ws, vs = v :: ws ∧ P v H1 H2 ∧ PvA r ws H1 H2
theorem eg_nil : EvA M (wA X []) σ H (PvA []) := fun H1 g Q q => of_pa pa_nil (q _ _ g.r rfl)
def StbA (M : Addr → Prop) (P : PVs) : Prop := ∀ v H0 H1 H2 , Gr M H0 H1 → Gr M H1 H2 → P v H1 H2 → P v H0 H2
theorem stbA : ∀ {Ps : List PV}, (∀ P ∈ Ps, Stb M P) → StbA M (PvA Ps)
  | [], _ => fun _ _ _ _ _ _ h => h
  | P :: r, hs => fun v H0 H1 H2 g g' ⟨x, ws, e, h1, h2⟩ => ⟨x, ws, e, hs P List.mem_cons_self _ _ _ _ _ g g' g'.r h1, stbA (fun P' m => hs P' (List.mem_cons_of_mem _ m)) _ _ _ _ g g' h2⟩
theorem eg_cons {P : PV} {Ps : List PV} (hst : Stb M P) (hsA : ∀ P ∈ Ps, Stb M P) (h1 : Ev M (wE X e) σ H P) (h2 : EvA M (wA X es) σ H (PvA Ps)) (hs : starEach (e :: es) X.env = (false, eval e X.env) :: starEach es X.env := by rfl) : EvA M (wA X (e :: es)) σ H (PvA (P :: Ps)) :=
  fun H1 g Q q => of_pa (pa_cons e_pe e_pa hs) (h1 H1 g _ fun v H2 g2 p => h2 H2 (g.t g2) _ fun vs H3 g3 p3 => q _ _ (g2.t g3) ⟨v, vs, rfl, hst _ _ _ _ _ g2.l g2 g3 p, stbA hsA _ _ _ _ g2 g3 p3⟩)
theorem sz_of {n : Nat} (h : n ≤ 100000) : n ≤ sizeLine := Nat.le_trans h (by decide)
theorem ev_tup {ds : List PyData} {k} (h : EvA M (wA X es) σ H (PdA X.K ds)) (hl : ds.length ≤ 100000) : Ev M (wE X (.Tuple es k pos)) σ H (Pd X.K (.tuple ds)) :=
  fun H1 g Q q => of_pe (pe_tup e_pa) (h H1 g _ fun vs H2 g2 p => ⟨sz_of (by rw [DvA.length p]; exact hl), fun t ht => q _ _ (g2.new ht) (Dv.tupN (DvA.sn p ht) upd_same)⟩)
theorem ev_lst {ds : List PyData} (h : EvA M (wA X es) σ H (PdA X.K ds)) (hl : ds.length ≤ 100000) : Ev M (wE X (.List es pos)) σ H (PL X.K ds) :=
  fun H1 g Q q => of_pe (pe_lst e_pa) (h H1 g _ fun vs H2 g2 p => ⟨sz_of (by rw [DvA.length p]; exact hl), fun t ht => q _ _ (g2.new ht) ⟨t, vs, rfl, g2.back ht, upd_same, DvA.sn p ht⟩⟩)
/-- a tuple of things of any kind, new -/
def PTup (Ps : List PV) : PV := fun v H1 H2 => ∃ t vs H, v = .ref t ∧ H1 t = none ∧ H2 t = some (.tup vs) ∧ H t = none ∧ PvA Ps vs H1 H ∧ H2 = upd H t (.tup vs)
theorem ev_tupG {Ps : List PV} {k} (h : EvA M (wA X es) σ H (PvA Ps)) (hl : Ps.length ≤ 100000) (hlen : ∀ vs H1 H2, PvA Ps vs H1 H2 → vs.length = Ps.length) : Ev M (wE X (.Tuple es k pos)) σ H (PTup Ps) :=
  fun H1 g Q q => of_pe (pe_tup e_pa) (h H1 g _ fun vs H2 g2 p => ⟨sz_of (by rw [hlen _ _ _ p]; exact hl), fun t ht => q _ _ (g2.new ht) ⟨t, vs, H2, rfl, g2.back ht, upd_same, ht, p, rfl⟩⟩)
theorem PvA_len : ∀ {Ps : List PV} {vs : List V} {H1 H2 : Hp}, PvA Ps vs H1 H2 → vs.length = Ps.length
  | [], _, _, _, h => by cases h; rfl
  | P :: r, _, _, _, ⟨v, ws, e, _, h⟩ => by rw [e]; exact congrArg (· + 1) (PvA_len h)
theorem eo_none : EvO M tNoPart σ H none := fun H1 g Q q => q _ g.r
theorem eo_some {i : Int} (h : Ev M (wE X e) σ H (Pd X.K (.int i))) : EvO M (tPart (wE X e)) σ H (some i) := fun H1 g Q q => h H1 g _ fun v H2 g2 p => ⟨i, dv_int p, q _ g2⟩
def cutD (ds : List PyData) (lo hi : Option Int) : List PyData := (ds.drop (HT.sIx ds.length 0 lo)).take (HT.sIx ds.length ds.length hi - HT.sIx ds.length 0 lo)
theorem cut_whole {α : Type} (l : List α) : (l.drop 0).take (l.length - 0) = l := by simp
theorem ev_sl {lo hi : Option Expr} {tl th : TO} {p2 : Pos} {i j : Option Int} {ds : List PyData} (h : Ev M (wE X a) σ H (Pd X.K (.tuple ds))) (pl : PO X lo tl) (ph : PO X hi th) (hl : EvO M tl σ H i) (hh : EvO M th σ H j) : Ev M (wE X (.Subscript a (.Slice lo hi none p2) pos)) σ H (Pd X.K (.tuple (cutD ds i j))) :=
  fun H1 g Q q => of_pe (pe_slice sl_tupA e_pe pl ph) (h H1 g _ fun v H2 g2 p => hl H2 (g.t g2) _ fun H3 g3 => hh H3 ((g.t g2).t g3) _ fun H4 g4 => by
    obtain ⟨t, xs, rfl, hx, ha⟩ := dv_tu p
    have hx4 := (g3.t g4).tu hx
    have ha4 := ha.g (g3.t g4)
    have hlen := ha.length
    refine ⟨t, xs, rfl, .inl (.inl hx4), fun z => ?_, fun z t' ht => ?_⟩
    · refine q _ _ ((g2.t g3).t g4) ?_
      show Dv X.K H4 (.ref t) (.tuple ((ds.drop _).take _))
      rw [← hlen, z.1, z.2, hlen, cut_whole]
      exact .tup hx4 ha4
    · refine q _ _ (((g2.t g3).t g4).new ht) ?_
      show Dv X.K _ (.ref t') (.tuple ((ds.drop _).take _))
      rw [← hlen]
      exact Dv.tupN (DvA.sn ((ha4.drop _).take _) ht) upd_same)
theorem ev_cat {ds es' : List PyData} (h1 : Ev M (wE X a) σ H (Pd X.K (.tuple ds))) (h2 : Ev M (wE X b) σ H (Pd X.K (.tuple es'))) (hl : ds.length + es'.length ≤ 100000) : Ev M (wE X (.BinOp a .Add b pos)) σ H (Pd X.K (.tuple (ds ++ es'))) :=
  fun H1 g Q q => of_pe (pe_op op_catA e_pe e_pe) (h1 H1 g _ fun v H2 g2 p => h2 H2 (g.t g2) _ fun u H3 g3 p3 => by
    obtain ⟨t, xs, rfl, hx, ha⟩ := dv_tu p
    obtain ⟨t', ys, rfl, hy, hb⟩ := dv_tu p3
    have hx3 := g3.tu hx
    have ha3 := ha.g g3
    refine ⟨t, t', xs, ys, rfl, rfl, .inl (.inl hx3), .inl (.inl hy), sz_of (by rw [ha.length, hb.length]; exact hl), fun z => ?_, fun z1 z2 => ?_, fun _ _ r hr => ?_⟩
    · subst z
      cases ha
      exact q _ _ (g2.t g3) (.tup hy hb)
    · subst z2
      cases hb
      rw [List.append_nil] at q
      exact q _ _ (g2.t g3) (.tup hx3 ha3)
    · exact q _ _ ((g2.t g3).new hr) (Dv.tupN (DvA.sn (ha3.app hb) hr) upd_same))
/-! tests, choices, truth -/
theorem et_val {d : Bool} (h : Ev M (wE X e) σ H (Pd X.K (.bool d))) (he : ∀ whole, isTrue e X.env whole = (do let v ← whole; standAt e.pos; holding [v] (truthy v)) := by exact fun _ => rfl) : EvT M (wT X e) σ H (· = d) :=
  fun H1 g Q q => of_pt (pt_val e_pe he) (h H1 g _ fun v H2 g2 p => ⟨d, dv_bl p, q _ _ g2 rfl⟩)
theorem et_valP {p : Bool → Prop} (h : Ev M (wE X e) σ H (PdE X.K fun z => ∃ d, z = .bool d ∧ p d)) (he : ∀ whole, isTrue e X.env whole = (do let v ← whole; standAt e.pos; holding [v] (truthy v)) := by exact fun _ => rfl) : EvT M (wT X e) σ H p :=
  fun H1 g Q q => of_pt (pt_val e_pe he) (h H1 g _ fun v H2 g2 ⟨z, ⟨d, e1, hd⟩, p⟩ => by
    subst e1
    exact ⟨d, dv_bl p, q _ _ g2 hd⟩)
theorem et_w {p : Bool → Prop} (h : EvT M (wW X e) σ H p) : EvT M (wT X e) σ H p := fun H1 g Q q => of_pt (PW.pt e_pw) (h H1 g _ q)
theorem ew_and1 {p : Bool → Prop} (h : EvT M (wT X a) σ H p) : EvT M (wW X (.BoolOp .And [a] pos)) σ H p := fun H1 g Q q => of_pw (pw_and1 e_pt) (h H1 g _ q)
theorem ew_or1 {p : Bool → Prop} (h : EvT M (wT X a) σ H p) : EvT M (wW X (.BoolOp .Or [a] pos)) σ H p := fun H1 g Q q => of_pw (pw_or1 e_pt) (h H1 g _ q)
theorem ew_and {x y : Bool} (h1 : EvT M (wT X a) σ H (· = x)) (h2 : x = true → EvT M (wW X (.BoolOp .And (b :: rest) pos)) σ H (· = y)) : EvT M (wW X (.BoolOp .And (a :: b :: rest) pos)) σ H (· = (x && y)) :=
  fun H1 g Q q => of_pw (pw_and e_pt e_pw) (h1 H1 g _ fun v H2 g2 p => by
    subst p
    cases v with
    | true => exact iteT (h2 rfl H2 (g.t g2) _ fun u H3 g3 p3 => q _ _ (g2.t g3) p3)
    | false => exact iteF (q _ _ g2 rfl))
theorem ew_or {x y : Bool} (h1 : EvT M (wT X a) σ H (· = x)) (h2 : x = false → EvT M (wW X (.BoolOp .Or (b :: rest) pos)) σ H (· = y)) : EvT M (wW X (.BoolOp .Or (a :: b :: rest) pos)) σ H (· = (x || y)) :=
  fun H1 g Q q => of_pw (pw_or e_pt e_pw) (h1 H1 g _ fun v H2 g2 p => by
    subst p
    cases v with
    | true => exact iteT (q _ _ g2 rfl)
    | false => exact iteF (h2 rfl H2 (g.t g2) _ fun u H3 g3 p3 => q _ _ (g2.t g3) p3))
theorem ew_andP {p q' r : Bool → Prop} (h1 : EvT M (wT X a) σ H p) (h2 : p true → EvT M (wW X (.BoolOp .And (b :: rest) pos)) σ H q') (k1 : p true → ∀ x, q' x → r x) (k2 : p false → r false) : EvT M (wW X (.BoolOp .And (a :: b :: rest) pos)) σ H r :=
  fun H1 g Q q => of_pw (pw_and e_pt e_pw) (h1 H1 g _ fun v H2 g2 p => by
    cases v with
    | true => exact iteT (h2 p H2 (g.t g2) _ fun u H3 g3 p3 => q _ _ (g2.t g3) (k1 p _ p3))
    | false => exact iteF (q _ _ g2 (k2 p)))
theorem et_not {x : Bool} (h : EvT M (wT X a) σ H (· = x)) : EvT M (wT X (.UnaryOp .Not a pos)) σ H (· = !x) :=
  fun H1 g Q q => of_pt (pt_not e_pt) (h H1 g _ fun v H2 g2 p => by
    subst p
    exact q _ _ g2 rfl)
theorem ev_not {x : Bool} (h : Ev M (wE X a) σ H (Pd X.K (.bool x))) : Ev M (wE X (.UnaryOp .Not a pos)) σ H (Pd X.K (.bool (!x))) :=
  fun H1 g Q q => of_pe (pe_not e_pe) (h H1 g _ fun v H2 g2 p => ⟨x, dv_bl p, q _ _ g2 (.bl _)⟩)
theorem ev_one {op} (h : Ev M (wE X a) σ H P) : Ev M (wE X (.BoolOp op [a] pos)) σ H P := fun H1 g Q q => of_pe (pe_one e_pe) (h H1 g _ q)
theorem ev_and {x y : Bool} (h1 : Ev M (wE X a) σ H (Pd X.K (.bool x))) (h2 : x = true → Ev M (wE X (.BoolOp .And (b :: rest) pos)) σ H (Pd X.K (.bool y))) : Ev M (wE X (.BoolOp .And (a :: b :: rest) pos)) σ H (Pd X.K (.bool (x && y))) :=
  fun H1 g Q q => of_pe (pe_and e_pe e_pe) (h1 H1 g _ fun v H2 g2 p => ⟨x, dv_bl p, by
    cases x with
    | true => exact iteT (h2 rfl H2 (g.t g2) _ fun u H3 g3 p3 => q _ _ (g2.t g3) p3)
    | false => exact iteF (q _ _ g2 (.bl _))⟩)
theorem ev_or {x y : Bool} (h1 : Ev M (wE X a) σ H (Pd X.K (.bool x))) (h2 : x = false → Ev M (wE X (.BoolOp .Or (b :: rest) pos)) σ H (Pd X.K (.bool y))) : Ev M (wE X (.BoolOp .Or (a :: b :: rest) pos)) σ H (Pd X.K (.bool (x || y))) :=
  fun H1 g Q q => of_pe (pe_or e_pe e_pe) (h1 H1 g _ fun v H2 g2 p => ⟨x, dv_bl p, by
    cases x with
    | true => exact iteT (q _ _ g2 (.bl _))
    | false => exact iteF (h2 rfl H2 (g.t g2) _ fun u H3 g3 p3 => q _ _ (g2.t g3) p3)⟩)
theorem ev_andF (h1 : Ev M (wE X a) σ H (Pd X.K (.bool false))) : Ev M (wE X (.BoolOp .And (a :: b :: rest) pos)) σ H (Pd X.K (.bool false)) :=
  fun H1 g Q q => of_pe (pe_and e_pe e_pe) (h1 H1 g _ fun v H2 g2 p => ⟨false, dv_bl p, iteF (q _ _ g2 (.bl _))⟩)
theorem ev_orT (h1 : Ev M (wE X a) σ H (Pd X.K (.bool true))) : Ev M (wE X (.BoolOp .Or (a :: b :: rest) pos)) σ H (Pd X.K (.bool true)) :=
  fun H1 g Q q => of_pe (pe_or e_pe e_pe) (h1 H1 g _ fun v H2 g2 p => ⟨true, dv_bl p, iteT (q _ _ g2 (.bl _))⟩)
theorem ev_andT {d : Bool} (h1 : Ev M (wE X a) σ H (Pd X.K (.bool true))) (h2 : Ev M (wE X (.BoolOp .And (b :: rest) pos)) σ H (Pd X.K (.bool d))) : Ev M (wE X (.BoolOp .And (a :: b :: rest) pos)) σ H (Pd X.K (.bool d)) :=
  fun H1 g Q q => of_pe (pe_and e_pe e_pe) (h1 H1 g _ fun v H2 g2 p => ⟨true, dv_bl p, iteT (h2 H2 (g.t g2) _ fun u H3 g3 p3 => q _ _ (g2.t g3) p3)⟩)
theorem ev_orF {d : Bool} (h1 : Ev M (wE X a) σ H (Pd X.K (.bool false))) (h2 : Ev M (wE X (.BoolOp .Or (b :: rest) pos)) σ H (Pd X.K (.bool d))) : Ev M (wE X (.BoolOp .Or (a :: b :: rest) pos)) σ H (Pd X.K (.bool d)) :=
  fun H1 g Q q => of_pe (pe_or e_pe e_pe) (h1 H1 g _ fun v H2 g2 p => ⟨false, dv_bl p, iteF (h2 H2 (g.t g2) _ fun u H3 g3 p3 => q _ _ (g2.t g3) p3)⟩)
theorem ew_andF (h1 : EvT M (wT X a) σ H (· = false)) : EvT M (wW X (.BoolOp .And (a :: b :: rest) pos)) σ H (· = false) :=
  fun H1 g Q q => of_pw (pw_and e_pt e_pw) (h1 H1 g _ fun v H2 g2 p => by
    subst p
    exact iteF (q _ _ g2 rfl))
theorem ew_andT {p : Bool → Prop} (h1 : EvT M (wT X a) σ H (· = true)) (h2 : EvT M (wW X (.BoolOp .And (b :: rest) pos)) σ H p) : EvT M (wW X (.BoolOp .And (a :: b :: rest) pos)) σ H p :=
  fun H1 g Q q => of_pw (pw_and e_pt e_pw) (h1 H1 g _ fun v H2 g2 p => by
    subst p
    exact iteT (h2 H2 (g.t g2) _ fun u H3 g3 p3 => q _ _ (g2.t g3) p3))
theorem ew_orF {p : Bool → Prop} (h1 : EvT M (wT X a) σ H (· = false)) (h2 : EvT M (wW X (.BoolOp .Or (b :: rest) pos)) σ H p) : EvT M (wW X (.BoolOp .Or (a :: b :: rest) pos)) σ H p :=
  fun H1 g Q q => of_pw (pw_or e_pt e_pw) (h1 H1 g _ fun v H2 g2 p => by
    subst p
    exact iteF (h2 H2 (g.t g2) _ fun u H3 g3 p3 => q _ _ (g2.t g3) p3))
theorem ew_orT (h1 : EvT M (wT X a) σ H (· = true)) : EvT M (wW X (.BoolOp .Or (a :: b :: rest) pos)) σ H (· = true) :=
  fun H1 g Q q => of_pw (pw_or e_pt e_pw) (h1 H1 g _ fun v H2 g2 p => by
    subst p
    exact iteT (q _ _ g2 rfl))
/-- not e, e a value -/
theorem et_notF (h : Ev M (wE X a) σ H (Pd X.K (.bool true))) (he : ∀ whole, isTrue a X.env whole = (do let v ← whole; standAt a.pos; holding [v] (truthy v)) := by exact fun _ => rfl) : EvT M (wT X (.UnaryOp .Not a pos)) σ H (· = false) := et_not (et_val h he)
theorem et_notT (h : Ev M (wE X a) σ H (Pd X.K (.bool false))) (he : ∀ whole, isTrue a X.env whole = (do let v ← whole; standAt a.pos; holding [v] (truthy v)) := by exact fun _ => rfl) : EvT M (wT X (.UnaryOp .Not a pos)) σ H (· = true) := et_not (et_val h he)
/-- a if c else b -/
theorem ev_ifP {p : Bool → Prop} (hst : ∀ v H0 H1 H2, Gr M H0 H1 → Gr M H1 H2 → P v H1 H2 → P v H0 H2) (h : EvT M (wT X c) σ H p) (h1 : p true → Ev M (wE X a) σ H P) (h2 : p false → Ev M (wE X b) σ H P) : Ev M (wE X (.IfExp c a b pos)) σ H P :=
  fun H1 g Q q => of_pe (pe_ifExp e_pt e_pe e_pe) (h H1 g _ fun v H2 g2 p => by
    cases v with
    | true => exact iteT (h1 p H2 (g.t g2) _ fun u H3 g3 p3 => q _ _ (g2.t g3) (hst _ _ _ _ g2 g3 p3))
    | false => exact iteF (h2 p H2 (g.t g2) _ fun u H3 g3 p3 => q _ _ (g2.t g3) (hst _ _ _ _ g2 g3 p3)))
theorem ev_if {x : Bool} {d : PyData} (h : EvT M (wT X c) σ H (· = x)) (h1 : x = true → Ev M (wE X a) σ H (Pd X.K d)) (h2 : x = false → Ev M (wE X b) σ H (Pd X.K d)) : Ev M (wE X (.IfExp c a b pos)) σ H (Pd X.K d) :=
  ev_ifP (fun _ _ _ _ _ _ h => h) h (fun z => h1 z.symm) (fun z => h2 z.symm)
end
end SR
set_option Elab.async false
set_option linter.all false
set_option maxRecDepth 100000
set_option maxHeartbeats 2000000
/-! calls, statements, loops -/
namespace SR
open PySem PySem.Spec PyProof.Rows L2

section
variable {M : Addr → Prop} {X : Cx} {σ : L2.St} {H : Hp} {a b c e : Expr} {es rest : List Expr} {pos p : Pos} {P : PV}
/-! calls of what is built in -/
theorem ev_callB {x : Str} {id : String} {r : List V → Hp → VK → Prop} {PA' : PVs} (hc : CallR X (.builtin id) r) (hm : X.mg x = none) (hv : bootBuiltins x = some (.builtin id)) (h : EvA M (wA X (e :: es)) σ H PA')
    (k : ∀ vs H1 H2, Gr M H H1 → Gr M H1 H2 → PA' vs H1 H2 → ∀ Q : VK, (∀ v H3, Gr M H2 H3 → P v H1 H3 → Q v H3) → r vs H2 Q)
    (hg : Gl X x := by rfl) (hn : x ≠ "__name__" := by decide) (hdb : (x == ("__debug__" : Str)) = false := by decide)
    (he : starEach (e :: es) X.env = (false, eval e X.env) :: starEach es X.env := by rfl) (hpl : (backTo pos (starEach es X.env)).any (·.1) = false := by rfl) : Ev M (wE X (.Call (.Name x p) (e :: es) [] pos)) σ H P :=
  fun H1 g Q q => of_pe (pe_callB hc hg hm hv e_pa hn hdb he hpl) (h H1 g _ fun vs H2 g2 pa => k vs H1 H2 g g2 pa Q fun v H3 g3 p3 => q v H3 (g2.t g3) p3)
theorem ev_callTy {x : Str} {T : String} {r : List V → Hp → VK → Prop} {PA' : PVs} (hc : CallR X (.type T) r) (hm : X.mg x = none) (hv : bootBuiltins x = some (.type T)) (h : EvA M (wA X (e :: es)) σ H PA')
    (k : ∀ vs H1 H2, Gr M H H1 → Gr M H1 H2 → PA' vs H1 H2 → ∀ Q : VK, (∀ v H3, Gr M H2 H3 → P v H1 H3 → Q v H3) → r vs H2 Q)
    (hg : Gl X x := by rfl) (hn : x ≠ "__name__" := by decide) (hdb : (x == ("__debug__" : Str)) = false := by decide)
    (he : starEach (e :: es) X.env = (false, eval e X.env) :: starEach es X.env := by rfl) (hpl : (backTo pos (starEach es X.env)).any (·.1) = false := by rfl) : Ev M (wE X (.Call (.Name x p) (e :: es) [] pos)) σ H P :=
  fun H1 g Q q => of_pe (pe_callTy hc hg hm hv e_pa hn hdb he hpl) (h H1 g _ fun vs H2 g2 pa => k vs H1 H2 g g2 pa Q fun v H3 g3 p3 => q v H3 (g2.t g3) p3)
theorem bt_max : bootBuiltins "max" = some (.builtin "max") := by decide +kernel
theorem bt_min : bootBuiltins "min" = some (.builtin "min") := by decide +kernel
theorem bt_sum : bootBuiltins "sum" = some (.builtin "sum") := by decide +kernel
theorem bt_any : bootBuiltins "any" = some (.builtin "any") := by decide +kernel
theorem bt_all : bootBuiltins "all" = some (.builtin "all") := by decide +kernel
theorem bt_abs : bootBuiltins "abs" = some (.builtin "abs") := by decide +kernel
theorem bt_len : bootBuiltins "len" = some (.builtin "len") := by decide +kernel
theorem bt_isi : bootBuiltins "isinstance" = some (.builtin "isinstance") := by decide +kernel
theorem bt_sorted : bootBuiltins "sorted" = some (.builtin "sorted") := by decide +kernel
theorem bt_int : bootBuiltins "int" = some (.type "int") := by decide +kernel
theorem bt_bool : bootBuiltins "bool" = some (.type "bool") := by decide +kernel
theorem bt_str : bootBuiltins "str" = some (.type "str") := by decide +kernel
theorem bt_tuple : bootBuiltins "tuple" = some (.type "tuple") := by decide +kernel
theorem bt_list : bootBuiltins "list" = some (.type "list") := by decide +kernel
theorem bt_dict : bootBuiltins "dict" = some (.type "dict") := by decide +kernel
/-- one argument -/
theorem ea_of {P1 : PV} (h : Ev M (wE X e) σ H P1) (hs : starEach [e] X.env = (false, eval e X.env) :: starEach [] X.env := by rfl) : EvA M (wA X [e]) σ H (fun vs H1 H2 => ∃ v, vs = [v] ∧ P1 v H1 H2) :=
  fun H1 g Q q => of_pa (pa_cons e_pe pa_nil hs) (h H1 g _ fun v H2 g2 p => q _ _ g2 ⟨v, rfl, p⟩)
theorem ea_two {P1 P2 : PV} (hst : Stb M P1) (h2st : ∀ v H0 H1 H2, Gr M H0 H1 → Gr M H1 H2 → P2 v H1 H2 → P2 v H0 H2) (h : Ev M (wE X a) σ H P1) (h2 : Ev M (wE X b) σ H P2) (hs : starEach [a, b] X.env = (false, eval a X.env) :: starEach [b] X.env := by rfl) (hs2 : starEach [b] X.env = (false, eval b X.env) :: starEach [] X.env := by rfl) :
    EvA M (wA X [a, b]) σ H (fun vs H1 H2 => ∃ v w, vs = [v, w] ∧ P1 v H1 H2 ∧ P2 w H1 H2) :=
  fun H1 g Q q => of_pa (pa_cons e_pe (pa_cons e_pe pa_nil hs2) hs) (h H1 g _ fun v H2 g2 p => h2 H2 (g.t g2) _ fun w H3 g3 p3 => q _ _ (g2.t g3) ⟨v, w, rfl, hst _ _ _ _ _ g2.l g2 g3 p, h2st _ _ _ _ g2 g3 p3⟩)
theorem ev_lenT {ds : List PyData} (hm : X.mg "len" = none) (h : Ev M (wE X e) σ H (Pd X.K (.tuple ds))) (hg : Gl X "len" := by rfl) (he : starEach [e] X.env = (false, eval e X.env) :: starEach [] X.env := by rfl) : Ev M (wE X (.Call (.Name "len" p) [e] [] pos)) σ H (Pd X.K (.int ds.length)) :=
  ev_callB call_len_seq hm bt_len (ea_of h he) (fun vs H1 H2 g1 g2 ⟨v, e1, pv⟩ Q q => by
    subst e1
    obtain ⟨t, xs, rfl, hs, ha⟩ := dv_tup pv
    refine ⟨t, xs, rfl, .inr hs, ?_⟩
    rw [ha.length]
    exact q _ _ g2.r (.int _)) hg (by decide) (by decide) he
theorem ev_lenS {z : Str} (hz : z.length ≤ 100000) (hm : X.mg "len" = none) (h : Ev M (wE X e) σ H (Pd X.K (.str z))) (hg : Gl X "len" := by rfl) (he : starEach [e] X.env = (false, eval e X.env) :: starEach [] X.env := by rfl) : Ev M (wE X (.Call (.Name "len" p) [e] [] pos)) σ H (Pd X.K (.int z.length)) :=
  ev_callB call_len_str hm bt_len (ea_of h he) (fun vs H1 H2 g1 g2 ⟨v, e1, pv⟩ Q q => by
    subst e1
    obtain rfl := dv_str pv
    exact ⟨z, rfl, sz_of hz, q _ _ g2.r (.int _)⟩) hg (by decide) (by decide) he
theorem ev_lenL {ds : List PyData} (hm : X.mg "len" = none) (h : Ev M (wE X e) σ H (PLd X.K ds)) (hg : Gl X "len" := by rfl) (he : starEach [e] X.env = (false, eval e X.env) :: starEach [] X.env := by rfl) : Ev M (wE X (.Call (.Name "len" p) [e] [] pos)) σ H (Pd X.K (.int ds.length)) :=
  ev_callB call_len_seq hm bt_len (ea_of h he) (fun vs H1 H2 g1 g2 ⟨v, e1, t, xs, ev, hs, ha⟩ Q q => by
    subst e1
    subst ev
    refine ⟨t, xs, rfl, .inl hs, ?_⟩
    rw [ha.length]
    exact q _ _ g2.r (.int _)) hg (by decide) (by decide) he
theorem ea_ii {i j : Int} (h1 : Ev M (wE X a) σ H (Pd X.K (.int i))) (h2 : Ev M (wE X b) σ H (Pd X.K (.int j))) (hs : starEach [a, b] X.env = (false, eval a X.env) :: starEach [b] X.env := by rfl) (hs2 : starEach [b] X.env = (false, eval b X.env) :: starEach [] X.env := by rfl) : EvA M (wA X [a, b]) σ H (PdA X.K [.int i, .int j]) := ea_cons h1 (ea_cons h2 ea_nil hs2) hs
theorem dvA_ii {K : PySem.W.Frag} {vs : List V} {i j : Int} (h : DvA K H vs [.int i, .int j]) : vs = [.int i, .int j] := by
  cases h with
  | cons h1 h2 =>
    cases h2 with
    | cons h3 h4 =>
      cases h4
      rw [dv_int h1, dv_int h3]
theorem ev_max2 {i j : Int} (hc : X.calm = true) (hm : X.mg "max" = none) (h : EvA M (wA X [a, b]) σ H (PdA X.K [.int i, .int j])) (hg : Gl X "max" := by rfl) (he : starEach [a, b] X.env = (false, eval a X.env) :: starEach [b] X.env := by rfl) (hpl : (backTo pos (starEach [b] X.env)).any (·.1) = false := by rfl) : Ev M (wE X (.Call (.Name "max" p) [a, b] [] pos)) σ H (Pd X.K (.int (max i j))) :=
  ev_callB (call_max2 hc) hm bt_max h (fun vs H1 H2 g1 g2 pv Q q => by
    obtain rfl := dvA_ii pv
    refine ⟨i, j, rfl, q _ _ g2.r ?_⟩
    have : (if j > i then j else i) = max i j := by omega
    rw [this]
    exact .int _) hg (by decide) (by decide) he hpl
theorem ev_min2 {i j : Int} (hc : X.calm = true) (hm : X.mg "min" = none) (h : EvA M (wA X [a, b]) σ H (PdA X.K [.int i, .int j])) (hg : Gl X "min" := by rfl) (he : starEach [a, b] X.env = (false, eval a X.env) :: starEach [b] X.env := by rfl) (hpl : (backTo pos (starEach [b] X.env)).any (·.1) = false := by rfl) : Ev M (wE X (.Call (.Name "min" p) [a, b] [] pos)) σ H (Pd X.K (.int (min i j))) :=
  ev_callB (call_min2 hc) hm bt_min h (fun vs H1 H2 g1 g2 pv Q q => by
    obtain rfl := dvA_ii pv
    refine ⟨i, j, rfl, q _ _ g2.r ?_⟩
    have : (if j < i then j else i) = min i j := by omega
    rw [this]
    exact .int _) hg (by decide) (by decide) he hpl
theorem ev_abs {i : Int} (hm : X.mg "abs" = none) (h : Ev M (wE X e) σ H (Pd X.K (.int i))) (hg : Gl X "abs" := by rfl) (he : starEach [e] X.env = (false, eval e X.env) :: starEach [] X.env := by rfl) : Ev M (wE X (.Call (.Name "abs" p) [e] [] pos)) σ H (Pd X.K (.int i.natAbs)) :=
  ev_callB call_abs hm bt_abs (ea_of h he) (fun vs H1 H2 g1 g2 ⟨v, e1, pv⟩ Q q => by
    subst e1
    obtain rfl := dv_int pv
    refine ⟨i, rfl, q _ _ g2.r ?_⟩
    have : (if i < 0 then -i else i) = (i.natAbs : Int) := by omega
    rw [this]
    exact .int _) hg (by decide) (by decide) he
theorem ev_intI {i : Int} (hm : X.mg "int" = none) (h : Ev M (wE X e) σ H (Pd X.K (.int i))) (hg : Gl X "int" := by rfl) (he : starEach [e] X.env = (false, eval e X.env) :: starEach [] X.env := by rfl) : Ev M (wE X (.Call (.Name "int" p) [e] [] pos)) σ H (Pd X.K (.int i)) :=
  ev_callTy call_int1 hm bt_int (ea_of h he) (fun vs H1 H2 g1 g2 ⟨v, e1, pv⟩ Q q => by
    subst e1
    obtain rfl := dv_int pv
    exact .inl ⟨i, rfl, q _ _ g2.r (.int _)⟩) hg (by decide) (by decide) he
theorem ev_intB {i : Bool} (hm : X.mg "int" = none) (h : Ev M (wE X e) σ H (Pd X.K (.bool i))) (hg : Gl X "int" := by rfl) (he : starEach [e] X.env = (false, eval e X.env) :: starEach [] X.env := by rfl) : Ev M (wE X (.Call (.Name "int" p) [e] [] pos)) σ H (Pd X.K (.int (if i then 1 else 0))) :=
  ev_callTy call_int1 hm bt_int (ea_of h he) (fun vs H1 H2 g1 g2 ⟨v, e1, pv⟩ Q q => by
    subst e1
    obtain rfl := dv_bl pv
    exact .inr ⟨i, rfl, q _ _ g2.r (.int _)⟩) hg (by decide) (by decide) he
theorem pl_pld {K : PySem.W.Frag} {ds : List PyData} {v : V} {H1 H2 : Hp} (h : PL K ds v H1 H2) : PLd K ds v H1 H2 := by
  obtain ⟨a, vs, e, _, h, z⟩ := h
  exact ⟨a, vs, e, .inl (.inl h), z⟩
theorem Ev.ld {te : TE} {K : PySem.W.Frag} {ds : List PyData} (h : Ev M te σ H (PL K ds)) : Ev M te σ H (PLd K ds) := h.imp fun _ _ _ _ _ p => pl_pld p
theorem ev_tupL {ds : List PyData} (hm : X.mg "tuple" = none) (h : Ev M (wE X e) σ H (PLd X.K ds)) (hg : Gl X "tuple" := by rfl) (he : starEach [e] X.env = (false, eval e X.env) :: starEach [] X.env := by rfl) : Ev M (wE X (.Call (.Name "tuple" p) [e] [] pos)) σ H (Pd X.K (.tuple ds)) :=
  ev_callTy call_tuple_of hm bt_tuple (ea_of h he) (fun vs H1 H2 g1 g2 ⟨v, e1, t, xs, ev, hs, ha⟩ Q q => by
    subst e1
    subst ev
    exact ⟨t, xs, rfl, .inl ⟨hs, fun l hl => q _ _ (g2.r.new hl) (Dv.tupN (DvA.sn ha hl) upd_same)⟩⟩) hg (by decide) (by decide) he
theorem ev_all {bs : List Bool} (hc : X.calm = true) (hm : X.mg "all" = none) (h : Ev M (wE X e) σ H (PLd X.K (bs.map .bool))) (hg : Gl X "all" := by rfl) (he : starEach [e] X.env = (false, eval e X.env) :: starEach [] X.env := by rfl) : Ev M (wE X (.Call (.Name "all" p) [e] [] pos)) σ H (Pd X.K (.bool (bs.all id))) :=
  ev_callB (cr_all hc) hm bt_all (ea_of h he) (fun vs H1 H2 g1 g2 ⟨v, e1, t, xs, ev, hs, ha⟩ Q q => by
    subst e1
    subst ev
    obtain rfl := dvA_bls ha
    exact ⟨t, bs, rfl, hs, q _ _ g2.r (.bl _)⟩) hg (by decide) (by decide) he
theorem ev_any {bs : List Bool} (hc : X.calm = true) (hm : X.mg "any" = none) (h : Ev M (wE X e) σ H (PLd X.K (bs.map .bool))) (hg : Gl X "any" := by rfl) (he : starEach [e] X.env = (false, eval e X.env) :: starEach [] X.env := by rfl) : Ev M (wE X (.Call (.Name "any" p) [e] [] pos)) σ H (Pd X.K (.bool (bs.any id))) :=
  ev_callB (cr_any hc) hm bt_any (ea_of h he) (fun vs H1 H2 g1 g2 ⟨v, e1, t, xs, ev, hs, ha⟩ Q q => by
    subst e1
    subst ev
    obtain rfl := dvA_bls ha
    exact ⟨t, bs, rfl, hs, q _ _ g2.r (.bl _)⟩) hg (by decide) (by decide) he
theorem ev_sum {ns : List Int} (hc : X.calm = true) (hm : X.mg "sum" = none) (h : Ev M (wE X e) σ H (PLd X.K (ns.map .int))) (hg : Gl X "sum" := by rfl) (he : starEach [e] X.env = (false, eval e X.env) :: starEach [] X.env := by rfl) : Ev M (wE X (.Call (.Name "sum" p) [e] [] pos)) σ H (Pd X.K (.int ns.sum)) :=
  ev_callB (cr_sum hc) hm bt_sum (ea_of h he) (fun vs H1 H2 g1 g2 ⟨v, e1, t, xs, ev, hs, ha⟩ Q q => by
    subst e1
    subst ev
    obtain rfl := dvA_ints ha
    exact ⟨t, ns, rfl, hs, q _ _ g2.r (.int _)⟩) hg (by decide) (by decide) he
/-! isinstance -/
def tyN : PyData → String
  | .none => "NoneType"
  | .bool _ => "bool"
  | .int _ => "int"
  | .str _ => "str"
  | .list _ => "list"
  | .tuple _ => "tuple"
  | .dict _ => "dict"
theorem dv_ty {K : PySem.W.Frag} {v : V} {d : PyData} (h : Dv K H v d) : TyX K H v (.type (tyN d)) := by
  cases h with
  | non => exact .base .non
  | bl b => exact .base (.bl b)
  | int i => exact .base (.int i)
  | str x => exact .base (.str x)
  | tup hs _ => exact .base (.tup hs)
theorem ev_tyn {x : Str} {T : String} (hm : X.mg x = none) (hv : bootBuiltins x = some (.type T)) (hg : Gl X x := by rfl) (hn : x ≠ "__name__" := by decide) (hd : (x == ("__debug__" : Str)) = false := by decide) : Ev M (wE X (.Name x p)) σ H (Pv (.ty T)) :=
  fun H1 g Q q => of_pe (pe_bltn (v := .ty T) hg hm hv rfl hn hd) (q _ _ g.r rfl)
theorem ev_isi {x : Str} {T : String} {d : PyData} {r : Bool} (hk : kitB (tyN d) T = some r) (hm : X.mg "isinstance" = none) (hx : X.mg x = none) (hv : bootBuiltins x = some (.type T)) (h : Ev M (wE X e) σ H (Pd X.K d)) {p2 : Pos} (hg : Gl X "isinstance" := by rfl) (hgx : Gl X x := by rfl) (hn : x ≠ "__name__" := by decide) (hd : (x == ("__debug__" : Str)) = false := by decide)
    (he : starEach [e, .Name x p2] X.env = (false, eval e X.env) :: starEach [.Name x p2] X.env := by rfl) : Ev M (wE X (.Call (.Name "isinstance" p) [e, .Name x p2] [] pos)) σ H (Pd X.K (.bool r)) :=
  ev_callB call_isi hm bt_isi (ea_two stb_d (fun _ _ _ _ _ _ h => h) h (ev_tyn hx hv hgx hn hd) he) (fun vs H1 H2 g1 g2 ⟨v, w, e1, pv, ew⟩ Q q => by
    subst e1
    obtain rfl := ew
    exact ⟨v, _, _, _, r, rfl, ClsV.ty T, dv_ty pv, kit_ty hk, q _ _ g2.r (.bl _)⟩) hg (by decide) (by decide) he
/-- of a dict -/
def PDk : PV := fun v _ H2 => ∃ a, v = .ref a ∧ ((∃ kvs, Rd H2 a (.dK kvs)) ∨ ∃ kvs, H2 a = some (.dT kvs))
theorem ev_isiD {x : Str} {T : String} {r : Bool} (hk : kitB "dict" T = some r) (hm : X.mg "isinstance" = none) (hx : X.mg x = none) (hv : bootBuiltins x = some (.type T)) (h : Ev M (wE X e) σ H PDk) (hst : Stb M PDk) {p2 : Pos} (hg : Gl X "isinstance" := by rfl) (hgx : Gl X x := by rfl) (hn : x ≠ "__name__" := by decide) (hd : (x == ("__debug__" : Str)) = false := by decide)
    (he : starEach [e, .Name x p2] X.env = (false, eval e X.env) :: starEach [.Name x p2] X.env := by rfl) : Ev M (wE X (.Call (.Name "isinstance" p) [e, .Name x p2] [] pos)) σ H (Pd X.K (.bool r)) :=
  ev_callB call_isi hm bt_isi (ea_two hst (fun _ _ _ _ _ _ h => h) h (ev_tyn hx hv hgx hn hd) he) (fun vs H1 H2 g1 g2 ⟨v, w, e1, ⟨t, ev, pv⟩, ew⟩ Q q => by
    subst e1
    subst ev
    obtain rfl := ew
    refine ⟨_, _, .type "dict", _, r, rfl, ClsV.ty T, ?_, kit_ty hk, q _ _ g2.r (.bl _)⟩
    rcases pv with ⟨kvs, pv | ⟨o, pv⟩⟩ | ⟨kvs, pv⟩
    · exact .base (.dK pv)
    · exact .fDict pv
    · exact .base (.dT pv)) hg (by decide) (by decide) he
/-! calls of the text's own defs -/
theorem ev_call {x : Str} {k j : Nat} {sp : Sp} {PA' : PVs} (C : C8.Cal X.prog X.w X.K X.mg X.base k x sp []) (hr : Room j X.A) (hk : k ≤ j) (h : EvA M (wA X (e :: es)) σ H PA')
    (q1 : ∀ vs H1 H2, Gr M H H1 → Gr M H1 H2 → PA' vs H1 H2 → ∀ Q : VK, (∀ v H3, Gr M H2 H3 → P v H1 H3 → Q v H3) → sp vs H2 Q E0)
    (hg : Gl X x := by rfl) (hdb : (x == ("__debug__" : Str)) = false := by decide)
    (he : starEach (e :: es) X.env = (false, eval e X.env) :: starEach es X.env := by rfl) (hpl : (backTo pos (starEach es X.env)).any (·.1) = false := by rfl) : Ev M (wE X (.Call (.Name x p) (e :: es) [] pos)) σ H P :=
  fun H1 g Q q => of_pe (C8.pe_c C hr hk hg e_pa hdb he hpl) (h H1 g _ fun vs H2 g2 pa => by
    rw [List.append_nil]
    exact q1 vs H1 H2 g g2 pa Q fun v H3 g3 p3 => q v H3 (g2.t g3) p3)
/-- a def over data -/
def spD {α : Type} (K : PySem.W.Frag) (args : α → List PyData) (res : α → PyData) (pre : α → Prop) : Sp := fun vs H Q _ => ∃ x : α, pre x ∧ DvA K H vs (args x) ∧ ∀ v H', Gr M0 H H' → Dv K H' v (res x) → Q v H'
theorem ev_callD {α : Type} {args : α → List PyData} {res : α → PyData} {pre : α → Prop} {x : Str} {k j : Nat} (C : C8.Cal X.prog X.w X.K X.mg X.base k x (spD X.K args res pre) []) (hr : Room j X.A) (hk : k ≤ j) (z : α) (hz : pre z) (h : EvA M (wA X (e :: es)) σ H (PdA X.K (args z)))
    (hg : Gl X x := by rfl) (hdb : (x == ("__debug__" : Str)) = false := by decide)
    (he : starEach (e :: es) X.env = (false, eval e X.env) :: starEach es X.env := by rfl) (hpl : (backTo pos (starEach es X.env)).any (·.1) = false := by rfl) : Ev M (wE X (.Call (.Name x p) (e :: es) [] pos)) σ H (Pd X.K (res z)) :=
  ev_call C hr hk h (fun vs H1 H2 g1 g2 pv Q q => ⟨z, hz, pv, fun v H3 g3 p3 => q v H3 (g3.up g2.b) p3⟩) hg hdb he hpl
end

/-! statements -/
section
variable {M : Addr → Prop} {X : Cx} {σ : L2.St} {H : Hp} {a b c e tg iter : Expr} {rest body : List Stmt} {pos p : Pos} {P : PV} {D : Ends}
theorem bl_nil (h : D.nx σ H) : wB X [] D σ H := of_pss pss_nil h
theorem bl_set {i : Nat} {x : Str} {pos' : Pos} (g : Gr M H H) (h : Ev M (wE X e) σ H P) (k : ∀ v H1, Gr M H H1 → P v H H1 → wB X rest D (σ.set i (some v)) H1) (hN : X.N.Nodup) (hi : X.N[i]? = some x := by rfl) (hx : Loc X.env.scope x := by first | exact Or.inl rfl | exact Or.inr rfl)
    (hs : swapsWith e (some (.Name x pos')) pos.line X.env = pure false := by rfl) (hs2 : swapsWithSole [.Name x pos'] e pos.line X.env = pure false := by rfl) (hf : X.fn x = true ∨ X.env.scope.names.lookup x = some .local := by first | exact .inl rfl | exact .inr rfl) : wB X (.Assign [.Name x pos'] e pos :: rest) D σ H :=
  of_pss (pss_cons (ps_asg e_pe (pg_name hN hi hx hf) hs2) e_pss) (h H g _ fun v H1 g1 p1 => k v H1 g1 p1)
/-- any target -/
theorem bl_asg {gt : TG} (g : Gr M H H) (pg : PG X tg gt) (h : Ev M (wE X e) σ H P) (k : ∀ v H1, Gr M H H1 → P v H H1 → gt v σ H1 (fun σ2 H2 => wB X rest D σ2 H2)) (hs2 : swapsWithSole [tg] e pos.line X.env = pure false := by rfl) (hw : swappedStores [tg] e X.env = pure none := by rfl) (h1 : (assignEach [tg] X.env).map (·.2) = [assign tg X.env] := by rfl) : wB X (.Assign [tg] e pos :: rest) D σ H :=
  of_pss (pss_cons (ps_asg e_pe pg hs2 (hw := hw) (h1 := h1)) e_pss) (h H g _ fun v H1 g1 p1 => k v H1 g1 p1)
theorem bl_ret (g : Gr M H H) (h : Ev M (wE X e) σ H P) (k : ∀ v H1, Gr M H H1 → P v H H1 → D.rt v H1) : wB X (.Return (some e) pos :: rest) D σ H :=
  of_pss (pss_cons (ps_ret e_pe) e_pss) (h H g _ fun v H1 g1 p1 => k v H1 g1 p1)
theorem bl_retN (k : D.rt .non H) : wB X (.Return none pos :: rest) D σ H := of_pss (pss_cons ps_retN e_pss) k
theorem bl_expr (g : Gr M H H) (h : Ev M (wE X e) σ H P) (k : ∀ v H1, Gr M H H1 → P v H H1 → wB X rest D σ H1) (hs : swapsWith e none pos.line X.env = pure false := by rfl) : wB X (.Expr e pos :: rest) D σ H :=
  of_pss (pss_cons (ps_expr e_pe hs) e_pss) (h H g _ fun v H1 g1 p1 => k v H1 g1 p1)
theorem bl_if {p : Bool → Prop} {x y : List Stmt} (g : Gr M H H) (h : EvT M (wT X c) σ H p) (k1 : p true → ∀ H1, Gr M H H1 → wB X x { D with nx := wB X rest D } σ H1) (k2 : p false → ∀ H1, Gr M H H1 → wB X y { D with nx := wB X rest D } σ H1) : wB X (.If c x y pos :: rest) D σ H :=
  of_pss (pss_cons (ps_if e_pt e_pss e_pss) e_pss) (h H g _ fun v H1 g1 p1 => by
    cases v with
    | true => exact iteT (k1 p1 H1 g1)
    | false => exact iteF (k2 p1 H1 g1))
/-- an if without else -/
theorem bl_when {p : Bool → Prop} {x : List Stmt} (g : Gr M H H) (h : EvT M (wT X c) σ H p) (k1 : p true → ∀ H1, Gr M H H1 → wB X x { D with nx := wB X rest D } σ H1) (k2 : p false → ∀ H1, Gr M H H1 → wB X rest D σ H1) : wB X (.If c x [] pos :: rest) D σ H :=
  bl_if g h k1 fun z H1 g1 => bl_nil (k2 z H1 g1)
theorem bl_par {i j : Nat} {x y : Str} {px py pt : Pos} {kt k2 pt2} {Pa : PVs} (g : Gr M H H) (h : EvA M (wA X [a, b]) σ H Pa) (k : ∀ vs H1, Gr M H H1 → Pa vs H H1 → ∃ v w, vs = [v, w] ∧ wB X rest D ((σ.set i (some v)).set j (some w)) H1)
    (hc : X.calm = true) (hN : X.N.Nodup) (hi : X.N[i]? = some x := by rfl) (hj : X.N[j]? = some y := by rfl) (hij : i ≠ j := by decide) (hx : X.env.scope.names.lookup x = some .local := by rfl) (hy : X.env.scope.names.lookup y = some .local := by rfl)
    (hw : swappedStores [.Tuple [.Name x px, .Name y py] kt pt] (.Tuple [a, b] k2 pt2) X.env = pure (some [x, y]) := by rfl) (hs : swapsWithSole [.Tuple [.Name x px, .Name y py] kt pt] (.Tuple [a, b] k2 pt2) pos.line X.env = pure false := by rfl) :
    wB X (.Assign [.Tuple [.Name x px, .Name y py] kt pt] (.Tuple [a, b] k2 pt2) pos :: rest) D σ H :=
  of_pss (pss_cons (ps_par hc hN hi hj hij hx hy e_pa hw hs) e_pss) (h H g _ fun vs H1 g1 p1 => k vs H1 g1 p1)
theorem bl_aug {i : Nat} {x : Str} {pos' : Pos} {m n : Int} (g : Gr M H H) (hx0 : σ[i]? = some (some (.int m))) (h : Ev M (wE X e) σ H (Pd X.K (.int n))) (k : ∀ H1, Gr M H H1 → wB X rest D (σ.set i (some (.int (m + n)))) H1) (hN : X.N.Nodup) (hi : X.N[i]? = some x := by rfl) (hx : Loc X.env.scope x := by first | exact Or.inl rfl | exact Or.inr rfl)
    (hf : X.fn x = true ∨ X.env.scope.names.lookup x = some .local := by first | exact .inl rfl | exact .inr rfl) : wB X (.AugAssign (.Name x pos') .Add e pos :: rest) D σ H :=
  of_pss (pss_cons (ps_aug hN hi hx e_pe ip_add hf) e_pss) ⟨_, hx0, h H g _ fun v H1 g1 p1 => ⟨m, n, rfl, dv_int p1, k H1 g1⟩⟩
/-! lists that stand at a name -/
theorem ty_lst {K : PySem.W.Frag} {l : Addr} {vs : List V} (h : H l = some (.lst vs)) : tyV K "list" (.ref l) H := Or.inl ⟨rfl, _, Or.inl (Or.inl h)⟩
theorem bl_app {i : Nat} {x : Str} {l : Addr} {vs : List V} {p0 p1 p2 : Pos} (g : Gr M H H) (hs0 : σ[i]? = some (some (.ref l))) (hl : H l = some (.lst vs)) (hm : ¬ M l) (hz : vs.length < 100000) (h : Ev M (wE X e) σ H P) (k : ∀ v H1, Gr M H H1 → P v H H1 → H1 l = some (.lst vs) → wB X rest D σ (upd H1 l (.lst (vs ++ [v]))))
    (hN : X.N[i]? = some x := by rfl) (hv : Vis X.env.scope x := by first | exact Or.inl rfl | exact Or.inr (Or.inl rfl) | exact Or.inr (Or.inr rfl)) (hd : (x == ("__debug__" : Str)) = false := by decide) (hcd : (x == ("__classdict__" : Str)) = false := by decide)
    (hbase : attributeBase (.Name x p0) "append" X.env (eval (.Name x p0) X.env) = eval (.Name x p0) X.env := by rfl)
    (hfew : ((backTo p2 (starEach [e] X.env)).all (fun x => !x.1) && (backToKw p2 (keywordEach [] X.env)).all (fun x => x.1.isSome) && decide ([e].length + ([] : List Keyword).length + (if ([] : List Keyword).isEmpty then 0 else 1) < 30)) = true := by rfl)
    (hline : (p1.endLine == p2.line) = true := by rfl) (hs : starEach [e] X.env = (false, eval e X.env) :: starEach [] X.env := by rfl) (hplain : (backTo p2 (starEach [] X.env)).any (·.1) = false := by rfl) (hsw : swapsWith (.Call (.Attribute (.Name x p0) "append" p1) [e] [] p2) none pos.line X.env = pure false := by rfl) :
    wB X (.Expr (.Call (.Attribute (.Name x p0) "append" p1) [e] [] p2) pos :: rest) D σ H :=
  of_pss (pss_cons (ps_expr (pe_bm PySem.F.plainAttrs_list PySem.F.slot_list_append PySem.F.type_list_append mt_append (pe_var hN hv hd hcd) (pa_cons e_pe pa_nil hs) hbase hfew hline hs hplain) hsw) e_pss)
    ⟨_, hs0, ty_lst hl, h H g _ fun v H1 g1 p1 => ⟨l, vs, v, rfl, rfl, g1.k l _ hm hl, Nat.lt_of_lt_of_le hz (by decide), k v H1 g1 p1 (g1.k l _ hm hl)⟩⟩
theorem bl_popL {i : Nat} {x : Str} {l : Addr} {vs : List V} {y : V} {p0 p1 p2 : Pos} (hs0 : σ[i]? = some (some (.ref l))) (hl : H l = some (.lst vs)) (hy : vs[vs.length - 1]? = some y) (k : wB X rest D σ (upd H l (.lst vs.dropLast)))
    (hN : X.N[i]? = some x := by rfl) (hv : Vis X.env.scope x := by first | exact Or.inl rfl | exact Or.inr (Or.inl rfl) | exact Or.inr (Or.inr rfl)) (hd : (x == ("__debug__" : Str)) = false := by decide) (hcd : (x == ("__classdict__" : Str)) = false := by decide)
    (hbase : attributeBase (.Name x p0) "pop" X.env (eval (.Name x p0) X.env) = eval (.Name x p0) X.env := by rfl)
    (hline : (p1.endLine == p2.line) = true := by rfl) (hsw : swapsWith (.Call (.Attribute (.Name x p0) "pop" p1) [] [] p2) none pos.line X.env = pure false := by rfl) :
    wB X (.Expr (.Call (.Attribute (.Name x p0) "pop" p1) [] [] p2) pos :: rest) D σ H :=
  of_pss (pss_cons (ps_expr (pe_bm0 PySem.F.plainAttrs_list PySem.F.slot_list_pop PySem.F.type_list_pop mt_pop (pe_var hN hv hd hcd) hbase hline) hsw) e_pss)
    ⟨_, hs0, ty_lst hl, l, vs, y, rfl, rfl, hl, hy, k⟩
/-! targets over data -/
theorem gt_name {i : Nat} {v : V} {Q : L2.St → Hp → Prop} (h : Q (σ.set i (some v)) H) : gName i v σ H Q := h
theorem gt_2 {K : PySem.W.Frag} {i j : Nat} {v : V} {d1 d2 : PyData} {Q : L2.St → Hp → Prop} (h : Dv K H v (.tuple [d1, d2])) (k : ∀ v1 v2, Dv K H v1 d1 → Dv K H v2 d2 → Q ((σ.set i (some v1)).set j (some v2)) H) : gTup K 2 (gCons (gName i) (gCons (gName j) gNil)) v σ H Q := by
  obtain ⟨a, xs, rfl, hs, ha⟩ := dv_tup h
  cases ha with
  | cons h1 h2 =>
    cases h2 with
    | cons h3 h4 =>
      cases h4
      exact ⟨a, _, rfl, hs, rfl, _, _, rfl, _, _, rfl, rfl, k _ _ h1 h3⟩
theorem gt_3 {K : PySem.W.Frag} {i j l : Nat} {v : V} {d1 d2 d3 : PyData} {Q : L2.St → Hp → Prop} (h : Dv K H v (.tuple [d1, d2, d3])) (k : ∀ v1 v2 v3, Dv K H v1 d1 → Dv K H v2 d2 → Dv K H v3 d3 → Q (((σ.set i (some v1)).set j (some v2)).set l (some v3)) H) : gTup K 3 (gCons (gName i) (gCons (gName j) (gCons (gName l) gNil))) v σ H Q := by
  obtain ⟨a, xs, rfl, hs, ha⟩ := dv_tup h
  cases ha with
  | cons h1 h2 =>
    cases h2 with
    | cons h3 h4 =>
      cases h4 with
      | cons h5 h6 =>
        cases h6
        exact ⟨a, _, rfl, hs, rfl, _, _, rfl, _, _, rfl, _, _, rfl, rfl, k _ _ _ h1 h3 h5⟩
/-! loops -/
theorem bl_forL {gt : TG} (g : Gr M H H) (hx : X.xe = fun _ _ => False) (hc : X.calm = true) (pg : PG X tg gt) (h : Ev M (wE X iter) σ H P)
    (k : ∀ v H1, Gr M H H1 → P v H H1 → ∃ a vs, v = .ref a ∧ ∃ J : Nat → L2.St → Hp → Prop, J 0 σ H1 ∧ (∀ i σ' H', i ≤ vs.length → J i σ' H' → SqL X.K H' a vs) ∧
      (∀ i x σ' H', vs[i]? = some x → J i σ' H' → gt x σ' H' fun σ2 H2 => wB X body { D with nx := J (i + 1), ct := J (i + 1), bk := wB X rest D } σ2 H2) ∧ ∀ σ' H', J vs.length σ' H' → wB X rest D σ' H')
    (hs : ∀ x, foldedSetIterable iter X.env x = pure x := by exact fun _ => rfl) : wB X (.For tg iter body [] pos :: rest) D σ H :=
  of_pss (pss_cons (ps_for (by rw [hx]; exact PassesOwn.never) hc (pi_list e_pe) pg e_pss hs) e_pss) (h H g _ fun v H1 g1 p1 => by
    obtain ⟨a, vs, rfl, J, h0, hl, hs, hd⟩ := k v H1 g1 p1
    exact ⟨a, rfl, ⟨vs, hl 0 _ _ (Nat.zero_le _) h0⟩, for_list (xs := vs) J h0 hl hs hd⟩)
theorem bl_forT {gt : TG} (g : Gr M H H) (hx : X.xe = fun _ _ => False) (hc : X.calm = true) (pg : PG X tg gt) (h : Ev M (wE X iter) σ H P)
    (k : ∀ v H1, Gr M H H1 → P v H H1 → ∃ a vs, v = .ref a ∧ ∃ J : Nat → L2.St → Hp → Prop, J 0 σ H1 ∧ (∀ i σ' H', i ≤ vs.length → J i σ' H' → SqT X.K H' a vs) ∧
      (∀ i x σ' H', vs[i]? = some x → J i σ' H' → gt x σ' H' fun σ2 H2 => wB X body { D with nx := J (i + 1), ct := J (i + 1), bk := wB X rest D } σ2 H2) ∧ ∀ σ' H', J vs.length σ' H' → wB X rest D σ' H')
    (hs : ∀ x, foldedSetIterable iter X.env x = pure x := by exact fun _ => rfl) : wB X (.For tg iter body [] pos :: rest) D σ H :=
  of_pss (pss_cons (ps_for (by rw [hx]; exact PassesOwn.never) hc (pi_tup e_pe) pg e_pss hs) e_pss) (h H g _ fun v H1 g1 p1 => by
    obtain ⟨a, vs, rfl, J, h0, hl, hs, hd⟩ := k v H1 g1 p1
    exact ⟨a, rfl, ⟨vs, hl 0 _ _ (Nat.zero_le _) h0⟩, for_tup (xs := vs) J h0 hl hs hd⟩)
theorem bl_forR {gt : TG} {p2 pos2 : Pos} {Pr : Int → Prop} (g : Gr M H H) (hx : X.xe = fun _ _ => False) (hc : X.calm = true) (hm : X.mg "range" = none) (pg : PG X tg gt) (h : Ev M (wE X e) σ H (PdE X.K fun d => ∃ n, d = .int n ∧ Pr n)) (hb : ∀ n, Pr n → -(2 ^ 62) ≤ n ∧ n < 2 ^ 62)
    (k : ∀ n H1, Gr M H H1 → Pr n → ∃ J : Nat → L2.St → Hp → Prop, J 0 σ H1 ∧ (∀ (i : Nat) σ' H', (i : Int) < n → J i σ' H' → gt (.int (i : Int)) σ' H' fun σ2 H2 => wB X body { D with nx := J (i + 1), ct := J (i + 1), bk := wB X rest D } σ2 H2) ∧ ∀ σ' H', J n.toNat σ' H' → wB X rest D σ' H')
    (hg : Gl X "range" := by rfl) (he : starEach [e] X.env = [(false, eval e X.env)] := by rfl) (he2 : starEach [e] X.env = (false, eval e X.env) :: starEach [] X.env := by rfl) (hs : ∀ x, foldedSetIterable (.Call (.Name "range" p2) [e] [] pos2) X.env x = pure x := by exact fun _ => rfl) : wB X (.For tg (.Call (.Name "range" p2) [e] [] pos2) body [] pos :: rest) D σ H :=
  of_pss (pss_cons (ps_for (by rw [hx]; exact PassesOwn.never) hc (pi_range1 hg hm (pa_cons e_pe pa_nil he2) he) pg e_pss hs) e_pss) (h H g _ fun v H1 g1 ⟨d, ⟨n, e1, hn⟩, p1⟩ => by
    subst e1
    obtain rfl := dv_int p1
    obtain ⟨J, h0, hs, hd⟩ := k n H1 g1 hn
    refine ⟨n, rfl, (hb n hn).1, (hb n hn).2, for_range (lo := 0) (n := n.toNat) J h0 (fun i σ' H' hi hj => ?_) hd⟩
    rw [Int.zero_add]
    exact hs i σ' H' (by omega) hj)
end
end SR
set_option Elab.async false
set_option linter.all false
set_option maxRecDepth 100000
set_option maxHeartbeats 4000000
/-! a def by its body; the names of the module -/
namespace SR
open PySem PySem.Spec PyProof.Rows L2
section
variable {w : World} {K : PySem.W.Frag} {mg : Str → Option Value} (T : Txt w K mg)
include T
theorem Txt.f_isinstance : mg "isinstance" = none := T.fr _ (by decide +kernel)
theorem Txt.f_all : mg "all" = none := T.fr _ (by decide +kernel)
theorem Txt.f_any : mg "any" = none := T.fr _ (by decide +kernel)
theorem Txt.f_len : mg "len" = none := T.fr _ (by decide +kernel)
theorem Txt.f_sum : mg "sum" = none := T.fr _ (by decide +kernel)
theorem Txt.f_max : mg "max" = none := T.fr _ (by decide +kernel)
theorem Txt.f_min : mg "min" = none := T.fr _ (by decide +kernel)
theorem Txt.f_tuple : mg "tuple" = none := T.fr _ (by decide +kernel)
theorem Txt.f_list : mg "list" = none := T.fr _ (by decide +kernel)
theorem Txt.f_dict : mg "dict" = none := T.fr _ (by decide +kernel)
theorem Txt.f_sorted : mg "sorted" = none := T.fr _ (by decide +kernel)
theorem Txt.f_zip : mg "zip" = none := T.fr _ (by decide +kernel)
theorem Txt.f_enumerate : mg "enumerate" = none := T.fr _ (by decide +kernel)
theorem Txt.f_range : mg "range" = none := T.fr _ (by decide +kernel)
theorem Txt.f_int : mg "int" = none := T.fr _ (by decide +kernel)
theorem Txt.f_abs : mg "abs" = none := T.fr _ (by decide +kernel)
theorem Txt.f_str : mg "str" = none := T.fr _ (by decide +kernel)
theorem Txt.f_bool : mg "bool" = none := T.fr _ (by decide +kernel)
theorem Txt.c_MAX_CELL : ∃ t, mg "MAX_CELL" = some (.int 996 t) := T.ci (("MAX_CELL" : Str), 996) (by decide +kernel)
theorem Txt.c_MAX_NAME : ∃ t, mg "MAX_NAME" = some (.int 4 t) := T.ci (("MAX_NAME" : Str), 4) (by decide +kernel)
theorem Txt.c_MOST_LENGTH : ∃ t, mg "MOST_LENGTH" = some (.int 996 t) := T.ci (("MOST_LENGTH" : Str), 996) (by decide +kernel)
theorem Txt.c_MOST_NEW : ∃ t, mg "MOST_NEW" = some (.int 48 t) := T.ci (("MOST_NEW" : Str), 48) (by decide +kernel)
theorem Txt.c_PAIR_histories : ∃ t, mg "PAIR_histories" = some (.int 2 t) := T.ci (("PAIR_histories" : Str), 2) (by decide +kernel)
theorem Txt.c_PAIR_marks : ∃ t, mg "PAIR_marks" = some (.int 2 t) := T.ci (("PAIR_marks" : Str), 2) (by decide +kernel)
theorem Txt.c_TRIPLE : ∃ t, mg "TRIPLE" = some (.int 3 t) := T.ci (("TRIPLE" : Str), 3) (by decide +kernel)
theorem Txt.c_LONGEST : ∃ t, mg "LONGEST" = some (.int (10 ^ 60 - 1) t) := T.ci (("LONGEST" : Str), 10 ^ 60 - 1) (by decide +kernel)
theorem Txt.c_PUT : ∃ t, mg "PUT" = some (.str "put" t) := T.cs (("PUT" : Str), ("put" : Str)) (by decide +kernel)
theorem Txt.c_PATCH : ∃ t, mg "PATCH" = some (.str "patch" t) := T.cs (("PATCH" : Str), ("patch" : Str)) (by decide +kernel)
theorem Txt.c_DROP : ∃ t, mg "DROP" = some (.str "drop" t) := T.cs (("DROP" : Str), ("drop" : Str)) (by decide +kernel)
theorem Txt.c_RENAME : ∃ t, mg "RENAME" = some (.str "rename" t) := T.cs (("RENAME" : Str), ("rename" : Str)) (by decide +kernel)
theorem Txt.c_GONE : ∃ t, mg "GONE" = some (.str "gone" t) := T.cs (("GONE" : Str), ("gone" : Str)) (by decide +kernel)
theorem Txt.c_THERE : ∃ t, mg "THERE" = some (.str "there" t) := T.cs (("THERE" : Str), ("there" : Str)) (by decide +kernel)
theorem Txt.c_NEW : ∃ t, mg "NEW" = some (.str "new" t) := T.cs (("NEW" : Str), ("new" : Str)) (by decide +kernel)
theorem Txt.c_BELOW : ∃ t, mg "BELOW" = some (.str "below" t) := T.cs (("BELOW" : Str), ("below" : Str)) (by decide +kernel)
theorem Txt.c_LENGTH : ∃ t, mg "LENGTH" = some (.str "length" t) := T.cs (("LENGTH" : Str), ("length" : Str)) (by decide +kernel)
theorem Txt.c_FIT : ∃ t, mg "FIT" = some (.str "fit" t) := T.cs (("FIT" : Str), ("fit" : Str)) (by decide +kernel)
theorem Txt.c_CELLS : ∃ t, mg "CELLS" = some (.str "cells" t) := T.cs (("CELLS" : Str), ("cells" : Str)) (by decide +kernel)
theorem Txt.c_LETTERS : ∃ t, mg "LETTERS" = some (.str "abcdefghijklmnopqrstuvwxyz" t) := T.cs (("LETTERS" : Str), ("abcdefghijklmnopqrstuvwxyz" : Str)) (by decide +kernel)
end
/-- where a def's body runs -/
abbrev cX (P : Program) (w : World) (K : PySem.W.Frag) (mg : Str → Option Value) (base : Heap) (N : List Str) (q : Str) (st : Stmt) (f : Addr) (cdv : Value) (A : Around) (outer : List Env) (s : Shared) (H : Hp) (E : XK) : Cx :=
  (cxOf CX0 P w K mg base N q (defScope st) f cdv A outer s H E).nox
section
variable {P : Program} {w : World} {K : PySem.W.Frag} {mg : Str → Option Value} {base : Heap}
theorem fn_ok (T : Txt w K mg) (i : Nat) {x : Str} {st : Stmt} {N ps : List Str} {k : Nat} {sp : Sp} (hi : gdefs[i]? = some (x, st)) (S : FnScope N ps (defScope st))
    (hb : ∀ (kV doc pm : Value) (an : Option Addr) (cdv ct : Value) (us : List Value), us.length = ps.length → bindArgs (PySem.W.fnOf x x (defArgs st) (defBody st) (defScope st) .none kV doc pm an cdv ct) ⟨us, []⟩ = pure (ps.zip us))
    (len : ∀ vs H Q E, sp vs H Q E → vs.length = ps.length)
    (body : ∀ (f : Addr) (cdv : Value) (A : Around) (outer : List Env) (s : Shared) (H : Hp) (vs : List V) (Q : VK) (E : XK), Room k (A.deeper (envOfC x (defScope st) s.heap.objs.size f cdv)) → sp vs H Q E →
      wB (cX P w K mg base N x st f cdv A outer s H E) (defBody st) { nx := fun _ H' => Q .non H', rt := Q } (start N vs) H) : C8.Cal P w K mg base (k + 1) x sp [] := by
  obtain ⟨fd, F, hm⟩ := T.g (x, st) (List.mem_of_getElem? hi)
  refine ⟨He.ga K x, fd, ps, [], F.ok S len fun cdv A outer s H vs Q E hr h => ⟨_, PSs.nox e_pss, body _ cdv A outer s H vs Q E hr h⟩, hm, F.kp, F.bindsN hb, .nil⟩
theorem hu64 {A : Around} {k : Nat} (hr : Room k A) : A.units + 64 < cLine := by have := hr.un; omega
end
end SR
set_option Elab.async false
set_option linter.all false
set_option maxRecDepth 100000
set_option maxHeartbeats 2000000
/-! comprehensions, walks -/
namespace SR
open PySem PySem.Spec PyProof.Rows L2

/-- what is walked: these data, while the heap grows -/
structure Src (M : Addr → Prop) (K : PySem.W.Frag) (J : It) (ds : List PyData) (H : Hp) : Prop where
  ex : ∃ (G : Hp → Prop) (Y : Nat → Hp → V → Hp → Prop), Walk J ds.length G Y ∧ G H ∧ (∀ Ha, Gr M H Ha → G Ha) ∧ ∀ i Ha x Hb, Gr M H Ha → Y i Ha x Hb → i < ds.length → Gr M Ha Hb ∧ ∃ d, ds[i]? = some d ∧ Dv K Hb x d
def EvI (M : Addr → Prop) (K : PySem.W.Frag) (t : TI) (σ : L2.St) (H : Hp) (ds : List PyData) : Prop := ∀ H1, Gr M H H1 → ∀ R : It → Hp → Prop, (∀ J H2, Gr M H1 H2 → Src M K J ds H2 → R J H2) → t σ H1 R
/-- a list, not the deck -/
def PLm (M : Addr → Prop) (K : PySem.W.Frag) (ds : List PyData) : PV := fun v _ H2 => ∃ a vs, v = .ref a ∧ ¬ M a ∧ H2 a = some (.lst vs) ∧ DvA K H2 vs ds
/-- a new list, its items told one by one -/
def PLE (K : PySem.W.Frag) (n : Nat) (R : Nat → PyData → Prop) : PV := fun v H1 H2 => ∃ es : List PyData, es.length = n ∧ (∀ i d, es[i]? = some d → R i d) ∧ PL K es v H1 H2
section
variable {M : Addr → Prop} {K : PySem.W.Frag} {J : It} {ds : List PyData} {H : Hp} {a : Addr} {vs : List V}
theorem src_tup (g : Gr M H H) (h : SqT K H a vs) (z : DvA K H vs ds) : Src M K (Itt K a) ds H := by
  have W : Walk (Itt K a) ds.length (fun H => SqT K H a vs) (YAt vs) := by
    rw [← z.length]
    exact walk_tup
  refine ⟨_, _, W, h, fun Ha g => g.tup h, fun i Ha x Hb g1 y hi => ?_⟩
  obtain ⟨rfl, e⟩ := y
  obtain ⟨d, e1, h1⟩ := z.get' e
  exact ⟨g1.r, d, e1, h1.g g1⟩
theorem src_list (g : Gr M H H) (nm : ¬ M a) (h : H a = some (.lst vs)) (z : DvA K H vs ds) : Src M K (Itl K a) ds H := by
  have W : Walk (Itl K a) ds.length (fun H => SqL K H a vs) (YAt vs) := by
    rw [← z.length]
    exact walk_list
  refine ⟨_, _, W, .inl (.inl h), fun Ha g => .inl (.inl (g.k a _ nm h)), fun i Ha x Hb g1 y hi => ?_⟩
  obtain ⟨rfl, e⟩ := y
  obtain ⟨d, e1, h1⟩ := z.get' e
  exact ⟨g1.r, d, e1, h1.g g1⟩
def rngD (n : Nat) : List PyData := (List.range n).map fun i : Nat => .int (i : Int)
theorem rngD_len (n : Nat) : (rngD n).length = n := by simp [rngD]
theorem rngD_get {n i : Nat} (h : i < n) : (rngD n)[i]? = some (.int (i : Int)) := by simp [rngD, h]
theorem src_rng {n : Nat} (g : Gr M H H) : Src M K (Itr 0 n) (rngD n) H := by
  have W : Walk (Itr 0 n) (rngD n).length (fun _ => True) (YFn fun i => .int (0 + (i : Int))) := by
    rw [rngD_len]
    exact walk_range
  refine ⟨_, _, W, trivial, fun _ _ => trivial, fun i Ha x Hb g1 y hi => ?_⟩
  obtain ⟨rfl, e⟩ := y
  rw [rngD_len] at hi
  refine ⟨g1.r, _, rngD_get hi, ?_⟩
  rw [e]
  show Dv K Hb (.int (0 + (i : Int))) _
  rw [Int.zero_add]
  exact .int _
def sgnD (z : Str) : List PyData := z.cps.toList.map fun c => .str ⟨#[c]⟩
theorem src_str {z : Str} (g : Gr M H H) : Src M K (Its z) (sgnD z) H := by
  have hl : (sgnD z).length = z.cps.size := by simp [sgnD]
  have W : Walk (Its z) (sgnD z).length (fun _ => True) (fun i H v H' => H' = H ∧ ∃ c, z.cps[i]? = some c ∧ v = .str ⟨#[c]⟩) := by
    rw [hl]
    exact walk_str
  refine ⟨_, _, W, trivial, fun _ _ => trivial, fun i Ha x Hb g1 y hi => ?_⟩
  obtain ⟨rfl, c, e, rfl⟩ := y
  refine ⟨g1.r, .str ⟨#[c]⟩, ?_, .str _⟩
  unfold sgnD
  rw [List.getElem?_map, Array.getElem?_toList, e]
  rfl
def enD (ds : List PyData) : List PyData := ds.zipIdx.map fun q => .tuple [.int (q.2 : Int), q.1]
theorem enD_len (ds : List PyData) : (enD ds).length = ds.length := by simp [enD]
theorem enD_get {ds : List PyData} {i : Nat} {d : PyData} (h : ds[i]? = some d) : (enD ds)[i]? = some (.tuple [.int (i : Int), d]) := by
  unfold enD
  rw [List.getElem?_map, List.getElem?_zipIdx, h]
  simp
theorem src_enum (g : Gr M H H) (nm : ¬ M a) (h : H a = some (.lst vs)) (z : DvA K H vs ds) : Src M K (Ite K a) (enD ds) H := by
  have W : Walk (Ite K a) (enD ds).length (fun H => SqL K H a vs) (YPair (fun i => some (.int (i : Nat))) (fun i => vs[i]?)) := by
    rw [enD_len, ← z.length]
    exact walk_enum
  refine ⟨_, _, W, .inl (.inl h), fun Ha g => .inl (.inl (g.k a _ nm h)), fun i Ha x Hb g1 y hi => ?_⟩
  obtain ⟨T, x1, x2, rfl, hT, rfl, e1, e2⟩ := y
  obtain rfl := Option.some.inj e1
  obtain ⟨d, e3, h1⟩ := z.get' e2
  exact ⟨g1.r.new hT, _, enD_get e3, Dv.tupN (.cons (.int _) (.cons ((h1.g g1).sn hT) .nil)) upd_same⟩
def zpD (ds es : List PyData) : List PyData := (ds.zip es).map fun q => .tuple [q.1, q.2]
theorem zpD_get {ds es : List PyData} {i : Nat} {d e : PyData} (h : ds[i]? = some d) (h2 : es[i]? = some e) : (zpD ds es)[i]? = some (.tuple [d, e]) := by
  unfold zpD
  rw [List.getElem?_map]
  have : (ds.zip es)[i]? = some (d, e) := by
    rw [List.getElem?_zip_eq_some]
    exact ⟨h, h2⟩
  rw [this]
  rfl
theorem walk_zipT {xs ys : List V} {b : Addr} {n : Nat} (hn : n = min xs.length ys.length) : Walk (RZ.ItzT K a b) n (fun H => SqT K H a xs ∧ SqT K H b ys) (YPair (fun i => xs[i]?) (fun i => ys[i]?)) := by
  subst hn
  refine ⟨fun i _ hi q => ?_, fun _ q => ⟨xs, ys, q.1, q.2, by omega⟩, fun i H v H' _ q y => ?_⟩
  · have h1 : i < xs.length := by omega
    have h2 : i < ys.length := by omega
    exact ⟨xs, ys, xs[i], ys[i], q.1, q.2, by simp [h1], by simp [h2]⟩
  · obtain ⟨T, x, z, h1, h2, h3, h4, h5⟩ := y
    exact ⟨T, x, z, h1, h2, h3, h4 xs q.1, h5 ys q.2⟩
theorem src_zipT {es : List PyData} {b : Addr} {ws : List V} (g : Gr M H H) (h : SqT K H a vs) (z : DvA K H vs ds) (h2 : SqT K H b ws) (z2 : DvA K H ws es) : Src M K (RZ.ItzT K a b) (zpD ds es) H := by
  have W : Walk (RZ.ItzT K a b) (zpD ds es).length (fun H => SqT K H a vs ∧ SqT K H b ws) (YPair (fun i => vs[i]?) (fun i => ws[i]?)) := by
    refine walk_zipT ?_
    rw [z.length, z2.length]
    simp [zpD]
  refine ⟨_, _, W, ⟨h, h2⟩, fun Ha g => ⟨g.tup h, g.tup h2⟩, fun i Ha x Hb g1 y hi => ?_⟩
  obtain ⟨T, x1, x2, rfl, hT, rfl, e1, e2⟩ := y
  obtain ⟨d1, f1, k1⟩ := z.get' e1
  obtain ⟨d2, f2, k2⟩ := z2.get' e2
  exact ⟨g1.r.new hT, _, zpD_get f1 f2, Dv.tupN (.cons ((k1.g g1).sn hT) (.cons ((k2.g g1).sn hT) .nil)) upd_same⟩
end
section
variable {M : Addr → Prop} {X : Cx} {σ : L2.St} {H : Hp} {a b c e elt tg iter : Expr} {pos p : Pos} {P : PV} {ds : List PyData}
theorem ei_tup (h : Ev M (wE X e) σ H (Pd X.K (.tuple ds))) : EvI M X.K (wI X tg e) σ H ds := fun H1 g R r => of_pi (pi_tup e_pe) (h H1 g _ fun v H2 g2 p => by
  obtain ⟨t, xs, rfl, hs, ha⟩ := dv_tup p
  exact ⟨t, rfl, ⟨xs, hs⟩, r _ _ g2 (src_tup g2.r hs ha)⟩)
theorem ei_list (h : Ev M (wE X e) σ H (PLm M X.K ds)) : EvI M X.K (wI X tg e) σ H ds := fun H1 g R r => of_pi (pi_list e_pe) (h H1 g _ fun v H2 g2 ⟨t, xs, ev, nm, hs, ha⟩ => by
  subst ev
  exact ⟨t, rfl, ⟨xs, .inl (.inl hs)⟩, r _ _ g2 (src_list g2.r nm hs ha)⟩)
theorem pl_m {v : V} {H1 H2 : Hp} {K : PySem.W.Frag} (g : Gr M H1 H2) (h : PL K ds v H1 H2) : PLm M K ds v H1 H2 := by
  obtain ⟨t, xs, e, n, h1, h2⟩ := h
  exact ⟨t, xs, e, g.nm n, h1, h2⟩
theorem Ev.lm {te : TE} {K : PySem.W.Frag} (h : Ev M te σ H (PL K ds)) : Ev M te σ H (PLm M K ds) := h.imp fun _ _ _ _ g p => pl_m g p
theorem stb_lm {K : PySem.W.Frag} : Stb M (PLm M K ds) := fun _ _ _ _ _ _ _ g ⟨a, vs, e, nm, h, z⟩ => ⟨a, vs, e, nm, g.k a _ nm h, z.g g⟩
theorem ei_rng {n : Int} {p2 : Pos} (hn : n < 2 ^ 62) (hn0 : 0 ≤ n) (hm : X.mg "range" = none) (h : Ev M (wE X e) σ H (Pd X.K (.int n))) (hg : Gl X "range" := by rfl) (he : starEach [e] X.env = [(false, eval e X.env)] := by rfl) (he2 : starEach [e] X.env = (false, eval e X.env) :: starEach [] X.env := by rfl) :
    EvI M X.K (wI X tg (.Call (.Name "range" p2) [e] [] pos)) σ H (rngD n.toNat) := fun H1 g R r => of_pi (pi_range1 hg hm (pa_cons e_pe pa_nil he2) he) (h H1 g _ fun v H2 g2 p => by
  obtain rfl := dv_int p
  exact ⟨n, rfl, by omega, hn, r _ _ g2 (src_rng g2.r)⟩)
theorem ei_str {z : Str} (h : Ev M (wE X e) σ H (Pd X.K (.str z))) : EvI M X.K (wI X tg e) σ H (sgnD z) := fun H1 g R r => of_pi (pi_str e_pe) (h H1 g _ fun v H2 g2 p => by
  obtain rfl := dv_str p
  exact ⟨z, rfl, r _ _ g2 (src_str g2.r)⟩)
theorem ei_enum {elts : List Expr} {kk : Nat} {tpos p2 : Pos} (hm : X.mg "enumerate" = none) (h : Ev M (wE X e) σ H (PLm M X.K ds)) (hg : Gl X "enumerate" := by rfl) (he : starEach [e] X.env = [(false, eval e X.env)] := by rfl) (he2 : starEach [e] X.env = (false, eval e X.env) :: starEach [] X.env := by rfl) :
    EvI M X.K (wI X (.Tuple elts kk tpos) (.Call (.Name "enumerate" p2) [e] [] pos)) σ H (enD ds) := fun H1 g R r => of_pi (pi_enum hg hm (pa_cons e_pe pa_nil he2) he) (h H1 g _ fun v H2 g2 ⟨t, xs, ev, nm, hs, ha⟩ => by
  subst ev
  exact ⟨t, xs, rfl, .inl (.inl hs), r _ _ g2 (src_enum g2.r nm hs ha)⟩)
theorem ei_zipT {es : List PyData} {elts : List Expr} {kk : Nat} {tpos p2 : Pos} (hm : X.mg "zip" = none) (h : Ev M (wE X a) σ H (Pd X.K (.tuple ds))) (h2 : Ev M (wE X b) σ H (Pd X.K (.tuple es))) (hg : Gl X "zip" := by rfl) (he : starEach [a, b] X.env = (false, eval a X.env) :: starEach [b] X.env := by rfl) (he2 : starEach [b] X.env = (false, eval b X.env) :: starEach [] X.env := by rfl)
    (hpl : (backTo pos (starEach [b] X.env)).any (·.1) = false := by rfl) : EvI M X.K (wI X (.Tuple elts kk tpos) (.Call (.Name "zip" p2) [a, b] [] pos)) σ H (zpD ds es) := fun H1 g R r => of_pi (RZ.pi_zipA hg hm (pa_cons e_pe (pa_cons e_pe pa_nil he2) he) he hpl) (h H1 g _ fun v H2 g2 p => h2 H2 (g.t g2) _ fun u H3 g3 p3 => by
  obtain ⟨t, xs, rfl, hs, ha⟩ := dv_tup p
  obtain ⟨t', ys, rfl, hs', ha'⟩ := dv_tup p3
  exact ⟨t, t', xs, ys, rfl, .inr ⟨g3.tup hs, hs', r _ _ (g2.t g3) (src_zipT g3.r (g3.tup hs) (ha.g g3) hs' ha')⟩⟩)
/-- the blocks of a comprehension -/
def wEb (X : Cx) (scope : Scope) (e : Expr) : TE := fun σ H Q => ∀ (s : Shared) (H0 : Hp) (C : Addr) (cl : List (Str × Addr)) (fp : List Addr), wE (X.blk s H0 scope (compEnvC scope cl C X.env) fp) e σ H Q
def wTb (X : Cx) (scope : Scope) (e : Expr) : TT := fun σ H Q => ∀ (s : Shared) (H0 : Hp) (C : Addr) (cl : List (Str × Addr)) (fp : List Addr), wT (X.blk s H0 scope (compEnvC scope cl C X.env) fp) e σ H Q
theorem eb_pe {scope : Scope} (s : Shared) (H0 : Hp) (C : Addr) (cl : List (Str × Addr)) (fp : List Addr) : PE (X.blk s H0 scope (compEnvC scope cl C X.env) fp) e (wEb X scope e) := ⟨fun pins s1 _ _ _ I h => h s H0 C cl fp pins s1 I⟩
theorem tb_pt {scope : Scope} (s : Shared) (H0 : Hp) (C : Addr) (cl : List (Str × Addr)) (fp : List Addr) : PT (X.blk s H0 scope (compEnvC scope cl C X.env) fp) e (wTb X scope e) := ⟨fun pins s1 _ _ _ I h => h s H0 C cl fp pins s1 I⟩
theorem ev_blk {scope : Scope} (h : ∀ (s : Shared) (H0 : Hp) (C : Addr) (cl : List (Str × Addr)) (fp : List Addr), Ev M (wE (X.blk s H0 scope (compEnvC scope cl C X.env) fp) e) σ H P) : Ev M (wEb X scope e) σ H P := fun H1 g Q q s H0 C cl fp => h s H0 C cl fp H1 g Q q
theorem et_blk {scope : Scope} {p : Bool → Prop} (h : ∀ (s : Shared) (H0 : Hp) (C : Addr) (cl : List (Str × Addr)) (fp : List Addr), EvT M (wT (X.blk s H0 scope (compEnvC scope cl C X.env) fp) e) σ H p) : EvT M (wTb X scope e) σ H p := fun H1 g Q q s H0 C cl fp => h s H0 C cl fp H1 g Q q
theorem lc_yes {A B : Hp → Prop} (h : A H) : tYes σ H (fun b H3 => if b = true then A H3 else B H3) := by
  show if true = true then A H else B H
  rw [if_pos rfl]
  exact h
/-- [elt for target in iter] -/
theorem ev_lc {scope : Scope} {own : List (Str × Nat)} {gt : TG} (R : Nat → PyData → Prop) (hc : X.calm = true) (hN : X.N.Nodup) (ok : BlkOk X.N X.env.scope scope own) (hi : EvI M X.K (wI X tg iter) σ H ds) (hl : ds.length ≤ 100000)
    (pg : ∀ (s : Shared) (H0 : Hp) (C : Addr) (cl : List (Str × Addr)) (fp : List Addr), PG (X.blk s H0 scope (compEnvC scope cl C X.env) fp) tg gt)
    (step : ∀ i d x H2, ds[i]? = some d → Gr M H H2 → Dv X.K H2 x d → ∀ Q : L2.St → Hp → Prop, (∀ σ2, wipe σ2 (own.map (·.2)) = wipe σ (own.map (·.2)) → Ev M (wEb X scope elt) σ2 H2 (PdE X.K (R i)) → Q σ2 H2) → gt x (wipe σ (own.map (·.2))) H2 Q)
    (hs : ∀ x, foldedSetIterable iter X.env x = pure x := by exact fun _ => rfl) : Ev M (wE X (.ListComp elt [⟨tg, iter, [], 0⟩] scope pos)) σ H (PLE X.K ds.length R) :=
  fun H1 g Q q => of_pe (pe_lc hc hN e_pi ok pg (fun _ _ _ _ _ => pts_nil) (fun s H0 C cl fp => eb_pe s H0 C cl fp) hs) (hi H1 g _ fun J H2 g2 ⟨G, Y, w, hG, hst, hy⟩ D hD =>
    lc_it w (fun i Hn => H2 D = none ∧ Gr M H2 Hn ∧ ∃ es : List PyData, es.length = i ∧ (∀ j d, es[j]? = some d → R j d) ∧ ∃ vs, Hn D = some (.lst vs) ∧ DvA X.K Hn vs es)
      ⟨hD, g2.r.new hD, [], rfl, fun j d e => by simp at e, [], upd_same, .nil⟩ (fun i Hn _ ⟨_, g3, _⟩ => hst Hn g3)
      (fun i x Ha Hb hi ⟨hDn, g3, es, hel, her, vs, hv, hz⟩ y => by
        obtain ⟨g4, d, ed, hd⟩ := hy i Ha x Hb g3 y hi
        have g5 : Gr M H Hb := ((g.t g2).t g3).t g4
        -- the target, then the element
        refine step i d x Hb ed g5 hd _ fun σ2 e1 e3 => ⟨e1, ?_⟩
        refine lc_yes (e3 Hb g5.r _ fun v H4 g6 ⟨dv, hr, hdv⟩ => ?_)
        have nmD : ¬ M D := g2.nm' hDn
        have g7 := (g3.t g4).t g6
        have hv4 : H4 D = some (.lst vs) := g6.k D _ nmD (g4.k D _ nmD hv)
        refine ⟨vs, hv4, ?_, hDn, g7.mut hDn, es ++ [dv], by rw [List.length_append, hel]; rfl, fun j d' e => ?_, vs ++ [v], upd_same, ?_⟩
        · rw [hz.length, hel]
          exact Nat.lt_of_lt_of_le (Nat.lt_of_lt_of_le hi hl) (by decide)
        · rcases Nat.lt_trichotomy j es.length with hj | hj | hj
          · rw [List.getElem?_append_left hj] at e
            exact her j d' e
          · subst hj
            rw [List.getElem?_concat_length] at e
            obtain rfl := Option.some.inj e
            rw [hel]
            exact hr
          · rw [List.getElem?_eq_none (by rw [List.length_append]; exact hj)] at e
            cases e
        · exact ((hz.g (g4.t g6)).app (.one hdv)).st hv4)
      (fun Hn ⟨hDn, g3, es, hel, her, vs, hv, hz⟩ => q _ _ (g2.t g3) ⟨es, hel, her, D, vs, rfl, g2.back hDn, hv, hz⟩))
/-- .. each item's value a function of it -/
theorem ev_lcF {scope : Scope} {own : List (Str × Nat)} {gt : TG} (f : PyData → PyData) (hc : X.calm = true) (hN : X.N.Nodup) (ok : BlkOk X.N X.env.scope scope own) (hi : EvI M X.K (wI X tg iter) σ H ds) (hl : ds.length ≤ 100000)
    (pg : ∀ (s : Shared) (H0 : Hp) (C : Addr) (cl : List (Str × Addr)) (fp : List Addr), PG (X.blk s H0 scope (compEnvC scope cl C X.env) fp) tg gt)
    (step : ∀ (i : Nat) (d : PyData) (x : V) (H2 : Hp), ds[i]? = some d → Gr M H H2 → Dv X.K H2 x d → ∀ Q : L2.St → Hp → Prop, (∀ σ2, wipe σ2 (own.map (·.2)) = wipe σ (own.map (·.2)) → (∀ (s : Shared) (H0 : Hp) (C : Addr) (cl : List (Str × Addr)) (fp : List Addr), Ev M (wE (X.blk s H0 scope (compEnvC scope cl C X.env) fp) elt) σ2 H2 (Pd X.K (f d))) → Q σ2 H2) → gt x (wipe σ (own.map (·.2))) H2 Q)
    (hs : ∀ x, foldedSetIterable iter X.env x = pure x := by exact fun _ => rfl) : Ev M (wE X (.ListComp elt [⟨tg, iter, [], 0⟩] scope pos)) σ H (PL X.K (ds.map f)) :=
  (ev_lc (fun (i : Nat) (d' : PyData) => ∃ d, ds[i]? = some d ∧ d' = f d) hc hN ok hi hl pg (fun (i : Nat) d x H2 e g hx Q q => step i d x H2 e g hx Q fun σ2 e2 h => q σ2 e2 (ev_blk fun s H0 C cl fp => (h s H0 C cl fp).imp fun v H3 H4 g3 g4 p => ⟨_, ⟨d, e, rfl⟩, p⟩)) hs).imp fun v H1 H2 g1 g2 ⟨es, hel, her, p⟩ => by
    have e : es = ds.map f := by
      refine List.ext_getElem? fun i => ?_
      rw [List.getElem?_map]
      cases h : es[i]? with
      | some d' =>
        obtain ⟨d, e1, rfl⟩ := her i d' h
        rw [e1]
        rfl
      | none =>
        rw [List.getElem?_eq_none_iff, hel] at h
        rw [List.getElem?_eq_none_iff.mpr h]
        rfl
    rw [← e]
    exact p
/-! a list at a name -/
theorem ev_nmLm (i : Nat) {x : Str} {l : Addr} {vs : List V} (hl : H l = some (.lst vs)) (hm : ¬ M l) (hz : DvA X.K H vs ds) (hs : σ[i]? = some (some (.ref l)) := by rfl) (hN : X.N[i]? = some x := by rfl) (hv : Vis X.env.scope x := by first | exact Or.inl rfl | exact Or.inr (Or.inl rfl) | exact Or.inr (Or.inr rfl)) (hd : (x == ("__debug__" : Str)) = false := by decide)
    (hcd : (x == ("__classdict__" : Str)) = false := by decide) : Ev M (wE X (.Name x pos)) σ H (PLm M X.K ds) := (ev_nmV i hs hN hv hd hcd).imp fun v H1 H2 g1 g2 e => ⟨l, vs, e, hm, (g1.t g2).k l _ hm hl, hz.g (g1.t g2)⟩
theorem ev_nmL (i : Nat) {x : Str} {l : Addr} {vs : List V} (hl : H l = some (.lst vs)) (hm : ¬ M l) (hz : DvA X.K H vs ds) (hs : σ[i]? = some (some (.ref l)) := by rfl) (hN : X.N[i]? = some x := by rfl) (hv : Vis X.env.scope x := by first | exact Or.inl rfl | exact Or.inr (Or.inl rfl) | exact Or.inr (Or.inr rfl)) (hd : (x == ("__debug__" : Str)) = false := by decide)
    (hcd : (x == ("__classdict__" : Str)) = false := by decide) : Ev M (wE X (.Name x pos)) σ H (PLd X.K ds) := (ev_nmLm i hl hm hz hs hN hv hd hcd).imp fun v H1 H2 g1 g2 ⟨a, us, e, _, h, z⟩ => ⟨a, us, e, .inl (.inl h), z⟩
theorem stb_ld : Stb M (PLm M X.K ds) := stb_lm
theorem Ev.ml {te : TE} {K : PySem.W.Frag} (h : Ev M te σ H (PLm M K ds)) : Ev M te σ H (PLd K ds) := h.imp fun v H1 H2 g1 g2 ⟨a, us, e, _, h, z⟩ => ⟨a, us, e, .inl (.inl h), z⟩
/-- an item of a list -/
theorem ev_ixM {i : Int} {d : PyData} (h1 : Ev M (wE X a) σ H (PLm M X.K ds)) (h2 : Ev M (wE X b) σ H (Pd X.K (.int i))) (e : atI ds i = some d) (hs : PlainIx b := by exact fun _ _ => rfl) : Ev M (wE X (.Subscript a b pos)) σ H (Pd X.K d) :=
  fun H1 g Q q => of_pe (pe_ix ix_list e_pe e_pe hs) (h1 H1 g _ fun v H2 g2 p => h2 H2 (g.t g2) _ fun u H3 g3 p3 => by
    obtain ⟨t, xs, rfl, hm, hx, ha⟩ := stb_lm _ _ _ _ _ g2.l g2 g3 p
    obtain ⟨w, e1, hw⟩ := atI_dv ha e
    exact ⟨t, xs, i, w, rfl, dv_int p3, .inl (.inl hx), e1, q _ _ (g2.t g3) hw⟩)
/-! slices by places -/
theorem cut_from (ds : List PyData) (k : Nat) : cutD ds (some (k : Int)) none = ds.drop k := by
  unfold cutD HT.sIx
  have h : ¬ ((k : Int) < 0) := by omega
  simp only [if_neg h]
  rw [show ((k : Int)).toNat = k by omega]
  by_cases hk : k ≤ ds.length
  · rw [Nat.min_eq_left hk, List.take_of_length_le (by rw [List.length_drop]; omega)]
  · rw [Nat.min_eq_right (by omega), List.drop_of_length_le (by omega), List.drop_of_length_le (by omega), List.take_nil]
theorem cut_to (ds : List PyData) (k : Nat) : cutD ds none (some (k : Int)) = ds.take k := by
  unfold cutD HT.sIx
  have h : ¬ ((k : Int) < 0) := by omega
  simp only [if_neg h, List.drop_zero, Nat.sub_zero]
  rw [show ((k : Int)).toNat = k by omega]
  by_cases hk : k ≤ ds.length
  · rw [Nat.min_eq_left hk]
  · rw [Nat.min_eq_right (by omega), List.take_of_length_le (by omega), List.take_of_length_le (by omega)]
theorem cut_last (ds : List PyData) : cutD ds none (some (-1)) = ds.dropLast := by
  unfold cutD HT.sIx
  simp only [List.drop_zero, Nat.sub_zero]
  rw [if_pos (by omega), List.dropLast_eq_take]
  congr 1
  omega
theorem cut_mid (ds : List PyData) (j k : Nat) (h : j ≤ k) : cutD ds (some (j : Int)) (some (k : Int)) = (ds.take k).drop j := by
  unfold cutD HT.sIx
  have h1 : ¬ ((j : Int) < 0) := by omega
  have h2 : ¬ ((k : Int) < 0) := by omega
  simp only [if_neg h1, if_neg h2]
  rw [show ((k : Int)).toNat = k by omega, show ((j : Int)).toNat = j by omega, List.drop_take]
  by_cases hj : j ≤ ds.length
  · rw [Nat.min_eq_left hj]
    by_cases hk : k ≤ ds.length
    · rw [Nat.min_eq_left hk]
    · rw [Nat.min_eq_right (by omega), List.take_of_length_le (by rw [List.length_drop]; omega), List.take_of_length_le (by rw [List.length_drop]; omega)]
  · rw [Nat.min_eq_right (by omega), List.drop_of_length_le (by omega), List.drop_of_length_le (by omega), List.take_nil, List.take_nil]
end
end SR
set_option Elab.async false
set_option linter.all false
set_option maxRecDepth 100000
set_option maxHeartbeats 4000000
/-! base.names: what values are -/
namespace SR
open PySem PySem.Spec PyProof.Rows L2
theorem kt (a b : String) (r : Bool) (h : decide (kitB a b = some r) = true) : kitB a b = some r := of_decide_eq_true h
theorem ki_ii (i : Int) : kitB (tyN (.int i)) "int" = some true := kt "int" "int" true (by decide +kernel)
theorem ki_ib (i : Int) : kitB (tyN (.int i)) "bool" = some false := kt "int" "bool" false (by decide +kernel)
theorem ki_tt (ds : List PyData) : kitB (tyN (.tuple ds)) "tuple" = some true := kt "tuple" "tuple" true (by decide +kernel)
theorem ki_ss (z : Str) : kitB (tyN (.str z)) "str" = some true := kt "str" "str" true (by decide +kernel)
theorem ki_dd : kitB "dict" "dict" = some true := kt _ _ _ (by decide +kernel)
section
variable {P : Program} {w : World} {K : PySem.W.Frag} {mg : Str → Option Value} {base : Heap}
/-- a def that says True of these -/
abbrev spT (K : PySem.W.Frag) {α : Type} (args : α → List PyData) (pre : α → Prop) : Sp := spD K args (fun _ => .bool true) pre
theorem dvA1 {H : Hp} {vs : List V} {d : PyData} (h : DvA K H vs [d]) : ∃ v, vs = [v] ∧ Dv K H v d := by
  cases h with
  | cons h1 h2 =>
    cases h2
    exact ⟨_, rfl, h1⟩
theorem dvA2 {H : Hp} {vs : List V} {d e : PyData} (h : DvA K H vs [d, e]) : ∃ v u, vs = [v, u] ∧ Dv K H v d ∧ Dv K H u e := by
  cases h with
  | cons h1 h2 =>
    obtain ⟨u, rfl, h3⟩ := dvA1 h2
    exact ⟨_, u, rfl, h1, h3⟩
theorem dvA3 {H : Hp} {vs : List V} {d e f : PyData} (h : DvA K H vs [d, e, f]) : ∃ v u x, vs = [v, u, x] ∧ Dv K H v d ∧ Dv K H u e ∧ Dv K H x f := by
  cases h with
  | cons h1 h2 =>
    obtain ⟨u, x, rfl, h3, h4⟩ := dvA2 h2
    exact ⟨_, u, x, rfl, h1, h3, h4⟩
theorem sc_is_whole : FnScope ["value"] ["value"] (defScope st_is_whole) := ⟨rfl, rfl, rfl, by decide +kernel, rfl, by decide +kernel, by decide +kernel⟩
theorem ok_is_whole (T : Txt w K mg) : C8.Cal P w K mg base 1 "is_whole" (spT K (fun i : Int => [.int i]) (fun _ => True)) [] := by
  refine fn_ok T 0 rfl sc_is_whole (fun _ _ _ _ _ _ us hl => match us, hl with | [_], _ => rfl) (fun vs H Q E ⟨_, _, h, _⟩ => h.length) (fun f cdv A outer s H vs Q E hr ⟨i, _, h, hQ⟩ => ?_)
  obtain ⟨v, rfl, h1⟩ := dvA1 h
  exact bl_ret (Gr.z H) (ev_andT (ev_isi (ki_ii _) T.f_isinstance T.f_int bt_int (ev_nm 0 h1)) (ev_one (ev_not (ev_isi (ki_ib _) T.f_isinstance T.f_bool bt_bool (ev_nm 0 h1))))) (fun v H1 g p => hQ v H1 g p)
theorem sc_is_within : FnScope ["value", "least", "greatest"] ["value", "least", "greatest"] (defScope st_is_within) := ⟨rfl, rfl, rfl, by decide +kernel, rfl, by decide +kernel, by decide +kernel⟩
theorem ok_is_within (T : Txt w K mg) : C8.Cal P w K mg base 2 "is_within" (spT K (fun x : Int × Int × Int => [.int x.1, .int x.2.1, .int x.2.2]) (fun x => x.2.1 ≤ x.1 ∧ x.1 ≤ x.2.2)) [] := by
  refine fn_ok T 1 rfl sc_is_within (fun _ _ _ _ _ _ us hl => match us, hl with | [_, _, _], _ => rfl) (fun vs H Q E ⟨_, _, h, _⟩ => h.length) (fun f cdv A outer s H vs Q E hr ⟨⟨i, l, u⟩, hp, h, hQ⟩ => ?_)
  obtain ⟨v1, v2, v3, rfl, h1, h2, h3⟩ := dvA3 h
  refine bl_ret (Gr.z H) (P := Pd K (.bool true)) (ev_andT (ev_callD (ok_is_whole T) hr (by decide) i trivial (ea_cons (ev_nm 0 h1) ea_nil)) (ev_one (Ev.is (ev_leCh (ev_nm 1 h2) (ev_nm 0 h1) (ev_nm 2 h3)) ?_))) (fun v H1 g p => hQ v H1 g p)
  rw [decide_eq_true hp.1, decide_eq_true hp.2]
  rfl
/-- is_within, used -/
theorem ev_within {M : Addr → Prop} {X : Cx} {σ : L2.St} {H : Hp} {a b c : Expr} {pos p : Pos} {i l u : Int} {j : Nat} (C : C8.Cal X.prog X.w X.K X.mg X.base 2 "is_within" (spT X.K (fun x : Int × Int × Int => [.int x.1, .int x.2.1, .int x.2.2]) (fun x => x.2.1 ≤ x.1 ∧ x.1 ≤ x.2.2)) []) (hr : Room j X.A) (hk : 2 ≤ j)
    (h1 : Ev M (wE X a) σ H (Pd X.K (.int i))) (h2 : Ev M (wE X b) σ H (Pd X.K (.int l))) (h3 : Ev M (wE X c) σ H (Pd X.K (.int u))) (hi : l ≤ i ∧ i ≤ u) (hg : Gl X "is_within" := by rfl)
    (he : starEach [a, b, c] X.env = (false, eval a X.env) :: starEach [b, c] X.env := by rfl) (he2 : starEach [b, c] X.env = (false, eval b X.env) :: starEach [c] X.env := by rfl) (he3 : starEach [c] X.env = (false, eval c X.env) :: starEach [] X.env := by rfl)
    (hpl : (backTo pos (starEach [b, c] X.env)).any (·.1) = false := by rfl) : Ev M (wE X (.Call (.Name "is_within" p) [a, b, c] [] pos)) σ H (Pd X.K (.bool true)) :=
  ev_callD (res := fun _ => .bool true) C hr hk (i, l, u) hi (ea_cons h1 (ea_cons h2 (ea_cons h3 ea_nil he3) he2) he) hg (by decide) he hpl
theorem sc_is_cell : FnScope ["value"] ["value"] (defScope st_is_cell) := ⟨rfl, rfl, rfl, by decide +kernel, rfl, by decide +kernel, by decide +kernel⟩
theorem ok_is_cell (T : Txt w K mg) : C8.Cal P w K mg base 3 "is_cell" (spT K (fun i : Int => [.int i]) (fun i => 0 ≤ i ∧ i ≤ 996)) [] := by
  refine fn_ok T 2 rfl sc_is_cell (fun _ _ _ _ _ _ us hl => match us, hl with | [_], _ => rfl) (fun vs H Q E ⟨_, _, h, _⟩ => h.length) (fun f cdv A outer s H vs Q E hr ⟨i, hp, h, hQ⟩ => ?_)
  obtain ⟨v, rfl, h1⟩ := dvA1 h
  exact bl_ret (Gr.z H) (ev_within (ok_is_within T) hr (by decide) (ev_nm 0 h1) ev_int (ev_gi T.c_MAX_CELL) hp) (fun v H1 g p => hQ v H1 g p)
theorem all_true (ds : List PyData) : (ds.map fun _ => PyData.bool true) = (ds.map fun _ => true).map PyData.bool := by rw [List.map_map]; rfl
theorem all_t {α : Type} (ds : List α) : (ds.map fun _ => true).all id = true := by simp
/-- all([f(x) for x in xs]), each of them true -/
theorem sc_is_cells : FnScope ["value", "cell"] ["value"] (defScope st_is_cells) := ⟨rfl, rfl, rfl, by decide +kernel, rfl, by decide +kernel, by decide +kernel⟩
theorem ok_is_cells (T : Txt w K mg) : C8.Cal P w K mg base 4 "is_cells" (spT K (fun cs : List Int => [.tuple (cs.map .int)]) (fun cs => cs.length ≤ 100000 ∧ ∀ c ∈ cs, 0 ≤ c ∧ c ≤ 996)) [] := by
  refine fn_ok T 3 rfl sc_is_cells (fun _ _ _ _ _ _ us hl => match us, hl with | [_], _ => rfl) (fun vs H Q E ⟨_, _, h, _⟩ => h.length) (fun f cdv A outer s H vs Q E hr ⟨cs, hp, h, hQ⟩ => ?_)
  obtain ⟨v, rfl, h1⟩ := dvA1 h
  have nd := sc_is_cells.nd
  refine bl_ret (Gr.z H) (P := Pd K (.bool true)) (ev_andT (ev_isi (ki_tt _) T.f_isinstance T.f_tuple bt_tuple (ev_nm 0 h1)) (ev_one (Ev.is (ev_all (bs := (cs.map PyData.int).map fun _ => true) rfl T.f_all (Ev.ld ?_)) (by rw [all_t])))) (fun v H1 g p => hQ v H1 g p)
  rw [← all_true]
  refine ev_lcF (own := [("cell", 1)]) (gt := gName 1) (fun _ => .bool true) rfl nd (blkOk_by (sc := defScope st_is_cells) (N := ["value", "cell"]) (by decide +kernel)) (ei_tup (ev_nm 0 h1)) (by simpa using hp.1) (fun _ _ _ _ _ => pg_name nd rfl (Or.inl rfl)) (fun i d x H2 e g hx Q q => gt_name (q _ rfl fun s H0 C cl fp => ?_))
  obtain ⟨c, hc, rfl⟩ : ∃ c ∈ cs, d = .int c := by
    obtain ⟨c, hc, e2⟩ := List.mem_map.mp (List.mem_of_getElem? e)
    exact ⟨c, hc, e2.symm⟩
  exact ev_callD (ok_is_cell T) hr (by decide) c (hp.2 c hc) (ea_cons (ev_nm 1 hx) ea_nil)
end
end SR
set_option Elab.async false
set_option linter.all false
set_option maxRecDepth 100000
set_option maxHeartbeats 2000000
/-! the plain data: sources, pieces, rows, marks, deeds -/
namespace SR
open PySem PySem.Spec PyProof.Rows L2
def letters : Str := "abcdefghijklmnopqrstuvwxyz"
def nmOk (z : Str) : Prop := (1 ≤ z.length ∧ z.length ≤ 4) ∧ ∀ c ∈ z.cps.toList, c ∈ letters.cps.toList
instance (z : Str) : Decidable (nmOk z) := by unfold nmOk; infer_instance
def saveOk (s : Int × Int) : Prop := (1 ≤ s.1 ∧ s.1 ≤ 996) ∧ 1 ≤ s.2 ∧ s.2 ≤ 996
def saveD (s : Int × Int) : PyData := .tuple [.int s.1, .int s.2]
inductive So where
  | new (s : Int × Int)
  | below (n : Str)
  deriving DecidableEq
def So.d : So → PyData
  | .new s => .tuple [.str "new", saveD s]
  | .below n => .tuple [.str "below", .str n]
def So.ok : So → Prop
  | .new s => saveOk s
  | .below n => nmOk n
structure Pc where
  so : So
  a : Nat
  n : Nat
  deriving DecidableEq
def Pc.d (p : Pc) : PyData := .tuple [p.so.d, .int (p.a : Int), .int (p.n : Int)]
def Pc.ok (p : Pc) : Prop := p.so.ok ∧ 1 ≤ p.n ∧ p.a + p.n ≤ 100000
def goes (p q : Pc) : Bool := decide (q.so = p.so) && decide (q.a = p.a + p.n)
def rowD (r : List Pc) : PyData := .tuple (r.map Pc.d)
structure RowOk (r : List Pc) : Prop where
  len : r.length ≤ 10000
  ok : ∀ p ∈ r, p.ok
  no : ∀ i p q, r[i]? = some p → r[i + 1]? = some q → goes p q = false
/-! data that can be compared -/
structure Gd (d : PyData) : Prop where
  c : d.canLay0 = true
  h : d.depth ≤ 8
theorem Gd.s {d : PyData} (h : Gd d) : SeqAt.shaped d = true := by
  unfold SeqAt.shaped
  rw [h.c, decide_eq_true (Nat.le_trans h.h (by decide))]
  rfl
theorem gd_int (i : Int) : Gd (.int i) := ⟨by simp [PyData.canLay0], by simp [PyData.depth]⟩
theorem gd_bl (i : Bool) : Gd (.bool i) := ⟨by simp [PyData.canLay0], by simp [PyData.depth]⟩
theorem gd_non : Gd .none := ⟨by simp [PyData.canLay0], by simp [PyData.depth]⟩
theorem strOk_of {z : Str} (h : ∀ c ∈ z.cps.toList, c < 0x110000) : PyData.strOk z = true := by
  unfold PyData.strOk
  rw [Array.all_eq_true_iff_forall_mem]
  intro c hc
  exact decide_eq_true (h c (Array.mem_toList_iff.mpr hc))
theorem let_small : ∀ c ∈ letters.cps.toList, c < 0x110000 := by decide +kernel
theorem gd_str {z : Str} (h : ∀ c ∈ z.cps.toList, c < 0x110000) : Gd (.str z) := ⟨by simp [PyData.canLay0, strOk_of h], by simp [PyData.depth]⟩
theorem gd_nm {z : Str} (h : nmOk z) : Gd (.str z) := gd_str fun c hc => let_small c (h.2 c hc)
theorem layAll {ds : List PyData} (h : ∀ d ∈ ds, d.canLay0 = true) : PyData.canLayAll0 ds = true := by
  induction ds with
  | nil => simp [PyData.canLayAll0]
  | cons d ds ih =>
    rw [PyData.canLayAll0, h d List.mem_cons_self, ih fun e he => h e (List.mem_cons_of_mem _ he)]
    rfl
theorem depAll {ds : List PyData} {n : Nat} (h : ∀ d ∈ ds, d.depth ≤ n) : PyData.depthAll ds ≤ n := by
  induction ds with
  | nil => simp [PyData.depthAll]
  | cons d ds ih =>
    rw [PyData.depthAll]
    exact Nat.max_le.mpr ⟨h d List.mem_cons_self, ih fun e he => h e (List.mem_cons_of_mem _ he)⟩
theorem lay_tup {ds : List PyData} (h : ∀ d ∈ ds, d.canLay0 = true) : (PyData.tuple ds).canLay0 = true := by
  rw [PyData.canLay0]
  exact layAll h
theorem dep_tup {ds : List PyData} {n : Nat} (h : ∀ d ∈ ds, d.depth ≤ n) : (PyData.tuple ds).depth ≤ n + 1 := by
  rw [PyData.depth]
  have := depAll h
  omega
theorem So.lay {s : So} (h : s.ok) : s.d.canLay0 = true ∧ s.d.depth ≤ 2 := by
  cases s with
  | new s => exact ⟨by simp [So.d, saveD, PyData.canLay0, PyData.canLayAll0, (gd_str (z := "new") (by decide +kernel)).c]; decide +kernel, by simp [So.d, saveD, PyData.depth, PyData.depthAll]⟩
  | below n =>
    have h1 := (gd_nm h).c
    exact ⟨by simp [So.d, PyData.canLay0, PyData.canLayAll0] at h1 ⊢; exact ⟨by decide +kernel, h1⟩, by simp [So.d, PyData.depth, PyData.depthAll]⟩
theorem So.gd {s : So} (h : s.ok) : Gd s.d := ⟨(So.lay h).1, Nat.le_trans (So.lay h).2 (by decide)⟩
/-! equality of data -/
theorem eqv_int (i j : Int) : PyData.eqv (.int i) (.int j) = decide (i = j) := by
  simp only [PyData.eqv]
  by_cases h : i = j
  · simp [h]
  · rw [decide_eq_false h]
    exact beq_eq_false_iff_ne.mpr h
theorem eqv_str (x y : Str) : PyData.eqv (.str x) (.str y) = decide (x = y) := by
  simp only [PyData.eqv]
  by_cases h : x = y
  · simp [h]
  · rw [decide_eq_false h]
    exact beq_eq_false_iff_ne.mpr h
theorem eqv_so {s t : So} : PyData.eqv s.d t.d = decide (s = t) := by
  cases s with
  | new a =>
    cases t with
    | new b =>
      obtain ⟨a1, a2⟩ := a
      obtain ⟨b1, b2⟩ := b
      simp only [So.d, saveD, PyData.eqv, PyData.eqvAll, Bool.and_true]
      by_cases h1 : a1 = b1
      · by_cases h2 : a2 = b2
        · simp [h1, h2]
        · have : ¬ So.new (a1, a2) = So.new (b1, b2) := fun z => by injection z with z; injection z with z1 z2; exact h2 z2
          rw [decide_eq_false this]
          simp [h1, h2]
      · have : ¬ So.new (a1, a2) = So.new (b1, b2) := fun z => by injection z with z; injection z with z1 z2; exact h1 z1
        rw [decide_eq_false this]
        simp [h1]
    | below n =>
      simp only [So.d, PyData.eqv, PyData.eqvAll]
      have : (("new" : Str) == "below") = false := by decide +kernel
      rw [this]
      simp
  | below m =>
    cases t with
    | new b =>
      simp only [So.d, PyData.eqv, PyData.eqvAll]
      have : (("below" : Str) == "new") = false := by decide +kernel
      rw [this]
      simp
    | below n =>
      simp only [So.d, PyData.eqv, PyData.eqvAll]
      by_cases h : m = n
      · simp [h]
      · have : ¬ So.below m = So.below n := fun z => h (So.below.inj z)
        rw [decide_eq_false this]
        simp [h]
/-! marks and deeds -/
inductive Mark where
  | put (n : Str) (l : Nat)
  | patch (n : Str) (i o l h : Nat)
  | drop (n : Str) (h : Nat)
  | rename (n m : Str) (h : Nat)
def Mark.d : Mark → PyData
  | .put n l => .tuple [.str "put", .str n, .int (l : Int)]
  | .patch n i o l h => .tuple [.str "patch", .str n, .int (i : Int), .int (o : Int), .int (l : Int), .int (h : Int)]
  | .drop n h => .tuple [.str "drop", .str n, .int (h : Int)]
  | .rename n m h => .tuple [.str "rename", .str n, .str m, .int (h : Int)]
def Mark.name : Mark → Str
  | .put n _ => n
  | .patch n _ _ _ _ => n
  | .drop n _ => n
  | .rename n _ _ => n
def Mark.news : Mark → Nat
  | .put _ l => l
  | .patch _ _ _ l _ => l
  | _ => 0
def Mark.ok : Mark → Prop
  | .put n l => nmOk n ∧ l ≤ 48
  | .patch n i o l h => nmOk n ∧ l ≤ 48 ∧ i ≤ h ∧ o ≤ h - i ∧ h ≤ 996 ∧ h - o + l ≤ 996
  | .drop n h => nmOk n ∧ h ≤ 996
  | .rename n m h => nmOk n ∧ nmOk m ∧ n ≠ m ∧ h ≤ 996
inductive Deed where
  | put (n : Str) (cs : List PyData)
  | patch (n : Str) (i o : Nat) (cs : List PyData)
  | drop (n : Str)
  | rename (n m : Str)
def Deed.d : Deed → PyData
  | .put n cs => .tuple [.str "put", .str n, .tuple cs]
  | .patch n i o cs => .tuple [.str "patch", .str n, .int (i : Int), .int (o : Int), .tuple cs]
  | .drop n => .tuple [.str "drop", .str n]
  | .rename n m => .tuple [.str "rename", .str n, .str m]
def Deed.cells : Deed → List PyData
  | .put _ cs => cs
  | .patch _ _ _ cs => cs
  | _ => []
def Deed.name : Deed → Str
  | .put n _ => n
  | .patch n _ _ _ => n
  | .drop n => n
  | .rename n _ => n
/-- trees: names with the items of their tuples, in the order of the dict -/
abbrev Tr := List (Str × List PyData)
def trGet {κ β : Type} [DecidableEq κ] (t : List (κ × β)) (n : κ) : Option β := (t.find? fun q => decide (q.1 = n)).map (·.2)
def trPut {κ β : Type} [DecidableEq κ] (t : List (κ × β)) (n : κ) (x : β) : List (κ × β) := if (t.any fun q => decide (q.1 = n)) = true then t.map fun q => if q.1 = n then (q.1, x) else q else t ++ [(n, x)]
def trDrop {κ β : Type} [DecidableEq κ] (t : List (κ × β)) (n : κ) : List (κ × β) := t.filter fun q => decide (q.1 ≠ n)
def doneF (t : Tr) : Deed → Option Tr
  | .put n cs => some (trPut t n cs)
  | .patch n i o cs => match trGet t n with
    | none => none
    | some h => if i + o > h.length ∨ h.length - o + cs.length > 996 then none else some (trPut (trDrop t n) n (h.take i ++ cs ++ h.drop (i + o)))
  | .drop n => match trGet t n with
    | none => none
    | some _ => some (trDrop t n)
  | .rename n m => match trGet t n with
    | none => none
    | some h => match trGet t m with
      | some _ => none
      | none => some (trPut (trDrop t n) m h)
/-- the mark of a deed that can be done -/
def markF (t : Tr) : Deed → Mark
  | .put n cs => .put n cs.length
  | .patch n i o cs => .patch n i o cs.length ((trGet t n).getD []).length
  | .drop n => .drop n ((trGet t n).getD []).length
  | .rename n m => .rename n m ((trGet t n).getD []).length
def deedBy : Mark → List PyData → Deed
  | .put n _, cs => .put n cs
  | .patch n i o _ _, cs => .patch n i o cs
  | .drop n _, _ => .drop n
  | .rename n m _, _ => .rename n m
/-! rows -/
def partF : List Pc → Nat → Nat → Nat → List Pc
  | [], _, _, _ => []
  | p :: r, at_, f, s => (if f - at_ < min (s - at_) p.n then [⟨p.so, p.a + (f - at_), min (s - at_) p.n - (f - at_)⟩] else []) ++ partF r (at_ + p.n) f s
def joinStep (acc : List Pc) (p : Pc) : List Pc := match acc.getLast? with
  | some q => if goes q p = true then acc.dropLast ++ [⟨p.so, q.a, q.n + p.n⟩] else acc ++ [p]
  | none => acc ++ [p]
def joinF (ps : List Pc) : List Pc := ps.foldl joinStep []
def rowOf (s : So) (n : Nat) : List Pc := if 0 < n then [⟨s, 0, n⟩] else []
def lenF (r : List Pc) : Nat := (r.map (·.n)).sum
end SR
set_option Elab.async false
set_option linter.all false
set_option maxRecDepth 100000
set_option maxHeartbeats 4000000
/-! names of entries and saves, sources, pieces -/
namespace SR
open PySem PySem.Spec PyProof.Rows L2
section
variable {P : Program} {w : World} {K : PySem.W.Frag} {mg : Str → Option Value} {base : Heap}
theorem nf {A : Prop} (h : (true : Bool) = false) : A := nomatch h
theorem nt {A : Prop} (h : (false : Bool) = true) : A := nomatch h
theorem sc_is_name : FnScope ["value", "sign"] ["value"] (defScope st_is_name) := ⟨rfl, rfl, rfl, by decide +kernel, rfl, by decide +kernel, by decide +kernel⟩
theorem ok_is_name (T : Txt w K mg) : C8.Cal P w K mg base 1 "is_name" (spT K (fun z : Str => [.str z]) nmOk) [] := by
  refine fn_ok T 4 rfl sc_is_name (fun _ _ _ _ _ _ us hl => match us, hl with | [_], _ => rfl) (fun vs H Q E ⟨_, _, h, _⟩ => h.length) (fun f cdv A outer s H vs Q E hr ⟨z, hp, h, hQ⟩ => ?_)
  obtain ⟨v, rfl, h1⟩ := dvA1 h
  have nd := sc_is_name.nd
  refine bl_when (Gr.z H) (et_w (ew_orF (et_notF (ev_isi (ki_ss _) T.f_isinstance T.f_str bt_str (ev_nm 0 h1))) (ew_or1 (EvT.is (et_not (et_leCh ev_int (ev_lenS (Nat.le_trans hp.1.2 (by decide)) T.f_len (ev_nm 0 h1)) (ev_gi T.c_MAX_NAME))) ?_)))) (fun z => nf z) (fun _ H1 g1 => ?_)
  · rw [decide_eq_true (by have := hp.1.1; omega), decide_eq_true (by have := hp.1.2; omega)]
    rfl
  · refine bl_ret g1.r (P := Pd K (.bool true)) (Ev.is (ev_all (bs := (sgnD z).map fun _ => true) rfl T.f_all (Ev.ld ?_)) (by rw [all_t])) (fun v H2 g p => hQ v H2 (g1.t g) p)
    rw [← all_true]
    refine ev_lcF (own := [("sign", 1)]) (gt := gName 1) (fun _ => .bool true) rfl nd (blkOk_by (sc := defScope st_is_name) (N := ["value", "sign"]) (by decide +kernel)) (ei_str (ev_nm 0 (h1.g g1))) ?_ (fun _ _ _ _ _ => pg_name nd rfl (Or.inl rfl)) (fun i d x H2 e g hx Q q => gt_name (q _ rfl fun s H0 C cl fp => ?_))
    · have : (sgnD z).length = z.length := by simp [sgnD]; rfl
      rw [this]
      exact Nat.le_trans hp.1.2 (by decide)
    · obtain ⟨c, hc, rfl⟩ : ∃ c ∈ z.cps.toList, d = .str ⟨#[c]⟩ := by
        obtain ⟨c, hc, e2⟩ := List.mem_map.mp (List.mem_of_getElem? e)
        exact ⟨c, hc, e2.symm⟩
      exact Ev.is (ev_inS (z := letters) (ev_nm 1 hx) (ev_gs T.c_LETTERS)) (by rw [decide_eq_true (hp.2 c hc)])
theorem sc_is_save_name : FnScope ["value", "one"] ["value"] (defScope st_is_save_name) := ⟨rfl, rfl, rfl, by decide +kernel, rfl, by decide +kernel, by decide +kernel⟩
theorem ok_is_save_name (T : Txt w K mg) : C8.Cal P w K mg base 3 "is_save_name" (spT K (fun s : Int × Int => [saveD s]) saveOk) [] := by
  refine fn_ok T 7 rfl sc_is_save_name (fun _ _ _ _ _ _ us hl => match us, hl with | [_], _ => rfl) (fun vs H Q E ⟨_, _, h, _⟩ => h.length) (fun f cdv A outer s H vs Q E hr ⟨z, hp, h, hQ⟩ => ?_)
  obtain ⟨v, rfl, h1⟩ := dvA1 h
  have nd := sc_is_save_name.nd
  refine bl_ret (Gr.z H) (P := Pd K (.bool true)) (ev_andT (ev_isi (ki_tt _) T.f_isinstance T.f_tuple bt_tuple (ev_nm 0 h1)) (ev_andT (Ev.is (ev_eqI (ev_lenT T.f_len (ev_nm 0 h1)) (ev_gi T.c_PAIR_histories)) rfl) (ev_one (Ev.is (ev_all (bs := ([.int z.1, .int z.2] : List PyData).map fun _ => true) rfl T.f_all (Ev.ld ?_)) (by rw [all_t]))))) (fun v H2 g p => hQ v H2 g p)
  rw [← all_true]
  refine ev_lcF (own := [("one", 1)]) (gt := gName 1) (fun _ => .bool true) rfl nd (blkOk_by (sc := defScope st_is_save_name) (N := ["value", "one"]) (by decide +kernel)) (ei_tup (ev_nm 0 h1)) (by simp) (fun _ _ _ _ _ => pg_name nd rfl (Or.inl rfl)) (fun i d x H2 e g hx Q q => gt_name (q _ rfl fun s H0 C cl fp => ?_))
  obtain ⟨c, hc, rfl⟩ : ∃ c : Int, (1 ≤ c ∧ c ≤ 996) ∧ d = .int c := by
    have := List.mem_of_getElem? e
    simp only [List.mem_cons, List.not_mem_nil, or_false] at this
    rcases this with e2 | e2
    · exact ⟨_, hp.1, e2⟩
    · exact ⟨_, hp.2, e2⟩
  exact ev_within (ok_is_within T) hr (by decide) (ev_nm 1 hx) ev_int (ev_gi T.c_MAX_CELL) hc
/-- a def that checks and says nothing -/
abbrev spN (K : PySem.W.Frag) {α : Type} (args : α → List PyData) (pre : α → Prop) : Sp := spD K args (fun _ => .none) pre
theorem sc_require_save_name : FnScope ["value"] ["value"] (defScope st_require_save_name) := ⟨rfl, rfl, rfl, by decide +kernel, rfl, by decide +kernel, by decide +kernel⟩
theorem ok_require_save_name (T : Txt w K mg) : C8.Cal P w K mg base 4 "require_save_name" (spN K (fun s : Int × Int => [saveD s]) saveOk) [] := by
  refine fn_ok T 8 rfl sc_require_save_name (fun _ _ _ _ _ _ us hl => match us, hl with | [_], _ => rfl) (fun vs H Q E ⟨_, _, h, _⟩ => h.length) (fun f cdv A outer s H vs Q E hr ⟨z, hp, h, hQ⟩ => ?_)
  obtain ⟨v, rfl, h1⟩ := dvA1 h
  exact bl_when (Gr.z H) (et_notF (ev_callD (ok_is_save_name T) hr (by decide) z hp (ea_cons (ev_nm 0 h1) ea_nil))) (fun z => nf z) (fun _ H1 g1 => bl_nil (hQ _ _ g1 .non))
theorem sc_is_source : FnScope ["value"] ["value"] (defScope st_is_source) := ⟨rfl, rfl, rfl, by decide +kernel, rfl, by decide +kernel, by decide +kernel⟩
theorem ok_is_source (T : Txt w K mg) : C8.Cal P w K mg base 4 "is_source" (spT K (fun s : So => [s.d]) So.ok) [] := by
  refine fn_ok T 12 rfl sc_is_source (fun _ _ _ _ _ _ us hl => match us, hl with | [_], _ => rfl) (fun vs H Q E ⟨_, _, h, _⟩ => h.length) (fun f cdv A outer s H vs Q E hr ⟨z, hp, h, hQ⟩ => ?_)
  obtain ⟨v, rfl, h1⟩ := dvA1 h
  cases z with
  | new z =>
    refine bl_when (Gr.z H) (et_w (ew_orF (et_notF (ev_isi (ki_tt _) T.f_isinstance T.f_tuple bt_tuple (ev_nm 0 h1))) (ew_orF (EvT.is (et_neI (ev_lenT T.f_len (ev_nm 0 h1)) (ev_gi T.c_PAIR_marks)) rfl) (ew_or1 (et_notF (ev_isi (ki_ss _) T.f_isinstance T.f_str bt_str (ev_ix (ev_nm 0 h1) ev_int rfl))))))) (fun z => nf z) (fun _ H1 g1 => ?_)
    exact bl_ret g1.r (P := Pd K (.bool true)) (ev_if (EvT.is (c := true) (et_eqS (ev_ix (ev_nm 0 (h1.g g1)) ev_int rfl) (ev_gs T.c_NEW)) rfl) (fun _ => ev_callD (ok_is_save_name T) hr (by decide) z hp (ea_cons (ev_ix (ev_nm 0 (h1.g g1)) ev_int rfl) ea_nil)) (fun z => nf z)) (fun v H2 g p => hQ v H2 (g1.t g) p)
  | below z =>
    refine bl_when (Gr.z H) (et_w (ew_orF (et_notF (ev_isi (ki_tt _) T.f_isinstance T.f_tuple bt_tuple (ev_nm 0 h1))) (ew_orF (EvT.is (et_neI (ev_lenT T.f_len (ev_nm 0 h1)) (ev_gi T.c_PAIR_marks)) rfl) (ew_or1 (et_notF (ev_isi (ki_ss _) T.f_isinstance T.f_str bt_str (ev_ix (ev_nm 0 h1) ev_int rfl))))))) (fun z => nf z) (fun _ H1 g1 => ?_)
    exact bl_ret g1.r (P := Pd K (.bool true)) (ev_if (EvT.is (c := false) (et_eqS (ev_ix (ev_nm 0 (h1.g g1)) ev_int rfl) (ev_gs T.c_NEW)) (by decide +kernel)) (fun z => nt z) (fun _ => ev_andT (Ev.is (ev_eqS (ev_ix (ev_nm 0 (h1.g g1)) ev_int rfl) (ev_gs T.c_BELOW)) rfl) (ev_one (ev_callD (ok_is_name T) hr (by decide) z hp (ea_cons (ev_ix (ev_nm 0 (h1.g g1)) ev_int rfl) ea_nil))))) (fun v H2 g p => hQ v H2 (g1.t g) p)
theorem sc_is_piece : FnScope ["value"] ["value"] (defScope st_is_piece) := ⟨rfl, rfl, rfl, by decide +kernel, rfl, by decide +kernel, by decide +kernel⟩
theorem ok_is_piece (T : Txt w K mg) : C8.Cal P w K mg base 5 "is_piece" (spT K (fun s : Pc => [s.d]) Pc.ok) [] := by
  refine fn_ok T 13 rfl sc_is_piece (fun _ _ _ _ _ _ us hl => match us, hl with | [_], _ => rfl) (fun vs H Q E ⟨_, _, h, _⟩ => h.length) (fun f cdv A outer s H vs Q E hr ⟨z, hp, h, hQ⟩ => ?_)
  obtain ⟨v, rfl, h1⟩ := dvA1 h
  refine bl_when (Gr.z H) (et_w (ew_orF (et_notF (ev_isi (ki_tt _) T.f_isinstance T.f_tuple bt_tuple (ev_nm 0 h1))) (ew_orF (EvT.is (et_neI (ev_lenT T.f_len (ev_nm 0 h1)) (ev_gi T.c_TRIPLE)) rfl) (ew_or1 (et_notF (ev_callD (ok_is_source T) hr (by decide) z.so hp.1 (ea_cons (ev_ix (ev_nm 0 h1) ev_int rfl) ea_nil))))))) (fun z => nf z) (fun _ H1 g1 => ?_)
  have hb := hp.2.2
  have hb1 := hp.2.1
  exact bl_ret g1.r (P := Pd K (.bool true)) (ev_andT (ev_within (ok_is_within T) hr (by decide) (ev_ix (ev_nm 0 (h1.g g1)) ev_int rfl) ev_int (ev_gi T.c_LONGEST) (by omega)) (ev_one (ev_within (ok_is_within T) hr (by decide) (ev_ix (ev_nm 0 (h1.g g1)) ev_int rfl) ev_int (ev_gi T.c_LONGEST) (by omega)))) (fun v H2 g p => hQ v H2 (g1.t g) p)
theorem sc_goes_on : FnScope ["one", "other"] ["one", "other"] (defScope st_goes_on) := ⟨rfl, rfl, rfl, by decide +kernel, rfl, by decide +kernel, by decide +kernel⟩
theorem ok_goes_on (T : Txt w K mg) : C8.Cal P w K mg base 1 "goes_on" (spD K (fun s : Pc × Pc => [s.1.d, s.2.d]) (fun s => .bool (goes s.1 s.2)) (fun s => s.1.ok ∧ s.2.ok)) [] := by
  refine fn_ok T 14 rfl sc_goes_on (fun _ _ _ _ _ _ us hl => match us, hl with | [_, _], _ => rfl) (fun vs H Q E ⟨_, _, h, _⟩ => h.length) (fun f cdv A outer s H vs Q E hr ⟨⟨p, q⟩, hp, h, hQ⟩ => ?_)
  obtain ⟨v, v2, rfl, h1, h2⟩ := dvA2 h
  refine bl_ret (Gr.z H) (P := Pd K (.bool (goes p q))) (Ev.is (ev_and (ev_eq (hu64 hr) (So.gd hp.2.1).s (So.gd hp.1.1).s (ev_ix (ev_nm 1 h2) ev_int rfl) (ev_ix (ev_nm 0 h1) ev_int rfl)) fun _ => ev_one (ev_eqI (ev_ix (ev_nm 1 h2) ev_int rfl) (ev_add (ev_ix (ev_nm 0 h1) ev_int rfl) (ev_ix (ev_nm 0 h1) ev_int rfl)))) ?_) (fun v H2 g p => hQ v H2 g p)
  rw [eqv_so]
  unfold goes
  have : decide ((q.a : Int) = (p.a : Int) + (p.n : Int)) = decide (q.a = p.a + p.n) := by
    by_cases z : q.a = p.a + p.n
    · rw [decide_eq_true z, decide_eq_true (by omega)]
    · rw [decide_eq_false z, decide_eq_false (by omega)]
  rw [this]
end
end SR
set_option Elab.async false
set_option linter.all false
set_option maxRecDepth 100000
set_option maxHeartbeats 4000000
/-! read.marks: rows -/
namespace SR
open PySem PySem.Spec PyProof.Rows L2
theorem row_at {r : List Pc} {i : Nat} {d : PyData} (h : (r.map Pc.d)[i]? = some d) : ∃ p, r[i]? = some p ∧ d = p.d := by
  rw [List.getElem?_map] at h
  cases e : r[i]? with
  | none =>
    rw [e] at h
    cases h
  | some p =>
    rw [e] at h
    exact ⟨p, rfl, (Option.some.inj h).symm⟩
theorem lenF_app (a b : List Pc) : lenF (a ++ b) = lenF a + lenF b := by simp [lenF]
theorem lenF_cons (p : Pc) (a : List Pc) : lenF (p :: a) = p.n + lenF a := by simp [lenF]
theorem partF_app (f s : Nat) : ∀ (a b : List Pc) (t : Nat), partF (a ++ b) t f s = partF a t f s ++ partF b (t + lenF a) f s
  | [], b, t => by simp [partF, lenF]
  | p :: a, b, t => by
    show (if f - t < min (s - t) p.n then [(⟨p.so, p.a + (f - t), min (s - t) p.n - (f - t)⟩ : Pc)] else []) ++ partF (a ++ b) (t + p.n) f s = ((if f - t < min (s - t) p.n then [(⟨p.so, p.a + (f - t), min (s - t) p.n - (f - t)⟩ : Pc)] else []) ++ partF a (t + p.n) f s) ++ partF b (t + lenF (p :: a)) f s
    rw [partF_app f s a b (t + p.n), List.append_assoc, lenF_cons, Nat.add_assoc]
theorem partF_len (f s : Nat) : ∀ (a : List Pc) (t : Nat), (partF a t f s).length ≤ a.length
  | [], t => Nat.le_refl _
  | p :: a, t => by
    have h := partF_len f s a (t + p.n)
    have e : partF (p :: a) t f s = (if f - t < min (s - t) p.n then [⟨p.so, p.a + (f - t), min (s - t) p.n - (f - t)⟩] else []) ++ partF a (t + p.n) f s := rfl
    rw [e, List.length_append, List.length_cons]
    by_cases c : f - t < min (s - t) p.n
    · rw [if_pos c, List.length_singleton]
      omega
    · rw [if_neg c, List.length_nil]
      omega
theorem take_snoc {α : Type} {l : List α} {i : Nat} {x : α} (h : l[i]? = some x) : l.take (i + 1) = l.take i ++ [x] := by
  rw [List.take_add_one, h]
  rfl
section
variable {P : Program} {w : World} {K : PySem.W.Frag} {mg : Str → Option Value} {base : Heap}
theorem sc_is_row : FnScope ["value", "piece", "one", "other"] ["value"] (defScope st_is_row) := ⟨rfl, rfl, rfl, by decide +kernel, rfl, by decide +kernel, by decide +kernel⟩
theorem ok_is_row (T : Txt w K mg) : C8.Cal P w K mg base 6 "is_row" (spT K (fun r : List Pc => [rowD r]) RowOk) [] := by
  refine fn_ok T 15 rfl sc_is_row (fun _ _ _ _ _ _ us hl => match us, hl with | [_], _ => rfl) (fun vs H Q E ⟨_, _, h, _⟩ => h.length) (fun f cdv A outer s H vs Q E hr ⟨r, hp, h, hQ⟩ => ?_)
  obtain ⟨v, rfl, h1⟩ := dvA1 h
  have nd := sc_is_row.nd
  refine bl_when (Gr.z H) (et_w (ew_orF (et_notF (ev_isi (ki_tt _) T.f_isinstance T.f_tuple bt_tuple (ev_nm 0 h1))) (ew_or1 (et_notF (Ev.is (ev_all (bs := (r.map Pc.d).map fun _ => true) rfl T.f_all (Ev.ld ?_)) (by rw [all_t])))))) (fun z => nf z) (fun _ H1 g1 => ?_)
  · rw [← all_true]
    refine ev_lcF (own := [("piece", 1)]) (gt := gName 1) (fun _ => .bool true) rfl nd (blkOk_by (sc := defScope st_is_row) (N := ["value", "piece", "one", "other"]) (by decide +kernel)) (ei_tup (ev_nm 0 h1)) (by have := hp.len; simp; omega) (fun _ _ _ _ _ => pg_name nd rfl (Or.inl rfl)) (fun i d x H2 e g hx Q q => gt_name (q _ rfl fun s H0 C cl fp => ?_))
    obtain ⟨p, hp1, rfl⟩ := row_at e
    exact ev_callD (ok_is_piece T) hr (by decide) p (hp.ok p (List.mem_of_getElem? hp1)) (ea_cons (ev_nm 1 hx) ea_nil)
  · have h2 := h1.g g1
    refine bl_ret g1.r (P := Pd K (.bool true)) (Ev.is (ev_not (ev_any (bs := (zpD (r.map Pc.d) ((r.map Pc.d).drop 1)).map fun _ => false) rfl T.f_any (Ev.ld ?_))) (by simp)) (fun v H2 g p => hQ v H2 (g1.t g) p)
    rw [show ((zpD (r.map Pc.d) ((r.map Pc.d).drop 1)).map fun _ => false).map PyData.bool = (zpD (r.map Pc.d) ((r.map Pc.d).drop 1)).map fun _ => PyData.bool false by rw [List.map_map]; rfl]
    refine ev_lcF (own := [("one", 2), ("other", 3)]) (gt := gTup K 2 (gCons (gName 2) (gCons (gName 3) gNil))) (fun _ => .bool false) rfl nd (blkOk_by (sc := defScope st_is_row) (N := ["value", "piece", "one", "other"]) (by decide +kernel))
      (ei_zipT T.f_zip (ev_nm 0 h2) (Ev.is (ev_sl (ev_nm 0 h2) (po_some e_pe) po_none (eo_some ev_int) eo_none) (congrArg PyData.tuple (cut_from _ 1)))) (by have := hp.len; simp [zpD]; omega)
      (fun _ _ _ _ _ => pg_tup rfl (pgs_cons (pg_name nd rfl (Or.inl rfl)) (pgs_cons (pg_name nd rfl (Or.inl rfl)) pgs_nil))) (fun i d x H2 e g hx Q q => ?_)
    obtain ⟨p, o, hp1, ho1, rfl⟩ : ∃ p o, r[i]? = some p ∧ r[i + 1]? = some o ∧ d = .tuple [p.d, o.d] := by
      unfold zpD at e
      rw [List.getElem?_map] at e
      cases z : ((r.map Pc.d).zip ((r.map Pc.d).drop 1))[i]? with
      | none =>
        rw [z] at e
        cases e
      | some q =>
        rw [z] at e
        obtain ⟨z1, z2⟩ := List.getElem?_zip_eq_some.mp z
        obtain ⟨p, e1, e2⟩ := row_at z1
        rw [List.getElem?_drop, Nat.add_comm] at z2
        obtain ⟨o, e3, e4⟩ := row_at z2
        refine ⟨p, o, e1, e3, ?_⟩
        rw [← e2, ← e4]
        exact (Option.some.inj e).symm
    refine gt_2 hx fun v1 v2 k1 k2 => q _ rfl fun s H0 C cl fp => ?_
    exact Ev.is (ev_callD (ok_goes_on T) hr (by decide) (p, o) ⟨hp.ok p (List.mem_of_getElem? hp1), hp.ok o (List.mem_of_getElem? ho1)⟩ (ea_cons (ev_nm 2 k1) (ea_cons (ev_nm 3 k2) ea_nil))) (by show PyData.bool (goes p o) = _; rw [hp.no i p o hp1 ho1])
theorem sc_length_in : FnScope ["row", "source", "first", "many"] ["row"] (defScope st_length_in) := ⟨rfl, rfl, rfl, by decide +kernel, rfl, by decide +kernel, by decide +kernel⟩
def thirdD : PyData → PyData
  | .tuple [_, _, n] => n
  | _ => .none
theorem ok_length_in (T : Txt w K mg) : C8.Cal P w K mg base 1 "length_in" (spD K (fun r : List Pc => [rowD r]) (fun r => .int (lenF r : Nat)) (fun r => r.length ≤ 10000)) [] := by
  refine fn_ok T 16 rfl sc_length_in (fun _ _ _ _ _ _ us hl => match us, hl with | [_], _ => rfl) (fun vs H Q E ⟨_, _, h, _⟩ => h.length) (fun f cdv A outer s H vs Q E hr ⟨r, hp, h, hQ⟩ => ?_)
  obtain ⟨v, rfl, h1⟩ := dvA1 h
  have nd := sc_length_in.nd
  have e1 : (r.map Pc.d).map thirdD = (r.map fun p => (p.n : Int)).map PyData.int := by rw [List.map_map, List.map_map]; rfl
  have e2 : (r.map fun p => (p.n : Int)).sum = ((lenF r : Nat) : Int) := by
    unfold lenF
    clear e1 h1 h hQ hp
    induction r with
    | nil => rfl
    | cons p r ih =>
      simp only [List.map_cons, List.sum_cons, ih]
      omega
  refine bl_ret (Gr.z H) (P := Pd K _) (Ev.is (ev_sum (ns := r.map fun p => (p.n : Int)) rfl T.f_sum (Ev.ld ?_)) (by rw [e2])) (fun v H1 g p => hQ v H1 g p)
  rw [← e1]
  refine ev_lcF (own := [("source", 1), ("first", 2), ("many", 3)]) (gt := gTup K 3 (gCons (gName 1) (gCons (gName 2) (gCons (gName 3) gNil)))) thirdD rfl nd (blkOk_by (sc := defScope st_length_in) (N := ["row", "source", "first", "many"]) (by decide +kernel)) (ei_tup (ev_nm 0 h1)) (by simp; omega)
    (fun _ _ _ _ _ => pg_tup rfl (pgs_cons (pg_name nd rfl (Or.inl rfl)) (pgs_cons (pg_name nd rfl (Or.inl rfl)) (pgs_cons (pg_name nd rfl (Or.inl rfl)) pgs_nil)))) (fun i d x H2 e g hx Q q => ?_)
  obtain ⟨p, hp1, rfl⟩ := row_at e
  exact gt_3 hx fun v1 v2 v3 k1 k2 k3 => q _ rfl fun s H0 C cl fp => ev_nm 3 k3
theorem sc_row_of : FnScope ["source", "many"] ["source", "many"] (defScope st_row_of) := ⟨rfl, rfl, rfl, by decide +kernel, rfl, by decide +kernel, by decide +kernel⟩
theorem ok_row_of (T : Txt w K mg) : C8.Cal P w K mg base 1 "row_of" (spD K (fun r : So × Nat => [r.1.d, .int r.2]) (fun r => rowD (rowOf r.1 r.2)) (fun _ => True)) [] := by
  refine fn_ok T 17 rfl sc_row_of (fun _ _ _ _ _ _ us hl => match us, hl with | [_, _], _ => rfl) (fun vs H Q E ⟨_, _, h, _⟩ => h.length) (fun f cdv A outer s H vs Q E hr ⟨⟨r, n⟩, hp, h, hQ⟩ => ?_)
  obtain ⟨v, v2, rfl, h1, h2⟩ := dvA2 h
  refine bl_ret (Gr.z H) (P := Pd K (rowD (rowOf r n))) (ev_if (et_gt (ev_nm 1 h2) ev_int) (fun z => ?_) (fun z => ?_)) (fun v H1 g p => hQ v H1 g p)
  · have hn : 0 < n := by have := of_decide_eq_true z; omega
    unfold rowOf
    rw [if_pos hn]
    exact ev_tup (ea_cons (ev_tup (ea_cons (ev_nm 0 h1) (ea_cons ev_int (ea_cons (ev_nm 1 h2) ea_nil))) (by simp)) ea_nil) (by simp)
  · have hn : ¬ 0 < n := by have := of_decide_eq_false z; omega
    unfold rowOf
    rw [if_neg hn]
    exact ev_tup ea_nil (by simp)
theorem sc_part_in : FnScope ["row", "first", "stop", "found", "at", "source", "begin", "many", "low", "high"] ["row", "first", "stop"] (defScope st_part_in) := ⟨rfl, rfl, rfl, by decide +kernel, rfl, by decide +kernel, by decide +kernel⟩
theorem ok_part_in (T : Txt w K mg) : C8.Cal P w K mg base 1 "part_in" (spD K (fun r : List Pc × Nat × Nat => [rowD r.1, .int r.2.1, .int r.2.2]) (fun r => rowD (partF r.1 0 r.2.1 r.2.2)) (fun r => r.1.length ≤ 10000)) [] := by
  refine fn_ok T 18 rfl sc_part_in (fun _ _ _ _ _ _ us hl => match us, hl with | [_, _, _], _ => rfl) (fun vs H Q E ⟨_, _, h, _⟩ => h.length) (fun f cdv A outer s H vs Q E hr ⟨⟨r, n, m⟩, hp, h, hQ⟩ => ?_)
  obtain ⟨v, v2, v3, rfl, h1, h2, h3⟩ := dvA3 h
  have nd := sc_part_in.nd
  obtain rfl := dv_int h2
  obtain rfl := dv_int h3
  obtain ⟨a, xs, rfl, hs, ha⟩ := dv_tup h1
  have hr0 : r.length ≤ 10000 := hp
  refine bl_par (i := 3) (j := 4) (Gr.z H) (eg_cons (P := PL K []) (Ps := [Pd K (.int 0)]) stb_l (by intro P hP; cases List.mem_singleton.mp hP; exact stb_d) (ev_lst ea_nil (by simp)) (eg_cons stb_d (by simp) ev_int eg_nil)) (fun vs H1 g1 pa => ?_) rfl nd
  obtain ⟨w1, ws, rfl, ⟨l, us, rfl, hl0, hl, hz⟩, w2, ws2, rfl, p2, rfl⟩ := pa
  cases hz
  obtain rfl := dv_int p2
  refine ⟨_, _, rfl, ?_⟩
  refine bl_forT (gt := gTup K 3 (gCons (gName 5) (gCons (gName 6) (gCons (gName 7) gNil)))) g1.r rfl rfl (pg_tup rfl (pgs_cons (pg_name nd rfl (Or.inl rfl)) (pgs_cons (pg_name nd rfl (Or.inl rfl)) (pgs_cons (pg_name nd rfl (Or.inl rfl)) pgs_nil)))) (ev_nmV 0) (fun v H2 g2 e => ?_)
  obtain rfl := e
  refine ⟨a, xs, rfl, fun i σ' H' => ∃ (va : V) (o1 o2 o3 o4 o5 : Option V) (us : List V), σ' = [some (.ref a), some (.int n), some (.int m), some (.ref l), some va, o1, o2, o3, o4, o5] ∧ va = .int (lenF (r.take i) : Nat) ∧ Gr M0 H H' ∧ H' l = some (.lst us) ∧ DvA K H' us ((partF (r.take i) 0 n m).map Pc.d),
    ⟨_, _, _, _, _, _, [], rfl, rfl, g1.t g2, g2.k l _ (fun z => z) hl, by simp [partF]; exact .nil⟩, fun i σ' H' _ ⟨_, _, _, _, _, _, _, _, _, g3, _⟩ => g3.tup hs, ?_, ?_⟩
  · rintro i x σ' H' hx ⟨va, o1, o2, o3, o4, o5, us, rfl, rfl, g3, hl3, hz3⟩
    obtain ⟨d, e, hd⟩ := ha.get' hx
    obtain ⟨p, hp1, rfl⟩ := row_at e
    have et := take_snoc hp1
    have el : (partF (r.take i) 0 n m).length ≤ 10000 := by
      have h1 := partF_len n m (r.take i) 0
      have h2 : (r.take i).length ≤ r.length := List.length_take_le' _ _
      omega
    have ef : partF (r.take (i + 1)) 0 n m = partF (r.take i) 0 n m ++ (if n - lenF (r.take i) < min (m - lenF (r.take i)) p.n then [⟨p.so, p.a + (n - lenF (r.take i)), min (m - lenF (r.take i)) p.n - (n - lenF (r.take i))⟩] else []) := by
      rw [et, partF_app]
      congr 1
      simp [partF]
    have eL : lenF (r.take (i + 1)) = lenF (r.take i) + p.n := by
      rw [et, lenF_app]
      simp [lenF]
    refine gt_3 (hd.g g3) fun v1 v2 v3 k1 k2 k3 => ?_
    obtain rfl := dv_int k2
    obtain rfl := dv_int k3
    refine bl_par (i := 8) (j := 9) g3.r (ea_ii (ev_max2 rfl T.f_max (ea_ii (ev_sub (ev_nm 1 (.int _)) (ev_nm 4 (.int _))) ev_int)) (ev_min2 rfl T.f_min (ea_ii (ev_sub (ev_nm 2 (.int _)) (ev_nm 4 (.int _))) (ev_nm 7 (.int _))))) (fun vs H4 g4 pa => ?_) rfl nd
    obtain rfl := dvA_ii pa
    refine ⟨_, _, rfl, ?_⟩
    refine bl_when g4.r (et_lt (ev_nm 8 (.int _)) (ev_nm 9 (.int _))) (fun z H5 g5 => ?_) (fun z H5 g5 => ?_)
    · have hlt := of_decide_eq_true z.symm
      have hl5 : H5 l = some (.lst us) := g5.k l _ (fun z => z) (g4.k l _ (fun z => z) hl3)
      have g35 := g4.t g5
      refine bl_app g5.r (i := 3) rfl hl5 (fun z => z) (by rw [hz3.length, List.length_map]; omega) (ev_tup (ea_cons (ev_nm 5 (k1.g g35)) (ea_cons (ev_add (ev_nm 6 (.int _)) (ev_nm 8 (.int _))) (ea_cons (ev_sub (ev_nm 9 (.int _)) (ev_nm 8 (.int _))) ea_nil))) (by simp)) (fun v H6 g6 hv hl6 => bl_nil (bl_aug (i := 4) (Gr.z _) rfl (ev_nm 7 (.int _)) (fun H7 g7 => bl_nil ?_) nd))
      refine ⟨_, _, _, _, _, _, us ++ [v], rfl, ?_, (((g3.t g35).t g6).mut hl0).t g7, ?_, ?_⟩
      · rw [eL]
        exact congrArg V.int (by omega)
      · exact g7.k l _ (fun z => z) upd_same
      · rw [ef, if_pos (by omega), List.map_append]
        refine DvA.g (((hz3.g (g35.t g6)).app (.one ?_)).st hl6) g7
        have e1 : (p.a : Int) + max ((n : Int) - (lenF (r.take i) : Nat)) 0 = ((p.a + (n - lenF (r.take i)) : Nat) : Int) := by omega
        have e2 : min ((m : Int) - (lenF (r.take i) : Nat)) (p.n : Int) - max ((n : Int) - (lenF (r.take i) : Nat)) 0 = ((min (m - lenF (r.take i)) p.n - (n - lenF (r.take i)) : Nat) : Int) := by omega
        have hv2 : Dv K H6 v (.tuple [p.so.d, .int ((p.a : Int) + max ((n : Int) - (lenF (r.take i) : Nat)) 0), .int (min ((m : Int) - (lenF (r.take i) : Nat)) (p.n : Int) - max ((n : Int) - (lenF (r.take i) : Nat)) 0)]) := hv
        rw [e1, e2] at hv2
        exact hv2
    · have hge := of_decide_eq_false z.symm
      refine bl_aug (i := 4) g5.r rfl (ev_nm 7 (.int _)) (fun H7 g7 => bl_nil ?_) nd
      refine ⟨_, _, _, _, _, _, us, rfl, ?_, ((g3.t g4).t g5).t g7, g7.k l _ (fun z => z) (g5.k l _ (fun z => z) (g4.k l _ (fun z => z) hl3)), ?_⟩
      · rw [eL]
        exact congrArg V.int (by omega)
      · rw [ef, if_neg (by omega), List.append_nil]
        exact hz3.g ((g4.t g5).t g7)
  · rintro σ' H' ⟨va, o1, o2, o3, o4, o5, us, rfl, rfl, g3, hl3, hz3⟩
    have hxl : xs.length = r.length := by rw [ha.length, List.length_map]
    rw [hxl, List.take_length] at hz3
    exact bl_ret g3.r (ev_tupL T.f_tuple (ev_nmL 3 hl3 (fun z => z) hz3)) (fun v H4 g4 p => hQ v H4 (g3.t g4) p)
end
end SR
set_option Elab.async false
set_option linter.all false
set_option maxRecDepth 100000
set_option maxHeartbeats 2000000
/-! [y for x in xs for y in x]; lists beside [] -/
namespace SR
open PySem PySem.Spec PyProof.Rows L2
section
variable {M : Addr → Prop} {X : Cx} {σ : L2.St} {H : Hp} {a b c e elt tg iter : Expr} {pos p : Pos} {P : PV} {ds : List PyData}
theorem flat_snoc {α : Type} {l : List (List α)} {i : Nat} {x : List α} (h : l[i]? = some x) : (l.take (i + 1)).flatten = (l.take i).flatten ++ x := by
  rw [List.take_add_one, h]
  simp
theorem ev_flat {scope : Scope} {ia ib : Nat} {x y : Str} {q1 q2 q3 q4 : Pos} {dss : List (List PyData)} (hc : X.calm = true) (hN : X.N.Nodup) (ok : BlkOk X.N X.env.scope scope [(x, ia), (y, ib)]) (hi : EvI M X.K (wI X (.Name x q1) iter) σ H (dss.map .tuple)) (hl : dss.flatten.length ≤ 100000) (hab : ia ≠ ib)
    (ha : X.N[ia]? = some x) (hb : X.N[ib]? = some y) (ha2 : ia < σ.length) (hb2 : ib < σ.length)
    (pg : ∀ (s : Shared) (H0 : Hp) (C : Addr) (cl : List (Str × Addr)) (fp : List Addr), PG (X.blk s H0 scope (compEnvC scope cl C X.env) fp) (.Name x q1) (gName ia))
    (pg1 : ∀ (s : Shared) (H0 : Hp) (C : Addr) (cl : List (Str × Addr)) (fp : List Addr), PG (X.blk s H0 scope (compEnvC scope cl C X.env) fp) (.Name y q2) (gName ib))
    (pe1 : ∀ (s : Shared) (H0 : Hp) (C : Addr) (cl : List (Str × Addr)) (fp : List Addr), PE (X.blk s H0 scope (compEnvC scope cl C X.env) fp) (.Name x q3) (tVar ia))
    (pe2 : ∀ (s : Shared) (H0 : Hp) (C : Addr) (cl : List (Str × Addr)) (fp : List Addr), PE (X.blk s H0 scope (compEnvC scope cl C X.env) fp) (.Name y q4) (tVar ib))
    (hs : ∀ x, foldedSetIterable iter X.env x = pure x := by exact fun _ => rfl) : Ev M (wE X (.ListComp (.Name y q4) [⟨.Name x q1, iter, [], 0⟩, ⟨.Name y q2, .Name x q3, [], 0⟩] scope pos)) σ H (PL X.K dss.flatten) :=
  fun H1 g Q q => of_pe (pe_lc2 (vs1 := [ib]) (wi1 := iTup X.K (tVar ia)) (g := gName ia) (g1 := gName ib) (tt := tYes) (tt1 := tYes) (te := tVar ib) hc hN e_pi ok (by simp) pg (fun _ _ _ _ _ => pts_nil) (fun s H0 C cl fp => pi_tup (pe1 s H0 C cl fp)) pg1 (fun _ _ _ _ _ => pts_nil) pe2 hs) (hi H1 g _ fun J H2 g2 ⟨G, Y, w, hG, hst, hy⟩ D hD => by
    have hw : ∀ v : V, ((wipe σ [ia, ib]).set ia (some v))[ia]? = some (some v) := fun v => List.getElem?_set_self (by rw [wipe_length]; exact ha2)
    have wp : ∀ v : V, wipe ((wipe σ [ia, ib]).set ia (some v)) [ia, ib] = wipe σ [ia, ib] := fun v => by
      show (List.set (List.set (List.set (List.set (List.set σ ib none) ia none) ia (some v)) ib none) ia none) = (List.set (List.set σ ib none) ia none)
      apply List.ext_getElem?
      intro k
      simp only [List.getElem?_set, List.length_set]
      repeat' split
      all_goals simp_all
    have wp1 : ∀ v u : V, wipe ((wipe ((wipe σ [ia, ib]).set ia (some v)) [ib]).set ib (some u)) [ib] = wipe ((wipe σ [ia, ib]).set ia (some v)) [ib] := fun v u => by
      show (List.set (List.set (List.set ((wipe σ [ia, ib]).set ia (some v)) ib none) ib (some u)) ib none) = (List.set ((wipe σ [ia, ib]).set ia (some v)) ib none)
      rw [List.set_set, List.set_set]
    have hw1 : ∀ v u : V, ((wipe ((wipe σ [ia, ib]).set ia (some v)) [ib]).set ib (some u))[ib]? = some (some u) := fun v u => List.getElem?_set_self (by rw [wipe_length, List.length_set, wipe_length]; exact hb2)
    refine ⟨fun i m Hn => m = dss.length - i ∧ i ≤ dss.length ∧ Gr M H2 Hn ∧ ∃ vs, Hn D = some (.lst vs) ∧ DvA X.K Hn vs (dss.take i).flatten, ⟨dss.length, by simp, Nat.zero_le _, g2.r.new hD, [], upd_same, by simp; exact .nil⟩, ?_⟩
    rintro i m Hn ⟨rfl, hin, g3, vs, hv, hz⟩
    have hnl : (dss.map PyData.tuple).length = dss.length := by simp
    by_cases hlt : i < dss.length
    · refine .inr ⟨w.goes i Hn (by rw [hnl]; exact hlt) (hst Hn g3), fun H' => i + 1 ≤ dss.length ∧ Gr M H2 H' ∧ ∃ vs, H' D = some (.lst vs) ∧ DvA X.K H' vs (dss.take (i + 1)).flatten, fun H' p' => ⟨dss.length - (i + 1), by omega, rfl, p'⟩, fun x Hb y0 => ?_⟩
      obtain ⟨g4, d, ed, hd⟩ := hy i Hn x Hb g3 (w.yields i Hn x Hb (by rw [hnl]; exact hlt) (hst Hn g3) y0) (by rw [hnl]; exact hlt)
      obtain ⟨es, hes, rfl⟩ : ∃ es, dss[i]? = some es ∧ d = .tuple es := by
        rw [List.getElem?_map] at ed
        cases z : dss[i]? with
        | none =>
          rw [z] at ed
          cases ed
        | some es =>
          rw [z] at ed
          exact ⟨es, rfl, (Option.some.inj ed).symm⟩
      obtain ⟨t, xs, rfl, hx, hxs⟩ := dv_tup hd
      refine ⟨wp _, lc_yes ⟨_, hw _, t, rfl, ⟨xs, hx⟩, ?_⟩⟩
      have nmD : ¬ M D := g2.nm' hD
      have hv4 : Hb D = some (.lst vs) := g4.k D _ nmD hv
      have hxl : xs.length = es.length := hxs.length
      have hfl : (dss.take i).flatten.length + es.length ≤ 100000 := by
        have e1 := flat_snoc hes
        have e2 : (dss.take (i + 1)).flatten.length ≤ dss.flatten.length := by
          have e3 : dss = dss.take (i + 1) ++ dss.drop (i + 1) := (List.take_append_drop _ _).symm
          have e4 : dss.flatten.length = (dss.take (i + 1)).flatten.length + (dss.drop (i + 1)).flatten.length := by
            conv => lhs; rw [e3]
            rw [List.flatten_append, List.length_append]
          omega
        rw [e1, List.length_append] at e2
        omega
      refine ⟨fun j k H' => k = es.length - j ∧ j ≤ es.length ∧ (SqT X.K H' t xs ∧ DvA X.K H' xs es) ∧ Gr M H2 H' ∧ ∃ us, H' D = some (.lst us) ∧ DvA X.K H' us ((dss.take i).flatten ++ es.take j), ⟨es.length, by simp, Nat.zero_le _, ⟨hx, hxs⟩, g3.t g4, vs, hv4, by simp; exact hz.g g4⟩, ?_⟩
      rintro j k H' ⟨rfl, hj, ⟨hxt, hxz⟩, g6, us, hu, hzu⟩
      by_cases hjl : j < es.length
      · have hjx : j < xs.length := by omega
        refine .inr ⟨⟨xs, xs[j], hxt, by simp [hjx]⟩, fun H'' => j + 1 ≤ es.length ∧ (SqT X.K H'' t xs ∧ DvA X.K H'' xs es) ∧ Gr M H2 H'' ∧ ∃ us, H'' D = some (.lst us) ∧ DvA X.K H'' us ((dss.take i).flatten ++ es.take (j + 1)), fun H'' p'' => ⟨es.length - (j + 1), by omega, rfl, p''⟩, fun v H'' y1 => ?_⟩
        obtain ⟨rfl, hat⟩ := y1
        obtain ⟨d, hd1, hd2⟩ := hxz.get' (hat xs hxt)
        refine ⟨wp1 _ _, lc_yes ⟨_, hw1 _ _, us, hu, ?_, by omega, ⟨tup_upd hu (fun _ z => nomatch z) (fun _ _ z => nomatch z) hxt, hxz.st hu⟩, g6.mut hD, us ++ [v], upd_same, ?_⟩⟩
        · rw [hzu.length, List.length_append, List.length_take]
          exact Nat.lt_of_lt_of_le (show (dss.take i).flatten.length + min j es.length < 100001 by omega) (by decide)
        · rw [List.take_add_one, hd1, Option.toList_some, ← List.append_assoc]
          exact (hzu.app (.one hd2)).st hu
      · have e : j = es.length := by omega
        subst e
        refine .inl ⟨⟨xs, hxt, by omega⟩, by omega, g6, us, hu, ?_⟩
        rw [List.take_length] at hzu
        rw [flat_snoc hes]
        exact hzu
    · have e : i = dss.length := by omega
      subst e
      refine .inl ⟨?_, ?_⟩
      · have := w.stops Hn (hst Hn g3)
        rw [hnl] at this
        exact this
      · rw [List.take_length] at hz
        exact q _ _ (g2.t g3) ⟨D, vs, rfl, g2.back hD, hv, hz⟩)
/-! a list beside [] -/
theorem cv_neNil {ds : List PyData} (hu : X.A.units + 64 < cLine) (hd : ∀ d ∈ ds, Gd d) : Cv M X .NotEq (PLm M X.K ds) (PL X.K []) (!ds.isEmpty) := ⟨_, op_neD hu, fun v u H1 H2 H3 g1 p1 g2 p2 Q q => by
  obtain ⟨a, vs, rfl, hm, h, z⟩ := p1
  obtain ⟨b, us, rfl, _, h2, z2⟩ := p2
  cases z2
  refine ⟨.list ds, .list [], .lst (.inl (.inl (g2.k a _ hm h))) (DvA.dp _ _ (z.g g2)), .lst (.inl (.inl h2)) .nil, ?_, by decide +kernel, ?_⟩
  · unfold SeqAt.shaped
    have e1 : (PyData.list ds).canLay0 = true := by
      rw [PyData.canLay0]
      exact layAll fun d h => (hd d h).c
    have e2 : (PyData.list ds).depth ≤ 9 := by
      rw [PyData.depth]
      have := depAll fun d h => (hd d h).h
      omega
    rw [e1, decide_eq_true (Nat.le_trans e2 (by decide))]
    rfl
  · cases ds with
    | nil => exact q
    | cons d ds => exact q⟩
theorem et_neNil {ds : List PyData} (hu : X.A.units + 64 < cLine) (hd : ∀ d ∈ ds, Gd d) (h1 : Ev M (wE X a) σ H (PLm M X.K ds)) (h2 : Ev M (wE X b) σ H (PL X.K [])) : EvT M (wT X (.Compare a [.NotEq] [b] pos)) σ H (· = !ds.isEmpty) := et_cv (cv_neNil hu hd) h1 h2 (nomark _)
theorem cv_eqNil {ds : List PyData} (hu : X.A.units + 64 < cLine) (hd : ∀ d ∈ ds, Gd d) : Cv M X .Eq (PLm M X.K ds) (PL X.K []) ds.isEmpty := ⟨_, op_eqD hu, fun v u H1 H2 H3 g1 p1 g2 p2 Q q => by
  obtain ⟨a, vs, rfl, hm, h, z⟩ := p1
  obtain ⟨b, us, rfl, _, h2, z2⟩ := p2
  cases z2
  refine ⟨.list ds, .list [], .lst (.inl (.inl (g2.k a _ hm h))) (DvA.dp _ _ (z.g g2)), .lst (.inl (.inl h2)) .nil, ?_, by decide +kernel, ?_⟩
  · unfold SeqAt.shaped
    have e1 : (PyData.list ds).canLay0 = true := by
      rw [PyData.canLay0]
      exact layAll fun d h => (hd d h).c
    have e2 : (PyData.list ds).depth ≤ 9 := by
      rw [PyData.depth]
      have := depAll fun d h => (hd d h).h
      omega
    rw [e1, decide_eq_true (Nat.le_trans e2 (by decide))]
    rfl
  · cases ds with
    | nil => exact q
    | cons d ds => exact q⟩
theorem ev_eqNil {ds : List PyData} (hu : X.A.units + 64 < cLine) (hd : ∀ d ∈ ds, Gd d) (h1 : Ev M (wE X a) σ H (PLm M X.K ds)) (h2 : Ev M (wE X b) σ H (PL X.K [])) : Ev M (wE X (.Compare a [.Eq] [b] pos)) σ H (Pd X.K (.bool ds.isEmpty)) := ev_cv (cv_eqNil hu hd) h1 h2 (nomark _)
end
end SR
set_option Elab.async false
set_option linter.all false
set_option maxRecDepth 100000
set_option maxHeartbeats 4000000
/-! read.marks: rows joined, origins -/
namespace SR
open PySem PySem.Spec PyProof.Rows L2
theorem joinStep_snoc {acc : List Pc} {p q : Pc} : joinStep (acc ++ [q]) p = if goes q p = true then acc ++ [⟨p.so, q.a, q.n + p.n⟩] else acc ++ [q] ++ [p] := by
  unfold joinStep
  rw [List.getLast?_concat, List.dropLast_concat]
theorem joinF_snoc (ps : List Pc) (p : Pc) : joinF (ps ++ [p]) = joinStep (joinF ps) p := by
  unfold joinF
  rw [List.foldl_append]
  rfl
theorem goes_iff {p q : Pc} : goes p q = true ↔ q.so = p.so ∧ q.a = p.a + p.n := by
  unfold goes
  rw [Bool.and_eq_true, decide_eq_true_eq, decide_eq_true_eq]
theorem joinStep_ok {acc : List Pc} {p : Pc} (h : ∀ q ∈ acc, q.ok) (hp : p.ok) : ∀ q ∈ joinStep acc p, q.ok := by
  rcases List.eq_nil_or_concat acc with rfl | ⟨ac, q, rfl⟩
  · intro q hq
    have : q = p := List.mem_singleton.mp hq
    rw [this]
    exact hp
  · rw [List.concat_eq_append] at h ⊢
    rw [joinStep_snoc]
    have hq : q.ok := h q (by simp)
    split
    · rename_i hg
      obtain ⟨g1, g2⟩ := goes_iff.mp hg
      intro x hx
      rcases List.mem_append.mp hx with hx | hx
      · exact h x (by simp [hx])
      · obtain rfl := List.mem_singleton.mp hx
        refine ⟨hp.1, ?_, ?_⟩
        · show 1 ≤ q.n + p.n
          have := hp.2.1
          omega
        · show q.a + (q.n + p.n) ≤ 100000
          have := hp.2.2
          omega
    · intro x hx
      rcases List.mem_append.mp hx with hx | hx
      · exact h x hx
      · obtain rfl := List.mem_singleton.mp hx
        exact hp
theorem joinF_ok : ∀ (n : Nat) {ps : List Pc}, ps.length = n → (∀ q ∈ ps, q.ok) → ∀ q ∈ joinF ps, q.ok
  | 0, ps, hl, h => by
    rw [List.length_eq_zero_iff.mp hl]
    intro q hq
    cases hq
  | n + 1, ps, hl, h => by
    rcases List.eq_nil_or_concat ps with rfl | ⟨ac, q, rfl⟩
    · cases hl
    · rw [List.concat_eq_append] at hl h ⊢
      rw [joinF_snoc]
      exact joinStep_ok (joinF_ok n (by simpa using hl) fun x hx => h x (by simp [hx])) (h q (by simp))
theorem joinStep_len (acc : List Pc) (p : Pc) : (joinStep acc p).length ≤ acc.length + 1 := by
  rcases List.eq_nil_or_concat acc with rfl | ⟨ac, q, rfl⟩
  · exact Nat.le_refl _
  · rw [List.concat_eq_append, joinStep_snoc]
    split <;> simp
theorem joinF_len : ∀ (n : Nat) {ps : List Pc}, ps.length = n → (joinF ps).length ≤ n
  | 0, ps, hl => by
    rw [List.length_eq_zero_iff.mp hl]
    exact Nat.le_refl _
  | n + 1, ps, hl => by
    rcases List.eq_nil_or_concat ps with rfl | ⟨ac, q, rfl⟩
    · cases hl
    · rw [List.concat_eq_append] at hl ⊢
      rw [joinF_snoc]
      have h1 := joinF_len n (ps := ac) (by simpa using hl)
      have h2 := joinStep_len (joinF ac) q
      omega
theorem Pc.gd {p : Pc} (h : p.ok) : Gd p.d := by
  have h1 := So.lay h.1
  refine ⟨lay_tup fun d hd => ?_, Nat.le_trans (dep_tup (n := 2) fun d hd => ?_) (by decide)⟩
  · simp only [List.mem_cons, List.not_mem_nil, or_false] at hd
    rcases hd with rfl | rfl | rfl
    · exact h1.1
    · exact (gd_int _).c
    · exact (gd_int _).c
  · simp only [List.mem_cons, List.not_mem_nil, or_false] at hd
    rcases hd with rfl | rfl | rfl
    · exact h1.2
    · simp [PyData.depth]
    · simp [PyData.depth]
section
variable {P : Program} {w : World} {K : PySem.W.Frag} {mg : Str → Option Value} {base : Heap}
/-- rows in a list -/
def spJoin (K : PySem.W.Frag) : Sp := fun vs H Q _ => ∃ (a : Addr) (us : List V) (rs : List (List Pc)), vs = [.ref a] ∧ H a = some (.lst us) ∧ DvA K H us (rs.map rowD) ∧ rs.flatten.length ≤ 10000 ∧ (∀ p ∈ rs.flatten, p.ok) ∧
  ∀ v H', Gr M0 H H' → Dv K H' v (rowD (joinF rs.flatten)) → Q v H'
theorem sc_joined_in : FnScope ["rows", "found", "piece", "row"] ["rows"] (defScope st_joined_in) := ⟨rfl, rfl, rfl, by decide +kernel, rfl, by decide +kernel, by decide +kernel⟩
theorem ok_joined_in (T : Txt w K mg) : C8.Cal P w K mg base 2 "joined_in" (spJoin K) [] := by
  refine fn_ok T 19 rfl sc_joined_in (fun _ _ _ _ _ _ us hl => match us, hl with | [_], _ => rfl) (fun vs H Q E ⟨_, _, _, h, _⟩ => by rw [h]; rfl) (fun f cdv A outer s H vs Q E hr ⟨a, us0, rs, hv, hA, hzA, hlen, hok, hQ⟩ => ?_)
  subst hv
  have nd := sc_joined_in.nd
  generalize hps : rs.flatten = ps at hlen hok hQ
  refine bl_set (i := 1) (Gr.z H) (ev_lst ea_nil (by simp)) (fun v H1 g1 ⟨l, us, ev, hl0, hl, hz⟩ => ?_) nd
  subst ev
  cases hz
  have hal : a ≠ l := ne_of_none hA hl0
  have hdss : (rs.map fun r => r.map Pc.d).flatten = ps.map Pc.d := by rw [← hps, List.map_flatten]
  refine bl_forL (gt := gName 2) (P := PL K (ps.map Pc.d)) g1.r rfl rfl (pg_name nd rfl (Or.inl rfl)) ?_ (fun v H2 g2 ⟨ln, xs, ev, hn0, hln, hzx⟩ => ?_)
  · rw [← hdss]
    refine ev_flat (ia := 3) (ib := 2) rfl nd (blkOk_by (sc := defScope st_joined_in) (N := ["rows", "found", "piece", "row"]) (by decide +kernel)) (ei_list ?_) (by rw [hdss, List.length_map]; omega) (by decide) rfl rfl (by show 3 < 4; decide) (by show 2 < 4; decide) (fun _ _ _ _ _ => pg_name nd rfl (Or.inl rfl)) (fun _ _ _ _ _ => pg_name nd rfl (Or.inl rfl)) (fun _ _ _ _ _ => pv 3) (fun _ _ _ _ _ => pv 2)
    rw [show (rs.map fun r => r.map Pc.d).map PyData.tuple = rs.map rowD by rw [List.map_map]; rfl]
    exact ev_nmLm 0 (g1.k a _ (fun z => z) hA) (fun z => z) (hzA.g g1)
  · subst ev
    have hlnl : l ≠ ln := ne_of_none hl hn0
    refine ⟨ln, xs, rfl, fun i σ' H' => ∃ (o1 o2 : Option V) (us : List V), σ' = [some (.ref a), some (.ref l), o1, o2] ∧ Gr M0 H H' ∧ H' l = some (.lst us) ∧ DvA K H' us ((joinF (ps.take i)).map Pc.d) ∧ H' ln = some (.lst xs) ∧ DvA K H' xs (ps.map Pc.d),
      ⟨_, _, [], rfl, g1.t g2, g2.k l _ (fun z => z) hl, by simp [joinF]; exact .nil, hln, hzx⟩, fun i σ' H' _ ⟨_, _, _, _, _, _, _, h, _⟩ => .inl (.inl h), ?_, ?_⟩
    · rintro i x σ' H' hx ⟨o1, o2, us, rfl, g3, hl3, hz3, hln3, hzx3⟩
      obtain ⟨d, e, hd⟩ := hzx3.get' hx
      obtain ⟨p, hp1, rfl⟩ := row_at e
      have hpok : p.ok := hok p (List.mem_of_getElem? hp1)
      have htl : (ps.take i).length ≤ ps.length := List.length_take_le' _ _
      have hacc := joinF_ok _ rfl (ps := ps.take i) fun q hq => hok q (List.mem_of_mem_take hq)
      have hal2 := joinF_len _ rfl (ps := ps.take i)
      have ej : joinF (ps.take (i + 1)) = joinStep (joinF (ps.take i)) p := by rw [take_snoc hp1, joinF_snoc]
      generalize joinF (ps.take i) = acc at hz3 hacc hal2 ej
      have hul : us.length = acc.length := by rw [hz3.length, List.length_map]
      -- what the turn ends with: the list at l is joinStep acc p
      have fin : ∀ (H4 : Hp) (o1' : Option V) (us' : List V) (v : V) (ac2 : List Pc) (p2 : Pc), Gr M0 H H4 → H4 l = some (.lst us') → DvA K H4 us' (ac2.map Pc.d) → Dv K H4 v p2.d → H4 ln = some (.lst xs) → DvA K H4 xs (ps.map Pc.d) → joinStep acc p = ac2 ++ [p2] →
          (fun σ2 H2 => ∃ (o1 o2 : Option V) (us : List V), σ2 = [some (.ref a), some (.ref l), o1, o2] ∧ Gr M0 H H2 ∧ H2 l = some (.lst us) ∧ DvA K H2 us ((joinF (ps.take (i + 1))).map Pc.d) ∧ H2 ln = some (.lst xs) ∧ DvA K H2 xs (ps.map Pc.d)) [some (.ref a), some (.ref l), o1', o2] (upd H4 l (.lst (us' ++ [v]))) := by
        intro H4 o1' us' v ac2 p2 g4 h4 z4 k4 hn4 x4 e4
        refine ⟨_, _, us' ++ [v], rfl, g4.mut hl0, upd_same, ?_, ?_, x4.st h4⟩
        · rw [ej, e4, List.map_append]
          exact (z4.app (.one k4)).st h4
        · rw [upd_ne hlnl.symm]
          exact hn4
      refine gt_name ?_
      rcases List.eq_nil_or_concat acc with rfl | ⟨ac, q, rfl⟩
      · -- nothing there
        refine bl_when (p := (· = false)) g3.r (et_w (ew_andF (EvT.is (et_neNil (ds := []) (hu64 hr) (by simp) (ev_nmLm 1 hl3 (fun z => z) hz3) (ev_lst ea_nil (by simp))) rfl))) (fun z => nf z) (fun _ H4 g4 => ?_)
        refine bl_app (i := 1) g4.r rfl (g4.k l _ (fun z => z) hl3) (fun z => z) (by rw [hul]; simp) (ev_nm 2 (hd.g g4)) (fun v H5 g5 hv hl5 => bl_nil ?_)
        exact fin H5 _ us v [] p ((g3.t g4).t g5) hl5 (hz3.g (g4.t g5)) hv (g5.k ln _ (fun z => z) (g4.k ln _ (fun z => z) hln3)) (hzx3.g (g4.t g5)) rfl
      · rw [List.concat_eq_append] at hz3 hacc hul ej fin
        have hqok : q.ok := hacc q (by simp)
        have hat : atI ((ac ++ [q]).map Pc.d) (-1) = some q.d := by
          rw [List.map_append]
          exact atI_last _ _
        have hgd : ∀ d ∈ (ac ++ [q]).map Pc.d, Gd d := fun d hd => by
          obtain ⟨x, hx, rfl⟩ := List.mem_map.mp hd
          exact Pc.gd (hacc x hx)
        have hlen2 : us.length < 100000 := by
          rw [hul]
          have : (ac.concat q).length = (ac ++ [q]).length := by rw [List.concat_eq_append]
          omega
        refine bl_when (p := (· = goes q p)) g3.r (et_w (ew_andT (EvT.is (et_neNil (hu64 hr) hgd (ev_nmLm 1 hl3 (fun z => z) hz3) (ev_lst ea_nil (by simp))) (by simp)) (ew_and1 (et_val (ev_callD (ok_goes_on T) hr (by decide) (q, p) ⟨hqok, hpok⟩ (ea_cons (ev_ixM (ev_nmLm 1 hl3 (fun z => z) hz3) (ev_neg ev_int) hat) (ea_cons (ev_nm 2 hd) ea_nil))))))) (fun z H4 g4 => ?_) (fun z H4 g4 => ?_)
        · -- it goes on
          have hl4 := g4.k l _ (fun z => z) hl3
          have hz4 := hz3.g g4
          have hd4 := hd.g g4
          refine bl_set (i := 2) g4.r (ev_tup (ea_cons (ev_ix (ev_nm 2 hd4) ev_int rfl) (ea_cons (ev_ix (ev_ixM (ev_nmLm 1 hl4 (fun z => z) hz4) (ev_neg ev_int) hat) ev_int rfl) (ea_cons (ev_add (ev_ix (ev_ixM (ev_nmLm 1 hl4 (fun z => z) hz4) (ev_neg ev_int) hat) ev_int rfl) (ev_ix (ev_nm 2 hd4) ev_int rfl)) ea_nil))) (by simp)) (fun v H5 g5 hv => ?_) nd
          have hl5 := g5.k l _ (fun z => z) hl4
          have hz5 := hz4.g g5
          have hv5 : Dv K H5 v (Pc.d ⟨p.so, q.a, q.n + p.n⟩) := by
            have : Dv K H5 v (.tuple [p.so.d, .int (q.a : Int), .int ((q.n : Int) + (p.n : Int))]) := hv
            show Dv K H5 v (.tuple [p.so.d, .int (q.a : Int), .int ((q.n + p.n : Nat) : Int)])
            rw [Int.natCast_add]
            exact this
          have hdl := hz5.dropLast
          rw [List.map_append, show (List.map Pc.d ac ++ List.map Pc.d [q]).dropLast = ac.map Pc.d from List.dropLast_concat] at hdl
          obtain ⟨y, hy, _⟩ := hz5.get (i := us.length - 1) (d := q.d) (by rw [hul, List.map_append]; simp)
          refine bl_popL (i := 1) rfl hl5 hy (bl_nil ?_)
          have g6 : Gr M0 H (upd H5 l (.lst us.dropLast)) := ((g3.t g4).t g5).mut hl0
          refine bl_app (i := 1) g6.r rfl upd_same (fun z => z) (by rw [List.length_dropLast]; omega) (ev_nm 2 (hv5.st hl5)) (fun v7 H7 g7 hv7 hl7 => bl_nil ?_)
          refine fin H7 _ us.dropLast v7 ac ⟨p.so, q.a, q.n + p.n⟩ (g6.t g7) hl7 ((hdl.st hl5).g g7) hv7 (g7.k ln _ (fun z => z) ?_) (((hzx3.g (g4.t g5)).st hl5).g g7) ?_
          · rw [upd_ne hlnl.symm]
            exact g5.k ln _ (fun z => z) (g4.k ln _ (fun z => z) hln3)
          · rw [joinStep_snoc, if_pos z.symm]
        · refine bl_app (i := 1) g4.r rfl (g4.k l _ (fun z => z) hl3) (fun z => z) hlen2 (ev_nm 2 (hd.g g4)) (fun v H5 g5 hv hl5 => bl_nil ?_)
          refine fin H5 _ us v (ac ++ [q]) p ((g3.t g4).t g5) hl5 (hz3.g (g4.t g5)) hv (g5.k ln _ (fun z => z) (g4.k ln _ (fun z => z) hln3)) (hzx3.g (g4.t g5)) ?_
          rw [joinStep_snoc, if_neg (by rw [← z]; decide)]
    · rintro σ' H' ⟨o1, o2, us, rfl, g3, hl3, hz3, hln3, hzx3⟩
      have hxl : xs.length = ps.length := by rw [hzx.length, List.length_map]
      rw [hxl, List.take_length] at hz3
      exact bl_ret g3.r (ev_tupL T.f_tuple (ev_nmL 1 hl3 (fun z => z) hz3)) (fun v H4 g4 p => hQ v H4 (g3.t g4) p)
end
end SR
set_option Elab.async false
set_option linter.all false
set_option maxRecDepth 100000
set_option maxHeartbeats 2000000
/-! dicts from texts to data -/
namespace SR
open PySem PySem.Spec PyProof.Rows L2

/-- the pairs of a dict -/
def KD (K : PySem.W.Frag) {β : Type} (f : β → PyData) (H : Hp) (kvs : List (Key × V)) (m : List (Str × β)) : Prop := Paired (fun p q => p.1 = Sum.inr q.1 ∧ Dv K H p.2 (f q.2)) kvs m
def DR (K : PySem.W.Frag) {β : Type} (f : β → PyData) (H : Hp) (a : Addr) (m : List (Str × β)) : Prop := ∃ kvs, Rd H a (.dK kvs) ∧ KD K f H kvs m
def DW (K : PySem.W.Frag) {β : Type} (f : β → PyData) (H : Hp) (a : Addr) (m : List (Str × β)) : Prop := ∃ kvs, H a = some (.dK kvs) ∧ KD K f H kvs m
section
variable {K : PySem.W.Frag} {β : Type} {f : β → PyData} {M : Addr → Prop} {H H' : Hp} {kvs : List (Key × V)} {m : List (Str × β)} {n : Str} {a p : Addr}
theorem KD.imp (h : KD K f H kvs m) (k : ∀ v d, Dv K H v d → Dv K H' v d) : KD K f H' kvs m := by
  unfold KD at h ⊢
  induction h with
  | nil => exact .nil
  | cons h _ ih => exact .cons ⟨h.1, k _ _ h.2⟩ ih
theorem KD.g (h : KD K f H kvs m) (g : Gr M H H') : KD K f H' kvs m := h.imp fun _ _ z => z.g g
theorem KD.sd {xs : List (Key × V)} {u : HO} (h : KD K f H kvs m) (hp : H p = some (.dK xs)) : KD K f (upd H p u) kvs m := h.imp fun _ _ z => z.sd hp
theorem KD.st {xs : List V} {u : HO} (h : KD K f H kvs m) (hp : H p = some (.lst xs)) : KD K f (upd H p u) kvs m := h.imp fun _ _ z => z.st hp
theorem KD.sn {u : HO} (h : KD K f H kvs m) (hp : H p = none) : KD K f (upd H p u) kvs m := h.imp fun _ _ z => z.sn hp
theorem KD.length (h : KD K f H kvs m) : kvs.length = m.length := Paired.length h
theorem KD.keys (h : KD K f H kvs m) : kvs.map (·.1) = (m.map (·.1)).map Sum.inr := by
  unfold KD at h
  induction h with
  | nil => rfl
  | cons h _ ih => rw [List.map_cons, List.map_cons, List.map_cons, ih, h.1]
theorem KD.at (h : KD K f H kvs m) {i : Nat} {q : Str × β} (e : m[i]? = some q) : ∃ v, kvs[i]? = some (Sum.inr q.1, v) ∧ Dv K H v (f q.2) := by
  unfold KD at h
  induction h generalizing i with
  | nil => simp at e
  | @cons x y xs ys h _ ih =>
    cases i with
    | zero =>
      simp at e
      subst e
      exact ⟨x.2, by simp; rw [← h.1], h.2⟩
    | succ i => simpa using ih (i := i) (by simpa using e)
theorem KD.get (h : KD K f H kvs m) (n : Str) : (∃ v b, valV kvs (Sum.inr n) = some v ∧ trGet m n = some b ∧ Dv K H v (f b)) ∨ (valV kvs (Sum.inr n) = none ∧ trGet m n = none) := by
  unfold KD at h
  induction h with
  | nil => exact .inr ⟨rfl, rfl⟩
  | @cons x y xs ys h _ ih =>
    by_cases e : y.1 = n
    · refine .inl ⟨x.2, y.2, valV_pos (by rw [h.1, e]), ?_, h.2⟩
      unfold trGet
      rw [List.find?_cons_of_pos (by simpa using e)]
      rfl
    · have e1 : ¬ x.1 = Sum.inr n := fun z => e (Sum.inr.inj (h.1.symm.trans z))
      rw [valV_neg e1]
      have e2 : trGet (y :: ys) n = trGet ys n := by
        unfold trGet
        rw [List.find?_cons_of_neg (by simpa using e)]
      rw [e2]
      exact ih
theorem KD.some (h : KD K f H kvs m) {b : β} (e : trGet m n = some b) : ∃ v, valV kvs (Sum.inr n) = some v ∧ Dv K H v (f b) := by
  rcases h.get n with ⟨v, b', h1, h2, h3⟩ | ⟨_, h2⟩
  · rw [h2] at e
    cases e
    exact ⟨v, h1, h3⟩
  · rw [h2] at e
    cases e
theorem KD.none (h : KD K f H kvs m) (e : trGet m n = none) : valV kvs (Sum.inr n) = none := by
  rcases h.get n with ⟨v, b', h1, h2, h3⟩ | ⟨h1, h2⟩
  · rw [h2] at e
    cases e
  · exact h1
theorem KD.isSome (h : KD K f H kvs m) (n : Str) : (valV kvs (Sum.inr n)).isSome = (trGet m n).isSome := by
  rcases h.get n with ⟨v, b', h1, h2, h3⟩ | ⟨h1, h2⟩ <;> rw [h1, h2] <;> rfl
theorem KD.app {kvs' : List (Key × V)} {m' : List (Str × β)} (h : KD K f H kvs m) (h' : KD K f H kvs' m') : KD K f H (kvs ++ kvs') (m ++ m') := by
  unfold KD at h
  induction h with
  | nil => exact h'
  | cons h _ ih => exact .cons h ih
theorem KD.one {v : V} {b : β} (h : Dv K H v (f b)) : KD K f H [(Sum.inr n, v)] [(n, b)] := .cons ⟨rfl, h⟩ .nil
theorem trPut_none {κ : Type} [DecidableEq κ] {m : List (κ × β)} {n : κ} {b : β} (e : trGet m n = none) : trPut m n b = m ++ [(n, b)] := by
  unfold trPut
  rw [if_neg]
  intro z
  obtain ⟨q, hq, e2⟩ := List.any_eq_true.mp z
  unfold trGet at e
  cases z2 : m.find? (fun q => decide (q.1 = n)) with
  | none =>
    have := List.find?_eq_none.mp z2 q hq
    exact this e2
  | some y =>
    rw [z2] at e
    cases e
theorem any_of_get {κ : Type} [DecidableEq κ] {m : List (κ × β)} {n : κ} : (m.any fun q => decide (q.1 = n)) = (trGet m n).isSome := by
  induction m with
  | nil => rfl
  | cons q m ih =>
    rw [List.any_cons, ih]
    unfold trGet
    by_cases e : q.1 = n
    · rw [List.find?_cons_of_pos (by simpa using e), decide_eq_true e]
      rfl
    · rw [List.find?_cons_of_neg (by simpa using e), decide_eq_false e, Bool.false_or]
theorem KD.put (h : KD K f H kvs m) {v : V} {b : β} (hv : Dv K H v (f b)) : KD K f H (putK kvs (Sum.inr n) v) (trPut m n b) := by
  unfold putK trPut
  have e : (kvs.any fun kv => decide (kv.1 = Sum.inr n)) = (m.any fun q => decide (q.1 = n)) := by rw [valV_any, any_of_get, h.isSome]
  rw [e]
  by_cases z : (m.any fun q => decide (q.1 = n)) = true
  · rw [if_pos z, if_pos z]
    clear e z
    unfold KD at h ⊢
    induction h with
    | nil => exact .nil
    | @cons x y xs ys h _ ih =>
      refine .cons ?_ ih
      by_cases e : y.1 = n
      · have e1 : x.1 = Sum.inr n := by rw [h.1, e]
        simp only [if_pos e, if_pos e1]
        exact ⟨h.1, hv⟩
      · have e1 : ¬ x.1 = Sum.inr n := fun z => e (Sum.inr.inj (h.1.symm.trans z))
        simp only [if_neg e, if_neg e1]
        exact h
  · rw [if_neg z, if_neg z]
    exact h.app (.one hv)
theorem KD.drop (h : KD K f H kvs m) (n : Str) : KD K f H (dropK kvs (Sum.inr n)) (trDrop m n) := by
  unfold KD dropK trDrop at *
  induction h with
  | nil => exact .nil
  | @cons x y xs ys h _ ih =>
    by_cases e : y.1 = n
    · have e1 : x.1 = Sum.inr n := by rw [h.1, e]
      rw [List.filter_cons_of_neg (by simpa using e1), List.filter_cons_of_neg (by simpa using e)]
      exact ih
    · have e1 : ¬ x.1 = Sum.inr n := fun z => e (Sum.inr.inj (h.1.symm.trans z))
      rw [List.filter_cons_of_pos (by simpa using e1), List.filter_cons_of_pos (by simpa using e)]
      exact .cons h ih
theorem trDrop_none {κ : Type} [DecidableEq κ] {m : List (κ × β)} {n : κ} (e : trGet m n = none) : trDrop m n = m := by
  unfold trDrop
  refine List.filter_eq_self.mpr fun q hq => ?_
  refine decide_eq_true fun z => ?_
  unfold trGet at e
  cases z2 : m.find? (fun q => decide (q.1 = n)) with
  | none => exact List.find?_eq_none.mp z2 q hq (by simpa using z)
  | some y =>
    rw [z2] at e
    cases e
theorem DR.g (h : DR K f H a m) (g : Gr M H H') : DR K f H' a m := by
  obtain ⟨kvs, h1, h2⟩ := h
  exact ⟨kvs, g.rd h1 (fun _ z => nomatch z), h2.g g⟩
theorem Gr.notD {o : HO} (g : Gr M H H') (h : H a = some o) (ho : ∀ xs, o ≠ .lst xs) : ¬ M a := fun z => by
  obtain ⟨x, y, w, e⟩ := g.a a z
  rw [h] at e
  exact ho _ (Option.some.inj e)
theorem DW.g (h : DW K f H a m) (g : Gr M H H') : DW K f H' a m := by
  obtain ⟨kvs, h1, h2⟩ := h
  exact ⟨kvs, g.k a _ (g.notD h1 fun _ z => nomatch z) h1, h2.g g⟩
theorem DW.r (h : DW K f H a m) : DR K f H a m := by
  obtain ⟨kvs, h1, h2⟩ := h
  exact ⟨kvs, .inl h1, h2⟩
theorem DW.new (h : H p = none) : DW K f (upd H p (.dK [])) p ([] : List (Str × β)) := ⟨[], upd_same, .nil⟩
theorem DW.of (hp : H p = none) (h : KD K f H kvs m) : DW K f (upd H p (.dK kvs)) p m := ⟨kvs, upd_same, h.sn hp⟩
/-- a dict, read; written; new -/
def PDR (K : PySem.W.Frag) {β : Type} (f : β → PyData) (m : List (Str × β)) : PV := fun v _ H2 => ∃ a, v = .ref a ∧ DR K f H2 a m
def PDW (K : PySem.W.Frag) {β : Type} (f : β → PyData) (m : List (Str × β)) : PV := fun v _ H2 => ∃ a, v = .ref a ∧ DW K f H2 a m
def PDN (K : PySem.W.Frag) {β : Type} (f : β → PyData) (m : List (Str × β)) : PV := fun v H1 H2 => ∃ a, v = .ref a ∧ H1 a = none ∧ DW K f H2 a m
theorem stb_dr : Stb M (PDR K f m) := fun _ _ _ _ _ _ _ g ⟨a, e, h⟩ => ⟨a, e, h.g g⟩
theorem stb_dw : Stb M (PDW K f m) := fun _ _ _ _ _ _ _ g ⟨a, e, h⟩ => ⟨a, e, h.g g⟩
theorem stb_dn : Stb M (PDN K f m) := fun _ _ _ _ _ g0 _ g ⟨a, e, n, h⟩ => ⟨a, e, g0.back n, h.g g⟩
theorem Ev.dw {te : TE} {σ : L2.St} (h : Ev M te σ H (PDN K f m)) : Ev M te σ H (PDW K f m) := h.imp fun _ _ _ _ _ ⟨a, e, _, z⟩ => ⟨a, e, z⟩
theorem Ev.dr {te : TE} {σ : L2.St} (h : Ev M te σ H (PDW K f m)) : Ev M te σ H (PDR K f m) := h.imp fun _ _ _ _ _ ⟨a, e, z⟩ => ⟨a, e, z.r⟩
theorem Ev.nr {te : TE} {σ : L2.St} (h : Ev M te σ H (PDN K f m)) : Ev M te σ H (PDR K f m) := h.dw.dr
end

theorem op_din {X : Cx} (hu : X.A.units + 1 < cLine) : OpR X (compareOp .In) (fun x y H Q => ∃ a o, y = .ref a ∧ DGet H a x o ∧ Q (.bl o.isSome) H) := by
  intro pins s σ H x y v u Q I rx ry h
  obtain ⟨a, o, rfl, hg, q⟩ := h
  cases ry
  exact d_in hu I hg rx fun s' I' => ⟨.bl _, H, I', rfl, q⟩
theorem op_dnotin {X : Cx} (hu : X.A.units + 1 < cLine) : OpR X (compareOp .NotIn) (fun x y H Q => ∃ a o, y = .ref a ∧ DGet H a x o ∧ Q (.bl (!o.isSome)) H) := by
  intro pins s σ H x y v u Q I rx ry h
  obtain ⟨a, o, rfl, hg, q⟩ := h
  cases ry
  exact d_notIn hu I hg rx fun s' I' => ⟨.bl _, H, I', rfl, q⟩

/-! ### reads -/
section
variable {M : Addr → Prop} {X : Cx} {σ : L2.St} {H : Hp} {o i j e : Expr} {pos p apos cpos : Pos} {P : PV} {β : Type} {f : β → PyData} {m m' : List (Str × β)} {n : Str} {a : Addr}
theorem u1 (h : X.A.units + 64 < cLine) : X.A.units + 1 < cLine := by omega
theorem ev_nmDR (k : Nat) {x : Str} (h : DR X.K f H a m) (hs : σ[k]? = some (some (.ref a)) := by rfl) (hN : X.N[k]? = some x := by rfl) (hv : Vis X.env.scope x := by first | exact Or.inl rfl | exact Or.inr (Or.inl rfl) | exact Or.inr (Or.inr rfl)) (hd : (x == ("__debug__" : Str)) = false := by decide)
    (hcd : (x == ("__classdict__" : Str)) = false := by decide) : Ev M (wE X (.Name x pos)) σ H (PDR X.K f m) := (ev_nmV k hs hN hv hd hcd).imp fun v H1 H2 g1 g2 e => ⟨a, e, h.g (g1.t g2)⟩
theorem DR.get {K : PySem.W.Frag} {b : β} (h : DR K f H a m) (e : trGet m n = some b) : ∃ v, DGet H a (.str n) (some v) ∧ Dv K H v (f b) := by
  obtain ⟨kvs, h1, h2⟩ := h
  obtain ⟨v, e1, hv⟩ := h2.some e
  exact ⟨v, .inl ⟨kvs, Sum.inr n, h1, rfl, e1.symm⟩, hv⟩
theorem DR.isSome {K : PySem.W.Frag} (h : DR K f H a m) (n : Str) : ∃ o, DGet H a (.str n) o ∧ o.isSome = (trGet m n).isSome := by
  obtain ⟨kvs, h1, h2⟩ := h
  exact ⟨_, .inl ⟨kvs, Sum.inr n, h1, rfl, rfl⟩, h2.isSome n⟩
theorem ev_dget {b : β} (hu : X.A.units + 64 < cLine) (h1 : Ev M (wE X o) σ H (PDR X.K f m)) (h2 : Ev M (wE X i) σ H (Pd X.K (.str n))) (e : trGet m n = some b) (hs : NoSl i := by exact fun _ _ => rfl) : Ev M (wE X (.Subscript o i pos)) σ H (Pd X.K (f b)) :=
  fun H1 g Q q => of_pe (pe_dget (u1 hu) e_pe e_pe hs) (h1 H1 g _ fun v H2 g2 ⟨a, ea, p⟩ => h2 H2 (g.t g2) _ fun u H3 g3 p3 => by
    obtain rfl := dv_str p3
    obtain ⟨w, hw, hd⟩ := (p.g g3).get e
    exact ⟨a, w, ea, hw, q _ _ (g2.t g3) hd⟩)
theorem ev_din (hu : X.A.units + 64 < cLine) (h1 : Ev M (wE X i) σ H (Pd X.K (.str n))) (h2 : Ev M (wE X o) σ H (PDR X.K f m)) (hm : behindInMarks .In o = false := by rfl) : Ev M (wE X (.Compare i [.In] [o] pos)) σ H (Pd X.K (.bool (trGet m n).isSome)) :=
  ev_cv ⟨_, op_din (u1 hu), fun v u H1 H2 H3 g1 p1 g2 ⟨a, ea, p⟩ Q q => by
    obtain rfl := dv_str p1
    obtain ⟨z, hz, ez⟩ := p.isSome n
    exact ⟨a, z, ea, hz, by rw [ez]; exact q⟩⟩ h1 h2 hm
theorem et_din (hu : X.A.units + 64 < cLine) (h1 : Ev M (wE X i) σ H (Pd X.K (.str n))) (h2 : Ev M (wE X o) σ H (PDR X.K f m)) (hm : behindInMarks .In o = false := by rfl) : EvT M (wT X (.Compare i [.In] [o] pos)) σ H (· = (trGet m n).isSome) :=
  et_cv ⟨_, op_din (u1 hu), fun v u H1 H2 H3 g1 p1 g2 ⟨a, ea, p⟩ Q q => by
    obtain rfl := dv_str p1
    obtain ⟨z, hz, ez⟩ := p.isSome n
    exact ⟨a, z, ea, hz, by rw [ez]; exact q⟩⟩ h1 h2 hm
theorem ev_dni (hu : X.A.units + 64 < cLine) (h1 : Ev M (wE X i) σ H (Pd X.K (.str n))) (h2 : Ev M (wE X o) σ H (PDR X.K f m)) (hm : behindInMarks .NotIn o = false := by rfl) : Ev M (wE X (.Compare i [.NotIn] [o] pos)) σ H (Pd X.K (.bool (!(trGet m n).isSome))) :=
  ev_cv ⟨_, op_dnotin (u1 hu), fun v u H1 H2 H3 g1 p1 g2 ⟨a, ea, p⟩ Q q => by
    obtain rfl := dv_str p1
    obtain ⟨z, hz, ez⟩ := p.isSome n
    exact ⟨a, z, ea, hz, by rw [ez]; exact q⟩⟩ h1 h2 hm
theorem et_dni (hu : X.A.units + 64 < cLine) (h1 : Ev M (wE X i) σ H (Pd X.K (.str n))) (h2 : Ev M (wE X o) σ H (PDR X.K f m)) (hm : behindInMarks .NotIn o = false := by rfl) : EvT M (wT X (.Compare i [.NotIn] [o] pos)) σ H (· = !(trGet m n).isSome) :=
  et_cv ⟨_, op_dnotin (u1 hu), fun v u H1 H2 H3 g1 p1 g2 ⟨a, ea, p⟩ Q q => by
    obtain rfl := dv_str p1
    obtain ⟨z, hz, ez⟩ := p.isSome n
    exact ⟨a, z, ea, hz, by rw [ez]; exact q⟩⟩ h1 h2 hm
end
end SR
set_option Elab.async false
set_option linter.all false
set_option maxRecDepth 100000
set_option maxHeartbeats 4000000
/-! dicts: writes, calls, equality, comprehensions, walks -/
namespace SR
open PySem PySem.Spec PyProof.Rows L2

/-! ### a dict that changes -/
def DM (H1 : Hp) (a : Addr) (H2 : Hp) : Prop := ∃ u u', H1 a = some (.dK u) ∧ H2 = upd H1 a (.dK u')
section
variable {K : PySem.W.Frag} {β γ : Type} {f : β → PyData} {h : γ → PyData} {M : Addr → Prop} {H H1 H2 H' : Hp} {kvs : List (Key × V)} {m : List (Str × β)} {m' : List (Str × γ)} {n : Str} {a b p : Addr} {v : V} {d : PyData} {ds : List PyData} {vs : List V} {o : HO}
theorem DM.dv (x : DM H1 a H2) (z : Dv K H1 v d) : Dv K H2 v d := by
  obtain ⟨u, u', e, rfl⟩ := x
  exact z.sd e
theorem DM.dvA (x : DM H1 a H2) (z : DvA K H1 vs ds) : DvA K H2 vs ds := by
  obtain ⟨u, u', e, rfl⟩ := x
  exact z.sd e
theorem DM.ne (x : DM H1 a H2) (z : b ≠ a) : H2 b = H1 b := by
  obtain ⟨u, u', e, rfl⟩ := x
  exact upd_ne z
theorem DM.dw (x : DM H1 a H2) (z : b ≠ a) (w : DW K f H1 b m) : DW K f H2 b m := by
  obtain ⟨kvs, h1, h2⟩ := w
  refine ⟨kvs, by rw [x.ne z]; exact h1, h2.imp fun _ _ z => x.dv z⟩
theorem DM.dr (x : DM H1 a H2) (z : b ≠ a) (w : DR K f H1 b m) : DR K f H2 b m := by
  obtain ⟨kvs, h1, h2⟩ := w
  refine ⟨kvs, ?_, h2.imp fun _ _ z => x.dv z⟩
  unfold Rd
  rw [x.ne z]
  exact h1
theorem DM.some (x : DM H1 a H2) : H1 a ≠ none := by
  obtain ⟨u, u', e, rfl⟩ := x
  rw [e]
  exact fun z => nomatch z
theorem DM.gr (x : DM H1 a H2) (g : Gr M H H1) (h0 : H a = none) : Gr M H H2 := by
  obtain ⟨u, u', e, rfl⟩ := x
  exact g.mut h0
theorem DM.back (x : DM H1 a H2) (h0 : H2 b = none) : H1 b = none := by
  obtain ⟨u, u', e, rfl⟩ := x
  by_cases z : b = a
  · rw [z, upd_same] at h0
    cases h0
  · rw [upd_ne z] at h0
    exact h0
end
section
variable {M : Addr → Prop} {X : Cx} {σ : L2.St} {H : Hp} {o i j e value c tg iter kx vx elt : Expr} {pos p apos cpos : Pos} {P : PV} {β : Type} {f : β → PyData} {m m' : List (Str × β)} {n : Str} {a : Addr} {b : β} {D : Ends} {rest body : List Stmt}
theorem DW.put {K : PySem.W.Frag} {kvs : List (Key × V)} {v : V} (e : H a = some (.dK kvs)) (h : KD K f H kvs m) (hv : Dv K H v (f b)) : DW K f (upd H a (.dK (putK kvs (Sum.inr n) v))) a (trPut m n b) := ⟨_, upd_same, (h.put hv).sd e⟩
theorem DW.drop {K : PySem.W.Frag} {kvs : List (Key × V)} (e : H a = some (.dK kvs)) (h : KD K f H kvs m) (n : Str) : DW K f (upd H a (.dK (dropK kvs (Sum.inr n)))) a (trDrop m n) := ⟨_, upd_same, (h.drop n).sd e⟩
theorem lt_sz {n : Nat} (h : n < 100000) : n < sizeLine := Nat.lt_of_lt_of_le h (by decide)
/-- o[i] = value -/
theorem bl_dput {pos' : Pos} (g : Gr M H H) (hu : X.A.units + 64 < cLine) (ho : Ev M (wE X o) σ H (Pv (.ref a))) (hd : DW X.K f H a m) (hl : m.length < 100000) (hi : Ev M (wE X i) σ H (Pd X.K (.str n))) (hv : Ev M (wE X value) σ H (Pd X.K (f b)))
    (k : ∀ H1 H2, Gr M H H1 → DM H1 a H2 → DW X.K f H2 a (trPut m n b) → wB X rest D σ H2) (hs : swapsWith value (some (.Subscript o i pos')) pos.line X.env = pure false := by rfl) : wB X (.Assign [.Subscript o i pos'] value pos :: rest) D σ H :=
  of_pss (pss_cons (ps_dput (u1 hu) e_pe e_pe e_pe hs) e_pss) (hv H g _ fun v H1 g1 p1 => ho H1 g1 _ fun x H2 g2 p2 => hi H2 (g1.t g2) _ fun y H3 g3 p3 => by
    obtain rfl := p2
    obtain rfl := dv_str p3
    have g13 := (g1.t g2).t g3
    obtain ⟨kvs, e, hk⟩ := hd.g g13
    exact ⟨a, _, rfl, .k (k := Sum.inr n) e (lt_sz (by rw [hk.length]; exact hl)), k H3 _ g13 ⟨_, _, e, rfl⟩ (DW.put e hk (p1.g (g2.t g3)))⟩)
/-- o.pop(i, j): a statement of its own -/
theorem bl_dpopE {dj : PyData} (g : Gr M H H) (ho : Ev M (wE X o) σ H (Pv (.ref a))) (hd : DW X.K f H a m) (hi : Ev M (wE X i) σ H (Pd X.K (.str n))) (hj : Ev M (wE X j) σ H (Pd X.K dj))
    (k1 : ∀ H1 H2, Gr M H H1 → DM H1 a H2 → DW X.K f H2 a (trDrop m n) → wB X rest D σ H2) (k2 : ∀ H1, Gr M H H1 → trGet m n = none → wB X rest D σ H1) (mm : M2 X o "pop" apos i j cpos := by exact ⟨rfl, rfl, rfl, rfl⟩) (hs : swapsWith (.Call (.Attribute o "pop" apos) [i, j] [] cpos) none pos.line X.env = pure false := by rfl) :
    wB X (.Expr (.Call (.Attribute o "pop" apos) [i, j] [] cpos) pos :: rest) D σ H :=
  of_pss (pss_cons (ps_expr (pe_dpop2 e_pe e_pe e_pe mm) hs) e_pss) (ho H g _ fun x H1 g1 p1 => by
    obtain rfl := p1
    obtain ⟨k0, e0, _⟩ := hd.g g1
    refine ⟨a, rfl, .inl ⟨_, .inl e0⟩, hi H1 g1 _ fun y H2 g2 p2 => hj H2 (g1.t g2) _ fun z H3 g3 p3 => ?_⟩
    obtain rfl := dv_str p2
    have g13 := (g1.t g2).t g3
    obtain ⟨kvs, e, hk⟩ := hd.g g13
    refine ⟨kvs, Sum.inr n, e, rfl, fun v hv => k1 H3 _ g13 ⟨_, _, e, rfl⟩ (DW.drop e hk n), fun hv => k2 H3 g13 ?_⟩
    rcases hk.get n with ⟨_, _, h1, _⟩ | ⟨_, h2⟩
    · rw [h1] at hv
      cases hv
    · exact h2)
/-- x = o.pop(i, j) -/
theorem bl_dpopS {dj : PyData} {q : Nat} {x : Str} {pos' : Pos} (g : Gr M H H) (ho : Ev M (wE X o) σ H (Pv (.ref a))) (hd : DW X.K f H a m) (hi : Ev M (wE X i) σ H (Pd X.K (.str n))) (hj : Ev M (wE X j) σ H (Pd X.K dj))
    (k1 : ∀ v b H1 H2, Gr M H H1 → DM H1 a H2 → DW X.K f H2 a (trDrop m n) → trGet m n = some b → Dv X.K H2 v (f b) → wB X rest D (σ.set q (some v)) H2) (k2 : ∀ v H1, Gr M H H1 → trGet m n = none → Dv X.K H1 v dj → wB X rest D (σ.set q (some v)) H1)
    (hN : X.N.Nodup) (hq : X.N[q]? = some x := by rfl) (hx : Loc X.env.scope x := by first | exact Or.inl rfl | exact Or.inr rfl) (mm : M2 X o "pop" apos i j cpos := by exact ⟨rfl, rfl, rfl, rfl⟩)
    (hs2 : swapsWithSole [.Name x pos'] (.Call (.Attribute o "pop" apos) [i, j] [] cpos) pos.line X.env = pure false := by rfl) (hf : X.fn x = true ∨ X.env.scope.names.lookup x = some .local := by first | exact .inl rfl | exact .inr rfl) :
    wB X (.Assign [.Name x pos'] (.Call (.Attribute o "pop" apos) [i, j] [] cpos) pos :: rest) D σ H :=
  of_pss (pss_cons (ps_asg (pe_dpop2 e_pe e_pe e_pe mm) (pg_name hN hq hx hf) hs2) e_pss) (ho H g _ fun x H1 g1 p1 => by
    obtain rfl := p1
    obtain ⟨k0, e0, _⟩ := hd.g g1
    refine ⟨a, rfl, .inl ⟨_, .inl e0⟩, hi H1 g1 _ fun y H2 g2 p2 => hj H2 (g1.t g2) _ fun z H3 g3 p3 => ?_⟩
    obtain rfl := dv_str p2
    have g13 := (g1.t g2).t g3
    obtain ⟨kvs, e, hk⟩ := hd.g g13
    refine ⟨kvs, Sum.inr n, e, rfl, fun v hv => ?_, fun hv => k2 z H3 g13 ?_ p3⟩
    · rcases hk.get n with ⟨v', b, h1, h2, h3⟩ | ⟨h1, _⟩
      · rw [h1] at hv
        cases hv
        exact k1 _ b H3 _ g13 ⟨_, _, e, rfl⟩ (DW.drop e hk n) h2 (h3.sd e)
      · rw [h1] at hv
        cases hv
    · rcases hk.get n with ⟨_, _, h1, _⟩ | ⟨_, h2⟩
      · rw [h1] at hv
        cases hv
      · exact h2)
/-- x = o.pop(i) -/
theorem bl_dpop1 {q : Nat} {x : Str} {pos' : Pos} (g : Gr M H H) (ho : Ev M (wE X o) σ H (Pv (.ref a))) (hd : DW X.K f H a m) (hi : Ev M (wE X i) σ H (Pd X.K (.str n))) (hb : trGet m n = some b)
    (k1 : ∀ v H1 H2, Gr M H H1 → DM H1 a H2 → DW X.K f H2 a (trDrop m n) → Dv X.K H2 v (f b) → wB X rest D (σ.set q (some v)) H2)
    (hN : X.N.Nodup) (hq : X.N[q]? = some x := by rfl) (hx : Loc X.env.scope x := by first | exact Or.inl rfl | exact Or.inr rfl) (mm : L2.M1 X o "pop" apos i cpos := by exact ⟨rfl, rfl, rfl, rfl⟩)
    (hs2 : swapsWithSole [.Name x pos'] (.Call (.Attribute o "pop" apos) [i] [] cpos) pos.line X.env = pure false := by rfl) (hf : X.fn x = true ∨ X.env.scope.names.lookup x = some .local := by first | exact .inl rfl | exact .inr rfl) :
    wB X (.Assign [.Name x pos'] (.Call (.Attribute o "pop" apos) [i] [] cpos) pos :: rest) D σ H :=
  of_pss (pss_cons (ps_asg (pe_dpop1 e_pe e_pe mm) (pg_name hN hq hx hf) hs2) e_pss) (ho H g _ fun x H1 g1 p1 => by
    obtain rfl := p1
    obtain ⟨k0, e0, _⟩ := hd.g g1
    refine ⟨a, rfl, .inl ⟨_, .inl e0⟩, hi H1 g1 _ fun y H2 g2 p2 => ?_⟩
    obtain rfl := dv_str p2
    have g13 := g1.t g2
    obtain ⟨kvs, e, hk⟩ := hd.g g13
    obtain ⟨v, h1, h3⟩ := hk.some hb
    exact ⟨kvs, Sum.inr n, v, e, rfl, h1, k1 v H2 _ g13 ⟨_, _, e, rfl⟩ (DW.drop e hk n) (h3.sd e)⟩)
/-- if o.pop(i, None) is None: .. -/
theorem bl_dpopN {j0 : Nat} {jp cp2 : Pos} {kk : Nat} {cp : Pos} (hn : ∀ b, isNon (f b) = false) (g : Gr M H H) (ho : Ev M (wE X o) σ H (Pv (.ref a))) (hd : DW X.K f H a m) (hi : Ev M (wE X i) σ H (Pd X.K (.str n)))
    (k1 : ∀ b H1 H2, Gr M H H1 → DM H1 a H2 → DW X.K f H2 a (trDrop m n) → trGet m n = some b → wB X rest D σ H2) (k2 : ∀ H1, Gr M H H1 → trGet m n = none → wB X body { D with nx := wB X rest D } σ H1)
    (mm : M2 X o "pop" apos i (.Constant .none j0 jp) cpos := by exact ⟨rfl, rfl, rfl, rfl⟩) :
    wB X (.If (.Compare (.Call (.Attribute o "pop" apos) [i, .Constant .none j0 jp] [] cpos) [.Is] [.Constant .none kk cp2] cp) body [] pos :: rest) D σ H :=
  of_pss (pss_cons (ps_if (pt_cmpR op_isN (pe_dpop2 e_pe e_pe pe_non mm) pe_non (nomark _)) e_pss e_pss) e_pss) (ho H g _ fun x H1 g1 p1 => by
    obtain rfl := p1
    obtain ⟨k0, e0, _⟩ := hd.g g1
    refine ⟨a, rfl, .inl ⟨_, .inl e0⟩, hi H1 g1 _ fun y H2 g2 p2 => ?_⟩
    obtain rfl := dv_str p2
    have g13 := g1.t g2
    obtain ⟨kvs, e, hk⟩ := hd.g g13
    refine ⟨kvs, Sum.inr n, e, rfl, fun v hv => ?_, fun hv => ?_⟩
    · rcases hk.get n with ⟨v', b, h1, h2, h3⟩ | ⟨h1, _⟩
      · rw [h1] at hv
        cases hv
        refine ⟨rfl, false, ?_, iteF (of_pss pss_nil (k1 b H2 _ g13 ⟨_, _, e, rfl⟩ (DW.drop e hk n) h2))⟩
        exact congrArg V.bl ((non_d (H1 := H2) (show Pd X.K (f b) _ H2 H2 from h3)).trans (hn b))
      · rw [h1] at hv
        cases hv
    · rcases hk.get n with ⟨_, _, h1, _⟩ | ⟨_, h2⟩
      · rw [h1] at hv
        cases hv
      · exact ⟨rfl, true, rfl, iteT (k2 H2 g13 h2)⟩)
end
end SR
set_option Elab.async false
set_option linter.all false
set_option maxRecDepth 100000
set_option maxHeartbeats 4000000
/-! dicts: calls, equality, locks, walks -/
namespace SR
open PySem PySem.Spec PyProof.Rows L2
section
variable {M : Addr → Prop} {X : Cx} {σ : L2.St} {H : Hp} {o i j e value c tg iter kx vx elt : Expr} {pos p apos cpos : Pos} {P : PV} {β γ : Type} {f : β → PyData} {h : γ → PyData} {m : List (Str × β)} {m' : List (Str × γ)} {n : Str} {a : Addr} {b : β} {D : Ends} {rest body : List Stmt}
theorem call_lenDR : CallR X (.builtin "len") (fun xs H Q => ∃ a kvs, xs = [V.ref a] ∧ Rd H a (.dK kvs) ∧ Q (.int kvs.length) H) := by
  intro pins s σ H xs us Q I r h
  obtain ⟨a, kvs, rfl, ha, q⟩ := h
  obtain ⟨u, rfl, ru⟩ := Vals.one r
  cases ru
  exact d_len I ha fun t s' I' => ⟨.int kvs.length, H, I', ⟨t, rfl⟩, q⟩
theorem ev_lenD (hm : X.mg "len" = none) (h : Ev M (wE X e) σ H (PDR X.K f m)) (hg : Gl X "len" := by rfl) (he : starEach [e] X.env = (false, eval e X.env) :: starEach [] X.env := by rfl) : Ev M (wE X (.Call (.Name "len" p) [e] [] pos)) σ H (Pd X.K (.int m.length)) :=
  ev_callB call_lenDR hm bt_len (ea_of h he) (fun vs H1 H2 g1 g2 ⟨v, e1, a, ev, kvs, hr, hk⟩ Q q => by
    subst e1
    subst ev
    refine ⟨a, kvs, rfl, hr, ?_⟩
    rw [hk.length]
    exact q _ _ g2.r (.int _)) hg (by decide) (by decide) he
/-- dict(d) -/
theorem ev_dictD (hm : X.mg "dict" = none) (h : Ev M (wE X e) σ H (PDR X.K f m)) (hg : Gl X "dict" := by rfl) (he : starEach [e] X.env = (false, eval e X.env) :: starEach [] X.env := by rfl) : Ev M (wE X (.Call (.Name "dict" p) [e] [] pos)) σ H (PDN X.K f m) :=
  fun H1 g Q q => of_pe (pe_callTy call_dictD hg hm bt_dict (pa_cons e_pe pa_nil he) (by decide) (by decide) he) (h H1 g _ fun v H2 g2 ⟨a, ea, kvs, hr, hk⟩ => ⟨a, kvs, by rw [ea], hr, fun l hl => q _ _ (g2.new hl) ⟨l, rfl, g2.back hl, DW.of hl hk⟩⟩)
theorem DvA.keys {K : PySem.W.Frag} {kvs : List (Key × V)} (hk : KD K f H kvs m) : DvA K H (kvs.map fun kv => kV kv.1) (m.map fun q => .str q.1) := by
  unfold KD at hk
  induction hk with
  | nil => exact .nil
  | @cons x y xs ys h _ ih =>
    rw [List.map_cons, List.map_cons, h.1]
    exact .cons (.str _) ih
/-- list(d) -/
theorem ev_listD (hc : X.calm = true) (hm : X.mg "list" = none) (h : Ev M (wE X e) σ H (PDR X.K f m)) (hg : Gl X "list" := by rfl) (he : starEach [e] X.env = (false, eval e X.env) :: starEach [] X.env := by rfl) : Ev M (wE X (.Call (.Name "list" p) [e] [] pos)) σ H (PL X.K (m.map fun q => .str q.1)) :=
  fun H1 g Q q => of_pe (pe_callTy (call_listD hc) hg hm bt_list (pa_cons e_pe pa_nil he) (by decide) (by decide) he) (h H1 g _ fun v H2 g2 ⟨a, ea, kvs, hr, hk⟩ => ⟨a, kvs, by rw [ea], hr, fun l hl => q _ _ (g2.new hl) ⟨l, _, rfl, g2.back hl, upd_same, (DvA.keys hk).sn hl⟩⟩)
/-! sorted -/
noncomputable def srt (ns : List Str) : List Str := by
  classical
  exact if h : ∃ ys : List Str, ys.Perm ns ∧ sortedS ys = true then h.choose else ns
theorem srt_perm (ns : List Str) : (srt ns).Perm ns := by
  unfold srt
  split
  · rename_i h
    exact h.choose_spec.1
  · exact List.Perm.refl _
theorem srt_nodup {ns : List Str} (h : ns.Nodup) : (srt ns).Nodup := (srt_perm ns).nodup_iff.mpr h
theorem srt_mem {ns : List Str} {x : Str} : x ∈ srt ns ↔ x ∈ ns := (srt_perm ns).mem_iff
def leS (a b : Str) : Prop := ltCps b.cps.toList a.cps.toList = false
theorem leS_iff {a b : Str} : leS a b ↔ a.cps.toList ≤ b.cps.toList := by
  unfold leS
  rw [ltCps_eq, decide_eq_false_iff_not]
  exact Iff.rfl
theorem leS_trans {a b c : Str} (h : leS a b) (h2 : leS b c) : leS a c := leS_iff.mpr (List.le_trans (leS_iff.mp h) (leS_iff.mp h2))
theorem leS_anti {a b : Str} (h : leS a b) (h2 : leS b a) : a = b := by
  have e := List.le_antisymm (leS_iff.mp h) (leS_iff.mp h2)
  cases a
  cases b
  congr
  exact Array.toList_inj.mp e
theorem risingS_pw : ∀ (r : List Str) (x : Str), risingS x r = true → (x :: r).Pairwise leS
  | [], x, _ => List.pairwise_singleton _ _
  | y :: r, x, h => by
    have h' : (!ltCps y.cps.toList x.cps.toList && risingS y r) = true := h
    obtain ⟨h1, h2⟩ := Bool.and_eq_true_iff.mp h'
    have ih := risingS_pw r y h2
    have hxy : leS x y := by
      unfold leS
      cases e : ltCps y.cps.toList x.cps.toList with
      | false => rfl
      | true =>
        rw [e] at h1
        cases h1
    refine List.pairwise_cons.mpr ⟨fun z hz => ?_, ih⟩
    rcases List.mem_cons.mp hz with e | e
    · rw [e]
      exact hxy
    · exact leS_trans hxy (List.rel_of_pairwise_cons ih e)
theorem sortedS_pw : ∀ {l : List Str}, sortedS l = true → l.Pairwise leS
  | [], _ => .nil
  | x :: r, h => risingS_pw r x h
theorem sorted_unique : ∀ {l l' : List Str}, l.Perm l' → l.Pairwise leS → l'.Pairwise leS → l = l'
  | [], l', p, _, _ => (List.nil_perm.mp p).symm
  | x :: r, [], p, _, _ => nomatch (List.perm_nil.mp p)
  | x :: r, y :: r', p, h, h' => by
    have e : x = y := by
      have h1 : y ∈ x :: r := p.mem_iff.mpr List.mem_cons_self
      have h2 : x ∈ y :: r' := p.mem_iff.mp List.mem_cons_self
      rcases List.mem_cons.mp h1 with z | z
      · exact z.symm
      · rcases List.mem_cons.mp h2 with z2 | z2
        · exact z2
        · exact leS_anti (List.rel_of_pairwise_cons h z) (List.rel_of_pairwise_cons h' z2)
    subst e
    rw [sorted_unique (List.Perm.cons_inv p) (List.pairwise_cons.mp h).2 (List.pairwise_cons.mp h').2]
theorem srt_of {ys ns : List Str} (p : ys.Perm ns) (s : sortedS ys = true) : srt ns = ys := by
  unfold srt
  have h : ∃ ys : List Str, ys.Perm ns ∧ sortedS ys = true := ⟨ys, p, s⟩
  rw [dif_pos h]
  exact sorted_unique (h.choose_spec.1.trans p.symm) (sortedS_pw h.choose_spec.2) (sortedS_pw s)
theorem srt_ex (ns : List Str) : ∃ ys : List Str, ys.Perm ns ∧ sortedS ys = true := by
  refine ⟨ns.mergeSort (fun a b => !ltCps b.cps.toList a.cps.toList), List.mergeSort_perm _ _, sortedS_of_pairwise _ ?_⟩
  refine List.Pairwise.imp (fun {a b} h => ?_) (List.pairwise_mergeSort (le := fun a b : Str => !ltCps b.cps.toList a.cps.toList) (fun a b c h1 h2 => ?_) (fun a b => ?_) ns)
  · simpa using h
  · have k1 : leS a b := by unfold leS; simpa using h1
    have k2 : leS b c := by unfold leS; simpa using h2
    have k3 := leS_trans k1 k2
    unfold leS at k3
    simp [k3]
  · rcases List.le_total a.cps.toList b.cps.toList with h | h
    · have := leS_iff.mpr h
      unfold leS at this
      simp [this]
    · have := leS_iff.mpr h
      unfold leS at this
      simp [this]
theorem srt_sorted (ns : List Str) : sortedS (srt ns) = true := by
  obtain ⟨ys, p, s⟩ := srt_ex ns
  rw [srt_of p s]
  exact s
theorem srt_congr {ns ns' : List Str} (p : ns.Perm ns') : srt ns = srt ns' := srt_of ((srt_perm ns').trans p.symm) (srt_sorted ns')
/-- sorted(d) -/
theorem ev_sortD (hc : X.calm = true) (hm : X.mg "sorted" = none) (hl : m.length < 64) (h : Ev M (wE X e) σ H (PDR X.K f m)) (hg : Gl X "sorted" := by rfl) (he : starEach [e] X.env = (false, eval e X.env) :: starEach [] X.env := by rfl) : Ev M (wE X (.Call (.Name "sorted" p) [e] [] pos)) σ H (PL X.K ((srt (m.map (·.1))).map .str)) :=
  fun H1 g Q q => of_pe (pe_callB (call_sortedD hc) hg hm bt_sorted (pa_cons e_pe pa_nil he) (by decide) (by decide) he) (h H1 g _ fun v H2 g2 ⟨a, ea, kvs, hr, hk⟩ => ⟨a, kvs, m.map (·.1), by rw [ea], hr, hk.keys, by rw [List.length_map]; exact hl, fun ys l py sy hl => q _ _ (g2.new hl) ⟨l, _, rfl, g2.back hl, upd_same, by rw [srt_of py sy]; exact (strs_dvA ys).sn hl⟩⟩)
/-! equality -/
def eqvM {β γ : Type} (f : β → PyData) (h : γ → PyData) (m : List (Str × β)) (m' : List (Str × γ)) : Bool := decide (m.length = m'.length) && m.all fun q => match trGet m' q.1 with
  | some b => PyData.eqv (f q.2) (h b)
  | none => false
theorem u65 (h : X.A.units + 64 < cLine) (hr : X.A.units + 70 < cLine) : X.A.in1.units + 64 < cLine := by
  show X.A.units + 1 + 64 < cLine
  omega
theorem keq_hits {pins : List (Addr × Obj)} {s : Shared} {kvs kvs' : List (Key × V)} {va vb : List (Key × Value)} (I : Inv X pins σ H s) (hu : X.A.in1.units + 64 < cLine) (hf : ∀ q ∈ m, SeqAt.shaped (f q.2) = true) (hh : ∀ q ∈ m', SeqAt.shaped (h q.2) = true) (hk : KD X.K f H kvs m) (hk' : KD X.K h H kvs' m') (ra : KV kvs va) (rb : KV kvs' vb) :
    PySem.W.KeqHits X.A.in1 s vb va (m.all fun q => match trGet m' q.1 with
      | some b => PyData.eqv (f q.2) (h b)
      | none => false) := by
  unfold KD at hk
  induction hk generalizing va with
  | nil =>
    cases ra
    exact .nil
  | @cons x y xs ys z _ ih =>
    cases ra with
    | @cons _ w _ ws r t =>
      obtain ⟨k, u⟩ := w
      have ek : k = Sum.inr y.1 := r.1.symm.trans z.1
      subst ek
      rw [List.all_cons]
      have it := ih (fun q hq => hf q (List.mem_cons_of_mem _ hq)) t
      have rv := rb.val (Sum.inr y.1)
      rcases hk'.get y.1 with ⟨v', b, h1, h2, h3⟩ | ⟨h1, h2⟩
      · rw [h1] at rv
        obtain ⟨u', hu', ru⟩ := rv.some_of
        rw [h2]
        obtain ⟨as, r1⟩ := Dp.reads I _ x.2 u (Dv.dp _ _ z.2) r.2
        obtain ⟨bs, r2⟩ := Dp.reads I _ v' u' (Dv.dp _ _ h3) ru
        refine .hit hu' (PySem.W.keq_at r1 r2 (hf _ List.mem_cons_self) ?_ hu) it
        have : ∃ q ∈ m', q.2 = b := by
          unfold trGet at h2
          cases z2 : m'.find? (fun q => decide (q.1 = y.1)) with
          | none =>
            rw [z2] at h2
            cases h2
          | some q =>
            rw [z2] at h2
            exact ⟨q, List.mem_of_find?_eq_some z2, Option.some.inj h2⟩
        obtain ⟨q, hq, rfl⟩ := this
        exact hh q hq
      · rw [h1] at rv
        rw [h2]
        have : valueAt vb (Sum.inr y.1) = none := by
          cases e : valueAt vb (Sum.inr y.1) with
          | none => rfl
          | some u' =>
            rw [e] at rv
            exact rv.elim
        exact .miss this
theorem op_dEq (hu : X.A.units + 70 < cLine) (hf : ∀ q ∈ m, SeqAt.shaped (f q.2) = true) (hh : ∀ q ∈ m', SeqAt.shaped (h q.2) = true) : OpR X (compareOp .Eq) (fun x y H Q => ∃ a b, x = .ref a ∧ y = .ref b ∧ DR X.K f H a m ∧ DR X.K h H b m' ∧ Q (.bl (eqvM f h m m')) H) := by
  intro pins s σ H x y v u Q I rx ry z
  obtain ⟨a, b, rfl, rfl, ⟨kvs, e1, hk⟩, ⟨kvs', e2, hk'⟩, q⟩ := z
  obtain rfl : v = Value.ref a := rx
  obtain rfl : u = Value.ref b := ry
  obtain ⟨_, ya, va, ra, da⟩ := dk_rd I.hok e1
  obtain ⟨_, yb, vb, rb, db⟩ := dk_rd I.hok e2
  have hits := keq_hits I (show X.A.units + 1 + 64 < cLine by omega) hf hh hk hk' ra rb
  refine PySem.W.keq_eq (knd := mixKind X.prog X.w) ya yb da db (by omega) (fun _ => hits) ⟨.bl (eqvM f h m m'), H, I, ?_, q⟩
  have l1 : va.length = m.length := by rw [← ra.length, hk.length]
  have l2 : vb.length = m'.length := by rw [← rb.length, hk'.length]
  have : (va.length == vb.length) = decide (m.length = m'.length) := by rw [l1, l2]; rfl
  rw [this]
  rfl
theorem op_dNe (hu : X.A.units + 70 < cLine) (hf : ∀ q ∈ m, SeqAt.shaped (f q.2) = true) (hh : ∀ q ∈ m', SeqAt.shaped (h q.2) = true) : OpR X (compareOp .NotEq) (fun x y H Q => ∃ a b, x = .ref a ∧ y = .ref b ∧ DR X.K f H a m ∧ DR X.K h H b m' ∧ Q (.bl (!eqvM f h m m')) H) := by
  intro pins s σ H x y v u Q I rx ry z
  obtain ⟨a, b, rfl, rfl, ⟨kvs, e1, hk⟩, ⟨kvs', e2, hk'⟩, q⟩ := z
  obtain rfl : v = Value.ref a := rx
  obtain rfl : u = Value.ref b := ry
  obtain ⟨_, ya, va, ra, da⟩ := dk_rd I.hok e1
  obtain ⟨_, yb, vb, rb, db⟩ := dk_rd I.hok e2
  have hits := keq_hits I (show X.A.units + 1 + 64 < cLine by omega) hf hh hk hk' ra rb
  refine PySem.W.keq_ne (knd := mixKind X.prog X.w) ya yb da db (by omega) (fun _ => hits) ⟨.bl (!eqvM f h m m'), H, I, ?_, q⟩
  have l1 : va.length = m.length := by rw [← ra.length, hk.length]
  have l2 : vb.length = m'.length := by rw [← rb.length, hk'.length]
  have : (va.length == vb.length) = decide (m.length = m'.length) := by rw [l1, l2]; rfl
  rw [this]
  rfl
theorem cv_dEq (hu : X.A.units + 70 < cLine) (hf : ∀ q ∈ m, SeqAt.shaped (f q.2) = true) (hh : ∀ q ∈ m', SeqAt.shaped (h q.2) = true) : Cv M X .Eq (PDR X.K f m) (PDR X.K h m') (eqvM f h m m') := ⟨_, op_dEq hu hf hh, fun v u H1 H2 H3 g1 ⟨a, ea, p1⟩ g2 ⟨b, eb, p2⟩ Q q => ⟨a, b, ea, eb, p1.g g2, p2, q⟩⟩
theorem cv_dNe (hu : X.A.units + 70 < cLine) (hf : ∀ q ∈ m, SeqAt.shaped (f q.2) = true) (hh : ∀ q ∈ m', SeqAt.shaped (h q.2) = true) : Cv M X .NotEq (PDR X.K f m) (PDR X.K h m') (!eqvM f h m m') := ⟨_, op_dNe hu hf hh, fun v u H1 H2 H3 g1 ⟨a, ea, p1⟩ g2 ⟨b, eb, p2⟩ Q q => ⟨a, b, ea, eb, p1.g g2, p2, q⟩⟩
/-- {} -/
theorem ev_dnil : Ev M (wE X (.Dict [] [] pos)) σ H (PDN X.K f []) := fun H1 g Q q => of_pe pe_dnewK fun l hl => q _ _ (g.r.new hl) ⟨l, rfl, hl, DW.new hl⟩
end
end SR
set_option Elab.async false
set_option linter.all false
set_option maxRecDepth 100000
set_option maxHeartbeats 4000000
/-! locks, walks over dicts, comprehensions -/
namespace SR
open PySem PySem.Spec PyProof.Rows L2
/-! ### a dict that stands still -/
section
variable {M : Addr → Prop} {K : PySem.W.Frag} {H H1 H2 : Hp} {a b : Addr} {kvs : List (Key × V)} {od : Obj} {v : V} {d : PyData} {ds : List PyData} {vs : List V} {β : Type} {f : β → PyData} {m : List (Str × β)}
abbrev lkd (H : Hp) (a : Addr) (od : Obj) (kvs : List (Key × V)) : Hp := upd H a (.frz od (.dK kvs))
theorem lk_same : lkd H a od kvs a = some (.frz od (.dK kvs)) := upd_same
theorem lk_ne (h : b ≠ a) : lkd H a od kvs b = H b := upd_ne h
theorem gr_lock (g : Gr M H H1) (h : H a = some (.dK kvs)) : Gr M (lkd H a od kvs) (lkd H1 a od kvs) := by
  have nm := g.notD h fun _ z => nomatch z
  have dk : ∀ {H x}, Deck H x → x ≠ a → Deck (lkd H a od kvs) x := fun ⟨p, q, r, e⟩ z => ⟨p, q, r, by rw [lk_ne z]; exact e⟩
  refine ⟨fun x m => dk (g.a x m) fun z => nm (z ▸ m), fun x o n e => ?_, fun x m => dk (g.b x m) fun z => nm (z ▸ m)⟩
  by_cases z : x = a
  · subst z
    rw [lk_same] at e ⊢
    exact e
  · rw [lk_ne z] at e ⊢
    exact g.k x o n e
theorem gr_unlock (g : Gr M H H) (h : H a = some (.dK kvs)) (g2 : Gr M (lkd H a od kvs) H2) : Gr M H (upd H2 a (.dK kvs)) := by
  have nm := g.notD h fun _ z => nomatch z
  refine ⟨g.a, fun x o n e => ?_, fun x m => ?_⟩
  · by_cases z : x = a
    · subst z
      rw [upd_same]
      rw [h] at e
      exact e
    · rw [upd_ne z]
      exact g2.k x o n (by rw [lk_ne z]; exact e)
  · have z : x ≠ a := fun z => nm (z ▸ m)
    obtain ⟨p, q, r, e⟩ := g2.b x m
    exact ⟨p, q, r, by rw [upd_ne z]; exact e⟩
theorem gr_lockr (g : Gr M H H) (h : H a = some (.dK kvs)) : Gr M (lkd H a od kvs) (lkd H a od kvs) := gr_lock g h
theorem sq_lock {xs : List V} (h : H a = some (.dK kvs)) (z : SqT K H b xs) : SqT K (lkd H a od kvs) b xs := tup_upd h (fun _ z => nomatch z) (fun _ _ z => nomatch z) z
theorem sq_unlock {xs : List V} (h : H a = some (.frz od (.dK kvs))) (z : SqT K H b xs) : SqT K (upd H a (.dK kvs)) b xs := by
  rcases z with (z | ⟨o, z⟩) | z
  · refine .inl (.inl ?_)
    rw [upd_ne (fun e => ?_)]
    · exact z
    · rw [e, h] at z
      cases z
  · refine .inl (.inr ⟨o, ?_⟩)
    rw [upd_ne (fun e => ?_)]
    · exact z
    · rw [e, h] at z
      cases z
  · exact .inr z
theorem tu_lock {xs : List V} (h : H a = some (.dK kvs)) (z : H b = some (.tup xs)) : lkd H a od kvs b = some (.tup xs) := tu_upd h (fun _ z => nomatch z) z
theorem tu_unlock {xs : List V} (h : H a = some (.frz od (.dK kvs))) (z : H b = some (.tup xs)) : upd H a (.dK kvs) b = some (.tup xs) := tu_upd h (fun _ z => nomatch z) z
theorem Dv.lk (z : Dv K H v d) (h : H a = some (.dK kvs)) : Dv K (lkd H a od kvs) v d := Dv.imp (fun _ _ z => tu_lock h z) d v z
theorem DvA.lk (z : DvA K H vs ds) (h : H a = some (.dK kvs)) : DvA K (lkd H a od kvs) vs ds := DvA.imp (fun _ _ z => tu_lock h z) ds vs z
theorem Dv.ul (z : Dv K H v d) (h : H a = some (.frz od (.dK kvs))) : Dv K (upd H a (.dK kvs)) v d := Dv.imp (fun _ _ z => tu_unlock h z) d v z
theorem DvA.ul (z : DvA K H vs ds) (h : H a = some (.frz od (.dK kvs))) : DvA K (upd H a (.dK kvs)) vs ds := DvA.imp (fun _ _ z => tu_unlock h z) ds vs z
theorem KD.lk {kvs' : List (Key × V)} (z : KD K f H kvs' m) (h : H a = Option.some (HO.dK kvs)) : KD K f (lkd H a od kvs) kvs' m := z.imp fun _ _ y => y.lk h
theorem DR.lk (z : DR K f H b m) (h : H a = some (.dK kvs)) : DR K f (lkd H a od kvs) b m := by
  obtain ⟨ks, h1, h2⟩ := z
  by_cases e : b = a
  · subst e
    have : ks = kvs := by
      rcases h1 with h1 | ⟨o, h1⟩
      · rw [h] at h1
        cases h1
        rfl
      · rw [h] at h1
        cases h1
    subst this
    exact ⟨ks, .inr ⟨od, upd_same⟩, h2.lk h⟩
  · refine ⟨ks, ?_, h2.lk h⟩
    unfold Rd
    rw [lk_ne e]
    exact h1
theorem DW.lk (z : DW K f H b m) (e : b ≠ a) (h : H a = some (.dK kvs)) : DW K f (lkd H a od kvs) b m := by
  obtain ⟨ks, h1, h2⟩ := z
  exact ⟨ks, by rw [lk_ne e]; exact h1, h2.lk h⟩
/-- what stands when the lock goes -/
def Ul (P : PV) : Prop := ∀ (a : Addr) (od : Obj) (kvs : List (Key × V)) v H1 H2, H1 a = some (.dK kvs) → H2 a = some (.frz od (.dK kvs)) → P v (lkd H1 a od kvs) H2 → P v H1 (upd H2 a (.dK kvs))
theorem ul_d : Ul (Pd K d) := fun _ _ _ _ _ _ _ h2 p => Dv.ul p h2
theorem none_lk (h : (lkd H a od kvs) b = none) : H b = none := by
  by_cases e : b = a
  · subst e
    rw [lk_same] at h
    cases h
  · rw [lk_ne e] at h
    exact h
theorem ne_lk (h : (lkd H a od kvs) b = none) : b ≠ a := fun e => by
  rw [e, lk_same] at h
  cases h
theorem ul_l : Ul (PL K ds) := fun a od kvs v H1 H2 h1 h2 ⟨l, vs, e, n, hl, z⟩ => ⟨l, vs, e, none_lk n, (upd_ne (ne_lk n)).trans hl, z.ul h2⟩
theorem ul_dn : Ul (PDN K f m) := fun a od kvs v H1 H2 h1 h2 ⟨l, e, n, ks, hl, z⟩ => ⟨l, e, none_lk n, ks, (upd_ne (ne_lk n)).trans hl, z.imp fun _ _ y => y.ul h2⟩
/-! ### walks -/
theorem src_keys (g : Gr M H H) (h : H a = some (.frz od (.dK kvs))) (z : KD K f H kvs m) : Src M K (Itk a od kvs) (m.map fun q => .str q.1) H := by
  have W : Walk (Itk a od kvs) (m.map fun q => PyData.str q.1).length (fun H => H a = some (.frz od (.dK kvs))) (fun i H x H' => H' = H ∧ ∃ k v, kvs[i]? = some (k, v) ∧ x = kV k) := by
    rw [List.length_map, ← z.length]
    exact walk_keys
  refine ⟨_, _, W, h, fun Ha g => g.k a _ (g.notD h fun _ z => nomatch z) h, fun i Ha x Hb g1 y hi => ?_⟩
  obtain ⟨rfl, k, v, e, rfl⟩ := y
  rw [List.length_map] at hi
  obtain ⟨v', e1, h1⟩ := z.at (List.getElem?_eq_getElem hi)
  rw [e1] at e
  cases e
  refine ⟨g1.r, .str m[i].1, by rw [List.getElem?_map, List.getElem?_eq_getElem hi]; rfl, .str _⟩
theorem src_vals (g : Gr M H H) (h : H a = some (.frz od (.dK kvs))) (z : KD K f H kvs m) : Src M K (Itd a od kvs) (m.map fun q => f q.2) H := by
  have W : Walk (Itd a od kvs) (m.map fun q => f q.2).length (fun H => H a = some (.frz od (.dK kvs))) (fun i H x H' => H' = H ∧ ∃ k, kvs[i]? = some (k, x)) := by
    rw [List.length_map, ← z.length]
    exact walk_values
  refine ⟨_, _, W, h, fun Ha g => g.k a _ (g.notD h fun _ z => nomatch z) h, fun i Ha x Hb g1 y hi => ?_⟩
  obtain ⟨rfl, k, e⟩ := y
  rw [List.length_map] at hi
  obtain ⟨v', e1, h1⟩ := z.at (List.getElem?_eq_getElem hi)
  rw [e1] at e
  cases e
  exact ⟨g1.r, f m[i].2, by rw [List.getElem?_map, List.getElem?_eq_getElem hi]; rfl, h1.g g1⟩
theorem src_items (g : Gr M H H) (h : H a = some (.frz od (.dK kvs))) (z : KD K f H kvs m) : Src M K (Iti a od kvs) (m.map fun q => .tuple [.str q.1, f q.2]) H := by
  have W : Walk (Iti a od kvs) (m.map fun q => PyData.tuple [.str q.1, f q.2]).length (fun H => H a = some (.frz od (.dK kvs))) (YPair (fun i => kvs[i]?.map fun kv => kV kv.1) (fun i => kvs[i]?.map Prod.snd)) := by
    rw [List.length_map, ← z.length]
    exact walk_items
  refine ⟨_, _, W, h, fun Ha g => g.k a _ (g.notD h fun _ z => nomatch z) h, fun i Ha x Hb g1 y hi => ?_⟩
  obtain ⟨T, x1, x2, rfl, hT, rfl, e1, e2⟩ := y
  rw [List.length_map] at hi
  obtain ⟨v', e3, h1⟩ := z.at (List.getElem?_eq_getElem hi)
  simp only [e3] at e1 e2
  obtain rfl := Option.some.inj e1
  obtain rfl := Option.some.inj e2
  exact ⟨g1.r.new hT, .tuple [.str m[i].1, f m[i].2], by rw [List.getElem?_map, List.getElem?_eq_getElem hi]; rfl, Dv.tupN (.cons (.str _) (.cons ((h1.g g1).sn hT) .nil)) upd_same⟩
end
section
variable {M : Addr → Prop} {X : Cx} {σ : L2.St} {H : Hp} {o i j e c tg iter kx vx elt : Expr} {pos p apos cpos : Pos} {P : PV} {β γ : Type} {f : β → PyData} {m : List (Str × β)} {n : Str} {a : Addr} {D : Ends} {rest body : List Stmt} {kvs : List (Key × V)} {od : Obj} {ds : List PyData}
theorem ev_lock (ul : Ul P) (ha : H a = some (.dK kvs)) (h : ∀ od, Ev M (wE X e) σ (lkd H a od kvs) P) : Ev M (wE X e) σ H P := fun H1 g Q q => by
  have h1 : H1 a = some (.dK kvs) := g.k a _ (g.notD ha fun _ z => nomatch z) ha
  refine of_pe (pe_lock e_pe) ⟨a, .dK kvs, h1, trivial, fun od => h od (lkd H1 a od kvs) (gr_lock g ha) _ fun v H2 g2 p => ?_⟩
  have h2 : H2 a = some (.frz od (.dK kvs)) := g2.k a _ (g2.notD (a := a) upd_same fun _ z => nomatch z) upd_same
  exact ⟨h2, q v _ (gr_unlock g.r h1 g2) (ul a od kvs v H1 H2 h1 h2 p)⟩
theorem ei_keys (h : Ev M (wE X e) σ H (Pv (.ref a))) (ha : H a = some (.frz od (.dK kvs))) (z : KD X.K f H kvs m) : EvI M X.K (wI X tg e) σ H (m.map fun q => .str q.1) := fun H1 g R r => of_pi (pi_keys e_pe) (h H1 g _ fun v H2 g2 p => by
  have g12 := g.t g2
  have h2 := g12.k a _ (g12.notD ha fun _ z => nomatch z) ha
  exact ⟨a, od, p, .inl ⟨kvs, h2, r _ _ g2 (src_keys g2.r h2 (z.g g12))⟩⟩)
theorem ei_vals (h : Ev M (wE X e) σ H (Pv (.ref a))) (ha : H a = some (.frz od (.dK kvs))) (z : KD X.K f H kvs m) (hbase : attributeBase e "values" X.env (eval e X.env) = eval e X.env := by rfl) (hline : (apos.endLine == cpos.line) = true := by rfl) : EvI M X.K (wI X tg (.Call (.Attribute e "values" apos) [] [] cpos)) σ H (m.map fun q => f q.2) := fun H1 g R r => of_pi (pi_values e_pe hbase hline) (h H1 g _ fun v H2 g2 p => by
  have g12 := g.t g2
  have h2 := g12.k a _ (g12.notD ha fun _ z => nomatch z) ha
  exact ⟨a, od, kvs, p, h2, r _ _ g2 (src_vals g2.r h2 (z.g g12))⟩)
theorem ei_items {elts : List Expr} {kk : Nat} {tpos : Pos} (h : Ev M (wE X e) σ H (Pv (.ref a))) (ha : H a = some (.frz od (.dK kvs))) (z : KD X.K f H kvs m) (hbase : attributeBase e "items" X.env (eval e X.env) = eval e X.env := by rfl) (hline : (apos.endLine == cpos.line) = true := by rfl) : EvI M X.K (wI X (.Tuple elts kk tpos) (.Call (.Attribute e "items" apos) [] [] cpos)) σ H (m.map fun q => .tuple [.str q.1, f q.2]) := fun H1 g R r => of_pi (pi_items e_pe hbase hline) (h H1 g _ fun v H2 g2 p => by
  have g12 := g.t g2
  have h2 := g12.k a _ (g12.notD ha fun _ z => nomatch z) ha
  exact ⟨a, od, kvs, p, h2, r _ _ g2 (src_items g2.r h2 (z.g g12))⟩)
/-! ### comprehensions with a test -/
theorem et_yes : EvT M tYes σ H (· = true) := fun H1 g Q q => q true H1 g.r rfl
theorem ev_lcG {scope : Scope} {own : List (Str × Nat)} {gt : TG} {ifs : List Expr} {tt : TT} (G : Nat → List PyData) (h0 : G 0 = []) (hc : X.calm = true) (hN : X.N.Nodup) (ok : BlkOk X.N X.env.scope scope own) (hi : EvI M X.K (wI X tg iter) σ H ds) (hl : ds.length ≤ 100000)
    (pg : ∀ (s : Shared) (H0 : Hp) (C : Addr) (cl : List (Str × Addr)) (fp : List Addr), PG (X.blk s H0 scope (compEnvC scope cl C X.env) fp) tg gt)
    (pt : ∀ (s : Shared) (H0 : Hp) (C : Addr) (cl : List (Str × Addr)) (fp : List Addr), PTs (X.blk s H0 scope (compEnvC scope cl C X.env) fp) ifs tt)
    (step : ∀ i d x H2, ds[i]? = some d → Gr M H H2 → Dv X.K H2 x d → ∀ Q : L2.St → Hp → Prop, (∀ (σ2 : L2.St) (b : Bool) (dv : PyData), wipe σ2 (own.map (·.2)) = wipe σ (own.map (·.2)) → EvT M tt σ2 H2 (· = b) → (b = true → Ev M (wEb X scope elt) σ2 H2 (Pd X.K dv)) → G (i + 1) = (if b = true then G i ++ [dv] else G i) → Q σ2 H2) → gt x (wipe σ (own.map (·.2))) H2 Q)
    (hs : ∀ x, foldedSetIterable iter X.env x = pure x := by exact fun _ => rfl) : Ev M (wE X (.ListComp elt [⟨tg, iter, ifs, 0⟩] scope pos)) σ H (PL X.K (G ds.length)) :=
  fun H1 g Q q => of_pe (pe_lc hc hN e_pi ok pg pt (fun s H0 C cl fp => eb_pe s H0 C cl fp) hs) (hi H1 g _ fun J H2 g2 ⟨Gh, Y, w, hG, hst, hy⟩ D hD =>
    lc_it w (fun i Hn => H2 D = none ∧ Gr M H2 Hn ∧ (G i).length ≤ i ∧ ∃ vs, Hn D = some (.lst vs) ∧ DvA X.K Hn vs (G i))
      ⟨hD, g2.r.new hD, by rw [h0]; exact Nat.le_refl _, [], upd_same, by rw [h0]; exact .nil⟩ (fun i Hn _ ⟨_, g3, _⟩ => hst Hn g3)
      (fun i x Ha Hb hi ⟨hDn, g3, hel, vs, hv, hz⟩ y => by
        obtain ⟨g4, d, ed, hd⟩ := hy i Ha x Hb g3 y hi
        have g5 : Gr M H Hb := ((g.t g2).t g3).t g4
        have nmD : ¬ M D := g2.nm' hDn
        refine step i d x Hb ed g5 hd _ fun σ2 b dv e1 et ee eg => ⟨e1, et Hb g5.r _ fun b' H3 g6 eb => ?_⟩
        subst eb
        cases b' with
        | true =>
          rw [if_pos rfl] at eg
          show if true = true then _ else _
          rw [if_pos rfl]
          refine ee rfl H3 g6 _ fun v H4 g7 hdv => ?_
          have g47 := (g4.t g6).t g7
          have hv4 : H4 D = some (.lst vs) := g47.k D _ nmD hv
          refine ⟨vs, hv4, ?_, hDn, (g3.t g47).mut hDn, ?_, vs ++ [v], upd_same, ?_⟩
          · rw [hz.length]
            exact lt_sz (by omega)
          · rw [eg, List.length_append]
            exact Nat.succ_le_succ hel
          · rw [eg]
            exact ((hz.g g47).app (.one hdv)).st hv4
        | false =>
          rw [if_neg (by decide)] at eg
          show if false = true then _ else _
          rw [if_neg (by decide)]
          exact ⟨hDn, (g3.t g4).t g6, by rw [eg]; omega, vs, (g4.t g6).k D _ nmD hv, by rw [eg]; exact hz.g (g4.t g6)⟩)
      (fun Hn ⟨hDn, g3, _, vs, hv, hz⟩ => q _ _ (g2.t g3) ⟨D, vs, rfl, g2.back hDn, hv, hz⟩))
/-- {kx: vx for tg in iter if ..} -/
theorem ev_tDc {scope : Scope} {own : List (Str × Nat)} {gt : TG} {tt : TT} (G : Nat → List (Str × β)) (h0 : G 0 = []) (hi : EvI M X.K (wI X tg iter) σ H ds) (hl : ds.length ≤ 100000)
    (step : ∀ i d x H2, ds[i]? = some d → Gr M H H2 → Dv X.K H2 x d → ∀ Q : L2.St → Hp → Prop, (∀ (σ2 : L2.St) (b : Bool) (n : Str) (z : β), wipe σ2 (own.map (·.2)) = wipe σ (own.map (·.2)) → EvT M tt σ2 H2 (· = b) → (b = true → Ev M (wEb X scope kx) σ2 H2 (Pd X.K (.str n)) ∧ Ev M (wEb X scope vx) σ2 H2 (Pd X.K (f z))) → G (i + 1) = (if b = true then trPut (G i) n z else G i) → Q σ2 H2) → gt x (wipe σ (own.map (·.2))) H2 Q) : Ev M (tDc (wI X tg iter) gt tt (wEb X scope kx) (wEb X scope vx) (own.map (·.2))) σ H (PDN X.K f (G ds.length)) :=
  fun H1 g Q q => hi H1 g _ fun J H2 g2 ⟨Gh, Y, w, hG, hst, hy⟩ D hD => by
    refine ⟨fun i k Hn => k = ds.length - i ∧ i ≤ ds.length ∧ Gr M H2 Hn ∧ (G i).length ≤ i ∧ DW X.K f Hn D (G i), ⟨ds.length, by simp, Nat.zero_le _, g2.r.new hD, by rw [h0]; exact Nat.le_refl _, by rw [h0]; exact DW.new hD⟩, ?_⟩
    rintro i k Hn ⟨rfl, hin, g3, hel, kvs, hv, hz⟩
    have nmD : ¬ M D := g2.nm' hD
    by_cases hlt : i < ds.length
    · refine .inr ⟨w.goes i Hn hlt (hst Hn g3), fun H' => i + 1 ≤ ds.length ∧ Gr M H2 H' ∧ (G (i + 1)).length ≤ i + 1 ∧ DW X.K f H' D (G (i + 1)), fun H' p' => ⟨ds.length - (i + 1), by omega, rfl, p'⟩, fun x Hb y0 => ?_⟩
      obtain ⟨g4, d, ed, hd⟩ := hy i Hn x Hb g3 (w.yields i Hn x Hb hlt (hst Hn g3) y0) hlt
      have g5 : Gr M H Hb := ((g.t g2).t g3).t g4
      refine step i d x Hb ed g5 hd _ fun σ2 b n z e1 et ee eg => ⟨e1, et Hb g5.r _ fun b' H3 g6 eb => ?_⟩
      subst eb
      cases b' with
      | true =>
        rw [if_pos rfl] at eg
        show if true = true then _ else _
        rw [if_pos rfl]
        refine (ee rfl).1 H3 g6 _ fun v H4 g7 hn => (ee rfl).2 H4 (g6.t g7) _ fun u H5 g8 hu => ?_
        have g48 := ((g4.t g6).t g7).t g8
        have hv4 : H5 D = some (.dK kvs) := g48.k D _ nmD hv
        obtain rfl := dv_str hn
        refine ⟨kvs, Sum.inr n, rfl, hv4, ?_, hlt, (g3.t g48).mut hD, ?_, ?_⟩
        · rw [hz.length]
          exact lt_sz (by omega)
        · rw [eg]
          unfold trPut
          split
          · rw [List.length_map]
            omega
          · rw [List.length_append]
            exact Nat.succ_le_succ hel
        · rw [eg]
          exact DW.put hv4 (hz.g g48) hu
      | false =>
        rw [if_neg (by decide)] at eg
        show if false = true then _ else _
        rw [if_neg (by decide)]
        exact ⟨hlt, (g3.t g4).t g6, by rw [eg]; omega, by rw [eg]; exact ⟨kvs, (g4.t g6).k D _ nmD hv, hz.g (g4.t g6)⟩⟩
    · have e : i = ds.length := by omega
      subst e
      exact .inl ⟨w.stops Hn (hst Hn g3), q _ _ (g2.t g3) ⟨D, rfl, g2.back hD, kvs, hv, hz⟩⟩
/-- {kx: vx for tg in iter if ..} -/
theorem ev_dc {scope : Scope} {own : List (Str × Nat)} {gt : TG} {ifs : List Expr} {tt : TT} (G : Nat → List (Str × β)) (h0 : G 0 = []) (hc : X.calm = true) (hN : X.N.Nodup) (ok : BlkOk X.N X.env.scope scope own) (hi : EvI M X.K (wI X tg iter) σ H ds) (hl : ds.length ≤ 100000)
    (pg : ∀ (s : Shared) (H0 : Hp) (C : Addr) (cl : List (Str × Addr)) (fp : List Addr), PG (X.blk s H0 scope (compEnvC scope cl C X.env) fp) tg gt)
    (pt : ∀ (s : Shared) (H0 : Hp) (C : Addr) (cl : List (Str × Addr)) (fp : List Addr), PTs (X.blk s H0 scope (compEnvC scope cl C X.env) fp) ifs tt)
    (step : ∀ i d x H2, ds[i]? = some d → Gr M H H2 → Dv X.K H2 x d → ∀ Q : L2.St → Hp → Prop, (∀ (σ2 : L2.St) (b : Bool) (n : Str) (z : β), wipe σ2 (own.map (·.2)) = wipe σ (own.map (·.2)) → EvT M tt σ2 H2 (· = b) → (b = true → Ev M (wEb X scope kx) σ2 H2 (Pd X.K (.str n)) ∧ Ev M (wEb X scope vx) σ2 H2 (Pd X.K (f z))) → G (i + 1) = (if b = true then trPut (G i) n z else G i) → Q σ2 H2) → gt x (wipe σ (own.map (·.2))) H2 Q)
    (hs : ∀ x, foldedSetIterable iter X.env x = pure x := by exact fun _ => rfl) : Ev M (wE X (.DictComp kx vx [⟨tg, iter, ifs, 0⟩] scope pos)) σ H (PDN X.K f (G ds.length)) :=
  fun H1 g Q q => of_pe (pe_dc hc hN e_pi ok pg pt (fun s H0 C cl fp => eb_pe s H0 C cl fp) (fun s H0 C cl fp => eb_pe s H0 C cl fp) hs) (ev_tDc (tt := tt) G h0 hi hl step H1 g Q q)
/-- name = {..} on one line, the name a local -/
theorem ps_dcSet {i : Nat} {y : Str} {py spos : Pos} {ifs : List Expr} {scope : Scope} {own : List (Str × Nat)} {wi : TI} {gt : TG} {tt : TT} {tk tv : TE} (calm : X.calm = true) (nd : X.N.Nodup) (hy : X.N[i]? = some y) (loc : X.env.scope.names.lookup y = some .local) (sw : swapsWith (.DictComp kx vx [⟨tg, iter, ifs, 0⟩] scope pos) (some (.Name y py)) spos.line X.env = pure true)
    (pit : PI X tg iter wi) (ok : BlkOk X.N X.env.scope scope own) (kg : ∀ (s : Shared) (H0 : Hp) (C : Addr) (cl : List (Str × Addr)) (fp : List Addr), PG (X.blk s H0 scope (compEnvC scope cl C X.env) fp) tg gt) (kt : ∀ (s : Shared) (H0 : Hp) (C : Addr) (cl : List (Str × Addr)) (fp : List Addr), PTs (X.blk s H0 scope (compEnvC scope cl C X.env) fp) ifs tt)
    (kk : ∀ (s : Shared) (H0 : Hp) (C : Addr) (cl : List (Str × Addr)) (fp : List Addr), PE (X.blk s H0 scope (compEnvC scope cl C X.env) fp) kx tk) (kw : ∀ (s : Shared) (H0 : Hp) (C : Addr) (cl : List (Str × Addr)) (fp : List Addr), PE (X.blk s H0 scope (compEnvC scope cl C X.env) fp) vx tv) (fo : ∀ x, foldedSetIterable iter X.env x = pure x) :
    PS X (.Assign [.Name y py] (.DictComp kx vx [⟨tg, iter, ifs, 0⟩] scope pos) spos) (tAsg (tDc wi gt tt tk tv (own.map (·.2))) (gName i)) := by
  refine ⟨fun pins s σ H D I asked => ?_⟩
  have asked : tDc wi gt tt tk tv (own.map (·.2)) σ H (fun x H1 => gName i x σ H1 D.nx) := asked
  rw [exec_Assign_Name_used _ _ _ _ sw]
  refine wpAny_bind (wpAny_standAt (wpAny_bind ?_))
  show wpAny _ X.A (do let _ ← comprehension (.DictComp kx vx [⟨tg, iter, ifs, 0⟩] scope pos) scope X.env (firstIterPos [⟨tg, iter, ifs, 0⟩] pos) newDict false (eval iter X.env) (some (assign (.Name y py) X.env))) _ _ s
  refine wpAny_bind (thn (dc_core (Qf := fun _ s' => SP X pins D .next s') calm nd I pit ok kg kt kk kw fo asked fun L C s2 m H2 I2 q ns free => ?_) fun _ s2 hq => wpAny_pure (wpAny_pure hq))
  obtain ⟨f0, f1, f2, f3, f4, f5⟩ := free
  show wpAny _ _ (assign (.Name y py) X.env (.ref L)) _ _ _
  refine wpAny_assign_Name (store_ok2 (v := V.ref L) I2 nd hy (.inl loc) rfl (fun s3 I3 ⟨a, sb, ha⟩ => ⟨m, ns.sameBut sb (fun e => ?_), fun h4 sb4 => ?_⟩) (.inr loc))
  · rcases ha with z | z
    · exact f1 (e.trans z)
    · exact f4 y a z e.symm
  · exact ⟨_, H2, I3.turned (t' := s3.toks) (fun b ob hb e => (sb4.2 b hb).trans e) f0 f1 f3 f4 f5, q⟩
end
end SR
set_option Elab.async false
set_option linter.all false
set_option maxRecDepth 100000
set_option maxHeartbeats 4000000
/-! read.marks: origins, marks -/
namespace SR
open PySem PySem.Spec PyProof.Rows L2
section
variable {M : Addr → Prop} {X : Cx} {σ : L2.St} {H : Hp} {o i j e c k1 k2 v1 v2 : Expr} {pos p apos cpos : Pos} {β : Type} {f : β → PyData} {m : List (Str × β)} {n n1 n2 : Str} {b b1 b2 : β} {d : PyData}
theorem dk_merge1 {K : PySem.W.Frag} {v : V} (h : Dv K H v (f b)) : KD K f H (mergeK [] [(Sum.inr n, v)]) (trPut [] n b) := KD.put .nil h
theorem dk_merge2 {K : PySem.W.Frag} {x y : V} (h1 : Dv K H x (f b1)) (h2 : Dv K H y (f b2)) : KD K f H (mergeK [] [(Sum.inr n1, x), (Sum.inr n2, y)]) (trPut (trPut [] n1 b1) n2 b2) := KD.put (KD.put .nil h1) h2
theorem ev_disp1 (hk : Ev M (wE X k1) σ H (Pd X.K (.str n))) (hv : Ev M (wE X v1) σ H (Pd X.K (f b))) : Ev M (wE X (.Dict [some k1] [v1] pos)) σ H (PDN X.K f (trPut [] n b)) :=
  fun H1 g Q q => of_pe (pe_disp (pps_cons e_pe e_pe pps_nil) rfl rfl (by simp) (by show 1 ≤ 15; decide)) fun l hl => hk _ (g.new hl) _ fun x H2 g2 px => hv H2 ((g.new hl).t g2) _ fun y H3 g3 py => by
    obtain rfl := dv_str px
    have g13 := g2.t g3
    have hl3 : H3 l = some (.dK []) := g13.k l _ (g.nm' hl) upd_same
    refine ⟨hl3, [(Sum.inr n, y)], rfl, by show 1 ≤ 15; decide, q _ _ ?_ ⟨l, rfl, hl, _, upd_same, (dk_merge1 py).sd hl3⟩⟩
    exact ((g.r.new hl).t g13).mut hl
theorem ev_disp2 (hk1 : Ev M (wE X k1) σ H (Pd X.K (.str n1))) (hv1 : Ev M (wE X v1) σ H (Pd X.K (f b1))) (hk2 : Ev M (wE X k2) σ H (Pd X.K (.str n2))) (hv2 : Ev M (wE X v2) σ H (Pd X.K (f b2))) : Ev M (wE X (.Dict [some k1, some k2] [v1, v2] pos)) σ H (PDN X.K f (trPut (trPut [] n1 b1) n2 b2)) :=
  fun H1 g Q q => of_pe (pe_disp (pps_cons e_pe e_pe (pps_cons e_pe e_pe pps_nil)) rfl rfl (by simp) (by show 2 ≤ 15; decide)) fun l hl => hk1 _ (g.new hl) _ fun x H2 g2 px => hv1 H2 ((g.new hl).t g2) _ fun y H3 g3 py =>
    hk2 H3 (((g.new hl).t g2).t g3) _ fun x' H4 g4 px' => hv2 H4 ((((g.new hl).t g2).t g3).t g4) _ fun y' H5 g5 py' => by
    obtain rfl := dv_str px
    obtain rfl := dv_str px'
    have g15 := ((g2.t g3).t g4).t g5
    have hl3 : H5 l = some (.dK []) := g15.k l _ (g.nm' hl) upd_same
    refine ⟨hl3, [(Sum.inr n1, y), (Sum.inr n2, y')], rfl, by show 2 ≤ 15; decide, q _ _ ?_ ⟨l, rfl, hl, _, upd_same, (dk_merge2 (Dv.g py (g4.t g5)) py').sd hl3⟩⟩
    exact ((g.r.new hl).t g15).mut hl
/-- o.get(i, j) -/
theorem ev_dgetD (hu : X.A.units + 64 < cLine) (h1 : Ev M (wE X o) σ H (PDR X.K f m)) (h2 : Ev M (wE X i) σ H (Pd X.K (.str n))) (h3 : Ev M (wE X j) σ H (Pd X.K d)) (mm : M2 X o "get" apos i j cpos := by exact ⟨rfl, rfl, rfl, rfl⟩) : Ev M (wE X (.Call (.Attribute o "get" apos) [i, j] [] cpos)) σ H (Pd X.K (((trGet m n).map f).getD d)) :=
  fun H1 g Q q => of_pe (pe_dget2 (u1 hu) e_pe e_pe e_pe mm) (h1 H1 g _ fun v H2 g2 ⟨a, ea, p⟩ => by
    obtain ⟨kvs0, hr0, _⟩ := p
    have p : DR X.K f H2 a m := ⟨kvs0, hr0, by assumption⟩
    refine ⟨a, ea, .inl ⟨_, hr0⟩, h2 H2 (g.t g2) _ fun u H3 g3 p3 => h3 H3 ((g.t g2).t g3) _ fun z H4 g4 p4 => ?_⟩
    obtain rfl := dv_str p3
    have g24 := (g2.t g3).t g4
    obtain ⟨kvs, hr, hk⟩ := p.g (g3.t g4)
    refine ⟨valV kvs (Sum.inr n), .inl ⟨kvs, Sum.inr n, hr, rfl, rfl⟩, q _ _ g24 ?_⟩
    rcases hk.get n with ⟨v', b, e1, e2, hv⟩ | ⟨e1, e2⟩
    · rw [e1, e2]
      exact hv
    · rw [e1, e2]
      exact p4)
end
/-! what a row lists -/
def expF (r : List Pc) : List (So × Nat) := r.flatMap fun p => (List.range p.n).map fun i => (p.so, p.a + i)
theorem expF_cons (p : Pc) (r : List Pc) : expF (p :: r) = ((List.range p.n).map fun i => (p.so, p.a + i)) ++ expF r := rfl
theorem expF_len (r : List Pc) : (expF r).length = lenF r := by
  induction r with
  | nil => rfl
  | cons p r ih => rw [expF_cons, List.length_append, ih, lenF_cons, List.length_map, List.length_range]
theorem partF_nil : ∀ (r : List Pc) (t f s : Nat), s ≤ t → partF r t f s = []
  | [], _, _, _, _ => rfl
  | p :: r, t, f, s, h => by
    show (if f - t < min (s - t) p.n then _ else []) ++ partF r (t + p.n) f s = []
    rw [if_neg (by omega), partF_nil r (t + p.n) f s (by omega)]
    rfl
theorem part_one : ∀ (r : List Pc) (t i : Nat), i < lenF r → ∃ so x, (expF r)[i]? = some (so, x) ∧ partF r t (t + i) (t + i + 1) = [⟨so, x, 1⟩]
  | [], t, i, h => absurd h (Nat.not_lt_zero i)
  | p :: r, t, i, h => by
    have e : partF (p :: r) t (t + i) (t + i + 1) = (if t + i - t < min (t + i + 1 - t) p.n then [⟨p.so, p.a + (t + i - t), min (t + i + 1 - t) p.n - (t + i - t)⟩] else []) ++ partF r (t + p.n) (t + i) (t + i + 1) := rfl
    rw [e, expF_cons]
    by_cases hi : i < p.n
    · refine ⟨p.so, p.a + i, ?_, ?_⟩
      · rw [List.getElem?_append_left (by simpa using hi)]
        simp [hi]
      · rw [if_pos (by omega), partF_nil _ _ _ _ (by omega), List.append_nil]
        congr 2 <;> omega
    · rw [lenF_cons] at h
      obtain ⟨so, x, h1, h2⟩ := part_one r (t + p.n) (i - p.n) (by omega)
      refine ⟨so, x, ?_, ?_⟩
      · rw [List.getElem?_append_right (by simpa using Nat.le_of_not_lt hi)]
        simpa using h1
      · rw [if_neg (by omega), List.nil_append]
        rw [show t + p.n + (i - p.n) = t + i by omega] at h2
        exact h2
def orgD (q : So × Nat) : PyData := .tuple [q.1.d, .int (q.2 : Int)]
section
variable {P : Program} {w : World} {K : PySem.W.Frag} {mg : Str → Option Value} {base : Heap}
theorem sc_origin_in : FnScope ["row", "at", "source", "first", "many"] ["row", "at"] (defScope st_origin_in) := ⟨rfl, rfl, rfl, by decide +kernel, rfl, by decide +kernel, by decide +kernel⟩
theorem ok_origin_in (T : Txt w K mg) : C8.Cal P w K mg base 2 "origin_in" (spD K (fun z : List Pc × Nat × (So × Nat) => [rowD z.1, .int (z.2.1 : Int)]) (fun z => orgD z.2.2) (fun z => z.1.length ≤ 10000 ∧ (expF z.1)[z.2.1]? = some z.2.2)) [] := by
  refine fn_ok T 20 rfl sc_origin_in (fun _ _ _ _ _ _ us hl => match us, hl with | [_, _], _ => rfl) (fun vs H Q E ⟨_, _, h, _⟩ => h.length) (fun f cdv A outer s H vs Q E hr ⟨⟨r, n, q⟩, hp, h, hQ⟩ => ?_)
  obtain ⟨v1, v2, rfl, h1, h2⟩ := dvA2 h
  have nd := sc_origin_in.nd
  have hn : n < lenF r := by
    rw [← expF_len]
    exact (List.getElem?_eq_some_iff.mp hp.2).1
  obtain ⟨so, x, e1, e2⟩ := part_one r 0 n hn
  rw [Nat.zero_add] at e2
  obtain rfl : q = (so, x) := Option.some.inj (hp.2.symm.trans e1)
  refine bl_asg (gt := gTup K 3 (gCons (gName 2) (gCons (gName 3) (gCons (gName 4) gNil)))) (Gr.z H) (pg_tup rfl (pgs_cons (pg_name nd rfl (Or.inl rfl)) (pgs_cons (pg_name nd rfl (Or.inl rfl)) (pgs_cons (pg_name nd rfl (Or.inl rfl)) pgs_nil))))
    (P := Pd K (Pc.d ⟨so, x, 1⟩)) (ev_ix (ds := (partF r 0 n (n + 1)).map Pc.d) (ev_callD (ok_part_in T) hr (by decide) (r, n, n + 1) hp.1 (ea_cons (ev_nm 0 h1) (ea_cons (ev_nm 1 h2) (ea_cons (Ev.is (ev_add (ev_nm 1 h2) ev_int) (by simp)) ea_nil)))) ev_int (by rw [e2]; rfl)) (fun v H1 g1 p1 => ?_)
  refine gt_3 p1 fun v1 v2 v3 k1 k2 k3 => ?_
  exact bl_ret g1.r (P := Pd K (orgD (so, x))) (ev_tup (ea_cons (ev_nm 2 k1) (ea_cons (ev_nm 3 k2) ea_nil)) (by simp)) (fun v H2 g p => hQ v H2 (g1.t g) p)
theorem sc_require_row : FnScope ["value"] ["value"] (defScope st_require_row) := ⟨rfl, rfl, rfl, by decide +kernel, rfl, by decide +kernel, by decide +kernel⟩
theorem ok_require_row (T : Txt w K mg) : C8.Cal P w K mg base 7 "require_row" (spN K (fun r : List Pc => [rowD r]) RowOk) [] := by
  refine fn_ok T 22 rfl sc_require_row (fun _ _ _ _ _ _ us hl => match us, hl with | [_], _ => rfl) (fun vs H Q E ⟨_, _, h, _⟩ => h.length) (fun f cdv A outer s H vs Q E hr ⟨z, hp, h, hQ⟩ => ?_)
  obtain ⟨v, rfl, h1⟩ := dvA1 h
  exact bl_when (Gr.z H) (et_notF (ev_callD (ok_is_row T) hr (by decide) z hp (ea_cons (ev_nm 0 h1) ea_nil))) (fun z => nf z) (fun _ H1 g1 => bl_nil (hQ _ _ g1 .non))
theorem sc_row_length : FnScope ["row"] ["row"] (defScope st_row_length) := ⟨rfl, rfl, rfl, by decide +kernel, rfl, by decide +kernel, by decide +kernel⟩
theorem ok_row_length (T : Txt w K mg) : C8.Cal P w K mg base 8 "row_length" (spD K (fun r : List Pc => [rowD r]) (fun r => .int (lenF r : Nat)) RowOk) [] := by
  refine fn_ok T 23 rfl sc_row_length (fun _ _ _ _ _ _ us hl => match us, hl with | [_], _ => rfl) (fun vs H Q E ⟨_, _, h, _⟩ => h.length) (fun f cdv A outer s H vs Q E hr ⟨z, hp, h, hQ⟩ => ?_)
  obtain ⟨v, rfl, h1⟩ := dvA1 h
  refine bl_expr (Gr.z H) (ev_callD (ok_require_row T) hr (by decide) z hp (ea_cons (ev_nm 0 h1) ea_nil)) (fun v H1 g1 _ => ?_)
  exact bl_ret g1.r (P := Pd K (.int (lenF z : Nat))) (ev_callD (ok_length_in T) hr (by decide) z hp.len (ea_cons (ev_nm 0 (h1.g g1)) ea_nil)) (fun v H2 g p => hQ v H2 (g1.t g) p)
theorem sc_origin : FnScope ["row", "at"] ["row", "at"] (defScope st_origin) := ⟨rfl, rfl, rfl, by decide +kernel, rfl, by decide +kernel, by decide +kernel⟩
theorem ok_origin (T : Txt w K mg) : C8.Cal P w K mg base 8 "origin" (spD K (fun z : List Pc × Nat × (So × Nat) => [rowD z.1, .int (z.2.1 : Int)]) (fun z => orgD z.2.2) (fun z => RowOk z.1 ∧ lenF z.1 ≤ 100000 ∧ (expF z.1)[z.2.1]? = some z.2.2)) [] := by
  refine fn_ok T 24 rfl sc_origin (fun _ _ _ _ _ _ us hl => match us, hl with | [_, _], _ => rfl) (fun vs H Q E ⟨_, _, h, _⟩ => h.length) (fun f cdv A outer s H vs Q E hr ⟨⟨r, n, q⟩, hp, h, hQ⟩ => ?_)
  obtain ⟨v1, v2, rfl, h1, h2⟩ := dvA2 h
  obtain ⟨hp1, hp2, hp3⟩ := hp
  simp only at hp1 hp2 hp3
  have hn : n < lenF r := by
    rw [← expF_len]
    exact (List.getElem?_eq_some_iff.mp hp3).1
  refine bl_expr (Gr.z H) (ev_callD (ok_require_row T) hr (by decide) r hp1 (ea_cons (ev_nm 0 h1) ea_nil)) (fun v H1 g1 _ => ?_)
  have h1' := h1.g g1
  have h2' := h2.g g1
  refine bl_when g1.r (et_notF (ev_within (ok_is_within T) hr (by decide) (ev_nm 1 h2') ev_int (ev_min2 rfl T.f_min (ea_ii (ev_sub (ev_callD (ok_length_in T) hr (by decide) r hp1.len (ea_cons (ev_nm 0 h1') ea_nil)) ev_int) (ev_gi T.c_LONGEST))) ?_)) (fun z => nf z) (fun _ H2 g2 => ?_)
  · have e0 : ((lenF r : Nat) : Int) ≤ 100000 := by omega
    have e3 : ((n : Nat) : Int) < (lenF r : Nat) := by omega
    show (0 : Int) ≤ (n : Int) ∧ (n : Int) ≤ min (((lenF r : Nat) : Int) - 1) (10 ^ 60 - 1)
    refine ⟨by omega, Int.le_min.mpr ⟨by omega, by omega⟩⟩
  · exact bl_ret g2.r (P := Pd K (orgD q)) (ev_callD (ok_origin_in T) hr (by decide) (r, n, q) ⟨hp1.len, hp3⟩ (ea_cons (ev_nm 0 (h1'.g g2)) (ea_cons (ev_nm 1 (h2'.g g2)) ea_nil))) (fun v H3 g p => hQ v H3 ((g1.t g2).t g) p)
theorem sc_new_length : FnScope ["mark"] ["mark"] (defScope st_new_length) := ⟨rfl, rfl, rfl, by decide +kernel, rfl, by decide +kernel, by decide +kernel⟩
theorem ok_new_length (T : Txt w K mg) : C8.Cal P w K mg base 1 "new_length" (spD K (fun k : Mark => [k.d]) (fun k => .int (k.news : Int)) (fun _ => True)) [] := by
  refine fn_ok T 9 rfl sc_new_length (fun _ _ _ _ _ _ us hl => match us, hl with | [_], _ => rfl) (fun vs H Q E ⟨_, _, h, _⟩ => h.length) (fun f cdv A outer s H vs Q E hr ⟨k, hp, h, hQ⟩ => ?_)
  obtain ⟨v, rfl, h1⟩ := dvA1 h
  cases k with
  | put n l => exact bl_ret (Gr.z H) (P := Pd K (.int (l : Int))) (Ev.is (ev_dgetD (hu64 hr) (Ev.nr (ev_disp2 (f := PyData.int) (b1 := (l : Int)) (b2 := 0) (ev_gs T.c_PUT) (ev_ix (ev_nm 0 h1) (ev_neg ev_int) rfl) (ev_gs T.c_PATCH) (ev_if (EvT.is (c := false) (et_eqS (ev_ix (ev_nm 0 h1) ev_int rfl) (ev_gs T.c_PATCH)) (by decide +kernel)) (fun z => nt z) (fun _ => ev_int)))) (ev_ix (ev_nm 0 h1) ev_int rfl) ev_int) rfl) (fun v H1 g p => hQ v H1 g p)
  | patch n i o l hh => exact bl_ret (Gr.z H) (P := Pd K (.int (l : Int))) (Ev.is (ev_dgetD (hu64 hr) (Ev.nr (ev_disp2 (f := PyData.int) (b1 := (hh : Int)) (b2 := (l : Int)) (ev_gs T.c_PUT) (ev_ix (ev_nm 0 h1) (ev_neg ev_int) rfl) (ev_gs T.c_PATCH) (ev_if (EvT.is (c := true) (et_eqS (ev_ix (ev_nm 0 h1) ev_int rfl) (ev_gs T.c_PATCH)) (by decide +kernel)) (fun _ => ev_ix (ev_nm 0 h1) ev_int rfl) (fun z => nf z)))) (ev_ix (ev_nm 0 h1) ev_int rfl) ev_int) rfl) (fun v H1 g p => hQ v H1 g p)
  | drop n hh => exact bl_ret (Gr.z H) (P := Pd K (.int 0)) (Ev.is (ev_dgetD (hu64 hr) (Ev.nr (ev_disp2 (f := PyData.int) (b1 := (hh : Int)) (b2 := 0) (ev_gs T.c_PUT) (ev_ix (ev_nm 0 h1) (ev_neg ev_int) rfl) (ev_gs T.c_PATCH) (ev_if (EvT.is (c := false) (et_eqS (ev_ix (ev_nm 0 h1) ev_int rfl) (ev_gs T.c_PATCH)) (by decide +kernel)) (fun z => nt z) (fun _ => ev_int)))) (ev_ix (ev_nm 0 h1) ev_int rfl) ev_int) rfl) (fun v H1 g p => hQ v H1 g p)
  | rename n n2 hh => exact bl_ret (Gr.z H) (P := Pd K (.int 0)) (Ev.is (ev_dgetD (hu64 hr) (Ev.nr (ev_disp2 (f := PyData.int) (b1 := (hh : Int)) (b2 := 0) (ev_gs T.c_PUT) (ev_ix (ev_nm 0 h1) (ev_neg ev_int) rfl) (ev_gs T.c_PATCH) (ev_if (EvT.is (c := false) (et_eqS (ev_ix (ev_nm 0 h1) ev_int rfl) (ev_gs T.c_PATCH)) (by decide +kernel)) (fun z => nt z) (fun _ => ev_int)))) (ev_ix (ev_nm 0 h1) ev_int rfl) ev_int) rfl) (fun v H1 g p => hQ v H1 g p)
end
end SR
set_option Elab.async false
set_option linter.all false
set_option maxRecDepth 100000
set_option maxHeartbeats 4000000
/-! read.marks: marks -/
namespace SR
open PySem PySem.Spec PyProof.Rows L2
section
variable {M : Addr → Prop} {X : Cx} {σ : L2.St} {H : Hp} {o i e : Expr} {pos p : Pos} {n : Str}
theorem gt_4 {K : PySem.W.Frag} {i j l u : Nat} {v : V} {d1 d2 d3 d4 : PyData} {Q : L2.St → Hp → Prop} (h : Dv K H v (.tuple [d1, d2, d3, d4])) (k : ∀ v1 v2 v3 v4, Dv K H v1 d1 → Dv K H v2 d2 → Dv K H v3 d3 → Dv K H v4 d4 → Q ((((σ.set i (some v1)).set j (some v2)).set l (some v3)).set u (some v4)) H) : gTup K 4 (gCons (gName i) (gCons (gName j) (gCons (gName l) (gCons (gName u) gNil)))) v σ H Q := by
  obtain ⟨a, xs, rfl, hs, ha⟩ := dv_tup h
  cases ha with
  | cons h1 h2 =>
    obtain ⟨_, _, _, rfl, h3, h4, h5⟩ := dvA3 h2
    exact ⟨a, _, rfl, hs, rfl, _, _, rfl, _, _, rfl, _, _, rfl, _, _, rfl, rfl, k _ _ _ _ h1 h3 h4 h5⟩
theorem ev_sizes (T : Txt X.w X.K X.mg) (hg : Gl X "SIZES" := by rfl) : Ev M (wE X (.Name "SIZES" pos)) σ H (Pv (.ref (He.ga X.K "SIZES"))) := fun H1 g Q q => of_pe (pe_glob (v := .ref (He.ga X.K "SIZES")) hg T.mgS rfl) (q _ _ g.r rfl)
theorem et_inSizes (T : Txt X.w X.K X.mg) {k : Int} (hk : (n, k) ∈ ([(("put" : Str), (3 : Int)), (("patch" : Str), 6), (("drop" : Str), 3), (("rename" : Str), 4)] : List (Str × Int))) (h : Ev M (wE X i) σ H (Pd X.K (.str n))) (hg : Gl X "SIZES" := by rfl) {p2 : Pos} (hm : behindInMarks .NotIn (.Name "SIZES" p2) = false := by rfl) : EvT M (wT X (.Compare i [.NotIn] [.Name "SIZES" p2] pos)) σ H (· = false) := by
  obtain ⟨es, n0, D⟩ := T.sz
  obtain ⟨t, e⟩ := T.szv _ hk
  refine et_cv ⟨_, op_notIn_kd D, fun v u H1 H2 H3 g1 p1 g2 p2 Q q => ?_⟩ h (ev_sizes T hg) hm
  obtain rfl := dv_str p1
  obtain rfl := p2
  exact ⟨n, _, rfl, rfl, e, q⟩
theorem ev_sizeAt (T : Txt X.w X.K X.mg) {k : Int} (hk : (n, k) ∈ ([(("put" : Str), (3 : Int)), (("patch" : Str), 6), (("drop" : Str), 3), (("rename" : Str), 4)] : List (Str × Int))) (h : Ev M (wE X i) σ H (Pd X.K (.str n))) (hg : Gl X "SIZES" := by rfl) {p2 : Pos} (hs : PlainIx i := by exact fun _ _ => rfl) : Ev M (wE X (.Subscript (.Name "SIZES" p2) i pos)) σ H (Pd X.K (.int k)) := by
  obtain ⟨es, n0, D⟩ := T.sz
  obtain ⟨t, e⟩ := T.szv _ hk
  exact fun H1 g Q q => of_pe (pe_ix ix_kdict e_pe e_pe hs) (ev_sizes T hg H1 g _ fun v H2 g2 p1 => h H2 (g.t g2) _ fun u H3 g3 p3 => by
    obtain rfl := dv_str p3
    exact ⟨_, n, .int k, p1, rfl, ⟨es, n0, _, D.at_, D.lit, e, ⟨t, rfl⟩⟩, q _ _ (g2.t g3) (.int k)⟩)
end
section
variable {P : Program} {w : World} {K : PySem.W.Frag} {mg : Str → Option Value} {base : Heap}
theorem sc_is_patch_mark : FnScope ["value", "at", "out", "length", "ahead"] ["value"] (defScope st_is_patch_mark) := ⟨rfl, rfl, rfl, by decide +kernel, rfl, by decide +kernel, by decide +kernel⟩
theorem ok_is_patch_mark (T : Txt w K mg) : C8.Cal P w K mg base 3 "is_patch_mark" (spT K (fun z : Str × Nat × Nat × Nat × Nat => [Mark.d (.patch z.1 z.2.1 z.2.2.1 z.2.2.2.1 z.2.2.2.2)]) (fun z => Mark.ok (.patch z.1 z.2.1 z.2.2.1 z.2.2.2.1 z.2.2.2.2))) [] := by
  refine fn_ok T 10 rfl sc_is_patch_mark (fun _ _ _ _ _ _ us hl => match us, hl with | [_], _ => rfl) (fun vs H Q E ⟨_, _, h, _⟩ => h.length) (fun f cdv A outer s H vs Q E hr ⟨⟨n, i, o, l, hh⟩, hp, h, hQ⟩ => ?_)
  obtain ⟨v, rfl, h1⟩ := dvA1 h
  have nd := sc_is_patch_mark.nd
  obtain ⟨_, q1, q2, q3, q4, q5⟩ := hp
  simp only at q1 q2 q3 q4 q5
  refine bl_asg (gt := gTup K 4 (gCons (gName 1) (gCons (gName 2) (gCons (gName 3) (gCons (gName 4) gNil))))) (Gr.z H) (pg_tup rfl (pgs_cons (pg_name nd rfl (Or.inl rfl)) (pgs_cons (pg_name nd rfl (Or.inl rfl)) (pgs_cons (pg_name nd rfl (Or.inl rfl)) (pgs_cons (pg_name nd rfl (Or.inl rfl)) pgs_nil)))))
    (P := Pd K (.tuple [.int (i : Int), .int (o : Int), .int (l : Int), .int (hh : Int)])) (Ev.is (ev_sl (ev_nm 0 h1) (po_some e_pe) po_none (eo_some ev_int) eo_none) (congrArg PyData.tuple (cut_from _ 2))) (fun v H1 g1 p1 => ?_)
  refine gt_4 p1 fun v1 v2 v3 v4 k1 k2 k3 k4 => ?_
  refine bl_when g1.r (et_w (ew_orF (et_notF (ev_within (ok_is_within T) hr (by decide) (ev_nm 4 k4) ev_int (ev_gi T.c_MOST_LENGTH) ?_)) (ew_orF (et_notF (ev_within (ok_is_within T) hr (by decide) (ev_nm 1 k1) ev_int (ev_nm 4 k4) ?_)) (ew_or1 (et_notF (ev_within (ok_is_within T) hr (by decide) (ev_nm 2 k2) ev_int (ev_sub (ev_nm 4 k4) (ev_nm 1 k1)) ?_)))))) (fun z => nf z) (fun _ H2 g2 => ?_)
  · omega
  · omega
  · omega
  · refine bl_ret g2.r (P := Pd K (.bool true)) (ev_andT (ev_within (ok_is_within T) hr (by decide) (ev_nm 3 (k3.g g2)) ev_int (ev_gi T.c_MOST_NEW) ?_) (ev_one (Ev.is (ev_le (ev_add (ev_sub (ev_nm 4 (k4.g g2)) (ev_nm 2 (k2.g g2))) (ev_nm 3 (k3.g g2))) (ev_gi T.c_MOST_LENGTH)) ?_))) (fun v H3 g p => hQ v H3 ((g1.t g2).t g) p)
    · omega
    · rw [decide_eq_true (by omega)]
def Mark.kind : Mark → Str
  | .put _ _ => "put"
  | .patch _ _ _ _ _ => "patch"
  | .drop _ _ => "drop"
  | .rename _ _ _ => "rename"
def Mark.last : Mark → Nat
  | .put _ l => l
  | .patch _ _ _ _ h => h
  | .drop _ h => h
  | .rename _ _ h => h
theorem sc_is_mark : FnScope ["value"] ["value"] (defScope st_is_mark) := ⟨rfl, rfl, rfl, by decide +kernel, rfl, by decide +kernel, by decide +kernel⟩
theorem gd_mark {k : Mark} (h : k.ok) : Gd k.d := by
  have str : ∀ z : Str, (∀ c ∈ z.cps.toList, c < 0x110000) → (PyData.str z).canLay0 = true := fun z hz => (gd_str hz).c
  cases k with
  | put n l => exact ⟨lay_tup fun d hd => by
      simp only [List.mem_cons, List.not_mem_nil, or_false] at hd
      rcases hd with rfl | rfl | rfl
      · exact str _ (by decide +kernel)
      · exact (gd_nm h.1).c
      · exact (gd_int _).c, by simp [Mark.d, PyData.depth, PyData.depthAll]⟩
  | patch n i o l hh => exact ⟨lay_tup fun d hd => by
      simp only [List.mem_cons, List.not_mem_nil, or_false] at hd
      rcases hd with rfl | rfl | rfl | rfl | rfl | rfl
      · exact str _ (by decide +kernel)
      · exact (gd_nm h.1).c
      all_goals exact (gd_int _).c, by simp [Mark.d, PyData.depth, PyData.depthAll]⟩
  | drop n hh => exact ⟨lay_tup fun d hd => by
      simp only [List.mem_cons, List.not_mem_nil, or_false] at hd
      rcases hd with rfl | rfl | rfl
      · exact str _ (by decide +kernel)
      · exact (gd_nm h.1).c
      · exact (gd_int _).c, by simp [Mark.d, PyData.depth, PyData.depthAll]⟩
  | rename n n2 hh => exact ⟨lay_tup fun d hd => by
      simp only [List.mem_cons, List.not_mem_nil, or_false] at hd
      rcases hd with rfl | rfl | rfl | rfl
      · exact str _ (by decide +kernel)
      · exact (gd_nm h.1).c
      · exact (gd_nm h.2.1).c
      · exact (gd_int _).c, by simp [Mark.d, PyData.depth, PyData.depthAll]⟩
theorem ev_sub0 {M : Addr → Prop} {X : Cx} {σ : L2.St} {H : Hp} {e : Expr} {pos p : Pos} {k : Mark} (h : Ev M (wE X e) σ H (Pd X.K k.d)) (j0 : Nat) : Ev M (wE X (.Subscript e (.Constant (.int 0) j0 p) pos)) σ H (Pd X.K (.str k.kind)) := by
  cases k <;> exact ev_ix h ev_int rfl
theorem ev_sub1 {M : Addr → Prop} {X : Cx} {σ : L2.St} {H : Hp} {e : Expr} {pos p : Pos} {k : Mark} (h : Ev M (wE X e) σ H (Pd X.K k.d)) (j0 : Nat) : Ev M (wE X (.Subscript e (.Constant (.int 1) j0 p) pos)) σ H (Pd X.K (.str k.name)) := by
  cases k <;> exact ev_ix h ev_int rfl
theorem ev_subL {M : Addr → Prop} {X : Cx} {σ : L2.St} {H : Hp} {e : Expr} {pos p p2 : Pos} {k : Mark} (h : Ev M (wE X e) σ H (Pd X.K k.d)) (j0 : Nat) : Ev M (wE X (.Subscript e (.UnaryOp .USub (.Constant (.int 1) j0 p) p2) pos)) σ H (Pd X.K (.int (k.last : Int))) := by
  cases k <;> exact ev_ix h (ev_neg ev_int) rfl
theorem ev_markT {M : Addr → Prop} {X : Cx} {σ : L2.St} {H : Hp} {e : Expr} {k : Mark} (h : Ev M (wE X e) σ H (Pd X.K k.d)) : ∃ ds d, Ev M (wE X e) σ H (Pd X.K (.tuple (d :: ds))) ∧ k.d = .tuple (d :: ds) := by
  cases k <;> exact ⟨_, _, h, rfl⟩
def Mark.size : Mark → Int
  | .put _ _ => 3
  | .patch _ _ _ _ _ => 6
  | .drop _ _ => 3
  | .rename _ _ _ => 4
theorem Mark.size_in (k : Mark) : (k.kind, k.size) ∈ ([(("put" : Str), (3 : Int)), (("patch" : Str), 6), (("drop" : Str), 3), (("rename" : Str), 4)] : List (Str × Int)) := by
  cases k <;> simp [Mark.kind, Mark.size]
theorem Mark.nm {k : Mark} (h : k.ok) : nmOk k.name := by
  cases k <;> exact h.1
theorem ev_mlen {M : Addr → Prop} {X : Cx} {σ : L2.St} {H : Hp} {e : Expr} {pos p : Pos} {k : Mark} (hm : X.mg "len" = none) (h : Ev M (wE X e) σ H (Pd X.K k.d)) (hg : Gl X "len" := by rfl) (he : starEach [e] X.env = (false, eval e X.env) :: starEach [] X.env := by rfl) : Ev M (wE X (.Call (.Name "len" p) [e] [] pos)) σ H (Pd X.K (.int k.size)) := by
  cases k <;> exact ev_lenT hm h hg he
theorem ev_misT {M : Addr → Prop} {X : Cx} {σ : L2.St} {H : Hp} {e : Expr} {pos p p2 : Pos} {k : Mark} (hm : X.mg "isinstance" = none) (hx : X.mg "tuple" = none) (h : Ev M (wE X e) σ H (Pd X.K k.d)) (hg : Gl X "isinstance" := by rfl) (hgx : Gl X "tuple" := by rfl)
    (he : starEach [e, .Name "tuple" p2] X.env = (false, eval e X.env) :: starEach [.Name "tuple" p2] X.env := by rfl) : Ev M (wE X (.Call (.Name "isinstance" p) [e, .Name "tuple" p2] [] pos)) σ H (Pd X.K (.bool true)) := by
  cases k <;> exact ev_isi (ki_tt _) hm hx bt_tuple h hg hgx (by decide) (by decide) he
theorem eqv_markN (k : Mark) : PyData.eqv k.d (.tuple []) = false := by cases k <;> simp [Mark.d, PyData.eqv, PyData.eqvAll]
theorem kd_put_put : decide (("put" : Str) = "put") = true := by decide +kernel
theorem kd_put_patch : decide (("put" : Str) = "patch") = false := by decide +kernel
theorem kd_put_drop : decide (("put" : Str) = "drop") = false := by decide +kernel
theorem kd_put_rename : decide (("put" : Str) = "rename") = false := by decide +kernel
theorem kd_patch_put : decide (("patch" : Str) = "put") = false := by decide +kernel
theorem kd_patch_patch : decide (("patch" : Str) = "patch") = true := by decide +kernel
theorem kd_patch_drop : decide (("patch" : Str) = "drop") = false := by decide +kernel
theorem kd_patch_rename : decide (("patch" : Str) = "rename") = false := by decide +kernel
theorem kd_drop_put : decide (("drop" : Str) = "put") = false := by decide +kernel
theorem kd_drop_patch : decide (("drop" : Str) = "patch") = false := by decide +kernel
theorem kd_drop_drop : decide (("drop" : Str) = "drop") = true := by decide +kernel
theorem kd_drop_rename : decide (("drop" : Str) = "rename") = false := by decide +kernel
theorem kd_rename_put : decide (("rename" : Str) = "put") = false := by decide +kernel
theorem kd_rename_patch : decide (("rename" : Str) = "patch") = false := by decide +kernel
theorem kd_rename_drop : decide (("rename" : Str) = "drop") = false := by decide +kernel
theorem kd_rename_rename : decide (("rename" : Str) = "rename") = true := by decide +kernel
theorem kind_patch (k : Mark) : decide (k.kind = "patch") = match k with
    | .patch _ _ _ _ _ => true
    | _ => false := by
  cases k
  · exact kd_put_patch
  · exact kd_patch_patch
  · exact kd_drop_patch
  · exact kd_rename_patch
theorem kind_rename (k : Mark) : decide (k.kind = "rename") = match k with
    | .rename _ _ _ => true
    | _ => false := by
  cases k
  · exact kd_put_rename
  · exact kd_patch_rename
  · exact kd_drop_rename
  · exact kd_rename_rename
theorem kind_put (k : Mark) : decide (k.kind = "put") = match k with
    | .put _ _ => true
    | _ => false := by
  cases k
  · exact kd_put_put
  · exact kd_patch_put
  · exact kd_drop_put
  · exact kd_rename_put
theorem kind_drop (k : Mark) : decide (k.kind = "drop") = match k with
    | .drop _ _ => true
    | _ => false := by
  cases k
  · exact kd_put_drop
  · exact kd_patch_drop
  · exact kd_drop_drop
  · exact kd_rename_drop
theorem ok_is_mark (T : Txt w K mg) : C8.Cal P w K mg base 4 "is_mark" (spT K (fun k : Mark => [k.d]) Mark.ok) [] := by
  refine fn_ok T 11 rfl sc_is_mark (fun _ _ _ _ _ _ us hl => match us, hl with | [_], _ => rfl) (fun vs H Q E ⟨_, _, h, _⟩ => h.length) (fun f cdv A outer s H vs Q E hr ⟨k, hp, h, hQ⟩ => ?_)
  obtain ⟨v, rfl, h1⟩ := dvA1 h
  refine bl_when (Gr.z H) (et_w (ew_orF (et_notF (ev_misT T.f_isinstance T.f_tuple (ev_nm 0 h1))) (ew_orF (EvT.is (et_eq (hu64 hr) (gd_mark hp).s (by decide +kernel) (ev_nm 0 h1) (ev_tup ea_nil (by simp))) (eqv_markN k)) (ew_orF (et_notF (ev_isi (ki_ss _) T.f_isinstance T.f_str bt_str (ev_sub0 (ev_nm 0 h1) _))) (ew_or1 (et_inSizes T k.size_in (ev_sub0 (ev_nm 0 h1) _))))))) (fun z => nf z) (fun _ H1 g1 => ?_)
  have h2 := h1.g g1
  refine bl_when g1.r (et_w (ew_orF (EvT.is (et_neI (ev_mlen T.f_len (ev_nm 0 h2)) (ev_sizeAt T k.size_in (ev_sub0 (ev_nm 0 h2) _))) (by simp)) (ew_or1 (et_notF (ev_callD (ok_is_name T) hr (by decide) k.name (Mark.nm hp) (ea_cons (ev_sub1 (ev_nm 0 h2) _) ea_nil)))))) (fun z => nf z) (fun _ H2 g2 => ?_)
  have h3 := h2.g g2
  have g12 := g1.t g2
  refine bl_when g2.r (et_eqS (ev_sub0 (ev_nm 0 h3) _) (ev_gs T.c_PATCH)) (fun z H3 g3 => ?_) (fun z H3 g3 => ?_)
  · cases k with
    | patch n i o l hh => exact bl_ret g3.r (P := Pd K (.bool true)) (ev_callD (ok_is_patch_mark T) hr (by decide) (n, i, o, l, hh) hp (ea_cons (ev_nm 0 (h3.g g3)) ea_nil)) (fun v H4 g p => hQ v H4 ((g12.t g3).t g) p)
    | put n l => exact absurd (z.trans kd_put_patch) (by decide)
    | drop n l => exact absurd (z.trans kd_drop_patch) (by decide)
    | rename n n2 l => exact absurd (z.trans kd_rename_patch) (by decide)
  · have h4 := h3.g g3
    have g13 := g12.t g3
    cases k with
    | patch n i o l hh => exact absurd (z.trans kd_patch_patch) (by decide)
    | put n l =>
      refine bl_when g3.r (et_w (ew_andF (EvT.is (c := false) (et_eqS (ev_sub0 (k := .put n l) (ev_nm 0 h4) _) (ev_gs T.c_RENAME)) kd_put_rename))) (fun z => nf z) (fun _ H4 g4 => ?_)
      exact bl_ret g4.r (P := Pd K (.bool true)) (ev_within (ok_is_within T) hr (by decide) (ev_subL (k := .put n l) (ev_nm 0 (h4.g g4)) _) ev_int (ev_if (d := .int 48) (EvT.is (c := true) (et_eqS (ev_sub0 (k := .put n l) (ev_nm 0 (h4.g g4)) _) (ev_gs T.c_PUT)) kd_put_put) (fun _ => ev_gi T.c_MOST_NEW) (fun z => nf z)) (by have h48 := hp.2; have e : Mark.last (.put n l) = l := rfl; rw [e]; omega)) (fun v H5 g p => hQ v H5 ((g13.t g4).t g) p)
    | drop n l =>
      refine bl_when g3.r (et_w (ew_andF (EvT.is (c := false) (et_eqS (ev_sub0 (k := .drop n l) (ev_nm 0 h4) _) (ev_gs T.c_RENAME)) kd_drop_rename))) (fun z => nf z) (fun _ H4 g4 => ?_)
      exact bl_ret g4.r (P := Pd K (.bool true)) (ev_within (ok_is_within T) hr (by decide) (ev_subL (k := .drop n l) (ev_nm 0 (h4.g g4)) _) ev_int (ev_if (d := .int 996) (EvT.is (c := false) (et_eqS (ev_sub0 (k := .drop n l) (ev_nm 0 (h4.g g4)) _) (ev_gs T.c_PUT)) kd_drop_put) (fun z => nt z) (fun _ => ev_gi T.c_MOST_LENGTH)) (by have h48 := hp.2; have e : Mark.last (.drop n l) = l := rfl; rw [e]; omega)) (fun v H5 g p => hQ v H5 ((g13.t g4).t g) p)
    | rename n n2 l =>
      refine bl_when g3.r (et_w (ew_andT (EvT.is (c := true) (et_eqS (ev_sub0 (k := .rename n n2 l) (ev_nm 0 h4) _) (ev_gs T.c_RENAME)) kd_rename_rename) (ew_and1 (et_w (ew_orF (et_notF (ev_callD (ok_is_name T) hr (by decide) n2 hp.2.1 (ea_cons (ev_ix (ev_nm 0 h4) ev_int rfl) ea_nil))) (ew_or1 (EvT.is (c := false) (et_eqS (ev_sub1 (k := .rename n n2 l) (ev_nm 0 h4) _) (ev_ix (ev_nm 0 h4) ev_int rfl)) (decide_eq_false hp.2.2.1)))))))) (fun z => nf z) (fun _ H4 g4 => ?_)
      exact bl_ret g4.r (P := Pd K (.bool true)) (ev_within (ok_is_within T) hr (by decide) (ev_subL (k := .rename n n2 l) (ev_nm 0 (h4.g g4)) _) ev_int (ev_if (d := .int 996) (EvT.is (c := false) (et_eqS (ev_sub0 (k := .rename n n2 l) (ev_nm 0 (h4.g g4)) _) (ev_gs T.c_PUT)) kd_rename_put) (fun z => nt z) (fun _ => ev_gi T.c_MOST_LENGTH)) (by have h48 := hp.2.2.2; have e : Mark.last (.rename n n2 l) = l := rfl; rw [e]; omega)) (fun v H5 g p => hQ v H5 ((g13.t g4).t g) p)
theorem sc_require_mark : FnScope ["value"] ["value"] (defScope st_require_mark) := ⟨rfl, rfl, rfl, by decide +kernel, rfl, by decide +kernel, by decide +kernel⟩
theorem ok_require_mark (T : Txt w K mg) : C8.Cal P w K mg base 5 "require_mark" (spN K (fun k : Mark => [k.d]) Mark.ok) [] := by
  refine fn_ok T 21 rfl sc_require_mark (fun _ _ _ _ _ _ us hl => match us, hl with | [_], _ => rfl) (fun vs H Q E ⟨_, _, h, _⟩ => h.length) (fun f cdv A outer s H vs Q E hr ⟨z, hp, h, hQ⟩ => ?_)
  obtain ⟨v, rfl, h1⟩ := dvA1 h
  exact bl_when (Gr.z H) (et_notF (ev_callD (ok_is_mark T) hr (by decide) z hp (ea_cons (ev_nm 0 h1) ea_nil))) (fun z => nf z) (fun _ H1 g1 => bl_nil (hQ _ _ g1 .non))
end
end SR
set_option Elab.async false
set_option linter.all false
set_option maxRecDepth 100000
set_option maxHeartbeats 4000000
/-! read.pieces: what an outline is, its slots, its methods as defs -/
namespace SR
open PySem PySem.Spec PyProof.Rows L2
structure Ou where
  gr : Option (Int × Int)
  en : List (Str × List Pc)
  go : List (Str × Unit)
  aks : List (Str × Option Nat)
def grD : Option (Int × Int) → PyData
  | none => .none
  | some s => saveD s
def askD : Option Nat → PyData
  | none => .none
  | some n => .int (n : Int)
def oneD : Unit → PyData := fun _ => .bool true
structure OA where
  a : Addr
  dx : Addr
  da : Addr
  de : Addr
  dg : Addr
  vg : V
abbrev OA.vs (p : OA) : List (Option V) := [some (.ref p.da), some (.ref p.de), some (.ref p.dg), some p.vg]
/-- an instance with slots -/
structure Sl0 (K : PySem.W.Frag) (H : Hp) (a dx : Addr) (vs : List (Option V)) : Prop where
  slt : SlX.Slt H a (oC K) dx vs
  xd : (∃ z, H dx = some (.own z)) ∨ H dx = some (.xd [])
  ne : dx ≠ a
section
variable {K : PySem.W.Frag} {M : Addr → Prop} {H H' H1 H2 : Hp} {a b d dx : Addr} {vs us : List (Option V)} {v : V} {e : PyData}
theorem Gr.keep {o : HO} (g : Gr M H H') (h : H a = some o) (ho : ∀ xs, o ≠ .lst xs) : H' a = some o := g.k a o (g.notD h ho) h
theorem Sl0.g (s : Sl0 K H a dx vs) (g : Gr M H H') : Sl0 K H' a dx vs := by
  refine ⟨?_, ?_, s.ne⟩
  · rcases s.slt with ⟨h, e⟩ | ⟨h, h2⟩
    · exact .inl ⟨g.keep h (fun _ z => nomatch z), e⟩
    · exact .inr ⟨g.keep h (fun _ z => nomatch z), g.keep h2 (fun _ z => nomatch z)⟩
  · rcases s.xd with ⟨z, h⟩ | h
    · exact .inl ⟨z, g.keep h fun _ z => nomatch z⟩
    · exact .inr (g.keep h fun _ z => nomatch z)
theorem Sl0.aD (s : Sl0 K H a dx vs) {u : List (Key × V)} : H a ≠ some (.dK u) := fun z => by
  rcases s.slt with ⟨h, e⟩ | ⟨h, h2⟩ <;> (rw [h] at z; cases z)
theorem Sl0.xD (s : Sl0 K H a dx vs) {u : List (Key × V)} : H dx ≠ some (.dK u) := fun z => by
  rcases s.xd with ⟨_, h⟩ | h <;> (rw [h] at z; cases z)
theorem Sl0.aN (s : Sl0 K H a dx vs) : H a ≠ none := fun z => by
  rcases s.slt with ⟨h, e⟩ | ⟨h, h2⟩ <;> (rw [h] at z; cases z)
theorem Sl0.xN (s : Sl0 K H a dx vs) : H dx ≠ none := fun z => by
  rcases s.xd with ⟨_, h⟩ | h <;> (rw [h] at z; cases z)
theorem Sl0.dm (s : Sl0 K H a dx vs) (x : DM H d H') : Sl0 K H' a dx vs := by
  have n1 : a ≠ d := fun z => by
    obtain ⟨u, _, e, _⟩ := x
    exact s.aD (z ▸ e)
  have n2 : dx ≠ d := fun z => by
    obtain ⟨u, _, e, _⟩ := x
    exact s.xD (z ▸ e)
  refine ⟨?_, ?_, s.ne⟩
  · rcases s.slt with ⟨h, e⟩ | ⟨h, h2⟩
    · exact .inl ⟨(x.ne n1).trans h, e⟩
    · exact .inr ⟨(x.ne n1).trans h, (x.ne n2).trans h2⟩
  · rw [x.ne n2]
    exact s.xd
theorem Sl0.set (s : Sl0 K H a dx vs) : Sl0 K (SlX.slH H a (oC K) dx us) a dx us := ⟨SlX.slH_slt s.ne, .inr (by unfold SlX.slH; rw [upd_ne s.ne, upd_same]), s.ne⟩
theorem sq_set (s : Sl0 K H a dx vs) {xs : List V} (z : SqT K H b xs) : SqT K (SlX.slH H a (oC K) dx us) b xs := by
  rcases z with (z | ⟨o, z⟩) | z
  · refine .inl (.inl ?_)
    rw [SlX.slH_ne]
    · exact z
    · intro e
      subst e
      rcases s.slt with ⟨h, _⟩ | ⟨h, _⟩ <;> (rw [h] at z; cases z)
    · intro e
      subst e
      rcases s.xd with ⟨_, h⟩ | h <;> (rw [h] at z; cases z)
  · refine .inl (.inr ⟨o, ?_⟩)
    rw [SlX.slH_ne]
    · exact z
    · intro e
      subst e
      rcases s.slt with ⟨h, _⟩ | ⟨h, _⟩ <;> (rw [h] at z; cases z)
    · intro e
      subst e
      rcases s.xd with ⟨_, h⟩ | h <;> (rw [h] at z; cases z)
  · exact .inr z
theorem tu_set (s : Sl0 K H a dx vs) {xs : List V} (z : H b = some (.tup xs)) : SlX.slH H a (oC K) dx us b = some (.tup xs) := by
  rw [SlX.slH_ne]
  · exact z
  · intro e
    subst e
    rcases s.slt with ⟨h, _⟩ | ⟨h, _⟩ <;> (rw [h] at z; cases z)
  · intro e
    subst e
    rcases s.xd with ⟨_, h⟩ | h <;> (rw [h] at z; cases z)
theorem Dv.set (z : Dv K H v e) (s : Sl0 K H a dx vs) : Dv K (SlX.slH H a (oC K) dx us) v e := Dv.imp (fun _ _ z => tu_set s z) e v z
theorem DW.set {β : Type} {f : β → PyData} {m : List (Str × β)} (z : DW K f H b m) (s : Sl0 K H a dx vs) : DW K f (SlX.slH H a (oC K) dx us) b m := by
  obtain ⟨kvs, h1, h2⟩ := z
  refine ⟨kvs, ?_, h2.imp fun _ _ y => y.set s⟩
  rw [SlX.slH_ne]
  · exact h1
  · intro e
    subst e
    exact s.aD h1
  · intro e
    subst e
    exact s.xD h1
theorem Gr.set {s0 : Sl0 K H1 a dx vs} (g : Gr M H H1) (ha : H a = none) (hx : H dx = none) : Gr M H (SlX.slH H1 a (oC K) dx us) := (g.mut hx).mut ha
theorem DW.ne {β : Type} {f : β → PyData} {m : List (Str × β)} {d : Addr} (w : DW K f H b m) (hd : H d = none) : b ≠ d := fun z => by
  obtain ⟨_, h1, _⟩ := w
  rw [z, hd] at h1
  cases h1
/-- an outline -/
structure OuAt (K : PySem.W.Frag) (H : Hp) (p : OA) (o : Ou) : Prop where
  sl : Sl0 K H p.a p.dx p.vs
  vg : Dv K H p.vg (grD o.gr)
  das : DW K askD H p.da o.aks
  den : DW K rowD H p.de o.en
  dgo : DW K oneD H p.dg o.go
  n1 : p.da ≠ p.de
  n2 : p.da ≠ p.dg
  n3 : p.de ≠ p.dg
theorem OuAt.g {p : OA} {o : Ou} (h : OuAt K H p o) (g : Gr M H H') : OuAt K H' p o := ⟨h.sl.g g, h.vg.g g, h.das.g g, h.den.g g, h.dgo.g g, h.n1, h.n2, h.n3⟩
/-- all of it new -/
structure OuNew (H : Hp) (p : OA) : Prop where
  a : H p.a = none
  dx : H p.dx = none
  da : H p.da = none
  de : H p.de = none
  dg : H p.dg = none
def PO (K : PySem.W.Frag) (o : Ou) : PV := fun v _ H2 => ∃ p : OA, v = .ref p.a ∧ OuAt K H2 p o
def PON (K : PySem.W.Frag) (o : Ou) : PV := fun v H1 H2 => ∃ p : OA, v = .ref p.a ∧ OuNew H1 p ∧ OuAt K H2 p o
theorem stb_o {o : Ou} : Stb M (PO K o) := fun _ _ _ _ _ _ _ g ⟨p, e, h⟩ => ⟨p, e, h.g g⟩
/-- what an outline's dicts may have been given -/
def Ex (p : OA) (H H' : Hp) : Prop := ∀ x o, x ≠ p.da → x ≠ p.de → x ≠ p.dg → H x = some o → H' x = some o
theorem Ex.t {p : OA} (e : Ex p H H1) (f : Ex p H1 H2) : Ex p H H2 := fun x o a b c h => f x o a b c (e x o a b c h)
theorem Ex.gr {p : OA} (g : Gr M0 H H') : Ex p H H' := fun x o _ _ _ h => g.k x o (fun z => z) h
theorem DM.exa {p : OA} (x : DM H p.da H') : Ex p H H' := fun y o a _ _ h => (x.ne a).trans h
theorem DM.exe {p : OA} (x : DM H p.de H') : Ex p H H' := fun y o _ a _ h => (x.ne a).trans h
theorem DM.exg {p : OA} (x : DM H p.dg H') : Ex p H H' := fun y o _ _ a h => (x.ne a).trans h
theorem OuAt.ada {p : OA} {o : Ou} (h : OuAt K H p o) : ∃ u, H p.da = some (.dK u) := let ⟨u, e, _⟩ := h.das; ⟨u, e⟩
theorem OuAt.ade {p : OA} {o : Ou} (h : OuAt K H p o) : ∃ u, H p.de = some (.dK u) := let ⟨u, e, _⟩ := h.den; ⟨u, e⟩
theorem OuAt.adg {p : OA} {o : Ou} (h : OuAt K H p o) : ∃ u, H p.dg = some (.dK u) := let ⟨u, e, _⟩ := h.dgo; ⟨u, e⟩
theorem OuAt.ne {p : OA} {o : Ou} (h : OuAt K H p o) {x : Addr} {w : HO} (hx : H x = some w) (hw : ∀ u, w ≠ .dK u) : x ≠ p.da ∧ x ≠ p.de ∧ x ≠ p.dg := by
  obtain ⟨u1, e1⟩ := h.ada
  obtain ⟨u2, e2⟩ := h.ade
  obtain ⟨u3, e3⟩ := h.adg
  refine ⟨fun z => ?_, fun z => ?_, fun z => ?_⟩ <;> subst z
  · rw [e1] at hx
    exact hw _ (Option.some.inj hx).symm
  · rw [e2] at hx
    exact hw _ (Option.some.inj hx).symm
  · rw [e3] at hx
    exact hw _ (Option.some.inj hx).symm
theorem Ex.keep {p : OA} {o : Ou} (x : Ex p H H') (h : OuAt K H p o) {y : Addr} {w : HO} (hy : H y = some w) (hw : ∀ u, w ≠ .dK u) : H' y = some w :=
  let ⟨a, b, c⟩ := h.ne hy hw
  x y w a b c hy
theorem Ex.dv {p : OA} {o : Ou} (x : Ex p H H') (h : OuAt K H p o) (z : Dv K H v e) : Dv K H' v e := Dv.imp (fun b xs z => x.keep h z fun _ z => nomatch z) e v z
/-- a new outline's dicts change: that is growth -/
theorem Ex.grow {p : OA} {o : Ou} (x : Ex p H1 H2) (h : OuAt K H1 p o) (n : OuNew H p) (g : Gr M H H1) : Gr M H H2 := by
  refine ⟨g.a, fun y w m e => ?_, fun y m => ?_⟩
  · refine x y w (fun z => ?_) (fun z => ?_) (fun z => ?_) (g.k y w m e) <;> subst z
    · rw [n.da] at e
      cases e
    · rw [n.de] at e
      cases e
    · rw [n.dg] at e
      cases e
  · obtain ⟨i, j, k, e⟩ := g.b y m
    exact ⟨i, j, k, x.keep h e fun _ z => nomatch z⟩
end
/-! ### slots, methods -/
section
variable {M : Addr → Prop} {X : Cx} {σ : L2.St} {H : Hp} {o e value : Expr} {es : List Expr} {pos pos' p apos : Pos} {P : PV} {D : Ends} {rest : List Stmt} {a dx : Addr} {vs : List (Option V)} {f m : Str} {j k : Nat} {v : V} {sp : Sp} {PA' : PVs}
theorem ev_slot (T : Txt X.w X.K X.mg) (hf : (f, j) ∈ slts) (S : Sl0 X.K H a dx vs) (hv : vs[j]? = some (some v)) (he : Ev M (wE X e) σ H (Pv (.ref a))) (hb : attributeBase e f X.env (eval e X.env) = eval e X.env := by rfl) : Ev M (wE X (.Attribute e f pos)) σ H (Pv v) :=
  fun H1 g Q q => of_pe (SlX.pe_sl e_pe hb) (he H1 g _ fun x H2 g2 px => ⟨a, oC X.K, dx, pA X.K f, vs, j, v, px, (S.g (g.t g2)).slt, T.sc, T.sl _ hf, hv, q v H2 g2 rfl⟩)
theorem sl_a : (("own_asks" : Str), 0) ∈ slts := by unfold slts; exact List.mem_cons_self
theorem sl_e : (("own_entries" : Str), 1) ∈ slts := by unfold slts; exact List.mem_cons_of_mem _ List.mem_cons_self
theorem sl_g : (("own_gone" : Str), 2) ∈ slts := by unfold slts; exact List.mem_cons_of_mem _ (List.mem_cons_of_mem _ List.mem_cons_self)
theorem sl_r : (("own_ground" : Str), 3) ∈ slts := by unfold slts; exact List.mem_cons_of_mem _ (List.mem_cons_of_mem _ (List.mem_cons_of_mem _ List.mem_cons_self))
/-- o.f = value -/
theorem bl_slset (T : Txt X.w X.K X.mg) (hf : (f, j) ∈ slts) (g : Gr M H H) (hv : Ev M (wE X value) σ H P) (ho : Ev M (wE X o) σ H (Pv (.ref a))) (S : Sl0 X.K H a dx vs) (hst : ∀ v H0 H1 H2, Gr M H0 H1 → Gr M H1 H2 → P v H0 H1 → P v H0 H2)
    (k : ∀ y H1, Gr M H H1 → P y H H1 → Sl0 X.K H1 a dx vs → wB X rest D σ (SlX.slH H1 a (oC X.K) dx (SlX.putS j y vs))) (hs : swapsWith value (some (.Attribute o f pos')) pos.line X.env = pure false := by rfl) : wB X (.Assign [.Attribute o f pos'] value pos :: rest) D σ H :=
  of_pss (pss_cons (SlX.ps_sl e_pe e_pe hs) e_pss) (hv H g _ fun y H1 g1 p1 => ho H1 g1 _ fun x H2 g2 px => ⟨a, oC X.K, dx, pA X.K f, vs, j, px, (S.g (g1.t g2)).slt, T.sc, T.sl _ hf, k y H2 (g1.t g2) (hst _ _ _ _ g1 g2 p1) (S.g (g1.t g2))⟩)
theorem ev_meth (T : Txt X.w X.K X.mg) (F : FnR X.prog X.w X.K X.mg X.base CX0 k (pA X.K m) sp) (hm : Meth X.K (oC X.K) m (pA X.K m)) (hr : Room j X.A) (hk : k ≤ j) (ho : Ev M (wE X o) σ H (Pv (.ref a))) (S : Sl0 X.K H a dx vs) (ha : EvA M (wA X (e :: es)) σ H PA')
    (q1 : ∀ ws H0 H1 H2, Gr M H H0 → Gr M H0 H1 → Gr M H1 H2 → PA' ws H1 H2 → ∀ Q : VK, (∀ v H3, Gr M H2 H3 → P v H0 H3 → Q v H3) → sp (.ref a :: ws) H2 Q E0)
    (hst : starEach (e :: es) X.env = (false, eval e X.env) :: starEach es X.env := by rfl) (hpl : (backTo pos (starEach es X.env)).any (·.1) = false := by rfl) (pl : Sem Bool)
    (ht : eval (.Call (.Attribute o m apos) (e :: es) [] pos) X.env = (do
      let ov ← eval o X.env
      standAt apos.atName
      let (f, first) ← holding [ov] (getMethod ov m pl)
      callWith pos f first (backTo pos (starEach (e :: es) X.env)) (backToKw pos (keywordEach [] X.env))) := by rfl) : Ev M (wE X (.Call (.Attribute o m apos) (e :: es) [] pos)) σ H P :=
  fun H1 g Q q => of_pe (SlX.pe_methSl (pl := pl) e_pe T.sc hm (F.mono hk) hr pass0 e_pa hst hpl ht) (ho H1 g _ fun x H2 g2 px => ⟨a, dx, vs, px, (S.g (g.t g2)).slt, ha H2 (g.t g2) _ fun ws H3 g3 pw => by
    have : x = .ref a := px
    subst this
    exact q1 ws H1 H2 H3 g g2 g3 pw Q fun v H4 g4 p4 => q v H4 ((g2.t g3).t g4) p4⟩)
theorem ev_meth0 (T : Txt X.w X.K X.mg) (F : FnR X.prog X.w X.K X.mg X.base CX0 k (pA X.K m) sp) (hm : Meth X.K (oC X.K) m (pA X.K m)) (hr : Room j X.A) (hk : k ≤ j) (ho : Ev M (wE X o) σ H (Pv (.ref a))) (S : Sl0 X.K H a dx vs)
    (q1 : ∀ H0 H1, Gr M H H0 → Gr M H0 H1 → ∀ Q : VK, (∀ v H3, Gr M H1 H3 → P v H0 H3 → Q v H3) → sp [.ref a] H1 Q E0) (pl : Sem Bool)
    (ht : eval (.Call (.Attribute o m apos) [] [] pos) X.env = (do
      let ov ← eval o X.env
      standAt apos.atName
      let (f, first) ← holding [ov] (getMethod ov m pl)
      callWith pos f first (backTo pos (starEach [] X.env)) (backToKw pos (keywordEach [] X.env))) := by rfl) : Ev M (wE X (.Call (.Attribute o m apos) [] [] pos)) σ H P :=
  fun H1 g Q q => of_pe (SlX.pe_methSl0 (pl := pl) e_pe T.sc hm (F.mono hk) hr pass0 ht) (ho H1 g _ fun x H2 g2 px => ⟨a, dx, vs, px, (S.g (g.t g2)).slt, by
    have : x = .ref a := px
    subst this
    exact q1 H1 H2 g g2 Q fun v H4 g4 p4 => q v H4 (g2.t g4) p4⟩)
/-- o.m(es): a statement of its own -/
theorem bl_methE (T : Txt X.w X.K X.mg) (F : FnR X.prog X.w X.K X.mg X.base CX0 k (pA X.K m) sp) (hm : Meth X.K (oC X.K) m (pA X.K m)) (hr : Room j X.A) (hk : k ≤ j) (g : Gr M H H) (ho : Ev M (wE X o) σ H (Pv (.ref a))) (S : Sl0 X.K H a dx vs) (ha : EvA M (wA X (e :: es)) σ H PA')
    (k : ∀ ws H1 H2, Gr M H H1 → Gr M H1 H2 → PA' ws H1 H2 → sp (.ref a :: ws) H2 (fun _ H3 => wB X rest D σ H3) E0)
    (hst : starEach (e :: es) X.env = (false, eval e X.env) :: starEach es X.env := by rfl) (hpl : (backTo pos (starEach es X.env)).any (·.1) = false := by rfl) (pl : Sem Bool)
    (ht : eval (.Call (.Attribute o m apos) (e :: es) [] pos) X.env = (do
      let ov ← eval o X.env
      standAt apos.atName
      let (f, first) ← holding [ov] (getMethod ov m pl)
      callWith pos f first (backTo pos (starEach (e :: es) X.env)) (backToKw pos (keywordEach [] X.env))) := by rfl) (hs : swapsWith (.Call (.Attribute o m apos) (e :: es) [] pos) none pos'.line X.env = pure false := by rfl) :
    wB X (.Expr (.Call (.Attribute o m apos) (e :: es) [] pos) pos' :: rest) D σ H :=
  of_pss (pss_cons (ps_expr (SlX.pe_methSl (pl := pl) e_pe T.sc hm (F.mono hk) hr pass0 e_pa hst hpl ht) hs) e_pss) (ho H g _ fun x H2 g2 px => ⟨a, dx, vs, px, (S.g g2).slt, ha H2 g2 _ fun ws H3 g3 pw => by
    have : x = .ref a := px
    subst this
    exact k ws H2 H3 g2 g3 pw⟩)
/-- x = o.m(es) -/
theorem bl_methS {i : Nat} {x : Str} {p2 : Pos} (T : Txt X.w X.K X.mg) (F : FnR X.prog X.w X.K X.mg X.base CX0 k (pA X.K m) sp) (hm : Meth X.K (oC X.K) m (pA X.K m)) (hr : Room j X.A) (hk : k ≤ j) (g : Gr M H H) (ho : Ev M (wE X o) σ H (Pv (.ref a))) (S : Sl0 X.K H a dx vs) (ha : EvA M (wA X (e :: es)) σ H PA')
    (k : ∀ ws H1 H2, Gr M H H1 → Gr M H1 H2 → PA' ws H1 H2 → sp (.ref a :: ws) H2 (fun v H3 => wB X rest D (σ.set i (some v)) H3) E0) (hN : X.N.Nodup)
    (hi : X.N[i]? = some x := by rfl) (hx : Loc X.env.scope x := by first | exact Or.inl rfl | exact Or.inr rfl) (hst : starEach (e :: es) X.env = (false, eval e X.env) :: starEach es X.env := by rfl) (hpl : (backTo pos (starEach es X.env)).any (·.1) = false := by rfl) (pl : Sem Bool)
    (ht : eval (.Call (.Attribute o m apos) (e :: es) [] pos) X.env = (do
      let ov ← eval o X.env
      standAt apos.atName
      let (f, first) ← holding [ov] (getMethod ov m pl)
      callWith pos f first (backTo pos (starEach (e :: es) X.env)) (backToKw pos (keywordEach [] X.env))) := by rfl)
    (hs2 : swapsWithSole [.Name x p2] (.Call (.Attribute o m apos) (e :: es) [] pos) pos'.line X.env = pure false := by rfl) (hf : X.fn x = true ∨ X.env.scope.names.lookup x = some .local := by first | exact .inl rfl | exact .inr rfl) :
    wB X (.Assign [.Name x p2] (.Call (.Attribute o m apos) (e :: es) [] pos) pos' :: rest) D σ H :=
  of_pss (pss_cons (ps_asg (SlX.pe_methSl (pl := pl) e_pe T.sc hm (F.mono hk) hr pass0 e_pa hst hpl ht) (pg_name hN hi hx hf) hs2) e_pss) (ho H g _ fun x H2 g2 px => ⟨a, dx, vs, px, (S.g g2).slt, ha H2 g2 _ fun ws H3 g3 pw => by
    have : x = .ref a := px
    subst this
    exact k ws H2 H3 g2 g3 pw⟩)
/-- o.f, a property -/
theorem ev_prop (T : Txt X.w X.K X.mg) (F : FnR X.prog X.w X.K X.mg X.base CX0 k (gA X.K f) sp) (hp : PropOf X.K (oC X.K) f (pA X.K f) (gA X.K f)) (hr : Room j X.A) (hk : k + 1 ≤ j) (ho : Ev M (wE X o) σ H (Pv (.ref a))) (S : Sl0 X.K H a dx vs)
    (q1 : ∀ H0 H1, Gr M H H0 → Gr M H0 H1 → ∀ Q : VK, (∀ v H3, Gr M H1 H3 → P v H0 H3 → Q v H3) → sp [.ref a] H1 Q E0) (hb : attributeBase o f X.env (eval o X.env) = eval o X.env := by rfl) : Ev M (wE X (.Attribute o f pos)) σ H P :=
  fun H1 g Q q => of_pe (SlX.pe_propSl e_pe T.sc hp.at_ hp.get hp.tak hp.rec_ F (hr.mono hk) (fun _ _ _ _ h => h) hb) (ho H1 g _ fun x H2 g2 px => ⟨a, dx, vs, px, (S.g (g.t g2)).slt, by
    have : x = .ref a := px
    subst this
    exact q1 H1 H2 g g2 Q fun v H4 g4 p4 => q v H4 (g2.t g4) p4⟩)
end
section
variable {P : Program} {w : World} {K : PySem.W.Frag} {mg : Str → Option Value} {base : Heap}
theorem Txt.meth (T : Txt w K mg) {q : Str × Str × Stmt} (h : q ∈ mdefs) : Meth K (oC K) q.1 (pA K q.1) := (T.m q h).choose_spec.2
theorem Txt.prop (T : Txt w K mg) {q : Str × Str × Stmt} (h : q ∈ pdefs) : PropOf K (oC K) q.1 (pA K q.1) (gA K q.1) := (T.p q h).choose_spec.2
theorem met_ok (T : Txt w K mg) (i : Nat) {x q : Str} {st : Stmt} {N ps : List Str} {k : Nat} {sp : Sp} (hi : mdefs[i]? = some (x, q, st)) (S : FnScope N ps (defScope st))
    (hb : ∀ (kV doc pm : Value) (an : Option Addr) (cdv ct : Value) (us : List Value), us.length = ps.length → bindArgs (PySem.W.fnOf x q (defArgs st) (defBody st) (defScope st) .none kV doc pm an cdv ct) ⟨us, []⟩ = pure (ps.zip us))
    (len : ∀ vs H Q E, sp vs H Q E → vs.length = ps.length)
    (body : ∀ (f : Addr) (cdv : Value) (A : Around) (outer : List Env) (s : Shared) (H : Hp) (vs : List V) (Q : VK) (E : XK), Room k (A.deeper (envOfC q (defScope st) s.heap.objs.size f cdv)) → sp vs H Q E →
      wB (cX P w K mg base N q st f cdv A outer s H E) (defBody st) { nx := fun _ H' => Q .non H', rt := Q } (start N vs) H) : ∃ fd, FnOk P w K mg base CX0 (k + 1) (pA K x) fd ps sp ∧ Binds K fd ps [] := by
  obtain ⟨fd, F, hm⟩ := T.m (x, q, st) (List.mem_of_getElem? hi)
  exact ⟨fd, F.ok S len fun cdv A outer s H vs Q E hr h => ⟨_, PSs.nox e_pss, body _ cdv A outer s H vs Q E hr h⟩, F.bindsN hb⟩
theorem raw_of {x : Str} {ps : List Str} {k : Nat} {sp : Sp} {f : Addr} (h : ∃ fd, FnOk P w K mg base CX0 k f fd ps sp ∧ Binds K fd ps []) : FnR P w K mg base CX0 k f sp := by
  obtain ⟨fd, F, B⟩ := h
  exact (F.raw B .nil).imp fun vs H Q E h => by
    rw [List.append_nil]
    exact h
theorem prp_ok (T : Txt w K mg) (i : Nat) {x q : Str} {st : Stmt} {N ps : List Str} {k : Nat} {sp : Sp} (hi : pdefs[i]? = some (x, q, st)) (S : FnScope N ps (defScope st))
    (hb : ∀ (kV doc pm : Value) (an : Option Addr) (cdv ct : Value) (us : List Value), us.length = ps.length → bindArgs (PySem.W.fnOf x q (defArgs st) (defBody st) (defScope st) .none kV doc pm an cdv ct) ⟨us, []⟩ = pure (ps.zip us))
    (len : ∀ vs H Q E, sp vs H Q E → vs.length = ps.length)
    (body : ∀ (f : Addr) (cdv : Value) (A : Around) (outer : List Env) (s : Shared) (H : Hp) (vs : List V) (Q : VK) (E : XK), Room k (A.deeper (envOfC q (defScope st) s.heap.objs.size f cdv)) → sp vs H Q E →
      wB (cX P w K mg base N q st f cdv A outer s H E) (defBody st) { nx := fun _ H' => Q .non H', rt := Q } (start N vs) H) : FnR P w K mg base CX0 (k + 1) (gA K x) sp := by
  obtain ⟨fd, F, hm⟩ := T.p (x, q, st) (List.mem_of_getElem? hi)
  exact raw_of (x := x) ⟨fd, F.ok S len fun cdv A outer s H vs Q E hr h => ⟨_, PSs.nox e_pss, body _ cdv A outer s H vs Q E hr h⟩, F.bindsN hb⟩
end
end SR
set_option Elab.async false
set_option linter.all false
set_option maxRecDepth 100000
set_option maxHeartbeats 4000000
/-! Outline: made, copied, asked -/
namespace SR
open PySem PySem.Spec PyProof.Rows L2
def grOk (g : Option (Int × Int)) : Prop := ∀ s, g = some s → saveOk s
def ouN (g : Option (Int × Int)) : Ou := ⟨g, [], [], []⟩
theorem isNon_gr (g : Option (Int × Int)) : isNon (grD g) = g.isNone := by cases g <;> rfl
section
variable {P : Program} {w : World} {K : PySem.W.Frag} {mg : Str → Option Value} {base : Heap}
def spInit (K : PySem.W.Frag) : Sp := fun vs H Q _ => ∃ (a dx : Addr) (v : V) (g : Option (Int × Int)), vs = [.ref a, v] ∧ Sl0 K H a dx [] ∧ Dv K H v (grD g) ∧ grOk g ∧
  ∀ (p : OA) H', p.a = a → p.dx = dx → H p.da = none → H p.de = none → H p.dg = none → (∀ x o, x ≠ a → x ≠ dx → H x = some o → H' x = some o) → OuAt K H' p (ouN g) → Q .non H'
theorem sc_init : FnScope ["self", "ground"] ["self", "ground"] (defScope sm_init) := ⟨rfl, rfl, rfl, by decide +kernel, rfl, by decide +kernel, by decide +kernel⟩
theorem stb_dn2 {M : Addr → Prop} {β : Type} {f : β → PyData} {m : List (Str × β)} : ∀ v H0 H1 H2, Gr M H0 H1 → Gr M H1 H2 → PDN K f m v H0 H1 → PDN K f m v H0 H2 := fun _ _ _ _ _ g ⟨a, e, n, h⟩ => ⟨a, e, n, h.g g⟩
theorem slH_keep {H : Hp} {a dx x : Addr} {vs : List (Option V)} {o : HO} (h1 : x ≠ a) (h2 : x ≠ dx) (h : H x = some o) : SlX.slH H a (oC K) dx vs x = some o := (SlX.slH_ne h1 h2).trans h
theorem slH_none {H : Hp} {a dx x : Addr} {vs us : List (Option V)} (s : Sl0 K H a dx us) (h : SlX.slH H a (oC K) dx vs x = none) : H x = none := by
  by_cases h1 : x = a
  · subst h1
    unfold SlX.slH at h
    rw [upd_same] at h
    cases h
  · by_cases h2 : x = dx
    · subst h2
      unfold SlX.slH at h
      rw [upd_ne h1, upd_same] at h
      cases h
    · rw [SlX.slH_ne h1 h2] at h
      exact h
theorem ok_init (T : Txt w K mg) : ∃ fd, FnOk P w K mg base CX0 5 (pA K "__init__") fd ["self", "ground"] (spInit K) ∧ Binds K fd ["self", "ground"] [] := by
  refine met_ok T 0 rfl sc_init (fun _ _ _ _ _ _ us hl => match us, hl with | [_, _], _ => rfl) (fun vs H Q E ⟨_, _, _, _, h, _⟩ => by rw [h]; rfl) (fun f cdv A outer s H vs Q E hr ⟨a, dx, v, g, hv, hs, hd, hg, hQ⟩ => ?_)
  subst hv
  -- the rest, when the ground is checked
  have fin : ∀ H1, Gr M0 H H1 → wB (cX P w K mg base ["self", "ground"] "Outline.__init__" sm_init f cdv A outer s H E) ((defBody sm_init).drop 1) { nx := fun _ H' => Q .non H', rt := Q } (start ["self", "ground"] [.ref a, v]) H1 := by
    intro H1 g1
    have s1 := hs.g g1
    have d1 := hd.g g1
    refine bl_slset T sl_r (Gr.z H1) (P := Pv v) (ev_nmV 1) (ev_nmV 0) s1 (fun _ _ _ _ _ _ h => h) (fun y H2 g2 ey s2 => ?_)
    obtain rfl : y = v := ey
    have d3 := (d1.g g2).set (us := SlX.putS 3 y []) s2
    have s3 := s2.set (us := SlX.putS 3 y [])
    refine bl_slset T sl_e (Gr.z _) (P := PDN K rowD []) ev_dnil (ev_nmV 0) s3 stb_dn2 (fun y4 H4 g4 p4 s4 => ?_)
    obtain ⟨de, rfl, n4, w4⟩ := p4
    have d5 := (d3.g g4).set (us := SlX.putS 1 (.ref de) (SlX.putS 3 y [])) s4
    have w5 := w4.set (us := SlX.putS 1 (.ref de) (SlX.putS 3 y [])) s4
    have s5 := s4.set (us := SlX.putS 1 (.ref de) (SlX.putS 3 y []))
    refine bl_slset T sl_g (Gr.z _) (P := PDN K oneD []) ev_dnil (ev_nmV 0) s5 stb_dn2 (fun y6 H6 g6 p6 s6 => ?_)
    obtain ⟨dg, rfl, n6, w6⟩ := p6
    have d7 := (d5.g g6).set (us := SlX.putS 2 (.ref dg) (SlX.putS 1 (.ref de) (SlX.putS 3 y []))) s6
    have v7 := (w5.g g6).set (us := SlX.putS 2 (.ref dg) (SlX.putS 1 (.ref de) (SlX.putS 3 y []))) s6
    have w7 := w6.set (us := SlX.putS 2 (.ref dg) (SlX.putS 1 (.ref de) (SlX.putS 3 y []))) s6
    have s7 := s6.set (us := SlX.putS 2 (.ref dg) (SlX.putS 1 (.ref de) (SlX.putS 3 y [])))
    refine bl_slset T sl_a (Gr.z _) (P := PDN K askD []) ev_dnil (ev_nmV 0) s7 stb_dn2 (fun y8 H8 g8 p8 s8 => bl_nil ?_)
    obtain ⟨da, rfl, n8, w8⟩ := p8
    have back : ∀ x, H6 x = none → H x = none := fun x h => g1.back (g2.back (slH_none s2 (g4.back (slH_none s4 (g6.back h)))))
    refine hQ ⟨a, dx, da, de, dg, y⟩ _ rfl rfl (back da (slH_none s6 n8)) (g1.back (g2.back (slH_none s2 n4))) (g1.back (g2.back (slH_none s2 (g4.back (slH_none s4 n6))))) ?_ ⟨s8.set, (d7.g g8).set s8, w8.set s8, (v7.g g8).set s8, (w7.g g8).set s8, ?_, ?_, ?_⟩
    · intro x o hx1 hx2 hx
      exact slH_keep hx1 hx2 (g8.k x o (fun z => z) (slH_keep hx1 hx2 (g6.k x o (fun z => z) (slH_keep hx1 hx2 (g4.k x o (fun z => z) (slH_keep hx1 hx2 (g2.k x o (fun z => z) (g1.k x o (fun z => z) hx))))))))
    · exact fun z => v7.ne n8 z.symm
    · exact fun z => w7.ne n8 z.symm
    · exact fun z => (w5.ne n6) z
  cases g with
  | none => exact bl_if (Gr.z H) (EvT.is (et_notN (ev_nm 1 hd) (fun v H1 H2 p => non_d p)) (c := false) rfl) (fun z => nf z) (fun _ H1 g1 => bl_nil (fin H1 g1))
  | some sv => exact bl_if (Gr.z H) (EvT.is (et_notN (ev_nm 1 hd) (fun v H1 H2 p => non_d p)) (c := true) rfl) (fun _ H1 g1 => bl_expr g1.r (ev_callD (ok_require_save_name T) hr (by decide) sv (hg sv rfl) (ea_cons (ev_nm 1 (hd.g g1)) ea_nil)) (fun _ H2 g2 _ => bl_nil (fin H2 (g1.t g2)))) (fun z => nt z)
/-- Outline(e) -/
theorem ev_make {M : Addr → Prop} {X : Cx} {σ : L2.St} {H : Hp} {e : Expr} {pos p : Pos} {g : Option (Int × Int)} {j : Nat} (T : Txt X.w X.K X.mg) (hr : Room j X.A) (hk : 6 ≤ j) (hg : grOk g) (h : Ev M (wE X e) σ H (Pd X.K (grD g))) (hgl : Gl X "Outline" := by rfl) (he : starEach [e] X.env = (false, eval e X.env) :: starEach [] X.env := by rfl) :
    Ev M (wE X (.Call (.Name "Outline" p) [e] [] pos)) σ H (PON X.K (ouN g)) := by
  obtain ⟨fd, F, B⟩ := ok_init (P := X.prog) (base := X.base) T
  exact fun H1 gg Q q => of_pe (pe_make T.mkr F (hr.mono hk) hgl T.mgO B .nil pass0 (pa_cons e_pe pa_nil he) (by decide) he) (h H1 gg _ fun v H2 g2 pv => fun x dx hx hdx hne => by
    have key : ∀ y o, H2 y = some o → upd (upd H2 dx (.own x)) x (.ins (oC X.K) dx []) y = some o := fun y o e => by rw [upd_ne (ne_of_none e hx), upd_ne (ne_of_none e hdx)]; exact e
    have hs : Sl0 X.K (upd (upd H2 dx (.own x)) x (.ins (oC X.K) dx [])) x dx [] := ⟨.inl ⟨upd_same, rfl⟩, .inl ⟨x, by rw [upd_ne hne, upd_same]⟩, hne⟩
    refine ⟨x, dx, v, g, rfl, hs, (Dv.sn (Dv.sn pv hdx) (by rw [upd_ne hne.symm]; exact hx)), hg, fun p H' e1 e2 n1 n2 n3 fr ou => ⟨rfl, ?_⟩⟩
    have un : ∀ y, upd (upd H2 dx (.own x)) x (.ins (oC X.K) dx []) y = none → H2 y = none := fun y e => by
      cases z : H2 y with
      | none => rfl
      | some o =>
        rw [key y o z] at e
        cases e
    have g3 : Gr M H2 H' := by
      refine ⟨g2.b, fun y o m e => fr y o (ne_of_none e hx) (ne_of_none e hdx) (key y o e), fun y m => ?_⟩
      obtain ⟨i, j, k, e⟩ := g2.b y m
      exact ⟨i, j, k, fr y _ (ne_of_none e hx) (ne_of_none e hdx) (key y _ e)⟩
    refine q _ _ (g2.t g3) ⟨p, by rw [e1], ⟨by rw [e1]; exact g2.back hx, by rw [e2]; exact g2.back hdx, g2.back (un _ n1), g2.back (un _ n2), g2.back (un _ n3)⟩, ou⟩)
/-! reads of an outline's own -/
section
variable {M : Addr → Prop} {X : Cx} {σ : L2.St} {H : Hp} {e : Expr} {pos : Pos} {p : OA} {o : Ou}
theorem ev_ground (T : Txt X.w X.K X.mg) (h : OuAt X.K H p o) (he : Ev M (wE X e) σ H (Pv (.ref p.a))) (hb : attributeBase e "own_ground" X.env (eval e X.env) = eval e X.env := by rfl) : Ev M (wE X (.Attribute e "own_ground" pos)) σ H (Pd X.K (grD o.gr)) :=
  (ev_slot T sl_r h.sl (v := p.vg) rfl he hb).imp fun v H1 H2 g1 g2 e => by
    have : v = p.vg := e
    subst this
    exact h.vg.g (g1.t g2)
theorem ev_asksA (T : Txt X.w X.K X.mg) (h : OuAt X.K H p o) (he : Ev M (wE X e) σ H (Pv (.ref p.a))) (hb : attributeBase e "own_asks" X.env (eval e X.env) = eval e X.env := by rfl) : Ev M (wE X (.Attribute e "own_asks" pos)) σ H (Pv (.ref p.da)) := ev_slot T sl_a h.sl rfl he hb
theorem ev_entA (T : Txt X.w X.K X.mg) (h : OuAt X.K H p o) (he : Ev M (wE X e) σ H (Pv (.ref p.a))) (hb : attributeBase e "own_entries" X.env (eval e X.env) = eval e X.env := by rfl) : Ev M (wE X (.Attribute e "own_entries" pos)) σ H (Pv (.ref p.de)) := ev_slot T sl_e h.sl rfl he hb
theorem ev_gonA (T : Txt X.w X.K X.mg) (h : OuAt X.K H p o) (he : Ev M (wE X e) σ H (Pv (.ref p.a))) (hb : attributeBase e "own_gone" X.env (eval e X.env) = eval e X.env := by rfl) : Ev M (wE X (.Attribute e "own_gone" pos)) σ H (Pv (.ref p.dg)) := ev_slot T sl_g h.sl rfl he hb
theorem ev_dr {β : Type} {f : β → PyData} {m : List (Str × β)} {te : TE} {a : Addr} (h : Ev M te σ H (Pv (.ref a))) (w : DW X.K f H a m) : Ev M te σ H (PDR X.K f m) := h.imp fun v H1 H2 g1 g2 e => ⟨a, e, (w.g (g1.t g2)).r⟩
theorem ev_asks (T : Txt X.w X.K X.mg) (h : OuAt X.K H p o) (he : Ev M (wE X e) σ H (Pv (.ref p.a))) (hb : attributeBase e "own_asks" X.env (eval e X.env) = eval e X.env := by rfl) : Ev M (wE X (.Attribute e "own_asks" pos)) σ H (PDR X.K askD o.aks) := ev_dr (ev_asksA T h he hb) h.das
theorem ev_ent (T : Txt X.w X.K X.mg) (h : OuAt X.K H p o) (he : Ev M (wE X e) σ H (Pv (.ref p.a))) (hb : attributeBase e "own_entries" X.env (eval e X.env) = eval e X.env := by rfl) : Ev M (wE X (.Attribute e "own_entries" pos)) σ H (PDR X.K rowD o.en) := ev_dr (ev_entA T h he hb) h.den
theorem ev_gon (T : Txt X.w X.K X.mg) (h : OuAt X.K H p o) (he : Ev M (wE X e) σ H (Pv (.ref p.a))) (hb : attributeBase e "own_gone" X.env (eval e X.env) = eval e X.env := by rfl) : Ev M (wE X (.Attribute e "own_gone" pos)) σ H (PDR X.K oneD o.go) := ev_dr (ev_gonA T h he hb) h.dgo
end
/-! copied -/
def spCopy (K : PySem.W.Frag) : Sp := fun vs H Q _ => ∃ (p : OA) (o : Ou), vs = [.ref p.a] ∧ OuAt K H p o ∧ grOk o.gr ∧ ∀ (q : OA) H', Gr M0 H H' → OuNew H q → OuAt K H' q o → Q (.ref q.a) H'
theorem sc_copied : FnScope ["self", "found"] ["self"] (defScope sm_copied) := ⟨rfl, rfl, rfl, by decide +kernel, rfl, by decide +kernel, by decide +kernel⟩
theorem ok_copied (T : Txt w K mg) : FnR P w K mg base CX0 7 (pA K "copied") (spCopy K) := by
  refine raw_of (x := "copied") (met_ok T 1 rfl sc_copied (fun _ _ _ _ _ _ us hl => match us, hl with | [_], _ => rfl) (fun vs H Q E ⟨_, _, h, _⟩ => by rw [h]; rfl) (fun f cdv A outer s H vs Q E hr ⟨p, o, hv, ho, hg, hQ⟩ => ?_))
  subst hv
  have nd := sc_copied.nd
  refine bl_set (i := 1) (Gr.z H) (ev_make T hr (by decide) hg (ev_ground T ho (ev_nmV 0))) (fun v H1 g1 pv => ?_) nd
  obtain ⟨q, rfl, nq, oq⟩ := pv
  have ho1 := ho.g g1
  refine bl_slset T sl_e (Gr.z H1) (P := PDN K rowD o.en) (ev_dictD T.f_dict (ev_ent T ho1 (ev_nmV 0))) (ev_nmV 1) oq.sl stb_dn2 (fun y2 H2 g2 p2 s2 => ?_)
  obtain ⟨de, rfl, n2, w2⟩ := p2
  have G2 := Gr.set (s0 := s2) (us := SlX.putS 1 (.ref de) q.vs) (g1.t g2) nq.a nq.dx
  have s2' := s2.set (us := SlX.putS 1 (.ref de) q.vs)
  refine bl_slset T sl_g (Gr.z _) (P := PDN K oneD o.go) (ev_dictD T.f_dict (ev_gon T (ho.g G2) (ev_nmV 0))) (ev_nmV 1) s2' stb_dn2 (fun y3 H3 g3 p3 s3 => ?_)
  obtain ⟨dg, rfl, n3, w3⟩ := p3
  have G3 := Gr.set (s0 := s3) (us := SlX.putS 2 (.ref dg) (SlX.putS 1 (.ref de) q.vs)) (G2.t g3) nq.a nq.dx
  have s3' := s3.set (us := SlX.putS 2 (.ref dg) (SlX.putS 1 (.ref de) q.vs))
  refine bl_slset T sl_a (Gr.z _) (P := PDN K askD o.aks) (ev_dictD T.f_dict (ev_asks T (ho.g G3) (ev_nmV 0))) (ev_nmV 1) s3' stb_dn2 (fun y4 H4 g4 p4 s4 => ?_)
  obtain ⟨da, rfl, n4, w4⟩ := p4
  have G4 := Gr.set (s0 := s4) (us := SlX.putS 0 (.ref da) (SlX.putS 2 (.ref dg) (SlX.putS 1 (.ref de) q.vs))) (G3.t g4) nq.a nq.dx
  refine bl_ret (Gr.z _) (P := Pv (.ref q.a)) (ev_nmV 1) (fun v H5 g5 e => ?_)
  obtain rfl : v = .ref q.a := e
  have w2s := (w2.set (us := SlX.putS 1 (.ref de) q.vs) s2)
  have w3s := (w3.set (us := SlX.putS 2 (.ref dg) (SlX.putS 1 (.ref de) q.vs)) s3)
  have ou : OuAt K (SlX.slH H4 q.a (oC K) q.dx (SlX.putS 0 (.ref da) (SlX.putS 2 (.ref dg) (SlX.putS 1 (.ref de) q.vs)))) ⟨q.a, q.dx, da, de, dg, q.vg⟩ o :=
    ⟨s4.set, ((((((oq.vg.g g2).set s2).g g3).set s3).g g4).set s4 : Dv K _ q.vg (grD o.gr)), w4.set s4, ((((w2s.g g3).set s3).g g4).set s4), ((w3s.g g4).set s4),
      fun z => ((w2s.g g3).set (us := SlX.putS 2 (.ref dg) (SlX.putS 1 (.ref de) q.vs)) s3).ne n4 z.symm, fun z => w3s.ne n4 z.symm, fun z => w2s.ne n3 z⟩
  have back2 : ∀ x, SlX.slH H2 q.a (oC K) q.dx (SlX.putS 1 (.ref de) q.vs) x = none → H x = none := fun x h => G2.back h
  exact hQ ⟨q.a, q.dx, da, de, dg, q.vg⟩ H5 (G4.t g5) ⟨nq.a, nq.dx, G3.back n4, g1.back n2, back2 dg n3⟩ (ou.g g5)
end
end SR
set_option Elab.async false
set_option linter.all false
set_option maxRecDepth 100000
set_option maxHeartbeats 4000000
/-! Outline: asked, led -/
namespace SR
open PySem PySem.Spec PyProof.Rows L2
def freshO (o : Ou) (n : Str) : Bool := !(trGet o.en n).isSome && !(trGet o.go n).isSome
def askO (o : Ou) (n : Str) (t : Option Nat) : Ou :=
  if o.gr.isNone || !freshO o n then o else match t with
    | none => ⟨o.gr, o.en, trPut o.go n (), trPut o.aks n none⟩
    | some l => ⟨o.gr, trPut o.en n (rowOf (.below n) l), o.go, trPut o.aks n (some l)⟩
structure Small (o : Ou) : Prop where
  en : o.en.length < 5000
  go : o.go.length < 5000
  aks : o.aks.length < 5000
theorem trPut_le {κ β : Type} [DecidableEq κ] (m : List (κ × β)) (n : κ) (b : β) : (trPut m n b).length ≤ m.length + 1 := by
  unfold trPut
  split
  · rw [List.length_map]
    omega
  · rw [List.length_append]
    exact Nat.le_refl _
theorem trDrop_le {β : Type} (m : List (Str × β)) (n : Str) : (trDrop m n).length ≤ m.length := List.length_filter_le _ _
section
variable {P : Program} {w : World} {K : PySem.W.Frag} {mg : Str → Option Value} {base : Heap}
def spFresh (K : PySem.W.Frag) : Sp := fun vs H Q _ => ∃ (p : OA) (o : Ou) (n : Str), vs = [.ref p.a, .str n] ∧ OuAt K H p o ∧ ∀ H', Gr M0 H H' → Q (.bl (freshO o n)) H'
theorem sc_is_fresh : FnScope ["self", "name"] ["self", "name"] (defScope sm_is_fresh) := ⟨rfl, rfl, rfl, by decide +kernel, rfl, by decide +kernel, by decide +kernel⟩
theorem ok_is_fresh (T : Txt w K mg) : FnR P w K mg base CX0 1 (pA K "is_fresh") (spFresh K) := by
  refine raw_of (x := "is_fresh") (met_ok T 2 rfl sc_is_fresh (fun _ _ _ _ _ _ us hl => match us, hl with | [_, _], _ => rfl) (fun vs H Q E ⟨_, _, _, h, _⟩ => by rw [h]; rfl) (fun f cdv A outer s H vs Q E hr ⟨p, o, n, hv, ho, hQ⟩ => ?_))
  subst hv
  exact bl_ret (Gr.z H) (P := Pd K (.bool (freshO o n))) (ev_and (ev_dni (hu64 hr) (ev_nm 1 (.str n)) (ev_ent T ho (ev_nmV 0))) (fun _ => ev_one (ev_dni (hu64 hr) (ev_nm 1 (.str n)) (ev_gon T ho (ev_nmV 0))))) (fun v H1 g p => by
    obtain rfl := dv_bl p
    exact hQ H1 g)
def spAsk (K : PySem.W.Frag) : Sp := fun vs H Q _ => ∃ (p : OA) (o : Ou) (n : Str) (t : Option Nat) (v : V), vs = [.ref p.a, .str n, v] ∧ OuAt K H p o ∧ Dv K H v (askD t) ∧ Small o ∧ ∀ H', Ex p H H' → OuAt K H' p (askO o n t) → Q .non H'
theorem sc_ask : FnScope ["self", "name", "told"] ["self", "name", "told"] (defScope sm_ask) := ⟨rfl, rfl, rfl, by decide +kernel, rfl, by decide +kernel, by decide +kernel⟩
theorem isNon_ask (g : Option Nat) : isNon (askD g) = g.isNone := by cases g <;> rfl
theorem ev_fresh {M : Addr → Prop} {X : Cx} {σ : L2.St} {H : Hp} {e e2 : Expr} {pos apos : Pos} {p : OA} {o : Ou} {n : Str} {j : Nat} (T : Txt X.w X.K X.mg) (hr : Room j X.A) (hk : 1 ≤ j) (ho : OuAt X.K H p o) (he : Ev M (wE X e) σ H (Pv (.ref p.a))) (h2 : Ev M (wE X e2) σ H (Pd X.K (.str n)))
    (hst : starEach [e2] X.env = (false, eval e2 X.env) :: starEach [] X.env := by rfl) (hpl : (backTo pos (starEach [] X.env)).any (·.1) = false := by rfl) (pl : Sem Bool)
    (ht : eval (.Call (.Attribute e "is_fresh" apos) [e2] [] pos) X.env = (do
      let ov ← eval e X.env
      standAt apos.atName
      let (f, first) ← holding [ov] (getMethod ov "is_fresh" pl)
      callWith pos f first (backTo pos (starEach [e2] X.env)) (backToKw pos (keywordEach [] X.env))) := by rfl) : Ev M (wE X (.Call (.Attribute e "is_fresh" apos) [e2] [] pos)) σ H (Pd X.K (.bool (freshO o n))) :=
  ev_meth T (ok_is_fresh T) (T.meth (q := (("is_fresh" : Str), ("Outline.is_fresh" : Str), sm_is_fresh)) (by unfold mdefs; simp)) hr hk he ho.sl (ea_cons h2 ea_nil hst) (fun ws H0 H1 H2 g0 g1 g2 pw Q q => by
    obtain ⟨v, rfl, hv⟩ := dvA1 pw
    obtain rfl := dv_str hv
    exact ⟨p, o, n, rfl, ho.g ((g0.t g1).t g2), fun H3 g3 => q _ _ (g3.up g2.b) (.bl _)⟩) hst hpl pl ht
theorem ok_ask (T : Txt w K mg) : FnR P w K mg base CX0 2 (pA K "ask") (spAsk K) := by
  refine raw_of (x := "ask") (met_ok T 3 rfl sc_ask (fun _ _ _ _ _ _ us hl => match us, hl with | [_, _, _], _ => rfl) (fun vs H Q E ⟨_, _, _, _, _, h, _⟩ => by rw [h]; rfl) (fun f cdv A outer s H vs Q E hr ⟨p, o, n, t, v, hv, ho, ht, sm, hQ⟩ => ?_))
  subst hv
  refine bl_when (p := fun b => b = (o.gr.isNone || !freshO o n)) (Gr.z H) (et_w (ew_or (x := o.gr.isNone) (EvT.is (et_isN (ev_ground T ho (ev_nmV 0)) (fun v H1 H2 p => non_d p)) (isNon_gr _)) (fun _ => ew_or1 (et_not (et_val (ev_fresh T hr (by decide) ho (ev_nmV 0) (ev_nm 1 (.str n)) (pl := _))))))) (fun z H1 g1 => ?_) (fun z H1 g1 => ?_)
  · refine bl_retN (hQ H1 (Ex.gr g1) ?_)
    unfold askO
    rw [← z, if_pos rfl]
    exact ho.g g1
  · have ho1 := ho.g g1
    have ht1 := ht.g g1
    refine bl_dput (Gr.z H1) (hu64 hr) (ev_asksA T ho1 (ev_nmV 0)) ho1.das (by have := sm.aks; omega) (ev_nm 1 (.str n)) (ev_nm 2 ht1) (fun H2 H3 g2 dm wd => ?_)
    have ho2 := ho1.g g2
    have ho3 : OuAt K H3 p ⟨o.gr, o.en, o.go, trPut o.aks n t⟩ := ⟨ho2.sl.dm dm, dm.dv ho2.vg, wd, dm.dw ho1.n1.symm ho2.den, dm.dw ho1.n2.symm ho2.dgo, ho1.n1, ho1.n2, ho1.n3⟩
    have ht3 := dm.dv (ht1.g g2)
    have ex3 : Ex p H H3 := (Ex.gr (g1.t g2)).t dm.exa
    cases t with
    | none =>
      refine bl_if (Gr.z H3) (EvT.is (c := true) (et_isN (ev_nm 2 ht3) (fun v H1 H2 p => non_d p)) rfl) (fun _ H4 g4 => ?_) (fun z => nt z)
      have ho4 := ho3.g g4
      refine bl_dput (b := ()) (Gr.z H4) (hu64 hr) (ev_gonA T ho4 (ev_nmV 0)) ho4.dgo (by have := sm.go; show o.go.length < _; omega) (ev_nm 1 (.str n)) ev_bl (fun H5 H6 g5 dm6 wd6 => bl_nil (bl_nil (hQ H6 ((ex3.t (Ex.gr (g4.t g5))).t dm6.exg) ?_)))
      have ho5 := ho4.g g5
      unfold askO
      rw [← z, if_neg (by decide)]
      exact ⟨ho5.sl.dm dm6, dm6.dv ho5.vg, dm6.dw ho1.n2 ho5.das, dm6.dw ho1.n3 ho5.den, wd6, ho1.n1, ho1.n2, ho1.n3⟩
    | some l =>
      refine bl_if (Gr.z H3) (EvT.is (c := false) (et_isN (ev_nm 2 ht3) (fun v H1 H2 p => non_d p)) rfl) (fun z => nf z) (fun _ H4 g4 => ?_)
      have ho4 := ho3.g g4
      refine bl_dput (b := rowOf (.below n) l) (Gr.z H4) (hu64 hr) (ev_entA T ho4 (ev_nmV 0)) ho4.den (by have := sm.en; show o.en.length < _; omega) (ev_nm 1 (.str n)) (ev_callD (ok_row_of T) hr (by decide) (So.below n, l) trivial (ea_cons (ev_tup (ea_cons (ev_gs T.c_BELOW) (ea_cons (ev_nm 1 (.str n)) ea_nil)) (by simp)) (ea_cons (ev_nm 2 (ht3.g g4)) ea_nil))) (fun H5 H6 g5 dm6 wd6 => bl_nil (bl_nil (hQ H6 ((ex3.t (Ex.gr (g4.t g5))).t dm6.exe) ?_)))
      have ho5 := ho4.g g5
      unfold askO
      rw [← z, if_neg (by decide)]
      exact ⟨ho5.sl.dm dm6, dm6.dv ho5.vg, dm6.dw ho1.n1 ho5.das, wd6, dm6.dw ho1.n3.symm ho5.dgo, ho1.n1, ho1.n2, ho1.n3⟩
/-! why a mark cannot be followed: it can -/
def reasonO (o : Ou) : Mark → Ou
  | .put _ _ => o
  | .patch n _ _ _ h => askO o n (some h)
  | .drop n h => askO o n (some h)
  | .rename n m h => askO (askO o n (some h)) m none
def reasonOk (o : Ou) (k : Mark) : Prop := match k with
  | .put _ _ => True
  | .patch n _ _ _ h => ∃ r, trGet (askO o n (some h)).en n = some r ∧ r.length ≤ 10000 ∧ lenF r = h
  | .drop n h => ∃ r, trGet (askO o n (some h)).en n = some r ∧ r.length ≤ 10000 ∧ lenF r = h
  | .rename n m h => (∃ r, trGet (askO o n (some h)).en n = some r ∧ r.length ≤ 10000 ∧ lenF r = h) ∧ trGet (askO (askO o n (some h)) m none).en m = none
theorem ask_small {o : Ou} {n : Str} {t : Option Nat} {B : Nat} (h : o.en.length < B ∧ o.go.length < B ∧ o.aks.length < B) : (askO o n t).en.length < B + 1 ∧ (askO o n t).go.length < B + 1 ∧ (askO o n t).aks.length < B + 1 := by
  obtain ⟨h1, h2, h3⟩ := h
  have e1 := trPut_le o.aks n t
  have e2 := trPut_le o.go n ()
  unfold askO
  split
  · exact ⟨by omega, by omega, by omega⟩
  · cases t with
    | none => exact ⟨by show o.en.length < _; omega, by show (trPut o.go n ()).length < _; omega, by show (trPut o.aks n none).length < _; omega⟩
    | some l =>
      have e3 := trPut_le o.en n (rowOf (.below n) l)
      exact ⟨by show (trPut o.en n (rowOf (.below n) l)).length < _; omega, by show o.go.length < _; omega, by show (trPut o.aks n (some l)).length < _; omega⟩
structure Tiny (o : Ou) : Prop where
  en : o.en.length < 1000
  go : o.go.length < 1000
  aks : o.aks.length < 1000
theorem Tiny.small {o : Ou} (h : Tiny o) : Small o := ⟨by have := h.en; omega, by have := h.go; omega, by have := h.aks; omega⟩
theorem Tiny.ask {o : Ou} {n : Str} {t : Option Nat} (h : Tiny o) : Small (askO o n t) := by
  obtain ⟨a, b, c⟩ := ask_small (o := o) (n := n) (t := t) ⟨h.en, h.go, h.aks⟩
  exact ⟨by omega, by omega, by omega⟩
theorem Tiny.ask2 {o : Ou} {n m : Str} {t u : Option Nat} (h : Tiny o) : Small (askO (askO o n t) m u) := by
  obtain ⟨a, b, c⟩ := ask_small (o := askO o n t) (n := m) (t := u) (ask_small (o := o) (n := n) (t := t) ⟨h.en, h.go, h.aks⟩)
  exact ⟨by omega, by omega, by omega⟩
theorem Tiny.reason {o : Ou} {k : Mark} (h : Tiny o) : Small (reasonO o k) := by
  cases k with
  | put => exact h.small
  | patch n i j l hh => exact Tiny.ask (n := n) (t := some hh) h
  | drop n hh => exact Tiny.ask (n := n) (t := some hh) h
  | rename n m hh => exact Tiny.ask2 (n := n) (m := m) (t := some hh) (u := none) h
def spReason (K : PySem.W.Frag) : Sp := fun vs H Q _ => ∃ (p : OA) (o : Ou) (k : Mark) (v : V), vs = [.ref p.a, v] ∧ OuAt K H p o ∧ Dv K H v k.d ∧ Tiny o ∧ reasonOk o k ∧ ∀ H', Ex p H H' → OuAt K H' p (reasonO o k) → Q .non H'
theorem sc_reason_for : FnScope ["self", "mark"] ["self", "mark"] (defScope sm_reason_for) := ⟨rfl, rfl, rfl, by decide +kernel, rfl, by decide +kernel, by decide +kernel⟩
theorem mem_ask : (("ask" : Str), ("Outline.ask" : Str), sm_ask) ∈ mdefs := by unfold mdefs; simp
theorem ok_reason_for (T : Txt w K mg) : FnR P w K mg base CX0 3 (pA K "reason_for") (spReason K) := by
  refine raw_of (x := "reason_for") (met_ok T 4 rfl sc_reason_for (fun _ _ _ _ _ _ us hl => match us, hl with | [_, _], _ => rfl) (fun vs H Q E ⟨_, _, _, _, h, _⟩ => by rw [h]; rfl) (fun f cdv A outer s H vs Q E hr ⟨p, o, k, v, hv, ho, hk, tn, rk, hQ⟩ => ?_))
  subst hv
  -- marks other than put: the name's entry stands at its length
  have go : ∀ (n : Str) (h : Nat), k.name = n → k.last = h → (∃ r, trGet (askO o n (some h)).en n = some r ∧ r.length ≤ 10000 ∧ lenF r = h) → ∀ H1, Gr M0 H H1 →
      (∀ H2, Ex p H H2 → OuAt K H2 p (askO o n (some h)) → Dv K H2 v k.d → wB (cX P w K mg base ["self", "mark"] "Outline.reason_for" sm_reason_for f cdv A outer s H E) ((defBody sm_reason_for).drop 4) { nx := fun _ H' => Q .non H', rt := Q } (start ["self", "mark"] [.ref p.a, v]) H2) →
      wB (cX P w K mg base ["self", "mark"] "Outline.reason_for" sm_reason_for f cdv A outer s H E) ((defBody sm_reason_for).drop 1) { nx := fun _ H' => Q .non H', rt := Q } (start ["self", "mark"] [.ref p.a, v]) H1 := by
    intro n h en eh ⟨r, hr1, hr2, hr3⟩ H1 g1 fin
    subst en eh
    have ho1 := ho.g g1
    refine bl_methE T (ok_ask T) (T.meth mem_ask) hr (by decide) (Gr.z H1) (ev_nmV 0) ho1.sl (ea_cons (ev_sub1 (ev_nm 1 (hk.g g1)) _) (ea_cons (ev_subL (ev_nm 1 (hk.g g1)) _) ea_nil)) (fun ws H2 H3 g2 g3 pw => ?_) (pl := _)
    obtain ⟨x, y, rfl, hx, hy⟩ := dvA2 pw
    obtain rfl := dv_str hx
    refine ⟨p, o, k.name, some k.last, y, rfl, (ho1.g g2).g g3, hy, tn.small, fun H4 ex4 ho4 => ?_⟩
    have hk4 := ex4.dv ((ho1.g g2).g g3) (((hk.g g1).g g2).g g3)
    have ex : Ex p H H4 := (Ex.gr ((g1.t g2).t g3)).t ex4
    refine bl_when (Gr.z H4) (EvT.is (c := false) (et_dni (hu64 hr) (ev_sub1 (ev_nm 1 hk4) _) (ev_ent T ho4 (ev_nmV 0))) (by rw [hr1]; rfl)) (fun z => nf z) (fun _ H5 g5 => ?_)
    refine bl_when g5.r (EvT.is (c := false) (et_neI (ev_callD (ok_length_in T) hr (by decide) r hr2 (ea_cons (ev_dget (hu64 hr) (ev_ent T (ho4.g g5) (ev_nmV 0)) (ev_sub1 (ev_nm 1 (hk4.g g5)) _) hr1) ea_nil)) (ev_subL (ev_nm 1 (hk4.g g5)) _)) (by rw [hr3]; simp)) (fun z => nf z) (fun _ H6 g6 => ?_)
    exact fin H6 (ex.t (Ex.gr (g5.t g6))) ((ho4.g g5).g g6) ((hk4.g g5).g g6)
  cases k with
  | put n l =>
    refine bl_when (Gr.z H) (EvT.is (c := true) (et_eqS (ev_sub0 (k := .put n l) (ev_nm 1 hk) _) (ev_gs T.c_PUT)) kd_put_put) (fun _ H1 g1 => ?_) (fun z => nt z)
    exact bl_ret g1.r (P := Pd K .none) ev_non (fun v H2 g2 p2 => by
      obtain rfl := dv_non p2
      exact hQ H2 (Ex.gr (g1.t g2)) (ho.g (g1.t g2)))
  | patch n i j l h =>
    refine bl_when (Gr.z H) (EvT.is (c := false) (et_eqS (ev_sub0 (k := .patch n i j l h) (ev_nm 1 hk) _) (ev_gs T.c_PUT)) kd_patch_put) (fun z => nf z) (fun _ H1 g1 => ?_)
    refine go n h rfl rfl rk H1 g1 (fun H2 ex2 ho2 hk2 => ?_)
    refine bl_when (Gr.z H2) (EvT.is (c := true) (et_neS (ev_sub0 (k := .patch n i j l h) (ev_nm 1 hk2) _) (ev_gs T.c_RENAME)) (by show (!decide (("patch" : Str) = "rename")) = true; rw [kd_patch_rename]; rfl)) (fun _ H3 g3 => ?_) (fun z => nt z)
    exact bl_ret g3.r (P := Pd K .none) ev_non (fun v H4 g4 p4 => by
      obtain rfl := dv_non p4
      exact hQ H4 (ex2.t (Ex.gr (g3.t g4))) (ho2.g (g3.t g4)))
  | drop n h =>
    refine bl_when (Gr.z H) (EvT.is (c := false) (et_eqS (ev_sub0 (k := .drop n h) (ev_nm 1 hk) _) (ev_gs T.c_PUT)) kd_drop_put) (fun z => nf z) (fun _ H1 g1 => ?_)
    refine go n h rfl rfl rk H1 g1 (fun H2 ex2 ho2 hk2 => ?_)
    refine bl_when (Gr.z H2) (EvT.is (c := true) (et_neS (ev_sub0 (k := .drop n h) (ev_nm 1 hk2) _) (ev_gs T.c_RENAME)) (by show (!decide (("drop" : Str) = "rename")) = true; rw [kd_drop_rename]; rfl)) (fun _ H3 g3 => ?_) (fun z => nt z)
    exact bl_ret g3.r (P := Pd K .none) ev_non (fun v H4 g4 p4 => by
      obtain rfl := dv_non p4
      exact hQ H4 (ex2.t (Ex.gr (g3.t g4))) (ho2.g (g3.t g4)))
  | rename n m h =>
    refine bl_when (Gr.z H) (EvT.is (c := false) (et_eqS (ev_sub0 (k := .rename n m h) (ev_nm 1 hk) _) (ev_gs T.c_PUT)) kd_rename_put) (fun z => nf z) (fun _ H1 g1 => ?_)
    refine go n h rfl rfl rk.1 H1 g1 (fun H2 ex2 ho2 hk2 => ?_)
    refine bl_when (Gr.z H2) (EvT.is (c := false) (et_neS (ev_sub0 (k := .rename n m h) (ev_nm 1 hk2) _) (ev_gs T.c_RENAME)) (by show (!decide (("rename" : Str) = "rename")) = false; rw [kd_rename_rename]; rfl)) (fun z => nf z) (fun _ H3 g3 => ?_)
    have ho3 := ho2.g g3
    refine bl_methE T (ok_ask T) (T.meth mem_ask) hr (by decide) (Gr.z H3) (ev_nmV 0) ho3.sl (ea_cons (ev_ix (ev_nm 1 (hk2.g g3)) ev_int rfl) (ea_cons ev_non ea_nil)) (fun ws H4 H5 g4 g5 pw => ?_) (pl := _)
    obtain ⟨x, y, rfl, hx, hy⟩ := dvA2 pw
    obtain rfl := dv_str hx
    refine ⟨p, _, m, none, y, rfl, (ho3.g g4).g g5, hy, tn.ask, fun H6 ex6 ho6 => ?_⟩
    have hk6 := ex6.dv ((ho3.g g4).g g5) (((hk2.g g3).g g4).g g5)
    refine bl_ret (Gr.z H6) (P := Pd K .none) (ev_if (EvT.is (c := false) (et_din (hu64 hr) (ev_ix (ev_nm 1 hk6) ev_int rfl) (ev_ent T ho6 (ev_nmV 0))) (by rw [rk.2]; rfl)) (fun z => nt z) (fun _ => ev_non)) (fun v H7 g7 p7 => ?_)
    obtain rfl := dv_non p7
    exact hQ H7 (((ex2.t (Ex.gr ((g3.t g4).t g5))).t ex6).t (Ex.gr g7)) (ho6.g g7)
end
end SR
set_option Elab.async false
set_option linter.all false
set_option maxRecDepth 100000
set_option maxHeartbeats 4000000
/-! Outline: led on, behind a mark -/
namespace SR
open PySem PySem.Spec PyProof.Rows L2
def heldO (o : Ou) (n : Str) : List Pc := (trGet o.en n).getD []
/-- the row a mark leaves -/
def newRow (o : Ou) (s : Int × Int) : Mark → List Pc
  | .put _ l => rowOf (.new s) l
  | .patch n i u l h => joinF (partF (heldO o n) 0 0 i ++ rowOf (.new s) l ++ partF (heldO o n) 0 (i + u) h)
  | .drop n _ => heldO o n
  | .rename n _ _ => heldO o n
def followO (o : Ou) (s : Int × Int) (k : Mark) : Ou := match k with
  | .put n _ => ⟨o.gr, trPut (trDrop o.en n) n (newRow o s k), trDrop o.go n, o.aks⟩
  | .patch n _ _ _ _ => ⟨o.gr, trPut (trDrop o.en n) n (newRow o s k), trDrop o.go n, o.aks⟩
  | .drop n _ => ⟨o.gr, trDrop o.en n, trPut o.go n (), o.aks⟩
  | .rename n m _ => ⟨o.gr, trPut (trDrop o.en n) m (newRow o s k), trDrop (trPut o.go n ()) m, o.aks⟩
/-- rows that the follow can join -/
structure FolOk (o : Ou) (s : Int × Int) (k : Mark) : Prop where
  sm : Small o
  len : (heldO o k.name).length ≤ 3000
  ok : ∀ p ∈ partF (heldO o k.name) 0 0 (match k with | .patch _ i _ _ _ => i | _ => 0) ++ rowOf (.new s) k.news ++ partF (heldO o k.name) 0 (match k with | .patch _ i u _ _ => i + u | _ => 0) (match k with | .patch _ _ _ _ h => h | _ => 0), p.ok
section
variable {P : Program} {w : World} {K : PySem.W.Frag} {mg : Str → Option Value} {base : Heap}
def spFollow (K : PySem.W.Frag) : Sp := fun vs H Q _ => ∃ (p : OA) (o : Ou) (s : Int × Int) (k : Mark) (v u : V), vs = [.ref p.a, v, u] ∧ OuAt K H p o ∧ Dv K H v (saveD s) ∧ Dv K H u k.d ∧ FolOk o s k ∧ ∀ H', Ex p H H' → OuAt K H' p (followO o s k) → Q .non H'
theorem sc_follow : FnScope ["self", "save", "mark", "new", "name", "held", "goal"] ["self", "save", "mark"] (defScope sm_follow) := ⟨rfl, rfl, rfl, by decide +kernel, rfl, by decide +kernel, by decide +kernel⟩
theorem ev_row3 {M : Addr → Prop} {X : Cx} {σ : L2.St} {H : Hp} {a b c : Expr} {pos : Pos} {r1 r2 r3 : List Pc} (h1 : Ev M (wE X a) σ H (Pd X.K (rowD r1))) (h2 : Ev M (wE X b) σ H (Pd X.K (rowD r2))) (h3 : Ev M (wE X c) σ H (Pd X.K (rowD r3)))
    (he : starEach [a, b, c] X.env = (false, eval a X.env) :: starEach [b, c] X.env := by rfl) (he2 : starEach [b, c] X.env = (false, eval b X.env) :: starEach [c] X.env := by rfl) (he3 : starEach [c] X.env = (false, eval c X.env) :: starEach [] X.env := by rfl) : Ev M (wE X (.List [a, b, c] pos)) σ H (PL X.K ([r1, r2, r3].map rowD)) :=
  ev_lst (ea_cons h1 (ea_cons h2 (ea_cons h3 ea_nil he3) he2) he) (by simp)
theorem ev_joined {M : Addr → Prop} {X : Cx} {σ : L2.St} {H : Hp} {e : Expr} {pos p : Pos} {rs : List (List Pc)} {j : Nat} (T : Txt X.w X.K X.mg) (hr : Room j X.A) (hk : 2 ≤ j) (h : Ev M (wE X e) σ H (PL X.K (rs.map rowD))) (hl : rs.flatten.length ≤ 10000) (hp : ∀ p ∈ rs.flatten, p.ok) (hg : Gl X "joined_in" := by rfl) (he : starEach [e] X.env = (false, eval e X.env) :: starEach [] X.env := by rfl) (hpl : (backTo pos (starEach [] X.env)).any (·.1) = false := by rfl) :
    Ev M (wE X (.Call (.Name "joined_in" p) [e] [] pos)) σ H (Pd X.K (rowD (joinF rs.flatten))) :=
  ev_call (ok_joined_in T) hr hk (ea_of h he) (fun vs H1 H2 g1 g2 ⟨v, e1, a, us, e2, n, hl2, hz⟩ Q q => by
    subst e1
    subst e2
    exact ⟨a, us, rs, rfl, hl2, hz, hl, hp, fun v H3 g3 p3 => q v H3 (g3.up g2.b) p3⟩) hg (by decide) he hpl
theorem row_le (s : So) (n : Nat) : (rowOf s n).length ≤ 1 := by
  unfold rowOf
  split <;> simp
def folTail : List Stmt := match (defBody sm_follow)[5]? with
  | some (Stmt.If _ b _ _) => b
  | _ => []
theorem mono_kind {k : Mark} : k.kind = "put" ∨ k.kind = "patch" ∨ k.kind = "drop" ∨ k.kind = "rename" := by
  cases k
  · exact .inl rfl
  · exact .inr (.inl rfl)
  · exact .inr (.inr (.inl rfl))
  · exact .inr (.inr (.inr rfl))
theorem ok_follow (T : Txt w K mg) : FnR P w K mg base CX0 3 (pA K "follow") (spFollow K) := by
  refine raw_of (x := "follow") (met_ok T 5 rfl sc_follow (fun _ _ _ _ _ _ us hl => match us, hl with | [_, _, _], _ => rfl) (fun vs H Q E ⟨_, _, _, _, _, _, h, _⟩ => by rw [h]; rfl) (fun f cdv A outer s H vs Q E hr ⟨p, o, sv, k, v, u, hv, ho, hs, hk, fo, hQ⟩ => ?_))
  subst hv
  have nd := sc_follow.nd
  have hcx : (cX P w K mg base ["self", "save", "mark", "new", "name", "held", "goal"] "Outline.follow" sm_follow f cdv A outer s H E).calm = true := rfl
  generalize hX : cX P w K mg base ["self", "save", "mark", "new", "name", "held", "goal"] "Outline.follow" sm_follow f cdv A outer s H E = X0
  -- the entry takes the row
  have put : ∀ (D : Ends) (goal : Str) (x v u nv nm hv : V) (r : List Pc) (H3 : Hp) (o3 : Ou), Ex p H H3 → OuAt K H3 p o3 → o3.en.length < 5000 → Dv K H3 hv (rowD r) → (∀ σ' H4, Ex p H H4 → OuAt K H4 p ⟨o3.gr, trPut o3.en goal r, o3.go, o3.aks⟩ → D.nx σ' H4) →
      wB X0 (folTail.drop 2) D [some (.ref p.a), some v, some u, some nv, some nm, some hv, some (.str goal)] H3 := by
    intro D goal x v u nv nm hv r H3 o3 ex3 ho3 hl hd kk
    subst hX
    refine bl_dput (b := r) (Gr.z H3) (hu64 hr) (ev_entA T ho3 (ev_nmV 0)) ho3.den (by omega) (ev_nm 6 (.str goal)) (ev_nm 5 hd) (fun H4 H5 g4 dm wd => bl_nil (kk _ H5 ((ex3.t (Ex.gr g4)).t dm.exe) ?_))
    have ho4 := ho3.g g4
    exact ⟨ho4.sl.dm dm, dm.dv ho4.vg, dm.dw ho3.n1 ho4.das, wd, dm.dw ho3.n3.symm ho4.dgo, ho3.n1, ho3.n2, ho3.n3⟩
  have last : ∀ (D : Ends) (goal : Str) (v u nv nm hv : V) (r : List Pc) (H3 : Hp) (o3 : Ou), Ex p H H3 → OuAt K H3 p o3 → o3.en.length < 5000 → Dv K H3 hv (rowD r) → (∀ σ' H4, Ex p H H4 → OuAt K H4 p ⟨o3.gr, trPut o3.en goal r, trDrop o3.go goal, o3.aks⟩ → D.nx σ' H4) →
      wB X0 (folTail.drop 1) D [some (.ref p.a), some v, some u, some nv, some nm, some hv, some (.str goal)] H3 := by
    intro D goal v u nv nm hv r H3 o3 ex3 ho3 hl hd kk
    have put' := put
    subst hX
    refine bl_dpopE (Gr.z H3) (ev_gonA T ho3 (ev_nmV 0)) ho3.dgo (ev_nm 6 (.str goal)) ev_non (fun H4 H5 g4 dm wd => ?_) (fun H4 g4 en => ?_)
    · have ho4 := ho3.g g4
      have ho5 : OuAt K H5 p ⟨o3.gr, o3.en, trDrop o3.go goal, o3.aks⟩ := ⟨ho4.sl.dm dm, dm.dv ho4.vg, dm.dw ho3.n2 ho4.das, dm.dw ho3.n3 ho4.den, wd, ho3.n1, ho3.n2, ho3.n3⟩
      exact put' D goal .non v u nv nm hv r H5 _ ((ex3.t (Ex.gr g4)).t dm.exg) ho5 hl (dm.dv (hd.g g4)) kk
    · refine put' D goal .non v u nv nm hv r H4 _ (ex3.t (Ex.gr g4)) (ho3.g g4) hl (hd.g g4) (fun σ' H5 e5 o5 => kk σ' H5 e5 ?_)
      rw [trDrop_none en]
      exact o5
  have fin : ∀ (v u nv hv : V) (H2 : Hp), Ex p H H2 → OuAt K H2 p ⟨o.gr, trDrop o.en k.name, o.go, o.aks⟩ → Dv K H2 hv (rowD (heldO o k.name)) → Dv K H2 nv (rowD (rowOf (.new sv) k.news)) → Dv K H2 u k.d →
      wB X0 ((defBody sm_follow).drop 2) { nx := fun _ H' => Q .non H', rt := Q } [some (.ref p.a), some v, some u, some nv, some (.str k.name), some hv, none] H2 := by
    intro v u nv hv H2 ex2 ho2 hd2 hn2 hk2
    have last' := last
    subst hX
    have le2 : (trDrop o.en k.name).length < 5000 := Nat.lt_of_le_of_lt (trDrop_le _ _) fo.sm.en
    cases k with
    | put n l =>
      refine bl_when (Gr.z H2) (EvT.is (c := true) (et_eqS (ev_sub0 (k := .put n l) (ev_nm 2 hk2) _) (ev_gs T.c_PUT)) kd_put_put) (fun _ H3 g3 => ?_) (fun z => nt z)
      refine bl_set (i := 5) g3.r (P := Pd K (rowD (rowOf (.new sv) l))) (ev_nm 3 (hn2.g g3)) (fun y H4 g4 py => bl_nil ?_) nd
      have g24 := g3.t g4
      refine bl_when g4.r (EvT.is (c := false) (et_eqS (ev_sub0 (k := .put n l) (ev_nm 2 (hk2.g g24)) _) (ev_gs T.c_PATCH)) kd_put_patch) (fun z => nf z) (fun _ H5 g5 => ?_)
      have g25 := g24.t g5
      refine bl_when g5.r (et_inT (zs := ["drop", "rename"]) (ev_sub0 (k := .put n l) (ev_nm 2 (hk2.g g25)) _) (ev_tup (ea_cons (ev_gs T.c_DROP) (ea_cons (ev_gs T.c_RENAME) ea_nil)) (by simp))) (fun z => absurd (show ("put" : Str) ∈ (["drop", "rename"] : List Str) from of_decide_eq_true z.symm) (by decide +kernel)) (fun _ H6 g6 => ?_)
      have g26 := g25.t g6
      refine bl_when g6.r (EvT.is (c := true) (et_neS (ev_sub0 (k := .put n l) (ev_nm 2 (hk2.g g26)) _) (ev_gs T.c_DROP)) (by show (!decide (("put" : Str) = "drop")) = true; rw [kd_put_drop]; rfl)) (fun _ H7 g7 => ?_) (fun z => nt z)
      have g27 := g26.t g7
      refine bl_set (i := 6) g7.r (P := Pd K (.str n)) (ev_if (EvT.is (c := false) (et_eqS (ev_sub0 (k := .put n l) (ev_nm 2 (hk2.g g27)) _) (ev_gs T.c_RENAME)) kd_put_rename) (fun z => nt z) (fun _ => ev_nm 4 (.str n))) (fun gv H8 g8 pg => ?_) nd
      obtain rfl := dv_str pg
      have g28 := g27.t g8
      exact last' _ n v u nv (.str n) y (rowOf (.new sv) l) H8 _ (ex2.t (Ex.gr g28)) (ho2.g g28) le2 (Dv.g py (((g5.t g6).t g7).t g8)) (fun σ' H9 e9 o9 => bl_nil (hQ H9 e9 o9))
    | patch n i j l h =>
      have len2 := fo.len
      refine bl_when (Gr.z H2) (EvT.is (c := false) (et_eqS (ev_sub0 (k := .patch n i j l h) (ev_nm 2 hk2) _) (ev_gs T.c_PUT)) kd_patch_put) (fun z => nf z) (fun _ H3 g3 => ?_)
      refine bl_when g3.r (EvT.is (c := true) (et_eqS (ev_sub0 (k := .patch n i j l h) (ev_nm 2 (hk2.g g3)) _) (ev_gs T.c_PATCH)) kd_patch_patch) (fun _ H4 g4 => ?_) (fun z => nt z)
      have g24 := g3.t g4
      have hk4 := hk2.g g24
      have hd4 := hd2.g g24
      have pl1 := partF_len 0 i (heldO o n) 0
      have pl2 := partF_len (i + j) h (heldO o n) 0
      have rl := row_le (.new sv) l
      have len3 : (heldO o n).length ≤ 3000 := len2
      have hfl : ([partF (heldO o n) 0 0 i, rowOf (.new sv) l, partF (heldO o n) 0 (i + j) h] : List (List Pc)).flatten = partF (heldO o n) 0 0 i ++ rowOf (.new sv) l ++ partF (heldO o n) 0 (i + j) h := by simp
      refine bl_set (i := 5) g4.r (P := Pd K (rowD (newRow o sv (.patch n i j l h)))) (Ev.is (ev_joined T hr (by decide) (ev_row3 (r1 := partF (heldO o n) 0 0 i) (r2 := rowOf (.new sv) l) (r3 := partF (heldO o n) 0 (i + j) h)
        (ev_callD (ok_part_in T) hr (by decide) (heldO o n, 0, i) (by show (heldO o n).length ≤ 10000; omega) (ea_cons (ev_nm 5 hd4) (ea_cons ev_int (ea_cons (ev_ix (ev_nm 2 hk4) ev_int rfl) ea_nil)))) (ev_nm 3 (hn2.g g24))
        (ev_callD (ok_part_in T) hr (by decide) (heldO o n, i + j, h) (by show (heldO o n).length ≤ 10000; omega) (ea_cons (ev_nm 5 hd4) (ea_cons (Ev.is (ev_add (ev_ix (ev_nm 2 hk4) ev_int rfl) (ev_ix (ev_nm 2 hk4) ev_int rfl)) (by simp)) (ea_cons (ev_subL (k := .patch n i j l h) (ev_nm 2 hk4) _) ea_nil))))) ?_ ?_) (by rw [hfl]; rfl)) (fun y H5 g5 py => bl_nil ?_) nd
      · rw [hfl, List.length_append, List.length_append]
        omega
      · rw [hfl]
        exact fo.ok
      have g25 := g24.t g5
      refine bl_when g5.r (et_inT (zs := ["drop", "rename"]) (ev_sub0 (k := .patch n i j l h) (ev_nm 2 (hk2.g g25)) _) (ev_tup (ea_cons (ev_gs T.c_DROP) (ea_cons (ev_gs T.c_RENAME) ea_nil)) (by simp))) (fun z => absurd (show ("patch" : Str) ∈ (["drop", "rename"] : List Str) from of_decide_eq_true z.symm) (by decide +kernel)) (fun _ H6 g6 => ?_)
      have g26 := g25.t g6
      refine bl_when g6.r (EvT.is (c := true) (et_neS (ev_sub0 (k := .patch n i j l h) (ev_nm 2 (hk2.g g26)) _) (ev_gs T.c_DROP)) (by show (!decide (("patch" : Str) = "drop")) = true; rw [kd_patch_drop]; rfl)) (fun _ H7 g7 => ?_) (fun z => nt z)
      have g27 := g26.t g7
      refine bl_set (i := 6) g7.r (P := Pd K (.str n)) (ev_if (EvT.is (c := false) (et_eqS (ev_sub0 (k := .patch n i j l h) (ev_nm 2 (hk2.g g27)) _) (ev_gs T.c_RENAME)) kd_patch_rename) (fun z => nt z) (fun _ => ev_nm 4 (.str n))) (fun gv H8 g8 pg => ?_) nd
      obtain rfl := dv_str pg
      have g28 := g27.t g8
      exact last' _ n v u nv (.str n) y (newRow o sv (.patch n i j l h)) H8 _ (ex2.t (Ex.gr g28)) (ho2.g g28) le2 (Dv.g py ((g6.t g7).t g8)) (fun σ' H9 e9 o9 => bl_nil (hQ H9 e9 o9))
    | drop n h =>
      refine bl_when (Gr.z H2) (EvT.is (c := false) (et_eqS (ev_sub0 (k := .drop n h) (ev_nm 2 hk2) _) (ev_gs T.c_PUT)) kd_drop_put) (fun z => nf z) (fun _ H3 g3 => ?_)
      refine bl_when g3.r (EvT.is (c := false) (et_eqS (ev_sub0 (k := .drop n h) (ev_nm 2 (hk2.g g3)) _) (ev_gs T.c_PATCH)) kd_drop_patch) (fun z => nf z) (fun _ H4 g4 => ?_)
      have g24 := g3.t g4
      refine bl_when g4.r (et_inT (zs := ["drop", "rename"]) (ev_sub0 (k := .drop n h) (ev_nm 2 (hk2.g g24)) _) (ev_tup (ea_cons (ev_gs T.c_DROP) (ea_cons (ev_gs T.c_RENAME) ea_nil)) (by simp))) (fun _ H5 g5 => ?_) (fun z => absurd (show ¬ ("drop" : Str) ∈ (["drop", "rename"] : List Str) from of_decide_eq_false z.symm) (by decide +kernel))
      have ho5 := ho2.g (g24.t g5)
      refine bl_dput (b := ()) (Gr.z H5) (hu64 hr) (ev_gonA T ho5 (ev_nmV 0)) ho5.dgo (by have := fo.sm.go; show o.go.length < _; omega) (ev_nm 4 (.str n)) ev_bl (fun H6 H7 g6 dm wd => bl_nil ?_)
      have ho6 := ho5.g g6
      have ho7 : OuAt K H7 p ⟨o.gr, trDrop o.en n, trPut o.go n (), o.aks⟩ := ⟨ho6.sl.dm dm, dm.dv ho6.vg, dm.dw ho5.n2 ho6.das, dm.dw ho5.n3 ho6.den, wd, ho5.n1, ho5.n2, ho5.n3⟩
      have ex7 : Ex p H H7 := (ex2.t (Ex.gr ((g24.t g5).t g6))).t dm.exg
      refine bl_when (Gr.z H7) (EvT.is (c := false) (et_neS (ev_sub0 (k := .drop n h) (ev_nm 2 (dm.dv (hk2.g ((g24.t g5).t g6)))) _) (ev_gs T.c_DROP)) (by show (!decide (("drop" : Str) = "drop")) = false; rw [kd_drop_drop]; rfl)) (fun z => nf z) (fun _ H8 g8 => bl_nil (hQ H8 (ex7.t (Ex.gr g8)) (ho7.g g8)))
    | rename n m h =>
      refine bl_when (Gr.z H2) (EvT.is (c := false) (et_eqS (ev_sub0 (k := .rename n m h) (ev_nm 2 hk2) _) (ev_gs T.c_PUT)) kd_rename_put) (fun z => nf z) (fun _ H3 g3 => ?_)
      refine bl_when g3.r (EvT.is (c := false) (et_eqS (ev_sub0 (k := .rename n m h) (ev_nm 2 (hk2.g g3)) _) (ev_gs T.c_PATCH)) kd_rename_patch) (fun z => nf z) (fun _ H4 g4 => ?_)
      have g24 := g3.t g4
      refine bl_when g4.r (et_inT (zs := ["drop", "rename"]) (ev_sub0 (k := .rename n m h) (ev_nm 2 (hk2.g g24)) _) (ev_tup (ea_cons (ev_gs T.c_DROP) (ea_cons (ev_gs T.c_RENAME) ea_nil)) (by simp))) (fun _ H5 g5 => ?_) (fun z => absurd (show ¬ ("rename" : Str) ∈ (["drop", "rename"] : List Str) from of_decide_eq_false z.symm) (by decide +kernel))
      have ho5 := ho2.g (g24.t g5)
      refine bl_dput (b := ()) (Gr.z H5) (hu64 hr) (ev_gonA T ho5 (ev_nmV 0)) ho5.dgo (by have := fo.sm.go; show o.go.length < _; omega) (ev_nm 4 (.str n)) ev_bl (fun H6 H7 g6 dm wd => bl_nil ?_)
      have ho6 := ho5.g g6
      have ho7 : OuAt K H7 p ⟨o.gr, trDrop o.en n, trPut o.go n (), o.aks⟩ := ⟨ho6.sl.dm dm, dm.dv ho6.vg, dm.dw ho5.n2 ho6.das, dm.dw ho5.n3 ho6.den, wd, ho5.n1, ho5.n2, ho5.n3⟩
      have ex7 : Ex p H H7 := (ex2.t (Ex.gr ((g24.t g5).t g6))).t dm.exg
      have hk7 := dm.dv (hk2.g ((g24.t g5).t g6))
      have hd7 := dm.dv (hd2.g ((g24.t g5).t g6))
      refine bl_when (Gr.z H7) (EvT.is (c := true) (et_neS (ev_sub0 (k := .rename n m h) (ev_nm 2 hk7) _) (ev_gs T.c_DROP)) (by show (!decide (("rename" : Str) = "drop")) = true; rw [kd_rename_drop]; rfl)) (fun _ H8 g8 => ?_) (fun z => nt z)
      refine bl_set (i := 6) g8.r (P := Pd K (.str m)) (ev_if (EvT.is (c := true) (et_eqS (ev_sub0 (k := .rename n m h) (ev_nm 2 (hk7.g g8)) _) (ev_gs T.c_RENAME)) kd_rename_rename) (fun _ => ev_ix (ev_nm 2 (hk7.g g8)) ev_int rfl) (fun z => nf z)) (fun gv H9 g9 pg => ?_) nd
      obtain rfl := dv_str pg
      have g79 := g8.t g9
      exact last' _ m v u nv (.str n) hv (heldO o n) H9 _ (ex7.t (Ex.gr g79)) (ho7.g g79) le2 (hd7.g g79) (fun σ' H10 e9 o9 => bl_nil (hQ H10 e9 o9))
  subst hX
  refine bl_par (i := 3) (j := 4) (Gr.z H) (ea_cons (ev_callD (ok_row_of T) hr (by decide) (So.new sv, k.news) trivial (ea_cons (ev_tup (ea_cons (ev_gs T.c_NEW) (ea_cons (ev_nm 1 hs) ea_nil)) (by simp)) (ea_cons (ev_callD (ok_new_length T) hr (by decide) k trivial (ea_cons (ev_nm 2 hk) ea_nil)) ea_nil))) (ea_cons (ev_sub1 (ev_nm 2 hk) _) ea_nil)) (fun vs H1 g1 pa => ?_) rfl nd
  obtain ⟨nv, nm, rfl, hnew, hnm⟩ := dvA2 pa
  obtain rfl := dv_str hnm
  refine ⟨_, _, rfl, ?_⟩
  have ho1 := ho.g g1
  have hk1 := hk.g g1
  refine bl_dpopS (q := 5) (dj := .tuple []) (Gr.z H1) (ev_entA T ho1 (ev_nmV 0)) ho1.den (ev_nm 4 (.str k.name)) (ev_tup ea_nil (by simp)) (fun hv b H2 H3 g2 dm wd eb hb => ?_) (fun hv H2 g2 en hb => ?_) nd
  · have ho2 := ho1.g g2
    refine fin v u nv hv H3 ((Ex.gr (g1.t g2)).t dm.exe) ⟨ho2.sl.dm dm, dm.dv ho2.vg, dm.dw ho1.n1 ho2.das, wd, dm.dw ho1.n3.symm ho2.dgo, ho1.n1, ho1.n2, ho1.n3⟩ ?_ (dm.dv (Dv.g hnew g2)) (dm.dv (hk1.g g2))
    have : heldO o k.name = b := by unfold heldO; rw [eb]; rfl
    rw [this]
    exact hb
  · refine fin v u nv hv H2 (Ex.gr (g1.t g2)) ?_ ?_ (Dv.g hnew g2) (hk1.g g2)
    · rw [trDrop_none en]
      exact ho1.g g2
    · have : heldO o k.name = [] := by unfold heldO; rw [en]; rfl
      rw [this]
      exact hb
end
end SR
set_option Elab.async false
set_option linter.all false
set_option maxRecDepth 100000
set_option maxHeartbeats 4000000
/-! Outline: led, behind; its properties -/
namespace SR
open PySem PySem.Spec PyProof.Rows L2
def ledO (o : Ou) (s : Int × Int) (k : Mark) : Ou := followO (reasonO o k) s k
structure LedOk (o : Ou) (s : Int × Int) (k : Mark) : Prop where
  gr : grOk o.gr
  tiny : Tiny o
  rsn : reasonOk o k
  fol : FolOk (reasonO o k) s k
/-- sorted by name -/
noncomputable def sortM {β : Type} (m : List (Str × β)) : List (Str × β) := (srt (m.map (·.1))).filterMap fun n => (trGet m n).map fun b => (n, b)
theorem get_in {κ β : Type} [DecidableEq κ] {m : List (κ × β)} {n : κ} (h : n ∈ m.map (·.1)) : ∃ b, trGet m n = some b := by
  have : (trGet m n).isSome = true := by
    rw [← any_of_get]
    obtain ⟨q, hq, e⟩ := List.mem_map.mp h
    exact List.any_eq_true.mpr ⟨q, hq, decide_eq_true e⟩
  exact Option.isSome_iff_exists.mp this
theorem get_none {κ β : Type} [DecidableEq κ] {m : List (κ × β)} {n : κ} (h : n ∉ m.map (·.1)) : trGet m n = none := by
  cases e : trGet m n with
  | none => rfl
  | some b =>
    have : (m.any fun q => decide (q.1 = n)) = true := by rw [any_of_get, e]; rfl
    obtain ⟨q, hq, e2⟩ := List.any_eq_true.mp this
    exact absurd (List.mem_map.mpr ⟨q, hq, of_decide_eq_true e2⟩) h
/-- one more name in their order -/
theorem sort_step {β : Type} {m : List (Str × β)} (nd : (m.map (·.1)).Nodup) {i : Nat} {n : Str} {b : β} (hn : (srt (m.map (·.1)))[i]? = some n) (hb : trGet m n = some b) :
    ((srt (m.map (·.1))).take (i + 1)).filterMap (fun n => (trGet m n).map fun b => (n, b)) = trPut (((srt (m.map (·.1))).take i).filterMap (fun n => (trGet m n).map fun b => (n, b))) n b := by
  rw [take_snoc hn, List.filterMap_append]
  have e : [n].filterMap (fun n => (trGet m n).map fun b => (n, b)) = [(n, b)] := by
    simp [hb]
  rw [e, trPut_none]
  refine get_none fun h => ?_
  obtain ⟨q, hq, e2⟩ := List.mem_map.mp h
  obtain ⟨x, hx, e3⟩ := List.mem_filterMap.mp hq
  obtain ⟨c, _, e4⟩ := Option.map_eq_some_iff.mp e3
  have ex : x = n := by rw [← e4] at e2; exact e2
  subst ex
  have sn := srt_nodup nd
  obtain ⟨j, hj, e5⟩ := List.mem_take_iff_getElem.mp hx
  have e6 : (srt (m.map (·.1)))[j]? = some x := by rw [List.getElem?_eq_getElem (by omega), e5]
  obtain ⟨hi, e7⟩ := List.getElem?_eq_some_iff.mp hn
  have := (List.getElem_inj (h₀ := by omega) (h₁ := hi) sn).mp (e5.trans e7.symm)
  omega
def nmsD (ns : List Str) : PyData := .tuple (ns.map .str)
noncomputable def goneD (o : Ou) : PyData := nmsD (srt (o.go.map (·.1)))
theorem ev_dcR {M : Addr → Prop} {X : Cx} {σ : L2.St} {H : Hp} {kx vx tg iter : Expr} {pos : Pos} {β : Type} {f : β → PyData} {ds : List PyData} {scope : Scope} {own : List (Str × Nat)} {gt : TG} {ifs : List Expr} {tt : TT} {r : List (Str × β)} (G : Nat → List (Str × β)) (h0 : G 0 = []) (hr : G ds.length = r) (hc : X.calm = true) (hN : X.N.Nodup) (ok : BlkOk X.N X.env.scope scope own) (hi : EvI M X.K (wI X tg iter) σ H ds) (hl : ds.length ≤ 100000)
    (pg : ∀ (s : Shared) (H0 : Hp) (C : Addr) (cl : List (Str × Addr)) (fp : List Addr), PG (X.blk s H0 scope (compEnvC scope cl C X.env) fp) tg gt)
    (pt : ∀ (s : Shared) (H0 : Hp) (C : Addr) (cl : List (Str × Addr)) (fp : List Addr), PTs (X.blk s H0 scope (compEnvC scope cl C X.env) fp) ifs tt)
    (step : ∀ i d x H2, ds[i]? = some d → Gr M H H2 → Dv X.K H2 x d → ∀ Q : L2.St → Hp → Prop, (∀ (σ2 : L2.St) (b : Bool) (n : Str) (z : β), wipe σ2 (own.map (·.2)) = wipe σ (own.map (·.2)) → EvT M tt σ2 H2 (· = b) → (b = true → Ev M (wEb X scope kx) σ2 H2 (Pd X.K (.str n)) ∧ Ev M (wEb X scope vx) σ2 H2 (Pd X.K (f z))) → G (i + 1) = (if b = true then trPut (G i) n z else G i) → Q σ2 H2) → gt x (wipe σ (own.map (·.2))) H2 Q)
    (hs : ∀ x, foldedSetIterable iter X.env x = pure x := by exact fun _ => rfl) : Ev M (wE X (.DictComp kx vx [⟨tg, iter, ifs, 0⟩] scope pos)) σ H (PDN X.K f r) := by
  rw [← hr]
  exact ev_dc G h0 hc hN ok hi hl pg pt step hs
section
variable {P : Program} {w : World} {K : PySem.W.Frag} {mg : Str → Option Value} {base : Heap}
theorem mem_copied : (("copied" : Str), ("Outline.copied" : Str), sm_copied) ∈ mdefs := by unfold mdefs; simp
theorem mem_reason : (("reason_for" : Str), ("Outline.reason_for" : Str), sm_reason_for) ∈ mdefs := by unfold mdefs; simp
theorem mem_follow : (("follow" : Str), ("Outline.follow" : Str), sm_follow) ∈ mdefs := by unfold mdefs; simp
theorem mem_led : (("led" : Str), ("Outline.led" : Str), sm_led) ∈ mdefs := by unfold mdefs; simp
def spLed (K : PySem.W.Frag) : Sp := fun vs H Q _ => ∃ (p : OA) (o : Ou) (s : Int × Int) (k : Mark) (v u : V), vs = [.ref p.a, v, u] ∧ OuAt K H p o ∧ Dv K H v (saveD s) ∧ Dv K H u k.d ∧ LedOk o s k ∧
  ∀ (t : Addr) (q : OA) H', Gr M0 H H' → OuNew H q → OuAt K H' q (ledO o s k) → H' t = some (.tup [.ref q.a, .non]) → Q (.ref t) H'
theorem sc_led : FnScope ["self", "save", "mark", "found", "reason"] ["self", "save", "mark"] (defScope sm_led) := ⟨rfl, rfl, rfl, by decide +kernel, rfl, by decide +kernel, by decide +kernel⟩
theorem ok_led (T : Txt w K mg) : FnR P w K mg base CX0 8 (pA K "led") (spLed K) := by
  refine raw_of (x := "led") (met_ok T 6 rfl sc_led (fun _ _ _ _ _ _ us hl => match us, hl with | [_, _, _], _ => rfl) (fun vs H Q E ⟨_, _, _, _, _, _, h, _⟩ => by rw [h]; rfl) (fun f cdv A outer s H vs Q E hr ⟨p, o, sv, k, v, u, hv, ho, hs, hk, lk, hQ⟩ => ?_))
  subst hv
  have nd := sc_led.nd
  refine bl_set (i := 3) (Gr.z H) (P := PON K o) (ev_meth0 T (ok_copied T) (T.meth mem_copied) hr (by decide) (ev_nmV 0) ho.sl (fun H0 H1 g0 g1 Q q => ⟨p, o, rfl, ho.g (g0.t g1), lk.gr, fun qq H3 g3 n3 o3 => q _ H3 g3 ⟨qq, rfl, ⟨g1.back n3.a, g1.back n3.dx, g1.back n3.da, g1.back n3.de, g1.back n3.dg⟩, o3⟩⟩) _) (fun x H1 g1 px => ?_) nd
  obtain ⟨q, rfl, nq, oq⟩ := px
  refine bl_methS (i := 4) T (ok_reason_for T) (T.meth mem_reason) hr (by decide) (Gr.z H1) (ev_nmV 3) oq.sl (ea_cons (ev_nm 2 (hk.g g1)) ea_nil) (fun ws H2 H3 g2 g3 pw => ?_) nd (pl := _)
  obtain ⟨y, rfl, hy⟩ := dvA1 pw
  have oq3 := (oq.g g2).g g3
  have G3 := (g1.t g2).t g3
  refine ⟨q, o, k, y, rfl, oq3, hy, lk.tiny, lk.rsn, fun H4 ex4 oq4 => ?_⟩
  have G4 : Gr M0 H H4 := ex4.grow oq3 nq G3
  refine bl_when (Gr.z H4) (EvT.is (c := false) (et_notN (ev_nm 4 .non) (fun v H1 H2 p => non_d p)) rfl) (fun z => nf z) (fun _ H5 g5 => ?_)
  have oq5 := oq4.g g5
  have G5 := G4.t g5
  refine bl_methE T (ok_follow T) (T.meth mem_follow) hr (by decide) g5.r (ev_nmV 3) oq5.sl (ea_cons (ev_nm 1 (hs.g G5)) (ea_cons (ev_nm 2 (hk.g G5)) ea_nil)) (fun ws H6 H7 g6 g7 pw => ?_) (pl := _)
  obtain ⟨y1, y2, rfl, hy1, hy2⟩ := dvA2 pw
  have oq7 := (oq5.g g6).g g7
  refine ⟨q, _, sv, k, y1, y2, rfl, oq7, hy1, hy2, lk.fol, fun H8 ex8 oq8 => ?_⟩
  have G8 : Gr M0 H H8 := ex8.grow oq7 nq ((G5.t g6).t g7)
  refine bl_ret (Gr.z H8) (P := PTup [Pv (.ref q.a), Pd K .none]) (ev_tupG (eg_cons stb_v (fun P hP => by cases List.mem_singleton.mp hP; exact stb_d) (ev_nmV 3) (eg_cons stb_d (fun P hP => by cases hP) ev_non eg_nil)) (by simp) (fun vs H1 H2 h => PvA_len h)) (fun x H9 g9 px => ?_)
  obtain ⟨t, vs, Hm, rfl, ht, ht2, _, pv, _⟩ := px
  obtain ⟨a1, w1, rfl, e1, a2, w2, rfl, e2, rfl⟩ := pv
  obtain rfl : a1 = .ref q.a := e1
  obtain rfl := dv_non e2
  exact hQ t q H9 (G8.t g9) nq (oq8.g g9) ht2
/-- behind a mark that can be followed -/
def spBehind (K : PySem.W.Frag) : Sp := fun vs H Q _ => ∃ (p : OA) (o : Ou) (s : Int × Int) (k : Mark) (v u : V), vs = [.ref p.a, v, u] ∧ OuAt K H p o ∧ Dv K H v (saveD s) ∧ Dv K H u k.d ∧ saveOk s ∧ k.ok ∧ LedOk o s k ∧
  ∀ (q : OA) H', Gr M0 H H' → OuNew H q → OuAt K H' q (ledO o s k) → Q (.ref q.a) H'
theorem sc_behind : FnScope ["self", "save", "mark", "found", "reason"] ["self", "save", "mark"] (defScope sm_behind) := ⟨rfl, rfl, rfl, by decide +kernel, rfl, by decide +kernel, by decide +kernel⟩
theorem ok_behind (T : Txt w K mg) : FnR P w K mg base CX0 9 (pA K "behind") (spBehind K) := by
  refine raw_of (x := "behind") (met_ok T 7 rfl sc_behind (fun _ _ _ _ _ _ us hl => match us, hl with | [_, _, _], _ => rfl) (fun vs H Q E ⟨_, _, _, _, _, _, h, _⟩ => by rw [h]; rfl) (fun f cdv A outer s H vs Q E hr ⟨p, o, sv, k, v, u, hv, ho, hs, hk, sok, kok, lk, hQ⟩ => ?_))
  subst hv
  have nd := sc_behind.nd
  refine bl_expr (Gr.z H) (ev_callD (ok_require_save_name T) hr (by decide) sv sok (ea_cons (ev_nm 1 hs) ea_nil)) (fun _ H1 g1 _ => ?_)
  refine bl_expr g1.r (ev_callD (ok_require_mark T) hr (by decide) k kok (ea_cons (ev_nm 2 (hk.g g1)) ea_nil)) (fun _ H2 g2 _ => ?_)
  have g12 := g1.t g2
  have ho2 := ho.g g12
  refine bl_asg (gt := gTup K 2 (gCons (gName 3) (gCons (gName 4) gNil))) g2.r (pg_tup rfl (pgs_cons (pg_name nd rfl (Or.inl rfl)) (pgs_cons (pg_name nd rfl (Or.inl rfl)) pgs_nil)))
    (P := fun v H1 H2 => ∃ (t : Addr) (q : OA), v = .ref t ∧ OuNew H1 q ∧ OuAt K H2 q (ledO o sv k) ∧ H2 t = some (.tup [.ref q.a, .non]))
    (ev_meth T (ok_led T) (T.meth mem_led) hr (by decide) (ev_nmV 0) ho2.sl (ea_cons (ev_nm 1 (hs.g g12)) (ea_cons (ev_nm 2 (hk.g g12)) ea_nil)) (fun ws H0 H1 H2 g0 g1 g2 pw Q q => by
      obtain ⟨y1, y2, rfl, hy1, hy2⟩ := dvA2 pw
      exact ⟨p, o, sv, k, y1, y2, rfl, ho2.g ((g0.t g1).t g2), hy1, hy2, lk, fun t qq H3 g3 n3 o3 e3 => q _ H3 g3 ⟨t, qq, rfl, ⟨(g1.t g2).back n3.a, (g1.t g2).back n3.dx, (g1.t g2).back n3.da, (g1.t g2).back n3.de, (g1.t g2).back n3.dg⟩, o3, e3⟩⟩) rfl rfl _) (fun x H3 g3 px => ?_)
  obtain ⟨t, q, rfl, nq, oq, et⟩ := px
  refine ⟨t, _, rfl, .inl (.inl et), rfl, _, _, rfl, _, _, rfl, rfl, ?_⟩
  refine bl_when g3.r (EvT.is (c := false) (et_notN (ev_nm 4 .non) (fun v H1 H2 p => non_d p)) rfl) (fun z => nf z) (fun _ H4 g4 => ?_)
  refine bl_ret g4.r (P := Pv (.ref q.a)) (ev_nmV 3) (fun x H5 g5 e => ?_)
  obtain rfl : x = .ref q.a := e
  exact hQ q H5 (((g12.t g3).t g4).t g5) ⟨g12.back nq.a, g12.back nq.dx, g12.back nq.da, g12.back nq.de, g12.back nq.dg⟩ ((oq.g g4).g g5)
/-! properties -/
def spGround (K : PySem.W.Frag) : Sp := fun vs H Q _ => ∃ (p : OA) (o : Ou), vs = [.ref p.a] ∧ OuAt K H p o ∧ ∀ v H', Gr M0 H H' → Dv K H' v (grD o.gr) → Q v H'
theorem sc_ground : FnScope ["self"] ["self"] (defScope sm_ground) := ⟨rfl, rfl, rfl, by decide +kernel, rfl, by decide +kernel, by decide +kernel⟩
theorem ok_ground (T : Txt w K mg) : FnR P w K mg base CX0 1 (gA K "ground") (spGround K) := by
  refine prp_ok T 0 rfl sc_ground (fun _ _ _ _ _ _ us hl => match us, hl with | [_], _ => rfl) (fun vs H Q E ⟨_, _, h, _⟩ => by rw [h]; rfl) (fun f cdv A outer s H vs Q E hr ⟨p, o, hv, ho, hQ⟩ => ?_)
  subst hv
  exact bl_ret (Gr.z H) (ev_ground T ho (ev_nmV 0)) (fun v H1 g p => hQ v H1 g p)
def spGone (K : PySem.W.Frag) : Sp := fun vs H Q _ => ∃ (p : OA) (o : Ou), vs = [.ref p.a] ∧ OuAt K H p o ∧ o.go.length < 64 ∧ ∀ v H', Gr M0 H H' → Dv K H' v (goneD o) → Q v H'
theorem sc_gone : FnScope ["self"] ["self"] (defScope sm_gone) := ⟨rfl, rfl, rfl, by decide +kernel, rfl, by decide +kernel, by decide +kernel⟩
theorem ok_gone (T : Txt w K mg) : FnR P w K mg base CX0 1 (gA K "gone") (spGone K) := by
  refine prp_ok T 2 rfl sc_gone (fun _ _ _ _ _ _ us hl => match us, hl with | [_], _ => rfl) (fun vs H Q E ⟨_, _, h, _⟩ => by rw [h]; rfl) (fun f cdv A outer s H vs Q E hr ⟨p, o, hv, ho, hl, hQ⟩ => ?_)
  subst hv
  exact bl_ret (Gr.z H) (P := Pd K (goneD o)) (ev_tupL T.f_tuple (Ev.ld (ev_sortD rfl T.f_sorted hl (ev_gon T ho (ev_nmV 0))))) (fun v H1 g p => hQ v H1 g p)
def spEnt (K : PySem.W.Frag) : Sp := fun vs H Q _ => ∃ (p : OA) (o : Ou), vs = [.ref p.a] ∧ OuAt K H p o ∧ o.en.length < 64 ∧ (o.en.map (·.1)).Nodup ∧ ∀ a H', Gr M0 H H' → H a = none → DW K rowD H' a (sortM o.en) → Q (.ref a) H'
theorem sc_entries : FnScope ["self", "name"] ["self"] (defScope sm_entries) := ⟨rfl, rfl, rfl, by decide +kernel, rfl, by decide +kernel, by decide +kernel⟩
theorem ok_entries (T : Txt w K mg) : FnR P w K mg base CX0 1 (gA K "entries") (spEnt K) := by
  refine prp_ok T 1 rfl sc_entries (fun _ _ _ _ _ _ us hl => match us, hl with | [_], _ => rfl) (fun vs H Q E ⟨_, _, h, _⟩ => by rw [h]; rfl) (fun f cdv A outer s H vs Q E hr ⟨p, o, hv, ho, hl, nn, hQ⟩ => ?_)
  subst hv
  have nd := sc_entries.nd
  refine bl_ret (Gr.z H) (P := PDN K rowD (sortM o.en)) ?_ (fun v H1 g ⟨a, e, n, w⟩ => by
    subst e
    exact hQ a H1 g n w)
  refine ev_dcR (own := [("name", 1)]) (gt := gName 1) (ds := (srt (o.en.map (·.1))).map PyData.str) (fun i => ((srt (o.en.map (·.1))).take i).filterMap (fun n => (trGet o.en n).map fun b => (n, b))) rfl (by rw [List.length_map, List.take_length]; rfl) rfl nd (blkOk_by (sc := defScope sm_entries) (N := ["self", "name"]) (by decide +kernel)) (ei_list (Ev.lm (ev_sortD rfl T.f_sorted hl (ev_ent T ho (ev_nmV 0))))) ?_
    (fun _ _ _ _ _ => pg_name nd rfl (Or.inl rfl)) (fun _ _ _ _ _ => pts_nil) (fun i d x H2 e g hx Q q => gt_name ?_)
  · rw [List.length_map, (srt_perm _).length_eq, List.length_map]
    omega
  · obtain ⟨n, hn, rfl⟩ : ∃ n, (srt (o.en.map (·.1)))[i]? = some n ∧ d = .str n := by
      rw [List.getElem?_map] at e
      obtain ⟨n, h1, h2⟩ := Option.map_eq_some_iff.mp e
      exact ⟨n, h1, h2.symm⟩
    obtain ⟨b, hb⟩ := get_in (srt_mem.mp (List.mem_of_getElem? hn))
    have ho2 := ho.g g
    exact q _ true n b rfl et_yes (fun _ => ⟨ev_blk fun s H0 C cl fp => ev_nm 1 hx, ev_blk fun s H0 C cl fp => ev_dget (hu64 hr) (ev_ent T ho2 (ev_nmV 0)) (ev_nm 1 hx) hb⟩) (sort_step nn hn hb)
def spAsks (K : PySem.W.Frag) : Sp := fun vs H Q _ => ∃ (p : OA) (o : Ou), vs = [.ref p.a] ∧ OuAt K H p o ∧ o.aks.length < 64 ∧ (o.aks.map (·.1)).Nodup ∧ ∀ a H', Gr M0 H H' → H a = none → DW K askD H' a (sortM o.aks) → Q (.ref a) H'
theorem sc_asks : FnScope ["self", "name"] ["self"] (defScope sm_asks) := ⟨rfl, rfl, rfl, by decide +kernel, rfl, by decide +kernel, by decide +kernel⟩
theorem ok_asks (T : Txt w K mg) : FnR P w K mg base CX0 1 (gA K "asks") (spAsks K) := by
  refine prp_ok T 3 rfl sc_asks (fun _ _ _ _ _ _ us hl => match us, hl with | [_], _ => rfl) (fun vs H Q E ⟨_, _, h, _⟩ => by rw [h]; rfl) (fun f cdv A outer s H vs Q E hr ⟨p, o, hv, ho, hl, nn, hQ⟩ => ?_)
  subst hv
  have nd := sc_asks.nd
  refine bl_ret (Gr.z H) (P := PDN K askD (sortM o.aks)) ?_ (fun v H1 g ⟨a, e, n, w⟩ => by
    subst e
    exact hQ a H1 g n w)
  refine ev_dcR (own := [("name", 1)]) (gt := gName 1) (ds := (srt (o.aks.map (·.1))).map PyData.str) (fun i => ((srt (o.aks.map (·.1))).take i).filterMap (fun n => (trGet o.aks n).map fun b => (n, b))) rfl (by rw [List.length_map, List.take_length]; rfl) rfl nd (blkOk_by (sc := defScope sm_asks) (N := ["self", "name"]) (by decide +kernel)) (ei_list (Ev.lm (ev_sortD rfl T.f_sorted hl (ev_asks T ho (ev_nmV 0))))) ?_
    (fun _ _ _ _ _ => pg_name nd rfl (Or.inl rfl)) (fun _ _ _ _ _ => pts_nil) (fun i d x H2 e g hx Q q => gt_name ?_)
  · rw [List.length_map, (srt_perm _).length_eq, List.length_map]
    omega
  · obtain ⟨n, hn, rfl⟩ : ∃ n, (srt (o.aks.map (·.1)))[i]? = some n ∧ d = .str n := by
      rw [List.getElem?_map] at e
      obtain ⟨n, h1, h2⟩ := Option.map_eq_some_iff.mp e
      exact ⟨n, h1, h2.symm⟩
    obtain ⟨b, hb⟩ := get_in (srt_mem.mp (List.mem_of_getElem? hn))
    have ho2 := ho.g g
    exact q _ true n b rfl et_yes (fun _ => ⟨ev_blk fun s H0 C cl fp => ev_nm 1 hx, ev_blk fun s H0 C cl fp => ev_dget (hu64 hr) (ev_asks T ho2 (ev_nmV 0)) (ev_nm 1 hx) hb⟩) (sort_step nn hn hb)
/-- __len__ -/
def spLen (K : PySem.W.Frag) : Sp := fun vs H Q _ => ∃ (p : OA) (o : Ou), vs = [.ref p.a] ∧ OuAt K H p o ∧ ∀ H', Gr M0 H H' → Q (.int (o.en.length : Int)) H'
theorem sc_len : FnScope ["self"] ["self"] (defScope sm_len) := ⟨rfl, rfl, rfl, by decide +kernel, rfl, by decide +kernel, by decide +kernel⟩
theorem ok_len (T : Txt w K mg) : FnR P w K mg base CX0 1 (pA K "__len__") (spLen K) := by
  refine raw_of (x := "__len__") (met_ok T 13 rfl sc_len (fun _ _ _ _ _ _ us hl => match us, hl with | [_], _ => rfl) (fun vs H Q E ⟨_, _, h, _⟩ => by rw [h]; rfl) (fun f cdv A outer s H vs Q E hr ⟨p, o, hv, ho, hQ⟩ => ?_))
  subst hv
  exact bl_ret (Gr.z H) (P := Pd K (.int (o.en.length : Int))) (ev_lenD T.f_len (ev_ent T ho (ev_nmV 0))) (fun v H1 g p => by
    obtain rfl := dv_int p
    exact hQ H1 g)
end
end SR
set_option Elab.async false
set_option linter.all false
set_option maxRecDepth 100000
set_option maxHeartbeats 4000000
/-! rules that the kit lacks: list.extend of a tuple -/
namespace SR
open PySem PySem.Spec PyProof.Rows L2
open PySem.Builtin PySem.AutoSeq1 in
theorem ext_tup (l : Addr) (items : Array Value) (n : Nat) (b : Addr) (items2 : Array Value) (n2 : Nat) (dd : Option Addr) (sl : Array (Option Value)) (hs0 : ¬(!items.isEmpty && Builtin.List.listTooLong (items.size + items2.size)) = true) (hs1 : items.size ≤ sizeLine) (hs2 : items.size + items2.size ≤ sizeLine + 1) :
    Meets (Builtin.«list.extend» ⟨[.ref l, .ref b], []⟩) (fun _ R s => s.heap.get? l = some { cls := .type "list", dict := none, data := .seq items n, slots := #[] } ∧ s.heap.get? b = some { cls := .type "tuple", dict := dd, data := .seq items2 n2, slots := sl } ∧ R (.ok (.ret Value.none)) { s with heap := s.heap.update l (Obj.mapSeq fun x => x ++ items2), toks := s.toks }) :=
  .of_wp fun prog w A R s h => by
    obtain ⟨hp, g, d, tk, os⟩ := s; obtain ⟨hl, hb, h⟩ := h
    have f1 := idx_int; have f2 := AutoSeq1.sub_tuple_tuple; have f3 := AutoSeq1.sub_list_list; have f4 := AutoSeq1.sub_tuple_list; have f5 := AutoSeq1.sub_list_tuple
    have hz' : (items ++ items2).size ≤ sizeLine + 1 := by rw [Array.size_append]; exact hs2
    wp_walk using (wpAny_updateSeq hl rfl (hz := hs1) (_hz' := hz')), wpAny_loadPart' hl, wpAny_loadPart' hb; exact ⟨_, rfl, h⟩
def rExtT (K : PySem.W.Frag) : V → List V → Hp → VK → Prop := fun x vs H Q => ∃ l b xs zs, x = .ref l ∧ vs = [.ref b] ∧ H l = some (.lst xs) ∧ H b = some (.tup zs) ∧ xs.length + zs.length ≤ sizeLine ∧ Q .non (upd H l (.lst (xs ++ zs)))
theorem mt_extT {X : Cx} : MtM X "list.extend" (rExtT X.K) := by
  intro pins s σ H x vs v us Q I rx rv h
  obtain ⟨l, b, xs, zs, rfl, rfl, hH, hB, hz, q⟩ := h
  cases rx
  obtain ⟨u, rfl, ru⟩ := rv.one
  cases ru
  obtain ⟨z, its, n, r, hl, e⟩ := I.lstM hH
  obtain ⟨its2, r2, ⟨⟨oc, od, dat, sl⟩, eo, ec, n2, ed⟩, hz2⟩ := I.tuple (.inl (.inl hB))
  subst ec ed
  have hl2 := r2.length
  have hsz : its.toArray.size + its2.toArray.size ≤ sizeLine := by rw [List.size_toArray, List.size_toArray]; omega
  have hlong : ¬ (!its.toArray.isEmpty && Builtin.List.listTooLong (its.toArray.size + its2.toArray.size)) = true := by
    rw [notLongL hsz, Bool.and_false]
    exact Bool.false_ne_true
  refine call_meets F.slot_list_extend ⟨_, e, rfl⟩ F.entry_list_extend (F.args_list_extend_2 _ _)
    (ext_tup l its.toArray n b its2.toArray n2 od sl hlong (by rw [List.size_toArray]; omega) (by omega)) ⟨e, eo, ?_⟩
  refine ⟨.non, _, I.lset (its' := its ++ its2) hH e (by simp) (r.append r2) ?_, rfl, q⟩
  rw [List.length_append]
  omega
end SR
set_option Elab.async false
set_option linter.all false
set_option maxRecDepth 100000
set_option maxHeartbeats 4000000
/-! rules that the kit lacks: dicts whose keys are pairs of numbers -/
namespace SR
open PySem PySem.Spec PyProof.Rows L2
section
variable {X : Cx}
/-- what an unlocked or locked dict with tuple keys is -/
theorem dT_all {P : Program} {w : World} {H : Hp} {h : Heap} {d : Addr} {kvs : List (List Key × V)} (ok : HOk P w H h) (e : Rd H d (.dT kvs)) : ∃ (xs : List (List Key × Addr × Value)) (o : Obj) (es : Array DictEntry) (ep : Nat),
    kvs.length ≤ sizeLine ∧ (d == sysModules) = false ∧ KT H kvs xs ∧ h.get? d = some o ∧ o.ExactDict ∧ o.data = .dict es ep ∧ es.toList = xs.map (entryOfKey (tupleKind (mixKind P w))) := by
  obtain ⟨z, hs, xs, pr, o, es, ep, ho, hx, hd, he, _⟩ := (show ObjOk P w H h d (.dT kvs) from e.ok ok)
  exact ⟨xs, o, es, ep, z, hs, pr, ho, hx, hd, he⟩
/-- an entry of it -/
theorem dT_at {P : Program} {w : World} {H : Hp} {kvs : List (List Key × V)} {xs : List (List Key × Addr × Value)} {es : Array DictEntry} (pr : KT H kvs xs) (he : es.toList = xs.map (entryOfKey (tupleKind (mixKind P w)))) {i : Nat} {k : List Key} {v : V} (e : kvs[i]? = some (k, v)) :
    ∃ (en : DictEntry) (q : Addr), es[i]? = some en ∧ en.key = .ref q ∧ H q = some (.tup (k.map kV)) ∧ RelV v en.val := by
  obtain ⟨b, hb, e1, e2, e3⟩ := paired_get pr e
  have z := entry_at he i
  rw [hb] at z
  exact ⟨_, b.2.1, z, rfl, e2, e3⟩
theorem dT_size {P : Program} {w : World} {H : Hp} {kvs : List (List Key × V)} {xs : List (List Key × Addr × Value)} {es : Array DictEntry} (pr : KT H kvs xs) (he : es.toList = xs.map (entryOfKey (tupleKind (mixKind P w)))) : es.size = kvs.length := by
  rw [size_of_entries he, Paired.length pr]
/-- sorted(d), the keys pairs of small numbers -/
theorem call_sortedT (hcalm : X.calm = true) : CallR X (.builtin "sorted") (fun xs H Q => ∃ (a : Addr) (kvs : List (List Key × V)) (ns : List (List Int)) (B : Int), xs = [.ref a] ∧ Rd H a (.dT kvs) ∧ kvs.map (·.1) = ns.map (fun n => n.map Sum.inl) ∧ ns.length < 64 ∧
    (∀ n ∈ ns, n.length = 2 ∧ TS.Bd B n) ∧ ∀ (bs bs' : List Addr) p, IsKeys H kvs bs → bs'.Perm bs → H p = none → Q (.ref p) (upd H p (.lst (bs'.map V.ref)))) := by
  intro pins s σ H ws us Q I r h
  obtain ⟨a, kvs, ns, B, rfl, hr, hk, hlen, hB, q⟩ := h
  rw [Vals.ref1 r]
  obtain ⟨xs, o, es, ep, z, lo, pr, ho, hx, hd, he⟩ := dT_all I.hok hr
  have hsz := dT_size pr he
  have hkl : kvs.length = ns.length := by
    have := congrArg List.length hk
    simpa using this
  have h16 : es.size ≤ sizeLine := by rw [hsz]; exact z
  refine Calls.call_function_entry kind_sorted plain_sorted entry_sorted (args_sorted1 _) ?_
  unfold Builtin.«sorted»
  refine wpAny_bind (m := checkCount "sorted" 1 1 _) (wpAny_pure ?_)
  refine wpAny_bind (PySem.W.kdu_collect (A := X.A.in1) (kdl_raw (prog := X.prog) (w := X.w) lo hx hd) (I.ok.hd hcalm) ho h16 fun h' tk acc keep hacc => ?_)
  -- the values collected are the keys' own tuples
  have hal : acc.toList.length = xs.length := by rw [Array.length_toList, hacc.1, hsz]; exact Paired.length pr
  have hav : acc.toList = (xs.map fun x => x.2.1).map Value.ref := by
    refine List.ext_getElem? fun j => ?_
    rw [List.getElem?_map, List.getElem?_map]
    cases e : acc.toList[j]? with
    | none =>
      rw [List.getElem?_eq_none (l := xs) (by rw [← hal]; exact List.getElem?_eq_none_iff.mp e)]
      rfl
    | some v =>
      obtain ⟨en, e1, e2⟩ := hacc.2 j v (by rw [← Array.getElem?_toList]; exact e)
      have z2 := entry_at he j
      rw [e1] at z2
      cases e3 : xs[j]? with
      | none =>
        rw [e3] at z2
        cases z2
      | some x =>
        rw [e3] at z2
        have e4 : en = entryOfKey (tupleKind (mixKind X.prog X.w)) x := Option.some.inj z2
        rw [e2, e4]
        rfl
  have I1 : Inv X pins σ H { s with heap := h', toks := tk } := I.kept keep
  have hax : acc.toList.length < 64 := by rw [hal, ← Paired.length pr, hkl]; exact hlen
  refine wpAny_bind (wpAny_newList ?_ (by rw [sizeLine_eq]; omega))
  have hoL : (h'.push (seqObj "list" acc.toList.toArray 0)).get? h'.objs.size = some (seqObj "list" acc.toList.toArray 0) := Heap.get?_push_size _ rfl
  show wpAny _ _ _ _ _ { s with heap := h'.push (seqObj "list" acc.toList.toArray 0), toks := tk }
  have tups : TS.TupsOk (h'.push (seqObj "list" acc.toList.toArray 0)) 2 B acc.toList := by
    intro v hv
    rw [hav] at hv
    obtain ⟨b, hb, rfl⟩ := List.mem_map.mp hv
    obtain ⟨x, hxm, rfl⟩ := List.mem_map.mp hb
    obtain ⟨j, hj⟩ := List.getElem?_of_mem hxm
    obtain ⟨p, hp⟩ : ∃ p, kvs[j]? = some p := by
      have : j < kvs.length := by rw [Paired.length pr]; exact (List.getElem?_eq_some_iff.mp hj).1
      exact ⟨_, List.getElem?_eq_getElem this⟩
    obtain ⟨b, hb2, e1, e2, _⟩ := paired_get pr hp
    rw [hj] at hb2
    cases hb2
    have e3 : (kvs.map (·.1))[j]? = some p.1 := by rw [List.getElem?_map, hp]; rfl
    rw [hk, List.getElem?_map] at e3
    obtain ⟨n, hn, e4⟩ := Option.map_eq_some_iff.mp e3
    obtain ⟨l2, bd⟩ := hB n (List.mem_of_getElem? hn)
    refine ⟨n, ?_, l2, bd⟩
    have e5 : H x.2.1 = some (.tup (n.map V.int)) := by
      rw [e2, ← e4, List.map_map]
      rfl
    obtain ⟨its, rv, ⟨oo, eo, ec, n2, ed⟩, _⟩ := I1.tuple (.inl (.inl e5))
    exact ⟨_, _, rfl, ⟨oo, Heap.get?_push_of_some _ eo, ec, n2, ed⟩, by simpa using ints_of_vals rv⟩
  refine wpAny_bind (wpAny_holding (TS.call_sort_tups (d := 2) (B := B) hoL hax (by decide) tups fun out pm _ => ?_))
  obtain ⟨e', he'⟩ := PyProof.Rows.sortedHeap_at (vs := acc.toList) (out := out) hoL
  obtain ⟨bs', pb, eb⟩ : ∃ bs' : List Addr, bs'.Perm (xs.map fun x => x.2.1) ∧ out.toList = bs'.map Value.ref := by
    rw [hav] at pm
    have : ∀ v ∈ out.toList, ∃ b, v = Value.ref b := fun v hv => by
      obtain ⟨b, _, e⟩ := List.mem_map.mp (pm.mem_iff.mp hv)
      exact ⟨b, e.symm⟩
    refine ⟨out.toList.map fun v => match v with | .ref b => b | _ => 0, ?_, ?_⟩
    · have := pm.map (fun v => match v with | .ref b => b | _ => (0 : Addr))
      rw [List.map_map] at this
      refine this.trans ?_
      rw [show ((fun v : Value => match v with | .ref b => b | _ => (0 : Addr)) ∘ Value.ref) = id from rfl, List.map_id]
    · rw [List.map_map]
      refine (List.map_id _).symm.trans (List.map_congr_left fun v hv => ?_)
      obtain ⟨b, rfl⟩ := this v hv
      rfl
  have hbl : (bs'.map V.ref).length ≤ sizeLine := by
    rw [List.length_map, pb.length_eq, List.length_map, ← Paired.length pr]
    exact z
  refine wpAny_pure ⟨_, rfl, .ref h'.objs.size, upd H h'.objs.size (.lst (bs'.map V.ref)), I1.laid (t' := tk) (fun b u e => ?_) (Nat.le_refl _)
    (show ObjOk X.prog X.w _ _ _ (.lst (bs'.map V.ref)) from ⟨hbl, out.toList, e', by rw [eb]; exact L2.vals_refs bs', by rw [Array.toArray_toList]; exact he'⟩), rfl, q _ bs' _ (isKeys_of pr) pb (I1.hok.fresh (Nat.le_refl _))⟩
  have hb : b < h'.objs.size := Heap.lt_size e
  rw [PyProof.Rows.sortedHeap_old (Nat.ne_of_lt hb) (by rw [Heap.size_push]; exact Nat.lt_succ_of_lt hb)]
  exact Heap.get?_push_of_some _ e
end
end SR
set_option Elab.async false
set_option linter.all false
set_option maxRecDepth 100000
set_option maxHeartbeats 4000000
/-! walks over dicts whose keys are pairs: values, items -/
namespace SR
open PySem PySem.Spec PyProof.Rows L2
/-- the values of the locked dict at d -/
def JtV (d : Addr) (o : Obj) (kvs : List (List Key × V)) : It :=
  ⟨fun i H => H d = some (.frz o (.dT kvs)) ∧ i < kvs.length, fun i H x H' => H' = H ∧ ∃ k, kvs[i]? = some (k, x), fun i H => H d = some (.frz o (.dT kvs)) ∧ kvs.length ≤ i⟩
/-- its pairs -/
def JtI (d : Addr) (o : Obj) (kvs : List (List Key × V)) : It :=
  ⟨fun i H => H d = some (.frz o (.dT kvs)) ∧ i < kvs.length, fun i H x H' => ∃ T k v q, kvs[i]? = some (k, v) ∧ x = .ref T ∧ H T = none ∧ H q = some (.tup (k.map kV)) ∧ H' = upd H T (.tup [.ref q, v]), fun i H => H d = some (.frz o (.dT kvs)) ∧ kvs.length ≤ i⟩
section
variable {P : Program} {w : World} {K : PySem.W.Frag} {tg : Expr} {d : Addr} {o : Obj} {es : Array DictEntry} {ep : Nat} {kvs : List (List Key × V)}
/-- the frozen dict read off the heap -/
theorem frz_raw {X : Cx} {pins : List (Addr × Obj)} {σ : L2.St} {H : Hp} {s : Shared} (I : Inv X pins σ H s) (h : H d = some (.frz o (.dT kvs))) : ∃ (es : Array DictEntry) (ep : Nat), (d == sysModules) = false ∧ s.heap.get? d = some o ∧ o.ExactDict ∧ o.data = .dict es ep ∧ es.size = kvs.length ∧
    ∀ (i : Nat) (k : List Key) (v : V), kvs[i]? = some (k, v) → ∃ (en : DictEntry) (q : Addr), es[i]? = some en ∧ en.key = .ref q ∧ H q = some (.tup (k.map kV)) ∧ RelV v en.val := by
  have ho : s.heap.get? d = some o := (I.hok d _ h).1
  obtain ⟨xs, o', es, ep, _, lo, pr, ho', hx, hd, he⟩ := dT_all I.hok (.inr ⟨o, h⟩)
  rw [ho] at ho'
  cases ho'
  exact ⟨es, ep, lo, ho, hx, hd, dT_size pr he, fun i k v e => dT_at pr he e⟩
theorem same_es {es' : Array DictEntry} {ep' : Nat} (h : o.data = .dict es ep) (h' : o.data = .dict es' ep') : es' = es ∧ ep' = ep := by
  rw [h] at h'
  injection h' with a b
  exact ⟨a.symm, b.symm⟩
theorem es_at {i : Nat} {en : DictEntry} (e : es[i]? = some en) (hi : i < es.size) : es[i] = en := by
  rw [Array.getElem?_eq_getElem hi] at e
  exact Option.some.inj e
theorem turn_tv (j : Addr) (hod : o.data = .dict es ep) (hsz : es.size = kvs.length) : Turn P w K tg (JtV d o kvs) [j] j (fun i h => h.IsValIter j d i es.size ep) where
  mem := List.mem_cons_self
  obj := fun i h st b hb => by
    obtain rfl := List.mem_singleton.mp hb
    obtain ⟨oj, e, _, dd⟩ := st
    refine ⟨oj, e, fun v z => ?_⟩
    rw [dd] at z
    cases z
  keep := fun i h h' st k => st.at fun oj e => k j List.mem_cons_self oj e
  item := by
    intro Y hP hw hK hc i pins s σ H E I free st hg
    subst hP hw hK
    obtain ⟨a0, a1, a2, a3, a4, a5⟩ := free j List.mem_cons_self
    obtain ⟨es', ep', lo, ho, hx, hd, hs2, at_⟩ := frz_raw I hg.1
    obtain ⟨rfl, rfl⟩ := same_es hod hd
    have hi : i < es'.size := by rw [hsz]; exact hg.2
    obtain ⟨⟨k, v⟩, hkv⟩ : ∃ p, kvs[i]? = some p := ⟨_, List.getElem?_eq_getElem hg.2⟩
    obtain ⟨en, q, e1, _, _, rv⟩ := at_ i k v hkv
    have e2 := es_at e1 hi
    refine wpAny_pyNext_values_item_raw st ⟨o, ho, hx, hd⟩ hi fun h' st' sb => ?_
    have I2 : Inv Y pins σ H { s with heap := h' } := I.turned (t' := s.toks) (fun b ob hb e => (sb.2 b hb).trans e) a0 a1 a3 a4 a5
    obtain ⟨oj, ej, cj, dj⟩ := id st'
    refine ⟨_, rfl, go_of (s := { s with heap := h' }) ej cj dj (by decide) ⟨v, H, I2, ?_, ⟨rfl, k, hkv⟩, st', fun b hb => (free b hb).1⟩⟩
    rw [e2]
    exact rv
  done := by
    intro Y hP hw hK hc i pins s σ H E I free st hg
    subst hP hw hK
    obtain ⟨a0, a1, a2, a3, a4, a5⟩ := free j List.mem_cons_self
    obtain ⟨es', ep', lo, ho, hx, hd, hs2, at_⟩ := frz_raw I hg.1
    obtain ⟨rfl, rfl⟩ := same_es hod hd
    exact wpAny_pyNext_values_end_raw (I.ok.hd hc) st ⟨o, ho, hx, hd⟩ (by rw [hsz]; exact hg.2) fun h' eb => ⟨rfl, I.turned (t' := s.toks) (fun b ob hb e => eb b ob hb e) a0 a1 a3 a4 a5⟩
  self := fun A i s Q E st h => wpAny_pyIter_valiter st h
theorem turn_ti {elts : List Expr} {kk : Nat} {tpos : Pos} (j : Addr) (hod : o.data = .dict es ep) (hsz : es.size = kvs.length) : Turn P w K (.Tuple elts kk tpos) (JtI d o kvs) [j] j (fun i h => ∃ ok ov, IsItemIter h j d i es.size ep ok ov) where
  mem := List.mem_cons_self
  obj := fun i h st b hb => by
    obtain rfl := List.mem_singleton.mp hb
    obtain ⟨_, _, e⟩ := st
    exact ⟨_, e, fun v z => nomatch z⟩
  keep := fun i h h' ⟨x, y, e⟩ k => ⟨x, y, k j List.mem_cons_self _ e⟩
  item := by
    intro Y hP hw hK hc i pins s σ H E I free st hg
    subst hP hw hK
    obtain ⟨es', ep', lo, ho, hx, hd, hs2, at_⟩ := frz_raw I hg.1
    obtain ⟨rfl, rfl⟩ := same_es hod hd
    have hi : i < es'.size := by rw [hsz]; exact hg.2
    obtain ⟨⟨k, v⟩, hkv⟩ : ∃ p, kvs[i]? = some p := ⟨_, List.getElem?_eq_getElem hg.2⟩
    obtain ⟨en, q, e1, ek, eq, rv⟩ := at_ i k v hkv
    have e2 := es_at e1 hi
    obtain ⟨x, y, it0⟩ := st
    have below : j < s.heap.objs.size := Heap.lt_size it0
    refine wpAny_pyNext_items_item_raw it0 ⟨o, ho, hx, hd⟩ hi fun h' out tup grown kept => ?_
    refine ⟨_, rfl, wpAny_letOwnedTupleGo_items (s := { s with heap := h' }) out fun h2 it2 sb => ?_⟩
    have tup2 : h2.get? s.heap.objs.size = some { cls := .type "tuple", data := .seq #[es'[i].key, es'[i].val] } := (sb.2 _ (Nat.ne_of_gt below)).trans tup
    have fresh : ObjOk Y.prog Y.w (upd H s.heap.objs.size (.tup [.ref q, v])) h2 s.heap.objs.size (.tup [.ref q, v]) := by
      refine ⟨by show 2 ≤ sizeLine; decide, [es'[i].key, es'[i].val], ?_, ⟨_, tup2, rfl, _, rfl⟩⟩
      rw [e2, ek]
      exact .cons rfl (.cons rv .nil)
    have I2 : Inv Y pins σ (upd H s.heap.objs.size (.tup [.ref q, v])) { s with heap := h2 } :=
      I.turnedNew (t' := s.toks) (ch := [j]) (fun b ob hb e => (sb.2 b (fun z => hb (by simp [z]))).trans (kept b ob (fun z => hb (by simp [z])) e)) free (Nat.le_refl _) fresh
    refine ⟨.ref s.heap.objs.size, _, I2, rfl, ⟨_, k, v, q, hkv, rfl, I.hok.fresh (Nat.le_refl _), eq, rfl⟩, ⟨_, _, it2⟩, fun b hb => ?_⟩
    obtain rfl := List.mem_singleton.mp hb
    rw [upd_ne (Nat.ne_of_lt below)]
    exact (free b List.mem_cons_self).1
  done := by
    intro Y hP hw hK hc i pins s σ H E I free st hg
    subst hP hw hK
    obtain ⟨a0, a1, a2, a3, a4, a5⟩ := free j List.mem_cons_self
    obtain ⟨es', ep', lo, ho, hx, hd, hs2, at_⟩ := frz_raw I hg.1
    obtain ⟨rfl, rfl⟩ := same_es hod hd
    obtain ⟨x, y, it0⟩ := st
    exact wpAny_pyNext_items_end_raw (I.ok.hd hc) it0 ⟨o, ho, hx, hd⟩ (by rw [hsz]; exact hg.2) fun h' eb => ⟨rfl, I.turned (t' := s.toks) (fun b ob hb e => eb b ob hb e) a0 a1 a3 a4 a5⟩
  self := fun A i s Q E st h => let ⟨_, _, e⟩ := st; PySem.W.kcp_self e h
end
section
variable {X : Cx} {tg e : Expr} {te : TE} {apos cpos : Pos}
theorem pi_tvals (he : PE X e te) (hb : attributeBase e "values" X.env (eval e X.env) = eval e X.env := by rfl) (hl : (apos.endLine == cpos.line) = true := by rfl) :
    PI X tg (.Call (.Attribute e "values" apos) [] [] cpos) (fun σ H R => te σ H fun x H1 => ∃ d o kvs, x = .ref d ∧ H1 d = some (.frz o (.dT kvs)) ∧ R (JtV d o kvs) H1) := by
  refine ⟨fun pins s σ H R I h => wpAny_Call_method (T := "dict") (id := "dict.values") hb rfl hl F.plainAttrs_dict F.slot_dict_values F.type_dict_values (thn (he.run pins s σ H _ I h) fun u s1 ⟨x, H1, I1, rx, d, o, kvs, ex, hd, q⟩ => ?_)⟩
  subst ex
  obtain rfl : u = Value.ref d := rx
  obtain ⟨es, ep, lo, ho, hx, hdd, hs2, at_⟩ := frz_raw I1 hd
  obtain ⟨ty, nd, _⟩ := isD_at I1 (.inr ⟨kvs, .inr ⟨o, hd⟩⟩)
  refine ⟨ty, nd, ?_⟩
  -- the view, then its iterator
  have I2 : Inv X pins σ H1 { s1 with heap := s1.heap.push { cls := .type "dict_values", data := .fields #[.ref d] } } := I1.kept (t' := s1.toks) fun b ob z => Heap.get?_push_of_some _ z
  show wpAny _ _ (callWith cpos (.builtin "dict.values") [.ref d] [] []) _ X.xe s1
  refine method_meetsIn F.slot_dict_values F.entry_dict_values rfl (PySem.evalArgs_none ⟨rfl, ty, F.args_dict_values_1 _, _, meets_dict_values_raw d lo, ⟨es, ep, o, ho, hx, hdd⟩, ?_⟩)
  refine wpAny_pyIter_values_raw (es := es) (ep := ep) ⟨_, Heap.get?_push_size _ rfl, rfl, rfl⟩ ⟨o, Heap.get?_push_of_some _ ho, hx, hdd⟩ ?_
  exact pi_one (tk := s1.toks) I2 _ (turn_tv _ hdd hs2) ⟨_, Heap.get?_push_size _ rfl, rfl, rfl⟩ q
/-- the items of a dict that is frozen from here on -/
theorem pi_titems {elts : List Expr} {kk : Nat} {tpos : Pos} (he : PE X e te) (hb : attributeBase e "items" X.env (eval e X.env) = eval e X.env := by rfl) (hl : (apos.endLine == cpos.line) = true := by rfl) :
    PI X (.Tuple elts kk tpos) (.Call (.Attribute e "items" apos) [] [] cpos) (fun σ H R => te σ H fun x H1 => ∃ d kvs, x = .ref d ∧ H1 d = some (.dT kvs) ∧ ∀ o, R (JtI d o kvs) (upd H1 d (.frz o (.dT kvs)))) := by
  refine ⟨fun pins s σ H R I h => wpAny_Call_method (T := "dict") (id := "dict.items") hb rfl hl F.plainAttrs_dict F.slot_dict_items F.type_dict_items (thn (he.run pins s σ H _ I h) fun u s1 ⟨x, H1, I0, rx, d, kvs, ex, hd0, q0⟩ => ?_)⟩
  subst ex
  obtain rfl : u = Value.ref d := rx
  obtain ⟨o, I1⟩ := I0.lock hd0 trivial
  have hd : upd H1 d (.frz o (.dT kvs)) d = some (.frz o (.dT kvs)) := upd_same
  have q := q0 o
  generalize upd H1 d (.frz o (.dT kvs)) = H2 at I1 hd q
  obtain ⟨es, ep, lo, ho, hx, hdd, hs2, at_⟩ := frz_raw I1 hd
  obtain ⟨ty, nd, _⟩ := isD_at I1 (.inr ⟨kvs, .inr ⟨o, hd⟩⟩)
  refine ⟨ty, nd, ?_⟩
  have I2 : Inv X pins σ H2 { s1 with heap := s1.heap.push { cls := .type "dict_items", data := .fields #[.ref d] } } := I1.kept (t' := s1.toks) fun b ob z => Heap.get?_push_of_some _ z
  show wpAny _ _ (callWith cpos (.builtin "dict.items") [.ref d] [] []) _ X.xe s1
  refine method_meetsIn F.slot_dict_items F.entry_dict_items rfl (PySem.evalArgs_none ⟨rfl, ty, F.args_dict_items_1 _, _, meets_dict_items_raw d lo, ⟨es, ep, o, ho, hx, hdd⟩, ?_⟩)
  refine wpAny_pyIter_items_raw (es := es) (ep := ep) ⟨_, Heap.get?_push_size _ rfl, rfl, rfl⟩ ⟨o, Heap.get?_push_of_some _ ho, hx, hdd⟩ ?_
  exact pi_one (tk := s1.toks) I2 _ (turn_ti _ hdd hs2) ⟨.none, .none, Heap.get?_push_size _ rfl⟩ q
end
end SR
set_option Elab.async false
set_option linter.all false
set_option maxRecDepth 100000
set_option maxHeartbeats 4000000
/-! dicts from pairs of numbers to data -/
namespace SR
open PySem PySem.Spec PyProof.Rows L2
abbrev Sv := Int × Int
def sK (s : Sv) : List Key := [.inl s.1, .inl s.2]
theorem sK_inj {s t : Sv} (h : sK s = sK t) : s = t := by
  unfold sK at h
  injection h with h1 h2
  injection h2 with h3 _
  exact Prod.ext (Sum.inl.inj h1) (Sum.inl.inj h3)
def KT2 (K : PySem.W.Frag) {β : Type} (f : β → PyData) (H : Hp) (kvs : List (List Key × V)) (m : List (Sv × β)) : Prop := Paired (fun p q => p.1 = sK q.1 ∧ Dv K H p.2 (f q.2)) kvs m
def TR (K : PySem.W.Frag) {β : Type} (f : β → PyData) (H : Hp) (a : Addr) (m : List (Sv × β)) : Prop := ∃ kvs, Rd H a (.dT kvs) ∧ KT2 K f H kvs m
def TW (K : PySem.W.Frag) {β : Type} (f : β → PyData) (H : Hp) (a : Addr) (m : List (Sv × β)) : Prop := ∃ kvs, H a = some (.dT kvs) ∧ KT2 K f H kvs m
section
variable {K : PySem.W.Frag} {β : Type} {f : β → PyData} {M : Addr → Prop} {H H' : Hp} {kvs : List (List Key × V)} {m : List (Sv × β)} {n : Sv} {a p : Addr} {v : V} {b : β}
theorem KT2.imp (h : KT2 K f H kvs m) (k : ∀ v d, Dv K H v d → Dv K H' v d) : KT2 K f H' kvs m := by
  unfold KT2 at h ⊢
  induction h with
  | nil => exact .nil
  | cons h _ ih => exact .cons ⟨h.1, k _ _ h.2⟩ ih
theorem KT2.g (h : KT2 K f H kvs m) (g : Gr M H H') : KT2 K f H' kvs m := h.imp fun _ _ z => z.g g
theorem KT2.length (h : KT2 K f H kvs m) : kvs.length = m.length := Paired.length h
theorem KT2.keys (h : KT2 K f H kvs m) : kvs.map (·.1) = m.map fun q => sK q.1 := by
  unfold KT2 at h
  induction h with
  | nil => rfl
  | cons h _ ih => rw [List.map_cons, List.map_cons, ih, h.1]
theorem KT2.at (h : KT2 K f H kvs m) {i : Nat} {q : Sv × β} (e : m[i]? = some q) : ∃ v, kvs[i]? = some (sK q.1, v) ∧ Dv K H v (f q.2) := by
  unfold KT2 at h
  induction h generalizing i with
  | nil => simp at e
  | @cons x y xs ys h _ ih =>
    cases i with
    | zero =>
      simp at e
      subst e
      exact ⟨x.2, by simp; rw [← h.1], h.2⟩
    | succ i => simpa using ih (i := i) (by simpa using e)
theorem KT2.get (h : KT2 K f H kvs m) (n : Sv) : (∃ v b, valV kvs (sK n) = some v ∧ trGet m n = some b ∧ Dv K H v (f b)) ∨ (valV kvs (sK n) = none ∧ trGet m n = none) := by
  unfold KT2 at h
  induction h with
  | nil => exact .inr ⟨rfl, rfl⟩
  | @cons x y xs ys h _ ih =>
    by_cases e : y.1 = n
    · refine .inl ⟨x.2, y.2, valV_pos (by rw [h.1, e]), ?_, h.2⟩
      unfold trGet
      rw [List.find?_cons_of_pos (by simpa using e)]
      rfl
    · rw [valV_neg (fun z => e (sK_inj (h.1.symm.trans z)))]
      have e2 : trGet (y :: ys) n = trGet ys n := by
        unfold trGet
        rw [List.find?_cons_of_neg (by simpa using e)]
      rw [e2]
      exact ih
theorem KT2.app {kvs' : List (List Key × V)} {m' : List (Sv × β)} (h : KT2 K f H kvs m) (h' : KT2 K f H kvs' m') : KT2 K f H (kvs ++ kvs') (m ++ m') := by
  unfold KT2 at h
  induction h with
  | nil => exact h'
  | cons h _ ih => exact .cons h ih
theorem KT2.any (h : KT2 K f H kvs m) : (kvs.any fun kv => decide (kv.1 = sK n)) = (m.any fun q => decide (q.1 = n)) := by
  rw [valV_any, any_of_get]
  rcases h.get n with ⟨v, b, h1, h2, _⟩ | ⟨h1, h2⟩ <;> rw [h1, h2] <;> rfl
theorem KT2.put (h : KT2 K f H kvs m) (hv : Dv K H v (f b)) : KT2 K f H (putK kvs (sK n) v) (trPut m n b) := by
  unfold putK trPut
  rw [h.any]
  by_cases z : (m.any fun q => decide (q.1 = n)) = true
  · rw [if_pos z, if_pos z]
    clear z
    unfold KT2 at h ⊢
    induction h with
    | nil => exact .nil
    | @cons x y xs ys h _ ih =>
      refine .cons ?_ ih
      by_cases e : y.1 = n
      · have e1 : x.1 = sK n := by rw [h.1, e]
        simp only [if_pos e, if_pos e1]
        exact ⟨h.1, hv⟩
      · have e1 : ¬ x.1 = sK n := fun z => e (sK_inj (h.1.symm.trans z))
        simp only [if_neg e, if_neg e1]
        exact h
  · rw [if_neg z, if_neg z]
    exact h.app (.cons ⟨rfl, hv⟩ .nil)
theorem TR.g (h : TR K f H a m) (g : Gr M H H') : TR K f H' a m := by
  obtain ⟨kvs, h1, h2⟩ := h
  exact ⟨kvs, g.rd h1 (fun _ z => nomatch z), h2.g g⟩
theorem TW.g (h : TW K f H a m) (g : Gr M H H') : TW K f H' a m := by
  obtain ⟨kvs, h1, h2⟩ := h
  exact ⟨kvs, g.k a _ (g.notD h1 fun _ z => nomatch z) h1, h2.g g⟩
theorem TW.r (h : TW K f H a m) : TR K f H a m := by
  obtain ⟨kvs, h1, h2⟩ := h
  exact ⟨kvs, .inl h1, h2⟩
theorem dv_save {s : Sv} (h : Dv K H v (saveD s)) : ∃ q, v = .ref q ∧ H q = some (.tup ((sK s).map kV)) := by
  obtain ⟨q, xs, rfl, hq, ha⟩ := dv_tu h
  obtain ⟨x, y, rfl, hx, hy⟩ := (show ∃ x y, xs = [x, y] ∧ Dv K H x (.int s.1) ∧ Dv K H y (.int s.2) by
    cases ha with
    | cons h1 h2 =>
      cases h2 with
      | cons h3 h4 =>
        cases h4
        exact ⟨_, _, rfl, h1, h3⟩)
  obtain rfl := dv_int hx
  obtain rfl := dv_int hy
  exact ⟨q, rfl, hq⟩
theorem save_dv {s : Sv} {q : Addr} (h : H q = some (.tup ((sK s).map kV))) : Dv K H (.ref q) (saveD s) := .tup h (.cons (.int _) (.cons (.int _) .nil))
/-- a dict, read; written; new -/
def PTR (K : PySem.W.Frag) {β : Type} (f : β → PyData) (m : List (Sv × β)) : PV := fun v _ H2 => ∃ a, v = .ref a ∧ TR K f H2 a m
def PTN (K : PySem.W.Frag) {β : Type} (f : β → PyData) (m : List (Sv × β)) : PV := fun v H1 H2 => ∃ a, v = .ref a ∧ H1 a = none ∧ TW K f H2 a m
theorem stb_tr : Stb M (PTR K f m) := fun _ _ _ _ _ _ _ g ⟨a, e, h⟩ => ⟨a, e, h.g g⟩
theorem stb_tn : Stb M (PTN K f m) := fun _ _ _ _ _ g0 _ g ⟨a, e, n, h⟩ => ⟨a, e, g0.back n, h.g g⟩
theorem Ev.tr {te : TE} {σ : L2.St} (h : Ev M te σ H (PTN K f m)) : Ev M te σ H (PTR K f m) := h.imp fun _ _ _ _ _ ⟨a, e, _, z⟩ => ⟨a, e, z.r⟩
theorem TR.get (h : TR K f H a m) {q : Addr} (hq : H q = some (.tup ((sK n).map kV))) : (∃ v b, DGet H a (.ref q) (some v) ∧ trGet m n = some b ∧ Dv K H v (f b)) ∨ (DGet H a (.ref q) none ∧ trGet m n = none) := by
  obtain ⟨kvs, h1, h2⟩ := h
  rcases h2.get n with ⟨v, b, e1, e2, hv⟩ | ⟨e1, e2⟩
  · exact .inl ⟨v, b, .inr ⟨kvs, sK n, q, h1, rfl, hq, e1.symm⟩, e2, hv⟩
  · exact .inr ⟨.inr ⟨kvs, sK n, q, h1, rfl, hq, e1.symm⟩, e2⟩
end
section
variable {M : Addr → Prop} {X : Cx} {σ : L2.St} {H : Hp} {o i j e value tg : Expr} {pos p apos cpos : Pos} {P : PV} {β : Type} {f : β → PyData} {m : List (Sv × β)} {n : Sv} {a : Addr} {b : β} {D : Ends} {rest : List Stmt} {d : PyData}
theorem ev_nmTR (k : Nat) {x : Str} (h : TR X.K f H a m) (hs : σ[k]? = some (some (.ref a)) := by rfl) (hN : X.N[k]? = some x := by rfl) (hv : Vis X.env.scope x := by first | exact Or.inl rfl | exact Or.inr (Or.inl rfl) | exact Or.inr (Or.inr rfl)) (hd : (x == ("__debug__" : Str)) = false := by decide)
    (hcd : (x == ("__classdict__" : Str)) = false := by decide) : Ev M (wE X (.Name x pos)) σ H (PTR X.K f m) := (ev_nmV k hs hN hv hd hcd).imp fun v H1 H2 g1 g2 e => ⟨a, e, h.g (g1.t g2)⟩
theorem ev_tget (hu : X.A.units + 64 < cLine) (h1 : Ev M (wE X o) σ H (PTR X.K f m)) (h2 : Ev M (wE X i) σ H (Pd X.K (saveD n))) (e : trGet m n = some b) (hs : NoSl i := by exact fun _ _ => rfl) : Ev M (wE X (.Subscript o i pos)) σ H (Pd X.K (f b)) :=
  fun H1 g Q q => of_pe (pe_dget (u1 hu) e_pe e_pe hs) (h1 H1 g _ fun v H2 g2 ⟨a, ea, p⟩ => h2 H2 (g.t g2) _ fun u H3 g3 p3 => by
    obtain ⟨k, rfl, hk⟩ := dv_save p3
    rcases (p.g g3).get hk with ⟨w, b', hw, e2, hd⟩ | ⟨_, e2⟩
    · rw [e] at e2
      cases e2
      exact ⟨a, w, ea, hw, q _ _ (g2.t g3) hd⟩
    · rw [e] at e2
      cases e2)
theorem ev_tgetD (hu : X.A.units + 64 < cLine) (h1 : Ev M (wE X o) σ H (PTR X.K f m)) (h2 : Ev M (wE X i) σ H (Pd X.K (saveD n))) (h3 : Ev M (wE X j) σ H (Pd X.K d)) (mm : M2 X o "get" apos i j cpos := by exact ⟨rfl, rfl, rfl, rfl⟩) : Ev M (wE X (.Call (.Attribute o "get" apos) [i, j] [] cpos)) σ H (Pd X.K (((trGet m n).map f).getD d)) :=
  fun H1 g Q q => of_pe (pe_dget2 (u1 hu) e_pe e_pe e_pe mm) (h1 H1 g _ fun v H2 g2 ⟨a, ea, p⟩ => by
    have isd : IsD H2 a := by
      obtain ⟨kvs0, hr0, _⟩ := p
      exact .inr ⟨_, hr0⟩
    refine ⟨a, ea, isd, h2 H2 (g.t g2) _ fun u H3 g3 p3 => h3 H3 ((g.t g2).t g3) _ fun z H4 g4 p4 => ?_⟩
    obtain ⟨k, rfl, hk⟩ := dv_save (p3.g g4)
    have g24 := (g2.t g3).t g4
    rcases (p.g (g3.t g4)).get hk with ⟨w, b', hw, e2, hd⟩ | ⟨hw, e2⟩
    · refine ⟨_, hw, q _ _ g24 ?_⟩
      rw [e2]
      exact hd
    · refine ⟨_, hw, q _ _ g24 ?_⟩
      rw [e2]
      exact p4)
/-! a dict that changes -/
def DM2 (H1 : Hp) (a : Addr) (H2 : Hp) : Prop := ∃ u u', H1 a = some (.dT u) ∧ H2 = upd H1 a (.dT u')
theorem tput_tw {K : PySem.W.Frag} {H : Hp} {kvs : List (List Key × V)} {v : V} (e : H a = some (.dT kvs)) (h : KT2 K f H kvs m) (hv : Dv K H v (f b)) : TW K f (upd H a (.dT (putK kvs (sK n) v))) a (trPut m n b) := ⟨_, upd_same, (h.put hv).imp fun _ _ z => z.sT e⟩
/-- o[i] = value -/
theorem bl_tput {pos' : Pos} (g : Gr M H H) (hu : X.A.units + 64 < cLine) (ho : Ev M (wE X o) σ H (Pv (.ref a))) (hd : TW X.K f H a m) (hl : m.length < 100000) (hi : Ev M (wE X i) σ H (Pd X.K (saveD n))) (hv : Ev M (wE X value) σ H (Pd X.K (f b)))
    (k : ∀ H1 H2, Gr M H H1 → DM2 H1 a H2 → TW X.K f H2 a (trPut m n b) → wB X rest D σ H2) (hs : swapsWith value (some (.Subscript o i pos')) pos.line X.env = pure false := by rfl) : wB X (.Assign [.Subscript o i pos'] value pos :: rest) D σ H :=
  of_pss (pss_cons (ps_dput (u1 hu) e_pe e_pe e_pe hs) e_pss) (hv H g _ fun v H1 g1 p1 => ho H1 g1 _ fun x H2 g2 p2 => hi H2 (g1.t g2) _ fun y H3 g3 p3 => by
    obtain rfl := p2
    obtain ⟨q, rfl, hq⟩ := dv_save p3
    have g13 := (g1.t g2).t g3
    obtain ⟨kvs, e, hk⟩ := hd.g g13
    exact ⟨a, _, rfl, .t (k := sK n) e hq (lt_sz (by rw [hk.length]; exact hl)), k H3 _ g13 ⟨_, _, e, rfl⟩ (tput_tw e hk (p1.g (g2.t g3)))⟩)
theorem ev_tnil : Ev M (wE X (.Dict [] [] pos)) σ H (PTN X.K f []) := fun H1 g Q q => of_pe pe_dnewT fun l hl => q _ _ (g.r.new hl) ⟨l, rfl, hl, [], upd_same, .nil⟩
/-- sorted(d) -/
theorem ev_sortT (hc : X.calm = true) (hm : X.mg "sorted" = none) (hl : m.length < 64) (hb : ∀ q ∈ m, (0 ≤ q.1.1 ∧ q.1.1 < 1000) ∧ 0 ≤ q.1.2 ∧ q.1.2 < 1000) (h : Ev M (wE X e) σ H (PTR X.K f m)) (hg : Gl X "sorted" := by rfl) (he : starEach [e] X.env = (false, eval e X.env) :: starEach [] X.env := by rfl) :
    Ev M (wE X (.Call (.Name "sorted" p) [e] [] pos)) σ H (fun v H1 H2 => ∃ ss : List Sv, ss.Perm (m.map (·.1)) ∧ PL X.K (ss.map saveD) v H1 H2) :=
  fun H1 g Q q => of_pe (pe_callB (call_sortedT hc) hg hm bt_sorted (pa_cons e_pe pa_nil he) (by decide) (by decide) he) (h H1 g _ fun v H2 g2 ⟨a, ea, kvs, hr, hk⟩ => by
    refine ⟨a, kvs, m.map fun q => [q.1.1, q.1.2], 1000, by rw [ea], hr, ?_, by rw [List.length_map]; exact hl, fun n hn => ?_, fun bs bs' l hbs pm hl2 => ?_⟩
    · rw [hk.keys, List.map_map]
      rfl
    · obtain ⟨q, hq, rfl⟩ := List.mem_map.mp hn
      refine ⟨rfl, fun x hx => ?_⟩
      have := hb q hq
      simp only [List.mem_cons, List.not_mem_nil, or_false] at hx
      rcases hx with rfl | rfl
      · exact this.1
      · exact this.2
    · -- the addresses stand for saves
      have hz : ∃ ss : List Sv, bs.length = ss.length ∧ ss = m.map (·.1) ∧ ∀ (i : Nat) (b : Addr) (s : Sv), bs[i]? = some b → ss[i]? = some s → H2 b = some (.tup ((sK s).map kV)) := by
        refine ⟨_, ?_, rfl, fun i b s e1 e2 => ?_⟩
        · rw [List.length_map, ← hk.length, Paired.length hbs]
        · rw [List.getElem?_map] at e2
          obtain ⟨q, hq, rfl⟩ := Option.map_eq_some_iff.mp e2
          obtain ⟨v', e3, _⟩ := hk.at hq
          obtain ⟨b', e4, e5⟩ := paired_get hbs e3
          rw [e1] at e4
          cases e4
          exact e5
      obtain ⟨ss, l1, l2, at_⟩ := hz
      have key : ∀ b ∈ bs', ∃ s, (b, s) ∈ bs.zip ss := fun b hb => by
        obtain ⟨i, hi⟩ := List.getElem?_of_mem (pm.mem_iff.mp hb)
        have hs : i < ss.length := by rw [← l1]; exact (List.getElem?_eq_some_iff.mp hi).1
        exact ⟨ss[i], List.mem_of_getElem? (i := i) (List.getElem?_zip_eq_some.mpr ⟨hi, List.getElem?_eq_getElem hs⟩)⟩
      -- the save at an address
      let sv : Addr → Sv := fun b => match H2 b with
        | some (.tup [.int x, .int y]) => (x, y)
        | _ => (0, 0)
      have svb : ∀ (i : Nat) (b : Addr) (s : Sv), bs[i]? = some b → ss[i]? = some s → sv b = s := fun i b s e1 e2 => by
        have := at_ i b s e1 e2
        show (match H2 b with | some (.tup [.int x, .int y]) => (x, y) | _ => ((0, 0) : Sv)) = s
        rw [this]
        rfl
      have em : bs.map sv = ss := by
        refine List.ext_getElem? fun i => ?_
        rw [List.getElem?_map]
        cases e : bs[i]? with
        | none =>
          rw [List.getElem?_eq_none (l := ss) (by rw [← l1]; exact List.getElem?_eq_none_iff.mp e)]
          rfl
        | some b =>
          have hs : i < ss.length := by rw [← l1]; exact (List.getElem?_eq_some_iff.mp e).1
          rw [List.getElem?_eq_getElem hs]
          exact congrArg some (svb i b _ e (List.getElem?_eq_getElem hs))
      have dv : ∀ b ∈ bs', Dv X.K H2 (.ref b) (saveD (sv b)) := fun b hb => by
        obtain ⟨s, hz⟩ := key b hb
        obtain ⟨i, hi⟩ := List.getElem?_of_mem hz
        obtain ⟨z1, z2⟩ := List.getElem?_zip_eq_some.mp hi
        rw [svb i b s z1 z2]
        exact save_dv (at_ i b s z1 z2)
      have dva : ∀ bs' : List Addr, (∀ b ∈ bs', Dv X.K H2 (.ref b) (saveD (sv b))) → DvA X.K H2 (bs'.map V.ref) ((bs'.map sv).map saveD) := fun bs' h => by
        induction bs' with
        | nil => exact .nil
        | cons b r ih => exact .cons (h b List.mem_cons_self) (ih fun b hb => h b (List.mem_cons_of_mem _ hb))
      refine q _ _ (g2.new hl2) ⟨bs'.map sv, ?_, l, _, rfl, g2.back hl2, upd_same, (dva bs' dv).sn hl2⟩
      rw [← l2, ← em]
      exact pm.map sv)
end
end SR
set_option Elab.async false
set_option linter.all false
set_option maxRecDepth 100000
set_option maxHeartbeats 4000000
/-! dicts with pairs as keys: walks, locks, made of pairs -/
namespace SR
open PySem PySem.Spec PyProof.Rows L2
section
variable {M : Addr → Prop} {K : PySem.W.Frag} {H H1 H2 : Hp} {a b : Addr} {u : HO} {od : Obj} {kvs : List (List Key × V)} {β : Type} {f : β → PyData} {m : List (Sv × β)} {ds : List PyData}
theorem walk_tv : Walk (JtV a od kvs) kvs.length (fun H => H a = some (.frz od (.dT kvs))) (fun i H x H' => H' = H ∧ ∃ k, kvs[i]? = some (k, x)) := ⟨fun _ _ hi q => ⟨q, hi⟩, fun _ q => ⟨q, Nat.le_refl _⟩, fun _ _ _ _ _ _ y => y⟩
theorem walk_ti : Walk (JtI a od kvs) kvs.length (fun H => H a = some (.frz od (.dT kvs))) (fun i H x H' => ∃ T k v q, kvs[i]? = some (k, v) ∧ x = .ref T ∧ H T = none ∧ H q = some (.tup (k.map kV)) ∧ H' = upd H T (.tup [.ref q, v])) := ⟨fun _ _ hi q => ⟨q, hi⟩, fun _ q => ⟨q, Nat.le_refl _⟩, fun _ _ _ _ _ _ y => y⟩
theorem src_tkeys (g : Gr M H H) (h : H a = some (.frz od (.dT kvs))) (z : KT2 K f H kvs m) : Src M K (Itkt a od kvs) (m.map fun q => saveD q.1) H := by
  have W : Walk (Itkt a od kvs) (m.map fun q => saveD q.1).length (fun H => H a = some (.frz od (.dT kvs))) (fun i H x H' => H' = H ∧ ∃ (k : List Key) (v : V) (q : Addr), kvs[i]? = some (k, v) ∧ x = .ref q ∧ H q = some (.tup (k.map kV))) := by
    rw [List.length_map, ← z.length]
    exact walk_keysT
  refine ⟨_, _, W, h, fun Ha g => g.k a _ (g.notD h fun _ z => nomatch z) h, fun i Ha x Hb g1 y hi => ?_⟩
  obtain ⟨rfl, k, v, q, e, rfl, hq⟩ := y
  rw [List.length_map] at hi
  obtain ⟨v', e1, h1⟩ := z.at (List.getElem?_eq_getElem hi)
  rw [e1] at e
  cases e
  exact ⟨g1.r, saveD m[i].1, by rw [List.getElem?_map, List.getElem?_eq_getElem hi]; rfl, save_dv hq⟩
theorem src_tvals (g : Gr M H H) (h : H a = some (.frz od (.dT kvs))) (z : KT2 K f H kvs m) : Src M K (JtV a od kvs) (m.map fun q => f q.2) H := by
  have W : Walk (JtV a od kvs) (m.map fun q => f q.2).length (fun H => H a = some (.frz od (.dT kvs))) (fun i H x H' => H' = H ∧ ∃ k, kvs[i]? = some (k, x)) := by
    rw [List.length_map, ← z.length]
    exact walk_tv
  refine ⟨_, _, W, h, fun Ha g => g.k a _ (g.notD h fun _ z => nomatch z) h, fun i Ha x Hb g1 y hi => ?_⟩
  obtain ⟨rfl, k, e⟩ := y
  rw [List.length_map] at hi
  obtain ⟨v', e1, h1⟩ := z.at (List.getElem?_eq_getElem hi)
  rw [e1] at e
  cases e
  exact ⟨g1.r, f m[i].2, by rw [List.getElem?_map, List.getElem?_eq_getElem hi]; rfl, h1.g g1⟩
theorem src_titems (g : Gr M H H) (h : H a = some (.frz od (.dT kvs))) (z : KT2 K f H kvs m) : Src M K (JtI a od kvs) (m.map fun q => .tuple [saveD q.1, f q.2]) H := by
  have W : Walk (JtI a od kvs) (m.map fun q => PyData.tuple [saveD q.1, f q.2]).length (fun H => H a = some (.frz od (.dT kvs))) (fun i H x H' => ∃ T k v q, kvs[i]? = some (k, v) ∧ x = .ref T ∧ H T = none ∧ H q = some (.tup (k.map kV)) ∧ H' = upd H T (.tup [.ref q, v])) := by
    rw [List.length_map, ← z.length]
    exact walk_ti
  refine ⟨_, _, W, h, fun Ha g => g.k a _ (g.notD h fun _ z => nomatch z) h, fun i Ha x Hb g1 y hi => ?_⟩
  obtain ⟨T, k, v, q, e, rfl, hT, hq, rfl⟩ := y
  rw [List.length_map] at hi
  obtain ⟨v', e1, h1⟩ := z.at (List.getElem?_eq_getElem hi)
  rw [e1] at e
  cases e
  exact ⟨g1.r.new hT, .tuple [saveD m[i].1, f m[i].2], by rw [List.getElem?_map, List.getElem?_eq_getElem hi]; rfl, Dv.tupN (.cons ((save_dv hq).sn hT) (.cons ((h1.g g1).sn hT) .nil)) upd_same⟩
/-! locks of anything that is no list and no tuple -/
theorem gg_lock (g : Gr M H H1) (h : H a = some u) (hu : ∀ xs, u ≠ .lst xs) : Gr M (upd H a (.frz od u)) (upd H1 a (.frz od u)) := by
  have nm := g.notD h hu
  refine ⟨fun x mx => ?_, fun x o n e => ?_, fun x mx => ?_⟩
  · obtain ⟨p, q, r, e⟩ := g.a x mx
    exact ⟨p, q, r, (upd_ne (fun z => by subst z; exact nm mx)).trans e⟩
  · by_cases z : x = a
    · subst z
      rw [upd_same] at e ⊢
      exact e
    · rw [upd_ne z] at e ⊢
      exact g.k x o n e
  · obtain ⟨p, q, r, e⟩ := g.b x mx
    exact ⟨p, q, r, (upd_ne (fun z => by subst z; exact nm mx)).trans e⟩
theorem gg_unlock (g : Gr M H H) (h : H a = some u) (hu : ∀ xs, u ≠ .lst xs) (g2 : Gr M (upd H a (.frz od u)) H2) : Gr M H (upd H2 a u) := by
  have nm := g.notD h hu
  refine ⟨g.a, fun x o n e => ?_, fun x mx => ?_⟩
  · by_cases z : x = a
    · subst z
      rw [upd_same]
      rw [h] at e
      exact e
    · rw [upd_ne z]
      exact g2.k x o n (by rw [upd_ne z]; exact e)
  · obtain ⟨p, q, r, e⟩ := g2.b x mx
    exact ⟨p, q, r, (upd_ne (fun z => by subst z; exact nm mx)).trans e⟩
theorem dv_frz {v : V} {d : PyData} (z : Dv K H v d) (h : H a = some u) (hu : ∀ xs, u ≠ .tup xs) : Dv K (upd H a (.frz od u)) v d := Dv.imp (fun _ _ z => tu_upd h hu z) d v z
theorem dvA_unf {vs : List V} (z : DvA K H vs ds) (h : H a = some (.frz od u)) : DvA K (upd H a u) vs ds := DvA.imp (fun _ _ z => tu_upd h (fun _ z => nomatch z) z) ds vs z
end
section
variable {M : Addr → Prop} {X : Cx} {σ : L2.St} {H : Hp} {o i j e value tg : Expr} {pos p apos cpos : Pos} {P : PV} {β : Type} {f : β → PyData} {m : List (Sv × β)} {n : Sv} {a : Addr} {b : β} {D : Ends} {rest : List Stmt} {d : PyData} {u : HO} {ds : List PyData} {kvs : List (List Key × V)} {od : Obj}
theorem ev_lockG (mu : Mut (some u)) (hu : ∀ xs, u ≠ .lst xs) (ha : H a = some u) (h : ∀ od, Ev M (wE X e) σ (upd H a (.frz od u)) (PL X.K ds)) : Ev M (wE X e) σ H (PL X.K ds) := fun H1 g Q q => by
  have h1 : H1 a = some u := g.k a _ (g.notD ha hu) ha
  refine of_pe (pe_lock e_pe) ⟨a, u, h1, mu, fun od => h od (upd H1 a (.frz od u)) (gg_lock g ha hu) _ fun v H2 g2 p => ?_⟩
  have h2 : H2 a = some (.frz od u) := g2.k a _ (g2.notD (a := a) upd_same fun _ z => nomatch z) upd_same
  obtain ⟨l, vs, e, n, hl, z⟩ := p
  have nl : l ≠ a := fun e => by
    rw [e, upd_same] at n
    cases n
  rw [upd_ne nl] at n
  exact ⟨h2, q v _ (gg_unlock g.r h1 hu g2) ⟨l, vs, e, n, (upd_ne nl).trans hl, dvA_unf z h2⟩⟩
theorem ei_tkeys (h : Ev M (wE X e) σ H (Pv (.ref a))) (ha : H a = some (.frz od (.dT kvs))) (z : KT2 X.K f H kvs m) : EvI M X.K (wI X tg e) σ H (m.map fun q => saveD q.1) := fun H1 g R r => of_pi (pi_keys e_pe) (h H1 g _ fun v H2 g2 p => by
  have g12 := g.t g2
  have h2 := g12.k a _ (g12.notD ha fun _ z => nomatch z) ha
  exact ⟨a, od, p, .inr ⟨kvs, h2, r _ _ g2 (src_tkeys g2.r h2 (z.g g12))⟩⟩)
theorem ei_tvals (h : Ev M (wE X e) σ H (Pv (.ref a))) (ha : H a = some (.frz od (.dT kvs))) (z : KT2 X.K f H kvs m) (hbase : attributeBase e "values" X.env (eval e X.env) = eval e X.env := by rfl) (hline : (apos.endLine == cpos.line) = true := by rfl) : EvI M X.K (wI X tg (.Call (.Attribute e "values" apos) [] [] cpos)) σ H (m.map fun q => f q.2) := fun H1 g R r => of_pi (pi_tvals e_pe hbase hline) (h H1 g _ fun v H2 g2 p => by
  have g12 := g.t g2
  have h2 := g12.k a _ (g12.notD ha fun _ z => nomatch z) ha
  exact ⟨a, od, kvs, p, h2, r _ _ g2 (src_tvals g2.r h2 (z.g g12))⟩)
theorem ei_titems {elts : List Expr} {kk : Nat} {tpos : Pos} (h : Ev M (wE X e) σ H (PTN X.K f m)) (hbase : attributeBase e "items" X.env (eval e X.env) = eval e X.env := by rfl) (hline : (apos.endLine == cpos.line) = true := by rfl) : EvI M X.K (wI X (.Tuple elts kk tpos) (.Call (.Attribute e "items" apos) [] [] cpos)) σ H (m.map fun q => .tuple [saveD q.1, f q.2]) := fun H1 g R r => of_pi (pi_titems e_pe hbase hline) (h H1 g _ fun v H2 g2 ⟨a, ea, hn, kvs, hw, hk⟩ => by
  refine ⟨a, kvs, ea, hw, fun o => r _ _ (g2.mut hn) (src_titems (od := o) ?_ upd_same (hk.imp fun _ _ z => dv_frz z hw fun _ z => nomatch z))⟩
  exact (g2.mut hn).r)
/-! dict(pairs) -/
theorem pairsOf_dv {K : PySem.W.Frag} {H : Hp} {s : Sv} {v : V} {d : PyData} (h : Dv K H v (.tuple [saveD s, d])) : ∃ t q x, v = .ref t ∧ H t = some (.tup [.ref q, x]) ∧ H q = some (.tup ((sK s).map kV)) ∧ Dv K H x d := by
  obtain ⟨t, xs, rfl, ht, ha⟩ := dv_tu h
  obtain ⟨y, x, rfl, hy, hx⟩ := dvA2 ha
  obtain ⟨q, rfl, hq⟩ := dv_save hy
  exact ⟨t, q, x, rfl, ht, hq, hx⟩
/-- stored one by one -/
def putAll {κ β : Type} [DecidableEq κ] (m : List (κ × β)) : List (κ × β) → List (κ × β)
  | [] => m
  | q :: r => putAll (trPut m q.1 q.2) r
theorem putAll_nodup {κ β : Type} [DecidableEq κ] : ∀ {r m : List (κ × β)}, ((m ++ r).map (·.1)).Nodup → putAll m r = m ++ r
  | [], m, _ => by simp [putAll]
  | q :: r, m, h => by
    have hn : q.1 ∉ m.map (·.1) := fun hm => by
      rw [List.map_append, List.map_cons] at h
      exact (List.nodup_append.mp h).2.2 q.1 hm q.1 List.mem_cons_self rfl
    show putAll (trPut m q.1 q.2) r = _
    rw [trPut_none (get_none hn)]
    have : putAll (m ++ [(q.1, q.2)]) r = (m ++ [(q.1, q.2)]) ++ r := putAll_nodup (by simpa using h)
    rw [this, List.append_assoc]
    rfl
theorem putAll_le {κ β : Type} [DecidableEq κ] : ∀ {r m : List (κ × β)}, (putAll m r).length ≤ m.length + r.length
  | [], m => Nat.le_refl _
  | q :: r, m => by
    have h1 := putAll_le (r := r) (m := trPut m q.1 q.2)
    have h2 := trPut_le m q.1 q.2
    show (putAll (trPut m q.1 q.2) r).length ≤ m.length + (r.length + 1)
    omega
theorem store_all {K : PySem.W.Frag} {H : Hp} : ∀ (L : List ((Sv × β) × Addr × V × Value)), (∀ e ∈ L, H e.2.1 = some (.tup ((sK e.1.1).map kV)) ∧ RelV e.2.2.1 e.2.2.2 ∧ Dv K H e.2.2.1 (f e.1.2)) →
    ∀ (kvs : List (List Key × V)) (m : List (Sv × β)) (xs : List (List Key × Addr × Value)), KT2 K f H kvs m → KT H kvs xs → ∃ kvs', KT2 K f H kvs' (putAll m (L.map (·.1))) ∧ KT H kvs' (storedAllH xs (L.map fun e => (sK e.1.1, e.2.1, e.2.2.2)))
  | [], _, kvs, _, _, h1, h2 => ⟨kvs, h1, h2⟩
  | e :: L, hL, kvs, m, xs, h1, h2 => by
    obtain ⟨k1, k2, k3⟩ := hL e List.mem_cons_self
    exact store_all L (fun e' h => hL e' (List.mem_cons_of_mem _ h)) _ _ _ (h1.put (n := e.1.1) (b := e.1.2) k3) (h2.put (sK e.1.1) k1 k2)
/-- a new dict as it was laid -/
theorem laid_T {pins : List (Addr × Obj)} {s : Shared} {h' : Heap} {tk : Nat} {kvs : List (List Key × V)} {xs : List (List Key × Addr × Value)} (I : Inv X pins σ H s) (z : kvs.length ≤ sizeLine) (kt : KT H kvs xs) (dd : h'.DictOfH (tupleKind (mixKind X.prog X.w)) s.heap.objs.size xs) (keep : ∀ b o, s.heap.get? b = some o → h'.get? b = some o) :
    Inv X pins σ (upd H s.heap.objs.size (.dT kvs)) { s with heap := h', toks := tk } := by
  have hn : H s.heap.objs.size = none := I.hok.fresh (Nat.le_refl _)
  obtain ⟨o, es, ep, ho, hx, hd, he, _, nd⟩ := dd
  refine I.laid keep (Nat.le_refl _) ⟨z, beq_eq_false_iff_ne.mpr (Ne.symm (Nat.ne_of_lt I.big)), xs, kt.keeps fun b ys e => ?_, o, es, ep, ho, hx, hd, he, nd⟩
  rw [upd_ne (ne_of_none e hn)]
  exact e
theorem call_dictPT (hcalm : X.calm = true) (hu : X.A.units + 64 < cLine) : CallR X (.type "dict") (fun xs H Q => ∃ (a : Addr) (vs : List V) (m : List (Sv × β)), xs = [.ref a] ∧ H a = some (.lst vs) ∧ DvA X.K H vs (m.map fun q => .tuple [saveD q.1, f q.2]) ∧ ∀ p H', H p = none → Gr M0 H H' → TW X.K f H' p (putAll [] m) → Q (.ref p) H') := by
  intro pins s σ H xs us Q I r h
  obtain ⟨a, vs, m, rfl, ha, hz, q⟩ := h
  obtain ⟨w0, rfl, rw0⟩ := r.one
  cases rw0
  obtain ⟨hsz, its, n0, rv, hlen, hl⟩ := I.lstM ha
  have hvl : vs.length = m.length := by rw [hz.length, List.length_map]
  -- each item: its own address, the key's, the value
  have item : ∀ (i : Nat) (z : Sv × β), m[i]? = some z → ∃ (t q : Addr) (x : V) (y : Value), its[i]? = some (.ref t) ∧ IsTup s.heap t #[.ref q, y] ∧ RelV x y ∧ H q = some (.tup ((sK z.1).map kV)) ∧ Dv X.K H x (f z.2) := fun i z hzm => by
    obtain ⟨v, e1, hv⟩ := hz.get (i := i) (d := .tuple [saveD z.1, f z.2]) (by rw [List.getElem?_map, hzm]; rfl)
    obtain ⟨t, q, x, rfl, ht, hq, hx⟩ := pairsOf_dv hv
    obtain ⟨ys, ry, ty, _⟩ := I.tuple (.inl (.inl ht))
    obtain ⟨k, y, rfl, rk, rxy⟩ := ry.two
    cases rk
    have e2 : its[i]? = some (.ref t) := by
      obtain ⟨u, hu1, hu2⟩ := rv.get e1
      rw [hu1]
      exact congrArg some hu2
    exact ⟨t, q, x, y, e2, ty, rxy, hq, hx⟩
  obtain ⟨F, hF⟩ := Classical.axiomOfChoice (r := fun (i : Fin m.length) (z : Addr × Addr × V × Value) => its[i.1]? = some (.ref z.1) ∧ IsTup s.heap z.1 #[.ref z.2.1, z.2.2.2] ∧ RelV z.2.2.1 z.2.2.2 ∧ H z.2.1 = some (.tup ((sK (m[i.1]).1).map kV)) ∧ Dv X.K H z.2.2.1 (f (m[i.1]).2)) (fun i => by
    obtain ⟨t, q, x, y, h1, h2, h3, h4, h5⟩ := item i.1 m[i.1] (List.getElem?_eq_getElem i.2)
    exact ⟨(t, q, x, y), h1, h2, h3, h4, h5⟩)
  -- the quads
  let L : List ((Sv × β) × Addr × V × Value) := List.ofFn fun i : Fin m.length => (m[i.1], (F i).2.1, (F i).2.2.1, (F i).2.2.2)
  have Lm : L.map (·.1) = m := by
    refine List.ext_getElem? fun i => ?_
    rw [List.getElem?_map, List.getElem?_ofFn]
    by_cases hi : i < m.length
    · rw [dif_pos hi, List.getElem?_eq_getElem hi]
      rfl
    · rw [dif_neg hi, List.getElem?_eq_none (by omega)]
      rfl
  have LL : ∀ e ∈ L, H e.2.1 = some (.tup ((sK e.1.1).map kV)) ∧ RelV e.2.2.1 e.2.2.2 ∧ Dv X.K H e.2.2.1 (f e.1.2) := fun e he => by
    obtain ⟨i, rfl⟩ := List.mem_ofFn.mp he
    obtain ⟨_, _, h3, h4, h5⟩ := hF i
    exact ⟨h4, h3, h5⟩
  obtain ⟨kvs', k1, k2⟩ := store_all L LL [] [] [] .nil .nil
  rw [Lm] at k1
  let Ts : Nat → Addr := fun j => if h : j < m.length then (F ⟨j, h⟩).1 else 0
  let ps : List (Value × Value) := L.map fun e => (.ref e.2.1, e.2.2.2)
  have psl : ps.length = m.length := by simp [ps, L]
  have pat : ∀ (j : Nat) (k v : Value), ps[j]? = some (k, v) → ∃ h : j < m.length, k = .ref (F ⟨j, h⟩).2.1 ∧ v = (F ⟨j, h⟩).2.2.2 := fun j k v e => by
    rw [List.getElem?_map, List.getElem?_ofFn] at e
    by_cases hj : j < m.length
    · rw [dif_pos hj] at e
      cases e
      exact ⟨hj, rfl, rfl⟩
    · rw [dif_neg hj] at e
      cases e
  have z : m.length ≤ sizeLine := by rw [← hvl]; exact hsz
  have itl : its.length = m.length := by rw [← hlen]; exact hvl
  refine call_dict_pairsH (knd := tupleKind (mixKind X.prog X.w)) (ps := L.map fun e => (sK e.1.1, e.2.1, e.2.2.2)) (PairArg.list (prog := X.prog) (w := X.w) a its.toArray Ts ps) (I.ok.hd hcalm) (tupleKind_room_in1 (A := X.A.in1) (by show X.A.units + 1 + 1 < cLine; omega)) ⟨⟨_, n0, hl, rfl, rfl, rfl⟩, ?_, fun j k v e => ?_⟩ ⟨?_, fun j k v e => ?_⟩ (fun h' hk x hx => ?_) (by rw [psl]; exact z) (fun h' tk dd keep => ?_)
  · rw [psl, List.size_toArray, itl]
  · obtain ⟨hj, rfl, rfl⟩ := pat j k v e
    obtain ⟨h1, h2, _⟩ := hF ⟨j, hj⟩
    have eT : Ts j = (F ⟨j, hj⟩).1 := dif_pos hj
    rw [eT]
    exact ⟨by rw [List.getElem?_toArray]; exact h1, .inl h2⟩
  · rw [psl]
    simp [L]
  · obtain ⟨hj, rfl, rfl⟩ := pat j k v e
    refine ⟨sK m[j].1, (F ⟨j, hj⟩).2.1, ?_, rfl⟩
    rw [List.getElem?_map, List.getElem?_ofFn, dif_pos hj]
    rfl
  · obtain ⟨e, he, rfl⟩ := List.mem_map.mp hx
    exact key_of (P := X.prog) (w := X.w) (I.hok.kept fun b o e0 => hk b o (Nat.ne_of_lt (Heap.lt_size e0)) (fun z => nomatch z) e0) (LL e he).1
  · have hn : H s.heap.objs.size = none := I.hok.fresh (Nat.le_refl _)
    have J := laid_T (tk := tk) I (by rw [k1.length]; exact Nat.le_trans putAll_le (by simpa using z)) k2 dd (fun b o e => keep b o (fun z => nomatch z) e)
    exact ⟨.ref s.heap.objs.size, _, J, rfl, q _ _ hn ((Gr.z H).new hn) ⟨kvs', upd_same, k1.imp fun _ _ y => y.sn hn⟩⟩
/-- dict([(save, ..) ..]) -/
theorem ev_dictP (hc : X.calm = true) (hu : X.A.units + 64 < cLine) (hm : X.mg "dict" = none) (h : Ev M (wE X e) σ H (PL X.K (m.map fun q => .tuple [saveD q.1, f q.2]))) (hg : Gl X "dict" := by rfl) (he : starEach [e] X.env = (false, eval e X.env) :: starEach [] X.env := by rfl) : Ev M (wE X (.Call (.Name "dict" p) [e] [] pos)) σ H (PTN X.K f (putAll [] m)) :=
  fun H1 g Q q => of_pe (pe_callTy (call_dictPT (f := f) hc hu) hg hm bt_dict (pa_cons e_pe pa_nil he) (by decide) (by decide) he) (h H1 g _ fun v H2 g2 ⟨a, vs, ea, _, hl, hz⟩ => ⟨a, vs, m, by rw [ea], hl, hz, fun l H3 hl2 g3 w => q _ _ (g2.t (g3.up g2.b)) ⟨l, rfl, g2.back hl2, w⟩⟩)
end
end SR
set_option Elab.async false
set_option linter.all false
set_option maxRecDepth 100000
set_option maxHeartbeats 8000000
/-! a comprehension into a dict whose keys are pairs -/
namespace SR
open PySem PySem.Spec PyProof.Rows L2
section
variable {X : Cx}
/-- one store of the comprehension -/
theorem set_T {pins : List (Addr × Obj)} {σ : L2.St} {H : Hp} {s : Shared} {E : Value → Shared → Prop} {D q : Addr} {kvs : List (List Key × V)} {k : List Key} {v : V} {r : Value} {Q : Unit → Shared → Prop} (hu : X.A.units + 64 < cLine) (I : Inv X pins σ H s) (hD : H D = some (.dT kvs)) (hq : H q = some (.tup (k.map kV)))
    (z : kvs.length < sizeLine) (rv : RelV v r) (h : ∀ s', Inv X pins σ (upd H D (.dT (putK kvs k v))) s' → Q () s') : wpAny (model X.prog X.w) X.A (dictSet D (.ref q) r) Q E s := by
  obtain ⟨_, lo, xs, rel, dd⟩ := dt_of I.hok hD
  have zx : xs.length ≤ sizeLine := by rw [← Paired.length rel]; exact Nat.le_of_lt z
  have roomy : (tupleKind (mixKind X.prog X.w)).room X.A := (show X.A.units < cLine by omega)
  refine wpAny_dictSet_heap (hsz := zx) roomy (key_of I.hok hq) dd fun h' dd' sb => h _ ?_
  have zn : (putK kvs k v).length ≤ sizeLine := Nat.le_trans (length_putK kvs k v) z
  obtain ⟨ob, es, ep, hob, c1, c2, c3, _, c4⟩ := dd'
  refine d_write I (by rw [hD]; exact trivial) sb ⟨ob, hob⟩ ⟨zn, lo, _, (rel.put k hq rv).keeps fun b ys eb => ?_, ob, es, ep, hob, c1, c2, c3, c4⟩
  rw [upd_ne (ne_of eb hD fun e => nomatch e)]
  exact eb
/-- {kx: vx for tg in it if ..}: what the loop asks, D the new dict -/
def tDcT (wi : TI) (g : TG) (tt : TT) (tk tv : TE) (vs : List Nat) : TE := fun σ H Q => wi σ H fun J Ha => ∀ D, Ha D = none → ∃ W : Nat → Nat → Hp → Prop, (∃ m, W 0 m (upd Ha D (.dT []))) ∧ ∀ i m Hb, W i m Hb →
  (J.stop i Hb ∧ Q (.ref D) Hb) ∨ (J.go i Hb ∧ ∃ Go : Hp → Prop, (∀ Hc, Go Hc → ∃ m2, m2 < m ∧ W (i + 1) m2 Hc) ∧ ∀ x Hc, J.yld i Hb x Hc → g x (wipe σ vs) Hc fun τ Hd => wipe τ vs = wipe σ vs ∧ tt τ Hd fun b He =>
    if b = true then tk τ He fun y Hf => tv τ Hf fun z Hg => ∃ kvs k q, y = .ref q ∧ Hg q = some (.tup (k.map kV)) ∧ Hg D = some (.dT kvs) ∧ kvs.length < sizeLine ∧ Go (upd Hg D (.dT (putK kvs k z))) else Go He)
theorem pe_dcT {kx vx tg it : Expr} {ifs : List Expr} {sc : Scope} {ow : List (Str × Nat)} {pos : Pos} {wi : TI} {g : TG} {tt : TT} {tk tv : TE} (calm : X.calm = true) (hu : X.A.units + 64 < cLine) (nd : X.N.Nodup) (pit : PI X tg it wi) (bk : BlkOk X.N X.env.scope sc ow)
    (ptg : ∀ (s : Shared) (H : Hp) (C : Addr) (cl : List (Str × Addr)) (fp : List Addr), PG (X.blk s H sc (compEnvC sc cl C X.env) fp) tg g)
    (pif : ∀ (s : Shared) (H : Hp) (C : Addr) (cl : List (Str × Addr)) (fp : List Addr), PTs (X.blk s H sc (compEnvC sc cl C X.env) fp) ifs tt)
    (pkx : ∀ (s : Shared) (H : Hp) (C : Addr) (cl : List (Str × Addr)) (fp : List Addr), PE (X.blk s H sc (compEnvC sc cl C X.env) fp) kx tk)
    (pvx : ∀ (s : Shared) (H : Hp) (C : Addr) (cl : List (Str × Addr)) (fp : List Addr), PE (X.blk s H sc (compEnvC sc cl C X.env) fp) vx tv) (fo : ∀ x, foldedSetIterable it X.env x = pure x) :
    PE X (.DictComp kx vx [⟨tg, it, ifs, 0⟩] sc pos) (tDcT wi g tt tk tv (ow.map (·.2))) := by
  refine ⟨fun pins sA σ HA Q IA hA => ?_⟩
  rw [arm_eval_DictComp]
  have frees : ∀ y ∈ sc.names, y.2 = .free → ∃ c, X.env.cells.lookup y.1 = some c := fun y my ey => IA.ok.has _ (bk.free y my ey)
  refine wpAny_comprehension_free (use := none) rfl fo (closure_ok frees) bk.kind (fun y my ey => (bk.uniq y my).trans (congrArg some ey)) (thn (pit.run pins sA σ HA _ IA hA) fun xv sB hB => thn hB fun iv sC hC => ?_)
  obtain ⟨j, fps, tn, J, HC, rfl, IC, TC, stC, okC, qC⟩ := hC
  refine wpAny_newObj_type (newEnv_comp ?_)
  obtain ⟨D, eD⟩ : ∃ D, D = sC.heap.objs.size := ⟨_, rfl⟩
  rw [← eD]
  have freeD : HC D = none := IC.hok.fresh (Nat.le_of_eq eD.symm)
  obtain ⟨W, ⟨m0, w0⟩, turn⟩ := qC D freeD
  -- the dict, laid and tracked
  obtain ⟨sD, eqD⟩ : ∃ sD : Shared, sD = { sC with heap := sC.heap.push { cls := .type "dict", data := .dict #[] } } := ⟨_, rfl⟩
  have ID : Inv X pins σ (upd HC D (.dT [])) sD := by
    subst eqD eD
    exact IC.laid (t' := sC.toks) (fun b ob e => Heap.get?_push_of_some _ e) (Nat.le_refl _) (dt_empty sC.heap IC.big)
  have heapD : sD.heap = sC.heap.push { cls := .type "dict", data := .dict #[] } := by rw [eqD]
  have fpsD : ∀ b ∈ fps, FpOk X pins (upd HC D (.dT [])) b ∧ b < sD.heap.objs.size := fun b mb => by
    obtain ⟨ob, eb, _⟩ := TC.obj _ _ stC b mb
    have small : b < sC.heap.objs.size := Heap.lt_size eb
    refine ⟨⟨(upd_ne (by rw [eD]; exact Nat.ne_of_lt small)).trans (okC b mb).1, (okC b mb).2⟩, ?_⟩
    rw [heapD, Heap.size_push]
    exact Nat.lt_succ_of_lt small
  have stD : tn 0 sD.heap := TC.keep _ _ _ stC fun b _ ob eb => by
    rw [heapD]
    exact Heap.get?_push_of_some _ eb
  have IB := block_start ID bk nd fpsD
  -- the block's place, shortened
  obtain ⟨C, eC⟩ : ∃ C, C = sD.heap.objs.size := ⟨_, rfl⟩
  have kg := ptg sD (upd HC D (.dT [])) C (cellsFrom (C + 1) sc.names (cloFrom X.env.cells sc.names [])) fps
  have kt := pif sD (upd HC D (.dT [])) C (cellsFrom (C + 1) sc.names (cloFrom X.env.cells sc.names [])) fps
  have kk := pkx sD (upd HC D (.dT [])) C (cellsFrom (C + 1) sc.names (cloFrom X.env.cells sc.names [])) fps
  have kv := pvx sD (upd HC D (.dT [])) C (cellsFrom (C + 1) sc.names (cloFrom X.env.cells sc.names [])) fps
  rw [← eqD, ← eC]
  rw [← eC] at IB
  show codeAny _ _ (.compStart (.DictComp kx vx [⟨tg, it, ifs, 0⟩] sc pos) 0 (.ref j) (.ref D) (compEnvC sc (cellsFrom (C + 1) sc.names (cloFrom X.env.cells sc.names [])) C X.env)) (compPost (model X.prog X.w) X.A X.xe none (EP X pins σ Q) (.ref D) C) { sD with heap := pushCells (sD.heap.push { cls := .type "dict", data := .dict #[] }) sc.names }
  have noneD : ∀ b ∈ fps, (upd HC D (.dT [])) b = none := fun b mb => (fpsD b mb).1.1
  generalize eenv : compEnvC sc (cellsFrom (C + 1) sc.names (cloFrom X.env.cells sc.names [])) C X.env = env2 at IB kg kt kk kv ⊢
  have locC : env2.locals = C := by rw [← eenv]; rfl
  generalize eHD : upd HC D (.dT []) = HD at ID IB kg kt kk kv w0 noneD fpsD
  generalize esE : ({ sD with heap := pushCells (sD.heap.push { cls := .type "dict", data := .dict #[] }) sc.names } : Shared) = sE at IB ⊢
  have stE : tn 0 sE.heap := TC.keep _ _ _ stD fun b _ ob eb => by
    rw [← esE]
    exact pushCells_keeps _ _ _ _ (Heap.get?_push_of_some _ eb)
  have still : ∀ {τ : L2.St} {H2 : Hp} {s2 : Shared}, Inv (X.blk sD HD sc env2 fps) [] τ H2 s2 → (∀ b ∈ fps, H2 b = none) → ∀ b ∈ fps, FpOk (X.blk sD HD sc env2 fps) [] H2 b := by
    intro τ H2 s2 I2 n2 b mb
    have x1 := I2.ok.exf b mb
    exact ⟨n2 b mb, x1.1, I2.ok.exfs b mb, .inl mb, fun x c e => x1.2 x c e, fun p mp => nomatch (show p ∈ ([] : List (Addr × Obj)) from by simpa using mp)⟩
  refine codeAny_compStart_dict (?loop) (TC.self X.A 0 _ _ _ stE ?loop)
  refine compLoop_anyD (fun n s2 => ∃ i H2, Inv (X.blk sD HD sc env2 fps) [] (wipe σ (ow.map (·.2))) H2 s2 ∧ tn i s2.heap ∧ (∀ b ∈ fps, H2 b = none) ∧ W i n H2) (fun n sF hF => ?_) m0 ⟨0, HD, IB, stE, noneD, w0⟩
  obtain ⟨i, HF, IF, stF, noneF, wF⟩ := hF
  rcases turn i n HF wF with ⟨ends, qend⟩ | ⟨goes, Go, less, step⟩
  · -- no item more
    refine thnF (TC.done (X.blk sD HD sc env2 fps) rfl rfl rfl calm i [] sF _ HF (fun _ _ => False) IF (still IF noneF) stF ends) fun r sG ⟨er, IG⟩ => ?_
    subst er
    have back : Inv X pins σ HF sG := ID.call' (ch := fps) IG.os IG.base IG.hok IG.bare fun b mb =>
      let w := (fpsD b mb).1
      ⟨w.2.2.2.1, w.2.1, w.2.2.2.2.1, w.2.2.2.2.2⟩
    have freeC : HF C = none := by
      have z : HF env2.locals = none := IG.free
      rwa [locC] at z
    obtain ⟨mm, nsC, _⟩ := IG.loc
    have nsC : sG.heap.Ns env2.locals mm := nsC
    rw [locC] at nsC
    obtain ⟨f0, f1, f2, f3, f4, f5⟩ := ID.fpOk (b := C) (Nat.le_of_eq eC.symm) freeC
    exact ⟨mm, nsC, fun h2 sb => ⟨.ref D, HF, back.turned (t' := sG.toks) (fun b ob hb e => (sb.2 b hb).trans e) f0 f1 f3 f4 f5, rfl, qend⟩⟩
  · -- one item
    refine thnF (TC.item (X.blk sD HD sc env2 fps) rfl rfl rfl calm i [] sF _ HF (fun _ _ => False) IF (still IF noneF) stF goes) fun r sG ⟨u, er, hG⟩ => ?_
    subst er
    refine thnF hG fun _ sH ⟨x, HH, IH, rx, yH, stH, noneH⟩ => ?_
    have IP := IH.pinned (still IH noneH) (TC.obj _ _ stH)
    refine thnF (kg.run _ sH _ HH x u _ IP rx (step x HH yH)) fun _ sI ⟨τ, HI, II, wI, qI⟩ => ?_
    refine thnF (kt.run _ sI τ HI _ II qI) fun b sJ ⟨HJ, IJ, qJ⟩ => ?_
    have close : ∀ {s2 : Shared} {H2 : Hp}, Inv (X.blk sD HD sc env2 fps) ([] ++ pinsAt fps sH.heap) τ H2 s2 → Go H2 → ∃ m2, m2 < n ∧ ∃ i2 H3, Inv (X.blk sD HD sc env2 fps) [] (wipe σ (ow.map (·.2))) H3 s2 ∧ tn i2 s2.heap ∧ (∀ b ∈ fps, H3 b = none) ∧ W i2 m2 H3 := by
      intro s2 H2 I2 go2
      obtain ⟨m2, lt, w2⟩ := less H2 go2
      have pin2 : ∀ b ∈ fps, ∀ ob, sH.heap.get? b = some ob → s2.heap.get? b = some ob ∧ H2 b = none := fun b mb ob eb =>
        let z := I2.pin (b, ob) (List.mem_append_right _ (List.mem_append_right _ (mem_pinsAt mb eb)))
        ⟨z.1, z.2.1⟩
      have len2 : (wipe σ (ow.map (·.2))).length = τ.length := by rw [← wI, wipe_length]
      refine ⟨m2, lt, i + 1, H2, (I2.unpinned (pins := [])).weak len2 (fun k v e => ?_), TC.keep _ _ _ stH fun b mb ob eb => (pin2 b mb ob eb).1, fun b mb => ?_, w2⟩
      · rw [← wI] at e
        exact (wipe_some e).1
      · obtain ⟨ob, eb, _⟩ := TC.obj _ _ stH b mb
        exact (pin2 b mb ob eb).2
    cases b with
    | false =>
      rw [if_neg (by decide)] at qJ
      rw [if_neg (by decide)]
      exact close IJ qJ
    | true =>
      rw [if_pos rfl] at qJ
      rw [if_pos rfl]
      refine thnF (kk.run _ sJ τ HJ _ IJ qJ) fun y sK2 ⟨yv, HK, IK, ry, qK⟩ => ?_
      refine thnF (kv.run _ sK2 τ HK _ IK qK) fun y2 sL ⟨zv, HL, IL, rz, kvs, k, q, ey, hq, hDL, zL, goL⟩ => ?_
      subst ey
      cases ry
      exact set_T (X := X.blk sD HD sc env2 fps) hu IL hDL hq zL rz fun sM IM => close IM goL
end
end SR
set_option Elab.async false
set_option linter.all false
set_option maxRecDepth 100000
set_option maxHeartbeats 4000000
/-! an own class: len, !=; powers of large numbers; dict.update; a display with one pair as its key -/
namespace SR
open PySem PySem.Spec PyProof.Rows L2
section
variable {prog : Program} {w : World} {A : Around} {E : Value → Shared → Prop} {s : Shared} {K : PySem.W.Frag} {x C f : Addr} {ox : Obj} {od : Option Obj} {b tb : Value}
/-- len(x), x of a class with its own __len__ -/
theorem own_len {Q : Value → Shared → Prop} (X : K.In s.heap) (I : PySem.W.InstAt s.heap x ox C od) (hs : PySem.W.findIn K (.ref C) "__len__" = some (some (.ref f))) (hf : PySem.W.isFn K (.ref f) = true)
    (h : wpAny (model prog w) A.in1 (call (.ref f) [.ref x]) (fun r s1 => ∃ n u, r = Value.int n u ∧ 0 ≤ n ∧ n < 2 ^ 63 ∧ ∀ t tk, Q (.int n t) { s1 with toks := tk }) E s) : wpAny (model prog w) A (call (.builtin "len") [.ref x]) Q E s := by
  refine Calls.call_function_entry kind_len plain_len entry_len (args_len1 _) ?_
  unfold Builtin.«len»
  refine wpAny_bind (m := oneArg "len" _) (wpAny_pure (wpAny_bind (m := callSpecial? (.ref x) (Str.ofString "__len__")) (PySem.W.special_fn X I hs (beq_iff_eq.mp hf) (wpAny_mono h (fun r s1 hr => ?_) fun _ _ y => y))))
  obtain ⟨n, u, rfl, n0, n1, hq⟩ := hr
  refine wpAny_bind (wpAny_holding (wpAny_pure (wpAny_bind (wpAny_letGo ?_))))
  show wpAny _ _ (if n < 0 then _ else _) _ _ _
  rw [if_neg (by omega)]
  show wpAny _ _ (if n ≥ 2 ^ 63 then _ else _) _ _ _
  rw [if_neg (by omega)]
  exact wpAny_bind (wpAny_mkInt (wpAny_pure ⟨_, rfl, hq _ _⟩))
/-- x != b by object.__ne__ and an own __eq__ that says True or False -/
theorem own_ne {Q : Value → Shared → Prop} (hu : A.units + 4 < cLine) (X : K.In s.heap) (I : PySem.W.InstAt s.heap x ox C od) (hb : PySem.W.Looks (model prog w) s.heap (typeOf b) tb) (hn : PySem.W.notFirst K C tb = true) (hm : PySem.W.mroIn K C (.type "object") = some true)
    (hs : PySem.W.findIn K (.ref C) "__ne__" = some (some (.builtin "object.__ne__"))) (he : PySem.W.findIn K (.ref C) "__eq__" = some (some (.ref f))) (hf : PySem.W.isFn K (.ref f) = true)
    (h : wpAny (model prog w) A.in1 (call (.ref f) [.ref x, b]) (fun r s1 => ∃ c, r = Value.bool c ∧ Q (.bool (!c)) s1) E s) : wpAny (model prog w) A (richCompare .NotEq (.ref x) b) Q E s := by
  -- what the slot gives
  have slot : wpAny (model prog w) A (call (.builtin "object.__ne__") [.ref x, b]) (fun r s1 => ∃ c, r = Value.bool c ∧ Q r s1) E s := by
    refine wpAny_call (codeAny_call_builtin F.cmp_object.ne.plain F.cmpEntry_ne (PySem.W.check_slot F.cmpKind_ne F.cmpSplit_ne (I.type.andThen (PySem.W.looks_mroIn X hm)) (F.cmpArgs_ne _ _) ?_))
    unfold Builtin.«object.__ne__»
    refine wpAny_bind (m := slotArgs "__ne__" 1 _) (wpAny_pure ?_)
    refine wpAny_bind (wpAny_cRoomFor (show A.in1.units < cLine from by show A.units + 1 < cLine; omega) ?_)
    refine wpAny_bind (m := callSpecialIfBound? (.ref x) (Str.ofString "__eq__") [b]) (PySem.W.ifBound_K X I he hf (wpAny_mono h (fun r s1 hr => ?_) fun _ _ y => y))
    obtain ⟨c, rfl, hq⟩ := hr
    exact wpAny_bind (wpAny_truthy_bool (wpAny_pure ⟨_, rfl, hq⟩))
  have tried : wpAny (model prog w) A (tryCompare (.ref x) "__ne__" b) (fun r s1 => ∃ v, r = some v ∧ Q v s1) E s := by
    unfold tryCompare
    refine wpAny_bind (m := callSpecialIfBound? (.ref x) "__ne__" [b]) ?_
    simp only [callSpecialIfBound?, bindSpecialIfBound?]
    refine wpAny_holding (wpAny_bind (wpAny_bind (wpAny_bind (I.type.here ((PySem.W.looks_findIn X hs).here (wpAny_bind (wpAny_askSetting (wpAny_ite ?_))))))))
    have fin : wpAny (model prog w) A (call (.builtin "object.__ne__") ([.ref x] ++ [b]) >>= fun v => pure (some v)) (fun r s1 => wpAny (model prog w) A (match r with | some .notImplemented | none => pure none | some v => pure (some v)) (fun r s1 => ∃ v, r = some v ∧ Q v s1) E s1) E s :=
      wpAny_bind (wpAny_mono slot (fun v s1 ⟨c, ev, hq⟩ => by
        subst ev
        exact wpAny_pure (wpAny_pure ⟨_, rfl, hq⟩)) fun _ _ y => y)
    split
    · exact wpAny_bind (wpAny_of_eq (F.cmp_object.ne.bind _) (wpAny_pure (by exact fin)))
    · exact wpAny_tryCatch (wpAny_bind (wpAny_of_eq (F.cmp_object.ne.bind _) (wpAny_pure (by exact fin))))
  unfold richCompare
  simp only [oneThing_ref]
  refine wpAny_holding (wpAny_bind (wpAny_cRoomFor (show A.units < cLine from by omega) ?_))
  rw [cmpInfo_NotEq]
  refine wpAny_bind (I.type.here (wpAny_bind (hb.here ?_)))
  dsimp only
  have last : wpAny (model prog w) A (do
      match ← tryCompare (.ref x) "__ne__" b with
      | some v => pure v
      | none => pure .notImplemented) Q E s := wpAny_bind (wpAny_mono tried (fun r s1 ⟨v, e, hq⟩ => by subst e; exact wpAny_pure hq) fun _ _ y => y)
  split
  · rename_i q
    have e : PySem.W.subIn K tb (.ref C) = some false := by
      rcases Bool.or_eq_true_iff.mp hn with e | e
      · rw [beq_iff_eq.mp e] at q
        simp at q
      · exact beq_iff_eq.mp e
    refine wpAny_bind ((PySem.W.looks_subIn X e).here ?_)
    simp only [Bool.false_eq_true, if_false]
    exact wpAny_bind (wpAny_mono tried (fun r s1 ⟨v, e, hq⟩ => by subst e; exact wpAny_pure hq) fun _ _ y => y)
  · refine wpAny_bind (wpAny_pure ?_)
    simp only [Bool.false_eq_true, if_false]
    exact wpAny_bind (wpAny_mono tried (fun r s1 ⟨v, e, hq⟩ => by subst e; exact wpAny_pure hq) fun _ _ y => y)
end
end SR
set_option Elab.async false
set_option linter.all false
set_option maxRecDepth 100000
set_option maxHeartbeats 4000000
/-! tuples with dicts in them, compared; an own class compared -/
namespace SR
open PySem PySem.Spec PyProof.Rows L2
section
variable {prog : Program} {w : World} {A : Around} {R : Result → Shared → Prop}
open PySem.Builtin in
/-- two tuples whose first items differ -/
theorem tup_ne0 (l b : Addr) (xs ys : Array Value) (n n2 : Nat) (dd dd2 : Option Addr) (sl sl2 : Array (Option Value)) (h1 : 0 < xs.size) (h2 : 0 < ys.size) {s : Shared} (hl : s.heap.get? l = some { cls := .type "tuple", dict := dd, data := .seq xs n, slots := sl }) (hb : s.heap.get? b = some { cls := .type "tuple", dict := dd2, data := .seq ys n2, slots := sl2 })
    (he : SeqAt.EqP prog w A.in1 s xs[0] ys[0] false) (fin : R (.ok (.ret (.bool false))) s) :
    wpAny (model prog w) A.in1 (Builtin.«tuple.__eq__» ⟨[.ref l, .ref b], []⟩) (GQ.FinOf prog w A R) (fun e s' => R (.error e) s') s := by
  have f2 := AutoSeq1.sub_tuple_tuple
  have hz : xs.toList.zip ys.toList = (xs[0], ys[0]) :: (xs.toList.zip ys.toList).drop 1 := by
    have hlen : 0 < (xs.toList.zip ys.toList).length := by simp; omega
    have := List.drop_eq_getElem_cons hlen
    rw [List.drop_zero] at this
    rw [this]
    simp
  obtain ⟨hp, g, d, tk, os⟩ := s
  wp_walk using wpAny_loadPart' hl, wpAny_loadPart' hb, wpAny_forIn_list _ (fun rest b s' => b.1 = none ∧ s' = ⟨hp, g, d, tk, os⟩ ∧ rest = xs.toList.zip ys.toList) _
  case turn =>
    rintro ⟨y, x⟩ rest b s' ⟨hb', rfl, hr⟩
    rw [hz] at hr
    injection hr with hyx _
    cases hyx
    refine wpAny_bind (he _ _ ?_)
    wp_walk
    exact fin
  case fin =>
    rintro ⟨b1, b2⟩ s' ⟨hb', rfl, hr⟩
    rw [hz] at hr
    cases hr
  case h =>
    exact ⟨rfl, rfl, rfl⟩
end
section
variable {prog : Program} {w : World} {A : Around} {E : Value → Shared → Prop} {s : Shared}
theorem rc_tup0 {l b : Addr} {xs ys : Array Value} {Q : Value → Shared → Prop} (hu : A.units < cLine) (h1 : 0 < xs.size) (h2 : 0 < ys.size) (hl : s.heap.IsTuple l xs) (hb : s.heap.IsTuple b ys) (he : SeqAt.EqP prog w A.in1 s xs[0] ys[0] false) (fin : Q (.bool false) s) : wpAny (model prog w) A (richCompare .Eq (.ref l) (.ref b)) Q E s := by
  obtain ⟨⟨c1, dd, d1, sl⟩, ho, rfl, n, rfl⟩ := hl
  obtain ⟨⟨c2, dd2, d2, sl2⟩, ho2, rfl, n2, rfl⟩ := hb
  exact wpAny_richCompare_same_room (op := .Eq) ⟨_, ho, rfl⟩ ⟨_, ho2, rfl⟩ F.slot_tuple_eq (GQ.call_here F.slot_tuple_eq ⟨_, ho, rfl⟩ F.entry_tuple_eq (F.args_tuple_eq_2 _ _) (tup_ne0 (R := wants (fun v s' => v ≠ .notImplemented ∧ Q v s') E) l b xs ys n n2 dd dd2 sl sl2 h1 h2 ho ho2 he ⟨(fun x => nomatch x), fin⟩)) hu
end
end SR
set_option Elab.async false
set_option linter.all false
set_option maxRecDepth 100000
set_option maxHeartbeats 4000000
/-! Outline: ==, !=, len -/
namespace SR
open PySem PySem.Spec PyProof.Rows L2
/-- what may be compared -/
structure OuGd (o : Ou) : Prop where
  en : ∀ q ∈ o.en, SeqAt.shaped (rowD q.2) = true
theorem shaped_one (x : Unit) : SeqAt.shaped (oneD x) = true := (gd_bl true).s
theorem shaped_ask (x : Option Nat) : SeqAt.shaped (askD x) = true := by
  cases x with
  | none => exact gd_non.s
  | some n => exact (gd_int _).s
theorem gd_save (s : Int × Int) : Gd (saveD s) := ⟨lay_tup fun d hd => by
  simp only [List.mem_cons, List.not_mem_nil, or_false] at hd
  rcases hd with rfl | rfl <;> exact (gd_int _).c, by simp [saveD, PyData.depth, PyData.depthAll]⟩
theorem shaped_gr (g : Option (Int × Int)) : SeqAt.shaped (grD g) = true := by
  cases g with
  | none => exact gd_non.s
  | some s => exact (gd_save s).s
/-- equal, or of another ground -/
def ouSame (o o' : Ou) (r : Bool) : Prop := (r = true ∧ PyData.eqv (grD o.gr) (grD o'.gr) = true ∧ eqvM rowD rowD o.en o'.en = true ∧ eqvM oneD oneD o.go o'.go = true ∧ eqvM askD askD o.aks o'.aks = true) ∨ (r = false ∧ PyData.eqv (grD o.gr) (grD o'.gr) = false)
section
variable {X : Cx}
theorem hitsP {prog : Program} {w : World} {A : Around} {s : Shared} {kb : List (Key × Value)} {ka : List (Key × Value)} {r : Bool} (h : PySem.W.KeqHits A s kb ka r) : PySem.W.KeqHitsP prog w A s kb ka r := by
  induction h with
  | nil => exact .nil
  | miss e => exact .miss e
  | hit e q _ ih => exact .hit e q.eqP ih
/-- two equal dicts, items of something -/
theorem eqP_dicts {A : Around} {pins : List (Addr × Obj)} {σ : L2.St} {H : Hp} {s : Shared} {β : Type} {f : β → PyData} {m m' : List (Str × β)} {a b : Addr} (I : Inv X pins σ H s) (hu : A.units + 66 < cLine) (hf : ∀ q ∈ m, SeqAt.shaped (f q.2) = true) (hf' : ∀ q ∈ m', SeqAt.shaped (f q.2) = true) (ha : DR X.K f H a m) (hb : DR X.K f H b m') (e : eqvM f f m m' = true) :
    SeqAt.EqP X.prog X.w A s (.ref a) (.ref b) true := by
  by_cases ab : a = b
  · subst ab
    exact (SeqAt.EqAt.same _).eqP
  · obtain ⟨kvs, e1, hk⟩ := ha
    obtain ⟨kvs', e2, hk'⟩ := hb
    obtain ⟨_, ya, va, ra, da⟩ := dk_rd I.hok e1
    obtain ⟨_, yb, vb, rb, db⟩ := dk_rd I.hok e2
    have l1 : va.length = m.length := by rw [← ra.length, hk.length]
    have l2 : vb.length = m'.length := by rw [← rb.length, hk'.length]
    unfold eqvM at e
    obtain ⟨el, ea⟩ := Bool.and_eq_true_iff.mp e
    refine SeqAt.eqP_refs ab fun E Q q => PySem.W.rcP_dicts (knd := mixKind X.prog X.w) (r := true) ya yb da db (by omega) (fun _ => ?_) E Q ?_
    · have hits := hitsA (A := A) I hu hf hf' hk hk' ra rb
      exact hitsP (Eq.subst (motive := fun r => PySem.W.KeqHits A.in1 s vb va r) ea hits)
    · rw [l1, l2, of_decide_eq_true el]
      simpa using q
where
  hitsA {A : Around} {pins : List (Addr × Obj)} {σ : L2.St} {H : Hp} {s : Shared} {β : Type} {f : β → PyData} {m m' : List (Str × β)} {kvs kvs' : List (Key × V)} {va vb : List (Key × Value)} (I : Inv X pins σ H s) (hu : A.units + 66 < cLine) (hf : ∀ q ∈ m, SeqAt.shaped (f q.2) = true) (hh : ∀ q ∈ m', SeqAt.shaped (f q.2) = true) (hk : KD X.K f H kvs m) (hk' : KD X.K f H kvs' m') (ra : KV kvs va) (rb : KV kvs' vb) :
      PySem.W.KeqHits A.in1 s vb va (m.all fun q => match trGet m' q.1 with
        | some b => PyData.eqv (f q.2) (f b)
        | none => false) := by
    unfold KD at hk
    induction hk generalizing va with
    | nil =>
      cases ra
      exact .nil
    | @cons x y xs ys z _ ih =>
      cases ra with
      | @cons _ w _ ws r t =>
        obtain ⟨k, u⟩ := w
        have ek : k = Sum.inr y.1 := r.1.symm.trans z.1
        subst ek
        rw [List.all_cons]
        have it := ih (fun q hq => hf q (List.mem_cons_of_mem _ hq)) t
        have rv := rb.val (Sum.inr y.1)
        rcases hk'.get y.1 with ⟨v', b, h1, h2, h3⟩ | ⟨h1, h2⟩
        · rw [h1] at rv
          obtain ⟨u', hu', ru⟩ := rv.some_of
          rw [h2]
          obtain ⟨as, r1⟩ := Dp.reads I _ x.2 u (Dv.dp _ _ z.2) r.2
          obtain ⟨bs, r2⟩ := Dp.reads I _ v' u' (Dv.dp _ _ h3) ru
          obtain ⟨q, hq, rfl⟩ : ∃ q ∈ m', q.2 = b := by
            unfold trGet at h2
            obtain ⟨q, z2, z3⟩ := Option.map_eq_some_iff.mp h2
            exact ⟨q, List.mem_of_find?_eq_some z2, z3⟩
          exact .hit hu' (PySem.W.keq_at r1 r2 (hf _ List.mem_cons_self) (hh q hq) (by show A.units + 1 + 64 < cLine; omega)) it
        · rw [h1] at rv
          rw [h2]
          refine .miss ?_
          cases e : valueAt vb (Sum.inr y.1) with
          | none => rfl
          | some u' =>
            rw [e] at rv
            exact rv.elim
/-- the two tuples of an outline's own -/
def rOuT (K : PySem.W.Frag) : R2 := fun x y H Q => ∃ (t u : Addr) (p q : OA) (o o' : Ou) (r : Bool), x = .ref t ∧ y = .ref u ∧ H t = some (.tup [p.vg, .ref p.de, .ref p.dg, .ref p.da]) ∧ H u = some (.tup [q.vg, .ref q.de, .ref q.dg, .ref q.da]) ∧ OuAt K H p o ∧ OuAt K H q o' ∧ OuGd o ∧ OuGd o' ∧ ouSame o o' r ∧ Q (.bl r) H
theorem op_ouT (hu : X.A.units + 70 < cLine) : OpR X (compareOp .Eq) (rOuT X.K) := by
  intro pins s σ H x y v w Q I rx ry z
  obtain ⟨t, u, p, q, o, o', r, rfl, rfl, ht, hu2, ho, ho', gd, gd', same, hQ⟩ := z
  cases rx
  cases ry
  obtain ⟨xs, r1, t1, _⟩ := I.tuple (.inl (.inl ht))
  obtain ⟨ys, r2, t2, _⟩ := I.tuple (.inl (.inl hu2))
  have hu4 : X.A.in1.units + 66 < cLine := by show X.A.units + 1 + 66 < cLine; omega
  obtain ⟨a1, as, rfl, ra1, k1⟩ := vcons r1
  obtain ⟨a2, as, rfl, ra2, k1⟩ := vcons k1
  obtain ⟨a3, as, rfl, ra3, k1⟩ := vcons k1
  obtain ⟨a4, as, rfl, ra4, k1⟩ := vcons k1
  cases k1
  obtain ⟨b1, bs, rfl, rb1, k2⟩ := vcons r2
  obtain ⟨b2, bs, rfl, rb2, k2⟩ := vcons k2
  obtain ⟨b3, bs, rfl, rb3, k2⟩ := vcons k2
  obtain ⟨b4, bs, rfl, rb4, k2⟩ := vcons k2
  cases k2
  cases ra2
  cases ra3
  cases ra4
  cases rb2
  cases rb3
  cases rb4
  obtain ⟨l1, g1⟩ := Dp.reads I _ p.vg a1 (Dv.dp _ _ ho.vg) ra1
  obtain ⟨l2, g2⟩ := Dp.reads I _ q.vg b1 (Dv.dp _ _ ho'.vg) rb1
  have eg : SeqAt.EqP X.prog X.w X.A.in1 s a1 b1 (PyData.eqv (grD o.gr) (grD o'.gr)) := (PySem.W.keq_at g1 g2 (shaped_gr _) (shaped_gr _) (by show X.A.units + 1 + 64 < cLine; omega)).eqP
  show wpAny (model X.prog X.w) X.A (richCompare .Eq (.ref t) (.ref u)) _ _ s
  rcases same with ⟨rfl, e1, e2, e3, e4⟩ | ⟨rfl, e1⟩
  · refine GQ.rc_tupG (items := [a1, .ref p.de, .ref p.dg, .ref p.da].toArray) (items2 := [b1, .ref q.de, .ref q.dg, .ref q.da].toArray) rfl (by omega) (fun _ s' => s' = s) t1 t2 (fun i h1 h2 s' e => ?_) (fun s' e => ?_) rfl
    · subst e
      have i4 : i < 4 := h1
      match i, i4 with
      | 0, _ =>
        rw [e1] at eg
        exact eg _ _ ⟨rfl, rfl⟩
      | 1, _ => exact eqP_dicts I hu4 gd.en gd'.en ho.den.r ho'.den.r e2 _ _ ⟨rfl, rfl⟩
      | 2, _ => exact eqP_dicts I hu4 (fun q _ => shaped_one q.2) (fun q _ => shaped_one q.2) ho.dgo.r ho'.dgo.r e3 _ _ ⟨rfl, rfl⟩
      | 3, _ => exact eqP_dicts I hu4 (fun q _ => shaped_ask q.2) (fun q _ => shaped_ask q.2) ho.das.r ho'.das.r e4 _ _ ⟨rfl, rfl⟩
    · subst e
      exact ⟨.bl true, H, I, rfl, hQ⟩
  · rw [e1] at eg
    exact rc_tup0 (by omega) (by show 0 < 4; decide) (by show 0 < 4; decide) t1 t2 eg ⟨.bl false, H, I, rfl, hQ⟩
where
  vcons {x : V} {xs : List V} {us : List Value} (r : Vals (x :: xs) us) : ∃ u ws, us = u :: ws ∧ RelV x u ∧ Vals xs ws := by
    cases r with
    | cons a b => exact ⟨_, _, rfl, a, b⟩
end
section
variable {M : Addr → Prop} {X : Cx} {σ : L2.St} {H : Hp} {e : Expr} {pos p : Pos} {a dx : Addr} {vs : List (Option V)}
theorem ev_outN (T : Txt X.w X.K X.mg) {p2 : Pos} (hg : Gl X "Outline" := by rfl) : Ev M (wE X (.Name "Outline" p2)) σ H (Pv (.ref (oC X.K))) := fun H1 g Q q => of_pe (pe_glob (v := .ref (oC X.K)) hg T.mgO rfl) (q _ _ g.r rfl)
/-- isinstance(e, Outline) of an outline -/
theorem ev_isO (T : Txt X.w X.K X.mg) (h : Ev M (wE X e) σ H (Pv (.ref a))) (S : Sl0 X.K H a dx vs) {p2 : Pos} (hg : Gl X "isinstance" := by rfl) (hgx : Gl X "Outline" := by rfl) (he : starEach [e, .Name "Outline" p2] X.env = (false, eval e X.env) :: starEach [.Name "Outline" p2] X.env := by rfl) : Ev M (wE X (.Call (.Name "isinstance" p) [e, .Name "Outline" p2] [] pos)) σ H (Pd X.K (.bool true)) :=
  ev_callB (SlX.call_isiSl (.ref (oC X.K))) T.f_isinstance bt_isi (ea_two stb_v (fun _ _ _ _ _ _ h => h) h (ev_outN T hgx) he) (fun ws H1 H2 g1 g2 ⟨v, w, e1, ev, ew⟩ Q q => by
    subst e1
    obtain rfl : v = .ref a := ev
    obtain rfl : w = .ref (oC X.K) := ew
    exact ⟨a, oC X.K, dx, vs, _, true, rfl, rfl, fun w r => r, (S.g (g1.t g2)).slt, T.sc, T.isi, T.kit1, q _ _ g2.r (.bl _)⟩) hg (by decide) (by decide) he
/-- .. of a dict -/
theorem ev_isOD {β : Type} {f : β → PyData} {m : List (Str × β)} (T : Txt X.w X.K X.mg) (h : Ev M (wE X e) σ H (PDR X.K f m)) {p2 : Pos} (hg : Gl X "isinstance" := by rfl) (hgx : Gl X "Outline" := by rfl) (he : starEach [e, .Name "Outline" p2] X.env = (false, eval e X.env) :: starEach [.Name "Outline" p2] X.env := by rfl) : Ev M (wE X (.Call (.Name "isinstance" p) [e, .Name "Outline" p2] [] pos)) σ H (Pd X.K (.bool false)) :=
  ev_callB call_isi T.f_isinstance bt_isi (ea_two stb_dr (fun _ _ _ _ _ _ h => h) h (ev_outN T hgx) he) (fun ws H1 H2 g1 g2 ⟨v, w, e1, ⟨a, ev, kvs, hr, _⟩, ew⟩ Q q => by
    subst e1
    subst ev
    obtain rfl : w = .ref (oC X.K) := ew
    refine ⟨_, _, .type "dict", .ref (oC X.K), false, rfl, ClsV.own _, ?_, T.kit2, q _ _ g2.r (.bl _)⟩
    rcases hr with hr | ⟨o, hr⟩
    · exact .base (.dK hr)
    · exact .fDict hr) hg (by decide) (by decide) he
/-- isinstance(d, dict) -/
theorem ev_isDD {β : Type} {f : β → PyData} {m : List (Str × β)} (hm : X.mg "isinstance" = none) (hx : X.mg "dict" = none) (h : Ev M (wE X e) σ H (PDR X.K f m)) {p2 : Pos} (hg : Gl X "isinstance" := by rfl) (hgx : Gl X "dict" := by rfl) (he : starEach [e, .Name "dict" p2] X.env = (false, eval e X.env) :: starEach [.Name "dict" p2] X.env := by rfl) : Ev M (wE X (.Call (.Name "isinstance" p) [e, .Name "dict" p2] [] pos)) σ H (Pd X.K (.bool true)) :=
  ev_callB call_isi hm bt_isi (ea_two stb_dr (fun _ _ _ _ _ _ h => h) h (ev_tyn hx bt_dict hgx (by decide) (by decide)) he) (fun ws H1 H2 g1 g2 ⟨v, w, e1, ⟨a, ev, kvs, hr, _⟩, ew⟩ Q q => by
    subst e1
    subst ev
    obtain rfl := ew
    refine ⟨_, _, .type "dict", _, true, rfl, ClsV.ty "dict", ?_, kit_ty ki_dd, q _ _ g2.r (.bl _)⟩
    rcases hr with hr | ⟨o, hr⟩
    · exact .base (.dK hr)
    · exact .fDict hr) hg (by decide) (by decide) he
end
end SR
set_option Elab.async false
set_option linter.all false
set_option maxRecDepth 100000
set_option maxHeartbeats 4000000
/-! Outline: the operators of its own -/
namespace SR
open PySem PySem.Spec PyProof.Rows L2
abbrev tpl : List PyData → PyData := PyData.tuple
def spEq (K : PySem.W.Frag) : Sp := fun vs H Q _ =>
  (∃ (p : OA) (o : Ou) (a : Addr) (m : Tr), vs = [.ref p.a, .ref a] ∧ OuAt K H p o ∧ DR K tpl H a m ∧ ∀ H', Gr M0 H H' → Q (.bl false) H') ∨
  ∃ (p q : OA) (o o' : Ou) (r : Bool), vs = [.ref p.a, .ref q.a] ∧ OuAt K H p o ∧ OuAt K H q o' ∧ OuGd o ∧ OuGd o' ∧ ouSame o o' r ∧ ∀ H', Gr M0 H H' → Q (.bl r) H'
/-- the tuple of an outline's own -/
def POwn (K : PySem.W.Frag) (p : OA) (o : Ou) : PV := fun v _ H2 => ∃ t, v = .ref t ∧ H2 t = some (.tup [p.vg, .ref p.de, .ref p.dg, .ref p.da]) ∧ OuAt K H2 p o
section
variable {M : Addr → Prop} {X : Cx} {σ : L2.St} {H : Hp} {e e1 e2 e3 e4 : Expr} {pos p1 p2 p3 p4 : Pos} {p q : OA} {o o' : Ou} {r : Bool} {x : Str} {j : Nat} {k : Nat}
theorem ev_own (T : Txt X.w X.K X.mg) (h : OuAt X.K H p o) (h1 : Ev M (wE X e1) σ H (Pv (.ref p.a))) (h2 : Ev M (wE X e2) σ H (Pv (.ref p.a))) (h3 : Ev M (wE X e3) σ H (Pv (.ref p.a))) (h4 : Ev M (wE X e4) σ H (Pv (.ref p.a)))
    (hb1 : attributeBase e1 "own_ground" X.env (eval e1 X.env) = eval e1 X.env := by rfl) (hb2 : attributeBase e2 "own_entries" X.env (eval e2 X.env) = eval e2 X.env := by rfl) (hb3 : attributeBase e3 "own_gone" X.env (eval e3 X.env) = eval e3 X.env := by rfl) (hb4 : attributeBase e4 "own_asks" X.env (eval e4 X.env) = eval e4 X.env := by rfl)
    (s1 : starEach [.Attribute e1 "own_ground" p1, .Attribute e2 "own_entries" p2, .Attribute e3 "own_gone" p3, .Attribute e4 "own_asks" p4] X.env = (false, eval (.Attribute e1 "own_ground" p1) X.env) :: starEach [.Attribute e2 "own_entries" p2, .Attribute e3 "own_gone" p3, .Attribute e4 "own_asks" p4] X.env := by rfl)
    (s2 : starEach [.Attribute e2 "own_entries" p2, .Attribute e3 "own_gone" p3, .Attribute e4 "own_asks" p4] X.env = (false, eval (.Attribute e2 "own_entries" p2) X.env) :: starEach [.Attribute e3 "own_gone" p3, .Attribute e4 "own_asks" p4] X.env := by rfl)
    (s3 : starEach [.Attribute e3 "own_gone" p3, .Attribute e4 "own_asks" p4] X.env = (false, eval (.Attribute e3 "own_gone" p3) X.env) :: starEach [.Attribute e4 "own_asks" p4] X.env := by rfl) (s4 : starEach [.Attribute e4 "own_asks" p4] X.env = (false, eval (.Attribute e4 "own_asks" p4) X.env) :: starEach [] X.env := by rfl) :
    Ev M (wE X (.Tuple [.Attribute e1 "own_ground" p1, .Attribute e2 "own_entries" p2, .Attribute e3 "own_gone" p3, .Attribute e4 "own_asks" p4] k pos)) σ H (POwn X.K p o) :=
  (ev_tupG (Ps := [Pv p.vg, Pv (.ref p.de), Pv (.ref p.dg), Pv (.ref p.da)]) (eg_cons stb_v (fun P hP => by
      simp only [List.mem_cons, List.not_mem_nil, or_false] at hP
      rcases hP with rfl | rfl | rfl <;> exact stb_v) (ev_slot T sl_r h.sl rfl h1 hb1) (eg_cons stb_v (fun P hP => by
      simp only [List.mem_cons, List.not_mem_nil, or_false] at hP
      rcases hP with rfl | rfl <;> exact stb_v) (ev_slot T sl_e h.sl rfl h2 hb2) (eg_cons stb_v (fun P hP => by
      simp only [List.mem_cons, List.not_mem_nil, or_false] at hP
      subst hP
      exact stb_v) (ev_slot T sl_g h.sl rfl h3 hb3) (eg_cons stb_v (fun P hP => by cases hP) (ev_slot T sl_a h.sl rfl h4 hb4) eg_nil s4) s3) s2) s1) (by simp) (fun vs H1 H2 z => PvA_len z)).imp fun v H1 H2 g1 g2 pv => by
    obtain ⟨t, vs, Hm, rfl, ht, ht2, _, pa, _⟩ := pv
    obtain ⟨v1, _, rfl, z1, v2, _, rfl, z2, v3, _, rfl, z3, v4, _, rfl, z4, rfl⟩ := pa
    obtain rfl : v1 = p.vg := z1
    obtain rfl : v2 = .ref p.de := z2
    obtain rfl : v3 = .ref p.dg := z3
    obtain rfl : v4 = .ref p.da := z4
    exact ⟨t, rfl, ht2, h.g (g1.t g2)⟩
theorem stb_own : Stb M (POwn X.K p o) := fun _ _ _ _ _ _ _ g ⟨t, e, h, z⟩ => ⟨t, e, g.tu h, z.g g⟩
theorem cv_own (hu : X.A.units + 70 < cLine) (gd : OuGd o) (gd' : OuGd o') (same : ouSame o o' r) : Cv M X .Eq (POwn X.K p o) (POwn X.K q o') r := ⟨_, op_ouT hu, fun v u H1 H2 H3 g1 ⟨t, e1, h1, z1⟩ g2 ⟨t2, e2, h2, z2⟩ Q k => ⟨t, t2, p, q, o, o', r, e1, e2, g2.tu h1, h2, z1.g g2, z2, gd, gd', same, k⟩⟩
end
section
variable {P : Program} {w : World} {K : PySem.W.Frag} {mg : Str → Option Value} {base : Heap}
theorem hu70 {A : Around} {k : Nat} (hr : Room k A) : A.units + 70 < cLine := by have := hr.un; omega
theorem sc_eq : FnScope ["self", "other", "mine"] ["self", "other"] (defScope sm_eq) := ⟨rfl, rfl, rfl, by decide +kernel, rfl, by decide +kernel, by decide +kernel⟩
theorem ok_eq (T : Txt w K mg) : FnR P w K mg base CX0 1 (pA K "__eq__") (spEq K) := by
  refine raw_of (x := "__eq__") (met_ok T 12 rfl sc_eq (fun _ _ _ _ _ _ us hl => match us, hl with | [_, _], _ => rfl) (fun vs H Q E h => by
    rcases h with ⟨_, _, _, _, h, _⟩ | ⟨_, _, _, _, _, h, _⟩ <;> (rw [h]; rfl)) (fun f cdv A outer s H vs Q E hr h => ?_))
  have nd := sc_eq.nd
  rcases h with ⟨p, o, a, m, hv, ho, hd, hQ⟩ | ⟨p, q, o, o', r, hv, ho, ho', gd, gd', same, hQ⟩
  · subst hv
    refine bl_when (Gr.z H) (et_notT (ev_isOD T (ev_nmDR 1 hd))) (fun _ H1 g1 => ?_) (fun z => nt z)
    exact bl_ret g1.r (P := Pd K (.bool false)) ev_bl (fun v H2 g p => by
      obtain rfl := dv_bl p
      exact hQ H2 (g1.t g))
  · subst hv
    refine bl_when (Gr.z H) (et_notF (ev_isO T (ev_nmV 1) ho'.sl)) (fun z => nf z) (fun _ H1 g1 => ?_)
    have ho1 := ho.g g1
    refine bl_set (i := 2) g1.r (P := POwn K p o) ?_ (fun v H2 g2 pv => ?_) nd
    · exact ev_own T ho1 (ev_nmV 0) (ev_nmV 0) (ev_nmV 0) (ev_nmV 0)
    obtain ⟨t, rfl, ht, ho2⟩ := pv
    refine bl_ret g2.r (P := Pd K (.bool r)) (ev_cv (cv_own (hu70 hr) gd gd' same) ((ev_nmV 2).imp fun v H1 H2 g1 g2 e => ⟨t, e, (g1.t g2).tu ht, ho2.g (g1.t g2)⟩) (ev_own T ((ho'.g g1).g g2) (ev_nmV 1) (ev_nmV 1) (ev_nmV 1) (ev_nmV 1)) (nomark _)) (fun v H3 g p => by
      obtain rfl := dv_bl p
      exact hQ H3 ((g1.t g2).t g))
end
section
variable {M : Addr → Prop} {X : Cx} {σ : L2.St} {H : Hp} {a b e : Expr} {pos p1 p2 : Pos} {p q : OA} {o o' : Ou} {r : Bool} {j : Nat} {m : Tr}
theorem mem_eq : (("__eq__" : Str), ("Outline.__eq__" : Str), sm_eq) ∈ mdefs := by unfold mdefs; simp
theorem mem_len : (("__len__" : Str), ("Outline.__len__" : Str), sm_len) ∈ mdefs := by unfold mdefs; simp
/-- a comparison that runs a def -/
def CvG (M : Addr → Prop) (X : Cx) (op : CmpOp) (P1 P2 : PV) (d : Bool) : Prop := ∃ r : R2, OpR X (compareOp op) r ∧ ∀ x y H1 H2 H3, Gr M H1 H2 → P1 x H1 H2 → Gr M H2 H3 → P2 y H2 H3 → ∀ Q : VK, (∀ H4, Gr M H3 H4 → Q (.bl d) H4) → r x y H3 Q
theorem ev_cvG {op : CmpOp} {P1 P2 : PV} {d : Bool} (h : CvG M X op P1 P2 d) (h1 : Ev M (wE X a) σ H P1) (h2 : Ev M (wE X b) σ H P2) (hm : behindInMarks op b = false) : Ev M (wE X (.Compare a [op] [b] pos)) σ H (Pd X.K (.bool d)) := by
  obtain ⟨r, ho, hr⟩ := h
  exact fun H1 g Q q => of_pe (pe_cmpR ho e_pe e_pe hm) (h1 H1 g _ fun v H2 g2 p => h2 H2 (g.t g2) _ fun u H3 g3 p3 => hr _ _ _ _ _ g2 p g3 p3 _ fun H4 g4 => q _ _ ((g2.t g3).t g4) (.bl _))
theorem cv_oEq (T : Txt X.w X.K X.mg) (hr : Room j X.A) (hk : 1 ≤ j) (gd : OuGd o) (gd' : OuGd o') (same : ouSame o o' r) : CvG M X .Eq (PO X.K o) (PO X.K o') r := by
  have mt := T.meth mem_eq
  refine ⟨_, SlX.op_own (op := .Eq) (fun _ _ => rfl) mt.at_ mt.fn ((ok_eq (P := X.prog) (base := X.base) T).mono hk) hr (E := E0) pass0, fun v u H1 H2 H3 g1 ⟨p, e1, h1⟩ g2 ⟨q, e2, h2⟩ Q k => ?_⟩
  subst e1
  subst e2
  exact ⟨p.a, p.dx, p.vs, q.a, oC X.K, q.dx, q.vs, rfl, rfl, (h1.g g2).sl.slt, h2.sl.slt, T.nf, .inr ⟨p, q, o, o', r, rfl, h1.g g2, h2, gd, gd', same, fun H4 g4 => k H4 (g4.up g2.b)⟩⟩
/-- the slot of !=, what stands behind it -/
theorem op_own_ne (T : Txt X.w X.K X.mg) (hr : Room j X.A) (hk : 2 ≤ j) : OpR X (compareOp .NotEq) (fun x y H Q => ∃ (p : OA) (o : Ou) (tb : Value) (v2 : V), x = .ref p.a ∧ y = v2 ∧ OuAt X.K H p o ∧ (∀ (pins : List (Addr × Obj)) (s : Shared) (σ : L2.St) (u : Value), Inv X pins σ H s → RelV v2 u → PySem.W.Looks (model X.prog X.w) s.heap (typeOf u) tb) ∧ PySem.W.notFirst X.K (oC X.K) tb = true ∧ spEq X.K [x, y] H (fun v H' => ∃ c, v = .bl c ∧ Q (.bl (!c)) H') E0) := by
  intro pins s σ H x y v u Q I rx ry z
  obtain ⟨p, o, tb, v2, rfl, rfl, ho, hb, hn, hq⟩ := z
  cases rx
  have mt := T.meth mem_eq
  obtain ⟨sl, od, _, J, _⟩ := SlX.slt_inst I ho.sl.slt
  have hr1 : Room j X.A.in1 → True := fun _ => trivial
  have roomy : Room 1 X.A.in1 := (hr.mono hk).in1
  refine own_ne (by have := hr.un; omega) I.kIn J (hb pins s σ u I ry) hn T.isi.cm T.ne mt.at_ mt.fn (wpAny_mono (wpAny_call (SlX.run_at (ws := [.ref p.a, y]) (ok_eq (P := X.prog) (base := X.base) T) roomy I.env0.in1 (E := E0) pass0 I (.cons rfl (.cons ry .nil)) hq)) (fun w s' ⟨z', H', I', rz, c, ez, qz⟩ => ?_) fun _ _ e => e)
  subst ez
  exact ⟨c, rz, .bl (!c), H', I', rfl, qz⟩
theorem nf_dict {K : PySem.W.Frag} {C : Addr} : PySem.W.notFirst K C (.type "dict") = true := by
  have e : fastBuiltinMro "dict" = some [.type "dict", .type "object"] := by decide +kernel
  have e2 : PySem.W.subIn K (.type "dict") (.ref C) = some false := by
    show (fastBuiltinMro "dict").map (·.contains (.ref C)) = some false
    rw [e]
    first
      | rfl
      | simp
  unfold PySem.W.notFirst
  rw [e2]
  simp
/-- an outline beside a tree, != -/
theorem cv_oNeD (T : Txt X.w X.K X.mg) (hr : Room j X.A) (hk : 2 ≤ j) : CvG M X .NotEq (PO X.K o) (PDR X.K tpl m) true := by
  refine ⟨_, op_own_ne T hr hk, fun v u H1 H2 H3 g1 ⟨p, e1, h1⟩ g2 ⟨a, e2, h2⟩ Q k => ?_⟩
  subst e1
  subst e2
  have ho := h1.g g2
  refine ⟨p, o, .type "dict", _, rfl, rfl, ho, fun pins s σ u I r => ?_, nf_dict, .inl ⟨p, o, a, m, rfl, ho, h2, fun H4 g4 => ⟨false, rfl, k H4 (g4.up g2.b)⟩⟩⟩
  cases r
  obtain ⟨kvs, hr2, _⟩ := h2
  obtain ⟨ob, e3, e4⟩ := (isD_at I (.inl ⟨kvs, hr2⟩)).1
  exact (PySem.W.Looks.ld e3).andThen (by rw [e4]; exact .now)
/-- two outlines, != -/
theorem cv_oNe (T : Txt X.w X.K X.mg) (hr : Room j X.A) (hk : 2 ≤ j) (gd : OuGd o) (gd' : OuGd o') (same : ouSame o o' r) : CvG M X .NotEq (PO X.K o) (PO X.K o') (!r) := by
  refine ⟨_, op_own_ne T hr hk, fun v u H1 H2 H3 g1 ⟨p, e1, h1⟩ g2 ⟨q, e2, h2⟩ Q k => ?_⟩
  subst e1
  subst e2
  refine ⟨p, o, .ref (oC X.K), _, rfl, rfl, h1.g g2, fun pins s σ u I r => ?_, T.nf, .inr ⟨p, q, o, o', r, rfl, h1.g g2, h2, gd, gd', same, fun H4 g4 => ⟨r, rfl, k H4 (g4.up g2.b)⟩⟩⟩
  cases r
  obtain ⟨sl, od, _, J, _⟩ := SlX.slt_inst I h2.sl.slt
  exact J.type
/-- len(e) of an outline -/
theorem ev_lenO (T : Txt X.w X.K X.mg) (hr : Room j X.A) (hk : 2 ≤ j) (hl : o.en.length < 100000) (h : Ev M (wE X e) σ H (PO X.K o)) (hg : Gl X "len" := by rfl) (he : starEach [e] X.env = (false, eval e X.env) :: starEach [] X.env := by rfl) : Ev M (wE X (.Call (.Name "len" p1) [e] [] pos)) σ H (Pd X.K (.int o.en.length)) := by
  have cl : CallR X (.builtin "len") (fun xs H Q => ∃ (p : OA), xs = [.ref p.a] ∧ OuAt X.K H p o ∧ ∀ H', Gr M0 H H' → Q (.int (o.en.length : Int)) H') := by
    intro pins s σ H xs us Q I r z
    obtain ⟨p, rfl, ho, hq⟩ := z
    obtain ⟨u, rfl, ru⟩ := r.one
    cases ru
    have mt := T.meth mem_len
    obtain ⟨sl, od, _, J, _⟩ := SlX.slt_inst I ho.sl.slt
    have roomy : Room 1 X.A.in1 := (hr.mono hk).in1
    refine own_len I.kIn J mt.at_ mt.fn (wpAny_mono (wpAny_call (SlX.run_at (ws := [.ref p.a]) (Q := fun v H' => v = .int (o.en.length : Int) ∧ Gr M0 H H') (ok_len (P := X.prog) (base := X.base) T) roomy I.env0.in1 (E := E0) pass0 I (.cons rfl .nil) ⟨p, o, rfl, ho, fun H' g => ⟨rfl, g⟩⟩)) (fun w s' ⟨z', H', I', rz, ez, g⟩ => ?_) fun _ _ e => e)
    subst ez
    obtain ⟨t, rfl⟩ := rz
    exact ⟨_, t, rfl, by omega, by omega, fun t tk => ⟨.int (o.en.length : Int), H', I'.tok tk, ⟨t, rfl⟩, hq H' g⟩⟩
  exact ev_callB cl T.f_len bt_len (ea_of h he) (fun vs H1 H2 g1 g2 ⟨v, e1, p, ev, ho⟩ Q q => by
    subst e1
    subst ev
    exact ⟨p, rfl, ho, fun H3 g3 => q _ _ (g3.up g2.b) (.int _)⟩) hg (by decide) (by decide) he
end
end SR
set_option Elab.async false
set_option linter.all false
set_option maxRecDepth 100000
set_option maxHeartbeats 4000000
/-! trees and cells, checked and read -/
namespace SR
open PySem PySem.Spec PyProof.Rows L2
def CsOk (cs : List PyData) : Prop := ∃ ns : List Int, cs = ns.map PyData.int ∧ ∀ c ∈ ns, 0 ≤ c ∧ c ≤ 996
structure TreeOk (t : Tr) : Prop where
  len : t.length ≤ 1000
  ok : ∀ q ∈ t, nmOk q.1 ∧ CsOk q.2 ∧ q.2.length ≤ 996
abbrev Cl := List (Sv × List PyData)
structure ClOk (c : Cl) : Prop where
  len : c.length ≤ 1000
  ok : ∀ q ∈ c, saveOk q.1 ∧ CsOk q.2 ∧ q.2.length ≤ 50000
section
variable {P : Program} {w : World} {K : PySem.W.Frag} {mg : Str → Option Value} {base : Heap}
def spTree (K : PySem.W.Frag) (r : V) : Sp := fun vs H Q _ => ∃ (a : Addr) (t : Tr), vs = [.ref a] ∧ DW K tpl H a t ∧ TreeOk t ∧ ∀ H', Gr M0 H H' → Q r H'
theorem sc_is_tree : FnScope ["value", "name", "cells"] ["value"] (defScope st_is_tree) := ⟨rfl, rfl, rfl, by decide +kernel, rfl, by decide +kernel, by decide +kernel⟩
theorem ev_isc {M : Addr → Prop} {X : Cx} {σ : L2.St} {H : Hp} {e : Expr} {pos p : Pos} {cs : List PyData} {j : Nat} (T : Txt X.w X.K X.mg) (hr : Room j X.A) (hk : 4 ≤ j) (hc : CsOk cs) (hl : cs.length ≤ 100000) (h : Ev M (wE X e) σ H (Pd X.K (.tuple cs))) (hg : Gl X "is_cells" := by rfl)
    (he : starEach [e] X.env = (false, eval e X.env) :: starEach [] X.env := by rfl) (hpl : (backTo pos (starEach [] X.env)).any (·.1) = false := by rfl) : Ev M (wE X (.Call (.Name "is_cells" p) [e] [] pos)) σ H (Pd X.K (.bool true)) := by
  obtain ⟨ns, rfl, hb⟩ := hc
  exact ev_callD (res := fun _ => .bool true) (ok_is_cells T) hr hk ns ⟨by simpa using hl, hb⟩ (ea_cons h ea_nil he) hg (by decide) he hpl
theorem ok_is_tree (T : Txt w K mg) : C8.Cal P w K mg base 5 "is_tree" (spTree K (.bl true)) [] := by
  refine fn_ok T 5 rfl sc_is_tree (fun _ _ _ _ _ _ us hl => match us, hl with | [_], _ => rfl) (fun vs H Q E ⟨_, _, h, _⟩ => by rw [h]; rfl) (fun f cdv A outer s H vs Q E hr ⟨a, t, hv, hd, ht, hQ⟩ => ?_)
  subst hv
  have nd := sc_is_tree.nd
  have names : ∀ H1, Gr M0 H H1 → DW K tpl H1 a t := fun H1 g => hd.g g
  refine bl_when (Gr.z H) (et_w (ew_orF (et_notF (ev_isDD T.f_isinstance T.f_dict (ev_nmDR 0 hd.r))) (ew_or1 (et_notF (Ev.is (ev_all (bs := (t.map fun q => PyData.str q.1).map fun _ => true) rfl T.f_all (Ev.ld ?_)) (by rw [all_t])))))) (fun z => nf z) (fun _ H1 g1 => ?_)
  · rw [← all_true]
    obtain ⟨kvs, ha, hk⟩ := hd
    refine ev_lock ul_l ha fun od => ?_
    refine ev_lcF (own := [("name", 1)]) (gt := gName 1) (fun _ => .bool true) rfl nd (blkOk_by (sc := defScope st_is_tree) (N := ["value", "name", "cells"]) (by decide +kernel)) (ei_keys (ev_nmV 0) lk_same (hk.lk ha)) (by have := ht.len; simp; omega) (fun _ _ _ _ _ => pg_name nd rfl (Or.inl rfl)) (fun i d x H2 e g hx Q q => gt_name (q _ rfl fun s H0 C cl fp => ?_))
    rw [List.getElem?_map] at e
    obtain ⟨z, hz, rfl⟩ := Option.map_eq_some_iff.mp e
    exact ev_callD (ok_is_name T) hr (by decide) z.1 (ht.ok z (List.mem_of_getElem? hz)).1 (ea_cons (ev_nm 1 hx) ea_nil)
  · obtain ⟨kvs, ha, hk⟩ := hd.g g1
    refine bl_ret g1.r (P := Pd K (.bool true)) (Ev.is (ev_all (bs := (t.map fun q => tpl q.2).map fun _ => true) rfl T.f_all (Ev.ld ?_)) (by rw [all_t])) (fun v H2 g p => by
      obtain rfl := dv_bl p
      exact hQ H2 (g1.t g))
    rw [← all_true]
    refine ev_lock ul_l ha fun od => ?_
    refine ev_lcF (own := [("cells", 2)]) (gt := gName 2) (fun _ => .bool true) rfl nd (blkOk_by (sc := defScope st_is_tree) (N := ["value", "name", "cells"]) (by decide +kernel)) (ei_vals (ev_nmV 0) lk_same (hk.lk ha)) (by have := ht.len; simp; omega) (fun _ _ _ _ _ => pg_name nd rfl (Or.inl rfl)) (fun i d x H2 e g hx Q q => gt_name (q _ rfl fun s H0 C cl fp => ?_))
    rw [List.getElem?_map] at e
    obtain ⟨z, hz, rfl⟩ := Option.map_eq_some_iff.mp e
    obtain ⟨_, z2, z3⟩ := ht.ok z (List.mem_of_getElem? hz)
    exact ev_andT (ev_isc T hr (by decide) z2 (by omega) (ev_nm 2 hx)) (ev_one (Ev.is (ev_le (ev_lenT T.f_len (ev_nm 2 hx)) (ev_gi T.c_MOST_LENGTH)) (by rw [decide_eq_true (by omega)])))
theorem ev_isTree {M : Addr → Prop} {X : Cx} {σ : L2.St} {H : Hp} {e : Expr} {pos p : Pos} {t : Tr} {a : Addr} {j : Nat} (T : Txt X.w X.K X.mg) (hr : Room j X.A) (hk : 5 ≤ j) (ht : TreeOk t) (hd : DW X.K tpl H a t) (h : Ev M (wE X e) σ H (Pv (.ref a))) (hg : Gl X "is_tree" := by rfl)
    (he : starEach [e] X.env = (false, eval e X.env) :: starEach [] X.env := by rfl) (hpl : (backTo pos (starEach [] X.env)).any (·.1) = false := by rfl) : Ev M (wE X (.Call (.Name "is_tree" p) [e] [] pos)) σ H (Pd X.K (.bool true)) :=
  ev_call (ok_is_tree T) hr hk (ea_of h he) (fun vs H1 H2 g1 g2 ⟨v, e1, e2⟩ Q q => by
    subst e1
    obtain rfl : v = .ref a := e2
    exact ⟨a, t, rfl, hd.g (g1.t g2), ht, fun H3 g3 => q _ _ (g3.up g2.b) (.bl _)⟩) hg (by decide) he hpl
theorem sc_require_tree : FnScope ["value"] ["value"] (defScope st_require_tree) := ⟨rfl, rfl, rfl, by decide +kernel, rfl, by decide +kernel, by decide +kernel⟩
theorem ok_require_tree (T : Txt w K mg) : C8.Cal P w K mg base 6 "require_tree" (spTree K .non) [] := by
  refine fn_ok T 6 rfl sc_require_tree (fun _ _ _ _ _ _ us hl => match us, hl with | [_], _ => rfl) (fun vs H Q E ⟨_, _, h, _⟩ => by rw [h]; rfl) (fun f cdv A outer s H vs Q E hr ⟨a, t, hv, hd, ht, hQ⟩ => ?_)
  subst hv
  exact bl_when (Gr.z H) (et_notF (ev_isTree T hr (by decide) ht hd (ev_nmV 0))) (fun z => nf z) (fun _ H1 g1 => bl_nil (hQ _ g1))
theorem ev_reqTree {M : Addr → Prop} {X : Cx} {σ : L2.St} {H : Hp} {e : Expr} {pos p : Pos} {t : Tr} {a : Addr} {j : Nat} (T : Txt X.w X.K X.mg) (hr : Room j X.A) (hk : 6 ≤ j) (ht : TreeOk t) (hd : DW X.K tpl H a t) (h : Ev M (wE X e) σ H (Pv (.ref a))) (hg : Gl X "require_tree" := by rfl)
    (he : starEach [e] X.env = (false, eval e X.env) :: starEach [] X.env := by rfl) (hpl : (backTo pos (starEach [] X.env)).any (·.1) = false := by rfl) : Ev M (wE X (.Call (.Name "require_tree" p) [e] [] pos)) σ H (Pv .non) :=
  ev_call (ok_require_tree T) hr hk (ea_of h he) (fun vs H1 H2 g1 g2 ⟨v, e1, e2⟩ Q q => by
    subst e1
    obtain rfl : v = .ref a := e2
    exact ⟨a, t, rfl, hd.g (g1.t g2), ht, fun H3 g3 => q _ _ (g3.up g2.b) rfl⟩) hg (by decide) he hpl
/-! cells by save -/
def spCells (K : PySem.W.Frag) : Sp := fun vs H Q _ => ∃ (a : Addr) (c : Cl), vs = [.ref a] ∧ TW K tpl H a c ∧ ClOk c ∧ ∀ H', Gr M0 H H' → Q .non H'
theorem ev_isT {M : Addr → Prop} {X : Cx} {σ : L2.St} {H : Hp} {e : Expr} {pos p : Pos} {a : Addr} {c : Cl} (hm : X.mg "isinstance" = none) (hx : X.mg "dict" = none) (hw : TW X.K tpl H a c) (h : Ev M (wE X e) σ H (Pv (.ref a))) {p2 : Pos} (hg : Gl X "isinstance" := by rfl) (hgx : Gl X "dict" := by rfl) (he : starEach [e, .Name "dict" p2] X.env = (false, eval e X.env) :: starEach [.Name "dict" p2] X.env := by rfl) : Ev M (wE X (.Call (.Name "isinstance" p) [e, .Name "dict" p2] [] pos)) σ H (Pd X.K (.bool true)) :=
  ev_callB call_isi hm bt_isi (ea_two stb_v (fun _ _ _ _ _ _ h => h) h (ev_tyn hx bt_dict hgx (by decide) (by decide)) he) (fun ws H1 H2 g1 g2 ⟨v, w, e1, ev, ew⟩ Q q => by
    subst e1
    obtain rfl : v = .ref a := ev
    obtain rfl := ew
    obtain ⟨kvs, h2, _⟩ := hw.g (g1.t g2)
    exact ⟨_, _, .type "dict", _, true, rfl, ClsV.ty "dict", .base (.dT h2), kit_ty ki_dd, q _ _ g2.r (.bl _)⟩) hg (by decide) (by decide) he
theorem sc_rsc : FnScope ["value", "save", "cells"] ["value"] (defScope st_require_save_cells) := ⟨rfl, rfl, rfl, by decide +kernel, rfl, by decide +kernel, by decide +kernel⟩
theorem ok_require_save_cells (T : Txt w K mg) : C8.Cal P w K mg base 5 "require_save_cells" (spCells K) [] := by
  refine fn_ok T 26 rfl sc_rsc (fun _ _ _ _ _ _ us hl => match us, hl with | [_], _ => rfl) (fun vs H Q E ⟨_, _, h, _⟩ => by rw [h]; rfl) (fun f cdv A outer s H vs Q E hr ⟨a, c, hv, hd, hc, hQ⟩ => ?_)
  subst hv
  have nd := sc_rsc.nd
  refine bl_when (Gr.z H) (et_w (ew_orF (et_notF (ev_isT T.f_isinstance T.f_dict hd (ev_nmV 0))) (ew_or1 (et_notF (Ev.is (ev_all (bs := (c.map fun q => saveD q.1).map fun _ => true) rfl T.f_all (Ev.ld ?_)) (by rw [all_t])))))) (fun z => nf z) (fun _ H1 g1 => ?_)
  · rw [← all_true]
    obtain ⟨kvs, ha, hk⟩ := hd
    refine ev_lockG (u := .dT kvs) trivial (fun _ z => nomatch z) ha fun od => ?_
    refine ev_lcF (own := [("save", 1)]) (gt := gName 1) (fun _ => .bool true) rfl nd (blkOk_by (sc := defScope st_require_save_cells) (N := ["value", "save", "cells"]) (by decide +kernel)) (ei_tkeys (ev_nmV 0) upd_same (hk.imp fun _ _ z => dv_frz z ha fun _ z => nomatch z)) (by have := hc.len; simp; omega) (fun _ _ _ _ _ => pg_name nd rfl (Or.inl rfl)) (fun i d x H2 e g hx Q q => gt_name (q _ rfl fun s H0 C cl fp => ?_))
    rw [List.getElem?_map] at e
    obtain ⟨z, hz, rfl⟩ := Option.map_eq_some_iff.mp e
    exact ev_callD (ok_is_save_name T) hr (by decide) z.1 (hc.ok z (List.mem_of_getElem? hz)).1 (ea_cons (ev_nm 1 hx) ea_nil)
  · obtain ⟨kvs, ha, hk⟩ := hd.g g1
    refine bl_when g1.r (et_notF (Ev.is (ev_all (bs := (c.map fun q => tpl q.2).map fun _ => true) rfl T.f_all (Ev.ld ?_)) (by rw [all_t]))) (fun z => nf z) (fun _ H2 g2 => bl_nil (hQ H2 (g1.t g2)))
    rw [← all_true]
    refine ev_lockG (u := .dT kvs) trivial (fun _ z => nomatch z) ha fun od => ?_
    refine ev_lcF (own := [("cells", 2)]) (gt := gName 2) (fun _ => .bool true) rfl nd (blkOk_by (sc := defScope st_require_save_cells) (N := ["value", "save", "cells"]) (by decide +kernel)) (ei_tvals (ev_nmV 0) upd_same (hk.imp fun _ _ z => dv_frz z ha fun _ z => nomatch z)) (by have := hc.len; simp; omega) (fun _ _ _ _ _ => pg_name nd rfl (Or.inl rfl)) (fun i d x H2 e g hx Q q => gt_name (q _ rfl fun s H0 C cl fp => ?_))
    rw [List.getElem?_map] at e
    obtain ⟨z, hz, rfl⟩ := Option.map_eq_some_iff.mp e
    obtain ⟨_, z2, z3⟩ := hc.ok z (List.mem_of_getElem? hz)
    exact ev_isc T hr (by decide) z2 (by omega) (ev_nm 2 hx)
end
end SR
set_option Elab.async false
set_option linter.all false
set_option maxRecDepth 100000
set_option maxHeartbeats 4000000
/-! rows filled with cells; what is wanted -/
namespace SR
open PySem PySem.Spec PyProof.Rows L2
def heldF (t : Tr) (c : Cl) : So → List PyData
  | .new s => (trGet c s).getD []
  | .below n => (trGet t n).getD []
def cutF (t : Tr) (c : Cl) (p : Pc) : List PyData := ((heldF t c p.so).take (p.a + p.n)).drop p.a
def fillF (r : List Pc) (t : Tr) (c : Cl) : List PyData := (r.map (cutF t c)).flatten
def hasF (t : Tr) (c : Cl) : So → Prop
  | .new s => ∃ x, trGet c s = some x
  | .below n => ∃ x, trGet t n = some x
structure FillOk (r : List Pc) (t : Tr) (c : Cl) : Prop where
  has : ∀ p ∈ r, hasF t c p.so
  len : (fillF r t c).length ≤ 50000
section
variable {M : Addr → Prop} {X : Cx} {σ : L2.St} {H : Hp} {a b e tg iter : Expr} {rest body : List Stmt} {pos p : Pos} {P : PV} {D : Ends} {ds : List PyData}
/-- x.extend(a tuple) -/
theorem bl_extT {i : Nat} {x : Str} {l : Addr} {vs : List V} {p0 p1 p2 : Pos} (g : Gr M H H) (hs0 : σ[i]? = some (some (.ref l))) (hl : H l = some (.lst vs)) (hm : ¬ M l) (hz : vs.length + ds.length ≤ 100000) (h : Ev M (wE X e) σ H (Pd X.K (.tuple ds))) (k : ∀ us H1, Gr M H H1 → DvA X.K H1 us ds → H1 l = some (.lst vs) → wB X rest D σ (upd H1 l (.lst (vs ++ us))))
    (hN : X.N[i]? = some x := by rfl) (hv : Vis X.env.scope x := by first | exact Or.inl rfl | exact Or.inr (Or.inl rfl) | exact Or.inr (Or.inr rfl)) (hd : (x == ("__debug__" : Str)) = false := by decide) (hcd : (x == ("__classdict__" : Str)) = false := by decide)
    (hbase : attributeBase (.Name x p0) "extend" X.env (eval (.Name x p0) X.env) = eval (.Name x p0) X.env := by rfl)
    (hfew : ((backTo p2 (starEach [e] X.env)).all (fun x => !x.1) && (backToKw p2 (keywordEach [] X.env)).all (fun x => x.1.isSome) && decide ([e].length + ([] : List Keyword).length + (if ([] : List Keyword).isEmpty then 0 else 1) < 30)) = true := by rfl)
    (hline : (p1.endLine == p2.line) = true := by rfl) (hs : starEach [e] X.env = (false, eval e X.env) :: starEach [] X.env := by rfl) (hplain : (backTo p2 (starEach [] X.env)).any (·.1) = false := by rfl) (hsw : swapsWith (.Call (.Attribute (.Name x p0) "extend" p1) [e] [] p2) none pos.line X.env = pure false := by rfl) :
    wB X (.Expr (.Call (.Attribute (.Name x p0) "extend" p1) [e] [] p2) pos :: rest) D σ H :=
  of_pss (pss_cons (ps_expr (pe_bm PySem.F.plainAttrs_list PySem.F.slot_list_extend PySem.F.type_list_extend mt_extT (pe_var hN hv hd hcd) (pa_cons e_pe pa_nil hs) hbase hfew hline hs hplain) hsw) e_pss)
    ⟨_, hs0, ty_lst hl, h H g _ fun v H1 g1 p1 => by
      obtain ⟨t, us, rfl, ht, hz2⟩ := dv_tu p1
      have h1 := g1.k l _ hm hl
      exact ⟨l, t, vs, us, rfl, rfl, h1, ht, sz_of (by rw [hz2.length]; exact hz), k us H1 g1 hz2 h1⟩⟩
/-- a walk over data by a for -/
theorem bl_forI {gt : TG} (g : Gr M H H) (hx : X.xe = fun _ _ => False) (hc : X.calm = true) (pg : PG X tg gt) (hi : EvI M X.K (wI X tg iter) σ H ds)
    (k : ∀ H1, Gr M H H1 → ∃ J : Nat → L2.St → Hp → Prop, J 0 σ H1 ∧ (∀ i σ' H', J i σ' H' → Gr M H1 H') ∧
      (∀ i d x σ' H0 H', ds[i]? = some d → J i σ' H0 → Gr M H0 H' → Dv X.K H' x d → gt x σ' H' fun σ2 H2 => wB X body { D with nx := J (i + 1), ct := J (i + 1), bk := wB X rest D } σ2 H2) ∧ ∀ σ' H', J ds.length σ' H' → wB X rest D σ' H')
    (hs : ∀ x, foldedSetIterable iter X.env x = pure x := by exact fun _ => rfl) : wB X (.For tg iter body [] pos :: rest) D σ H :=
  of_pss (pss_cons (ps_for (by rw [hx]; exact PassesOwn.never) hc e_pi pg e_pss hs) e_pss) (hi H g _ fun J H2 g2 ⟨G, Y, w, hG, hst, hy⟩ => by
    obtain ⟨I, h0, hgr, hstep, hdone⟩ := k H2 g2
    refine for_it w I h0 (fun i σ' H' _ p => hst H' (hgr i σ' H' p)) (fun i x σ' Ha Hb hi p y => ?_) hdone
    obtain ⟨g4, d, ed, hd⟩ := hy i Ha x Hb (hgr i σ' Ha p) y hi
    exact hstep i d x σ' Ha Hb ed p g4 hd)
end
section
variable {P : Program} {w : World} {K : PySem.W.Frag} {mg : Str → Option Value} {base : Heap}
def spRow (K : PySem.W.Frag) : Sp := fun vs H Q _ => ∃ (v : V) (a b : Addr) (r : List Pc) (t : Tr) (c : Cl), vs = [v, .ref a, .ref b] ∧ Dv K H v (rowD r) ∧ DR K tpl H a t ∧ TR K tpl H b c ∧ FillOk r t c ∧ ∀ u H', Gr M0 H H' → Dv K H' u (.tuple (fillF r t c)) → Q u H'
theorem sc_cor : FnScope ["row", "tree", "cells", "found", "source", "first", "many", "held"] ["row", "tree", "cells"] (defScope st_cells_of_row) := ⟨rfl, rfl, rfl, by decide +kernel, rfl, by decide +kernel, by decide +kernel⟩
theorem fill_snoc {r : List Pc} {t : Tr} {c : Cl} {i : Nat} {p : Pc} (h : r[i]? = some p) : fillF (r.take (i + 1)) t c = fillF (r.take i) t c ++ cutF t c p := by
  rw [take_snoc h]
  simp [fillF]
theorem fill_le {r : List Pc} {t : Tr} {c : Cl} (i : Nat) : (fillF (r.take i) t c).length ≤ (fillF r t c).length := by
  conv => rhs; rw [← List.take_append_drop i r]
  unfold fillF
  rw [List.map_append, List.flatten_append, List.length_append]
  omega
theorem ok_cells_of_row (T : Txt w K mg) : C8.Cal P w K mg base 1 "cells_of_row" (spRow K) [] := by
  refine fn_ok T 25 rfl sc_cor (fun _ _ _ _ _ _ us hl => match us, hl with | [_, _, _], _ => rfl) (fun vs H Q E ⟨_, _, _, _, _, _, h, _⟩ => by rw [h]; rfl) (fun f cdv A outer s H vs Q E hr ⟨v, a, b, r, t, c, hv, hd, ht, hc, fo, hQ⟩ => ?_)
  subst hv
  have nd := sc_cor.nd
  refine bl_set (i := 3) (Gr.z H) (ev_lst ea_nil (by simp)) (fun u H1 g1 ⟨l, us, ev, hl0, hl, hz⟩ => ?_) nd
  subst ev
  cases hz
  obtain ⟨ra, xs, rfl, hs, ha⟩ := dv_tup hd
  refine bl_forT (gt := gTup K 3 (gCons (gName 4) (gCons (gName 5) (gCons (gName 6) gNil)))) g1.r rfl rfl (pg_tup rfl (pgs_cons (pg_name nd rfl (Or.inl rfl)) (pgs_cons (pg_name nd rfl (Or.inl rfl)) (pgs_cons (pg_name nd rfl (Or.inl rfl)) pgs_nil)))) (ev_nmV 0) (fun v H2 g2 e => ?_)
  obtain rfl := e
  refine ⟨ra, xs, rfl, fun i σ' H' => ∃ (o1 o2 o3 o4 : Option V) (us : List V), σ' = [some (.ref ra), some (.ref a), some (.ref b), some (.ref l), o1, o2, o3, o4] ∧ Gr M0 H H' ∧ H' l = some (.lst us) ∧ DvA K H' us (fillF (r.take i) t c),
    ⟨_, _, _, _, [], rfl, g1.t g2, g2.k l _ (fun z => z) hl, by simp [fillF]; exact .nil⟩, fun i σ' H' _ ⟨_, _, _, _, _, _, g3, _⟩ => g3.tup hs, ?_, ?_⟩
  · rintro i x σ' H' hx ⟨o1, o2, o3, o4, us, rfl, g3, hl3, hz3⟩
    obtain ⟨d, e, hd⟩ := ha.get' hx
    obtain ⟨p, hp1, rfl⟩ := row_at e
    have hp := fo.has p (List.mem_of_getElem? hp1)
    refine gt_3 (hd.g g3) fun v1 v2 v3 k1 k2 k3 => ?_
    obtain rfl := dv_int k2
    obtain rfl := dv_int k3
    have ht3 := ht.g g3
    have hc3 := hc.g g3
    refine bl_set (i := 7) g3.r (P := Pd K (.tuple (heldF t c p.so))) ?_ (fun hv H4 g4 ph => ?_) nd
    · cases hso : p.so with
      | new sv =>
        rw [hso] at k1 hp
        obtain ⟨y, hy⟩ := hp
        have eh : heldF t c (.new sv) = y := by show (trGet c sv).getD [] = y; rw [hy]; rfl
        rw [eh]
        exact ev_if (EvT.is (c := true) (et_eqS (ev_ix (ev_nm 4 k1) ev_int rfl) (ev_gs T.c_NEW)) rfl) (fun _ => ev_tget (f := tpl) (hu64 hr) (ev_nmTR 2 hc3) (ev_ix (ev_nm 4 k1) ev_int rfl) hy) (fun z => nf z)
      | below n =>
        rw [hso] at k1 hp
        obtain ⟨y, hy⟩ := hp
        have eh : heldF t c (.below n) = y := by show (trGet t n).getD [] = y; rw [hy]; rfl
        rw [eh]
        exact ev_if (EvT.is (c := false) (et_eqS (ev_ix (ev_nm 4 k1) ev_int rfl) (ev_gs T.c_NEW)) (by decide +kernel)) (fun z => nt z) (fun _ => ev_dget (f := tpl) (hu64 hr) (ev_nmDR 1 ht3) (ev_ix (ev_nm 4 k1) ev_int rfl) hy)
    · have hl4 : H4 l = some (.lst us) := g4.k l _ (fun z => z) hl3
      have z1 := fill_snoc (t := t) (c := c) hp1
      have z2 := fill_le (r := r) (t := t) (c := c) (i + 1)
      rw [z1, List.length_append] at z2
      have z3 := fo.len
      refine bl_extT (i := 3) (ds := cutF t c p) g4.r rfl hl4 (fun z => z) (by rw [hz3.length]; omega) (Ev.is (ev_sl (ev_nm 7 ph) (po_some e_pe) (po_some e_pe) (eo_some (ev_nm 5 (.int _))) (eo_some (ev_add (ev_nm 5 (.int _)) (ev_nm 6 (.int _))))) ?_) (fun ws H5 g5 hw hl5 => bl_nil ?_)
      · rw [show ((p.a : Int) + (p.n : Int)) = ((p.a + p.n : Nat) : Int) by omega]
        exact congrArg PyData.tuple (cut_mid _ _ _ (Nat.le_add_right _ _))
      · refine ⟨_, _, _, _, us ++ ws, rfl, ((g3.t g4).t g5).mut hl0, upd_same, ?_⟩
        rw [z1]
        exact ((hz3.g (g4.t g5)).app hw).st hl5
  · rintro σ' H' ⟨o1, o2, o3, o4, us, rfl, g3, hl3, hz3⟩
    have hxl : xs.length = r.length := by rw [ha.length, List.length_map]
    rw [hxl, List.take_length] at hz3
    exact bl_ret g3.r (P := Pd K (.tuple (fillF r t c))) (ev_tupL T.f_tuple (ev_nmL 3 hl3 (fun z => z) hz3)) (fun v H4 g4 p => hQ v H4 (g3.t g4) p)
theorem ev_cor {M : Addr → Prop} {X : Cx} {σ : L2.St} {H : Hp} {e1 e2 e3 : Expr} {pos p : Pos} {r : List Pc} {t : Tr} {c : Cl} {j : Nat} (T : Txt X.w X.K X.mg) (hr : Room j X.A) (hk : 1 ≤ j) (fo : FillOk r t c) (h1 : Ev M (wE X e1) σ H (Pd X.K (rowD r))) (h2 : Ev M (wE X e2) σ H (PDR X.K tpl t)) (h3 : Ev M (wE X e3) σ H (PTR X.K tpl c)) (hg : Gl X "cells_of_row" := by rfl)
    (he : starEach [e1, e2, e3] X.env = (false, eval e1 X.env) :: starEach [e2, e3] X.env := by rfl) (he2 : starEach [e2, e3] X.env = (false, eval e2 X.env) :: starEach [e3] X.env := by rfl) (he3 : starEach [e3] X.env = (false, eval e3 X.env) :: starEach [] X.env := by rfl) (hpl : (backTo pos (starEach [e2, e3] X.env)).any (·.1) = false := by rfl) :
    Ev M (wE X (.Call (.Name "cells_of_row" p) [e1, e2, e3] [] pos)) σ H (Pd X.K (.tuple (fillF r t c))) :=
  ev_call (ok_cells_of_row T) hr hk (eg_cons (Ps := [PDR X.K tpl t, PTR X.K tpl c]) stb_d (fun P hP => by
      simp only [List.mem_cons, List.not_mem_nil, or_false] at hP
      rcases hP with rfl | rfl
      · exact stb_dr
      · exact stb_tr) h1 (eg_cons stb_dr (fun P hP => by
      simp only [List.mem_cons, List.not_mem_nil, or_false] at hP
      subst hP
      exact stb_tr) h2 (eg_cons stb_tr (fun P hP => by cases hP) h3 eg_nil he3) he2) he) (fun vs H1 H2 g1 g2 pv Q q => by
    obtain ⟨v1, _, rfl, z1, v2, _, rfl, ⟨a, rfl, z2⟩, v3, _, rfl, ⟨b, rfl, z3⟩, rfl⟩ := pv
    exact ⟨v1, a, b, r, t, c, rfl, z1, z2, z3, fo, fun u H3 g3 k => q u H3 (g3.up g2.b) k⟩) hg (by decide) he hpl
end
end SR
set_option Elab.async false
set_option linter.all false
set_option maxRecDepth 100000
set_option maxHeartbeats 4000000
/-! Outline: fits, wanted -/
namespace SR
open PySem PySem.Spec PyProof.Rows L2
def intN : Nat → PyData := fun n => .int (n : Int)
theorem Sl0.lk {K : PySem.W.Frag} {H : Hp} {a dx d : Addr} {vs : List (Option V)} {kvs : List (Key × V)} {od : Obj} (s : Sl0 K H a dx vs) (h : H d = some (.dK kvs)) : Sl0 K (lkd H d od kvs) a dx vs := by
  have n1 : a ≠ d := fun z => s.aD (z ▸ h)
  have n2 : dx ≠ d := fun z => s.xD (z ▸ h)
  refine ⟨?_, ?_, s.ne⟩
  · rcases s.slt with ⟨h1, e⟩ | ⟨h1, h2⟩
    · exact .inl ⟨(lk_ne n1).trans h1, e⟩
    · exact .inr ⟨(lk_ne n1).trans h1, (lk_ne n2).trans h2⟩
  · rw [lk_ne n2]
    exact s.xd
/-- the tree answers what is asked -/
def fitsO (o : Ou) (t : Tr) : Prop := match o.gr with
  | none => t = []
  | some _ => ∀ q ∈ o.aks, (trGet t q.1).map List.length = q.2
theorem eqvM_refl {β : Type} {f : β → PyData} {m : List (Str × β)} (nd : (m.map (·.1)).Nodup) (h : ∀ q ∈ m, PyData.eqv (f q.2) (f q.2) = true) : eqvM f f m m = true := by
  unfold eqvM
  rw [decide_eq_true rfl, Bool.true_and, List.all_eq_true]
  intro q hq
  have e : trGet m q.1 = some q.2 := by
    clear h
    induction m with
    | nil => cases hq
    | cons x m ih =>
      rw [List.map_cons, List.nodup_cons] at nd
      unfold trGet
      rcases List.mem_cons.mp hq with rfl | hq
      · rw [List.find?_cons_of_pos (by simp)]
        rfl
      · have hne : ¬ x.1 = q.1 := fun z => nd.1 (List.mem_map.mpr ⟨q, hq, z.symm⟩)
        rw [List.find?_cons_of_neg (by simpa using hne)]
        exact ih nd.2 hq
  rw [e]
  exact h q hq
theorem eqv_ask (t : Option Nat) : PyData.eqv (askD t) (askD t) = true := by cases t <;> simp [askD, PyData.eqv]
theorem take_put {β : Type} {m : List (Str × β)} {i : Nat} {q : Str × β} (nd : (m.map (·.1)).Nodup) (h : m[i]? = some q) : m.take (i + 1) = trPut (m.take i) q.1 q.2 := by
  rw [take_snoc h, trPut_none]
  refine get_none fun hm => ?_
  obtain ⟨x, hx, e⟩ := List.mem_map.mp hm
  obtain ⟨j, hj, e2⟩ := List.mem_take_iff_getElem.mp hx
  obtain ⟨hi, e3⟩ := List.getElem?_eq_some_iff.mp h
  have h1 : (m.map (·.1))[j]'(by rw [List.length_map]; omega) = (m.map (·.1))[i]'(by rw [List.length_map]; exact hi) := by
    rw [List.getElem_map, List.getElem_map, e2, e3, e]
  have := (List.getElem_inj nd).mp h1
  omega
section
variable {M : Addr → Prop} {X : Cx} {σ : L2.St} {H : Hp} {kx vx tg iter : Expr} {pos : Pos} {β : Type} {f : β → PyData} {D : Ends} {rest : List Stmt}
theorem ev_tDcR {ds : List PyData} {scope : Scope} {own : List (Str × Nat)} {gt : TG} {tt : TT} {r : List (Str × β)} (G : Nat → List (Str × β)) (h0 : G 0 = []) (hr : G ds.length = r) (hi : EvI M X.K (wI X tg iter) σ H ds) (hl : ds.length ≤ 100000)
    (step : ∀ i d x H2, ds[i]? = some d → Gr M H H2 → Dv X.K H2 x d → ∀ Q : L2.St → Hp → Prop, (∀ (σ2 : L2.St) (b : Bool) (n : Str) (z : β), wipe σ2 (own.map (·.2)) = wipe σ (own.map (·.2)) → EvT M tt σ2 H2 (· = b) → (b = true → Ev M (wEb X scope kx) σ2 H2 (Pd X.K (.str n)) ∧ Ev M (wEb X scope vx) σ2 H2 (Pd X.K (f z))) → G (i + 1) = (if b = true then trPut (G i) n z else G i) → Q σ2 H2) → gt x (wipe σ (own.map (·.2))) H2 Q) :
    Ev M (tDc (wI X tg iter) gt tt (wEb X scope kx) (wEb X scope vx) (own.map (·.2))) σ H (PDN X.K f r) := by
  rw [← hr]
  exact ev_tDc G h0 hi hl step
/-- name = {..} over a dict that is locked the while -/
theorem bl_setDcL {i : Nat} {y : Str} {py spos : Pos} {ifs : List Expr} {scope : Scope} {own : List (Str × Nat)} {gt : TG} {tt : TT} {a : Addr} {kvs : List (Key × V)} {r : List (Str × β)} (g : Gr M H H) (ha : H a = some (.dK kvs)) (calm : X.calm = true) (nd : X.N.Nodup) (ok : BlkOk X.N X.env.scope scope own)
    (h : ∀ od, Ev M (tDc (wI X tg iter) gt tt (wEb X scope kx) (wEb X scope vx) (own.map (·.2))) σ (lkd H a od kvs) (PDN X.K f r)) (k : ∀ v H1, Gr M H H1 → PDN X.K f r v H H1 → wB X rest D (σ.set i (some v)) H1)
    (pg : ∀ (s : Shared) (H0 : Hp) (C : Addr) (cl : List (Str × Addr)) (fp : List Addr), PG (X.blk s H0 scope (compEnvC scope cl C X.env) fp) tg gt) (pt : ∀ (s : Shared) (H0 : Hp) (C : Addr) (cl : List (Str × Addr)) (fp : List Addr), PTs (X.blk s H0 scope (compEnvC scope cl C X.env) fp) ifs tt)
    (hy : X.N[i]? = some y := by rfl) (loc : X.env.scope.names.lookup y = some .local := by rfl) (sw : swapsWith (.DictComp kx vx [⟨tg, iter, ifs, 0⟩] scope pos) (some (.Name y py)) spos.line X.env = pure true := by rfl) (fo : ∀ x, foldedSetIterable iter X.env x = pure x := by exact fun _ => rfl) :
    wB X (.Assign [.Name y py] (.DictComp kx vx [⟨tg, iter, ifs, 0⟩] scope pos) spos :: rest) D σ H := by
  refine of_pss (pss_cons (ps_lock (ps_dcSet calm nd hy loc sw e_pi ok pg pt (fun s H0 C cl fp => eb_pe s H0 C cl fp) (fun s H0 C cl fp => eb_pe s H0 C cl fp) fo)) e_pss) ⟨a, .dK kvs, ha, trivial, fun od => h od _ (gr_lock g ha) _ fun v H2 g2 p => ?_⟩
  have h2 : H2 a = some (.frz od (.dK kvs)) := g2.k a _ (g2.notD (a := a) upd_same fun _ z => nomatch z) upd_same
  exact ⟨h2, k v _ (gr_unlock g ha g2) (ul_dn a od kvs v H H2 ha h2 p)⟩
end
section
variable {P : Program} {w : World} {K : PySem.W.Frag} {mg : Str → Option Value} {base : Heap}
def spFits (K : PySem.W.Frag) : Sp := fun vs H Q _ => ∃ (p : OA) (o : Ou) (a : Addr) (t : Tr), vs = [.ref p.a, .ref a] ∧ OuAt K H p o ∧ DR K tpl H a t ∧ (o.aks.map (·.1)).Nodup ∧ o.aks.length < 1000 ∧ fitsO o t ∧ ∀ H', Gr M0 H H' → Q (.bl true) H'
theorem sc_fits : FnScope ["self", "tree", "found", "name"] ["self", "tree"] (defScope sm_fits) := ⟨rfl, rfl, rfl, by decide +kernel, rfl, by decide +kernel, by decide +kernel⟩
theorem ok_fits (T : Txt w K mg) : FnR P w K mg base CX0 1 (pA K "fits") (spFits K) := by
  refine raw_of (x := "fits") (met_ok T 8 rfl sc_fits (fun _ _ _ _ _ _ us hl => match us, hl with | [_, _], _ => rfl) (fun vs H Q E ⟨_, _, _, _, h, _⟩ => by rw [h]; rfl) (fun f cdv A outer s H vs Q E hr ⟨p, o, a, t, hv, ho, hd, nn, hl, hf, hQ⟩ => ?_))
  subst hv
  have nd := sc_fits.nd
  unfold fitsO at hf
  cases hg : o.gr with
  | none =>
    rw [hg] at hf
    have hf : t = [] := hf
    subst hf
    refine bl_when (Gr.z H) (EvT.is (c := true) (et_isN (ev_ground T ho (ev_nmV 0)) (fun v H1 H2 p => non_d p)) (by rw [hg]; rfl)) (fun _ H1 g1 => ?_) (fun z => nt z)
    refine bl_ret g1.r (P := Pd K (.bool true)) (Ev.is (ev_cv (cv_dEq (f := tpl) (h := tpl) (m := []) (m' := []) (hu70 hr) (fun q hq => nomatch hq) (fun q hq => nomatch hq)) (ev_nmDR 1 (hd.g g1)) (Ev.nr ev_dnil) (nomark _)) rfl) (fun v H2 g p => by
      obtain rfl := dv_bl p
      exact hQ H2 (g1.t g))
  | some sv =>
    rw [hg] at hf
    have hf : ∀ q ∈ o.aks, (trGet t q.1).map List.length = q.2 := hf
    refine bl_when (Gr.z H) (EvT.is (c := false) (et_isN (ev_ground T ho (ev_nmV 0)) (fun v H1 H2 p => non_d p)) (by rw [hg]; rfl)) (fun z => nf z) (fun _ H1 g1 => ?_)
    have ho1 := ho.g g1
    have hd1 := hd.g g1
    obtain ⟨kvs, ha, hk⟩ := ho1.das
    refine bl_setDcL (i := 2) (own := [("name", 3)]) (gt := gName 3) (tt := tYes) (f := askD) (r := o.aks) g1.r ha rfl nd (blkOk_by (sc := defScope sm_fits) (N := ["self", "tree", "found", "name"]) (by decide +kernel)) (fun od => ?_) (fun v H2 g2 pv => ?_) (fun _ _ _ _ _ => pg_name nd rfl (Or.inl rfl)) (fun _ _ _ _ _ => pts_nil)
    · have sl := ho1.sl.lk (od := od) ha
      have hd2 := hd1.lk (od := od) ha
      refine ev_tDcR (own := [("name", 3)]) (gt := gName 3) (ds := o.aks.map fun q => PyData.str q.1) (fun i => o.aks.take i) (by simp) (by rw [List.length_map, List.take_length]) (ei_keys (ev_slot T sl_a sl rfl (ev_nmV 0)) lk_same (hk.lk ha)) (by rw [List.length_map]; omega) (fun i d x H2 e g hx Q q => gt_name ?_)
      rw [List.getElem?_map] at e
      obtain ⟨z, hz, rfl⟩ := Option.map_eq_some_iff.mp e
      have hq := hf z (List.mem_of_getElem? hz)
      have hd3 := hd2.g g
      refine q _ true z.1 z.2 rfl et_yes (fun _ => ⟨ev_blk fun s H0 C cl fp => ev_nm 3 hx, ev_blk fun s H0 C cl fp => ?_⟩) (by rw [if_pos rfl]; exact take_put nn hz)
      refine ev_if (et_din (f := tpl) (m := t) (hu64 hr) (ev_nm 3 hx) (ev_nmDR 1 hd3)) (fun y => ?_) (fun y => ?_)
      · obtain ⟨b, hb⟩ := Option.isSome_iff_exists.mp y
        rw [hb] at hq
        rw [← hq]
        exact ev_lenT T.f_len (ev_dget (f := tpl) (hu64 hr) (ev_nmDR 1 hd3) (ev_nm 3 hx) hb)
      · have hb : trGet t z.1 = none := by
          cases e : trGet t z.1 with
          | none => rfl
          | some b =>
            rw [e] at y
            cases y
        rw [hb] at hq
        rw [← hq]
        exact ev_non
    · obtain ⟨l, rfl, hl0, hw⟩ := pv
      have ho2 := ho1.g g2
      refine bl_ret g2.r (P := Pd K (.bool true)) (Ev.is (ev_cv (cv_dEq (f := askD) (h := askD) (m := o.aks) (m' := o.aks) (hu70 hr) (fun q _ => shaped_ask q.2) (fun q _ => shaped_ask q.2)) (ev_nmDR 2 hw.r) (ev_asks T ho2 (ev_nmV 0)) (nomark _)) (by rw [eqvM_refl nn fun q _ => eqv_ask q.2])) (fun v H3 g p => by
        obtain rfl := dv_bl p
        exact hQ H3 ((g1.t g2).t g))
theorem mem_fits : (("fits" : Str), ("Outline.fits" : Str), sm_fits) ∈ mdefs := by unfold mdefs; simp
theorem ev_fits {M : Addr → Prop} {X : Cx} {σ : L2.St} {H : Hp} {e e2 : Expr} {pos apos : Pos} {p : OA} {o : Ou} {a : Addr} {t : Tr} {j : Nat} (T : Txt X.w X.K X.mg) (hr : Room j X.A) (hk : 1 ≤ j) (ho : OuAt X.K H p o) (hd : DR X.K tpl H a t) (nn : (o.aks.map (·.1)).Nodup) (hl : o.aks.length < 1000) (hf : fitsO o t) (he : Ev M (wE X e) σ H (Pv (.ref p.a))) (h2 : Ev M (wE X e2) σ H (Pv (.ref a)))
    (hst : starEach [e2] X.env = (false, eval e2 X.env) :: starEach [] X.env := by rfl) (hpl : (backTo pos (starEach [] X.env)).any (·.1) = false := by rfl) (pl : Sem Bool)
    (ht : eval (.Call (.Attribute e "fits" apos) [e2] [] pos) X.env = (do
      let ov ← eval e X.env
      standAt apos.atName
      let (f, first) ← holding [ov] (getMethod ov "fits" pl)
      callWith pos f first (backTo pos (starEach [e2] X.env)) (backToKw pos (keywordEach [] X.env))) := by rfl) : Ev M (wE X (.Call (.Attribute e "fits" apos) [e2] [] pos)) σ H (Pd X.K (.bool true)) :=
  ev_meth T (ok_fits T) (T.meth mem_fits) hr hk he ho.sl (ea_of h2 hst) (fun ws H0 H1 H2 g0 g1 g2 ⟨v, e1, e2⟩ Q q => by
    subst e1
    obtain rfl : v = .ref a := e2
    have g := (g0.t g1).t g2
    exact ⟨p, o, a, t, rfl, ho.g g, hd.g g, nn, hl, hf, fun H3 g3 => q _ _ (g3.up g2.b) (.bl _)⟩) hst hpl pl ht
def spDoesFit (K : PySem.W.Frag) : Sp := fun vs H Q _ => ∃ (p : OA) (o : Ou) (a : Addr) (t : Tr), vs = [.ref p.a, .ref a] ∧ OuAt K H p o ∧ DW K tpl H a t ∧ TreeOk t ∧ (o.aks.map (·.1)).Nodup ∧ o.aks.length < 1000 ∧ fitsO o t ∧ ∀ H', Gr M0 H H' → Q (.bl true) H'
theorem sc_does_fit : FnScope ["self", "tree"] ["self", "tree"] (defScope sm_does_fit) := ⟨rfl, rfl, rfl, by decide +kernel, rfl, by decide +kernel, by decide +kernel⟩
theorem ok_does_fit (T : Txt w K mg) : FnR P w K mg base CX0 7 (pA K "does_fit") (spDoesFit K) := by
  refine raw_of (x := "does_fit") (met_ok T 9 rfl sc_does_fit (fun _ _ _ _ _ _ us hl => match us, hl with | [_, _], _ => rfl) (fun vs H Q E ⟨_, _, _, _, h, _⟩ => by rw [h]; rfl) (fun f cdv A outer s H vs Q E hr ⟨p, o, a, t, hv, ho, hd, ht, nn, hl, hf, hQ⟩ => ?_))
  subst hv
  refine bl_expr (Gr.z H) (ev_reqTree T hr (by decide) ht hd (ev_nmV 1)) (fun _ H1 g1 _ => ?_)
  exact bl_ret g1.r (P := Pd K (.bool true)) (ev_fits T hr (by decide) (ho.g g1) (hd.g g1).r nn hl hf (ev_nmV 0) (ev_nmV 1) rfl rfl _) (fun v H2 g p => by
    obtain rfl := dv_bl p
    exact hQ H2 (g1.t g))
end
end SR
set_option Elab.async false
set_option linter.all false
set_option maxRecDepth 100000
set_option maxHeartbeats 4000000
/-! Outline: what cells are wanted -/
namespace SR
open PySem PySem.Spec PyProof.Rows L2
def wantStep (m : List (Sv × Nat)) (p : Pc) : List (Sv × Nat) := match p.so with
  | .new s => trPut m s (max ((trGet m s).getD 0) (p.a + p.n))
  | .below _ => m
def wantF (ps : List Pc) : List (Sv × Nat) := ps.foldl wantStep []
def pcsO (o : Ou) : List Pc := (o.en.map (·.2)).flatten
theorem want_snoc {ps : List Pc} {i : Nat} {p : Pc} (h : ps[i]? = some p) : wantF (ps.take (i + 1)) = wantStep (wantF (ps.take i)) p := by
  unfold wantF
  rw [take_snoc h, List.foldl_append]
  rfl
theorem want_len (ps : List Pc) : ∀ m : List (Sv × Nat), (ps.foldl wantStep m).length ≤ m.length + ps.length := by
  induction ps with
  | nil => intro m; exact Nat.le_refl _
  | cons p ps ih =>
    intro m
    have h1 := ih (wantStep m p)
    have h2 : (wantStep m p).length ≤ m.length + 1 := by
      unfold wantStep
      split
      · exact trPut_le _ _ _
      · omega
    show (ps.foldl wantStep (wantStep m p)).length ≤ m.length + (ps.length + 1)
    omega
theorem trPut_keys {κ β : Type} [DecidableEq κ] {m : List (κ × β)} {k : κ} {b : β} (h : (m.map (·.1)).Nodup) : ((trPut m k b).map (·.1)).Nodup := by
  by_cases hk : trGet m k = none
  · rw [trPut_none hk, List.map_append, List.nodup_append]
    refine ⟨h, by simp, fun x hx y hy => ?_⟩
    intro e
    subst e
    simp at hy
    subst hy
    obtain ⟨b, hb⟩ := get_in hx
    rw [hb] at hk
    cases hk
  · have e : (m.any fun q => decide (q.1 = k)) = true := by
      rw [any_of_get]
      cases z : trGet m k with
      | none => exact absurd z hk
      | some b => rfl
    unfold trPut
    rw [if_pos e, List.map_map]
    have : ((fun x : κ × β => x.1) ∘ fun q : κ × β => if q.1 = k then (q.1, b) else q) = fun x => x.1 := by
      funext q
      show (if q.1 = k then (q.1, b) else q).1 = q.1
      split <;> rfl
    rw [this]
    exact h
theorem want_nodup (ps : List Pc) : ∀ m : List (Sv × Nat), (m.map (·.1)).Nodup → ((ps.foldl wantStep m).map (·.1)).Nodup := by
  induction ps with
  | nil => intro m h; exact h
  | cons p ps ih =>
    intro m h
    refine ih _ ?_
    unfold wantStep
    split
    · exact trPut_keys h
    · exact h
section
variable {M : Addr → Prop} {X : Cx} {σ : L2.St} {H : Hp} {kx vx tg iter : Expr} {pos : Pos} {β : Type} {f : β → PyData} {ds : List PyData}
/-- {save: .. for save in sorted(..)}: each save once, in some order -/
theorem ev_dcS {scope : Scope} {own : List (Str × Nat)} {gt : TG} {e : Expr} (val : Sv → β) (ks : List Sv) (nk : ks.Nodup) (hk : ks.length ≤ 100000) (hc : X.calm = true) (hu : X.A.units + 64 < cLine) (hN : X.N.Nodup) (ok : BlkOk X.N X.env.scope scope own) (hi : Ev M (wE X e) σ H (fun v H1 H2 => ∃ ss : List Sv, ss.Perm ks ∧ PL X.K (ss.map saveD) v H1 H2))
    (pg : ∀ (s : Shared) (H0 : Hp) (C : Addr) (cl : List (Str × Addr)) (fp : List Addr), PG (X.blk s H0 scope (compEnvC scope cl C X.env) fp) tg gt)
    (step : ∀ s x H2, s ∈ ks → Gr M H H2 → Dv X.K H2 x (saveD s) → ∀ Q : L2.St → Hp → Prop, (∀ (σ2 : L2.St), wipe σ2 (own.map (·.2)) = wipe σ (own.map (·.2)) → Ev M (wEb X scope kx) σ2 H2 (Pd X.K (saveD s)) → Ev M (wEb X scope vx) σ2 H2 (Pd X.K (f (val s))) → Q σ2 H2) → gt x (wipe σ (own.map (·.2))) H2 Q)
    (hs : ∀ x, foldedSetIterable e X.env x = pure x := by exact fun _ => rfl) : Ev M (wE X (.DictComp kx vx [⟨tg, e, [], 0⟩] scope pos)) σ H (fun v H1 H2 => ∃ ss : List Sv, ss.Perm ks ∧ PTN X.K f (ss.map fun s => (s, val s)) v H1 H2) :=
  fun H1 g Q q => of_pe (pe_dcT hc hu hN (pi_list e_pe) ok pg (fun _ _ _ _ _ => pts_nil) (fun s H0 C cl fp => eb_pe s H0 C cl fp) (fun s H0 C cl fp => eb_pe s H0 C cl fp) hs) (hi H1 g _ fun v H2 g2 ⟨ss, pm, t, xs, ev, tn, ht, hz⟩ => by
    subst ev
    refine ⟨t, rfl, ⟨xs, .inl (.inl ht)⟩, fun D hD => ?_⟩
    obtain ⟨Gh, Y, w, hG, hst, hy⟩ := src_list g2.r (g2.nm tn) ht hz
    have nss : ss.Nodup := pm.nodup_iff.mpr nk
    have sl : (ss.map saveD).length = ss.length := List.length_map _
    have slk : ss.length ≤ 100000 := by rw [pm.length_eq]; exact hk
    refine ⟨fun i k Hn => k = ss.length - i ∧ i ≤ ss.length ∧ Gr M H2 Hn ∧ TW X.K f Hn D ((ss.take i).map fun s => (s, val s)), ⟨ss.length, by simp, Nat.zero_le _, g2.r.new hD, [], upd_same, by simp; exact .nil⟩, ?_⟩
    rintro i k Hn ⟨rfl, hin, g3, kvs, hv, hz3⟩
    have nmD : ¬ M D := g2.nm' hD
    by_cases hlt : i < ss.length
    · refine .inr ⟨w.goes i Hn (by rw [sl]; exact hlt) (hst Hn g3), fun H' => i + 1 ≤ ss.length ∧ Gr M H2 H' ∧ TW X.K f H' D ((ss.take (i + 1)).map fun s => (s, val s)), fun H' p' => ⟨ss.length - (i + 1), by omega, rfl, p'⟩, fun x Hb y0 => ?_⟩
      obtain ⟨g4, d, ed, hd⟩ := hy i Hn x Hb g3 (w.yields i Hn x Hb (by rw [sl]; exact hlt) (hst Hn g3) y0) (by rw [sl]; exact hlt)
      have g5 : Gr M H Hb := ((g.t g2).t g3).t g4
      rw [List.getElem?_map, List.getElem?_eq_getElem hlt] at ed
      obtain rfl := Option.some.inj ed
      have mem : ss[i] ∈ ks := pm.mem_iff.mp (List.getElem_mem hlt)
      refine step ss[i] x Hb mem g5 hd _ fun σ2 e1 ek ev => ⟨e1, lc_yes (ek Hb g5.r _ fun v H4 g7 hn => ev H4 g7 _ fun u H5 g8 hu => ?_)⟩
      have g48 := (g4.t g7).t g8
      have hv4 : H5 D = some (.dT kvs) := g48.k D _ nmD hv
      obtain ⟨q, rfl, hq⟩ := dv_save (Dv.g hn g8)
      have eg : (ss.take (i + 1)).map (fun s => (s, val s)) = trPut ((ss.take i).map fun s => (s, val s)) ss[i] (val ss[i]) := by
        rw [take_snoc (List.getElem?_eq_getElem hlt), List.map_append, trPut_none]
        · rfl
        · refine get_none fun hm => ?_
          rw [List.map_map] at hm
          obtain ⟨x, hx, e⟩ := List.mem_map.mp hm
          have e : x = ss[i] := e
          subst e
          obtain ⟨j, hj, e2⟩ := List.mem_take_iff_getElem.mp hx
          have := (List.getElem_inj (h₀ := by omega) (h₁ := hlt) nss).mp e2
          omega
      refine ⟨kvs, sK ss[i], q, rfl, hq, hv4, ?_, hlt, (g3.t g48).mut hD, ?_⟩
      · rw [hz3.length, List.length_map, List.length_take]
        exact lt_sz (by omega)
      · rw [eg]
        exact tput_tw hv4 (hz3.g g48) hu
    · have e : i = ss.length := by omega
      subst e
      rw [List.take_length] at hz3
      have st := w.stops Hn (hst Hn g3)
      rw [sl] at st
      exact .inl ⟨st, q _ _ (g2.t g3) ⟨ss, pm, D, rfl, g2.back hD, kvs, hv, hz3⟩⟩)
end
section
variable {P : Program} {w : World} {K : PySem.W.Frag} {mg : Str → Option Value} {base : Heap}
def valOf (m : List (Sv × Nat)) (s : Sv) : Nat := (trGet m s).getD 0
def spWant (K : PySem.W.Frag) : Sp := fun vs H Q _ => ∃ (p : OA) (o : Ou), vs = [.ref p.a] ∧ OuAt K H p o ∧ o.en.length < 1000 ∧ (pcsO o).length ≤ 10000 ∧ (wantF (pcsO o)).length < 64 ∧ (∀ q ∈ wantF (pcsO o), (0 ≤ q.1.1 ∧ q.1.1 < 1000) ∧ 0 ≤ q.1.2 ∧ q.1.2 < 1000) ∧
  ∀ (a : Addr) (ss : List Sv) H', Gr M0 H H' → H a = none → ss.Perm ((wantF (pcsO o)).map (·.1)) → TW K intN H' a (ss.map fun s => (s, valOf (wantF (pcsO o)) s)) → Q (.ref a) H'
theorem sc_wanted : FnScope ["self", "found", "source", "first", "many", "row", "piece", "save"] ["self"] (defScope sm_wanted) := ⟨rfl, rfl, rfl, by decide +kernel, rfl, by decide +kernel, by decide +kernel⟩
theorem ok_wanted (T : Txt w K mg) : FnR P w K mg base CX0 1 (pA K "wanted") (spWant K) := by
  refine raw_of (x := "wanted") (met_ok T 10 rfl sc_wanted (fun _ _ _ _ _ _ us hl => match us, hl with | [_], _ => rfl) (fun vs H Q E ⟨_, _, h, _⟩ => by rw [h]; rfl) (fun f cdv A outer s H vs Q E hr ⟨p, o, hv, ho, hl, hpl, hw64, hwb, hQ⟩ => ?_))
  subst hv
  have nd := sc_wanted.nd
  refine bl_set (i := 1) (Gr.z H) (P := PTN K intN []) ev_tnil (fun v H1 g1 pv => ?_) nd
  obtain ⟨fa, rfl, hf0, hfw⟩ := pv
  have ho1 := ho.g g1
  obtain ⟨kvs, ha, hk⟩ := ho1.den
  have hfl : (o.en.map fun q => q.2.map Pc.d).flatten = (pcsO o).map Pc.d := by
    unfold pcsO
    rw [List.map_flatten, List.map_map]
    rfl
  refine bl_forL (gt := gTup K 3 (gCons (gName 2) (gCons (gName 3) (gCons (gName 4) gNil)))) (P := PL K ((pcsO o).map Pc.d)) g1.r rfl rfl (pg_tup rfl (pgs_cons (pg_name nd rfl (Or.inl rfl)) (pgs_cons (pg_name nd rfl (Or.inl rfl)) (pgs_cons (pg_name nd rfl (Or.inl rfl)) pgs_nil)))) ?_ (fun v H2 g2 ⟨ln, xs, ev, hn0, hln, hzx⟩ => ?_)
  · refine ev_lock ul_l ha fun od => ?_
    rw [← hfl]
    refine ev_flat (ia := 5) (ib := 6) rfl nd (blkOk_by (sc := defScope sm_wanted) (N := ["self", "found", "source", "first", "many", "row", "piece", "save"]) (by decide +kernel)) ?_ (by rw [hfl, List.length_map]; omega) (by decide) rfl rfl (by show 5 < 8; decide) (by show 6 < 8; decide) (fun _ _ _ _ _ => pg_name nd rfl (Or.inl rfl)) (fun _ _ _ _ _ => pg_name nd rfl (Or.inl rfl)) (fun _ _ _ _ _ => pv 5) (fun _ _ _ _ _ => pv 6)
    rw [List.map_map]
    exact ei_vals (f := rowD) (ev_slot T sl_e (ho1.sl.lk ha) rfl (ev_nmV 0)) lk_same (hk.lk ha)
  · subst ev
    have hfln : fa ≠ ln := by
      obtain ⟨u, hu, _⟩ := hfw
      exact ne_of_none hu hn0
    refine ⟨ln, xs, rfl, fun i σ' H' => ∃ (o1 o2 o3 : Option V), σ' = [some (.ref p.a), some (.ref fa), o1, o2, o3, none, none, none] ∧ Gr M0 H H' ∧ TW K intN H' fa (wantF ((pcsO o).take i)) ∧ H' ln = some (.lst xs) ∧ DvA K H' xs ((pcsO o).map Pc.d),
      ⟨_, _, _, rfl, g1.t g2, by simp [wantF]; exact hfw.g g2, hln, hzx⟩, fun i σ' H' _ ⟨_, _, _, _, _, _, h, _⟩ => .inl (.inl h), ?_, ?_⟩
    · rintro i x σ' H' hx ⟨o1, o2, o3, rfl, g3, hf3, hln3, hzx3⟩
      obtain ⟨d, e, hd⟩ := hzx3.get' hx
      obtain ⟨pc, hp1, rfl⟩ := row_at e
      refine gt_3 hd fun v1 v2 v3 k1 k2 k3 => ?_
      obtain rfl := dv_int k2
      obtain rfl := dv_int k3
      have ew := want_snoc hp1
      have wl : (wantF ((pcsO o).take i)).length ≤ 10000 := by
        have h1 := want_len ((pcsO o).take i) []
        have h2 : ((pcsO o).take i).length ≤ (pcsO o).length := List.length_take_le' _ _
        unfold wantF
        simp only [List.length_nil] at h1
        omega
      cases hso : pc.so with
      | below n =>
        rw [hso] at k1
        refine bl_when (Gr.z H') (EvT.is (c := false) (et_eqS (ev_ix (ev_nm 2 k1) ev_int rfl) (ev_gs T.c_NEW)) (by decide +kernel)) (fun z => nf z) (fun _ H4 g4 => bl_nil ⟨_, _, _, rfl, g3.t g4, ?_, g4.k ln _ (fun z => z) hln3, hzx3.g g4⟩)
        rw [ew]
        unfold wantStep
        rw [hso]
        exact hf3.g g4
      | new sv =>
        rw [hso] at k1
        refine bl_when (Gr.z H') (EvT.is (c := true) (et_eqS (ev_ix (ev_nm 2 k1) ev_int rfl) (ev_gs T.c_NEW)) rfl) (fun _ H4 g4 => ?_) (fun z => nt z)
        have hf4 := hf3.g g4
        have k14 := k1.g g4
        refine bl_tput (b := max ((trGet (wantF ((pcsO o).take i)) sv).getD 0) (pc.a + pc.n)) g4.r (hu64 hr) (ev_nmV 1) hf4 (by omega) (ev_ix (ev_nm 2 k14) ev_int rfl) (Ev.is (ev_max2 rfl T.f_max (ea_ii (i := (((trGet (wantF ((pcsO o).take i)) sv).getD 0 : Nat) : Int)) (Ev.is (ev_tgetD (f := intN) (hu64 hr) (ev_nmTR 1 hf4.r) (ev_ix (ev_nm 2 k14) ev_int rfl) ev_int) ?_) (ev_add (ev_nm 3 (.int _)) (ev_nm 4 (.int _))))) ?_) (fun H5 H6 g5 dm wd => bl_nil (bl_nil ?_))
        · cases trGet (wantF ((pcsO o).take i)) sv <;> rfl
        · show PyData.int _ = PyData.int _
          congr 1
          omega
        · obtain ⟨u, u', e5, rfl⟩ := dm
          refine ⟨_, _, _, rfl, ((g3.t g4).t g5).mut hf0, ?_, ?_, ?_⟩
          · rw [ew]
            unfold wantStep
            rw [hso]
            exact wd
          · rw [upd_ne hfln.symm]
            exact g5.k ln _ (fun z => z) (g4.k ln _ (fun z => z) hln3)
          · exact (hzx3.g (g4.t g5)).sT e5
    · rintro σ' H' ⟨o1, o2, o3, rfl, g3, hf3, hln3, hzx3⟩
      have hxl : xs.length = (pcsO o).length := by rw [hzx.length, List.length_map]
      rw [hxl, List.take_length] at hf3
      have wnd : ((wantF (pcsO o)).map (·.1)).Nodup := want_nodup _ [] List.nodup_nil
      refine bl_ret (Gr.z H') (ev_dcS (own := [("save", 7)]) (gt := gName 7) (f := intN) (valOf (wantF (pcsO o))) ((wantF (pcsO o)).map (·.1)) wnd (by rw [List.length_map]; omega) rfl (hu64 hr) nd (blkOk_by (sc := defScope sm_wanted) (N := ["self", "found", "source", "first", "many", "row", "piece", "save"]) (by decide +kernel)) (ev_sortT rfl T.f_sorted hw64 hwb (ev_nmTR 1 hf3.r)) (fun _ _ _ _ _ => pg_name nd rfl (Or.inl rfl)) (fun s x H2 hs g hx Q q => gt_name ?_)) (fun v H1 g ⟨ss, pm, a, e, n, w⟩ => ?_)
      · obtain ⟨b, hb⟩ := get_in hs
        have ev : valOf (wantF (pcsO o)) s = b := by unfold valOf; rw [hb]; rfl
        rw [ev] at q
        exact q _ rfl (ev_blk fun s H0 C cl fp => ev_nm 7 hx) (ev_blk fun s H0 C cl fp => ev_tget (f := intN) (hu64 hr) (ev_nmTR 1 (hf3.g g).r) (ev_nm 7 hx) hb)
      · subst e
        exact hQ a ss H1 (g3.t g) (g3.back n) pm w
end
end SR
set_option Elab.async false
set_option linter.all false
set_option maxRecDepth 100000
set_option maxHeartbeats 4000000
/-! Outline: filled -/
namespace SR
open PySem PySem.Spec PyProof.Rows L2
theorem KD.merge {K : PySem.W.Frag} {H : Hp} {β : Type} {f : β → PyData} : ∀ {kvs' kvs : List (Key × V)} {m' m : List (Str × β)}, KD K f H kvs m → KD K f H kvs' m' → KD K f H (mergeK kvs kvs') (putAll m m')
  | [], kvs, m', m, h, h' => by
    cases h'
    exact h
  | x :: kvs', kvs, m', m, h, h' => by
    cases h' with
    | @cons _ y _ ys a b =>
      obtain ⟨k, v⟩ := x
      have ek : k = Sum.inr y.1 := a.1
      subst ek
      exact KD.merge (kvs' := kvs') (m' := ys) (h.put (n := y.1) (b := y.2) a.2) b
def rUpd : V → List V → Hp → VK → Prop := fun x xs H Q => ∃ (a b : Addr) (kvs more : List (Key × V)), x = .ref a ∧ xs = [.ref b] ∧ a ≠ b ∧ H a = some (.dK kvs) ∧ H b = some (.dK more) ∧ kvs.length + more.length ≤ 100000 ∧ Q .non (upd H a (.dK (mergeK kvs more)))
theorem mt_upd {X : Cx} : MtR X "dict.update" rUpd := by
  intro pins s σ H x xs v us Q I rx rv h
  obtain ⟨a, b, kvs, more, rfl, rfl, ab, ha, hb, hz, q⟩ := h
  cases rx
  obtain ⟨u, rfl, ru⟩ := rv.one
  cases ru
  obtain ⟨_, la, va, ra, da⟩ := dk_of I.hok ha
  obtain ⟨_, lb, vb, rb, db⟩ := dk_of I.hok hb
  have z1 : va.length + vb.length ≤ sizeLine := by rw [← ra.length, ← rb.length]; exact sz_of hz
  refine call_meetsIn PySem.F.slot_dict_update da.typeIs PySem.F.entry_dict_update (PySem.F.args_dict_update_2 _ _) (meets_dict_update (mixKind X.prog X.w) a b ab lb) ⟨va, vb, da, db, z1, fun h' da' _ sb => ?_⟩
  have zn : (mergeK kvs more).length ≤ sizeLine := Nat.le_trans (length_mergeK more kvs) (sz_of hz)
  have he : ∃ o, h'.get? a = some o := let ⟨o, _, _, ho, _⟩ := da'; ⟨o, ho⟩
  exact ⟨.non, _, d_write I (by rw [ha]; exact trivial) sb he (dk_new zn la (rb.merge ra) da'), rfl, q⟩
section
variable {M : Addr → Prop} {X : Cx} {σ : L2.St} {H : Hp} {e : Expr} {rest : List Stmt} {pos : Pos} {D : Ends} {β : Type} {f : β → PyData} {m m' : List (Str × β)} {a : Addr}
/-- x.update(a new dict) -/
theorem bl_upd {i : Nat} {x : Str} {p0 p1 p2 : Pos} (g : Gr M H H) (hs0 : σ[i]? = some (some (.ref a))) (hd : DW X.K f H a m) (hz : m.length + m'.length ≤ 100000) (h : Ev M (wE X e) σ H (PDN X.K f m')) (k : ∀ H1 H2, Gr M H H1 → DM H1 a H2 → DW X.K f H2 a (putAll m m') → wB X rest D σ H2)
    (hN : X.N[i]? = some x := by rfl) (hv : Vis X.env.scope x := by first | exact Or.inl rfl | exact Or.inr (Or.inl rfl) | exact Or.inr (Or.inr rfl)) (hdb : (x == ("__debug__" : Str)) = false := by decide) (hcd : (x == ("__classdict__" : Str)) = false := by decide)
    (hbase : attributeBase (.Name x p0) "update" X.env (eval (.Name x p0) X.env) = eval (.Name x p0) X.env := by rfl)
    (hfew : ((backTo p2 (starEach [e] X.env)).all (fun x => !x.1) && (backToKw p2 (keywordEach [] X.env)).all (fun x => x.1.isSome) && decide ([e].length + ([] : List Keyword).length + (if ([] : List Keyword).isEmpty then 0 else 1) < 30)) = true := by rfl)
    (hline : (p1.endLine == p2.line) = true := by rfl) (hs : starEach [e] X.env = (false, eval e X.env) :: starEach [] X.env := by rfl) (hplain : (backTo p2 (starEach [] X.env)).any (·.1) = false := by rfl) (hsw : swapsWith (.Call (.Attribute (.Name x p0) "update" p1) [e] [] p2) none pos.line X.env = pure false := by rfl) :
    wB X (.Expr (.Call (.Attribute (.Name x p0) "update" p1) [e] [] p2) pos :: rest) D σ H := by
  obtain ⟨kv0, ha0, _⟩ := id hd
  refine of_pss (pss_cons (ps_expr (pe_bm (T := "dict") PySem.F.plainAttrs_dict PySem.F.slot_dict_update PySem.F.type_dict_update mt_upd (pe_var hN hv hdb hcd) (pa_cons e_pe pa_nil hs) hbase hfew hline hs hplain) hsw) e_pss) ⟨_, hs0, .inr (.inr (.inl ⟨rfl, .inl ⟨_, ha0⟩⟩)), h H g _ fun v H1 g1 ⟨b, eb, hn, kvs', hb, hk'⟩ => ?_⟩
  subst eb
  obtain ⟨kvs, ha, hk⟩ := hd.g g1
  refine ⟨a, b, kvs, kvs', rfl, rfl, ne_of_none ha0 hn, ha, hb, by rw [hk.length, hk'.length]; exact hz, k H1 _ g1 ⟨_, _, ha, rfl⟩ ⟨_, upd_same, (hk.merge hk').imp fun _ _ z => z.sd ha⟩⟩
end
/-- the dict at a is none of the outline's own -/
structure OffO (p : OA) (a : Addr) : Prop where
  n1 : a ≠ p.da
  n2 : a ≠ p.de
  n3 : a ≠ p.dg
theorem OuAt.lk {K : PySem.W.Frag} {H : Hp} {p : OA} {o : Ou} {a : Addr} {kvs : List (Key × V)} {od : Obj} (h : OuAt K H p o) (ha : H a = some (.dK kvs)) (s : OffO p a) : OuAt K (lkd H a od kvs) p o := ⟨h.sl.lk ha, h.vg.lk ha, h.das.lk s.n1.symm ha, h.den.lk s.n2.symm ha, h.dgo.lk s.n3.symm ha, h.n1, h.n2, h.n3⟩
theorem TR.lk {K : PySem.W.Frag} {H : Hp} {β : Type} {f : β → PyData} {a b : Addr} {m : List (Sv × β)} {kvs : List (Key × V)} {od : Obj} (h : TR K f H b m) (ha : H a = some (.dK kvs)) : TR K f (lkd H a od kvs) b m := by
  obtain ⟨ks, h1, h2⟩ := h
  have ne : b ≠ a := fun z => by
    subst z
    rcases h1 with h1 | ⟨_, h1⟩ <;> (rw [ha] at h1; cases h1)
  refine ⟨ks, ?_, h2.imp fun _ _ y => y.lk ha⟩
  unfold Rd
  rw [lk_ne ne]
  exact h1
section
variable {M : Addr → Prop} {X : Cx} {σ : L2.St} {H : Hp} {e tg : Expr} {rest body : List Stmt} {pos apos cpos : Pos} {D : Ends} {β : Type} {f : β → PyData}
/-- a walk over the items of a new dict, whatever their order -/
theorem bl_forS {gt : TG} {elts : List Expr} {kk : Nat} {tpos : Pos} (val : Sv → β) (ks : List Sv) (g : Gr M H H) (hx : X.xe = fun _ _ => False) (hc : X.calm = true) (pg : PG X (.Tuple elts kk tpos) gt) (h : Ev M (wE X e) σ H (fun v H1 H2 => ∃ ss : List Sv, ss.Perm ks ∧ PTN X.K f (ss.map fun s => (s, val s)) v H1 H2))
    (k : ∀ H1, Gr M H H1 → ∃ J : L2.St → Hp → Prop, J σ H1 ∧ (∀ σ' H', J σ' H' → Gr M H1 H') ∧ (∀ s x σ' H0 H', s ∈ ks → J σ' H0 → Gr M H0 H' → Dv X.K H' x (.tuple [saveD s, f (val s)]) → gt x σ' H' fun σ2 H2 => wB X body { D with nx := J, ct := J, bk := wB X rest D } σ2 H2) ∧ ∀ σ' H', J σ' H' → wB X rest D σ' H')
    (hbase : attributeBase e "items" X.env (eval e X.env) = eval e X.env := by rfl) (hline : (apos.endLine == cpos.line) = true := by rfl) (hs : ∀ x, foldedSetIterable (.Call (.Attribute e "items" apos) [] [] cpos) X.env x = pure x := by exact fun _ => rfl) :
    wB X (.For (.Tuple elts kk tpos) (.Call (.Attribute e "items" apos) [] [] cpos) body [] pos :: rest) D σ H :=
  of_pss (pss_cons (ps_for (by rw [hx]; exact PassesOwn.never) hc (pi_titems e_pe hbase hline) pg e_pss hs) e_pss) (h H g _ fun v H2 g2 ⟨ss, pm, a, ea, hn, kvs, hw, hk⟩ => by
    refine ⟨a, kvs, ea, hw, fun od => ?_⟩
    have g3 : Gr M H (upd H2 a (.frz od (.dT kvs))) := g2.mut hn
    obtain ⟨Gh, Y, w, hG, hst, hy⟩ := src_titems (od := od) g3.r upd_same (hk.imp fun _ _ z => dv_frz z hw fun _ z => nomatch z)
    obtain ⟨J, j0, jg, js, jd⟩ := k _ g3
    refine for_it w (fun _ => J) j0 (fun i σ' H' _ p => hst H' (jg σ' H' p)) (fun i x σ' Ha Hb hi p y => ?_) (fun σ' H' p => jd σ' H' p)
    obtain ⟨g4, d, ed, hd⟩ := hy i Ha x Hb (jg σ' Ha p) y hi
    rw [List.getElem?_map] at ed
    obtain ⟨z, hz, rfl⟩ := Option.map_eq_some_iff.mp ed
    rw [List.getElem?_map] at hz
    obtain ⟨s, hs2, rfl⟩ := Option.map_eq_some_iff.mp hz
    exact js s x σ' Ha Hb (pm.mem_iff.mp (List.mem_of_getElem? hs2)) p g4 hd)
end
/-! what filled answers -/
def keepF (o : Ou) (t : Tr) : Tr := t.filter fun q => freshO o q.1
noncomputable def fillO (o : Ou) (t : Tr) (c : Cl) : Tr := sortM (putAll (keepF o t) (o.en.map fun q => (q.1, fillF q.2 t c)))
structure FilOk (o : Ou) (t : Tr) (c : Cl) : Prop where
  tree : TreeOk t
  tnd : (t.map (·.1)).Nodup
  cl : ClOk c
  aks : (o.aks.map (·.1)).Nodup ∧ o.aks.length < 1000
  fits : fitsO o t
  en : o.en.length < 1000 ∧ (o.en.map (·.1)).Nodup
  pcs : (pcsO o).length ≤ 10000
  wl : (wantF (pcsO o)).length < 64
  wb : ∀ q ∈ wantF (pcsO o), (0 ≤ q.1.1 ∧ q.1.1 < 1000) ∧ 0 ≤ q.1.2 ∧ q.1.2 < 1000
  has : ∀ q ∈ wantF (pcsO o), ∃ cs, trGet c q.1 = some cs ∧ q.2 ≤ cs.length
  fill : ∀ q ∈ o.en, FillOk q.2 t c
  few : (putAll (keepF o t) (o.en.map fun q => (q.1, fillF q.2 t c))).length < 64
section
variable {P : Program} {w : World} {K : PySem.W.Frag} {mg : Str → Option Value} {base : Heap}
def spFilled (K : PySem.W.Frag) : Sp := fun vs H Q _ => ∃ (p : OA) (o : Ou) (a b : Addr) (t : Tr) (c : Cl), vs = [.ref p.a, .ref a, .ref b] ∧ OuAt K H p o ∧ DW K tpl H a t ∧ TW K tpl H b c ∧ OffO p a ∧ FilOk o t c ∧ ∀ (r : Addr) H', Gr M0 H H' → H r = none → DW K tpl H' r (fillO o t c) → Q (.ref r) H'
theorem sc_filled : FnScope ["self", "tree", "cells", "save", "many", "found", "name", "held", "row"] ["self", "tree", "cells"] (defScope sm_filled) := ⟨rfl, rfl, rfl, by decide +kernel, rfl, by decide +kernel, by decide +kernel⟩
theorem mem_wanted : (("wanted" : Str), ("Outline.wanted" : Str), sm_wanted) ∈ mdefs := by unfold mdefs; simp
theorem ev_reqC {M : Addr → Prop} {X : Cx} {σ : L2.St} {H : Hp} {e : Expr} {pos p : Pos} {c : Cl} {a : Addr} {j : Nat} (T : Txt X.w X.K X.mg) (hr : Room j X.A) (hk : 5 ≤ j) (hc : ClOk c) (hd : TW X.K tpl H a c) (h : Ev M (wE X e) σ H (Pv (.ref a))) (hg : Gl X "require_save_cells" := by rfl)
    (he : starEach [e] X.env = (false, eval e X.env) :: starEach [] X.env := by rfl) (hpl : (backTo pos (starEach [] X.env)).any (·.1) = false := by rfl) : Ev M (wE X (.Call (.Name "require_save_cells" p) [e] [] pos)) σ H (Pv .non) :=
  ev_call (ok_require_save_cells T) hr hk (ea_of h he) (fun vs H1 H2 g1 g2 ⟨v, e1, e2⟩ Q q => by
    subst e1
    obtain rfl : v = .ref a := e2
    exact ⟨a, c, rfl, hd.g (g1.t g2), hc, fun H3 g3 => q _ _ (g3.up g2.b) rfl⟩) hg (by decide) he hpl
theorem ev_wanted {M : Addr → Prop} {X : Cx} {σ : L2.St} {H : Hp} {e : Expr} {pos apos : Pos} {p : OA} {o : Ou} {t : Tr} {c : Cl} {j : Nat} (T : Txt X.w X.K X.mg) (hr : Room j X.A) (hk : 1 ≤ j) (ho : OuAt X.K H p o) (fo : FilOk o t c) (he : Ev M (wE X e) σ H (Pv (.ref p.a))) (pl : Sem Bool)
    (ht : eval (.Call (.Attribute e "wanted" apos) [] [] pos) X.env = (do
      let ov ← eval e X.env
      standAt apos.atName
      let (f, first) ← holding [ov] (getMethod ov "wanted" pl)
      callWith pos f first (backTo pos (starEach [] X.env)) (backToKw pos (keywordEach [] X.env))) := by rfl) :
    Ev M (wE X (.Call (.Attribute e "wanted" apos) [] [] pos)) σ H (fun v H1 H2 => ∃ ss : List Sv, ss.Perm ((wantF (pcsO o)).map (·.1)) ∧ PTN X.K intN (ss.map fun s => (s, valOf (wantF (pcsO o)) s)) v H1 H2) :=
  ev_meth0 T (ok_wanted T) (T.meth mem_wanted) hr hk he ho.sl (fun H0 H1 g0 g1 Q q => ⟨p, o, rfl, ho.g (g0.t g1), fo.en.1, fo.pcs, fo.wl, fo.wb, fun a ss H3 g3 hn pm w => q _ H3 (g3.up g1.b) ⟨ss, pm, a, rfl, g1.back hn, w⟩⟩) pl ht
theorem filt_put {β : Type} {m : List (Str × β)} {i : Nat} {q : Str × β} {p : Str → Bool} (nd : (m.map (·.1)).Nodup) (h : m[i]? = some q) : (m.take (i + 1)).filter (fun q => p q.1) = if p q.1 = true then trPut ((m.take i).filter fun q => p q.1) q.1 q.2 else (m.take i).filter fun q => p q.1 := by
  rw [take_snoc h, List.filter_append]
  by_cases c : p q.1 = true
  · have e1 : List.filter (fun q => p q.1) [q] = [q] := by simp [c]
    have hn : trGet ((m.take i).filter fun q => p q.1) q.1 = none := by
      refine get_none fun hm => ?_
      obtain ⟨x, hx, e⟩ := List.mem_map.mp hm
      have hx := (List.mem_filter.mp hx).1
      obtain ⟨j, hj, e2⟩ := List.mem_take_iff_getElem.mp hx
      obtain ⟨hi, e3⟩ := List.getElem?_eq_some_iff.mp h
      have h1 : (m.map (·.1))[j]'(by rw [List.length_map]; omega) = (m.map (·.1))[i]'(by rw [List.length_map]; exact hi) := by
        rw [List.getElem_map, List.getElem_map, e2, e3, e]
      have := (List.getElem_inj nd).mp h1
      omega
    rw [if_pos c, e1, trPut_none hn]
  · have e1 : List.filter (fun q => p q.1) [q] = [] := by simp [c]
    rw [if_neg c, e1, List.append_nil]
theorem putAll_keys {κ β : Type} [DecidableEq κ] : ∀ (r m : List (κ × β)), (m.map (fun q : κ × β => q.1)).Nodup → ((putAll m r).map (fun q : κ × β => q.1)).Nodup
  | [], _, h => h
  | q :: r, m, h => putAll_keys r (trPut m q.1 q.2) (trPut_keys h)
theorem ok_filled (T : Txt w K mg) : FnR P w K mg base CX0 7 (pA K "filled") (spFilled K) := by
  refine raw_of (x := "filled") (met_ok T 11 rfl sc_filled (fun _ _ _ _ _ _ us hl => match us, hl with | [_, _, _], _ => rfl) (fun vs H Q E ⟨_, _, _, _, _, _, h, _⟩ => by rw [h]; rfl) (fun f cdv A outer s H vs Q E hr ⟨p, o, a, b, t, c, hv, ho, hd, hc, sep, fo, hQ⟩ => ?_))
  subst hv
  have nd := sc_filled.nd
  refine bl_expr (Gr.z H) (ev_reqTree T hr (by decide) fo.tree hd (ev_nmV 1)) (fun _ H1 g1 _ => ?_)
  refine bl_expr g1.r (ev_reqC T hr (by decide) fo.cl (hc.g g1) (ev_nmV 2)) (fun _ H2 g2 _ => ?_)
  have g12 := g1.t g2
  refine bl_when g2.r (et_notF (ev_fits T hr (by decide) (ho.g g12) (hd.g g12).r fo.aks.1 fo.aks.2 fo.fits (ev_nmV 0) (ev_nmV 1) rfl rfl _)) (fun z => nf z) (fun _ H3 g3 => ?_)
  have g13 := g12.t g3
  refine bl_forS (gt := gTup K 2 (gCons (gName 3) (gCons (gName 4) gNil))) (f := intN) (valOf (wantF (pcsO o))) ((wantF (pcsO o)).map (·.1)) g3.r rfl rfl (pg_tup rfl (pgs_cons (pg_name nd rfl (Or.inl rfl)) (pgs_cons (pg_name nd rfl (Or.inl rfl)) pgs_nil))) (ev_wanted T hr (by decide) (ho.g g13) fo (ev_nmV 0) _) (fun H4 g4 => ?_)
  refine ⟨fun σ' H' => ∃ o1 o2 : Option V, σ' = [some (.ref p.a), some (.ref a), some (.ref b), o1, o2, none, none, none, none] ∧ Gr M0 H4 H', ⟨_, _, rfl, Gr.z H4⟩, fun σ' H' ⟨_, _, _, g⟩ => g, ?_, ?_⟩
  · rintro sv x σ' H0 H5 hs ⟨o1, o2, rfl, g5⟩ g6 hx
    refine gt_2 hx fun v1 v2 k1 k2 => ?_
    obtain ⟨n, hn⟩ := get_in hs
    have hval : valOf (wantF (pcsO o)) sv = n := by unfold valOf; rw [hn]; rfl
    obtain ⟨cs, hcs, hle⟩ := fo.has (sv, n) (by
      unfold trGet at hn
      obtain ⟨q, z2, z3⟩ := Option.map_eq_some_iff.mp hn
      have h1 := List.mem_of_find?_eq_some z2
      have h2 := List.find?_some z2
      have : q = (sv, n) := Prod.ext (of_decide_eq_true h2) z3
      exact this ▸ h1)
    have g56 := g5.t g6
    refine bl_when (Gr.z H5) (EvT.is (c := false) (et_lt (ev_lenT (ds := cs) T.f_len (Ev.is (ev_tgetD (f := tpl) (hu64 hr) (ev_nmTR 2 ((hc.g g13).g (g4.t g56)).r) (ev_nm 3 k1) (ev_tup ea_nil (by simp))) (by rw [hcs]; rfl))) (ev_nm 4 k2)) (by rw [hval]; exact decide_eq_false (by have : n ≤ cs.length := hle; omega))) (fun z => nf z) (fun _ H6 g7 => bl_nil ⟨_, _, rfl, g56.t g7⟩)
  · rintro σ' H5 ⟨o1, o2, rfl, g5⟩
    have g15 := (g13.t g4).t g5
    have ho5 := ho.g g15
    obtain ⟨kvs, ha, hk⟩ := hd.g g15
    refine bl_set (i := 5) (Gr.z H5) (P := PDN K tpl (keepF o t)) (ev_lock ul_dn ha fun od => ?_) (fun v H6 g6 pv => ?_) nd
    · have ol := ho5.lk (od := od) ha sep
      refine ev_dcR (own := [("name", 6), ("held", 7)]) (gt := gTup K 2 (gCons (gName 6) (gCons (gName 7) gNil))) (ds := t.map fun q => .tuple [.str q.1, tpl q.2]) (fun i => (t.take i).filter fun q => freshO o q.1) (by simp) (by rw [List.length_map, List.take_length]; rfl) rfl nd (blkOk_by (sc := defScope sm_filled) (N := ["self", "tree", "cells", "save", "many", "found", "name", "held", "row"]) (by decide +kernel)) (ei_items (f := tpl) (ev_nmV 1) lk_same (hk.lk ha)) (by have := fo.tree.len; rw [List.length_map]; omega)
        (fun _ _ _ _ _ => pg_tup rfl (pgs_cons (pg_name nd rfl (Or.inl rfl)) (pgs_cons (pg_name nd rfl (Or.inl rfl)) pgs_nil))) (fun s H0 C cl fp => pts_one (tb_pt s H0 C cl fp)) (fun i d x H2 e g hx Q q => ?_)
      rw [List.getElem?_map] at e
      obtain ⟨z, hz, rfl⟩ := Option.map_eq_some_iff.mp e
      refine gt_2 hx fun v1 v2 k1 k2 => ?_
      exact q _ (freshO o z.1) z.1 z.2 rfl (et_blk fun s H0 C cl fp => et_val (ev_fresh T hr (by decide) (ol.g g) (ev_nmV 0) (ev_nm 6 k1) rfl rfl _)) (fun _ => ⟨ev_blk fun s H0 C cl fp => ev_nm 6 k1, ev_blk fun s H0 C cl fp => ev_nm 7 k2⟩) (filt_put fo.tnd hz)
    · obtain ⟨fa, rfl, hf0, hfw⟩ := pv
      have g16 := g15.t g6
      have ho6 := ho5.g g6
      obtain ⟨kvs2, he, hk2⟩ := ho6.den
      have en := fo.en
      have kl : (keepF o t).length ≤ 1000 := Nat.le_trans (List.length_filter_le _ _) fo.tree.len
      refine bl_upd (i := 5) (m' := o.en.map fun q => (q.1, fillF q.2 t c)) g6.r rfl hfw (by rw [List.length_map]; omega) (ev_lock ul_dn he fun od => ?_) (fun H7 H8 g7 dm wd => ?_)
      · have t6 := ((hd.g g16).r).lk (od := od) he
        have c6 := ((hc.g g16).r).lk (od := od) he
        refine ev_dcR (own := [("name", 6), ("row", 8)]) (gt := gTup K 2 (gCons (gName 6) (gCons (gName 8) gNil))) (ds := o.en.map fun q => .tuple [.str q.1, rowD q.2]) (fun i => (o.en.map fun q => (q.1, fillF q.2 t c)).take i) (by simp) (by rw [List.length_map, ← List.length_map (f := fun q : Str × List Pc => (q.1, fillF q.2 t c)), List.take_length]) rfl nd (blkOk_by (sc := defScope sm_filled) (N := ["self", "tree", "cells", "save", "many", "found", "name", "held", "row"]) (by decide +kernel)) (ei_items (f := rowD) (ev_slot T sl_e (ho6.sl.lk he) rfl (ev_nmV 0)) lk_same (hk2.lk he)) (by rw [List.length_map]; omega)
          (fun _ _ _ _ _ => pg_tup rfl (pgs_cons (pg_name nd rfl (Or.inl rfl)) (pgs_cons (pg_name nd rfl (Or.inl rfl)) pgs_nil))) (fun _ _ _ _ _ => pts_nil) (fun i d x H2 e g hx Q q => ?_)
        rw [List.getElem?_map] at e
        obtain ⟨z, hz, rfl⟩ := Option.map_eq_some_iff.mp e
        refine gt_2 hx fun v1 v2 k1 k2 => ?_
        have nen : ((o.en.map fun q => (q.1, fillF q.2 t c)).map (·.1)).Nodup := by
          rw [List.map_map]
          exact en.2
        exact q _ true z.1 (fillF z.2 t c) rfl et_yes (fun _ => ⟨ev_blk fun s H0 C cl fp => ev_nm 6 k1, ev_blk fun s H0 C cl fp => ev_cor T hr (by decide) (fo.fill z (List.mem_of_getElem? hz)) (ev_nm 8 k2) (ev_nmDR 1 (t6.g g)) (ev_nmTR 2 (c6.g g))⟩) (by rw [if_pos rfl]; exact take_put (q := (z.1, fillF z.2 t c)) nen (by rw [List.getElem?_map, hz]; rfl))
      · have gg : Gr M0 H H8 := dm.gr (g16.t g7) (g15.back hf0)
        have nm : ((putAll (keepF o t) (o.en.map fun q => (q.1, fillF q.2 t c))).map (·.1)).Nodup := putAll_keys _ _ (by
          have := fo.tnd
          unfold keepF
          exact (List.Sublist.map _ (List.filter_sublist)).nodup this)
        refine bl_ret (Gr.z H8) (P := PDN K tpl (fillO o t c)) ?_ (fun v H9 g9 ⟨r, e, n, w⟩ => by
          subst e
          exact hQ r H9 (gg.t g9) (gg.back n) w)
        refine ev_dcR (own := [("name", 6)]) (gt := gName 6) (ds := (srt ((putAll (keepF o t) (o.en.map fun q => (q.1, fillF q.2 t c))).map (·.1))).map PyData.str) (fun i => ((srt ((putAll (keepF o t) (o.en.map fun q => (q.1, fillF q.2 t c))).map (·.1))).take i).filterMap (fun n => (trGet (putAll (keepF o t) (o.en.map fun q => (q.1, fillF q.2 t c))) n).map fun b => (n, b))) rfl (by rw [List.length_map, List.take_length]; rfl) rfl nd (blkOk_by (sc := defScope sm_filled) (N := ["self", "tree", "cells", "save", "many", "found", "name", "held", "row"]) (by decide +kernel)) (ei_list (Ev.lm (ev_sortD rfl T.f_sorted fo.few (ev_nmDR 5 wd.r)))) ?_
          (fun _ _ _ _ _ => pg_name nd rfl (Or.inl rfl)) (fun _ _ _ _ _ => pts_nil) (fun i d x H2 e g hx Q q => gt_name ?_)
        · rw [List.length_map, (srt_perm _).length_eq, List.length_map]
          have := fo.few
          omega
        · obtain ⟨n, hn, rfl⟩ : ∃ n, (srt ((putAll (keepF o t) (o.en.map fun q => (q.1, fillF q.2 t c))).map (·.1)))[i]? = some n ∧ d = .str n := by
            rw [List.getElem?_map] at e
            obtain ⟨n, h1, h2⟩ := Option.map_eq_some_iff.mp e
            exact ⟨n, h1, h2.symm⟩
          obtain ⟨b, hb⟩ := get_in (srt_mem.mp (List.mem_of_getElem? hn))
          exact q _ true n b rfl et_yes (fun _ => ⟨ev_blk fun s H0 C cl fp => ev_nm 6 hx, ev_blk fun s H0 C cl fp => ev_dget (f := tpl) (hu64 hr) (ev_nmDR 5 (wd.r.g g)) (ev_nm 6 hx) hb⟩) (sort_step nm hn hb)
end
end SR
set_option Elab.async false
set_option linter.all false
set_option maxRecDepth 100000
set_option maxHeartbeats 4000000
/-! plain: maps as lists of pairs -/
namespace SR
open PySem PySem.Spec PyProof.Rows L2
section
variable {κ β γ : Type} [DecidableEq κ]
theorem get_cons (q : κ × β) (t : List (κ × β)) (n : κ) : trGet (q :: t) n = if q.1 = n then some q.2 else trGet t n := by
  unfold trGet
  rw [List.find?_cons]
  by_cases h : q.1 = n
  · simp [h]
  · simp [h]
theorem get_nil (n : κ) : trGet ([] : List (κ × β)) n = none := rfl
theorem get_app (a b : List (κ × β)) (n : κ) : trGet (a ++ b) n = (trGet a n).or (trGet b n) := by
  induction a with
  | nil => rfl
  | cons q a ih =>
    rw [List.cons_append, get_cons, get_cons, ih]
    by_cases h : q.1 = n
    · simp [h]
    · simp [h]
theorem get_mapSet (t : List (κ × β)) (n m : κ) (x : β) : trGet (t.map fun q => if q.1 = n then (q.1, x) else q) m = if n = m ∧ (trGet t n).isSome = true then some x else trGet t m := by
  induction t with
  | nil => simp [get_nil]
  | cons q t ih =>
    rw [List.map_cons, get_cons, ih, get_cons, get_cons]
    by_cases h : q.1 = n
    · by_cases h2 : n = m
      · simp [h, h2]
      · simp [h, h2]
    · by_cases h2 : n = m
      · have h3 : ¬ q.1 = m := fun z => h (z.trans h2.symm)
        simp [h, h2, h3]
      · simp [h, h2]
theorem get_put (t : List (κ × β)) (n m : κ) (x : β) : trGet (trPut t n x) m = if n = m then some x else trGet t m := by
  cases e : trGet t n with
  | none =>
    rw [trPut_none e, get_app, get_cons, get_nil]
    by_cases h : n = m
    · rw [← h, e]
      simp
    · simp [h]
  | some y =>
    unfold trPut
    rw [if_pos (by rw [any_of_get, e]; rfl), get_mapSet, e]
    simp
theorem get_filter (t : List (κ × β)) (p : κ → Bool) (n : κ) : trGet (t.filter fun q => p q.1) n = if p n = true then trGet t n else none := by
  induction t with
  | nil => simp [get_nil]
  | cons q t ih =>
    rw [List.filter_cons, get_cons]
    by_cases h : p q.1 = true
    · rw [if_pos h, get_cons, ih]
      by_cases h2 : q.1 = n
      · rw [if_pos h2, if_pos (h2 ▸ h)]
        simp [h2]
      · rw [if_neg h2, if_neg h2]
    · rw [if_neg h, ih]
      by_cases h2 : q.1 = n
      · rw [← h2, if_neg h, if_neg h]
      · simp [h2]
theorem get_drop (t : List (κ × β)) (n m : κ) : trGet (trDrop t n) m = if m = n then none else trGet t m := by
  unfold trDrop
  have h := get_filter t (fun k => decide (k ≠ n)) m
  rw [h]
  by_cases e : m = n
  · simp [e]
  · simp [e]
theorem get_map {γ : Type} (t : List (κ × β)) (g : β → γ) (n : κ) : trGet (t.map fun q => (q.1, g q.2)) n = (trGet t n).map g := by
  induction t with
  | nil => rfl
  | cons q t ih =>
    rw [List.map_cons, get_cons, get_cons, ih]
    by_cases h : q.1 = n
    · simp [h]
    · simp [h]
theorem get_some_mem {t : List (κ × β)} {n : κ} {b : β} (h : trGet t n = some b) : (n, b) ∈ t := by
  unfold trGet at h
  obtain ⟨q, z2, z3⟩ := Option.map_eq_some_iff.mp h
  have h1 := List.mem_of_find?_eq_some z2
  have h2 := List.find?_some z2
  have h3 : q.1 = n := of_decide_eq_true h2
  rw [← h3, ← z3]
  exact h1
theorem get_isSome {t : List (κ × β)} {n : κ} : (trGet t n).isSome = true ↔ n ∈ t.map (·.1) := by
  constructor
  · intro h
    obtain ⟨b, e⟩ := Option.isSome_iff_exists.mp h
    exact List.mem_map.mpr ⟨_, get_some_mem e, rfl⟩
  · intro h
    obtain ⟨b, e⟩ := get_in h
    rw [e]
    rfl
theorem get_of_mem {t : List (κ × β)} (nd : (t.map (·.1)).Nodup) {q : κ × β} (h : q ∈ t) : trGet t q.1 = some q.2 := by
  induction t with
  | nil => cases h
  | cons p t ih =>
    rw [List.map_cons, List.nodup_cons] at nd
    rw [get_cons]
    rcases List.mem_cons.mp h with rfl | h
    · simp
    · have : ¬ p.1 = q.1 := fun z => nd.1 (z ▸ List.mem_map_of_mem h)
      rw [if_neg this]
      exact ih nd.2 h
theorem drop_keys {t : List (κ × β)} {n : κ} (h : (t.map (·.1)).Nodup) : ((trDrop t n).map (·.1)).Nodup := by
  unfold trDrop
  exact (List.Sublist.map _ List.filter_sublist).nodup h
theorem drop_len (t : List (κ × β)) (n : κ) : (trDrop t n).length ≤ t.length := List.length_filter_le _ _
theorem drop_len_lt {t : List (κ × β)} {n : κ} (h : (trGet t n).isSome = true) : (trDrop t n).length < t.length := by
  unfold trDrop
  obtain ⟨b, e⟩ := Option.isSome_iff_exists.mp h
  refine Nat.lt_of_le_of_ne (List.length_filter_le _ _) fun z => ?_
  have h1 := List.length_filter_eq_length_iff.mp z _ (get_some_mem e)
  exact (of_decide_eq_true h1) rfl
theorem mem_put {t : List (κ × β)} {n : κ} {x : β} {q : κ × β} (h : q ∈ trPut t n x) : q = (n, x) ∨ q ∈ t := by
  unfold trPut at h
  split at h
  · obtain ⟨p, hp, e⟩ := List.mem_map.mp h
    split at e
    · rename_i z
      left
      rw [← e, z]
    · right
      rw [← e]
      exact hp
  · rcases List.mem_append.mp h with h | h
    · exact .inr h
    · exact .inl (List.mem_singleton.mp h)
theorem mem_drop {t : List (κ × β)} {n : κ} {q : κ × β} (h : q ∈ trDrop t n) : q ∈ t := (List.mem_filter.mp h).1
theorem nodup_perm : ∀ {l l' : List κ}, l.Nodup → l'.Nodup → (∀ x, x ∈ l ↔ x ∈ l') → l.Perm l'
  | [], l', _, _, h => by
    cases l' with
    | nil => exact .nil
    | cons y r => exact absurd ((h y).mpr List.mem_cons_self) List.not_mem_nil
  | x :: r, l', n1, n2, h => by
    rw [List.nodup_cons] at n1
    have hx : x ∈ l' := (h x).mp List.mem_cons_self
    refine (List.Perm.cons x (nodup_perm n1.2 (n2.erase x) fun y => ?_)).trans (List.perm_cons_erase hx).symm
    rw [n2.mem_erase_iff]
    constructor
    · intro hy
      exact ⟨fun z => n1.1 (z ▸ hy), (h y).mp (List.mem_cons_of_mem _ hy)⟩
    · rintro ⟨h1, h2⟩
      rcases List.mem_cons.mp ((h y).mpr h2) with z | z
      · exact absurd z h1
      · exact z
theorem nodup_le : ∀ {l l' : List κ}, l.Nodup → (∀ x ∈ l, x ∈ l') → l.length ≤ l'.length
  | [], l', _, _ => Nat.zero_le _
  | x :: r, l', n1, h => by
    rw [List.nodup_cons] at n1
    have hx : x ∈ l' := h x List.mem_cons_self
    have h1 := nodup_le (l' := l'.erase x) n1.2 fun y hy => (List.mem_erase_of_ne (fun z : y = x => n1.1 (z ▸ hy))).mpr (h y (List.mem_cons_of_mem _ hy))
    rw [List.length_erase_of_mem hx] at h1
    have h2 := List.length_pos_of_mem hx
    rw [List.length_cons]
    omega
theorem keys_perm {t : List (κ × β)} {u : List (κ × γ)} (n1 : (t.map (·.1)).Nodup) (n2 : (u.map (·.1)).Nodup) (h : ∀ n, (trGet t n).isSome = (trGet u n).isSome) : (t.map (·.1)).Perm (u.map (·.1)) :=
  nodup_perm n1 n2 fun x => by rw [← get_isSome, ← get_isSome, h]
theorem putAll_get {r : List (κ × β)} : ∀ {m : List (κ × β)}, (r.map (·.1)).Nodup → ∀ n, trGet (putAll m r) n = (trGet r n).or (trGet m n) := by
  induction r with
  | nil => intro m _ n; simp [putAll, get_nil]
  | cons q r ih =>
    intro m nd n
    rw [List.map_cons, List.nodup_cons] at nd
    show trGet (putAll (trPut m q.1 q.2) r) n = _
    rw [ih nd.2, get_put, get_cons]
    by_cases h : q.1 = n
    · rw [if_pos h, if_pos h, get_none (h ▸ nd.1)]
      rfl
    · rw [if_neg h, if_neg h]
end
theorem eqvM_of {β : Type} {f : β → PyData} {m m' : List (Str × β)} (n1 : (m.map (·.1)).Nodup) (n2 : (m'.map (·.1)).Nodup) (h : ∀ n, trGet m n = trGet m' n) (r : ∀ q ∈ m, PyData.eqv (f q.2) (f q.2) = true) : eqvM f f m m' = true := by
  unfold eqvM
  have p := (keys_perm n1 n2 fun n => by rw [h]).length_eq
  rw [List.length_map, List.length_map] at p
  rw [decide_eq_true p, Bool.true_and, List.all_eq_true]
  intro q hq
  rw [← h, get_of_mem n1 hq]
  exact r q hq
theorem fm_get {β : Type} (m : List (Str × β)) (ns : List Str) (n : Str) : trGet (ns.filterMap fun n => (trGet m n).map fun b => (n, b)) n = if n ∈ ns then trGet m n else none := by
  induction ns with
  | nil => simp [get_nil]
  | cons k ns ih =>
    rw [List.filterMap_cons]
    cases e : trGet m k with
    | none =>
      simp only [Option.map_none]
      rw [ih]
      by_cases h : n = k
      · subst h
        rw [e]
        simp
      · simp [h]
    | some b =>
      simp only [Option.map_some]
      rw [get_cons, ih]
      by_cases h : k = n
      · subst h
        simp [e]
      · have h' : ¬ n = k := fun z => h z.symm
        simp [h, h']
theorem fm_keys {β : Type} (m : List (Str × β)) (ns : List Str) (h : ∀ n ∈ ns, (trGet m n).isSome = true) : (ns.filterMap fun n => (trGet m n).map fun b => (n, b)).map (·.1) = ns := by
  induction ns with
  | nil => rfl
  | cons k ns ih =>
    obtain ⟨b, e⟩ := Option.isSome_iff_exists.mp (h k List.mem_cons_self)
    rw [List.filterMap_cons, e]
    simp only [Option.map_some, List.map_cons]
    rw [ih fun n hn => h n (List.mem_cons_of_mem _ hn)]
theorem sortM_keys {β : Type} (m : List (Str × β)) : (sortM m).map (·.1) = srt (m.map (·.1)) := fm_keys m _ fun n hn => get_isSome.mpr (srt_mem.mp hn)
theorem sortM_nodup {β : Type} {m : List (Str × β)} (h : (m.map (·.1)).Nodup) : ((sortM m).map (·.1)).Nodup := by
  rw [sortM_keys]
  exact srt_nodup h
theorem sortM_get {β : Type} (m : List (Str × β)) (n : Str) : trGet (sortM m) n = trGet m n := by
  unfold sortM
  rw [fm_get]
  by_cases h : n ∈ srt (m.map (·.1))
  · rw [if_pos h]
  · rw [if_neg h, get_none fun z => h (srt_mem.mpr z)]
theorem sortM_len {β : Type} (m : List (Str × β)) : (sortM m).length = m.length := by
  have h := congrArg List.length (sortM_keys m)
  rw [List.length_map, (srt_perm _).length_eq, List.length_map] at h
  exact h
end SR
set_option Elab.async false
set_option linter.all false
set_option maxRecDepth 100000
set_option maxHeartbeats 4000000
/-! plain: rows and what they give -/
namespace SR
open PySem PySem.Spec PyProof.Rows L2
def cutH (hf : So → List PyData) (p : Pc) : List PyData := ((hf p.so).take (p.a + p.n)).drop p.a
def fillH (hf : So → List PyData) (r : List Pc) : List PyData := (r.map (cutH hf)).flatten
theorem fillF_H (r : List Pc) (t : Tr) (c : Cl) : fillF r t c = fillH (heldF t c) r := rfl
structure PIn (B : So → Nat) (p : Pc) : Prop where
  pos : 1 ≤ p.n
  le : p.a + p.n ≤ B p.so
def RIn (B : So → Nat) (r : List Pc) : Prop := ∀ p ∈ r, PIn B p
def NoGo (r : List Pc) : Prop := ∀ i p q, r[i]? = some p → r[i + 1]? = some q → goes p q = false
theorem RIn.mono {B B' : So → Nat} {r : List Pc} (h : RIn B r) (k : ∀ so, B so ≤ B' so) : RIn B' r := fun p hp => ⟨(h p hp).pos, Nat.le_trans (h p hp).le (k _)⟩
theorem RIn.app {B : So → Nat} {r r' : List Pc} (h : RIn B r) (h' : RIn B r') : RIn B (r ++ r') := fun p hp => (List.mem_append.mp hp).elim (h p) (h' p)
theorem RIn.nil {B : So → Nat} : RIn B [] := fun p hp => by cases hp
theorem fillH_nil (hf : So → List PyData) : fillH hf [] = [] := rfl
theorem fillH_cons (hf : So → List PyData) (p : Pc) (r : List Pc) : fillH hf (p :: r) = cutH hf p ++ fillH hf r := rfl
theorem fillH_app (hf : So → List PyData) (r r' : List Pc) : fillH hf (r ++ r') = fillH hf r ++ fillH hf r' := by
  unfold fillH
  rw [List.map_append, List.flatten_append]
section
variable {hf : So → List PyData} {B : So → Nat}
theorem cut_len (hB : ∀ so, B so ≤ (hf so).length) {p : Pc} (h : PIn B p) : (cutH hf p).length = p.n := by
  unfold cutH
  have h1 := h.le
  have h2 := hB p.so
  rw [List.length_drop, List.length_take]
  omega
theorem fill_len (hB : ∀ so, B so ≤ (hf so).length) : ∀ {r : List Pc}, RIn B r → (fillH hf r).length = lenF r
  | [], _ => rfl
  | p :: r, h => by
    rw [fillH_cons, List.length_append, cut_len hB (h p List.mem_cons_self), fill_len hB fun q hq => h q (List.mem_cons_of_mem _ hq), lenF_cons]
theorem cut_part (p : Pc) (x y : Nat) (h : x < min y p.n) : cutH hf ⟨p.so, p.a + x, min y p.n - x⟩ = ((cutH hf p).take y).drop x := by
  unfold cutH
  show ((hf p.so).take (p.a + x + (min y p.n - x))).drop (p.a + x) = ((((hf p.so).take (p.a + p.n)).drop p.a).take y).drop x
  rw [List.take_drop, List.take_take, List.drop_drop]
  congr 2
  omega
theorem fill_part (hB : ∀ so, B so ≤ (hf so).length) (f s : Nat) : ∀ {r : List Pc} (t : Nat), RIn B r → fillH hf (partF r t f s) = ((fillH hf r).take (s - t)).drop (f - t)
  | [], t, _ => by simp [partF, fillH_nil]
  | p :: r, t, h => by
    have hc := cut_len hB (h p List.mem_cons_self)
    have ih := fill_part hB f s (r := r) (t + p.n) fun q hq => h q (List.mem_cons_of_mem _ hq)
    show fillH hf ((if f - t < min (s - t) p.n then [(⟨p.so, p.a + (f - t), min (s - t) p.n - (f - t)⟩ : Pc)] else []) ++ partF r (t + p.n) f s) = _
    rw [fillH_app, ih, fillH_cons, List.take_append, List.drop_append, hc]
    have e1 : fillH hf (if f - t < min (s - t) p.n then [(⟨p.so, p.a + (f - t), min (s - t) p.n - (f - t)⟩ : Pc)] else []) = ((cutH hf p).take (s - t)).drop (f - t) := by
      by_cases g : f - t < min (s - t) p.n
      · rw [if_pos g, fillH_cons, fillH_nil, List.append_nil, cut_part p _ _ g]
      · rw [if_neg g, fillH_nil]
        refine (List.drop_eq_nil_of_le ?_).symm
        rw [List.length_take, hc]
        omega
    rw [e1]
    congr 1
    have e2 : s - (t + p.n) = s - t - p.n := by omega
    rw [e2, List.length_take, hc]
    by_cases g : p.n ≤ s - t
    · have e3 : f - t - min (s - t) p.n = f - (t + p.n) := by omega
      rw [e3]
    · have e4 : s - t - p.n = 0 := by omega
      rw [e4]
      simp
theorem part_in (f s : Nat) : ∀ {r : List Pc} (t : Nat), RIn B r → RIn B (partF r t f s)
  | [], t, _ => RIn.nil
  | p :: r, t, h => by
    show RIn B ((if f - t < min (s - t) p.n then [(⟨p.so, p.a + (f - t), min (s - t) p.n - (f - t)⟩ : Pc)] else []) ++ partF r (t + p.n) f s)
    refine RIn.app ?_ (part_in f s (t + p.n) fun q hq => h q (List.mem_cons_of_mem _ hq))
    by_cases g : f - t < min (s - t) p.n
    · rw [if_pos g]
      intro q hq
      cases List.mem_singleton.mp hq
      have h1 := (h p List.mem_cons_self).le
      refine ⟨?_, ?_⟩
      · show 1 ≤ min (s - t) p.n - (f - t)
        omega
      · show p.a + (f - t) + (min (s - t) p.n - (f - t)) ≤ B p.so
        omega
    · rw [if_neg g]
      exact RIn.nil
theorem row_in {so : So} {l : Nat} (h : l ≤ B so) : RIn B (rowOf so l) := by
  unfold rowOf
  by_cases g : 0 < l
  · rw [if_pos g]
    intro q hq
    cases List.mem_singleton.mp hq
    exact ⟨g, by show 0 + l ≤ B so; omega⟩
  · rw [if_neg g]
    exact RIn.nil
theorem row_fill {so : So} {l : Nat} (h : (hf so).length = l) : fillH hf (rowOf so l) = hf so := by
  unfold rowOf
  by_cases g : 0 < l
  · rw [if_pos g, fillH_cons, fillH_nil, List.append_nil]
    unfold cutH
    show ((hf so).take (0 + l)).drop 0 = hf so
    rw [List.drop_zero, List.take_of_length_le (by omega)]
  · rw [if_neg g, fillH_nil]
    exact (List.length_eq_zero_iff.mp (by omega)).symm
theorem row_lenF (so : So) (l : Nat) : lenF (rowOf so l) = l := by
  unfold rowOf
  by_cases g : 0 < l
  · rw [if_pos g]
    simp [lenF]
  · rw [if_neg g]
    simp [lenF]
    omega
theorem len_le : ∀ {r : List Pc}, RIn B r → r.length ≤ lenF r
  | [], _ => Nat.zero_le _
  | p :: r, h => by
    have h1 := (h p List.mem_cons_self).pos
    have h2 := len_le fun q hq => h q (List.mem_cons_of_mem p hq)
    rw [List.length_cons, lenF_cons]
    omega
end
/-! joining -/
theorem step_cases (acc : List Pc) (p : Pc) : (∃ a q, acc = a ++ [q] ∧ goes q p = true ∧ joinStep acc p = a ++ [⟨p.so, q.a, q.n + p.n⟩]) ∨ ((∀ q, acc.getLast? = some q → goes q p = false) ∧ joinStep acc p = acc ++ [p]) := by
  rcases List.eq_nil_or_concat acc with rfl | ⟨a, q, rfl⟩
  · right
    exact ⟨fun q h => (by cases h), rfl⟩
  · rw [List.concat_eq_append, joinStep_snoc]
    by_cases g : goes q p = true
    · left
      exact ⟨a, q, rfl, g, by rw [if_pos g]⟩
    · right
      refine ⟨fun x h => ?_, by rw [if_neg g]⟩
      rw [List.getLast?_append, List.getLast?_singleton] at h
      cases h
      simpa using g
theorem cut_two {α : Type} (l : List α) (a n m : Nat) : (l.take (a + (n + m))).drop a = (l.take (a + n)).drop a ++ (l.take (a + n + m)).drop (a + n) := by
  rw [List.drop_take, List.drop_take, List.drop_take, show a + (n + m) - a = n + m by omega, show a + n - a = n by omega, show a + n + m - (a + n) = m by omega, List.take_add, List.drop_drop]
theorem step_fill (hf : So → List PyData) (acc : List Pc) (p : Pc) : fillH hf (joinStep acc p) = fillH hf acc ++ cutH hf p := by
  rcases step_cases acc p with ⟨a, q, rfl, g, e⟩ | ⟨_, e⟩
  · obtain ⟨g1, g2⟩ := goes_iff.mp g
    rw [e, fillH_app, fillH_app, List.append_assoc]
    congr 1
    rw [fillH_cons, fillH_cons, fillH_nil, List.append_nil, List.append_nil]
    unfold cutH
    show ((hf p.so).take (q.a + (q.n + p.n))).drop q.a = ((hf q.so).take (q.a + q.n)).drop q.a ++ ((hf p.so).take (p.a + p.n)).drop p.a
    rw [g1, g2]
    exact cut_two _ _ _ _
  · rw [e, fillH_app, fillH_cons, fillH_nil, List.append_nil]
theorem fold_fill (hf : So → List PyData) : ∀ (ps acc : List Pc), fillH hf (ps.foldl joinStep acc) = fillH hf acc ++ fillH hf ps
  | [], acc => by simp [fillH_nil]
  | p :: ps, acc => by
    rw [List.foldl_cons, fold_fill hf ps, step_fill, fillH_cons, List.append_assoc]
theorem join_fill (hf : So → List PyData) (ps : List Pc) : fillH hf (joinF ps) = fillH hf ps := by
  unfold joinF
  rw [fold_fill, fillH_nil, List.nil_append]
theorem step_in {B : So → Nat} {acc : List Pc} {p : Pc} (h : RIn B acc) (hp : PIn B p) : RIn B (joinStep acc p) := by
  rcases step_cases acc p with ⟨a, q, rfl, g, e⟩ | ⟨_, e⟩
  · obtain ⟨g1, g2⟩ := goes_iff.mp g
    rw [e]
    refine RIn.app (fun x hx => h x (List.mem_append_left _ hx)) fun x hx => ?_
    cases List.mem_singleton.mp hx
    have h1 := hp.le
    have h2 := hp.pos
    refine ⟨?_, ?_⟩
    · show 1 ≤ q.n + p.n
      omega
    · show q.a + (q.n + p.n) ≤ B p.so
      omega
  · rw [e]
    exact h.app fun x hx => by cases List.mem_singleton.mp hx; exact hp
theorem fold_in {B : So → Nat} : ∀ (ps : List Pc) {acc : List Pc}, RIn B acc → RIn B ps → RIn B (ps.foldl joinStep acc)
  | [], _, h, _ => h
  | p :: ps, _, h, h2 => fold_in ps (step_in h (h2 p List.mem_cons_self)) fun q hq => h2 q (List.mem_cons_of_mem _ hq)
theorem join_in {B : So → Nat} {ps : List Pc} (h : RIn B ps) : RIn B (joinF ps) := fold_in ps RIn.nil h
theorem nogo_nil : NoGo [] := fun i p q h => by cases h
theorem nogo_snoc {acc : List Pc} {p : Pc} (h : NoGo acc) (h2 : ∀ q, acc.getLast? = some q → goes q p = false) : NoGo (acc ++ [p]) := by
  intro i x y hx hy
  have hi : i + 1 < (acc ++ [p]).length := (List.getElem?_eq_some_iff.mp hy).1
  rw [List.length_append, List.length_singleton] at hi
  by_cases g : i + 1 < acc.length
  · rw [List.getElem?_append_left g] at hy
    rw [List.getElem?_append_left (by omega)] at hx
    exact h i x y hx hy
  · have e : i + 1 = acc.length := by omega
    rw [List.getElem?_append_left (by omega)] at hx
    rw [List.getElem?_append_right (by omega), e, Nat.sub_self] at hy
    have e1 : p = y := by simpa using hy
    subst e1
    refine h2 x ?_
    rw [List.getLast?_eq_getElem?, ← hx]
    congr 1
    omega
theorem nogo_pre {acc : List Pc} {p : Pc} (h : NoGo (acc ++ [p])) : NoGo acc := by
  intro i x y hx hy
  have hi : i + 1 < acc.length := (List.getElem?_eq_some_iff.mp hy).1
  exact h i x y (by rw [List.getElem?_append_left (by omega)]; exact hx) (by rw [List.getElem?_append_left hi]; exact hy)
theorem nogo_last {acc : List Pc} {p q : Pc} (h : NoGo (acc ++ [p])) (e : acc.getLast? = some q) : goes q p = false := by
  rw [List.getLast?_eq_getElem?] at e
  have hi : acc.length - 1 < acc.length := (List.getElem?_eq_some_iff.mp e).1
  refine h (acc.length - 1) q p (by rw [List.getElem?_append_left hi]; exact e) ?_
  rw [show acc.length - 1 + 1 = acc.length by omega, List.getElem?_append_right (Nat.le_refl _), Nat.sub_self]
  rfl
theorem step_nogo {acc : List Pc} {p : Pc} (h : NoGo acc) : NoGo (joinStep acc p) := by
  rcases step_cases acc p with ⟨a, q, rfl, g, e⟩ | ⟨hl, e⟩
  · obtain ⟨g1, g2⟩ := goes_iff.mp g
    rw [e]
    refine nogo_snoc (nogo_pre h) fun x hx => ?_
    have h1 := nogo_last h hx
    unfold goes at h1 ⊢
    show (decide (p.so = x.so) && decide (q.a = x.a + x.n)) = false
    rw [g1]
    exact h1
  · rw [e]
    exact nogo_snoc h hl
theorem fold_nogo : ∀ (ps : List Pc) {acc : List Pc}, NoGo acc → NoGo (ps.foldl joinStep acc)
  | [], _, h => h
  | p :: ps, _, h => fold_nogo ps (step_nogo h)
theorem join_nogo (ps : List Pc) : NoGo (joinF ps) := fold_nogo ps nogo_nil
theorem row_nogo (so : So) (l : Nat) : NoGo (rowOf so l) := by
  unfold rowOf
  by_cases g : 0 < l
  · rw [if_pos g]
    intro i p q h h2
    simp at h2
  · rw [if_neg g]
    exact nogo_nil
theorem rowok_of {B : So → Nat} {r : List Pc} (h : RIn B r) (n : NoGo r) (hso : ∀ so, 1 ≤ B so → so.ok) (hB : ∀ so, B so ≤ 100000) (hl : lenF r ≤ 10000) : RowOk r :=
  ⟨Nat.le_trans (len_le h) hl, fun p hp => ⟨hso _ (by have := (h p hp).pos; have := (h p hp).le; omega), (h p hp).pos, Nat.le_trans (h p hp).le (hB _)⟩, n⟩
/-! by its sources -/
def symH (B : So → Nat) (so : So) : List PyData := (List.range (B so)).map fun i => orgD (so, i)
theorem sym_len (B : So → Nat) (so : So) : (symH B so).length = B so := by
  unfold symH
  rw [List.length_map, List.length_range]
theorem sym_cut {B : So → Nat} {p : Pc} (h : PIn B p) : cutH (symH B) p = ((List.range p.n).map fun i => orgD (p.so, p.a + i)) := by
  unfold cutH symH
  have h1 := h.le
  rw [← List.map_take, ← List.map_drop, List.take_range, show min (p.a + p.n) (B p.so) = p.a + p.n by omega, List.range_add, List.drop_append, List.length_range, Nat.sub_self, List.drop_zero, List.drop_eq_nil_of_le (by rw [List.length_range]; omega), List.nil_append, List.map_map]
  rfl
theorem sym_fill {B : So → Nat} : ∀ {r : List Pc}, RIn B r → fillH (symH B) r = (expF r).map orgD
  | [], _ => rfl
  | p :: r, h => by
    rw [fillH_cons, expF_cons, List.map_append, sym_fill fun q hq => h q (List.mem_cons_of_mem _ hq), sym_cut (h p List.mem_cons_self), List.map_map]
    rfl
end SR
set_option Elab.async false
set_option linter.all false
set_option maxRecDepth 100000
set_option maxHeartbeats 4000000
/-! the law's own: saves, marks, deeds -/
namespace SR
open PySem PySem.Spec PyProof.Rows L2
def svF (n : Nat) : Sv := (1 + (n : Int) % 3, 1 + (n : Int))
def Deed.kind : Deed → Str
  | .put _ _ => "put"
  | .patch _ _ _ _ => "patch"
  | .drop _ => "drop"
  | .rename _ _ => "rename"
section
variable {M : Addr → Prop} {X : Cx} {σ : L2.St} {H : Hp} {e : Expr} {pos p p2 : Pos}
theorem ev_ded0 {d : Deed} (h : Ev M (wE X e) σ H (Pd X.K d.d)) (j0 : Nat) : Ev M (wE X (.Subscript e (.Constant (.int 0) j0 p) pos)) σ H (Pd X.K (.str d.kind)) := by
  cases d <;> exact ev_ix h ev_int rfl
theorem ev_ded1 {d : Deed} (h : Ev M (wE X e) σ H (Pd X.K d.d)) (j0 : Nat) : Ev M (wE X (.Subscript e (.Constant (.int 1) j0 p) pos)) σ H (Pd X.K (.str d.name)) := by
  cases d <;> exact ev_ix h ev_int rfl
end
section
variable {P : Program} {w : World} {K : PySem.W.Frag} {mg : Str → Option Value} {base : Heap}
theorem sc_lsave : FnScope ["_law_at"] ["_law_at"] (defScope st_law_save) := ⟨rfl, rfl, rfl, by decide +kernel, rfl, by decide +kernel, by decide +kernel⟩
theorem ok_lsave (T : Txt w K mg) : C8.Cal P w K mg base 1 "_law_save" (spD K (fun n : Nat => [.int (n : Int)]) (fun n => saveD (svF n)) (fun _ => True)) [] := by
  refine fn_ok T 45 rfl sc_lsave (fun _ _ _ _ _ _ us hl => match us, hl with | [_], _ => rfl) (fun vs H Q E ⟨_, _, h, _⟩ => h.length) (fun f cdv A outer s H vs Q E hr ⟨n, _, h, hQ⟩ => ?_)
  obtain ⟨v, rfl, h1⟩ := dvA1 h
  exact bl_ret (Gr.z H) (P := Pd K (saveD (svF n))) (ev_tup (ea_cons (ev_add ev_int (ev_mod (ev_nm 0 h1) ev_int (by decide))) (ea_cons (ev_add ev_int (ev_nm 0 h1)) ea_nil)) (by simp)) (fun v H1 g p => hQ v H1 g p)
theorem sc_llen : FnScope ["_law_mark_here"] ["_law_mark_here"] (defScope st_law_length) := ⟨rfl, rfl, rfl, by decide +kernel, rfl, by decide +kernel, by decide +kernel⟩
theorem ok_llen (T : Txt w K mg) : C8.Cal P w K mg base 1 "_law_length" (spD K (fun k : Mark => [k.d]) (fun k => .int (k.news : Int)) (fun _ => True)) [] := by
  refine fn_ok T 35 rfl sc_llen (fun _ _ _ _ _ _ us hl => match us, hl with | [_], _ => rfl) (fun vs H Q E ⟨_, _, h, _⟩ => h.length) (fun f cdv A outer s H vs Q E hr ⟨k, _, h, hQ⟩ => ?_)
  obtain ⟨v, rfl, h1⟩ := dvA1 h
  refine bl_ret (Gr.z H) (P := Pd K (.int (k.news : Int))) (ev_if (et_eqS (ev_sub0 (ev_nm 0 h1) _) ev_str) (fun z => ?_) (fun z => ev_if (et_eqS (ev_sub0 (ev_nm 0 h1) _) ev_str) (fun z2 => ?_) (fun z2 => ?_))) (fun v H1 g p => hQ v H1 g p)
  · cases k with
    | put n l => exact ev_ix (ev_nm 0 h1) ev_int rfl
    | patch n i j l hh => exact absurd (z.symm.trans kd_patch_put) (by decide)
    | drop n hh => exact absurd (z.symm.trans kd_drop_put) (by decide)
    | rename n n2 hh => exact absurd (z.symm.trans kd_rename_put) (by decide)
  · cases k with
    | put n l => exact absurd (z2.symm.trans kd_put_patch) (by decide)
    | patch n i j l hh => exact ev_ix (ev_nm 0 h1) ev_int rfl
    | drop n hh => exact absurd (z2.symm.trans kd_drop_patch) (by decide)
    | rename n n2 hh => exact absurd (z2.symm.trans kd_rename_patch) (by decide)
  · cases k with
    | put n l => exact absurd (z.symm.trans kd_put_put) (by decide)
    | patch n i j l hh => exact absurd (z2.symm.trans kd_patch_patch) (by decide)
    | drop n hh => exact ev_int
    | rename n n2 hh => exact ev_int
theorem sc_lnew : FnScope ["_law_deed"] ["_law_deed"] (defScope st_law_new) := ⟨rfl, rfl, rfl, by decide +kernel, rfl, by decide +kernel, by decide +kernel⟩
theorem ok_lnew (T : Txt w K mg) : C8.Cal P w K mg base 1 "_law_new" (spD K (fun d : Deed => [d.d]) (fun d => .tuple d.cells) (fun _ => True)) [] := by
  refine fn_ok T 31 rfl sc_lnew (fun _ _ _ _ _ _ us hl => match us, hl with | [_], _ => rfl) (fun vs H Q E ⟨_, _, h, _⟩ => h.length) (fun f cdv A outer s H vs Q E hr ⟨d, _, h, hQ⟩ => ?_)
  obtain ⟨v, rfl, h1⟩ := dvA1 h
  refine bl_ret (Gr.z H) (P := Pd K (.tuple d.cells)) (ev_if (et_inT (zs := ["put", "patch"]) (ev_ded0 (ev_nm 0 h1) _) (ev_tup (ea_cons ev_str (ea_cons ev_str ea_nil)) (by simp))) (fun z => ?_) (fun z => ?_)) (fun v H1 g p => hQ v H1 g p)
  · cases d with
    | put n cs => exact ev_ix (ev_nm 0 h1) (ev_neg ev_int) rfl
    | patch n i j cs => exact ev_ix (ev_nm 0 h1) (ev_neg ev_int) rfl
    | drop n => exact absurd (show ("drop" : Str) ∈ (["put", "patch"] : List Str) from of_decide_eq_true z) (by decide +kernel)
    | rename n m => exact absurd (show ("rename" : Str) ∈ (["put", "patch"] : List Str) from of_decide_eq_true z) (by decide +kernel)
  · cases d with
    | put n cs => exact absurd (show ¬ ("put" : Str) ∈ (["put", "patch"] : List Str) from of_decide_eq_false z) (by decide +kernel)
    | patch n i j cs => exact absurd (show ¬ ("patch" : Str) ∈ (["put", "patch"] : List Str) from of_decide_eq_false z) (by decide +kernel)
    | drop n => exact ev_tup ea_nil (by show 0 ≤ 100000; decide)
    | rename n m => exact ev_tup ea_nil (by show 0 ≤ 100000; decide)
theorem sc_ldby : FnScope ["_law_mark_here", "_law_cells_here"] ["_law_mark_here", "_law_cells_here"] (defScope st_law_deed_by) := ⟨rfl, rfl, rfl, by decide +kernel, rfl, by decide +kernel, by decide +kernel⟩
theorem ok_ldby (T : Txt w K mg) : C8.Cal P w K mg base 1 "_law_deed_by" (spD K (fun z : Mark × List PyData => [z.1.d, .tuple z.2]) (fun z => (deedBy z.1 z.2).d) (fun _ => True)) [] := by
  refine fn_ok T 34 rfl sc_ldby (fun _ _ _ _ _ _ us hl => match us, hl with | [_, _], _ => rfl) (fun vs H Q E ⟨_, _, h, _⟩ => h.length) (fun f cdv A outer s H vs Q E hr ⟨⟨k, cs⟩, _, h, hQ⟩ => ?_)
  obtain ⟨v, v2, rfl, h1, h2⟩ := dvA2 h
  cases k with
  | put n l =>
    refine bl_when (Gr.z H) (EvT.is (c := true) (et_eqS (ev_sub0 (k := .put n l) (ev_nm 0 h1) _) ev_str) kd_put_put) (fun _ H1 g1 => ?_) (fun z => nt z)
    exact bl_ret g1.r (P := Pd K (Deed.d (.put n cs))) (ev_tup (ea_cons ev_str (ea_cons (ev_sub1 (k := .put n l) (ev_nm 0 (h1.g g1)) _) (ea_cons (ev_nm 1 (h2.g g1)) ea_nil))) (by simp)) (fun v H2 g p => hQ v H2 (g1.t g) p)
  | patch n i j l hh =>
    refine bl_when (Gr.z H) (EvT.is (c := false) (et_eqS (ev_sub0 (k := .patch n i j l hh) (ev_nm 0 h1) _) ev_str) kd_patch_put) (fun z => nf z) (fun _ H1 g1 => ?_)
    exact bl_ret g1.r (P := Pd K (Deed.d (.patch n i j cs))) (ev_if (EvT.is (c := true) (et_eqS (ev_sub0 (k := .patch n i j l hh) (ev_nm 0 (h1.g g1)) _) ev_str) kd_patch_patch) (fun _ => Ev.is (ev_cat (Ev.is (ev_sl (ev_nm 0 (h1.g g1)) po_none (po_some e_pe) eo_none (eo_some ev_int)) (congrArg PyData.tuple (cut_to _ 4))) (ev_tup (ea_cons (ev_nm 1 (h2.g g1)) ea_nil) (by simp)) (by simp)) rfl) (fun z => nf z)) (fun v H2 g p => hQ v H2 (g1.t g) p)
  | drop n hh =>
    refine bl_when (Gr.z H) (EvT.is (c := false) (et_eqS (ev_sub0 (k := .drop n hh) (ev_nm 0 h1) _) ev_str) kd_drop_put) (fun z => nf z) (fun _ H1 g1 => ?_)
    exact bl_ret g1.r (P := Pd K (Deed.d (.drop n))) (ev_if (EvT.is (c := false) (et_eqS (ev_sub0 (k := .drop n hh) (ev_nm 0 (h1.g g1)) _) ev_str) kd_drop_patch) (fun z => nt z) (fun _ => Ev.is (ev_sl (ev_nm 0 (h1.g g1)) po_none (po_some e_pe) eo_none (eo_some (ev_neg ev_int))) (congrArg PyData.tuple (cut_last _)))) (fun v H2 g p => hQ v H2 (g1.t g) p)
  | rename n m hh =>
    refine bl_when (Gr.z H) (EvT.is (c := false) (et_eqS (ev_sub0 (k := .rename n m hh) (ev_nm 0 h1) _) ev_str) kd_rename_put) (fun z => nf z) (fun _ H1 g1 => ?_)
    exact bl_ret g1.r (P := Pd K (Deed.d (.rename n m))) (ev_if (EvT.is (c := false) (et_eqS (ev_sub0 (k := .rename n m hh) (ev_nm 0 (h1.g g1)) _) ev_str) kd_rename_patch) (fun z => nt z) (fun _ => Ev.is (ev_sl (ev_nm 0 (h1.g g1)) po_none (po_some e_pe) eo_none (eo_some (ev_neg ev_int))) (congrArg PyData.tuple (cut_last _)))) (fun v H2 g p => hQ v H2 (g1.t g) p)
/-- the mark of a deed -/
def spMark (K : PySem.W.Frag) : Sp := fun vs H Q _ => ∃ (a : Addr) (v : V) (t : Tr) (d : Deed), vs = [.ref a, v] ∧ DR K tpl H a t ∧ Dv K H v d.d ∧ (d.kind = "put" ∨ (trGet t d.name).isSome = true) ∧ d.cells.length ≤ 100000 ∧ ∀ u H', Gr M0 H H' → Dv K H' u (markF t d).d → Q u H'
theorem sc_lmark : FnScope ["_law_tree", "_law_deed", "_law_ahead"] ["_law_tree", "_law_deed"] (defScope st_law_mark) := ⟨rfl, rfl, rfl, by decide +kernel, rfl, by decide +kernel, by decide +kernel⟩
theorem ok_lmark (T : Txt w K mg) : C8.Cal P w K mg base 1 "_law_mark" (spMark K) [] := by
  refine fn_ok T 33 rfl sc_lmark (fun _ _ _ _ _ _ us hl => match us, hl with | [_, _], _ => rfl) (fun vs H Q E ⟨_, _, _, _, h, _⟩ => by rw [h]; rfl) (fun f cdv A outer s H vs Q E hr ⟨a, v, t, d, hv, ht, hd, hn, hcs, hQ⟩ => ?_)
  subst hv
  have nd := sc_lmark.nd
  -- the length of what stands there
  have ahead : ∀ H1, Gr M0 H H1 → d.kind ≠ "put" → (∀ H2, Gr M0 H H2 → wB (cX P w K mg base ["_law_tree", "_law_deed", "_law_ahead"] "_law_mark" st_law_mark f cdv A outer s H E) ((defBody st_law_mark).drop 2) { nx := fun _ H' => Q .non H', rt := Q } [some (.ref a), some v, some (.int ((((trGet t d.name).getD []).length : Nat) : Int))] H2) →
      wB (cX P w K mg base ["_law_tree", "_law_deed", "_law_ahead"] "_law_mark" st_law_mark f cdv A outer s H E) ((defBody st_law_mark).drop 1) { nx := fun _ H' => Q .non H', rt := Q } (start ["_law_tree", "_law_deed", "_law_ahead"] [.ref a, v]) H1 := by
    intro H1 g1 hk fin
    have hs : (trGet t d.name).isSome = true := hn.resolve_left hk
    obtain ⟨b, hb⟩ := Option.isSome_iff_exists.mp hs
    refine bl_set (i := 2) g1.r (P := Pd K (.int ((((trGet t d.name).getD []).length : Nat) : Int))) (Ev.is (ev_lenT (ds := b) T.f_len (ev_dget (f := tpl) (hu64 hr) (ev_nmDR 0 (ht.g g1)) (ev_ded1 (ev_nm 1 (hd.g g1)) _) hb)) (by rw [hb]; rfl)) (fun y H2 g2 py => ?_) nd
    obtain rfl := dv_int py
    exact fin H2 (g1.t g2)
  cases d with
  | put n cs =>
    refine bl_when (Gr.z H) (EvT.is (c := true) (et_eqS (ev_ded0 (d := .put n cs) (ev_nm 1 hd) _) ev_str) kd_put_put) (fun _ H1 g1 => ?_) (fun z => nt z)
    exact bl_ret g1.r (P := Pd K (Mark.d (.put n cs.length))) (ev_tup (ea_cons ev_str (ea_cons (ev_ded1 (d := .put n cs) (ev_nm 1 (hd.g g1)) _) (ea_cons (ev_lenT (ds := cs) T.f_len (ev_ix (ev_nm 1 (hd.g g1)) ev_int rfl)) ea_nil))) (by simp)) (fun v H2 g p => hQ v H2 (g1.t g) p)
  | patch n i j cs =>
    refine bl_when (Gr.z H) (EvT.is (c := false) (et_eqS (ev_ded0 (d := .patch n i j cs) (ev_nm 1 hd) _) ev_str) kd_patch_put) (fun z => nf z) (fun _ H1 g1 => ahead H1 g1 (of_decide_eq_false kd_patch_put) fun H2 g2 => ?_)
    have h2 := hd.g g2
    refine bl_when (Gr.z H2) (EvT.is (c := true) (et_eqS (ev_ded0 (d := .patch n i j cs) (ev_nm 1 h2) _) ev_str) kd_patch_patch) (fun _ H3 g3 => ?_) (fun z => nt z)
    have h3 := h2.g g3
    exact bl_ret g3.r (P := Pd K (markF t (.patch n i j cs)).d) (ev_tup (ea_cons ev_str (ea_cons (ev_ded1 (d := .patch n i j cs) (ev_nm 1 h3) _) (ea_cons (ev_ix (ev_nm 1 h3) ev_int rfl) (ea_cons (ev_ix (ev_nm 1 h3) ev_int rfl) (ea_cons (ev_lenT (ds := cs) T.f_len (ev_ix (ev_nm 1 h3) ev_int rfl)) (ea_cons (ev_nm 2 (.int _)) ea_nil)))))) (by simp)) (fun v H4 g p => hQ v H4 ((g2.t g3).t g) p)
  | drop n =>
    refine bl_when (Gr.z H) (EvT.is (c := false) (et_eqS (ev_ded0 (d := .drop n) (ev_nm 1 hd) _) ev_str) kd_drop_put) (fun z => nf z) (fun _ H1 g1 => ahead H1 g1 (of_decide_eq_false kd_drop_put) fun H2 g2 => ?_)
    have h2 := hd.g g2
    refine bl_when (Gr.z H2) (EvT.is (c := false) (et_eqS (ev_ded0 (d := .drop n) (ev_nm 1 h2) _) ev_str) kd_drop_patch) (fun z => nf z) (fun _ H3 g3 => ?_)
    exact bl_ret g3.r (P := Pd K (markF t (.drop n)).d) (Ev.is (ev_cat (ev_nm 1 (h2.g g3)) (ev_tup (ea_cons (ev_nm 2 (.int _)) ea_nil) (by simp)) (by simp)) rfl) (fun v H4 g p => hQ v H4 ((g2.t g3).t g) p)
  | rename n m =>
    refine bl_when (Gr.z H) (EvT.is (c := false) (et_eqS (ev_ded0 (d := .rename n m) (ev_nm 1 hd) _) ev_str) kd_rename_put) (fun z => nf z) (fun _ H1 g1 => ahead H1 g1 (of_decide_eq_false kd_rename_put) fun H2 g2 => ?_)
    have h2 := hd.g g2
    refine bl_when (Gr.z H2) (EvT.is (c := false) (et_eqS (ev_ded0 (d := .rename n m) (ev_nm 1 h2) _) ev_str) kd_rename_patch) (fun z => nf z) (fun _ H3 g3 => ?_)
    exact bl_ret g3.r (P := Pd K (markF t (.rename n m)).d) (Ev.is (ev_cat (ev_nm 1 (h2.g g3)) (ev_tup (ea_cons (ev_nm 2 (.int _)) ea_nil) (by simp)) (by simp)) rfl) (fun v H4 g p => hQ v H4 ((g2.t g3).t g) p)
end
end SR
set_option Elab.async false
set_option linter.all false
set_option maxRecDepth 100000
set_option maxHeartbeats 4000000
/-! the law's own: a deed done -/
namespace SR
open PySem PySem.Spec PyProof.Rows L2
section
variable {M : Addr → Prop} {X : Cx} {σ : L2.St} {H : Hp} {e : Expr} {pos p p2 pos2 apos cpos : Pos} {β : Type} {f : β → PyData} {m : List (Str × β)}
theorem gr_ext {H1 H2 : Hp} (g : Gr M H1 H1) (h : ∀ b o, H1 b = some o → H2 b = some o) : Gr M H1 H2 := ⟨g.a, fun x o _ e => h x o e, fun x m => by
  obtain ⟨i, j, k, e⟩ := g.a x m
  exact ⟨i, j, k, h x _ e⟩⟩
/-- dict(list(d.items())) -/
theorem ev_dictItems (hc : X.calm = true) (hl : X.mg "list" = none) (hm : X.mg "dict" = none) (nn : (m.map (·.1)).Nodup) (h : Ev M (wE X e) σ H (PDW X.K f m)) (hg : Gl X "dict" := by rfl) (hgl : Gl X "list" := by rfl) (hb : attributeBase e "items" X.env (eval e X.env) = eval e X.env := by rfl) (hln : (apos.endLine == cpos.line) = true := by rfl)
    (he : starEach [.Call (.Name "list" p) [.Call (.Attribute e "items" apos) [] [] cpos] [] pos] X.env = (false, eval (.Call (.Name "list" p) [.Call (.Attribute e "items" apos) [] [] cpos] [] pos) X.env) :: starEach [] X.env := by rfl) :
    Ev M (wE X (.Call (.Name "dict" p2) [.Call (.Name "list" p) [.Call (.Attribute e "items" apos) [] [] cpos] [] pos] [] pos2)) σ H (PDN X.K f m) :=
  fun H1 g Q q => of_pe (pe_callTy (call_dictP hc) hg hm bt_dict (pa_cons (LiI.pe_listItems hc e_pe hgl hl bt_list hb hln) pa_nil he) (by decide) (by decide) he) (h H1 g _ fun v H2 g2 ⟨a, ea, kvs, hw, hk⟩ => ⟨a, kvs, ea, hw, fun H3 l ts ext hl0 hts hlt hl3 pr => by
    have g3 : Gr M H2 H3 := gr_ext g2.r ext
    refine ⟨l, ts, kvs, rfl, .inl (.inl hl3), sq pr, fun r hr => q _ _ ((g2.t g3).new hr) ⟨r, rfl, (g2.t g3).back hr, ?_⟩⟩
    have k3 := hk.g g3
    have km := (KD.merge (.nil : KD X.K f H3 [] []) k3)
    rw [putAll_nodup (by simpa using nn), List.nil_append] at km
    exact DW.of hr km⟩)
where
  sq {K : PySem.W.Frag} {H : Hp} {ts : List Addr} {kvs : List (Key × V)} (h : Paired (fun (t : Addr) (q : Key × V) => H t = some (.tup [kV q.1, q.2])) ts kvs) : Paired (fun p kv => SqT K H p [kV kv.1, kv.2]) ts kvs := by
    induction h with
    | nil => exact .nil
    | cons a _ ih => exact .cons (.inl (.inl a)) ih
end
section
variable {P : Program} {w : World} {K : PySem.W.Frag} {mg : Str → Option Value} {base : Heap}
/-- what done gives: None, or a new dict -/
def outF (K : PySem.W.Frag) (H : Hp) (Q : VK) : Option Tr → Prop
  | none => ∀ H', Gr M0 H H' → Q .non H'
  | some t => ∀ (r : Addr) H', Gr M0 H H' → H r = none → DW K tpl H' r t → Q (.ref r) H'
def spDone (K : PySem.W.Frag) : Sp := fun vs H Q _ => ∃ (a : Addr) (v : V) (t : Tr) (d : Deed), vs = [.ref a, v] ∧ DW K tpl H a t ∧ Dv K H v d.d ∧ (t.map (·.1)).Nodup ∧ t.length < 5000 ∧ (∀ q ∈ t, q.2.length ≤ 40000) ∧ d.cells.length ≤ 10000 ∧ outF K H Q (doneF t d)
theorem sc_ldone : FnScope ["_law_tree", "_law_deed", "_law_found", "_law_word", "_law_held"] ["_law_tree", "_law_deed"] (defScope st_law_done) := ⟨rfl, rfl, rfl, by decide +kernel, rfl, by decide +kernel, by decide +kernel⟩
theorem doneF_dropN {t : Tr} {n : Str} (h : trGet t n = none) : doneF t (.drop n) = none := by
  show (match trGet t n with | none => none | some _ => some (trDrop t n)) = none
  rw [h]
theorem doneF_dropS {t : Tr} {n : Str} {x : List PyData} (h : trGet t n = some x) : doneF t (.drop n) = some (trDrop t n) := by
  show (match trGet t n with | none => none | some _ => some (trDrop t n)) = _
  rw [h]
theorem doneF_renN {t : Tr} {n m : Str} (h : trGet t n = none) : doneF t (.rename n m) = none := by
  show (match trGet t n with | none => none | some x => match trGet t m with | some _ => none | none => some (trPut (trDrop t n) m x)) = none
  rw [h]
theorem doneF_renT {t : Tr} {n m : Str} {x y : List PyData} (h : trGet t n = some x) (h2 : trGet t m = some y) : doneF t (.rename n m) = none := by
  show (match trGet t n with | none => none | some x => match trGet t m with | some _ => none | none => some (trPut (trDrop t n) m x)) = none
  rw [h]
  show (match trGet t m with | some _ => none | none => some (trPut (trDrop t n) m x)) = none
  rw [h2]
theorem doneF_renS {t : Tr} {n m : Str} {x : List PyData} (h : trGet t n = some x) (h2 : trGet t m = none) : doneF t (.rename n m) = some (trPut (trDrop t n) m x) := by
  show (match trGet t n with | none => none | some x => match trGet t m with | some _ => none | none => some (trPut (trDrop t n) m x)) = _
  rw [h]
  show (match trGet t m with | some _ => none | none => some (trPut (trDrop t n) m x)) = _
  rw [h2]
theorem doneF_patN {t : Tr} {n : Str} {i j : Nat} {cs : List PyData} (h : trGet t n = none) : doneF t (.patch n i j cs) = none := by
  show (match trGet t n with | none => none | some x => if i + j > x.length ∨ x.length - j + cs.length > 996 then none else some (trPut (trDrop t n) n (x.take i ++ cs ++ x.drop (i + j)))) = none
  rw [h]
theorem doneF_patS {t : Tr} {n : Str} {i j : Nat} {cs x : List PyData} (h : trGet t n = some x) : doneF t (.patch n i j cs) = if i + j > x.length ∨ x.length - j + cs.length > 996 then none else some (trPut (trDrop t n) n (x.take i ++ cs ++ x.drop (i + j))) := by
  show (match trGet t n with | none => none | some x => if i + j > x.length ∨ x.length - j + cs.length > 996 then none else some (trPut (trDrop t n) n (x.take i ++ cs ++ x.drop (i + j)))) = _
  rw [h]
/-- the tests that done asks -/
def ldTest0 : Expr := match (defBody st_law_done)[2]? with
  | some (Stmt.If c _ _ _) => c
  | _ => .Constant .none 0 ⟨0, 0, 0, 0⟩
def ldTest : Expr := match (defBody st_law_done)[5]? with
  | some (Stmt.If _ (Stmt.If c _ _ _ :: _) _ _) => c
  | _ => .Constant .none 0 ⟨0, 0, 0, 0⟩
theorem ok_ldone (T : Txt w K mg) : C8.Cal P w K mg base 1 "_law_done" (spDone K) [] := by
  refine fn_ok T 32 rfl sc_ldone (fun _ _ _ _ _ _ us hl => match us, hl with | [_, _], _ => rfl) (fun vs H Q E ⟨_, _, _, _, h, _⟩ => by rw [h]; rfl) (fun f cdv A outer s H vs Q E hr ⟨a, v, t, d, hv, ht, hd, nn, hlt, hln, hcs, hQ⟩ => ?_)
  subst hv
  have nd := sc_ldone.nd
  refine bl_par (i := 2) (j := 3) (Gr.z H) (eg_cons (P := PDN K tpl t) (Ps := [Pd K (.str d.kind)]) stb_dn (fun P hP => by cases List.mem_singleton.mp hP; exact stb_d) (ev_dictItems rfl T.f_list T.f_dict nn ((ev_nmV 0).imp fun v H1 H2 g1 g2 e => ⟨a, e, ht.g (g1.t g2)⟩)) (eg_cons stb_d (fun P hP => by cases hP) (ev_ded0 (ev_nm 1 hd) _) eg_nil)) (fun vs H1 g1 pa => ?_) rfl nd
  obtain ⟨w1, _, rfl, ⟨fa, rfl, hf0, hfw⟩, w2, _, rfl, p2, rfl⟩ := pa
  obtain rfl := dv_str p2
  refine ⟨_, _, rfl, ?_⟩
  have hd1 := hd.g g1
  have ht1 := ht.g g1
  cases d with
  | put n cs =>
    refine bl_when g1.r (EvT.is (c := true) (et_eqS (ev_nm 3 (.str _)) ev_str) kd_put_put) (fun _ H2 g2 => ?_) (fun z => nt z)
    have hd2 := hd1.g g2
    refine bl_dput (b := cs) g2.r (hu64 hr) (ev_nmV 2) (hfw.g g2) (by omega) (ev_ded1 (d := .put n cs) (ev_nm 1 hd2) _) (ev_ix (ev_nm 1 hd2) ev_int rfl) (fun H3 H4 g3 dm wd => ?_)
    exact bl_ret (Gr.z H4) (P := Pv (.ref fa)) (ev_nmV 2) (fun v H5 g5 e => by
      obtain rfl : v = .ref fa := e
      exact hQ fa H5 ((dm.gr ((g1.t g2).t g3) hf0).t g5) hf0 (wd.g g5))
  | patch n i j cs =>
    refine bl_when g1.r (EvT.is (c := false) (et_eqS (ev_nm 3 (.str _)) ev_str) kd_patch_put) (fun z => nf z) (fun _ H2 g2 => ?_)
    have hd2 := hd1.g g2
    have g02 := g1.t g2
    cases hg : trGet t n with
    | none =>
      rw [doneF_patN hg] at hQ
      refine bl_when g2.r (et_w (ew_orT (EvT.is (et_dni (f := tpl) (hu64 hr) (ev_ded1 (d := .patch n i j cs) (ev_nm 1 hd2) _) (ev_nmDR 0 (ht1.g g2).r)) (by show (!(trGet t n).isSome) = true; rw [hg]; rfl)))) (fun _ H3 g3 => ?_) (fun z => nt z)
      exact bl_ret g3.r (P := Pd K .none) ev_non (fun v H4 g4 p => by
        obtain rfl := dv_non p
        exact hQ H4 ((g02.t g3).t g4))
    | some hh =>
      rw [doneF_patS hg] at hQ
      have hhl : hh.length ≤ 40000 := by
        unfold trGet at hg
        obtain ⟨q, z2, z3⟩ := Option.map_eq_some_iff.mp hg
        rw [← z3]
        exact hln q (List.mem_of_find?_eq_some z2)
      refine bl_when g2.r (et_w (ew_orF (EvT.is (et_dni (f := tpl) (hu64 hr) (ev_ded1 (d := .patch n i j cs) (ev_nm 1 hd2) _) (ev_nmDR 0 (ht1.g g2).r)) (by show (!(trGet t n).isSome) = false; rw [hg]; rfl)) (ew_or1 (et_w (ew_andF (EvT.is (c := false) (et_eqS (ev_nm 3 (.str _)) ev_str) kd_patch_rename)))))) (fun z => nf z) (fun _ H3 g3 => ?_)
      have hd3 := hd2.g g3
      refine bl_dpop1 (q := 4) g3.r (ev_nmV 2) ((hfw.g g2).g g3) (ev_ded1 (d := .patch n i j cs) (ev_nm 1 hd3) _) hg (fun hv H4 H5 g4 dm wd hh5 => ?_) nd
      have hd5 := dm.dv (hd3.g g4)
      have g05 := dm.gr ((g02.t g3).t g4) hf0
      refine bl_when (Gr.z H5) (EvT.is (c := false) (et_eqS (ev_nm 3 (.str _)) ev_str) kd_patch_rename) (fun z => nf z) (fun _ H6 g6 => ?_)
      refine bl_when g6.r (EvT.is (c := true) (et_eqS (ev_nm 3 (.str _)) ev_str) kd_patch_patch) (fun _ H7 g7 => ?_) (fun z => nt z)
      have g57 := g6.t g7
      have hd7 := hd5.g g57
      have hh7 := hh5.g g57
      have t1 : EvT M0 (wT (cX P w K mg base ["_law_tree", "_law_deed", "_law_found", "_law_word", "_law_held"] "_law_done" st_law_done f cdv A outer s H E) (ldTest)) [some (.ref a), some v, some (.ref fa), some (.str "patch"), some hv] H7 (· = (decide ((hh.length : Int) < (i : Int) + (j : Int)) || decide (996 < (hh.length : Int) - (j : Int) + (cs.length : Int)))) :=
        et_w (ew_or (et_gt (ev_add (ev_ix (ev_nm 1 hd7) ev_int rfl) (ev_ix (ev_nm 1 hd7) ev_int rfl)) (ev_lenT (ds := hh) T.f_len (ev_nm 4 hh7))) (fun _ => ew_or1 (et_gt (ev_add (ev_sub (ev_lenT (ds := hh) T.f_len (ev_nm 4 hh7)) (ev_ix (ev_nm 1 hd7) ev_int rfl)) (ev_lenT (ds := cs) T.f_len (ev_ix (ev_nm 1 hd7) ev_int rfl))) ev_int)))
      by_cases big : i + j > hh.length ∨ hh.length - j + cs.length > 996
      · rw [if_pos big] at hQ
        have e : (decide ((hh.length : Int) < (i : Int) + (j : Int)) || decide (996 < (hh.length : Int) - (j : Int) + (cs.length : Int))) = true := by
          rw [Bool.or_eq_true, decide_eq_true_eq, decide_eq_true_eq]
          omega
        refine bl_when g7.r (EvT.is t1 e) (fun _ H8 g8 => ?_) (fun z => nt z)
        exact bl_ret g8.r (P := Pd K .none) ev_non (fun v H9 g9 p => by
          obtain rfl := dv_non p
          exact hQ H9 (((g05.t g57).t g8).t g9))
      · rw [if_neg big] at hQ
        have e : (decide ((hh.length : Int) < (i : Int) + (j : Int)) || decide (996 < (hh.length : Int) - (j : Int) + (cs.length : Int))) = false := by
          rw [Bool.or_eq_false_iff, decide_eq_false_iff_not, decide_eq_false_iff_not]
          omega
        have hcs' : cs.length ≤ 10000 := hcs
        refine bl_when g7.r (EvT.is t1 e) (fun z => nf z) (fun _ H8 g8 => ?_)
        have hd8 := hd7.g g8
        have hh8 := hh7.g g8
        have g58 := g57.t g8
        refine bl_dput (b := hh.take i ++ cs ++ hh.drop (i + j)) g8.r (hu64 hr) (ev_nmV 2) (wd.g g58) (Nat.lt_of_le_of_lt (trDrop_le _ _) (by omega)) (ev_ded1 (d := .patch n i j cs) (ev_nm 1 hd8) _)
          (ev_cat (ev_cat (Ev.is (ev_sl (ev_nm 4 hh8) po_none (po_some e_pe) eo_none (eo_some (ev_ix (ev_nm 1 hd8) ev_int rfl))) (congrArg PyData.tuple (cut_to _ i))) (ev_ix (ev_nm 1 hd8) ev_int rfl) (by rw [List.length_take]; omega)) (Ev.is (ev_sl (ev_nm 4 hh8) (po_some e_pe) po_none (eo_some (ev_add (ev_ix (ev_nm 1 hd8) ev_int rfl) (ev_ix (ev_nm 1 hd8) ev_int rfl))) eo_none) (congrArg PyData.tuple (cut_from _ (i + j)))) (by rw [List.length_append, List.length_take, List.length_drop]; omega)) (fun H9 H10 g9 dm2 wd2 => bl_nil ?_)
        exact bl_ret (Gr.z H10) (P := Pv (.ref fa)) (ev_nmV 2) (fun v H11 g11 e => by
          obtain rfl : v = .ref fa := e
          exact hQ fa H11 ((dm2.gr ((g05.t g58).t g9) hf0).t g11) hf0 (wd2.g g11))
  | drop n =>
    refine bl_when g1.r (EvT.is (c := false) (et_eqS (ev_nm 3 (.str _)) ev_str) kd_drop_put) (fun z => nf z) (fun _ H2 g2 => ?_)
    have hd2 := hd1.g g2
    have g02 := g1.t g2
    cases hg : trGet t n with
    | none =>
      rw [doneF_dropN hg] at hQ
      refine bl_when g2.r (et_w (ew_orT (EvT.is (et_dni (f := tpl) (hu64 hr) (ev_ded1 (d := .drop n) (ev_nm 1 hd2) _) (ev_nmDR 0 (ht1.g g2).r)) (by show (!(trGet t n).isSome) = true; rw [hg]; rfl)))) (fun _ H3 g3 => ?_) (fun z => nt z)
      exact bl_ret g3.r (P := Pd K .none) ev_non (fun v H4 g4 p => by
        obtain rfl := dv_non p
        exact hQ H4 ((g02.t g3).t g4))
    | some hh =>
      rw [doneF_dropS hg] at hQ
      refine bl_when g2.r (et_w (ew_orF (EvT.is (et_dni (f := tpl) (hu64 hr) (ev_ded1 (d := .drop n) (ev_nm 1 hd2) _) (ev_nmDR 0 (ht1.g g2).r)) (by show (!(trGet t n).isSome) = false; rw [hg]; rfl)) (ew_or1 (et_w (ew_andF (EvT.is (c := false) (et_eqS (ev_nm 3 (.str _)) ev_str) kd_drop_rename)))))) (fun z => nf z) (fun _ H3 g3 => ?_)
      have hd3 := hd2.g g3
      refine bl_dpop1 (q := 4) g3.r (ev_nmV 2) ((hfw.g g2).g g3) (ev_ded1 (d := .drop n) (ev_nm 1 hd3) _) hg (fun hv H4 H5 g4 dm wd hh5 => ?_) nd
      have g05 := dm.gr ((g02.t g3).t g4) hf0
      refine bl_when (Gr.z H5) (EvT.is (c := false) (et_eqS (ev_nm 3 (.str _)) ev_str) kd_drop_rename) (fun z => nf z) (fun _ H6 g6 => ?_)
      refine bl_when g6.r (EvT.is (c := false) (et_eqS (ev_nm 3 (.str _)) ev_str) kd_drop_patch) (fun z => nf z) (fun _ H7 g7 => ?_)
      exact bl_ret g7.r (P := Pv (.ref fa)) (ev_nmV 2) (fun v H8 g8 e => by
        obtain rfl : v = .ref fa := e
        exact hQ fa H8 (((g05.t g6).t g7).t g8) hf0 (((wd.g g6).g g7).g g8))
  | rename n m =>
    refine bl_when g1.r (EvT.is (c := false) (et_eqS (ev_nm 3 (.str _)) ev_str) kd_rename_put) (fun z => nf z) (fun _ H2 g2 => ?_)
    have hd2 := hd1.g g2
    have g02 := g1.t g2
    cases hg : trGet t n with
    | none =>
      rw [doneF_renN hg] at hQ
      refine bl_when g2.r (et_w (ew_orT (EvT.is (et_dni (f := tpl) (hu64 hr) (ev_ded1 (d := .rename n m) (ev_nm 1 hd2) _) (ev_nmDR 0 (ht1.g g2).r)) (by show (!(trGet t n).isSome) = true; rw [hg]; rfl)))) (fun _ H3 g3 => ?_) (fun z => nt z)
      exact bl_ret g3.r (P := Pd K .none) ev_non (fun v H4 g4 p => by
        obtain rfl := dv_non p
        exact hQ H4 ((g02.t g3).t g4))
    | some hh =>
      have t2 : EvT M0 (wT (cX P w K mg base ["_law_tree", "_law_deed", "_law_found", "_law_word", "_law_held"] "_law_done" st_law_done f cdv A outer s H E) ldTest0) [some (.ref a), some v, some (.ref fa), some (.str "rename"), none] H2 (· = (trGet t m).isSome) :=
        et_w (ew_orF (EvT.is (et_dni (f := tpl) (hu64 hr) (ev_ded1 (d := .rename n m) (ev_nm 1 hd2) _) (ev_nmDR 0 (ht1.g g2).r)) (by show (!(trGet t n).isSome) = false; rw [hg]; rfl)) (ew_or1 (et_w (ew_andT (EvT.is (c := true) (et_eqS (ev_nm 3 (.str _)) ev_str) kd_rename_rename) (ew_and1 (et_din (f := tpl) (hu64 hr) (ev_ix (ev_nm 1 hd2) ev_int rfl) (ev_nmDR 0 (ht1.g g2).r)))))))
      cases hm : trGet t m with
      | some x =>
        rw [doneF_renT hg hm] at hQ
        rw [hm] at t2
        refine bl_when g2.r t2 (fun _ H3 g3 => ?_) (fun z => nt z)
        exact bl_ret g3.r (P := Pd K .none) ev_non (fun v H4 g4 p => by
          obtain rfl := dv_non p
          exact hQ H4 ((g02.t g3).t g4))
      | none =>
        rw [doneF_renS hg hm] at hQ
        rw [hm] at t2
        refine bl_when g2.r t2 (fun z => nf z) (fun _ H3 g3 => ?_)
        have hd3 := hd2.g g3
        refine bl_dpop1 (q := 4) g3.r (ev_nmV 2) ((hfw.g g2).g g3) (ev_ded1 (d := .rename n m) (ev_nm 1 hd3) _) hg (fun hv H4 H5 g4 dm wd hh5 => ?_) nd
        have hd5 := dm.dv (hd3.g g4)
        have g05 := dm.gr ((g02.t g3).t g4) hf0
        refine bl_when (Gr.z H5) (EvT.is (c := true) (et_eqS (ev_nm 3 (.str _)) ev_str) kd_rename_rename) (fun _ H6 g6 => ?_) (fun z => nt z)
        refine bl_dput (b := hh) g6.r (hu64 hr) (ev_nmV 2) (wd.g g6) (Nat.lt_of_le_of_lt (trDrop_le _ _) (by omega)) (ev_ix (ev_nm 1 (hd5.g g6)) ev_int rfl) (ev_nm 4 (hh5.g g6)) (fun H7 H8 g7 dm2 wd2 => bl_nil ?_)
        refine bl_when (Gr.z H8) (EvT.is (c := false) (et_eqS (ev_nm 3 (.str _)) ev_str) kd_rename_patch) (fun z => nf z) (fun _ H9 g9 => ?_)
        exact bl_ret g9.r (P := Pv (.ref fa)) (ev_nmV 2) (fun v H10 g10 e => by
          obtain rfl : v = .ref fa := e
          exact hQ fa H10 (((dm2.gr ((g05.t g6).t g7) hf0).t g9).t g10) hf0 ((wd2.g g9).g g10))
end
end SR
set_option Elab.async false
set_option linter.all false
set_option maxRecDepth 100000
set_option maxHeartbeats 4000000
/-! the law's own: one step behind -/
namespace SR
open PySem PySem.Spec PyProof.Rows L2
theorem eqv_mark (k : Mark) : PyData.eqv k.d k.d = true := by
  cases k <;> simp [Mark.d, PyData.eqv, PyData.eqvAll]
/-- a deed that can be done stands on its name -/
theorem done_has {t t' : Tr} {d : Deed} (h : doneF t d = some t') : d.kind = "put" ∨ (trGet t d.name).isSome = true := by
  cases d with
  | put n cs => exact .inl rfl
  | patch n i o cs =>
    right
    show (trGet t n).isSome = true
    cases e : trGet t n with
    | none => rw [doneF_patN e] at h; cases h
    | some x => rfl
  | drop n =>
    right
    show (trGet t n).isSome = true
    cases e : trGet t n with
    | none => rw [doneF_dropN e] at h; cases h
    | some x => rfl
  | rename n m =>
    right
    show (trGet t n).isSome = true
    cases e : trGet t n with
    | none => rw [doneF_renN e] at h; cases h
    | some x => rfl
section
variable {M : Addr → Prop} {X : Cx} {σ : L2.St} {H : Hp} {e : Expr} {es : List Expr}
/-- arguments whose values are known -/
def PvS (us : List V) : PVs := fun vs _ _ => vs = us
theorem ev0 : EvA M (wA X []) σ H (PvS []) := fun H1 g Q q => of_pa pa_nil (q _ _ g.r rfl)
theorem evc {u : V} {us : List V} (h1 : Ev M (wE X e) σ H (Pv u)) (h2 : EvA M (wA X es) σ H (PvS us)) (hs : starEach (e :: es) X.env = (false, eval e X.env) :: starEach es X.env := by rfl) : EvA M (wA X (e :: es)) σ H (PvS (u :: us)) :=
  fun H1 g Q q => of_pa (pa_cons e_pe e_pa hs) (h1 H1 g _ fun v H2 g2 p => h2 H2 (g.t g2) _ fun ws H3 g3 p3 => q _ _ (g2.t g3) (by
    have e1 : v = u := p
    have e2 : ws = us := p3
    rw [e1, e2]
    exact rfl))
end
/-- trees that the steps can be done on -/
structure TrOk (t : Tr) : Prop where
  nd : (t.map (·.1)).Nodup
  few : t.length < 5000
  len : ∀ q ∈ t, q.2.length ≤ 40000
section
variable {P : Program} {w : World} {K : PySem.W.Frag} {mg : Str → Option Value} {base : Heap}
def spLb (K : PySem.W.Frag) : Sp := fun vs H Q _ => ∃ (a : Addr) (u v : V) (t t' : Tr) (k : Mark) (cs : List PyData), vs = [.ref a, u, v] ∧ DW K tpl H a t ∧ Dv K H u k.d ∧ Dv K H v (.tuple cs) ∧ k.ok ∧ TrOk t ∧ cs.length ≤ 10000 ∧ doneF t (deedBy k cs) = some t' ∧ markF t (deedBy k cs) = k ∧
  ∀ (r : Addr) H', Gr M0 H H' → H r = none → DW K tpl H' r t' → Q (.ref r) H'
theorem deed_cells (k : Mark) (cs : List PyData) : (deedBy k cs).cells.length ≤ cs.length := by
  cases k <;> simp [deedBy, Deed.cells]
theorem sc_lb : FnScope ["_law_tree", "_law_mark_here", "_law_cells_here", "_law_deed", "_law_later"] ["_law_tree", "_law_mark_here", "_law_cells_here"] (defScope st_law_behind) := ⟨rfl, rfl, rfl, by decide +kernel, rfl, by decide +kernel, by decide +kernel⟩
theorem ok_lb (T : Txt w K mg) : C8.Cal P w K mg base 2 "_law_behind" (spLb K) [] := by
  refine fn_ok T 36 rfl sc_lb (fun _ _ _ _ _ _ us hl => match us, hl with | [_, _, _], _ => rfl) (fun vs H Q E ⟨_, _, _, _, _, _, _, h, _⟩ => by rw [h]; rfl) (fun f cdv A outer s H vs Q E hr ⟨a, u, v, t, t', k, cs, hv, ht, hk, hc, ko, tok, hcs, hd, hm, hQ⟩ => ?_)
  subst hv
  have nd := sc_lb.nd
  have dc : (deedBy k cs).cells.length ≤ 10000 := Nat.le_trans (deed_cells k cs) hcs
  refine bl_set (i := 3) (Gr.z H) (P := Pd K (deedBy k cs).d) (ev_callD (ok_ldby T) hr (by decide) (k, cs) trivial (ea_cons (ev_nm 1 hk) (ea_cons (ev_nm 2 hc) ea_nil))) (fun x H1 g1 px => ?_) nd
  have hk1 := hk.g g1
  have ht1 := ht.g g1
  refine bl_set (i := 4) g1.r (P := PDN K tpl t') (ev_call (ok_ldone T) hr (by decide) (evc (ev_nmV 0) (evc (ev_nmV 3) ev0)) (fun vs H2 H3 g2 g3 e Q q => by
    obtain rfl : vs = [.ref a, x] := e
    have g := g2.t g3
    exact ⟨a, x, t, deedBy k cs, rfl, ht1.g g, px.g g, tok.nd, tok.few, tok.len, dc, by
      rw [hd]
      exact fun r H4 g4 hr0 hw => q _ _ g4 ⟨r, rfl, g3.back hr0, hw⟩⟩)) (fun y H2 g2 py => ?_) nd
  obtain ⟨r, rfl, r0, hw⟩ := py
  have hk2 := hk1.g g2
  have ht2 := ht1.g g2
  refine bl_ret (Gr.z H2) (P := Pv (.ref r)) (ev_ifP (p := (· = false)) (fun _ _ _ _ _ _ h => h) (et_w (ew_orF (EvT.is (c := false) (et_isN (ev_nmV 4) (fun v H1 H2 p => by subst p; rfl)) rfl) (ew_or1 (EvT.is (et_ne (hu64 hr) (gd_mark ko).s (gd_mark ko).s (Ev.is (d := (markF t (deedBy k cs)).d) (ev_call (ok_lmark T) hr (by decide) (evc (ev_nmV 0) (evc (ev_nmV 3) ev0)) (fun vs H3 H4 g3 g4 e Q q => by
    obtain rfl : vs = [.ref a, x] := e
    have g := g3.t g4
    exact ⟨a, x, t, deedBy k cs, rfl, (ht2.g g).r, (px.g g2).g g, done_has hd, by omega, fun u H5 g5 d5 => q _ _ g5 d5⟩)) (congrArg Mark.d hm)) (ev_nm 1 hk2)) (by rw [eqv_mark]; rfl))))) (fun z => by cases z) (fun _ => ev_nmV 4)) (fun v H3 g3 e => ?_)
  obtain rfl : v = .ref r := e
  exact hQ r H3 ((g1.t g2).t g3) (g1.back r0) (hw.g g3)
end
end SR
set_option Elab.async false
set_option linter.all false
set_option maxRecDepth 100000
set_option maxHeartbeats 4000000
/-! the law's own: the marks of a run -/
namespace SR
open PySem PySem.Spec PyProof.Rows L2
/-- a run: the trees T 0, T 1 .. with the deeds and their marks -/
structure Chain (T : Nat → Tr) (ds : List Deed) (ks : List Mark) : Prop where
  len : ks.length = ds.length
  few : ds.length ≤ 1000
  step : ∀ i d, ds[i]? = some d → doneF (T i) d = some (T (i + 1)) ∧ ks[i]? = some (markF (T i) d)
  ok : ∀ i, i ≤ ds.length → TrOk (T i)
  cells : ∀ d ∈ ds, d.cells.length ≤ 10000
section
variable {P : Program} {w : World} {K : PySem.W.Frag} {mg : Str → Option Value} {base : Heap}
def spMo (K : PySem.W.Frag) : Sp := fun vs H Q _ => ∃ (a b : Addr) (us : List V) (Tt : Nat → Tr) (ds : List Deed) (ks : List Mark), vs = [.ref a, .ref b] ∧ DW K tpl H a (Tt 0) ∧ H b = some (.lst us) ∧ DvA K H us (ds.map Deed.d) ∧ Chain Tt ds ks ∧
  ∀ (t l r : Addr) (ws : List V) H', Gr M0 H H' → H' t = some (.tup [.ref l, .ref r]) → H l = none → H' l = some (.lst ws) → DvA K H' ws (ks.map Mark.d) → DW K tpl H' r (Tt ds.length) → (r = a ∨ H r = none) → Q (.ref t) H'
theorem sc_mo : FnScope ["_law_tree", "_law_deeds", "_law_found", "_law_here", "_law_deed"] ["_law_tree", "_law_deeds"] (defScope st_law_marks_of) := ⟨rfl, rfl, rfl, by decide +kernel, rfl, by decide +kernel, by decide +kernel⟩
theorem deed_at {ds : List Deed} {i : Nat} {d : PyData} (h : (ds.map Deed.d)[i]? = some d) : ∃ e, ds[i]? = some e ∧ d = e.d := by
  rw [List.getElem?_map] at h
  obtain ⟨e, h1, h2⟩ := Option.map_eq_some_iff.mp h
  exact ⟨e, h1, h2.symm⟩
theorem mark_at {ds : List Mark} {i : Nat} {d : PyData} (h : (ds.map Mark.d)[i]? = some d) : ∃ e, ds[i]? = some e ∧ d = e.d := by
  rw [List.getElem?_map] at h
  obtain ⟨e, h1, h2⟩ := Option.map_eq_some_iff.mp h
  exact ⟨e, h1, h2.symm⟩
theorem ok_mo (T : Txt w K mg) : C8.Cal P w K mg base 2 "_law_marks_of" (spMo K) [] := by
  refine fn_ok T 40 rfl sc_mo (fun _ _ _ _ _ _ us hl => match us, hl with | [_, _], _ => rfl) (fun vs H Q E ⟨_, _, _, _, _, _, h, _⟩ => by rw [h]; rfl) (fun f cdv A outer s H vs Q E hr ⟨a, b, us, Tt, ds, ks, hv, ht, hb, hus, ch, hQ⟩ => ?_)
  subst hv
  have nd := sc_mo.nd
  refine bl_par (i := 2) (j := 3) (Gr.z H) (eg_cons (P := PL K []) (Ps := [Pv (.ref a)]) stb_l (fun P hP => by cases List.mem_singleton.mp hP; exact stb_v) (ev_lst ea_nil (by simp)) (eg_cons stb_v (fun P hP => by cases hP) (ev_nmV 0) eg_nil)) (fun vs H1 g1 pa => ?_) rfl nd
  obtain ⟨w1, _, rfl, ⟨l, us0, rfl, hl0, hl, hz⟩, w2, _, rfl, p2, rfl⟩ := pa
  cases hz
  obtain rfl : w2 = .ref a := p2
  refine ⟨_, _, rfl, ?_⟩
  have hb1 : H1 b = some (.lst us) := g1.k b _ (fun z => z) hb
  refine bl_forL (gt := gName 4) g1.r rfl rfl (pg_name nd rfl (Or.inl rfl)) (ev_nmV 1) (fun v H2 g2 ev => ?_)
  obtain rfl : v = .ref b := ev
  have hul : us.length = ds.length := by rw [hus.length, List.length_map]
  refine ⟨b, us, rfl, fun i σ' H' => ∃ (r : Addr) (o1 : Option V) (ws : List V), σ' = [some (.ref a), some (.ref b), some (.ref l), some (.ref r), o1] ∧ Gr M0 H H' ∧ H' l = some (.lst ws) ∧ DvA K H' ws ((ks.take i).map Mark.d) ∧ ws.length ≤ i ∧ DW K tpl H' r (Tt i) ∧ (r = a ∨ H r = none), ?_, fun i σ' H' _ ⟨_, _, _, _, g, _⟩ => .inl (.inl (g.k b _ (fun z => z) hb)), ?_, ?_⟩
  · exact ⟨a, none, [], rfl, g1.t g2, g2.k l _ (fun z => z) hl, .nil, Nat.le_refl _, (ht.g g1).g g2, .inl rfl⟩
  · rintro i x σ' H' hx0 ⟨r, o1, ws, rfl, G4, hl4, hw3, hwl, hr4, hrn⟩
    obtain ⟨d, hd, hx⟩ := hus.get' hx0
    have hx := hx.g G4
    obtain ⟨e, he, rfl⟩ := deed_at hd
    obtain ⟨s1, s2⟩ := ch.step i e he
    have hi : i < ds.length := List.getElem?_eq_some_iff.mp he |>.1
    have cl := ch.cells e (List.mem_of_getElem? he)
    have tk := ch.ok i (Nat.le_of_lt hi)
    refine gt_name ?_
    have few := ch.few
    refine bl_app (i := 2) (P := Pd K (markF (Tt i) e).d) (Gr.z H') rfl hl4 (fun z => z) (by omega) (ev_call (ok_lmark T) hr (by decide) (evc (ev_nmV 3) (evc (ev_nmV 4) ev0)) (fun vs H3 H4 g3 g4 ev Q q => by
      obtain rfl : vs = [.ref r, x] := ev
      have g := g3.t g4
      exact ⟨r, x, Tt i, e, rfl, (hr4.g g).r, hx.g g, done_has s1, by omega, fun u H5 g5 d5 => q _ _ g5 d5⟩)) (fun y H5 g5 py hl5 => ?_)
    have gu : Gr M0 H (upd H5 l (.lst (ws ++ [y]))) := (G4.t g5).mut hl0
    have hx6 : Dv K (upd H5 l (.lst (ws ++ [y]))) x e.d := (hx.g g5).st hl5
    have hw6 : DvA K (upd H5 l (.lst (ws ++ [y]))) (ws ++ [y]) ((ks.take (i + 1)).map Mark.d) := by
      rw [take_snoc s2, List.map_append]
      exact ((hw3.g g5).app (.cons py .nil)).st hl5
    have nrl : r ≠ l := by
      intro z
      obtain ⟨kv, z1, _⟩ := hr4
      rw [z, hl4] at z1
      cases z1
    have hr6 : DW K tpl (upd H5 l (.lst (ws ++ [y]))) r (Tt i) := by
      obtain ⟨kv, z1, z2⟩ := hr4.g g5
      exact ⟨kv, by rw [upd_ne nrl]; exact z1, z2.st hl5⟩
    refine bl_set (i := 3) (Gr.z _) (P := PDN K tpl (Tt (i + 1))) (ev_call (ok_ldone T) hr (by decide) (evc (ev_nmV 3) (evc (ev_nmV 4) ev0)) (fun vs H7 H8 g7 g8 ev Q q => by
      obtain rfl : vs = [.ref r, x] := ev
      have g := g7.t g8
      exact ⟨r, x, Tt i, e, rfl, hr6.g g, hx6.g g, tk.nd, tk.few, tk.len, cl, by
        rw [s1]
        exact fun r2 H9 g9 hr0 hw => q _ _ g9 ⟨r2, rfl, g8.back hr0, hw⟩⟩)) (fun y2 H7 g7 py2 => ?_) nd
    obtain ⟨r2, rfl, r20, hw7⟩ := py2
    refine bl_nil ⟨r2, _, _, rfl, gu.t g7, g7.k l _ (fun z => z) upd_same, hw6.g g7, by simp; omega, hw7, .inr (gu.back r20)⟩
  · rintro σ' H' ⟨r, o1, ws, rfl, g3, hl3, hw3, hwl, hr3, hrn⟩
    rw [hul] at hr3 hw3
    rw [show ks.take ds.length = ks by rw [← ch.len, List.take_length]] at hw3
    refine bl_ret (Gr.z H') (P := PTup [Pv (.ref l), Pv (.ref r)]) (ev_tupG (eg_cons stb_v (fun P hP => by cases List.mem_singleton.mp hP; exact stb_v) (ev_nmV 2) (eg_cons stb_v (fun P hP => by cases hP) (ev_nmV 3) eg_nil)) (by simp) (fun vs H1 H2 h => PvA_len h)) (fun x H9 g9 px => ?_)
    obtain ⟨t, vs, Hm, rfl, ht0, ht2, _, pv, _⟩ := px
    obtain ⟨a1, w1, rfl, e1, a2, w2, rfl, e2, rfl⟩ := pv
    obtain rfl : a1 = .ref l := e1
    obtain rfl : a2 = .ref r := e2
    exact hQ t l r ws H9 (g3.t g9) ht2 hl0 (g9.k l _ (fun z => z) hl3) (hw3.g g9) (hr3.g g9) hrn
end
end SR
set_option Elab.async false
set_option linter.all false
set_option maxRecDepth 100000
set_option maxHeartbeats 4000000
/-! plain: what an outline keeps, and the trees that it stands for -/
namespace SR
open PySem PySem.Spec PyProof.Rows L2
def askN : Option (Option Nat) → Nat
  | some (some l) => l
  | _ => 0
def bnd (o : Ou) (N : Sv → Nat) : So → Nat
  | .new s => N s
  | .below n => askN (trGet o.aks n)
theorem fresh_iff {o : Ou} {n : Str} : freshO o n = true ↔ trGet o.en n = none ∧ trGet o.go n = none := by
  unfold freshO
  cases trGet o.en n <;> cases trGet o.go n <;> simp
theorem fresh_not {o : Ou} {n : Str} : freshO o n = false ↔ (trGet o.en n).isSome = true ∨ (trGet o.go n).isSome = true := by
  unfold freshO
  cases trGet o.en n <;> cases trGet o.go n <;> simp
structure OInv (o : Ou) (N : Sv → Nat) : Prop where
  nen : (o.en.map (·.1)).Nodup
  ngo : (o.go.map (·.1)).Nodup
  nak : (o.aks.map (·.1)).Nodup
  dis : ∀ n, (trGet o.en n).isSome = true → trGet o.go n = none
  ask : ∀ n, (trGet o.aks n).isSome = true → freshO o n = false
  row : ∀ n r, trGet o.en n = some r → RIn (bnd o N) r ∧ NoGo r ∧ lenF r ≤ 996
  grn : o.gr = none → o.aks = []
  nm : ∀ n, freshO o n = false → nmOk n
  akb : ∀ n l, trGet o.aks n = some (some l) → l ≤ 996
theorem ask_cases (o : Ou) (n : Str) (t : Option Nat) : (askO o n t = o ∧ (o.gr = none ∨ freshO o n = false)) ∨ (o.gr.isSome = true ∧ freshO o n = true ∧ ((t = none ∧ askO o n t = ⟨o.gr, o.en, trPut o.go n (), trPut o.aks n none⟩) ∨ ∃ l, t = some l ∧ askO o n t = ⟨o.gr, trPut o.en n (rowOf (.below n) l), o.go, trPut o.aks n (some l)⟩)) := by
  unfold askO
  cases hg : o.gr with
  | none => left; exact ⟨by simp, .inl rfl⟩
  | some g =>
    cases hf : freshO o n with
    | false => left; exact ⟨by simp, .inr rfl⟩
    | true =>
      right
      refine ⟨rfl, rfl, ?_⟩
      cases t with
      | none => left; exact ⟨rfl, by simp⟩
      | some l => right; exact ⟨l, rfl, by simp⟩
theorem bnd_ask {o : Ou} {N : Sv → Nat} {n : Str} {t : Option Nat} (I : OInv o N) (so : So) : bnd o N so ≤ bnd (askO o n t) N so := by
  rcases ask_cases o n t with ⟨e, _⟩ | ⟨_, hf, h⟩
  · rw [e]
    exact Nat.le_refl _
  · cases so with
    | new s => exact Nat.le_refl _
    | below m =>
      have hn : trGet o.aks n = none := by
        cases q : trGet o.aks n with
        | none => rfl
        | some x =>
          have := I.ask n (by rw [q]; rfl)
          rw [hf] at this
          cases this
      have key : ∀ t', askN (trGet o.aks m) ≤ askN (trGet (trPut o.aks n t') m) := by
        intro t'
        rw [get_put]
        by_cases z : n = m
        · rw [← z, hn]
          exact Nat.zero_le _
        · rw [if_neg z]
          exact Nat.le_refl _
      rcases h with ⟨_, e⟩ | ⟨l, _, e⟩ <;> rw [e] <;> exact key _
theorem inv_ask {o : Ou} {N : Sv → Nat} {n : Str} {t : Option Nat} (I : OInv o N) (hn : nmOk n) (ht : ∀ l, t = some l → l ≤ 996) : OInv (askO o n t) N := by
  have hb := fun so => bnd_ask (n := n) (t := t) I so
  rcases ask_cases o n t with ⟨e, _⟩ | ⟨hg, hf, h⟩
  · rw [e]
    exact I
  · obtain ⟨f1, f2⟩ := fresh_iff.mp hf
    rcases h with ⟨rfl, e⟩ | ⟨l, rfl, e⟩
    · rw [e] at hb ⊢
      refine ⟨I.nen, trPut_keys I.ngo, trPut_keys I.nak, fun m hm => ?_, fun m hm => ?_, fun m r hr => ?_, fun z => ?_, fun m hm => ?_, fun m l hl => ?_⟩
      · show trGet (trPut o.go n ()) m = none
        rw [get_put, if_neg (fun z => by rw [← z, f1] at hm; cases hm)]
        exact I.dis m hm
      · have hm : (trGet (trPut o.aks n none) m).isSome = true := hm
        rw [get_put] at hm
        rw [fresh_not]
        show _ ∨ (trGet (trPut o.go n ()) m).isSome = true
        rw [get_put]
        by_cases z : n = m
        · right
          rw [if_pos z]
          rfl
        · rw [if_neg z] at hm ⊢
          exact fresh_not.mp (I.ask m hm)
      · obtain ⟨a, b⟩ := I.row m r hr
        exact ⟨a.mono hb, b⟩
      · have z : o.gr = none := z
        rw [z] at hg
        cases hg
      · rw [fresh_not] at hm
        have hm : _ ∨ (trGet (trPut o.go n ()) m).isSome = true := hm
        rw [get_put] at hm
        by_cases z : n = m
        · exact z ▸ hn
        · rw [if_neg z] at hm
          exact I.nm m (fresh_not.mpr hm)
      · have hl : trGet (trPut o.aks n none) m = some (some l) := hl
        rw [get_put] at hl
        by_cases z : n = m
        · rw [if_pos z] at hl
          cases hl
        · rw [if_neg z] at hl
          exact I.akb m l hl
    · rw [e] at hb ⊢
      refine ⟨trPut_keys I.nen, I.ngo, trPut_keys I.nak, fun m hm => ?_, fun m hm => ?_, fun m r hr => ?_, fun z => ?_, fun m hm => ?_, fun m l' hl => ?_⟩
      · have hm : (trGet (trPut o.en n (rowOf (.below n) l)) m).isSome = true := hm
        show trGet o.go m = none
        rw [get_put] at hm
        by_cases z : n = m
        · rw [← z]
          exact f2
        · rw [if_neg z] at hm
          exact I.dis m hm
      · have hm : (trGet (trPut o.aks n (some l)) m).isSome = true := hm
        rw [get_put] at hm
        rw [fresh_not]
        show (trGet (trPut o.en n (rowOf (.below n) l)) m).isSome = true ∨ _
        rw [get_put]
        by_cases z : n = m
        · left
          rw [if_pos z]
          rfl
        · rw [if_neg z] at hm ⊢
          exact fresh_not.mp (I.ask m hm)
      · have hr : trGet (trPut o.en n (rowOf (.below n) l)) m = some r := hr
        rw [get_put] at hr
        by_cases z : n = m
        · rw [if_pos z] at hr
          cases hr
          refine ⟨row_in ?_, row_nogo _ _, by rw [row_lenF]; exact ht l rfl⟩
          show l ≤ askN (trGet (trPut o.aks n (some l)) n)
          rw [get_put, if_pos rfl]
          exact Nat.le_refl _
        · rw [if_neg z] at hr
          obtain ⟨a, b⟩ := I.row m r hr
          exact ⟨a.mono hb, b⟩
      · have z : o.gr = none := z
        rw [z] at hg
        cases hg
      · rw [fresh_not] at hm
        have hm : (trGet (trPut o.en n (rowOf (.below n) l)) m).isSome = true ∨ _ := hm
        rw [get_put] at hm
        by_cases z : n = m
        · exact z ▸ hn
        · rw [if_neg z] at hm
          exact I.nm m (fresh_not.mpr hm)
      · have hl : trGet (trPut o.aks n (some l)) m = some (some l') := hl
        rw [get_put] at hl
        by_cases z : n = m
        · rw [if_pos z] at hl
          cases hl
          exact ht l rfl
        · rw [if_neg z] at hl
          exact I.akb m l' hl
/-! the tree that an outline stands for -/
structure Mt (o : Ou) (G B : Tr) (c : Cl) : Prop where
  en : ∀ n r, trGet o.en n = some r → trGet B n = some (fillF r G c)
  go : ∀ n, (trGet o.go n).isSome = true → trGet B n = none
  fr : ∀ n, freshO o n = true → trGet B n = trGet G n
def Fit (o : Ou) (G : Tr) : Prop := ∀ n t, trGet o.aks n = some t → (trGet G n).map List.length = t
theorem mt_ask {o : Ou} {G B : Tr} {c : Cl} {n : Str} {t : Option Nat} (h : Mt o G B c) (f : o.gr.isSome = true → freshO o n = true → (trGet G n).map List.length = t) : Mt (askO o n t) G B c := by
  rcases ask_cases o n t with ⟨e, _⟩ | ⟨hg, hf, z⟩
  · rw [e]
    exact h
  · have fit := f hg hf
    obtain ⟨f1, f2⟩ := fresh_iff.mp hf
    rcases z with ⟨rfl, e⟩ | ⟨l, rfl, e⟩
    · rw [e]
      refine ⟨h.en, fun m hm => ?_, fun m hm => ?_⟩
      · have hm : (trGet (trPut o.go n ()) m).isSome = true := hm
        rw [get_put] at hm
        by_cases z : n = m
        · rw [← z, h.fr n hf]
          exact Option.map_eq_none_iff.mp fit
        · rw [if_neg z] at hm
          exact h.go m hm
      · obtain ⟨m1, m2⟩ := fresh_iff.mp hm
        have m2 : trGet (trPut o.go n ()) m = none := m2
        rw [get_put] at m2
        by_cases z : n = m
        · rw [if_pos z] at m2
          cases m2
        · rw [if_neg z] at m2
          exact h.fr m (fresh_iff.mpr ⟨m1, m2⟩)
    · rw [e]
      refine ⟨fun m r hr => ?_, h.go, fun m hm => ?_⟩
      · have hr : trGet (trPut o.en n (rowOf (.below n) l)) m = some r := hr
        rw [get_put] at hr
        by_cases z : n = m
        · rw [if_pos z] at hr
          cases hr
          obtain ⟨x, e1, e2⟩ := Option.map_eq_some_iff.mp fit
          rw [← z, h.fr n hf, e1, fillF_H]
          have hx : heldF G c (.below n) = x := by
            show (trGet G n).getD [] = x
            rw [e1]
            rfl
          rw [row_fill (by rw [hx, e2]), hx]
        · rw [if_neg z] at hr
          exact h.en m r hr
      · obtain ⟨m1, m2⟩ := fresh_iff.mp hm
        have m1 : trGet (trPut o.en n (rowOf (.below n) l)) m = none := m1
        rw [get_put] at m1
        by_cases z : n = m
        · rw [if_pos z] at m1
          cases m1
        · rw [if_neg z] at m1
          exact h.fr m (fresh_iff.mpr ⟨m1, m2⟩)
/-- what the mark finds -/
def HeldOk (o : Ou) : Mark → Prop
  | .put _ _ => True
  | .patch n _ _ _ h => ∃ r, trGet o.en n = some r ∧ lenF r = h
  | .drop n h => ∃ r, trGet o.en n = some r ∧ lenF r = h
  | .rename n m h => (∃ r, trGet o.en n = some r ∧ lenF r = h) ∧ trGet o.en m = none
theorem ask_en_none (o : Ou) (m : Str) : (askO o m none).en = o.en := by
  rcases ask_cases o m none with ⟨e, _⟩ | ⟨_, _, ⟨_, e⟩ | ⟨l, z, _⟩⟩
  · rw [e]
  · rw [e]
  · cases z
theorem held_of {o : Ou} {k : Mark} (h : reasonOk o k) : HeldOk (reasonO o k) k := by
  cases k with
  | put n l => exact trivial
  | patch n i u l h' => obtain ⟨r, a, _, b⟩ := h; exact ⟨r, a, b⟩
  | drop n h' => obtain ⟨r, a, _, b⟩ := h; exact ⟨r, a, b⟩
  | rename n m h' =>
    obtain ⟨⟨r, a, _, b⟩, c⟩ := h
    refine ⟨⟨r, ?_, b⟩, c⟩
    show trGet (askO (askO o n (some h')) m none).en n = some r
    rw [ask_en_none]
    exact a
theorem bnd_follow (o : Ou) (s : Sv) (k : Mark) (N : Sv → Nat) : bnd (followO o s k) N = bnd o N := by
  funext so
  cases so <;> cases k <;> rfl
theorem mem_le_sum {l : List Nat} {x : Nat} (h : x ∈ l) : x ≤ l.sum := by
  induction l with
  | nil => cases h
  | cons y l ih =>
    rw [List.sum_cons]
    rcases List.mem_cons.mp h with rfl | h
    · omega
    · have := ih h
      omega
theorem lenF_join {ps : List Pc} : lenF (joinF ps) = lenF ps := by
  -- as the lengths of what fake sources give
  let B : So → Nat := fun _ => (ps.map fun p => p.a + p.n).sum
  have key : ∀ r : List Pc, (∀ so, ∀ p ∈ r, p.a + p.n ≤ B so) → (fillH (symH B) r).length = lenF r := by
    intro r
    induction r with
    | nil => intro _; rfl
    | cons p r ih =>
      intro h
      rw [fillH_cons, List.length_append, lenF_cons, ih fun so q hq => h so q (List.mem_cons_of_mem _ hq)]
      congr 1
      unfold cutH
      have h1 := h p.so p List.mem_cons_self
      rw [List.length_drop, List.length_take, sym_len]
      omega
  have inB : ∀ so, ∀ p ∈ ps, p.a + p.n ≤ B so := by
    intro so p hp
    exact mem_le_sum (List.mem_map_of_mem (f := fun p : Pc => p.a + p.n) hp)
  have inJ : ∀ (qs : List Pc) (acc : List Pc), (∀ so, ∀ p ∈ acc, p.a + p.n ≤ B so) → (∀ so, ∀ p ∈ qs, p.a + p.n ≤ B so) → ∀ so, ∀ p ∈ qs.foldl joinStep acc, p.a + p.n ≤ B so := by
    intro qs
    induction qs with
    | nil => intro acc h _; exact h
    | cons q qs ih =>
      intro acc h h2
      refine ih _ ?_ fun so p hp => h2 so p (List.mem_cons_of_mem _ hp)
      intro so p hp
      rcases step_cases acc q with ⟨a, x, rfl, g, e⟩ | ⟨_, e⟩
      · rw [e] at hp
        obtain ⟨g1, g2⟩ := goes_iff.mp g
        rcases List.mem_append.mp hp with hp | hp
        · exact h so p (List.mem_append_left _ hp)
        · cases List.mem_singleton.mp hp
          have h3 := h2 so q List.mem_cons_self
          show x.a + (x.n + q.n) ≤ B so
          omega
      · rw [e] at hp
        rcases List.mem_append.mp hp with hp | hp
        · exact h so p hp
        · cases List.mem_singleton.mp hp
          exact h2 so q List.mem_cons_self
  rw [← key (joinF ps) (inJ ps [] (fun _ p hp => by cases hp) inB), join_fill, key ps inB]
theorem lenF_part {B : So → Nat} {r : List Pc} (h : RIn B r) (f s : Nat) : lenF (partF r 0 f s) = min s (lenF r) - f := by
  have h1 := fill_len (hf := symH B) (B := B) (fun so => by rw [sym_len]; exact Nat.le_refl _) (part_in f s 0 h)
  rw [fill_part (fun so => by rw [sym_len]; exact Nat.le_refl _) f s 0 h, List.length_drop, List.length_take, fill_len (fun so => by rw [sym_len]; exact Nat.le_refl _) h] at h1
  rw [← h1]
  omega
theorem get_follow_put {o : Ou} {n x : Str} {r : List Pc} : trGet (trPut (trDrop o.en n) n r) x = if n = x then some r else trGet o.en x := by
  rw [get_put]
  by_cases z : n = x
  · rw [if_pos z, if_pos z]
  · rw [if_neg z, if_neg z, get_drop, if_neg (fun e => z e.symm)]
theorem inv_follow {o : Ou} {N : Sv → Nat} {s : Sv} {k : Mark} (I : OInv o N) (hd : HeldOk o k) (ko : k.ok) (hN : k.news ≤ N s) : OInv (followO o s k) N := by
  have hb := bnd_follow o s k N
  have put_like : ∀ (n : Str) (r : List Pc) (k' : Mark), followO o s k' = ⟨o.gr, trPut (trDrop o.en n) n r, trDrop o.go n, o.aks⟩ → nmOk n → RIn (bnd o N) r → NoGo r → lenF r ≤ 996 → OInv (followO o s k') N := by
    intro n r k' e hn h1 h2 h3
    have hb := bnd_follow o s k' N
    rw [e] at hb ⊢
    refine ⟨trPut_keys (drop_keys I.nen), drop_keys I.ngo, I.nak, fun m hm => ?_, fun m hm => ?_, fun m q hq => ?_, I.grn, fun m hm => ?_, I.akb⟩
    · have hm : (trGet (trPut (trDrop o.en n) n r) m).isSome = true := hm
      show trGet (trDrop o.go n) m = none
      rw [get_follow_put] at hm
      rw [get_drop]
      by_cases z : n = m
      · rw [if_pos z.symm]
      · rw [if_neg z] at hm
        rw [if_neg (fun e => z e.symm)]
        exact I.dis m hm
    · have := fresh_not.mp (I.ask m hm)
      rw [fresh_not]
      show (trGet (trPut (trDrop o.en n) n r) m).isSome = true ∨ (trGet (trDrop o.go n) m).isSome = true
      rw [get_follow_put, get_drop]
      by_cases z : n = m
      · left
        rw [if_pos z]
        rfl
      · rw [if_neg z, if_neg (fun e => z e.symm)]
        exact this
    · have hq : trGet (trPut (trDrop o.en n) n r) m = some q := hq
      rw [get_follow_put] at hq
      rw [hb]
      by_cases z : n = m
      · rw [if_pos z] at hq
        cases hq
        exact ⟨h1, h2, h3⟩
      · rw [if_neg z] at hq
        exact I.row m q hq
    · rw [fresh_not] at hm
      have hm : (trGet (trPut (trDrop o.en n) n r) m).isSome = true ∨ (trGet (trDrop o.go n) m).isSome = true := hm
      rw [get_follow_put, get_drop] at hm
      by_cases z : n = m
      · exact z ▸ hn
      · rw [if_neg z, if_neg (fun e => z e.symm)] at hm
        exact I.nm m (fresh_not.mpr hm)
  cases k with
  | put n l =>
    exact put_like n _ _ rfl ko.1 (row_in hN) (row_nogo _ _) (by show lenF (rowOf _ _) ≤ 996; rw [row_lenF]; exact Nat.le_trans ko.2 (by decide))
  | patch n i u l h =>
    obtain ⟨r, hr, hl⟩ := hd
    obtain ⟨a, b, c⟩ := I.row n r hr
    obtain ⟨k1, k2, k3, k4, k5, k6⟩ := ko
    have e : heldO o n = r := by
      unfold heldO
      rw [hr]
      rfl
    refine put_like n _ _ rfl k1 (join_in ?_) (join_nogo _) ?_
    · rw [e]
      exact ((part_in _ _ _ a).app (row_in hN)).app (part_in _ _ _ a)
    · show lenF (joinF _) ≤ 996
      rw [lenF_join, lenF_app, lenF_app, row_lenF, e, lenF_part a, lenF_part a]
      omega
  | drop n h =>
    show OInv ⟨o.gr, trDrop o.en n, trPut o.go n (), o.aks⟩ N
    obtain ⟨r, hr, hl⟩ := hd
    refine ⟨drop_keys I.nen, trPut_keys I.ngo, I.nak, fun m hm => ?_, fun m hm => ?_, fun m q hq => ?_, I.grn, fun m hm => ?_, I.akb⟩
    · have hm : (trGet (trDrop o.en n) m).isSome = true := hm
      show trGet (trPut o.go n ()) m = none
      rw [get_drop] at hm
      rw [get_put]
      by_cases z : m = n
      · rw [if_pos z] at hm
        cases hm
      · rw [if_neg z] at hm
        rw [if_neg (fun e => z e.symm)]
        exact I.dis m hm
    · have := fresh_not.mp (I.ask m hm)
      rw [fresh_not]
      show (trGet (trDrop o.en n) m).isSome = true ∨ (trGet (trPut o.go n ()) m).isSome = true
      rw [get_drop, get_put]
      by_cases z : n = m
      · right
        rw [if_pos z]
        rfl
      · rw [if_neg z, if_neg (fun e => z e.symm)]
        exact this
    · have hq : trGet (trDrop o.en n) m = some q := hq
      rw [get_drop] at hq
      by_cases z : m = n
      · rw [if_pos z] at hq
        cases hq
      · rw [if_neg z] at hq
        exact I.row m q hq
    · rw [fresh_not] at hm
      have hm : (trGet (trDrop o.en n) m).isSome = true ∨ (trGet (trPut o.go n ()) m).isSome = true := hm
      rw [get_drop, get_put] at hm
      by_cases z : n = m
      · exact z ▸ ko.1
      · rw [if_neg z, if_neg (fun e => z e.symm)] at hm
        exact I.nm m (fresh_not.mpr hm)
  | rename n m h =>
    obtain ⟨⟨r, hr, hl⟩, hm0⟩ := hd
    obtain ⟨k1, k2, k3, k4⟩ := ko
    obtain ⟨a, b, c⟩ := I.row n r hr
    have e : heldO o n = r := by
      unfold heldO
      rw [hr]
      rfl
    show OInv ⟨o.gr, trPut (trDrop o.en n) m (heldO o n), trDrop (trPut o.go n ()) m, o.aks⟩ N
    rw [e]
    refine ⟨trPut_keys (drop_keys I.nen), drop_keys (trPut_keys I.ngo), I.nak, fun x hx => ?_, fun x hx => ?_, fun x q hq => ?_, I.grn, fun x hx => ?_, I.akb⟩
    · have hx : (trGet (trPut (trDrop o.en n) m r) x).isSome = true := hx
      show trGet (trDrop (trPut o.go n ()) m) x = none
      rw [get_put, get_drop] at hx
      rw [get_drop, get_put]
      by_cases z : x = m
      · rw [if_pos z]
      · rw [if_neg (fun e => z e.symm)] at hx
        by_cases y : x = n
        · rw [if_pos y] at hx
          cases hx
        · rw [if_neg y] at hx
          rw [if_neg z, if_neg (fun e => y e.symm)]
          exact I.dis x hx
    · have := fresh_not.mp (I.ask x hx)
      rw [fresh_not]
      show (trGet (trPut (trDrop o.en n) m r) x).isSome = true ∨ (trGet (trDrop (trPut o.go n ()) m) x).isSome = true
      rw [get_put, get_drop, get_drop, get_put]
      by_cases z : x = m
      · left
        rw [if_pos z.symm]
        rfl
      · rw [if_neg (fun e => z e.symm), if_neg z]
        by_cases y : x = n
        · right
          rw [if_pos y.symm]
          rfl
        · rw [if_neg y, if_neg (fun e => y e.symm)]
          exact this
    · have hq : trGet (trPut (trDrop o.en n) m r) x = some q := hq
      rw [get_put, get_drop] at hq
      by_cases z : m = x
      · rw [if_pos z] at hq
        cases hq
        exact ⟨a, b, c⟩
      · rw [if_neg z] at hq
        by_cases y : x = n
        · rw [if_pos y] at hq
          cases hq
        · rw [if_neg y] at hq
          exact I.row x q hq
    · rw [fresh_not] at hx
      have hx : (trGet (trPut (trDrop o.en n) m r) x).isSome = true ∨ (trGet (trDrop (trPut o.go n ()) m) x).isSome = true := hx
      rw [get_put, get_drop, get_drop, get_put] at hx
      by_cases z : m = x
      · exact z ▸ k2
      · rw [if_neg z, if_neg (show ¬ x = m from fun e => z e.symm)] at hx
        by_cases y : x = n
        · exact y ▸ k1
        · rw [if_neg y, if_neg (show ¬ n = x from fun e => y e.symm)] at hx
          exact I.nm x (fresh_not.mpr hx)
theorem mt_follow {o : Ou} {N : Sv → Nat} {s : Sv} {k : Mark} {G B : Tr} {c : Cl} {cs : List PyData} (I : OInv o N) (m : Mt o G B c) (hB : ∀ so, bnd o N so ≤ (heldF G c so).length) (ko : k.ok) (hd : HeldOk o k) (hg : ∀ n, o.gr = none → trGet G n = none) (hgn : ∀ n p h, k = .rename n p h → o.gr.isSome = true → freshO o p = false) (hs : trGet c s = some cs) (hl : cs.length = k.news) :
    ∃ B', doneF B (deedBy k cs) = some B' ∧ markF B (deedBy k cs) = k ∧ Mt (followO o s k) G B' c := by
  have hnew : heldF G c (.new s) = cs := by
    show (trGet c s).getD [] = cs
    rw [hs]
    rfl
  have put_like : ∀ (n : Str) (r : List Pc) (x : List PyData) (B1 : Tr), fillF r G c = x → (∀ y, y ≠ n → trGet B1 y = trGet B y) → Mt ⟨o.gr, trPut (trDrop o.en n) n r, trDrop o.go n, o.aks⟩ G (trPut B1 n x) c := by
    intro n r x B1 e hy
    refine ⟨fun y q hq => ?_, fun y hq => ?_, fun y hq => ?_⟩
    · have hq : trGet (trPut (trDrop o.en n) n r) y = some q := hq
      rw [get_follow_put] at hq
      rw [get_put]
      by_cases z : n = y
      · rw [if_pos z] at hq ⊢
        cases hq
        rw [e]
      · rw [if_neg z] at hq ⊢
        rw [hy y fun e => z e.symm]
        exact m.en y q hq
    · have hq : (trGet (trDrop o.go n) y).isSome = true := hq
      rw [get_drop] at hq
      rw [get_put]
      by_cases z : y = n
      · rw [if_pos z] at hq
        cases hq
      · rw [if_neg z] at hq
        rw [if_neg (fun e => z e.symm), hy y z]
        exact m.go y hq
    · obtain ⟨q1, q2⟩ := fresh_iff.mp hq
      have q1 : trGet (trPut (trDrop o.en n) n r) y = none := q1
      have q2 : trGet (trDrop o.go n) y = none := q2
      rw [get_follow_put] at q1
      by_cases z : n = y
      · rw [if_pos z] at q1
        cases q1
      · rw [if_neg z] at q1
        rw [get_drop, if_neg (fun e => z e.symm)] at q2
        rw [get_put, if_neg z, hy y fun e => z e.symm]
        exact m.fr y (fresh_iff.mpr ⟨q1, q2⟩)
  cases k with
  | put n l =>
    refine ⟨trPut B n cs, rfl, ?_, ?_⟩
    · show Mark.put n cs.length = Mark.put n l
      rw [show cs.length = l from hl]
    · refine put_like n _ cs B ?_ fun _ _ => rfl
      show fillF (rowOf (.new s) l) G c = cs
      rw [fillF_H, row_fill (by rw [hnew]; exact hl), hnew]
  | patch n i u l h =>
    obtain ⟨r, hr, hlr⟩ := hd
    obtain ⟨a, b, _⟩ := I.row n r hr
    obtain ⟨k1, k2, k3, k4, k5, k6⟩ := ko
    have hl : cs.length = l := hl
    have e : heldO o n = r := by
      unfold heldO
      rw [hr]
      rfl
    have hn := m.en n r hr
    have hh : (fillF r G c).length = h := by rw [fillF_H, fill_len hB a, hlr]
    refine ⟨trPut (trDrop B n) n ((fillF r G c).take i ++ cs ++ (fillF r G c).drop (i + u)), ?_, ?_, ?_⟩
    · show doneF B (.patch n i u cs) = _
      rw [doneF_patS hn, if_neg (by omega)]
    · show Mark.patch n i u cs.length ((trGet B n).getD []).length = _
      rw [hn, hl]
      show Mark.patch n i u l (fillF r G c).length = _
      rw [hh]
    · refine put_like n _ _ (trDrop B n) ?_ fun y hy => by rw [get_drop, if_neg hy]
      show fillF (joinF (partF (heldO o n) 0 0 i ++ rowOf (.new s) l ++ partF (heldO o n) 0 (i + u) h)) G c = _
      rw [e, fillF_H, join_fill, fillH_app, fillH_app, fill_part hB _ _ 0 a, fill_part hB _ _ 0 a, row_fill (by rw [hnew]; exact hl), hnew]
      rw [show h - 0 = (fillH (heldF G c) r).length by rw [← fillF_H]; omega, List.take_length]
      rfl
  | drop n h =>
    obtain ⟨r, hr, hlr⟩ := hd
    obtain ⟨a, b, _⟩ := I.row n r hr
    have hn := m.en n r hr
    have hh : (fillF r G c).length = h := by rw [fillF_H, fill_len hB a, hlr]
    refine ⟨trDrop B n, doneF_dropS hn, ?_, ?_⟩
    · show Mark.drop n ((trGet B n).getD []).length = _
      rw [hn]
      show Mark.drop n (fillF r G c).length = _
      rw [hh]
    · show Mt ⟨o.gr, trDrop o.en n, trPut o.go n (), o.aks⟩ G (trDrop B n) c
      refine ⟨fun y q hq => ?_, fun y hq => ?_, fun y hq => ?_⟩
      · have hq : trGet (trDrop o.en n) y = some q := hq
        rw [get_drop] at hq ⊢
        by_cases z : y = n
        · rw [if_pos z] at hq
          cases hq
        · rw [if_neg z] at hq ⊢
          exact m.en y q hq
      · have hq : (trGet (trPut o.go n ()) y).isSome = true := hq
        rw [get_put] at hq
        rw [get_drop]
        by_cases z : y = n
        · rw [if_pos z]
        · rw [if_neg (fun e => z e.symm)] at hq
          rw [if_neg z]
          exact m.go y hq
      · obtain ⟨q1, q2⟩ := fresh_iff.mp hq
        have q1 : trGet (trDrop o.en n) y = none := q1
        have q2 : trGet (trPut o.go n ()) y = none := q2
        rw [get_put] at q2
        by_cases z : n = y
        · rw [if_pos z] at q2
          cases q2
        · rw [if_neg z] at q2
          rw [get_drop, if_neg (fun e => z e.symm)] at q1
          rw [get_drop, if_neg (fun e => z e.symm)]
          exact m.fr y (fresh_iff.mpr ⟨q1, q2⟩)
  | rename n p h =>
    obtain ⟨⟨r, hr, hlr⟩, hp⟩ := hd
    obtain ⟨a, b, _⟩ := I.row n r hr
    obtain ⟨k1, k2, k3, k4⟩ := ko
    have e : heldO o n = r := by
      unfold heldO
      rw [hr]
      rfl
    have hn := m.en n r hr
    have hh : (fillF r G c).length = h := by rw [fillF_H, fill_len hB a, hlr]
    have hBp : trGet B p = none := by
      cases hgo : trGet o.go p with
      | some x => exact m.go p (by rw [hgo]; rfl)
      | none =>
        have hf := fresh_iff.mpr ⟨hp, hgo⟩
        cases hgr : o.gr with
        | some g =>
          have := hgn n p h rfl (by rw [hgr]; rfl)
          rw [hf] at this
          cases this
        | none =>
          rw [m.fr p hf]
          exact hg p hgr
    refine ⟨trPut (trDrop B n) p (fillF r G c), doneF_renS hn hBp, ?_, ?_⟩
    · show Mark.rename n p ((trGet B n).getD []).length = _
      rw [hn]
      show Mark.rename n p (fillF r G c).length = _
      rw [hh]
    · show Mt ⟨o.gr, trPut (trDrop o.en n) p (heldO o n), trDrop (trPut o.go n ()) p, o.aks⟩ G _ c
      rw [e]
      refine ⟨fun y q hq => ?_, fun y hq => ?_, fun y hq => ?_⟩
      · have hq : trGet (trPut (trDrop o.en n) p r) y = some q := hq
        rw [get_put, get_drop] at hq ⊢
        by_cases z : p = y
        · rw [if_pos z] at hq ⊢
          cases hq
          rfl
        · rw [if_neg z] at hq ⊢
          by_cases w : y = n
          · rw [if_pos w] at hq
            cases hq
          · rw [if_neg w] at hq ⊢
            exact m.en y q hq
      · have hq : (trGet (trDrop (trPut o.go n ()) p) y).isSome = true := hq
        rw [get_drop, get_put] at hq
        rw [get_put, get_drop]
        by_cases z : y = p
        · rw [if_pos z] at hq
          cases hq
        · rw [if_neg z] at hq
          rw [if_neg (fun e => z e.symm)]
          by_cases w : y = n
          · rw [if_pos w]
          · rw [if_neg (fun e => w e.symm)] at hq
            rw [if_neg w]
            exact m.go y hq
      · obtain ⟨q1, q2⟩ := fresh_iff.mp hq
        have q1 : trGet (trPut (trDrop o.en n) p r) y = none := q1
        have q2 : trGet (trDrop (trPut o.go n ()) p) y = none := q2
        rw [get_put, get_drop] at q1
        rw [get_drop, get_put] at q2
        by_cases z : p = y
        · rw [if_pos z] at q1
          cases q1
        · rw [if_neg z] at q1
          rw [if_neg (fun e => z e.symm)] at q2
          by_cases w : n = y
          · rw [if_pos w] at q2
            cases q2
          · rw [if_neg w] at q2
            rw [if_neg (fun e => w e.symm)] at q1
            rw [get_put, get_drop, if_neg z, if_neg (fun e => w e.symm)]
            exact m.fr y (fresh_iff.mpr ⟨q1, q2⟩)
end SR
set_option Elab.async false
set_option linter.all false
set_option maxRecDepth 100000
set_option maxHeartbeats 4000000
/-! plain: marks one after the other -/
namespace SR
open PySem PySem.Spec PyProof.Rows L2
theorem ask_gr (o : Ou) (n : Str) (t : Option Nat) : (askO o n t).gr = o.gr := by
  rcases ask_cases o n t with ⟨e, _⟩ | ⟨_, _, ⟨_, e⟩ | ⟨l, _, e⟩⟩ <;> rw [e]
theorem reason_gr (o : Ou) (k : Mark) : (reasonO o k).gr = o.gr := by
  cases k with
  | put n l => rfl
  | patch n i u l h => exact ask_gr _ _ _
  | drop n h => exact ask_gr _ _ _
  | rename n m h => exact (ask_gr _ _ _).trans (ask_gr _ _ _)
theorem follow_gr (o : Ou) (s : Sv) (k : Mark) : (followO o s k).gr = o.gr := by cases k <;> rfl
theorem led_gr (o : Ou) (s : Sv) (k : Mark) : (ledO o s k).gr = o.gr := (follow_gr _ _ _).trans (reason_gr _ _)
theorem follow_aks (o : Ou) (s : Sv) (k : Mark) : (followO o s k).aks = o.aks := by cases k <;> rfl
theorem led_aks (o : Ou) (s : Sv) (k : Mark) : (ledO o s k).aks = (reasonO o k).aks := follow_aks _ _ _
theorem ask_notfresh {o : Ou} {n : Str} {t : Option Nat} (h : o.gr.isSome = true) : freshO (askO o n t) n = false := by
  rcases ask_cases o n t with ⟨e, z⟩ | ⟨_, _, ⟨_, e⟩ | ⟨l, _, e⟩⟩
  · rw [e]
    rcases z with z | z
    · rw [z] at h
      cases h
    · exact z
  · rw [e, fresh_not]
    right
    show (trGet (trPut o.go n ()) n).isSome = true
    rw [get_put, if_pos rfl]
    rfl
  · rw [e, fresh_not]
    left
    show (trGet (trPut o.en n _) n).isSome = true
    rw [get_put, if_pos rfl]
    rfl
/-- a name that is known stays known -/
theorem ask_known {o : Ou} {n m : Str} {t : Option Nat} (h : freshO o m = false) : freshO (askO o n t) m = false := by
  rcases ask_cases o n t with ⟨e, z⟩ | ⟨_, _, ⟨_, e⟩ | ⟨l, _, e⟩⟩
  · rw [e]
    exact h
  · rw [e, fresh_not]
    show _ ∨ (trGet (trPut o.go n ()) m).isSome = true
    rw [get_put]
    by_cases z : n = m
    · right
      rw [if_pos z]
      rfl
    · rw [if_neg z]
      exact fresh_not.mp h
  · rw [e, fresh_not]
    show (trGet (trPut o.en n _) m).isSome = true ∨ _
    rw [get_put]
    by_cases z : n = m
    · left
      rw [if_pos z]
      rfl
    · rw [if_neg z]
      exact fresh_not.mp h
def AskFit (o : Ou) (G : Tr) : Mark → Prop
  | .put _ _ => True
  | .patch n _ _ _ h => o.gr.isSome = true → freshO o n = true → (trGet G n).map List.length = some h
  | .drop n h => o.gr.isSome = true → freshO o n = true → (trGet G n).map List.length = some h
  | .rename n m h => (o.gr.isSome = true → freshO o n = true → (trGet G n).map List.length = some h) ∧ (o.gr.isSome = true → freshO (askO o n (some h)) m = true → (trGet G m).map List.length = none)
theorem mt_reason {o : Ou} {G B : Tr} {c : Cl} {k : Mark} (m : Mt o G B c) (f : AskFit o G k) : Mt (reasonO o k) G B c := by
  cases k with
  | put n l => exact m
  | patch n i u l h => exact mt_ask m f
  | drop n h => exact mt_ask m f
  | rename n p h => exact mt_ask (mt_ask m f.1) (by rw [ask_gr]; exact f.2)
theorem inv_reason {o : Ou} {N : Sv → Nat} {k : Mark} (I : OInv o N) (ko : k.ok) : OInv (reasonO o k) N := by
  cases k with
  | put n l => exact I
  | patch n i u l h => exact inv_ask (n := n) (t := some h) I ko.1 fun x e => by cases e; exact ko.2.2.2.2.1
  | drop n h => exact inv_ask (n := n) (t := some h) I ko.1 fun x e => by cases e; exact ko.2
  | rename n p h => exact inv_ask (n := p) (t := none) (inv_ask (n := n) (t := some h) I ko.1 fun x e => by cases e; exact ko.2.2.2) ko.2.1 fun x e => by cases e
theorem fit_ask {o : Ou} {G : Tr} {n : Str} {t : Option Nat} (h : Fit o G) (f : o.gr.isSome = true → freshO o n = true → (trGet G n).map List.length = t) : Fit (askO o n t) G := by
  have key : ∀ t', (trGet G n).map List.length = t' → ∀ m u, trGet (trPut o.aks n t') m = some u → (trGet G m).map List.length = u := by
    intro t' ht m u hu
    rw [get_put] at hu
    by_cases z : n = m
    · rw [if_pos z] at hu
      cases hu
      rw [← z]
      exact ht
    · rw [if_neg z] at hu
      exact h m u hu
  rcases ask_cases o n t with ⟨e, _⟩ | ⟨hg, hf, ⟨rfl, e⟩ | ⟨l, rfl, e⟩⟩
  · rw [e]
    exact h
  · rw [e]
    exact key _ (f hg hf)
  · rw [e]
    exact key _ (f hg hf)
theorem fit_led {o : Ou} {G : Tr} {s : Sv} {k : Mark} (h : Fit o G) (f : AskFit o G k) : Fit (ledO o s k) G := by
  intro n t
  rw [led_aks]
  revert n t
  show Fit (reasonO o k) G
  cases k with
  | put n l => exact h
  | patch n i u l h' => exact fit_ask h f
  | drop n h' => exact fit_ask h f
  | rename n p h' => exact fit_ask (fit_ask h f.1) (by rw [ask_gr]; exact f.2)
theorem aks_keep {o : Ou} {N : Sv → Nat} {n m : Str} {t u : Option Nat} (I : OInv o N) (h : trGet o.aks m = some u) : trGet (askO o n t).aks m = some u := by
  have hk := I.ask m (by rw [h]; rfl)
  rcases ask_cases o n t with ⟨e, _⟩ | ⟨hg, hf, z⟩
  · rw [e]
    exact h
  · have ne : ¬ n = m := by
      intro z
      rw [z, hk] at hf
      cases hf
    rcases z with ⟨_, e⟩ | ⟨l, _, e⟩ <;> rw [e] <;> (show trGet (trPut o.aks n _) m = some u) <;> rw [get_put, if_neg ne] <;> exact h
theorem fit_back {o : Ou} {N : Sv → Nat} {G : Tr} {s : Sv} {k : Mark} (I : OInv o N) (ko : k.ok) (h : Fit (ledO o s k) G) : Fit o G := by
  have h : ∀ n t, trGet (reasonO o k).aks n = some t → (trGet G n).map List.length = t := by
    rw [← led_aks o s k]
    exact h
  intro n t hn
  refine h n t ?_
  cases k with
  | put _ l => exact hn
  | patch _ i u l h' => exact aks_keep I hn
  | drop _ h' => exact aks_keep I hn
  | rename x p h' => exact aks_keep (inv_ask I ko.1 fun x e => by cases e; exact ko.2.2.2) (aks_keep I hn)
theorem ask_told {o : Ou} {n : Str} {t : Option Nat} (hg : o.gr.isSome = true) (hf : freshO o n = true) : trGet (askO o n t).aks n = some t := by
  rcases ask_cases o n t with ⟨e, z⟩ | ⟨_, _, ⟨rfl, e⟩ | ⟨l, rfl, e⟩⟩
  · rcases z with z | z
    · rw [z] at hg
      cases hg
    · rw [z] at hf
      cases hf
  · rw [e]
    show trGet (trPut o.aks n none) n = some none
    rw [get_put, if_pos rfl]
  · rw [e]
    show trGet (trPut o.aks n (some l)) n = some (some l)
    rw [get_put, if_pos rfl]
theorem askfit_of {o : Ou} {N : Sv → Nat} {G : Tr} {s : Sv} {k : Mark} (I : OInv o N) (ko : k.ok) (h : Fit (ledO o s k) G) : AskFit o G k := by
  have h : ∀ n t, trGet (reasonO o k).aks n = some t → (trGet G n).map List.length = t := by
    rw [← led_aks o s k]
    exact h
  cases k with
  | put _ l => exact trivial
  | patch n i u l h' => exact fun hg hf => h n _ (ask_told hg hf)
  | drop n h' => exact fun hg hf => h n _ (ask_told hg hf)
  | rename n p h' =>
    have I1 := inv_ask (t := some h') I ko.1 fun x e => by cases e; exact ko.2.2.2
    exact ⟨fun hg hf => h n _ (aks_keep I1 (ask_told hg hf)), fun hg hf => h p _ (ask_told (by rw [ask_gr]; exact hg) hf)⟩
theorem hB_of {o : Ou} {N : Sv → Nat} {G : Tr} {c : Cl} (ft : Fit o G) (hN : ∀ s, N s ≤ ((trGet c s).getD []).length) : ∀ so, bnd o N so ≤ (heldF G c so).length := by
  intro so
  cases so with
  | new s => exact hN s
  | below n =>
    show askN (trGet o.aks n) ≤ ((trGet G n).getD []).length
    cases e : trGet o.aks n with
    | none => exact Nat.zero_le _
    | some t =>
      cases t with
      | none => exact Nat.zero_le _
      | some l =>
        obtain ⟨x, e1, e2⟩ := Option.map_eq_some_iff.mp (ft n _ e)
        rw [e1]
        show l ≤ x.length
        omega
/-- what a name of the tree is to the outline -/
theorem ask_found {o : Ou} {N : Sv → Nat} {G B : Tr} {c : Cl} {n : Str} {x : List PyData} (I : OInv o N) (m : Mt o G B c) (hB : ∀ so, bnd o N so ≤ (heldF G c so).length) (g0 : ∀ n, o.gr = none → trGet G n = none) (hx : trGet B n = some x) (hl : x.length ≤ 996) :
    (o.gr.isSome = true → freshO o n = true → (trGet G n).map List.length = some x.length) ∧ ∃ r, trGet (askO o n (some x.length)).en n = some r ∧ r.length ≤ 10000 ∧ lenF r = x.length := by
  have known : freshO o n = false → ∃ r, trGet o.en n = some r ∧ r.length ≤ 10000 ∧ lenF r = x.length := by
    intro hf
    rcases fresh_not.mp hf with h | h
    · obtain ⟨r, hr⟩ := Option.isSome_iff_exists.mp h
      have e := m.en n r hr
      obtain ⟨a, b, d⟩ := I.row n r hr
      rw [hx] at e
      have e := Option.some.inj e
      refine ⟨r, hr, ?_, ?_⟩
      · have := len_le a
        omega
      · rw [e, fillF_H, fill_len hB a]
    · rw [m.go n h] at hx
      cases hx
  refine ⟨fun hg hf => ?_, ?_⟩
  · rw [← m.fr n hf, hx]
    rfl
  · rcases ask_cases o n (some x.length) with ⟨e, z⟩ | ⟨_, _, ⟨z, _⟩ | ⟨l, z, e⟩⟩
    · rw [e]
      rcases z with z | z
      · cases hf : freshO o n with
        | false => exact known hf
        | true =>
          rw [m.fr n hf, g0 n z] at hx
          cases hx
      · exact known z
    · cases z
    · cases z
      rw [e]
      refine ⟨rowOf (.below n) x.length, ?_, Nat.le_trans (row_le _ _) (by decide), row_lenF _ _⟩
      show trGet (trPut o.en n _) n = _
      rw [get_put, if_pos rfl]
theorem ask_absent {o : Ou} {G B : Tr} {c : Cl} {n : Str} (m : Mt o G B c) (hx : trGet B n = none) : (o.gr.isSome = true → freshO o n = true → (trGet G n).map List.length = none) ∧ trGet (askO o n none).en n = none := by
  refine ⟨fun hg hf => by rw [← m.fr n hf, hx]; rfl, ?_⟩
  rw [ask_en_none]
  cases e : trGet o.en n with
  | none => rfl
  | some r =>
    rw [m.en n r e] at hx
    cases hx
/-- a deed that can be done: its mark is taken -/
theorem reason_of {o : Ou} {N : Sv → Nat} {G B B' : Tr} {c : Cl} {d : Deed} (I : OInv o N) (m : Mt o G B c) (hB : ∀ so, bnd o N so ≤ (heldF G c so).length) (g0 : ∀ n, o.gr = none → trGet G n = none) (hd : doneF B d = some B') (ko : (markF B d).ok) :
    AskFit o G (markF B d) ∧ reasonOk o (markF B d) := by
  cases d with
  | put n cs => exact ⟨trivial, trivial⟩
  | patch n i u cs =>
    cases e : trGet B n with
    | none =>
      rw [doneF_patN e] at hd
      cases hd
    | some x =>
      have hm : markF B (.patch n i u cs) = .patch n i u cs.length x.length := by
        show Mark.patch n i u cs.length ((trGet B n).getD []).length = _
        rw [e]
        rfl
      rw [hm] at ko ⊢
      exact ask_found I m hB g0 e ko.2.2.2.2.1
  | drop n =>
    cases e : trGet B n with
    | none =>
      rw [doneF_dropN e] at hd
      cases hd
    | some x =>
      have hm : markF B (.drop n) = .drop n x.length := by
        show Mark.drop n ((trGet B n).getD []).length = _
        rw [e]
        rfl
      rw [hm] at ko ⊢
      exact ask_found I m hB g0 e ko.2
  | rename n p =>
    cases e : trGet B n with
    | none =>
      rw [doneF_renN e] at hd
      cases hd
    | some x =>
      cases e2 : trGet B p with
      | some y =>
        rw [doneF_renT e e2] at hd
        cases hd
      | none =>
        have hm : markF B (.rename n p) = .rename n p x.length := by
          show Mark.rename n p ((trGet B n).getD []).length = _
          rw [e]
          rfl
        rw [hm] at ko ⊢
        obtain ⟨a, b⟩ := ask_found I m hB g0 e ko.2.2.2
        obtain ⟨a2, b2⟩ := ask_absent (mt_ask m a) e2
        exact ⟨⟨a, by rw [ask_gr] at a2; exact a2⟩, b, b2⟩
theorem led_step {o : Ou} {N : Sv → Nat} {s : Sv} {k : Mark} {G B : Tr} {c : Cl} {cs : List PyData} (I : OInv o N) (m : Mt o G B c) (g0 : ∀ n, o.gr = none → trGet G n = none) (ft : Fit (ledO o s k) G) (hN : ∀ s, N s ≤ ((trGet c s).getD []).length) (rs : reasonOk o k) (ko : k.ok) (hs : trGet c s = some cs) (hl : cs.length = k.news) :
    ∃ B', doneF B (deedBy k cs) = some B' ∧ markF B (deedBy k cs) = k ∧ Mt (ledO o s k) G B' c := by
  have ftr : Fit (reasonO o k) G := by
    intro n t
    rw [← led_aks o s k]
    exact ft n t
  refine mt_follow (inv_reason I ko) (mt_reason m (askfit_of I ko ft)) (hB_of ftr hN) ko (held_of rs) (fun n hg => g0 n (by rw [← hg, reason_gr])) ?_ hs hl
  intro n p h e hg
  subst e
  rw [reason_gr] at hg
  exact ask_notfresh (by rw [ask_gr]; exact hg)
theorem inv_led {o : Ou} {N : Sv → Nat} {s : Sv} {k : Mark} (I : OInv o N) (rs : reasonOk o k) (ko : k.ok) (hN : k.news ≤ N s) : OInv (ledO o s k) N := inv_follow (inv_reason I ko) (held_of rs) ko hN
/-! sizes -/
structure Sz (o : Ou) (a : Nat) : Prop where
  en : o.en.length ≤ a
  go : o.go.length ≤ a
  aks : o.aks.length ≤ a
theorem sz_ask {o : Ou} {a : Nat} {n : Str} {t : Option Nat} (h : Sz o a) : Sz (askO o n t) (a + 1) := by
  obtain ⟨x, y, z⟩ := ask_small (o := o) (n := n) (t := t) (B := a + 1) ⟨by have := h.en; omega, by have := h.go; omega, by have := h.aks; omega⟩
  exact ⟨by omega, by omega, by omega⟩
theorem Sz.mono {o : Ou} {a b : Nat} (h : Sz o a) (k : a ≤ b) : Sz o b := ⟨Nat.le_trans h.en k, Nat.le_trans h.go k, Nat.le_trans h.aks k⟩
theorem sz_reason {o : Ou} {a : Nat} {k : Mark} (h : Sz o a) : Sz (reasonO o k) (a + 2) := by
  cases k with
  | put n l => exact h.mono (by omega)
  | patch n i u l h' => exact (sz_ask (n := n) (t := some h') h).mono (b := a + 2) (by omega)
  | drop n h' => exact (sz_ask (n := n) (t := some h') h).mono (b := a + 2) (by omega)
  | rename n m h' => exact sz_ask (n := m) (t := none) (sz_ask (n := n) (t := some h') h)
theorem sz_follow {o : Ou} {a : Nat} {s : Sv} {k : Mark} (h : Sz o a) : Sz (followO o s k) (a + 1) := by
  obtain ⟨h1, h2, h3⟩ := h
  have p1 : ∀ (n m : Str) (r : List Pc), (trPut (trDrop o.en n) m r).length ≤ a + 1 := fun n m r => by
    have := trPut_le (trDrop o.en n) m r
    have := drop_len o.en n
    omega
  have p2 : ∀ n : Str, (trDrop o.go n).length ≤ a + 1 := fun n => by
    have := drop_len o.go n
    omega
  have p3 : ∀ n : Str, (trPut o.go n ()).length ≤ a + 1 := fun n => by
    have := trPut_le o.go n ()
    omega
  have p4 : ∀ n m : Str, (trDrop (trPut o.go n ()) m).length ≤ a + 1 := fun n m => Nat.le_trans (drop_len _ _) (p3 n)
  cases k with
  | put n l => exact ⟨p1 _ _ _, p2 _, by show o.aks.length ≤ _; omega⟩
  | patch n i u l h' => exact ⟨p1 _ _ _, p2 _, by show o.aks.length ≤ _; omega⟩
  | drop n h' => exact ⟨by show (trDrop o.en n).length ≤ _; have := drop_len o.en n; omega, p3 _, by show o.aks.length ≤ _; omega⟩
  | rename n m h' => exact ⟨p1 _ _ _, p4 _ _, by show o.aks.length ≤ _; omega⟩
theorem sz_led {o : Ou} {a : Nat} {s : Sv} {k : Mark} (h : Sz o a) : Sz (ledO o s k) (a + 3) := sz_follow (sz_reason h)
theorem pin_ok {o : Ou} {N : Sv → Nat} {p : Pc} (I : OInv o N) (hso : ∀ s, 1 ≤ N s → saveOk s) (hN : ∀ s, N s ≤ 1000) (h : PIn (bnd o N) p) : p.ok := by
  have h1 := h.pos
  have h2 := h.le
  obtain ⟨so, a, n⟩ := p
  cases so with
  | new s =>
    have h2 : a + n ≤ N s := h2
    have h1 : 1 ≤ n := h1
    have h3 := hN s
    exact ⟨hso s (by omega), h1, by show a + n ≤ 100000; omega⟩
  | below x =>
    have h2 : a + n ≤ askN (trGet o.aks x) := h2
    have h1 : 1 ≤ n := h1
    cases e : trGet o.aks x with
    | none =>
      rw [e] at h2
      have h2 : a + n ≤ 0 := h2
      omega
    | some t =>
      cases t with
      | none =>
        rw [e] at h2
        have h2 : a + n ≤ 0 := h2
        omega
      | some l =>
        rw [e] at h2
        have h2 : a + n ≤ l := h2
        have h3 := I.akb x l e
        exact ⟨I.nm x (I.ask x (by rw [e]; rfl)), h1, by show a + n ≤ 100000; omega⟩
theorem held_in {o : Ou} {N : Sv → Nat} (I : OInv o N) (n : Str) : RIn (bnd o N) (heldO o n) ∧ NoGo (heldO o n) ∧ lenF (heldO o n) ≤ 996 := by
  unfold heldO
  cases e : trGet o.en n with
  | none => exact ⟨RIn.nil, nogo_nil, Nat.zero_le _⟩
  | some r => exact I.row n r e
theorem led_ok {o : Ou} {N : Sv → Nat} {s : Sv} {k : Mark} {a : Nat} (I : OInv o N) (sz : Sz o a) (ha : a < 900) (gok : grOk o.gr) (rs : reasonOk o k) (ko : k.ok) (hso : ∀ s, 1 ≤ N s → saveOk s) (hN : ∀ s, N s ≤ 1000) (hs : k.news ≤ N s) : LedOk o s k := by
  have tiny : Tiny o := ⟨by have := sz.en; omega, by have := sz.go; omega, by have := sz.aks; omega⟩
  have I2 := inv_reason I ko
  obtain ⟨b1, b2, b3⟩ := held_in I2 k.name
  refine ⟨gok, tiny, rs, tiny.reason, ?_, ?_⟩
  · have := len_le b1
    omega
  · intro p hp
    refine pin_ok I2 hso hN ?_
    rcases List.mem_append.mp hp with hp | hp
    · rcases List.mem_append.mp hp with hp | hp
      · exact part_in _ _ _ b1 p hp
      · exact row_in (B := bnd (reasonO o k) N) (so := .new s) (l := k.news) hs p hp
    · exact part_in _ _ _ b1 p hp
end SR
set_option Elab.async false
set_option linter.all false
set_option maxRecDepth 100000
set_option maxHeartbeats 4000000
/-! plain: runs -/
namespace SR
open PySem PySem.Spec PyProof.Rows L2
def outs (g : Option Sv) (ks : List Mark) : Nat → Ou
  | 0 => ouN g
  | i + 1 => match ks[i]? with
    | some k => ledO (outs g ks i) (svF i) k
    | none => outs g ks i
theorem outs_step {g : Option Sv} {ks : List Mark} {i : Nat} {k : Mark} (h : ks[i]? = some k) : outs g ks (i + 1) = ledO (outs g ks i) (svF i) k := by
  show (match ks[i]? with | some k => ledO (outs g ks i) (svF i) k | none => outs g ks i) = _
  rw [h]
theorem outs_gr (g : Option Sv) (ks : List Mark) : ∀ i, (outs g ks i).gr = g
  | 0 => rfl
  | i + 1 => by
    cases h : ks[i]? with
    | some k => rw [outs_step h, led_gr, outs_gr g ks i]
    | none =>
      show (match ks[i]? with | some k => ledO (outs g ks i) (svF i) k | none => outs g ks i).gr = g
      rw [h]
      exact outs_gr g ks i
def newsN (ks : List Mark) (s : Sv) : Nat := if svF (s.2 - 1).toNat = s then ((ks[(s.2 - 1).toNat]?).map Mark.news).getD 0 else 0
theorem sv_back (i : Nat) : ((svF i).2 - 1).toNat = i := by
  show ((1 + (i : Int)) - 1).toNat = i
  omega
theorem svF_inj {i j : Nat} (h : svF i = svF j) : i = j := by
  rw [← sv_back i, h, sv_back]
theorem newsN_at (ks : List Mark) (i : Nat) : newsN ks (svF i) = ((ks[i]?).map Mark.news).getD 0 := by
  unfold newsN
  rw [sv_back, if_pos rfl]
theorem newsN_pos {ks : List Mark} {s : Sv} (h : 1 ≤ newsN ks s) : ∃ i k, ks[i]? = some k ∧ s = svF i ∧ newsN ks s = k.news := by
  have h0 := h
  unfold newsN at h
  split at h
  · rename_i e
    cases e2 : ks[(s.2 - 1).toNat]? with
    | none =>
      rw [e2] at h
      exact absurd h (by decide)
    | some k =>
      refine ⟨_, k, e2, e.symm, ?_⟩
      unfold newsN
      rw [if_pos e, e2]
      rfl
  · exact absurd h (by decide)
theorem sv_ok {i : Nat} (h : i < 900) : saveOk (svF i) := by
  have h2 : ((i : Int) % 3) < 3 := Int.emod_lt_of_pos _ (by decide)
  have h3 : 0 ≤ ((i : Int) % 3) := Int.emod_nonneg _ (by decide)
  exact ⟨⟨by show 1 ≤ 1 + (i : Int) % 3; omega, by show 1 + (i : Int) % 3 ≤ 996; omega⟩, by show 1 ≤ 1 + (i : Int); omega, by show 1 + (i : Int) ≤ 996; omega⟩
def clFrom {β : Type} (j : Nat) : List β → List (Sv × β)
  | [] => []
  | cs :: r => (svF j, cs) :: clFrom (j + 1) r
section
variable {β : Type}
theorem cl_low {css : List β} : ∀ {j i : Nat}, i < j → trGet (clFrom j css) (svF i) = none := by
  induction css with
  | nil => intro j i _; rfl
  | cons cs r ih =>
    intro j i h
    show trGet ((svF j, cs) :: clFrom (j + 1) r) (svF i) = none
    rw [get_cons, if_neg (fun z => by have := svF_inj z; omega), ih (by omega)]
theorem cl_get {css : List β} : ∀ (j i : Nat), trGet (clFrom j css) (svF (j + i)) = css[i]? := by
  induction css with
  | nil => intro j i; rfl
  | cons cs r ih =>
    intro j i
    show trGet ((svF j, cs) :: clFrom (j + 1) r) (svF (j + i)) = _
    rw [get_cons]
    cases i with
    | zero => rw [if_pos (by rfl)]; rfl
    | succ i =>
      rw [if_neg (fun z => by have := svF_inj z; omega), show j + (i + 1) = (j + 1) + i by omega, ih]
      rfl
theorem cl_at (css : List β) (i : Nat) : trGet (clFrom 0 css) (svF i) = css[i]? := by
  have := cl_get (css := css) 0 i
  rw [Nat.zero_add] at this
  exact this
theorem cl_len (css : List β) : ∀ j, (clFrom j css).length = css.length := by
  induction css with
  | nil => intro j; rfl
  | cons cs r ih =>
    intro j
    show (clFrom (j + 1) r).length + 1 = _
    rw [ih]
    rfl
theorem cl_mem {css : List β} : ∀ {j : Nat} {q : Sv × β}, q ∈ clFrom j css → ∃ i, q.1 = svF i ∧ j ≤ i ∧ i < j + css.length ∧ q.2 ∈ css := by
  induction css with
  | nil => intro j q h; cases h
  | cons cs r ih =>
    intro j q h
    rcases List.mem_cons.mp h with rfl | h
    · exact ⟨j, rfl, Nat.le_refl _, by rw [List.length_cons]; omega, List.mem_cons_self⟩
    · obtain ⟨i, e, h1, h2, h3⟩ := ih h
      exact ⟨i, e, by omega, by rw [List.length_cons]; omega, List.mem_cons_of_mem _ h3⟩
theorem cl_nodup (css : List β) : ∀ j, ((clFrom j css).map (·.1)).Nodup := by
  induction css with
  | nil => intro j; exact .nil
  | cons cs r ih =>
    intro j
    show (svF j :: (clFrom (j + 1) r).map (·.1)).Nodup
    refine List.nodup_cons.mpr ⟨fun h => ?_, ih _⟩
    have := get_isSome.mpr h
    rw [cl_low (by omega)] at this
    cases this
theorem cl_elt {css : List β} : ∀ (j i : Nat), (clFrom j css)[i]? = (css[i]?).map fun x => (svF (j + i), x) := by
  induction css with
  | nil => intro j i; rfl
  | cons cs r ih =>
    intro j i
    cases i with
    | zero => rfl
    | succ i =>
      show (clFrom (j + 1) r)[i]? = _
      rw [ih, show j + 1 + i = j + (i + 1) by omega]
      rfl
end
/-- cells for each mark -/
def CssOk (ks : List Mark) (css : List (List PyData)) : Prop := ∀ (i : Nat) (k : Mark), ks[i]? = some k → ∃ cs : List PyData, css[i]? = some cs ∧ cs.length = k.news
theorem css_hN {ks : List Mark} {css : List (List PyData)} (h : CssOk ks css) (s : Sv) : newsN ks s ≤ ((trGet (clFrom 0 css) s).getD []).length := by
  by_cases p : 1 ≤ newsN ks s
  · obtain ⟨i, k, hk, e, e2⟩ := newsN_pos p
    obtain ⟨cs, h1, h2⟩ := h i k hk
    rw [e2, e, cl_at, h1]
    show k.news ≤ cs.length
    omega
  · omega
theorem inv_new (g : Option Sv) (N : Sv → Nat) : OInv (ouN g) N :=
  ⟨.nil, .nil, .nil, fun _ _ => rfl, fun n h => (by cases h), fun n r h => (by cases h), fun _ => rfl, fun n h => (by cases h), fun n l h => (by cases h)⟩
theorem mt_new (g : Option Sv) (G : Tr) (c : Cl) : Mt (ouN g) G G c := ⟨fun n r h => (by cases h), fun n h => (by cases h), fun _ _ => rfl⟩
theorem deed_back (B : Tr) (d : Deed) : deedBy (markF B d) d.cells = d := by cases d <;> rfl
theorem mark_news (B : Tr) (d : Deed) : (markF B d).news = d.cells.length := by cases d <;> rfl
structure Runs (g : Option Sv) (ks : List Mark) : Prop where
  gok : grOk g
  few : ks.length ≤ 9
  kok : ∀ k ∈ ks, k.ok
  rs : ∀ (i : Nat) (k : Mark), ks[i]? = some k → reasonOk (outs g ks i) k
section
variable {g : Option Sv} {ks : List Mark}
theorem Runs.inv (R : Runs g ks) : ∀ i, i ≤ ks.length → OInv (outs g ks i) (newsN ks)
  | 0, _ => inv_new _ _
  | i + 1, h => by
    obtain ⟨k, hk⟩ : ∃ k, ks[i]? = some k := ⟨_, List.getElem?_eq_getElem (by omega)⟩
    rw [outs_step hk]
    refine inv_led (R.inv i (by omega)) (R.rs i k hk) (R.kok k (List.mem_of_getElem? hk)) ?_
    rw [newsN_at, hk]
    exact Nat.le_refl _
theorem Runs.sz (R : Runs g ks) : ∀ i, i ≤ ks.length → Sz (outs g ks i) (3 * i)
  | 0, _ => ⟨Nat.le_refl _, Nat.le_refl _, Nat.le_refl _⟩
  | i + 1, h => by
    obtain ⟨k, hk⟩ : ∃ k, ks[i]? = some k := ⟨_, List.getElem?_eq_getElem (by omega)⟩
    rw [outs_step hk]
    exact sz_led (R.sz i (by omega))
theorem news_le {k : Mark} (h : k.ok) : k.news ≤ 48 := by
  cases k with
  | put n l => exact h.2
  | patch n i u l h' => exact h.2.1
  | drop n h' => exact Nat.zero_le _
  | rename n m h' => exact Nat.zero_le _
theorem Runs.hso (R : Runs g ks) {s : Sv} (h : 1 ≤ newsN ks s) : saveOk s := by
  obtain ⟨i, k, hk, e, _⟩ := newsN_pos h
  have h1 := (List.getElem?_eq_some_iff.mp hk).1
  have h2 := R.few
  rw [e]
  exact sv_ok (by omega)
theorem Runs.hN (R : Runs g ks) (s : Sv) : newsN ks s ≤ 48 := by
  by_cases p : 1 ≤ newsN ks s
  · obtain ⟨i, k, hk, e, e2⟩ := newsN_pos p
    rw [e2]
    exact news_le (R.kok k (List.mem_of_getElem? hk))
  · omega
theorem Runs.led (R : Runs g ks) {i : Nat} {k : Mark} (hk : ks[i]? = some k) : LedOk (outs g ks i) (svF i) k := by
  have hi := (List.getElem?_eq_some_iff.mp hk).1
  have few := R.few
  refine led_ok (R.inv i (by omega)) (R.sz i (by omega)) (by omega) (by rw [outs_gr]; exact R.gok) (R.rs i k hk) (R.kok k (List.mem_of_getElem? hk)) (fun s h => R.hso h) (fun s => Nat.le_trans (R.hN s) (by decide)) ?_
  rw [newsN_at, hk]
  exact Nat.le_refl _
/-- other grounds -/
def bts (G : Tr) (ks : List Mark) (css : List (List PyData)) : Nat → Tr
  | 0 => G
  | i + 1 => match ks[i]?, css[i]? with
    | some k, some cs => (doneF (bts G ks css i) (deedBy k cs)).getD []
    | _, _ => bts G ks css i
theorem bts_step {G : Tr} {css : List (List PyData)} {i : Nat} {k : Mark} {cs : List PyData} (hk : ks[i]? = some k) (hc : css[i]? = some cs) : bts G ks css (i + 1) = (doneF (bts G ks css i) (deedBy k cs)).getD [] := by
  show (match ks[i]?, css[i]? with | some k, some cs => (doneF (bts G ks css i) (deedBy k cs)).getD [] | _, _ => bts G ks css i) = _
  rw [hk, hc]
theorem Runs.fit_low (R : Runs g ks) {G : Tr} (ft : Fit (outs g ks ks.length) G) : ∀ j, j ≤ ks.length → Fit (outs g ks (ks.length - j)) G
  | 0, _ => ft
  | j + 1, h => by
    have hj : ks.length - (j + 1) < ks.length := by omega
    obtain ⟨k, hk⟩ : ∃ k, ks[ks.length - (j + 1)]? = some k := ⟨_, List.getElem?_eq_getElem hj⟩
    have h1 := R.fit_low ft j (by omega)
    rw [show ks.length - j = ks.length - (j + 1) + 1 by omega, outs_step hk] at h1
    exact fit_back (R.inv _ (by omega)) (R.kok k (List.mem_of_getElem? hk)) h1
theorem Runs.fit_at (R : Runs g ks) {G : Tr} (ft : Fit (outs g ks ks.length) G) {i : Nat} (h : i ≤ ks.length) : Fit (outs g ks i) G := by
  have := R.fit_low ft (ks.length - i) (by omega)
  rw [show ks.length - (ks.length - i) = i by omega] at this
  exact this
theorem Runs.other (R : Runs g ks) {G : Tr} {css : List (List PyData)} (ft : Fit (outs g ks ks.length) G) (g0 : g = none → G = []) (hc : CssOk ks css) : ∀ i, i ≤ ks.length → Mt (outs g ks i) G (bts G ks css i) (clFrom 0 css)
    ∧ ∀ (j : Nat) (k : Mark) (cs : List PyData), j < i → ks[j]? = some k → css[j]? = some cs → doneF (bts G ks css j) (deedBy k cs) = some (bts G ks css (j + 1)) ∧ markF (bts G ks css j) (deedBy k cs) = k
  | 0, _ => ⟨mt_new _ _ _, fun j k cs h => absurd h (Nat.not_lt_zero _)⟩
  | i + 1, h => by
    obtain ⟨m, hs⟩ := Runs.other R ft g0 hc i (by omega)
    obtain ⟨k, hk⟩ : ∃ k, ks[i]? = some k := ⟨_, List.getElem?_eq_getElem (by omega)⟩
    obtain ⟨cs, h1, h2⟩ := hc i k hk
    have fi := R.fit_at ft (i := i + 1) h
    rw [outs_step hk] at fi
    obtain ⟨B', e1, e2, e3⟩ := led_step (R.inv i (by omega)) m (fun n z => by rw [outs_gr] at z; rw [g0 z]; rfl) fi (css_hN hc) (R.rs i k hk) (R.kok k (List.mem_of_getElem? hk)) (by rw [cl_at]; exact h1) h2
    have eb : bts G ks css (i + 1) = B' := by
      rw [bts_step hk h1, e1]
      rfl
    rw [outs_step hk, eb]
    refine ⟨e3, fun j k' cs' hj hk' hcs' => ?_⟩
    rcases Nat.lt_or_ge j i with z | z
    · exact hs j k' cs' z hk' hcs'
    · obtain rfl : j = i := by omega
      rw [hk] at hk'
      rw [h1] at hcs'
      cases hk'
      cases hcs'
      rw [eb]
      exact ⟨e1, e2⟩
end
/-- the marks of a true run are taken -/
theorem runs_of {g : Option Sv} {Tt : Nat → Tr} {ds : List Deed} {ks : List Mark} (ch : Chain Tt ds ks) (gok : grOk g) (g0 : g = none → Tt 0 = []) (kok : ∀ k ∈ ks, k.ok) (few : ks.length ≤ 9) :
    Runs g ks ∧ Fit (outs g ks ks.length) (Tt 0) ∧ Mt (outs g ks ks.length) (Tt 0) (Tt ks.length) (clFrom 0 (ds.map Deed.cells)) ∧ CssOk ks (ds.map Deed.cells) := by
  have hc : CssOk ks (ds.map Deed.cells) := by
    intro i k hk
    have hi := (List.getElem?_eq_some_iff.mp hk).1
    obtain ⟨d, hd⟩ : ∃ d, ds[i]? = some d := ⟨_, List.getElem?_eq_getElem (by rw [← ch.len]; exact hi)⟩
    obtain ⟨_, s2⟩ := ch.step i _ hd
    rw [hk] at s2
    refine ⟨d.cells, by rw [List.getElem?_map, hd]; rfl, ?_⟩
    rw [Option.some.inj s2, mark_news]
  have key : ∀ i, i ≤ ks.length → OInv (outs g ks i) (newsN ks) ∧ Mt (outs g ks i) (Tt 0) (Tt i) (clFrom 0 (ds.map Deed.cells)) ∧ Fit (outs g ks i) (Tt 0) ∧ ∀ (j : Nat) (k : Mark), j < i → ks[j]? = some k → reasonOk (outs g ks j) k := by
    intro i
    induction i with
    | zero => exact fun _ => ⟨inv_new _ _, mt_new _ _ _, fun n t h => (by cases h), fun j k h => absurd h (Nat.not_lt_zero _)⟩
    | succ i ih =>
      intro h
      obtain ⟨I, m, ft, rs⟩ := ih (by omega)
      obtain ⟨k, hk⟩ : ∃ k, ks[i]? = some k := ⟨_, List.getElem?_eq_getElem (by omega)⟩
      obtain ⟨d, hd⟩ : ∃ d, ds[i]? = some d := ⟨_, List.getElem?_eq_getElem (by rw [← ch.len]; omega)⟩
      obtain ⟨s1, s2⟩ := ch.step i d hd
      rw [hk] at s2
      have ek : k = markF (Tt i) d := Option.some.inj s2
      have ko := kok k (List.mem_of_getElem? hk)
      have g0' : ∀ n, (outs g ks i).gr = none → trGet (Tt 0) n = none := fun n z => by
        rw [outs_gr] at z
        rw [g0 z]
        rfl
      obtain ⟨af, ro⟩ := reason_of I m (hB_of ft (css_hN hc)) g0' s1 (ek ▸ ko)
      rw [← ek] at af ro
      have hnew : k.news ≤ newsN ks (svF i) := by
        rw [newsN_at, hk]
        exact Nat.le_refl _
      have ft2 := fit_led (s := svF i) ft af
      obtain ⟨B', e1, e2, e3⟩ := led_step I m g0' ft2 (css_hN hc) ro ko (cs := d.cells) (by rw [cl_at, List.getElem?_map, hd]; rfl) (by rw [ek, mark_news])
      rw [ek, deed_back, s1] at e1
      cases e1
      rw [outs_step hk]
      refine ⟨inv_led I ro ko hnew, e3, ft2, fun j k' hj hk' => ?_⟩
      rcases Nat.lt_or_ge j i with z | z
      · exact rs j k' z hk'
      · obtain rfl : j = i := by omega
        rw [hk] at hk'
        cases hk'
        exact ro
  obtain ⟨I, m, ft, rs⟩ := key ks.length (Nat.le_refl _)
  exact ⟨⟨gok, few, kok, fun i k hk => rs i k (List.getElem?_eq_some_iff.mp hk).1 hk⟩, ft, m, hc⟩
end SR
set_option Elab.async false
set_option linter.all false
set_option maxRecDepth 100000
set_option maxHeartbeats 4000000
/-! plain: what the law asks of an outline -/
namespace SR
open PySem PySem.Spec PyProof.Rows L2
theorem fill_get {o : Ou} {N : Sv → Nat} {G B : Tr} {c : Cl} (I : OInv o N) (m : Mt o G B c) (n : Str) : trGet (fillO o G c) n = trGet B n := by
  unfold fillO
  have nd : ((o.en.map fun q => (q.1, fillF q.2 G c)).map (·.1)).Nodup := by
    rw [List.map_map]
    exact I.nen
  rw [sortM_get, putAll_get nd, get_map o.en (fun r => fillF r G c)]
  unfold keepF
  rw [get_filter]
  cases e : trGet o.en n with
  | some r =>
    rw [m.en n r e]
    rfl
  | none =>
    show (none : Option (List PyData)).or _ = _
    rw [Option.none_or]
    cases hf : freshO o n with
    | true => rw [if_pos rfl, m.fr n hf]
    | false =>
      rw [if_neg (by simp)]
      rcases fresh_not.mp hf with h | h
      · rw [e] at h
        cases h
      · exact (m.go n h).symm
theorem fill_nodup {o : Ou} {G : Tr} {c : Cl} (h : (G.map (·.1)).Nodup) : ((fillO o G c).map (·.1)).Nodup :=
  sortM_nodup (putAll_keys _ _ ((List.Sublist.map _ List.filter_sublist).nodup h))
theorem want_ok {B : So → Nat} : ∀ (ps : List Pc) (m : List (Sv × Nat)), (∀ q ∈ m, 1 ≤ q.2 ∧ q.2 ≤ B (.new q.1)) → RIn B ps → ∀ q ∈ ps.foldl wantStep m, 1 ≤ q.2 ∧ q.2 ≤ B (.new q.1)
  | [], m, h, _ => h
  | p :: ps, m, h, hp => by
    refine want_ok ps _ ?_ fun q hq => hp q (List.mem_cons_of_mem _ hq)
    intro q hq
    have h0 := hp p List.mem_cons_self
    have e1 := h0.pos
    have e2 := h0.le
    unfold wantStep at hq
    cases e : p.so with
    | below n =>
      rw [e] at hq
      exact h q hq
    | new s =>
      rw [e] at hq e2
      rcases mem_put hq with rfl | hq
      · show 1 ≤ max ((trGet m s).getD 0) (p.a + p.n) ∧ max ((trGet m s).getD 0) (p.a + p.n) ≤ B (.new s)
        have : (trGet m s).getD 0 ≤ B (.new s) := by
          cases e3 : trGet m s with
          | none => exact Nat.zero_le _
          | some x => exact (h _ (get_some_mem e3)).2
        omega
      · exact h q hq
theorem flat_len {α : Type} {n : Nat} : ∀ {l : List (List α)}, (∀ x ∈ l, x.length ≤ n) → l.flatten.length ≤ n * l.length
  | [], _ => Nat.zero_le _
  | x :: l, h => by
    have h1 := h x List.mem_cons_self
    have h2 := flat_len fun y hy => h y (List.mem_cons_of_mem x hy)
    rw [List.flatten_cons, List.length_append, List.length_cons, Nat.mul_succ]
    omega
theorem pcs_in {o : Ou} {N : Sv → Nat} (I : OInv o N) : RIn (bnd o N) (pcsO o) := by
  intro p hp
  obtain ⟨r, hr, hp⟩ := List.mem_flatten.mp hp
  obtain ⟨q, hq, rfl⟩ := List.mem_map.mp hr
  exact (I.row q.1 q.2 (get_of_mem I.nen hq)).1 p hp
/-- the cells' rows as they stand in the tree -/
structure Ground (G : Tr) : Prop where
  ok : TreeOk G
  nd : (G.map (·.1)).Nodup
  few : G.length ≤ 36
structure Cells (ks : List Mark) (css : List (List PyData)) : Prop where
  len : css.length = ks.length
  cs : CssOk ks css
  ok : ∀ cs ∈ css, CsOk cs
section
variable {g : Option Sv} {ks : List Mark}
theorem Runs.fits (R : Runs g ks) {G : Tr} (ft : Fit (outs g ks ks.length) G) (g0 : g = none → G = []) : fitsO (outs g ks ks.length) G := by
  unfold fitsO
  rw [outs_gr]
  cases g with
  | none => exact g0 rfl
  | some s => exact fun q hq => ft q.1 q.2 (get_of_mem (R.inv _ (Nat.le_refl _)).nak hq)
theorem Runs.aks (R : Runs g ks) : ((outs g ks ks.length).aks.map (·.1)).Nodup ∧ (outs g ks ks.length).aks.length ≤ 27 := by
  have h1 := R.sz _ (Nat.le_refl _)
  have h2 := R.few
  exact ⟨(R.inv _ (Nat.le_refl _)).nak, by have := h1.aks; omega⟩
theorem Runs.en (R : Runs g ks) : ((outs g ks ks.length).en.map (·.1)).Nodup ∧ (outs g ks ks.length).en.length ≤ 27 := by
  have h1 := R.sz _ (Nat.le_refl _)
  have h2 := R.few
  exact ⟨(R.inv _ (Nat.le_refl _)).nen, by have := h1.en; omega⟩
theorem Runs.go (R : Runs g ks) : ((outs g ks ks.length).go.map (·.1)).Nodup ∧ (outs g ks ks.length).go.length ≤ 27 := by
  have h1 := R.sz _ (Nat.le_refl _)
  have h2 := R.few
  exact ⟨(R.inv _ (Nat.le_refl _)).ngo, by have := h1.go; omega⟩
theorem Runs.bnd_le (R : Runs g ks) (so : So) : bnd (outs g ks ks.length) (newsN ks) so ≤ 1000 := by
  cases so with
  | new s => exact Nat.le_trans (R.hN s) (by decide)
  | below n =>
    show askN (trGet (outs g ks ks.length).aks n) ≤ 1000
    cases e : trGet (outs g ks ks.length).aks n with
    | none => exact Nat.zero_le _
    | some t =>
      cases t with
      | none => exact Nat.zero_le _
      | some l => exact Nat.le_trans ((R.inv _ (Nat.le_refl _)).akb n l e) (by decide)
theorem Runs.filok (R : Runs g ks) {G : Tr} {css : List (List PyData)} (ft : Fit (outs g ks ks.length) G) (g0 : g = none → G = []) (gr : Ground G) (cl : Cells ks css) (small : ∀ n r, trGet (outs g ks ks.length).en n = some r → lenF r ≤ 300) : FilOk (outs g ks ks.length) G (clFrom 0 css) := by
  have I := R.inv _ (Nat.le_refl ks.length)
  have few := R.few
  have hB := hB_of ft (css_hN cl.cs)
  have wo := want_ok (B := bnd (outs g ks ks.length) (newsN ks)) (pcsO (outs g ks ks.length)) [] (fun q hq => by cases hq) (pcs_in I)
  have wk : ∀ q ∈ wantF (pcsO (outs g ks ks.length)), ∃ i k, ks[i]? = some k ∧ q.1 = svF i ∧ newsN ks q.1 = k.news := fun q hq => newsN_pos (Nat.le_trans (wo q hq).1 (wo q hq).2)
  have a1 := R.aks
  have a2 := R.en
  refine ⟨gr.ok, gr.nd, ⟨by rw [cl_len, cl.len]; omega, fun q hq => ?_⟩, ⟨a1.1, by omega⟩, R.fits ft g0, ⟨by omega, a2.1⟩, ?_, ?_, fun q hq => ?_, fun q hq => ?_, fun q hq => ?_, ?_⟩
  · obtain ⟨i, e, h1, h2, h3⟩ := cl_mem hq
    rw [cl.len] at h2
    refine ⟨by rw [e]; exact sv_ok (by omega), cl.ok _ h3, ?_⟩
    obtain ⟨j, hj, e2⟩ := List.mem_iff_getElem.mp h3
    have hk : ks[j]? = some (ks[j]'(by rw [← cl.len]; exact hj)) := List.getElem?_eq_getElem _
    obtain ⟨cs, h4, h5⟩ := cl.cs j _ hk
    rw [List.getElem?_eq_getElem hj, e2] at h4
    cases h4
    have := news_le (R.kok _ (List.mem_of_getElem? hk))
    omega
  · have : (pcsO (outs g ks ks.length)).length ≤ 300 * ((outs g ks ks.length).en.map (·.2)).length := flat_len fun r hr => by
      obtain ⟨q, hq, rfl⟩ := List.mem_map.mp hr
      have h := get_of_mem I.nen hq
      exact Nat.le_trans (len_le (I.row _ _ h).1) (small _ _ h)
    rw [List.length_map] at this
    omega
  · have h := nodup_le (l := (wantF (pcsO (outs g ks ks.length))).map (·.1)) (l' := (List.range ks.length).map svF) (want_nodup (pcsO (outs g ks ks.length)) [] List.Pairwise.nil) fun x hx => by
      obtain ⟨q, hq, rfl⟩ := List.mem_map.mp hx
      obtain ⟨i, k, hk, e, _⟩ := wk q hq
      rw [e]
      exact List.mem_map_of_mem (List.mem_range.mpr (List.getElem?_eq_some_iff.mp hk).1)
    rw [List.length_map, List.length_map, List.length_range] at h
    omega
  · obtain ⟨i, k, hk, e, _⟩ := wk q hq
    have hi := (List.getElem?_eq_some_iff.mp hk).1
    obtain ⟨⟨h1, h2⟩, h3, h4⟩ := sv_ok (i := i) (by omega)
    rw [e]
    exact ⟨⟨by omega, by omega⟩, by omega, by omega⟩
  · obtain ⟨i, k, hk, e, e2⟩ := wk q hq
    obtain ⟨cs, h1, h2⟩ := cl.cs i k hk
    refine ⟨cs, by rw [e, cl_at]; exact h1, ?_⟩
    have h3 := (wo q hq).2
    have h3 : q.2 ≤ newsN ks q.1 := h3
    omega
  · have h := get_of_mem I.nen hq
    obtain ⟨a, b, d⟩ := I.row _ _ h
    refine ⟨fun p hp => ?_, by rw [fillF_H, fill_len hB a]; omega⟩
    have h1 := (a p hp).pos
    have h2 := Nat.le_trans (a p hp).le (hB p.so)
    obtain ⟨so, pa, pn⟩ := p
    cases so with
    | new s =>
      show ∃ x, trGet (clFrom 0 css) s = some x
      have h2 : pa + pn ≤ ((trGet (clFrom 0 css) s).getD []).length := h2
      have h1 : 1 ≤ pn := h1
      cases e : trGet (clFrom 0 css) s with
      | none =>
        rw [e] at h2
        have h2 : pa + pn ≤ 0 := h2
        omega
      | some x => exact ⟨x, rfl⟩
    | below n =>
      show ∃ x, trGet G n = some x
      have h2 : pa + pn ≤ ((trGet G n).getD []).length := h2
      have h1 : 1 ≤ pn := h1
      cases e : trGet G n with
      | none =>
        rw [e] at h2
        have h2 : pa + pn ≤ 0 := h2
        omega
      | some x => exact ⟨x, rfl⟩
  · have h1 := putAll_le (r := (outs g ks ks.length).en.map fun q => (q.1, fillF q.2 G (clFrom 0 css))) (m := keepF (outs g ks ks.length) G)
    have h2 : (keepF (outs g ks ks.length) G).length ≤ G.length := List.length_filter_le _ _
    have h3 := gr.few
    rw [List.length_map] at h1
    omega
end
/-! names that a mark touches -/
def Mark.names : Mark → List Str
  | .rename n m _ => [n, m]
  | k => [k.name]
theorem ask_other {o : Ou} {n x : Str} {t : Option Nat} (h : x ≠ n) : trGet (askO o n t).en x = trGet o.en x ∧ trGet (askO o n t).go x = trGet o.go x := by
  rcases ask_cases o n t with ⟨e, _⟩ | ⟨_, _, ⟨_, e⟩ | ⟨l, _, e⟩⟩
  · rw [e]
    exact ⟨rfl, rfl⟩
  · rw [e]
    refine ⟨rfl, ?_⟩
    show trGet (trPut o.go n ()) x = _
    rw [get_put, if_neg fun z => h z.symm]
  · rw [e]
    refine ⟨?_, rfl⟩
    show trGet (trPut o.en n _) x = _
    rw [get_put, if_neg fun z => h z.symm]
theorem led_other {o : Ou} {s : Sv} {k : Mark} {x : Str} (h : x ∉ k.names) : trGet (ledO o s k).en x = trGet o.en x ∧ trGet (ledO o s k).go x = trGet o.go x := by
  cases k with
  | put n l =>
    have hn : x ≠ n := fun z => h (by rw [z]; exact List.mem_cons_self)
    refine ⟨get_follow_put.trans (if_neg fun z => hn z.symm), ?_⟩
    show trGet (trDrop o.go n) x = _
    rw [get_drop, if_neg hn]
  | patch n i u l h' =>
    have hn : x ≠ n := fun z => h (by rw [z]; exact List.mem_cons_self)
    obtain ⟨a, b⟩ := ask_other (o := o) (t := some h') hn
    refine ⟨(get_follow_put (o := askO o n (some h'))).trans ((if_neg fun z => hn z.symm).trans a), ?_⟩
    show trGet (trDrop (askO o n (some h')).go n) x = _
    rw [get_drop, if_neg hn, b]
  | drop n h' =>
    have hn : x ≠ n := fun z => h (by rw [z]; exact List.mem_cons_self)
    obtain ⟨a, b⟩ := ask_other (o := o) (t := some h') hn
    refine ⟨?_, ?_⟩
    · show trGet (trDrop (askO o n (some h')).en n) x = _
      rw [get_drop, if_neg hn, a]
    · show trGet (trPut (askO o n (some h')).go n ()) x = _
      rw [get_put, if_neg (fun z => hn z.symm), b]
  | rename n m h' =>
    have hn : x ≠ n := fun z => h (by rw [z]; exact List.mem_cons_self)
    have hm : x ≠ m := fun z => h (by rw [z]; exact List.mem_cons_of_mem _ List.mem_cons_self)
    obtain ⟨a, b⟩ := ask_other (o := o) (t := some h') hn
    obtain ⟨a2, b2⟩ := ask_other (o := askO o n (some h')) (t := none) hm
    refine ⟨?_, ?_⟩
    · show trGet (trPut (trDrop (askO (askO o n (some h')) m none).en n) m _) x = _
      rw [get_put, if_neg (fun z => hm z.symm), get_drop, if_neg hn, a2, a]
    · show trGet (trDrop (trPut (askO (askO o n (some h')) m none).go n ()) m) x = _
      rw [get_drop, if_neg hm, get_put, if_neg (fun z => hn z.symm), b2, b]
theorem led_touched {o : Ou} {s : Sv} {k : Mark} {x : Str} (ko : k.ok) (h : x ∈ k.names) : freshO (ledO o s k) x = false := by
  rw [fresh_not]
  cases k with
  | put n l =>
    left
    (have e := List.mem_singleton.mp h; subst e)
    show (trGet (trPut (trDrop o.en x) x _) x).isSome = true
    rw [get_put, if_pos rfl]
    rfl
  | patch n i u l h' =>
    left
    (have e := List.mem_singleton.mp h; subst e)
    show (trGet (trPut (trDrop (askO o x (some h')).en x) x _) x).isSome = true
    rw [get_put, if_pos rfl]
    rfl
  | drop n h' =>
    right
    (have e := List.mem_singleton.mp h; subst e)
    show (trGet (trPut (askO o x (some h')).go x ()) x).isSome = true
    rw [get_put, if_pos rfl]
    rfl
  | rename n m h' =>
    have hne : n ≠ m := ko.2.2.1
    rcases List.mem_cons.mp h with rfl | h
    · right
      show (trGet (trDrop (trPut (askO (askO o x (some h')) m none).go x ()) m) x).isSome = true
      rw [get_drop, if_neg hne, get_put, if_pos rfl]
      rfl
    · left
      (have e := List.mem_singleton.mp h; subst e)
      show (trGet (trPut (trDrop (askO (askO o n (some h')) x none).en n) x _) x).isSome = true
      rw [get_put, if_pos rfl]
      rfl
theorem led_fresh {o : Ou} {s : Sv} {k : Mark} {x : Str} (h : x ∉ k.names) : freshO (ledO o s k) x = freshO o x := by
  obtain ⟨a, b⟩ := led_other (o := o) (s := s) h
  unfold freshO
  rw [a, b]
/-! what the marks ask, by the law's own account -/
def askStep (p : List (Str × Option Nat) × List Str) (k : Mark) : List (Str × Option Nat) × List Str :=
  let f1 := if k.kind ≠ "put" ∧ k.name ∉ p.2 then trPut p.1 k.name (some k.last) else p.1
  match k with
  | .rename _ m _ => (if m ∉ p.2 ++ [k.name] then trPut f1 m none else f1, p.2 ++ [k.name] ++ [m])
  | _ => (f1, p.2 ++ [k.name])
def askF (ks : List Mark) : Nat → List (Str × Option Nat) × List Str
  | 0 => ([], [])
  | i + 1 => match ks[i]? with
    | some k => askStep (askF ks i) k
    | none => askF ks i
theorem askF_step {ks : List Mark} {i : Nat} {k : Mark} (h : ks[i]? = some k) : askF ks (i + 1) = askStep (askF ks i) k := by
  show (match ks[i]? with | some k => askStep (askF ks i) k | none => askF ks i) = _
  rw [h]
theorem ask_aks {o : Ou} {n : Str} {t : Option Nat} (hg : o.gr.isSome = true) : (askO o n t).aks = if freshO o n = true then trPut o.aks n t else o.aks := by
  rcases ask_cases o n t with ⟨e, z⟩ | ⟨_, hf, ⟨rfl, e⟩ | ⟨l, rfl, e⟩⟩
  · rcases z with z | z
    · rw [z] at hg
      cases hg
    · rw [e, z]
      rfl
  · rw [e, hf]
    rfl
  · rw [e, hf]
    rfl
theorem put_or_not {p : Prop} [Decidable p] {α : Type} {a b : α} : (if p then a else b) = if ¬ p then b else a := by
  by_cases h : p
  · rw [if_pos h, if_neg (fun z => z h)]
  · rw [if_neg h, if_pos h]
theorem Runs.asked {g : Option Sv} {ks : List Mark} (R : Runs g ks) (hg : g.isSome = true) : ∀ i, i ≤ ks.length → (askF ks i).1 = (outs g ks i).aks ∧ ∀ x, x ∈ (askF ks i).2 ↔ freshO (outs g ks i) x = false
  | 0, _ => ⟨rfl, fun x => ⟨fun h => (by cases h), fun h => (by cases h)⟩⟩
  | i + 1, h => by
    obtain ⟨e1, e2⟩ := R.asked hg i (by omega)
    obtain ⟨k, hk⟩ : ∃ k, ks[i]? = some k := ⟨_, List.getElem?_eq_getElem (by omega)⟩
    have ko := R.kok k (List.mem_of_getElem? hk)
    have hgo : (outs g ks i).gr.isSome = true := by rw [outs_gr]; exact hg
    rw [askF_step hk, outs_step hk]
    have hns : ∀ x, x ∉ (askF ks i).2 ↔ freshO (outs g ks i) x = true := fun x => by
      rw [e2]
      cases freshO (outs g ks i) x <;> simp
    have sp : ∀ (sp : List Str), (∀ x, x ∈ sp ↔ x ∈ (askF ks i).2 ∨ x ∈ k.names) → ∀ x, x ∈ sp ↔ freshO (ledO (outs g ks i) (svF i) k) x = false := by
      intro sp hsp x
      rw [hsp, e2]
      by_cases hx : x ∈ k.names
      · rw [led_touched ko hx]
        simp [hx]
      · rw [led_fresh hx]
        simp [hx]
    have one : ∀ n l, k.kind ≠ "put" → k.name = n → k.last = l → (if k.kind ≠ "put" ∧ k.name ∉ (askF ks i).2 then trPut (askF ks i).1 k.name (some k.last) else (askF ks i).1) = (askO (outs g ks i) n (some l)).aks := by
      intro n l hkd hn hl
      subst hn
      subst hl
      rw [ask_aks hgo, e1]
      by_cases hf : freshO (outs g ks i) k.name = true
      · rw [if_pos ⟨hkd, (hns _).mpr hf⟩, if_pos hf]
      · rw [if_neg (fun z => hf ((hns _).mp z.2)), if_neg hf]
    rw [led_aks]
    cases k with
    | put n l =>
      refine ⟨?_, sp _ fun x => ?_⟩
      · show (if (Mark.put n l).kind ≠ "put" ∧ (Mark.put n l).name ∉ (askF ks i).2 then trPut (askF ks i).1 (Mark.put n l).name (some (Mark.put n l).last) else (askF ks i).1) = _
        rw [if_neg (fun z => z.1 rfl)]
        exact e1
      · show x ∈ (askF ks i).2 ++ [n] ↔ x ∈ (askF ks i).2 ∨ x ∈ [n]
        rw [List.mem_append]
    | patch n a u l h' =>
      refine ⟨one n h' (of_decide_eq_false kd_patch_put) rfl rfl, sp _ fun x => ?_⟩
      show x ∈ (askF ks i).2 ++ [n] ↔ x ∈ (askF ks i).2 ∨ x ∈ [n]
      rw [List.mem_append]
    | drop n h' =>
      refine ⟨one n h' (of_decide_eq_false kd_drop_put) rfl rfl, sp _ fun x => ?_⟩
      show x ∈ (askF ks i).2 ++ [n] ↔ x ∈ (askF ks i).2 ∨ x ∈ [n]
      rw [List.mem_append]
    | rename n m h' =>
      have o1 := one n h' (of_decide_eq_false kd_rename_put) rfl rfl
      have hne : m ≠ n := fun z => ko.2.2.1 z.symm
      refine ⟨?_, sp _ fun x => ?_⟩
      · show (if m ∉ (askF ks i).2 ++ [n] then trPut (if (Mark.rename n m h').kind ≠ "put" ∧ (Mark.rename n m h').name ∉ (askF ks i).2 then trPut (askF ks i).1 (Mark.rename n m h').name (some (Mark.rename n m h').last) else (askF ks i).1) m none else (if (Mark.rename n m h').kind ≠ "put" ∧ (Mark.rename n m h').name ∉ (askF ks i).2 then trPut (askF ks i).1 (Mark.rename n m h').name (some (Mark.rename n m h').last) else (askF ks i).1)) = (askO (askO (outs g ks i) n (some h')) m none).aks
        rw [o1, ask_aks (o := askO (outs g ks i) n (some h')) (n := m) (t := none) (by rw [ask_gr]; exact hgo)]
        have hf : freshO (askO (outs g ks i) n (some h')) m = freshO (outs g ks i) m := by
          obtain ⟨a, b⟩ := ask_other (o := outs g ks i) (t := some h') hne
          unfold freshO
          rw [a, b]
        rw [hf]
        have hmem : m ∉ (askF ks i).2 ++ [n] ↔ freshO (outs g ks i) m = true := by
          rw [List.mem_append, List.mem_singleton, ← hns]
          simp [hne]
        by_cases z : freshO (outs g ks i) m = true
        · rw [if_pos (hmem.mpr z), if_pos z]
        · rw [if_neg (fun y => z (hmem.mp y)), if_neg z]
      · show x ∈ (askF ks i).2 ++ [n] ++ [m] ↔ x ∈ (askF ks i).2 ∨ x ∈ [n, m]
        simp
end SR
set_option Elab.async false
set_option linter.all false
set_option maxRecDepth 100000
set_option maxHeartbeats 4000000
/-! plain: trees that keep their bounds; the tree of sources -/
namespace SR
open PySem PySem.Spec PyProof.Rows L2
structure Cld (φ : List PyData → Prop) : Prop where
  app : ∀ a b, φ a → φ b → φ (a ++ b)
  take : ∀ a n, φ a → φ (a.take n)
  drop : ∀ a n, φ a → φ (a.drop n)
theorem cld_any : Cld (fun _ => True) := ⟨fun _ _ _ _ => trivial, fun _ _ _ => trivial, fun _ _ _ => trivial⟩
theorem cld_cs : Cld CsOk := by
  refine ⟨fun a b ⟨x, e, h⟩ ⟨y, e2, h2⟩ => ⟨x ++ y, by rw [e, e2, List.map_append], fun c hc => (List.mem_append.mp hc).elim (h c) (h2 c)⟩, fun a n ⟨x, e, h⟩ => ⟨x.take n, by rw [e, List.map_take], fun c hc => h c (List.mem_of_mem_take hc)⟩, fun a n ⟨x, e, h⟩ => ⟨x.drop n, by rw [e, List.map_drop], fun c hc => h c (List.mem_of_mem_drop hc)⟩⟩
structure TS (φ : List PyData → Prop) (t : Tr) (a b : Nat) : Prop where
  nd : (t.map (·.1)).Nodup
  few : t.length ≤ a
  len : ∀ q ∈ t, q.2.length ≤ b
  nm : ∀ q ∈ t, nmOk q.1
  cs : ∀ q ∈ t, φ q.2
def DeedOk (φ : List PyData → Prop) : Deed → Prop
  | .put n cs => nmOk n ∧ cs.length ≤ 10 ∧ φ cs
  | .patch n _ _ cs => nmOk n ∧ cs.length ≤ 10 ∧ φ cs
  | .drop n => nmOk n
  | .rename n m => nmOk n ∧ nmOk m ∧ n ≠ m
section
variable {φ : List PyData → Prop} {t t' : Tr} {a b : Nat}
theorem TS.put (h : TS φ t a b) {n : Str} {x : List PyData} (hn : nmOk n) (hl : x.length ≤ b) (hx : φ x) : TS φ (trPut t n x) (a + 1) b := by
  refine ⟨trPut_keys h.nd, ?_, fun q hq => ?_, fun q hq => ?_, fun q hq => ?_⟩
  · have := trPut_le t n x
    have := h.few
    omega
  · rcases mem_put hq with rfl | hq
    · exact hl
    · exact h.len q hq
  · rcases mem_put hq with rfl | hq
    · exact hn
    · exact h.nm q hq
  · rcases mem_put hq with rfl | hq
    · exact hx
    · exact h.cs q hq
theorem TS.drop (h : TS φ t a b) (n : Str) : TS φ (trDrop t n) a b :=
  ⟨drop_keys h.nd, Nat.le_trans (drop_len _ _) h.few, fun q hq => h.len q (mem_drop hq), fun q hq => h.nm q (mem_drop hq), fun q hq => h.cs q (mem_drop hq)⟩
theorem TS.mono (h : TS φ t a b) {a' b' : Nat} (ha : a ≤ a') (hb : b ≤ b') : TS φ t a' b' :=
  ⟨h.nd, Nat.le_trans h.few ha, fun q hq => Nat.le_trans (h.len q hq) hb, h.nm, h.cs⟩
theorem TS.at (h : TS φ t a b) {n : Str} {x : List PyData} (e : trGet t n = some x) : x.length ≤ b ∧ φ x := ⟨h.len _ (get_some_mem e), h.cs _ (get_some_mem e)⟩
theorem done_ts (C : Cld φ) (h : TS φ t a b) {d : Deed} (hd : DeedOk φ d) (e : doneF t d = some t') : TS φ t' (a + 1) (b + 10) := by
  have hb : TS φ t a (b + 10) := h.mono (Nat.le_refl _) (by omega)
  cases d with
  | put n cs =>
    cases Option.some.inj e
    exact hb.put hd.1 (by have := hd.2.1; omega) hd.2.2
  | patch n i o cs =>
    cases q : trGet t n with
    | none =>
      rw [doneF_patN q] at e
      cases e
    | some x =>
      rw [doneF_patS q] at e
      split at e
      · cases e
      · rename_i z
        cases e
        obtain ⟨h1, h2⟩ := h.at q
        refine (hb.drop n).put hd.1 ?_ (C.app _ _ (C.app _ _ (C.take _ _ h2) hd.2.2) (C.drop _ _ h2))
        have := hd.2.1
        rw [List.length_append, List.length_append, List.length_take, List.length_drop]
        omega
  | drop n =>
    cases q : trGet t n with
    | none =>
      rw [doneF_dropN q] at e
      cases e
    | some x =>
      rw [doneF_dropS q] at e
      cases e
      exact (hb.drop n).mono (by omega) (Nat.le_refl _)
  | rename n m =>
    cases q : trGet t n with
    | none =>
      rw [doneF_renN q] at e
      cases e
    | some x =>
      cases q2 : trGet t m with
      | some y =>
        rw [doneF_renT q q2] at e
        cases e
      | none =>
        rw [doneF_renS q q2] at e
        cases e
        obtain ⟨h1, h2⟩ := hb.at q
        exact (hb.drop n).put hd.2.1 h1 h2
theorem TS.tr (h : TS φ t a b) (ha : a < 5000) (hb : b ≤ 40000) : TrOk t := ⟨h.nd, by have := h.few; omega, fun q hq => Nat.le_trans (h.len q hq) hb⟩
theorem TS.ground (h : TS CsOk t a b) (ha : a ≤ 36) (hb : b ≤ 996) : Ground t :=
  ⟨⟨by have := h.few; omega, fun q hq => ⟨h.nm q hq, h.cs q hq, Nat.le_trans (h.len q hq) hb⟩⟩, h.nd, by have := h.few; omega⟩
theorem mark_ok (h : TS φ t a b) (hb : b ≤ 996) {d : Deed} (hd : DeedOk φ d) (e : doneF t d = some t') : (markF t d).ok ∧ (markF t d).news ≤ 10 := by
  cases d with
  | put n cs => exact ⟨⟨hd.1, by have := hd.2.1; omega⟩, hd.2.1⟩
  | patch n i o cs =>
    cases q : trGet t n with
    | none =>
      rw [doneF_patN q] at e
      cases e
    | some x =>
      rw [doneF_patS q] at e
      split at e
      · cases e
      · rename_i z
        obtain ⟨h1, h2⟩ := h.at q
        have hm : markF t (.patch n i o cs) = .patch n i o cs.length x.length := by
          show Mark.patch n i o cs.length ((trGet t n).getD []).length = _
          rw [q]
          rfl
        rw [hm]
        have := hd.2.1
        exact ⟨⟨hd.1, by omega, by omega, by omega, by omega, by omega⟩, hd.2.1⟩
  | drop n =>
    cases q : trGet t n with
    | none =>
      rw [doneF_dropN q] at e
      cases e
    | some x =>
      obtain ⟨h1, h2⟩ := h.at q
      have hm : markF t (.drop n) = .drop n x.length := by
        show Mark.drop n ((trGet t n).getD []).length = _
        rw [q]
        rfl
      rw [hm]
      exact ⟨⟨hd, by omega⟩, Nat.zero_le _⟩
  | rename n m =>
    cases q : trGet t n with
    | none =>
      rw [doneF_renN q] at e
      cases e
    | some x =>
      obtain ⟨h1, h2⟩ := h.at q
      have hm : markF t (.rename n m) = .rename n m x.length := by
        show Mark.rename n m ((trGet t n).getD []).length = _
        rw [q]
        rfl
      rw [hm]
      exact ⟨⟨hd.1, hd.2.1, hd.2.2, by omega⟩, Nat.zero_le _⟩
end
theorem deedby_ok {φ : List PyData → Prop} {k : Mark} {cs : List PyData} (ko : k.ok) (hl : cs.length ≤ 10) (hc : φ cs) : DeedOk φ (deedBy k cs) := by
  cases k with
  | put n l => exact ⟨ko.1, hl, hc⟩
  | patch n i u l h => exact ⟨ko.1, hl, hc⟩
  | drop n h => exact ko.1
  | rename n m h => exact ⟨ko.1, ko.2.1, ko.2.2.1⟩
/-- the trees over a ground keep their bounds -/
theorem Runs.bts {g : Option Sv} {ks : List Mark} (R : Runs g ks) (nw : ∀ k ∈ ks, k.news ≤ 10) {φ : List PyData → Prop} (C : Cld φ) {G : Tr} {css : List (List PyData)} {a b : Nat} (h : TS φ G a b) (ft : Fit (outs g ks ks.length) G) (g0 : g = none → G = []) (hc : CssOk ks css) (hcs : ∀ cs ∈ css, φ cs) : ∀ i, i ≤ ks.length → TS φ (bts G ks css i) (a + i) (b + 10 * i)
  | 0, _ => h
  | i + 1, hi => by
    obtain ⟨k, hk⟩ : ∃ k, ks[i]? = some k := ⟨_, List.getElem?_eq_getElem (by omega)⟩
    obtain ⟨cs, h1, h2⟩ := hc i k hk
    have e := ((R.other ft g0 hc (i + 1) hi).2 i k cs (by omega) hk h1).1
    have hkm := List.mem_of_getElem? hk
    exact done_ts C (Runs.bts R nw C h ft g0 hc hcs i (by omega)) (deedby_ok (R.kok k hkm) (by rw [h2]; exact nw k hkm) (hcs cs (List.mem_of_getElem? h1))) e
/-! the tree of sources -/
def symT (a : List (Str × Option Nat)) : Tr := a.filterMap fun q => q.2.map fun l => (q.1, (List.range l).map fun i => orgD (.below q.1, i))
def goneT (a : List (Str × Option Nat)) : List (Str × Unit) := a.filterMap fun q => if q.2 = none then some (q.1, ()) else none
theorem symT_get {a : List (Str × Option Nat)} (nd : (a.map (·.1)).Nodup) (n : Str) : trGet (symT a) n = (trGet a n).bind fun t => t.map fun l => (List.range l).map fun i => orgD (.below n, i) := by
  induction a with
  | nil => rfl
  | cons q a ih =>
    rw [List.map_cons, List.nodup_cons] at nd
    obtain ⟨m, t⟩ := q
    unfold symT at ih ⊢
    rw [List.filterMap_cons, get_cons]
    cases t with
    | none =>
      show trGet (List.filterMap _ a) n = _
      rw [ih nd.2]
      by_cases h : m = n
      · rw [if_pos h, get_none (h ▸ nd.1)]
        rfl
      · rw [if_neg h]
    | some l =>
      show trGet ((m, (List.range l).map fun i => orgD (.below m, i)) :: List.filterMap _ a) n = _
      rw [get_cons, ih nd.2]
      by_cases h : m = n
      · subst h
        rw [if_pos rfl, if_pos rfl]
        rfl
      · rw [if_neg h, if_neg h]
theorem goneT_get {a : List (Str × Option Nat)} (nd : (a.map (·.1)).Nodup) (n : Str) : (trGet (goneT a) n).isSome = true ↔ trGet a n = some none := by
  induction a with
  | nil => exact ⟨fun h => (by cases h), fun h => (by cases h)⟩
  | cons q a ih =>
    rw [List.map_cons, List.nodup_cons] at nd
    obtain ⟨m, t⟩ := q
    unfold goneT at ih ⊢
    rw [List.filterMap_cons, get_cons]
    cases t with
    | none =>
      show (trGet ((m, ()) :: List.filterMap _ a) n).isSome = true ↔ _
      rw [get_cons]
      by_cases h : m = n
      · rw [if_pos h, if_pos h]
        exact ⟨fun _ => rfl, fun _ => rfl⟩
      · rw [if_neg h, if_neg h]
        exact ih nd.2
    | some l =>
      show (trGet (List.filterMap _ a) n).isSome = true ↔ _
      rw [ih nd.2]
      by_cases h : m = n
      · rw [if_pos h, get_none (h ▸ nd.1)]
        exact ⟨fun z => (by cases z), fun z => (by cases z)⟩
      · rw [if_neg h]
def symC (ks : List Mark) (i : Nat) : List PyData := (List.range (newsN ks (svF i))).map fun j => orgD (.new (svF i), j)
def symCss (ks : List Mark) : List (List PyData) := (List.range ks.length).map (symC ks)
theorem symCss_at {ks : List Mark} {i : Nat} (h : i < ks.length) : (symCss ks)[i]? = some (symC ks i) := by
  unfold symCss
  rw [List.getElem?_map, List.getElem?_range h]
  rfl
theorem symC_len {ks : List Mark} {i : Nat} {k : Mark} (h : ks[i]? = some k) : (symC ks i).length = k.news := by
  unfold symC
  rw [List.length_map, List.length_range, newsN_at, h]
  rfl
theorem sym_css (ks : List Mark) : CssOk ks (symCss ks) := fun i k hk => ⟨_, symCss_at (List.getElem?_eq_some_iff.mp hk).1, symC_len hk⟩
section
variable {g : Option Sv} {ks : List Mark}
theorem Runs.symfit (R : Runs g ks) : Fit (outs g ks ks.length) (symT (outs g ks ks.length).aks) := by
  intro n t h
  rw [symT_get (R.aks).1, h]
  cases t with
  | none => rfl
  | some l =>
    show some ((List.range l).map fun i => orgD (.below n, i)).length = some l
    rw [List.length_map, List.length_range]
theorem Runs.sym0 (R : Runs g ks) (h : g = none) : symT (outs g ks ks.length).aks = [] := by
  rw [(R.inv _ (Nat.le_refl _)).grn (by rw [outs_gr]; exact h)]
  rfl
theorem Runs.symheld (R : Runs g ks) : heldF (symT (outs g ks ks.length).aks) (clFrom 0 (symCss ks)) = symH (bnd (outs g ks ks.length) (newsN ks)) := by
  funext so
  cases so with
  | below n =>
    show (trGet (symT (outs g ks ks.length).aks) n).getD [] = (List.range (askN (trGet (outs g ks ks.length).aks n))).map fun i => orgD (.below n, i)
    rw [symT_get (R.aks).1]
    cases e : trGet (outs g ks ks.length).aks n with
    | none => rfl
    | some t =>
      cases t with
      | none => rfl
      | some l => rfl
  | new s =>
    show (trGet (clFrom 0 (symCss ks)) s).getD [] = (List.range (newsN ks s)).map fun i => orgD (.new s, i)
    by_cases p : 1 ≤ newsN ks s
    · obtain ⟨i, k, hk, e, e2⟩ := newsN_pos p
      rw [e, cl_at, symCss_at (List.getElem?_eq_some_iff.mp hk).1]
      rfl
    · have e0 : newsN ks s = 0 := by omega
      rw [e0]
      cases e : trGet (clFrom 0 (symCss ks)) s with
      | none => rfl
      | some x =>
        obtain ⟨i, e1, h1, h2, h3⟩ := cl_mem (get_some_mem e)
        have e1 : s = svF i := e1
        rw [Nat.zero_add, symCss, List.length_map, List.length_range] at h2
        rw [e1, cl_at, symCss_at h2] at e
        have := congrArg List.length (Option.some.inj e)
        unfold symC at this
        rw [List.length_map, List.length_range, ← e1, e0] at this
        exact List.length_eq_zero_iff.mp this.symm
/-- the tree of sources behind the marks -/
def spotT (g : Option Sv) (ks : List Mark) : Nat → Tr := bts (symT (outs g ks ks.length).aks) ks (symCss ks)
theorem Runs.spot (R : Runs g ks) (i : Nat) (h : i ≤ ks.length) : Mt (outs g ks i) (symT (outs g ks ks.length).aks) (spotT g ks i) (clFrom 0 (symCss ks))
    ∧ ∀ (j : Nat) (k : Mark) (cs : List PyData), j < i → ks[j]? = some k → (symCss ks)[j]? = some cs → doneF (spotT g ks j) (deedBy k cs) = some (spotT g ks (j + 1)) ∧ markF (spotT g ks j) (deedBy k cs) = k :=
  R.other R.symfit (R.sym0) (sym_css ks) i h
theorem Runs.spot_en (R : Runs g ks) {n : Str} {r : List Pc} (h : trGet (outs g ks ks.length).en n = some r) : trGet (spotT g ks ks.length) n = some ((expF r).map orgD) := by
  rw [(R.spot _ (Nat.le_refl _)).1.en n r h, fillF_H, R.symheld, sym_fill ((R.inv _ (Nat.le_refl _)).row n r h).1]
theorem Runs.spot_some (R : Runs g ks) (n : Str) : (trGet (spotT g ks ks.length) n).isSome = (trGet (outs g ks ks.length).en n).isSome := by
  have m := (R.spot _ (Nat.le_refl _)).1
  have I := R.inv _ (Nat.le_refl ks.length)
  cases e : trGet (outs g ks ks.length).en n with
  | some r =>
    rw [m.en n r e]
    rfl
  | none =>
    cases e2 : trGet (outs g ks ks.length).go n with
    | some x =>
      rw [m.go n (by rw [e2]; rfl)]
      rfl
    | none =>
      have hf := fresh_iff.mpr ⟨e, e2⟩
      rw [m.fr n hf, symT_get I.nak]
      cases e3 : trGet (outs g ks ks.length).aks n with
      | none => rfl
      | some t =>
        have := I.ask n (by rw [e3]; rfl)
        rw [hf] at this
        cases this
/-! the names that are gone -/
def touch (t : Tr) (gn : List (Str × Unit)) (n : Str) : List (Str × Unit) := if (trGet t n).isSome = true then trDrop gn n else trPut (trDrop gn n) n ()
def touchAll (t : Tr) : List (Str × Unit) → List Str → List (Str × Unit)
  | gn, [] => gn
  | gn, n :: r => touchAll t (touch t gn n) r
theorem touch_get (t : Tr) (gn : List (Str × Unit)) (n x : Str) : (trGet (touch t gn n) x).isSome = if x = n then !(trGet t n).isSome else (trGet gn x).isSome := by
  unfold touch
  cases e : (trGet t n).isSome with
  | true =>
    rw [if_pos rfl, get_drop]
    by_cases z : x = n
    · rw [if_pos z, if_pos z]
      rfl
    · rw [if_neg z, if_neg z]
  | false =>
    rw [if_neg (by simp), get_put, get_drop]
    by_cases z : x = n
    · rw [if_pos z.symm, if_pos z]
      rfl
    · rw [if_neg (fun y => z y.symm), if_neg z, if_neg z]
theorem touch_nodup {t : Tr} {gn : List (Str × Unit)} {n : Str} (h : (gn.map (·.1)).Nodup) : ((touch t gn n).map (·.1)).Nodup := by
  unfold touch
  split
  · exact drop_keys h
  · exact trPut_keys (drop_keys h)
theorem touch_len (t : Tr) (gn : List (Str × Unit)) (n : Str) : (touch t gn n).length ≤ gn.length + 1 := by
  unfold touch
  have h1 := drop_len gn n
  split
  · omega
  · have := trPut_le (trDrop gn n) n ()
    omega
theorem touchAll_get (t : Tr) (x : Str) : ∀ (ns : List Str) (gn : List (Str × Unit)), (trGet (touchAll t gn ns) x).isSome = if x ∈ ns then !(trGet t x).isSome else (trGet gn x).isSome
  | [], gn => by simp [touchAll]
  | n :: r, gn => by
    show (trGet (touchAll t (touch t gn n) r) x).isSome = _
    rw [touchAll_get t x r, touch_get]
    by_cases h1 : x = n
    · subst h1
      by_cases h2 : x ∈ r
      · simp [h2]
      · simp [h2]
    · by_cases h2 : x ∈ r
      · simp [h2]
      · simp [h1, h2]
theorem touchAll_nodup {t : Tr} : ∀ {ns : List Str} {gn : List (Str × Unit)}, (gn.map (·.1)).Nodup → ((touchAll t gn ns).map (·.1)).Nodup
  | [], _, h => h
  | n :: r, _, h => touchAll_nodup (ns := r) (touch_nodup h)
theorem touchAll_len {t : Tr} : ∀ {ns : List Str} {gn : List (Str × Unit)}, (touchAll t gn ns).length ≤ gn.length + ns.length
  | [], _ => Nat.le_refl _
  | n :: r, gn => by
    have h1 := touchAll_len (t := t) (ns := r) (gn := touch t gn n)
    have h2 := touch_len t gn n
    show (touchAll t (touch t gn n) r).length ≤ _
    rw [List.length_cons]
    omega
def gnsF (g : Option Sv) (ks : List Mark) : Nat → List (Str × Unit)
  | 0 => goneT (outs g ks ks.length).aks
  | i + 1 => match ks[i]? with
    | some k => touchAll (spotT g ks (i + 1)) (gnsF g ks i) k.names
    | none => gnsF g ks i
theorem gns_step {i : Nat} {k : Mark} (h : ks[i]? = some k) : gnsF g ks (i + 1) = touchAll (spotT g ks (i + 1)) (gnsF g ks i) k.names := by
  show (match ks[i]? with | some k => touchAll (spotT g ks (i + 1)) (gnsF g ks i) k.names | none => gnsF g ks i) = _
  rw [h]
theorem goneT_nodup {a : List (Str × Option Nat)} (nd : (a.map (·.1)).Nodup) : ((goneT a).map (·.1)).Nodup := by
  have e : (goneT a).map (·.1) = (a.filter fun q => decide (q.2 = none)).map (·.1) := by
    unfold goneT
    induction a with
    | nil => rfl
    | cons q a ih =>
      rw [List.map_cons, List.nodup_cons] at nd
      obtain ⟨m, t⟩ := q
      rw [List.filterMap_cons, List.filter_cons]
      cases t with
      | none =>
        exact congrArg (m :: ·) (ih nd.2)
      | some l =>
        exact ih nd.2
  rw [e]
  exact (List.Sublist.map _ List.filter_sublist).nodup nd
theorem Runs.gns (R : Runs g ks) : ∀ i, i ≤ ks.length → ((gnsF g ks i).map (·.1)).Nodup ∧ (gnsF g ks i).length ≤ 27 + 2 * i ∧ ∀ n, (trGet (gnsF g ks i) n).isSome = if freshO (outs g ks i) n = true then decide (trGet (outs g ks ks.length).aks n = some none) else (trGet (outs g ks i).go n).isSome
  | 0, _ => by
    refine ⟨goneT_nodup (R.aks).1, Nat.le_trans (List.length_filterMap_le _ _) (R.aks).2, fun n => ?_⟩
    have hf : freshO (outs g ks 0) n = true := rfl
    rw [if_pos hf]
    have h := goneT_get (R.aks).1 n
    show (trGet (goneT (outs g ks ks.length).aks) n).isSome = _
    cases e : (trGet (goneT (outs g ks ks.length).aks) n).isSome with
    | true => exact (decide_eq_true (h.mp e)).symm
    | false =>
      refine (decide_eq_false fun z => ?_).symm
      rw [h.mpr z] at e
      cases e
  | i + 1, hi => by
    obtain ⟨a, b, c⟩ := R.gns i (by omega)
    obtain ⟨k, hk⟩ : ∃ k, ks[i]? = some k := ⟨_, List.getElem?_eq_getElem (by omega)⟩
    have ko := R.kok k (List.mem_of_getElem? hk)
    have m := (R.spot (i + 1) hi).1
    have I := R.inv (i + 1) hi
    rw [gns_step hk]
    refine ⟨touchAll_nodup a, ?_, fun n => ?_⟩
    · have := touchAll_len (t := spotT g ks (i + 1)) (ns := k.names) (gn := gnsF g ks i)
      have : k.names.length ≤ 2 := by
        cases k with
        | put n l => exact Nat.le_succ 1
        | patch n i u l h => exact Nat.le_succ 1
        | drop n h => exact Nat.le_succ 1
        | rename n m h => exact Nat.le_refl 2
      omega
    · rw [touchAll_get]
      by_cases hn : n ∈ k.names
      · have hf : freshO (outs g ks (i + 1)) n = false := by
          rw [outs_step hk]
          exact led_touched ko hn
        rw [if_pos hn, hf, if_neg (by simp)]
        rcases fresh_not.mp hf with h | h
        · rw [I.dis n h]
          obtain ⟨r, e⟩ := Option.isSome_iff_exists.mp h
          rw [m.en n r e]
          rfl
        · rw [m.go n h, h]
          rfl
      · rw [if_neg hn, c, outs_step hk, led_fresh hn, (led_other hn).2]
theorem Runs.gone (R : Runs g ks) : srt ((gnsF g ks ks.length).map (·.1)) = srt ((outs g ks ks.length).go.map (·.1)) := by
  obtain ⟨a, _, c⟩ := R.gns ks.length (Nat.le_refl _)
  have I := R.inv _ (Nat.le_refl ks.length)
  refine srt_congr (keys_perm a I.ngo fun n => ?_)
  rw [c]
  cases hf : freshO (outs g ks ks.length) n with
  | false => rw [if_neg (by simp)]
  | true =>
    rw [if_pos rfl, (fresh_iff.mp hf).2]
    refine decide_eq_false fun z => ?_
    have := I.ask n (by rw [z]; rfl)
    rw [hf] at this
    cases this
end
end SR
set_option Elab.async false
set_option linter.all false
set_option maxRecDepth 100000
set_option maxHeartbeats 4000000
/-! the law's own: what marks ask -/
namespace SR
open PySem PySem.Spec PyProof.Rows L2
section
variable {M : Addr → Prop} {X : Cx} {σ : L2.St} {H : Hp}
theorem ev_nmLs (i : Nat) {x : Str} {l : Addr} {zs : List Str} (hl : H l = some (.lst (zs.map V.str))) (hm : ¬ M l) (hs : σ[i]? = some (some (.ref l)) := by rfl) (hN : X.N[i]? = some x := by rfl) (hv : Vis X.env.scope x := by first | exact Or.inl rfl | exact Or.inr (Or.inl rfl) | exact Or.inr (Or.inr rfl)) (hd : (x == ("__debug__" : Str)) = false := by decide) (hcd : (x == ("__classdict__" : Str)) = false := by decide) {pos : Pos} :
    Ev M (wE X (.Name x pos)) σ H (PLs X.K zs) := (ev_nmV i hs hN hv hd hcd).imp fun v H1 H2 g1 g2 e => by
  obtain rfl : v = .ref l := e
  exact ⟨l, rfl, .inl (.inl ((g1.t g2).k l _ hm hl))⟩
end
section
variable {P : Program} {w : World} {K : PySem.W.Frag} {mg : Str → Option Value} {base : Heap}
def spAsked (K : PySem.W.Frag) : Sp := fun vs H Q _ => ∃ (b : Addr) (us : List V) (ks : List Mark), vs = [.ref b] ∧ H b = some (.lst us) ∧ DvA K H us (ks.map Mark.d) ∧ ks.length ≤ 1000 ∧
  ∀ (r : Addr) H', Gr M0 H H' → H r = none → DW K askD H' r (askF ks ks.length).1 → Q (.ref r) H'
abbrev nAsked : List Str := ["_law_marks", "_law_found", "_law_spoken", "_law_mark_here"]
theorem sc_lasked : FnScope nAsked ["_law_marks"] (defScope st_law_asked) := ⟨rfl, rfl, rfl, by decide +kernel, rfl, by decide +kernel, by decide +kernel⟩
def askBody : List Stmt := match (defBody st_law_asked)[1]? with
  | some (Stmt.For _ _ b _ _) => b
  | _ => []
def askBody2 : List Stmt := match askBody[2]? with
  | some (Stmt.If _ b _ _) => b
  | _ => []
theorem askF_len (ks : List Mark) : ∀ i, (askF ks i).1.length ≤ 2 * i ∧ (askF ks i).2.length ≤ 2 * i
  | 0 => ⟨Nat.le_refl _, Nat.le_refl _⟩
  | i + 1 => by
    obtain ⟨a, b⟩ := askF_len ks i
    cases h : ks[i]? with
    | none =>
      have e : askF ks (i + 1) = askF ks i := by
        show (match ks[i]? with | some k => askStep (askF ks i) k | none => askF ks i) = _
        rw [h]
      rw [e]
      exact ⟨by omega, by omega⟩
    | some k =>
      rw [askF_step h]
      have h1 : ∀ (c : Prop) [Decidable c] (m : List (Str × Option Nat)) (n : Str) (t : Option Nat), (if c then trPut m n t else m).length ≤ m.length + 1 := by
        intro c _ m n t
        have := trPut_le m n t
        split <;> omega
      have h2 := h1 (k.kind ≠ "put" ∧ k.name ∉ (askF ks i).2) (askF ks i).1 k.name (some k.last)
      cases k with
      | rename n m h' =>
        refine ⟨Nat.le_trans (h1 _ _ m none) (by omega), ?_⟩
        show ((askF ks i).2 ++ [n] ++ [m]).length ≤ _
        simp
        omega
      | put n l => exact ⟨Nat.le_trans h2 (by omega), by show ((askF ks i).2 ++ [n]).length ≤ _; simp; omega⟩
      | patch n x u l h' => exact ⟨Nat.le_trans h2 (by omega), by show ((askF ks i).2 ++ [n]).length ≤ _; simp; omega⟩
      | drop n h' => exact ⟨Nat.le_trans h2 (by omega), by show ((askF ks i).2 ++ [n]).length ≤ _; simp; omega⟩
theorem ok_lasked (T : Txt w K mg) : C8.Cal P w K mg base 1 "_law_asked" (spAsked K) [] := by
  refine fn_ok T 42 rfl sc_lasked (fun _ _ _ _ _ _ us hl => match us, hl with | [_], _ => rfl) (fun vs H Q E ⟨_, _, _, h, _⟩ => by rw [h]; rfl) (fun f cdv A outer s H vs Q E hr ⟨b, us, ks, hv, hb, hus, few, hQ⟩ => ?_)
  subst hv
  have nd := sc_lasked.nd
  have hu := hu64 hr
  refine bl_par (i := 1) (j := 2) (Gr.z H) (eg_cons (P := PDN K askD []) (Ps := [PL K []]) stb_dn (fun P hP => by cases List.mem_singleton.mp hP; exact stb_l) ev_dnil (eg_cons stb_l (fun P hP => by cases hP) (ev_lst ea_nil (by simp)) eg_nil)) (fun vs H1 g1 pa => ?_) rfl nd
  obtain ⟨w1, _, rfl, ⟨fa, rfl, fa0, hfw⟩, w2, _, rfl, ⟨l, us0, rfl, hl0, hl, hz⟩, rfl⟩ := pa
  cases hz
  refine ⟨_, _, rfl, ?_⟩
  have hb1 : H1 b = some (.lst us) := g1.k b _ (fun z => z) hb
  have hul : us.length = ks.length := by rw [hus.length, List.length_map]
  refine bl_forL (gt := gName 3) g1.r rfl rfl (pg_name nd rfl (Or.inl rfl)) (ev_nmV 0) (fun v H2 g2 ev => ?_)
  obtain rfl : v = .ref b := ev
  refine ⟨b, us, rfl, fun i σ' H' => ∃ (o1 : Option V), σ' = [some (.ref b), some (.ref fa), some (.ref l), o1] ∧ Gr M0 H H' ∧ H' l = some (.lst ((askF ks i).2.map V.str)) ∧ DW K askD H' fa (askF ks i).1, ?_, fun i σ' H' _ ⟨_, _, g, _⟩ => .inl (.inl (g.k b _ (fun z => z) hb)), ?_, ?_⟩
  · exact ⟨none, rfl, g1.t g2, g2.k l _ (fun z => z) hl, hfw.g g2⟩
  · rintro i x σ' H' hx0 ⟨o1, rfl, G0, hl1, hf1⟩
    obtain ⟨d, hd, hx⟩ := hus.get' hx0
    have hx := hx.g G0
    obtain ⟨k, hk, rfl⟩ := mark_at hd
    have hi : i < ks.length := (List.getElem?_eq_some_iff.mp hk).1
    obtain ⟨len1, len2⟩ := askF_len ks i
    refine gt_name ?_
    -- behind the first if
    have tail : ∀ (D : Ends) H3 m1, (m1.length ≤ 5000) → Gr M0 H H3 → Dv K H3 x k.d → H3 l = some (.lst ((askF ks i).2.map V.str)) → DW K askD H3 fa m1 →
        (∀ H4, Gr M0 H H4 → ∀ m2 sp, (m2, sp) = (match k with | .rename _ m _ => (if m ∉ (askF ks i).2 ++ [k.name] then trPut m1 m none else m1, (askF ks i).2 ++ [k.name] ++ [m]) | _ => (m1, (askF ks i).2 ++ [k.name])) → H4 l = some (.lst (sp.map V.str)) → DW K askD H4 fa m2 → D.nx [some (.ref b), some (.ref fa), some (.ref l), some x] H4) →
        wB (cX P w K mg base nAsked "_law_asked" st_law_asked f cdv A outer s H E) (askBody.drop 1) D [some (.ref b), some (.ref fa), some (.ref l), some x] H3 := by
      intro D H3 m1 hm1 G3 hx3 hl3 hf3 fin
      have nfl : fa ≠ l := fun z => by
        obtain ⟨kv, z1, _⟩ := hf3
        rw [z, hl3] at z1
        cases z1
      refine bl_app (i := 2) (P := Pd K (.str k.name)) (Gr.z H3) rfl hl3 (fun z => z) (by rw [List.length_map]; omega) (ev_sub1 (ev_nm 3 hx3) _) (fun y H5 g5 py hl5 => ?_)
      obtain rfl := dv_str py
      have G6 : Gr M0 H (upd H5 l (.lst ((askF ks i).2.map V.str ++ [.str k.name]))) := (G3.t g5).mut hl0
      have hx6 : Dv K (upd H5 l (.lst ((askF ks i).2.map V.str ++ [.str k.name]))) x k.d := (hx3.g g5).st hl5
      have hl6 : upd H5 l (.lst ((askF ks i).2.map V.str ++ [.str k.name])) l = some (.lst (((askF ks i).2 ++ [k.name]).map V.str)) := by
        rw [List.map_append]
        exact upd_same
      have hf6 : DW K askD (upd H5 l (.lst ((askF ks i).2.map V.str ++ [.str k.name]))) fa m1 := by
        obtain ⟨kv, z1, z2⟩ := hf3.g g5
        exact ⟨kv, by rw [upd_ne nfl]; exact z1, z2.st hl5⟩
      generalize upd H5 l (.lst ((askF ks i).2.map V.str ++ [.str k.name])) = H6 at G6 hx6 hl6 hf6
      refine bl_when (Gr.z H6) (et_eqS (ev_sub0 (ev_nm 3 hx6) _) ev_str) (fun c H7 g7 => ?_) (fun c H7 g7 => ?_)
      · cases k with
        | put n q => exact nf (c.trans kd_put_rename)
        | patch n q u q2 h' => exact nf (c.trans kd_patch_rename)
        | drop n h' => exact nf (c.trans kd_drop_rename)
        | rename n m h' =>
          have hl7 := g7.k l _ (fun z => z) hl6
          have hx7 := hx6.g g7
          have hf7 := hf6.g g7
          have G7 := G6.t g7
          have tail2 : ∀ H8 m2, Gr M0 H H8 → Dv K H8 x (Mark.rename n m h').d → H8 l = some (.lst (((askF ks i).2 ++ [n]).map V.str)) → DW K askD H8 fa m2 → m2 = (if m ∉ (askF ks i).2 ++ [n] then trPut m1 m none else m1) →
              wB (cX P w K mg base nAsked "_law_asked" st_law_asked f cdv A outer s H E) (askBody2.drop 1) { D with nx := wB (cX P w K mg base nAsked "_law_asked" st_law_asked f cdv A outer s H E) [] D } [some (.ref b), some (.ref fa), some (.ref l), some x] H8 := by
            intro H8 m2 G8 hx8 hl8 hf8 e8
            refine bl_app (i := 2) (P := Pd K (.str m)) (Gr.z H8) rfl hl8 (fun z => z) (by rw [List.length_map, List.length_append, List.length_singleton]; omega) (ev_ix (ev_nm 3 hx8) ev_int rfl) (fun y H9 g9 py hl9 => ?_)
            obtain rfl := dv_str py
            refine bl_nil (bl_nil (fin _ ((G8.t g9).mut hl0) m2 ((askF ks i).2 ++ [n] ++ [m]) (by rw [e8]; rfl) ?_ ?_))
            · rw [List.map_append (l₂ := [m])]
              exact upd_same
            · obtain ⟨kv, z1, z2⟩ := hf8.g g9
              exact ⟨kv, by rw [upd_ne nfl]; exact z1, z2.st hl9⟩
          refine bl_when (Gr.z H7) (et_notInL (x := m) (zs := (askF ks i).2 ++ [n]) (ev_ix (ev_nm 3 hx7) ev_int rfl) (ev_nmLs 2 hl7 (fun z => z))) (fun c2 H8 g8 => ?_) (fun c2 H8 g8 => ?_)
          · have c3 : m ∉ (askF ks i).2 ++ [n] := by
              intro z
              rw [decide_eq_true z] at c2
              cases c2
            refine bl_dput (b := none) (f := askD) g8.r hu (ev_nmV 1) (hf7.g g8) (by omega) (ev_ix (ev_nm 3 (hx7.g g8)) ev_int rfl) ev_non (fun H9 H10 g9 dm wd => bl_nil ?_)
            have hl10 : H10 l = some (.lst (((askF ks i).2 ++ [n]).map V.str)) := by
              rw [dm.ne (Ne.symm nfl)]
              exact g9.k l _ (fun z => z) (g8.k l _ (fun z => z) hl7)
            exact tail2 H10 _ (dm.gr ((G7.t g8).t g9) fa0) (dm.dv ((hx7.g g8).g g9)) hl10 wd (by rw [if_pos c3])
          · have c3 : ¬ m ∉ (askF ks i).2 ++ [n] := by
              intro z
              rw [decide_eq_false z] at c2
              cases c2
            exact tail2 H8 _ (G7.t g8) (hx7.g g8) (g8.k l _ (fun z => z) hl7) (hf7.g g8) (by rw [if_neg c3])
      · refine bl_nil (fin H7 (G6.t g7) m1 ((askF ks i).2 ++ [k.name]) ?_ (g7.k l _ (fun z => z) hl6) (hf6.g g7))
        cases k with
        | put n q => rfl
        | patch n q u q2 h' => rfl
        | drop n h' => rfl
        | rename n m h' => exact nt (c.trans kd_rename_rename)
    have hf : ∀ H4, Gr M0 H H4 → ∀ m2 sp, (m2, sp) = askStep (askF ks i) k → H4 l = some (.lst (sp.map V.str)) → DW K askD H4 fa m2 → ∃ o1 : Option V, ([some (.ref b), some (.ref fa), some (.ref l), some x] : L2.St) = [some (.ref b), some (.ref fa), some (.ref l), o1] ∧ Gr M0 H H4 ∧ H4 l = some (.lst ((askF ks (i + 1)).2.map V.str)) ∧ DW K askD H4 fa (askF ks (i + 1)).1 := by
      intro H4 G4 m2 sp e h1 h2
      rw [askF_step hk, ← e]
      exact ⟨_, rfl, G4, h1, h2⟩
    refine bl_when (Gr.z H') (et_w (ew_and (EvT.is (c := !decide (k.kind = "put")) (et_neS (ev_sub0 (ev_nm 3 hx) _) ev_str) rfl) (fun _ => ew_and1 (et_notInL (x := k.name) (zs := (askF ks i).2) (ev_sub1 (ev_nm 3 hx) _) (ev_nmLs 2 hl1 (fun z => z)))))) (fun c H3 g3 => ?_) (fun c H3 g3 => ?_)
    · have c0 : k.kind ≠ "put" ∧ k.name ∉ (askF ks i).2 := by
        have c := c.symm
        rw [Bool.and_eq_true, Bool.not_eq_true', Bool.not_eq_true', decide_eq_false_iff_not, decide_eq_false_iff_not] at c
        exact c
      refine bl_dput (b := some k.last) (f := askD) g3.r hu (ev_nmV 1) (hf1.g g3) (by omega) (ev_sub1 (ev_nm 3 (hx.g g3)) _) (ev_subL (ev_nm 3 (hx.g g3)) _) (fun H4 H5 g4 dm wd => bl_nil ?_)
      have nfl : fa ≠ l := fun z => by
        obtain ⟨kv, z1, _⟩ := hf1
        rw [z, hl1] at z1
        cases z1
      refine tail _ H5 _ (Nat.le_trans (trPut_le _ _ _) (by omega)) (dm.gr ((G0.t g3).t g4) fa0) (dm.dv ((hx.g g3).g g4)) ?_ wd (fun H6 G6 m2 sp e h1 h2 => hf H6 G6 m2 sp ?_ h1 h2)
      · rw [dm.ne (Ne.symm nfl)]
        exact g4.k l _ (fun z => z) (g3.k l _ (fun z => z) hl1)
      · rw [e]
        unfold askStep
        rw [if_pos c0]
        all_goals (cases k <;> rfl)
    · have c0 : ¬ (k.kind ≠ "put" ∧ k.name ∉ (askF ks i).2) := by
        intro z
        rw [decide_eq_false z.1, decide_eq_false z.2] at c
        cases c
      refine tail _ H3 _ (by omega) (G0.t g3) (hx.g g3) (g3.k l _ (fun z => z) hl1) (hf1.g g3) (fun H6 G6 m2 sp e h1 h2 => hf H6 G6 m2 sp ?_ h1 h2)
      rw [e]
      unfold askStep
      rw [if_neg c0]
      all_goals (cases k <;> rfl)
  · rintro σ' H' ⟨o1, rfl, G0, hl1, hf1⟩
    rw [hul] at hf1
    exact bl_ret (Gr.z H') (P := Pv (.ref fa)) (ev_nmV 1) (fun v H5 g5 e => by
      obtain rfl : v = .ref fa := e
      exact hQ fa H5 (G0.t g5) fa0 (hf1.g g5))
end
end SR
set_option Elab.async false
set_option linter.all false
set_option maxRecDepth 100000
set_option maxHeartbeats 4000000
/-! the law's own: whether a tree fits -/
namespace SR
open PySem PySem.Spec PyProof.Rows L2
def fitD (t : Tr) (q : Str × Option Nat) : Bool := !PyData.eqv (askD ((trGet t q.1).map List.length)) (askD q.2)
def fitB (m : List (Str × Option Nat)) (t : Tr) : Bool := ((m.filter (fitD t)).map fun q => PyData.str q.1).isEmpty
theorem eqv_askD (a b : Option Nat) : PyData.eqv (askD a) (askD b) = decide (a = b) := by
  cases a with
  | none =>
    cases b with
    | none => rfl
    | some y => rfl
  | some x =>
    cases b with
    | none => rfl
    | some y =>
      show PyData.eqv (.int (x : Int)) (.int (y : Int)) = _
      rw [eqv_int]
      by_cases h : x = y
      · simp [h]
      · have : ¬ (x : Int) = (y : Int) := by omega
        simp [h, this]
theorem fitB_iff {m : List (Str × Option Nat)} {t : Tr} : fitB m t = true ↔ ∀ q ∈ m, (trGet t q.1).map List.length = q.2 := by
  unfold fitB
  rw [List.isEmpty_iff, List.map_eq_nil_iff, List.filter_eq_nil_iff]
  constructor
  · intro h q hq
    have := h q hq
    unfold fitD at this
    rw [eqv_askD, Bool.not_eq_true', decide_eq_false_iff_not] at this
    exact Classical.not_not.mp this
  · intro h q hq
    unfold fitD
    rw [eqv_askD, h q hq]
    simp
section
variable {M : Addr → Prop} {X : Cx} {σ : L2.St} {H : Hp} {elt tg iter : Expr} {pos : Pos} {ds r : List PyData}
/-- a comprehension with its result told -/
theorem ev_lcGR {scope : Scope} {own : List (Str × Nat)} {gt : TG} {ifs : List Expr} {tt : TT} (G : Nat → List PyData) (h0 : G 0 = []) (hr : G ds.length = r) (hc : X.calm = true) (hN : X.N.Nodup) (ok : BlkOk X.N X.env.scope scope own) (hi : EvI M X.K (wI X tg iter) σ H ds) (hl : ds.length ≤ 100000)
    (pg : ∀ (s : Shared) (H0 : Hp) (C : Addr) (cl : List (Str × Addr)) (fp : List Addr), PG (X.blk s H0 scope (compEnvC scope cl C X.env) fp) tg gt)
    (pt : ∀ (s : Shared) (H0 : Hp) (C : Addr) (cl : List (Str × Addr)) (fp : List Addr), PTs (X.blk s H0 scope (compEnvC scope cl C X.env) fp) ifs tt)
    (step : ∀ i d x H2, ds[i]? = some d → Gr M H H2 → Dv X.K H2 x d → ∀ Q : L2.St → Hp → Prop, (∀ (σ2 : L2.St) (b : Bool) (dv : PyData), wipe σ2 (own.map (·.2)) = wipe σ (own.map (·.2)) → EvT M tt σ2 H2 (· = b) → (b = true → Ev M (wEb X scope elt) σ2 H2 (Pd X.K dv)) → G (i + 1) = (if b = true then G i ++ [dv] else G i) → Q σ2 H2) → gt x (wipe σ (own.map (·.2))) H2 Q)
    (hs : ∀ x, foldedSetIterable iter X.env x = pure x := by exact fun _ => rfl) : Ev M (wE X (.ListComp elt [⟨tg, iter, ifs, 0⟩] scope pos)) σ H (PL X.K r) := hr ▸ ev_lcG G h0 hc hN ok hi hl pg pt step hs
end
section
variable {P : Program} {w : World} {K : PySem.W.Frag} {mg : Str → Option Value} {base : Heap}
def spFitB (K : PySem.W.Frag) : Sp := fun vs H Q _ => ∃ (a b : Addr) (m : List (Str × Option Nat)) (t : Tr), vs = [.ref a, .ref b] ∧ DW K askD H a m ∧ DR K tpl H b t ∧ (m.map (·.1)).Nodup ∧ m.length < 1000 ∧ (∀ q ∈ m, nmOk q.1) ∧ ∀ H', Gr M0 H H' → Q (.bl (fitB m t)) H'
abbrev nLfits : List Str := ["_law_asks", "_law_tree", "_law_name"]
theorem sc_lfits : FnScope nLfits ["_law_asks", "_law_tree"] (defScope st_law_fits) := ⟨rfl, rfl, rfl, by decide +kernel, rfl, by decide +kernel, by decide +kernel⟩
theorem ok_lfits (T : Txt w K mg) : C8.Cal P w K mg base 1 "_law_fits" (spFitB K) [] := by
  refine fn_ok T 43 rfl sc_lfits (fun _ _ _ _ _ _ us hl => match us, hl with | [_, _], _ => rfl) (fun vs H Q E ⟨_, _, _, _, h, _⟩ => by rw [h]; rfl) (fun f cdv A outer s H vs Q E hr ⟨a, b, m, t, hv, ha, hb, nn, hl, nm, hQ⟩ => ?_)
  subst hv
  have nd := sc_lfits.nd
  have hu := hu64 hr
  refine bl_ret (Gr.z H) (P := Pd K (.bool (fitB m t))) (ev_eqNil (ds := (m.filter (fitD t)).map fun q => PyData.str q.1) hu (fun d hd => ?_) (Ev.lm ?_) (ev_lst ea_nil (by simp))) (fun v H2 g p => by
    obtain rfl := dv_bl p
    exact hQ H2 g)
  · obtain ⟨q, hq, rfl⟩ := List.mem_map.mp hd
    exact gd_nm (nm q (List.mem_filter.mp hq).1)
  · obtain ⟨kvs, h1, hk⟩ := ha
    refine ev_lock ul_l h1 fun od => ?_
    have ha2 : DR K askD (lkd H a od kvs) a m := DR.lk ⟨kvs, .inl h1, hk⟩ h1
    have hb2 : DR K tpl (lkd H a od kvs) b t := hb.lk h1
    refine ev_lcGR (own := [("_law_name", 2)]) (gt := gName 2) (fun i => ((m.take i).filter (fitD t)).map fun q => PyData.str q.1) (by simp) (by rw [List.length_map, List.take_length]) rfl nd (blkOk_by (sc := defScope st_law_fits) (N := nLfits) (by decide +kernel)) (ei_keys (ev_nmV 0) lk_same (hk.lk h1)) (by rw [List.length_map]; omega) (fun _ _ _ _ _ => pg_name nd rfl (Or.inl rfl)) (fun s H0 C cl fp => pts_one (tb_pt s H0 C cl fp)) (fun i d x H2 e g hx Q q => gt_name ?_)
    rw [List.getElem?_map] at e
    obtain ⟨z, hz, rfl⟩ := Option.map_eq_some_iff.mp e
    have hb3 := hb2.g g
    have ha3 := ha2.g g
    refine q _ (fitD t z) (.str z.1) rfl ?_ (fun _ => ev_blk fun s H0 C cl fp => ev_nm 2 hx) ?_
    · refine et_blk fun s H0 C cl fp => ?_
      have hq : trGet m z.1 = some z.2 := get_of_mem nn (List.mem_of_getElem? hz)
      refine et_ne (d := askD ((trGet t z.1).map List.length)) (d' := askD z.2) hu (shaped_ask _) (shaped_ask _) (ev_if (et_din (f := tpl) (m := t) hu (ev_nm 2 hx) (ev_nmDR 1 hb3)) (fun y => ?_) (fun y => ?_)) (ev_dget (f := askD) hu (ev_nmDR 0 ha3) (ev_nm 2 hx) hq)
      · obtain ⟨b', hb'⟩ := Option.isSome_iff_exists.mp y
        rw [hb']
        exact ev_lenT (ds := b') T.f_len (ev_dget (f := tpl) hu (ev_nmDR 1 hb3) (ev_nm 2 hx) hb')
      · have hb' : trGet t z.1 = none := by
          cases e : trGet t z.1 with
          | none => rfl
          | some b =>
            rw [e] at y
            cases y
        rw [hb']
        exact ev_non
    · show ((m.take (i + 1)).filter (fitD t)).map (fun q => PyData.str q.1) = _
      rw [take_snoc hz, List.filter_append, List.map_append, List.filter_cons, List.filter_nil]
      cases fitD t z <;> simp
end
end SR
set_option Elab.async false
set_option linter.all false
set_option maxRecDepth 100000
set_option maxHeartbeats 4000000
/-! the law's own: all marks with new cells -/
namespace SR
open PySem PySem.Spec PyProof.Rows L2
section
variable {M : Addr → Prop} {X : Cx} {σ : L2.St} {H : Hp} {a b tg : Expr} {pos : Pos} {ds es : List PyData} {K : PySem.W.Frag}
theorem src_zipL {aa bb : Addr} {vs ws : List V} (g : Gr M H H) (ma : ¬ M aa) (mb : ¬ M bb) (h : H aa = some (.lst vs)) (z : DvA K H vs ds) (h2 : H bb = some (.lst ws)) (z2 : DvA K H ws es) : Src M K (Itz K aa bb) (zpD ds es) H := by
  have W : Walk (Itz K aa bb) (zpD ds es).length (fun H => SqL K H aa vs ∧ SqL K H bb ws) (YPair (fun i => vs[i]?) (fun i => ws[i]?)) := by
    refine walk_zip ?_
    rw [z.length, z2.length]
    simp [zpD]
  refine ⟨_, _, W, ⟨.inl (.inl h), .inl (.inl h2)⟩, fun Ha g => ⟨.inl (.inl (g.k aa _ ma h)), .inl (.inl (g.k bb _ mb h2))⟩, fun i Ha x Hb g1 y hi => ?_⟩
  obtain ⟨T, x1, x2, rfl, hT, rfl, e1, e2⟩ := y
  obtain ⟨d1, f1, k1⟩ := z.get' e1
  obtain ⟨d2, f2, k2⟩ := z2.get' e2
  exact ⟨g1.r.new hT, _, zpD_get f1 f2, Dv.tupN (.cons ((k1.g g1).sn hT) (.cons ((k2.g g1).sn hT) .nil)) upd_same⟩
theorem ei_zipL {elts : List Expr} {kk : Nat} {tpos p2 : Pos} (hm : X.mg "zip" = none) (h : Ev M (wE X a) σ H (PLm M X.K ds)) (h2 : Ev M (wE X b) σ H (PLm M X.K es)) (hg : Gl X "zip" := by rfl) (he : starEach [a, b] X.env = (false, eval a X.env) :: starEach [b] X.env := by rfl) (he2 : starEach [b] X.env = (false, eval b X.env) :: starEach [] X.env := by rfl)
    (hpl : (backTo pos (starEach [b] X.env)).any (·.1) = false := by rfl) : EvI M X.K (wI X (.Tuple elts kk tpos) (.Call (.Name "zip" p2) [a, b] [] pos)) σ H (zpD ds es) := fun H1 g R r => of_pi (RZ.pi_zipA hg hm (pa_cons e_pe (pa_cons e_pe pa_nil he2) he) he hpl) (h H1 g _ fun v H2 g2 p => h2 H2 (g.t g2) _ fun u H3 g3 p3 => by
  obtain ⟨t, xs, rfl, mt, hs, ha⟩ := p
  obtain ⟨t', ys, rfl, mt', hs', ha'⟩ := p3
  exact ⟨t, t', xs, ys, rfl, .inl ⟨.inl (.inl (g3.k t _ mt hs)), .inl (.inl hs'), r _ _ (g2.t g3) (src_zipL g3.r mt mt' (g3.k t _ mt hs) (ha.g g3) hs' ha')⟩⟩)
end
section
variable {P : Program} {w : World} {K : PySem.W.Frag} {mg : Str → Option Value} {base : Heap}
structure Behind (Bt : Nat → Tr) (ks : List Mark) (css : List (List PyData)) : Prop where
  few : ks.length ≤ 1000
  len : css.length = ks.length
  step : ∀ (i : Nat) (k : Mark) (cs : List PyData), ks[i]? = some k → css[i]? = some cs → doneF (Bt i) (deedBy k cs) = some (Bt (i + 1)) ∧ markF (Bt i) (deedBy k cs) = k
  ok : ∀ i, i ≤ ks.length → TrOk (Bt i)
  kok : ∀ k ∈ ks, k.ok
  cells : ∀ cs ∈ css, cs.length ≤ 10000
def spAb (K : PySem.W.Frag) : Sp := fun vs H Q _ => ∃ (a b c : Addr) (us ws : List V) (Bt : Nat → Tr) (ks : List Mark) (css : List (List PyData)), vs = [.ref a, .ref b, .ref c] ∧ DW K tpl H a (Bt 0) ∧ H b = some (.lst us) ∧ DvA K H us (ks.map Mark.d) ∧ H c = some (.lst ws) ∧ DvA K H ws (css.map tpl) ∧ Behind Bt ks css ∧
  ∀ (r : Addr) H', Gr M0 H H' → DW K tpl H' r (Bt ks.length) → Q (.ref r) H'
abbrev nLab : List Str := ["_law_tree", "_law_marks", "_law_cells_here", "_law_here", "_law_mark_here", "_law_new_here"]
theorem sc_lab : FnScope nLab ["_law_tree", "_law_marks", "_law_cells_here"] (defScope st_law_all_behind) := ⟨rfl, rfl, rfl, by decide +kernel, rfl, by decide +kernel, by decide +kernel⟩
theorem ok_lab (T : Txt w K mg) : C8.Cal P w K mg base 3 "_law_all_behind" (spAb K) [] := by
  refine fn_ok T 41 rfl sc_lab (fun _ _ _ _ _ _ us hl => match us, hl with | [_, _, _], _ => rfl) (fun vs H Q E ⟨_, _, _, _, _, _, _, _, h, _⟩ => by rw [h]; rfl) (fun f cdv A outer s H vs Q E hr ⟨a, b, c, us, ws, Bt, ks, css, hv, ha, hb, hus, hc, hws, bh, hQ⟩ => ?_)
  subst hv
  have nd := sc_lab.nd
  refine bl_set (i := 3) (Gr.z H) (P := Pv (.ref a)) (ev_nmV 0) (fun v H1 g1 e => ?_) nd
  obtain rfl : v = .ref a := e
  have hb1 : H1 b = some (.lst us) := g1.k b _ (fun z => z) hb
  have hc1 : H1 c = some (.lst ws) := g1.k c _ (fun z => z) hc
  have hl : (zpD (ks.map Mark.d) (css.map tpl)).length = ks.length := by
    have := bh.len
    simp [zpD]
    omega
  refine bl_forI (gt := gTup K 2 (gCons (gName 4) (gCons (gName 5) gNil))) g1.r rfl rfl (pg_tup rfl (pgs_cons (pg_name nd rfl (Or.inl rfl)) (pgs_cons (pg_name nd rfl (Or.inl rfl)) pgs_nil))) (ei_zipL T.f_zip (ev_nmLm 1 hb1 (fun z => z) (hus.g g1)) (ev_nmLm 2 hc1 (fun z => z) (hws.g g1))) (fun H2 g2 => ?_)
  refine ⟨fun i σ' H' => ∃ (r : Addr) (o1 o2 : Option V), σ' = [some (.ref a), some (.ref b), some (.ref c), some (.ref r), o1, o2] ∧ Gr M0 H2 H' ∧ DW K tpl H' r (Bt i), ⟨a, none, none, rfl, g2.r, (ha.g g1).g g2⟩, fun i σ' H' ⟨_, _, _, _, g, _⟩ => g, ?_, ?_⟩
  · rintro i d x σ' H0 H' hd ⟨r, o1, o2, rfl, G, hw⟩ G2 hx
    have hi : i < (zpD (ks.map Mark.d) (css.map tpl)).length := (List.getElem?_eq_some_iff.mp hd).1
    rw [hl] at hi
    obtain ⟨k, hk⟩ : ∃ k, ks[i]? = some k := ⟨_, List.getElem?_eq_getElem hi⟩
    obtain ⟨cs, hcs⟩ : ∃ cs, css[i]? = some cs := ⟨_, List.getElem?_eq_getElem (by rw [bh.len]; exact hi)⟩
    rw [zpD_get (by rw [List.getElem?_map, hk]; rfl) (by rw [List.getElem?_map, hcs]; rfl)] at hd
    cases hd
    obtain ⟨s1, s2⟩ := bh.step i k cs hk hcs
    refine gt_2 hx fun v1 v2 k1 k2 => ?_
    have hw' := hw.g G2
    refine bl_set (i := 3) (Gr.z H') (P := PDN K tpl (Bt (i + 1))) (ev_ifP (p := (· = true)) (fun v H0 H1 H2 g0 g1 pv => ?_) (EvT.is (et_notN (n := false) (ev_nmV 3) (fun v H1 H2 p => by subst p; rfl)) rfl) (fun _ => ev_call (ok_lb T) hr (by decide) (evc (ev_nmV 3) (evc (ev_nmV 4) (evc (ev_nmV 5) ev0))) (fun vs H3 H4 g3 g4 e Q q => by
      obtain rfl : vs = [.ref r, v1, v2] := e
      have g := g3.t g4
      exact ⟨r, v1, v2, Bt i, Bt (i + 1), k, cs, rfl, hw'.g g, k1.g g, k2.g g, bh.kok k (List.mem_of_getElem? hk), bh.ok i (Nat.le_of_lt hi), bh.cells cs (List.mem_of_getElem? hcs), s1, s2, fun r2 H5 g5 h0 hw5 => q _ _ g5 ⟨r2, rfl, g4.back h0, hw5⟩⟩)) (fun z => by cases z)) (fun v H3 g3 pv => ?_) nd
    · obtain ⟨r2, e, h0, hw2⟩ := pv
      exact ⟨r2, e, g0.back h0, hw2⟩
    · obtain ⟨r2, rfl, h0, hw2⟩ := pv
      exact bl_nil ⟨r2, some v1, some v2, rfl, (G.t G2).t g3, hw2⟩
  · rintro σ' H' ⟨r, o1, o2, rfl, G, hw⟩
    rw [hl] at hw
    exact bl_ret (Gr.z H') (P := Pv (.ref r)) (ev_nmV 3) (fun v H5 g5 e => by
      obtain rfl : v = .ref r := e
      exact hQ r H5 (((g1.t g2).t G).t g5) (hw.g g5))
end
end SR
set_option Elab.async false
set_option linter.all false
set_option maxRecDepth 100000
set_option maxHeartbeats 4000000
/-! more rules: three at once, loops over a dict's keys, enumerate with a body that writes, lists added -/
namespace SR
open PySem PySem.Spec PyProof.Rows L2
section
variable {M : Addr → Prop} {X : Cx} {σ : L2.St} {H : Hp} {a b c e tg iter : Expr} {pos p : Pos} {P : PV} {D : Ends} {ds es : List PyData} {rest body : List Stmt} {β : Type} {f : β → PyData} {m : List (Str × β)}
theorem bl_par3 {i j l : Nat} {x y z : Str} {px py pz pt : Pos} {kt k2 pt2} {Pa : PVs} (g : Gr M H H) (h : EvA M (wA X [a, b, c]) σ H Pa) (k : ∀ vs H1, Gr M H H1 → Pa vs H H1 → ∃ v w u, vs = [v, w, u] ∧ wB X rest D (((σ.set i (some v)).set j (some w)).set l (some u)) H1)
    (hc : X.calm = true) (hN : X.N.Nodup) (hi : X.N[i]? = some x := by rfl) (hj : X.N[j]? = some y := by rfl) (hl : X.N[l]? = some z := by rfl) (hij : i ≠ j := by decide) (hil : i ≠ l := by decide) (hjl : j ≠ l := by decide) (hx : X.env.scope.names.lookup x = some .local := by rfl) (hy : X.env.scope.names.lookup y = some .local := by rfl) (hz : X.env.scope.names.lookup z = some .local := by rfl)
    (hw : swappedStores [.Tuple [.Name x px, .Name y py, .Name z pz] kt pt] (.Tuple [a, b, c] k2 pt2) X.env = pure (some [x, y, z]) := by rfl) (hs : swapsWithSole [.Tuple [.Name x px, .Name y py, .Name z pz] kt pt] (.Tuple [a, b, c] k2 pt2) pos.line X.env = pure false := by rfl) :
    wB X (.Assign [.Tuple [.Name x px, .Name y py, .Name z pz] kt pt] (.Tuple [a, b, c] k2 pt2) pos :: rest) D σ H :=
  of_pss (pss_cons (ps_par3 hc hN hi hj hl hij hil hjl hx hy hz e_pa hw hs) e_pss) (h H g _ fun vs H1 g1 p1 => k vs H1 g1 p1)
/-- a loop over the keys of a dict; the dict stays locked -/
theorem bl_forK {gt : TG} {d : Addr} {kvs : List (Key × V)} (g : Gr M H H) (hx : X.xe = fun _ _ => False) (hc : X.calm = true) (pg : PG X tg gt) (hd : H d = some (.dK kvs)) (h : ∀ od, Ev M (wE X iter) σ (lkd H d od kvs) (Pv (.ref d)))
    (k : ∀ od H1, Gr M (lkd H d od kvs) H1 → ∃ J : Nat → L2.St → Hp → Prop, J 0 σ H1 ∧ (∀ i σ' H', i ≤ kvs.length → J i σ' H' → H' d = some (.frz od (.dK kvs))) ∧
      (∀ (i : Nat) (q : Key) (v : V) σ' H', kvs[i]? = some (q, v) → J i σ' H' → gt (kV q) σ' H' fun σ2 H2 => wB X body ⟨J (i + 1), fun v H' => H' d = some (.frz od (.dK kvs)) ∧ D.rt v (upd H' d (.dK kvs)), fun σ' H' => H' d = some (.frz od (.dK kvs)) ∧ wB X rest D σ' (upd H' d (.dK kvs)), J (i + 1)⟩ σ2 H2) ∧
      ∀ σ' H', J kvs.length σ' H' → wB X rest D σ' (upd H' d (.dK kvs)))
    (hs : ∀ x, foldedSetIterable iter X.env x = pure x := by exact fun _ => rfl) : wB X (.For tg iter body [] pos :: rest) D σ H :=
  of_pss (pss_cons (ps_lock (ps_for (by rw [hx]; exact PassesOwn.never) hc (pi_keys e_pe) pg e_pss hs)) e_pss) ⟨d, .dK kvs, hd, trivial, fun od => h od _ (gr_lockr g hd) _ fun v H1 g1 p1 => by
    obtain rfl : v = .ref d := p1
    obtain ⟨J, h0, hl, hstep, hdone⟩ := k od H1 g1
    have h1 : H1 d = some (.frz od (.dK kvs)) := hl 0 σ H1 (Nat.zero_le _) h0
    refine ⟨d, od, rfl, .inl ⟨kvs, h1, ?_⟩⟩
    refine for_it walk_keys J h0 (fun i σ' H' hi p => hl i σ' H' hi p) (fun i x σ' Ha Hb hi p y => ?_) (fun σ' H' p => ⟨hl _ σ' H' (Nat.le_refl _) p, hdone σ' H' p⟩)
    obtain ⟨rfl, q, v, hq, rfl⟩ := y
    exact hstep i q v σ' _ hq p⟩
/-- enumerate over a list; the body may write -/
theorem bl_forE {gt : TG} {elts : List Expr} {kk : Nat} {tpos p2 : Pos} {l : Addr} {vs : List V} (g : Gr M H H) (hx : X.xe = fun _ _ => False) (hc : X.calm = true) (hm : X.mg "enumerate" = none) (pg : PG X (.Tuple elts kk tpos) gt) (h : Ev M (wE X e) σ H (Pv (.ref l)))
    (k : ∀ H1, Gr M H H1 → ∃ J : Nat → L2.St → Hp → Prop, J 0 σ H1 ∧ (∀ i σ' H', i ≤ vs.length → J i σ' H' → H' l = some (.lst vs)) ∧
      (∀ (i : Nat) (x : V) σ' H' (t : Addr), vs[i]? = some x → J i σ' H' → H' t = none → gt (.ref t) σ' (upd H' t (.tup [.int (i : Int), x])) fun σ2 H2 => wB X body { D with nx := J (i + 1), ct := J (i + 1), bk := wB X rest D } σ2 H2) ∧ ∀ σ' H', J vs.length σ' H' → wB X rest D σ' H')
    (hg : Gl X "enumerate" := by rfl) (he : starEach [e] X.env = [(false, eval e X.env)] := by rfl) (he2 : starEach [e] X.env = (false, eval e X.env) :: starEach [] X.env := by rfl) (hs : ∀ x, foldedSetIterable (.Call (.Name "enumerate" p2) [e] [] p) X.env x = pure x := by exact fun _ => rfl) :
    wB X (.For (.Tuple elts kk tpos) (.Call (.Name "enumerate" p2) [e] [] p) body [] pos :: rest) D σ H :=
  of_pss (pss_cons (ps_for (by rw [hx]; exact PassesOwn.never) hc (pi_enum hg hm (pa_cons e_pe pa_nil he2) he) pg e_pss hs) e_pss) (h H g _ fun v H1 g1 p1 => by
    obtain rfl : v = .ref l := p1
    obtain ⟨J, h0, hl, hstep, hdone⟩ := k H1 g1
    refine ⟨l, vs, rfl, .inl (.inl (hl 0 σ H1 (Nat.zero_le _) h0)), ?_⟩
    refine for_it walk_enum J h0 (fun i σ' H' hi p => .inl (.inl (hl i σ' H' hi p))) (fun i x σ' Ha Hb hi p y => ?_) hdone
    obtain ⟨t, x1, x2, rfl, ht, rfl, e1, e2⟩ := y
    obtain rfl := Option.some.inj e1
    exact hstep i x2 σ' Ha t e2 p ht)
/-- list + list -/
theorem ev_catL (h1 : Ev M (wE X a) σ H (PLm M X.K ds)) (h2 : Ev M (wE X b) σ H (PLm M X.K es)) (hl : ds.length + es.length ≤ 100000) : Ev M (wE X (.BinOp a .Add b pos)) σ H (PL X.K (ds ++ es)) :=
  fun H1 g Q q => of_pe (pe_op op_cat e_pe e_pe) (h1 H1 g _ fun v H2 g2 p => h2 H2 (g.t g2) _ fun u H3 g3 p3 => by
    obtain ⟨t, xs, rfl, mt, hs, ha⟩ := p
    obtain ⟨t', ys, rfl, mt', hs', ha'⟩ := p3
    have g13 := g2.t g3
    refine ⟨t, t', xs, ys, rfl, rfl, g3.k t _ mt hs, hs', sz_of (by rw [ha.length, ha'.length]; exact hl), fun r hr => q _ _ (g13.new hr) ⟨r, xs ++ ys, rfl, g13.back hr, upd_same, ((ha.g g3).app ha').sn hr⟩⟩)
end
end SR
set_option Elab.async false
set_option linter.all false
set_option maxRecDepth 100000
set_option maxHeartbeats 4000000
/-! the law's own: the tree of sources -/
namespace SR
open PySem PySem.Spec PyProof.Rows L2
section
variable {M : Addr → Prop} {X : Cx} {σ : L2.St} {H : Hp} {a b c e : Expr} {pos : Pos}
def P3N {α β γ : Type} (K : PySem.W.Frag) (f : α → PyData) (m : List (Str × α)) (f2 : β → PyData) (m2 : List (Str × β)) (f3 : γ → PyData) (m3 : List (Str × γ)) : PVs := fun vs H1 H2 => ∃ x y z : Addr, vs = [.ref x, .ref y, .ref z] ∧ x ≠ y ∧ x ≠ z ∧ y ≠ z ∧ H1 x = none ∧ H1 y = none ∧ H1 z = none ∧ DW K f H2 x m ∧ DW K f2 H2 y m2 ∧ DW K f3 H2 z m3
theorem DW.some {α : Type} {K : PySem.W.Frag} {f : α → PyData} {x : Addr} {m : List (Str × α)} (h : DW K f H x m) : ∃ o, H x = some o := let ⟨_, e, _⟩ := h; ⟨_, e⟩
theorem ea_dn3 {α β γ : Type} {f : α → PyData} {m : List (Str × α)} {f2 : β → PyData} {m2 : List (Str × β)} {f3 : γ → PyData} {m3 : List (Str × γ)} (h1 : Ev M (wE X a) σ H (PDN X.K f m)) (h2 : Ev M (wE X b) σ H (PDN X.K f2 m2)) (h3 : Ev M (wE X c) σ H (PDN X.K f3 m3))
    (hs : starEach [a, b, c] X.env = (false, eval a X.env) :: starEach [b, c] X.env := by rfl) (hs2 : starEach [b, c] X.env = (false, eval b X.env) :: starEach [c] X.env := by rfl) (hs3 : starEach [c] X.env = (false, eval c X.env) :: starEach [] X.env := by rfl) : EvA M (wA X [a, b, c]) σ H (P3N X.K f m f2 m2 f3 m3) :=
  fun H1 g Q q => of_pa (pa_cons e_pe (pa_cons e_pe (pa_cons e_pe pa_nil hs3) hs2) hs) (h1 H1 g _ fun v H2 g2 ⟨x, ex, x0, wx⟩ => h2 H2 (g.t g2) _ fun u H3 g3 ⟨y, ey, y0, wy⟩ => h3 H3 ((g.t g2).t g3) _ fun w H4 g4 ⟨z, ez, z0, wz⟩ => by
    subst ex
    subst ey
    subst ez
    obtain ⟨o1, e1⟩ := wx.some
    obtain ⟨o2, e2⟩ := wy.some
    obtain ⟨o3, e3⟩ := (wx.g g3).some
    exact q _ _ ((g2.t g3).t g4) ⟨x, y, z, rfl, ne_of_none e1 y0, ne_of_none e3 z0, ne_of_none e2 z0, x0, g2.back y0, (g2.t g3).back z0, (wx.g g3).g g4, wy.g g4, wz⟩)
theorem Runs.asksF {g : Option Sv} {ks : List Mark} (R : Runs g ks) : (if g.isSome = true then (askF ks ks.length).1 else []) = (outs g ks ks.length).aks := by
  cases g with
  | none =>
    rw [(R.inv _ (Nat.le_refl _)).grn (outs_gr _ _ _)]
    rfl
  | some s => exact (R.asked rfl _ (Nat.le_refl _)).1
/-- asked(marks) if ground is not None else {} -/
theorem ev_asksX {g : Option Sv} {ks : List Mark} {l : Addr} {us : List V} {j : Nat} {kk : Nat} {p p2 p3 p4 p5 : Pos} (T : Txt X.w X.K X.mg) (hr : Room j X.A) (hk : 1 ≤ j) (R : Runs g ks) (hg : Ev M (wE X a) σ H (Pd X.K (grD g))) (hm : Ev M (wE X b) σ H (Pv (.ref l))) (hl : ∀ H1, Gr M H H1 → H1 l = some (.lst us)) (hus : DvA X.K H us (ks.map Mark.d))
    (hgl : Gl X "_law_asked" := by rfl) (he : starEach [b] X.env = (false, eval b X.env) :: starEach [] X.env := by rfl) (hpl : (backTo p2 (starEach [] X.env)).any (·.1) = false := by rfl) :
    Ev M (wE X (.IfExp (.Compare a [.IsNot] [.Constant .none kk p4] p3) (.Call (.Name "_law_asked" p) [b] [] p2) (.Dict [] [] p5) pos)) σ H (PDN X.K askD (outs g ks ks.length).aks) := by
  rw [← R.asksF]
  refine ev_ifP (p := (· = g.isSome)) (fun v H0 H1 H2 g0 g1 ⟨x, e, x0, w⟩ => ⟨x, e, g0.back x0, w⟩) (EvT.is (et_notN (n := g.isNone) hg (fun v H1 H2 p => (non_d p).trans (isNon_gr g))) (by cases g <;> rfl)) (fun z => ?_) (fun z => ?_)
  · rw [← z, if_pos rfl]
    exact ev_call (ok_lasked T) hr hk (ea_of hm he) (fun vs H1 H2 g1 g2 ⟨v, e1, e2⟩ Q q => by
      obtain rfl : v = .ref l := e2
      exact ⟨l, us, ks, e1, hl H2 (g1.t g2), hus.g (g1.t g2), Nat.le_trans R.few (by decide), fun r H3 g3 r0 w => q _ _ (g3.up g2.b) ⟨r, rfl, g2.back r0, w⟩⟩) hgl (by decide) he hpl
  · rw [← z, if_neg (by simp)]
    exact ev_dnil
end
theorem symT_keys {a : List (Str × Option Nat)} (nd : (a.map (·.1)).Nodup) : ((symT a).map (·.1)).Nodup := by
  induction a with
  | nil => exact .nil
  | cons q a ih =>
    rw [List.map_cons, List.nodup_cons] at nd
    obtain ⟨m, t⟩ := q
    have ih := ih nd.2
    unfold symT at ih ⊢
    rw [List.filterMap_cons]
    cases t with
    | none => exact ih
    | some l =>
      show (m :: (List.filterMap (fun q : Str × Option Nat => q.2.map fun l => (q.1, (List.range l).map fun i => orgD (.below q.1, i))) a).map (fun q => q.1)).Nodup
      refine List.nodup_cons.mpr ⟨fun h => ?_, ih⟩
      have h1 := get_isSome.mpr h
      have h2 := symT_get nd.2 m
      unfold symT at h2
      rw [h2, get_none nd.1] at h1
      cases h1
theorem Runs.spotTS {g : Option Sv} {ks : List Mark} (R : Runs g ks) (nw : ∀ k ∈ ks, k.news ≤ 10) : ∀ i, i ≤ ks.length → TS (fun _ => True) (spotT g ks i) (27 + i) (996 + 10 * i) := by
  have I := R.inv _ (Nat.le_refl ks.length)
  refine R.bts nw cld_any ⟨symT_keys I.nak, Nat.le_trans (List.length_filterMap_le _ _) R.aks.2, fun q hq => ?_, fun q hq => ?_, fun _ _ => trivial⟩ R.symfit R.sym0 (sym_css ks) (fun _ _ => trivial)
  · obtain ⟨p, hp, e⟩ := List.mem_filterMap.mp hq
    obtain ⟨n, t⟩ := p
    cases t with
    | none => cases e
    | some l =>
      cases e
      show ((List.range l).map _).length ≤ 996
      rw [List.length_map, List.length_range]
      exact I.akb n l (get_of_mem I.nak hp)
  · obtain ⟨p, hp, e⟩ := List.mem_filterMap.mp hq
    obtain ⟨n, t⟩ := p
    cases t with
    | none => cases e
    | some l =>
      cases e
      exact I.nm n (I.ask n (by rw [get_of_mem I.nak hp]; rfl))
theorem touchAll_snoc (t : Tr) : ∀ (ns : List Str) (gn : List (Str × Unit)) (n : Str), touchAll t gn (ns ++ [n]) = touch t (touchAll t gn ns) n
  | [], _, _ => rfl
  | m :: r, gn, n => touchAll_snoc t r (touch t gn m) n
theorem symT_snoc (a : List (Str × Option Nat)) (n : Str) (l : Nat) : symT (a ++ [(n, some l)]) = symT a ++ [(n, (List.range l).map fun i => orgD (.below n, i))] := by
  unfold symT
  rw [List.filterMap_append]
  rfl
theorem symT_snocN (a : List (Str × Option Nat)) (n : Str) : symT (a ++ [(n, none)]) = symT a := by
  unfold symT
  rw [List.filterMap_append]
  show _ ++ [] = _
  rw [List.append_nil]
theorem goneT_snoc (a : List (Str × Option Nat)) (n : Str) : goneT (a ++ [(n, none)]) = goneT a ++ [(n, ())] := by
  unfold goneT
  rw [List.filterMap_append]
  rfl
theorem goneT_snocS (a : List (Str × Option Nat)) (n : Str) (l : Nat) : goneT (a ++ [(n, some l)]) = goneT a := by
  unfold goneT
  rw [List.filterMap_append]
  show _ ++ [] = _
  rw [List.append_nil]
section
variable {P : Program} {w : World} {K : PySem.W.Frag} {mg : Str → Option Value} {base : Heap}
def spSpot (K : PySem.W.Frag) : Sp := fun vs H Q _ => ∃ (v : V) (b : Addr) (us : List V) (g : Option Sv) (ks : List Mark), vs = [v, .ref b] ∧ Dv K H v (grD g) ∧ H b = some (.lst us) ∧ DvA K H us (ks.map Mark.d) ∧ Runs g ks ∧ (∀ k ∈ ks, k.news ≤ 10) ∧
  ∀ (t r l fi : Addr) H', Gr M0 H H' → H' t = some (.tup [.ref r, .ref l, .ref fi]) → DW K tpl H' r (spotT g ks ks.length) → H' l = some (.lst ((srt ((gnsF g ks ks.length).map (·.1))).map V.str)) → Q (.ref t) H'
abbrev nSpot : List Str := ["_law_ground", "_law_marks", "_law_asks", "_law_here", "_law_gone", "_law_name", "_law_at", "_law_first", "_law_mark_here", "_law_index"]
theorem sc_lspot : FnScope nSpot ["_law_ground", "_law_marks"] (defScope st_law_spotted) := ⟨rfl, rfl, rfl, by decide +kernel, rfl, by decide +kernel, by decide +kernel⟩
def spotBody : List Stmt := match (defBody st_law_spotted)[3]? with
  | some (Stmt.For _ _ b _ _) => b
  | _ => []
def spotIn : List Stmt := match spotBody[1]? with
  | some (Stmt.For _ _ b _ _) => b
  | _ => []
def moreD : Mark → List PyData
  | .rename _ m _ => [.str m]
  | _ => []
theorem names_d (k : Mark) : k.names.map PyData.str = [PyData.str k.name] ++ moreD k := by cases k <;> rfl
theorem symC_d {ks : List Mark} {i : Nat} {k : Mark} (h : ks[i]? = some k) : symC ks i = (rngD ((k.news : Int).toNat)).map fun d => PyData.tuple [So.d (.new (svF i)), d] := by
  unfold symC rngD
  rw [newsN_at, h, Int.toNat_natCast, List.map_map]
  rfl
theorem ok_lspot (T : Txt w K mg) : C8.Cal P w K mg base 2 "_law_spotted" (spSpot K) [] := by
  refine fn_ok T 46 rfl sc_lspot (fun _ _ _ _ _ _ us hl => match us, hl with | [_, _], _ => rfl) (fun vs H Q E ⟨_, _, _, _, _, h, _⟩ => by rw [h]; rfl) (fun f cdv A outer s H vs Q E hr ⟨v, b, us, g, ks, hv, hg, hb, hus, R, nw, hQ⟩ => ?_)
  subst hv
  have nd := sc_lspot.nd
  have hu := hu64 hr
  have I := R.inv _ (Nat.le_refl ks.length)
  have ndA := I.nak
  generalize hA : (outs g ks ks.length).aks = A0 at ndA
  have lenA : A0.length ≤ 27 := hA ▸ R.aks.2
  refine bl_par3 (i := 2) (j := 3) (l := 4) (Gr.z H) (ea_dn3 (f := askD) (f2 := tpl) (m2 := []) (f3 := oneD) (m3 := []) (ev_asksX T hr (by decide) R (ev_nm 0 hg) (ev_nmV 1) (fun H1 g => g.k b _ (fun z => z) hb) hus) ev_dnil ev_dnil) (fun vs H1 g1 pa => ?_) rfl nd
  obtain ⟨fa, he, go, rfl, n1, n2, n3, fa0, he0, go0, wfa, whe, wgo⟩ := pa
  refine ⟨_, _, _, rfl, ?_⟩
  rw [hA] at wfa
  obtain ⟨kvs, ha, hk⟩ := wfa
  refine bl_forK (gt := gName 5) (d := fa) (kvs := kvs) g1.r rfl rfl (pg_name nd rfl (Or.inr rfl)) ha (fun od => ev_nmV 2) (fun od H2 g2 => ?_)
  have gL : Gr M0 H (lkd H1 fa od kvs) := g1.mut fa0
  refine ⟨fun i σ' H' => ∃ (o5 : Option V), σ' = [some v, some (.ref b), some (.ref fa), some (.ref he), some (.ref go), o5, none, none, none, none] ∧ Gr M0 H H' ∧ H' fa = some (.frz od (.dK kvs)) ∧ KD K askD H' kvs A0 ∧ DW K tpl H' he (symT (A0.take i)) ∧ DW K oneD H' go (goneT (A0.take i)), ?_, fun i σ' H' _ ⟨_, _, _, h, _⟩ => h, ?_, ?_⟩
  · exact ⟨none, rfl, gL.t g2, g2.k fa _ (fun z => z) lk_same, (hk.lk ha).g g2, (whe.lk n1.symm ha).g g2, (wgo.lk n2.symm ha).g g2⟩
  · rintro i q x σ' H' hq ⟨o5, rfl, G, hfz, hkd, hhe, hgo⟩
    have hi : i < A0.length := by
      rw [← hkd.length]
      exact (List.getElem?_eq_some_iff.mp hq).1
    obtain ⟨z, hz⟩ : ∃ z, A0[i]? = some z := ⟨_, List.getElem?_eq_getElem hi⟩
    obtain ⟨v', e1, hv'⟩ := hkd.at hz
    rw [hq] at e1
    cases e1
    obtain ⟨n, t⟩ := z
    refine gt_name ?_
    show wB _ _ _ [some v, some (.ref b), some (.ref fa), some (.ref he), some (.ref go), some (.str n), none, none, none, none] H'
    have hdr : DR K askD H' fa A0 := ⟨kvs, .inr ⟨od, hfz⟩, hkd⟩
    have hget : trGet A0 n = some t := get_of_mem (q := (n, t)) ndA (List.mem_of_getElem? hz)
    have ndt : ((A0.take i).map (·.1)).Nodup := (List.Sublist.map _ (List.take_sublist _ _)).nodup ndA
    have hnot : trGet (A0.take i) n = none := by
      refine get_none fun hm => ?_
      have e3 : A0.map (·.1) = (A0.take i).map (·.1) ++ (A0.drop i).map (·.1) := by rw [← List.map_append, List.take_append_drop]
      rw [e3, List.nodup_append] at ndA
      have hd : n ∈ (A0.drop i).map (·.1) := by
        rw [List.drop_eq_getElem_cons hi]
        refine List.mem_map.mpr ⟨_, List.mem_cons_self, ?_⟩
        rw [List.getElem?_eq_getElem hi] at hz
        rw [Option.some.inj hz]
      exact ndA.2.2 n hm n hd rfl
    have nhg : trGet (goneT (A0.take i)) n = none := by
      cases e : trGet (goneT (A0.take i)) n with
      | none => rfl
      | some x =>
        have := (goneT_get ndt n).mp (by rw [e]; rfl)
        rw [hnot] at this
        cases this
    have nhs : trGet (symT (A0.take i)) n = none := by
      rw [symT_get ndt, hnot]
      rfl
    have hnfa : H' fa ≠ none := by rw [hfz]; exact fun z => nomatch z
    refine bl_if (Gr.z H') (et_isN (n := t.isNone) (ev_dget (f := askD) hu (ev_nmDR 2 hdr) (ev_nm 5 (.str n)) hget) (fun v H1 H2 p => (non_d p).trans (isNon_ask t))) (fun c H3 g3 => ?_) (fun c H3 g3 => ?_)
    · cases t with
      | some l => exact nt c.symm
      | none =>
        refine bl_dput (b := ()) (f := oneD) g3.r hu (ev_nmV 4) (hgo.g g3) ?_ (ev_nm 5 (.str n)) ev_bl (fun H4 H5 g4 dm wd => bl_nil (bl_nil ⟨_, rfl, dm.gr ((G.t g3).t g4) go0, ?_, ?_, ?_, ?_⟩))
        · have := List.length_filterMap_le (fun q : Str × Option Nat => if q.2 = none then some (q.1, ()) else none) (A0.take i)
          have h3 : (A0.take i).length ≤ A0.length := List.length_take_le' _ _
          show (List.filterMap _ _).length < _
          omega
        · rw [dm.ne n2]
          exact (g3.t g4).k fa _ (fun z => z) hfz
        · exact ((hkd.g g3).g g4).imp fun v d z => dm.dv z
        · rw [take_snoc hz, symT_snocN]
          exact dm.dw n3 ((hhe.g g3).g g4)
        · rw [take_snoc hz, goneT_snoc]
          rw [trPut_none nhg] at wd
          exact wd
    · cases t with
      | none => exact nf c.symm
      | some l =>
        have hll : l ≤ 996 := I.akb n l (by rw [hA]; exact hget)
        refine bl_dput (b := (List.range l).map fun i => orgD (.below n, i)) (f := tpl) g3.r hu (ev_nmV 3) (hhe.g g3) ?_ (ev_nm 5 (.str n)) ?_ (fun H4 H5 g4 dm wd => bl_nil (bl_nil ⟨_, rfl, dm.gr ((G.t g3).t g4) he0, ?_, ?_, ?_, ?_⟩))
        · have := List.length_filterMap_le (fun q : Str × Option Nat => q.2.map fun l => (q.1, (List.range l).map fun i => orgD (.below q.1, i))) (A0.take i)
          have h3 : (A0.take i).length ≤ A0.length := List.length_take_le' _ _
          show (List.filterMap _ _).length < _
          omega
        · refine ev_tupL T.f_tuple (Ev.ld ?_)
          have e : ((List.range l).map fun i => orgD (.below n, i)) = (rngD ((l : Int).toNat)).map fun d => PyData.tuple [So.d (.below n), d] := by
            unfold rngD
            rw [Int.toNat_natCast, List.map_map]
            rfl
          rw [e]
          refine ev_lcF (own := [("_law_at", 6)]) (gt := gName 6) (fun d => PyData.tuple [So.d (.below n), d]) rfl nd (blkOk_by (sc := defScope st_law_spotted) (N := nSpot) (by decide +kernel)) (ei_rng (n := (l : Int)) (by omega) (by omega) T.f_range (ev_dget (f := askD) hu (ev_nmDR 2 (hdr.g g3)) (ev_nm 5 (.str n)) hget)) (by rw [rngD_len]; omega) (fun _ _ _ _ _ => pg_name nd rfl (Or.inl rfl)) (fun i d x H2 e g hx Q q => gt_name (q _ rfl fun s H0 C cl fp => ?_))
          exact ev_tup (ea_cons (ev_tup (ea_cons ev_str (ea_cons (ev_nm 5 (.str n)) ea_nil)) (by simp)) (ea_cons (ev_nm 6 hx) ea_nil)) (by simp)
        · rw [dm.ne n1]
          exact (g3.t g4).k fa _ (fun z => z) hfz
        · exact ((hkd.g g3).g g4).imp fun v d z => dm.dv z
        · rw [take_snoc hz, symT_snoc]
          rw [trPut_none nhs] at wd
          exact wd
        · rw [take_snoc hz, goneT_snocS]
          exact dm.dw n3.symm ((hgo.g g3).g g4)
  · rintro σ' H' ⟨o5, rfl, G, hfz, hkd, hhe, hgo⟩
    rw [hkd.length, List.take_length] at hhe hgo
    have G3 : Gr M0 H (upd H' fa (.dK kvs)) := G.mut fa0
    have hhe3 : DW K tpl (upd H' fa (.dK kvs)) he (symT A0) := by
      obtain ⟨kv, z1, z2⟩ := hhe
      exact ⟨kv, by rw [upd_ne n1.symm]; exact z1, z2.imp fun v d z => z.ul hfz⟩
    have hgo3 : DW K oneD (upd H' fa (.dK kvs)) go (goneT A0) := by
      obtain ⟨kv, z1, z2⟩ := hgo
      exact ⟨kv, by rw [upd_ne n2.symm]; exact z1, z2.imp fun v d z => z.ul hfz⟩
    generalize upd H' fa (.dK kvs) = H3 at G3 hhe3 hgo3
    refine bl_set (i := 7) (Gr.z H3) (P := PDN K tpl (symT A0)) (ev_dictItems rfl T.f_list T.f_dict (symT_keys ndA) ((ev_nmV 3).imp fun v H1 H2 g1 g2 e => ⟨he, e, hhe3.g (g1.t g2)⟩)) (fun y H4 g4 py => ?_) nd
    obtain ⟨fi, rfl, fi0, wfi⟩ := py
    have G4 := G3.t g4
    refine bl_forE (gt := gTup K 2 (gCons (gName 6) (gCons (gName 8) gNil))) (l := b) (vs := us) (Gr.z H4) rfl rfl T.f_enumerate (pg_tup rfl (pgs_cons (pg_name nd rfl (Or.inr rfl)) (pgs_cons (pg_name nd rfl (Or.inl rfl)) pgs_nil))) (ev_nmV 1) (fun H5 g5 => ?_)
    refine ⟨fun i σ' H' => ∃ (o5 o6 o8 : Option V) (r : Addr), σ' = [some v, some (.ref b), some (.ref fa), some (.ref r), some (.ref go), o5, o6, some (.ref fi), o8, none] ∧ Gr M0 H H' ∧ DW K tpl H' r (spotT g ks i) ∧ DW K oneD H' go (gnsF g ks i) ∧ r ≠ go, ?_, fun i σ' H' _ ⟨_, _, _, _, _, g, _⟩ => g.k b _ (fun z => z) hb, ?_, ?_⟩
    · refine ⟨_, none, none, he, rfl, G4.t g5, ?_, ?_, n3⟩
      · show DW K tpl H5 he (symT (outs g ks ks.length).aks)
        rw [hA]
        exact (hhe3.g g4).g g5
      · show DW K oneD H5 go (goneT (outs g ks ks.length).aks)
        rw [hA]
        exact (hgo3.g g4).g g5
    · rintro i x σ' H' t hx0 ⟨o5, o6, o8, r, rfl, G, hr0, hgo0, nrg⟩ ht
      obtain ⟨d, hd, hx⟩ := hus.get' hx0
      obtain ⟨k, hk2, rfl⟩ := mark_at hd
      have hi : i < ks.length := (List.getElem?_eq_some_iff.mp hk2).1
      have ko := R.kok k (List.mem_of_getElem? hk2)
      have hnw := nw k (List.mem_of_getElem? hk2)
      have G6 : Gr M0 H (upd H' t (.tup [.int (i : Int), x])) := G.new ht
      have hx6 : Dv K (upd H' t (.tup [.int (i : Int), x])) x k.d := (hx.g G).sn ht
      have gt6 : Gr M0 H' (upd H' t (.tup [.int (i : Int), x])) := (Gr.z H').new ht
      have hr6 := hr0.g gt6
      have hgo6 := hgo0.g gt6
      have htt : Dv K (upd H' t (.tup [.int (i : Int), x])) (.ref t) (.tuple [.int (i : Int), k.d]) := Dv.tupN (.cons (.int _) (.cons hx6 .nil)) upd_same
      refine gt_2 htt fun v1 v2 k1 k2 => ?_
      obtain rfl := dv_int k1
      generalize upd H' t (.tup [.int (i : Int), x]) = H6 at G6 hr6 hgo6 k2
      obtain ⟨sp1, sp2⟩ := (R.spot (i + 1) (by omega)).2 i k (symC ks i) (by omega) hk2 (symCss_at hi)
      have tk := (R.spotTS nw i (by omega))
      have cl : (deedBy k (symC ks i)).cells.length ≤ 10000 := by
        have := deed_cells k (symC ks i)
        rw [symC_len hk2] at this
        omega
      refine bl_set (i := 3) (Gr.z H6) (P := PDN K tpl (spotT g ks (i + 1))) (ev_call (ok_ldone T) hr (by decide) (eg_cons (P := Pv (.ref r)) (Ps := [Pd K (deedBy k (symC ks i)).d]) stb_v (fun P hP => by cases List.mem_singleton.mp hP; exact stb_d) (ev_nmV 3) (eg_cons stb_d (fun P hP => by cases hP) (ev_callD (ok_ldby T) hr (by decide) (k, symC ks i) trivial (ea_cons (ev_nm 8 k2) (ea_cons (ev_tupL T.f_tuple (Ev.ld ?_)) ea_nil))) eg_nil)) (fun vs H7 H8 g7 g8 pa Q q => ?_)) (fun y H7 g7 py => ?_) nd
      · rw [symC_d hk2]
        refine ev_lcF (own := [("_law_index", 9)]) (gt := gName 9) (fun d => PyData.tuple [So.d (.new (svF i)), d]) rfl nd (blkOk_by (sc := defScope st_law_spotted) (N := nSpot) (by decide +kernel)) (ei_rng (n := (k.news : Int)) (by omega) (by omega) T.f_range (ev_callD (ok_llen T) hr (by decide) k trivial (ea_cons (ev_nm 8 k2) ea_nil))) (by rw [rngD_len]; omega) (fun _ _ _ _ _ => pg_name nd rfl (Or.inl rfl)) (fun i d x H2 e g hx Q q => gt_name (q _ rfl fun s H0 C cl fp => ?_))
        exact ev_tup (ea_cons (ev_tup (ea_cons ev_str (ea_cons (ev_callD (ok_lsave T) hr (by decide) _ trivial (ea_cons (ev_nm 6 (.int _)) ea_nil)) ea_nil)) (by simp)) (ea_cons (ev_nm 9 hx) ea_nil)) (by simp)
      · obtain ⟨w1, _, rfl, e1, w2, _, rfl, e2, rfl⟩ := pa
        obtain rfl : w1 = .ref r := e1
        have gg := g7.t g8
        exact ⟨r, w2, spotT g ks i, deedBy k (symC ks i), rfl, hr6.g gg, e2, tk.nd, by have := tk.few; have := R.few; omega, fun q hq => Nat.le_trans (tk.len q hq) (by have := R.few; omega), cl, by
          rw [sp1]
          exact fun r2 H9 g9 hr0 hw => q _ _ g9 ⟨r2, rfl, g8.back hr0, hw⟩⟩
      obtain ⟨r2, rfl, r20, hr7⟩ := py
      have G7 := G6.t g7
      have hgo7 := hgo6.g g7
      have k27 := k2.g g7
      have nr2 : r2 ≠ go := by
        obtain ⟨o, e⟩ := hgo6.some
        exact (ne_of_none e r20).symm
      obtain ⟨gn1, gn2, _⟩ := R.gns i (by omega)
      refine bl_forL (gt := gName 5) (P := PL K (k.names.map PyData.str)) (Gr.z H7) rfl rfl (pg_name nd rfl (Or.inr rfl)) ?_ (fun v H8 g8 pv => ?_)
      · rw [names_d]
        refine ev_catL (Ev.lm (ev_lst (ds := [PyData.str k.name]) (ea_cons (ev_sub1 (ev_nm 8 k27) _) ea_nil) (by simp))) (Ev.lm (ev_ifP (P := PL K (moreD k)) (p := (· = decide (k.kind = "rename"))) (fun v H0 H1 H2 g0 g1 ⟨l, xs, e, l0, h1, h2⟩ => ⟨l, xs, e, g0.back l0, h1, h2⟩) (et_eqS (ev_sub0 (ev_nm 8 k27) _) ev_str) (fun z => ?_) (fun z => ?_))) (by cases k <;> simp [moreD])
        · cases k with
          | put n q => exact nf (z.trans kd_put_rename)
          | patch n q u q2 h' => exact nf (z.trans kd_patch_rename)
          | drop n h' => exact nf (z.trans kd_drop_rename)
          | rename n m h' => exact ev_lst (ds := [PyData.str m]) (ea_cons (ev_ix (ev_nm 8 k27) ev_int rfl) ea_nil) (by simp)
        · cases k with
          | put n q => exact ev_lst (ds := []) ea_nil (by simp)
          | patch n q u q2 h' => exact ev_lst (ds := []) ea_nil (by simp)
          | drop n h' => exact ev_lst (ds := []) ea_nil (by simp)
          | rename n m h' => exact nt (z.trans kd_rename_rename)
      · obtain ⟨l, xs, rfl, l0, hl8, hxs⟩ := pv
        obtain rfl := dvA_strs hxs
        have nlen : k.names.length ≤ 2 := by
          cases k with
          | put n l => exact Nat.le_succ 1
          | patch n i u l h => exact Nat.le_succ 1
          | drop n h => exact Nat.le_succ 1
          | rename n m h => exact Nat.le_refl 2
        refine ⟨l, _, rfl, fun j σ' H' => ∃ (o5 : Option V), σ' = [some v, some (.ref b), some (.ref fa), some (.ref r2), some (.ref go), o5, some (.int (i : Int)), some (.ref fi), some v2, none] ∧ Gr M0 H H' ∧ H' l = some (.lst (k.names.map V.str)) ∧ DW K tpl H' r2 (spotT g ks (i + 1)) ∧ DW K oneD H' go (touchAll (spotT g ks (i + 1)) (gnsF g ks i) (k.names.take j)), ?_, fun j σ' H' _ ⟨_, _, _, h, _⟩ => .inl (.inl h), ?_, ?_⟩
        · exact ⟨_, rfl, G7.t g8, hl8, hr7.g g8, hgo7.g g8⟩
        · rintro j x' σ' H9 hx9 ⟨o5, rfl, G9, hl9, hr9, hgo9⟩
          rw [List.getElem?_map] at hx9
          obtain ⟨n, hn, rfl⟩ := Option.map_eq_some_iff.mp hx9
          have nlg : l ≠ go := by
            intro z
            obtain ⟨kv, z1, _⟩ := hgo9
            rw [← z, hl9] at z1
            cases z1
          refine gt_name ?_
          show wB _ _ _ [some v, some (.ref b), some (.ref fa), some (.ref r2), some (.ref go), some (.str n), some (.int (i : Int)), some (.ref fi), some v2, none] H9
          have lenT := touchAll_len (t := spotT g ks (i + 1)) (ns := k.names.take j) (gn := gnsF g ks i)
          have lenTk : (k.names.take j).length ≤ k.names.length := List.length_take_le' _ _
          have fewk := R.few
          have et : touchAll (spotT g ks (i + 1)) (gnsF g ks i) (k.names.take (j + 1)) = touch (spotT g ks (i + 1)) (touchAll (spotT g ks (i + 1)) (gnsF g ks i) (k.names.take j)) n := by
            rw [take_snoc hn, touchAll_snoc]
          generalize touchAll (spotT g ks (i + 1)) (gnsF g ks i) (k.names.take j) = gn at hgo9 lenT et
          have tl : ∀ (D : Ends) H5, Gr M0 H H5 → H5 l = some (.lst (k.names.map V.str)) → DW K tpl H5 r2 (spotT g ks (i + 1)) → DW K oneD H5 go (trDrop gn n) →
              (∀ H6, Gr M0 H H6 → H6 l = some (.lst (k.names.map V.str)) → DW K tpl H6 r2 (spotT g ks (i + 1)) → DW K oneD H6 go (touch (spotT g ks (i + 1)) gn n) → D.nx [some v, some (.ref b), some (.ref fa), some (.ref r2), some (.ref go), some (.str n), some (.int (i : Int)), some (.ref fi), some v2, none] H6) →
              wB (cX P w K mg base nSpot "_law_spotted" st_law_spotted f cdv A outer s H E) (spotIn.drop 1) D [some v, some (.ref b), some (.ref fa), some (.ref r2), some (.ref go), some (.str n), some (.int (i : Int)), some (.ref fi), some v2, none] H5 := by
            intro D H5 G5 hl5 hr5 hgo5 fin
            refine bl_when (Gr.z H5) (et_dni (f := tpl) hu (ev_nm 5 (.str n)) (ev_nmDR 3 hr5.r)) (fun c H6 g6 => ?_) (fun c H6 g6 => ?_)
            · have c0 : (trGet (spotT g ks (i + 1)) n).isSome = false := by
                cases h : (trGet (spotT g ks (i + 1)) n).isSome with
                | false => rfl
                | true => rw [h] at c; cases c
              refine bl_dput (b := ()) (f := oneD) g6.r hu (ev_nmV 4) (hgo5.g g6) (Nat.lt_of_le_of_lt (drop_len _ _) (by omega)) (ev_nm 5 (.str n)) ev_bl (fun H7 H8 g7 dm wd => bl_nil (bl_nil (fin H8 (dm.gr ((G5.t g6).t g7) go0) ?_ ?_ ?_)))
              · rw [dm.ne nlg]
                exact (g6.t g7).k l _ (fun z => z) hl5
              · exact dm.dw nr2 ((hr5.g g6).g g7)
              · unfold touch
                rw [c0, if_neg (by simp)]
                exact wd
            · have c0 : (trGet (spotT g ks (i + 1)) n).isSome = true := by
                cases h : (trGet (spotT g ks (i + 1)) n).isSome with
                | true => rfl
                | false => rw [h] at c; cases c
              refine bl_nil (fin H6 (G5.t g6) (g6.k l _ (fun z => z) hl5) (hr5.g g6) ?_)
              unfold touch
              rw [c0, if_pos rfl]
              exact hgo5.g g6
          refine bl_dpopE (f := oneD) (Gr.z H9) (ev_nmV 4) hgo9 (ev_nm 5 (.str n)) ev_non (fun H10 H11 g10 dm wd => ?_) (fun H10 g10 en => ?_)
          · refine tl _ H11 (dm.gr (G9.t g10) go0) ?_ (dm.dw nr2 (hr9.g g10)) wd (fun H12 G12 a1 a2 a3 => ⟨_, rfl, G12, a1, a2, ?_⟩)
            · rw [dm.ne nlg]
              exact g10.k l _ (fun z => z) hl9
            · rw [et]
              exact a3
          · refine tl _ H10 (G9.t g10) (g10.k l _ (fun z => z) hl9) (hr9.g g10) ?_ (fun H12 G12 a1 a2 a3 => ⟨_, rfl, G12, a1, a2, ?_⟩)
            · rw [trDrop_none en]
              exact hgo9.g g10
            · rw [et]
              exact a3
        · rintro σ' H9 ⟨o5, rfl, G9, hl9, hr9, hgo9⟩
          rw [List.length_map, List.take_length] at hgo9
          refine bl_nil ⟨_, _, _, r2, rfl, G9, hr9, ?_, nr2⟩
          rw [gns_step hk2]
          exact hgo9
    · rintro σ' H' ⟨o5, o6, o8, r, rfl, G, hr0, hgo0, nrg⟩
      rw [hus.length, List.length_map] at hr0 hgo0
      obtain ⟨gn1, gn2, _⟩ := R.gns ks.length (Nat.le_refl _)
      have few := R.few
      refine bl_ret (Gr.z H') (P := PTup [Pv (.ref r), PL K ((srt ((gnsF g ks ks.length).map (·.1))).map .str), Pv (.ref fi)]) (ev_tupG (eg_cons stb_v (fun P hP => ?_) (ev_nmV 3) (eg_cons stb_l (fun P hP => by cases List.mem_singleton.mp hP; exact stb_v) (ev_sortD (f := oneD) rfl T.f_sorted (by omega) (ev_nmDR 4 hgo0.r)) (eg_cons stb_v (fun P hP => by cases hP) (ev_nmV 7) eg_nil))) (by simp) (fun vs H1 H2 h => PvA_len h)) (fun x H9 g9 px => ?_)
      · rcases List.mem_cons.mp hP with rfl | hP
        · exact stb_l
        · cases List.mem_singleton.mp hP
          exact stb_v
      · obtain ⟨t, vs, Hm, rfl, ht0, ht2, htm, pv, hup⟩ := px
        obtain ⟨a1, w1, rfl, e1, a2, w2, rfl, e2, a3, w3, rfl, e3, rfl⟩ := pv
        obtain rfl : a1 = .ref r := e1
        obtain rfl : a3 = .ref fi := e3
        obtain ⟨l, xs, rfl, l0, hl, hxs⟩ := e2
        obtain rfl := dvA_strs hxs
        refine hQ t r l fi H9 (G.t g9) ht2 (hr0.g g9) ?_
        rw [hup, upd_ne (ne_of_none hl htm)]
        exact hl
end
end SR
set_option Elab.async false
set_option linter.all false
set_option maxRecDepth 100000
set_option maxHeartbeats 4000000
/-! the law's own: the outline behind marks -/
namespace SR
open PySem PySem.Spec PyProof.Rows L2
theorem mem_behind : (("behind" : Str), ("Outline.behind" : Str), sm_behind) ∈ mdefs := by unfold mdefs; simp
theorem OuNew.back {M : Addr → Prop} {H H' : Hp} {q : OA} (n : OuNew H' q) (g : Gr M H H') : OuNew H q := ⟨g.back n.a, g.back n.dx, g.back n.da, g.back n.de, g.back n.dg⟩
section
variable {M : Addr → Prop} {X : Cx} {σ : L2.St} {H : Hp} {o a b : Expr} {pos apos : Pos}
/-- o.behind(save, mark) -/
theorem ev_behind {q : OA} {u : Ou} {sv : Sv} {k : Mark} {j : Nat} (T : Txt X.w X.K X.mg) (hr : Room j X.A) (hk : 9 ≤ j) (hq : OuAt X.K H q u) (sok : saveOk sv) (ko : k.ok) (lk : LedOk u sv k) (ho : Ev M (wE X o) σ H (Pv (.ref q.a))) (h1 : Ev M (wE X a) σ H (Pd X.K (saveD sv))) (h2 : Ev M (wE X b) σ H (Pd X.K k.d))
    (he : starEach [a, b] X.env = (false, eval a X.env) :: starEach [b] X.env := by rfl) (he2 : starEach [b] X.env = (false, eval b X.env) :: starEach [] X.env := by rfl) (hpl : (backTo pos (starEach [b] X.env)).any (·.1) = false := by rfl) (pl : Sem Bool)
    (ht : eval (.Call (.Attribute o "behind" apos) [a, b] [] pos) X.env = (do
      let ov ← eval o X.env
      standAt apos.atName
      let (f, first) ← holding [ov] (getMethod ov "behind" pl)
      callWith pos f first (backTo pos (starEach [a, b] X.env)) (backToKw pos (keywordEach [] X.env))) := by rfl) : Ev M (wE X (.Call (.Attribute o "behind" apos) [a, b] [] pos)) σ H (PON X.K (ledO u sv k)) :=
  ev_meth T (ok_behind T) (T.meth mem_behind) hr hk ho hq.sl (ea_cons h1 (ea_cons h2 ea_nil he2) he) (fun ws H0 H1 H2 g0 g1 g2 pw Q qq => by
    obtain ⟨y1, y2, rfl, hy1, hy2⟩ := dvA2 pw
    exact ⟨q, u, sv, k, y1, y2, rfl, hq.g ((g0.t g1).t g2), hy1, hy2, sok, ko, lk, fun r H3 g3 n3 o3 => qq _ H3 (g3.up g2.b) ⟨r, rfl, n3.back (g1.t g2), o3⟩⟩) he hpl pl ht
end
section
variable {P : Program} {w : World} {K : PySem.W.Frag} {mg : Str → Option Value} {base : Heap}
def spOl (K : PySem.W.Frag) : Sp := fun vs H Q _ => ∃ (v : V) (b : Addr) (us : List V) (g : Option Sv) (ks : List Mark), vs = [v, .ref b] ∧ Dv K H v (grD g) ∧ H b = some (.lst us) ∧ DvA K H us (ks.map Mark.d) ∧ Runs g ks ∧
  ∀ (q : OA) H', Gr M0 H H' → OuNew H q → OuAt K H' q (outs g ks ks.length) → Q (.ref q.a) H'
abbrev nLol : List Str := ["_law_ground", "_law_marks", "_law_found", "_law_at", "_law_mark_here"]
theorem sc_lol : FnScope nLol ["_law_ground", "_law_marks"] (defScope st_law_outline) := ⟨rfl, rfl, rfl, by decide +kernel, rfl, by decide +kernel, by decide +kernel⟩
theorem ok_lol (T : Txt w K mg) : C8.Cal P w K mg base 10 "_law_outline" (spOl K) [] := by
  refine fn_ok T 47 rfl sc_lol (fun _ _ _ _ _ _ us hl => match us, hl with | [_, _], _ => rfl) (fun vs H Q E ⟨_, _, _, _, _, h, _⟩ => by rw [h]; rfl) (fun f cdv A outer s H vs Q E hr ⟨v, b, us, g, ks, hv, hg, hb, hus, R, hQ⟩ => ?_)
  subst hv
  have nd := sc_lol.nd
  refine bl_set (i := 2) (Gr.z H) (P := PON K (ouN g)) (ev_make T hr (by decide) R.gok (ev_nm 0 hg)) (fun y H1 g1 py => ?_) nd
  obtain ⟨p, rfl, pn, po⟩ := py
  have hb1 : H1 b = some (.lst us) := g1.k b _ (fun z => z) hb
  refine bl_forI (gt := gTup K 2 (gCons (gName 3) (gCons (gName 4) gNil))) g1.r rfl rfl (pg_tup rfl (pgs_cons (pg_name nd rfl (Or.inl rfl)) (pgs_cons (pg_name nd rfl (Or.inl rfl)) pgs_nil))) (ei_enum T.f_enumerate (ev_nmLm 1 hb1 (fun z => z) (hus.g g1))) (fun H2 g2 => ?_)
  refine ⟨fun i σ' H' => ∃ (q : OA) (o3 o4 : Option V), σ' = [some v, some (.ref b), some (.ref q.a), o3, o4] ∧ Gr M0 H2 H' ∧ OuAt K H' q (outs g ks i) ∧ OuNew H q, ⟨p, none, none, rfl, g2.r, po.g g2, pn⟩, fun i σ' H' ⟨_, _, _, _, g, _⟩ => g, ?_, ?_⟩
  · rintro i d x σ' H0 H' hd ⟨q, o3, o4, rfl, G, hq, hn⟩ G2 hx
    have hi : i < (enD (ks.map Mark.d)).length := (List.getElem?_eq_some_iff.mp hd).1
    rw [enD_len, List.length_map] at hi
    obtain ⟨k, hk⟩ : ∃ k, ks[i]? = some k := ⟨_, List.getElem?_eq_getElem hi⟩
    rw [enD_get (d := k.d) (by rw [List.getElem?_map, hk]; rfl)] at hd
    cases hd
    refine gt_2 hx fun v1 v2 k1 k2 => ?_
    obtain rfl := dv_int k1
    have few := R.few
    refine bl_set (i := 2) (Gr.z H') (P := PON K (ledO (outs g ks i) (svF i) k)) (ev_behind T hr (by decide) (hq.g G2) (sv_ok (by omega)) (R.kok k (List.mem_of_getElem? hk)) (R.led hk) (ev_nmV 2) (ev_callD (ok_lsave T) hr (by decide) i trivial (ea_cons (ev_nm 3 (.int _)) ea_nil)) (ev_nm 4 k2) rfl rfl rfl _) (fun y H3 g3 py => ?_) nd
    obtain ⟨r, rfl, rn, ro⟩ := py
    refine bl_nil ⟨r, _, _, rfl, (G.t G2).t g3, ?_, rn.back (((g1.t g2).t G).t G2)⟩
    rw [outs_step hk]
    exact ro
  · rintro σ' H' ⟨q, o3, o4, rfl, G, hq, hn⟩
    rw [enD_len, List.length_map] at hq
    exact bl_ret (Gr.z H') (P := Pv (.ref q.a)) (ev_nmV 2) (fun v H5 g5 e => by
      obtain rfl : v = .ref q.a := e
      exact hQ q H5 (((g1.t g2).t G).t g5) hn (hq.g g5))
end
end SR
set_option Elab.async false
set_option linter.all false
set_option maxRecDepth 100000
set_option maxHeartbeats 4000000
/-! the law's own: whether an outline is what the marks make of it -/
namespace SR
open PySem PySem.Spec PyProof.Rows L2
theorem eqvAll_refl {ds : List PyData} (h : ∀ d ∈ ds, PyData.eqv d d = true) : PyData.eqvAll ds ds = true := by
  induction ds with
  | nil => rfl
  | cons d ds ih =>
    simp only [PyData.eqvAll]
    rw [h d List.mem_cons_self, ih fun e he => h e (List.mem_cons_of_mem _ he)]
    rfl
theorem eqv_tupR {ds : List PyData} (h : ∀ d ∈ ds, PyData.eqv d d = true) : PyData.eqv (.tuple ds) (.tuple ds) = true := by
  simp only [PyData.eqv]
  exact eqvAll_refl h
theorem eqv_lstR {ds : List PyData} (h : ∀ d ∈ ds, PyData.eqv d d = true) : PyData.eqv (.list ds) (.list ds) = true := by
  simp only [PyData.eqv]
  exact eqvAll_refl h
theorem eqv_strR (x : Str) : PyData.eqv (.str x) (.str x) = true := by
  rw [eqv_str]
  exact decide_eq_true rfl
theorem eqv_intR (x : Int) : PyData.eqv (.int x) (.int x) = true := by
  rw [eqv_int]
  exact decide_eq_true rfl
theorem eqv_saveR (s : Sv) : PyData.eqv (saveD s) (saveD s) = true := eqv_tupR fun d hd => by
  rcases List.mem_cons.mp hd with rfl | hd
  · exact eqv_intR _
  · cases List.mem_singleton.mp hd
    exact eqv_intR _
theorem eqv_grR (g : Option Sv) : PyData.eqv (grD g) (grD g) = true := by
  cases g with
  | none => rfl
  | some s => exact eqv_saveR s
theorem eqv_strsR (zs : List Str) : ∀ d ∈ zs.map PyData.str, PyData.eqv d d = true := fun d hd => by
  obtain ⟨z, _, rfl⟩ := List.mem_map.mp hd
  exact eqv_strR z
theorem eqv_orgR (q : So × Nat) : PyData.eqv (orgD q) (orgD q) = true := eqv_tupR fun d hd => by
  rcases List.mem_cons.mp hd with rfl | hd
  · rw [eqv_so]
    exact decide_eq_true rfl
  · cases List.mem_singleton.mp hd
    exact eqv_intR _
theorem eqv_pcR (p : Pc) : PyData.eqv p.d p.d = true := eqv_tupR fun d hd => by
  rcases List.mem_cons.mp hd with rfl | hd
  · rw [eqv_so]
    exact decide_eq_true rfl
  · rcases List.mem_cons.mp hd with rfl | hd
    · exact eqv_intR _
    · cases List.mem_singleton.mp hd
      exact eqv_intR _
theorem eqv_rowR (r : List Pc) : PyData.eqv (rowD r) (rowD r) = true := eqv_tupR fun d hd => by
  obtain ⟨p, _, rfl⟩ := List.mem_map.mp hd
  exact eqv_pcR p
/-! shapes -/
theorem shaped_of {d : PyData} (h : d.canLay0 = true) (k : d.depth ≤ 9) : SeqAt.shaped d = true := by
  unfold SeqAt.shaped
  rw [h, decide_eq_true (Nat.le_trans k (by decide))]
  rfl
theorem shaped_tup {ds : List PyData} (h : ∀ d ∈ ds, Gd d) : SeqAt.shaped (.tuple ds) = true := shaped_of (lay_tup fun d hd => (h d hd).c) (dep_tup (n := 8) fun d hd => (h d hd).h)
theorem shaped_lst {ds : List PyData} (h : ∀ d ∈ ds, Gd d) : SeqAt.shaped (.list ds) = true := shaped_of (by rw [PyData.canLay0]; exact layAll fun d hd => (h d hd).c) (by rw [PyData.depth]; have := depAll fun d hd => (h d hd).h; omega)
theorem gd_org {q : So × Nat} (h : q.1.ok) : Gd (orgD q) := by
  have h1 := So.lay h
  refine ⟨lay_tup fun d hd => ?_, Nat.le_trans (dep_tup (n := 2) fun d hd => ?_) (by decide)⟩
  · rcases List.mem_cons.mp hd with rfl | hd
    · exact h1.1
    · cases List.mem_singleton.mp hd
      exact (gd_int _).c
  · rcases List.mem_cons.mp hd with rfl | hd
    · exact h1.2
    · cases List.mem_singleton.mp hd
      simp [PyData.depth]
theorem shaped_row {r : List Pc} (h : ∀ p ∈ r, p.ok) : SeqAt.shaped (rowD r) = true := shaped_tup fun d hd => by
  obtain ⟨p, hp, rfl⟩ := List.mem_map.mp hd
  exact Pc.gd (h p hp)
theorem gd_strs {zs : List Str} (h : ∀ z ∈ zs, nmOk z) : ∀ d ∈ zs.map PyData.str, Gd d := fun d hd => by
  obtain ⟨z, hz, rfl⟩ := List.mem_map.mp hd
  exact gd_nm (h z hz)
section
variable {M : Addr → Prop} {X : Cx} {σ : L2.St} {H : Hp} {a b o : Expr} {pos : Pos} {ds es : List PyData}
theorem cv_neL (hu : X.A.units + 64 < cLine) (hd : ∀ d ∈ ds, Gd d) (he : ∀ d ∈ es, Gd d) : Cv M X .NotEq (PLm M X.K ds) (PL X.K es) (!PyData.eqv (.list ds) (.list es)) := ⟨_, op_neD hu, fun v u H1 H2 H3 g1 p1 g2 p2 Q q => by
  obtain ⟨a, vs, rfl, hm, h, z⟩ := p1
  obtain ⟨b, us, rfl, _, h2, z2⟩ := p2
  exact ⟨.list ds, .list es, .lst (.inl (.inl (g2.k a _ hm h))) (DvA.dp _ _ (z.g g2)), .lst (.inl (.inl h2)) (DvA.dp _ _ z2), shaped_lst hd, shaped_lst he, q⟩⟩
/-- the properties -/
theorem ev_pGround {q : OA} {u : Ou} {j : Nat} (T : Txt X.w X.K X.mg) (hr : Room j X.A) (hk : 2 ≤ j) (hq : OuAt X.K H q u) (ho : Ev M (wE X o) σ H (Pv (.ref q.a))) (hb : attributeBase o "ground" X.env (eval o X.env) = eval o X.env := by rfl) : Ev M (wE X (.Attribute o "ground" pos)) σ H (Pd X.K (grD u.gr)) :=
  ev_prop T (ok_ground T) (T.prop (q := (("ground" : Str), ("Outline.ground" : Str), sm_ground)) (by unfold pdefs; simp)) hr hk ho hq.sl (fun H0 H1 g0 g1 Q qq => ⟨q, u, rfl, hq.g (g0.t g1), fun v H' g d => qq _ _ (g.up g1.b) d⟩) hb
theorem ev_pGone {q : OA} {u : Ou} {j : Nat} (T : Txt X.w X.K X.mg) (hr : Room j X.A) (hk : 2 ≤ j) (hq : OuAt X.K H q u) (hl : u.go.length < 64) (ho : Ev M (wE X o) σ H (Pv (.ref q.a))) (hb : attributeBase o "gone" X.env (eval o X.env) = eval o X.env := by rfl) : Ev M (wE X (.Attribute o "gone" pos)) σ H (Pd X.K (goneD u)) :=
  ev_prop T (ok_gone T) (T.prop (q := (("gone" : Str), ("Outline.gone" : Str), sm_gone)) (by unfold pdefs; simp)) hr hk ho hq.sl (fun H0 H1 g0 g1 Q qq => ⟨q, u, rfl, hq.g (g0.t g1), hl, fun v H' g d => qq _ _ (g.up g1.b) d⟩) hb
theorem ev_pAsks {q : OA} {u : Ou} {j : Nat} (T : Txt X.w X.K X.mg) (hr : Room j X.A) (hk : 2 ≤ j) (hq : OuAt X.K H q u) (hl : u.aks.length < 64) (nn : (u.aks.map (·.1)).Nodup) (ho : Ev M (wE X o) σ H (Pv (.ref q.a))) (hb : attributeBase o "asks" X.env (eval o X.env) = eval o X.env := by rfl) : Ev M (wE X (.Attribute o "asks" pos)) σ H (PDN X.K askD (sortM u.aks)) :=
  ev_prop T (ok_asks T) (T.prop (q := (("asks" : Str), ("Outline.asks" : Str), sm_asks)) (by unfold pdefs; simp)) hr hk ho hq.sl (fun H0 H1 g0 g1 Q qq => ⟨q, u, rfl, hq.g (g0.t g1), hl, nn, fun a H' g n w => qq _ _ (g.up g1.b) ⟨a, rfl, g1.back n, w⟩⟩) hb
theorem ev_pEnt {q : OA} {u : Ou} {j : Nat} (T : Txt X.w X.K X.mg) (hr : Room j X.A) (hk : 2 ≤ j) (hq : OuAt X.K H q u) (hl : u.en.length < 64) (nn : (u.en.map (·.1)).Nodup) (ho : Ev M (wE X o) σ H (Pv (.ref q.a))) (hb : attributeBase o "entries" X.env (eval o X.env) = eval o X.env := by rfl) : Ev M (wE X (.Attribute o "entries" pos)) σ H (PDN X.K rowD (sortM u.en)) :=
  ev_prop T (ok_entries T) (T.prop (q := (("entries" : Str), ("Outline.entries" : Str), sm_entries)) (by unfold pdefs; simp)) hr hk ho hq.sl (fun H0 H1 g0 g1 Q qq => ⟨q, u, rfl, hq.g (g0.t g1), hl, nn, fun a H' g n w => qq _ _ (g.up g1.b) ⟨a, rfl, g1.back n, w⟩⟩) hb
end
/-! rows of a run -/
section
variable {g : Option Sv} {ks : List Mark}
theorem Runs.so_ok (R : Runs g ks) {so : So} (h : 1 ≤ bnd (outs g ks ks.length) (newsN ks) so) : so.ok :=
  (pin_ok (p := ⟨so, 0, 1⟩) (R.inv _ (Nat.le_refl _)) (fun s h => R.hso h) (fun s => Nat.le_trans (R.hN s) (by decide)) ⟨Nat.le_refl 1, by show 0 + 1 ≤ _; omega⟩).1
theorem Runs.rowok (R : Runs g ks) {n : Str} {r : List Pc} (h : trGet (outs g ks ks.length).en n = some r) : RowOk r := by
  obtain ⟨a, b, c⟩ := (R.inv _ (Nat.le_refl _)).row n r h
  exact rowok_of a b (fun so z => R.so_ok z) (fun so => Nat.le_trans (R.bnd_le so) (by decide)) (by omega)
theorem Runs.ougd (R : Runs g ks) : OuGd (outs g ks ks.length) := ⟨fun q hq => shaped_row (R.rowok (get_of_mem (R.en).1 hq)).ok⟩
theorem mem_expF {q : So × Nat} : ∀ {r : List Pc}, q ∈ expF r → ∃ p ∈ r, q.1 = p.so
  | [], h => by cases h
  | p :: r, h => by
    rw [expF_cons] at h
    rcases List.mem_append.mp h with h | h
    · obtain ⟨i, _, rfl⟩ := List.mem_map.mp h
      exact ⟨p, List.mem_cons_self, rfl⟩
    · obtain ⟨p', h1, h2⟩ := mem_expF h
      exact ⟨p', List.mem_cons_of_mem _ h1, h2⟩
theorem shaped_exp {r : List Pc} (h : ∀ p ∈ r, p.ok) : SeqAt.shaped (.tuple ((expF r).map orgD)) = true := shaped_tup fun d hd => by
  obtain ⟨q, hq, rfl⟩ := List.mem_map.mp hd
  obtain ⟨p, h1, h2⟩ := mem_expF hq
  exact gd_org (h2 ▸ (h p h1).1)
theorem eqv_expR (r : List Pc) : PyData.eqv (.tuple ((expF r).map orgD)) (.tuple ((expF r).map orgD)) = true := eqv_tupR fun d hd => by
  obtain ⟨q, _, rfl⟩ := List.mem_map.mp hd
  exact eqv_orgR q
theorem Runs.nm_en (R : Runs g ks) : ∀ n ∈ (outs g ks ks.length).en.map (·.1), nmOk n := fun n h => (R.inv _ (Nat.le_refl _)).nm n (fresh_not.mpr (.inl (get_isSome.mpr h)))
theorem Runs.nm_go (R : Runs g ks) : ∀ n ∈ (outs g ks ks.length).go.map (·.1), nmOk n := fun n h => (R.inv _ (Nat.le_refl _)).nm n (fresh_not.mpr (.inr (get_isSome.mpr h)))
theorem Runs.nm_aks (R : Runs g ks) : ∀ n ∈ (outs g ks ks.length).aks.map (·.1), nmOk n := fun n h => (R.inv _ (Nat.le_refl _)).nm n ((R.inv _ (Nat.le_refl _)).ask n (get_isSome.mpr h))
theorem Runs.spot_keys (R : Runs g ks) (nw : ∀ k ∈ ks, k.news ≤ 10) : ((spotT g ks ks.length).map (·.1)).Perm ((outs g ks ks.length).en.map (·.1)) := keys_perm (R.spotTS nw _ (Nat.le_refl _)).nd (R.en).1 fun n => R.spot_some n
end
end SR
set_option Elab.async false
set_option linter.all false
set_option maxRecDepth 100000
set_option maxHeartbeats 4000000
/-! the law's own: whether an outline is what the marks make of it, walked -/
namespace SR
open PySem PySem.Spec PyProof.Rows L2
section
variable {P : Program} {w : World} {K : PySem.W.Frag} {mg : Str → Option Value} {base : Heap}
def spIo (K : PySem.W.Frag) : Sp := fun vs H Q _ => ∃ (q : OA) (v : V) (b : Addr) (us : List V) (g : Option Sv) (ks : List Mark), vs = [.ref q.a, v, .ref b] ∧ OuAt K H q (outs g ks ks.length) ∧ Dv K H v (grD g) ∧ H b = some (.lst us) ∧ DvA K H us (ks.map Mark.d) ∧ Runs g ks ∧ (∀ k ∈ ks, k.news ≤ 10) ∧
  ∀ H', Gr M0 H H' → Q (.bl true) H'
abbrev nLio : List Str := ["_law_outline_here", "_law_ground", "_law_marks", "_law_spotted_here", "_law_gone", "_law_first", "_law_asks", "_law_entries", "_law_name", "_law_at"]
theorem sc_lio : FnScope nLio ["_law_outline_here", "_law_ground", "_law_marks"] (defScope st_law_is_outline) := ⟨rfl, rfl, rfl, by decide +kernel, rfl, by decide +kernel, by decide +kernel⟩
theorem ok_lio (T : Txt w K mg) : C8.Cal P w K mg base 9 "_law_is_outline" (spIo K) [] := by
  refine fn_ok T 48 rfl sc_lio (fun _ _ _ _ _ _ us hl => match us, hl with | [_, _, _], _ => rfl) (fun vs H Q E ⟨_, _, _, _, _, _, h, _⟩ => by rw [h]; rfl) (fun f cdv A outer s H vs Q E hr ⟨q, v, b, us, g, ks, hv, hq, hg, hb, hus, R, nw, hQ⟩ => ?_)
  subst hv
  have nd := sc_lio.nd
  have hu := hu64 hr
  have hu7 := hu70 hr
  have I := R.inv _ (Nat.le_refl ks.length)
  refine bl_asg (gt := gTup K 3 (gCons (gName 3) (gCons (gName 4) (gCons (gName 5) gNil)))) (Gr.z H) (pg_tup rfl (pgs_cons (pg_name nd rfl (Or.inl rfl)) (pgs_cons (pg_name nd rfl (Or.inl rfl)) (pgs_cons (pg_name nd rfl (Or.inl rfl)) pgs_nil))))
    (P := fun v H1 H2 => ∃ (t r l fi : Addr), v = .ref t ∧ H2 t = some (.tup [.ref r, .ref l, .ref fi]) ∧ DW K tpl H2 r (spotT g ks ks.length) ∧ H2 l = some (.lst ((srt ((gnsF g ks ks.length).map (·.1))).map V.str)))
    (ev_call (ok_lspot T) hr (by decide) (eg_cons (P := Pv v) (Ps := [Pv (.ref b)]) stb_v (fun P hP => by cases List.mem_singleton.mp hP; exact stb_v) (ev_nmV 1) (eg_cons stb_v (fun P hP => by cases hP) (ev_nmV 2) eg_nil)) (fun vs H1 H2 g1 g2 pa Q' q' => by
      obtain ⟨w1, _, rfl, e1, w2, _, rfl, e2, rfl⟩ := pa
      obtain rfl : w1 = v := e1
      obtain rfl : w2 = .ref b := e2
      have gg := g1.t g2
      exact ⟨_, b, us, g, ks, rfl, hg.g gg, gg.k b _ (fun z => z) hb, hus.g gg, R, nw, fun t r l fi H3 g3 a1 a2 a3 => q' _ _ g3 ⟨t, r, l, fi, rfl, a1, a2, a3⟩⟩)) (fun x H1 g1 px => ?_)
  obtain ⟨t, r, l, fi, rfl, ht, hsp, hgl⟩ := px
  refine ⟨t, _, rfl, .inl (.inl ht), rfl, _, _, rfl, _, _, rfl, _, _, rfl, rfl, ?_⟩
  refine bl_set (i := 6) (Gr.z H1) (P := PDN K askD (outs g ks ks.length).aks) (ev_asksX T hr (by decide) R (ev_nm 1 (hg.g g1)) (ev_nmV 2) (fun H2 g2 => (g1.t g2).k b _ (fun z => z) hb) (hus.g g1)) (fun y H2 g2 py => ?_) nd
  obtain ⟨fa, rfl, fa0, hfa⟩ := py
  have g02 := g1.t g2
  have hq2 := hq.g g02
  have hg2 := hg.g g02
  have hsp2 := hsp.g g2
  have hgl2 := g2.k l _ (fun z => z) hgl
  have aks := R.aks
  have en := R.en
  have go := R.go
  have e1 : (!PyData.eqv (grD (outs g ks ks.length).gr) (grD g)) = false := by
    rw [outs_gr, eqv_grR]
    rfl
  have e2 : (!eqvM askD askD (sortM (outs g ks ks.length).aks) (outs g ks ks.length).aks) = false := by
    rw [eqvM_of (sortM_nodup aks.1) aks.1 (fun n => sortM_get _ n) (fun q _ => eqv_ask q.2)]
    rfl
  have e3 : (!PyData.eqv (.list ((srt ((outs g ks ks.length).aks.map (·.1))).map .str)) (.list ((srt ((outs g ks ks.length).aks.map (·.1))).map .str))) = false := by
    rw [eqv_lstR (eqv_strsR _)]
    rfl
  have e4 : (!PyData.eqv (goneD (outs g ks ks.length)) (.tuple ((srt ((gnsF g ks ks.length).map (·.1))).map .str))) = false := by
    rw [R.gone]
    unfold goneD nmsD
    rw [eqv_tupR (eqv_strsR _)]
    rfl
  have sgone : SeqAt.shaped (goneD (outs g ks ks.length)) = true := shaped_tup (gd_strs fun z hz => R.nm_go z (srt_mem.mp hz))
  have gdA : ∀ d ∈ (srt ((outs g ks ks.length).aks.map (·.1))).map PyData.str, Gd d := gd_strs fun z hz => R.nm_aks z (srt_mem.mp hz)
  refine bl_when (Gr.z H2) (et_w (ew_orF (EvT.is (et_ne hu (shaped_gr _) (shaped_gr _) (ev_pGround T hr (by decide) hq2 (ev_nmV 0)) (ev_nm 1 hg2)) e1) (ew_orF (EvT.is (et_cv (cv_dNe hu7 (fun q _ => shaped_ask q.2) (fun q _ => shaped_ask q.2)) (Ev.nr (ev_pAsks T hr (by decide) hq2 (by omega) aks.1 (ev_nmV 0))) (ev_nmDR 6 hfa.r) (nomark _)) e2)
    (ew_orF (EvT.is (et_cv (cv_neL hu gdA gdA) (Ev.lm ?_) (ev_sortD (f := askD) rfl T.f_sorted (by omega) (ev_nmDR 6 hfa.r)) (nomark _)) e3) (ew_or1 (EvT.is (et_ne hu sgone (by rw [R.gone]; exact sgone) (ev_pGone T hr (by decide) hq2 (by omega) (ev_nmV 0)) (ev_tupL T.f_tuple (Ev.ml (ev_nmLm 4 hgl2 (fun z => z) (strs_dvA _))))) e4)))))) (fun z => nf z) (fun _ H3 g3 => ?_)
  · have e : (srt ((outs g ks ks.length).aks.map (·.1))).map PyData.str = (sortM (outs g ks ks.length).aks).map fun q => .str q.1 := by
      rw [← sortM_keys, List.map_map]
      rfl
    rw [e]
    exact ev_listD rfl T.f_list (Ev.nr (ev_pAsks T hr (by decide) hq2 (by omega) aks.1 (ev_nmV 0)))
  refine bl_set (i := 7) g3.r (P := PDN K rowD (sortM (outs g ks ks.length).en)) (ev_pEnt T hr (by decide) (hq2.g g3) (by omega) en.1 (ev_nmV 0)) (fun y H4 g4 py => ?_) nd
  obtain ⟨ea, rfl, ea0, hea⟩ := py
  have g24 := g3.t g4
  have hq4 := hq2.g g24
  have hsp4 := hsp2.g g24
  have sk := R.spot_keys nw
  have slen : (spotT g ks ks.length).length = (outs g ks ks.length).en.length := by
    have := sk.length_eq
    rw [List.length_map, List.length_map] at this
    exact this
  have gdE : ∀ d ∈ (srt ((outs g ks ks.length).en.map (·.1))).map PyData.str, Gd d := gd_strs fun z hz => R.nm_en z (srt_mem.mp hz)
  have e5 : (!PyData.eqv (.list ((srt ((outs g ks ks.length).en.map (·.1))).map .str)) (.list ((srt ((spotT g ks ks.length).map (·.1))).map .str))) = false := by
    rw [srt_congr sk, eqv_lstR (eqv_strsR _)]
    rfl
  have e6 : (!decide (((outs g ks ks.length).en.length : Int) = ((spotT g ks ks.length).length : Int))) = false := by
    rw [slen, decide_eq_true rfl]
    rfl
  refine bl_when g4.r (et_w (ew_orF (EvT.is (et_cv (cv_neL hu gdE (by rw [srt_congr sk]; exact gdE)) (Ev.lm ?_) (ev_sortD (f := tpl) rfl T.f_sorted (by omega) (ev_nmDR 3 hsp4.r)) (nomark _)) e5) (ew_or1 (EvT.is (et_neI (ev_lenO T hr (by decide) (by omega) ((ev_nmV 0).imp fun v H1 H2 g1 g2 e => ⟨q, e, hq4.g (g1.t g2)⟩)) (ev_lenD (f := tpl) T.f_len (ev_nmDR 3 hsp4.r))) e6)))) (fun z => nf z) (fun _ H5 g5 => ?_)
  · have e : (srt ((outs g ks ks.length).en.map (·.1))).map PyData.str = (sortM (outs g ks ks.length).en).map fun q => .str q.1 := by
      rw [← sortM_keys, List.map_map]
      rfl
    rw [e]
    exact ev_listD rfl T.f_list (ev_nmDR 7 hea.r)
  have g25 := g24.t g5
  obtain ⟨kvs, hka, hkd⟩ := hea.g g5
  have hsp5 := hsp4.g g5
  refine bl_forK (gt := gName 8) (d := ea) (kvs := kvs) g5.r rfl rfl (pg_name nd rfl (Or.inr rfl)) hka (fun od => ev_nmV 7) (fun od H6 g6 => ?_)
  have hkz : KD K rowD H6 kvs (sortM (outs g ks ks.length).en) := (hkd.lk hka).g g6
  have hez : H6 ea = some (.frz od (.dK kvs)) := g6.k ea _ (fun z => z) lk_same
  have hsz : DR K tpl H6 r (spotT g ks ks.length) := (hsp5.r.lk hka).g g6
  refine ⟨fun i σ' H' => ∃ (o8 : Option V), σ' = [some (.ref q.a), some v, some (.ref b), some (.ref r), some (.ref l), some (.ref fi), some (.ref fa), some (.ref ea), o8, none] ∧ Gr M0 H6 H', ⟨none, rfl, g6.r⟩, fun i σ' H' _ ⟨_, _, G⟩ => G.k ea _ (fun z => z) hez, ?_, ?_⟩
  · rintro i k x σ' H' hk ⟨o8, rfl, G⟩
    have hi : i < (sortM (outs g ks ks.length).en).length := by
      rw [← hkz.length]
      exact (List.getElem?_eq_some_iff.mp hk).1
    obtain ⟨z, hz⟩ : ∃ z, (sortM (outs g ks ks.length).en)[i]? = some z := ⟨_, List.getElem?_eq_getElem hi⟩
    obtain ⟨v', ev1, _⟩ := hkz.at hz
    rw [hk] at ev1
    cases ev1
    obtain ⟨n, row⟩ := z
    have hrow : trGet (sortM (outs g ks ks.length).en) n = some row := get_of_mem (q := (n, row)) (sortM_nodup en.1) (List.mem_of_getElem? hz)
    have hrow2 : trGet (outs g ks ks.length).en n = some row := by
      rw [← sortM_get]
      exact hrow
    have rok := R.rowok hrow2
    have hsn := R.spot_en hrow2
    have l996 := (I.row n row hrow2).2.2
    have hdr : ∀ H2, Gr M0 H' H2 → DR K rowD H2 ea (sortM (outs g ks ks.length).en) := fun H2 g2 => ⟨kvs, .inr ⟨od, (G.t g2).k ea _ (fun z => z) hez⟩, hkz.g (G.t g2)⟩
    have hds : ∀ H2, Gr M0 H' H2 → DR K tpl H2 r (spotT g ks ks.length) := fun H2 g2 => hsz.g (G.t g2)
    refine gt_name ?_
    show wB _ _ _ [some (.ref q.a), some v, some (.ref b), some (.ref r), some (.ref l), some (.ref fi), some (.ref fa), some (.ref ea), some (.str n), none] H'
    have xl : ((expF row).map orgD).length = lenF row := by rw [List.length_map, expF_len]
    refine bl_when (Gr.z H') (EvT.is (c := false) (et_neI (x := (lenF row : Nat)) (y := (((expF row).map orgD).length : Nat)) (ev_callD (ok_row_length T) hr (by decide) row rok (ea_cons (ev_dget (f := rowD) hu (ev_nmDR 7 (hdr _ (Gr.z H'))) (ev_nm 8 (.str n)) hrow) ea_nil)) (ev_lenT (ds := (expF row).map orgD) T.f_len (ev_dget (f := tpl) hu (ev_nmDR 3 (hds _ (Gr.z H'))) (ev_nm 8 (.str n)) hsn))) (by rw [xl, decide_eq_true rfl]; rfl)) (fun z => nf z) (fun _ H7 g7 => ?_)
    refine bl_when g7.r (EvT.is (c := false) (et_ne (d := .tuple ((expF row).map orgD)) (d' := .tuple ((expF row).map orgD)) hu (shaped_exp rok.ok) (shaped_exp rok.ok) (ev_tupL T.f_tuple (Ev.ld ?_)) (ev_dget (f := tpl) (b := (expF row).map orgD) hu (ev_nmDR 3 (hds _ g7)) (ev_nm 8 (.str n)) hsn)) (by rw [eqv_expR]; rfl)) (fun z => nf z) (fun _ H8 g8 => bl_nil ⟨_, rfl, (G.t g7).t g8⟩)
    refine ev_lcGR (own := [("_law_at", 9)]) (gt := gName 9) (tt := tYes) (ds := rngD ((((expF row).map orgD).length : Int).toNat)) (fun i => ((expF row).take i).map orgD) (by simp) (by rw [rngD_len, Int.toNat_natCast, List.length_map, List.take_length]) rfl nd (blkOk_by (sc := defScope st_law_is_outline) (N := nLio) (by decide +kernel)) (ei_rng (n := (((expF row).map orgD).length : Int)) (by omega) (by omega) T.f_range (ev_lenT (ds := (expF row).map orgD) T.f_len (ev_dget (f := tpl) hu (ev_nmDR 3 (hds _ g7)) (ev_nm 8 (.str n)) hsn))) (by rw [rngD_len]; omega) (fun _ _ _ _ _ => pg_name nd rfl (Or.inl rfl)) (fun _ _ _ _ _ => pts_nil) (fun j d x H9 e g9 hx Q q => gt_name ?_)
    have hj : j < (expF row).length := by
      have := (List.getElem?_eq_some_iff.mp e).1
      rw [rngD_len, Int.toNat_natCast, List.length_map] at this
      exact this
    rw [rngD_get (by rw [Int.toNat_natCast, List.length_map]; exact hj)] at e
    cases e
    obtain ⟨og, hog⟩ : ∃ og, (expF row)[j]? = some og := ⟨_, List.getElem?_eq_getElem hj⟩
    refine q _ true (orgD og) rfl et_yes (fun _ => ev_blk fun s H0 C cl fp => ev_callD (ok_origin T) hr (by decide) (row, j, og) ⟨rok, by show lenF row ≤ 100000; omega, hog⟩ (ea_cons (ev_dget (f := rowD) hu (ev_nmDR 7 (hdr _ (g7.t g9))) (ev_nm 8 (.str n)) hrow) (ea_cons (ev_nm 9 hx) ea_nil))) ?_
    show ((expF row).take (j + 1)).map orgD = _
    rw [if_pos rfl, take_snoc hog, List.map_append]
    rfl
  · rintro σ' H' ⟨o8, rfl, G⟩
    have gE : Gr M0 H5 (upd H' ea (.dK kvs)) := gr_unlock g5.r hka (g6.t G)
    exact bl_ret (Gr.z _) (P := Pd K (.bool true)) ev_bl (fun y H9 g9 py => by
      obtain rfl := dv_bl py
      exact hQ H9 (((g02.t g25).t gE).t g9))
end
end SR
set_option Elab.async false
set_option linter.all false
set_option maxRecDepth 100000
set_option maxHeartbeats 4000000
/-! more rules: a list's item stored, great powers -/
namespace SR
open PySem PySem.Spec PyProof.Rows L2
section
variable {M : Addr → Prop} {X : Cx} {σ : L2.St} {H : Hp} {a b o i value : Expr} {pos pos' : Pos} {D : Ends} {rest : List Stmt}
theorem ixN_n {n j : Nat} (hj : j < n) : ixN n (j : Int) = some j := by
  unfold ixN
  rw [if_pos (by omega), if_pos (by omega)]
  simp
theorem sqL_g {K : PySem.W.Frag} {H H' : Hp} {l : Addr} {xs : List V} (g : Gr M0 H H') (h : SqL K H l xs) : SqL K H' l xs := by
  rcases h with (h | ⟨o, h⟩) | h
  · exact .inl (.inl (g.k _ _ (fun z => z) h))
  · exact .inl (.inr ⟨o, g.k _ _ (fun z => z) h⟩)
  · exact .inr h
theorem stb_pld {K : PySem.W.Frag} {ds : List PyData} : Stb M0 (PLd K ds) := fun v H0 H1 H2 H3 g0 g1 g2 ⟨a, vs, e, h, z⟩ => ⟨a, vs, e, sqL_g g2 h, z.g g2⟩
/-- x[k] = an int -/
theorem bl_lset {l : Addr} {xs : List V} {k : Nat} {n : Int} (g : Gr M H H) (hl : H l = some (.lst xs)) (nm : ¬ M l) (hv : Ev M (wE X value) σ H (Pd X.K (.int n))) (ho : Ev M (wE X o) σ H (Pv (.ref l))) (hi : Ev M (wE X i) σ H (Pd X.K (.int (k : Int)))) (hk : k < xs.length)
    (c : ∀ H1, Gr M H H1 → H1 l = some (.lst xs) → wB X rest D σ (upd H1 l (.lst (xs.set k (.int n)))))
    (ha : ∀ v, assign (.Subscript o i pos') X.env v = (do
      let ov ← holding [v] (eval o X.env)
      let iv ← holding [v, ov] (eval i X.env)
      standAt pos'
      holding [v, ov, iv] (setItem ov iv v)
      release [v, ov, iv] []) := by exact fun _ => rfl) (hs2 : swapsWithSole [.Subscript o i pos'] value pos.line X.env = pure false := by rfl) (hw : swappedStores [.Subscript o i pos'] value X.env = pure none := by rfl) (h1 : (assignEach [.Subscript o i pos'] X.env).map (·.2) = [assign (.Subscript o i pos') X.env] := by rfl) :
    wB X (.Assign [.Subscript o i pos'] value pos :: rest) D σ H :=
  bl_asg g (pg_sub e_pe e_pe set_list ha) hv (fun v H1 g1 p1 => by
    obtain rfl := dv_int p1
    exact ho H1 g1 _ fun x H2 g2 px => hi H2 (g1.t g2) _ fun y H3 g3 py => by
      obtain rfl : x = .ref l := px
      obtain rfl := dv_int py
      have g13 := (g1.t g2).t g3
      exact ⟨l, xs, (k : Int), k, rfl, rfl, g13.k l _ nm hl, ixN_n hk, c H3 g13 (g13.k l _ nm hl)⟩) hs2 hw h1
def CPowW (i j : Int) : Prop := 0 ≤ j ∧ (Builtin.Int.intBits i : Int) * j ≤ 2 ^ 27
theorem op_powW : OpR X (binaryOp .Pow) (rI CPowW fun i j => .int (i ^ j.toNat)) := opI fun _ _ _ _ _ _ _ hc q => pow_int hc.1 hc.2 q
theorem ev_powW {i j : Int} (h1 : Ev M (wE X a) σ H (Pd X.K (.int i))) (h2 : Ev M (wE X b) σ H (Pd X.K (.int j))) (hc : CPowW i j) : Ev M (wE X (.BinOp a .Pow b pos)) σ H (Pd X.K (.int (i ^ j.toNat))) := ev_opI (g0 := fun i j => .int (i ^ j.toNat)) op_powW (fun _ i j => .int _) h1 h2 hc
end
end SR
set_option Elab.async false
set_option linter.all false
set_option maxRecDepth 100000
set_option maxHeartbeats 4000000
/-! the law's own: draws -/
namespace SR
open PySem PySem.Spec PyProof.Rows L2
section
variable {P : Program} {w : World} {K : PySem.W.Frag} {mg : Str → Option Value} {base : Heap}
def spDeck (K : PySem.W.Frag) : Sp := fun vs H Q _ => ∃ (a : Addr) (ns : List Int) (i : Int), vs = [.ref a, .int i] ∧ SqL K H a (ns.map V.int) ∧ 0 ≤ i ∧ i < 100 ∧
  ∀ (D : Addr) H', Gr M0 H H' → H D = none → Deck H' D → Q (.ref D) H'
abbrev nDeck : List Str := ["_law_script", "_law_spot", "_law_cell", "_law_great"]
theorem sc_ldeck : FnScope nDeck ["_law_script", "_law_spot"] (defScope st_law_deck) := ⟨rfl, rfl, rfl, by decide +kernel, rfl, by decide +kernel, by decide +kernel⟩
theorem ok_ldeck (T : Txt w K mg) : C8.Cal P w K mg base 1 "_law_deck" (spDeck K) [] := by
  refine fn_ok T 27 rfl sc_ldeck (fun _ _ _ _ _ _ us hl => match us, hl with | [_, _], _ => rfl) (fun vs H Q E ⟨_, _, _, h, _⟩ => by rw [h]; rfl) (fun f cdv A outer s H vs Q E hr ⟨a, ns, i, hv, hs, i0, i1, hQ⟩ => ?_)
  subst hv
  have nd := sc_ldeck.nd
  have ld : ∀ (te : TE) (σ : L2.St) (H' : Hp), Gr M0 H H' → Ev M0 te σ H' (Pv (.ref a)) → Ev M0 te σ H' (PLd K (ns.map PyData.int)) := fun te σ H2 g h => h.imp fun v H1 H2 g1 g2 e => ⟨a, ns.map V.int, e, sqL_g (g.t (g1.t g2)) hs, ints_dvA ns⟩
  let c : Int := if i < (ns.length : Int) then ns.getD i.toNat 0 else 173 * i + 61
  refine bl_set (i := 2) (Gr.z H) (P := Pd K (.int c)) (ev_if (x := decide (i < (ns.length : Int))) (EvT.is (et_lt (ev_nm 1 (.int _)) (ev_lenL T.f_len (ld _ _ _ (Gr.z H) (ev_nmV 0)))) (by rw [List.length_map])) (fun z => ?_) (fun z => ?_)) (fun y H1 g1 py => ?_) nd
  · have z := of_decide_eq_true z
    have hj : i.toNat < ns.length := by omega
    have e : atI (ns.map PyData.int) i = some (.int c) := by
      have h1 : (ns.map PyData.int)[i.toNat]? = some (.int c) := by
        rw [List.getElem?_map, List.getElem?_eq_getElem hj]
        show some (PyData.int ns[i.toNat]) = some (PyData.int (if i < (ns.length : Int) then ns.getD i.toNat 0 else 173 * i + 61))
        rw [if_pos z, List.getD_eq_getElem?_getD, List.getElem?_eq_getElem hj]
        rfl
      have := atI_nat h1
      rw [Int.toNat_of_nonneg i0] at this
      exact this
    exact ev_intI T.f_int (ev_ixL (ld _ _ _ (Gr.z H) (ev_nmV 0)) stb_pld (ev_nm 1 (.int _)) e)
  · have z := of_decide_eq_false z
    refine Ev.is (ev_add (ev_mul ev_int (ev_nm 1 (.int _)) (.inl (by decide))) ev_int) ?_
    show PyData.int (173 * i + 61) = PyData.int (if i < (ns.length : Int) then ns.getD i.toNat 0 else 173 * i + 61)
    rw [if_neg z]
  · obtain rfl := dv_int py
    clear_value c
    have p1 : CPowW 10 53 := ⟨by decide, by decide +kernel⟩
    have p2 : CPowW (10 ^ (53 : Int).toNat) 7 := ⟨by decide, by decide +kernel⟩
    have pos : (0 : Int) < (10 ^ (53 : Int).toNat) ^ (7 : Int).toNat := by decide +kernel
    refine bl_set (i := 3) g1.r (ev_mod (ev_intI T.f_int (ev_abs T.f_abs (ev_nm 2 (.int _)))) (ev_powW (ev_powW ev_int ev_int p1) ev_int p2) pos) (fun y H2 g2 py => ?_) nd
    obtain rfl := dv_int py
    generalize ((c.natAbs : Int)) % (10 ^ (53 : Int).toNat) ^ (7 : Int).toNat = great
    refine bl_ret g2.r (ev_lst (ea_cons (ev_max2 rfl T.f_max (ea_ii ev_int (ev_sub (ev_nm 3 (.int _)) (ev_pow ev_int ev_int ⟨by decide, by decide, by decide⟩)))) (ea_cons (ev_add (ev_add (ev_add (ev_mul (ev_mod (ev_intI T.f_int (ev_nm 3 (.int _))) ev_int (by decide)) ev_int (.inr (by decide))) (ev_mul ev_int (ev_nm 1 (.int _)) (.inl (by decide)))) (ev_mul ev_int (ev_intB T.f_int (ev_lt (ev_nm 2 (.int _)) ev_int)) (.inl (by decide)))) ev_int) (ea_cons ev_int ea_nil))) (by simp)) (fun v H3 g3 pv => ?_)
    obtain ⟨D, xs, rfl, D0, hD, hx⟩ := pv
    obtain ⟨y1, y2, y3, rfl, q1, q2, q3⟩ := dvA3 hx
    obtain rfl := dv_int q1
    obtain rfl := dv_int q2
    obtain rfl := dv_int q3
    exact hQ D H3 ((g1.t g2).t g3) ((g1.t g2).back D0) ⟨_, _, _, hD⟩
/-- a number below a total -/
def spDeal (K : PySem.W.Frag) : Sp := fun vs H Q _ => ∃ (D : Addr) (n : Int), vs = [.ref D, .int n] ∧ Deck H D ∧ 0 < n ∧ n < 1000000 ∧ ∀ (i : Int) H', Gr (M1 D) H H' → 0 ≤ i → i < n → Q (.int i) H'
abbrev nDeal : List Str := ["_law_deck_here", "_law_total", "_law_found", "_law_one", "_law_two"]
theorem sc_ldeal : FnScope nDeal ["_law_deck_here", "_law_total"] (defScope st_law_dealt) := ⟨rfl, rfl, rfl, by decide +kernel, rfl, by decide +kernel, by decide +kernel⟩
theorem ok_ldeal (T : Txt w K mg) : C8.Cal P w K mg base 1 "_law_dealt" (spDeal K) [] := by
  refine fn_ok T 28 rfl sc_ldeal (fun _ _ _ _ _ _ us hl => match us, hl with | [_, _], _ => rfl) (fun vs H Q E ⟨_, _, h, _⟩ => by rw [h]; rfl) (fun f cdv A outer s H vs Q E hr ⟨D, n, hv, hd, n0, n1, hQ⟩ => ?_)
  subst hv
  have nd := sc_ldeal.nd
  obtain ⟨a, b, c, hD⟩ := hd
  have three : ∀ {H : Hp} (a b c : Int), DvA K H [.int a, .int b, .int c] [.int a, .int b, .int c] := fun a b c => .cons (.int _) (.cons (.int _) (.cons (.int _) .nil))
  have gdeck : ∀ H1 (x y z : Int), Gr M0 H H1 → Gr (M1 D) H (upd H1 D (.lst [.int x, .int y, .int z])) := fun H1 x y z g => (Gr.up g fun x' e => by cases e; exact ⟨a, b, c, hD⟩).deck
  have gup : ∀ H1 H2 (x y z : Int), Gr M0 H H1 → Gr M0 (upd H1 D (.lst [.int x, .int y, .int z])) H2 → Gr (M1 D) H H2 := fun H1 H2 x y z g g2 => (gdeck H1 x y z g).t (g2.up fun x' e => by cases e; exact ⟨x, y, z, upd_same⟩)
  refine bl_when (Gr.z H) (et_gt (ev_ixM (ds := [.int a, .int b, .int c]) (ev_nmLm 0 hD (fun z => z) (three a b c)) ev_int rfl) ev_int) (fun _ H1 g1 => ?_) (fun _ H1 g1 => ?_)
  · have h1 := g1.k D _ (fun z => z) hD
    refine bl_set (i := 2) g1.r (ev_mod (ev_intI T.f_int (ev_ixM (ds := [.int a, .int b, .int c]) (ev_nmLm 0 h1 (fun z => z) (three a b c)) ev_int rfl)) (ev_nm 1 (.int _)) n0) (fun y H2 g2 py => ?_) nd
    obtain rfl := dv_int py
    have h2 := g2.k D _ (fun z => z) h1
    refine bl_lset (k := 0) (n := a / n) g2.r h2 (fun z => z) (ev_fdiv (ev_ixM (ds := [.int a, .int b, .int c]) (ev_nmLm 0 h2 (fun z => z) (three a b c)) ev_int rfl) (ev_nm 1 (.int _)) ⟨n0, by omega⟩) (ev_nmV 0) ev_int (by show 0 < 3; decide) (fun H3 g3 h3 => ?_)
    refine bl_ret (Gr.z _) (P := Pv (.int (a % n))) (ev_nmV 2) (fun v H4 g4 e => ?_)
    obtain rfl : v = .int (a % n) := e
    exact hQ (a % n) H4 (gup H3 H4 _ _ _ ((g1.t g2).t g3) g4) (Int.emod_nonneg _ (by omega)) (Int.emod_lt_of_pos _ n0)
  · have h1 := g1.k D _ (fun z => z) hD
    refine bl_lset (k := 2) (n := c + 1) g1.r h1 (fun z => z) (ev_add (ev_ixM (ds := [.int a, .int b, .int c]) (ev_nmLm 0 h1 (fun z => z) (three a b c)) ev_int rfl) ev_int) (ev_nmV 0) ev_int (by show 2 < 3; decide) (fun H2 g2 h2 => ?_)
    have gg : Gr (M1 D) H (upd H2 D (.lst [.int a, .int b, .int (c + 1)])) := gdeck H2 _ _ _ (g1.t g2)
    have h3 : upd H2 D (.lst [.int a, .int b, .int (c + 1)]) D = some (.lst [.int a, .int b, .int (c + 1)]) := upd_same
    show wB _ _ _ _ (upd H2 D (.lst [.int a, .int b, .int (c + 1)]))
    generalize upd H2 D (.lst [.int a, .int b, .int (c + 1)]) = H3 at gg h3
    refine bl_set (i := 3) (Gr.z H3) (ev_mod (ev_intI T.f_int (ev_add (ev_ixM (ds := [.int a, .int b, .int (c + 1)]) (ev_nmLm 0 h3 (fun z => z) (three _ _ _)) ev_int rfl) (ev_mul ev_int (ev_ixM (ds := [.int a, .int b, .int (c + 1)]) (ev_nmLm 0 h3 (fun z => z) (three _ _ _)) ev_int rfl) (.inl (by decide))))) ev_int (by decide)) (fun y H4 g4 py => ?_) nd
    obtain rfl := dv_int py
    have o1 : 0 ≤ (b + 15485863 * (c + 1)) % 2305843009213693951 := Int.emod_nonneg _ (by decide)
    have o2 : (b + 15485863 * (c + 1)) % 2305843009213693951 < 2305843009213693951 := Int.emod_lt_of_pos _ (by decide)
    generalize (b + 15485863 * (c + 1)) % 2305843009213693951 = one at o1 o2
    have h4 := g4.k D _ (fun z => z) h3
    refine bl_set (i := 4) g4.r (ev_add (ev_mul (ev_mod (ev_intI T.f_int (ev_add (ev_mul (ev_nm 3 (.int _)) (ev_nm 3 (.int _)) (.inl (by omega))) (ev_mul ev_int (ev_ixM (ds := [.int a, .int b, .int (c + 1)]) (ev_nmLm 0 h4 (fun z => z) (three _ _ _)) ev_int rfl) (.inl (by decide))))) ev_int (by decide)) ev_int (.inr (by decide))) (ev_nm 3 (.int _))) (fun y H5 g5 py => ?_) nd
    obtain rfl := dv_int py
    generalize ((one * one + 83 * (c + 1)) % 2305843009213693921 * 7368787 + one) = two
    refine bl_ret g5.r (ev_mod (ev_intI T.f_int (ev_fdiv (ev_nm 4 (.int _)) ev_int ⟨by decide, by decide⟩)) (ev_nm 1 (.int _)) n0) (fun v H6 g6 e => ?_)
    obtain rfl := dv_int e
    refine hQ _ H6 ?_ (Int.emod_nonneg _ (by omega)) (Int.emod_lt_of_pos _ n0)
    exact gg.t (((g4.t g5).t g6).up fun x' e => by cases e; exact ⟨_, _, _, h3⟩)
end
end SR
set_option Elab.async false
set_option linter.all false
set_option maxRecDepth 100000
set_option maxHeartbeats 4000000
/-! the law's own: cards and cells -/
namespace SR
open PySem PySem.Spec PyProof.Rows L2
def below (n : Int) : PyData → Prop := fun d => ∃ i : Int, d = .int i ∧ 0 ≤ i ∧ i < n
section
variable {M : Addr → Prop} {X : Cx} {σ : L2.St} {H : Hp} {a b e : Expr} {pos p p1 : Pos} {ds : List PyData}
theorem deck_g {D : Addr} {H H' : Hp} (g : Gr (M1 D) H H') : Deck H' D := g.b D rfl
theorem ev_dealt {D : Addr} {n : Int} {j : Nat} (T : Txt X.w X.K X.mg) (hr : Room j X.A) (hk : 1 ≤ j) (n0 : 0 < n) (n1 : n < 1000000) (h1 : Ev (M1 D) (wE X a) σ H (Pv (.ref D))) (h2 : Ev (M1 D) (wE X b) σ H (Pd X.K (.int n))) (hg : Gl X "_law_dealt" := by rfl)
    (he : starEach [a, b] X.env = (false, eval a X.env) :: starEach [b] X.env := by rfl) (he2 : starEach [b] X.env = (false, eval b X.env) :: starEach [] X.env := by rfl) (hpl : (backTo pos (starEach [b] X.env)).any (·.1) = false := by rfl) :
    Ev (M1 D) (wE X (.Call (.Name "_law_dealt" p) [a, b] [] pos)) σ H (PdE X.K (below n)) :=
  ev_call (ok_ldeal T) hr hk (eg_cons (P := Pv (.ref D)) (Ps := [Pd X.K (.int n)]) stb_v (fun P hP => by cases List.mem_singleton.mp hP; exact stb_d) h1 (eg_cons stb_d (fun P hP => by cases hP) h2 eg_nil he2) he) (fun vs H1 H2 g1 g2 pa Q q => by
    obtain ⟨w1, _, rfl, e1, w2, _, rfl, e2, rfl⟩ := pa
    obtain rfl : w1 = .ref D := e1
    obtain rfl := dv_int e2
    exact ⟨D, n, rfl, deck_g g2, n0, n1, fun i H' g h0 h1 => q _ _ g ⟨_, ⟨i, rfl, h0, h1⟩, .int i⟩⟩) hg (by decide) he hpl
/-- an item at a place that is drawn -/
theorem ev_ixE (h1 : Ev M (wE X a) σ H (PLm M X.K ds)) (h2 : Ev M (wE X b) σ H (PdE X.K (below ds.length))) (hs : PlainIx b := by exact fun _ _ => rfl) : Ev M (wE X (.Subscript a b pos)) σ H (PdE X.K (· ∈ ds)) :=
  fun H1 g Q q => of_pe (pe_ix ix_list e_pe e_pe hs) (h1 H1 g _ fun v H2 g2 p => h2 H2 (g.t g2) _ fun u H3 g3 ⟨d, ⟨i, e1, i0, i1⟩, p3⟩ => by
    obtain ⟨t, xs, rfl, nm, hx, ha⟩ := p
    subst e1
    obtain rfl := dv_int p3
    have hi : i.toNat < ds.length := by omega
    have e : atI ds i = some ds[i.toNat] := by
      have := atI_nat (List.getElem?_eq_getElem hi)
      rw [Int.toNat_of_nonneg i0] at this
      exact this
    obtain ⟨w, e2, hw⟩ := atI_dv (ha.g g3) e
    exact ⟨t, xs, i, w, rfl, rfl, .inl (.inl (g3.k t _ nm hx)), e2, q _ _ (g2.t g3) ⟨_, List.getElem_mem hi, hw⟩⟩)
theorem ev_tupLE {φ : List PyData → Prop} (hm : X.mg "tuple" = none) (h : Ev M (wE X e) σ H (fun v H1 H2 => ∃ ds, φ ds ∧ PLd X.K ds v H1 H2)) (hg : Gl X "tuple" := by rfl) (he : starEach [e] X.env = (false, eval e X.env) :: starEach [] X.env := by rfl) : Ev M (wE X (.Call (.Name "tuple" p) [e] [] pos)) σ H (PdE X.K fun d => ∃ ds, d = .tuple ds ∧ φ ds) :=
  ev_callTy call_tuple_of hm bt_tuple (ea_of h he) (fun vs H1 H2 g1 g2 ⟨v, e1, ds, hf, t, xs, ev, hs, ha⟩ Q q => by
    subst e1
    subst ev
    exact ⟨t, xs, rfl, .inl ⟨hs, fun l hl => q _ _ (g2.r.new hl) ⟨_, ⟨ds, rfl, hf⟩, Dv.tupN (DvA.sn ha hl) upd_same⟩⟩⟩) hg (by decide) (by decide) he
end
section
variable {P : Program} {w : World} {K : PySem.W.Frag} {mg : Str → Option Value} {base : Heap}
def spCard (K : PySem.W.Frag) : Sp := fun vs H Q _ => ∃ (D l : Addr) (us : List V) (ds : List PyData), vs = [.ref D, .ref l] ∧ Deck H D ∧ l ≠ D ∧ H l = some (.lst us) ∧ DvA K H us ds ∧ 0 < ds.length ∧ ds.length < 1000 ∧ ∀ v H' d, Gr (M1 D) H H' → d ∈ ds → Dv K H' v d → Q v H'
abbrev nCard : List Str := ["_law_deck_here", "_law_items"]
theorem sc_lcard : FnScope nCard ["_law_deck_here", "_law_items"] (defScope st_law_card) := ⟨rfl, rfl, rfl, by decide +kernel, rfl, by decide +kernel, by decide +kernel⟩
theorem ok_lcard (T : Txt w K mg) : C8.Cal P w K mg base 2 "_law_card" (spCard K) [] := by
  refine fn_ok T 29 rfl sc_lcard (fun _ _ _ _ _ _ us hl => match us, hl with | [_, _], _ => rfl) (fun vs H Q E ⟨_, _, _, _, h, _⟩ => by rw [h]; rfl) (fun f cdv A outer s H vs Q E hr ⟨D, l, us, ds, hv, hd, nl, hl, hus, d0, d1, hQ⟩ => ?_)
  subst hv
  have nm : ¬ M1 D l := nl
  exact bl_ret (Gr.one hd) (P := PdE K (· ∈ ds)) (ev_ixE (ev_nmLm 1 hl nm hus) (ev_dealt T hr (by decide) (by omega) (by omega) (ev_nmV 0) (ev_lenL T.f_len (Ev.ml (ev_nmLm 1 hl nm hus))))) (fun v H1 g ⟨d, h1, h2⟩ => hQ v H1 d g h1 h2)
end
section
variable {X : Cx} {σ : L2.St} {H : Hp} {a b : Expr} {pos p : Pos} {ds : List PyData}
theorem ev_card {D : Addr} {j : Nat} (T : Txt X.w X.K X.mg) (hr : Room j X.A) (hk : 2 ≤ j) (d0 : 0 < ds.length) (d1 : ds.length < 1000) (h1 : Ev (M1 D) (wE X a) σ H (Pv (.ref D))) (h2 : Ev (M1 D) (wE X b) σ H (PLm (M1 D) X.K ds)) (hg : Gl X "_law_card" := by rfl)
    (he : starEach [a, b] X.env = (false, eval a X.env) :: starEach [b] X.env := by rfl) (he2 : starEach [b] X.env = (false, eval b X.env) :: starEach [] X.env := by rfl) (hpl : (backTo pos (starEach [b] X.env)).any (·.1) = false := by rfl) :
    Ev (M1 D) (wE X (.Call (.Name "_law_card" p) [a, b] [] pos)) σ H (PdE X.K (· ∈ ds)) :=
  ev_call (ok_lcard T) hr hk (eg_cons (P := Pv (.ref D)) (Ps := [PLm (M1 D) X.K ds]) stb_v (fun P hP => by cases List.mem_singleton.mp hP; exact stb_lm) h1 (eg_cons stb_lm (fun P hP => by cases hP) h2 eg_nil he2) he) (fun vs H1 H2 g1 g2 pa Q q => by
    obtain ⟨w1, _, rfl, e1, w2, _, rfl, ⟨l, us, rfl, nm, hl, hus⟩, rfl⟩ := pa
    obtain rfl : w1 = .ref D := e1
    exact ⟨D, l, us, ds, rfl, deck_g g2, nm, hl, hus, d0, d1, fun v H' d g h1 h2 => q _ _ g ⟨d, h1, h2⟩⟩) hg (by decide) he hpl
end
def cellsOf (n : Nat) : PyData → Prop := fun d => ∃ cs, d = .tuple cs ∧ cs.length = n ∧ CsOk cs
section
variable {P : Program} {w : World} {K : PySem.W.Frag} {mg : Str → Option Value} {base : Heap}
def spLcs (K : PySem.W.Frag) : Sp := fun vs H Q _ => ∃ (D : Addr) (n : Nat), vs = [.ref D, .int (n : Int)] ∧ Deck H D ∧ n ≤ 50000 ∧ ∀ v H' d, Gr (M1 D) H H' → cellsOf n d → Dv K H' v d → Q v H'
abbrev nLcs : List Str := ["_law_deck_here", "_law_many", "_law_turn"]
theorem sc_lcs : FnScope nLcs ["_law_deck_here", "_law_many"] (defScope st_law_cells) := ⟨rfl, rfl, rfl, by decide +kernel, rfl, by decide +kernel, by decide +kernel⟩
theorem cs_of {es : List PyData} (h : ∀ (i : Nat) (d : PyData), es[i]? = some d → ∃ c : Int, d = .int c ∧ 0 ≤ c ∧ c ≤ 996) : CsOk es := by
  induction es with
  | nil => exact ⟨[], rfl, fun c hc => by cases hc⟩
  | cons d es ih =>
    obtain ⟨c, e, c0, c1⟩ := h 0 d rfl
    obtain ⟨ns, e2, h2⟩ := ih fun i d hd => h (i + 1) d hd
    exact ⟨c :: ns, by rw [e, e2]; rfl, fun x hx => (List.mem_cons.mp hx).elim (fun z => z ▸ ⟨c0, c1⟩) (h2 x)⟩
theorem ok_lcs (T : Txt w K mg) : C8.Cal P w K mg base 3 "_law_cells" (spLcs K) [] := by
  refine fn_ok T 30 rfl sc_lcs (fun _ _ _ _ _ _ us hl => match us, hl with | [_, _], _ => rfl) (fun vs H Q E ⟨_, _, h, _⟩ => by rw [h]; rfl) (fun f cdv A outer s H vs Q E hr ⟨D, n, hv, hd, n1, hQ⟩ => ?_)
  subst hv
  have nd := sc_lcs.nd
  refine bl_ret (Gr.one hd) (P := PdE K fun d => ∃ ds, d = .tuple ds ∧ (ds.length = n ∧ CsOk ds)) (ev_tupLE T.f_tuple (Ev.imp ?_ fun v H1 H2 g1 g2 (p : PLE K n (fun _ d => ∃ c : Int, d = PyData.int c ∧ 0 ≤ c ∧ c ≤ 996) v H1 H2) => ?_)) (fun v H1 g ⟨d, ⟨cs, e, h1, h2⟩, h3⟩ => hQ v H1 d g ⟨cs, e, h1, h2⟩ h3)
  · have e : n = (rngD ((n : Int).toNat)).length := by rw [rngD_len, Int.toNat_natCast]
    refine Ev.imp (P := PLE K (rngD ((n : Int).toNat)).length (fun _ d => ∃ c : Int, d = PyData.int c ∧ 0 ≤ c ∧ c ≤ 996)) ?_ (fun v H1 H2 _ _ p => by rw [← e] at p; exact p)
    refine ev_lc (own := [("_law_turn", 2)]) (gt := gName 2) (fun _ d => ∃ c : Int, d = PyData.int c ∧ 0 ≤ c ∧ c ≤ 996) rfl nd (blkOk_by (sc := defScope st_law_cells) (N := nLcs) (by decide +kernel)) (ei_rng (n := (n : Int)) (by omega) (by omega) T.f_range (ev_nm 1 (.int _))) (by rw [rngD_len]; omega) (fun _ _ _ _ _ => pg_name nd rfl (Or.inl rfl)) (fun i d x H2 e g hx Q q => gt_name (q _ rfl (ev_blk fun s H0 C cl fp => ?_)))
    refine Ev.imp (ev_card (ds := [.int 0, .int 1, .int 5, .int 42, .int 996]) T hr (by decide) (by decide) (by decide) (ev_nmV 0) (Ev.lm (ev_lst (ea_cons ev_int (ea_cons ev_int (ea_cons ev_int (ea_cons ev_int (ea_cons ev_int ea_nil))))) (by simp)))) (fun v H1 H2 _ _ ⟨d, hd, hv⟩ => ⟨d, ?_, hv⟩)
    simp only [List.mem_cons, List.not_mem_nil, or_false] at hd
    rcases hd with rfl | rfl | rfl | rfl | rfl <;> exact ⟨_, rfl, by decide, by decide⟩
  · obtain ⟨es, h1, h2, h3⟩ := p
    exact ⟨es, ⟨h1, cs_of h2⟩, pl_pld h3⟩
end
section
variable {X : Cx} {σ : L2.St} {H : Hp} {a b : Expr} {pos p : Pos}
theorem ev_cells {D : Addr} {n : Nat} {j : Nat} (T : Txt X.w X.K X.mg) (hr : Room j X.A) (hk : 3 ≤ j) (n1 : n ≤ 50000) (h1 : Ev (M1 D) (wE X a) σ H (Pv (.ref D))) (h2 : Ev (M1 D) (wE X b) σ H (Pd X.K (.int (n : Int)))) (hg : Gl X "_law_cells" := by rfl)
    (he : starEach [a, b] X.env = (false, eval a X.env) :: starEach [b] X.env := by rfl) (he2 : starEach [b] X.env = (false, eval b X.env) :: starEach [] X.env := by rfl) (hpl : (backTo pos (starEach [b] X.env)).any (·.1) = false := by rfl) :
    Ev (M1 D) (wE X (.Call (.Name "_law_cells" p) [a, b] [] pos)) σ H (PdE X.K (cellsOf n)) :=
  ev_call (ok_lcs T) hr hk (eg_cons (P := Pv (.ref D)) (Ps := [Pd X.K (.int (n : Int))]) stb_v (fun P hP => by cases List.mem_singleton.mp hP; exact stb_d) h1 (eg_cons stb_d (fun P hP => by cases hP) h2 eg_nil he2) he) (fun vs H1 H2 g1 g2 pa Q q => by
    obtain ⟨w1, _, rfl, e1, w2, _, rfl, e2, rfl⟩ := pa
    obtain rfl : w1 = .ref D := e1
    obtain rfl := dv_int e2
    exact ⟨D, n, rfl, deck_g g2, n1, fun v H' d g h1 h2 => q _ _ g ⟨d, h1, h2⟩⟩) hg (by decide) he hpl
/-- the count itself is drawn -/
theorem ev_cellsE {D : Addr} {m : Nat} {j : Nat} (T : Txt X.w X.K X.mg) (hr : Room j X.A) (hk : 3 ≤ j) (n1 : m ≤ 50000) (h1 : Ev (M1 D) (wE X a) σ H (Pv (.ref D))) (h2 : Ev (M1 D) (wE X b) σ H (PdE X.K fun d => ∃ n : Nat, d = .int (n : Int) ∧ n ≤ m)) (hg : Gl X "_law_cells" := by rfl)
    (he : starEach [a, b] X.env = (false, eval a X.env) :: starEach [b] X.env := by rfl) (he2 : starEach [b] X.env = (false, eval b X.env) :: starEach [] X.env := by rfl) (hpl : (backTo pos (starEach [b] X.env)).any (·.1) = false := by rfl) :
    Ev (M1 D) (wE X (.Call (.Name "_law_cells" p) [a, b] [] pos)) σ H (PdE X.K fun d => ∃ n, n ≤ m ∧ cellsOf n d) :=
  ev_call (ok_lcs T) hr hk (eg_cons (P := Pv (.ref D)) (Ps := [PdE X.K fun d => ∃ n : Nat, d = .int (n : Int) ∧ n ≤ m]) stb_v (fun P hP => by cases List.mem_singleton.mp hP; exact stb_e) h1 (eg_cons stb_e (fun P hP => by cases hP) h2 eg_nil he2) he) (fun vs H1 H2 g1 g2 pa Q q => by
    obtain ⟨w1, _, rfl, e1, w2, _, rfl, ⟨d, ⟨n, rfl, hn⟩, e2⟩, rfl⟩ := pa
    obtain rfl : w1 = .ref D := e1
    obtain rfl := dv_int e2
    exact ⟨D, n, rfl, deck_g g2, by omega, fun v H' d g h1 h2 => q _ _ g ⟨d, ⟨n, hn, h1⟩, h2⟩⟩) hg (by decide) he hpl
end
end SR
set_option Elab.async false
set_option linter.all false
set_option maxRecDepth 100000
set_option maxHeartbeats 4000000
/-! more rules: what is drawn -/
namespace SR
open PySem PySem.Spec PyProof.Rows L2
section
variable {M : Addr → Prop} {X : Cx} {σ : L2.St} {H : Hp} {a b o i value e : Expr} {pos pos' p : Pos} {D : Ends} {rest : List Stmt} {β : Type} {f : β → PyData} {m : List (Str × β)}
def anInt : PyData → Prop := fun d => ∃ i : Int, d = .int i
theorem Ev.anInt {te : TE} {K : PySem.W.Frag} {n : Int} (h : Ev M te σ H (PdE K (below n))) : Ev M te σ H (PdE K anInt) := h.imp fun v H1 H2 _ _ ⟨d, ⟨i, e, _⟩, p⟩ => ⟨d, ⟨i, e⟩, p⟩
theorem et_gtE {j : Int} (h1 : Ev M (wE X a) σ H (PdE X.K anInt)) (h2 : Ev M (wE X b) σ H (Pd X.K (.int j))) : EvT M (wT X (.Compare a [.Gt] [b] pos)) σ H (fun _ => True) :=
  fun H1 g Q q => of_pt (pt_cmpR op_gt e_pe e_pe (nomark _)) (h1 H1 g _ fun v H2 g2 ⟨d, ⟨i, e⟩, p⟩ => h2 H2 (g.t g2) _ fun u H3 g3 p3 => by
    subst e
    exact ⟨i, j, dv_int p, dv_int p3, ⟨_, rfl, q _ _ (g2.t g3) trivial⟩⟩)
theorem et_eqE {j : Int} (h1 : Ev M (wE X a) σ H (PdE X.K anInt)) (h2 : Ev M (wE X b) σ H (Pd X.K (.int j))) : EvT M (wT X (.Compare a [.Eq] [b] pos)) σ H (fun _ => True) :=
  fun H1 g Q q => of_pt (pt_cmpR op_eq e_pe e_pe (nomark _)) (h1 H1 g _ fun v H2 g2 ⟨d, ⟨i, e⟩, p⟩ => h2 H2 (g.t g2) _ fun u H3 g3 p3 => by
    subst e
    obtain rfl := dv_int p
    obtain rfl := dv_int p3
    exact ⟨rfl, ⟨_, rfl, q _ _ (g2.t g3) trivial⟩⟩)
/-- o[i] = e with what is drawn -/
theorem bl_dputE {φ : Str → Prop} {ψ : β → Prop} {d : Addr} (g : Gr M H H) (hu : X.A.units + 64 < cLine) (ho : Ev M (wE X o) σ H (Pv (.ref d))) (hd : DW X.K f H d m) (hl : m.length < 100000) (hi : Ev M (wE X i) σ H (PdE X.K fun z => ∃ n, z = .str n ∧ φ n)) (hv : Ev M (wE X value) σ H (PdE X.K fun z => ∃ x, z = f x ∧ ψ x))
    (k : ∀ n x H1 H2, φ n → ψ x → Gr M H H1 → DM H1 d H2 → DW X.K f H2 d (trPut m n x) → wB X rest D σ H2) (hs : swapsWith value (some (.Subscript o i pos')) pos.line X.env = pure false := by rfl) : wB X (.Assign [.Subscript o i pos'] value pos :: rest) D σ H :=
  of_pss (pss_cons (ps_dput (u1 hu) e_pe e_pe e_pe hs) e_pss) (hv H g _ fun v H1 g1 ⟨z1, ⟨x, ex, hx⟩, p1⟩ => ho H1 g1 _ fun y H2 g2 p2 => hi H2 (g1.t g2) _ fun w H3 g3 ⟨z2, ⟨n, en, hn⟩, p3⟩ => by
    subst ex
    subst en
    obtain rfl := p2
    obtain rfl := dv_str p3
    have g13 := (g1.t g2).t g3
    obtain ⟨kvs, e, hk⟩ := hd.g g13
    exact ⟨d, _, rfl, .k (k := Sum.inr n) e (lt_sz (by rw [hk.length]; exact hl)), k n x H3 _ hn hx g13 ⟨_, _, e, rfl⟩ (DW.put e hk (p1.g (g2.t g3)))⟩)
end
/-! names that are drawn -/
def names5 : List Str := ["a", "b", "c", "ab", "z"]
theorem nm5 : ∀ n ∈ names5, nmOk n := by decide +kernel
def aName : PyData → Prop := fun d => ∃ n, d = .str n ∧ nmOk n
theorem aName_of {ns : List Str} (h : ∀ n ∈ ns, nmOk n) {d : PyData} (hd : d ∈ ns.map PyData.str) : aName d := by
  obtain ⟨n, hn, rfl⟩ := List.mem_map.mp hd
  exact ⟨n, rfl, h n hn⟩
section
variable {M : Addr → Prop} {X : Cx} {σ : L2.St} {H : Hp} {pos p1 p2 p3 p4 p5 : Pos}
/-- ["a", "b", "c", "ab", "z"] -/
theorem ev_names5 {j1 j2 j3 j4 j5 : Nat} (h : starEach [.Constant (.str "a") j1 p1, .Constant (.str "b") j2 p2, .Constant (.str "c") j3 p3, .Constant (.str "ab") j4 p4, .Constant (.str "z") j5 p5] X.env = (false, eval (.Constant (.str "a") j1 p1) X.env) :: starEach [.Constant (.str "b") j2 p2, .Constant (.str "c") j3 p3, .Constant (.str "ab") j4 p4, .Constant (.str "z") j5 p5] X.env := by rfl) : Ev M (wE X (.List [.Constant (.str "a") j1 p1, .Constant (.str "b") j2 p2, .Constant (.str "c") j3 p3, .Constant (.str "ab") j4 p4, .Constant (.str "z") j5 p5] pos)) σ H (PL X.K (names5.map PyData.str)) :=
  ev_lst (ea_cons ev_str (ea_cons ev_str (ea_cons ev_str (ea_cons ev_str (ea_cons ev_str ea_nil))))) (by simp [names5])
end
end SR
set_option Elab.async false
set_option linter.all false
set_option maxRecDepth 100000
set_option maxHeartbeats 4000000
/-! the law's own: a tree that is drawn -/
namespace SR
open PySem PySem.Spec PyProof.Rows L2
section
variable {P : Program} {w : World} {K : PySem.W.Frag} {mg : Str → Option Value} {base : Heap}
def spAt (K : PySem.W.Frag) : Sp := fun vs H Q _ => ∃ (D : Addr) (n : Nat), vs = [.ref D, .int (n : Int)] ∧ Deck H D ∧ n ≤ 100 ∧ ∀ (a : Addr) (t : Tr) H', Gr (M1 D) H H' → H a = none → DW K tpl H' a t → TS CsOk t n 5 → Q (.ref a) H'
abbrev nLat : List Str := ["_law_deck_here", "_law_most", "_law_found", "_law_turn"]
theorem sc_lat : FnScope nLat ["_law_deck_here", "_law_most"] (defScope st_law_any_tree) := ⟨rfl, rfl, rfl, by decide +kernel, rfl, by decide +kernel, by decide +kernel⟩
theorem ok_lat (T : Txt w K mg) : C8.Cal P w K mg base 4 "_law_any_tree" (spAt K) [] := by
  refine fn_ok T 37 rfl sc_lat (fun _ _ _ _ _ _ us hl => match us, hl with | [_, _], _ => rfl) (fun vs H Q E ⟨_, _, h, _⟩ => by rw [h]; rfl) (fun f cdv A outer s H vs Q E hr ⟨D, n, hv, hd, n1, hQ⟩ => ?_)
  subst hv
  have nd := sc_lat.nd
  have hu := hu64 hr
  refine bl_set (i := 2) (Gr.one hd) (P := PDN K tpl []) ev_dnil (fun v H1 g1 pv => ?_) nd
  obtain ⟨fa, rfl, fa0, wfa⟩ := pv
  refine bl_forR (gt := gName 3) (Pr := fun k => 0 ≤ k ∧ k < (n : Int) + 1) g1.r rfl rfl T.f_range (pg_name nd rfl (Or.inl rfl)) (Ev.imp (ev_dealt T hr (by decide) (by omega) (by omega) (ev_nmV 0) (ev_add (ev_nm 1 (.int _)) ev_int)) (fun v H1 H2 _ _ ⟨d, ⟨i, e, h⟩, p⟩ => ⟨d, ⟨i, e, h⟩, p⟩)) (fun k h => ⟨by omega, by omega⟩) (fun k H2 g2 hk => ?_)
  refine ⟨fun i σ' H' => ∃ (o3 : Option V) (t : Tr), σ' = [some (.ref D), some (.int (n : Int)), some (.ref fa), o3] ∧ Gr (M1 D) H H' ∧ DW K tpl H' fa t ∧ TS CsOk t i 5, ?_, ?_, ?_⟩
  · exact ⟨none, [], rfl, g1.t g2, wfa.g g2, .nil, Nat.le_refl _, fun q hq => (by cases hq), fun q hq => (by cases hq), fun q hq => (by cases hq)⟩
  · rintro i σ' H' hi ⟨o3, t, rfl, G, hw, ts⟩
    refine gt_name ?_
    have few := ts.few
    refine bl_dputE (f := tpl) (φ := nmOk) (ψ := fun x => x.length ≤ 5 ∧ CsOk x) G.r hu (ev_nmV 2) hw (by omega) (Ev.imp (ev_card (ds := names5.map PyData.str) T hr (by decide) (by decide) (by decide) (ev_nmV 0) (Ev.lm ev_names5)) (fun v H1 H2 _ _ ⟨d, hd, p⟩ => ⟨d, aName_of nm5 hd, p⟩)) (Ev.imp (ev_cellsE (m := 5) T hr (by decide) (by decide) (ev_nmV 0) (Ev.imp (ev_card (ds := [.int 0, .int 1, .int 2, .int 3, .int 5]) T hr (by decide) (by decide) (by decide) (ev_nmV 0) (Ev.lm (ev_lst (ea_cons ev_int (ea_cons ev_int (ea_cons ev_int (ea_cons ev_int (ea_cons ev_int ea_nil))))) (by simp)))) (fun v H1 H2 _ _ ⟨d, hd, p⟩ => ⟨d, ?_, p⟩))) (fun v H1 H2 _ _ ⟨d, ⟨k, hk, cs, e, e2, e3⟩, p⟩ => ⟨d, ⟨cs, e, by omega, e3⟩, p⟩)) (fun nm x H3 H4 hn hx g3 dm wd => bl_nil ⟨_, _, rfl, dm.gr (G.t g3) fa0, wd, ts.put hn hx.1 hx.2⟩)
    simp only [List.mem_cons, List.not_mem_nil, or_false] at hd
    rcases hd with rfl | rfl | rfl | rfl | rfl
    · exact ⟨0, rfl, by decide⟩
    · exact ⟨1, rfl, by decide⟩
    · exact ⟨2, rfl, by decide⟩
    · exact ⟨3, rfl, by decide⟩
    · exact ⟨5, rfl, by decide⟩
  · rintro σ' H' ⟨o3, t, rfl, G, hw, ts⟩
    exact bl_ret G.r (P := Pv (.ref fa)) (ev_nmV 2) (fun v H5 g5 e => by
      obtain rfl : v = .ref fa := e
      exact hQ fa t H5 (G.t g5) fa0 (hw.g g5) (ts.mono (by omega) (Nat.le_refl _)))
end
end SR
set_option Elab.async false
set_option linter.all false
set_option maxRecDepth 100000
set_option maxHeartbeats 4000000
/-! the law's own: a deed that is drawn -/
namespace SR
open PySem PySem.Spec PyProof.Rows L2
section
variable {P : Program} {w : World} {K : PySem.W.Frag} {mg : Str → Option Value} {base : Heap}
def spAd (K : PySem.W.Frag) : Sp := fun vs H Q _ => ∃ (D a : Addr) (t : Tr) (A B : Nat), vs = [.ref D, .ref a] ∧ Deck H D ∧ DW K tpl H a t ∧ TS CsOk t A B ∧ A < 64 ∧ B ≤ 5000 ∧ ∀ v H' (d : Deed), Gr (M1 D) H H' → DeedOk CsOk d → Dv K H' v d.d → Q v H'
abbrev nLad : List Str := ["_law_deck_here", "_law_tree", "_law_names", "_law_name", "_law_way", "_law_many", "_law_at", "_law_one"]
theorem sc_lad : FnScope nLad ["_law_deck_here", "_law_tree"] (defScope st_law_any_deed) := ⟨rfl, rfl, rfl, by decide +kernel, rfl, by decide +kernel, by decide +kernel⟩
theorem shaped_tplC {t : Tr} (h : ∀ q ∈ t, CsOk q.2) : ∀ q ∈ t, SeqAt.shaped (tpl q.2) = true := fun q hq => by
  obtain ⟨ns, e, _⟩ := h q hq
  rw [e]
  refine shaped_tup fun d hd => ?_
  obtain ⟨x, _, rfl⟩ := List.mem_map.mp hd
  exact gd_int x
theorem small_int {l : List Int} {m : Nat} (h : ∀ x ∈ l, 0 ≤ x ∧ x ≤ m) {d : PyData} (hd : d ∈ l.map PyData.int) : ∃ n : Nat, d = .int (n : Int) ∧ n ≤ m := by
  obtain ⟨x, hx, rfl⟩ := List.mem_map.mp hd
  obtain ⟨h0, h1⟩ := h x hx
  exact ⟨x.toNat, by rw [Int.toNat_of_nonneg h0], by omega⟩
theorem others_pos (n : Str) : 0 < ((names5.filter fun x => !decide (x = n)).map PyData.str).length := by
  rw [List.length_map]
  refine List.length_pos_iff.mpr fun z => ?_
  rw [List.filter_eq_nil_iff] at z
  have h1 := z "a" (by decide +kernel)
  have h2 := z "b" (by decide +kernel)
  have e1 : ("a" : Str) = n := by simpa using h1
  have e2 : ("b" : Str) = n := by simpa using h2
  exact absurd (e1.trans e2.symm) (by decide +kernel)
theorem ok_lad (T : Txt w K mg) : C8.Cal P w K mg base 4 "_law_any_deed" (spAd K) [] := by
  refine fn_ok T 38 rfl sc_lad (fun _ _ _ _ _ _ us hl => match us, hl with | [_, _], _ => rfl) (fun vs H Q E ⟨_, _, _, _, _, h, _⟩ => by rw [h]; rfl) (fun f cdv A outer s H vs Q E hr ⟨D, a, t, A0, B0, hv, hd, hw, ts, hA, hB, hQ⟩ => ?_)
  subst hv
  have nd := sc_lad.nd
  have hu := hu64 hr
  have hu7 := hu70 hr
  have few := ts.few
  refine bl_set (i := 2) (Gr.one hd) (P := PL K (names5.map PyData.str)) ev_names5 (fun v H1 g1 pv => ?_) nd
  obtain ⟨l, us, rfl, l0, hl, hus⟩ := pv
  have nl : ¬ M1 D l := (Gr.one hd).nm l0
  have hw1 := hw.g g1
  have lst : ∀ H2, Gr (M1 D) H1 H2 → H2 l = some (.lst us) ∧ DvA K H2 us (names5.map PyData.str) := fun H2 g => ⟨g.k l _ nl hl, hus.g g⟩
  refine bl_set (i := 3) g1.r (P := PdE K aName) (ev_ifP (p := fun b => b = true → t ≠ []) (fun v H0 H1 H2 _ _ h => h) (et_w (ew_andP (p := fun b => b = true → t ≠ []) (q' := fun _ => True) (r := fun b => b = true → t ≠ []) (EvT.imp (et_cv (cv_dNe (f := tpl) (h := tpl) (m := t) (m' := []) hu7 (shaped_tplC ts.cs) (fun q hq => by cases hq)) (ev_nmDR 1 hw1.r) (Ev.nr ev_dnil) (nomark _)) (fun b hb hb2 => ?_)) (fun _ => ew_and1 (et_gtE (ev_dealt T hr (by decide) (by decide) (by decide) (ev_nmV 0) ev_int).anInt ev_int)) (fun h x _ _ => h rfl) (fun _ z => nt z)))
      (fun h => ?_) (fun _ => Ev.imp (ev_card (ds := names5.map PyData.str) T hr (by decide) (by decide) (by decide) (ev_nmV 0) (ev_nmLm 2 hl nl hus)) (fun v H1 H2 _ _ ⟨d, hd, p⟩ => ⟨d, aName_of nm5 hd, p⟩))) (fun v H2 g2 pv => ?_) nd
  · rintro rfl
    rw [hb2] at hb
    exact nf (hb.trans rfl)
  · have tne := h rfl
    have l0 : 0 < ((srt (t.map (·.1))).map PyData.str).length := by
      rw [List.length_map, (srt_perm _).length_eq, List.length_map]
      exact List.length_pos_iff.mpr tne
    refine Ev.imp (ev_card (ds := (srt (t.map (·.1))).map PyData.str) T hr (by decide) l0 ?_ (ev_nmV 0) (Ev.lm (ev_sortD (f := tpl) rfl T.f_sorted (by omega) (ev_nmDR 1 hw1.r)))) (fun v H1 H2 _ _ ⟨d, hd, p⟩ => ⟨d, aName_of (fun n hn => ?_) hd, p⟩)
    · rw [List.length_map, (srt_perm _).length_eq, List.length_map]
      omega
    · obtain ⟨q, hq, rfl⟩ := List.mem_map.mp (srt_mem.mp hn)
      exact ts.nm q hq
  obtain ⟨d, ⟨n, rfl, hn⟩, pv⟩ := pv
  obtain rfl := dv_str pv
  have hw2 := hw1.g g2
  have g12 := g1.t g2
  have hm : ((trGet t n).getD []).length ≤ B0 := by
    cases e : trGet t n with
    | none => exact Nat.zero_le _
    | some x => exact (ts.at e).1
  generalize hmany : ((trGet t n).getD []).length = many at hm
  refine bl_par (i := 4) (j := 5) g2.r (eg_cons (P := PdE K (below 8)) (Ps := [Pd K (.int (many : Int))]) stb_e (fun P hP => by cases List.mem_singleton.mp hP; exact stb_d) (ev_dealt T hr (by decide) (by decide) (by decide) (ev_nmV 0) ev_int) (eg_cons stb_d (fun P hP => by cases hP) (Ev.is (ev_lenT (ds := (trGet t n).getD []) T.f_len (Ev.is (ev_dgetD (f := tpl) hu (ev_nmDR 1 hw2.r) (ev_nm 3 (.str n)) (ev_tup (ds := []) ea_nil (by simp))) (by cases trGet t n <;> rfl))) (by rw [hmany])) eg_nil)) (fun vs H3 g3 pa => ?_) rfl nd
  obtain ⟨w1, _, rfl, ⟨d, ⟨way, rfl, y0, y1⟩, p1⟩, w2, _, rfl, p2, rfl⟩ := pa
  obtain rfl := dv_int p1
  obtain rfl := dv_int p2
  refine ⟨_, _, rfl, ?_⟩
  have g13 := g12.t g3
  have g1to3 := g2.t g3
  -- three that are drawn make a tuple
  have deed3 : ∀ (P1 P2 : PyData → Prop), True := fun _ _ => trivial
  refine bl_when g3.r (et_lt (ev_nm 4 (.int _)) ev_int) (fun _ H4 g4 => ?_) (fun _ H4 g4 => ?_)
  · obtain ⟨hl4, hus4⟩ := lst H4 (g1to3.t g4)
    have cat : ((names5 ++ [n]).map PyData.str) = names5.map PyData.str ++ [PyData.str n] := by rw [List.map_append]; rfl
    refine bl_ret g4.r (P := PTup [Pd K (.str "put"), PdE K aName, PdE K fun d => ∃ k, k ≤ 7 ∧ cellsOf k d]) (ev_tupG (eg_cons stb_d (fun P hP => ?_) ev_str (eg_cons stb_e (fun P hP => by cases List.mem_singleton.mp hP; exact stb_e) (Ev.imp (ev_card (ds := (names5 ++ [n]).map PyData.str) T hr (by decide) (by simp) (by simp [names5]) (ev_nmV 0) (Ev.lm (by rw [cat]; exact ev_catL (ev_nmLm 2 hl4 nl hus4) (Ev.lm (ev_lst (ds := [PyData.str n]) (ea_cons (ev_nm 3 (.str n)) ea_nil) (by simp))) (by simp [names5])))) (fun v H1 H2 _ _ ⟨d, hd, p⟩ => ⟨d, aName_of (fun x hx => ?_) hd, p⟩)) (eg_cons stb_e (fun P hP => by cases hP) (ev_cellsE (m := 7) T hr (by decide) (by decide) (ev_nmV 0) (Ev.imp (ev_card (ds := ([0, 1, 2, 4, 7] : List Int).map PyData.int) T hr (by decide) (by decide) (by decide) (ev_nmV 0) (Ev.lm (ev_lst (ea_cons ev_int (ea_cons ev_int (ea_cons ev_int (ea_cons ev_int (ea_cons ev_int ea_nil))))) (by simp)))) (fun v H1 H2 _ _ ⟨d, hd, p⟩ => ⟨d, small_int (m := 7) (by decide) hd, p⟩))) eg_nil))) (by simp) (fun vs H1 H2 h => PvA_len h)) (fun x H5 g5 px => ?_)
    · rcases List.mem_cons.mp hP with rfl | hP
      · exact stb_e
      · cases List.mem_singleton.mp hP
        exact stb_e
    · rcases List.mem_append.mp hx with hx | hx
      · exact nm5 x hx
      · cases List.mem_singleton.mp hx
        exact hn
    · obtain ⟨tt, vs, Hm, rfl, ht0, ht2, htm, ⟨a1, _, rfl, q1, a2, _, rfl, ⟨d2, ⟨n2, rfl, hn2⟩, q2⟩, a3, _, rfl, ⟨d3, ⟨k, hk, cs, rfl, hcl, hcs⟩, q3⟩, rfl⟩, hup⟩ := px
      refine hQ _ H5 (.put n2 cs) ((g13.t g4).t g5) ⟨hn2, by omega, hcs⟩ ?_
      rw [hup]
      exact Dv.tupN (.cons (Dv.sn q1 htm) (.cons (Dv.sn q2 htm) (.cons (Dv.sn q3 htm) .nil))) upd_same
  · refine bl_when g4.r (et_lt (ev_nm 4 (.int _)) ev_int) (fun _ H5 g5 => ?_) (fun _ H5 g5 => ?_)
    · refine bl_set (i := 6) g5.r (P := PdE K (below ((many : Int) + 1))) (ev_dealt T hr (by decide) (by omega) (by omega) (ev_nmV 0) (ev_add (ev_nm 5 (.int _)) ev_int)) (fun v H6 g6 pv => ?_) nd
      obtain ⟨d, ⟨i, rfl, i0, i1⟩, pv⟩ := pv
      obtain rfl := dv_int pv
      refine bl_ret g6.r (P := PTup [Pd K (.str "patch"), Pd K (.str n), Pd K (.int i), PdE K (below ((many : Int) - i + 1)), PdE K fun d => ∃ k, k ≤ 3 ∧ cellsOf k d]) (ev_tupG (eg_cons stb_d (fun P hP => ?_) ev_str (eg_cons stb_d (fun P hP => ?_) (ev_nm 3 (.str n)) (eg_cons stb_d (fun P hP => ?_) (ev_nm 6 (.int i)) (eg_cons stb_e (fun P hP => by cases List.mem_singleton.mp hP; exact stb_e) (ev_dealt T hr (by decide) (by omega) (by omega) (ev_nmV 0) (ev_add (ev_sub (ev_nm 5 (.int _)) (ev_nm 6 (.int _))) ev_int)) (eg_cons stb_e (fun P hP => by cases hP) (ev_cellsE (m := 3) T hr (by decide) (by decide) (ev_nmV 0) (Ev.imp (ev_card (ds := ([0, 1, 2, 3] : List Int).map PyData.int) T hr (by decide) (by decide) (by decide) (ev_nmV 0) (Ev.lm (ev_lst (ea_cons ev_int (ea_cons ev_int (ea_cons ev_int (ea_cons ev_int ea_nil)))) (by simp)))) (fun v H1 H2 _ _ ⟨d, hd, p⟩ => ⟨d, small_int (m := 3) (by decide) hd, p⟩))) eg_nil))))) (by simp) (fun vs H1 H2 h => PvA_len h)) (fun x H7 g7 px => ?_)
      · simp only [List.mem_cons, List.not_mem_nil, or_false] at hP
        rcases hP with rfl | rfl | rfl | rfl
        · exact stb_d
        · exact stb_d
        · exact stb_e
        · exact stb_e
      · simp only [List.mem_cons, List.not_mem_nil, or_false] at hP
        rcases hP with rfl | rfl | rfl
        · exact stb_d
        · exact stb_e
        · exact stb_e
      · simp only [List.mem_cons, List.not_mem_nil, or_false] at hP
        rcases hP with rfl | rfl
        · exact stb_e
        · exact stb_e
      · obtain ⟨tt, vs, Hm, rfl, ht0, ht2, htm, ⟨a1, _, rfl, q1, a2, _, rfl, q2, a3, _, rfl, q3, a4, _, rfl, ⟨d4, ⟨o, rfl, o0, o1⟩, q4⟩, a5, _, rfl, ⟨d5, ⟨k, hk, cs, rfl, hcl, hcs⟩, q5⟩, rfl⟩, hup⟩ := px
        refine hQ _ H7 (.patch n i.toNat o.toNat cs) (((g13.t g4).t (g5.t g6)).t g7) ⟨hn, by omega, hcs⟩ ?_
        rw [hup]
        show Dv K _ _ (.tuple [.str "patch", .str n, .int ((i.toNat : Nat) : Int), .int ((o.toNat : Nat) : Int), .tuple cs])
        rw [Int.toNat_of_nonneg i0, Int.toNat_of_nonneg o0]
        exact Dv.tupN (.cons (Dv.sn q1 htm) (.cons (Dv.sn q2 htm) (.cons (Dv.sn q3 htm) (.cons (Dv.sn q4 htm) (.cons (Dv.sn q5 htm) .nil))))) upd_same
    · refine bl_when g5.r (et_eqI (ev_nm 4 (.int _)) ev_int) (fun _ H6 g6 => ?_) (fun _ H6 g6 => ?_)
      · exact bl_ret g6.r (P := Pd K (Deed.d (.drop n))) (ev_tup (ea_cons ev_str (ea_cons (ev_nm 3 (.str n)) ea_nil)) (by simp)) (fun v H7 g7 p => hQ v H7 (.drop n) (((g13.t g4).t (g5.t g6)).t g7) hn p)
      · have g46 := (g4.t g5).t g6
        obtain ⟨hl6, hus6⟩ := lst H6 (g1to3.t g46)
        refine bl_ret g6.r (P := PTup [Pd K (.str "rename"), Pd K (.str n), PdE K (· ∈ (names5.filter fun x => !decide (x = n)).map PyData.str)]) (ev_tupG (eg_cons stb_d (fun P hP => ?_) ev_str (eg_cons stb_d (fun P hP => by cases List.mem_singleton.mp hP; exact stb_e) (ev_nm 3 (.str n)) (eg_cons stb_e (fun P hP => by cases hP) (ev_card T hr (by decide) (others_pos n) ?_ (ev_nmV 0) (Ev.lm ?_)) eg_nil))) (by simp) (fun vs H1 H2 h => PvA_len h)) (fun x H7 g7 px => ?_)
        · rcases List.mem_cons.mp hP with rfl | hP
          · exact stb_d
          · cases List.mem_singleton.mp hP
            exact stb_e
        · rw [List.length_map]
          exact Nat.lt_of_le_of_lt (List.length_filter_le _ _) (by decide)
        · refine ev_lcGR (own := [("_law_one", 7)]) (gt := gName 7) (fun i => ((names5.take i).filter fun x => !decide (x = n)).map PyData.str) (by simp) (by rw [List.length_map, List.take_length]) rfl nd (blkOk_by (sc := defScope st_law_any_deed) (N := nLad) (by decide +kernel)) (ei_list (ev_nmLm 2 hl6 nl hus6)) (by simp [names5]) (fun _ _ _ _ _ => pg_name nd rfl (Or.inl rfl)) (fun s H0 C cl fp => pts_one (tb_pt s H0 C cl fp)) (fun i d x H8 e g8 hx Q q => gt_name ?_)
          rw [List.getElem?_map] at e
          obtain ⟨z, hz, rfl⟩ := Option.map_eq_some_iff.mp e
          refine q _ (!decide (z = n)) (.str z) rfl (et_blk fun s H0 C cl fp => et_neS (ev_nm 7 hx) (ev_nm 3 (.str n))) (fun _ => ev_blk fun s H0 C cl fp => ev_nm 7 hx) ?_
          show ((names5.take (i + 1)).filter fun x => !decide (x = n)).map PyData.str = _
          rw [take_snoc hz, List.filter_append, List.map_append, List.filter_cons, List.filter_nil]
          cases (!decide (z = n)) <;> simp
        · obtain ⟨tt, vs, Hm, rfl, ht0, ht2, htm, ⟨a1, _, rfl, q1, a2, _, rfl, q2, a3, _, rfl, ⟨d3, h3, q3⟩, rfl⟩, hup⟩ := px
          obtain ⟨m, hm2, rfl⟩ := List.mem_map.mp h3
          obtain ⟨hm3, hm4⟩ := List.mem_filter.mp hm2
          have hm5 : n ≠ m := by
            intro z
            rw [z] at hm4
            simp at hm4
          refine hQ _ H7 (.rename n m) ((g13.t g46).t g7) ⟨hn, nm5 m hm3, hm5⟩ ?_
          rw [hup]
          exact Dv.tupN (.cons (Dv.sn q1 htm) (.cons (Dv.sn q2 htm) (.cons (Dv.sn q3 htm) .nil))) upd_same
end
end SR
set_option Elab.async false
set_option linter.all false
set_option maxRecDepth 100000
set_option maxHeartbeats 4000000
/-! the law's own: a run that is drawn -/
namespace SR
open PySem PySem.Spec PyProof.Rows L2
/-- deeds done one after the other -/
structure Done (Tt : Nat → Tr) (t : Tr) (ds : List Deed) : Prop where
  z : Tt 0 = t
  step : ∀ (i : Nat) (d : Deed), ds[i]? = some d → doneF (Tt i) d = some (Tt (i + 1))
  ok : ∀ d ∈ ds, DeedOk CsOk d
theorem Done.nil (t : Tr) : Done (fun _ => t) t [] := ⟨rfl, fun i d h => by simp at h, fun d h => by cases h⟩
theorem Done.snoc {Tt : Nat → Tr} {t t' : Tr} {ds : List Deed} {d : Deed} (h : Done Tt t ds) (e : doneF (Tt ds.length) d = some t') (hd : DeedOk CsOk d) : Done (fun i => if i ≤ ds.length then Tt i else t') t (ds ++ [d]) := by
  refine ⟨by show (if 0 ≤ ds.length then Tt 0 else t') = t; rw [if_pos (Nat.zero_le _)]; exact h.z, fun i d' hi => ?_, fun d' hd' => ?_⟩
  · show doneF (if i ≤ ds.length then Tt i else t') d' = some (if i + 1 ≤ ds.length then Tt (i + 1) else t')
    by_cases z : i < ds.length
    · rw [List.getElem?_append_left z] at hi
      rw [if_pos (Nat.le_of_lt z), if_pos (show i + 1 ≤ ds.length from z)]
      exact h.step i d' hi
    · rw [List.getElem?_append_right (by omega)] at hi
      have hi0 : i - ds.length = 0 := by
        have := (List.getElem?_eq_some_iff.mp hi).1
        simp at this
        omega
      rw [hi0] at hi
      cases hi
      have e1 : i = ds.length := by omega
      subst e1
      rw [if_pos (Nat.le_refl _), if_neg (by omega)]
      exact e
  · rcases List.mem_append.mp hd' with h1 | h1
    · exact h.ok d' h1
    · cases List.mem_singleton.mp h1
      exact hd
section
variable {P : Program} {w : World} {K : PySem.W.Frag} {mg : Str → Option Value} {base : Heap}
def spRun (K : PySem.W.Frag) : Sp := fun vs H Q _ => ∃ (D a : Addr) (t : Tr) (n : Nat), vs = [.ref D, .ref a, .int (n : Int)] ∧ Deck H D ∧ DW K tpl H a t ∧ TS CsOk t 4 5 ∧ n ≤ 9 ∧
  ∀ (l : Addr) (us : List V) (Tt : Nat → Tr) (ds : List Deed) H', Gr (M1 D) H H' → H l = none → H' l = some (.lst us) → DvA K H' us (ds.map Deed.d) → ds.length ≤ n → Done Tt t ds → (∀ i, i ≤ ds.length → TS CsOk (Tt i) (4 + i) (5 + 10 * i)) → Q (.ref l) H'
abbrev nLrun : List Str := ["_law_deck_here", "_law_tree", "_law_many", "_law_found", "_law_here", "_law_turn", "_law_deed", "_law_later"]
theorem sc_lrun : FnScope nLrun ["_law_deck_here", "_law_tree", "_law_many"] (defScope st_law_run) := ⟨rfl, rfl, rfl, by decide +kernel, rfl, by decide +kernel, by decide +kernel⟩
theorem ok_lrun (T : Txt w K mg) : C8.Cal P w K mg base 5 "_law_run" (spRun K) [] := by
  refine fn_ok T 39 rfl sc_lrun (fun _ _ _ _ _ _ us hl => match us, hl with | [_, _, _], _ => rfl) (fun vs H Q E ⟨_, _, _, _, h, _⟩ => by rw [h]; rfl) (fun f cdv A outer s H vs Q E hr ⟨D, a, t, n, hv, hd, hw, ts, n1, hQ⟩ => ?_)
  subst hv
  have nd := sc_lrun.nd
  have hu := hu64 hr
  refine bl_par (i := 3) (j := 4) (Gr.one hd) (eg_cons (P := PL K []) (Ps := [Pv (.ref a)]) stb_l (fun P hP => by cases List.mem_singleton.mp hP; exact stb_v) (ev_lst ea_nil (by simp)) (eg_cons stb_v (fun P hP => by cases hP) (ev_nmV 1) eg_nil)) (fun vs H1 g1 pa => ?_) rfl nd
  obtain ⟨w1, _, rfl, ⟨l, us0, rfl, hl0, hl, hz⟩, w2, _, rfl, p2, rfl⟩ := pa
  cases hz
  obtain rfl : w2 = .ref a := p2
  refine ⟨_, _, rfl, ?_⟩
  have nm : ¬ M1 D l := (Gr.one hd).nm hl0
  refine bl_forR (gt := gName 5) (Pr := fun k => k = (n : Int)) g1.r rfl rfl T.f_range (pg_name nd rfl (Or.inl rfl)) ((ev_nm 2 (.int _)).imp fun v H1 H2 _ _ p => ⟨_, ⟨_, rfl, rfl⟩, p⟩) (fun k h => ⟨by omega, by omega⟩) (fun k H2 g2 hk => ?_)
  subst hk
  refine ⟨fun i σ' H' => ∃ (o5 o6 o7 : Option V) (r : Addr) (us : List V) (Tt : Nat → Tr) (ds : List Deed), σ' = [some (.ref D), some (.ref a), some (.int (n : Int)), some (.ref l), some (.ref r), o5, o6, o7] ∧ Gr (M1 D) H H' ∧ H' l = some (.lst us) ∧ DvA K H' us (ds.map Deed.d) ∧ ds.length ≤ i ∧ Done Tt t ds ∧ (∀ i, i ≤ ds.length → TS CsOk (Tt i) (4 + i) (5 + 10 * i)) ∧ DW K tpl H' r (Tt ds.length), ?_, ?_, ?_⟩
  · exact ⟨none, none, none, a, [], fun _ => t, [], rfl, g1.t g2, g2.k l _ nm hl, .nil, Nat.le_refl _, Done.nil t, fun i hi => ts.mono (by omega) (by omega), (hw.g g1).g g2⟩
  · rintro i σ' H' hi ⟨o5, o6, o7, r, us, Tt, ds, rfl, G, hl1, hus, hlen, dn, tsA, hr0⟩
    have hi : i < n := by omega
    refine gt_name ?_
    have tsn := tsA ds.length (Nat.le_refl _)
    refine bl_set (i := 6) G.r (P := fun v _ H2 => ∃ d : Deed, DeedOk CsOk d ∧ Dv K H2 v d.d) (ev_call (ok_lad T) hr (by decide) (eg_cons (P := Pv (.ref D)) (Ps := [Pv (.ref r)]) stb_v (fun P hP => by cases List.mem_singleton.mp hP; exact stb_v) (ev_nmV 0) (eg_cons stb_v (fun P hP => by cases hP) (ev_nmV 4) eg_nil)) (fun vs H3 H4 g3 g4 pa Q q => by
      obtain ⟨w1, _, rfl, e1, w2, _, rfl, e2, rfl⟩ := pa
      obtain rfl : w1 = .ref D := e1
      obtain rfl : w2 = .ref r := e2
      exact ⟨D, r, Tt ds.length, _, _, rfl, deck_g g4, hr0.g (g3.t g4), tsn, by omega, by omega, fun v H' d g h1 h2 => q _ _ g ⟨d, h1, h2⟩⟩)) (fun v H3 g3 pv => ?_) nd
    obtain ⟨d, dok, hdv⟩ := pv
    have hr3 := hr0.g g3
    have hl3 := g3.k l _ nm hl1
    have hus3 := hus.g g3
    have G3 := G.t g3
    have cl : d.cells.length ≤ 10000 := by
      cases d with
      | put m cs => have := dok.2.1; show cs.length ≤ 10000; omega
      | patch m x y cs => have := dok.2.1; show cs.length ≤ 10000; omega
      | drop m => exact Nat.zero_le _
      | rename m m' => exact Nat.zero_le _
    have call : ∀ (Po : PV), (∀ H4 H5, Gr (M1 D) H3 H4 → Gr (M1 D) H4 H5 → ∀ Q : VK, (∀ v H6, Gr (M1 D) H5 H6 → Po v H4 H6 → Q v H6) → outF K H5 Q (doneF (Tt ds.length) d)) → Ev (M1 D) (wE (cX P w K mg base nLrun "_law_run" st_law_run f cdv A outer s H E) (match (match (defBody st_law_run)[1]? with | some (Stmt.For _ _ b _ _) => b | _ => [])[1]? with | some (Stmt.Assign _ e _) => e | _ => .Constant .none 0 ⟨0, 0, 0, 0⟩)) [some (.ref D), some (.ref a), some (.int (n : Int)), some (.ref l), some (.ref r), some (.int (i : Int)), some v, o7] H3 Po := by
      intro Po hPo
      exact ev_call (ok_ldone T) hr (by decide) (eg_cons (P := Pv (.ref r)) (Ps := [Pd K d.d]) stb_v (fun P hP => by cases List.mem_singleton.mp hP; exact stb_d) (ev_nmV 4) (eg_cons stb_d (fun P hP => by cases hP) (ev_nm 6 hdv) eg_nil)) (fun vs H4 H5 g4 g5 pa Q q => by
        obtain ⟨w1, _, rfl, e1, w2, _, rfl, e2, rfl⟩ := pa
        obtain rfl : w1 = .ref r := e1
        have gg := g4.t g5
        exact ⟨r, w2, Tt ds.length, d, rfl, hr3.g gg, e2, tsn.nd, by have := tsn.few; omega, fun q hq => Nat.le_trans (tsn.len q hq) (by omega), cl, hPo H4 H5 g4 g5 Q q⟩)
    cases e : doneF (Tt ds.length) d with
    | none =>
      refine bl_set (i := 7) g3.r (P := Pv .non) (call (Pv .non) (fun H4 H5 g4 g5 Q q => by
        rw [e]
        exact fun H6 g6 => q _ _ (g6.up g5.b) rfl)) (fun v2 H4 g4 p4 => ?_) nd
      obtain rfl : v2 = .non := p4
      refine bl_when g4.r (EvT.is (c := false) (et_notN (n := true) (ev_nmV 7) (fun v H1 H2 p => by subst p; rfl)) rfl) (fun z => nf z) (fun _ H5 g5 => bl_nil ?_)
      have g35 := g4.t g5
      exact ⟨_, _, _, r, us, Tt, ds, rfl, G3.t g35, g35.k l _ nm hl3, hus3.g g35, by omega, dn, tsA, hr3.g g35⟩
    | some t' =>
      refine bl_set (i := 7) g3.r (P := PDN K tpl t') (call (PDN K tpl t') (fun H4 H5 g4 g5 Q q => by
        rw [e]
        exact fun r2 H6 g6 r0 hw => q _ _ (g6.up g5.b) ⟨r2, rfl, g5.back r0, hw⟩)) (fun v2 H4 g4 p4 => ?_) nd
      obtain ⟨r2, rfl, r20, hw4⟩ := p4
      refine bl_when g4.r (EvT.is (c := true) (et_notN (n := false) (ev_nmV 7) (fun v H1 H2 p => by subst p; rfl)) rfl) (fun _ H5 g5 => ?_) (fun z => nt z)
      have g35 := g4.t g5
      have hl5 := g35.k l _ nm hl3
      refine bl_app (i := 3) (P := Pd K d.d) g5.r rfl hl5 nm (by rw [hus.length, List.length_map]; omega) (ev_nm 6 (hdv.g g35)) (fun y H6 g6 py hl6 => ?_)
      have G6 := (G3.t g35).t g6
      have nrl : r2 ≠ l := by
        obtain ⟨o, eo⟩ : ∃ o, H3 l = some o := ⟨_, hl3⟩
        exact (ne_of_none eo r20).symm
      have hw7 : DW K tpl (upd H6 l (.lst (us ++ [y]))) r2 t' := by
        obtain ⟨kv, z1, z2⟩ := (hw4.g g5).g g6
        exact ⟨kv, by rw [upd_ne nrl]; exact z1, z2.st hl6⟩
      refine bl_set (i := 4) (G6.mut hl0).r (P := Pv (.ref r2)) (ev_nmV 7) (fun v3 H7 g7 e7 => bl_nil (bl_nil ?_)) nd
      obtain rfl : v3 = .ref r2 := e7
      refine ⟨_, _, _, r2, us ++ [y], fun i => if i ≤ ds.length then Tt i else t', ds ++ [d], rfl, (G6.mut hl0).t g7, g7.k l _ nm upd_same, ?_, by simp; omega, dn.snoc e dok, fun j hj => ?_, ?_⟩
      · rw [List.map_append]
        exact (((((hus3.g g35).g g6).app (.cons py .nil)).st hl6)).g g7
      · rw [List.length_append, List.length_singleton] at hj
        show TS CsOk (if j ≤ ds.length then Tt j else t') _ _
        by_cases z : j ≤ ds.length
        · rw [if_pos z]
          exact tsA j z
        · rw [if_neg z]
          have e1 : j = ds.length + 1 := by omega
          rw [e1]
          exact (done_ts cld_cs tsn dok e).mono (by omega) (by omega)
      · rw [List.length_append, List.length_singleton]
        show DW K tpl H7 r2 (if ds.length + 1 ≤ ds.length then Tt (ds.length + 1) else t')
        rw [if_neg (by omega)]
        exact hw7.g g7
  · rintro σ' H' ⟨o5, o6, o7, r, us, Tt, ds, rfl, G, hl1, hus, hlen, dn, tsA, hr0⟩
    exact bl_ret G.r (P := Pv (.ref l)) (ev_nmV 3) (fun v H5 g5 e => by
      obtain rfl : v = .ref l := e
      exact hQ l us Tt ds H5 (G.t g5) hl0 (g5.k l _ nm hl1) (hus.g g5) (by omega) dn tsA)
end
end SR
set_option Elab.async false
set_option linter.all false
set_option maxRecDepth 100000
set_option maxHeartbeats 4000000
/-! the law's own: another tree -/
namespace SR
open PySem PySem.Spec PyProof.Rows L2
theorem put_keys_same {β : Type} {t : List (Str × β)} {n : Str} {x : β} (h : (trGet t n).isSome = true) : (trPut t n x).map (·.1) = t.map (·.1) := by
  unfold trPut
  rw [if_pos (by rw [any_of_get]; exact h), List.map_map]
  refine List.map_congr_left fun q _ => ?_
  show (if q.1 = n then (q.1, x) else q).1 = q.1
  split <;> rfl
section
variable {P : Program} {w : World} {K : PySem.W.Frag} {mg : Str → Option Value} {base : Heap}
def spOt (K : PySem.W.Frag) : Sp := fun vs H Q _ => ∃ (D a b : Addr) (m : List (Str × Option Nat)), vs = [.ref D, .ref a, .ref b] ∧ Deck H D ∧ DW K askD H a m ∧ m.length ≤ 27 ∧ (m.map (·.1)).Nodup ∧ (∀ q ∈ m, nmOk q.1) ∧ (∀ q ∈ m, ∀ l, q.2 = some l → l ≤ 10) ∧
  ∀ (r : Addr) (t : Tr) H', Gr (M1 D) H H' → H r = none → DW K tpl H' r t → TS CsOk t 36 60 → Q (.ref r) H'
abbrev nLot : List Str := ["_law_deck_here", "_law_asks", "_law_tree", "_law_found", "_law_name"]
theorem sc_lot : FnScope nLot ["_law_deck_here", "_law_asks", "_law_tree"] (defScope st_law_other_tree) := ⟨rfl, rfl, rfl, by decide +kernel, rfl, by decide +kernel, by decide +kernel⟩
def otBody : List Stmt := match (defBody st_law_other_tree)[1]? with
  | some (Stmt.For _ _ b _ _) => b
  | _ => []
theorem ok_lot (T : Txt w K mg) : C8.Cal P w K mg base 5 "_law_other_tree" (spOt K) [] := by
  refine fn_ok T 44 rfl sc_lot (fun _ _ _ _ _ _ us hl => match us, hl with | [_, _, _], _ => rfl) (fun vs H Q E ⟨_, _, _, _, h, _⟩ => by rw [h]; rfl) (fun f cdv A outer s H vs Q E hr ⟨D, a, b, m, hv, hd, hw, m27, mnd, mnm, m10, hQ⟩ => ?_)
  subst hv
  have nd := sc_lot.nd
  have hu := hu64 hr
  have hu7 := hu70 hr
  obtain ⟨kvs, ha, hk⟩ := hw
  have na : ¬ M1 D a := (Gr.one hd).notD ha fun _ z => nomatch z
  refine bl_set (i := 3) (Gr.one hd) (P := fun v H1 H2 => ∃ (r : Addr) (t : Tr), v = .ref r ∧ H1 r = none ∧ DW K tpl H2 r t ∧ TS CsOk t 4 5) (ev_call (ok_lat T) hr (by decide) (eg_cons (P := Pv (.ref D)) (Ps := [Pd K (.int 4)]) stb_v (fun P hP => by cases List.mem_singleton.mp hP; exact stb_d) (ev_nmV 0) (eg_cons stb_d (fun P hP => by cases hP) ev_int eg_nil)) (fun vs H1 H2 g1 g2 pa Q q => by
    obtain ⟨w1, _, rfl, e1, w2, _, rfl, e2, rfl⟩ := pa
    obtain rfl : w1 = .ref D := e1
    obtain rfl := dv_int e2
    exact ⟨D, 4, rfl, deck_g g2, by decide, fun r t H' g r0 hw ts => q _ _ g ⟨r, t, rfl, g2.back r0, hw, ts⟩⟩)) (fun v H1 g1 pv => ?_) nd
  obtain ⟨fa, t0, rfl, fa0, hfa, ts0⟩ := pv
  have ha1 : H1 a = some (.dK kvs) := g1.k a _ na ha
  have nfa : fa ≠ a := (ne_of_none ha fa0).symm
  refine bl_forK (gt := gName 4) (d := a) (kvs := kvs) g1.r rfl rfl (pg_name nd rfl (Or.inl rfl)) ha1 (fun od => ev_nmV 1) (fun od H2 g2 => ?_)
  have GL := gr_lock (od := od) g1 ha
  have faL : (lkd H a od kvs) fa = none := by rw [lk_ne nfa]; exact fa0
  refine ⟨fun i σ' H' => ∃ (o4 : Option V) (t : Tr), σ' = [some (.ref D), some (.ref a), some (.ref b), some (.ref fa), o4] ∧ Gr (M1 D) (lkd H a od kvs) H' ∧ KD K askD H' kvs m ∧ DW K tpl H' fa t ∧ TS CsOk t (4 + i) 10, ?_, fun i σ' H' _ ⟨_, _, _, G, _⟩ => G.k a _ na lk_same, ?_, ?_⟩
  · exact ⟨none, t0, rfl, GL.t g2, ((hk.g g1).lk ha1).g g2, (hfa.lk nfa ha1).g g2, ts0.mono (by omega) (by omega)⟩
  · rintro i k x σ' H' hkx ⟨o4, t, rfl, G, hkd, hw, ts⟩
    have hi : i < m.length := by
      rw [← hkd.length]
      exact (List.getElem?_eq_some_iff.mp hkx).1
    obtain ⟨z, hz⟩ : ∃ z, m[i]? = some z := ⟨_, List.getElem?_eq_getElem hi⟩
    obtain ⟨v', ev1, _⟩ := hkd.at hz
    rw [hkx] at ev1
    cases ev1
    obtain ⟨n, tl⟩ := z
    have hzm := List.mem_of_getElem? hz
    have hget : trGet m n = some tl := get_of_mem (q := (n, tl)) mnd hzm
    refine gt_name ?_
    show wB _ _ _ [some (.ref D), some (.ref a), some (.ref b), some (.ref fa), some (.str n)] H'
    have few := ts.few
    have cont : ∀ (De : Ends) H3 t3, Gr (M1 D) (lkd H a od kvs) H3 → KD K askD H3 kvs m → DW K tpl H3 fa t3 → TS CsOk t3 (4 + i) 10 →
        (∀ H4 t4, Gr (M1 D) (lkd H a od kvs) H4 → KD K askD H4 kvs m → DW K tpl H4 fa t4 → TS CsOk t4 (4 + (i + 1)) 10 → De.nx [some (.ref D), some (.ref a), some (.ref b), some (.ref fa), some (.str n)] H4) →
        wB (cX P w K mg base nLot "_law_other_tree" st_law_other_tree f cdv A outer s H E) (otBody.drop 1) De [some (.ref D), some (.ref a), some (.ref b), some (.ref fa), some (.str n)] H3 := by
      intro De H3 t3 G3 hk3 hw3 ts3 fin
      have hdr : DR K askD H3 a m := ⟨kvs, .inr ⟨od, G3.k a _ na lk_same⟩, hk3⟩
      have few3 := ts3.few
      refine bl_when G3.r (et_notN (n := tl.isNone) (ev_dget (f := askD) hu (ev_nmDR 1 hdr) (ev_nm 4 (.str n)) hget) (fun v H1 H2 p => (non_d p).trans (isNon_ask tl))) (fun c H4 g4 => ?_) (fun c H4 g4 => ?_)
      · cases tl with
        | none => exact nt c.symm
        | some l =>
          have hl10 := m10 (n, some l) hzm l rfl
          refine bl_dputE (f := tpl) (φ := fun y => y = n) (ψ := fun y => y.length = l ∧ CsOk y) g4.r hu (ev_nmV 3) (hw3.g g4) (by omega) ((ev_nm 4 (.str n)).imp fun v H1 H2 _ _ p => ⟨_, ⟨n, rfl, rfl⟩, p⟩) (Ev.imp (ev_cells (n := l) T hr (by decide) (by omega) (ev_nmV 0) (ev_dget (f := askD) hu (ev_nmDR 1 (hdr.g g4)) (ev_nm 4 (.str n)) hget)) (fun v H1 H2 _ _ ⟨d, ⟨cs, e, h1, h2⟩, p⟩ => ⟨d, ⟨cs, e, h1, h2⟩, p⟩)) (fun n' y H5 H6 hn hy g5 dm wd => bl_nil (bl_nil ?_))
          subst hn
          exact fin H6 _ (dm.gr ((G3.t g4).t g5) faL) (((hk3.g g4).g g5).imp fun v d z => dm.dv z) wd (ts3.put (mnm _ hzm) (by omega) hy.2)
      · exact bl_nil (fin H4 t3 (G3.t g4) (hk3.g g4) (hw3.g g4) (ts3.mono (by omega) (Nat.le_refl _)))
    refine bl_dpopE (f := tpl) G.r (ev_nmV 3) hw (ev_nm 4 (.str n)) ev_non (fun H3 H4 g3 dm wd => ?_) (fun H3 g3 en => ?_)
    · exact cont _ H4 _ (dm.gr (G.t g3) faL) ((hkd.g g3).imp fun v d z => dm.dv z) wd (ts.drop n) (fun H5 t5 G5 a1 a2 a3 => ⟨_, t5, rfl, G5, a1, a2, a3⟩)
    · exact cont _ H3 t (G.t g3) (hkd.g g3) (hw.g g3) ts (fun H5 t5 G5 a1 a2 a3 => ⟨_, t5, rfl, G5, a1, a2, a3⟩)
  · rintro σ' H' ⟨o4, t, rfl, G, hkd, hw, ts⟩
    have hfz : H' a = some (.frz od (.dK kvs)) := G.k a _ na lk_same
    have G3 : Gr (M1 D) H (upd H' a (.dK kvs)) := gr_unlock (Gr.one hd) ha G
    have hask : DW K askD (upd H' a (.dK kvs)) a m := ⟨kvs, upd_same, hkd.imp fun v d z => z.ul hfz⟩
    have hw3 : DW K tpl (upd H' a (.dK kvs)) fa t := by
      obtain ⟨kv, z1, z2⟩ := hw
      exact ⟨kv, by rw [upd_ne nfa]; exact z1, z2.imp fun v d z => z.ul hfz⟩
    generalize upd H' a (.dK kvs) = H3 at G3 hask hw3
    rw [hkd.length] at ts
    have few := ts.few
    refine bl_forL (gt := gName 4) (P := PL K (t.map fun q => .str q.1)) G3.r rfl rfl (pg_name nd rfl (Or.inl rfl)) (ev_listD (f := tpl) rfl T.f_list (ev_nmDR 3 hw3.r)) (fun v H4 g4 pv => ?_)
    obtain ⟨l, xs, rfl, l0, hl, hxs⟩ := pv
    have exs : xs = (t.map (·.1)).map V.str := by
      have : DvA K H4 xs ((t.map (·.1)).map PyData.str) := by
        rw [List.map_map]
        exact hxs
      exact dvA_strs this
    subst exs
    have l0H : H l = none := G3.back l0
    have nl : ¬ M1 D l := (Gr.one hd).nm l0H
    refine ⟨l, _, rfl, fun i σ' H' => ∃ (o4 : Option V) (t' : Tr), σ' = [some (.ref D), some (.ref a), some (.ref b), some (.ref fa), o4] ∧ Gr (M1 D) H H' ∧ H' l = some (.lst ((t.map (·.1)).map V.str)) ∧ DW K askD H' a m ∧ DW K tpl H' fa t' ∧ t'.map (·.1) = t.map (·.1) ∧ TS CsOk t' 31 (10 + i), ?_, fun i σ' H' _ ⟨_, _, _, _, h, _⟩ => .inl (.inl h), ?_, ?_⟩
    · exact ⟨_, t, rfl, G3.t g4, hl, hask.g g4, hw3.g g4, rfl, ts.mono (by omega) (by omega)⟩
    · rintro i x σ' H' hx ⟨o4, t', rfl, G, hl', hask', hw', hkeys, ts'⟩
      rw [List.getElem?_map] at hx
      obtain ⟨n, hn, rfl⟩ := Option.map_eq_some_iff.mp hx
      have hi : i < t.length := by
        have := (List.getElem?_eq_some_iff.mp hn).1
        rw [List.length_map] at this
        exact this
      have hmem : n ∈ t'.map (·.1) := by
        rw [hkeys]
        exact List.mem_of_getElem? hn
      have few' := ts'.few
      obtain ⟨cs0, hcs0⟩ := get_in hmem
      obtain ⟨len0, _⟩ := ts'.at hcs0
      have nmn : nmOk n := ts'.nm _ (get_some_mem hcs0)
      have nfl : fa ≠ l := fun z => by
        obtain ⟨kv, z1, _⟩ := hw'
        rw [z, hl'] at z1
        cases z1
      refine gt_name ?_
      show wB _ _ _ [some (.ref D), some (.ref a), some (.ref b), some (.ref fa), some (.str n)] H'
      refine bl_when G.r (et_eqE (ev_dealt T hr (by decide) (by decide) (by decide) (ev_nmV 0) ev_int).anInt ev_int) (fun _ H5 g5 => ?_) (fun _ H5 g5 => bl_nil ⟨_, t', rfl, G.t g5, g5.k l _ nl hl', hask'.g g5, hw'.g g5, hkeys, ts'.mono (Nat.le_refl _) (by omega)⟩)
      refine bl_dputE (f := tpl) (φ := fun y => y = n) (ψ := fun y => y.length = cs0.length + 1 ∧ CsOk y) g5.r hu (ev_nmV 3) (hw'.g g5) (by omega) ((ev_nm 4 (.str n)).imp fun v H1 H2 _ _ p => ⟨_, ⟨n, rfl, rfl⟩, p⟩) (Ev.imp (ev_cells (n := cs0.length + 1) T hr (by decide) (by omega) (ev_nmV 0) (Ev.is (ev_add (ev_lenT (ds := cs0) T.f_len (ev_dget (f := tpl) hu (ev_nmDR 3 (hw'.g g5).r) (ev_nm 4 (.str n)) hcs0)) ev_int) (by rw [Int.natCast_add]; rfl))) (fun v H1 H2 _ _ ⟨d, ⟨cs, e, h1, h2⟩, p⟩ => ⟨d, ⟨cs, e, h1, h2⟩, p⟩)) (fun n' y H6 H7 hn hy g6 dm wd => bl_nil (bl_nil ?_))
      subst hn
      have hs : (trGet t' n').isSome = true := by rw [hcs0]; rfl
      have tsp := (ts'.mono (Nat.le_refl 31) (show 10 + i ≤ 10 + (i + 1) by omega)).put (x := y) nmn (by omega) hy.2
      refine ⟨_, _, rfl, dm.gr ((G.t g5).t g6) fa0, ?_, dm.dw nfa.symm ((hask'.g g5).g g6), wd, (put_keys_same hs).trans hkeys, ⟨tsp.nd, ?_, tsp.len, tsp.nm, tsp.cs⟩⟩
      · rw [dm.ne (Ne.symm nfl)]
        exact (g5.t g6).k l _ nl hl'
      · have e1 := congrArg List.length (put_keys_same (x := y) hs)
        rw [List.length_map, List.length_map] at e1
        omega
    · rintro σ' H' ⟨o4, t', rfl, G, hl', hask', hw', hkeys, ts'⟩
      rw [List.length_map, List.length_map] at ts'
      have ts2 : TS CsOk t' 31 50 := ts'.mono (Nat.le_refl _) (by omega)
      have few2 := ts2.few
      have done : ∀ (De : Ends) σ5 H5 t5, σ5 = [some (.ref D), some (.ref a), some (.ref b), some (.ref fa), σ5.getD 4 none] → De.rt = Q → Gr (M1 D) H H5 → DW K tpl H5 fa t5 → TS CsOk t5 36 60 → wB (cX P w K mg base nLot "_law_other_tree" st_law_other_tree f cdv A outer s H E) ((defBody st_law_other_tree).drop 4) De σ5 H5 := by
        intro De σ5 H5 t5 eσ eD G5 hw5 ts5
        rw [eσ]
        refine bl_ret G5.r (P := Pv (.ref fa)) (ev_nmV 3) (fun v H6 g6 e => ?_)
        obtain rfl : v = .ref fa := e
        rw [eD]
        exact hQ fa t5 H6 (G5.t g6) fa0 (hw5.g g6) ts5
      refine bl_when G.r (et_w (ew_andP (p := fun b => b = true → m ≠ []) (q' := fun _ => True) (r := fun b => b = true → m ≠ []) (EvT.imp (et_cv (cv_dNe (f := askD) (h := askD) (m := m) (m' := []) hu7 (fun q _ => shaped_ask q.2) (fun q hq => by cases hq)) (ev_nmDR 1 hask'.r) (Ev.nr ev_dnil) (nomark _)) (fun b hb hb2 => ?_)) (fun _ => ew_and1 (et_eqE (ev_dealt T hr (by decide) (by decide) (by decide) (ev_nmV 0) ev_int).anInt ev_int)) (fun h x _ _ => h rfl) (fun _ z => nt z))) (fun h H5 g5 => ?_) (fun _ H5 g5 => ?_)
      · rintro rfl
        rw [hb2] at hb
        exact nf (hb.trans rfl)
      · have mne := h rfl
        have hask5 := hask'.g g5
        refine bl_set (i := 4) g5.r (P := PdE K aName) (Ev.imp (ev_card (ds := (srt (m.map (·.1))).map PyData.str) T hr (by decide) ?_ ?_ (ev_nmV 0) (Ev.lm (ev_sortD (f := askD) rfl T.f_sorted (by omega) (ev_nmDR 1 hask5.r)))) (fun v H1 H2 _ _ ⟨d, hd, p⟩ => ⟨d, aName_of (fun n hn => ?_) hd, p⟩)) (fun v H6 g6 pv => ?_) nd
        · rw [List.length_map, (srt_perm _).length_eq, List.length_map]
          exact List.length_pos_iff.mpr mne
        · rw [List.length_map, (srt_perm _).length_eq, List.length_map]
          omega
        · obtain ⟨q, hq, rfl⟩ := List.mem_map.mp (srt_mem.mp hn)
          exact mnm q hq
        · obtain ⟨d, ⟨n, rfl, hn⟩, pv⟩ := pv
          obtain rfl := dv_str pv
          have g56 := g5.t g6
          refine bl_dpopN (f := tpl) (fun _ => rfl) g6.r (ev_nmV 3) (hw'.g g56) (ev_nm 4 (.str n)) (fun bb H7 H8 g7 dm wd _ => bl_nil ?_) (fun H7 g7 en => ?_)
          · exact done _ _ H8 _ rfl rfl (dm.gr ((G.t g56).t g7) fa0) wd ((ts2.drop n).mono (by omega) (by omega))
          · refine bl_dputE (f := tpl) (φ := fun y => y = n) (ψ := fun y => y.length ≤ 3 ∧ CsOk y) g7.r hu (ev_nmV 3) ((hw'.g g56).g g7) (by omega) ((ev_nm 4 (.str n)).imp fun v H1 H2 _ _ p => ⟨_, ⟨n, rfl, rfl⟩, p⟩) (Ev.imp (ev_cellsE (m := 3) T hr (by decide) (by decide) (ev_nmV 0) (Ev.imp (ev_dealt T hr (by decide) (by decide) (by decide) (ev_nmV 0) ev_int) (fun v H1 H2 _ _ ⟨d, ⟨i, e, i0, i1⟩, p⟩ => ⟨d, ⟨i.toNat, by rw [e, Int.toNat_of_nonneg i0], by omega⟩, p⟩))) (fun v H1 H2 _ _ ⟨d, ⟨k, hk, cs, e, h1, h2⟩, p⟩ => ⟨d, ⟨cs, e, by omega, h2⟩, p⟩)) (fun n' y H8 H9 hn' hy g8 dm wd => bl_nil (bl_nil ?_))
            subst hn'
            exact done _ _ H9 _ rfl rfl (dm.gr (((G.t g56).t g7).t g8) fa0) wd ((ts2.put hn (by omega) hy.2).mono (by omega) (by omega))
      · exact done _ _ H5 t' rfl rfl (G.t g5) (hw'.g g5) (ts2.mono (by omega) (by omega))
end
end SR
set_option Elab.async false
set_option linter.all false
set_option maxRecDepth 100000
set_option maxHeartbeats 4000000
/-! more rules: a list comprehension to a local name, slices of lists, a display with a pair as key -/
namespace SR
open PySem PySem.Spec PyProof.Rows L2
section
variable {M : Addr → Prop} {X : Cx} {σ : L2.St} {H : Hp} {a b o elt tg iter k1 v1 : Expr} {pos : Pos} {D : Ends} {rest : List Stmt} {ds : List PyData} {β : Type} {f : β → PyData}
theorem ev_tLc {scope : Scope} {own : List (Str × Nat)} {gt : TG} (R : Nat → PyData → Prop) (hi : EvI M X.K (wI X tg iter) σ H ds) (hl : ds.length ≤ 100000)
    (step : ∀ (i : Nat) (d : PyData) (x : V) (H2 : Hp), ds[i]? = some d → Gr M H H2 → Dv X.K H2 x d → ∀ Q : L2.St → Hp → Prop, (∀ σ2, wipe σ2 (own.map (·.2)) = wipe σ (own.map (·.2)) → Ev M (wEb X scope elt) σ2 H2 (PdE X.K (R i)) → Q σ2 H2) → gt x (wipe σ (own.map (·.2))) H2 Q) : Ev M (tLc (wI X tg iter) gt tYes (wEb X scope elt) (own.map (·.2))) σ H (PLE X.K ds.length R) :=
  fun H1 g Q q => (hi H1 g _ fun J H2 g2 ⟨G, Y, w, hG, hst, hy⟩ D hD =>
    lc_it w (fun i Hn => H2 D = none ∧ Gr M H2 Hn ∧ ∃ es : List PyData, es.length = i ∧ (∀ j d, es[j]? = some d → R j d) ∧ ∃ vs, Hn D = some (.lst vs) ∧ DvA X.K Hn vs es)
      ⟨hD, g2.r.new hD, [], rfl, fun j d e => by simp at e, [], upd_same, .nil⟩ (fun i Hn _ ⟨_, g3, _⟩ => hst Hn g3)
      (fun i x Ha Hb hi ⟨hDn, g3, es, hel, her, vs, hv, hz⟩ y => by
        obtain ⟨g4, d, ed, hd⟩ := hy i Ha x Hb g3 y hi
        have g5 : Gr M H Hb := ((g.t g2).t g3).t g4
        refine step i d x Hb ed g5 hd _ fun σ2 e1 e3 => ⟨e1, ?_⟩
        refine lc_yes (e3 Hb g5.r _ fun v H4 g6 ⟨dv, hr, hdv⟩ => ?_)
        have nmD : ¬ M D := g2.nm' hDn
        have g7 := (g3.t g4).t g6
        have hv4 : H4 D = some (.lst vs) := g6.k D _ nmD (g4.k D _ nmD hv)
        refine ⟨vs, hv4, ?_, hDn, g7.mut hDn, es ++ [dv], by rw [List.length_append, hel]; rfl, fun j d' e => ?_, vs ++ [v], upd_same, ?_⟩
        · rw [hz.length, hel]
          exact Nat.lt_of_lt_of_le (Nat.lt_of_lt_of_le hi hl) (by decide)
        · rcases Nat.lt_trichotomy j es.length with hj | hj | hj
          · rw [List.getElem?_append_left hj] at e
            exact her j d' e
          · subst hj
            rw [List.getElem?_concat_length] at e
            obtain rfl := Option.some.inj e
            rw [hel]
            exact hr
          · rw [List.getElem?_eq_none (by rw [List.length_append]; exact hj)] at e
            cases e
        · exact ((hz.g (g4.t g6)).app (.one hdv)).st hv4)
      (fun Hn ⟨hDn, g3, es, hel, her, vs, hv, hz⟩ => q _ _ (g2.t g3) ⟨es, hel, her, D, vs, rfl, g2.back hDn, hv, hz⟩))
/-- x = [elt for tg in iter] -/
theorem bl_setLc {i : Nat} {y : Str} {py spos : Pos} {scope : Scope} {own : List (Str × Nat)} {gt : TG} (R : Nat → PyData → Prop) (g : Gr M H H) (hc : X.calm = true) (hN : X.N.Nodup) (ok : BlkOk X.N X.env.scope scope own) (hi : EvI M X.K (wI X tg iter) σ H ds) (hl : ds.length ≤ 100000)
    (pg : ∀ (s : Shared) (H0 : Hp) (C : Addr) (cl : List (Str × Addr)) (fp : List Addr), PG (X.blk s H0 scope (compEnvC scope cl C X.env) fp) tg gt)
    (step : ∀ (i : Nat) (d : PyData) (x : V) (H2 : Hp), ds[i]? = some d → Gr M H H2 → Dv X.K H2 x d → ∀ Q : L2.St → Hp → Prop, (∀ σ2, wipe σ2 (own.map (·.2)) = wipe σ (own.map (·.2)) → Ev M (wEb X scope elt) σ2 H2 (PdE X.K (R i)) → Q σ2 H2) → gt x (wipe σ (own.map (·.2))) H2 Q)
    (k : ∀ v H1, Gr M H H1 → PLE X.K ds.length R v H H1 → wB X rest D (σ.set i (some v)) H1) (hy : X.N[i]? = some y := by rfl) (hyl : X.env.scope.names.lookup y = some .local := by rfl)
    (hsw : swapsWith (.ListComp elt [⟨tg, iter, [], 0⟩] scope pos) (some (.Name y py)) spos.line X.env = pure true := by rfl) (hs : ∀ x, foldedSetIterable iter X.env x = pure x := by exact fun _ => rfl) :
    wB X (.Assign [.Name y py] (.ListComp elt [⟨tg, iter, [], 0⟩] scope pos) spos :: rest) D σ H :=
  of_pss (pss_cons (ps_setLc hc hN hy hyl hsw e_pi ok pg (fun _ _ _ _ _ => pts_nil) (fun s H0 C cl fp => eb_pe s H0 C cl fp) hs) e_pss) (ev_tLc (own := own) R hi hl step H g _ fun v H1 g1 p => k v H1 g1 p)
theorem ev_slL0 {p2 p3 : Pos} {j0 : Nat} (h : Ev M (wE X a) σ H (PLm M X.K ds)) : Ev M (wE X (.Subscript a (.Slice none (some (.Constant (.int 0) j0 p3)) none p2) pos)) σ H (PL X.K []) :=
  fun H1 g Q q => of_pe (pe_slice sl_list e_pe po_none (po_some e_pe)) (h H1 g _ fun v H2 g2 p => (eo_none (σ := σ) (H := H)) H2 (g.t g2) _ fun H3 g3 => (eo_some (ev_int (X := X) (σ := σ) (H := H))) H3 ((g.t g2).t g3) _ fun H4 g4 => by
    obtain ⟨t, xs, rfl, nm, hx, ha⟩ := p
    refine ⟨t, xs, rfl, .inl (.inl ((g3.t g4).k t _ nm hx)), fun r hr => q _ _ (((g2.t g3).t g4).new hr) ⟨r, _, rfl, ((g2.t g3).t g4).back hr, upd_same, ?_⟩⟩
    have e : cutV xs none (some 0) = [] := by
      unfold cutV HT.sIx
      simp
    rw [e]
    exact .nil)
def tD1T (tk tv : TE) : TE := fun σ H Q => ∀ p, H p = none → tPairs [(tk, tv)] σ (upd H p (.dT [])) fun ps H2 => ∃ (q : Addr) (y : V) (key : List Key), ps = [(.ref q, y)] ∧ H2 q = some (.tup (key.map kV)) ∧ H2 p = some (.dT []) ∧ Q (.ref p) (upd H2 p (.dT (putK [] key y)))
theorem pe_disp1T {tk tv : TE} (hu : X.A.units + 64 < cLine) (hk : PE X k1 tk) (hv : PE X v1 tv) : PE X (.Dict [some k1] [v1] pos) (tD1T tk tv) := by
  refine ⟨fun pins s σ H Q I q => ?_⟩
  have hn := I.hok.fresh (Nat.le_refl s.heap.objs.size)
  have I1 := I.laid (a := s.heap.objs.size) (o := .dT []) (h' := s.heap.push { cls := .type "dict", data := .dict #[] }) (t' := s.toks) (fun _ _ q => Heap.get?_push_of_some _ q) (Nat.le_refl _) (dt_empty s.heap I.big)
  have l1 : (pairTrees [some k1] [v1] X.env pos).length = 1 := pairTrees_length [some k1] [v1] X.env pos rfl rfl
  rw [arm_eval_Dict, zip_pairTrees [some k1] [v1] X.env pos rfl rfl, dictDisplay_pairs _ (by intro z; rw [z] at l1; cases l1) (by rw [l1]; decide)]
  refine wpAny_bind (wpAny_standAt (wpAny_bind ?_))
  unfold subDict
  refine wpAny_bind (wpAny_alloc ?_)
  refine wpAny_bind (wpAny_holding ?_)
  rw [if_pos (by rw [l1]; decide)]
  refine wpAny_bind (thn ((pps_cons (pos := pos) hk hv pps_nil).run pins _ σ _ _ I1 (q _ hn)) fun vs s1 ⟨ps, H2, I2, rel, qq, y, key, eps, hq, hD, qQ⟩ => ?_)
  subst eps
  cases rel with
  | @cons a b as bs h t =>
    cases t
    obtain ⟨b1, b2⟩ := b
    obtain ⟨r1, r2⟩ := h
    have e1 : b1 = .ref qq := r1
    subst e1
    refine wpAny_holding ?_
    refine wpAny_bind ?_
    rw [List.forIn_cons]
    refine wpAny_bind (wpAny_bind (set_T hu I2 hD hq (by rw [sizeLine_eq]; exact Nat.zero_lt_succ _) r2 fun s' I' => wpAny_pure ?_))
    dsimp only
    rw [List.forIn_nil]
    exact wpAny_pure (wpAny_pure (wpAny_pure (wpAny_pure ⟨.ref s.heap.objs.size, _, I', rfl, qQ⟩)))
theorem ev_disp1T {n : Sv} {x : β} (hu : X.A.units + 64 < cLine) (hk : Ev M (wE X k1) σ H (Pd X.K (saveD n))) (hv : Ev M (wE X v1) σ H (Pd X.K (f x))) : Ev M (wE X (.Dict [some k1] [v1] pos)) σ H (PTN X.K f [(n, x)]) :=
  fun H1 g Q q => of_pe (pe_disp1T hu e_pe e_pe) fun l hl => hk _ (g.new hl) _ fun v H2 g2 px => hv H2 ((g.new hl).t g2) _ fun y H3 g3 py => by
    obtain ⟨t, rfl, ht⟩ := dv_save px
    have g13 := g2.t g3
    have hl3 : H3 l = some (.dT []) := g13.k l _ (g.nm' hl) upd_same
    refine ⟨t, y, sK n, rfl, g3.tu ht, hl3, q _ _ (((g.r.new hl).t g13).mut hl) ⟨l, rfl, hl, _, upd_same, ?_⟩⟩
    exact .cons ⟨rfl, py.sT hl3⟩ .nil
end
end SR
set_option Elab.async false
set_option linter.all false
set_option maxRecDepth 100000
set_option maxHeartbeats 4000000
/-! the law's own: calls on the outline -/
namespace SR
open PySem PySem.Spec PyProof.Rows L2
theorem mem_filled : (("filled" : Str), ("Outline.filled" : Str), sm_filled) ∈ mdefs := by unfold mdefs; simp
theorem mem_does_fit : (("does_fit" : Str), ("Outline.does_fit" : Str), sm_does_fit) ∈ mdefs := by unfold mdefs; simp
def PTW (K : PySem.W.Frag) (c : Cl) : PV := fun v _ H2 => ∃ b, v = .ref b ∧ TW K tpl H2 b c
section
variable {M : Addr → Prop} {X : Cx} {σ : L2.St} {H : Hp} {a b o e : Expr} {pos apos : Pos}
theorem stb_tw {K : PySem.W.Frag} {c : Cl} : Stb M (PTW K c) := fun v H0 H1 H2 H3 g0 g1 g2 ⟨x, e, h⟩ => ⟨x, e, h.g g2⟩
theorem Ev.tnw {te : TE} {K : PySem.W.Frag} {c : Cl} (h : Ev M te σ H (PTN K tpl c)) : Ev M te σ H (PTW K c) := h.imp fun v H1 H2 _ _ ⟨x, e, _, w⟩ => ⟨x, e, w⟩
theorem ev_filled {q : OA} {u : Ou} {d : Addr} {t : Tr} {c : Cl} {j : Nat} (T : Txt X.w X.K X.mg) (hr : Room j X.A) (hk : 7 ≤ j) (hq : OuAt X.K H q u) (hd : DW X.K tpl H d t) (off : OffO q d) (fo : FilOk u t c) (ho : Ev M (wE X o) σ H (Pv (.ref q.a))) (h1 : Ev M (wE X a) σ H (Pv (.ref d))) (h2 : Ev M (wE X b) σ H (PTW X.K c))
    (he : starEach [a, b] X.env = (false, eval a X.env) :: starEach [b] X.env := by rfl) (he2 : starEach [b] X.env = (false, eval b X.env) :: starEach [] X.env := by rfl) (hpl : (backTo pos (starEach [b] X.env)).any (·.1) = false := by rfl) (pl : Sem Bool)
    (ht : eval (.Call (.Attribute o "filled" apos) [a, b] [] pos) X.env = (do
      let ov ← eval o X.env
      standAt apos.atName
      let (f, first) ← holding [ov] (getMethod ov "filled" pl)
      callWith pos f first (backTo pos (starEach [a, b] X.env)) (backToKw pos (keywordEach [] X.env))) := by rfl) : Ev M (wE X (.Call (.Attribute o "filled" apos) [a, b] [] pos)) σ H (PDN X.K tpl (fillO u t c)) :=
  ev_meth T (ok_filled T) (T.meth mem_filled) hr hk ho hq.sl (eg_cons (P := Pv (.ref d)) (Ps := [PTW X.K c]) stb_v (fun P hP => by cases List.mem_singleton.mp hP; exact stb_tw) h1 (eg_cons stb_tw (fun P hP => by cases hP) h2 eg_nil he2) he) (fun ws H0 H1 H2 g0 g1 g2 pa Q qq => by
    obtain ⟨w1, _, rfl, e1, w2, _, rfl, ⟨bb, rfl, hb⟩, rfl⟩ := pa
    obtain rfl : w1 = .ref d := e1
    have gg := (g0.t g1).t g2
    exact ⟨q, u, d, bb, t, c, rfl, hq.g gg, hd.g gg, hb, off, fo, fun r H3 g3 r0 w => qq _ H3 (g3.up g2.b) ⟨r, rfl, (g1.t g2).back r0, w⟩⟩) he hpl pl ht
theorem ev_doesFit {q : OA} {u : Ou} {d : Addr} {t : Tr} {j : Nat} (T : Txt X.w X.K X.mg) (hr : Room j X.A) (hk : 7 ≤ j) (hq : OuAt X.K H q u) (hd : DW X.K tpl H d t) (tok : TreeOk t) (an : (u.aks.map (·.1)).Nodup) (al : u.aks.length < 1000) (ft : fitsO u t) (ho : Ev M (wE X o) σ H (Pv (.ref q.a))) (h1 : Ev M (wE X a) σ H (Pv (.ref d)))
    (he : starEach [a] X.env = (false, eval a X.env) :: starEach [] X.env := by rfl) (hpl : (backTo pos (starEach [] X.env)).any (·.1) = false := by rfl) (pl : Sem Bool)
    (ht : eval (.Call (.Attribute o "does_fit" apos) [a] [] pos) X.env = (do
      let ov ← eval o X.env
      standAt apos.atName
      let (f, first) ← holding [ov] (getMethod ov "does_fit" pl)
      callWith pos f first (backTo pos (starEach [a] X.env)) (backToKw pos (keywordEach [] X.env))) := by rfl) : Ev M (wE X (.Call (.Attribute o "does_fit" apos) [a] [] pos)) σ H (Pd X.K (.bool true)) :=
  ev_meth T (ok_does_fit T) (T.meth mem_does_fit) hr hk ho hq.sl (ea_of h1 he) (fun ws H0 H1 H2 g0 g1 g2 ⟨w1, ew, e1⟩ Q qq => by
    subst ew
    obtain rfl : w1 = .ref d := e1
    have gg := (g0.t g1).t g2
    exact ⟨q, u, d, t, rfl, hq.g gg, hd.g gg, tok, an, al, ft, fun H3 g3 => qq _ H3 (g3.up g2.b) (.bl true)⟩) he hpl pl ht
end
/-! plain: the same outlines, and what the filled tree is -/
theorem eqv_tplR {cs : List PyData} (h : CsOk cs) : PyData.eqv (tpl cs) (tpl cs) = true := by
  obtain ⟨ns, e, _⟩ := h
  refine eqv_tupR fun d hd => ?_
  rw [e] at hd
  obtain ⟨x, _, rfl⟩ := List.mem_map.mp hd
  exact eqv_intR x
/-- what the filled tree is, against the plain one -/
structure Same (m t : Tr) : Prop where
  eq : eqvM tpl tpl m t = true
  sh : ∀ q ∈ m, SeqAt.shaped (tpl q.2) = true
  sh2 : ∀ q ∈ t, SeqAt.shaped (tpl q.2) = true
  keys : m.map (·.1) = srt (t.map (·.1))
theorem same_of {o : Ou} {N : Sv → Nat} {G B : Tr} {c : Cl} {a b : Nat} (I : OInv o N) (m : Mt o G B c) (gn : (G.map (·.1)).Nodup) (ts : TS CsOk B a b) : Same (fillO o G c) B := by
  have nd := fill_nodup (o := o) (c := c) gn
  have get := fill_get I m
  have cs : ∀ q ∈ fillO o G c, CsOk q.2 := fun q hq => by
    have h1 := get_of_mem nd hq
    rw [get] at h1
    exact (ts.at h1).2
  refine ⟨eqvM_of nd ts.nd get fun q hq => eqv_tplR (cs q hq), shaped_tplC cs, shaped_tplC ts.cs, ?_⟩
  have p := keys_perm nd ts.nd fun n => by rw [get]
  have e : (fillO o G c).map (·.1) = srt ((fillO o G c).map (·.1)) := by
    have h0 : (fillO o G c).map (·.1) = srt ((putAll (keepF o G) (o.en.map fun q => (q.1, fillF q.2 G c))).map (·.1)) := sortM_keys _
    have h1 : srt ((fillO o G c).map (·.1)) = srt ((putAll (keepF o G) (o.en.map fun q => (q.1, fillF q.2 G c))).map (·.1)) := by
      rw [h0]
      exact srt_congr (srt_perm _)
    rw [h1, h0]
  rw [e]
  exact srt_congr p
theorem ou_refl {g : Option Sv} {ks : List Mark} (R : Runs g ks) : ouSame (outs g ks ks.length) (outs g ks ks.length) true :=
  .inl ⟨rfl, eqv_grR _, eqvM_of R.en.1 R.en.1 (fun _ => rfl) fun q _ => eqv_rowR _, eqvM_of R.go.1 R.go.1 (fun _ => rfl) fun q _ => rfl, eqvM_of R.aks.1 R.aks.1 (fun _ => rfl) fun q _ => eqv_ask _⟩
theorem runs_nil {g : Option Sv} (h : grOk g) : Runs g [] := ⟨h, Nat.zero_le _, fun k hk => (by cases hk), fun i k hk => (by simp at hk)⟩
/-! the marks of a run of deeds -/
def ksOf (Tt : Nat → Tr) (ds : List Deed) : List Mark := ds.zipIdx.map fun q => markF (Tt q.2) q.1
theorem ksOf_len (Tt : Nat → Tr) (ds : List Deed) : (ksOf Tt ds).length = ds.length := by
  unfold ksOf
  rw [List.length_map, List.length_zipIdx]
theorem ksOf_at {Tt : Nat → Tr} {ds : List Deed} {i : Nat} {d : Deed} (h : ds[i]? = some d) : (ksOf Tt ds)[i]? = some (markF (Tt i) d) := by
  unfold ksOf
  rw [List.getElem?_map, List.getElem?_zipIdx, h]
  simp
structure Good (g : Option Sv) (Tt : Nat → Tr) (ds : List Deed) : Prop where
  ch : Chain Tt ds (ksOf Tt ds)
  R : Runs g (ksOf Tt ds)
  nw : ∀ k ∈ ksOf Tt ds, k.news ≤ 10
  ft : Fit (outs g (ksOf Tt ds) (ksOf Tt ds).length) (Tt 0)
  mt : Mt (outs g (ksOf Tt ds) (ksOf Tt ds).length) (Tt 0) (Tt (ksOf Tt ds).length) (clFrom 0 (ds.map Deed.cells))
  cs : Cells (ksOf Tt ds) (ds.map Deed.cells)
  ts : ∀ i, i ≤ ds.length → TS CsOk (Tt i) (4 + i) (5 + 10 * i)
  sm : ∀ n r, trGet (outs g (ksOf Tt ds) (ksOf Tt ds).length).en n = some r → lenF r ≤ 300
  ak : ∀ q ∈ (outs g (ksOf Tt ds) (ksOf Tt ds).length).aks, ∀ l, q.2 = some l → l ≤ 10
theorem cells_ok {d : Deed} (h : DeedOk CsOk d) : CsOk d.cells ∧ d.cells.length ≤ 10 := by
  cases d with
  | put n cs => exact ⟨h.2.2, h.2.1⟩
  | patch n i o cs => exact ⟨h.2.2, h.2.1⟩
  | drop n => exact ⟨⟨[], rfl, fun c hc => (by cases hc)⟩, Nat.zero_le _⟩
  | rename n m => exact ⟨⟨[], rfl, fun c hc => (by cases hc)⟩, Nat.zero_le _⟩
theorem good_of {g : Option Sv} {Tt : Nat → Tr} {t : Tr} {ds : List Deed} (gok : grOk g) (g0 : g = none → t = []) (few : ds.length ≤ 9) (dn : Done Tt t ds) (ts : ∀ i, i ≤ ds.length → TS CsOk (Tt i) (4 + i) (5 + 10 * i)) : Good g Tt ds := by
  have ch : Chain Tt ds (ksOf Tt ds) := ⟨ksOf_len Tt ds, by omega, fun i d h => ⟨dn.step i d h, ksOf_at h⟩, fun i hi => (ts i hi).tr (by omega) (by omega), fun d hd => Nat.le_trans (cells_ok (dn.ok d hd)).2 (by decide)⟩
  have mk : ∀ k ∈ ksOf Tt ds, k.ok ∧ k.news ≤ 10 := by
    intro k hk
    obtain ⟨i, hi, e⟩ := List.mem_iff_getElem.mp hk
    rw [ksOf_len] at hi
    obtain ⟨d, hd⟩ : ∃ d, ds[i]? = some d := ⟨_, List.getElem?_eq_getElem hi⟩
    have h1 := ksOf_at (Tt := Tt) hd
    rw [List.getElem?_eq_getElem (by rw [ksOf_len]; exact hi), e] at h1
    rw [Option.some.inj h1]
    exact mark_ok (ts i (Nat.le_of_lt hi)) (by omega) (dn.ok d (List.mem_of_getElem? hd)) (dn.step i d hd)
  obtain ⟨R, ft, mt, hc⟩ := runs_of ch gok (fun z => by rw [dn.z]; exact g0 z) (fun k hk => (mk k hk).1) (by rw [ksOf_len]; exact few)
  have I := R.inv _ (Nat.le_refl (ksOf Tt ds).length)
  refine ⟨ch, R, fun k hk => (mk k hk).2, ft, mt, ⟨by rw [List.length_map, ksOf_len], hc, fun cs hcs => ?_⟩, ts, fun n r hr => ?_, fun q hq l hl => ?_⟩
  · obtain ⟨d, hd, rfl⟩ := List.mem_map.mp hcs
    exact (cells_ok (dn.ok d hd)).1
  · have h1 := mt.en n r hr
    rw [ksOf_len] at h1
    have h2 := (ts ds.length (Nat.le_refl _)).at h1
    rw [fillF_H, fill_len (hB_of ft (css_hN hc)) (I.row n r hr).1] at h2
    omega
  · have h1 := get_of_mem R.aks.1 hq
    rw [hl] at h1
    obtain ⟨x, e1, e2⟩ := Option.map_eq_some_iff.mp (ft q.1 _ h1)
    have h2 := (ts 0 (Nat.zero_le _)).at e1
    omega
end SR
set_option Elab.async false
set_option linter.all false
set_option maxRecDepth 100000
set_option maxHeartbeats 4000000
/-! the law's own: right -/
namespace SR
open PySem PySem.Spec PyProof.Rows L2
def gset (g : Option Sv) : Prop := g = none ∨ g = some (9, 4) ∨ g = some (1, 9)
theorem gset_ok {g : Option Sv} (h : gset g) : grOk g := by
  intro s e
  rcases h with rfl | rfl | rfl
  · cases e
  · cases e
    exact ⟨by decide, by decide⟩
  · cases e
    exact ⟨by decide, by decide⟩
section
variable {M : Addr → Prop} {X : Cx} {σ : L2.St} {H : Hp} {a b c e : Expr} {pos apos : Pos}
/-- a tree, new or the one at hand -/
def PTree (K : PySem.W.Frag) (φ : Tr → Prop) : PV := fun v H1 H2 => ∃ (d : Addr) (t : Tr), v = .ref d ∧ H1 d = none ∧ DW K tpl H2 d t ∧ φ t
theorem PTree.l {K : PySem.W.Frag} {φ : Tr → Prop} {v : V} {H0 H1 H2 : Hp} (g : Gr M H0 H1) (h : PTree K φ v H1 H2) : PTree K φ v H0 H2 := let ⟨d, t, e, d0, w, p⟩ := h; ⟨d, t, e, g.back d0, w, p⟩
/-- dict([(save(at), x) for at, x in enumerate(l)]) -/
theorem css_of {ks : List Mark} {es : List PyData} (hl : es.length = ks.length) (h : ∀ (i : Nat) (d : PyData), es[i]? = some d → ∃ k, ks[i]? = some k ∧ cellsOf k.news d) : ∃ css : List (List PyData), es = css.map tpl ∧ Cells ks css := by
  let un : PyData → List PyData := fun d => match d with | .tuple cs => cs | _ => []
  have key : ∀ (i : Nat) (d : PyData), es[i]? = some d → ∃ k, ks[i]? = some k ∧ d = tpl (un d) ∧ (un d).length = k.news ∧ CsOk (un d) := fun i d hd => by
    obtain ⟨k, hk, cs, e, h1, h2⟩ := h i d hd
    subst e
    exact ⟨k, hk, rfl, h1, h2⟩
  refine ⟨es.map un, ?_, by rw [List.length_map]; exact hl, fun i k hk => ?_, fun cs hcs => ?_⟩
  · rw [List.map_map]
    refine (List.map_id' es).symm.trans (List.map_congr_left fun d hd => ?_)
    obtain ⟨i, hi, e⟩ := List.mem_iff_getElem.mp hd
    obtain ⟨k, _, e2, _⟩ := key i d (by rw [List.getElem?_eq_getElem hi, e])
    exact e2
  · have hi := (List.getElem?_eq_some_iff.mp hk).1
    obtain ⟨d, hd⟩ : ∃ d, es[i]? = some d := ⟨_, List.getElem?_eq_getElem (by rw [hl]; exact hi)⟩
    obtain ⟨k', hk', _, e3, _⟩ := key i d hd
    rw [hk] at hk'
    cases hk'
    exact ⟨un d, by rw [List.getElem?_map, hd]; rfl, e3⟩
  · obtain ⟨d, hd, rfl⟩ := List.mem_map.mp hcs
    obtain ⟨i, hi, e⟩ := List.mem_iff_getElem.mp hd
    obtain ⟨k, _, _, _, e4⟩ := key i d (by rw [List.getElem?_eq_getElem hi, e])
    exact e4
theorem cl_take {β : Type} {css : List β} {i : Nat} {x : β} (h : css[i]? = some x) : (clFrom 0 css).take (i + 1) = (clFrom 0 css).take i ++ [(svF i, x)] := by
  refine take_snoc ?_
  rw [cl_elt, h]
  simp
end
section
variable {P : Program} {w : World} {K : PySem.W.Frag} {mg : Str → Option Value} {base : Heap}
def spRight (K : PySem.W.Frag) : Sp := fun vs H Q _ => ∃ (D : Addr), vs = [.ref D] ∧ Deck H D ∧ ∀ H', Gr (M1 D) H H' → Q (.bl true) H'
abbrev nRight : List Str := ["_law_deck_here", "_law_ground", "_law_tree", "_law_deeds", "_law_marks", "_law_later", "_law_outline_here", "_law_cells_here", "_law_turn", "_law_new_here", "_law_other", "_law_due", "_law_at", "_law_deed", "_law_mark_here", "_law_one"]
theorem sc_lright : FnScope nRight ["_law_deck_here"] (defScope st_law_right) := ⟨rfl, rfl, rfl, by decide +kernel, rfl, by decide +kernel, by decide +kernel⟩
theorem ok_lright (T : Txt w K mg) : C8.Cal P w K mg base 11 "_law_right" (spRight K) [] := by
  refine fn_ok T 49 rfl sc_lright (fun _ _ _ _ _ _ us hl => match us, hl with | [_], _ => rfl) (fun vs H Q E ⟨_, h, _⟩ => by rw [h]; rfl) (fun f cdv A outer s H vs Q E hr ⟨D, hv, hd, hQ⟩ => ?_)
  subst hv
  have nd := sc_lright.nd
  have hu := hu64 hr
  have hu7 := hu70 hr
  have gO := Gr.one hd
  -- the ground
  refine bl_set (i := 1) gO (P := PdE K fun d => ∃ g, d = grD g ∧ gset g) (Ev.imp (ev_card (ds := [.none, saveD (9, 4), saveD (9, 4), saveD (1, 9)]) T hr (by decide) (by decide) (by decide) (ev_nmV 0) (Ev.lm (ev_lst (ea_cons ev_non (ea_cons (ev_tup (ea_cons ev_int (ea_cons ev_int ea_nil)) (by simp)) (ea_cons (ev_tup (ea_cons ev_int (ea_cons ev_int ea_nil)) (by simp)) (ea_cons (ev_tup (ea_cons ev_int (ea_cons ev_int ea_nil)) (by simp)) ea_nil)))) (by simp)))) (fun v H1 H2 _ _ ⟨d, hd, p⟩ => ⟨d, ?_, p⟩)) (fun v H1 g1 pv => ?_) nd
  · simp only [List.mem_cons, List.not_mem_nil, or_false] at hd
    rcases hd with rfl | rfl | rfl | rfl
    · exact ⟨none, rfl, .inl rfl⟩
    · exact ⟨some (9, 4), rfl, .inr (.inl rfl)⟩
    · exact ⟨some (9, 4), rfl, .inr (.inl rfl)⟩
    · exact ⟨some (1, 9), rfl, .inr (.inr rfl)⟩
  obtain ⟨d, ⟨g, rfl, gs⟩, hg⟩ := pv
  have gok := gset_ok gs
  -- the tree
  refine bl_set (i := 2) g1.r (P := PTree K fun t => TS CsOk t 4 5 ∧ (g = none → t = [])) (ev_ifP (p := (· = g.isNone)) (fun v H0 H1 H2 g0 _ h => h.l g0) (et_isN (n := g.isNone) (ev_nm 1 hg) (fun v H1 H2 p => (non_d p).trans (isNon_gr g))) (fun z => Ev.imp (P := PDN K tpl []) ev_dnil fun v H1 H2 _ _ ⟨d, e, d0, w⟩ => ⟨d, [], e, d0, w, ⟨.nil, Nat.zero_le _, fun q hq => (by cases hq), fun q hq => (by cases hq), fun q hq => (by cases hq)⟩, fun _ => rfl⟩) (fun z => ?_)) (fun v2 H2 g2 pv => ?_) nd
  · refine ev_call (ok_lat T) hr (by decide) (eg_cons (P := Pv (.ref D)) (Ps := [Pd K (.int 4)]) stb_v (fun P hP => by cases List.mem_singleton.mp hP; exact stb_d) (ev_nmV 0) (eg_cons stb_d (fun P hP => by cases hP) ev_int eg_nil)) (fun vs H3 H4 g3 g4 pa Q q => by
      obtain ⟨w1, _, rfl, e1, w2, _, rfl, e2, rfl⟩ := pa
      obtain rfl : w1 = .ref D := e1
      obtain rfl := dv_int e2
      exact ⟨D, 4, rfl, deck_g g4, by decide, fun r t H' g' r0 hw ts => q _ _ g' ⟨r, t, rfl, g4.back r0, hw, ts, fun zz => by rw [zz] at z; cases z⟩⟩)
  obtain ⟨ta, t, rfl, ta0, hta, tts, gt0⟩ := pv
  have hg2 := hg.g g2
  have g12 := g1.t g2
  -- the deeds
  refine bl_set (i := 3) g2.r (P := fun v H1 H2 => ∃ (l : Addr) (us : List V) (Tt : Nat → Tr) (ds : List Deed), v = .ref l ∧ H1 l = none ∧ H2 l = some (.lst us) ∧ DvA K H2 us (ds.map Deed.d) ∧ ds.length ≤ 9 ∧ Done Tt t ds ∧ (∀ i, i ≤ ds.length → TS CsOk (Tt i) (4 + i) (5 + 10 * i))) (ev_call (ok_lrun T) hr (by decide) (eg_cons (P := Pv (.ref D)) (Ps := [Pv (.ref ta), PdE K (below 10)]) stb_v (fun P hP => by rcases List.mem_cons.mp hP with rfl | hP; exact stb_v; cases List.mem_singleton.mp hP; exact stb_e) (ev_nmV 0) (eg_cons stb_v (fun P hP => by cases List.mem_singleton.mp hP; exact stb_e) (ev_nmV 2) (eg_cons stb_e (fun P hP => by cases hP) (ev_dealt T hr (by decide) (by decide) (by decide) (ev_nmV 0) ev_int) eg_nil))) (fun vs H3 H4 g3 g4 pa Q q => by
    obtain ⟨w1, _, rfl, e1, w2, _, rfl, e2, w3, _, rfl, ⟨d, ⟨n, rfl, n0, n1⟩, e3⟩, rfl⟩ := pa
    obtain rfl : w1 = .ref D := e1
    obtain rfl : w2 = .ref ta := e2
    obtain rfl := dv_int e3
    exact ⟨D, ta, t, n.toNat, by rw [Int.toNat_of_nonneg n0], deck_g g4, hta.g (g3.t g4), tts, by omega, fun l us Tt ds H' g' l0 hl hus hlen dn ts => q _ _ g' ⟨l, us, Tt, ds, rfl, g4.back l0, hl, hus, by omega, dn, ts⟩⟩)) (fun v3 H3 g3 pv => ?_) nd
  obtain ⟨dl, dus, Tt, ds, rfl, dl0, hdl, hdus, dlen, dn, dts⟩ := pv
  have G := good_of gok gt0 dlen dn dts
  have g13 := g12.t g3
  have nmd : ¬ M1 D dl := (g12.r).nm dl0
  have z0 : Tt 0 = t := dn.z
  -- marks and the tree behind
  refine bl_asg (gt := gTup K 2 (gCons (gName 4) (gCons (gName 5) gNil))) g3.r (pg_tup rfl (pgs_cons (pg_name nd rfl (Or.inl rfl)) (pgs_cons (pg_name nd rfl (Or.inl rfl)) pgs_nil)))
    (P := fun v H1 H2 => ∃ (t l r : Addr) (ws : List V), v = .ref t ∧ H2 t = some (.tup [.ref l, .ref r]) ∧ H1 l = none ∧ H2 l = some (.lst ws) ∧ DvA K H2 ws ((ksOf Tt ds).map Mark.d) ∧ DW K tpl H2 r (Tt ds.length))
    (ev_call (ok_mo T) hr (by decide) (eg_cons (P := Pv (.ref ta)) (Ps := [Pv (.ref dl)]) stb_v (fun P hP => by cases List.mem_singleton.mp hP; exact stb_v) (ev_nmV 2) (eg_cons stb_v (fun P hP => by cases hP) (ev_nmV 3) eg_nil)) (fun vs H4 H5 g4 g5 pa Q q => by
      obtain ⟨w1, _, rfl, e1, w2, _, rfl, e2, rfl⟩ := pa
      obtain rfl : w1 = .ref ta := e1
      obtain rfl : w2 = .ref dl := e2
      have gg := g4.t g5
      exact ⟨ta, dl, dus, Tt, ds, ksOf Tt ds, rfl, by rw [z0]; exact hta.g (g3.t gg), gg.k dl _ nmd hdl, hdus.g gg, G.ch, fun tt l r ws H' g' ht l0 hl hws hr _ => q _ _ (g'.up g5.b) ⟨tt, l, r, ws, rfl, ht, g5.back l0, hl, hws, hr⟩⟩)) (fun x H4 g4 px => ?_)
  obtain ⟨tt, ml, la, mus, rfl, htt, ml0, hml, hmus, hla⟩ := px
  refine ⟨tt, _, rfl, .inl (.inl htt), rfl, _, _, rfl, _, _, rfl, rfl, ?_⟩
  have g24 := g3.t g4
  have g14 := g12.t g24
  have nmm : ¬ M1 D ml := (g13.r).nm ml0
  have hg4 := hg2.g g24
  have hta4 := hta.g g24
  have hdl4 := g4.k dl _ nmd hdl
  have hdus4 := hdus.g g4
  obtain ⟨ch, R, nw, ft, mt, ccs, ts, sm, ak⟩ := G
  generalize hks : ksOf Tt ds = ks at hmus ch R nw ft mt ccs sm ak
  have lks : ks.length = ds.length := ch.len
  have z1 : Tt ds.length = Tt ks.length := by rw [lks]
  rw [← z0] at hta4
  rw [z1] at hla
  have gt0' : g = none → Tt 0 = [] := fun z => by rw [z0]; exact gt0 z
  have I := R.inv _ (Nat.le_refl ks.length)
  have tsz := ts 0 (Nat.zero_le _)
  have tsl := ts ds.length (Nat.le_refl _)
  rw [z1] at tsl
  have gnd : Ground (Tt 0) := tsz.ground (by omega) (by omega)
  -- the outline
  refine bl_set (i := 6) g4.r (P := PON K (outs g ks ks.length)) (ev_call (ok_lol T) hr (by decide) (eg_cons (P := Pv v) (Ps := [Pv (.ref ml)]) stb_v (fun P hP => by cases List.mem_singleton.mp hP; exact stb_v) (ev_nmV 1) (eg_cons stb_v (fun P hP => by cases hP) (ev_nmV 4) eg_nil)) (fun vs H5 H6 g5 g6 pa Q q => by
    obtain ⟨w1, _, rfl, e1, w2, _, rfl, e2, rfl⟩ := pa
    obtain rfl : w1 = v := e1
    obtain rfl : w2 = .ref ml := e2
    have gg := g5.t g6
    exact ⟨_, ml, mus, g, ks, rfl, hg4.g gg, gg.k ml _ nmm hml, hmus.g gg, R, fun qq H' g' n o => q _ _ (g'.up g6.b) ⟨qq, rfl, n.back g6, o⟩⟩)) (fun y H5 g5 py => ?_) nd
  obtain ⟨q, rfl, qn, qo⟩ := py
  have off : ∀ (x : Addr) (tx : Tr), DW K tpl H4 x tx → OffO q x := fun x tx h => by
    obtain ⟨o, e⟩ := h.some
    exact ⟨ne_of_none e qn.da, ne_of_none e qn.de, ne_of_none e qn.dg⟩
  have fo := R.filok ft gt0' gnd ccs sm
  refine bl_when g5.r (et_w (ew_orF (et_notF (ev_call (P := Pd K (.bool true)) (ok_lio T) hr (by decide) (eg_cons (P := Pv (.ref q.a)) (Ps := [Pv v, Pv (.ref ml)]) stb_v (fun P hP => by rcases List.mem_cons.mp hP with rfl | hP; exact stb_v; cases List.mem_singleton.mp hP; exact stb_v) (ev_nmV 6) (eg_cons stb_v (fun P hP => by cases List.mem_singleton.mp hP; exact stb_v) (ev_nmV 1) (eg_cons stb_v (fun P hP => by cases hP) (ev_nmV 4) eg_nil))) (fun vs H6 H7 g6 g7 pa Q qq => by
      obtain ⟨w1, _, rfl, e1, w2, _, rfl, e2, w3, _, rfl, e3, rfl⟩ := pa
      obtain rfl : w1 = .ref q.a := e1
      obtain rfl : w2 = v := e2
      obtain rfl : w3 = .ref ml := e3
      have gg := g6.t g7
      exact ⟨q, _, ml, mus, g, ks, rfl, qo.g gg, (hg4.g g5).g gg, (g5.t gg).k ml _ nmm hml, (hmus.g g5).g gg, R, nw, fun H' g' => qq _ _ (g'.up g7.b) (.bl true)⟩)))
    (ew_or1 (et_notF (ev_doesFit T hr (by decide) qo (hta4.g g5) gnd.ok R.aks.1 (by have := R.aks.2; omega) (R.fits ft gt0') (ev_nmV 6) (ev_nmV 2) rfl rfl _))))) (fun z => nf z) (fun _ H6 g6 => ?_)
  -- the cells of the deeds
  have g46 := g5.t g6
  have eD : ∀ (css : List (List PyData)), putAll [] (clFrom 0 css) = clFrom 0 css := fun css => by
    rw [putAll_nodup (by rw [List.nil_append]; exact cl_nodup _ _), List.nil_append]
  refine bl_set (i := 7) g6.r (P := PTN K tpl (clFrom 0 (ds.map Deed.cells))) (by
    rw [← eD]
    refine ev_dictP (f := tpl) (m := clFrom 0 (ds.map Deed.cells)) rfl hu T.f_dict ?_
    refine ev_lcGR (own := [("_law_at", 12), ("_law_deed", 13)]) (gt := gTup K 2 (gCons (gName 12) (gCons (gName 13) gNil))) (tt := tYes) (ds := enD (ds.map Deed.d)) (fun i => ((clFrom 0 (ds.map Deed.cells)).take i).map fun q => .tuple [saveD q.1, tpl q.2]) (by simp) (by rw [enD_len, List.length_map, List.take_of_length_le (by rw [cl_len, List.length_map]; exact Nat.le_refl _)]) rfl nd (blkOk_by (sc := defScope st_law_right) (N := nRight) (by decide +kernel)) (ei_enum T.f_enumerate (ev_nmLm 3 (g46.k dl _ nmd hdl4) nmd (hdus4.g g46))) (by rw [enD_len, List.length_map]; omega) (fun _ _ _ _ _ => pg_tup rfl (pgs_cons (pg_name nd rfl (Or.inl rfl)) (pgs_cons (pg_name nd rfl (Or.inl rfl)) pgs_nil))) (fun _ _ _ _ _ => pts_nil) (fun i d x H7 e g7 hx Q qq => ?_)
    have hi : i < (enD (ds.map Deed.d)).length := (List.getElem?_eq_some_iff.mp e).1
    rw [enD_len, List.length_map] at hi
    obtain ⟨dd, hdd⟩ : ∃ dd, ds[i]? = some dd := ⟨_, List.getElem?_eq_getElem hi⟩
    rw [enD_get (d := dd.d) (by rw [List.getElem?_map, hdd]; rfl)] at e
    cases e
    refine gt_2 hx fun x1 x2 k1 k2 => ?_
    obtain rfl := dv_int k1
    refine qq _ true (.tuple [saveD (svF i), tpl dd.cells]) rfl et_yes (fun _ => ev_blk fun s H0 C cl fp => ev_tup (ea_cons (ev_callD (ok_lsave T) hr (by decide) i trivial (ea_cons (ev_nm 12 (.int _)) ea_nil)) (ea_cons (ev_callD (ok_lnew T) hr (by decide) dd trivial (ea_cons (ev_nm 13 k2) ea_nil)) ea_nil)) (by simp)) ?_
    show ((clFrom 0 (ds.map Deed.cells)).take (i + 1)).map _ = _
    rw [if_pos rfl, cl_take (x := dd.cells) (by rw [List.getElem?_map, hdd]; rfl), List.map_append]
    rfl) (fun y H7 g7 py => ?_) nd
  obtain ⟨ca, rfl, ca0, hca⟩ := py
  have g47 := g46.t g7
  have qo7 := (qo.g g6).g g7
  have hta7 := hta4.g g47
  have hla7 := hla.g g47
  have same := same_of I mt gnd.nd tsl
  have gdL : ∀ d ∈ (srt ((Tt ks.length).map (·.1))).map PyData.str, Gd d := gd_strs fun z hz => by
    obtain ⟨p, hp, rfl⟩ := List.mem_map.mp (srt_mem.mp hz)
    exact tsl.nm p hp
  have lfew := tsl.few
  have fil : ∀ H8, Gr (M1 D) H7 H8 → True := fun _ _ => trivial
  have pca : ∀ H8, Gr (M1 D) H7 H8 → TW K tpl H8 ca (clFrom 0 (ds.map Deed.cells)) := fun H8 g8 => hca.g g8
  refine bl_when g7.r (et_w (ew_orF (EvT.is (c := false) (et_cv (cv_dNe hu7 same.sh same.sh2) (Ev.nr (ev_filled T hr (by decide) qo7 hta7 (off ta _ hta4) fo (ev_nmV 6) (ev_nmV 2) ((ev_nmV 7).imp fun v H1 H2 g1 g2 e => ⟨ca, e, pca H2 (g1.t g2)⟩) rfl rfl rfl _)) (ev_nmDR 5 hla7.r) (nomark _)) (by rw [same.eq]; rfl))
    (ew_or1 (EvT.is (c := false) (et_cv (cv_neL hu gdL gdL) (Ev.lm (by
      have e : (srt ((Tt ks.length).map (·.1))).map PyData.str = (fillO (outs g ks ks.length) (Tt 0) (clFrom 0 (ds.map Deed.cells))).map fun q => .str q.1 := by
        rw [← same.keys, List.map_map]
        rfl
      rw [e]
      exact ev_listD (f := tpl) rfl T.f_list (Ev.nr (ev_filled T hr (by decide) qo7 hta7 (off ta _ hta4) fo (ev_nmV 6) (ev_nmV 2) ((ev_nmV 7).imp fun v H1 H2 g1 g2 e => ⟨ca, e, pca H2 (g1.t g2)⟩) rfl rfl rfl _)))) (ev_sortD (f := tpl) rfl T.f_sorted (by omega) (ev_nmDR 5 hla7.r)) (nomark _)) (by rw [eqv_lstR (eqv_strsR _)]; rfl))))) (fun z => nf z) (fun _ H8 g8 => ?_)
  have g78 := g8
  refine bl_forR (gt := gName 8) (Pr := fun k => k = (3 : Int)) g8.r rfl rfl T.f_range (pg_name nd rfl (Or.inl rfl)) (ev_int.imp fun v H1 H2 _ _ p => ⟨_, ⟨_, rfl, rfl⟩, p⟩) (fun k h => ⟨by omega, by omega⟩) (fun k3 H9 g9 hk3 => ?_)
  subst hk3
  refine ⟨fun i σ' H' => ∃ (o8 o9 o10 o11 : Option V), σ' = [some (.ref D), some v, some (.ref ta), some (.ref dl), some (.ref ml), some (.ref la), some (.ref q.a), some (.ref ca), o8, o9, o10, o11, none, none, none, none] ∧ Gr (M1 D) H7 H', ⟨none, none, none, none, rfl, g8.t g9⟩, ?_, ?_⟩
  · rintro i σ' H' hi ⟨o8, o9, o10, o11, rfl, GG⟩
    refine gt_name ?_
    have hmlX : H' ml = some (.lst mus) := (g47.t GG).k ml _ nmm hml
    have hmusX : DvA K H' mus (ks.map Mark.d) := hmus.g (g47.t GG)
    refine bl_setLc (i := 9) (own := [("_law_mark_here", 14)]) (gt := gName 14) (ds := ks.map Mark.d) (fun i d => ∃ k, ks[i]? = some k ∧ cellsOf k.news d) GG.r rfl nd (blkOk_by (sc := defScope st_law_right) (N := nRight) (by decide +kernel)) (ei_list (ev_nmLm 4 hmlX nmm hmusX)) (by rw [List.length_map]; omega) (fun _ _ _ _ _ => pg_name nd rfl (Or.inl rfl)) (fun i d x H10 e g10 hx Q qq => gt_name (qq _ rfl (ev_blk fun s H0 C cl fp => ?_))) (fun y H10 g10 py => ?_)
    · obtain ⟨k, hk, rfl⟩ := mark_at e
      have hnw := nw k (List.mem_of_getElem? hk)
      exact Ev.imp (ev_cells (n := k.news) T hr (by decide) (by omega) (ev_nmV 0) (ev_callD (ok_llen T) hr (by decide) k trivial (ea_cons (ev_nm 14 hx) ea_nil))) (fun v H1 H2 _ _ ⟨d, hd, p⟩ => ⟨d, ⟨k, hk, hd⟩, p⟩)
    obtain ⟨es, hel, her, nl, nus, rfl, nl0, hnl, hnus⟩ := py
    obtain ⟨css, rfl, cc⟩ := css_of (by rw [hel, List.length_map]) her
    have nmn : ¬ M1 D nl := (GG.r).nm nl0
    have G10 := GG.t g10
    have hta10 := hta7.g G10
    have qo10 := qo7.g G10
    have aks := R.aks
    -- the other tree
    refine bl_set (i := 10) G10.r (P := fun v H1 H2 => ∃ (d : Addr) (G : Tr), v = .ref d ∧ (d = ta ∨ H1 d = none) ∧ DW K tpl H2 d G ∧ TS CsOk G 36 60 ∧ (g = none → G = [])) (ev_ifP (p := (· = g.isNone)) (fun v H0 H1 H2 g0 _ ⟨d, G, e, h1, h2⟩ => ⟨d, G, e, h1.imp_right fun z => g0.back z, h2⟩) (et_isN (n := g.isNone) (ev_nm 1 (hg4.g (g47.t G10))) (fun v H1 H2 p => (non_d p).trans (isNon_gr g))) (fun z => (ev_nmV 2).imp fun v H1 H2 g1 g2 e => ⟨ta, Tt 0, e, .inl rfl, hta10.g (g1.t g2), tsz.mono (by omega) (by omega), gt0'⟩) (fun z => ?_)) (fun y H11 g11 py => ?_) nd
    · refine ev_call (ok_lot T) hr (by decide) (eg_cons (P := Pv (.ref D)) (Ps := [PDN K askD (sortM (outs g ks ks.length).aks), Pv (.ref ta)]) stb_v (fun P hP => by rcases List.mem_cons.mp hP with rfl | hP; exact stb_dn; cases List.mem_singleton.mp hP; exact stb_v) (ev_nmV 0) (eg_cons stb_dn (fun P hP => by cases List.mem_singleton.mp hP; exact stb_v) (ev_pAsks T hr (by decide) qo10 (by omega) aks.1 (ev_nmV 6)) (eg_cons stb_v (fun P hP => by cases hP) (ev_nmV 2) eg_nil))) (fun vs H12 H13 g12 g13 pa Q qq => by
        obtain ⟨w1, _, rfl, e1, w2, _, rfl, ⟨da, rfl, da0, hda⟩, w3, _, rfl, e3, rfl⟩ := pa
        obtain rfl : w1 = .ref D := e1
        obtain rfl : w3 = .ref ta := e3
        have ml2 : ∀ x ∈ sortM (outs g ks ks.length).aks, x ∈ (outs g ks ks.length).aks := fun x hx => by
          have h1 := get_of_mem (sortM_nodup aks.1) hx
          rw [sortM_get] at h1
          exact get_some_mem h1
        exact ⟨D, da, ta, _, rfl, deck_g g13, hda, by rw [sortM_len]; exact aks.2, sortM_nodup aks.1, fun x hx => R.nm_aks _ (List.mem_map_of_mem (ml2 x hx)), fun x hx l hl => ak x (ml2 x hx) l hl, fun r t H' g' r0 hw ts => qq _ _ g' ⟨r, t, rfl, .inr (g13.back r0), hw, ts, fun zz => by rw [zz] at z; cases z⟩⟩)
    obtain ⟨od, G, rfl, hod, hG, tG, gG0⟩ := py
    have qo11 := qo10.g g11
    have offG : OffO q od := by
      rcases hod with rfl | h0
      · exact off _ _ hta4
      · obtain ⟨u1, e1⟩ := qo10.ada
        obtain ⟨u2, e2⟩ := qo10.ade
        obtain ⟨u3, e3⟩ := qo10.adg
        exact ⟨(ne_of_none e1 h0).symm, (ne_of_none e2 h0).symm, (ne_of_none e3 h0).symm⟩
    have G11 := G10.t g11
    have skip : ∀ H', Gr (M1 D) H11 H' → ∃ (p8 p9 p10 p11 : Option V), ([some (.ref D), some v, some (.ref ta), some (.ref dl), some (.ref ml), some (.ref la), some (.ref q.a), some (.ref ca), some (.int (i : Int)), some (.ref nl), some (.ref od), o11, none, none, none, none] : L2.St) = [some (.ref D), some v, some (.ref ta), some (.ref dl), some (.ref ml), some (.ref la), some (.ref q.a), some (.ref ca), p8, p9, p10, p11, none, none, none, none] ∧ Gr (M1 D) H7 H' := fun H' g' => ⟨_, _, _, _, rfl, G11.t g'⟩
    refine bl_when (p := fun b => b = true → Fit (outs g ks ks.length) G) g11.r (by
      by_cases hn : g = none
      · refine et_w (EvT.imp (ew_orT (EvT.is (c := true) (et_isN (n := g.isNone) (ev_nm 1 (hg4.g (g47.t G11))) (fun v H1 H2 p => (non_d p).trans (isNon_gr g))) (by rw [hn]; rfl))) (fun b _ _ n tt hh => ?_))
        have e0 : (outs g ks ks.length).aks = [] := I.grn (by rw [outs_gr]; exact hn)
        rw [e0] at hh
        cases hh
      · refine et_w (EvT.imp (ew_orF (EvT.is (c := false) (et_isN (n := g.isNone) (ev_nm 1 (hg4.g (g47.t G11))) (fun v H1 H2 p => (non_d p).trans (isNon_gr g))) (by cases g with | none => exact absurd rfl hn | some s => rfl)) (ew_or1 (et_val (d := fitB (sortM (outs g ks ks.length).aks) G) (ev_call (ok_lfits T) hr (by decide) (eg_cons (P := PDN K askD (sortM (outs g ks ks.length).aks)) (Ps := [Pv (.ref od)]) stb_dn (fun P hP => by cases List.mem_singleton.mp hP; exact stb_v) (ev_pAsks T hr (by decide) qo11 (by omega) aks.1 (ev_nmV 6)) (eg_cons stb_v (fun P hP => by cases hP) (ev_nmV 10) eg_nil)) (fun vs H12 H13 g12 g13 pa Q qq => by
          obtain ⟨w1, _, rfl, ⟨da, rfl, da0, hda⟩, w2, _, rfl, e2, rfl⟩ := pa
          obtain rfl : w2 = .ref od := e2
          exact ⟨da, od, _, G, rfl, hda, (hG.g (g12.t g13)).r, sortM_nodup aks.1, by rw [sortM_len]; omega, fun x hx => by
            have h1 := get_of_mem (sortM_nodup aks.1) hx
            rw [sortM_get] at h1
            exact R.nm_aks _ (List.mem_map_of_mem (get_some_mem h1)), fun H' g' => qq _ _ (g'.up g13.b) (.bl _)⟩))))) (fun b hb hb2 n tt hh => ?_))
        have hb3 := hb.symm.trans hb2
        have h1 : trGet (sortM (outs g ks ks.length).aks) n = some tt := by rw [sortM_get]; exact hh
        exact fitB_iff.mp hb3 (n, tt) (get_some_mem h1)) (fun hfit H12 g12 => ?_) (fun _ H12 g12 => bl_nil (skip H12 g12))
    have ftG := hfit rfl
    have g1112 := g11.t g12
    have hG12 := hG.g g12
    have gG : Ground G := tG.ground (by omega) (by omega)
    have foG := R.filok ftG gG0 gG cc sm
    have oth := R.other ftG gG0 cc.cs
    have tB := R.bts nw cld_cs tG ftG gG0 cc.cs cc.ok
    have tBl := tB ks.length (Nat.le_refl _)
    have few := R.few
    have beh : Behind (bts G ks css) ks css := ⟨by omega, cc.len, fun i k cs hk hc => (oth (i + 1) (List.getElem?_eq_some_iff.mp hk).1).2 i k cs (Nat.lt_succ_self i) hk hc, fun i hi => (tB i hi).tr (by omega) (by omega), R.kok, fun cs hcs => by
      obtain ⟨j, hj, e⟩ := List.mem_iff_getElem.mp hcs
      rw [cc.len] at hj
      obtain ⟨k, hk⟩ : ∃ k, ks[j]? = some k := ⟨_, List.getElem?_eq_getElem hj⟩
      obtain ⟨c', h1, h2⟩ := cc.cs j k hk
      rw [List.getElem?_eq_getElem (by rw [cc.len]; exact hj), e] at h1
      have := nw k (List.mem_of_getElem? hk)
      rw [Option.some.inj h1]
      omega⟩
    have hml12 : H12 ml = some (.lst mus) := (g47.t (G11.t g12)).k ml _ nmm hml
    have hmus12 : DvA K H12 mus (ks.map Mark.d) := hmus.g (g47.t (G11.t g12))
    have hnl12 : H12 nl = some (.lst nus) := g1112.k nl _ nmn hnl
    have hnus12 : DvA K H12 nus (css.map tpl) := hnus.g g1112
    refine bl_set (i := 11) g12.r (P := fun v _ H2 => ∃ r, v = .ref r ∧ DW K tpl H2 r (bts G ks css ks.length)) (ev_call (ok_lab T) hr (by decide) (eg_cons (P := Pv (.ref od)) (Ps := [Pv (.ref ml), Pv (.ref nl)]) stb_v (fun P hP => by rcases List.mem_cons.mp hP with rfl | hP; exact stb_v; cases List.mem_singleton.mp hP; exact stb_v) (ev_nmV 10) (eg_cons stb_v (fun P hP => by cases List.mem_singleton.mp hP; exact stb_v) (ev_nmV 4) (eg_cons stb_v (fun P hP => by cases hP) (ev_nmV 9) eg_nil))) (fun vs H13 H14 g13 g14 pa Q qq => by
      obtain ⟨w1, _, rfl, e1, w2, _, rfl, e2, w3, _, rfl, e3, rfl⟩ := pa
      obtain rfl : w1 = .ref od := e1
      obtain rfl : w2 = .ref ml := e2
      obtain rfl : w3 = .ref nl := e3
      have gg := g13.t g14
      exact ⟨od, ml, nl, mus, nus, bts G ks css, ks, css, rfl, hG12.g gg, gg.k ml _ nmm hml12, hmus12.g gg, gg.k nl _ nmn hnl12, hnus12.g gg, beh, fun r H' g' hw => qq _ _ (g'.up g14.b) ⟨r, rfl, hw⟩⟩)) (fun y H13 g13 py => ?_) nd
    obtain ⟨due, rfl, hdue⟩ := py
    have same2 := same_of I (oth ks.length (Nat.le_refl _)).1 gG.nd tBl
    have qo13 := qo11.g (g12.t g13)
    have hnl13 := g13.k nl _ nmn hnl12
    have hnus13 := hnus12.g g13
    refine bl_when g13.r (et_w (ew_orF (EvT.is (c := false) (et_isN (n := false) (ev_nmV 11) (fun v H1 H2 p => by subst p; rfl)) rfl) (ew_or1 (EvT.is (c := false) (et_cv (cv_dNe hu7 same2.sh same2.sh2) (Ev.nr (ev_filled (c := clFrom 0 css) T hr (by decide) qo13 (hG12.g g13) offG foG (ev_nmV 6) (ev_nmV 10) (Ev.tnw ?_) rfl rfl rfl _)) (ev_nmDR 11 hdue.r) (nomark _)) (by rw [same2.eq]; rfl))))) (fun z => nf z) (fun _ H14 g14 => bl_nil (bl_nil ⟨_, _, _, _, rfl, ((G11.t g12).t g13).t g14⟩))
    rw [← eD]
    refine ev_dictP (f := tpl) (m := clFrom 0 css) rfl hu T.f_dict ?_
    refine ev_lcGR (own := [("_law_at", 12), ("_law_one", 15)]) (gt := gTup K 2 (gCons (gName 12) (gCons (gName 15) gNil))) (tt := tYes) (ds := enD (css.map tpl)) (fun i => ((clFrom 0 css).take i).map fun q => .tuple [saveD q.1, tpl q.2]) (by simp) (by rw [enD_len, List.length_map, List.take_of_length_le (by rw [cl_len]; exact Nat.le_refl _)]) rfl nd (blkOk_by (sc := defScope st_law_right) (N := nRight) (by decide +kernel)) (ei_enum T.f_enumerate (ev_nmLm 9 hnl13 nmn hnus13)) (by rw [enD_len, List.length_map, cc.len]; omega) (fun _ _ _ _ _ => pg_tup rfl (pgs_cons (pg_name nd rfl (Or.inl rfl)) (pgs_cons (pg_name nd rfl (Or.inl rfl)) pgs_nil))) (fun _ _ _ _ _ => pts_nil) (fun i d x H7 e g7 hx Q qq => ?_)
    have hi : i < (enD (css.map tpl)).length := (List.getElem?_eq_some_iff.mp e).1
    rw [enD_len, List.length_map] at hi
    obtain ⟨cs, hcs⟩ : ∃ cs, css[i]? = some cs := ⟨_, List.getElem?_eq_getElem hi⟩
    rw [enD_get (d := tpl cs) (by rw [List.getElem?_map, hcs]; rfl)] at e
    cases e
    refine gt_2 hx fun x1 x2 k1 k2 => ?_
    obtain rfl := dv_int k1
    refine qq _ true (.tuple [saveD (svF i), tpl cs]) rfl et_yes (fun _ => ev_blk fun s H0 C cl fp => ev_tup (ea_cons (ev_callD (ok_lsave T) hr (by decide) i trivial (ea_cons (ev_nm 12 (.int _)) ea_nil)) (ea_cons (ev_nm 15 k2) ea_nil)) (by simp)) ?_
    show ((clFrom 0 css).take (i + 1)).map _ = _
    rw [if_pos rfl, cl_take hcs, List.map_append]
    rfl
  · rintro σ' H' ⟨o8, o9, o10, o11, rfl, GG⟩
    have qoX := qo7.g GG
    have hmlX : H' ml = some (.lst mus) := (g47.t GG).k ml _ nmm hml
    have hmusX : DvA K H' mus (ks.map Mark.d) := hmus.g (g47.t GG)
    have hgX := hg4.g (g47.t GG)
    have htaX := hta7.g GG
    refine bl_ret GG.r (P := Pd K (.bool (true && (true && true)))) (ev_and (ev_cvG (cv_oEq T hr (by decide) R.ougd R.ougd (ou_refl R)) ((ev_nmV 6).imp fun v H1 H2 g1 g2 e => ⟨q, e, qoX.g (g1.t g2)⟩) ?_ (nomark _)) (fun _ => ev_and (ev_cvG (cv_oNe (r := false) (o := outs g ks ks.length) (o' := outs (some (9, 9)) [] ([] : List Mark).length) T hr (by decide) R.ougd (runs_nil (g := some (9, 9)) (by intro s e; cases e; exact ⟨by decide, by decide⟩)).ougd (.inr ⟨rfl, ?_⟩)) ((ev_nmV 6).imp fun v H1 H2 g1 g2 e => ⟨q, e, qoX.g (g1.t g2)⟩) ?_ (nomark _)) (fun _ => ev_one (ev_cvG (cv_oNeD (m := Tt 0) T hr (by decide)) ((ev_nmV 6).imp fun v H1 H2 g1 g2 e => ⟨q, e, qoX.g (g1.t g2)⟩) (ev_nmDR 2 htaX.r) (nomark _))))) (fun y H10 g10 py => ?_)
    · exact (ev_call (P := PON K (outs g ks ks.length)) (ok_lol T) hr (by decide) (eg_cons (P := Pv v) (Ps := [Pv (.ref ml)]) stb_v (fun P hP => by cases List.mem_singleton.mp hP; exact stb_v) (ev_nmV 1) (eg_cons stb_v (fun P hP => by cases hP) (ev_nmV 4) eg_nil)) (fun vs H5 H6 g5 g6 pa Q q => by
        obtain ⟨w1, _, rfl, e1, w2, _, rfl, e2, rfl⟩ := pa
        obtain rfl : w1 = v := e1
        obtain rfl : w2 = .ref ml := e2
        have gg := g5.t g6
        exact ⟨_, ml, mus, g, ks, rfl, hgX.g gg, gg.k ml _ nmm hmlX, hmusX.g gg, R, fun qq H' g' n o => q _ _ (g'.up g6.b) ⟨qq, rfl, n.back g6, o⟩⟩)).imp fun v H1 H2 _ _ ⟨qq, e, _, o⟩ => ⟨qq, e, o⟩
    · show PyData.eqv (grD (outs g ks ks.length).gr) (grD (some (9, 9))) = false
      rw [outs_gr]
      rcases gs with rfl | rfl | rfl
      · rfl
      · decide +kernel
      · decide +kernel
    · exact (ev_call (P := PON K (outs (some (9, 9)) [] ([] : List Mark).length)) (ok_lol T) hr (by decide) (eg_cons (P := Pd K (saveD (9, 9))) (Ps := [PL K []]) stb_d (fun P hP => by cases List.mem_singleton.mp hP; exact stb_l) (ev_tup (ea_cons ev_int (ea_cons ev_int ea_nil)) (by simp)) (eg_cons stb_l (fun P hP => by cases hP) (ev_slL0 (ev_nmLm 4 hmlX nmm hmusX)) eg_nil)) (fun vs H5 H6 g5 g6 pa Q q => by
        obtain ⟨w1, _, rfl, e1, w2, _, rfl, ⟨l0, us0, rfl, _, hl0, hz0⟩, rfl⟩ := pa
        exact ⟨w1, l0, us0, some (9, 9), [], rfl, e1, hl0, hz0, runs_nil (by intro s e; cases e; exact ⟨by decide, by decide⟩), fun qq H' g' n o => q _ _ (g'.up g6.b) ⟨qq, rfl, n.back g6, o⟩⟩)).imp fun v H1 H2 _ _ ⟨qq, e, _, o⟩ => ⟨qq, e, o⟩
    · obtain rfl := dv_bl py
      exact hQ H10 (((g14.t g47).t GG).t g10)
end
end SR
set_option Elab.async false
set_option linter.all false
set_option maxRecDepth 100000
set_option maxHeartbeats 4000000
/-! the law's own: the example, plain -/
namespace SR
open PySem PySem.Spec PyProof.Rows L2
def rowE : List Pc := [⟨.below "a", 0, 1⟩, ⟨.new (1, 2), 0, 2⟩, ⟨.below "a", 2, 1⟩]
def kE1 : Mark := .patch "a" 1 1 2 3
def kE2 : Mark := .rename "a" "b" 4
def o0E : Ou := ouN (some (2, 1))
def o1E : Ou := ⟨some (2, 1), [("a", rowE)], [], [("a", some 3)]⟩
def oE : Ou := ⟨some (2, 1), [("b", rowE)], [("a", ())], [("a", some 3), ("b", none)]⟩
theorem o1_eq : ledO o0E (1, 2) kE1 = o1E := by kernel_rfl
theorem o2_eq : ledO o1E (1, 3) kE2 = oE := by kernel_rfl
theorem nm_a : nmOk "a" := by decide +kernel
theorem nm_b : nmOk "b" := by decide +kernel
theorem nm_d : nmOk "d" := by decide +kernel
theorem kE1_ok : kE1.ok := ⟨nm_a, by decide, by decide, by decide, by decide, by decide⟩
theorem kE2_ok : kE2.ok := ⟨nm_a, nm_b, by decide +kernel, by decide⟩
theorem svE {a b : Int} (h : (1 ≤ a ∧ a ≤ 996) ∧ 1 ≤ b ∧ b ≤ 996) : saveOk (a, b) := h
def NE : Sv → Nat := fun s => if s = (1, 2) then 2 else 0
theorem NE_ok {s : Sv} (h : 1 ≤ NE s) : saveOk s := by
  unfold NE at h
  split at h
  · rename_i e
    rw [e]
    exact ⟨by decide, by decide⟩
  · exact absurd h (by decide)
theorem NE_le (s : Sv) : NE s ≤ 1000 := by
  unfold NE
  split <;> decide
theorem rs1 : reasonOk o0E kE1 := ⟨rowOf (.below "a") 3, by decide +kernel, by decide +kernel, by decide +kernel⟩
theorem I0 : OInv o0E NE := inv_new _ _
theorem led1 : LedOk o0E (1, 2) kE1 := led_ok (a := 0) I0 ⟨Nat.le_refl _, Nat.le_refl _, Nat.le_refl _⟩ (by decide) (by intro s e; cases e; exact ⟨by decide, by decide⟩) rs1 kE1_ok (fun s h => NE_ok h) NE_le (by decide +kernel)
theorem I1 : OInv o1E NE := o1_eq ▸ inv_led (s := (1, 2)) I0 rs1 kE1_ok (by decide +kernel)
theorem rs2 : reasonOk o1E kE2 := ⟨⟨rowE, by decide +kernel, by decide +kernel, by decide +kernel⟩, by decide +kernel⟩
theorem led2 : LedOk o1E (1, 3) kE2 := led_ok (a := 1) I1 ⟨by decide, by decide, by decide⟩ (by decide) (by intro s e; cases e; exact ⟨by decide, by decide⟩) rs2 kE2_ok (fun s h => NE_ok h) NE_le (by decide +kernel)
theorem I2 : OInv oE NE := o2_eq ▸ inv_led (s := (1, 3)) I1 rs2 kE2_ok (by decide +kernel)
def tE : Tr := [("a", [.int 7, .int 8, .int 9]), ("d", [.int 1])]
def cE : Cl := [((1, 2), [.int 5, .int 6])]
def fE : Tr := [("b", [.int 7, .int 5, .int 6, .int 9]), ("d", [.int 1])]
theorem cs_ints {ns : List Int} (h : ∀ c ∈ ns, 0 ≤ c ∧ c ≤ 996) : CsOk (ns.map PyData.int) := ⟨ns, rfl, h⟩
theorem tE_ok : TreeOk tE := by
  refine ⟨by decide, fun q hq => ?_⟩
  simp only [tE, List.mem_cons, List.not_mem_nil, or_false] at hq
  rcases hq with rfl | rfl
  · exact ⟨nm_a, cs_ints (ns := [7, 8, 9]) (by decide), by decide⟩
  · exact ⟨nm_d, cs_ints (ns := [1]) (by decide), by decide⟩
theorem fE_cs : ∀ q ∈ fE, CsOk q.2 := fun q hq => by
  simp only [fE, List.mem_cons, List.not_mem_nil, or_false] at hq
  rcases hq with rfl | rfl
  · exact cs_ints (ns := [7, 5, 6, 9]) (by decide)
  · exact cs_ints (ns := [1]) (by decide)
theorem cE_ok : ClOk cE := by
  refine ⟨by decide, fun q hq => ?_⟩
  cases List.mem_singleton.mp hq
  exact ⟨⟨by decide, by decide⟩, cs_ints (ns := [5, 6]) (by decide), by decide⟩
theorem fill_rowE : fillF rowE tE cE = [.int 7, .int 5, .int 6, .int 9] := by kernel_rfl
theorem mtE : Mt oE tE fE cE := by
  refine ⟨fun n r h => ?_, fun n h => ?_, fun n h => ?_⟩
  · have h : trGet [(("b" : Str), rowE)] n = some r := h
    rw [get_cons] at h
    split at h
    · rename_i e
      cases h
      have e : ("b" : Str) = n := e
      rw [fill_rowE, ← e]
      kernel_rfl
    · cases h
  · have h : (trGet [(("a" : Str), ())] n).isSome = true := h
    rw [get_cons] at h
    split at h
    · rename_i e
      have e : ("a" : Str) = n := e
      rw [← e]
      kernel_rfl
    · cases h
  · obtain ⟨h1, h2⟩ := fresh_iff.mp h
    have h1 : trGet [(("b" : Str), rowE)] n = none := h1
    have h2 : trGet [(("a" : Str), ())] n = none := h2
    rw [get_cons] at h1 h2
    split at h1
    · cases h1
    · rename_i e1
      split at h2
      · cases h2
      · rename_i e2
        show trGet ((("b" : Str), [PyData.int 7, .int 5, .int 6, .int 9]) :: [(("d" : Str), [PyData.int 1])]) n = trGet ((("a" : Str), [PyData.int 7, .int 8, .int 9]) :: [(("d" : Str), [PyData.int 1])]) n
        rw [get_cons, get_cons (q := (("a" : Str), [PyData.int 7, .int 8, .int 9])), if_neg e1, if_neg e2]
theorem filE : FilOk oE tE cE := by
  refine ⟨tE_ok, by decide +kernel, cE_ok, ⟨by decide +kernel, by decide⟩, ?_, ⟨by decide, by decide +kernel⟩, by decide +kernel, by decide +kernel, by decide +kernel, ?_, ?_, by decide +kernel⟩
  · show ∀ q ∈ oE.aks, (trGet tE q.1).map List.length = q.2
    decide +kernel
  · intro q hq
    have e : wantF (pcsO oE) = [((1, 2), 2)] := by decide +kernel
    rw [e] at hq
    cases List.mem_singleton.mp hq
    exact ⟨[.int 5, .int 6], by kernel_rfl, by decide⟩
  · intro q hq
    cases List.mem_singleton.mp hq
    refine ⟨fun p hp => ?_, by rw [fill_rowE]; decide⟩
    simp only [rowE, List.mem_cons, List.not_mem_nil, or_false] at hp
    rcases hp with rfl | rfl | rfl
    · exact ⟨[.int 7, .int 8, .int 9], by kernel_rfl⟩
    · exact ⟨[.int 5, .int 6], by kernel_rfl⟩
    · exact ⟨[.int 7, .int 8, .int 9], by kernel_rfl⟩
theorem sameE : eqvM tpl tpl (fillO oE tE cE) fE = true := eqvM_of (fill_nodup (by decide +kernel)) (by decide +kernel) (fill_get I2 mtE) fun q hq => by
  have h1 := get_of_mem (fill_nodup (o := oE) (c := cE) (G := tE) (by decide +kernel)) hq
  rw [fill_get I2 mtE] at h1
  exact eqv_tplR (fE_cs _ (get_some_mem h1))
theorem shE : ∀ q ∈ fillO oE tE cE, SeqAt.shaped (tpl q.2) = true := shaped_tplC fun q hq => by
  have h1 := get_of_mem (fill_nodup (o := oE) (c := cE) (G := tE) (by decide +kernel)) hq
  rw [fill_get I2 mtE] at h1
  exact fE_cs _ (get_some_mem h1)
theorem srt_a : srt [("a" : Str)] = [("a" : Str)] := srt_of (List.Perm.refl _) (by decide +kernel)
end SR
set_option Elab.async false
set_option linter.all false
set_option maxRecDepth 100000
set_option maxHeartbeats 4000000
/-! the law itself -/
namespace SR
open PySem PySem.Spec PyProof.Rows L2
def dueD : PyData := .tuple [.tuple [.tuple [.str "below", .str "a"], .int 0, .int 1], .tuple [.tuple [.str "new", .tuple [.int 1, .int 2]], .int 0, .int 2], .tuple [.tuple [.str "below", .str "a"], .int 2, .int 1]]
theorem dueD_eq : dueD = rowD rowE := by kernel_rfl
theorem gr_deck {D : Addr} {H H1 H2 : Hp} (g : Gr M0 H H1) (h : H D = none) (g2 : Gr (M1 D) H1 H2) : Gr M0 H H2 := ⟨fun x z => z.elim, fun x o _ e => g2.k x o (fun z => by
  cases z
  rw [h] at e
  cases e) (g.k x o (fun z => z) e), fun x z => z.elim⟩
section
variable {M : Addr → Prop} {X : Cx} {σ : L2.St} {H : Hp} {o a b : Expr} {pos apos : Pos}
theorem Ev.on {te : TE} {K : PySem.W.Frag} {u : Ou} (h : Ev M te σ H (PON K u)) : Ev M te σ H (PO K u) := h.imp fun v H1 H2 _ _ ⟨p, e, _, o⟩ => ⟨p, e, o⟩
/-- o.behind(save, mark), o any outline -/
theorem ev_behindE {u : Ou} {sv : Sv} {k : Mark} {j : Nat} (T : Txt X.w X.K X.mg) (hr : Room j X.A) (hk : 9 ≤ j) (sok : saveOk sv) (ko : k.ok) (lk : LedOk u sv k) (ho : Ev M (wE X o) σ H (PO X.K u)) (h1 : Ev M (wE X a) σ H (Pd X.K (saveD sv))) (h2 : Ev M (wE X b) σ H (Pd X.K k.d))
    (he : starEach [a, b] X.env = (false, eval a X.env) :: starEach [b] X.env := by rfl) (he2 : starEach [b] X.env = (false, eval b X.env) :: starEach [] X.env := by rfl) (hpl : (backTo pos (starEach [b] X.env)).any (·.1) = false := by rfl) (pl : Sem Bool)
    (ht : eval (.Call (.Attribute o "behind" apos) [a, b] [] pos) X.env = (do
      let ov ← eval o X.env
      standAt apos.atName
      let (f, first) ← holding [ov] (getMethod ov "behind" pl)
      callWith pos f first (backTo pos (starEach [a, b] X.env)) (backToKw pos (keywordEach [] X.env))) := by rfl) : Ev M (wE X (.Call (.Attribute o "behind" apos) [a, b] [] pos)) σ H (PON X.K (ledO u sv k)) :=
  fun H1 g Q q => of_pe (SlX.pe_methSl (pl := pl) e_pe T.sc (T.meth mem_behind) ((ok_behind T).mono hk) hr pass0 e_pa he hpl ht) (ho H1 g _ fun x H2 g2 ⟨p, ex, hp⟩ => ⟨p.a, p.dx, p.vs, ex, hp.sl.slt, (ea_cons h1 (ea_cons h2 ea_nil he2) he) H2 (g.t g2) _ fun ws H3 g3 pw => by
    subst ex
    obtain ⟨y1, y2, rfl, hy1, hy2⟩ := dvA2 pw
    exact ⟨p, u, sv, k, y1, y2, rfl, hp.g g3, hy1, hy2, sok, ko, lk, fun r H4 g4 n4 o4 => q _ H4 ((g2.t g3).t (g4.up g3.b)) ⟨r, rfl, n4.back (g2.t g3), o4⟩⟩⟩)
/-! plain parts of arguments: shown once, for any parts of theirs -/
theorem sE_t {es rest : List Expr} {k : Nat} {p : Pos} {env : Env} : starEach (.Tuple es k p :: rest) env = (false, eval (.Tuple es k p) env) :: starEach rest env := rfl
theorem sE_c {c : Const} {rest : List Expr} {k : Nat} {p : Pos} {env : Env} : starEach (.Constant c k p :: rest) env = (false, eval (.Constant c k p) env) :: starEach rest env := rfl
theorem sE_d {ks : List (Option Expr)} {vs rest : List Expr} {p : Pos} {env : Env} : starEach (.Dict ks vs p :: rest) env = (false, eval (.Dict ks vs p) env) :: starEach rest env := rfl
theorem ea_t {es es2 : List Expr} {k : Nat} {p : Pos} {d : PyData} {ds : List PyData} (h1 : Ev M (wE X (.Tuple es2 k p)) σ H (Pd X.K d)) (h2 : EvA M (wA X es) σ H (PdA X.K ds)) : EvA M (wA X (.Tuple es2 k p :: es)) σ H (PdA X.K (d :: ds)) := ea_cons h1 h2 sE_t
theorem ea_i {es : List Expr} {i : Int} {k : Nat} {p : Pos} {ds : List PyData} (h2 : EvA M (wA X es) σ H (PdA X.K ds)) : EvA M (wA X (.Constant (.int i) k p :: es)) σ H (PdA X.K (.int i :: ds)) := ea_cons ev_int h2 sE_c
theorem ea_s {es : List Expr} {i : Str} {k : Nat} {p : Pos} {ds : List PyData} (h2 : EvA M (wA X es) σ H (PdA X.K ds)) : EvA M (wA X (.Constant (.str i) k p :: es)) σ H (PdA X.K (.str i :: ds)) := ea_cons ev_str h2 sE_c
/-- o.filled(a new tree, cells) -/
theorem ev_filledN0 {q : OA} {u : Ou} {t : Tr} {c : Cl} {j : Nat} (T : Txt X.w X.K X.mg) (hr : Room j X.A) (hk : 7 ≤ j) (hq : OuAt X.K H q u) (fo : FilOk u t c) (ho : Ev M (wE X o) σ H (Pv (.ref q.a))) (h1 : Ev M (wE X a) σ H (PDN X.K tpl t)) (h2 : Ev M (wE X b) σ H (PTW X.K c))
    (he : starEach [a, b] X.env = (false, eval a X.env) :: starEach [b] X.env := by rfl) (he2 : starEach [b] X.env = (false, eval b X.env) :: starEach [] X.env := by rfl) (hpl : (backTo pos (starEach [b] X.env)).any (·.1) = false := by rfl) (pl : Sem Bool)
    (ht : eval (.Call (.Attribute o "filled" apos) [a, b] [] pos) X.env = (do
      let ov ← eval o X.env
      standAt apos.atName
      let (f, first) ← holding [ov] (getMethod ov "filled" pl)
      callWith pos f first (backTo pos (starEach [a, b] X.env)) (backToKw pos (keywordEach [] X.env))) := by rfl) : Ev M (wE X (.Call (.Attribute o "filled" apos) [a, b] [] pos)) σ H (PDN X.K tpl (fillO u t c)) :=
  ev_meth T (ok_filled T) (T.meth mem_filled) hr hk ho hq.sl (eg_cons (P := PDN X.K tpl t) (Ps := [PTW X.K c]) stb_dn (fun P hP => by cases List.mem_singleton.mp hP; exact stb_tw) h1 (eg_cons stb_tw (fun P hP => by cases hP) h2 eg_nil he2) he) (fun ws H0 H1 H2 g0 g1 g2 pa Q qq => by
    obtain ⟨w1, _, rfl, ⟨d, rfl, d0, hd⟩, w2, _, rfl, ⟨bb, rfl, hb⟩, rfl⟩ := pa
    have hq1 := hq.g (g0.t g1)
    obtain ⟨u1, e1⟩ := hq1.ada
    obtain ⟨u2, e2⟩ := hq1.ade
    obtain ⟨u3, e3⟩ := hq1.adg
    exact ⟨q, u, d, bb, t, c, rfl, hq1.g g2, hd, hb, ⟨(ne_of_none e1 d0).symm, (ne_of_none e2 d0).symm, (ne_of_none e3 d0).symm⟩, fo, fun r H3 g3 r0 w => qq _ H3 (g3.up g2.b) ⟨r, rfl, (g1.t g2).back r0, w⟩⟩) he hpl pl ht
theorem ev_filledN {q : OA} {u : Ou} {t : Tr} {c : Cl} {j : Nat} {x : Str} {p0 p1 p2 : Pos} {k1 k2 : List (Option Expr)} {v1 v2 : List Expr} (T : Txt X.w X.K X.mg) (hr : Room j X.A) (hk : 7 ≤ j) (hq : OuAt X.K H q u) (fo : FilOk u t c) (ho : Ev M (wE X (.Name x p0)) σ H (Pv (.ref q.a))) (h1 : Ev M (wE X (.Dict k1 v1 p1)) σ H (PDN X.K tpl t)) (h2 : Ev M (wE X (.Dict k2 v2 p2)) σ H (PTW X.K c)) (pl : Sem Bool)
    (ht : ∀ (k1 k2 : List (Option Expr)) (v1 v2 : List Expr) (p1 p2 : Pos), eval (.Call (.Attribute (.Name x p0) "filled" apos) [.Dict k1 v1 p1, .Dict k2 v2 p2] [] pos) X.env = (do
      let ov ← eval (.Name x p0) X.env
      standAt apos.atName
      let (f, first) ← holding [ov] (getMethod ov "filled" pl)
      callWith pos f first (backTo pos (starEach [.Dict k1 v1 p1, .Dict k2 v2 p2] X.env)) (backToKw pos (keywordEach [] X.env)))) :
    Ev M (wE X (.Call (.Attribute (.Name x p0) "filled" apos) [.Dict k1 v1 p1, .Dict k2 v2 p2] [] pos)) σ H (PDN X.K tpl (fillO u t c)) :=
  ev_filledN0 T hr hk hq fo ho h1 h2 sE_d sE_d (by rfl) pl (ht _ _ _ _ _ _)
end
section
variable {P : Program} {w : World} {K : PySem.W.Frag} {mg : Str → Option Value} {base : Heap}
def spLaw (K : PySem.W.Frag) : Sp := fun vs H Q _ => ∃ (a : Addr) (ns : List Int), vs = [.ref a] ∧ SqL K H a (ns.map V.int) ∧ ∀ H', Q (.bl true) H'
abbrev nLaw : List Str := ["_law_script", "_law_spot", "_law_deck_here", "_law_outline_here", "_law_due"]
theorem sc_law : FnScope nLaw ["_law_script"] (defScope st_law) := ⟨rfl, rfl, rfl, by decide +kernel, rfl, by decide +kernel, by decide +kernel⟩
theorem body_law (T : Txt w K mg) (f : Addr) (cdv : Value) (A : Around) (outer : List Env) (s : Shared) (H : Hp) (vs : List V) (Q : VK) (E : XK) (hr : Room 11 (A.deeper (envOfC "law" (defScope st_law) s.heap.objs.size f cdv))) (h : spLaw K vs H Q E) :
    wB (cX P w K mg base nLaw "law" st_law f cdv A outer s H E) (defBody st_law) { nx := fun _ H' => Q .non H', rt := Q } (start nLaw vs) H := by
  obtain ⟨a, ns, hv, hs, hQ⟩ := h
  subst hv
  have nd := sc_law.nd
  have hu := hu64 hr
  have hu7 := hu70 hr
  refine bl_forR (gt := gName 1) (Pr := fun k => 0 ≤ k ∧ k ≤ 3) (Gr.z H) rfl rfl T.f_range (pg_name nd rfl (Or.inl rfl)) (Ev.imp (ev_max2 rfl T.f_max (ea_ii ev_int (ev_min2 rfl T.f_min (ea_ii ev_int (ev_lenL (ds := ns.map PyData.int) T.f_len ((ev_nmV 0).imp fun v H1 H2 g1 g2 e => ⟨a, ns.map V.int, e, sqL_g (g1.t g2) hs, ints_dvA ns⟩)))))) (fun v H1 H2 _ _ p => ⟨_, ⟨_, rfl, by omega, by omega⟩, p⟩)) (fun k h => ⟨by omega, by omega⟩) (fun k H1 g1 hk => ?_)
  refine ⟨fun i σ' H' => ∃ (o1 o2 : Option V), σ' = [some (.ref a), o1, o2, none, none] ∧ Gr M0 H H', ⟨none, none, rfl, g1⟩, ?_, ?_⟩
  · rintro i σ' H' hi ⟨o1, o2, rfl, G⟩
    refine gt_name ?_
    refine bl_set (i := 2) (Gr.z H') (P := fun v H1 H2 => ∃ D, v = .ref D ∧ H1 D = none ∧ Deck H2 D) (ev_call (ok_ldeck T) hr (by decide) (evc (ev_nmV 0) (evc (ev_nmV 1) ev0)) (fun vs H2 H3 g2 g3 e Q' q => by
      obtain rfl : vs = [.ref a, .int (i : Int)] := e
      exact ⟨a, ns, (i : Int), rfl, sqL_g (G.t (g2.t g3)) hs, by omega, by omega, fun D H4 g4 D0 hD => q _ _ g4 ⟨D, rfl, g3.back D0, hD⟩⟩)) (fun v H2 g2 pv => ?_) nd
    obtain ⟨D, rfl, D0, hD⟩ := pv
    have right : ∀ (e : Expr) (X : Cx), True := fun _ _ => trivial
    refine bl_when (M := M1 D) (Gr.one hD) (et_w (ew_orF (et_notF (ev_call (P := Pd K (.bool true)) (ok_lright T) hr (by decide) (evc (ev_nmV 2) ev0) (fun vs H3 H4 g3 g4 e Q' q => ⟨D, e, deck_g g4, fun H5 g5 => q _ _ g5 (.bl true)⟩))) (ew_or1 (et_notF (ev_call (P := Pd K (.bool true)) (ok_lright T) hr (by decide) (evc (ev_nmV 2) ev0) (fun vs H3 H4 g3 g4 e Q' q => ⟨D, e, deck_g g4, fun H5 g5 => q _ _ g5 (.bl true)⟩)))))) (fun z => nf z) (fun _ H3 g3 => bl_nil ⟨_, _, rfl, G.t (gr_deck g2 D0 g3)⟩)
  · rintro σ' H' ⟨o1, o2, rfl, G⟩
    refine bl_set (i := 3) (Gr.z H') (P := PON K oE) ?_ (fun v H2 g2 pv => ?_) nd
    · rw [← o2_eq]
      refine ev_behindE T hr (by decide) (svE (by decide)) kE2_ok led2 (Ev.on ?_) (ev_tup (ea_cons ev_int (ea_cons ev_int ea_nil)) (by simp)) (ev_tup (ea_cons ev_str (ea_cons ev_str (ea_cons ev_str (ea_cons ev_int ea_nil)))) (by simp)) rfl rfl rfl _
      rw [← o1_eq]
      exact ev_behindE T hr (by decide) (svE (by decide)) kE1_ok led1 (Ev.on (ev_make (g := some (2, 1)) T hr (by decide) (by intro s e; cases e; exact ⟨by decide, by decide⟩) (ev_tup (ea_cons ev_int (ea_cons ev_int ea_nil)) (by simp)))) (ev_tup (ea_cons ev_int (ea_cons ev_int ea_nil)) (by simp)) (ev_tup (ea_cons ev_str (ea_cons ev_str (ea_cons ev_int (ea_cons ev_int (ea_cons ev_int (ea_cons ev_int ea_nil)))))) (by simp)) rfl rfl rfl _
    obtain ⟨q, rfl, qn, qo⟩ := pv
    refine @bl_set M0 (cX P w K mg base nLaw "law" st_law f cdv A outer s H E) _ _ _ _ _ (Pd K dueD) _ 4 _ _ g2.r ?_ (fun v H3 g3 pv => ?_) nd rfl (Or.inl rfl) rfl rfl (Or.inr rfl)
    · refine ev_tup (k := 0) ?_ ?_
      · refine ea_t ?_ ?_
        · refine ev_tup (k := 0) ?_ ?_
          · refine ea_t ?_ ?_
            · refine ev_tup (k := 0) ?_ ?_
              · refine ea_s ?_
                refine ea_s ?_
                exact ea_nil
              · decide
            · refine ea_i ?_
              refine ea_i ?_
              exact ea_nil
          · decide
        · refine ea_t ?_ ?_
          · refine ev_tup (k := 0) ?_ ?_
            · refine ea_t ?_ ?_
              · refine ev_tup (k := 0) ?_ ?_
                · refine ea_s ?_
                  refine ea_t ?_ ?_
                  · refine ev_tup (k := 0) ?_ ?_
                    · refine ea_i ?_
                      refine ea_i ?_
                      exact ea_nil
                    · decide
                  · exact ea_nil
                · decide
              · refine ea_i ?_
                refine ea_i ?_
                exact ea_nil
            · decide
          · refine ea_t ?_ ?_
            · refine ev_tup (k := 0) ?_ ?_
              · refine ea_t ?_ ?_
                · refine ev_tup (k := 0) ?_ ?_
                  · refine ea_s ?_
                    refine ea_s ?_
                    exact ea_nil
                  · decide
                · refine ea_i ?_
                  refine ea_i ?_
                  exact ea_nil
              · decide
            · exact ea_nil
      · decide
    rw [dueD_eq] at pv
    have qo3 := qo.g g3
    have shR : SeqAt.shaped (rowD rowE) = true := by decide +kernel
    have e1 : (!eqvM rowD rowD (sortM oE.en) (trPut [] "b" rowE)) = false := by
      rw [eqvM_of (sortM_nodup (by decide +kernel)) (by decide +kernel) (fun n => by rw [sortM_get]; rfl) (fun q _ => eqv_rowR _)]
      rfl
    have e2 : (!PyData.eqv (goneD oE) (.tuple [.str "a"])) = false := by
      unfold goneD nmsD
      show (!PyData.eqv (.tuple ((srt [("a" : Str)]).map .str)) (.tuple [.str "a"])) = false
      rw [srt_a]
      decide +kernel
    have sg : SeqAt.shaped (goneD oE) = true := by
      unfold goneD nmsD
      show SeqAt.shaped (.tuple ((srt [("a" : Str)]).map .str)) = true
      rw [srt_a]
      decide +kernel
    have e3 : (!eqvM askD askD (sortM oE.aks) (trPut (trPut [] "a" (some 3)) "b" none)) = false := by
      rw [eqvM_of (sortM_nodup (by decide +kernel)) (by decide +kernel) (fun n => by rw [sortM_get]; exact congrArg (fun m => trGet m n) (by kernel_rfl : oE.aks = trPut (trPut [] ("a" : Str) (some 3)) ("b" : Str) none)) (fun q _ => eqv_ask _)]
      rfl
    have shE2 : ∀ q ∈ sortM oE.en, SeqAt.shaped (rowD q.2) = true := fun q hq => by
      have h1 := get_of_mem (sortM_nodup (by decide +kernel)) hq
      rw [sortM_get] at h1
      have h2 := get_some_mem h1
      rw [show q.2 = rowE from congrArg Prod.snd (List.mem_singleton.mp h2)]
      exact shR
    have shE3 : ∀ q ∈ trPut [] ("b" : Str) rowE, SeqAt.shaped (rowD q.2) = true := fun q hq => by
      rcases mem_put hq with rfl | hq
      · exact shR
      · cases hq
    refine bl_when g3.r (et_w (ew_orF (EvT.is (et_cv (cv_dNe hu7 shE2 shE3) (Ev.nr (ev_pEnt T hr (by decide) qo3 (by decide) (by decide +kernel) (ev_nmV 3))) (Ev.nr (ev_disp1 ev_str (ev_nm 4 pv))) (nomark _)) e1) (ew_orF (EvT.is (et_ne hu sg (by decide +kernel) (ev_pGone T hr (by decide) qo3 (by decide) (ev_nmV 3)) (ev_tup (ea_cons ev_str ea_nil) (by simp))) e2) (ew_or1 (EvT.is (et_cv (cv_dNe hu7 (fun q _ => shaped_ask _) (fun q _ => shaped_ask _)) (Ev.nr (ev_pAsks T hr (by decide) qo3 (by decide) (by decide +kernel) (ev_nmV 3))) (Ev.nr (ev_disp2 (f := askD) (n1 := "a") (b1 := some 3) (n2 := "b") (b2 := none) ev_str ev_int ev_str ev_non)) (nomark _)) e3))))) (fun z => nf z) (fun _ H4 g4 => ?_)
    have eT : trPut (trPut [] ("a" : Str) [PyData.int 7, .int 8, .int 9]) "d" [PyData.int 1] = tE := by kernel_rfl
    have eC : ([((1, 2), [PyData.int 5, .int 6])] : Cl) = cE := rfl
    have eF : trPut (trPut [] ("b" : Str) [PyData.int 7, .int 5, .int 6, .int 9]) "d" [PyData.int 1] = fE := by kernel_rfl
    refine bl_ret g4.r (P := Pd K (.bool (eqvM tpl tpl (fillO oE tE cE) fE))) ?_ (fun y H5 g5 py => ?_)
    · refine ev_cv (cv_dEq hu7 shE (shaped_tplC fE_cs)) ?_ ?_ (nomark _)
      · refine Ev.nr ?_
        refine ev_filledN T hr (by decide) (qo3.g g4) filE (ev_nmV 3) ?_ ?_ _ (fun _ _ _ _ _ _ => rfl)
        · rw [← eT]
          refine ev_disp2 (f := tpl) ?_ ?_ ?_ ?_
          · exact ev_str
          · refine ev_tup (k := 0) ?_ ?_
            · refine ea_i ?_
              refine ea_i ?_
              refine ea_i ?_
              exact ea_nil
            · decide
          · exact ev_str
          · refine ev_tup (k := 0) ?_ ?_
            · refine ea_i ?_
              exact ea_nil
            · decide
        · refine Ev.tnw ?_
          rw [← eC]
          refine ev_disp1T ?_ ?_ ?_
          · exact hu
          · refine ev_tup (k := 0) ?_ ?_
            · refine ea_i ?_
              refine ea_i ?_
              exact ea_nil
            · decide
          · refine ev_tup (k := 0) ?_ ?_
            · refine ea_i ?_
              refine ea_i ?_
              exact ea_nil
            · decide
      · refine Ev.nr ?_
        rw [← eF]
        refine ev_disp2 (f := tpl) ?_ ?_ ?_ ?_
        · exact ev_str
        · refine ev_tup (k := 0) ?_ ?_
          · refine ea_i ?_
            refine ea_i ?_
            refine ea_i ?_
            refine ea_i ?_
            exact ea_nil
          · decide
        · exact ev_str
        · refine ev_tup (k := 0) ?_ ?_
          · refine ea_i ?_
            exact ea_nil
          · decide
    · rw [sameE] at py
      obtain rfl := dv_bl py
      exact hQ H5
end
end SR
set_option Elab.async false
set_option linter.all false
set_option maxRecDepth 100000
set_option maxHeartbeats 0
/-! the end -/
namespace SR
open PySem PySem.Spec PyProof.Rows L2
theorem facts {P : Program} {w : World} {K : PySem.W.Frag} {h : Heap} {mg : Str → Option Value} {f : Addr} (X : K.In h) (G : h.Ns mainGlobals mg) (hfa : mg ("law" : Str) = some (.ref f)) (c : SaysS w K) :
    ∃ fd : FuncData, (∀ (s : Shared) (v : Value), BindsTo s fd ⟨[v], []⟩ [("_law_script", v)]) ∧ ∀ base : Heap, K.In base → base.Ns mainGlobals mg → FnOk P w K mg base CX0 12 f fd ["_law_script"] (spLaw K) := by
  have T := txt_of X G c
  obtain ⟨fd, F, hm⟩ := T.g (("law" : Str), st_law) (List.mem_of_getElem? (i := 50) rfl)
  have e := hfa.symm.trans hm
  cases e
  have b := FunD.bindsA (ps := ["_law_script"]) F fun _ _ _ _ _ _ us hl => match us, hl with | [_], _ => rfl
  exact ⟨fd, fun s v => b s [v] rfl, fun base _ _ => F.ok sc_law (fun vs H Q E ⟨_, _, h, _⟩ => by rw [h]; rfl) fun cdv A outer s H vs Q E hr h => ⟨_, PSs.nox e_pss, body_law T _ cdv A outer s H vs Q E hr h⟩⟩
end SR
set_option Elab.async false
set_option linter.all false
set_option maxRecDepth 100000
set_option maxHeartbeats 0
open PySem PySem.W PySem.Calls PyProof.Rows
theorem PySem.Challenge.cw_stillread_k49_whole_outlines_filled_in_holds : PySem.Challenge.rw_stillread_k49_whole_outlines_filled_in.Holds := by
  w_on; o_law
  refine HandSHeadRun.head_any (r := OpenLaw.row PySem.Challenge.rw_stillread_k49_whole_outlines_filled_in) (q := view (OpenLaw.row PySem.Challenge.rw_stillread_k49_whole_outlines_filled_in).prog [87]) (H := SR.hk) (ob := SR.ob) (M := 8000) (loose := SR.looseAll) (d := HandSHeadRun.topDef (OpenLaw.row PySem.Challenge.rw_stillread_k49_whole_outlines_filled_in).prog 87) (kwd := []) SR.ob_eq
    (by kernel_rfl) (fun s => by kernel_rfl) SR.run (by kernel_rfl) (by kernel_rfl) (by kernel_rfl) (by rfl) (by first | assumption | decide +kernel) (by decide +kernel) ⟨rfl, rfl, rfl, rfl, rfl, by decide +kernel⟩ ?hw ?hc
  case hw => w_witness2
  case hc =>
    refine L2.walk_ofE (l := PySem.Challenge.rw_stillread_k49_whole_outlines_filled_in) (n := 63) (k := 12) (x := "_law_script") (CX := L2.CX0) rfl (by decide) (by kernel_rfl) ⟨rfl, by decide, by decide⟩ ?F (fun _ _ _ _ z => z)
    intro w mg fa h Y G hmg0
    obtain ⟨K, KX, c⟩ := Y
    have hmg : mg ("law" : PySem.Str) = some (.ref fa) := by
      have e : (HandSHeadRun.topDef (OpenLaw.row PySem.Challenge.rw_stillread_k49_whole_outlines_filled_in).prog 87).name = ("law" : PySem.Str) := by kernel_rfl
      rw [← e]
      exact hmg0
    obtain ⟨fd, hb, hF⟩ := SR.facts (P := (PySem.Challenge.rw_stillread_k49_whole_outlines_filled_in).prog) (w := w) KX G hmg c
    exact ⟨K, fd, SR.spLaw K, KX, hb, fun H a ns hl _ hS => ⟨a, ns, rfl, hS, fun _ => rfl⟩, hF⟩
#print axioms PySem.Challenge.cw_stillread_k49_whole_outlines_filled_in_holds
