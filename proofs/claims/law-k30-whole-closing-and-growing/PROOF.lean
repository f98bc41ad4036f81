import PyProof.Rows.All
import Wide.All
import OpenK.AllK
import Wide.FinOn
import HandS.ForMost
import HandS.Exc
import HandS.Defaults
import HandS.MakeKw
import HandS.Property
import HandS.Star
import HandS.IsInst
import HandS.Lambda
import HandS.GenList
import HandS.HeadHook1
import HandS.HeadHook2
import HandS.HeadHook3
import HandS.HeadHook4
import HandS.HeadNt
import KE.KStateDown
import HandS.Head0
import HandS.Head1
import HandS.Head2
import HandS.HeadEnd
import HandS.HeadWalk
import KE.KTupSum
import KE.SortKeyHeap
import HandS.Small
import HandS.GenYield
import HandS.IterNext
import HandS.Walk
import HandS.Sort
import HandS.Conv
import KE.KDictList
import HandS.More
import HandS.EndTab
import PySem.Challenge.RW_grownfiles_k30_whole_closing_and_growing
set_option Elab.async false
set_option linter.all false
set_option maxRecDepth 100000
set_option maxHeartbeats 4000000
namespace GF
open PySem PySem.Spec PyProof.Rows L2
/-! ### the text by places -/
def top (i : Nat) : Stmt := PySem.Challenge.pw_grownfiles_k30_whole_closing_and_growing.main.body.getD i (.Pass ⟨0, 0, 0, 0⟩)
abbrev s_is_integer : Stmt := top 22
abbrev s_check_integer : Stmt := top 23
abbrev s_is_name : Stmt := top 24
abbrev s_is_enough : Stmt := top 30
abbrev s_first_enough : Stmt := top 31
abbrev s_best_enough : Stmt := top 32
abbrev s_place_by_rule : Stmt := top 33
abbrev s_placed : Stmt := top 35
abbrev s_is_run : Stmt := top 38
abbrev s_end_of : Stmt := top 39
abbrev s_is_before : Stmt := top 40
abbrev s_joined : Stmt := top 41
abbrev s_shared : Stmt := top 42
abbrev s_others : Stmt := top 43
abbrev s_runs_of : Stmt := top 44
abbrev s_pairs_of : Stmt := top 47
abbrev s_room_of : Stmt := top 48
abbrev s_check_disk : Stmt := top 54
abbrev s_is_share : Stmt := top 58
abbrev s_part_of : Stmt := top 59
abbrev s_check_parts : Stmt := top 61
abbrev s_law_hand : Stmt := top 66
abbrev s_law_draw : Stmt := top 67
abbrev s_law_made : Stmt := top 69
abbrev s_law_step : Stmt := top 70
abbrev s_law_rules : Stmt := top 71
abbrev s_law_small_book : Stmt := top 72
abbrev s_law_disk : Stmt := top 73
abbrev s_law_two : Stmt := top 75
abbrev s_law_kept_right : Stmt := top 76
abbrev s_law_back_right : Stmt := top 77
abbrev s_law_given_back_right : Stmt := top 78
abbrev s_law : Stmt := top 79
abbrev s_Pairs_init : Stmt := inClass (top 45) 0
abbrev s_Room_init : Stmt := inClass (top 46) 0
abbrev s_Room_runs : Stmt := inClass (top 46) 2
abbrev s_Room_runs_from : Stmt := inClass (top 46) 3
abbrev s_Room_bool : Stmt := inClass (top 46) 5
abbrev s_Room_sub : Stmt := inClass (top 46) 11
abbrev s_File_init : Stmt := inClass (top 53) 0
abbrev s_File_pieces : Stmt := inClass (top 53) 2
abbrev s_File_put_behind : Stmt := inClass (top 53) 4
abbrev s_File_cut_idle : Stmt := inClass (top 53) 5
abbrev s_Disk_init : Stmt := inClass (top 55) 0
abbrev s_Disk_free : Stmt := inClass (top 55) 3
abbrev s_Disk_getitem : Stmt := inClass (top 55) 8
abbrev s_Disk_make : Stmt := inClass (top 55) 9
abbrev s_Disk_open_file : Stmt := inClass (top 55) 10
abbrev s_Disk_grow : Stmt := inClass (top 55) 11
abbrev s_Disk_written_behind : Stmt := inClass (top 55) 13
abbrev s_Disk_flush : Stmt := inClass (top 55) 14
abbrev s_Disk_close : Stmt := inClass (top 55) 15
abbrev s_Disk_reopen : Stmt := inClass (top 55) 16
abbrev s_Book_init : Stmt := inClass (top 62) 0
abbrev s_Book_given : Stmt := inClass (top 62) 11
abbrev s_Book_call : Stmt := inClass (top 62) 12
abbrev s_Book_twin : Stmt := inClass (top 62) 14
abbrev s_File_idle : Stmt := inClass (top 53) 1
/-! ### the defs -/
def dF (x : Str) (st : Stmt) : He.DefD := ⟨(x, none), x, x, defArgs st, defBody st, defScope st, [], []⟩
def dM (C x qual : Str) (st : Stmt) : He.DefD := ⟨(C, some x), x, qual, defArgs st, defBody st, defScope st, [], []⟩
def fnList_0 : List He.DefD := [dF "is_integer" s_is_integer, dF "check_integer" s_check_integer, dF "is_name" s_is_name, dF "is_enough" s_is_enough, dF "first_enough" s_first_enough, dF "best_enough" s_best_enough, dF "place_by_rule" s_place_by_rule, dF "placed" s_placed, dF "is_run" s_is_run, dF "end_of" s_end_of, dF "is_before" s_is_before, dF "joined" s_joined]
def fnList_1 : List He.DefD := [dF "shared" s_shared, dF "others" s_others, dF "runs_of" s_runs_of, dF "pairs_of" s_pairs_of, dF "room_of" s_room_of, dF "check_disk" s_check_disk, dF "is_share" s_is_share, dF "part_of" s_part_of, dF "check_parts" s_check_parts, dF "_law_hand" s_law_hand, dF "_law_draw" s_law_draw, dF "_law_made" s_law_made]
def fnList_2 : List He.DefD := [dF "_law_step" s_law_step, dF "_law_rules" s_law_rules, dF "_law_small_book" s_law_small_book, dF "_law_disk" s_law_disk, dF "_law_two" s_law_two, dF "_law_kept_right" s_law_kept_right, dF "_law_back_right" s_law_back_right, dF "_law_given_back_right" s_law_given_back_right, dF "law" s_law, dM "Pairs" "__init__" "Pairs.__init__" s_Pairs_init, dM "Room" "__init__" "Room.__init__" s_Room_init, dM "Room" "runs" "Room.runs" s_Room_runs]
def fnList_3 : List He.DefD := [dM "Room" "runs_from" "Room.runs_from" s_Room_runs_from, dM "Room" "__bool__" "Room.__bool__" s_Room_bool, dM "Room" "__sub__" "Room.__sub__" s_Room_sub, dM "File" "__init__" "File.__init__" s_File_init, dM "File" "pieces" "File.pieces" s_File_pieces, dM "File" "put_behind" "File.put_behind" s_File_put_behind, dM "File" "cut_idle" "File.cut_idle" s_File_cut_idle, dM "Disk" "__init__" "Disk.__init__" s_Disk_init, dM "Disk" "free" "Disk.free" s_Disk_free, dM "Disk" "__getitem__" "Disk.__getitem__" s_Disk_getitem, dM "Disk" "make" "Disk.make" s_Disk_make, dM "Disk" "open_file" "Disk.open_file" s_Disk_open_file]
def fnList_4 : List He.DefD := [dM "Disk" "grow" "Disk.grow" s_Disk_grow, dM "Disk" "written_behind" "Disk.written_behind" s_Disk_written_behind, dM "Disk" "flush" "Disk.flush" s_Disk_flush, dM "Disk" "close" "Disk.close" s_Disk_close, dM "Disk" "reopen" "Disk.reopen" s_Disk_reopen, dM "Book" "__init__" "Book.__init__" s_Book_init, dM "Book" "given" "Book.given" s_Book_given, dM "Book" "__call__" "Book.__call__" s_Book_call, dM "Book" "twin" "Book.twin" s_Book_twin]
def fnList : List He.DefD := fnList_0 ++ fnList_1 ++ fnList_2 ++ fnList_3 ++ fnList_4
def gNames_0 : List Str := ["is_integer", "check_integer", "is_name", "is_enough", "first_enough", "best_enough", "place_by_rule", "placed", "is_run", "end_of", "is_before", "joined"]
def gNames_1 : List Str := ["shared", "others", "runs_of", "pairs_of", "room_of", "check_disk", "is_share", "part_of", "check_parts", "_law_hand", "_law_draw", "_law_made"]
def gNames_2 : List Str := ["_law_step", "_law_rules", "_law_small_book", "_law_disk", "_law_two", "_law_kept_right", "_law_back_right", "_law_given_back_right", "law", "Pairs", "Room", "File"]
def gNames_3 : List Str := ["Disk", "Book", "RULES"]
def gNames : List Str := gNames_0 ++ gNames_1 ++ gNames_2 ++ gNames_3
def mNames_0 : List Str := ["__bool__", "__call__", "__getitem__", "__init__", "__sub__", "close", "cut_idle", "flush", "free", "given", "grow", "make"]
def mNames_1 : List Str := ["open_file", "pieces", "put_behind", "reopen", "runs", "runs_from", "twin", "written_behind", "idle"]
def mNames : List Str := mNames_0 ++ mNames_1
/-! ### the facts -/
def gloL_0 : List Str := ["is_integer", "check_integer", "is_name", "is_enough", "first_enough", "best_enough", "place_by_rule", "placed", "is_run", "end_of", "is_before", "joined"]
def gloL_1 : List Str := ["shared", "others", "runs_of", "pairs_of", "room_of", "check_disk", "is_share", "part_of", "check_parts", "_law_hand", "_law_draw", "_law_made"]
def gloL_2 : List Str := ["_law_step", "_law_rules", "_law_small_book", "_law_disk", "_law_two", "_law_kept_right", "_law_back_right", "_law_given_back_right", "law", "Pairs", "Room", "File"]
def gloL_3 : List Str := ["Disk", "Book", "RULES"]
def gloL : List Str := gloL_0 ++ gloL_1 ++ gloL_2 ++ gloL_3
def freeL_0 : List Str := ["isinstance", "int", "bool", "str", "tuple", "list", "len", "all", "sum", "sorted", "enumerate", "max"]
def freeL_1 : List Str := ["min", "range"]
def freeL : List Str := freeL_0 ++ freeL_1
def clsL : List Str := ["Pairs", "Room", "File", "Disk", "Book"]
def noatL_0 : List (Str × Str) := [("Pairs", "pairs"), ("Room", "pairs"), ("File", "disk"), ("File", "name"), ("File", "size"), ("File", "hold"), ("File", "waiting"), ("File", "is_open"), ("File", "runs_held"), ("Disk", "own_book"), ("Disk", "rule"), ("Disk", "size")]
def noatL_1 : List (Str × Str) := [("Disk", "short"), ("Disk", "back"), ("Disk", "late"), ("Disk", "after"), ("Disk", "files"), ("Book", "own_first"), ("Book", "own_roof"), ("Book", "own_share")]
def noatL : List (Str × Str) := noatL_0 ++ noatL_1
def methL_0 : List (Str × Str) := [("Room", "runs"), ("Room", "runs_from"), ("Room", "__bool__"), ("Room", "__sub__"), ("File", "pieces"), ("File", "put_behind"), ("File", "cut_idle"), ("Disk", "free"), ("Disk", "__getitem__"), ("Disk", "make"), ("Disk", "open_file"), ("Disk", "grow")]
def methL_1 : List (Str × Str) := [("Disk", "written_behind"), ("Disk", "flush"), ("Disk", "close"), ("Disk", "reopen"), ("Book", "given"), ("Book", "__call__"), ("Book", "twin")]
def methL : List (Str × Str) := methL_0 ++ methL_1
def faList : List He.Fa := gloL.map He.Fa.glo ++ (freeL.map He.Fa.free ++ (clsL.map He.Fa.cls ++ (clsL.map He.Fa.mkr ++ (noatL.map (fun p => He.Fa.noat p.1 p.2) ++ (methL.map (fun p => He.Fa.meth p.1 p.2) ++
  [.int "MOST" (10 ^ 40), .int "MOST_BLOCK" (10 ^ 50), .int "MOST_GROWTH" (10 ^ 30), .int "MOST_RUNS" (1000), .int "MOST_SHARE" (100), .str "SMALL" "abcdefghijklmnopqrstuvwxyz"])))))
/-- the property idle: its object, its getter -/
def idP (K : PySem.W.Frag) : Addr := He.ma K (He.ga K "File") "idle"
def idG (K : PySem.W.Frag) : Addr := match PySem.W.recIn K (idP K) "property" with
  | some (.ref f :: _) => f
  | _ => 0
def dIdle : He5.DefA := ⟨idG, "idle", "File.idle", defArgs s_File_idle, defBody s_File_idle, defScope s_File_idle, [], []⟩
/-- a class's own instances before isinstance -/
def insB (K : PySem.W.Frag) (C : Addr) : Bool := He.eqO (PySem.W.findIn K (.ref C) "__class__") (some (some (.builtin "object.__class__"))) && decide (PySem.W.mroIn K C (.type "object") = some true)
def exB (K : PySem.W.Frag) : Bool :=
  He.tupB K "RULES" [.str "behind", .str "first", .str "best", .str "next"] &&
  (He.eqO (PySem.W.findIn K (.ref (He.ga K "File")) "idle") (some (some (.ref (idP K)))) &&
  (He.eqO (PySem.W.specialIn K (.ref (idP K)) "__get__") (some (some (.builtin "property.__get__"))) &&
  (decide (PySem.W.takesIn K (.ref (idP K)) = some true) &&
  ((match PySem.W.recIn K (idP K) "property" with
    | some (.ref f :: _) => true
    | _ => false) &&
  (He.eqO (PySem.W.specialIn K (.builtin "object.__class__") "__get__") (some (some (.builtin "getset_descriptor.__get__"))) &&
  (decide (PySem.W.takesIn K (.builtin "object.__class__") = some true) &&
  (insB K (He.ga K "Pairs") && (insB K (He.ga K "Room") &&
  (decide (PySem.W.kitOne K (.type "list") (.ref (He.ga K "Pairs")) = some false) &&
  (decide (PySem.W.kitOne K (.ref (He.ga K "Pairs")) (.ref (He.ga K "Pairs")) = some true) &&
  (decide (PySem.W.kitOne K (.ref (He.ga K "Room")) (.ref (He.ga K "Room")) = some true) &&
  (PySem.W.selfFirst K (He.ga K "Room") &&
  (PySem.W.fnIn K (He.ma K (He.ga K "Disk") "__getitem__") &&
  PySem.W.fnIn K (He.ma K (He.ga K "Book") "__call__"))))))))))))))
/-! ### the addresses that the facts look at -/
def keyIn (ns : List Str) (e : DictEntry) : Bool := ns.any fun x => e.key.isStr x
def valsOf (g : Addr → Option Obj) (ns : List Str) (a : Addr) : List Addr := match g a with
  | some ⟨_, _, .dict es _, _⟩ => es.toList.flatMap fun e => if keyIn ns e then He.refV e.val else []
  | _ => []
def codeAt (g : Addr → Option Obj) (a : Addr) : List Addr := match g a with
  | some ⟨_, _, .func fd, _⟩ => He.refV fd.code
  | _ => []
def nsAt (g : Addr → Option Obj) (a : Addr) : List Addr := match g a with
  | some ⟨_, _, .cls cd, _⟩ => [cd.ns]
  | _ => []
def fldAt (g : Addr → Option Obj) (a : Addr) : List Addr := match g a with
  | some ⟨_, _, .fields vs, _⟩ => vs.toList.flatMap He.refV
  | _ => []
def asL3 (g : Addr → Option Obj) (gs nss ms ps : List Addr) : List Addr := PySem.mainGlobals :: (gs ++ (nss ++ (ms ++ (ps ++ (gs ++ (ms ++ ps)).flatMap (codeAt g)))))
def asL2 (g : Addr → Option Obj) (gs nss ms : List Addr) : List Addr := asL3 g gs nss ms (ms.flatMap (fldAt g))
def asL1 (g : Addr → Option Obj) (gs nss : List Addr) : List Addr := asL2 g gs nss (nss.flatMap (valsOf g mNames))
def asL0 (g : Addr → Option Obj) (gs : List Addr) : List Addr := asL1 g gs (gs.flatMap (nsAt g))
def asL (g : Addr → Option Obj) : List Addr := asL0 g (valsOf g gNames PySem.mainGlobals)
/-! ### the hook -/
abbrev AlG : Type := (He.AlD × Bool) × He.FnW
def tf : List He.Defn := [("joined", none)]
def obsK (g : Addr → Option Obj) (K : PySem.W.Frag) : AlG := ((He.obsD faList fnList K, (exB K && dIdle.ok K) && He.tabsB g tf K), He5.fnA K (dIdle.at_ K))
def obsG (g : Addr → Option Obj) : AlG := obsK g (He.frT g (asL g))
def valG : AlG := ((He.valD fnList, true), dIdle.val)
structure Says (h : Heap) (K : PySem.W.Frag) : Prop where
  d : He.SaysD faList fnList K
  ex : exB K = true
  idok : dIdle.ok K = true
  idv : He5.fnA K (dIdle.at_ K) = dIdle.val
  hd : PySem.W.codeHdIn K (He.cT K ("joined", none)).1 (He.cT K ("joined", none)).2 = true
  out : K.lookup (He.cT K ("joined", none)).2 = none
  empty : h.get? (He.cT K ("joined", none)).2 = some { cls := .none, data := .fields #[] }
theorem says_of {h : Heap} (e : obsG h.get? = valG) : Says h (He.frT h.get? (asL h.get?)) := by
  have e1 := congrArg (fun z : AlG => z.1.1) e
  have e2 : ((exB (He.frT h.get? (asL h.get?)) && dIdle.ok (He.frT h.get? (asL h.get?))) && He.tabsB h.get? tf (He.frT h.get? (asL h.get?))) = true := congrArg (fun z : AlG => z.1.2) e
  have e3 := congrArg (fun z : AlG => z.2) e
  obtain ⟨h1, h2⟩ := He.ba e2
  obtain ⟨h3, h4⟩ := He.ba h1
  obtain ⟨k1, k2⟩ := He.ba (List.all_eq_true.mp h2 ("joined", none) (List.mem_singleton.mpr rfl))
  cases q : h.get? (He.cT (He.frT h.get? (asL h.get?)) ("joined", none)).2 with
  | none =>
    rw [q] at k2
    cases k2
  | some o =>
    rw [q] at k2
    exact ⟨e1, h3, h4, e3, k1, He.frT_none q k2, by rw [q, He.emptyTab_eq k2]⟩
def hookG : PySem.W.Hook where
  α := AlG
  obs := fun s => obsG s.heap.get?
  val := fun _ => valG
  says := fun _ h => ∃ K : PySem.W.Frag, K.In h ∧ Says h K
  of := fun _ _ e => ⟨_, He.frT_in, says_of e⟩
  keeps := fun _ _ _ ⟨K, hK, c⟩ k => ⟨K, PySem.W.Frag.In.keeps hK k, ⟨c.d, c.ex, c.idok, c.idv, c.hd, c.out, k _ _ c.empty⟩⟩
theorem obsG_eq {g : Addr → Option Obj} {s : Shared} (h : ∀ a, g a = s.heap.get? a) : obsG g = hookG.obs s := by
  have e : g = s.heap.get? := funext h
  rw [e] <;> rfl
end GF

set_option Elab.async false
set_option linter.all false
set_option maxRecDepth 100000
set_option maxHeartbeats 4000000
namespace GF
open PySem PySem.Spec PyProof.Rows L2
/-- what the top has left, by names -/
structure Txt (K : PySem.W.Frag) (mg : Str → Option Value) : Prop where
  glo : ∀ x ∈ gloL, mg x = some (.ref (He.ga K x))
  free : ∀ x ∈ freeL, mg x = none
  cls : ∀ x ∈ clsL, Cls K (He.ga K x)
  mks : ∀ x ∈ clsL, Mk K (He.ga K x) (He.ma K (He.ga K x) "__init__")
  noat : ∀ p ∈ noatL, NoAttr K (He.ga K p.1) p.2
  meth : ∀ p ∈ methL, Meth K (He.ga K p.1) p.2 (He.ma K (He.ga K p.1) p.2)
  i_MOST : ∃ t, mg "MOST" = some (.int (10 ^ 40) t)
  i_MOST_BLOCK : ∃ t, mg "MOST_BLOCK" = some (.int (10 ^ 50) t)
  i_MOST_GROWTH : ∃ t, mg "MOST_GROWTH" = some (.int (10 ^ 30) t)
  i_MOST_RUNS : ∃ t, mg "MOST_RUNS" = some (.int (1000) t)
  i_MOST_SHARE : ∃ t, mg "MOST_SHARE" = some (.int (100) t)
  i_SMALL : ∃ t, mg "SMALL" = some (.str "abcdefghijklmnopqrstuvwxyz" t)
  fn : ∀ d ∈ fnList, ∃ fd, FunD K d.name d.qual d.params d.body d.scope (d.dvs K) (d.kws K) (He.fAd K d.at_) fd
  rules : He.tupB K "RULES" [.str "behind", .str "first", .str "best", .str "next"] = true
  idle : PropOf K (He.ga K "File") "idle" (idP K) (idG K)
  d_idle : ∃ fd, Fun K "idle" "File.idle" s_File_idle (idG K) fd
  clsGet : PySem.W.specialIn K (.builtin "object.__class__") "__get__" = some (some (.builtin "getset_descriptor.__get__"))
  clsTak : PySem.W.takesIn K (.builtin "object.__class__") = some true
  insP : PySem.W.findIn K (.ref (He.ga K "Pairs")) "__class__" = some (some (.builtin "object.__class__")) ∧ PySem.W.mroIn K (He.ga K "Pairs") (.type "object") = some true
  insR : PySem.W.findIn K (.ref (He.ga K "Room")) "__class__" = some (some (.builtin "object.__class__")) ∧ PySem.W.mroIn K (He.ga K "Room") (.type "object") = some true
  kitL : PySem.W.kitOne K (.type "list") (.ref (He.ga K "Pairs")) = some false
  kitP : PySem.W.kitOne K (.ref (He.ga K "Pairs")) (.ref (He.ga K "Pairs")) = some true
  kitR : PySem.W.kitOne K (.ref (He.ga K "Room")) (.ref (He.ga K "Room")) = some true
  subF : PySem.W.selfFirst K (He.ga K "Room") = true
  fnGet : PySem.W.fnIn K (He.ma K (He.ga K "Disk") "__getitem__") = true
  fnCall : PySem.W.fnIn K (He.ma K (He.ga K "Book") "__call__") = true
section
variable {K : PySem.W.Frag} {mg : Str → Option Value}
theorem Txt.g_is_integer (T : Txt K mg) : mg "is_integer" = some (.ref (He.ga K "is_integer")) := T.glo _ (by decide +kernel)
theorem Txt.g_check_integer (T : Txt K mg) : mg "check_integer" = some (.ref (He.ga K "check_integer")) := T.glo _ (by decide +kernel)
theorem Txt.g_is_name (T : Txt K mg) : mg "is_name" = some (.ref (He.ga K "is_name")) := T.glo _ (by decide +kernel)
theorem Txt.g_is_enough (T : Txt K mg) : mg "is_enough" = some (.ref (He.ga K "is_enough")) := T.glo _ (by decide +kernel)
theorem Txt.g_first_enough (T : Txt K mg) : mg "first_enough" = some (.ref (He.ga K "first_enough")) := T.glo _ (by decide +kernel)
theorem Txt.g_best_enough (T : Txt K mg) : mg "best_enough" = some (.ref (He.ga K "best_enough")) := T.glo _ (by decide +kernel)
theorem Txt.g_place_by_rule (T : Txt K mg) : mg "place_by_rule" = some (.ref (He.ga K "place_by_rule")) := T.glo _ (by decide +kernel)
theorem Txt.g_placed (T : Txt K mg) : mg "placed" = some (.ref (He.ga K "placed")) := T.glo _ (by decide +kernel)
theorem Txt.g_is_run (T : Txt K mg) : mg "is_run" = some (.ref (He.ga K "is_run")) := T.glo _ (by decide +kernel)
theorem Txt.g_end_of (T : Txt K mg) : mg "end_of" = some (.ref (He.ga K "end_of")) := T.glo _ (by decide +kernel)
theorem Txt.g_is_before (T : Txt K mg) : mg "is_before" = some (.ref (He.ga K "is_before")) := T.glo _ (by decide +kernel)
theorem Txt.g_joined (T : Txt K mg) : mg "joined" = some (.ref (He.ga K "joined")) := T.glo _ (by decide +kernel)
theorem Txt.g_shared (T : Txt K mg) : mg "shared" = some (.ref (He.ga K "shared")) := T.glo _ (by decide +kernel)
theorem Txt.g_others (T : Txt K mg) : mg "others" = some (.ref (He.ga K "others")) := T.glo _ (by decide +kernel)
theorem Txt.g_runs_of (T : Txt K mg) : mg "runs_of" = some (.ref (He.ga K "runs_of")) := T.glo _ (by decide +kernel)
theorem Txt.g_pairs_of (T : Txt K mg) : mg "pairs_of" = some (.ref (He.ga K "pairs_of")) := T.glo _ (by decide +kernel)
theorem Txt.g_room_of (T : Txt K mg) : mg "room_of" = some (.ref (He.ga K "room_of")) := T.glo _ (by decide +kernel)
theorem Txt.g_check_disk (T : Txt K mg) : mg "check_disk" = some (.ref (He.ga K "check_disk")) := T.glo _ (by decide +kernel)
theorem Txt.g_is_share (T : Txt K mg) : mg "is_share" = some (.ref (He.ga K "is_share")) := T.glo _ (by decide +kernel)
theorem Txt.g_part_of (T : Txt K mg) : mg "part_of" = some (.ref (He.ga K "part_of")) := T.glo _ (by decide +kernel)
theorem Txt.g_check_parts (T : Txt K mg) : mg "check_parts" = some (.ref (He.ga K "check_parts")) := T.glo _ (by decide +kernel)
theorem Txt.g_law_hand (T : Txt K mg) : mg "_law_hand" = some (.ref (He.ga K "_law_hand")) := T.glo _ (by decide +kernel)
theorem Txt.g_law_draw (T : Txt K mg) : mg "_law_draw" = some (.ref (He.ga K "_law_draw")) := T.glo _ (by decide +kernel)
theorem Txt.g_law_made (T : Txt K mg) : mg "_law_made" = some (.ref (He.ga K "_law_made")) := T.glo _ (by decide +kernel)
theorem Txt.g_law_step (T : Txt K mg) : mg "_law_step" = some (.ref (He.ga K "_law_step")) := T.glo _ (by decide +kernel)
theorem Txt.g_law_rules (T : Txt K mg) : mg "_law_rules" = some (.ref (He.ga K "_law_rules")) := T.glo _ (by decide +kernel)
theorem Txt.g_law_small_book (T : Txt K mg) : mg "_law_small_book" = some (.ref (He.ga K "_law_small_book")) := T.glo _ (by decide +kernel)
theorem Txt.g_law_disk (T : Txt K mg) : mg "_law_disk" = some (.ref (He.ga K "_law_disk")) := T.glo _ (by decide +kernel)
theorem Txt.g_law_two (T : Txt K mg) : mg "_law_two" = some (.ref (He.ga K "_law_two")) := T.glo _ (by decide +kernel)
theorem Txt.g_law_kept_right (T : Txt K mg) : mg "_law_kept_right" = some (.ref (He.ga K "_law_kept_right")) := T.glo _ (by decide +kernel)
theorem Txt.g_law_back_right (T : Txt K mg) : mg "_law_back_right" = some (.ref (He.ga K "_law_back_right")) := T.glo _ (by decide +kernel)
theorem Txt.g_law_given_back_right (T : Txt K mg) : mg "_law_given_back_right" = some (.ref (He.ga K "_law_given_back_right")) := T.glo _ (by decide +kernel)
theorem Txt.g_law (T : Txt K mg) : mg "law" = some (.ref (He.ga K "law")) := T.glo _ (by decide +kernel)
theorem Txt.g_Pairs (T : Txt K mg) : mg "Pairs" = some (.ref (He.ga K "Pairs")) := T.glo _ (by decide +kernel)
theorem Txt.g_Room (T : Txt K mg) : mg "Room" = some (.ref (He.ga K "Room")) := T.glo _ (by decide +kernel)
theorem Txt.g_File (T : Txt K mg) : mg "File" = some (.ref (He.ga K "File")) := T.glo _ (by decide +kernel)
theorem Txt.g_Disk (T : Txt K mg) : mg "Disk" = some (.ref (He.ga K "Disk")) := T.glo _ (by decide +kernel)
theorem Txt.g_Book (T : Txt K mg) : mg "Book" = some (.ref (He.ga K "Book")) := T.glo _ (by decide +kernel)
theorem Txt.g_RULES (T : Txt K mg) : mg "RULES" = some (.ref (He.ga K "RULES")) := T.glo _ (by decide +kernel)
theorem Txt.f_isinstance (T : Txt K mg) : mg "isinstance" = none := T.free _ (by decide +kernel)
theorem Txt.f_int (T : Txt K mg) : mg "int" = none := T.free _ (by decide +kernel)
theorem Txt.f_bool (T : Txt K mg) : mg "bool" = none := T.free _ (by decide +kernel)
theorem Txt.f_str (T : Txt K mg) : mg "str" = none := T.free _ (by decide +kernel)
theorem Txt.f_tuple (T : Txt K mg) : mg "tuple" = none := T.free _ (by decide +kernel)
theorem Txt.f_list (T : Txt K mg) : mg "list" = none := T.free _ (by decide +kernel)
theorem Txt.f_len (T : Txt K mg) : mg "len" = none := T.free _ (by decide +kernel)
theorem Txt.f_all (T : Txt K mg) : mg "all" = none := T.free _ (by decide +kernel)
theorem Txt.f_sum (T : Txt K mg) : mg "sum" = none := T.free _ (by decide +kernel)
theorem Txt.f_sorted (T : Txt K mg) : mg "sorted" = none := T.free _ (by decide +kernel)
theorem Txt.f_enumerate (T : Txt K mg) : mg "enumerate" = none := T.free _ (by decide +kernel)
theorem Txt.f_max (T : Txt K mg) : mg "max" = none := T.free _ (by decide +kernel)
theorem Txt.f_min (T : Txt K mg) : mg "min" = none := T.free _ (by decide +kernel)
theorem Txt.f_range (T : Txt K mg) : mg "range" = none := T.free _ (by decide +kernel)
theorem Txt.c_Pairs (T : Txt K mg) : Cls K (He.ga K "Pairs") := T.cls _ (by decide +kernel)
theorem Txt.mk_Pairs (T : Txt K mg) : Mk K (He.ga K "Pairs") (He.ma K (He.ga K "Pairs") "__init__") := T.mks _ (by decide +kernel)
theorem Txt.c_Room (T : Txt K mg) : Cls K (He.ga K "Room") := T.cls _ (by decide +kernel)
theorem Txt.mk_Room (T : Txt K mg) : Mk K (He.ga K "Room") (He.ma K (He.ga K "Room") "__init__") := T.mks _ (by decide +kernel)
theorem Txt.c_File (T : Txt K mg) : Cls K (He.ga K "File") := T.cls _ (by decide +kernel)
theorem Txt.mk_File (T : Txt K mg) : Mk K (He.ga K "File") (He.ma K (He.ga K "File") "__init__") := T.mks _ (by decide +kernel)
theorem Txt.c_Disk (T : Txt K mg) : Cls K (He.ga K "Disk") := T.cls _ (by decide +kernel)
theorem Txt.mk_Disk (T : Txt K mg) : Mk K (He.ga K "Disk") (He.ma K (He.ga K "Disk") "__init__") := T.mks _ (by decide +kernel)
theorem Txt.c_Book (T : Txt K mg) : Cls K (He.ga K "Book") := T.cls _ (by decide +kernel)
theorem Txt.mk_Book (T : Txt K mg) : Mk K (He.ga K "Book") (He.ma K (He.ga K "Book") "__init__") := T.mks _ (by decide +kernel)
theorem Txt.n_Pairs_pairs (T : Txt K mg) : NoAttr K (He.ga K "Pairs") "pairs" := T.noat ("Pairs", "pairs") (by decide +kernel)
theorem Txt.n_Room_pairs (T : Txt K mg) : NoAttr K (He.ga K "Room") "pairs" := T.noat ("Room", "pairs") (by decide +kernel)
theorem Txt.n_File_disk (T : Txt K mg) : NoAttr K (He.ga K "File") "disk" := T.noat ("File", "disk") (by decide +kernel)
theorem Txt.n_File_name (T : Txt K mg) : NoAttr K (He.ga K "File") "name" := T.noat ("File", "name") (by decide +kernel)
theorem Txt.n_File_size (T : Txt K mg) : NoAttr K (He.ga K "File") "size" := T.noat ("File", "size") (by decide +kernel)
theorem Txt.n_File_hold (T : Txt K mg) : NoAttr K (He.ga K "File") "hold" := T.noat ("File", "hold") (by decide +kernel)
theorem Txt.n_File_waiting (T : Txt K mg) : NoAttr K (He.ga K "File") "waiting" := T.noat ("File", "waiting") (by decide +kernel)
theorem Txt.n_File_is_open (T : Txt K mg) : NoAttr K (He.ga K "File") "is_open" := T.noat ("File", "is_open") (by decide +kernel)
theorem Txt.n_File_runs_held (T : Txt K mg) : NoAttr K (He.ga K "File") "runs_held" := T.noat ("File", "runs_held") (by decide +kernel)
theorem Txt.n_Disk_own_book (T : Txt K mg) : NoAttr K (He.ga K "Disk") "own_book" := T.noat ("Disk", "own_book") (by decide +kernel)
theorem Txt.n_Disk_rule (T : Txt K mg) : NoAttr K (He.ga K "Disk") "rule" := T.noat ("Disk", "rule") (by decide +kernel)
theorem Txt.n_Disk_size (T : Txt K mg) : NoAttr K (He.ga K "Disk") "size" := T.noat ("Disk", "size") (by decide +kernel)
theorem Txt.n_Disk_short (T : Txt K mg) : NoAttr K (He.ga K "Disk") "short" := T.noat ("Disk", "short") (by decide +kernel)
theorem Txt.n_Disk_back (T : Txt K mg) : NoAttr K (He.ga K "Disk") "back" := T.noat ("Disk", "back") (by decide +kernel)
theorem Txt.n_Disk_late (T : Txt K mg) : NoAttr K (He.ga K "Disk") "late" := T.noat ("Disk", "late") (by decide +kernel)
theorem Txt.n_Disk_after (T : Txt K mg) : NoAttr K (He.ga K "Disk") "after" := T.noat ("Disk", "after") (by decide +kernel)
theorem Txt.n_Disk_files (T : Txt K mg) : NoAttr K (He.ga K "Disk") "files" := T.noat ("Disk", "files") (by decide +kernel)
theorem Txt.n_Book_own_first (T : Txt K mg) : NoAttr K (He.ga K "Book") "own_first" := T.noat ("Book", "own_first") (by decide +kernel)
theorem Txt.n_Book_own_roof (T : Txt K mg) : NoAttr K (He.ga K "Book") "own_roof" := T.noat ("Book", "own_roof") (by decide +kernel)
theorem Txt.n_Book_own_share (T : Txt K mg) : NoAttr K (He.ga K "Book") "own_share" := T.noat ("Book", "own_share") (by decide +kernel)
theorem Txt.m_Room_runs (T : Txt K mg) : Meth K (He.ga K "Room") "runs" (He.ma K (He.ga K "Room") "runs") := T.meth ("Room", "runs") (by decide +kernel)
theorem Txt.m_Room_runs_from (T : Txt K mg) : Meth K (He.ga K "Room") "runs_from" (He.ma K (He.ga K "Room") "runs_from") := T.meth ("Room", "runs_from") (by decide +kernel)
theorem Txt.m_Room_bool (T : Txt K mg) : Meth K (He.ga K "Room") "__bool__" (He.ma K (He.ga K "Room") "__bool__") := T.meth ("Room", "__bool__") (by decide +kernel)
theorem Txt.m_Room_sub (T : Txt K mg) : Meth K (He.ga K "Room") "__sub__" (He.ma K (He.ga K "Room") "__sub__") := T.meth ("Room", "__sub__") (by decide +kernel)
theorem Txt.m_File_pieces (T : Txt K mg) : Meth K (He.ga K "File") "pieces" (He.ma K (He.ga K "File") "pieces") := T.meth ("File", "pieces") (by decide +kernel)
theorem Txt.m_File_put_behind (T : Txt K mg) : Meth K (He.ga K "File") "put_behind" (He.ma K (He.ga K "File") "put_behind") := T.meth ("File", "put_behind") (by decide +kernel)
theorem Txt.m_File_cut_idle (T : Txt K mg) : Meth K (He.ga K "File") "cut_idle" (He.ma K (He.ga K "File") "cut_idle") := T.meth ("File", "cut_idle") (by decide +kernel)
theorem Txt.m_Disk_free (T : Txt K mg) : Meth K (He.ga K "Disk") "free" (He.ma K (He.ga K "Disk") "free") := T.meth ("Disk", "free") (by decide +kernel)
theorem Txt.m_Disk_getitem (T : Txt K mg) : Meth K (He.ga K "Disk") "__getitem__" (He.ma K (He.ga K "Disk") "__getitem__") := T.meth ("Disk", "__getitem__") (by decide +kernel)
theorem Txt.m_Disk_make (T : Txt K mg) : Meth K (He.ga K "Disk") "make" (He.ma K (He.ga K "Disk") "make") := T.meth ("Disk", "make") (by decide +kernel)
theorem Txt.m_Disk_open_file (T : Txt K mg) : Meth K (He.ga K "Disk") "open_file" (He.ma K (He.ga K "Disk") "open_file") := T.meth ("Disk", "open_file") (by decide +kernel)
theorem Txt.m_Disk_grow (T : Txt K mg) : Meth K (He.ga K "Disk") "grow" (He.ma K (He.ga K "Disk") "grow") := T.meth ("Disk", "grow") (by decide +kernel)
theorem Txt.m_Disk_written_behind (T : Txt K mg) : Meth K (He.ga K "Disk") "written_behind" (He.ma K (He.ga K "Disk") "written_behind") := T.meth ("Disk", "written_behind") (by decide +kernel)
theorem Txt.m_Disk_flush (T : Txt K mg) : Meth K (He.ga K "Disk") "flush" (He.ma K (He.ga K "Disk") "flush") := T.meth ("Disk", "flush") (by decide +kernel)
theorem Txt.m_Disk_close (T : Txt K mg) : Meth K (He.ga K "Disk") "close" (He.ma K (He.ga K "Disk") "close") := T.meth ("Disk", "close") (by decide +kernel)
theorem Txt.m_Disk_reopen (T : Txt K mg) : Meth K (He.ga K "Disk") "reopen" (He.ma K (He.ga K "Disk") "reopen") := T.meth ("Disk", "reopen") (by decide +kernel)
theorem Txt.m_Book_given (T : Txt K mg) : Meth K (He.ga K "Book") "given" (He.ma K (He.ga K "Book") "given") := T.meth ("Book", "given") (by decide +kernel)
theorem Txt.m_Book_call (T : Txt K mg) : Meth K (He.ga K "Book") "__call__" (He.ma K (He.ga K "Book") "__call__") := T.meth ("Book", "__call__") (by decide +kernel)
theorem Txt.m_Book_twin (T : Txt K mg) : Meth K (He.ga K "Book") "twin" (He.ma K (He.ga K "Book") "twin") := T.meth ("Book", "twin") (by decide +kernel)
theorem Txt.d_is_integer (T : Txt K mg) : ∃ fd, Fun K "is_integer" "is_integer" s_is_integer (He.ga K "is_integer") fd := let ⟨fd, F⟩ := T.fn (dF "is_integer" s_is_integer) (List.mem_of_getElem? (i := 0) rfl); ⟨fd, He5.fun_of (st := s_is_integer) (kws := []) F⟩
theorem Txt.d_check_integer (T : Txt K mg) : ∃ fd, Fun K "check_integer" "check_integer" s_check_integer (He.ga K "check_integer") fd := let ⟨fd, F⟩ := T.fn (dF "check_integer" s_check_integer) (List.mem_of_getElem? (i := 1) rfl); ⟨fd, He5.fun_of (st := s_check_integer) (kws := []) F⟩
theorem Txt.d_is_name (T : Txt K mg) : ∃ fd, Fun K "is_name" "is_name" s_is_name (He.ga K "is_name") fd := let ⟨fd, F⟩ := T.fn (dF "is_name" s_is_name) (List.mem_of_getElem? (i := 2) rfl); ⟨fd, He5.fun_of (st := s_is_name) (kws := []) F⟩
theorem Txt.d_is_enough (T : Txt K mg) : ∃ fd, Fun K "is_enough" "is_enough" s_is_enough (He.ga K "is_enough") fd := let ⟨fd, F⟩ := T.fn (dF "is_enough" s_is_enough) (List.mem_of_getElem? (i := 3) rfl); ⟨fd, He5.fun_of (st := s_is_enough) (kws := []) F⟩
theorem Txt.d_first_enough (T : Txt K mg) : ∃ fd, Fun K "first_enough" "first_enough" s_first_enough (He.ga K "first_enough") fd := let ⟨fd, F⟩ := T.fn (dF "first_enough" s_first_enough) (List.mem_of_getElem? (i := 4) rfl); ⟨fd, He5.fun_of (st := s_first_enough) (kws := []) F⟩
theorem Txt.d_best_enough (T : Txt K mg) : ∃ fd, Fun K "best_enough" "best_enough" s_best_enough (He.ga K "best_enough") fd := let ⟨fd, F⟩ := T.fn (dF "best_enough" s_best_enough) (List.mem_of_getElem? (i := 5) rfl); ⟨fd, He5.fun_of (st := s_best_enough) (kws := []) F⟩
theorem Txt.d_place_by_rule (T : Txt K mg) : ∃ fd, Fun K "place_by_rule" "place_by_rule" s_place_by_rule (He.ga K "place_by_rule") fd := let ⟨fd, F⟩ := T.fn (dF "place_by_rule" s_place_by_rule) (List.mem_of_getElem? (i := 6) rfl); ⟨fd, He5.fun_of (st := s_place_by_rule) (kws := []) F⟩
theorem Txt.d_placed (T : Txt K mg) : ∃ fd, Fun K "placed" "placed" s_placed (He.ga K "placed") fd := let ⟨fd, F⟩ := T.fn (dF "placed" s_placed) (List.mem_of_getElem? (i := 7) rfl); ⟨fd, He5.fun_of (st := s_placed) (kws := []) F⟩
theorem Txt.d_is_run (T : Txt K mg) : ∃ fd, Fun K "is_run" "is_run" s_is_run (He.ga K "is_run") fd := let ⟨fd, F⟩ := T.fn (dF "is_run" s_is_run) (List.mem_of_getElem? (i := 8) rfl); ⟨fd, He5.fun_of (st := s_is_run) (kws := []) F⟩
theorem Txt.d_end_of (T : Txt K mg) : ∃ fd, Fun K "end_of" "end_of" s_end_of (He.ga K "end_of") fd := let ⟨fd, F⟩ := T.fn (dF "end_of" s_end_of) (List.mem_of_getElem? (i := 9) rfl); ⟨fd, He5.fun_of (st := s_end_of) (kws := []) F⟩
theorem Txt.d_is_before (T : Txt K mg) : ∃ fd, Fun K "is_before" "is_before" s_is_before (He.ga K "is_before") fd := let ⟨fd, F⟩ := T.fn (dF "is_before" s_is_before) (List.mem_of_getElem? (i := 10) rfl); ⟨fd, He5.fun_of (st := s_is_before) (kws := []) F⟩
theorem Txt.d_joined (T : Txt K mg) : ∃ fd, Fun K "joined" "joined" s_joined (He.ga K "joined") fd := let ⟨fd, F⟩ := T.fn (dF "joined" s_joined) (List.mem_of_getElem? (i := 11) rfl); ⟨fd, He5.fun_of (st := s_joined) (kws := []) F⟩
theorem Txt.d_shared (T : Txt K mg) : ∃ fd, Fun K "shared" "shared" s_shared (He.ga K "shared") fd := let ⟨fd, F⟩ := T.fn (dF "shared" s_shared) (List.mem_of_getElem? (i := 12) rfl); ⟨fd, He5.fun_of (st := s_shared) (kws := []) F⟩
theorem Txt.d_others (T : Txt K mg) : ∃ fd, Fun K "others" "others" s_others (He.ga K "others") fd := let ⟨fd, F⟩ := T.fn (dF "others" s_others) (List.mem_of_getElem? (i := 13) rfl); ⟨fd, He5.fun_of (st := s_others) (kws := []) F⟩
theorem Txt.d_runs_of (T : Txt K mg) : ∃ fd, Fun K "runs_of" "runs_of" s_runs_of (He.ga K "runs_of") fd := let ⟨fd, F⟩ := T.fn (dF "runs_of" s_runs_of) (List.mem_of_getElem? (i := 14) rfl); ⟨fd, He5.fun_of (st := s_runs_of) (kws := []) F⟩
theorem Txt.d_pairs_of (T : Txt K mg) : ∃ fd, Fun K "pairs_of" "pairs_of" s_pairs_of (He.ga K "pairs_of") fd := let ⟨fd, F⟩ := T.fn (dF "pairs_of" s_pairs_of) (List.mem_of_getElem? (i := 15) rfl); ⟨fd, He5.fun_of (st := s_pairs_of) (kws := []) F⟩
theorem Txt.d_room_of (T : Txt K mg) : ∃ fd, Fun K "room_of" "room_of" s_room_of (He.ga K "room_of") fd := let ⟨fd, F⟩ := T.fn (dF "room_of" s_room_of) (List.mem_of_getElem? (i := 16) rfl); ⟨fd, He5.fun_of (st := s_room_of) (kws := []) F⟩
theorem Txt.d_check_disk (T : Txt K mg) : ∃ fd, Fun K "check_disk" "check_disk" s_check_disk (He.ga K "check_disk") fd := let ⟨fd, F⟩ := T.fn (dF "check_disk" s_check_disk) (List.mem_of_getElem? (i := 17) rfl); ⟨fd, He5.fun_of (st := s_check_disk) (kws := []) F⟩
theorem Txt.d_is_share (T : Txt K mg) : ∃ fd, Fun K "is_share" "is_share" s_is_share (He.ga K "is_share") fd := let ⟨fd, F⟩ := T.fn (dF "is_share" s_is_share) (List.mem_of_getElem? (i := 18) rfl); ⟨fd, He5.fun_of (st := s_is_share) (kws := []) F⟩
theorem Txt.d_part_of (T : Txt K mg) : ∃ fd, Fun K "part_of" "part_of" s_part_of (He.ga K "part_of") fd := let ⟨fd, F⟩ := T.fn (dF "part_of" s_part_of) (List.mem_of_getElem? (i := 19) rfl); ⟨fd, He5.fun_of (st := s_part_of) (kws := []) F⟩
theorem Txt.d_check_parts (T : Txt K mg) : ∃ fd, Fun K "check_parts" "check_parts" s_check_parts (He.ga K "check_parts") fd := let ⟨fd, F⟩ := T.fn (dF "check_parts" s_check_parts) (List.mem_of_getElem? (i := 20) rfl); ⟨fd, He5.fun_of (st := s_check_parts) (kws := []) F⟩
theorem Txt.d_law_hand (T : Txt K mg) : ∃ fd, Fun K "_law_hand" "_law_hand" s_law_hand (He.ga K "_law_hand") fd := let ⟨fd, F⟩ := T.fn (dF "_law_hand" s_law_hand) (List.mem_of_getElem? (i := 21) rfl); ⟨fd, He5.fun_of (st := s_law_hand) (kws := []) F⟩
theorem Txt.d_law_draw (T : Txt K mg) : ∃ fd, Fun K "_law_draw" "_law_draw" s_law_draw (He.ga K "_law_draw") fd := let ⟨fd, F⟩ := T.fn (dF "_law_draw" s_law_draw) (List.mem_of_getElem? (i := 22) rfl); ⟨fd, He5.fun_of (st := s_law_draw) (kws := []) F⟩
theorem Txt.d_law_made (T : Txt K mg) : ∃ fd, Fun K "_law_made" "_law_made" s_law_made (He.ga K "_law_made") fd := let ⟨fd, F⟩ := T.fn (dF "_law_made" s_law_made) (List.mem_of_getElem? (i := 23) rfl); ⟨fd, He5.fun_of (st := s_law_made) (kws := []) F⟩
theorem Txt.d_law_step (T : Txt K mg) : ∃ fd, Fun K "_law_step" "_law_step" s_law_step (He.ga K "_law_step") fd := let ⟨fd, F⟩ := T.fn (dF "_law_step" s_law_step) (List.mem_of_getElem? (i := 24) rfl); ⟨fd, He5.fun_of (st := s_law_step) (kws := []) F⟩
theorem Txt.d_law_rules (T : Txt K mg) : ∃ fd, Fun K "_law_rules" "_law_rules" s_law_rules (He.ga K "_law_rules") fd := let ⟨fd, F⟩ := T.fn (dF "_law_rules" s_law_rules) (List.mem_of_getElem? (i := 25) rfl); ⟨fd, He5.fun_of (st := s_law_rules) (kws := []) F⟩
theorem Txt.d_law_small_book (T : Txt K mg) : ∃ fd, Fun K "_law_small_book" "_law_small_book" s_law_small_book (He.ga K "_law_small_book") fd := let ⟨fd, F⟩ := T.fn (dF "_law_small_book" s_law_small_book) (List.mem_of_getElem? (i := 26) rfl); ⟨fd, He5.fun_of (st := s_law_small_book) (kws := []) F⟩
theorem Txt.d_law_disk (T : Txt K mg) : ∃ fd, Fun K "_law_disk" "_law_disk" s_law_disk (He.ga K "_law_disk") fd := let ⟨fd, F⟩ := T.fn (dF "_law_disk" s_law_disk) (List.mem_of_getElem? (i := 27) rfl); ⟨fd, He5.fun_of (st := s_law_disk) (kws := []) F⟩
theorem Txt.d_law_two (T : Txt K mg) : ∃ fd, Fun K "_law_two" "_law_two" s_law_two (He.ga K "_law_two") fd := let ⟨fd, F⟩ := T.fn (dF "_law_two" s_law_two) (List.mem_of_getElem? (i := 28) rfl); ⟨fd, He5.fun_of (st := s_law_two) (kws := []) F⟩
theorem Txt.d_law_kept_right (T : Txt K mg) : ∃ fd, Fun K "_law_kept_right" "_law_kept_right" s_law_kept_right (He.ga K "_law_kept_right") fd := let ⟨fd, F⟩ := T.fn (dF "_law_kept_right" s_law_kept_right) (List.mem_of_getElem? (i := 29) rfl); ⟨fd, He5.fun_of (st := s_law_kept_right) (kws := []) F⟩
theorem Txt.d_law_back_right (T : Txt K mg) : ∃ fd, Fun K "_law_back_right" "_law_back_right" s_law_back_right (He.ga K "_law_back_right") fd := let ⟨fd, F⟩ := T.fn (dF "_law_back_right" s_law_back_right) (List.mem_of_getElem? (i := 30) rfl); ⟨fd, He5.fun_of (st := s_law_back_right) (kws := []) F⟩
theorem Txt.d_law_given_back_right (T : Txt K mg) : ∃ fd, Fun K "_law_given_back_right" "_law_given_back_right" s_law_given_back_right (He.ga K "_law_given_back_right") fd := let ⟨fd, F⟩ := T.fn (dF "_law_given_back_right" s_law_given_back_right) (List.mem_of_getElem? (i := 31) rfl); ⟨fd, He5.fun_of (st := s_law_given_back_right) (kws := []) F⟩
theorem Txt.d_law (T : Txt K mg) : ∃ fd, Fun K "law" "law" s_law (He.ga K "law") fd := let ⟨fd, F⟩ := T.fn (dF "law" s_law) (List.mem_of_getElem? (i := 32) rfl); ⟨fd, He5.fun_of (st := s_law) (kws := []) F⟩
theorem Txt.d_Pairs_init (T : Txt K mg) : ∃ fd, Fun K "__init__" "Pairs.__init__" s_Pairs_init (He.ma K (He.ga K "Pairs") "__init__") fd := let ⟨fd, F⟩ := T.fn (dM "Pairs" "__init__" "Pairs.__init__" s_Pairs_init) (List.mem_of_getElem? (i := 33) rfl); ⟨fd, He5.fun_of (st := s_Pairs_init) (kws := []) F⟩
theorem Txt.d_Room_init (T : Txt K mg) : ∃ fd, Fun K "__init__" "Room.__init__" s_Room_init (He.ma K (He.ga K "Room") "__init__") fd := let ⟨fd, F⟩ := T.fn (dM "Room" "__init__" "Room.__init__" s_Room_init) (List.mem_of_getElem? (i := 34) rfl); ⟨fd, He5.fun_of (st := s_Room_init) (kws := []) F⟩
theorem Txt.d_Room_runs (T : Txt K mg) : ∃ fd, Fun K "runs" "Room.runs" s_Room_runs (He.ma K (He.ga K "Room") "runs") fd := let ⟨fd, F⟩ := T.fn (dM "Room" "runs" "Room.runs" s_Room_runs) (List.mem_of_getElem? (i := 35) rfl); ⟨fd, He5.fun_of (st := s_Room_runs) (kws := []) F⟩
theorem Txt.d_Room_runs_from (T : Txt K mg) : ∃ fd, Fun K "runs_from" "Room.runs_from" s_Room_runs_from (He.ma K (He.ga K "Room") "runs_from") fd := let ⟨fd, F⟩ := T.fn (dM "Room" "runs_from" "Room.runs_from" s_Room_runs_from) (List.mem_of_getElem? (i := 36) rfl); ⟨fd, He5.fun_of (st := s_Room_runs_from) (kws := []) F⟩
theorem Txt.d_Room_bool (T : Txt K mg) : ∃ fd, Fun K "__bool__" "Room.__bool__" s_Room_bool (He.ma K (He.ga K "Room") "__bool__") fd := let ⟨fd, F⟩ := T.fn (dM "Room" "__bool__" "Room.__bool__" s_Room_bool) (List.mem_of_getElem? (i := 37) rfl); ⟨fd, He5.fun_of (st := s_Room_bool) (kws := []) F⟩
theorem Txt.d_Room_sub (T : Txt K mg) : ∃ fd, Fun K "__sub__" "Room.__sub__" s_Room_sub (He.ma K (He.ga K "Room") "__sub__") fd := let ⟨fd, F⟩ := T.fn (dM "Room" "__sub__" "Room.__sub__" s_Room_sub) (List.mem_of_getElem? (i := 38) rfl); ⟨fd, He5.fun_of (st := s_Room_sub) (kws := []) F⟩
theorem Txt.d_File_init (T : Txt K mg) : ∃ fd, Fun K "__init__" "File.__init__" s_File_init (He.ma K (He.ga K "File") "__init__") fd := let ⟨fd, F⟩ := T.fn (dM "File" "__init__" "File.__init__" s_File_init) (List.mem_of_getElem? (i := 39) rfl); ⟨fd, He5.fun_of (st := s_File_init) (kws := []) F⟩
theorem Txt.d_File_pieces (T : Txt K mg) : ∃ fd, Fun K "pieces" "File.pieces" s_File_pieces (He.ma K (He.ga K "File") "pieces") fd := let ⟨fd, F⟩ := T.fn (dM "File" "pieces" "File.pieces" s_File_pieces) (List.mem_of_getElem? (i := 40) rfl); ⟨fd, He5.fun_of (st := s_File_pieces) (kws := []) F⟩
theorem Txt.d_File_put_behind (T : Txt K mg) : ∃ fd, Fun K "put_behind" "File.put_behind" s_File_put_behind (He.ma K (He.ga K "File") "put_behind") fd := let ⟨fd, F⟩ := T.fn (dM "File" "put_behind" "File.put_behind" s_File_put_behind) (List.mem_of_getElem? (i := 41) rfl); ⟨fd, He5.fun_of (st := s_File_put_behind) (kws := []) F⟩
theorem Txt.d_File_cut_idle (T : Txt K mg) : ∃ fd, Fun K "cut_idle" "File.cut_idle" s_File_cut_idle (He.ma K (He.ga K "File") "cut_idle") fd := let ⟨fd, F⟩ := T.fn (dM "File" "cut_idle" "File.cut_idle" s_File_cut_idle) (List.mem_of_getElem? (i := 42) rfl); ⟨fd, He5.fun_of (st := s_File_cut_idle) (kws := []) F⟩
theorem Txt.d_Disk_init (T : Txt K mg) : ∃ fd, Fun K "__init__" "Disk.__init__" s_Disk_init (He.ma K (He.ga K "Disk") "__init__") fd := let ⟨fd, F⟩ := T.fn (dM "Disk" "__init__" "Disk.__init__" s_Disk_init) (List.mem_of_getElem? (i := 43) rfl); ⟨fd, He5.fun_of (st := s_Disk_init) (kws := []) F⟩
theorem Txt.d_Disk_free (T : Txt K mg) : ∃ fd, Fun K "free" "Disk.free" s_Disk_free (He.ma K (He.ga K "Disk") "free") fd := let ⟨fd, F⟩ := T.fn (dM "Disk" "free" "Disk.free" s_Disk_free) (List.mem_of_getElem? (i := 44) rfl); ⟨fd, He5.fun_of (st := s_Disk_free) (kws := []) F⟩
theorem Txt.d_Disk_getitem (T : Txt K mg) : ∃ fd, Fun K "__getitem__" "Disk.__getitem__" s_Disk_getitem (He.ma K (He.ga K "Disk") "__getitem__") fd := let ⟨fd, F⟩ := T.fn (dM "Disk" "__getitem__" "Disk.__getitem__" s_Disk_getitem) (List.mem_of_getElem? (i := 45) rfl); ⟨fd, He5.fun_of (st := s_Disk_getitem) (kws := []) F⟩
theorem Txt.d_Disk_make (T : Txt K mg) : ∃ fd, Fun K "make" "Disk.make" s_Disk_make (He.ma K (He.ga K "Disk") "make") fd := let ⟨fd, F⟩ := T.fn (dM "Disk" "make" "Disk.make" s_Disk_make) (List.mem_of_getElem? (i := 46) rfl); ⟨fd, He5.fun_of (st := s_Disk_make) (kws := []) F⟩
theorem Txt.d_Disk_open_file (T : Txt K mg) : ∃ fd, Fun K "open_file" "Disk.open_file" s_Disk_open_file (He.ma K (He.ga K "Disk") "open_file") fd := let ⟨fd, F⟩ := T.fn (dM "Disk" "open_file" "Disk.open_file" s_Disk_open_file) (List.mem_of_getElem? (i := 47) rfl); ⟨fd, He5.fun_of (st := s_Disk_open_file) (kws := []) F⟩
theorem Txt.d_Disk_grow (T : Txt K mg) : ∃ fd, Fun K "grow" "Disk.grow" s_Disk_grow (He.ma K (He.ga K "Disk") "grow") fd := let ⟨fd, F⟩ := T.fn (dM "Disk" "grow" "Disk.grow" s_Disk_grow) (List.mem_of_getElem? (i := 48) rfl); ⟨fd, He5.fun_of (st := s_Disk_grow) (kws := []) F⟩
theorem Txt.d_Disk_written_behind (T : Txt K mg) : ∃ fd, Fun K "written_behind" "Disk.written_behind" s_Disk_written_behind (He.ma K (He.ga K "Disk") "written_behind") fd := let ⟨fd, F⟩ := T.fn (dM "Disk" "written_behind" "Disk.written_behind" s_Disk_written_behind) (List.mem_of_getElem? (i := 49) rfl); ⟨fd, He5.fun_of (st := s_Disk_written_behind) (kws := []) F⟩
theorem Txt.d_Disk_flush (T : Txt K mg) : ∃ fd, Fun K "flush" "Disk.flush" s_Disk_flush (He.ma K (He.ga K "Disk") "flush") fd := let ⟨fd, F⟩ := T.fn (dM "Disk" "flush" "Disk.flush" s_Disk_flush) (List.mem_of_getElem? (i := 50) rfl); ⟨fd, He5.fun_of (st := s_Disk_flush) (kws := []) F⟩
theorem Txt.d_Disk_close (T : Txt K mg) : ∃ fd, Fun K "close" "Disk.close" s_Disk_close (He.ma K (He.ga K "Disk") "close") fd := let ⟨fd, F⟩ := T.fn (dM "Disk" "close" "Disk.close" s_Disk_close) (List.mem_of_getElem? (i := 51) rfl); ⟨fd, He5.fun_of (st := s_Disk_close) (kws := []) F⟩
theorem Txt.d_Disk_reopen (T : Txt K mg) : ∃ fd, Fun K "reopen" "Disk.reopen" s_Disk_reopen (He.ma K (He.ga K "Disk") "reopen") fd := let ⟨fd, F⟩ := T.fn (dM "Disk" "reopen" "Disk.reopen" s_Disk_reopen) (List.mem_of_getElem? (i := 52) rfl); ⟨fd, He5.fun_of (st := s_Disk_reopen) (kws := []) F⟩
theorem Txt.d_Book_init (T : Txt K mg) : ∃ fd, Fun K "__init__" "Book.__init__" s_Book_init (He.ma K (He.ga K "Book") "__init__") fd := let ⟨fd, F⟩ := T.fn (dM "Book" "__init__" "Book.__init__" s_Book_init) (List.mem_of_getElem? (i := 53) rfl); ⟨fd, He5.fun_of (st := s_Book_init) (kws := []) F⟩
theorem Txt.d_Book_given (T : Txt K mg) : ∃ fd, Fun K "given" "Book.given" s_Book_given (He.ma K (He.ga K "Book") "given") fd := let ⟨fd, F⟩ := T.fn (dM "Book" "given" "Book.given" s_Book_given) (List.mem_of_getElem? (i := 54) rfl); ⟨fd, He5.fun_of (st := s_Book_given) (kws := []) F⟩
theorem Txt.d_Book_call (T : Txt K mg) : ∃ fd, Fun K "__call__" "Book.__call__" s_Book_call (He.ma K (He.ga K "Book") "__call__") fd := let ⟨fd, F⟩ := T.fn (dM "Book" "__call__" "Book.__call__" s_Book_call) (List.mem_of_getElem? (i := 55) rfl); ⟨fd, He5.fun_of (st := s_Book_call) (kws := []) F⟩
theorem Txt.d_Book_twin (T : Txt K mg) : ∃ fd, Fun K "twin" "Book.twin" s_Book_twin (He.ma K (He.ga K "Book") "twin") fd := let ⟨fd, F⟩ := T.fn (dM "Book" "twin" "Book.twin" s_Book_twin) (List.mem_of_getElem? (i := 56) rfl); ⟨fd, He5.fun_of (st := s_Book_twin) (kws := []) F⟩
theorem kp_is_integer (T : Txt K mg) : PySem.W.keepIn K (.ref (He.ga K "is_integer")) = true := let ⟨_, F⟩ := T.d_is_integer; F.kp
theorem kp_check_integer (T : Txt K mg) : PySem.W.keepIn K (.ref (He.ga K "check_integer")) = true := let ⟨_, F⟩ := T.d_check_integer; F.kp
theorem kp_is_name (T : Txt K mg) : PySem.W.keepIn K (.ref (He.ga K "is_name")) = true := let ⟨_, F⟩ := T.d_is_name; F.kp
theorem kp_is_enough (T : Txt K mg) : PySem.W.keepIn K (.ref (He.ga K "is_enough")) = true := let ⟨_, F⟩ := T.d_is_enough; F.kp
theorem kp_first_enough (T : Txt K mg) : PySem.W.keepIn K (.ref (He.ga K "first_enough")) = true := let ⟨_, F⟩ := T.d_first_enough; F.kp
theorem kp_best_enough (T : Txt K mg) : PySem.W.keepIn K (.ref (He.ga K "best_enough")) = true := let ⟨_, F⟩ := T.d_best_enough; F.kp
theorem kp_place_by_rule (T : Txt K mg) : PySem.W.keepIn K (.ref (He.ga K "place_by_rule")) = true := let ⟨_, F⟩ := T.d_place_by_rule; F.kp
theorem kp_placed (T : Txt K mg) : PySem.W.keepIn K (.ref (He.ga K "placed")) = true := let ⟨_, F⟩ := T.d_placed; F.kp
theorem kp_is_run (T : Txt K mg) : PySem.W.keepIn K (.ref (He.ga K "is_run")) = true := let ⟨_, F⟩ := T.d_is_run; F.kp
theorem kp_end_of (T : Txt K mg) : PySem.W.keepIn K (.ref (He.ga K "end_of")) = true := let ⟨_, F⟩ := T.d_end_of; F.kp
theorem kp_is_before (T : Txt K mg) : PySem.W.keepIn K (.ref (He.ga K "is_before")) = true := let ⟨_, F⟩ := T.d_is_before; F.kp
theorem kp_joined (T : Txt K mg) : PySem.W.keepIn K (.ref (He.ga K "joined")) = true := let ⟨_, F⟩ := T.d_joined; F.kp
theorem kp_shared (T : Txt K mg) : PySem.W.keepIn K (.ref (He.ga K "shared")) = true := let ⟨_, F⟩ := T.d_shared; F.kp
theorem kp_others (T : Txt K mg) : PySem.W.keepIn K (.ref (He.ga K "others")) = true := let ⟨_, F⟩ := T.d_others; F.kp
theorem kp_runs_of (T : Txt K mg) : PySem.W.keepIn K (.ref (He.ga K "runs_of")) = true := let ⟨_, F⟩ := T.d_runs_of; F.kp
theorem kp_pairs_of (T : Txt K mg) : PySem.W.keepIn K (.ref (He.ga K "pairs_of")) = true := let ⟨_, F⟩ := T.d_pairs_of; F.kp
theorem kp_room_of (T : Txt K mg) : PySem.W.keepIn K (.ref (He.ga K "room_of")) = true := let ⟨_, F⟩ := T.d_room_of; F.kp
theorem kp_check_disk (T : Txt K mg) : PySem.W.keepIn K (.ref (He.ga K "check_disk")) = true := let ⟨_, F⟩ := T.d_check_disk; F.kp
theorem kp_is_share (T : Txt K mg) : PySem.W.keepIn K (.ref (He.ga K "is_share")) = true := let ⟨_, F⟩ := T.d_is_share; F.kp
theorem kp_part_of (T : Txt K mg) : PySem.W.keepIn K (.ref (He.ga K "part_of")) = true := let ⟨_, F⟩ := T.d_part_of; F.kp
theorem kp_check_parts (T : Txt K mg) : PySem.W.keepIn K (.ref (He.ga K "check_parts")) = true := let ⟨_, F⟩ := T.d_check_parts; F.kp
theorem kp_law_hand (T : Txt K mg) : PySem.W.keepIn K (.ref (He.ga K "_law_hand")) = true := let ⟨_, F⟩ := T.d_law_hand; F.kp
theorem kp_law_draw (T : Txt K mg) : PySem.W.keepIn K (.ref (He.ga K "_law_draw")) = true := let ⟨_, F⟩ := T.d_law_draw; F.kp
theorem kp_law_made (T : Txt K mg) : PySem.W.keepIn K (.ref (He.ga K "_law_made")) = true := let ⟨_, F⟩ := T.d_law_made; F.kp
theorem kp_law_step (T : Txt K mg) : PySem.W.keepIn K (.ref (He.ga K "_law_step")) = true := let ⟨_, F⟩ := T.d_law_step; F.kp
theorem kp_law_rules (T : Txt K mg) : PySem.W.keepIn K (.ref (He.ga K "_law_rules")) = true := let ⟨_, F⟩ := T.d_law_rules; F.kp
theorem kp_law_small_book (T : Txt K mg) : PySem.W.keepIn K (.ref (He.ga K "_law_small_book")) = true := let ⟨_, F⟩ := T.d_law_small_book; F.kp
theorem kp_law_disk (T : Txt K mg) : PySem.W.keepIn K (.ref (He.ga K "_law_disk")) = true := let ⟨_, F⟩ := T.d_law_disk; F.kp
theorem kp_law_two (T : Txt K mg) : PySem.W.keepIn K (.ref (He.ga K "_law_two")) = true := let ⟨_, F⟩ := T.d_law_two; F.kp
theorem kp_law_kept_right (T : Txt K mg) : PySem.W.keepIn K (.ref (He.ga K "_law_kept_right")) = true := let ⟨_, F⟩ := T.d_law_kept_right; F.kp
theorem kp_law_back_right (T : Txt K mg) : PySem.W.keepIn K (.ref (He.ga K "_law_back_right")) = true := let ⟨_, F⟩ := T.d_law_back_right; F.kp
theorem kp_law_given_back_right (T : Txt K mg) : PySem.W.keepIn K (.ref (He.ga K "_law_given_back_right")) = true := let ⟨_, F⟩ := T.d_law_given_back_right; F.kp
theorem kp_law (T : Txt K mg) : PySem.W.keepIn K (.ref (He.ga K "law")) = true := let ⟨_, F⟩ := T.d_law; F.kp
end
theorem insB_ok {K : PySem.W.Frag} {C : Addr} (h : insB K C = true) : PySem.W.findIn K (.ref C) "__class__" = some (some (.builtin "object.__class__")) ∧ PySem.W.mroIn K C (.type "object") = some true :=
  let ⟨a, b⟩ := He.ba h; ⟨He.eqO_ok a, of_decide_eq_true b⟩
theorem txt_of {K : PySem.W.Frag} {h : Heap} {mg : Str → Option Value} (X : K.In h) (G : h.Ns PySem.mainGlobals mg) (S : Says h K) : Txt K mg := by
  have A := fun (f : He.Fa) (hf : f ∈ faList) => He.SaysD.facts S.d hf
  obtain ⟨e1, e⟩ := He.ba S.ex
  obtain ⟨e2, e⟩ := He.ba e
  obtain ⟨e3, e⟩ := He.ba e
  obtain ⟨e4, e⟩ := He.ba e
  obtain ⟨e5, e⟩ := He.ba e
  obtain ⟨e6, e⟩ := He.ba e
  obtain ⟨e7, e⟩ := He.ba e
  obtain ⟨e8, e⟩ := He.ba e
  obtain ⟨e9, e⟩ := He.ba e
  obtain ⟨e10, e⟩ := He.ba e
  obtain ⟨e11, e⟩ := He.ba e
  obtain ⟨e12, e⟩ := He.ba e
  obtain ⟨e13, e⟩ := He.ba e
  obtain ⟨e14, e15⟩ := He.ba e
  have L : ∀ {f : He.Fa}, f ∈ faList → f.ok K = true := fun hf => A _ hf
  have m1 : ∀ {f : He.Fa}, f ∈ gloL.map He.Fa.glo → f ∈ faList := fun z => List.mem_append_left _ z
  have m2 : ∀ {f : He.Fa}, f ∈ freeL.map He.Fa.free → f ∈ faList := fun z => List.mem_append_right _ (List.mem_append_left _ z)
  have m3 : ∀ {f : He.Fa}, f ∈ clsL.map He.Fa.cls → f ∈ faList := fun z => List.mem_append_right _ (List.mem_append_right _ (List.mem_append_left _ z))
  have m4 : ∀ {f : He.Fa}, f ∈ clsL.map He.Fa.mkr → f ∈ faList := fun z => List.mem_append_right _ (List.mem_append_right _ (List.mem_append_right _ (List.mem_append_left _ z)))
  have m5 : ∀ {f : He.Fa}, f ∈ noatL.map (fun p => He.Fa.noat p.1 p.2) → f ∈ faList := fun z => List.mem_append_right _ (List.mem_append_right _ (List.mem_append_right _ (List.mem_append_right _ (List.mem_append_left _ z))))
  have m6 : ∀ {f : He.Fa}, f ∈ methL.map (fun p => He.Fa.meth p.1 p.2) → f ∈ faList := fun z => List.mem_append_right _ (List.mem_append_right _ (List.mem_append_right _ (List.mem_append_right _ (List.mem_append_right _ (List.mem_append_left _ z)))))
  have m7 : ∀ {f : He.Fa} (i : Nat), ([.int "MOST" (10 ^ 40), .int "MOST_BLOCK" (10 ^ 50), .int "MOST_GROWTH" (10 ^ 30), .int "MOST_RUNS" (1000), .int "MOST_SHARE" (100), .str "SMALL" "abcdefghijklmnopqrstuvwxyz"] : List He.Fa)[i]? = some f → f ∈ faList := fun i z =>
    List.mem_append_right _ (List.mem_append_right _ (List.mem_append_right _ (List.mem_append_right _ (List.mem_append_right _ (List.mem_append_right _ (List.mem_of_getElem? z))))))
  obtain ⟨fdI, FI⟩ := He5.DefA.funD (K := K) (d := dIdle) S.idv S.idok
  refine ⟨fun x hx => He.glo_ok X G (L (m1 (List.mem_map.mpr ⟨x, hx, rfl⟩))), fun x hx => He.free_ok X G (L (m2 (List.mem_map.mpr ⟨x, hx, rfl⟩))), fun x hx => He.cls_ok (L (m3 (List.mem_map.mpr ⟨x, hx, rfl⟩))), fun x hx => He.mkr_ok (L (m4 (List.mem_map.mpr ⟨x, hx, rfl⟩))),
    fun p hp => He.noat_ok (L (m5 (List.mem_map.mpr ⟨p, hp, rfl⟩))), fun p hp => He.meth_ok (L (m6 (List.mem_map.mpr ⟨p, hp, rfl⟩))), He.int_ok X G (L (m7 0 rfl)), He.int_ok X G (L (m7 1 rfl)), He.int_ok X G (L (m7 2 rfl)), He.int_ok X G (L (m7 3 rfl)), He.int_ok X G (L (m7 4 rfl)), He.str_ok X G (L (m7 5 rfl)),
    fun d hd => He.SaysD.defs S.d hd, e1, ⟨He.eqO_ok e2, He.eqO_ok e3, of_decide_eq_true e4, ?_⟩, ⟨fdI, He5.fun_of (st := s_File_idle) (kws := []) FI⟩, He.eqO_ok e6, of_decide_eq_true e7, insB_ok e8, insB_ok e9, of_decide_eq_true e10, of_decide_eq_true e11, of_decide_eq_true e12, e13, e14, e15⟩
  have e5' : (match PySem.W.recIn K (idP K) "property" with
    | some (.ref f :: _) => true
    | _ => false) = true := e5
  cases q : PySem.W.recIn K (idP K) "property" with
  | none =>
    rw [q] at e5'
    cases e5'
  | some l =>
    rw [q] at e5'
    cases l with
    | nil => cases e5'
    | cons v r =>
      cases v with
      | ref f =>
        refine ⟨r, ?_⟩
        have eg : idG K = f := by
          unfold idG
          rw [q]
        rw [eg]
      | _ => cases e5'
end GF

set_option Elab.async false
set_option linter.all false
set_option maxRecDepth 100000
set_option maxHeartbeats 0
namespace GF
open PySem PySem.Spec PyProof.Rows L2
def names0 : List PySem.Str := ["_wall", "GrowError", "InvalidRuns", "InvalidBlock", "InvalidBook", "InvalidNumber", "InvalidRule", "InvalidDisk", "InvalidName", "KnownName", "UnknownName", "Closed", "Opened", "Refused", "InvalidEvent", "TooMany", "MOST", "MOST_BLOCK", "MOST_GROWTH", "SMALL", "is_integer", "check_integer", "is_name", "WORDS", "is_event", "RULES", "is_enough", "first_enough", "best_enough", "place_by_rule"]
def names1 : List PySem.Str := ["by_short_runs", "placed", "MOST_RUNS", "is_run", "end_of", "is_before", "joined", "shared", "others", "runs_of", "Pairs", "Room", "pairs_of", "room_of", "MOST_BLOCKS", "MOST_GIVINGS", "block_at", "File", "check_disk", "Disk", "MOST_SHARE", "is_share", "part_of", "least_hold", "check_parts", "Book", "step_of", "is_never_more", "_law_hand", "_law_draw"]
def names2 : List PySem.Str := ["_law_book", "_law_made", "_law_step", "_law_rules", "_law_small_book", "_law_disk", "_law_event", "_law_two", "_law_kept_right", "_law_back_right", "_law_given_back_right"]
def names : List PySem.Str := names0 ++ names1 ++ names2
abbrev R : PySem.W.OpenRow := PySem.W.OpenLaw.row PySem.Challenge.rw_grownfiles_k30_whole_closing_and_growing
def ob (s : PySem.W.SharedT) : AlG := obsG (HandSHeadRun.getT s)
theorem ob_eq (s : PySem.W.SharedT) : ob s = hookG.obs s.abs := obsG_eq (HandSHeadRun.getT_eq s)
theorem run (w : World) : HandSHeadRun.RunEq R (PySem.W.view R.prog [79]) hookG ob 60000 names w := by
  intro os
  kernel_rfl
end GF

set_option Elab.async false
set_option linter.all false
set_option maxRecDepth 100000
set_option maxHeartbeats 4000000
namespace GF
open PySem PySem.Spec PyProof.Rows L2
section
variable {X : Cx} {k : Nat} {f C : Addr} {sp : Sp} {x m : Str} {e o a b : Expr} {es : List Expr} {te ta tb : TE} {t : TA} {p pos apos : Pos}
/-- a whole number of the module -/
theorem pe_gint {i : Int} (h : ∃ u, X.mg x = some (.int i u)) (hg : Gl X x := by rfl) (hd : (x == ("__debug__" : Str)) = false := by decide) : PE X (.Name x pos) (tC (.int i)) := by
  obtain ⟨u, hu⟩ := h
  exact pe_glob hg hu ⟨u, rfl⟩ hd
theorem pe_gstr {z : Str} (h : ∃ u, X.mg x = some (.str z u)) (hg : Gl X x := by rfl) (hd : (x == ("__debug__" : Str)) = false := by decide) : PE X (.Name x pos) (tC (.str z)) := by
  obtain ⟨u, hu⟩ := h
  exact pe_glob hg hu ⟨u, rfl⟩ hd
/-- the callee by a positional promise, in this very around or in a builtin's -/
theorem run_G {A : Around} {pins : List (Addr × Obj)} {σ : L2.St} {H : Hp} {s : Shared} {Q : VK} {us : List Value} {vs : List V} (F : FnR X.prog X.w X.K X.mg X.base CX0 k f sp) (hr : Room k A) (hA : A.frames = X.A.frames)
    (I : Inv X pins σ H s) (r : Vals vs us) (h : sp vs H Q E0) : wpAny (model X.prog X.w) A (call (.ref f) us) (EP X pins σ Q) X.xe s := by
  have e := I.env0
  have e0 : Env0 X.prog X.w X.K X.mg X.base A X.stack s H := ⟨by rw [hA]; exact e.frames, e.mod, e.bs, e.bsz, e.funs, e.frf, e.hok, e.bare⟩
  refine wpAny_call (codeAny_mono (F A X.stack s H us vs Q E0 hr e0 r h) fun q s' hq => ?_)
  cases q with
  | error er => exact False.elim hq
  | ok fl =>
    cases fl with
    | ret u => exact I.after hq
    | next => exact False.elim hq
    | brk => exact False.elim hq
    | cont => exact False.elim hq
/-- f(e, ..) -/
def tCallR (sp : Sp) (t : TA) : TE := fun σ H Q => t σ H fun vs H1 => sp vs H1 Q E0
theorem pe_callR (F : FnR X.prog X.w X.K X.mg X.base CX0 k f sp) (hr : Room k X.A) (hm : X.mg x = some (.ref f)) (hk : PySem.W.keepIn X.K (.ref f) = true) (ha : PA X (e :: es) t) (hg : Gl X x := by rfl) (hd : (x == ("__debug__" : Str)) = false := by decide)
    (he : starEach (e :: es) X.env = (false, eval e X.env) :: starEach es X.env := by rfl) (hpl : (backTo pos (starEach es X.env)).any (·.1) = false := by rfl) : PE X (.Call (.Name x p) (e :: es) [] pos) (tCallR sp t) := by
  constructor
  intro pins s σ H Q I h
  refine wpAny_Call_Name_kw (ld_glob I hg hm ?_ hd)
  exact PySem.W.callWith_K (h₀ := X.base) I.ok.mod.kin hk (thn (ha.run pos pins s σ H _ I h) fun us s1 ⟨vs, H1, I1, r, q⟩ => ⟨I1.kIn, run_G F hr rfl I1 r q⟩) he hpl
/-- o.m() -/
def tMethR0 (C : Addr) (m : Str) (sp : Sp) (ta : TE) : TE := fun σ H Q => ta σ H fun x H1 => ∃ a dx fs, x = .ref a ∧ H1 a = some (.ins C dx fs) ∧ fs.lookup m = none ∧ sp [x] H1 Q E0
theorem pe_methR0 {pl : Sem Bool} (he : PE X o ta) (c : Cls X.K C) (hm : Meth X.K C m f) (F : FnR X.prog X.w X.K X.mg X.base CX0 k f sp) (hr : Room k X.A)
    (ht : eval (.Call (.Attribute o m apos) [] [] pos) X.env = (do
      let ov ← eval o X.env
      standAt apos.atName
      let (f, first) ← holding [ov] (getMethod ov m pl)
      callWith pos f first (backTo pos (starEach [] X.env)) (backToKw pos (keywordEach [] X.env))) := by rfl) :
    PE X (.Call (.Attribute o m apos) [] [] pos) (tMethR0 C m sp ta) := by
  constructor
  intro pins s σ H Q I h
  refine PySem.W.methodCall_KW (pl := pl) (thn (he.run pins s σ H _ I h) fun u s1 ⟨y, H1, I1, ry, a, dx, fs, ey, ea, l, q⟩ => ?_) ht
  subst ey
  obtain rfl : u = Value.ref a := ry
  exact getmeth_ok I1 ea c hm l (PySem.W.callWith_K0 (first := [.ref a]) I1.kIn hm.kp (run_G F hr rfl I1 (us := [.ref a]) (vs := [.ref a]) (.cons rfl .nil) q))
/-- o.m(e, ..) -/
def tMethG (C : Addr) (m : Str) (sp : Sp) (ta : TE) (t : TA) : TE := fun σ H Q => ta σ H fun x H1 => ∃ a dx fs, x = .ref a ∧ H1 a = some (.ins C dx fs) ∧ fs.lookup m = none ∧ t σ H1 fun vs H2 => sp (x :: vs) H2 Q E0
theorem pe_methG {pl : Sem Bool} (he : PE X o ta) (c : Cls X.K C) (hm : Meth X.K C m f) (F : FnR X.prog X.w X.K X.mg X.base CX0 k f sp) (hr : Room k X.A) (ha : PA X (e :: es) t)
    (hst : starEach (e :: es) X.env = (false, eval e X.env) :: starEach es X.env := by rfl) (hpl : (backTo pos (starEach es X.env)).any (·.1) = false := by rfl)
    (ht : eval (.Call (.Attribute o m apos) (e :: es) [] pos) X.env = (do
      let ov ← eval o X.env
      standAt apos.atName
      let (f, first) ← holding [ov] (getMethod ov m pl)
      callWith pos f first (backTo pos (starEach (e :: es) X.env)) (backToKw pos (keywordEach [] X.env))) := by rfl) :
    PE X (.Call (.Attribute o m apos) (e :: es) [] pos) (tMethG C m sp ta t) := pe_methR (E := E0) he c hm F hr pass0 ha hst hpl ht
/-- C(e, ..) -/
def tMakeG (C : Addr) (sp : Sp) (t : TA) : TE := StX.tMakeR C sp E0 t
theorem pe_makeG {fi : Addr} (M : Mk X.K C fi) (F : FnR X.prog X.w X.K X.mg X.base CX0 k fi sp) (hr : Room (k + 1) X.A) (hm : X.mg x = some (.ref C)) (ha : PA X (e :: es) t) (hg : Gl X x := by rfl) (hd : (x == ("__debug__" : Str)) = false := by decide)
    (he : starEach (e :: es) X.env = (false, eval e X.env) :: starEach es X.env := by rfl) (hpl : (backTo pos (starEach es X.env)).any (·.1) = false := by rfl) : PE X (.Call (.Name x p) (e :: es) [] pos) (tMakeG C sp t) :=
  StX.pe_makeR M F hr hg hm pass0 ha hd he hpl
/-- an instance's truth by its own __bool__ -/
def tTruO (C : Addr) (sp : Sp) (ta : TE) : TT := fun σ H Q => ta σ H fun x H1 => ∃ a dx fs, x = .ref a ∧ H1 a = some (.ins C dx fs) ∧ sp [x] H1 (fun v H2 => ∃ b, v = .bl b ∧ Q b H2) E0
theorem pt_truO (he : PE X e te) (hs : PySem.W.findIn X.K (.ref C) "__bool__" = some (some (.ref f))) (hf : PySem.W.isFn X.K (.ref f) = true) (F : FnR X.prog X.w X.K X.mg X.base CX0 k f sp) (hr : Room k X.A)
    (ht : ∀ whole, isTrue e X.env whole = (do let v ← whole; standAt e.pos; holding [v] (truthy v)) := by intro _; rfl) : PT X e (tTruO C sp te) := by
  constructor
  intro pins s σ H Q I h
  refine isTrue_plain (thn (he.run pins s σ H _ I h) fun u s1 ⟨y, H1, I1, ry, a, dx, fs, ey, ea, q⟩ => ?_) (ht _)
  subst ey
  obtain rfl : u = Value.ref a := ry
  obtain ⟨mA, O, _⟩ := ins_get I1.hok ea
  obtain ⟨od, J, _⟩ := O.look
  obtain ⟨mF, hF⟩ := I1.fr
  refine PySem.W.truthy_K hF I1.ok.mod.kin J hs hf (thn (run_G F hr rfl I1 (us := [.ref a]) (vs := [.ref a]) (.cons rfl .nil) q) fun u2 s2 ⟨z, H2, I2, rz, b, ez, q2⟩ => ?_)
  subst ez
  obtain rfl : u2 = Value.bool b := rz
  exact ⟨H2, I2, q2⟩
/-- o[e] by an own __getitem__ -/
def tItemO (C : Addr) (sp : Sp) (ta tb : TE) : TE := fun σ H Q => ta σ H fun x H1 => tb σ H1 fun y H2 => ∃ a dx fs, x = .ref a ∧ H2 a = some (.ins C dx fs) ∧ sp [x, y] H2 Q E0
theorem pe_itemO (ha : PE X a ta) (hb : PE X b tb) (hs : PySem.W.findIn X.K (.ref C) "__getitem__" = some (some (.ref f))) (hi : PySem.W.fnIn X.K f = true) (hf : PySem.W.isFn X.K (.ref f) = true) (F : FnR X.prog X.w X.K X.mg X.base CX0 k f sp)
    (hr : Room (k + 1) X.A) (hsl : ∀ (q : Addr) (u : Value), subscripted b true (.ref q) u = runValue (.builtin "lifetime.subscript" ⟨[.ref q, u], []⟩) := by intro _ _; rfl) : PE X (.Subscript a b pos) (tItemO C sp ta tb) := by
  constructor
  intro pins s σ H Q I h
  refine Subscript_ (binT ha hb I h fun v u s2 x y H2 I2 rx ry q => ?_)
  obtain ⟨q0, dx, fs, ex, ea, q⟩ := q
  subst ex
  obtain rfl : v = Value.ref q0 := rx
  obtain ⟨mA, O, _⟩ := ins_get I2.hok ea
  obtain ⟨od, J, _⟩ := O.look
  obtain ⟨mF, hF⟩ := I2.fr
  exact PySem.W.sub_K hF I2.ok.mod.kin J hs hi hf (run_G F hr.in1 rfl I2 (us := [.ref q0, u]) (vs := [.ref q0, y]) (.cons rfl (.cons ry .nil)) q) (hsl q0 u)
/-- a - b by an own __sub__, two instances of one class -/
def rSubO (C : Addr) (sp : Sp) : R2 := fun x y H Q => ∃ a dx fs b dy gs, x = .ref a ∧ y = .ref b ∧ H a = some (.ins C dx fs) ∧ H b = some (.ins C dy gs) ∧ sp [x, y] H Q E0
theorem op_subO (hc : PySem.W.selfFirst X.K C = true) (hs : PySem.W.findIn X.K (.ref C) "__sub__" = some (some (.ref f))) (hf : PySem.W.isFn X.K (.ref f) = true) (F : FnR X.prog X.w X.K X.mg X.base CX0 k f sp) (hr : Room k X.A) :
    OpR X (binaryOp .Sub) (rSubO C sp) := by
  intro pins s σ H x y v u Q I rx ry q
  obtain ⟨p, dx, fs, q0, dy, gs, ex, ey, ea, eb, q⟩ := q
  subst ex ey
  obtain rfl : v = Value.ref p := rx
  obtain rfl : u = Value.ref q0 := ry
  obtain ⟨mA, O, _⟩ := ins_get I.hok ea
  obtain ⟨od, J, _⟩ := O.look
  obtain ⟨mB, O2, _⟩ := ins_get I.hok eb
  obtain ⟨od2, J2, _⟩ := O2.look
  obtain ⟨mF, hF⟩ := I.fr
  refine PySem.W.binop_K hF I.ok.mod.kin J J2.type hc hs hf (thn (run_G F hr rfl I (us := [.ref p, .ref q0]) (vs := [.ref p, .ref q0]) (.cons rfl (.cons rfl .nil)) q) fun u2 s2 z => ?_)
  obtain ⟨w2, H2, I2, r2, q2⟩ := id z
  cases u2 with
  | notImplemented =>
    exfalso
    cases w2 <;> first | (obtain ⟨_, er⟩ := r2; cases er; done) | (cases r2; done)
  | _ => exact z
/-- sum of a tuple of whole numbers -/
theorem cr_sumT (hc : X.calm = true) : CallR X (.builtin "sum") (fun vs H Q => ∃ (a : Addr) (ns : List Int), vs = [V.ref a] ∧ SqT X.K H a (ns.map V.int) ∧ Q (.int ns.sum) H) := by
  intro pins s σ H vs us Q I r h
  obtain ⟨q0, ns, ev, hq, q⟩ := h
  subst ev
  obtain ⟨its, rv, ht, hz⟩ := I.tuple hq
  have hi := rv.ints
  obtain ⟨xs, ex⟩ := hi.allInts.items
  have hn : numsOf (intItems xs).toList = ns := by rw [← ex]; exact hi.numsOf
  rw [nums_intItems] at hn
  rw [ex] at ht
  rw [Vals.ref1 r]
  refine PySem.W.ktm_sumG (I.ok.hd hc) ht fun h' tk t' hk => ?_
  rw [preSum_eq, List.take_of_length_le (by simp), hn]
  exact ⟨.int ns.sum, H, I.kept (t' := tk) hk, ⟨_, rfl⟩, q⟩
end
end GF

set_option Elab.async false
set_option linter.all false
set_option maxRecDepth 100000
set_option maxHeartbeats 4000000
namespace GF
open PySem PySem.Spec PyProof.Rows L2
/-! ### sorted(runs, key=lambda x: int(x[0])) -/
section
variable {prog : Program} {w : World} {A : Around} {E : Value → Shared → Prop} {s : Shared}
/-- int(x[0]) in a lambda's frame: only a token is drawn -/
theorem key_body {env : Env} {m mg mb : Str → Option Value} {t : Addr} {its : List Value} {i : Int} {u : Tok} {j : Nat} {p1 p2 p3 p4 p5 : Pos} {Q : Value → Shared → Prop} (hk : env.scope.kind = .function) (hx : env.kindOf "x" = some .local) (hi : env.kindOf "int" = some .globalImplicit)
    (hn : s.heap.Ns env.locals m) (hm : m "x" = some (.ref t)) (ht : IsTup s.heap t its.toArray) (h0 : its[0]? = some (.int i u)) (hg : s.heap.Ns env.globals mg) (gi : mg "int" = none) (hb : s.heap.Ns env.builtins mb) (bi : mb "int" = some (.type "int"))
    (q : ∀ tk, Q (.int i u) { s with toks := tk }) : wpAny (model prog w) A (eval (.Call (.Name "int" p1) [.Subscript (.Name "x" p2) (.Constant (.int 0) j p3) p4] [] p5) env) Q E s := by
  refine wpAny_Call_Name_kw (Calls.Name_function_global hk hi (Calls.loadGlobal_builtin hg gi hb bi ?_))
  refine PyProof.Rows.callWith_type1 (Calls.spliced_cons (Subscript_ (wpAny_Name (wpAny_loadName_local hk hx hn hm (wpAny_Constant_int ?_))))) rfl rfl
  have hs : its.toArray[0]? = some (.int i u) := by simpa using h0
  have hl : seqIndex? 0 its.toArray.size = some 0 := by
    have z : 0 < its.toArray.size := (Array.getElem?_eq_some_iff.mp hs).1
    have z2 : decide (((0 : Nat) : Int) < (its.toArray.size : Int)) = true := decide_eq_true (by omega)
    show (if ((0 : Int) ≤ 0 && decide ((0 : Int) < (its.toArray.size : Int))) = true then some (0 : Int).toNat else none) = some 0
    rw [show decide ((0 : Int) < (its.toArray.size : Int)) = true from z2]
    rfl
  refine subscriptTail_builtinR (s := { s with toks := s.toks + 1 }) (x := .int i u) ht.typeIs slot_tuple_getitem.lookup (PyProof.Rows.getItem_tuple (s := { s with toks := s.toks + 1 }) (j := 0) ht (by decide) (by decide) hl hs ⟨rfl, ?_⟩) rfl
  exact Calls.spliced_nil (call_int_int (q _))
end
/-- a start and an end, or a start and a length: none is None -/
abbrev P2 := Int × Option Int
def oV : Option Int → V
  | none => .non
  | some i => .int i
def pairV (p : P2) : List V := [.int p.1, oV p.2]
/-- the tuples at ts are the pairs ps -/
abbrev TupsAt (H : Hp) (ts : List Addr) (ps : List P2) : Prop := Paired (fun t p => H t = some (.tup (pairV p))) ts ps
def sortedZ (ts : List Addr) (ps : List P2) : List (Addr × P2) := (ts.zip ps).mergeSort fun a b => decide (a.2.1 ≤ b.2.1)
/-- the lambda's names and how it binds -/
structure KeyLam (params : Arguments) (body : Expr) (scope : Scope) : Prop where
  kind : scope.kind = .function
  co : scope.isCoroutine = false
  gen : scope.isGenerator = false
  x : scope.names.lookup (Str.ofString "x") = some NameKind.local
  i : scope.names.lookup (Str.ofString "int") = some NameKind.globalImplicit
  nofree : ∀ y ∈ scope.names, y.2 ≠ .free
  clo : ∀ cells : List (Str × Addr), cloFrom cells scope.names [] = []
  bind : ∀ (q : Str) (pm cv ctv v : Value), bindArgs (PySem.W.kla_fn "<lambda>" q params body scope [] pm cv ctv) ⟨[v], []⟩ = pure [(Str.ofString "x", v)]
  body : ∃ (p1 p2 p3 p4 p5 : Pos) (j : Nat), body = .Call (.Name "int" p1) [.Subscript (.Name "x" p2) (.Constant (.int 0) j p3) p4] [] p5
abbrev Tabs1 (P : Addr) (q : Str) (H : Hp) : Prop := LamX.Tabs [(P, q)] H
def tSortLam (P : Addr) (q : Str) (te : TE) : TE := fun σ H Q => te σ H fun x H1 => ∃ (a : Addr) (ts : List Addr) (ps : List P2), x = .ref a ∧ H1 a = some (.lst (ts.map V.ref)) ∧ TupsAt H1 ts ps ∧ LamX.TabS H1 P q ∧
  ∀ (H2 : Hp) (p : Addr), LamX.ExtN H1 H2 → LamX.TabS H2 P q → H2 p = none → Q (.ref p) (upd H2 p (.lst ((sortedZ ts ps).map fun z => V.ref z.1)))
section
variable {X : Cx} {e : Expr} {te : TE} {c P : Addr} {params : Arguments} {body : Expr} {scope : Scope} {p lpos kpos pos : Pos}
theorem paired_zip {α β : Type} {F : α → β → Prop} : ∀ {l : List α} {m : List β}, Paired F l m → ∀ z ∈ l.zip m, F z.1 z.2
  | _, _, .nil, z, h => by simp at h
  | _, _, .cons r t, z, h => by
    rcases List.mem_cons.mp h with e | h
    · rw [e]
      exact r
    · exact paired_zip t z h
theorem refs_of : ∀ {ts : List Addr} {us : List Value}, Vals (ts.map V.ref) us → us = ts.map Value.ref
  | [], us, h => by
    cases h
    rfl
  | t :: ts, us, h => by
    cases h with
    | cons r q =>
      cases r
      rw [refs_of q, List.map_cons]
theorem eachs : ∀ l : List (Addr × P2), PySem.W.EachIs (fun (v : Value) (z : Addr × P2) => v = .ref z.1) (l.map fun z => Value.ref z.1) l
  | [] => .nil
  | z :: l => .cons rfl (eachs l)
theorem each_eq : ∀ {out : List Value} {l : List (Addr × P2)}, PySem.W.EachIs (fun (v : Value) (z : Addr × P2) => v = .ref z.1) out l → out = l.map fun z => Value.ref z.1
  | _, _, .nil => rfl
  | _, _, .cons e h => by rw [e, each_eq h, List.map_cons]
theorem refs_vals : ∀ l : List (Addr × P2), Vals (l.map fun z => V.ref z.1) (l.map fun z => Value.ref z.1)
  | [] => .nil
  | z :: l => .cons rfl (refs_vals l)
theorem pe_sortLam (TB : LamX.TabB X.base X.mg c P) (hcode : X.env.code = .ref c) (L : KeyLam params body scope) (hr : Room 3 X.A) (hm : X.mg "sorted" = none) (gi : X.mg "int" = none) (he : PE X e te) (hg : Gl X "sorted" := by rfl)
    (hdef : defaultsOf params X.env = ([], []) := by rfl)
    (hst : backTo pos (starEach [e] X.env) = (false, eval e X.env) :: backTo pos (starEach [] X.env) := by rfl) (hpl : (backTo pos (starEach [e] X.env)).any (·.1) = false := by rfl)
    (hall : (backToKw pos (keywordEach [⟨some "key", .Lambda params body scope lpos, kpos⟩] X.env)).all (·.1.isSome) = true := by rfl) (hno : (backToKw pos (keywordEach [⟨some "key", .Lambda params body scope lpos, kpos⟩] X.env)).any (·.1.isNone) = false := by rfl) :
    PE X (.Call (.Name "sorted" p) [e] [⟨some "key", .Lambda params body scope lpos, kpos⟩] pos) (tSortLam P (X.env.qual ++ "<lambda>") te) := by
  constructor
  intro pins s σ H Q I h
  refine wpAny_Call_Name_kw (ld_blt I hg hm PyProof.Rows.boot_sorted ?_)
  refine PyProof.Rows.callWith_kw (thn ?_ fun us s1 z => z) hst hpl hall hno
  rw [hst]
  refine Calls.spliced_cons (thn (he.run pins s σ H _ I h) fun u s1 ⟨y, H1, I1, ry, a, ts, ps, ey, ea, hT, tab, q⟩ => ?_)
  subst ey
  obtain rfl : u = Value.ref a := ry
  refine Calls.spliced_nil ?_
  refine wpAny_evalAll_cons (wpAny_bind ?_)
  have L1 : Tabs1 P (X.env.qual ++ "<lambda>") H1 := fun p hp => by
    rw [List.mem_singleton.mp hp]
    exact tab
  refine LamX.lam_make2 (T := [(P, X.env.qual ++ "<lambda>")]) I1 TB hcode (List.mem_singleton.mpr rfl) (fun p hp _ => by rw [List.mem_singleton.mp hp]) L1 hdef (fun y hy e => absurd e (L.nofree y hy)) fun f c' pm ctv H2 s2 I2 eN T2 hf hfn hfr hco => ?_
  rw [L.clo] at hf
  refine wpAny_bind (wpAny_standAt (wpAny_pure (wpAny_evalAll_nil ?_)))
  show wpAny (model X.prog X.w) X.A (call (.builtin "sorted") [.ref a] [(Str.ofString "key", .ref f)]) _ X.xe s2
  have ea2 : H2 a = some (.lst (ts.map V.ref)) := eN a _ ea (fun _ z => nomatch z)
  have hT2 : TupsAt H2 ts ps := L2.Paired.mapP hT fun t p z => eN t _ z (fun _ z => nomatch z)
  obtain ⟨its, rv, pl, hz⟩ := I2.list (SqL.of ea2)
  have ei := refs_of rv
  subst ei
  have hl : ts.length = ps.length := hT.length
  have hlen : (ts.zip ps).length = ts.length := by rw [List.length_zip, ← hl, Nat.min_self]
  have hzt : ts.length ≤ sizeLine := by rw [List.length_map] at hz; exact hz
  have ez : ts.map Value.ref = (ts.zip ps).map fun z => Value.ref z.1 := by
    rw [show (fun z : Addr × P2 => Value.ref z.1) = Value.ref ∘ Prod.fst from rfl, ← List.map_map, List.map_fst_zip (by omega)]
  have eb : PySem.W.EachIs (fun (v : Value) (z : Addr × P2) => v = .ref z.1) (ts.map Value.ref) (ts.zip ps) := by
    rw [ez]
    exact eachs _
  obtain ⟨p1, p2, p3, p4, p5, j, ebody⟩ := L.body
  obtain ⟨oc, cvs, ct, hoc, hdc, hvc⟩ := (show ∃ (oc : Obj) (vs : Array Value) (t : Tok), s2.heap.get? c' = some oc ∧ oc.data = .fields vs ∧ vs[1]? = some (.str (X.env.qual ++ "<lambda>") t) from (I2.hok c' _ hco).1)
  obtain ⟨mb, hb1, hb2⟩ := I2.mod.blt
  have hb3 : mb (Str.ofString "int") = some (.type "int") := (hb2 _ (by decide)).trans PyProof.Rows.boot_int
  refine PySem.W.sorted_key_data (b := false) (fun z : Addr × P2 => PyData.int z.2.1) (vs := ts.map Value.ref) (bs := ts.zip ps) pl.isList eb (PySem.W.AllAlike.of fun _ _ => rfl) (.inr fun d hd => ?_) (by rw [hlen]; exact hzt) (fun z hz => ?_)
    (PyProof.Rows.ksk_s1 _ _) (fun _ => PyProof.Rows.ksk_l1 _ _) (fun q0 => PyProof.Rows.ksk_t1 f q0) ?_ ?_
  · obtain ⟨z, hz, e⟩ := List.mem_map.mp hd
    rw [← e]
    exact ⟨(fun q => nomatch q), (fun _ q => nomatch q)⟩
  · show X.A.units + 2 + 0 < cLine
    have := hr.units
    omega
  · rintro v z rfl hz h tk kp
    have hf' := kp _ _ hf
    have ht1 := paired_zip hT2 z hz
    obtain ⟨_, its2, rv2, tp⟩ := (show ObjOk X.prog X.w H2 s2.heap z.1 (.tup (pairV z.2)) from I2.hok z.1 _ ht1)
    obtain ⟨u0, h0⟩ : ∃ u0, its2[0]? = some (.int z.2.1 u0) := by
      cases rv2 with
      | cons r q =>
        obtain ⟨t0, rfl⟩ := r
        exact ⟨t0, rfl⟩
    refine wpAny_call (PySem.W.kla_callFunE (s := { s2 with heap := h, toks := tk }) hr.in1.in1.depth hf' rfl L.co L.gen rfl ⟨c', oc, cvs, ct, rfl, kp _ _ hoc, hdc, hvc⟩ ?_)
    rw [L.bind]
    refine wpAny_pure (wpAny_newFunctionEnv_cells L.kind (fun y hy => ?_) fun env henv s3 xx => ?_)
    · rw [List.mem_singleton.mp hy]
      exact .inl L.x
    subst henv
    have k3 : ∀ b o, s2.heap.get? b = some o → s3.heap.get? b = some o := fun b o e => xx.toInCall.keep b o (kp b o e)
    have kb : ∀ b o, X.base.get? b = some o → s3.heap.get? b = some o := fun b o e => k3 b o (I2.bk b o e)
    refine ⟨I2.mod.nolimit.keeps kb, PySem.W.kla_codeExpr ?_⟩
    obtain ⟨h3, tk3, e3, k4⟩ := xx.done
    rw [ebody]
    refine key_body (u := u0) (its := its2) (t := z.1) L.kind L.x L.i xx.toInCall.ns (bindL_get (P := [Str.ofString "x"]) (vs := [.ref z.1]) (i := 0) (by simp) rfl rfl L.x) (tp.keeps k3) h0 (I2.mod.glob.keeps kb) gi (hb1.keeps kb) hb3 fun tk5 => ?_
    exact ⟨h3, tk5, by rw [e3], k4, .int _ _⟩
  · intro out cc h' tk kp hn hat hlo he2
    have e3 : PySem.W.dataLe false (fun z : Addr × P2 => PyData.int z.2.1) = fun a b => decide (a.2.1 ≤ b.2.1) := PySem.W.dataLe_int fun z : Addr × P2 => z.2.1
    rw [e3] at he2
    have eo : out = (sortedZ ts ps).map fun z => Value.ref z.1 := each_eq he2
    have hol : ((sortedZ ts ps).map fun z => V.ref z.1).length ≤ sizeLine := by
      rw [List.length_map, show (sortedZ ts ps).length = (ts.zip ps).length from List.length_mergeSort _, hlen]
      exact hzt
    refine ⟨.ref (s2.heap.objs.size + 1), upd H2 (s2.heap.objs.size + 1) (.lst ((sortedZ ts ps).map fun z => V.ref z.1)), I2.laid (t' := tk) kp (Nat.le_succ _) ⟨hol, out, cc, ?_, hat⟩, rfl, q H2 _ eN (T2 _ (List.mem_singleton.mpr rfl)) (I2.hok.fresh (Nat.le_succ _))⟩
    rw [eo]
    exact refs_vals _
end
end GF

set_option Elab.async false
set_option linter.all false
set_option maxRecDepth 100000
set_option maxHeartbeats 4000000
namespace GF
open PySem PySem.Spec PyProof.Rows L2
/-! ## the mirror: what the defs compute, over plain data -/
/-! ### rooms -/
def endOf (r : P2) : Option Int := match r.2 with
  | none => none
  | some l => some (r.1 + l)
def before : Option Int → Option Int → Bool
  | none, _ => false
  | some _, none => true
  | some a, some b => decide (a < b)
def leEnd (s : Int) : Option Int → Bool
  | none => true
  | some e => decide (s ≤ e)
def joinStep (found : List P2) (run : P2) : List P2 := match found.getLast? with
  | none => found ++ [(run.1, endOf run)]
  | some l => if leEnd run.1 l.2 = true then (if before l.2 (endOf run) = true then found.set (found.length - 1) (l.1, endOf run) else found) else found ++ [(run.1, endOf run)]
def byStart (rs : List P2) : List P2 := rs.mergeSort fun a b => decide (a.1 ≤ b.1)
def joinedM (rs : List P2) : List P2 := (byStart rs).foldl joinStep []
def meetS (o t : P2) : Int := if o.1 < t.1 then t.1 else o.1
def meetB (o t : P2) : Bool := before (some (meetS o t)) o.2 && before (some (meetS o t)) t.2
def meetP (o t : P2) : P2 := (meetS o t, if before o.2 t.2 = true then o.2 else t.2)
def meets (o : P2) (ts : List P2) : List P2 := (ts.filter fun t => meetB o t).map fun t => meetP o t
def sharedM (os ts : List P2) : List P2 := os.flatMap fun o => meets o ts
def othersStep (st : List P2 × Option Int) (p : P2) : List P2 × Option Int := ((match st.2 with
  | none => st.1
  | some a => if a < p.1 then st.1 ++ [(a, some p.1)] else st.1), p.2)
def othersE (st : List P2 × Option Int) : List P2 := match st.2 with
  | none => st.1
  | some a => st.1 ++ [(a, none)]
def othersM (ps : List P2) : List P2 := othersE (ps.foldl othersStep ([], some 0))
def runOf (p : P2) : P2 := (p.1, match p.2 with
  | none => none
  | some e => some (e - p.1))
def runsM (ps : List P2) : List P2 := ps.map runOf
/-! ### places -/
def enough (run : P2) (many : Int) : Bool := match run.2 with
  | none => true
  | some l => decide (many ≤ l)
def firstM (runs : List P2) (many : Int) : Option Int := (runs.find? fun r => enough r many).map (·.1)
def lessL (run best : P2) : Bool := match run.2 with
  | none => false
  | some l => (match best.2 with
    | none => true
    | some m => decide (l < m))
def bestStep (many : Int) (best : Option P2) (run : P2) : Option P2 := if enough run many = true then (match best with
  | none => some run
  | some b => if lessL run b = true then some run else some b) else best
def bestM (runs : List P2) (many : Int) : Option Int := (runs.foldl (bestStep many) none).map (·.1)
def placeM (rule : Str) (free : List P2) (many behind after : Int) : Option Int :=
  if rule = "best" then bestM (runsM free) many
  else match (if rule = "behind" then firstM ((runsM (sharedM free [(behind, none)])).filter fun r => decide (r.1 = behind)) many
    else if rule = "next" then firstM (runsM (sharedM free [(after, none)])) many else none) with
  | none => firstM (runsM free) many
  | some s => some s
/-! ### files, disks -/
abbrev R2i := Int × Int
def fin (r : R2i) : P2 := (r.1, some r.2)
structure FileS where
  name : Str
  size : Int
  hold : Int
  op : Bool
  runs : List R2i
structure DiskS where
  lo : Int
  hi : Int
  t : Int
  b : Int
  rule : Str
  short : Bool
  back : Bool
  after : Int
  files : List FileS
def partM (t b h : Int) : Int := -(-h * t / b)
def stepM (lo hi t b h : Int) : Int := if partM t b h < lo then lo else if partM t b h < hi then partM t b h else hi
def askM (lo hi t b h need : Int) : Int := if stepM lo hi t b h > need then stepM lo hi t b h else need
def allRuns (fs : List FileS) : List R2i := fs.flatMap (·.runs)
def freeM (rs : List R2i) : List P2 := sharedM [(0, none)] (othersM (joinedM (rs.map fin)))
def lastEnd (rs : List R2i) : Option Int := rs.getLast?.map fun r => r.1 + r.2
def putM (rs : List R2i) (r : R2i) : List R2i := match rs.getLast? with
  | none => rs ++ [r]
  | some l => if l.1 + l.2 = r.1 then rs.set (rs.length - 1) (l.1, l.2 + r.2) else rs ++ [r]
def behindM (rs : List R2i) (free : List P2) : Int := match rs.getLast? with
  | some l => l.1 + l.2
  | none => (match free with
    | p :: _ => p.1
    | [] => 0)
def startM (d : DiskS) (f : FileS) (asked : Int) : Option Int := placeM d.rule (freeM (allRuns d.files)) asked (behindM f.runs (freeM (allRuns d.files))) d.after
def needM (f : FileS) (many : Int) : Int := f.size + many - f.hold
def askD (d : DiskS) (f : FileS) (many : Int) : Int := askM d.lo d.hi d.t d.b f.hold (needM f many)
def grownF (d : DiskS) (f : FileS) (many : Int) : FileS :=
  if needM f many ≤ 0 then { f with size := f.size + many }
  else { f with size := f.size + many, hold := f.hold + askD d f many, runs := putM f.runs ((startM d f (askD d f many)).getD 0, askD d f many) }
def givenF (d : DiskS) (f : FileS) (many : Int) : Int := if needM f many ≤ 0 then 0 else askD d f many
def afterF (d : DiskS) (f : FileS) (many : Int) : Int := if needM f many ≤ 0 then d.after else (startM d f (askD d f many)).getD 0 + askD d f many
def growD (d : DiskS) (i : Nat) (f : FileS) (many : Int) : DiskS := { d with after := afterF d f many, files := d.files.set i (grownF d f many) }
/-- the idle blocks are cut off, from the last piece on (the pieces from behind) -/
def cutR : List R2i → Int → List R2i
  | [], _ => []
  | r :: rs, left => if left ≤ 0 then r :: rs else if r.2 > left then (r.1, r.2 - left) :: rs else cutR rs (left - r.2)
def cutM (rs : List R2i) (left : Int) : List R2i := (cutR rs.reverse left).reverse
def holdM (rs : List R2i) : Int := (rs.map (·.2)).sum
end GF

set_option Elab.async false
set_option linter.all false
set_option maxRecDepth 100000
set_option maxHeartbeats 4000000
namespace GF
open PySem PySem.Spec PyProof.Rows L2
/-! ## what stands in the abstract heap -/
/-! ### lists of pairs -/
def PL (H : Hp) (a : Addr) (ps : List P2) : Prop := ∃ ts : List Addr, H a = some (.lst (ts.map V.ref)) ∧ TupsAt H ts ps
theorem TupsAt.ext {H H' : Hp} {ts : List Addr} {ps : List P2} (h : TupsAt H ts ps) (e : ∀ b xs, H b = some (.tup xs) → H' b = some (.tup xs)) : TupsAt H' ts ps := L2.Paired.mapP h fun t p z => e t _ z
theorem TupsAt.at {H : Hp} : ∀ {ts : List Addr} {ps : List P2} {i : Nat} {p : P2}, TupsAt H ts ps → ps[i]? = some p → ∃ t, ts[i]? = some t ∧ H t = some (.tup (pairV p))
  | _, _, i, p, .nil, e => by simp at e
  | _, _, 0, p, .cons r _, e => by
    simp at e
    subst e
    exact ⟨_, rfl, r⟩
  | _, _, i + 1, p, .cons _ q, e => by
    obtain ⟨t, h1, h2⟩ := TupsAt.at (i := i) (p := p) q (by simpa using e)
    exact ⟨t, by simpa using h1, h2⟩
theorem TupsAt.at' {H : Hp} : ∀ {ts : List Addr} {ps : List P2} {i : Nat} {t : Addr}, TupsAt H ts ps → ts[i]? = some t → ∃ p, ps[i]? = some p ∧ H t = some (.tup (pairV p))
  | _, _, i, p, .nil, e => by simp at e
  | _, _, 0, p, .cons r _, e => by
    simp at e
    subst e
    exact ⟨_, rfl, r⟩
  | _, _, i + 1, p, .cons _ q, e => by
    obtain ⟨t, h1, h2⟩ := TupsAt.at' (i := i) (t := p) q (by simpa using e)
    exact ⟨t, by simpa using h1, h2⟩
theorem TupsAt.snoc {H : Hp} {t : Addr} {p : P2} (ht : H t = some (.tup (pairV p))) : ∀ {ts : List Addr} {ps : List P2}, TupsAt H ts ps → TupsAt H (ts ++ [t]) (ps ++ [p])
  | _, _, .nil => .cons ht .nil
  | _, _, .cons r q => .cons r (TupsAt.snoc ht q)
theorem TupsAt.append {H : Hp} : ∀ {ts us : List Addr} {ps qs : List P2}, TupsAt H ts ps → TupsAt H us qs → TupsAt H (ts ++ us) (ps ++ qs)
  | _, _, _, _, .nil, h => h
  | _, _, _, _, .cons r q, h => .cons r (TupsAt.append q h)
theorem TupsAt.set {H : Hp} {t : Addr} {p : P2} (ht : H t = some (.tup (pairV p))) : ∀ {ts : List Addr} {ps : List P2} (i : Nat), TupsAt H ts ps → TupsAt H (ts.set i t) (ps.set i p)
  | _, _, _, .nil => .nil
  | _, _, 0, .cons _ q => .cons ht q
  | _, _, i + 1, .cons r q => .cons r (TupsAt.set ht i q)
theorem TupsAt.dropLast {H : Hp} : ∀ {ts : List Addr} {ps : List P2}, TupsAt H ts ps → TupsAt H ts.dropLast ps.dropLast
  | _, _, .nil => .nil
  | _, _, .cons r .nil => .nil
  | _, _, .cons r (.cons r2 q) => .cons r (TupsAt.dropLast (.cons r2 q))
theorem TupsAt.of_zip {H : Hp} : ∀ {l : List (Addr × P2)}, (∀ z ∈ l, H z.1 = some (.tup (pairV z.2))) → TupsAt H (l.map (·.1)) (l.map (·.2))
  | [], _ => .nil
  | z :: l, h => .cons (h z List.mem_cons_self) (TupsAt.of_zip fun y hy => h y (List.mem_cons_of_mem _ hy))
theorem PL.same {H H' : Hp} {a : Addr} {ps : List P2} (h : PL H a ps) (e : Same H H') : PL H' a ps := let ⟨ts, h1, h2⟩ := h; ⟨ts, e _ _ h1, h2.ext fun b xs z => e b _ z⟩
theorem PL.length {H : Hp} {a : Addr} {ps : List P2} (h : PL H a ps) : ∃ ts : List Addr, H a = some (.lst (ts.map V.ref)) ∧ (ts.map V.ref).length = ps.length := let ⟨ts, h1, h2⟩ := h; ⟨ts, h1, by rw [List.length_map]; exact h2.length⟩
/-- what stood stands, but for what is at M and the tables -/
structure Chg (M : List Addr) (H H' : Hp) : Prop where
  keep : ∀ b o, H b = some o → b ∉ M → (∀ ps, o ≠ .tbl ps) → H' b = some o
  tups : ∀ b xs, H b = some (.tup xs) → H' b = some (.tup xs)
theorem Chg.of_same {M : List Addr} {H H' : Hp} (e : Same H H') : Chg M H H' := ⟨fun b o h _ _ => e b o h, fun b xs h => e b _ h⟩
theorem Chg.of_ext {M : List Addr} {H H' : Hp} (e : LamX.ExtN H H') : Chg M H H' := ⟨fun b o h _ n => e b o h n, fun b xs h => e b _ h fun _ z => nomatch z⟩
theorem Chg.refl {M : List Addr} {H : Hp} : Chg M H H := .of_same (Same.refl H)
theorem Chg.trans {M : List Addr} {H H1 H2 : Hp} (a : Chg M H H1) (b : Chg M H1 H2) : Chg M H H2 := ⟨fun c o h m n => b.keep c o (a.keep c o h m n) m n, fun c xs h => b.tups c xs (a.tups c xs h)⟩
theorem Chg.mono {M N : List Addr} {H H' : Hp} (a : Chg M H H') (h : ∀ b ∈ M, b ∈ N) : Chg N H H' := ⟨fun c o e m n => a.keep c o e (fun z => m (h c z)) n, a.tups⟩
theorem Chg.ext {H H' : Hp} (a : Chg [] H H') : LamX.ExtN H H' := fun b o h n => a.keep b o h (by simp) n
theorem Chg.none {M : List Addr} {H H' : Hp} {b : Addr} (a : Chg M H H') (e : H' b = Option.none) (hm : b ∉ M) (ht : ∀ ps, H b ≠ some (.tbl ps)) : H b = Option.none := by
  cases q : H b with
  | none => rfl
  | some o =>
    rw [a.keep b o q hm fun ps z => ht ps (by rw [q, z])] at e
    cases e
theorem Same.upd_new {H : Hp} {p : Addr} {o : HO} (h : H p = Option.none) : Same H (upd H p o) := fun b u e => by
  rw [upd_ne (ne_of_none e h)]
  exact e
theorem PL.chg {M : List Addr} {H H' : Hp} {a : Addr} {ps : List P2} (h : PL H a ps) (e : Chg M H H') (hm : a ∉ M) : PL H' a ps := let ⟨ts, h1, h2⟩ := h; ⟨ts, e.keep _ _ h1 hm (fun _ z => nomatch z), h2.ext e.tups⟩
/-! ### the attributes -/
abbrev cP (K : PySem.W.Frag) : Addr := He.ga K "Pairs"
abbrev cR (K : PySem.W.Frag) : Addr := He.ga K "Room"
abbrev cF (K : PySem.W.Frag) : Addr := He.ga K "File"
abbrev cD (K : PySem.W.Frag) : Addr := He.ga K "Disk"
abbrev cB (K : PySem.W.Frag) : Addr := He.ga K "Book"
def pairsFs (l : Addr) : List (Str × V) := [(Str.ofString "pairs", .ref l)]
def fileFs (p l : Addr) (name : Str) (size hold : Int) (op : Bool) : List (Str × V) :=
  [(Str.ofString "disk", .ref p), (Str.ofString "name", .str name), (Str.ofString "size", .int size), (Str.ofString "hold", .int hold), (Str.ofString "waiting", .int 0), (Str.ofString "is_open", .bl op), (Str.ofString "runs_held", .ref l)]
def bookFs (lo hi : Int) (sh : Addr) : List (Str × V) := [(Str.ofString "own_first", .int lo), (Str.ofString "own_roof", .int hi), (Str.ofString "own_share", .ref sh)]
def diskFs (bk fd : Addr) (rule : Str) (short back : Bool) (after : Int) : List (Str × V) :=
  [(Str.ofString "own_book", .ref bk), (Str.ofString "rule", .str rule), (Str.ofString "size", .non), (Str.ofString "short", .bl short), (Str.ofString "back", .bl back), (Str.ofString "late", .bl false), (Str.ofString "after", .int after), (Str.ofString "files", .ref fd)]
section
variable {p l bk fd sh : Addr} {name rule : Str} {size hold z after lo hi : Int} {op o2 short back : Bool}
theorem ff_disk : (fileFs p l name size hold op).lookup (Str.ofString "disk") = some (.ref p) := by kernel_rfl
theorem ff_name : (fileFs p l name size hold op).lookup (Str.ofString "name") = some (.str name) := by kernel_rfl
theorem ff_size : (fileFs p l name size hold op).lookup (Str.ofString "size") = some (.int size) := by kernel_rfl
theorem ff_hold : (fileFs p l name size hold op).lookup (Str.ofString "hold") = some (.int hold) := by kernel_rfl
theorem ff_wait : (fileFs p l name size hold op).lookup (Str.ofString "waiting") = some (.int 0) := by kernel_rfl
theorem ff_open : (fileFs p l name size hold op).lookup (Str.ofString "is_open") = some (.bl op) := by kernel_rfl
theorem ff_runs : (fileFs p l name size hold op).lookup (Str.ofString "runs_held") = some (.ref l) := by kernel_rfl
theorem ff_put_size : putF (Str.ofString "size") (.int z) (fileFs p l name size hold op) = fileFs p l name z hold op := by kernel_rfl
theorem ff_put_hold : putF (Str.ofString "hold") (.int z) (fileFs p l name size hold op) = fileFs p l name size z op := by kernel_rfl
theorem ff_put_wait : putF (Str.ofString "waiting") (.int 0) (fileFs p l name size hold op) = fileFs p l name size hold op := by kernel_rfl
theorem ff_put_open : putF (Str.ofString "is_open") (.bl o2) (fileFs p l name size hold op) = fileFs p l name size hold o2 := by kernel_rfl
theorem ff_make : putF (Str.ofString "runs_held") (.ref l) (putF (Str.ofString "is_open") (.bl true) (putF (Str.ofString "waiting") (.int 0) (putF (Str.ofString "hold") (.int 0) (putF (Str.ofString "size") (.int 0) (putF (Str.ofString "name") (.str name)
  (putF (Str.ofString "disk") (.ref p) [])))))) = fileFs p l name 0 0 true := by kernel_rfl
theorem ff_len : (fileFs p l name size hold op).length = 7 := rfl
theorem fp_pairs : (pairsFs l).lookup (Str.ofString "pairs") = some (.ref l) := by kernel_rfl
theorem fp_make : putF (Str.ofString "pairs") (.ref l) [] = pairsFs l := by kernel_rfl
theorem fb_first : (bookFs lo hi sh).lookup (Str.ofString "own_first") = some (.int lo) := by kernel_rfl
theorem fb_roof : (bookFs lo hi sh).lookup (Str.ofString "own_roof") = some (.int hi) := by kernel_rfl
theorem fb_share : (bookFs lo hi sh).lookup (Str.ofString "own_share") = some (.ref sh) := by kernel_rfl
theorem fb_make : putF (Str.ofString "own_share") (.ref sh) (putF (Str.ofString "own_roof") (.int hi) (putF (Str.ofString "own_first") (.int lo) [])) = bookFs lo hi sh := by kernel_rfl
theorem fd_book : (diskFs bk fd rule short back after).lookup (Str.ofString "own_book") = some (.ref bk) := by kernel_rfl
theorem fd_rule : (diskFs bk fd rule short back after).lookup (Str.ofString "rule") = some (.str rule) := by kernel_rfl
theorem fd_size : (diskFs bk fd rule short back after).lookup (Str.ofString "size") = some .non := by kernel_rfl
theorem fd_short : (diskFs bk fd rule short back after).lookup (Str.ofString "short") = some (.bl short) := by kernel_rfl
theorem fd_back : (diskFs bk fd rule short back after).lookup (Str.ofString "back") = some (.bl back) := by kernel_rfl
theorem fd_late : (diskFs bk fd rule short back after).lookup (Str.ofString "late") = some (.bl false) := by kernel_rfl
theorem fd_after : (diskFs bk fd rule short back after).lookup (Str.ofString "after") = some (.int after) := by kernel_rfl
theorem fd_files : (diskFs bk fd rule short back after).lookup (Str.ofString "files") = some (.ref fd) := by kernel_rfl
theorem fd_put_after : putF (Str.ofString "after") (.int z) (diskFs bk fd rule short back after) = diskFs bk fd rule short back z := by kernel_rfl
theorem fd_make : putF (Str.ofString "files") (.ref fd) (putF (Str.ofString "after") (.int 0) (putF (Str.ofString "late") (.bl false) (putF (Str.ofString "back") (.bl back) (putF (Str.ofString "short") (.bl short) (putF (Str.ofString "size") .non
  (putF (Str.ofString "rule") (.str rule) (putF (Str.ofString "own_book") (.ref bk) []))))))) = diskFs bk fd rule short back 0 := by kernel_rfl
end
theorem strNe {a b : Str} (h : decide (a = b) = false) : a ≠ b := of_decide_eq_false h
theorem file_ne_disk {C D dx dy p l bk fd : Addr} {name rule : Str} {size hold after : Int} {op short back : Bool} : HO.ins C dx (fileFs p l name size hold op) ≠ HO.ins D dy (diskFs bk fd rule short back after) := fun e => by
  injection e with _ _ e
  injection e with e _
  injection e with e _
  exact absurd e (by decide +kernel)
theorem file_ne_book {C D dx dy p l sh : Addr} {name : Str} {size hold lo hi : Int} {op : Bool} : HO.ins C dx (fileFs p l name size hold op) ≠ HO.ins D dy (bookFs lo hi sh) := fun e => by
  injection e with _ _ e
  injection e with e _
  injection e with e _
  exact absurd e (by decide +kernel)
theorem disk_ne_book {C D dx dy sh bk fd : Addr} {rule : Str} {lo hi after : Int} {short back : Bool} : HO.ins C dx (diskFs bk fd rule short back after) ≠ HO.ins D dy (bookFs lo hi sh) := fun e => by
  injection e with _ _ e
  injection e with e _
  injection e with e _
  exact absurd e (by decide +kernel)
/-! ### rooms, files, disks -/
def RoomAt (K : PySem.W.Frag) (H : Hp) (r : Addr) (ps : List P2) : Prop := ∃ dx l, H r = some (.ins (cR K) dx (pairsFs l)) ∧ PL H l ps
theorem RoomAt.same {K : PySem.W.Frag} {H H' : Hp} {r : Addr} {ps : List P2} (h : RoomAt K H r ps) (e : Same H H') : RoomAt K H' r ps := let ⟨dx, l, h1, h2⟩ := h; ⟨dx, l, e _ _ h1, h2.same e⟩
structure FAd where
  f : Addr
  dx : Addr
  l : Addr
structure DAd where
  p : Addr
  dx : Addr
  bk : Addr
  bdx : Addr
  sh : Addr
  fd : Addr
  fs : List FAd
structure FileAt (K : PySem.W.Frag) (H : Hp) (p : Addr) (a : FAd) (f : FileS) : Prop where
  ob : H a.f = some (.ins (cF K) a.dx (fileFs p a.l f.name f.size f.hold f.op))
  pl : PL H a.l (f.runs.map fin)
structure DiskAt (K : PySem.W.Frag) (H : Hp) (A : DAd) (d : DiskS) : Prop where
  ob : H A.p = some (.ins (cD K) A.dx (diskFs A.bk A.fd d.rule d.short d.back d.after))
  bk : H A.bk = some (.ins (cB K) A.bdx (bookFs d.lo d.hi A.sh))
  sh : H A.sh = some (.tup [.int d.t, .int d.b])
  fd : H A.fd = some (.dK ((A.fs.zip d.files).map fun z => ((Sum.inr z.2.name : Key), V.ref z.1.f)))
  fs : Paired (FileAt K H A.p) A.fs d.files
  ndf : (A.fs.map (·.f)).Nodup
  ndl : (A.fs.map (·.l)).Nodup
/-- the addresses of a disk that a change of its own may reach -/
def DAd.own (A : DAd) : List Addr := A.p :: A.bk :: A.fd :: (A.fs.map (·.f) ++ A.fs.map (·.l))
theorem FileAt.chg {K : PySem.W.Frag} {M : List Addr} {H H' : Hp} {p : Addr} {a : FAd} {f : FileS} (h : FileAt K H p a f) (e : Chg M H H') (h1 : a.f ∉ M) (h2 : a.l ∉ M) : FileAt K H' p a f := ⟨e.keep _ _ h.ob h1 (fun _ z => nomatch z), h.pl.chg e h2⟩
theorem paired_mem {α β : Type} {F G : α → β → Prop} : ∀ {l : List α} {m : List β}, Paired F l m → (∀ a ∈ l, ∀ b ∈ m, F a b → G a b) → Paired G l m
  | _, _, .nil, _ => .nil
  | _, _, .cons r q, h => .cons (h _ List.mem_cons_self _ List.mem_cons_self r) (paired_mem q fun a ha b hb => h a (List.mem_cons_of_mem _ ha) b (List.mem_cons_of_mem _ hb))
theorem DiskAt.chg {K : PySem.W.Frag} {M : List Addr} {H H' : Hp} {A : DAd} {d : DiskS} (h : DiskAt K H A d) (e : Chg M H H') (hM : ∀ b ∈ A.own, b ∉ M) : DiskAt K H' A d where
  ob := e.keep _ _ h.ob (hM _ (by simp [DAd.own])) fun _ z => nomatch z
  bk := e.keep _ _ h.bk (hM _ (by simp [DAd.own])) fun _ z => nomatch z
  sh := e.tups _ _ h.sh
  fd := e.keep _ _ h.fd (hM _ (by simp [DAd.own])) fun _ z => nomatch z
  fs := paired_mem h.fs fun a ha f _ z => z.chg e (hM _ (by simp only [DAd.own, List.mem_cons, List.mem_append, List.mem_map]; exact .inr (.inr (.inr (.inl ⟨a, ha, rfl⟩))))) (hM _ (by simp only [DAd.own, List.mem_cons, List.mem_append, List.mem_map]; exact .inr (.inr (.inr (.inr ⟨a, ha, rfl⟩)))))
  ndf := h.ndf
  ndl := h.ndl
end GF

set_option Elab.async false
set_option linter.all false
set_option maxRecDepth 100000
set_option maxHeartbeats 4000000
namespace GF
open PySem PySem.Spec PyProof.Rows L2
/-! ## short rules -/
section
variable {X : Cx} {e a b : Expr} {te ta tb : TE} {pos p p1 : Pos} {j : Nat}
/-- e[0], e[1] of a pair -/
def tFst (te : TE) : TE := fun σ H Q => te σ H fun x H1 => ∃ (t : Addr) (p : P2), x = .ref t ∧ H1 t = some (.tup (pairV p)) ∧ Q (.int p.1) H1
def tSnd (te : TE) : TE := fun σ H Q => te σ H fun x H1 => ∃ (t : Addr) (p : P2), x = .ref t ∧ H1 t = some (.tup (pairV p)) ∧ Q (oV p.2) H1
theorem PE.weak {t t' : TE} (h : PE X e t) (w : ∀ σ H Q, t' σ H Q → t σ H Q) : PE X e t' := ⟨fun pins s σ H Q I hq => h.run pins s σ H Q I (w _ _ _ hq)⟩
/-- a reading asks for what follows: a stronger wish behind it is good as well -/
def Mono (t : TE) : Prop := ∀ σ H (Q Q' : VK), (∀ v H', Q v H' → Q' v H') → t σ H Q → t σ H Q'
theorem pe_fst (he : PE X e te) : PE X (.Subscript e (.Constant (.int 0) j p1) pos) (tFst te) := by
  constructor
  intro pins s σ H Q I h
  refine Subscript_ (thn (he.run pins s σ H _ I h) fun v s1 ⟨x, H1, I1, rx, t, q, ex, ht, hQ⟩ => wpAny_Constant_int ?_)
  subst ex
  have I2 := I1.tok (s1.toks + 1)
  exact ix_tup e (.Constant (.int 0) j p1) pins _ σ H1 (.ref t) (.int 0) v _ Q I2 rx ⟨_, rfl⟩ ⟨t, pairV q, 0, .int q.1, rfl, rfl, SqT.of ht, rfl, hQ⟩ rfl
theorem pe_snd (he : PE X e te) : PE X (.Subscript e (.Constant (.int 1) j p1) pos) (tSnd te) := by
  constructor
  intro pins s σ H Q I h
  refine Subscript_ (thn (he.run pins s σ H _ I h) fun v s1 ⟨x, H1, I1, rx, t, q, ex, ht, hQ⟩ => wpAny_Constant_int ?_)
  subst ex
  have I2 := I1.tok (s1.toks + 1)
  exact ix_tup e (.Constant (.int 1) j p1) pins _ σ H1 (.ref t) (.int 1) v _ Q I2 rx ⟨_, rfl⟩ ⟨t, pairV q, 1, oV q.2, rfl, rfl, SqT.of ht, rfl, hQ⟩ rfl
/-- a built-in class as a value -/
theorem pe_ty {x : Str} {n : String} (hm : X.mg x = none) (hv : bootBuiltins x = some (.type n)) (hg : Gl X x := by rfl) (hn : x ≠ "__name__" := by decide) (hd : (x == ("__debug__" : Str)) = false := by decide) : PE X (.Name x pos) (tC (.ty n)) :=
  pe_bltn (v := .ty n) hg hm hv rfl hn hd
/-- isinstance(e, n), n a built-in class -/
def tIsi (K : PySem.W.Frag) (n : String) (te : TE) : TE := fun σ H Q => te σ H fun x H1 => rIsi K [x, .ty n] H1 Q
theorem pe_isi {x : Str} {n : String} (fi : X.mg "isinstance" = none) (hm : X.mg x = none) (hv : bootBuiltins x = some (.type n)) (he : PE X e te) (hgi : Gl X "isinstance" := by rfl) (hg : Gl X x := by rfl) (hn : x ≠ "__name__" := by decide) (hd : (x == ("__debug__" : Str)) = false := by decide)
    (hs : starEach (e :: [.Name x p1]) X.env = (false, eval e X.env) :: starEach [.Name x p1] X.env := by rfl) (hpl : (backTo pos (starEach [.Name x p1] X.env)).any (·.1) = false := by rfl) :
    PE X (.Call (.Name "isinstance" p) [e, .Name x p1] [] pos) (tIsi X.K n te) :=
  pe_callB (p := p) (pos := pos) (call_isi (X := X)) hgi fi (by decide +kernel) (pa_cons he (pa_cons (pe_ty (pos := p1) hm hv hg hn hd) pa_nil) hs) (by decide) (by decide) hs hpl
end
section
variable {K : PySem.W.Frag} {H : Hp} {Q : VK}
theorem isi_int {i : Int} (h : Q (.bl true) H) : rIsi K [.int i, .ty "int"] H Q := ⟨_, _, _, _, true, rfl, .ty _, .base (.int i), kit_ty (by decide +kernel), h⟩
theorem isi_intbool {i : Int} (h : Q (.bl false) H) : rIsi K [.int i, .ty "bool"] H Q := ⟨_, _, _, _, false, rfl, .ty _, .base (.int i), kit_ty (by decide +kernel), h⟩
theorem isi_bool {i : Bool} (h : Q (.bl true) H) : rIsi K [.bl i, .ty "bool"] H Q := ⟨_, _, _, _, true, rfl, .ty _, .base (.bl i), kit_ty (by decide +kernel), h⟩
theorem isi_str {i : Str} (h : Q (.bl true) H) : rIsi K [.str i, .ty "str"] H Q := ⟨_, _, _, _, true, rfl, .ty _, .base (.str i), kit_ty (by decide +kernel), h⟩
theorem isi_tup {t : Addr} {xs : List V} (e : H t = some (.tup xs)) (h : Q (.bl true) H) : rIsi K [.ref t, .ty "tuple"] H Q := ⟨_, _, _, _, true, rfl, .ty _, .base (.tup e), kit_ty (by decide +kernel), h⟩
theorem isi_lst {t : Addr} {xs : List V} (e : H t = some (.lst xs)) (h : Q (.bl true) H) : rIsi K [.ref t, .ty "list"] H Q := ⟨_, _, _, _, true, rfl, .ty _, .base (.lst e), kit_ty (by decide +kernel), h⟩
end
/-! ### a def of the text keeps a positional promise -/
section
variable {P : Program} {w : World} {K : PySem.W.Frag} {mg : Str → Option Value} {base : Heap}
theorem mkR {x qual : Str} {st : Stmt} {f : Addr} {fd : FuncData} {ps : List Str} {sp : Sp} {k : Nat} (F : Fun K x qual st f fd) (G : FnOk P w K mg base CX0 k f fd ps sp)
    (hb : ∀ (kV doc pm : Value) (an : Option Addr) (cdv ct : Value) (us : List Value), us.length = ps.length → bindArgs (PySem.W.fnOf x qual (defArgs st) (defBody st) (defScope st) .none kV doc pm an cdv ct) ⟨us, []⟩ = pure (ps.zip us)) : FnR P w K mg base CX0 k f sp :=
  (G.raw (F.binds hb) .nil).imp fun vs H Q E h => by rw [List.append_nil]; exact h
end
end GF

set_option Elab.async false
set_option linter.all false
set_option maxRecDepth 100000
set_option maxHeartbeats 4000000
namespace GF
open PySem PySem.Spec PyProof.Rows L2
section
variable {P : Program} {w : World} {K : PySem.W.Frag} {mg : Str → Option Value} {base : Heap}
/-! ### is_integer, check_integer -/
def sp_is_integer : Sp := fun vs H Q _ => ∃ i lo hi : Int, vs = [.int i, .int lo, .int hi] ∧ Q (.bl (decide (lo ≤ i) && decide (i ≤ hi))) H
theorem sc_is_integer : FnScope ["thing", "least", "most"] ["thing", "least", "most"] (defScope s_is_integer) := ⟨rfl, rfl, rfl, by decide +kernel, rfl, by decide +kernel, by decide +kernel⟩
theorem p_is_integer (T : Txt K mg) : FnR P w K mg base CX0 1 (He.ga K "is_integer") sp_is_integer := by
  obtain ⟨fd, F⟩ := T.d_is_integer
  refine mkR F (F.ok sc_is_integer (fun vs H Q E h => ?_) fun cdv A outer s H vs Q E hr h => ?_) fun _ _ _ _ _ _ us hl => match us, hl with | [_, _, _], _ => rfl
  · obtain ⟨i, lo, hi, rfl, _⟩ := h
    rfl
  · obtain ⟨i, lo, hi, rfl, k⟩ := h
    refine ⟨_, pss_one (ps_ret (pe_and (pe_isi T.f_isinstance T.f_int PyProof.Rows.boot_int (pv 0)) (pe_and (pe_not (pe_isi T.f_isinstance T.f_bool PyProof.Rows.boot_bool (pv 0))) (pe_one (pe_chain op_le op_le (pv 1) (pv 0) (pv 2)))))), ?_⟩
    refine ⟨_, rfl, isi_int ⟨true, rfl, iteT ?_⟩⟩
    refine ⟨_, rfl, isi_intbool ⟨false, rfl, true, rfl, iteT ?_⟩⟩
    refine ⟨_, rfl, _, rfl, _, _, rfl, rfl, _, rfl, ?_⟩
    by_cases h1 : lo ≤ i
    · rw [decide_eq_true h1] at k
      rw [decide_eq_true h1]
      exact iteT ⟨_, rfl, _, _, rfl, rfl, k⟩
    · rw [decide_eq_false h1] at k
      rw [decide_eq_false h1]
      exact iteF k
def sp_check_integer : Sp := fun vs H Q _ => ∃ i lo hi : Int, vs = [.int i, .int lo, .int hi] ∧ lo ≤ i ∧ i ≤ hi ∧ Q .non H
theorem sc_check_integer : FnScope ["thing", "least", "most"] ["thing", "least", "most"] (defScope s_check_integer) := ⟨rfl, rfl, rfl, by decide +kernel, rfl, by decide +kernel, by decide +kernel⟩
theorem p_check_integer (T : Txt K mg) : FnR P w K mg base CX0 2 (He.ga K "check_integer") sp_check_integer := by
  obtain ⟨fd, F⟩ := T.d_check_integer
  refine mkR F (F.ok sc_check_integer (fun vs H Q E h => ?_) fun cdv A outer s H vs Q E hr h => ?_) fun _ _ _ _ _ _ us hl => match us, hl with | [_, _, _], _ => rfl
  · obtain ⟨i, lo, hi, rfl, _⟩ := h
    rfl
  · obtain ⟨i, lo, hi, rfl, h1, h2, k⟩ := h
    refine ⟨_, pss_one (ps_if (pt_not (pt_val (pe_callR (p_is_integer T) hr T.g_is_integer (kp_is_integer T) (pa_cons (pv 0) (pa_cons (pv 1) (pa_cons (pv 2) pa_nil)))))) (pss_one ps_never) pss_nil), ?_⟩
    refine ⟨_, rfl, _, rfl, _, rfl, i, lo, hi, rfl, _, rfl, ?_⟩
    rw [decide_eq_true h1, decide_eq_true h2]
    exact iteF k
/-! ### runs -/
def sp_is_run : Sp := fun vs H Q _ => ∃ (t : Addr) (p : P2), vs = [.ref t] ∧ H t = some (.tup (pairV p)) ∧ 0 ≤ p.1 ∧ p.1 ≤ 10 ^ 50 ∧ (∀ l, p.2 = some l → 1 ≤ l ∧ p.1 + l ≤ 10 ^ 50) ∧ Q (.bl true) H
theorem sc_is_run : FnScope ["thing"] ["thing"] (defScope s_is_run) := ⟨rfl, rfl, rfl, by decide +kernel, rfl, by decide +kernel, by decide +kernel⟩
theorem p_is_run (T : Txt K mg) : FnR P w K mg base CX0 2 (He.ga K "is_run") sp_is_run := by
  obtain ⟨fd, F⟩ := T.d_is_run
  refine mkR F (F.ok sc_is_run (fun vs H Q E h => ?_) fun cdv A outer s H vs Q E hr h => ?_) fun _ _ _ _ _ _ us hl => match us, hl with | [_], _ => rfl
  · obtain ⟨t, p, rfl, _⟩ := h
    rfl
  · obtain ⟨t, p, rfl, ht, h0, h1, h2, k⟩ := h
    refine ⟨_, pss_cons (ps_if (PW.pt (pw_or (pt_not (pt_val (pe_isi T.f_isinstance T.f_tuple PyProof.Rows.boot_tuple (pv 0)))) (pw_or (pt_cmpR op_ne (pe_callB call_len_seq (by rfl) T.f_len PySem.boot_len (pa_cons (pv 0) pa_nil)) pe_int (nomark _))
        (pw_or1 (pt_not (pt_val (pe_callR (p_is_integer T) hr T.g_is_integer (kp_is_integer T) (pa_cons (pe_fst (pv 0)) (pa_cons pe_int (pa_cons (pe_gint T.i_MOST_BLOCK) pa_nil))))))))))
        (pss_one (ps_ret pe_bl)) pss_nil)
      (pss_one (ps_ret (pe_or (pe_cmpR op_isN (pe_snd (pv 0)) pe_non (nomark _)) (pe_one (pe_callR (p_is_integer T) hr T.g_is_integer (kp_is_integer T) (pa_cons (pe_snd (pv 0)) (pa_cons pe_int (pa_cons (pe_op op_sub (pe_gint T.i_MOST_BLOCK) (pe_fst (pv 0))) pa_nil)))))))), ?_⟩
    refine ⟨_, rfl, isi_tup ht ⟨true, rfl, iteF ?_⟩⟩
    refine ⟨_, rfl, t, pairV p, rfl, .inr (SqT.of ht), rfl, _, rfl, iteF ?_⟩
    refine ⟨_, rfl, t, p, rfl, ht, p.1, 0, 10 ^ 50, rfl, _, rfl, ?_⟩
    rw [decide_eq_true h0, decide_eq_true h1]
    refine iteF ⟨_, rfl, t, p, rfl, ht, rfl, _, rfl, ?_⟩
    obtain ⟨a, b⟩ := p
    cases b with
    | none => exact iteT k
    | some l =>
      obtain ⟨h3, h4⟩ := h2 l rfl
      have h5 : l ≤ 10 ^ 50 - a := by
        have h4' : a + l ≤ 10 ^ 50 := h4
        omega
      refine iteF ⟨_, rfl, t, (a, some l), rfl, ht, _, rfl, t, (a, some l), rfl, ht, 10 ^ 50, a, rfl, rfl, l, 1, _, rfl, ?_⟩
      rw [decide_eq_true h3, decide_eq_true h5]
      exact k
def sp_end_of : Sp := fun vs H Q _ => ∃ (t : Addr) (p : P2), vs = [.ref t] ∧ H t = some (.tup (pairV p)) ∧ Q (oV (endOf p)) H
theorem sc_end_of : FnScope ["run", "start", "length"] ["run"] (defScope s_end_of) := ⟨rfl, rfl, rfl, by decide +kernel, rfl, by decide +kernel, by decide +kernel⟩
theorem p_end_of (T : Txt K mg) : FnR P w K mg base CX0 1 (He.ga K "end_of") sp_end_of := by
  obtain ⟨fd, F⟩ := T.d_end_of
  refine mkR F (F.ok sc_end_of (fun vs H Q E h => ?_) fun cdv A outer s H vs Q E hr h => ?_) fun _ _ _ _ _ _ us hl => match us, hl with | [_], _ => rfl
  · obtain ⟨t, p, rfl, _⟩ := h
    rfl
  · obtain ⟨t, p, rfl, ht, k⟩ := h
    have nd := sc_end_of.nd
    refine ⟨_, pss_cons (ps_asg (pv 0) (pg_tup rfl (pgs_cons (pg_name (i := 1) nd rfl (Or.inl rfl)) (pgs_cons (pg_name (i := 2) nd rfl (Or.inl rfl)) pgs_nil))))
      (pss_one (ps_ret (pe_ifExp (pt_cmpR op_isN (pv 2) pe_non (nomark _)) pe_non (pe_op op_add (pv 1) (pv 2))))), ?_⟩
    refine ⟨_, rfl, t, pairV p, rfl, SqT.of ht, rfl, _, _, rfl, _, _, rfl, rfl, ?_⟩
    obtain ⟨a, b⟩ := p
    cases b with
    | none => exact ⟨_, rfl, rfl, _, rfl, iteT k⟩
    | some l => exact ⟨_, rfl, rfl, _, rfl, iteF ⟨_, rfl, _, rfl, _, _, rfl, rfl, k⟩⟩
def sp_is_before : Sp := fun vs H Q _ => ∃ a b : Option Int, vs = [oV a, oV b] ∧ Q (.bl (before a b)) H
theorem sc_is_before : FnScope ["one", "other"] ["one", "other"] (defScope s_is_before) := ⟨rfl, rfl, rfl, by decide +kernel, rfl, by decide +kernel, by decide +kernel⟩
theorem p_is_before (T : Txt K mg) : FnR P w K mg base CX0 1 (He.ga K "is_before") sp_is_before := by
  obtain ⟨fd, F⟩ := T.d_is_before
  refine mkR F (F.ok sc_is_before (fun vs H Q E h => ?_) fun cdv A outer s H vs Q E hr h => ?_) fun _ _ _ _ _ _ us hl => match us, hl with | [_, _], _ => rfl
  · obtain ⟨a, b, rfl, _⟩ := h
    rfl
  · obtain ⟨a, b, rfl, k⟩ := h
    refine ⟨_, pss_one (ps_ret (pe_and (pe_cmpR op_notN (pv 0) pe_non (nomark _)) (pe_one (pe_or (pe_cmpR op_isN (pv 1) pe_non (nomark _)) (pe_one (pe_cmpR op_lt (pv 0) (pv 1) (nomark _))))))), ?_⟩
    cases a with
    | none => exact ⟨_, rfl, rfl, _, rfl, iteF k⟩
    | some a =>
      refine ⟨_, rfl, rfl, _, rfl, iteT ?_⟩
      cases b with
      | none => exact ⟨_, rfl, rfl, _, rfl, iteT k⟩
      | some b => exact ⟨_, rfl, rfl, _, rfl, iteF ⟨_, rfl, _, rfl, _, _, rfl, rfl, k⟩⟩
/-! ### places: is_enough, first_enough, best_enough -/
def sp_is_enough : Sp := fun vs H Q _ => ∃ (t : Addr) (p : P2) (m : Int), vs = [.ref t, .int m] ∧ H t = some (.tup (pairV p)) ∧ Q (.bl (enough p m)) H
theorem sc_is_enough : FnScope ["run", "many"] ["run", "many"] (defScope s_is_enough) := ⟨rfl, rfl, rfl, by decide +kernel, rfl, by decide +kernel, by decide +kernel⟩
theorem p_is_enough (T : Txt K mg) : FnR P w K mg base CX0 1 (He.ga K "is_enough") sp_is_enough := by
  obtain ⟨fd, F⟩ := T.d_is_enough
  refine mkR F (F.ok sc_is_enough (fun vs H Q E h => ?_) fun cdv A outer s H vs Q E hr h => ?_) fun _ _ _ _ _ _ us hl => match us, hl with | [_, _], _ => rfl
  · obtain ⟨t, p, m, rfl, _⟩ := h
    rfl
  · obtain ⟨t, p, m, rfl, ht, k⟩ := h
    refine ⟨_, pss_one (ps_ret (pe_or (pe_cmpR op_isN (pe_snd (pv 0)) pe_non (nomark _)) (pe_one (pe_cmpR op_ge (pe_snd (pv 0)) (pv 1) (nomark _))))), ?_⟩
    obtain ⟨a, b⟩ := p
    refine ⟨_, rfl, t, (a, b), rfl, ht, rfl, _, rfl, ?_⟩
    cases b with
    | none => exact iteT k
    | some l => exact iteF ⟨_, rfl, t, (a, some l), rfl, ht, _, rfl, _, _, rfl, rfl, k⟩
def sp_first_enough : Sp := fun vs H Q _ => ∃ (l : Addr) (ps : List P2) (m : Int), vs = [.ref l, .int m] ∧ PL H l ps ∧ Q (oV (firstM ps m)) H
theorem sc_first_enough : FnScope ["runs", "many", "run"] ["runs", "many"] (defScope s_first_enough) := ⟨rfl, rfl, rfl, by decide +kernel, rfl, by decide +kernel, by decide +kernel⟩
theorem find_take {α : Type} {f : α → Bool} {l : List α} {i : Nat} {x : α} (hx : l[i]? = some x) (h : (l.take i).find? f = none) : (f x = true → l.find? f = some x) ∧ (f x = false → (l.take (i + 1)).find? f = none) := by
  have hi : i < l.length := (List.getElem?_eq_some_iff.mp hx).1
  have e1 : l.take (i + 1) = l.take i ++ [x] := by rw [List.take_add_one, hx]; rfl
  have e2 : l = l.take i ++ (x :: l.drop (i + 1)) := by
    have e3 : l[i] = x := (List.getElem?_eq_some_iff.mp hx).2
    rw [← e3, List.getElem_cons_drop, List.take_append_drop]
  constructor
  · intro hf
    rw [e2, List.find?_append, h]
    simp [hf]
  · intro hf
    rw [e1, List.find?_append, h]
    simp [hf]
theorem p_first_enough (T : Txt K mg) : FnR P w K mg base CX0 2 (He.ga K "first_enough") sp_first_enough := by
  obtain ⟨fd, F⟩ := T.d_first_enough
  refine mkR F (F.ok sc_first_enough (fun vs H Q E h => ?_) fun cdv A outer s H vs Q E hr h => ?_) fun _ _ _ _ _ _ us hl => match us, hl with | [_, _], _ => rfl
  · obtain ⟨l, ps, m, rfl, _⟩ := h
    rfl
  · obtain ⟨l, ps, m, rfl, hp, k⟩ := h
    have nd := sc_first_enough.nd
    obtain ⟨ts, hl, ht⟩ := hp
    refine ⟨_, pss_cons (ps_for PassesOwn.never rfl (pi_list (pv 0)) (pg_name (i := 2) nd rfl (Or.inl rfl))
      (pss_one (ps_if (pt_val (pe_callR (p_is_enough T) hr T.g_is_enough (kp_is_enough T) (pa_cons (pv 2) (pa_cons (pv 1) pa_nil)))) (pss_one (ps_ret (pe_fst (pv 2)))) pss_nil)))
      (pss_one (ps_ret pe_non)), ?_⟩
    refine ⟨_, rfl, l, rfl, ⟨_, SqL.of hl⟩, for_list (K := K) (a := l) (xs := ts.map V.ref) (fun i σ H' => ∃ v : Option V, σ = [some (.ref l), some (.int m), v] ∧ H' = H ∧ (ps.take i).find? (fun r => enough r m) = none)
      ⟨none, rfl, rfl, rfl⟩ (fun i σ H' _ ⟨_, _, e, _⟩ => by rw [e]; exact SqL.of hl) ?_ ?_⟩
    · rintro i y σ H' hy ⟨v, rfl, rfl, hn⟩
      rw [List.getElem?_map] at hy
      cases et : ts[i]? with
      | none => rw [et] at hy; cases hy
      | some t =>
        rw [et] at hy
        cases hy
        obtain ⟨p, hp1, hp2⟩ := ht.at' et
        obtain ⟨f1, f2⟩ := find_take hp1 hn
        refine ⟨_, rfl, _, rfl, t, p, m, rfl, hp2, _, rfl, ?_⟩
        cases eb : enough p m with
        | true =>
          refine iteT ⟨_, rfl, t, p, rfl, hp2, ?_⟩
          have e : firstM ps m = some p.1 := by unfold firstM; rw [f1 eb]; rfl
          rw [e] at k
          exact k
        | false => exact iteF ⟨_, rfl, rfl, f2 eb⟩
    · rintro σ H' ⟨v, rfl, rfl, hn⟩
      rw [List.length_map, ht.length, List.take_length] at hn
      have e : firstM ps m = none := by unfold firstM; rw [hn]; rfl
      rw [e] at k
      exact k
end
end GF

set_option Elab.async false
set_option linter.all false
set_option maxRecDepth 100000
set_option maxHeartbeats 4000000
namespace GF
open PySem PySem.Spec PyProof.Rows L2
/-! ### a list of pairs that grows -/
structure Grw (H : Hp) (L : Addr) (H' : Hp) (ts : List Addr) (ps : List P2) : Prop where
  same : Same H H'
  new : H L = none
  ob : H' L = some (.lst (ts.map V.ref))
  tups : TupsAt H' ts ps
theorem Grw.start {H : Hp} {L : Addr} (h : H L = none) : Grw H L (upd H L (.lst [])) [] [] := ⟨Same.upd_new h, h, upd_same, .nil⟩
/-- a write to the new list leaves the rest -/
theorem Grw.wr {H H' : Hp} {L : Addr} {ts : List Addr} {ps : List P2} (g : Grw H L H' ts ps) (o : HO) : Same H (upd H' L o) := fun b u e => by
  rw [upd_ne (ne_of_none e g.new)]
  exact g.same b u e
theorem tup_upd {H' : Hp} {L : Addr} {xs : List V} (h : H' L = some (.lst xs)) (o : HO) : ∀ b ys, H' b = some (.tup ys) → (upd H' L o) b = some (.tup ys) := fun b ys e => by
  have n : b ≠ L := ne_of e h (fun z => nomatch z)
  rw [upd_ne n]
  exact e
theorem Grw.laid {H H' : Hp} {L t : Addr} {ts : List Addr} {ps : List P2} {o : HO} (g : Grw H L H' ts ps) (ht : H' t = none) : Grw H L (upd H' t o) ts ps :=
  ⟨g.same.trans (Same.upd_new ht), g.new, Same.upd_new ht _ _ g.ob, g.tups.ext fun b xs e => Same.upd_new ht _ _ e⟩
theorem Grw.push {H H' : Hp} {L t : Addr} {ts : List Addr} {ps : List P2} {p : P2} (g : Grw H L H' ts ps) (ht : H' t = some (.tup (pairV p))) : Grw H L (upd H' L (.lst (ts.map V.ref ++ [V.ref t]))) (ts ++ [t]) (ps ++ [p]) :=
  ⟨g.wr _, g.new, by rw [upd_same, List.map_append]; rfl, (g.tups.snoc ht).ext (tup_upd g.ob _)⟩
theorem Grw.put {H H' : Hp} {L t : Addr} {ts : List Addr} {ps : List P2} {p : P2} (i : Nat) (g : Grw H L H' ts ps) (ht : H' t = some (.tup (pairV p))) : Grw H L (upd H' L (.lst ((ts.map V.ref).set i (V.ref t)))) (ts.set i t) (ps.set i p) :=
  ⟨g.wr _, g.new, by rw [upd_same, List.map_set], (g.tups.set ht i).ext (tup_upd g.ob _)⟩
theorem Grw.pl {H H' : Hp} {L : Addr} {ts : List Addr} {ps : List P2} (g : Grw H L H' ts ps) : PL H' L ps := ⟨ts, g.ob, g.tups⟩
theorem big1 {n : Nat} (h : n ≤ 10000000) : n < sizeLine := Nat.lt_of_le_of_lt h (by decide)
theorem take_snoc {α : Type} {l : List α} {i : Nat} {x : α} (h : l[i]? = some x) : l.take (i + 1) = l.take i ++ [x] := by rw [List.take_add_one, h]; rfl
section
variable {P : Program} {w : World} {K : PySem.W.Frag} {mg : Str → Option Value} {base : Heap}
/-! ### others -/
def sp_others : Sp := fun vs H Q _ => ∃ (l : Addr) (ps : List P2), vs = [.ref l] ∧ PL H l ps ∧ ps.length ≤ 1000 ∧ ∀ (H' : Hp) (q : Addr), Same H H' → H q = none → PL H' q (othersM ps) → Q (.ref q) H'
theorem sc_others : FnScope ["pairs", "found", "at", "start", "end"] ["pairs"] (defScope s_others) := ⟨rfl, rfl, rfl, by decide +kernel, rfl, by decide +kernel, by decide +kernel⟩
theorem others_len (ps : List P2) : ∀ st : List P2 × Option Int, (ps.foldl othersStep st).1.length ≤ st.1.length + ps.length := by
  induction ps with
  | nil => intro st; exact Nat.le_refl _
  | cons p r ih =>
    intro st
    have h := ih (othersStep st p)
    have h2 : (othersStep st p).1.length ≤ st.1.length + 1 := by
      unfold othersStep
      cases st.2 with
      | none => exact Nat.le_succ _
      | some a =>
        show (if a < p.1 then st.1 ++ [(a, some p.1)] else st.1).length ≤ _
        split
        · rw [List.length_append]; exact Nat.le_refl _
        · exact Nat.le_succ _
    rw [List.foldl_cons, List.length_cons]
    omega
theorem p_others (T : Txt K mg) : FnR P w K mg base CX0 1 (He.ga K "others") sp_others := by
  obtain ⟨fd, F⟩ := T.d_others
  refine mkR F (F.ok sc_others (fun vs H Q E h => ?_) fun cdv A outer s H vs Q E hr h => ?_) fun _ _ _ _ _ _ us hl => match us, hl with | [_], _ => rfl
  · obtain ⟨l, ps, rfl, _⟩ := h
    rfl
  · obtain ⟨l, ps, rfl, hp, hn, k⟩ := h
    have nd := sc_others.nd
    obtain ⟨ts, hl, ht⟩ := hp
    refine ⟨_, pss_cons (ps_set (i := 1) nd rfl (Or.inl rfl) (pe_lst pa_nil))
      (pss_cons (ps_set (i := 2) nd rfl (Or.inl rfl) pe_int)
      (pss_cons (ps_for PassesOwn.never rfl (pi_list (pv 0)) (pg_tup rfl (pgs_cons (pg_name (i := 3) nd rfl (Or.inl rfl)) (pgs_cons (pg_name (i := 4) nd rfl (Or.inl rfl)) pgs_nil)))
        (pss_cons (ps_if (PW.pt (pw_and (pt_cmpR op_notN (pv 2) pe_non (nomark _)) (pw_and1 (pt_cmpR op_lt (pv 2) (pv 3) (nomark _)))))
          (pss_one (ps_expr (pe_bm PySem.F.plainAttrs_list PySem.F.slot_list_append PySem.F.type_list_append mt_append (pv 1) (pa_cons (pe_tup (pa_cons (pv 2) (pa_cons (pv 3) pa_nil))) pa_nil))))
          pss_nil)
        (pss_one (ps_set (i := 2) nd rfl (Or.inl rfl) (pv 4)))))
      (pss_cons (ps_if (pt_cmpR op_notN (pv 2) pe_non (nomark _))
        (pss_one (ps_expr (pe_bm PySem.F.plainAttrs_list PySem.F.slot_list_append PySem.F.type_list_append mt_append (pv 1) (pa_cons (pe_tup (pa_cons (pv 2) (pa_cons pe_non pa_nil))) pa_nil))))
        pss_nil)
      (pss_one (ps_ret (pv 1)))))), ?_⟩
    refine ⟨Nat.zero_le _, fun L hL => ?_⟩
    have hlL : ∀ o, upd H L o l = some (.lst (ts.map V.ref)) := fun o => by rw [upd_ne (ne_of_none hl hL)]; exact hl
    refine ⟨_, rfl, l, rfl, ⟨_, SqL.of (hlL _)⟩, for_list (K := K) (a := l) (xs := ts.map V.ref) (fun i σ H' => ∃ (us : List Addr) (v3 v4 : Option V), σ = [some (.ref l), some (.ref L), some (oV ((ps.take i).foldl othersStep ([], some 0)).2), v3, v4] ∧
        Grw H L H' us ((ps.take i).foldl othersStep ([], some 0)).1)
      ⟨[], none, none, rfl, Grw.start hL⟩ (fun i σ H' _ ⟨_, _, _, _, g⟩ => SqL.of (g.same _ _ hl)) ?_ ?_⟩
    · rintro i y σ H' hy ⟨us, v3, v4, rfl, g⟩
      rw [List.getElem?_map] at hy
      cases et : ts[i]? with
      | none => rw [et] at hy; cases hy
      | some t =>
        rw [et] at hy
        cases hy
        obtain ⟨p, hp1, hp2⟩ := ht.at' et
        have hp3 := g.same _ _ hp2
        have hlen : us.length ≤ 1000 := by
          rw [g.tups.length]
          have := others_len (ps.take i) ([], some 0)
          rw [List.length_take] at this
          simp only [List.length_nil] at this
          omega
        refine ⟨t, pairV p, rfl, SqT.of hp3, rfl, _, _, rfl, _, _, rfl, rfl, ?_⟩
        rw [take_snoc hp1, List.foldl_append]
        generalize (ps.take i).foldl othersStep ([], some 0) = st at g ⊢
        obtain ⟨fo, a⟩ := st
        cases a with
        | none => exact ⟨_, rfl, rfl, _, rfl, iteF ⟨_, rfl, us, _, _, rfl, g⟩⟩
        | some a =>
          refine ⟨_, rfl, rfl, _, rfl, iteT ⟨_, rfl, _, rfl, _, _, rfl, rfl, _, rfl, ?_⟩⟩
          show if decide (a < p.1) = true then _ else _
          by_cases h : a < p.1
          · rw [decide_eq_true h]
            refine iteT ⟨_, rfl, .inl ⟨rfl, _, SqL.of g.ob⟩, _, rfl, _, rfl, (by show 2 ≤ sizeLine; decide), fun t2 ht2 => ?_⟩
            have g2 := g.laid (o := .tup [V.int a, V.int p.1]) ht2
            refine ⟨L, _, _, rfl, rfl, g2.ob, by rw [List.length_map]; exact big1 (by omega), ?_⟩
            have e1 : (othersStep (fo, some a) p).1 = fo ++ [(a, some p.1)] := if_pos h
            exact ⟨_, rfl, us ++ [t2], _, _, rfl, by rw [List.foldl_cons, List.foldl_nil, e1]; exact g2.push (p := (a, some p.1)) upd_same⟩
          · rw [decide_eq_false h]
            have e1 : (othersStep (fo, some a) p).1 = fo := if_neg h
            exact iteF ⟨_, rfl, us, _, _, rfl, by rw [List.foldl_cons, List.foldl_nil, e1]; exact g⟩
    · rintro σ H' ⟨us, v3, v4, rfl, g⟩
      rw [List.length_map, ht.length, List.take_length] at g ⊢
      have hlen : us.length ≤ 1000 := by
        rw [g.tups.length]
        have := others_len ps ([], some 0)
        simp only [List.length_nil] at this
        omega
      unfold othersM at k
      generalize ps.foldl othersStep ([], some 0) = st at g k ⊢
      obtain ⟨fo, a⟩ := st
      cases a with
      | none => exact ⟨_, rfl, rfl, _, rfl, iteF ⟨_, rfl, k _ L g.same hL g.pl⟩⟩
      | some a =>
        refine ⟨_, rfl, rfl, _, rfl, iteT ⟨_, rfl, .inl ⟨rfl, _, SqL.of g.ob⟩, _, rfl, (by show 2 ≤ sizeLine; decide), fun t2 ht2 => ?_⟩⟩
        have g2 := g.laid (o := .tup [V.int a, V.non]) ht2
        refine ⟨L, _, _, rfl, rfl, g2.ob, by rw [List.length_map]; exact big1 (by omega), ?_⟩
        have g3 := g2.push (p := (a, none)) upd_same
        exact ⟨_, rfl, k _ L g3.same hL g3.pl⟩
end
end GF

set_option Elab.async false
set_option linter.all false
set_option maxRecDepth 100000
set_option maxHeartbeats 4000000
namespace GF
open PySem PySem.Spec PyProof.Rows L2
section
variable {P : Program} {w : World} {K : PySem.W.Frag} {mg : Str → Option Value} {base : Heap}
/-- the i-th item of a list of pairs -/
theorem pl_item {H : Hp} {ts : List Addr} {ps : List P2} {i : Nat} {y : V} (ht : TupsAt H ts ps) (hy : (ts.map V.ref)[i]? = some y) : ∃ t p, y = .ref t ∧ ps[i]? = some p ∧ H t = some (.tup (pairV p)) := by
  rw [List.getElem?_map] at hy
  cases et : ts[i]? with
  | none => rw [et] at hy; cases hy
  | some t =>
    rw [et] at hy
    cases hy
    obtain ⟨p, hp1, hp2⟩ := ht.at' et
    exact ⟨t, p, rfl, hp1, hp2⟩
/-! ### runs_of -/
def sp_runs_of : Sp := fun vs H Q _ => ∃ (l : Addr) (ps : List P2), vs = [.ref l] ∧ PL H l ps ∧ ps.length ≤ 1000000 ∧ ∀ (H' : Hp) (q : Addr), Same H H' → H q = none → PL H' q (runsM ps) → Q (.ref q) H'
theorem sc_runs_of : FnScope ["pairs", "start", "end"] ["pairs"] (defScope s_runs_of) := ⟨rfl, rfl, rfl, by decide +kernel, rfl, by decide +kernel, by decide +kernel⟩
theorem p_runs_of (T : Txt K mg) : FnR P w K mg base CX0 1 (He.ga K "runs_of") sp_runs_of := by
  obtain ⟨fd, F⟩ := T.d_runs_of
  refine mkR F (F.ok sc_runs_of (fun vs H Q E h => ?_) fun cdv A outer s H vs Q E hr h => ?_) fun _ _ _ _ _ _ us hl => match us, hl with | [_], _ => rfl
  · obtain ⟨l, ps, rfl, _⟩ := h
    rfl
  · obtain ⟨l, ps, rfl, hp, hn, k⟩ := h
    have nd := sc_runs_of.nd
    obtain ⟨ts, hl, ht⟩ := hp
    refine ⟨_, pss_one (ps_ret (pe_lc (own := [(Str.ofString "start", 1), (Str.ofString "end", 2)]) (g := gTup K 2 (gCons (gName 1) (gCons (gName 2) gNil))) (tt := tYes) rfl nd (pi_list (pv 0))
      (blkOk_by (N := ["pairs", "start", "end"]) (sc := defScope s_runs_of) (by decide +kernel)) (fun _ _ _ _ _ => pg_tup rfl (pgs_cons (pg_name (i := 1) nd rfl (Or.inl rfl)) (pgs_cons (pg_name (i := 2) nd rfl (Or.inl rfl)) pgs_nil)))
      (fun _ _ _ _ _ => pts_nil) (fun _ _ _ _ _ => pe_tup (pa_cons (pv 1) (pa_cons (pe_ifExp (pt_cmpR op_isN (pv 2) pe_non (nomark _)) pe_non (pe_op op_sub (pv 2) (pv 1))) pa_nil))))), ?_⟩
    refine ⟨_, rfl, l, rfl, ⟨_, SqL.of hl⟩, fun D hD => ?_⟩
    refine lc_list (K := K) (a := l) (xs := ts.map V.ref) (fun i H' => ∃ us : List Addr, Grw H D H' us (runsM (ps.take i))) ⟨[], Grw.start hD⟩ (fun i H' _ ⟨_, g⟩ => SqL.of (g.same _ _ hl)) ?_ ?_
    · rintro i y H' hy ⟨us, g⟩
      obtain ⟨t, p, rfl, hp1, hp2⟩ := pl_item ht hy
      have hlen : us.length ≤ 1000000 := by
        rw [g.tups.length, runsM, List.length_map, List.length_take]
        omega
      have e1 : runsM (ps.take (i + 1)) = runsM (ps.take i) ++ [runOf p] := by rw [take_snoc hp1, runsM, List.map_append]; rfl
      refine ⟨t, pairV p, rfl, SqT.of (g.same _ _ hp2), rfl, _, _, rfl, _, _, rfl, rfl, rfl, ?_⟩
      obtain ⟨a, b⟩ := p
      cases b with
      | none =>
        refine ⟨_, rfl, _, rfl, rfl, _, rfl, iteT ⟨(by show 2 ≤ sizeLine; decide), fun t2 ht2 => ?_⟩⟩
        have g2 := g.laid (o := .tup [V.int a, V.non]) ht2
        refine ⟨_, g2.ob, by rw [List.length_map]; exact big1 (by omega), us ++ [t2], ?_⟩
        rw [e1]
        exact g2.push upd_same
      | some b =>
        refine ⟨_, rfl, _, rfl, rfl, _, rfl, iteF ⟨_, rfl, _, rfl, _, _, rfl, rfl, (by show 2 ≤ sizeLine; decide), fun t2 ht2 => ?_⟩⟩
        have g2 := g.laid (o := .tup [V.int a, V.int (b - a)]) ht2
        refine ⟨_, g2.ob, by rw [List.length_map]; exact big1 (by omega), us ++ [t2], ?_⟩
        rw [e1]
        exact g2.push upd_same
    · rintro H' ⟨us, g⟩
      rw [List.length_map, ht.length, List.take_length] at g
      exact k H' D g.same hD g.pl
/-! ### shared -/
def sp_shared : Sp := fun vs H Q _ => ∃ (l m : Addr) (ps qs : List P2), vs = [.ref l, .ref m] ∧ PL H l ps ∧ PL H m qs ∧ ps.length ≤ 1000 ∧ qs.length ≤ 1000 ∧ ∀ (H' : Hp) (q : Addr), Same H H' → H q = none → PL H' q (sharedM ps qs) → Q (.ref q) H'
theorem sc_shared : FnScope ["ours", "theirs", "found", "start", "end", "other", "last", "first"] ["ours", "theirs"] (defScope s_shared) := ⟨rfl, rfl, rfl, by decide +kernel, rfl, by decide +kernel, by decide +kernel⟩
theorem meets_len (o : P2) (ts : List P2) : (meets o ts).length ≤ ts.length := by
  unfold meets
  rw [List.length_map]
  exact List.length_filter_le _ _
theorem shared_len (ts : List P2) : ∀ os : List P2, (sharedM os ts).length ≤ os.length * ts.length
  | [] => by simp [sharedM]
  | o :: os => by
    have h := shared_len ts os
    have h2 := meets_len o ts
    unfold sharedM at h ⊢
    rw [List.flatMap_cons, List.length_append, List.length_cons, Nat.succ_mul]
    omega
theorem meets_snoc (o : P2) (ts : List P2) (t : P2) : meets o (ts ++ [t]) = meets o ts ++ (if meetB o t = true then [meetP o t] else []) := by
  unfold meets
  rw [List.filter_append, List.map_append]
  congr 1
  by_cases h : meetB o t = true
  · rw [if_pos h, List.filter_cons, if_pos h]
    rfl
  · rw [if_neg h, List.filter_cons, if_neg h]
    rfl
theorem pick_len {n m i : Nat} (hn : n ≤ 1000) (hm : m ≤ 1000) (hi : i ≤ n) : i * m + m ≤ 2000000 := by
  have h1 : i * m ≤ 1000 * 1000 := Nat.mul_le_mul (Nat.le_trans hi hn) hm
  omega
theorem p_shared (T : Txt K mg) : FnR P w K mg base CX0 2 (He.ga K "shared") sp_shared := by
  obtain ⟨fd, F⟩ := T.d_shared
  refine mkR F (F.ok sc_shared (fun vs H Q E h => ?_) fun cdv A outer s H vs Q E hr h => ?_) fun _ _ _ _ _ _ us hl => match us, hl with | [_, _], _ => rfl
  · obtain ⟨l, m, ps, qs, rfl, _⟩ := h
    rfl
  · obtain ⟨l, m, ps, qs, rfl, hp, hq, hn, hm, k⟩ := h
    have nd := sc_shared.nd
    obtain ⟨ts, hl, ht⟩ := hp
    obtain ⟨us, hml, hu⟩ := hq
    refine ⟨_, pss_cons (ps_set (i := 2) nd rfl (Or.inl rfl) (pe_lst pa_nil))
      (pss_cons (ps_for PassesOwn.never rfl (pi_list (pv 0)) (pg_tup rfl (pgs_cons (pg_name (i := 3) nd rfl (Or.inl rfl)) (pgs_cons (pg_name (i := 4) nd rfl (Or.inl rfl)) pgs_nil)))
        (pss_one (ps_for PassesOwn.never rfl (pi_list (pv 1)) (pg_tup rfl (pgs_cons (pg_name (i := 5) nd rfl (Or.inl rfl)) (pgs_cons (pg_name (i := 6) nd rfl (Or.inl rfl)) pgs_nil)))
          (pss_cons (ps_set (i := 7) nd rfl (Or.inl rfl) (pe_ifExp (pt_cmpR op_lt (pv 3) (pv 5) (nomark _)) (pv 5) (pv 3)))
          (pss_one (ps_if (PW.pt (pw_and (pt_val (pe_callR (p_is_before T) hr T.g_is_before (kp_is_before T) (pa_cons (pv 7) (pa_cons (pv 4) pa_nil)))) (pw_and1 (pt_val (pe_callR (p_is_before T) hr T.g_is_before (kp_is_before T) (pa_cons (pv 7) (pa_cons (pv 6) pa_nil)))))))
            (pss_one (ps_expr (pe_bm PySem.F.plainAttrs_list PySem.F.slot_list_append PySem.F.type_list_append mt_append (pv 2) (pa_cons (pe_tup (pa_cons (pv 7)
              (pa_cons (pe_ifExp (pt_val (pe_callR (p_is_before T) hr T.g_is_before (kp_is_before T) (pa_cons (pv 4) (pa_cons (pv 6) pa_nil)))) (pv 4) (pv 6)) pa_nil))) pa_nil))))
            pss_nil))))))
      (pss_one (ps_ret (pv 2)))), ?_⟩
    refine ⟨Nat.zero_le _, fun L hL => ?_⟩
    have g0 : Grw H L (upd H L (.lst [])) [] [] := Grw.start hL
    refine ⟨_, rfl, l, rfl, ⟨_, SqL.of (g0.same _ _ hl)⟩, for_list (K := K) (a := l) (xs := ts.map V.ref) (fun i σ H' => ∃ (vs : List Addr) (v3 v4 v5 v6 v7 : Option V), σ = [some (.ref l), some (.ref m), some (.ref L), v3, v4, v5, v6, v7] ∧
        Grw H L H' vs (sharedM (ps.take i) qs))
      ⟨[], none, none, none, none, none, rfl, g0⟩ (fun i σ H' _ ⟨_, _, _, _, _, _, _, g⟩ => SqL.of (g.same _ _ hl)) ?_ ?_⟩
    · rintro i y σ H' hy ⟨vs, v3, v4, v5, v6, v7, rfl, g⟩
      obtain ⟨t, p, rfl, hp1, hp2⟩ := pl_item ht hy
      have hi : i ≤ ps.length := Nat.le_of_lt (List.getElem?_eq_some_iff.mp hp1).1
      have e1 : sharedM (ps.take (i + 1)) qs = sharedM (ps.take i) qs ++ meets p qs := by rw [take_snoc hp1, sharedM, sharedM, List.flatMap_append]; simp
      refine ⟨t, pairV p, rfl, SqT.of (g.same _ _ hp2), rfl, _, _, rfl, _, _, rfl, rfl, ?_⟩
      refine ⟨_, rfl, m, rfl, ⟨_, SqL.of (g.same _ _ hml)⟩, for_list (K := K) (a := m) (xs := us.map V.ref) (fun j σ H' => ∃ (vs : List Addr) (v5 v6 v7 : Option V), σ = [some (.ref l), some (.ref m), some (.ref L), some (.int p.1), some (oV p.2), v5, v6, v7] ∧
          Grw H L H' vs (sharedM (ps.take i) qs ++ meets p (qs.take j)))
        ⟨vs, v5, v6, v7, rfl, by simpa [meets] using g⟩ (fun i σ H' _ ⟨_, _, _, _, _, g⟩ => SqL.of (g.same _ _ hml)) ?_ ?_⟩
      · clear g
        rintro j y σ H' hy ⟨vs, v5, v6, v7, rfl, g⟩
        obtain ⟨t2, q, rfl, hq1, hq2⟩ := pl_item hu hy
        have hlen : vs.length ≤ 2000000 := by
          rw [g.tups.length, List.length_append]
          have h1 := shared_len qs (ps.take i)
          have h2 := meets_len p (qs.take j)
          rw [List.length_take, Nat.min_eq_left hi] at h1
          rw [List.length_take] at h2
          have h3 := pick_len hn hm hi
          omega
        have e2 := meets_snoc p (qs.take j) q
        rw [← take_snoc hq1] at e2
        refine ⟨t2, pairV q, rfl, SqT.of (g.same _ _ hq2), rfl, _, _, rfl, _, _, rfl, rfl, ?_⟩
        refine ⟨_, rfl, _, rfl, _, _, rfl, rfl, _, rfl, ?_⟩
        show if decide (p.1 < q.1) = true then _ else _
        by_cases h : p.1 < q.1
        case' pos =>
          have e : meetS p q = q.1 := if_pos h
          rw [decide_eq_true h]
          refine iteT ⟨_, rfl, ?_⟩
        case' neg =>
          have e : meetS p q = p.1 := if_neg h
          rw [decide_eq_false h]
          refine iteF ⟨_, rfl, ?_⟩
        all_goals
          refine ⟨_, rfl, _, rfl, some _, p.2, rfl, _, rfl, ?_⟩
          cases b1 : before (some (meetS p q)) p.2 with
          | false =>
            have eb : meetB p q = false := by unfold meetB; rw [b1]; rfl
            rw [eb, if_neg Bool.false_ne_true, List.append_nil] at e2
            rw [e] at b1
            dsimp only
            rw [b1]
            refine iteF ?_
            refine iteF ?_
            exact ⟨vs, _, _, _, rfl, by rw [e2]; exact g⟩
          | true =>
            rw [show before (some (meetS p q)) p.2 = _ from congrArg (fun z => before (some z) p.2) e] at b1
            dsimp only
            rw [b1]
            refine iteT ⟨_, rfl, _, rfl, some _, q.2, rfl, _, rfl, ?_⟩
            cases b2 : before (some (meetS p q)) q.2 with
            | false =>
              have eb : meetB p q = false := by unfold meetB; rw [b2, Bool.and_false]
              rw [eb, if_neg Bool.false_ne_true, List.append_nil] at e2
              rw [e] at b2
              skip
              rw [b2]
              refine iteF ?_
              exact ⟨vs, _, _, _, rfl, by rw [e2]; exact g⟩
            | true =>
              have eb : meetB p q = true := by unfold meetB; rw [b2, e, b1]; rfl
              rw [eb, if_pos rfl] at e2
              rw [e] at b2
              skip
              rw [b2]
              refine iteT ?_
              refine ⟨_, rfl, .inl ⟨rfl, _, SqL.of g.ob⟩, _, rfl, _, rfl, _, rfl, p.2, q.2, rfl, _, rfl, ?_⟩
              have e3 : meetP p q = (meetS p q, if before p.2 q.2 = true then p.2 else q.2) := rfl
              cases b3 : before p.2 q.2 with
              | true =>
                rw [e, b3, if_pos rfl] at e3
                refine iteT ⟨_, rfl, (by show 2 ≤ sizeLine; decide), fun t3 ht3 => ?_⟩
                have g2 := g.laid (o := .tup (pairV (meetP p q))) ht3
                have g3 := g2.push (p := meetP p q) upd_same
                rw [List.append_assoc, ← e2] at g3
                rw [e3] at g2 g3
                exact ⟨L, _, _, rfl, rfl, g2.ob, by rw [List.length_map]; exact big1 (by omega), vs ++ [t3], _, _, _, rfl, g3⟩
              | false =>
                rw [e, b3, if_neg Bool.false_ne_true] at e3
                refine iteF ⟨_, rfl, (by show 2 ≤ sizeLine; decide), fun t3 ht3 => ?_⟩
                have g2 := g.laid (o := .tup (pairV (meetP p q))) ht3
                have g3 := g2.push (p := meetP p q) upd_same
                rw [List.append_assoc, ← e2] at g3
                rw [e3] at g2 g3
                exact ⟨L, _, _, rfl, rfl, g2.ob, by rw [List.length_map]; exact big1 (by omega), vs ++ [t3], _, _, _, rfl, g3⟩
      · rintro σ H' ⟨vs, v5, v6, v7, rfl, g⟩
        rw [List.length_map, hu.length, List.take_length, ← e1] at g
        exact ⟨vs, _, _, _, _, _, rfl, g⟩
    · rintro σ H' ⟨vs, v3, v4, v5, v6, v7, rfl, g⟩
      rw [List.length_map, ht.length, List.take_length] at g
      exact ⟨_, rfl, k H' L g.same hL g.pl⟩
end
end GF

set_option Elab.async false
set_option linter.all false
set_option maxRecDepth 100000
set_option maxHeartbeats 4000000
namespace GF
open PySem PySem.Spec PyProof.Rows L2
/-! ### the last item -/
theorem ixN_last {n : Nat} (h : 0 < n) : ixN n (-1) = some (n - 1) := by
  unfold ixN
  rw [if_neg (by decide), if_pos (by omega)]
  congr 1
  omega
theorem at_last {α : Type} {xs : List α} {y : α} (h : xs[xs.length - 1]? = some y) : atI xs (-1) = some y := by
  have hn : 0 < xs.length := by
    have := (List.getElem?_eq_some_iff.mp h).1
    omega
  unfold atI
  rw [ixN_last hn]
  exact h
section
variable {X : Cx} {e : Expr} {te : TE} {pos p1 p2 : Pos} {j : Nat}
def tLast (te : TE) : TE := fun σ H Q => te σ H fun x H1 => ∃ (l : Addr) (xs : List V) (y : V), x = .ref l ∧ H1 l = some (.lst xs) ∧ xs[xs.length - 1]? = some y ∧ Q y H1
theorem pe_last (he : PE X e te) : PE X (.Subscript e (.UnaryOp .USub (.Constant (.int 1) j p1) p2) pos) (tLast te) := by
  constructor
  intro pins s σ H Q I h
  refine Subscript_ (thn (he.run pins s σ H _ I h) fun v s1 ⟨x, H1, I1, rx, l, xs, y, ex, hl, hy, hQ⟩ => ?_)
  refine thn ((pe_un (X := X) (a := .Constant (.int 1) j p1) (pos := p2) un_neg pe_int).run pins s1 σ H1 (fun z H2 => z = .int (-1) ∧ H2 = H1) I1 ⟨1, rfl, rfl, rfl⟩) fun u s2 ⟨z, H2, I2, rz, ez, eH⟩ => ?_
  subst ex ez eH
  exact ix_list e (.UnaryOp .USub (.Constant (.int 1) j p1) p2) pins s2 σ _ (.ref l) (.int (-1)) v u Q I2 rx rz ⟨l, xs, -1, y, rfl, rfl, SqL.of hl, at_last hy, hQ⟩ rfl
end
section
variable {P : Program} {w : World} {K : PySem.W.Frag} {mg : Str → Option Value} {base : Heap}
/-! ### joined -/
def jC (K : PySem.W.Frag) : Addr := He.codeOf K ("joined", none)
def jP (K : PySem.W.Frag) : Addr := He.tabOf K (jC K)
def jQ : Str := (envOfC (Str.ofString "joined") (defScope s_joined) 0 0 .none).qual ++ Str.ofString "<lambda>"
abbrev Tab (K : PySem.W.Frag) (H : Hp) : Prop := LamX.TabS H (jP K) jQ
theorem tab_but {H H' : Hp} {P : Addr} {q : Str} {N : Addr → Prop} (t : LamX.TabS H P q) (e : ∀ b o, H b = some o → ¬ N b → H' b = some o) (n : ∀ b, N b → ∃ o, H b = some o ∧ (∀ ps, o ≠ .tbl ps) ∧ ∀ φ, o ≠ .ext φ) : LamX.TabS H' P q := by
  obtain ⟨ps, h1, h2, h3⟩ := t
  refine ⟨ps, e _ _ h1 (fun z => ?_), h2, fun pos cv hc => ?_⟩
  · obtain ⟨o, e1, e2, _⟩ := n _ z
    rw [h1] at e1
    exact e2 ps (Option.some.inj e1).symm
  · obtain ⟨c, e1, e2⟩ := h3 pos cv hc
    refine ⟨c, e1, e _ _ e2 fun z => ?_⟩
    obtain ⟨o, e3, _, e4⟩ := n _ z
    rw [e2] at e3
    exact e4 _ (Option.some.inj e3).symm
def sp_joined (K : PySem.W.Frag) : Sp := fun vs H Q _ => ∃ (l : Addr) (ps : List P2), vs = [.ref l] ∧ PL H l ps ∧ ps.length ≤ 1000 ∧ Tab K H ∧ ∀ (H' : Hp) (q : Addr), LamX.ExtN H H' → Tab K H' → H q = none → PL H' q (joinedM ps) → Q (.ref q) H'
theorem sc_joined : FnScope ["runs", "found", "run", "start", "end"] ["runs"] (defScope s_joined) := ⟨rfl, rfl, rfl, by decide +kernel, rfl, by decide +kernel, by decide +kernel⟩
theorem joined_len (ps : List P2) : ∀ f : List P2, (ps.foldl joinStep f).length ≤ f.length + ps.length := by
  induction ps with
  | nil => intro f; exact Nat.le_refl _
  | cons p r ih =>
    intro f
    have h := ih (joinStep f p)
    have h2 : (joinStep f p).length ≤ f.length + 1 := by
      unfold joinStep
      cases f.getLast? with
      | none => rw [List.length_append]; exact Nat.le_refl _
      | some l =>
        show (if leEnd p.1 l.2 = true then (if before l.2 (endOf p) = true then f.set (f.length - 1) (l.1, endOf p) else f) else f ++ [(p.1, endOf p)]).length ≤ _
        split
        · split
          · rw [List.length_set]; exact Nat.le_succ _
          · exact Nat.le_succ _
        · rw [List.length_append]; exact Nat.le_refl _
    rw [List.foldl_cons, List.length_cons]
    omega
theorem sorted_ps (ts : List Addr) (ps : List P2) (h : ts.length = ps.length) : (sortedZ ts ps).map (·.2) = byStart ps := by
  unfold sortedZ byStart
  rw [PySem.W.sort_maps (s := fun a b : P2 => decide (a.1 ≤ b.1)) (fun z : Addr × P2 => z.2) (fun a _ b _ => rfl)]
  rw [show (fun z : Addr × P2 => z.2) = Prod.snd from rfl, List.map_snd_zip (by omega)]
/-- all that stood but the list at L and what is above -/
def less (H : Hp) (L : Addr) : Hp := fun b => if b = L then none else H b
theorem less_L {H : Hp} {L : Addr} : less H L L = none := if_pos rfl
theorem less_ne {H : Hp} {L b : Addr} (h : b ≠ L) : less H L b = H b := if_neg h
theorem less_same {H : Hp} {L : Addr} : Same (less H L) H := fun b o e => by
  by_cases h : b = L
  · rw [h, less_L] at e
    cases e
  · rw [less_ne h] at e
    exact e
theorem p_joined (T : Txt K mg) (TB : LamX.TabB base mg (jC K) (jP K)) : FnR P w K mg base CX0 4 (He.ga K "joined") (sp_joined K) := by
  obtain ⟨fd, F⟩ := T.d_joined
  refine mkR (ps := ["runs"]) F ?_ fun _ _ _ _ _ _ us hl => match us, hl with | [_], _ => rfl
  obtain ⟨oc, od, kV, doc, pm, an, cdv, ct, osl, rfl, lk, hcd⟩ := F.ex
  obtain ⟨c, ec⟩ := He.codeIn_ref hcd
  have hc : jC K = c := He.codeOf_eq (p := ("joined", none)) lk ec
  rw [hc] at TB
  refine fn_of lk hcd sc_joined (fun vs H Q E h => ?_) fun A outer s H vs Q E hr h => ?_
  · obtain ⟨l, ps, rfl, _⟩ := h
    rfl
  · obtain ⟨l, ps, rfl, hp, hn, hTab, k⟩ := h
    have nd := sc_joined.nd
    obtain ⟨ts, hl, ht⟩ := hp
    refine ⟨_, PSs.nox (pss_cons (ps_set (i := 1) nd rfl (Or.inl rfl) (pe_lst pa_nil))
      (pss_cons (ps_for PassesOwn.never rfl (pi_list (pe_sortLam TB (by rw [ec]; rfl) (by exact ⟨rfl, rfl, rfl, by decide +kernel, by decide +kernel, by decide +kernel, fun cells => rfl, fun q pm cv ctv v => rfl, _, _, _, _, _, _, rfl⟩) hr T.f_sorted T.f_int (pv 0)))
          (pg_name (i := 2) nd rfl (Or.inl rfl))
        (pss_cons (ps_par (i := 3) (j := 4) rfl nd rfl rfl (by decide) rfl rfl (pa_cons (pe_fst (pv 2)) (pa_cons (pe_callR (p_end_of T) (hr.mono (by decide)) T.g_end_of (kp_end_of T) (pa_cons (pv 2) pa_nil)) pa_nil)) rfl)
        (pss_one (ps_if (PW.pt (pw_and (pt_cmpR op_gt (pe_callB call_len_seq (by rfl) T.f_len PySem.boot_len (pa_cons (pv 1) pa_nil)) pe_int (nomark _))
            (pw_and1 (PW.pt (pw_or (pt_cmpR op_isN (pe_snd (pe_last (pv 1))) pe_non (nomark _)) (pw_or1 (pt_cmpR op_le (pv 3) (pe_snd (pe_last (pv 1))) (nomark _))))))))
          (pss_one (ps_if (pt_val (pe_callR (p_is_before T) (hr.mono (by decide)) T.g_is_before (kp_is_before T) (pa_cons (pe_snd (pe_last (pv 1))) (pa_cons (pv 4) pa_nil))))
            (pss_one (ps_asg (pe_tup (pa_cons (pe_fst (pe_last (pv 1))) (pa_cons (pv 4) pa_nil))) (pg_sub (pv 1) (pe_un un_neg pe_int) set_list)))
            pss_nil))
          (pss_one (ps_expr (pe_bm PySem.F.plainAttrs_list PySem.F.slot_list_append PySem.F.type_list_append mt_append (pv 1) (pa_cons (pe_tup (pa_cons (pv 3) (pa_cons (pv 4) pa_nil))) pa_nil))))))))
      (pss_one (ps_ret (pv 1))))), ?_⟩
    refine ⟨Nat.zero_le _, fun L hL => ?_⟩
    have ne1 : ∀ {b o}, H b = some o → b ≠ L := fun e => ne_of_none e hL
    have t1 : LamX.TabS (upd H L (.lst [])) (jP K) jQ := tab_but (N := fun _ => False) hTab (fun b o e _ => by rw [upd_ne (ne1 e)]; exact e) (fun _ z => z.elim)
    refine ⟨_, rfl, l, ts, ps, rfl, by rw [upd_ne (ne1 hl)]; exact hl, ht.ext fun b xs e => by rw [upd_ne (ne1 e)]; exact e, t1, fun H2 S eN tab2 nS => ?_⟩
    have hLS : L ≠ S := ne_of_none (eN _ _ upd_same fun _ z => nomatch z) nS
    have e3L : (upd H2 S (.lst ((sortedZ ts ps).map fun z => V.ref z.1))) L = some (.lst []) := by rw [upd_ne hLS]; exact eN _ _ upd_same fun _ z => nomatch z
    have keep : ∀ b o, H b = some o → (∀ ps, o ≠ .tbl ps) → less (upd H2 S (.lst ((sortedZ ts ps).map fun z => V.ref z.1))) L b = some o := fun b o e n => by
      have e2 := eN b o (by rw [upd_ne (ne1 e)]; exact e) n
      rw [less_ne (ne1 e), upd_ne (ne_of_none e2 nS)]
      exact e2
    generalize hHb : less (upd H2 S (.lst ((sortedZ ts ps).map fun z => V.ref z.1))) L = Hb at keep
    have hbS : Hb S = some (.lst ((sortedZ ts ps).map fun z => V.ref z.1)) := by rw [← hHb, less_ne (Ne.symm hLS)]; exact upd_same
    have hbL : Hb L = none := by rw [← hHb]; exact less_L
    have g0 : Grw Hb L (upd H2 S (.lst ((sortedZ ts ps).map fun z => V.ref z.1))) [] [] := ⟨by rw [← hHb]; exact less_same, hbL, e3L, .nil⟩
    have htab : ∀ H', Same Hb H' → LamX.TabS H' (jP K) jQ := fun H' e => tab_but (N := fun b => b = L) tab2 (fun b o h n => by
        refine e _ _ ?_
        rw [← hHb, less_ne n, upd_ne (ne_of_none h nS)]
        exact h) fun b hb => ⟨.lst [], by rw [hb]; exact eN _ _ upd_same fun _ z => (nomatch z), fun _ z => (nomatch z), fun _ z => (nomatch z)⟩
    have hz : TupsAt Hb ((sortedZ ts ps).map (·.1)) (byStart ps) := by
      rw [← sorted_ps ts ps ht.length]
      refine TupsAt.of_zip fun z h => ?_
      have hm : z ∈ ts.zip ps := List.mem_mergeSort.mp h
      exact keep _ _ (paired_zip ht z hm) fun _ z => nomatch z
    have e4 : ((sortedZ ts ps).map fun z => V.ref z.1) = ((sortedZ ts ps).map (·.1)).map V.ref := by rw [List.map_map]; rfl
    rw [e4] at hbS
    generalize upd H2 S (.lst ((sortedZ ts ps).map fun z => V.ref z.1)) = H3 at g0 ⊢
    refine ⟨S, rfl, ⟨_, SqL.of (g0.same _ _ hbS)⟩, for_list (K := K) (a := S) (xs := ((sortedZ ts ps).map (·.1)).map V.ref) (fun i σ H' => ∃ (us : List Addr) (v2 v3 v4 : Option V), σ = [some (.ref l), some (.ref L), v2, v3, v4] ∧
        Grw Hb L H' us (((byStart ps).take i).foldl joinStep []))
      ⟨[], none, none, none, rfl, g0⟩ (fun i σ H' _ ⟨_, _, _, _, _, g⟩ => SqL.of (g.same _ _ hbS)) ?_ ?_⟩
    · rintro i y σ H' hy ⟨us, v2, v3, v4, rfl, g⟩
      obtain ⟨t, p, rfl, hp1, hp2⟩ := pl_item hz hy
      have hp3 := g.same _ _ hp2
      rw [take_snoc hp1, List.foldl_append]
      have hlen : us.length ≤ 1000 := by
        rw [g.tups.length]
        have h1 := joined_len ((byStart ps).take i) []
        have h2 : (byStart ps).length = ps.length := List.length_mergeSort _
        rw [List.length_take, h2] at h1
        simp only [List.length_nil] at h1
        omega
      generalize ((byStart ps).take i).foldl joinStep [] = fo at g ⊢
      refine ⟨_, rfl, t, p, rfl, hp3, _, rfl, t, p, rfl, hp3, ?_⟩
      have hlm : (us.map V.ref).length = fo.length := by rw [List.length_map]; exact g.tups.length
      refine ⟨_, _, rfl, _, rfl, L, us.map V.ref, rfl, .inl (SqL.of g.ob), _, _, rfl, rfl, _, rfl, ?_⟩
      rw [List.foldl_cons, List.foldl_nil]
      have push : ∀ (u : Addr) (H5 : Hp), H5 = upd H' u (.tup (pairV (p.1, endOf p))) → H' u = none → Grw Hb L (upd H5 L (.lst (us.map V.ref ++ [V.ref u]))) (us ++ [u]) (fo ++ [(p.1, endOf p)]) := fun u H5 e hu => by
        subst e
        exact (g.laid hu).push upd_same
      cases hla : fo.getLast? with
      | none =>
        have hfo : fo = [] := List.getLast?_eq_none_iff.mp hla
        have e5 : joinStep fo p = fo ++ [(p.1, endOf p)] := by unfold joinStep; rw [hla]
        subst hfo
        rw [hlm, e5]
        refine iteF (iteF ⟨_, rfl, .inl ⟨rfl, _, SqL.of g.ob⟩, _, rfl, _, rfl, (by show 2 ≤ sizeLine; decide), fun t2 ht2 => ?_⟩)
        refine ⟨L, _, _, rfl, rfl, (g.laid ht2).ob, by rw [List.length_map]; exact big1 (by omega), ?_⟩
        exact ⟨us ++ [t2], _, _, _, rfl, push t2 _ rfl ht2⟩
      | some l2 =>
        have hpos : 0 < fo.length := by
          cases fo with
          | nil => cases hla
          | cons _ _ => exact Nat.succ_pos _
        have hl2 : fo[fo.length - 1]? = some l2 := by rw [← List.getLast?_eq_getElem?]; exact hla
        obtain ⟨u, hu1, hu2⟩ := g.tups.at hl2
        have hu3 : (us.map V.ref)[(us.map V.ref).length - 1]? = some (V.ref u) := by rw [hlm, List.getElem?_map, hu1]; rfl
        have e5 : joinStep fo p = if leEnd p.1 l2.2 = true then (if before l2.2 (endOf p) = true then fo.set (fo.length - 1) (l2.1, endOf p) else fo) else fo ++ [(p.1, endOf p)] := by unfold joinStep; rw [hla]
        have hgt : decide ((((us.map V.ref).length : Nat) : Int) > 0) = true := decide_eq_true (by rw [hlm]; omega)
        have inner : True := trivial
        refine (show (if decide ((((us.map V.ref).length : Nat) : Int) > 0) = true then _ else _) from ?_)
        rw [hgt]
        refine iteT ⟨_, rfl, L, us.map V.ref, V.ref u, rfl, g.ob, hu3, u, l2, rfl, hu2, rfl, _, rfl, ?_⟩
        obtain ⟨a, b⟩ := l2
        cases b with
        | none =>
          refine iteT ?_
          have e6 : joinStep fo p = fo := by rw [e5]; exact (if_pos rfl).trans (if_neg Bool.false_ne_true)
          rw [e6]
          refine iteT ?_
          refine ⟨_, rfl, L, us.map V.ref, V.ref u, rfl, g.ob, hu3, u, (a, none), rfl, hu2, _, rfl, none, endOf p, rfl, _, rfl, ?_⟩
          exact iteF ⟨us, _, _, _, rfl, g⟩
        | some e =>
          replace e5 : joinStep fo p = if decide (p.1 ≤ e) = true then (if before (some e) (endOf p) = true then fo.set (fo.length - 1) (a, endOf p) else fo) else fo ++ [(p.1, endOf p)] := e5
          refine iteF ⟨_, rfl, _, rfl, L, us.map V.ref, V.ref u, rfl, g.ob, hu3, u, (a, some e), rfl, hu2, _, _, rfl, rfl, _, rfl, ?_⟩
          show if decide (p.1 ≤ e) = true then _ else _
          by_cases h : p.1 ≤ e
          case' pos =>
            rw [if_pos (decide_eq_true h)] at e5
            rw [decide_eq_true h]
            refine iteT ⟨_, rfl, L, us.map V.ref, V.ref u, rfl, g.ob, hu3, u, (a, some e), rfl, hu2, _, rfl, some e, endOf p, rfl, _, rfl, ?_⟩
            cases hb : before (some e) (endOf p) with
            | false =>
              rw [if_neg (by rw [hb]; exact Bool.false_ne_true)] at e5
              rw [e5]
              exact iteF ⟨us, _, _, _, rfl, g⟩
            | true =>
              rw [if_pos hb] at e5
              rw [e5]
              refine iteT ⟨_, rfl, L, us.map V.ref, V.ref u, rfl, g.ob, hu3, u, (a, some e), rfl, hu2, _, rfl, (by show 2 ≤ sizeLine; decide), fun t2 ht2 => ?_⟩
              have g2 := g.laid (o := .tup (pairV (a, endOf p))) ht2
              refine ⟨_, rfl, 1, rfl, L, us.map V.ref, (-1), fo.length - 1, rfl, rfl, g2.ob, by rw [hlm]; exact ixN_last hpos, ?_⟩
              exact ⟨us.set (fo.length - 1) t2, _, _, _, rfl, g2.put (p := (a, endOf p)) _ upd_same⟩
          case' neg =>
            rw [if_neg (by rw [decide_eq_false h]; exact Bool.false_ne_true)] at e5
            rw [decide_eq_false h, e5]
            refine iteF ⟨_, rfl, .inl ⟨rfl, _, SqL.of g.ob⟩, _, rfl, _, rfl, (by show 2 ≤ sizeLine; decide), fun t2 ht2 => ?_⟩
            refine ⟨L, _, _, rfl, rfl, (g.laid ht2).ob, by rw [List.length_map]; exact big1 (by omega), ?_⟩
            exact ⟨us ++ [t2], _, _, _, rfl, push t2 _ rfl ht2⟩
    · rintro σ H' ⟨us, v2, v3, v4, rfl, g⟩
      rw [List.length_map, List.length_map, show (sortedZ ts ps).length = (byStart ps).length from by rw [← sorted_ps ts ps ht.length, List.length_map], List.take_length] at g
      refine ⟨_, rfl, k H' L (fun b o e n => g.same _ _ (keep b o e n)) (htab _ g.same) hL g.pl⟩
end
end GF

set_option Elab.async false
set_option linter.all false
set_option maxRecDepth 100000
set_option maxHeartbeats 4000000
namespace GF
open PySem PySem.Spec PyProof.Rows L2
/-! ## yield from a list: its iterator's record is known at each turn -/
section
variable {prog : Program} {w : World} {A : Around} {E : Value → Shared → Prop} {s : Shared} {I L : Addr} {n : Nat} {vs : Array Value}
/-- StopIteration() is made: its value is None, all else stands -/
theorem stop_made {M : Model} {R : Value → Shared → Prop} (h : ∀ e h', StopX e h' → (∀ b o, s.heap.get? b = some o → h'.get? b = some o) → R e { s with heap := h' }) : wpAny M A (newExc (.type "StopIteration") []) R E s := by
  unfold newExc newTuple
  have first : ∀ {T : Value → Shared → Prop} {s' : Shared}, T Value.none s' → wpAny M A (firstArgMember (.type "StopIteration") []) T E s' := fun ht => by
    refine wpAny_of_eq (a := Value.none) ?_ ht
    first
      | rfl
      | (simp only [firstArgMember]; rfl)
  refine wpAny_bind (wpAny_newObj_type (wpAny_bind (first (wpAny_newObj_type ?_ (by size_fits)))) (by size_fits))
  have pushed := fun (o1 o2 : Obj) (b : Addr) (o : Obj) (hb : s.heap.get? b = some o) => Heap.get?_push_of_some o2 (Heap.get?_push_of_some o1 hb)
  refine h _ _ ⟨_, _, _, rfl, Heap.get?_push_size _ rfl, rfl, rfl, ?_⟩ (pushed _ _)
  first
    | rfl
    | kernel_rfl
/-- the list is at its end: the turn goes out with StopIteration, whose value is None -/
theorem turn_out {Q : Value → Shared → Prop} (quiet : A.handled = none) (at_ : s.heap.get? I = some (GNX.itObj L n)) (src : s.heap.IsList L vs) (over : vs[n]? = none)
    (out : ∀ e h', StopX e h' → Heap.ExtBut I s.heap h' → E e { s with heap := h' }) :
    wpAny (model prog w) A.in1 (Builtin.«list_iterator.__next__» ⟨[.ref I], []⟩) (fun fin s' => ∃ v, fin = .done (.ret v) ∧ Q v s') E s := by
  obtain ⟨src_o, src_at, _, m, src_data⟩ := src
  have f0 : ∀ {R : Value → Shared → Prop}, R (.ref L) s → wpAny (model prog w) A.in1 (field (.ref I) 0) R E s := fun h => wpAny_field at_ rfl rfl h
  have f1 : ∀ {R : Value → Shared → Prop}, R (.int n 0) s → wpAny (model prog w) A.in1 (field (.ref I) 1) R E s := fun h => wpAny_field at_ rfl rfl h
  have f2 : ∀ {R : Option (Array Value) → Shared → Prop}, R (some vs) s → wpAny (model prog w) A.in1 (seqItems? (.ref L)) R E s := fun h => wpAny_seqItems src_at src_data h
  refine wpAny_bind (m := slotArgs _ _ _) (wpAny_of_eq (a := (Value.ref I, [])) (by rfl) (wpAny_bind (f0 ?_)))
  have ne : (Value.ref L == Value.none) = false := rfl
  simp only [ne, Bool.false_eq_true, if_false]
  refine wpAny_bind (f1 (wpAny_bind (f2 ?_)))
  simp only [Int.toNat_natCast, over]
  have gone := Heap.SameBut.update s.heap I (Obj.mapFields (·.setIfInBounds 0 Value.none))
  refine wpAny_bind (wpAny_rule (wpAny_bind (wpAny_setField at_ rfl (by simp) (wpAny_bind (stop_made fun e h' he hk => ?_)))))
  refine wpAny_raiseNew_none quiet (out e h' he fun b o hb hbo => hk b o (gone.extBut b o hb hbo))
theorem turn_over {Q : Option Value → Shared → Prop} (quiet : A.handled = none) (at_ : s.heap.get? I = some (GNX.itObj L n)) (src : s.heap.IsList L vs) (over : vs[n]? = none)
    (out : ∀ e h', StopX e h' → Heap.ExtBut I s.heap h' → E e { s with heap := h' }) : wpAny (model prog w) A (callSpecial? (.ref I) "__next__") Q E s :=
  have ty : s.TypeIs (.ref I) "list_iterator" := ⟨_, at_, rfl⟩
  wpAny_callSpecial?_slot (name := Str.ofString "__next__") ty slot_listiter_next (wpAny_call_entry slot_listiter_next ty entry_listiter_next (turn_out quiet at_ src over out) (args_listiter_next _))
theorem turn_item {x : Value} {Q : Option Value → Shared → Prop} (at_ : s.heap.get? I = some (GNX.itObj L n)) (src : s.heap.IsList L vs) (hx : vs[n]? = some x)
    (go : ∀ h', h'.get? I = some (GNX.itObj L (n + 1)) → Heap.SameBut I s.heap h' → Q (some x) { s with heap := h' }) : wpAny (model prog w) A (callSpecial? (.ref I) "__next__") Q E s :=
  have ty : s.TypeIs (.ref I) "list_iterator" := ⟨_, at_, rfl⟩
  wpAny_callSpecial?_slot (name := Str.ofString "__next__") ty slot_listiter_next (wpAny_call_entry slot_listiter_next ty entry_listiter_next (GNX.next_item at_ src hx go) (args_listiter_next _))
end
section
variable {X : Cx} {e : Expr} {te : TE}
def tYfLst (te : TE) : TYf := fun σ H Q => te σ H fun x H1 => ∃ a xs, x = .ref a ∧ H1 a = some (.lst xs) ∧ Q xs H1
theorem close_lst : typeLookup (.type "list_iterator") "close" = pure none := by
  rw [typeLookup_type, builtinLookup_eq_fast]
  kernel_rfl
/-- where the iterator of the list stands -/
def Turns (I L : Addr) (vs : Array Value) (j : Nat) (h : Heap) : Prop := h.get? I = some (GNX.itObj L j) ∧ h.IsList L vs
theorem qit_lst {H : Hp} {I L : Addr} {xs : List V} {us : List Value} (hL : H L ≠ none) (hne : L ≠ I) (rel : Vals xs us) : QIt X H I xs (Turns I L us.toArray) where
  ty := ⟨"list_iterator", fun j h st => ⟨_, st.1, rfl⟩, close_lst, by decide⟩
  frame := fun j h h' st k => ⟨k I _ (.inl rfl) st.1, let ⟨o, ho, r⟩ := st.2; ⟨o, k L o (.inr hL) ho, r⟩⟩
  item := fun A' j x s Q E _ hx st go => by
    obtain ⟨u, hu, ru⟩ := rel.get hx
    refine turn_item st.1 st.2 (x := u) (by simpa using hu) fun h' at' same => go u h' s.toks ru ⟨at', st.2.extBut same.extBut hne⟩ fun b o hb hbo => same.extBut b o hb hbo
  done := fun A' s Q E quiet st go => by
    have over : us.toArray[xs.length]? = none := by
      rw [rel.length]
      simp
    exact turn_over quiet st.1 st.2 over fun e h' he hk => go e h' s.toks he fun b o hb hbo => hk b o hb hbo
theorem yf_lst (he : PE X e te) : YfE X e (tYfLst te) := by
  refine ⟨fun pins s σ H Q I h => thn (he.run pins s σ H _ I h) fun v s1 hv => ?_⟩
  obtain ⟨x, H1, I1, rx, L, xs, ex, hL, hq⟩ := hv
  subst ex
  cases (show v = Value.ref L from rx)
  obtain ⟨us, m, rel, ho, hz⟩ := I1.lst hL
  have isL : s1.heap.IsList L us.toArray := ⟨_, ho, rfl, _, rfl⟩
  have old : ∀ {b o}, s1.heap.get? b = some o → b ≠ s1.heap.objs.size := fun hb => Nat.ne_of_lt (Heap.lt_size hb)
  have I2 : Inv X pins σ H1 { s1 with heap := s1.heap.push (GNX.itObj L 0) } := I1.kept (t' := s1.toks) fun b o hb => Heap.get?_push_of_some _ hb
  refine ⟨"list", isL.typeIs, by decide, wpAny_pyIter_list isL ?_⟩
  refine ⟨s1.heap.objs.size, H1, xs, Turns s1.heap.objs.size L us.toArray, rfl, I2, .inr I1.sz, Nat.ne_of_gt I1.lt, fun y c hc hcc => ?_, I1.hok.fresh (Nat.le_refl _), fun p hp => old (I1.pin p hp).1, ⟨Heap.get?_push_size _ rfl, isL.push _⟩,
    qit_lst (by rw [hL]; exact fun z => nomatch z) (old ho) rel, hq⟩
  obtain ⟨_, o, hco, _⟩ := I1.cell y c hc
  exact old hco hcc
end
end GF

set_option Elab.async false
set_option linter.all false
set_option maxRecDepth 100000
set_option maxHeartbeats 4000000
namespace GF
open PySem PySem.Spec PyProof.Rows L2
/-! ## rooms -/
theorem Same.upd_wr {H H' : Hp} {p : Addr} {o : HO} (e : Same H H') (h : H p = Option.none) : Same H (upd H' p o) := fun b u z => by
  rw [upd_ne (ne_of_none z h)]
  exact e b u z
theorem Same.none {H H' : Hp} {p : Addr} (e : Same H H') (h : H' p = Option.none) : H p = Option.none := by
  cases q : H p with
  | none => rfl
  | some o =>
    rw [e p o q] at h
    cases h
/-- the place of a new instance's words -/
theorem Same.born {H : Hp} {x dx C : Addr} (hx : H x = Option.none) (hd : H dx = Option.none) (o : HO) : Same H (upd (upd (upd H dx (.own x)) x (.ins C dx [])) x o) := Same.upd_wr (Same.upd_wr (Same.upd_new hd) hx) hx
section
variable {X : Cx} {e : Expr} {te : TE} {x : Str} {C : Addr} {pos p p1 : Pos}
def tIsiO (K : PySem.W.Frag) (C : Addr) (te : TE) : TE := fun σ H Q => te σ H fun x H1 => rIsi K [x, .ref C] H1 Q
theorem pe_isiO (fi : X.mg "isinstance" = none) (hm : X.mg x = some (.ref C)) (he : PE X e te) (hgi : Gl X "isinstance" := by rfl) (hg : Gl X x := by rfl) (hd : (x == ("__debug__" : Str)) = false := by decide)
    (hs : starEach (e :: [.Name x p1]) X.env = (false, eval e X.env) :: starEach [.Name x p1] X.env := by rfl) (hpl : (backTo pos (starEach [.Name x p1] X.env)).any (·.1) = false := by rfl) :
    PE X (.Call (.Name "isinstance" p) [e, .Name x p1] [] pos) (tIsiO X.K C te) :=
  pe_callB (p := p) (pos := pos) (call_isi (X := X)) hgi fi (by decide +kernel) (pa_cons he (pa_cons (pe_glob (v := .ref C) hg hm rfl hd) pa_nil) hs) (by decide) (by decide) hs hpl
end
section
variable {P : Program} {w : World} {K : PySem.W.Frag} {mg : Str → Option Value} {base : Heap}
theorem isiP {H : Hp} {Q : VK} {a dx : Addr} {fs : List (Str × V)} (T : Txt K mg) (h : H a = some (.ins (cP K) dx fs)) (q : Q (.bl true) H) : rIsi K [.ref a, .ref (cP K)] H Q :=
  ⟨_, _, _, _, true, rfl, .own _, .base (.ins h T.c_Pairs T.insP.1 T.clsGet T.clsTak T.insP.2), T.kitP, q⟩
theorem isiLP {H : Hp} {Q : VK} {a : Addr} {xs : List V} (T : Txt K mg) (h : H a = some (.lst xs)) (q : Q (.bl false) H) : rIsi K [.ref a, .ref (cP K)] H Q :=
  ⟨_, _, _, _, false, rfl, .own _, .base (.lst h), T.kitL, q⟩
theorem isiR {H : Hp} {Q : VK} {a dx : Addr} {fs : List (Str × V)} (T : Txt K mg) (h : H a = some (.ins (cR K) dx fs)) (q : Q (.bl true) H) : rIsi K [.ref a, .ref (cR K)] H Q :=
  ⟨_, _, _, _, true, rfl, .own _, .base (.ins h T.c_Room T.insR.1 T.clsGet T.clsTak T.insR.2), T.kitR, q⟩
/-! ### Pairs -/
def sp_Pairs_init (K : PySem.W.Frag) : Sp := fun vs H Q _ => ∃ (x l dx : Addr), vs = [.ref x, .ref l] ∧ H x = some (.ins (cP K) dx []) ∧ Q .non (upd H x (.ins (cP K) dx (pairsFs l)))
theorem sc_Pairs_init : FnScope ["self", "pairs"] ["self", "pairs"] (defScope s_Pairs_init) := ⟨rfl, rfl, rfl, by decide +kernel, rfl, by decide +kernel, by decide +kernel⟩
theorem p_Pairs_init (T : Txt K mg) : FnR P w K mg base CX0 1 (He.ma K (He.ga K "Pairs") "__init__") (sp_Pairs_init K) := by
  obtain ⟨fd, F⟩ := T.d_Pairs_init
  refine mkR F (F.ok sc_Pairs_init (fun vs H Q E h => ?_) fun cdv A outer s H vs Q E hr h => ?_) fun _ _ _ _ _ _ us hl => match us, hl with | [_, _], _ => rfl
  · obtain ⟨x, l, dx, rfl, _⟩ := h
    rfl
  · obtain ⟨x, l, dx, rfl, hx, k⟩ := h
    refine ⟨_, pss_one (ps_fld (pv 0) (pv 1) rfl), ?_⟩
    refine ⟨_, rfl, _, rfl, x, _, dx, _, rfl, hx, T.c_Pairs, T.n_Pairs_pairs, by decide, ?_⟩
    rw [fp_make]
    exact k
/-! ### Room(..) -/
def sp_Room_init (K : PySem.W.Frag) : Sp := fun vs H Q _ => ∃ (x dx : Addr), H x = some (.ins (cR K) dx []) ∧
  ((∃ (p dp l : Addr), vs = [.ref x, .ref p] ∧ H p = some (.ins (cP K) dp (pairsFs l)) ∧ Q .non (upd H x (.ins (cR K) dx (pairsFs l)))) ∨
   (∃ l : Addr, vs = [.ref x, .ref l] ∧ PL H l [(0, none)] ∧ Tab K H ∧ ∀ (H' : Hp) (q : Addr), LamX.ExtN H H' → Tab K H' → H q = none → PL H' q [(0, none)] → Q .non (upd H' x (.ins (cR K) dx (pairsFs q)))))
theorem sc_Room_init : FnScope ["self", "runs", "number", "run"] ["self", "runs"] (defScope s_Room_init) := ⟨rfl, rfl, rfl, by decide +kernel, rfl, by decide +kernel, by decide +kernel⟩
theorem joined_one : joinedM [(0, none)] = [(0, none)] := by
  unfold joinedM byStart
  rw [List.mergeSort_singleton]
  rfl
theorem p_Room_init (T : Txt K mg) (TB : LamX.TabB base mg (jC K) (jP K)) : FnR P w K mg base CX0 5 (He.ma K (He.ga K "Room") "__init__") (sp_Room_init K) := by
  obtain ⟨fd, F⟩ := T.d_Room_init
  refine mkR F (F.ok sc_Room_init (fun vs H Q E h => ?_) fun cdv A outer s H vs Q E hr h => ?_) fun _ _ _ _ _ _ us hl => match us, hl with | [_, _], _ => rfl
  · obtain ⟨x, dx, hx, ⟨p, dp, l, rfl, _⟩ | ⟨l, rfl, _⟩⟩ := h <;> rfl
  · obtain ⟨x, dx, hx, hm⟩ := h
    have nd := sc_Room_init.nd
    refine ⟨_, (pss_cons (ps_if (pt_val (pe_isiO T.f_isinstance T.g_Pairs (pv 1)))
      (pss_cons (ps_fld (pv 0) (pe_fld (pv 1) rfl) rfl)
        (pss_one ps_retN))
      pss_nil)
      (pss_cons (ps_if (PW.pt (pw_or (pt_not (pt_val (pe_isi T.f_isinstance T.f_list PyProof.Rows.boot_list (pv 1)))) (pw_or1 (pt_cmpR op_gt (pe_callB call_len_seq (by rfl) T.f_len PySem.boot_len (pa_cons (pv 1) pa_nil)) (pe_gint T.i_MOST_RUNS) (nomark _)))))
      (pss_one ps_never)
      pss_nil)
      (pss_cons (ps_for PassesOwn.never rfl (pi_enum (by rfl) T.f_enumerate (pa_cons (pv 1) pa_nil)) (pg_tup rfl (pgs_cons (pg_name (i := 2) nd rfl (Or.inl rfl)) (pgs_cons (pg_name (i := 3) nd rfl (Or.inl rfl)) pgs_nil)))
      (pss_one (ps_if (pt_not (pt_val (pe_callR (p_is_run T) (hr.mono (by decide)) T.g_is_run (kp_is_run T) (pa_cons (pv 3) pa_nil))))
        (pss_one ps_never)
        pss_nil)))
      (pss_one (ps_fld (pv 0) (pe_callR (p_joined T TB) hr T.g_joined (kp_joined T) (pa_cons (pv 1) pa_nil)) rfl))))), ?_⟩
    rcases hm with ⟨p, dp, l, rfl, hp, k⟩ | ⟨l, rfl, hl, tb, k⟩
    · refine ⟨_, rfl, isiP T hp ⟨_, rfl, iteT ?_⟩⟩
      refine ⟨_, rfl, p, _, dp, _, _, rfl, hp, T.c_Pairs, T.n_Pairs_pairs, fp_pairs, _, rfl, x, _, dx, _, rfl, hx, T.c_Room, T.n_Room_pairs, by decide, ?_⟩
      rw [fp_make]
      exact k
    · obtain ⟨ts, hl1, ht⟩ := hl
      refine ⟨_, rfl, isiLP T hl1 ⟨_, rfl, iteF ?_⟩⟩
      refine ⟨_, rfl, isi_lst hl1 ⟨true, rfl, iteF ?_⟩⟩
      have h1 : ts.length = 1 := ht.length
      refine ⟨_, rfl, l, _, rfl, .inl (SqL.of hl1), _, _, rfl, rfl, _, rfl, ?_⟩
      show if decide ((((ts.map V.ref).length : Nat) : Int) > 1000) = true then _ else _
      rw [List.length_map, h1]
      refine iteF ?_
      refine ⟨_, rfl, l, _, rfl, SqL.of hl1, for_it (walk_enum (K := K) (a := l) (xs := ts.map V.ref)) (fun i σ H' => Same H H' ∧ ∃ v2 v3 : Option V, σ = [some (.ref x), some (.ref l), v2, v3])
        ⟨Same.refl H, none, none, rfl⟩ (fun i σ H' _ ⟨e, _⟩ => SqL.of (e _ _ hl1)) ?_ ?_⟩
      · rintro i y0 σ H' H'' hi ⟨e, v2, v3, rfl⟩ ⟨t, w0, y, rfl, hT, rfl, hw0, hy⟩
        cases hw0
        obtain ⟨u, p, rfl, hp1, hp2⟩ := pl_item ht hy
        have hp : p = (0, none) := by
          rw [List.getElem?_singleton] at hp1
          split at hp1
          · exact (Option.some.inj hp1).symm
          · cases hp1
        have e2 : Same H (upd H' t (.tup [.int (i : Nat), .ref u])) := Same.trans e (Same.upd_new hT)
        refine ⟨t, _, rfl, SqT.of upd_same, rfl, _, _, rfl, _, _, rfl, rfl, _, rfl, u, p, rfl, e2 _ _ hp2, ?_⟩
        subst hp
        refine ⟨by decide, by decide, fun _ z => (nomatch z), _, rfl, iteF ⟨e2, _, _, rfl⟩⟩
      · rintro σ H' ⟨e, v2, v3, rfl⟩
        refine ⟨_, rfl, l, [(0, none)], rfl, ⟨ts, e _ _ hl1, ht.ext fun b xs z => e b _ z⟩, by decide, tb.ext e, fun H2 q eN tb2 hq hpl => ?_⟩
        rw [joined_one] at hpl
        have hx2 := eN _ _ (e _ _ hx) fun _ z => (nomatch z)
        refine ⟨_, rfl, x, _, dx, _, rfl, hx2, T.c_Room, T.n_Room_pairs, by decide, ?_⟩
        rw [fp_make]
        exact k H2 q (LamX.ExtN.trans (LamX.ExtN.of e) eN) tb2 (Same.none e hq) hpl
end
end GF

set_option Elab.async false
set_option linter.all false
set_option maxRecDepth 100000
set_option maxHeartbeats 4000000
namespace GF
open PySem PySem.Spec PyProof.Rows L2
section
variable {P : Program} {w : World} {K : PySem.W.Frag} {mg : Str → Option Value} {base : Heap}
theorem RoomAt.of {H : Hp} {r dx l : Addr} {ps : List P2} (h : H r = some (.ins (cR K) dx (pairsFs l))) (p : PL H l ps) : RoomAt K H r ps := ⟨dx, l, h, p⟩
/-! ### room_of -/
def sp_room_of (K : PySem.W.Frag) : Sp := fun vs H Q _ => ∃ (l : Addr) (ps : List P2), vs = [.ref l] ∧ PL H l ps ∧ ∀ (H' : Hp) (r : Addr), Same H H' → H r = none → RoomAt K H' r ps → Q (.ref r) H'
theorem sc_room_of : FnScope ["pairs"] ["pairs"] (defScope s_room_of) := ⟨rfl, rfl, rfl, by decide +kernel, rfl, by decide +kernel, by decide +kernel⟩
theorem p_room_of (T : Txt K mg) (TB : LamX.TabB base mg (jC K) (jP K)) : FnR P w K mg base CX0 7 (He.ga K "room_of") (sp_room_of K) := by
  obtain ⟨fd, F⟩ := T.d_room_of
  refine mkR F (F.ok sc_room_of (fun vs H Q E h => ?_) fun cdv A outer s H vs Q E hr h => ?_) fun _ _ _ _ _ _ us hl => match us, hl with | [_], _ => rfl
  · obtain ⟨l, ps, rfl, _⟩ := h
    rfl
  · obtain ⟨l, ps, rfl, hl, k⟩ := h
    refine ⟨_, (pss_one (ps_ret (pe_makeG T.mk_Room (p_Room_init T TB) hr T.g_Room (pa_cons (pe_makeG T.mk_Pairs (p_Pairs_init T) (hr.mono (by decide)) T.g_Pairs (pa_cons (pv 0) pa_nil)) pa_nil)))), ?_⟩
    refine ⟨_, rfl, fun x dx hx hd hne => ?_⟩
    refine ⟨x, l, dx, rfl, upd_same, rfl, fun y dy hy hdy hne2 => ?_⟩
    have e1 : Same H (upd (upd (upd H dx (.own x)) x (.ins (cP K) dx [])) x (.ins (cP K) dx (pairsFs l))) := Same.born hx hd _
    have e2 := Same.born (C := cR K) hy hdy (.ins (cR K) dy (pairsFs l))
    refine ⟨y, dy, upd_same, .inl ⟨x, dx, l, rfl, ?_, rfl, ?_⟩⟩
    · have hxy : x ≠ y := ne_of_none (H := upd (upd (upd H dx (.own x)) x (.ins (cP K) dx [])) x (.ins (cP K) dx (pairsFs l))) upd_same hy
      rw [upd_ne hxy]
      exact Same.upd_new hdy _ _ upd_same
    · have e3 := Same.trans e1 e2
      exact k _ y e3 (Same.none e1 hy) (.of upd_same (hl.same e3))
/-! ### pairs_of -/
def sp_pairs_of (K : PySem.W.Frag) : Sp := fun vs H Q _ => ∃ (r dx l : Addr), vs = [.ref r] ∧ H r = some (.ins (cR K) dx (pairsFs l)) ∧ Q (.ref l) H
theorem sc_pairs_of : FnScope ["thing"] ["thing"] (defScope s_pairs_of) := ⟨rfl, rfl, rfl, by decide +kernel, rfl, by decide +kernel, by decide +kernel⟩
theorem p_pairs_of (T : Txt K mg) (TB : LamX.TabB base mg (jC K) (jP K)) : FnR P w K mg base CX0 5 (He.ga K "pairs_of") (sp_pairs_of K) := by
  obtain ⟨fd, F⟩ := T.d_pairs_of
  refine mkR F (F.ok sc_pairs_of (fun vs H Q E h => ?_) fun cdv A outer s H vs Q E hr h => ?_) fun _ _ _ _ _ _ us hl => match us, hl with | [_], _ => rfl
  · obtain ⟨r, dx, l, rfl, _⟩ := h
    rfl
  · obtain ⟨r, dx, l, rfl, hx, k⟩ := h
    refine ⟨_, (pss_cons (ps_if (pt_val (pe_isiO T.f_isinstance T.g_Room (pv 0)))
      (pss_one (ps_ret (pe_fld (pv 0) rfl)))
      pss_nil)
      (pss_cons (ps_if (pt_val (pe_callR (p_is_run T) (hr.mono (by decide)) T.g_is_run (kp_is_run T) (pa_cons (pv 0) pa_nil)))
      (pss_one (ps_ret (pe_callR (p_joined T TB) hr T.g_joined (kp_joined T) (pa_cons (pe_lst (pa_cons (pv 0) pa_nil)) pa_nil))))
      pss_nil)
      (pss_one (ps_ret pe_non)))), ?_⟩
    refine ⟨_, rfl, isiR T hx ⟨_, rfl, iteT ?_⟩⟩
    exact ⟨_, rfl, r, _, dx, _, _, rfl, hx, T.c_Room, T.n_Room_pairs, fp_pairs, k⟩
/-! ### Room.__sub__ -/
def sp_Room_sub (K : PySem.W.Frag) : Sp := fun vs H Q _ => ∃ (r q : Addr) (ps qs : List P2), vs = [.ref r, .ref q] ∧ RoomAt K H r ps ∧ RoomAt K H q qs ∧ ps.length ≤ 900 ∧ qs.length ≤ 900 ∧
  ∀ (H' : Hp) (z : Addr), Same H H' → H z = none → RoomAt K H' z (sharedM ps (othersM qs)) → Q (.ref z) H'
theorem sc_Room_sub : FnScope ["self", "other", "pairs"] ["self", "other"] (defScope s_Room_sub) := ⟨rfl, rfl, rfl, by decide +kernel, rfl, by decide +kernel, by decide +kernel⟩
theorem othersM_len (ps : List P2) : (othersM ps).length ≤ ps.length + 1 := by
  have h := others_len ps ([], some 0)
  unfold othersM othersE
  generalize ps.foldl othersStep ([], some 0) = st at h
  obtain ⟨fo, a⟩ := st
  simp only [List.length_nil] at h
  cases a with
  | none => show fo.length ≤ _; omega
  | some a => show (fo ++ [(a, none)]).length ≤ _; rw [List.length_append]; simp; omega
theorem p_Room_sub (T : Txt K mg) (TB : LamX.TabB base mg (jC K) (jP K)) : FnR P w K mg base CX0 8 (He.ma K (He.ga K "Room") "__sub__") (sp_Room_sub K) := by
  obtain ⟨fd, F⟩ := T.d_Room_sub
  refine mkR F (F.ok sc_Room_sub (fun vs H Q E h => ?_) fun cdv A outer s H vs Q E hr h => ?_) fun _ _ _ _ _ _ us hl => match us, hl with | [_, _], _ => rfl
  · obtain ⟨r, q, ps, qs, rfl, _⟩ := h
    rfl
  · obtain ⟨r, q, ps, qs, rfl, ⟨dx, l, hx, hl⟩, ⟨dy, m, hy, hm⟩, n1, n2, k⟩ := h
    have nd := sc_Room_sub.nd
    refine ⟨_, (pss_cons (ps_set (i := 2) nd rfl (Or.inl rfl) (pe_callR (p_pairs_of T TB) (hr.mono (by decide)) T.g_pairs_of (kp_pairs_of T) (pa_cons (pv 1) pa_nil)))
      (pss_cons (ps_if (pt_cmpR op_isN (pv 2) pe_non (nomark _))
      (pss_one ps_never)
      pss_nil)
      (pss_one (ps_ret (pe_callR (p_room_of T TB) hr T.g_room_of (kp_room_of T) (pa_cons (pe_callR (p_shared T) (hr.mono (by decide)) T.g_shared (kp_shared T) (pa_cons (pe_fld (pv 0) rfl) (pa_cons (pe_callR (p_others T) (hr.mono (by decide)) T.g_others (kp_others T) (pa_cons (pv 2) pa_nil)) pa_nil))) pa_nil)))))), ?_⟩
    refine ⟨_, rfl, q, dy, m, rfl, hy, ?_⟩
    refine ⟨_, rfl, rfl, _, rfl, iteF ?_⟩
    refine ⟨_, rfl, r, _, dx, _, _, rfl, hx, T.c_Room, T.n_Room_pairs, fp_pairs, ?_⟩
    refine ⟨_, rfl, m, qs, rfl, hm, by omega, fun H1 u e1 hu hpu => ?_⟩
    have hlen := othersM_len qs
    refine ⟨l, u, ps, _, rfl, hl.same e1, hpu, by omega, by omega, fun H2 z e2 hz hpz => ?_⟩
    exact ⟨z, _, rfl, hpz, fun H3 z3 e3 hz3 hr3 => k H3 z3 (Same.trans e1 (Same.trans e2 e3)) (Same.none (Same.trans e1 e2) hz3) hr3⟩
/-! ### Room.runs, Room.__bool__ -/
def sp_Room_runs (K : PySem.W.Frag) : Sp := fun vs H Q _ => ∃ (r : Addr) (ps : List P2), vs = [.ref r] ∧ RoomAt K H r ps ∧ ps.length ≤ 1000000 ∧ ∀ (H' : Hp) (q : Addr), Same H H' → H q = none → PL H' q (runsM ps) → Q (.ref q) H'
theorem sc_Room_runs : FnScope ["self"] ["self"] (defScope s_Room_runs) := ⟨rfl, rfl, rfl, by decide +kernel, rfl, by decide +kernel, by decide +kernel⟩
theorem p_Room_runs (T : Txt K mg) : FnR P w K mg base CX0 2 (He.ma K (He.ga K "Room") "runs") (sp_Room_runs K) := by
  obtain ⟨fd, F⟩ := T.d_Room_runs
  refine mkR F (F.ok sc_Room_runs (fun vs H Q E h => ?_) fun cdv A outer s H vs Q E hr h => ?_) fun _ _ _ _ _ _ us hl => match us, hl with | [_], _ => rfl
  · obtain ⟨r, ps, rfl, _⟩ := h
    rfl
  · obtain ⟨r, ps, rfl, ⟨dx, l, hx, hl⟩, n, k⟩ := h
    refine ⟨_, (pss_one (ps_ret (pe_callR (p_runs_of T) hr T.g_runs_of (kp_runs_of T) (pa_cons (pe_fld (pv 0) rfl) pa_nil)))), ?_⟩
    exact ⟨_, rfl, r, _, dx, _, _, rfl, hx, T.c_Room, T.n_Room_pairs, fp_pairs, l, ps, rfl, hl, n, k⟩
def sp_Room_bool (K : PySem.W.Frag) : Sp := fun vs H Q _ => ∃ (r : Addr) (ps : List P2), vs = [.ref r] ∧ RoomAt K H r ps ∧ Q (.bl (decide (0 < ps.length))) H
theorem sc_Room_bool : FnScope ["self"] ["self"] (defScope s_Room_bool) := ⟨rfl, rfl, rfl, by decide +kernel, rfl, by decide +kernel, by decide +kernel⟩
theorem p_Room_bool (T : Txt K mg) : FnR P w K mg base CX0 1 (He.ma K (He.ga K "Room") "__bool__") (sp_Room_bool K) := by
  obtain ⟨fd, F⟩ := T.d_Room_bool
  refine mkR F (F.ok sc_Room_bool (fun vs H Q E h => ?_) fun cdv A outer s H vs Q E hr h => ?_) fun _ _ _ _ _ _ us hl => match us, hl with | [_], _ => rfl
  · obtain ⟨r, ps, rfl, _⟩ := h
    rfl
  · obtain ⟨r, ps, rfl, ⟨dx, l, hx, ts, hl, ht⟩, k⟩ := h
    refine ⟨_, (pss_one (ps_ret (pe_cmpR op_gt (pe_callB call_len_seq (by rfl) T.f_len PySem.boot_len (pa_cons (pe_fld (pv 0) rfl) pa_nil)) pe_int (nomark _)))), ?_⟩
    refine ⟨_, rfl, r, _, dx, _, _, rfl, hx, T.c_Room, T.n_Room_pairs, fp_pairs, l, _, rfl, .inl (SqL.of hl), _, _, rfl, rfl, ?_⟩
    have e : decide ((((ts.map V.ref).length : Nat) : Int) > 0) = decide (0 < ps.length) := decide_eq_decide.mpr (by rw [List.length_map, ht.length]; omega)
    show Q (.bl (decide ((((ts.map V.ref).length : Nat) : Int) > 0))) H
    rw [e]
    exact k
/-! ### best_enough -/
def sp_best_enough : Sp := fun vs H Q _ => ∃ (l : Addr) (ps : List P2) (m : Int), vs = [.ref l, .int m] ∧ PL H l ps ∧ Q (oV (bestM ps m)) H
theorem sc_best_enough : FnScope ["runs", "many", "best", "run"] ["runs", "many"] (defScope s_best_enough) := ⟨rfl, rfl, rfl, by decide +kernel, rfl, by decide +kernel, by decide +kernel⟩
/-- None, or the tuple of a pair -/
def PairOr (H : Hp) (v : V) : Option P2 → Prop
  | none => v = .non
  | some p => ∃ t, v = .ref t ∧ H t = some (.tup (pairV p))
theorem p_best_enough (T : Txt K mg) : FnR P w K mg base CX0 2 (He.ga K "best_enough") sp_best_enough := by
  obtain ⟨fd, F⟩ := T.d_best_enough
  refine mkR F (F.ok sc_best_enough (fun vs H Q E h => ?_) fun cdv A outer s H vs Q E hr h => ?_) fun _ _ _ _ _ _ us hl => match us, hl with | [_, _], _ => rfl
  · obtain ⟨l, ps, m, rfl, _⟩ := h
    rfl
  · obtain ⟨l, ps, m, rfl, hp, k⟩ := h
    have nd := sc_best_enough.nd
    obtain ⟨ts, hl, ht⟩ := hp
    refine ⟨_, (pss_cons (ps_set (i := 2) nd rfl (Or.inl rfl) pe_non)
      (pss_cons (ps_for PassesOwn.never rfl (pi_list (pv 0)) (pg_name (i := 3) nd rfl (Or.inl rfl))
      (pss_one (ps_if (pt_val (pe_callR (p_is_enough T) hr T.g_is_enough (kp_is_enough T) (pa_cons (pv 3) (pa_cons (pv 1) pa_nil))))
        (pss_one (ps_if (PW.pt (pw_or (pt_cmpR op_isN (pv 2) pe_non (nomark _)) (pw_or1 (PW.pt (pw_and (pt_cmpR op_notN (pe_snd (pv 3)) pe_non (nomark _)) (pw_and1 (PW.pt (pw_or (pt_cmpR op_isN (pe_snd (pv 2)) pe_non (nomark _)) (pw_or1 (pt_cmpR op_lt (pe_snd (pv 3)) (pe_snd (pv 2)) (nomark _)))))))))))
          (pss_one (ps_set (i := 2) nd rfl (Or.inl rfl) (pv 3)))
          pss_nil))
        pss_nil)))
      (pss_one (ps_ret (pe_ifExp (pt_cmpR op_isN (pv 2) pe_non (nomark _)) pe_non (pe_fst (pv 2))))))), ?_⟩
    refine ⟨_, rfl, l, rfl, ⟨_, SqL.of hl⟩, for_list (K := K) (a := l) (xs := ts.map V.ref) (fun i σ H' => ∃ (v2 : V) (v3 : Option V), σ = [some (.ref l), some (.int m), some v2, v3] ∧ H' = H ∧ PairOr H v2 ((ps.take i).foldl (bestStep m) none))
      ⟨.non, none, rfl, rfl, rfl⟩ (fun i σ H' _ ⟨_, _, _, e, _⟩ => by rw [e]; exact SqL.of hl) ?_ ?_⟩
    · rintro i y σ H' hy ⟨v2, v3, rfl, rfl, hb⟩
      obtain ⟨t, p, rfl, hp1, hp2⟩ := pl_item ht hy
      rw [take_snoc hp1, List.foldl_append, List.foldl_cons, List.foldl_nil]
      generalize (ps.take i).foldl (bestStep m) none = b at hb ⊢
      refine ⟨_, rfl, _, rfl, t, p, m, rfl, hp2, _, rfl, ?_⟩
      have keep : ∀ {c : Option P2}, bestStep m b p = c → c = b → PairOr H' v2 (bestStep m b p) := fun e1 e2 => by rw [e1, e2]; exact hb
      have take : bestStep m b p = some p → PairOr H' (.ref t) (bestStep m b p) := fun e => by rw [e]; exact ⟨t, rfl, hp2⟩
      cases eb : enough p m with
      | false =>
        have e : bestStep m b p = b := by unfold bestStep; rw [eb]; rfl
        exact iteF ⟨v2, _, rfl, rfl, keep e rfl⟩
      | true =>
        refine iteT ?_
        cases b with
        | none =>
          have hv : v2 = .non := hb
          subst hv
          have e : bestStep m none p = some p := by unfold bestStep; rw [eb]; rfl
          exact ⟨_, rfl, rfl, _, rfl, iteT ⟨_, rfl, _, _, rfl, rfl, take e⟩⟩
        | some b =>
          obtain ⟨t2, hv, ht2⟩ := hb
          subst hv
          have e : bestStep m (some b) p = if lessL p b = true then some p else some b := by unfold bestStep; rw [eb]; rfl
          refine ⟨_, rfl, rfl, _, rfl, iteF ?_⟩
          obtain ⟨a, c⟩ := p
          cases c with
          | none =>
            refine ⟨_, rfl, t, (a, none), rfl, hp2, rfl, _, rfl, iteF (iteF ?_)⟩
            exact ⟨_, _, rfl, rfl, keep e (if_neg Bool.false_ne_true)⟩
          | some c =>
            refine ⟨_, rfl, t, (a, some c), rfl, hp2, rfl, _, rfl, iteT ?_⟩
            obtain ⟨b1, b2⟩ := b
            cases b2 with
            | none =>
              refine ⟨_, rfl, t2, (b1, none), rfl, ht2, rfl, _, rfl, iteT ?_⟩
              refine iteT ?_
              refine ⟨_, rfl, _, _, rfl, rfl, take (e.trans (if_pos rfl))⟩
            | some d =>
              refine ⟨_, rfl, t2, (b1, some d), rfl, ht2, rfl, _, rfl, iteF ?_⟩
              refine ⟨_, rfl, t, (a, some c), rfl, hp2, _, rfl, t2, (b1, some d), rfl, ht2, _, _, rfl, rfl, _, rfl, ?_⟩
              show if decide (c < d) = true then _ else _
              by_cases h : c < d
              · rw [decide_eq_true h]
                exact iteT ⟨_, rfl, _, _, rfl, rfl, take (e.trans (if_pos (decide_eq_true h)))⟩
              · rw [decide_eq_false h]
                exact iteF (⟨_, _, rfl, rfl, keep e (if_neg (by show ¬ decide (c < d) = true; rw [decide_eq_false h]; exact Bool.false_ne_true))⟩)
    · rintro σ H' ⟨v2, v3, rfl, rfl, hb⟩
      rw [List.length_map, ht.length, List.take_length] at hb
      unfold bestM at k
      generalize ps.foldl (bestStep m) none = b at hb k
      cases b with
      | none =>
        have hv : v2 = .non := hb
        subst hv
        exact ⟨_, rfl, rfl, _, rfl, iteT k⟩
      | some b =>
        obtain ⟨t2, hv, ht2⟩ := hb
        subst hv
        exact ⟨_, rfl, rfl, _, rfl, iteF ⟨_, rfl, t2, b, rfl, ht2, k⟩⟩
end
end GF

set_option Elab.async false
set_option linter.all false
set_option maxRecDepth 100000
set_option maxHeartbeats 4000000
namespace GF
open PySem PySem.Spec PyProof.Rows L2
theorem passE0 {X : Cx} : Passes (L2.CX X.prog X.w) X E0 := fun pins σ H s e s' I c => by
  obtain ⟨a, B, sI, pins, σ, H, cls, d, rfl, I, nb, up, sky, na, os, ag, w⟩ := XE.of_call (X := X) (W := fun _ _ _ _ => False) I (fun _ _ _ h => h) c
  exact w.elim
section
variable {P : Program} {w : World} {K : PySem.W.Frag} {mg : Str → Option Value} {base : Heap}
/-! ### Room.runs_from -/
def sp_runs_from (K : PySem.W.Frag) : SpG := fun vs H Q _ => ∃ (r : Addr) (ps : List P2) (b : Int), vs = [.ref r, .int b] ∧ RoomAt K H r ps ∧ ps.length ≤ 1000 ∧ 0 ≤ b ∧ b ≤ 10 ^ 50 ∧
  ∀ (H' : Hp) (ts : List Addr), Same H H' → TupsAt H' ts (runsM (sharedM ps [(b, none)])) → Q (ts.map V.ref) H'
theorem sc_runs_from : GScope ["self", "block"] ["self", "block"] (defScope s_Room_runs_from) := ⟨rfl, rfl, rfl, by decide +kernel, rfl, by decide +kernel, by decide +kernel⟩
theorem p_runs_from (T : Txt K mg) : ∃ fd, GFn P w K mg base 4 (He.ma K (He.ga K "Room") "runs_from") fd ["self", "block"] (sp_runs_from K) ∧ Binds K fd ["self", "block"] [] := by
  obtain ⟨fd, F⟩ := T.d_Room_runs_from
  have B := F.binds (ps := ["self", "block"]) (fun _ _ _ _ _ _ us hl => match us, hl with | [_, _], _ => rfl)
  refine ⟨fd, ?_, B⟩
  obtain ⟨oc, od, kV, doc, pm, an, cdv, ct, osl, rfl, lk, hcd⟩ := F.ex
  refine gfn_of lk hcd sc_runs_from (fun vs H Q E h => ?_) fun A outer s H vs Q E pn hr h => ?_
  · obtain ⟨r, ps, b, rfl, _⟩ := h
    rfl
  · obtain ⟨r, ps, b, rfl, ⟨dx, l, hx, hl⟩, hn, h0, h1, k⟩ := h
    refine ⟨_, gss_cons (gs_ps (ps_if (pt_not (pt_val (pe_callR (p_is_integer T) (hr.mono (by decide)) T.g_is_integer (kp_is_integer T) (pa_cons (pv 1) (pa_cons pe_int (pa_cons (pe_gint T.i_MOST_BLOCK) pa_nil)))))) (pss_one ps_never) pss_nil))
      (gss_cons (gs_yieldFrom (yf_lst (pe_callR (p_runs_of T) (hr.mono (by decide)) T.g_runs_of (kp_runs_of T) (pa_cons (pe_callR (p_shared T) (hr.mono (by decide)) T.g_shared (kp_shared T)
        (pa_cons (pe_fld (pv 0) rfl) (pa_cons (pe_lst (pa_cons (pe_tup (pa_cons (pv 1) (pa_cons pe_non pa_nil))) pa_nil)) pa_nil))) pa_nil))) hr.hd) gss_nil), ?_⟩
    refine ⟨_, rfl, b, 0, 10 ^ 50, rfl, _, rfl, ?_⟩
    rw [decide_eq_true h0, decide_eq_true h1]
    refine iteF ?_
    refine ⟨_, rfl, r, _, dx, _, _, rfl, hx, T.c_Room, T.n_Room_pairs, fp_pairs, ?_⟩
    refine ⟨_, rfl, (by show 2 ≤ sizeLine; decide), fun t ht => ⟨(by show 1 ≤ sizeLine; decide), fun m hm => ?_⟩⟩
    have e1 : Same H (upd H t (.tup [V.int b, V.non])) := Same.upd_new ht
    have e2 : Same H (upd (upd H t (.tup [V.int b, V.non])) m (.lst [V.ref t])) := Same.trans e1 (Same.upd_new hm)
    refine ⟨l, m, ps, [(b, none)], rfl, hl.same e2, ⟨[t], upd_same, .cons (Same.upd_new hm _ _ upd_same) .nil⟩, hn, (by show 1 ≤ 1000; decide), fun H1 z e3 hz hpz => ?_⟩
    have hlen := shared_len [(b, none)] ps
    simp only [List.length_cons, List.length_nil] at hlen
    refine ⟨z, _, rfl, hpz, by omega, fun H2 y e4 hy hpy => ?_⟩
    obtain ⟨ts, hy1, hy2⟩ := hpy
    refine ⟨y, ts.map V.ref, rfl, hy1, ?_, k H2 ts (Same.trans e2 (Same.trans e3 e4)) hy2⟩
    have : ts.length = (sharedM ps [(b, none)]).length := by rw [hy2.length, runsM, List.length_map]
    rw [List.length_nil, List.length_map]
    exact Nat.le_of_lt (big1 (by omega))
/-! ### place_by_rule -/
theorem fp_runs {l : Addr} : (pairsFs l).lookup (Str.ofString "runs") = none := by kernel_rfl
theorem fp_runs_from {l : Addr} : (pairsFs l).lookup (Str.ofString "runs_from") = none := by kernel_rfl
theorem sne {a b : Str} (h : decide (a = b) = false) : decide (V.str a = V.str b) = false := decide_eq_false fun e => by
  injection e with e
  exact of_decide_eq_false h e
theorem seq {a : Str} : decide (V.str a = V.str a) = true := decide_eq_true rfl
def isRule (r : Str) : Prop := r = "behind" ∨ r = "first" ∨ r = "best" ∨ r = "next"
def sp_place (K : PySem.W.Frag) : Sp := fun vs H Q _ => ∃ (rule : Str) (fr : Addr) (ps : List P2) (many behind after : Int), vs = [.str rule, .ref fr, .int many, .int behind, .int after] ∧ isRule rule ∧ RoomAt K H fr ps ∧ ps.length ≤ 900 ∧
  0 ≤ behind ∧ behind ≤ 10 ^ 50 ∧ 0 ≤ after ∧ after ≤ 10 ^ 50 ∧ ∀ H', Same H H' → Q (oV (placeM rule ps many behind after)) H'
theorem sc_place : FnScope ["rule", "free", "many", "behind", "after", "found", "run"] ["rule", "free", "many", "behind", "after"] (defScope s_place_by_rule) := ⟨rfl, rfl, rfl, by decide +kernel, rfl, by decide +kernel, by decide +kernel⟩
theorem p_place (T : Txt K mg) : FnR P w K mg base CX0 8 (He.ga K "place_by_rule") (sp_place K) := by
  obtain ⟨fd, F⟩ := T.d_place_by_rule
  refine mkR F (F.ok sc_place (fun vs H Q E h => ?_) fun cdv A outer s H vs Q E hr h => ?_) fun _ _ _ _ _ _ us hl => match us, hl with | [_, _, _, _, _], _ => rfl
  · obtain ⟨rule, fr, ps, many, behind, after, rfl, _⟩ := h
    rfl
  · obtain ⟨rule, fr, ps, many, behind, after, rfl, hru, hfr, hn, b0, b1, a0, a1, k⟩ := h
    have nd := sc_place.nd
    obtain ⟨fd2, G, B⟩ := p_runs_from (P := P) (w := w) (base := base) T
    refine ⟨_, (pss_cons (ps_if (pt_cmpR op_eq (pv 0) pe_str (nomark _))
      (pss_one (ps_ret (pe_callR (p_best_enough T) (hr.mono (by decide)) T.g_best_enough (kp_best_enough T) (pa_cons (pe_methR0 (pv 1) T.c_Room T.m_Room_runs (p_Room_runs T) (hr.mono (by decide))) (pa_cons (pv 2) pa_nil)))))
      pss_nil)
      (pss_cons (ps_set (i := 5) nd rfl (Or.inl rfl) pe_non)
      (pss_cons (ps_if (pt_cmpR op_eq (pv 0) pe_str (nomark _))
      (pss_one (ps_set (i := 5) nd rfl (Or.inl rfl) (pe_callR (p_first_enough T) (hr.mono (by decide)) T.g_first_enough (kp_first_enough T) (pa_cons
        (pe_listG (pgen_meth (E := E0) (pv 1) T.c_Room T.m_Room_runs_from G (hr.mono (by decide)) B .nil (pa_cons (pv 4) pa_nil)) passE0 (fun _ _ _ z => z.elim) (hr.mono (by decide)) rfl T.f_list PyProof.Rows.boot_list) (pa_cons (pv 2) pa_nil)))))
      pss_nil)
      (pss_cons (ps_if (pt_cmpR op_eq (pv 0) pe_str (nomark _))
      (pss_one (ps_set (i := 5) nd rfl (Or.inl rfl) (pe_callR (p_first_enough T) (hr.mono (by decide)) T.g_first_enough (kp_first_enough T) (pa_cons (pe_lc (own := [(Str.ofString "run", 6)]) (g := gName 6) (tt := tTest (tOp rEq (tFst (tVar 6)) (tVar 3))) (te := tVar 6) rfl nd (pi_list
        (pe_listG (pgen_meth (E := E0) (pv 1) T.c_Room T.m_Room_runs_from G (hr.mono (by decide)) B .nil (pa_cons (pv 3) pa_nil)) passE0 (fun _ _ _ z => z.elim) (hr.mono (by decide)) rfl T.f_list PyProof.Rows.boot_list))
        (blkOk_by (N := ["rule", "free", "many", "behind", "after", "found", "run"]) (sc := defScope s_place_by_rule) (by decide +kernel)) (fun _ _ _ _ _ => (pg_name (i := 6) nd rfl (Or.inl rfl))) (fun _ _ _ _ _ => (pts_one (pt_cmpR op_eq (pe_fst (pv 6)) (pv 3) (nomark _)))) (fun _ _ _ _ _ => (pv 6))) (pa_cons (pv 2) pa_nil)))))
      pss_nil)
      (pss_cons (ps_if (pt_cmpR op_isN (pv 5) pe_non (nomark _))
      (pss_one (ps_ret (pe_callR (p_first_enough T) (hr.mono (by decide)) T.g_first_enough (kp_first_enough T) (pa_cons (pe_methR0 (pv 1) T.c_Room T.m_Room_runs (p_Room_runs T) (hr.mono (by decide))) (pa_cons (pv 2) pa_nil)))))
      pss_nil)
      (pss_one (ps_ret (pv 5)))))))), ?_⟩
    have hfr0 := hfr
    obtain ⟨dx, l, hx, hl⟩ := hfr0
    have len1 : ps.length ≤ 1000000 := by omega
    rcases hru with rfl | rfl | rfl | rfl
    · have e0 : placeM "behind" ps many behind after = match firstM ((runsM (sharedM ps [(behind, none)])).filter fun r => decide (r.1 = behind)) many with
          | none => firstM (runsM ps) many
          | some s => some s := by
        unfold placeM
        rw [if_neg (by decide +kernel), if_pos rfl]
        all_goals rfl
      rw [e0] at k
      have q1 : decide (V.str "behind" = V.str "best") = false := sne (by decide +kernel)
      have q2 : decide (V.str "behind" = V.str "next") = false := sne (by decide +kernel)
      refine ⟨_, rfl, rfl, _, rfl, ?_⟩
      rw [q1]
      refine iteF ⟨_, rfl, rfl, _, rfl, ?_⟩
      rw [q2]
      refine iteF ⟨_, rfl, rfl, _, rfl, ?_⟩
      rw [seq]
      refine iteT ⟨_, rfl, fr, dx, _, rfl, hx, fp_runs_from, _, rfl, fr, ps, behind, rfl, hfr, by omega, b0, b1, fun H1 ts e1 ht q hq => ?_⟩
      have e2 : Same H (upd H1 q (.lst (ts.map V.ref))) := Same.trans e1 (Same.upd_new hq)
      have ht2 : TupsAt (upd H1 q (.lst (ts.map V.ref))) ts (runsM (sharedM ps [(behind, none)])) := ht.ext fun b xs z => Same.upd_new hq _ _ z
      have hql : (upd H1 q (.lst (ts.map V.ref))) q = some (.lst (ts.map V.ref)) := upd_same
      have hlen2 : ts.length ≤ 1000 := by
        have h1 := shared_len [(behind, none)] ps
        rw [ht.length, runsM, List.length_map]
        simp only [List.length_cons, List.length_nil] at h1
        omega
      generalize upd H1 q (.lst (ts.map V.ref)) = Hq at e2 ht2 hql ⊢
      generalize runsM (sharedM ps [(behind, none)]) = rs at k ht2 ⊢
      refine ⟨q, rfl, ⟨_, SqL.of hql⟩, fun D hD => ?_⟩
      refine lc_list (K := K) (a := q) (xs := ts.map V.ref) (fun i H' => ∃ us : List Addr, Grw Hq D H' us ((rs.take i).filter fun r => decide (r.1 = behind))) ⟨[], Grw.start hD⟩ (fun i H' _ ⟨_, g⟩ => SqL.of (g.same _ _ hql)) ?_ ?_
      · rintro i y H' hy ⟨us, g⟩
        obtain ⟨t, p, rfl, hp1, hp2⟩ := pl_item ht2 hy
        have hp3 := g.same _ _ hp2
        rw [take_snoc hp1, List.filter_append]
        have hlen3 : us.length ≤ 1000 := by
          rw [g.tups.length]
          have h1 := List.length_filter_le (fun r : P2 => decide (r.1 = behind)) (rs.take i)
          rw [List.length_take] at h1
          rw [← ht2.length] at h1
          omega
        refine ⟨rfl, _, rfl, t, p, rfl, hp3, _, rfl, rfl, _, rfl, ?_⟩
        by_cases h : p.1 = behind
        · rw [decide_eq_true (show V.int p.1 = V.int behind by rw [h])]
          refine iteT ⟨_, rfl, us.map V.ref, g.ob, by rw [List.length_map]; exact big1 (by omega), us ++ [t], ?_⟩
          rw [List.filter_cons, if_pos (by rw [decide_eq_true h])]
          exact g.push hp3
        · rw [decide_eq_false (show V.int p.1 ≠ V.int behind from fun z => h (by injection z))]
          rw [List.filter_cons, if_neg (by rw [decide_eq_false h]; exact Bool.false_ne_true), List.filter_nil, List.append_nil]
          exact iteF ⟨us, g⟩
      · rintro H' ⟨us, g⟩
        rw [List.length_map, ht2.length, List.take_length] at g
        have e3 : Same H H' := Same.trans e2 g.same
        refine ⟨_, rfl, D, _, many, rfl, g.pl, ?_⟩
        cases hf : firstM (rs.filter fun r => decide (r.1 = behind)) many with
        | none =>
          rw [hf] at k
          refine ⟨_, rfl, rfl, _, rfl, iteT ?_⟩
          exact ⟨_, rfl, fr, dx, _, rfl, e3 _ _ hx, fp_runs, fr, ps, rfl, hfr.same e3, len1, fun H3 q3 e4 hq3 hpq => ⟨_, rfl, q3, _, many, rfl, hpq, k H3 (Same.trans e3 e4)⟩⟩
        | some s =>
          rw [hf] at k
          exact ⟨_, rfl, rfl, _, rfl, iteF ⟨_, rfl, k _ e3⟩⟩
    · have e0 : placeM "first" ps many behind after = firstM (runsM ps) many := by
        unfold placeM
        rw [if_neg (by decide +kernel), if_neg (by decide +kernel), if_neg (by decide +kernel)]
      rw [e0] at k
      have q1 : decide (V.str "first" = V.str "best") = false := sne (by decide +kernel)
      have q2 : decide (V.str "first" = V.str "next") = false := sne (by decide +kernel)
      have q3 : decide (V.str "first" = V.str "behind") = false := sne (by decide +kernel)
      refine ⟨_, rfl, rfl, _, rfl, ?_⟩
      rw [q1]
      refine iteF ⟨_, rfl, rfl, _, rfl, ?_⟩
      rw [q2]
      refine iteF ⟨_, rfl, rfl, _, rfl, ?_⟩
      rw [q3]
      refine iteF ⟨_, rfl, rfl, _, rfl, iteT ?_⟩
      exact ⟨_, rfl, fr, dx, _, rfl, hx, fp_runs, fr, ps, rfl, hfr, len1, fun H2 q2 e2 hq2 hpq => ⟨_, rfl, q2, _, many, rfl, hpq, k H2 e2⟩⟩
    · have e0 : placeM "best" ps many behind after = bestM (runsM ps) many := by
        unfold placeM
        rw [if_pos rfl]
      rw [e0] at k
      refine ⟨_, rfl, rfl, _, rfl, ?_⟩
      rw [seq]
      exact iteT ⟨_, rfl, fr, dx, _, rfl, hx, fp_runs, fr, ps, rfl, hfr, len1, fun H2 q2 e2 hq2 hpq => ⟨_, rfl, q2, _, many, rfl, hpq, k H2 e2⟩⟩
    · have e0 : placeM "next" ps many behind after = match firstM (runsM (sharedM ps [(after, none)])) many with
          | none => firstM (runsM ps) many
          | some s => some s := by
        unfold placeM
        rw [if_neg (by decide +kernel), if_neg (by decide +kernel), if_pos rfl]
        all_goals rfl
      rw [e0] at k
      have q1 : decide (V.str "next" = V.str "best") = false := sne (by decide +kernel)
      have q2 : decide (V.str "next" = V.str "behind") = false := sne (by decide +kernel)
      refine ⟨_, rfl, rfl, _, rfl, ?_⟩
      rw [q1]
      refine iteF ⟨_, rfl, rfl, _, rfl, ?_⟩
      rw [seq]
      refine iteT ⟨_, rfl, fr, dx, _, rfl, hx, fp_runs_from, _, rfl, fr, ps, after, rfl, hfr, by omega, a0, a1, fun H1 ts e1 ht q hq => ?_⟩
      have e2 : Same H (upd H1 q (.lst (ts.map V.ref))) := Same.trans e1 (Same.upd_new hq)
      refine ⟨_, rfl, q, _, many, rfl, ⟨ts, upd_same, ht.ext fun b xs z => Same.upd_new hq _ _ z⟩, ?_⟩
      refine ⟨_, rfl, rfl, _, rfl, ?_⟩
      rw [q2]
      refine iteF ?_
      cases hf : firstM (runsM (sharedM ps [(after, none)])) many with
      | none =>
        rw [hf] at k
        refine ⟨_, rfl, rfl, _, rfl, iteT ?_⟩
        exact ⟨_, rfl, fr, dx, _, rfl, e2 _ _ hx, fp_runs, fr, ps, rfl, hfr.same e2, len1, fun H3 q3 e3 hq3 hpq => ⟨_, rfl, q3, _, many, rfl, hpq, k H3 (Same.trans e2 e3)⟩⟩
      | some s =>
        rw [hf] at k
        exact ⟨_, rfl, rfl, _, rfl, iteF ⟨_, rfl, k _ e2⟩⟩
end
end GF

set_option Elab.async false
set_option linter.all false
set_option maxRecDepth 100000
set_option maxHeartbeats 4000000
namespace GF
open PySem PySem.Spec PyProof.Rows L2
section
variable {P : Program} {w : World} {K : PySem.W.Frag} {mg : Str → Option Value} {base : Heap}
/-- a call that names the last arguments by keyword, in the order of the parameters -/
theorem kwN {x qual : Str} {st : Stmt} {f : Addr} {fd : FuncData} {ps : List Str} (F : Fun K x qual st f fd) (n : Nat) (ks : List Str)
    (h : ∀ (kV doc pm : Value) (an : Option Addr) (cdv ct : Value) (us ws : List Value), us.length = n → ws.length = ks.length → bindArgs (PySem.W.fnOf x qual (defArgs st) (defBody st) (defScope st) .none kV doc pm an cdv ct) ⟨us, ks.zip ws⟩ = pure (ps.zip (us ++ ws))) :
    KBn K fd ps n ks (fun us ws => us ++ ws) (fun vs zs => vs ++ zs) := by
  obtain ⟨oc, od, kV, doc, pm, an, cdv, ct, osl, rfl, lk, hcd⟩ := F.ex
  exact ⟨fun s us ws _ l1 l2 => BindsTo.of_eq (h kV doc pm an cdv ct us ws l1 l2), fun r1 r2 => r1.append r2⟩
/-! ### placed -/
def sp_placed (K : PySem.W.Frag) : Sp := fun vs H Q _ => ∃ (rule : Str) (fr : Addr) (ps : List P2) (many behind after need st : Int) (short : Bool), vs = [.str rule, .ref fr, .int many, .int behind, .int after, .bl short, .int need] ∧ isRule rule ∧ RoomAt K H fr ps ∧ ps.length ≤ 900 ∧
  many ≤ 10 ^ 40 ∧ 0 ≤ behind ∧ behind ≤ 10 ^ 40 ∧ 0 ≤ after ∧ after ≤ 10 ^ 40 ∧ 1 ≤ need ∧ need ≤ many ∧ placeM rule ps many behind after = some st ∧ ∀ (H' : Hp) (q : Addr), Same H H' → H q = none → PL H' q [(st, some many)] → Q (.ref q) H'
theorem sc_placed : FnScope ["rule", "free", "many", "behind", "after", "short", "need", "start"] ["rule", "free", "many", "behind", "after", "short", "need"] (defScope s_placed) := ⟨rfl, rfl, rfl, by decide +kernel, rfl, by decide +kernel, by decide +kernel⟩
theorem p_placed (T : Txt K mg) : ∃ fd, FnOk P w K mg base CX0 9 (He.ga K "placed") fd ["rule", "free", "many", "behind", "after", "short", "need"] (sp_placed K) ∧ KBn K fd ["rule", "free", "many", "behind", "after", "short", "need"] 3 ["behind", "after", "short", "need"] (fun us ws => us ++ ws) (fun vs zs => vs ++ zs) := by
  obtain ⟨fd, F⟩ := T.d_placed
  refine ⟨fd, F.ok sc_placed (fun vs H Q E h => ?_) fun cdv A outer s H vs Q E hr h => ?_, kwN F 3 _ fun _ _ _ _ _ _ us ws l1 l2 => match us, ws, l1, l2 with | [_, _, _], [_, _, _, _], _, _ => rfl⟩
  · obtain ⟨rule, fr, ps, many, behind, after, need, st, short, rfl, _⟩ := h
    rfl
  · obtain ⟨rule, fr, ps, many, behind, after, need, st, short, rfl, hru, hfr, hn, m1, b0, b1, a0, a1, n0, n1, hst, k⟩ := h
    have nd := sc_placed.nd
    refine ⟨_, (pss_cons (ps_if (PW.pt (pw_or (pt_not (pt_val (pe_isi T.f_isinstance T.f_str PyProof.Rows.boot_str (pv 0)))) (pw_or1 (pt_cmpR op_notIn_seq (pv 0) (pe_glob (v := .ref (He.ga K "RULES")) rfl T.g_RULES rfl) rfl))))
      (pss_one ps_never)
      pss_nil)
      (pss_cons (ps_expr (pe_callR (p_check_integer T) (hr.mono (by decide)) T.g_check_integer (kp_check_integer T) (pa_cons (pv 2) (pa_cons pe_int (pa_cons (pe_gint T.i_MOST) pa_nil)))))
      (pss_cons (ps_expr (pe_callR (p_check_integer T) (hr.mono (by decide)) T.g_check_integer (kp_check_integer T) (pa_cons (pv 3) (pa_cons pe_int (pa_cons (pe_gint T.i_MOST) pa_nil)))))
      (pss_cons (ps_expr (pe_callR (p_check_integer T) (hr.mono (by decide)) T.g_check_integer (kp_check_integer T) (pa_cons (pv 4) (pa_cons pe_int (pa_cons (pe_gint T.i_MOST) pa_nil)))))
      (pss_cons (ps_expr (pe_callR (p_check_integer T) (hr.mono (by decide)) T.g_check_integer (kp_check_integer T) (pa_cons (pv 6) (pa_cons pe_int (pa_cons (pv 2) pa_nil)))))
      (pss_cons (ps_set (i := 7) nd rfl (Or.inl rfl) (pe_callR (p_place T) hr T.g_place_by_rule (kp_place_by_rule T) (pa_cons (pv 0) (pa_cons (pv 1) (pa_cons (pv 2) (pa_cons (pv 3) (pa_cons (pv 4) pa_nil)))))))
      (pss_cons (ps_if (pt_cmpR op_notN (pv 7) pe_non (nomark _))
      (pss_one (ps_ret (pe_lst (pa_cons (pe_tup (pa_cons (pv 7) (pa_cons (pv 2) pa_nil))) pa_nil))))
      pss_nil)
      (pss_one ps_never)))))))), ?_⟩
    refine ⟨_, rfl, isi_str ⟨_, rfl, iteF ?_⟩⟩
    refine ⟨_, rfl, He.ga K "RULES", _, rfl, .inr (He.tupB_ok T.rules H), rfl, by rfl, _, rfl, ?_⟩
    have q1 : (!inV (V.str rule) ([He.Dv.str "behind", He.Dv.str "first", He.Dv.str "best", He.Dv.str "next"].map (He.Dv.v K))) = false := by
      show (!inV (V.str rule) [.str "behind", .str "first", .str "best", .str "next"]) = false
      rcases hru with rfl | rfl | rfl | rfl <;> decide +kernel
    rw [if_pos rfl, q1]
    refine iteF ?_
    refine ⟨_, rfl, many, 1, 10 ^ 40, rfl, by omega, m1, ?_⟩
    refine ⟨_, rfl, behind, 0, 10 ^ 40, rfl, b0, b1, ?_⟩
    refine ⟨_, rfl, after, 0, 10 ^ 40, rfl, a0, a1, ?_⟩
    refine ⟨_, rfl, _, rfl, need, 1, many, rfl, n0, n1, ?_⟩
    have big : (10 : Int) ^ 40 ≤ 10 ^ 50 := by decide +kernel
    refine ⟨_, rfl, _, rfl, _, rfl, _, rfl, _, rfl, rule, fr, ps, many, behind, after, rfl, hru, hfr, hn, b0, by omega, a0, by omega, fun H1 e1 => ?_⟩
    rw [hst]
    refine ⟨_, rfl, rfl, _, rfl, iteT ?_⟩
    refine ⟨_, rfl, _, rfl, (by show 2 ≤ sizeLine; decide), fun t ht => ⟨(by show 1 ≤ sizeLine; decide), fun m hm => ?_⟩⟩
    exact k _ m (Same.trans e1 (Same.trans (Same.upd_new ht) (Same.upd_new hm))) (Same.none e1 (Same.none (Same.upd_new ht) hm)) ⟨[t], upd_same, .cons (Same.upd_new hm _ _ upd_same) .nil⟩
/-! ### is_name -/
def isName (z : Str) : Prop := z = "a" ∨ z = "b" ∨ z = "c"
def sp_is_name : Sp := fun vs H Q _ => ∃ z : Str, vs = [.str z] ∧ isName z ∧ ∀ H', Same H H' → Q (.bl true) H'
theorem sc_is_name : FnScope ["thing", "letter"] ["thing"] (defScope s_is_name) := ⟨rfl, rfl, rfl, by decide +kernel, rfl, by decide +kernel, by decide +kernel⟩
theorem name_facts {z : Str} (h : isName z) : z.length = 1 ∧ z.cps.size = 1 ∧ ∀ c, z.cps[0]? = some c → decide (c ∈ (Str.ofString "abcdefghijklmnopqrstuvwxyz").cps.toList) = true := by
  rcases h with rfl | rfl | rfl
  · refine ⟨by decide +kernel, by decide +kernel, fun c e => ?_⟩
    rw [show (Str.ofString "a").cps[0]? = some 97 from by decide +kernel] at e
    cases e
    decide +kernel
  · refine ⟨by decide +kernel, by decide +kernel, fun c e => ?_⟩
    rw [show (Str.ofString "b").cps[0]? = some 98 from by decide +kernel] at e
    cases e
    decide +kernel
  · refine ⟨by decide +kernel, by decide +kernel, fun c e => ?_⟩
    rw [show (Str.ofString "c").cps[0]? = some 99 from by decide +kernel] at e
    cases e
    decide +kernel
theorem p_is_name (T : Txt K mg) : FnR P w K mg base CX0 1 (He.ga K "is_name") sp_is_name := by
  obtain ⟨fd, F⟩ := T.d_is_name
  refine mkR F (F.ok sc_is_name (fun vs H Q E h => ?_) fun cdv A outer s H vs Q E hr h => ?_) fun _ _ _ _ _ _ us hl => match us, hl with | [_], _ => rfl
  · obtain ⟨z, rfl, _⟩ := h
    rfl
  · obtain ⟨z, rfl, hz, k⟩ := h
    have nd := sc_is_name.nd
    refine ⟨_, (pss_cons (ps_if (PW.pt (pw_or (pt_not (pt_val (pe_isi T.f_isinstance T.f_str PyProof.Rows.boot_str (pv 0)))) (pw_or1 (pt_not (pt_chain op_le op_le pe_int (pe_callB call_len_str (by rfl) T.f_len PySem.boot_len (pa_cons (pv 0) pa_nil)) pe_int)))))
      (pss_one (ps_ret pe_bl))
      pss_nil)
      (pss_one (ps_ret (pe_callB (cr_all rfl) (by rfl) T.f_all (by decide +kernel) (pa_cons (pe_lc (own := [(Str.ofString "letter", 1)]) (g := gName 1) (tt := tYes) (te := tOp (fun x y H Q => ∃ (c : Nat) (z : Str), x = .str ⟨#[c]⟩ ∧ y = .str z ∧ Q (.bl (decide (c ∈ z.cps.toList))) H) (tVar 1) (tC (.str "abcdefghijklmnopqrstuvwxyz"))) rfl nd (pi_str (pv 0)) (blkOk_by (N := ["thing", "letter"]) (sc := defScope s_is_name) (by decide +kernel))
        (fun _ _ _ _ _ => (pg_name (i := 1) nd rfl (Or.inl rfl))) (fun _ _ _ _ _ => pts_nil) (fun _ _ _ _ _ => (pe_cmpR op_in_sign (pv 1) (pe_gstr T.i_SMALL) rfl))) pa_nil))))), ?_⟩
    obtain ⟨z1, z2, z3⟩ := name_facts hz
    refine ⟨_, rfl, isi_str ⟨_, rfl, iteF ?_⟩⟩
    refine ⟨_, rfl, z, rfl, by rw [z1]; decide, ?_⟩
    rw [z1]
    refine ⟨_, _, rfl, rfl, _, rfl, ?_⟩
    refine iteT ⟨_, _, rfl, rfl, _, rfl, ?_⟩
    refine iteF ⟨_, rfl, z, rfl, fun D hD => ?_⟩
    refine lc_it (walk_str (z := z)) (fun i H' => Same H H' ∧ H' D = some (.lst (List.replicate i (V.bl true)))) ⟨Same.upd_new hD, upd_same⟩ (fun _ _ _ _ => trivial) ?_ ?_
    · rintro i x H1 H2 hi ⟨e1, hl⟩ ⟨rfl, c, hc, rfl⟩
      rw [z2] at hi
      have i0 : i = 0 := by omega
      subst i0
      refine ⟨rfl, _, rfl, c, _, rfl, rfl, _, hl, (by show 0 < sizeLine; decide), Same.upd_wr e1 (by exact hD), ?_⟩
      rw [z3 c hc]
      exact upd_same
    · rintro H' ⟨e1, hl⟩
      rw [z2] at hl
      exact ⟨D, [true], rfl, SqL.of hl, k H' e1⟩
end
end GF

set_option Elab.async false
set_option linter.all false
set_option maxRecDepth 100000
set_option maxHeartbeats 4000000
namespace GF
open PySem PySem.Spec PyProof.Rows L2
section
variable {P : Program} {w : World} {K : PySem.W.Frag} {mg : Str → Option Value} {base : Heap}
theorem pfn {f : Str} {v : V} {fs : List (Str × V)} {n : Nat} (h : fs.length < n) : (putF f v fs).length < n + 1 := Nat.lt_of_le_of_lt (length_putF f v fs) (Nat.succ_lt_succ h)
theorem pf0 {n : Nat} : ([] : List (Str × V)).length < n + 1 := Nat.succ_pos n
/-! ## books -/
structure BookOk (lo hi t b : Int) : Prop where
  l1 : 1 ≤ lo
  l2 : lo ≤ hi
  l3 : hi ≤ 10 ^ 30
  t1 : 1 ≤ t
  t2 : t ≤ 100
  b1 : 1 ≤ b
  b2 : b ≤ 100
def sp_is_share : Sp := fun vs H Q _ => ∃ (sh : Addr) (t b : Int), vs = [.ref sh] ∧ H sh = some (.tup [.int t, .int b]) ∧ 1 ≤ t ∧ t ≤ 100 ∧ 1 ≤ b ∧ b ≤ 100 ∧ Q (.bl true) H
theorem sc_is_share : FnScope ["thing"] ["thing"] (defScope s_is_share) := ⟨rfl, rfl, rfl, by decide +kernel, rfl, by decide +kernel, by decide +kernel⟩
theorem p_is_share (T : Txt K mg) : FnR P w K mg base CX0 2 (He.ga K "is_share") sp_is_share := by
  obtain ⟨fd, F⟩ := T.d_is_share
  refine mkR F (F.ok sc_is_share (fun vs H Q E h => ?_) fun cdv A outer s H vs Q E hr h => ?_) fun _ _ _ _ _ _ us hl => match us, hl with | [_], _ => rfl
  · obtain ⟨sh, t, b, rfl, _⟩ := h
    rfl
  · obtain ⟨sh, t, b, rfl, hs, t1, t2, b1, b2, k⟩ := h
    refine ⟨_, (pss_cons (ps_if (PW.pt (pw_or (pt_not (pt_val (pe_isi T.f_isinstance T.f_tuple PyProof.Rows.boot_tuple (pv 0)))) (pw_or1 (pt_cmpR op_ne (pe_callB call_len_seq (by rfl) T.f_len PySem.boot_len (pa_cons (pv 0) pa_nil)) pe_int (nomark _)))))
      (pss_one (ps_ret pe_bl))
      pss_nil)
      (pss_one (ps_ret (pe_and (pe_callR (p_is_integer T) hr T.g_is_integer (kp_is_integer T) (pa_cons (pe_fst (pv 0)) (pa_cons pe_int (pa_cons (pe_gint T.i_MOST_SHARE) pa_nil)))) (pe_one (pe_callR (p_is_integer T) hr T.g_is_integer (kp_is_integer T) (pa_cons (pe_snd (pv 0)) (pa_cons pe_int (pa_cons (pe_gint T.i_MOST_SHARE) pa_nil))))))))), ?_⟩
    refine ⟨_, rfl, isi_tup hs ⟨_, rfl, iteF ?_⟩⟩
    refine ⟨_, rfl, sh, _, rfl, .inr (SqT.of hs), rfl, _, rfl, iteF ?_⟩
    refine ⟨_, rfl, sh, (t, some b), rfl, hs, t, 1, 100, rfl, ?_⟩
    rw [decide_eq_true t1, decide_eq_true t2]
    refine ⟨_, rfl, iteT ?_⟩
    refine ⟨_, rfl, sh, (t, some b), rfl, hs, b, 1, 100, rfl, ?_⟩
    rw [decide_eq_true b1, decide_eq_true b2]
    exact k
def sp_part_of : Sp := fun vs H Q _ => ∃ (sh : Addr) (t b h : Int), vs = [.ref sh, .int h] ∧ H sh = some (.tup [.int t, .int b]) ∧ 1 ≤ t ∧ t ≤ 100 ∧ 1 ≤ b ∧ b ≤ 100 ∧ Q (.int (partM t b h)) H
theorem sc_part_of : FnScope ["share", "hold", "top", "bottom"] ["share", "hold"] (defScope s_part_of) := ⟨rfl, rfl, rfl, by decide +kernel, rfl, by decide +kernel, by decide +kernel⟩
theorem p_part_of (T : Txt K mg) : FnR P w K mg base CX0 1 (He.ga K "part_of") sp_part_of := by
  obtain ⟨fd, F⟩ := T.d_part_of
  refine mkR F (F.ok sc_part_of (fun vs H Q E h => ?_) fun cdv A outer s H vs Q E hr h => ?_) fun _ _ _ _ _ _ us hl => match us, hl with | [_, _], _ => rfl
  · obtain ⟨sh, t, b, h, rfl, _⟩ := h
    rfl
  · obtain ⟨sh, t, b, h, rfl, hs, t1, t2, b1, b2, k⟩ := h
    have nd := sc_part_of.nd
    refine ⟨_, (pss_cons (ps_asg (pv 0) (pg_tup rfl (pgs_cons (pg_name (i := 2) nd rfl (Or.inl rfl)) (pgs_cons (pg_name (i := 3) nd rfl (Or.inl rfl)) pgs_nil))))
      (pss_one (ps_ret (pe_un un_neg (pe_op op_fdiv (pe_op op_mul (pe_un un_neg (pv 1)) (pv 2)) (pv 3)))))), ?_⟩
    refine ⟨_, rfl, sh, _, rfl, SqT.of hs, rfl, _, _, rfl, _, _, rfl, rfl, ?_⟩
    exact ⟨_, rfl, _, rfl, _, rfl, _, _, rfl, rfl, .inr ⟨by omega, by omega⟩, _, rfl, _, _, rfl, rfl, ⟨by omega, by omega⟩, _, rfl, k⟩
def sp_check_parts : Sp := fun vs H Q _ => ∃ (sh : Addr) (lo hi t b : Int) (z : Str), vs = [.int lo, .int hi, .ref sh, .str z] ∧ H sh = some (.tup [.int t, .int b]) ∧ BookOk lo hi t b ∧ Q .non H
theorem sc_check_parts : FnScope ["first", "roof", "share", "ahead"] ["first", "roof", "share", "ahead"] (defScope s_check_parts) := ⟨rfl, rfl, rfl, by decide +kernel, rfl, by decide +kernel, by decide +kernel⟩
theorem p_check_parts (T : Txt K mg) : FnR P w K mg base CX0 3 (He.ga K "check_parts") sp_check_parts := by
  obtain ⟨fd, F⟩ := T.d_check_parts
  refine mkR F (F.ok sc_check_parts (fun vs H Q E h => ?_) fun cdv A outer s H vs Q E hr h => ?_) fun _ _ _ _ _ _ us hl => match us, hl with | [_, _, _, _], _ => rfl
  · obtain ⟨sh, lo, hi, t, b, z, rfl, _⟩ := h
    rfl
  · obtain ⟨sh, lo, hi, t, b, z, rfl, hs, o, k⟩ := h
    refine ⟨_, (pss_cons (ps_if (pt_not (pt_val (pe_callR (p_is_integer T) (hr.mono (by decide)) T.g_is_integer (kp_is_integer T) (pa_cons (pv 0) (pa_cons pe_int (pa_cons (pe_gint T.i_MOST_GROWTH) pa_nil))))))
      (pss_one ps_never)
      pss_nil)
      (pss_cons (ps_if (PW.pt (pw_or (pt_not (pt_val (pe_callR (p_is_integer T) (hr.mono (by decide)) T.g_is_integer (kp_is_integer T) (pa_cons (pv 1) (pa_cons pe_int (pa_cons (pe_gint T.i_MOST_GROWTH) pa_nil)))))) (pw_or1 (pt_cmpR op_lt (pv 1) (pv 0) (nomark _)))))
      (pss_one ps_never)
      pss_nil)
      (pss_one (ps_if (pt_not (pt_val (pe_callR (p_is_share T) hr T.g_is_share (kp_is_share T) (pa_cons (pv 2) pa_nil))))
      (pss_one ps_never)
      pss_nil)))), ?_⟩
    have h1 := o.l1
    have h2 := o.l2
    have h3 := o.l3
    refine ⟨_, rfl, lo, 1, 10 ^ 30, rfl, _, rfl, ?_⟩
    rw [decide_eq_true o.l1, decide_eq_true (show lo ≤ 10 ^ 30 by omega)]
    refine iteF ⟨_, rfl, hi, 1, 10 ^ 30, rfl, _, rfl, ?_⟩
    rw [decide_eq_true (show 1 ≤ hi by omega), decide_eq_true o.l3]
    refine iteF ⟨_, rfl, _, rfl, _, _, rfl, rfl, _, rfl, ?_⟩
    rw [show decide (hi < lo) = false from decide_eq_false (by omega)]
    refine iteF ⟨_, rfl, sh, t, b, rfl, hs, o.t1, o.t2, o.b1, o.b2, _, rfl, iteF k⟩
def sp_Book_init (K : PySem.W.Frag) : Sp := fun vs H Q _ => ∃ (x dx sh : Addr) (lo hi t b : Int), vs = [.ref x, .int lo, .int hi, .ref sh] ∧ H x = some (.ins (cB K) dx []) ∧ H sh = some (.tup [.int t, .int b]) ∧ BookOk lo hi t b ∧
  ∀ H', (∀ b, b ≠ x → H' b = H b) → H' x = some (.ins (cB K) dx (bookFs lo hi sh)) → Q .non H'
theorem sc_Book_init : FnScope ["self", "first", "roof", "share"] ["self", "first", "roof", "share"] (defScope s_Book_init) := ⟨rfl, rfl, rfl, by decide +kernel, rfl, by decide +kernel, by decide +kernel⟩
theorem p_Book_init (T : Txt K mg) : ∃ fd, FnOk P w K mg base CX0 4 (He.ma K (He.ga K "Book") "__init__") fd ["self", "first", "roof", "share"] (sp_Book_init K) ∧ KBn K fd ["self", "first", "roof", "share"] 3 ["share"] (fun us ws => us ++ ws) (fun vs zs => vs ++ zs) := by
  obtain ⟨fd, F⟩ := T.d_Book_init
  refine ⟨fd, F.ok sc_Book_init (fun vs H Q E h => ?_) fun cdv A outer s H vs Q E hr h => ?_, kwN F 3 _ fun _ _ _ _ _ _ us ws l1 l2 => match us, ws, l1, l2 with | [_, _, _], [_], _, _ => rfl⟩
  · obtain ⟨x, dx, sh, lo, hi, t, b, rfl, _⟩ := h
    rfl
  · obtain ⟨x, dx, sh, lo, hi, t, b, rfl, hx, hs, o, k⟩ := h
    refine ⟨_, (pss_cons (ps_expr (pe_callR (p_check_parts T) hr T.g_check_parts (kp_check_parts T) (pa_cons (pv 1) (pa_cons (pv 2) (pa_cons (pv 3) (pa_cons pe_str pa_nil))))))
      (pss_cons (ps_fld (pv 0) (pv 1) rfl)
      (pss_cons (ps_fld (pv 0) (pv 2) rfl)
      (pss_one (ps_fld (pv 0) (pv 3) rfl))))), ?_⟩
    refine ⟨_, rfl, _, rfl, _, rfl, sh, lo, hi, t, b, _, rfl, hs, o, ?_⟩
    refine ⟨_, rfl, _, rfl, x, _, dx, _, rfl, hx, T.c_Book, T.n_Book_own_first, by decide, ?_⟩
    refine ⟨_, rfl, _, rfl, x, _, dx, _, rfl, upd_same, T.c_Book, T.n_Book_own_roof, pfn pf0, ?_⟩
    refine ⟨_, rfl, _, rfl, x, _, dx, _, rfl, upd_same, T.c_Book, T.n_Book_own_share, pfn (pfn pf0), ?_⟩
    refine k _ (fun b hb => by rw [upd_ne hb, upd_ne hb, upd_ne hb]) ?_
    rw [upd_same, fb_make]
def BookAt (K : PySem.W.Frag) (H : Hp) (r dx sh : Addr) (lo hi t b : Int) : Prop := H r = some (.ins (cB K) dx (bookFs lo hi sh)) ∧ H sh = some (.tup [.int t, .int b])
def sp_Book_given (K : PySem.W.Frag) : Sp := fun vs H Q _ => ∃ (r dx sh : Addr) (lo hi t b h : Int), vs = [.ref r, .int h] ∧ BookAt K H r dx sh lo hi t b ∧ BookOk lo hi t b ∧ Q (.int (stepM lo hi t b h)) H
theorem sc_Book_given : FnScope ["self", "hold", "many"] ["self", "hold"] (defScope s_Book_given) := ⟨rfl, rfl, rfl, by decide +kernel, rfl, by decide +kernel, by decide +kernel⟩
theorem p_Book_given (T : Txt K mg) : FnR P w K mg base CX0 2 (He.ma K (He.ga K "Book") "given") (sp_Book_given K) := by
  obtain ⟨fd, F⟩ := T.d_Book_given
  refine mkR F (F.ok sc_Book_given (fun vs H Q E h => ?_) fun cdv A outer s H vs Q E hr h => ?_) fun _ _ _ _ _ _ us hl => match us, hl with | [_, _], _ => rfl
  · obtain ⟨r, dx, sh, lo, hi, t, b, h, rfl, _⟩ := h
    rfl
  · obtain ⟨r, dx, sh, lo, hi, t, b, h, rfl, ⟨hb, hs⟩, o, k⟩ := h
    have nd := sc_Book_given.nd
    refine ⟨_, (pss_cons (ps_set (i := 2) nd rfl (Or.inl rfl) (pe_callR (p_part_of T) hr T.g_part_of (kp_part_of T) (pa_cons (pe_fld (pv 0) rfl) (pa_cons (pv 1) pa_nil))))
      (pss_cons (ps_if (pt_cmpR op_lt (pv 2) (pe_fld (pv 0) rfl) (nomark _))
      (pss_one (ps_ret (pe_fld (pv 0) rfl)))
      pss_nil)
      (pss_one (ps_ret (pe_ifExp (pt_cmpR op_lt (pv 2) (pe_fld (pv 0) rfl) (nomark _)) (pv 2) (pe_fld (pv 0) rfl)))))), ?_⟩
    refine ⟨_, rfl, r, _, dx, _, _, rfl, hb, T.c_Book, T.n_Book_own_share, fb_share, _, rfl, sh, t, b, h, rfl, hs, o.t1, o.t2, o.b1, o.b2, ?_⟩
    refine ⟨_, rfl, _, rfl, r, _, dx, _, _, rfl, hb, T.c_Book, T.n_Book_own_first, fb_first, _, _, rfl, rfl, _, rfl, ?_⟩
    unfold stepM at k
    show if decide (partM t b h < lo) = true then _ else _
    by_cases h1 : partM t b h < lo
    · rw [if_pos h1] at k
      rw [decide_eq_true h1]
      exact iteT ⟨_, rfl, r, _, dx, _, _, rfl, hb, T.c_Book, T.n_Book_own_first, fb_first, k⟩
    · rw [if_neg h1] at k
      rw [decide_eq_false h1]
      refine iteF ⟨_, rfl, _, rfl, r, _, dx, _, _, rfl, hb, T.c_Book, T.n_Book_own_roof, fb_roof, _, _, rfl, rfl, _, rfl, ?_⟩
      show if decide (partM t b h < hi) = true then _ else _
      by_cases h2 : partM t b h < hi
      · rw [if_pos h2] at k
        rw [decide_eq_true h2]
        exact iteT ⟨_, rfl, k⟩
      · rw [if_neg h2] at k
        rw [decide_eq_false h2]
        exact iteF ⟨_, rfl, r, _, dx, _, _, rfl, hb, T.c_Book, T.n_Book_own_roof, fb_roof, k⟩
theorem fb_given {lo hi : Int} {sh : Addr} : (bookFs lo hi sh).lookup (Str.ofString "given") = none := by kernel_rfl
def sp_Book_call (K : PySem.W.Frag) : Sp := fun vs H Q _ => ∃ (r dx sh : Addr) (lo hi t b h need : Int), vs = [.ref r, .int h, .int need] ∧ BookAt K H r dx sh lo hi t b ∧ BookOk lo hi t b ∧ 0 ≤ h ∧ h ≤ 10 ^ 40 ∧ 1 ≤ need ∧ need ≤ 10 ^ 40 ∧ Q (.int (askM lo hi t b h need)) H
theorem sc_Book_call : FnScope ["self", "hold", "need", "many"] ["self", "hold", "need"] (defScope s_Book_call) := ⟨rfl, rfl, rfl, by decide +kernel, rfl, by decide +kernel, by decide +kernel⟩
theorem p_Book_call (T : Txt K mg) : FnR P w K mg base CX0 3 (He.ma K (He.ga K "Book") "__call__") (sp_Book_call K) := by
  obtain ⟨fd, F⟩ := T.d_Book_call
  refine mkR F (F.ok sc_Book_call (fun vs H Q E h => ?_) fun cdv A outer s H vs Q E hr h => ?_) fun _ _ _ _ _ _ us hl => match us, hl with | [_, _, _], _ => rfl
  · obtain ⟨r, dx, sh, lo, hi, t, b, h, need, rfl, _⟩ := h
    rfl
  · obtain ⟨r, dx, sh, lo, hi, t, b, h, need, rfl, hb, o, h0, h1, n0, n1, k⟩ := h
    have nd := sc_Book_call.nd
    refine ⟨_, (pss_cons (ps_expr (pe_callR (p_check_integer T) hr T.g_check_integer (kp_check_integer T) (pa_cons (pv 1) (pa_cons pe_int (pa_cons (pe_gint T.i_MOST) pa_nil)))))
      (pss_cons (ps_expr (pe_callR (p_check_integer T) hr T.g_check_integer (kp_check_integer T) (pa_cons (pv 2) (pa_cons pe_int (pa_cons (pe_gint T.i_MOST) pa_nil)))))
      (pss_cons (ps_set (i := 3) nd rfl (Or.inl rfl) (pe_methG (pv 0) T.c_Book T.m_Book_given (p_Book_given T) hr (pa_cons (pv 1) pa_nil)))
      (pss_one (ps_ret (pe_ifExp (pt_cmpR op_gt (pv 3) (pv 2) (nomark _)) (pv 3) (pv 2))))))), ?_⟩
    refine ⟨_, rfl, h, 0, 10 ^ 40, rfl, h0, h1, ?_⟩
    refine ⟨_, rfl, need, 1, 10 ^ 40, rfl, n0, n1, ?_⟩
    refine ⟨_, rfl, r, dx, _, rfl, hb.1, fb_given, _, rfl, r, dx, sh, lo, hi, t, b, h, rfl, hb, o, ?_⟩
    refine ⟨_, rfl, _, rfl, _, _, rfl, rfl, _, rfl, ?_⟩
    unfold askM at k
    show if decide (stepM lo hi t b h > need) = true then _ else _
    by_cases h2 : stepM lo hi t b h > need
    · rw [if_pos h2] at k
      rw [decide_eq_true h2]
      exact iteT ⟨_, rfl, k⟩
    · rw [if_neg h2] at k
      rw [decide_eq_false h2]
      exact iteF ⟨_, rfl, k⟩
def sp_Book_twin (K : PySem.W.Frag) : Sp := fun vs H Q _ => ∃ (r dx sh : Addr) (lo hi t b : Int), vs = [.ref r] ∧ BookAt K H r dx sh lo hi t b ∧ BookOk lo hi t b ∧ ∀ (H' : Hp) (r' dx' : Addr), Same H H' → H r' = none → BookAt K H' r' dx' sh lo hi t b → Q (.ref r') H'
theorem sc_Book_twin : FnScope ["self"] ["self"] (defScope s_Book_twin) := ⟨rfl, rfl, rfl, by decide +kernel, rfl, by decide +kernel, by decide +kernel⟩
theorem p_Book_twin (T : Txt K mg) : FnR P w K mg base CX0 6 (He.ma K (He.ga K "Book") "twin") (sp_Book_twin K) := by
  obtain ⟨fd, F⟩ := T.d_Book_twin
  refine mkR F (F.ok sc_Book_twin (fun vs H Q E h => ?_) fun cdv A outer s H vs Q E hr h => ?_) fun _ _ _ _ _ _ us hl => match us, hl with | [_], _ => rfl
  · obtain ⟨r, dx, sh, lo, hi, t, b, rfl, _⟩ := h
    rfl
  · obtain ⟨r, dx, sh, lo, hi, t, b, rfl, hb, o, k⟩ := h
    obtain ⟨fd2, G, B⟩ := p_Book_init (P := P) (w := w) (base := base) T
    refine ⟨_, (pss_one (ps_ret (pe_makeN T.mk_Book G hr rfl T.g_Book B pass0 (pa_cons (pe_fld (pv 0) rfl) (pa_cons (pe_fld (pv 0) rfl) pa_nil)) (pk_cons (pe_fld (pv 0) rfl) pk_nil)))), ?_⟩
    refine ⟨_, rfl, r, _, dx, _, _, rfl, hb.1, T.c_Book, T.n_Book_own_first, fb_first, ?_⟩
    refine ⟨_, rfl, r, _, dx, _, _, rfl, hb.1, T.c_Book, T.n_Book_own_roof, fb_roof, ?_⟩
    refine ⟨_, rfl, r, _, dx, _, _, rfl, hb.1, T.c_Book, T.n_Book_own_share, fb_share, rfl, rfl, fun x ex hx hex hne => ?_⟩
    have e1 : Same H (upd (upd H ex (.own x)) x (.ins (cB K) ex [])) := Same.upd_wr (Same.upd_new hex) hx
    refine ⟨x, ex, sh, lo, hi, t, b, rfl, upd_same, e1 _ _ hb.2, o, fun H' hk hx' => ?_⟩
    have e2 : Same H H' := fun c u hc => by
      rw [hk c (ne_of_none hc hx)]
      exact e1 _ _ hc
    exact ⟨rfl, k H' x ex e2 hx ⟨hx', e2 _ _ hb.2⟩⟩
end
end GF

set_option Elab.async false
set_option linter.all false
set_option maxRecDepth 100000
set_option maxHeartbeats 4000000
namespace GF
open PySem PySem.Spec PyProof.Rows L2
/-! ## steps of the heap: what is not at M stands; joined's code table stands -/
structure Stp (K : PySem.W.Frag) (M : List Addr) (H H' : Hp) : Prop where
  chg : Chg M H H'
  tab : Tab K H → Tab K H'
section
variable {K : PySem.W.Frag} {M N : List Addr} {H H1 H2 H' : Hp}
theorem Stp.of_same (e : Same H H') : Stp K M H H' := ⟨.of_same e, fun t => t.ext e⟩
theorem Stp.of_ext (e : LamX.ExtN H H') (t : Tab K H') : Stp K M H H' := ⟨.of_ext e, fun _ => t⟩
theorem Stp.refl : Stp K M H H := .of_same (Same.refl H)
theorem Stp.trans (a : Stp K M H H1) (b : Stp K M H1 H2) : Stp K M H H2 := ⟨a.chg.trans b.chg, fun t => b.tab (a.tab t)⟩
theorem Stp.mono (a : Stp K M H H') (h : ∀ b ∈ M, b ∈ N) : Stp K N H H' := ⟨a.chg.mono h, a.tab⟩
theorem Stp.upd {p : Addr} {o o' : HO} (h : H p = some o) (n1 : ∀ xs, o ≠ .tup xs) (n2 : ∀ ps, o ≠ .tbl ps) (n3 : ∀ φ, o ≠ .ext φ) : Stp K [p] H (L2.upd H p o') where
  chg := ⟨fun b u e m _ => by rw [upd_ne (by simpa using m)]; exact e, fun b xs e => by rw [upd_ne (ne_of e h (fun z => n1 xs z.symm))]; exact e⟩
  tab := fun t => tab_but (N := (· = p)) t (fun b o e n => by rw [upd_ne n]; exact e) fun b hb => ⟨o, by rw [hb]; exact h, n2, n3⟩
theorem Stp.drop {p : Addr} (a : Stp K (p :: M) H H') (h : H p = none) : Stp K M H H' :=
  ⟨⟨fun b o e m n => a.chg.keep b o e (fun z => (List.mem_cons.mp z).elim (fun z => ne_of_none e h z) m) n, a.chg.tups⟩, a.tab⟩
theorem Stp.ins {C dx : Addr} {fs : List (Str × V)} {p : Addr} {o : HO} (h : H p = some (.ins C dx fs)) : Stp K [p] H (L2.upd H p o) := .upd h (fun _ z => nomatch z) (fun _ z => nomatch z) (fun _ z => nomatch z)
theorem Stp.lst {xs : List V} {p : Addr} {o : HO} (h : H p = some (.lst xs)) : Stp K [p] H (L2.upd H p o) := .upd h (fun _ z => nomatch z) (fun _ z => nomatch z) (fun _ z => nomatch z)
theorem Stp.dK {kvs : List (Key × V)} {p : Addr} {o : HO} (h : H p = some (.dK kvs)) : Stp K [p] H (L2.upd H p o) := .upd h (fun _ z => nomatch z) (fun _ z => nomatch z) (fun _ z => nomatch z)
theorem Stp.keep_ins (a : Stp K M H H') {p C dx : Addr} {fs : List (Str × V)} (h : H p = some (.ins C dx fs)) (m : p ∉ M) : H' p = some (.ins C dx fs) := a.chg.keep _ _ h m fun _ z => nomatch z
theorem Stp.keep_lst (a : Stp K M H H') {p : Addr} {xs : List V} (h : H p = some (.lst xs)) (m : p ∉ M) : H' p = some (.lst xs) := a.chg.keep _ _ h m fun _ z => nomatch z
theorem Stp.keep_dK (a : Stp K M H H') {p : Addr} {xs : List (Key × V)} (h : H p = some (.dK xs)) (m : p ∉ M) : H' p = some (.dK xs) := a.chg.keep _ _ h m fun _ z => nomatch z
theorem Stp.pl (a : Stp K M H H') {l : Addr} {ps : List P2} (h : PL H l ps) (m : l ∉ M) : PL H' l ps := h.chg a.chg m
end
theorem fin_snoc (q : List R2i) (r : R2i) : (q ++ [r]).map fin = q.map fin ++ [fin r] := by rw [List.map_append]; rfl
/-- a list of pairs that ends with p -/
theorem TupsAt.unsnoc {H : Hp} {p : P2} : ∀ {ps : List P2} {ts : List Addr}, TupsAt H ts (ps ++ [p]) → ∃ ts0 t, ts = ts0 ++ [t] ∧ TupsAt H ts0 ps ∧ H t = some (.tup (pairV p))
  | [], _, .cons r .nil => ⟨[], _, rfl, .nil, r⟩
  | q :: ps, _, .cons r h => by
    obtain ⟨ts0, t, e, h1, h2⟩ := TupsAt.unsnoc h
    exact ⟨_ :: ts0, t, by rw [e]; rfl, .cons r h1, h2⟩
theorem split_last {α : Type} : ∀ {l : List α}, l ≠ [] → ∃ q r, l = q ++ [r] := fun {l} h => ⟨l.dropLast, l.getLast h, (List.dropLast_concat_getLast h).symm⟩
theorem last_snoc {α : Type} (q : List α) (r : α) : (q ++ [r])[(q ++ [r]).length - 1]? = some r := by
  rw [List.length_append, List.length_singleton, Nat.add_sub_cancel, List.getElem?_append_right (Nat.le_refl _), Nat.sub_self]
  rfl
section
variable {P : Program} {w : World} {K : PySem.W.Frag} {mg : Str → Option Value} {base : Heap}
/-! ## files -/
def sp_File_init (K : PySem.W.Frag) : Sp := fun vs H Q _ => ∃ (x dx p : Addr) (name : Str), vs = [.ref x, .ref p, .str name] ∧ H x = some (.ins (cF K) dx []) ∧
  ∀ (H' : Hp) (l : Addr), (∀ b o, H b = some o → b ≠ x → H' b = some o) → H l = none → H' x = some (.ins (cF K) dx (fileFs p l name 0 0 true)) → H' l = some (.lst []) → Q .non H'
theorem sc_File_init : FnScope ["self", "disk", "name"] ["self", "disk", "name"] (defScope s_File_init) := ⟨rfl, rfl, rfl, by decide +kernel, rfl, by decide +kernel, by decide +kernel⟩
theorem p_File_init (T : Txt K mg) : FnR P w K mg base CX0 1 (He.ma K (He.ga K "File") "__init__") (sp_File_init K) := by
  obtain ⟨fd, F⟩ := T.d_File_init
  refine mkR F (F.ok sc_File_init (fun vs H Q E h => ?_) fun cdv A outer s H vs Q E hr h => ?_) fun _ _ _ _ _ _ us hl => match us, hl with | [_, _, _], _ => rfl
  · obtain ⟨x, dx, p, name, rfl, _⟩ := h
    rfl
  · obtain ⟨x, dx, p, name, rfl, hx, k⟩ := h
    refine ⟨_, (pss_cons (ps_fld (pv 0) (pv 1) rfl)
      (pss_cons (ps_fld (pv 0) (pv 2) rfl)
      (pss_cons (ps_fld (pv 0) pe_int rfl)
      (pss_cons (ps_fld (pv 0) pe_int rfl)
      (pss_cons (ps_fld (pv 0) pe_int rfl)
      (pss_cons (ps_fld (pv 0) pe_bl rfl)
      (pss_one (ps_fld (pv 0) (pe_lst pa_nil) rfl)))))))), ?_⟩
    refine ⟨_, rfl, _, rfl, x, _, dx, _, rfl, hx, T.c_File, T.n_File_disk, pf0, ?_⟩
    refine ⟨_, rfl, _, rfl, x, _, dx, _, rfl, upd_same, T.c_File, T.n_File_name, pfn pf0, ?_⟩
    refine ⟨_, rfl, x, _, dx, _, rfl, upd_same, T.c_File, T.n_File_size, pfn (pfn pf0), ?_⟩
    refine ⟨_, rfl, x, _, dx, _, rfl, upd_same, T.c_File, T.n_File_hold, pfn (pfn (pfn pf0)), ?_⟩
    refine ⟨_, rfl, x, _, dx, _, rfl, upd_same, T.c_File, T.n_File_waiting, pfn (pfn (pfn (pfn pf0))), ?_⟩
    refine ⟨_, rfl, x, _, dx, _, rfl, upd_same, T.c_File, T.n_File_is_open, pfn (pfn (pfn (pfn (pfn pf0)))), ?_⟩
    refine ⟨Nat.zero_le _, fun l hl => ?_⟩
    have hlx : x ≠ l := ne_of_none upd_same hl
    have hl0 : H l = none := by
      rw [upd_ne hlx.symm, upd_ne hlx.symm, upd_ne hlx.symm, upd_ne hlx.symm, upd_ne hlx.symm, upd_ne hlx.symm] at hl
      exact hl
    refine ⟨_, rfl, x, _, dx, _, rfl, by rw [upd_ne hlx]; exact upd_same, T.c_File, T.n_File_runs_held, pfn (pfn (pfn (pfn (pfn (pfn pf0))))), ?_⟩
    refine k _ l (fun b o hb n => ?_) hl0 ?_ ?_
    · rw [upd_ne n, upd_ne (ne_of_none hb hl0), upd_ne n, upd_ne n, upd_ne n, upd_ne n, upd_ne n, upd_ne n]
      exact hb
    · rw [upd_same, ff_make]
    · rw [upd_ne hlx.symm, upd_same]
/-! ### idle, pieces -/
def sp_File_idle (K : PySem.W.Frag) : Sp := fun vs H Q _ => ∃ (a dx p l : Addr) (name : Str) (size hold : Int) (op : Bool), vs = [.ref a] ∧ H a = some (.ins (cF K) dx (fileFs p l name size hold op)) ∧ Q (.int (hold - size)) H
theorem sc_File_idle : FnScope ["self"] ["self"] (defScope s_File_idle) := ⟨rfl, rfl, rfl, by decide +kernel, rfl, by decide +kernel, by decide +kernel⟩
theorem p_File_idle (T : Txt K mg) : ∃ fd, FnOk P w K mg base CX0 1 (idG K) fd ["self"] (sp_File_idle K) ∧ Binds K fd ["self"] [] := by
  obtain ⟨fd, F⟩ := T.d_idle
  refine ⟨fd, F.ok sc_File_idle (fun vs H Q E h => ?_) fun cdv A outer s H vs Q E hr h => ?_, F.binds fun _ _ _ _ _ _ us hl => match us, hl with | [_], _ => rfl⟩
  · obtain ⟨a, dx, p, l, name, size, hold, op, rfl, _⟩ := h
    rfl
  · obtain ⟨a, dx, p, l, name, size, hold, op, rfl, ha, k⟩ := h
    refine ⟨_, (pss_one (ps_ret (pe_op op_sub (pe_fld (pv 0) rfl) (pe_fld (pv 0) rfl)))), ?_⟩
    exact ⟨_, rfl, a, _, dx, _, _, rfl, ha, T.c_File, T.n_File_hold, ff_hold, _, rfl, a, _, dx, _, _, rfl, ha, T.c_File, T.n_File_size, ff_size, _, _, rfl, rfl, k⟩
def sp_File_pieces (K : PySem.W.Frag) : Sp := fun vs H Q _ => ∃ (a dx p l : Addr) (name : Str) (size hold : Int) (op : Bool) (ps : List P2), vs = [.ref a] ∧ H a = some (.ins (cF K) dx (fileFs p l name size hold op)) ∧ PL H l ps ∧ ∀ (H' : Hp) (q : Addr), Same H H' → H q = none → PL H' q ps → Q (.ref q) H'
theorem sc_File_pieces : FnScope ["self"] ["self"] (defScope s_File_pieces) := ⟨rfl, rfl, rfl, by decide +kernel, rfl, by decide +kernel, by decide +kernel⟩
theorem p_File_pieces (T : Txt K mg) : FnR P w K mg base CX0 1 (He.ma K (He.ga K "File") "pieces") (sp_File_pieces K) := by
  obtain ⟨fd, F⟩ := T.d_File_pieces
  refine mkR F (F.ok sc_File_pieces (fun vs H Q E h => ?_) fun cdv A outer s H vs Q E hr h => ?_) fun _ _ _ _ _ _ us hl => match us, hl with | [_], _ => rfl
  · obtain ⟨a, dx, p, l, name, size, hold, op, ps, rfl, _⟩ := h
    rfl
  · obtain ⟨a, dx, p, l, name, size, hold, op, ps, rfl, ha, ⟨ts, hl, ht⟩, k⟩ := h
    refine ⟨_, (pss_one (ps_ret (pe_callTy call_list_of (by rfl) T.f_list PyProof.Rows.boot_list (pa_cons (pe_fld (pv 0) rfl) pa_nil)))), ?_⟩
    exact ⟨_, rfl, a, _, dx, _, _, rfl, ha, T.c_File, T.n_File_runs_held, ff_runs, l, _, rfl, .inl (SqL.of hl), fun q hq => k _ q (Same.upd_new hq) hq ⟨ts, upd_same, ht.ext fun b xs z => Same.upd_new hq _ _ z⟩⟩
/-! ### put_behind -/
def sp_put (K : PySem.W.Frag) : Sp := fun vs H Q _ => ∃ (a dx p l r : Addr) (name : Str) (size hold st len : Int) (op : Bool) (rs : List R2i), vs = [.ref a, .ref r] ∧ H a = some (.ins (cF K) dx (fileFs p l name size hold op)) ∧ PL H l (rs.map fin) ∧ PL H r [(st, some len)] ∧ r ≠ l ∧ rs.length ≤ 1000 ∧
  ∀ H', Stp K [a, l] H H' → H' a = some (.ins (cF K) dx (fileFs p l name size (hold + len) op)) → PL H' l ((putM rs (st, len)).map fin) → Q .non H'
theorem sc_put : FnScope ["self", "runs", "start", "length"] ["self", "runs"] (defScope s_File_put_behind) := ⟨rfl, rfl, rfl, by decide +kernel, rfl, by decide +kernel, by decide +kernel⟩
theorem put_snoc (q : List R2i) (r x : R2i) : putM (q ++ [r]) x = if r.1 + r.2 = x.1 then q ++ [(r.1, r.2 + x.2)] else q ++ [r] ++ [x] := by
  unfold putM
  rw [List.getLast?_concat]
  show (if r.1 + r.2 = x.1 then _ else _) = _
  congr 1
  rw [List.length_append, List.length_singleton, Nat.add_sub_cancel, List.set_append_right _ _ (Nat.le_refl _), Nat.sub_self]
  rfl
theorem p_put (T : Txt K mg) : FnR P w K mg base CX0 1 (He.ma K (He.ga K "File") "put_behind") (sp_put K) := by
  obtain ⟨fd, F⟩ := T.d_File_put_behind
  refine mkR F (F.ok sc_put (fun vs H Q E h => ?_) fun cdv A outer s H vs Q E hr h => ?_) fun _ _ _ _ _ _ us hl => match us, hl with | [_, _], _ => rfl
  · obtain ⟨a, dx, p, l, r, name, size, hold, st, len, op, rs, rfl, _⟩ := h
    rfl
  · obtain ⟨a, dx, p, l, r, name, size, hold, st, len, op, rs, rfl, ha, hl, hr0, hne, hn, k⟩ := h
    have nd := sc_put.nd
    obtain ⟨ts, hl1, ht⟩ := hl
    obtain ⟨us, hr1, hu⟩ := hr0
    have hal : a ≠ l := ne_of ha hl1 fun z => nomatch z
    have har : a ≠ r := ne_of ha hr1 fun z => nomatch z
    refine ⟨_, (pss_one (ps_for PassesOwn.never rfl (pi_list (pv 1)) (pg_tup rfl (pgs_cons (pg_name (i := 2) nd rfl (Or.inl rfl)) (pgs_cons (pg_name (i := 3) nd rfl (Or.inl rfl)) pgs_nil)))
      (pss_cons (ps_fldaug (pv 0) (pv 3) in_add)
        (pss_one (ps_if (PW.pt (pw_and (pt_cmpR op_gt (pe_callB call_len_seq (by rfl) T.f_len PySem.boot_len (pa_cons (pe_fld (pv 0) rfl) pa_nil)) pe_int (nomark _)) (pw_and1 (pt_cmpR op_eq (pe_callB (cr_sumT rfl) (by rfl) T.f_sum (by decide +kernel) (pa_cons (pe_last (pe_fld (pv 0) rfl)) pa_nil)) (pv 2) (nomark _)))))
        (pss_one (ps_asg (pe_tup (pa_cons (pe_fst (pe_last (pe_fld (pv 0) rfl))) (pa_cons (pe_op op_add (pe_snd (pe_last (pe_fld (pv 0) rfl))) (pv 3)) pa_nil))) (pg_sub (pe_fld (pv 0) rfl) (pe_un un_neg pe_int) set_list)))
        (pss_one (ps_expr (pe_bm PySem.F.plainAttrs_list PySem.F.slot_list_append PySem.F.type_list_append mt_append (pe_fld (pv 0) rfl) (pa_cons (pe_tup (pa_cons (pv 2) (pa_cons (pv 3) pa_nil))) pa_nil))))))))), ?_⟩
    refine ⟨_, rfl, r, rfl, ⟨_, SqL.of hr1⟩, for_list (K := K) (a := r) (xs := us.map V.ref) (fun i σ H' => (i = 0 → H' = H ∧ ∃ v2 v3 : Option V, σ = [some (.ref a), some (.ref r), v2, v3]) ∧ (0 < i → Stp K [a, l] H H' ∧ H' a = some (.ins (cF K) dx (fileFs p l name size (hold + len) op)) ∧ PL H' l ((putM rs (st, len)).map fin)))
      ⟨fun _ => ⟨rfl, none, none, rfl⟩, fun z => absurd z (Nat.lt_irrefl _)⟩ ?_ ?_ ?_⟩
    · rintro i σ H' hi ⟨h1, h2⟩
      by_cases h0 : i = 0
      · obtain ⟨e, _⟩ := h1 h0
        rw [e]
        exact SqL.of hr1
      · obtain ⟨e, _⟩ := h2 (Nat.pos_of_ne_zero h0)
        exact SqL.of (e.keep_lst hr1 (by simp [har.symm, hne]))
    · rintro i y σ H' hy ⟨h1, _⟩
      obtain ⟨t, q, rfl, hq1, hq2⟩ := pl_item hu hy
      have i0 : i = 0 := by
        have z := (List.getElem?_eq_some_iff.mp hq1).1
        simp only [List.length_cons, List.length_nil] at z
        omega
      subst i0
      obtain ⟨rfl, v2, v3, rfl⟩ := h1 rfl
      have hq : q = (st, some len) := (Option.some.inj hq1).symm
      subst hq
      refine ⟨t, _, rfl, SqT.of hq2, rfl, _, _, rfl, _, _, rfl, rfl, ?_⟩
      refine ⟨_, rfl, a, _, dx, _, _, rfl, ha, T.c_File, T.n_File_hold, ff_hold, _, rfl, _, _, rfl, rfl, dx, _, ha, by rw [ff_len]; decide, ?_⟩
      rw [ff_put_hold]
      have s1 : Stp K [a, l] H' (upd H' a (.ins (cF K) dx (fileFs p l name size (hold + len) op))) := (Stp.ins ha).mono (by simp)
      have hl2 : (upd H' a (.ins (cF K) dx (fileFs p l name size (hold + len) op))) l = some (.lst (ts.map V.ref)) := by rw [upd_ne hal.symm]; exact hl1
      have ht2 : TupsAt (upd H' a (.ins (cF K) dx (fileFs p l name size (hold + len) op))) ts (rs.map fin) := ht.ext s1.chg.tups
      have ha2 : (upd H' a (.ins (cF K) dx (fileFs p l name size (hold + len) op))) a = some (.ins (cF K) dx (fileFs p l name size (hold + len) op)) := upd_same
      generalize upd H' a (.ins (cF K) dx (fileFs p l name size (hold + len) op)) = H1 at s1 hl2 ht2 ha2 ⊢
      have hlen : ts.length ≤ 1000 := by rw [ht.length, List.length_map]; exact hn
      refine ⟨_, rfl, a, _, dx, _, _, rfl, ha2, T.c_File, T.n_File_runs_held, ff_runs, l, _, rfl, .inl (SqL.of hl2), _, _, rfl, rfl, _, rfl, ?_⟩
      by_cases hrs : rs = []
      · subst hrs
        have hts : ts = [] := List.eq_nil_of_length_eq_zero ht.length
        subst hts
        refine iteF (iteF ⟨_, rfl, a, _, dx, _, _, rfl, ha2, T.c_File, T.n_File_runs_held, ff_runs, .inl ⟨rfl, _, SqL.of hl2⟩, _, rfl, _, rfl, (by show 2 ≤ sizeLine; decide), fun t2 ht3 => ?_⟩)
        have hl3 : (upd H1 t2 (.tup [.int st, .int len])) l = some (.lst []) := Same.upd_new ht3 _ _ hl2
        refine ⟨l, _, _, rfl, rfl, hl3, by decide, fun z => absurd z (Nat.succ_ne_zero _), fun _ => ?_⟩
        have s2 : Stp K [a, l] H1 (upd H1 t2 (.tup [.int st, .int len])) := .of_same (Same.upd_new ht3)
        have s3 : Stp K [a, l] (upd H1 t2 (.tup [.int st, .int len])) (upd (upd H1 t2 (.tup [.int st, .int len])) l (.lst [V.ref t2])) := (Stp.lst hl3).mono (by simp)
        refine ⟨s1.trans (s2.trans s3), by rw [upd_ne hal]; exact Same.upd_new ht3 _ _ ha2, [t2], upd_same, .cons ?_ .nil⟩
        exact s3.chg.tups _ _ upd_same
      · obtain ⟨q, lr, hql⟩ := split_last hrs
        subst hql
        rw [List.map_append, List.map_singleton] at ht2
        obtain ⟨ts0, u, e0, ht3, hu3⟩ := ht2.unsnoc
        subst e0
        have hlast : (List.map V.ref (ts0 ++ [u]))[(List.map V.ref (ts0 ++ [u])).length - 1]? = some (V.ref u) := by rw [List.map_append]; exact last_snoc _ _
        have hgt : decide ((((List.map V.ref (ts0 ++ [u])).length : Nat) : Int) > 0) = true := decide_eq_true (by rw [List.length_map, List.length_append, List.length_singleton]; omega)
        refine (show (if decide ((((List.map V.ref (ts0 ++ [u])).length : Nat) : Int) > 0) = true then _ else _) from ?_)
        rw [hgt]
        refine iteT ⟨_, rfl, a, _, dx, _, _, rfl, ha2, T.c_File, T.n_File_runs_held, ff_runs, l, _, V.ref u, rfl, hl2, hlast, u, [lr.1, lr.2], rfl, SqT.of hu3, _, rfl, rfl, _, rfl, ?_⟩
        have hsum : [lr.1, lr.2].sum = lr.1 + lr.2 := by simp
        rw [hsum, put_snoc]
        by_cases h : lr.1 + lr.2 = st
        · rw [if_pos h, decide_eq_true (show V.int (lr.1 + lr.2) = V.int st by rw [h])]
          refine iteT ⟨_, rfl, a, _, dx, _, _, rfl, ha2, T.c_File, T.n_File_runs_held, ff_runs, l, _, V.ref u, rfl, hl2, hlast, u, fin lr, rfl, hu3, ?_⟩
          refine ⟨_, rfl, a, _, dx, _, _, rfl, ha2, T.c_File, T.n_File_runs_held, ff_runs, l, _, V.ref u, rfl, hl2, hlast, u, fin lr, rfl, hu3, _, rfl, _, _, rfl, rfl, (by show 2 ≤ sizeLine; decide), fun t2 ht4 => ?_⟩
          have hl3 : (upd H1 t2 (.tup [.int lr.1, .int (lr.2 + len)])) l = some (.lst (List.map V.ref (ts0 ++ [u]))) := Same.upd_new ht4 _ _ hl2
          have ha3 := Same.upd_new (o := .tup [.int lr.1, .int (lr.2 + len)]) ht4 _ _ ha2
          refine ⟨_, rfl, a, _, dx, _, _, rfl, ha3, T.c_File, T.n_File_runs_held, ff_runs, 1, rfl, l, _, (-1), (List.map V.ref (ts0 ++ [u])).length - 1, rfl, rfl, hl3, ixN_last (by rw [List.length_map, List.length_append, List.length_singleton]; exact Nat.succ_pos _), fun z => absurd z (Nat.succ_ne_zero _), fun _ => ?_⟩
          have s2 : Stp K [a, l] H1 (upd H1 t2 (.tup [.int lr.1, .int (lr.2 + len)])) := .of_same (Same.upd_new ht4)
          have e5 : (List.map V.ref (ts0 ++ [u])).set ((List.map V.ref (ts0 ++ [u])).length - 1) (V.ref t2) = List.map V.ref (ts0 ++ [t2]) := by
            rw [List.map_append, List.map_append, List.map_singleton, List.length_append, List.length_singleton, Nat.add_sub_cancel, List.set_append_right _ _ (Nat.le_refl _), Nat.sub_self]
            rfl
          rw [e5]
          have s3 : Stp K [a, l] (upd H1 t2 (.tup [.int lr.1, .int (lr.2 + len)])) (upd (upd H1 t2 (.tup [.int lr.1, .int (lr.2 + len)])) l (.lst (List.map V.ref (ts0 ++ [t2])))) := (Stp.lst hl3).mono (by simp)
          refine ⟨s1.trans (s2.trans s3), by rw [upd_ne hal]; exact ha3, ts0 ++ [t2], upd_same, ?_⟩
          rw [fin_snoc]
          exact TupsAt.snoc (t := t2) (p := fin (lr.1, lr.2 + len)) (s3.chg.tups t2 (pairV (fin (lr.1, lr.2 + len))) upd_same) (ht3.ext (s2.trans s3).chg.tups)
        · rw [if_neg h, decide_eq_false (show V.int (lr.1 + lr.2) ≠ V.int st from fun z => h (by injection z))]
          refine iteF ⟨_, rfl, a, _, dx, _, _, rfl, ha2, T.c_File, T.n_File_runs_held, ff_runs, .inl ⟨rfl, _, SqL.of hl2⟩, _, rfl, _, rfl, (by show 2 ≤ sizeLine; decide), fun t2 ht4 => ?_⟩
          have hl3 : (upd H1 t2 (.tup [.int st, .int len])) l = some (.lst (List.map V.ref (ts0 ++ [u]))) := Same.upd_new ht4 _ _ hl2
          have ha3 := Same.upd_new (o := .tup [.int st, .int len]) ht4 _ _ ha2
          refine ⟨l, _, _, rfl, rfl, hl3, by rw [List.length_map]; exact big1 (by omega), fun z => absurd z (Nat.succ_ne_zero _), fun _ => ?_⟩
          have s2 : Stp K [a, l] H1 (upd H1 t2 (.tup [.int st, .int len])) := .of_same (Same.upd_new ht4)
          have e5 : List.map V.ref (ts0 ++ [u]) ++ [V.ref t2] = List.map V.ref (ts0 ++ [u] ++ [t2]) := by
            rw [List.map_append (l₁ := ts0 ++ [u])]
            rfl
          rw [e5]
          have s3 : Stp K [a, l] (upd H1 t2 (.tup [.int st, .int len])) (upd (upd H1 t2 (.tup [.int st, .int len])) l (.lst (List.map V.ref (ts0 ++ [u] ++ [t2])))) := (Stp.lst hl3).mono (by simp)
          refine ⟨s1.trans (s2.trans s3), by rw [upd_ne hal]; exact ha3, ts0 ++ [u] ++ [t2], upd_same, ?_⟩
          rw [fin_snoc, fin_snoc]
          exact TupsAt.snoc (t := t2) (p := fin (st, len)) (s3.chg.tups t2 (pairV (fin (st, len))) upd_same) ((TupsAt.snoc hu3 ht3).ext (s2.trans s3).chg.tups)
    · rintro σ H' ⟨_, h2⟩
      obtain ⟨e1, e2, e3⟩ := h2 (by rw [List.length_map, hu.length]; exact Nat.succ_pos _)
      exact k H' e1 e2 e3
/-! ### cut_idle -/
theorem cut_snoc (q : List R2i) (r : R2i) (left : Int) : cutM (q ++ [r]) left = if left ≤ 0 then q ++ [r] else if r.2 > left then q ++ [(r.1, r.2 - left)] else cutM q (left - r.2) := by
  unfold cutM
  rw [List.reverse_append, List.reverse_singleton, List.singleton_append]
  show (if left ≤ 0 then r :: q.reverse else if r.2 > left then (r.1, r.2 - left) :: q.reverse else cutR q.reverse (left - r.2)).reverse = _
  split
  · simp
  · split
    · simp
    · rfl
theorem cut_le (rs : List R2i) (left : Int) (h : left ≤ 0) : cutM rs left = rs := by
  by_cases e : rs = []
  · subst e
    rfl
  · obtain ⟨q, r, e⟩ := split_last e
    rw [e, cut_snoc, if_pos h]
theorem hold_snoc (q : List R2i) (r : R2i) : holdM (q ++ [r]) = holdM q + r.2 := by
  unfold holdM
  rw [List.map_append, List.sum_append]
  simp
def sp_cut (K : PySem.W.Frag) : Sp := fun vs H Q _ => ∃ (a dx p l : Addr) (name : Str) (size hold : Int) (op : Bool) (rs : List R2i), vs = [.ref a] ∧ H a = some (.ins (cF K) dx (fileFs p l name size hold op)) ∧ PL H l (rs.map fin) ∧ rs.length ≤ 1000 ∧ (∀ r ∈ rs, 1 ≤ r.2) ∧ hold - size ≤ holdM rs ∧
  ∀ H', Stp K [a, l] H H' → H' a = some (.ins (cF K) dx (fileFs p l name size size op)) → PL H' l ((cutM rs (hold - size)).map fin) → Q (.int (hold - size)) H'
theorem sc_cut : FnScope ["self", "many", "left", "start", "length"] ["self"] (defScope s_File_cut_idle) := ⟨rfl, rfl, rfl, by decide +kernel, rfl, by decide +kernel, by decide +kernel⟩
theorem p_cut (T : Txt K mg) : FnR P w K mg base CX0 1 (He.ma K (He.ga K "File") "cut_idle") (sp_cut K) := by
  obtain ⟨fd, F⟩ := T.d_File_cut_idle
  refine mkR F (F.ok sc_cut (fun vs H Q E h => ?_) fun cdv A outer s H vs Q E hr h => ?_) fun _ _ _ _ _ _ us hl => match us, hl with | [_], _ => rfl
  · obtain ⟨a, dx, p, l, name, size, hold, op, rs, rfl, _⟩ := h
    rfl
  · obtain ⟨a, dx, p, l, name, size, hold, op, rs, rfl, ha, hl, hn, hpos, hle, k⟩ := h
    have nd := sc_cut.nd
    have hal : a ≠ l := by
      obtain ⟨ts, hl1, _⟩ := hl
      exact ne_of ha hl1 fun z => nomatch z
    refine ⟨_, (pss_cons (ps_set (i := 1) nd rfl (Or.inl rfl) (pe_op op_sub (pe_fld (pv 0) rfl) (pe_fld (pv 0) rfl)))
      (pss_cons (ps_set (i := 2) nd rfl (Or.inl rfl) (pv 1))
      (pss_cons (ps_while PassesOwn.never (pt_cmpR op_gt (pv 2) pe_int (nomark _))
      (pss_cons (ps_asg (pe_bm0 PySem.F.plainAttrs_list PySem.F.slot_list_pop PySem.F.type_list_pop mt_pop (pe_fld (pv 0) rfl)) (pg_tup rfl (pgs_cons (pg_name (i := 3) nd rfl (Or.inl rfl)) (pgs_cons (pg_name (i := 4) nd rfl (Or.inl rfl)) pgs_nil))))
        (pss_one (ps_if (pt_cmpR op_gt (pv 4) (pv 2) (nomark _))
        (pss_cons (ps_expr (pe_bm PySem.F.plainAttrs_list PySem.F.slot_list_append PySem.F.type_list_append mt_append (pe_fld (pv 0) rfl) (pa_cons (pe_tup (pa_cons (pv 3) (pa_cons (pe_op op_sub (pv 4) (pv 2)) pa_nil))) pa_nil)))
          (pss_one (ps_set (i := 2) nd rfl (Or.inl rfl) pe_int)))
        (pss_one (ps_aug (i := 2) nd rfl (Or.inl rfl) (pv 4) ip_sub))))))
      (pss_cons (ps_fld (pv 0) (pe_fld (pv 0) rfl) rfl)
      (pss_one (ps_ret (pv 1))))))), ?_⟩
    refine ⟨_, rfl, a, _, dx, _, _, rfl, ha, T.c_File, T.n_File_hold, ff_hold, _, rfl, a, _, dx, _, _, rfl, ha, T.c_File, T.n_File_size, ff_size, _, _, rfl, rfl, ?_⟩
    refine ⟨_, rfl, ?_⟩
    refine ⟨fun m σ H' => ∃ (rs' : List R2i) (left : Int) (v3 v4 : Option V), m = left.toNat ∧ σ = [some (.ref a), some (.int (hold - size)), some (.int left), v3, v4] ∧ Stp K [l] H H' ∧ PL H' l (rs'.map fin) ∧ rs'.length ≤ 1000 ∧ (∀ r ∈ rs', 1 ≤ r.2) ∧ left ≤ holdM rs' ∧ cutM rs (hold - size) = cutM rs' left,
      ⟨_, rs, hold - size, none, none, rfl, rfl, Stp.refl, hl, hn, hpos, hle, rfl⟩, ?_⟩
    rintro m σ H' ⟨rs', left, v3, v4, rfl, rfl, st, hl', hn', hpos', hle', hcut⟩
    have ha' := st.keep_ins ha (by simpa using hal)
    refine ⟨_, rfl, _, _, rfl, rfl, _, rfl, ?_⟩
    show if decide (left > 0) = true then _ else _
    by_cases h0 : left > 0
    · rw [decide_eq_true h0]
      refine iteT ?_
      refine ⟨fun σ2 H2 => ∃ m', m' < left.toNat ∧ ∃ (rs' : List R2i) (left : Int) (v3 v4 : Option V), m' = left.toNat ∧ σ2 = [some (.ref a), some (.int (hold - size)), some (.int left), v3, v4] ∧ Stp K [l] H H2 ∧ PL H2 l (rs'.map fin) ∧ rs'.length ≤ 1000 ∧ (∀ r ∈ rs', 1 ≤ r.2) ∧ left ≤ holdM rs' ∧ cutM rs (hold - size) = cutM rs' left, fun _ _ z => z, ?_⟩
      have hne : rs' ≠ [] := fun e => by
        rw [e] at hle'
        have : holdM ([] : List R2i) = 0 := rfl
        omega
      obtain ⟨q, r, e⟩ := split_last hne
      subst e
      obtain ⟨ts, hl1, ht⟩ := hl'
      rw [List.map_append, List.map_singleton] at ht
      obtain ⟨ts0, u, e0, ht0, hu⟩ := ht.unsnoc
      subst e0
      have hlast : (List.map V.ref (ts0 ++ [u]))[(List.map V.ref (ts0 ++ [u])).length - 1]? = some (V.ref u) := by rw [List.map_append]; exact last_snoc _ _
      rw [hold_snoc] at hle'
      have hr1 : 1 ≤ r.2 := hpos' r (by simp)
      have hdl : (List.map V.ref (ts0 ++ [u])).dropLast = List.map V.ref ts0 := by rw [List.map_append, List.map_singleton, List.dropLast_concat]
      refine ⟨_, rfl, a, _, dx, _, _, rfl, ha', T.c_File, T.n_File_runs_held, ff_runs, .inl ⟨rfl, _, SqL.of hl1⟩, l, _, V.ref u, rfl, rfl, hl1, hlast, ?_⟩
      rw [hdl]
      have s1 : Stp K [l] H' (upd H' l (.lst (List.map V.ref ts0))) := Stp.lst hl1
      have hu2 : (upd H' l (.lst (List.map V.ref ts0))) u = some (.tup [.int r.1, .int r.2]) := s1.chg.tups _ _ hu
      have ha2 := s1.keep_ins ha' (by simpa using hal)
      have hl2 : (upd H' l (.lst (List.map V.ref ts0))) l = some (.lst (List.map V.ref ts0)) := upd_same
      have ht2 := ht0.ext s1.chg.tups
      have hln : q.length + 1 ≤ 1000 := by simpa using hn'
      have htl : ts0.length = q.length := by rw [ht0.length, List.length_map]
      generalize upd H' l (.lst (List.map V.ref ts0)) = H1 at s1 hu2 ha2 hl2 ht2 ⊢
      refine ⟨u, _, rfl, SqT.of hu2, rfl, _, _, rfl, _, _, rfl, rfl, ?_⟩
      refine ⟨_, rfl, _, rfl, _, _, rfl, rfl, _, rfl, ?_⟩
      show if decide (r.2 > left) = true then _ else _
      rw [cut_snoc, if_neg (by omega)] at hcut
      by_cases h1 : r.2 > left
      · rw [if_pos h1] at hcut
        rw [decide_eq_true h1]
        refine iteT ⟨_, rfl, a, _, dx, _, _, rfl, ha2, T.c_File, T.n_File_runs_held, ff_runs, .inl ⟨rfl, _, SqL.of hl2⟩, _, rfl, _, rfl, _, rfl, _, _, rfl, rfl, (by show 2 ≤ sizeLine; decide), fun t2 ht4 => ?_⟩
        have hl3 : (upd H1 t2 (.tup [.int r.1, .int (r.2 - left)])) l = some (.lst (List.map V.ref ts0)) := Same.upd_new ht4 _ _ hl2
        refine ⟨l, _, _, rfl, rfl, hl3, by rw [List.length_map]; exact big1 (by omega), ?_⟩
        have s2 : Stp K [l] H1 (upd H1 t2 (.tup [.int r.1, .int (r.2 - left)])) := .of_same (Same.upd_new ht4)
        have e5 : List.map V.ref ts0 ++ [V.ref t2] = List.map V.ref (ts0 ++ [t2]) := by rw [List.map_append]; rfl
        rw [e5]
        have s3 : Stp K [l] (upd H1 t2 (.tup [.int r.1, .int (r.2 - left)])) (upd (upd H1 t2 (.tup [.int r.1, .int (r.2 - left)])) l (.lst (List.map V.ref (ts0 ++ [t2])))) := Stp.lst hl3
        refine ⟨0, by omega, q ++ [(r.1, r.2 - left)], 0, _, _, rfl, rfl, st.trans (s1.trans (s2.trans s3)), ⟨ts0 ++ [t2], upd_same, ?_⟩, by simpa using hln, fun x hx => ?_, ?_, ?_⟩
        · rw [fin_snoc]
          exact TupsAt.snoc (t := t2) (p := fin (r.1, r.2 - left)) (s3.chg.tups t2 (pairV (fin (r.1, r.2 - left))) upd_same) (ht2.ext (s2.trans s3).chg.tups)
        · rcases List.mem_append.mp hx with hx | hx
          · exact hpos' x (List.mem_append_left _ hx)
          · rw [List.mem_singleton.mp hx]
            show 1 ≤ r.2 - left
            omega
        · rw [hold_snoc]
          have h9 : (∀ r ∈ q, 1 ≤ r.2) := fun x hx => hpos' x (List.mem_append_left _ hx)
          have h10 : 0 ≤ holdM q := by
            clear hcut hle' hn' hpos' ht ht0 ht2 htl hln hlast hdl hl1 hl2 hl3
            induction q with
            | nil => exact Int.le_refl _
            | cons x q ih =>
              have e1 : holdM (x :: q) = x.2 + holdM q := rfl
              have e2 := ih (by simp) (fun y hy => h9 y (List.mem_cons_of_mem _ hy))
              have e3 := h9 x List.mem_cons_self
              omega
          show 0 ≤ holdM q + (r.2 - left)
          omega
        · rw [hcut, cut_le _ _ (Int.le_refl _)]
      · rw [if_neg h1] at hcut
        rw [decide_eq_false h1]
        refine iteF ⟨_, rfl, _, rfl, left, r.2, rfl, rfl, ?_⟩
        refine ⟨_, ?_, q, left - r.2, _, _, rfl, rfl, st.trans s1, ⟨ts0, hl2, ht2⟩, by omega, fun x hx => hpos' x (List.mem_append_left _ hx), by omega, hcut⟩
        omega
    · rw [decide_eq_false h0]
      have hcut2 : cutM rs (hold - size) = rs' := by rw [hcut, cut_le _ _ (by omega)]
      refine iteF ⟨_, rfl, a, _, dx, _, _, rfl, ha', T.c_File, T.n_File_size, ff_size, _, rfl, a, _, dx, _, rfl, ha', T.c_File, T.n_File_hold, by rw [ff_len]; decide, ?_⟩
      rw [ff_put_hold]
      have s1 : Stp K [a, l] H' (upd H' a (.ins (cF K) dx (fileFs p l name size size op))) := (Stp.ins ha').mono (by simp)
      refine ⟨_, rfl, k _ ((st.mono (by simp)).trans s1) upd_same ?_⟩
      rw [hcut2]
      obtain ⟨ts, hl1, ht⟩ := hl'
      exact ⟨ts, by rw [upd_ne hal.symm]; exact hl1, ht.ext s1.chg.tups⟩
end
end GF

set_option Elab.async false
set_option linter.all false
set_option maxRecDepth 100000
set_option maxHeartbeats 4000000
namespace GF
open PySem PySem.Spec PyProof.Rows L2
/-! ### list(d.values()) -/
def tListVals (td : TE) : TE := fun σ H Q => td σ H fun x H1 => ∃ (a : Addr) (kvs : List (Key × V)), x = V.ref a ∧ H1 a = some (.dK kvs) ∧ ∀ q, H1 q = none → Q (.ref q) (upd H1 q (.lst (kvs.map (·.2))))
/-- the object that d.values() makes -/
abbrev viewV (D : Addr) : Obj := { cls := .type "dict_values", data := .fields #[.ref D] }
section
variable {X : Cx} {o : Expr} {p pos apos mpos : Pos} {td : TE}
theorem kv_snd {κ : Type} {kvs : List (κ × V)} {vs : List (κ × Value)} (r : KV kvs vs) : Vals (kvs.map (·.2)) (vs.map (·.2)) := by
  unfold KV at r
  induction r with
  | nil => exact .nil
  | cons r t ih => exact .cons r.2 ih
theorem pe_listVals (hc : X.calm = true) (hm : X.mg "list" = none) (hd : PE X o td) (hg : Gl X "list" := by rfl) (hbase : attributeBase o "values" X.env (eval o X.env) = eval o X.env := by rfl) (hline : (apos.endLine == mpos.line) = true := by rfl)
    (hse : starEach [Expr.Call (.Attribute o "values" apos) [] [] mpos] X.env = [(false, eval (Expr.Call (.Attribute o "values" apos) [] [] mpos) X.env)] := by rfl) :
    PE X (.Call (.Name "list" p) [.Call (.Attribute o "values" apos) [] [] mpos] [] pos) (tListVals td) := by
  refine ⟨fun pins s σ H Q I h => wpAny_Call_Name_kw (ld_blt I hg hm PyProof.Rows.boot_list ?_ (by first | decide +kernel | decide) (by first | decide +kernel | decide))⟩
  rw [hse]
  refine PySem.callWith_type1 (wpAny_Call_method0_late hbase hline (thn (hd.run pins s σ H _ I h) fun v s1 hv => ?_))
  obtain ⟨x, H1, I1, rx, D, kvs, ex, hD, q⟩ := hv
  subst ex
  cases (show v = Value.ref D from rx)
  obtain ⟨fits, nosys, ws, rel, isd⟩ := dk_of I1.hok hD
  obtain ⟨ep, whole⟩ := isd.dictAt
  have parts := whole
  obtain ⟨o1, es, at_, exact_, _⟩ := parts
  have same : kvs.length = ws.length := KV.length rel
  have up := fun b o (hb : s1.heap.get? b = some o) => Heap.get?_push_of_some (viewV D) hb
  have I2 : Inv X pins σ H1 { s1 with heap := s1.heap.push (viewV D) } := I1.kept (t' := s1.toks) up
  refine ⟨"dict", "dict.values", F.plainAttrs_dict, F.slot_dict_values, F.type_dict_values, ⟨o1, at_, exact_.1⟩, fun b e => ?_, Calls.callWith_builtin rfl (PySem.evalArgs_none (call_meetsIn F.slot_dict_values ⟨o1, at_, exact_.1⟩ F.entry_dict_values
    (F.args_dict_values_1 _) (meets_dict_values (mixKind X.prog X.w) D nosys) ⟨⟨ws, isd⟩, PySem.W.kdl_call (PySem.W.kdl_values (knd := mixKind X.prog X.w) (kvs := ws) (ep := ep)) (I.ok.hd hc) ⟨⟨_, Heap.get?_push_size _ rfl, rfl, rfl⟩, whole.keep up⟩
      (by rw [← same]; exact fits) fun h' tk acc c hk hS hacc => ?_⟩))⟩
  · cases e
    exact ⟨o1, at_, exact_.2.1⟩
  · have eacc : acc.toList = ws.map (·.2) := PySem.W.kdl_vals_eq acc.toList (by rw [Array.length_toList]; exact hacc.1) fun j v e => hacc.2 j v (by rw [← Array.getElem?_toList]; exact e)
    have ok : ObjOk X.prog X.w (upd H1 (s1.heap.push (viewV D)).objs.size (.lst (kvs.map (·.2)))) h' (s1.heap.push (viewV D)).objs.size (.lst (kvs.map (·.2))) :=
      ⟨by rw [List.length_map]; exact fits, acc.toList, c, by rw [eacc]; exact kv_snd rel, by rw [Array.toArray_toList]; exact hS⟩
    exact ⟨.ref _, _, I2.laid (t' := tk) hk (Nat.le_refl _) ok, rfl, q _ (I2.hok.fresh (Nat.le_refl _))⟩
end
end GF

set_option Elab.async false
set_option linter.all false
set_option maxRecDepth 100000
set_option maxHeartbeats 4000000
namespace GF
open PySem PySem.Spec PyProof.Rows L2
/-! ## disks -/
section
variable {X : Cx} {k : Nat} {f g C D : Addr} {sp : Sp} {x m : Str} {e o a b : Expr} {es : List Expr} {te ta tb : TE} {t : TA} {p pos apos : Pos}
theorem pt_no {c : Expr} : PT X c (fun _ _ _ => False) := ⟨fun _ _ _ _ _ _ h => h.elim⟩
/-- o.m(e, ..), m a field that holds an instance -/
def tFldCallO (X : Cx) (C D : Addr) (m : Str) (sp : Sp) (ta : TE) (t : TA) : TE := fun σ H Q => ta σ H fun x H1 => ∃ a dx fs q, x = .ref a ∧ H1 a = some (.ins C dx fs) ∧ fs.lookup m = some (.ref q) ∧ t σ H1 fun vs H2 => (∃ dx2 fs2, H2 q = some (.ins D dx2 fs2)) ∧ sp (.ref q :: vs) H2 Q E0
theorem pe_fldCallO {pl : Sem Bool} (he : PE X o ta) (c : Cls X.K C) (n : NoAttr X.K C m) (cg : StX.CallO X.K D g) (F : FnR X.prog X.w X.K X.mg X.base CX0 k g sp) (hr : Room k X.A) (ha : PA X (e :: es) t)
    (hst : starEach (e :: es) X.env = (false, eval e X.env) :: starEach es X.env := by rfl) (hpl : (backTo pos (starEach es X.env)).any (·.1) = false := by rfl)
    (ht : eval (.Call (.Attribute o m apos) (e :: es) [] pos) X.env = (do
      let ov ← eval o X.env
      standAt apos.atName
      let (f, first) ← holding [ov] (getMethod ov m pl)
      callWith pos f first (backTo pos (starEach (e :: es) X.env)) (backToKw pos (keywordEach [] X.env))) := by rfl) :
    PE X (.Call (.Attribute o m apos) (e :: es) [] pos) (tFldCallO X C D m sp ta t) := by
  constructor
  intro pins s σ H Q I h
  refine PySem.W.methodCall_KW (pl := pl) (thn (he.run pins s σ H _ I h) fun u s1 ⟨y, H1, I1, ry, a, dx, fs, q, ey, ea, l, hq⟩ => ?_) ht
  subst ey
  obtain rfl : u = Value.ref a := ry
  refine getmeth_fld I1 ea c n l fun u2 s2 I2 r2 => ?_
  obtain rfl : u2 = Value.ref q := r2
  refine StX.callO_with (thn (ha.run pos pins s2 σ H1 _ I2 hq) fun us s3 ⟨vs, H2, I3, r3, hi, q3⟩ => ?_) hst hpl
  have hi' : StX.InsC X H2 q D := .inr hi
  obtain ⟨ox, od, J, hd⟩ := StX.insC_at I3 hi'
  exact ⟨⟨D, ox, od, J, hd⟩, StX.run_callO cg F hr pass0 I3 hi' r3 q3⟩
end
section
variable {P : Program} {w : World} {K : PySem.W.Frag} {mg : Str → Option Value} {base : Heap}
/-! ### check_disk -/
def sp_check_disk : Sp := fun vs H Q _ => ∃ (rule : Str) (s b l : Bool), vs = [.str rule, .non, .bl s, .bl b, .bl l] ∧ isRule rule ∧ ∀ H', Same H H' → Q .non H'
theorem sc_check_disk : FnScope ["rule", "size", "short", "back", "late", "part", "thing"] ["rule", "size", "short", "back", "late"] (defScope s_check_disk) := ⟨rfl, rfl, rfl, by decide +kernel, rfl, by decide +kernel, by decide +kernel⟩
theorem p_check_disk (T : Txt K mg) : FnR P w K mg base CX0 1 (He.ga K "check_disk") sp_check_disk := by
  obtain ⟨fd, F⟩ := T.d_check_disk
  refine mkR F (F.ok sc_check_disk (fun vs H Q E h => ?_) fun cdv A outer s H vs Q E hr h => ?_) fun _ _ _ _ _ _ us hl => match us, hl with | [_, _, _, _, _], _ => rfl
  · obtain ⟨rule, s, b, l, rfl, _⟩ := h
    rfl
  · obtain ⟨rule, s1, b1, l1, rfl, hru, k⟩ := h
    have nd := sc_check_disk.nd
    refine ⟨_, (pss_cons (ps_if (PW.pt (pw_or (pt_not (pt_val (pe_isi T.f_isinstance T.f_str PyProof.Rows.boot_str (pv 0)))) (pw_or1 (pt_cmpR op_notIn_seq (pv 0) (pe_glob (v := .ref (He.ga K "RULES")) rfl T.g_RULES rfl) rfl))))
      (pss_one ps_never)
      pss_nil)
      (pss_cons (ps_if (PW.pt (pw_and (pt_cmpR op_notN (pv 1) pe_non (nomark _)) (pw_and1 pt_no)))
      (pss_one ps_never)
      pss_nil)
      (pss_one (ps_for PassesOwn.never rfl (pi_tup (pe_tup (pa_cons (pe_tup (pa_cons pe_str (pa_cons (pv 2) pa_nil))) (pa_cons (pe_tup (pa_cons pe_str (pa_cons (pv 3) pa_nil))) (pa_cons (pe_tup (pa_cons pe_str (pa_cons (pv 4) pa_nil))) pa_nil))))) (pg_tup rfl (pgs_cons (pg_name (i := 5) nd rfl (Or.inl rfl)) (pgs_cons (pg_name (i := 6) nd rfl (Or.inl rfl)) pgs_nil)))
      (pss_one (ps_if (pt_not (pt_val (pe_isi T.f_isinstance T.f_bool PyProof.Rows.boot_bool (pv 6))))
        (pss_one ps_never)
        pss_nil)))))), ?_⟩
    refine ⟨_, rfl, isi_str ⟨_, rfl, iteF ?_⟩⟩
    refine ⟨_, rfl, He.ga K "RULES", _, rfl, .inr (He.tupB_ok T.rules H), rfl, by rfl, _, rfl, ?_⟩
    have q1 : (!inV (V.str rule) ([He.Dv.str "behind", He.Dv.str "first", He.Dv.str "best", He.Dv.str "next"].map (He.Dv.v K))) = false := by
      show (!inV (V.str rule) [.str "behind", .str "first", .str "best", .str "next"]) = false
      rcases hru with rfl | rfl | rfl | rfl <;> decide +kernel
    rw [if_pos rfl, q1]
    refine iteF ?_
    refine ⟨_, rfl, rfl, _, rfl, iteF (iteF ?_)⟩
    refine ⟨_, rfl, (by show 2 ≤ sizeLine; decide), fun t1 h1 => ⟨_, rfl, (by show 2 ≤ sizeLine; decide), fun t2 h2 => ⟨_, rfl, (by show 2 ≤ sizeLine; decide), fun t3 h3 => ⟨(by show 3 ≤ sizeLine; decide), fun t4 h4 => ?_⟩⟩⟩⟩
    have e1 := Same.upd_new (o := .tup [V.str "short", V.bl s1]) h1
    have e2 := Same.upd_new (o := .tup [V.str "back", V.bl b1]) h2
    have e3 := Same.upd_new (o := .tup [V.str "late", V.bl l1]) h3
    have e4 := Same.upd_new (o := .tup [V.ref t1, V.ref t2, V.ref t3]) h4
    have hx : ∀ (i : Nat) (y : V), [V.ref t1, V.ref t2, V.ref t3][i]? = some y → ∃ (t : Addr) (z : Str) (b : Bool), y = V.ref t ∧ (upd (upd (upd (upd H t1 (.tup [V.str "short", V.bl s1])) t2 (.tup [V.str "back", V.bl b1])) t3 (.tup [V.str "late", V.bl l1])) t4 (.tup [V.ref t1, V.ref t2, V.ref t3])) t = some (.tup [.str z, .bl b]) := fun i y hy => by
      match i, hy with
      | 0, hy => exact ⟨t1, _, _, (Option.some.inj hy).symm, e4 _ _ (e3 _ _ (e2 _ _ upd_same))⟩
      | 1, hy => exact ⟨t2, _, _, (Option.some.inj hy).symm, e4 _ _ (e3 _ _ upd_same)⟩
      | 2, hy => exact ⟨t3, _, _, (Option.some.inj hy).symm, e4 _ _ upd_same⟩
    have hS : (upd (upd (upd (upd H t1 (.tup [V.str "short", V.bl s1])) t2 (.tup [V.str "back", V.bl b1])) t3 (.tup [V.str "late", V.bl l1])) t4 (.tup [V.ref t1, V.ref t2, V.ref t3])) t4 = some (.tup [V.ref t1, V.ref t2, V.ref t3]) := upd_same
    have eS := Same.trans e1 (Same.trans e2 (Same.trans e3 e4))
    refine ⟨t4, rfl, ⟨_, SqT.of upd_same⟩, for_tup (K := K) (a := t4) (xs := [V.ref t1, V.ref t2, V.ref t3]) (fun i σ H' => H' = _ ∧ ∃ v5 v6 : Option V, σ = [some (.str rule), some .non, some (.bl s1), some (.bl b1), some (.bl l1), v5, v6])
      ⟨rfl, none, none, rfl⟩ (fun i σ H' _ ⟨e, _⟩ => by rw [e]; exact SqT.of hS) ?_ ?_⟩
    · rintro i y σ H' hy ⟨rfl, v5, v6, rfl⟩
      obtain ⟨t, z, b, rfl, ht⟩ := hx i y hy
      exact ⟨t, _, rfl, SqT.of ht, rfl, _, _, rfl, _, _, rfl, rfl, _, rfl, isi_bool ⟨_, rfl, iteF ⟨rfl, _, _, rfl⟩⟩⟩
    · rintro σ H' ⟨rfl, v5, v6, rfl⟩
      exact k _ eS
/-! ### Disk(..) -/
def sp_Disk_init (K : PySem.W.Frag) : Sp := fun vs H Q _ => ∃ (x dx bk bdx sh : Addr) (lo hi t b : Int) (rule : Str) (short back : Bool), vs = [.ref x, .ref bk, .str rule, .non, .bl short, .bl back, .bl false] ∧ H x = some (.ins (cD K) dx []) ∧ BookAt K H bk bdx sh lo hi t b ∧ BookOk lo hi t b ∧ isRule rule ∧
  ∀ (H' : Hp) (A : DAd), (∀ c o, H c = some o → c ≠ x → H' c = some o) → A.p = x → (∀ c ∈ A.own, c = x ∨ H c = none) → DiskAt K H' A ⟨lo, hi, t, b, rule, short, back, 0, []⟩ → Q .non H'
theorem sc_Disk_init : FnScope ["self", "book", "rule", "size", "short", "back", "late"] ["self", "book", "rule", "size", "short", "back", "late"] (defScope s_Disk_init) := ⟨rfl, rfl, rfl, by decide +kernel, rfl, by decide +kernel, by decide +kernel⟩
theorem fb_twin {lo hi : Int} {sh : Addr} : (bookFs lo hi sh).lookup (Str.ofString "twin") = none := by kernel_rfl
theorem p_Disk_init (T : Txt K mg) : ∃ fd, FnOk P w K mg base CX0 7 (He.ma K (He.ga K "Disk") "__init__") fd ["self", "book", "rule", "size", "short", "back", "late"] (sp_Disk_init K) ∧
    KBn K fd ["self", "book", "rule", "size", "short", "back", "late"] 2 ["rule", "size", "short", "back", "late"] (fun us ws => us ++ ws) (fun vs zs => vs ++ zs) := by
  obtain ⟨fd, F⟩ := T.d_Disk_init
  refine ⟨fd, F.ok sc_Disk_init (fun vs H Q E h => ?_) fun cdv A outer s H vs Q E hr h => ?_, kwN F 2 _ fun _ _ _ _ _ _ us ws l1 l2 => match us, ws, l1, l2 with | [_, _], [_, _, _, _, _], _, _ => rfl⟩
  · obtain ⟨x, dx, bk, bdx, sh, lo, hi, t, b, rule, short, back, rfl, _⟩ := h
    rfl
  · obtain ⟨x, dx, bk, bdx, sh, lo, hi, t, b, rule, short, back, rfl, hx, hb, o, hru, k⟩ := h
    refine ⟨_, (pss_cons (ps_expr (pe_callR (p_check_disk T) (hr.mono (by decide)) T.g_check_disk (kp_check_disk T) (pa_cons (pv 2) (pa_cons (pv 3) (pa_cons (pv 4) (pa_cons (pv 5) (pa_cons (pv 6) pa_nil)))))))
      (pss_cons (ps_fld (pv 0) (pe_methR0 (pv 1) T.c_Book T.m_Book_twin (p_Book_twin T) hr) rfl)
      (pss_cons (ps_fld (pv 0) (pv 2) rfl)
      (pss_cons (ps_fld (pv 0) (pv 3) rfl)
      (pss_cons (ps_fld (pv 0) (pv 4) rfl)
      (pss_cons (ps_fld (pv 0) (pv 5) rfl)
      (pss_cons (ps_fld (pv 0) (pv 6) rfl)
      (pss_cons (ps_fld (pv 0) pe_int rfl)
      (pss_one (ps_fld (pv 0) pe_dnewK rfl)))))))))), ?_⟩
    refine ⟨_, rfl, _, rfl, _, rfl, _, rfl, _, rfl, rule, short, back, false, rfl, hru, fun H1 e1 => ?_⟩
    refine ⟨_, rfl, bk, bdx, _, rfl, e1 _ _ hb.1, fb_twin, bk, bdx, sh, lo, hi, t, b, rfl, ⟨e1 _ _ hb.1, e1 _ _ hb.2⟩, o, fun H2 r rdx e2 hr0 hrb => ?_⟩
    have e3 := Same.trans e1 e2
    have hx2 := e3 _ _ hx
    have fin : ∀ (Hm : Hp) (q : Addr), (∀ c, c ≠ x → Hm c = H2 c) → x ≠ q → H2 q = none → Q .non (upd (upd Hm q (.dK [])) x (.ins (cD K) dx (diskFs r q rule short back 0))) := fun Hm q hm hqx hq2 => by
      have keep : ∀ c o', H2 c = some o' → c ≠ x → (upd (upd Hm q (.dK [])) x (.ins (cD K) dx (diskFs r q rule short back 0))) c = some o' := fun c o' hc n => by
        rw [upd_ne n, upd_ne (ne_of_none hc hq2), hm c n]
        exact hc
      refine k _ ⟨x, dx, r, rdx, sh, q, []⟩ (fun c o' hc n => keep c o' (e3 _ _ hc) n) rfl ?_ ?_
      · intro c hc
        simp only [DAd.own, List.map_nil, List.append_nil, List.mem_cons, List.not_mem_nil, or_false] at hc
        rcases hc with rfl | rfl | rfl
        · exact .inl rfl
        · exact .inr (Same.none e1 hr0)
        · exact .inr (Same.none e3 hq2)
      · have hxr : r ≠ x := fun z => by
          rw [z] at hr0
          rw [e1 _ _ hx] at hr0
          cases hr0
        have hsx : sh ≠ x := ne_of (e3 _ _ hb.2) hx2 fun z => nomatch z
        exact ⟨upd_same, keep _ _ hrb.1 hxr, keep _ _ (e3 _ _ hb.2) hsx, by rw [upd_ne hqx.symm]; exact upd_same, .nil, List.nodup_nil, List.nodup_nil⟩
    refine ⟨_, rfl, x, _, dx, _, rfl, hx2, T.c_Disk, T.n_Disk_own_book, pf0, ?_⟩
    refine ⟨_, rfl, _, rfl, x, _, dx, _, rfl, upd_same, T.c_Disk, T.n_Disk_rule, pfn pf0, ?_⟩
    refine ⟨_, rfl, _, rfl, x, _, dx, _, rfl, upd_same, T.c_Disk, T.n_Disk_size, pfn (pfn pf0), ?_⟩
    refine ⟨_, rfl, _, rfl, x, _, dx, _, rfl, upd_same, T.c_Disk, T.n_Disk_short, pfn (pfn (pfn pf0)), ?_⟩
    refine ⟨_, rfl, _, rfl, x, _, dx, _, rfl, upd_same, T.c_Disk, T.n_Disk_back, pfn (pfn (pfn (pfn pf0))), ?_⟩
    refine ⟨_, rfl, _, rfl, x, _, dx, _, rfl, upd_same, T.c_Disk, T.n_Disk_late, pfn (pfn (pfn (pfn (pfn pf0)))), ?_⟩
    refine ⟨_, rfl, x, _, dx, _, rfl, upd_same, T.c_Disk, T.n_Disk_after, pfn (pfn (pfn (pfn (pfn (pfn pf0))))), ?_⟩
    refine fun q hq => ?_
    have hqx : x ≠ q := ne_of_none upd_same hq
    have hq2 : H2 q = none := by
      rw [upd_ne hqx.symm, upd_ne hqx.symm, upd_ne hqx.symm, upd_ne hqx.symm, upd_ne hqx.symm, upd_ne hqx.symm, upd_ne hqx.symm] at hq
      exact hq
    refine ⟨_, rfl, x, _, dx, _, rfl, by rw [upd_ne hqx]; exact upd_same, T.c_Disk, T.n_Disk_files, pfn (pfn (pfn (pfn (pfn (pfn (pfn pf0)))))), ?_⟩
    rw [fd_make]
    exact fin _ q (fun c n => by rw [upd_ne n, upd_ne n, upd_ne n, upd_ne n, upd_ne n, upd_ne n, upd_ne n]) hqx hq2
end
end GF

set_option Elab.async false
set_option linter.all false
set_option maxRecDepth 100000
set_option maxHeartbeats 4000000
namespace GF
open PySem PySem.Spec PyProof.Rows L2
/-! ### the dict of files -/
abbrev fkv (fs : List FAd) (gs : List FileS) : List (Key × V) := (fs.zip gs).map fun z => ((Sum.inr z.2.name : Key), V.ref z.1.f)
theorem fkv_at : ∀ {fs : List FAd} {gs : List FileS} {i : Nat} {a : FAd} {g : FileS}, (gs.map (·.name)).Nodup → fs[i]? = some a → gs[i]? = some g → valV (fkv fs gs) (Sum.inr g.name) = some (.ref a.f)
  | [], _, i, _, _, _, h, _ => by simp at h
  | _ :: _, [], i, _, _, _, _, h => by simp at h
  | b :: fs, c :: gs, 0, a, g, _, h1, h2 => by
    simp at h1 h2
    subst h1 h2
    exact valV_pos rfl
  | b :: fs, c :: gs, i + 1, a, g, nd, h1, h2 => by
    rw [List.map_cons, List.nodup_cons] at nd
    have h2' : gs[i]? = some g := by simpa using h2
    have hne : c.name ≠ g.name := fun e => nd.1 (by rw [e]; exact List.mem_map.mpr ⟨g, List.mem_of_getElem? h2', rfl⟩)
    show valV (((Sum.inr c.name : Key), V.ref b.f) :: fkv fs gs) _ = _
    rw [valV_neg (fun e => hne (by injection e))]
    exact fkv_at nd.2 (by simpa using h1) h2'
theorem fkv_none : ∀ {fs : List FAd} {gs : List FileS} {x : Str}, x ∉ gs.map (·.name) → valV (fkv fs gs) (Sum.inr x) = none
  | [], _, _, _ => rfl
  | _ :: _, [], _, _ => rfl
  | b :: fs, c :: gs, x, h => by
    rw [List.map_cons, List.mem_cons, not_or] at h
    show valV (((Sum.inr c.name : Key), V.ref b.f) :: fkv fs gs) _ = _
    rw [valV_neg (fun e => h.1 (by injection e with e; exact e.symm))]
    exact fkv_none h.2
theorem putK_new {kvs : List (Key × V)} {k : Key} {v : V} (h : valV kvs k = none) : putK kvs k v = kvs ++ [(k, v)] := by
  unfold putK
  rw [valV_any, h]
  rfl
theorem fkv_snoc {fs : List FAd} {gs : List FileS} {a : FAd} {g : FileS} (h : fs.length = gs.length) : fkv (fs ++ [a]) (gs ++ [g]) = fkv fs gs ++ [(Sum.inr g.name, V.ref a.f)] := by
  unfold fkv
  rw [List.zip_append h, List.map_append]
  rfl
/-- the i-th file of a disk -/
theorem Paired.at' {α β : Type} {F : α → β → Prop} : ∀ {l : List α} {m : List β} {i : Nat} {b : β}, Paired F l m → m[i]? = some b → ∃ a, l[i]? = some a ∧ F a b
  | _, _, i, _, .nil, h => by simp at h
  | _, _, 0, _, .cons r _, h => by
    simp at h
    subst h
    exact ⟨_, rfl, r⟩
  | _, _, i + 1, _, .cons _ q, h => by
    obtain ⟨a, h1, h2⟩ := Paired.at' (i := i) q (by simpa using h)
    exact ⟨a, by simpa using h1, h2⟩
section
variable {P : Program} {w : World} {K : PySem.W.Frag} {mg : Str → Option Value} {base : Heap}
theorem DiskAt.file {H : Hp} {A : DAd} {d : DiskS} {i : Nat} {f : FileS} (h : DiskAt K H A d) (hi : d.files[i]? = some f) : ∃ a, A.fs[i]? = some a ∧ FileAt K H A.p a f := Paired.at' h.fs hi
theorem DiskAt.book {H : Hp} {A : DAd} {d : DiskS} (h : DiskAt K H A d) : BookAt K H A.bk A.bdx A.sh d.lo d.hi d.t d.b := ⟨h.bk, h.sh⟩
/-! ### Disk.__getitem__ -/
def sp_Disk_get (K : PySem.W.Frag) : Sp := fun vs H Q _ => ∃ (A : DAd) (d : DiskS) (i : Nat) (a : FAd) (f : FileS), vs = [.ref A.p, .str f.name] ∧ DiskAt K H A d ∧ (d.files.map (·.name)).Nodup ∧ A.fs[i]? = some a ∧ d.files[i]? = some f ∧ Q (.ref a.f) H
theorem sc_Disk_get : FnScope ["self", "name"] ["self", "name"] (defScope s_Disk_getitem) := ⟨rfl, rfl, rfl, by decide +kernel, rfl, by decide +kernel, by decide +kernel⟩
theorem p_Disk_get (T : Txt K mg) : FnR P w K mg base CX0 1 (He.ma K (He.ga K "Disk") "__getitem__") (sp_Disk_get K) := by
  obtain ⟨fd, F⟩ := T.d_Disk_getitem
  refine mkR F (F.ok sc_Disk_get (fun vs H Q E h => ?_) fun cdv A outer s H vs Q E hr h => ?_) fun _ _ _ _ _ _ us hl => match us, hl with | [_, _], _ => rfl
  · obtain ⟨A, d, i, a, f, rfl, _⟩ := h
    rfl
  · obtain ⟨D, d, i, a, f, rfl, hd, nm, ha, hf, k⟩ := h
    refine ⟨_, (pss_cons (ps_if (PW.pt (pw_or (pt_not (pt_val (pe_isi T.f_isinstance T.f_str PyProof.Rows.boot_str (pv 1)))) (pw_or1 (pt_cmp (pc_dnotin (hu_of hr) (pv 1) (pe_fld (pv 0) rfl))))))
      (pss_one ps_never)
      pss_nil)
      (pss_one (ps_ret (pe_dget (hu_of hr) (pe_fld (pv 0) rfl) (pv 1) (fun _ _ => rfl))))), ?_⟩
    have hv := fkv_at nm ha hf
    refine ⟨_, rfl, isi_str ⟨_, rfl, iteF ?_⟩⟩
    refine ⟨_, rfl, _, rfl, D.p, _, D.dx, _, _, rfl, hd.ob, T.c_Disk, T.n_Disk_files, fd_files, D.fd, some (.ref a.f), rfl, ?_, _, rfl, iteF ?_⟩
    · have g := DGet.k (k := Sum.inr f.name) hd.fd
      rw [hv] at g
      exact g
    · refine ⟨_, rfl, D.p, _, D.dx, _, _, rfl, hd.ob, T.c_Disk, T.n_Disk_files, fd_files, _, rfl, D.fd, .ref a.f, rfl, ?_, k⟩
      have g := DGet.k (k := Sum.inr f.name) hd.fd
      rw [hv] at g
      exact g
/-! ### open_file -/
def sp_open_file (K : PySem.W.Frag) : Sp := fun vs H Q _ => ∃ (A : DAd) (d : DiskS) (i : Nat) (a : FAd) (f : FileS), vs = [.ref A.p, .str f.name] ∧ DiskAt K H A d ∧ (d.files.map (·.name)).Nodup ∧ A.fs[i]? = some a ∧ d.files[i]? = some f ∧ f.op = true ∧ Q (.ref a.f) H
theorem sc_open_file : FnScope ["self", "name", "file"] ["self", "name"] (defScope s_Disk_open_file) := ⟨rfl, rfl, rfl, by decide +kernel, rfl, by decide +kernel, by decide +kernel⟩
theorem p_open_file (T : Txt K mg) : FnR P w K mg base CX0 3 (He.ma K (He.ga K "Disk") "open_file") (sp_open_file K) := by
  obtain ⟨fd, F⟩ := T.d_Disk_open_file
  refine mkR F (F.ok sc_open_file (fun vs H Q E h => ?_) fun cdv A outer s H vs Q E hr h => ?_) fun _ _ _ _ _ _ us hl => match us, hl with | [_, _], _ => rfl
  · obtain ⟨A, d, i, a, f, rfl, _⟩ := h
    rfl
  · obtain ⟨D, d, i, a, f, rfl, hd, nm, ha, hf, hop, k⟩ := h
    have nd := sc_open_file.nd
    refine ⟨_, (pss_cons (ps_set (i := 2) nd rfl (Or.inl rfl) (pe_itemO (pv 0) (pv 1) T.m_Disk_getitem.at_ T.fnGet T.m_Disk_getitem.fn (p_Disk_get T) hr))
      (pss_cons (ps_if (pt_not (pt_val (pe_fld (pv 2) rfl)))
      (pss_one ps_never)
      pss_nil)
      (pss_one (ps_ret (pv 2))))), ?_⟩
    obtain ⟨a', ha', hfa⟩ := hd.file hf
    rw [ha] at ha'
    obtain rfl := Option.some.inj ha'
    refine ⟨_, rfl, _, rfl, D.p, D.dx, _, rfl, hd.ob, D, d, i, a, f, rfl, hd, nm, ha, hf, ?_⟩
    refine ⟨_, rfl, a.f, _, a.dx, _, _, rfl, hfa.ob, T.c_File, T.n_File_is_open, ff_open, _, rfl, ?_⟩
    rw [hop]
    exact iteF ⟨_, rfl, k⟩
/-! ### make -/
def newF (name : Str) : FileS := ⟨name, 0, 0, true, []⟩
def sp_make (K : PySem.W.Frag) : Sp := fun vs H Q _ => ∃ (A : DAd) (d : DiskS) (name : Str), vs = [.ref A.p, .str name] ∧ DiskAt K H A d ∧ isName name ∧ name ∉ d.files.map (·.name) ∧ d.files.length ≤ 100 ∧
  ∀ (H' : Hp) (a : FAd), Stp K [A.fd] H H' → H a.f = none → H a.l = none → DiskAt K H' { A with fs := A.fs ++ [a] } { d with files := d.files ++ [newF name] } → Q .non H'
theorem sc_make : FnScope ["self", "name"] ["self", "name"] (defScope s_Disk_make) := ⟨rfl, rfl, rfl, by decide +kernel, rfl, by decide +kernel, by decide +kernel⟩
theorem DiskAt.ne_file {H : Hp} {A : DAd} {d : DiskS} (h : DiskAt K H A d) {a : FAd} (ha : a ∈ A.fs) : (∃ dx fs, H a.f = some (.ins (cF K) dx fs)) ∧ ∃ xs, H a.l = some (.lst xs) := by
  obtain ⟨i, hi⟩ := List.getElem?_of_mem ha
  have key : ∀ {l : List FAd} {m : List FileS} {i : Nat} {a : FAd}, Paired (FileAt K H A.p) l m → l[i]? = some a → ∃ f, FileAt K H A.p a f := by
    intro l m
    induction l generalizing m with
    | nil => intro i a _ h; simp at h
    | cons b l ih =>
      intro i a hp h
      cases hp with
      | cons r q =>
        cases i with
        | zero => simp at h; subst h; exact ⟨_, r⟩
        | succ i => exact ih q (by simpa using h)
  obtain ⟨f, hf⟩ := key h.fs hi
  obtain ⟨ts, h1, _⟩ := hf.pl
  exact ⟨⟨_, _, hf.ob⟩, _, h1⟩
theorem nodup_snoc {α : Type} {l : List α} {x : α} (h : l.Nodup) (n : x ∉ l) : (l ++ [x]).Nodup := by
  rw [List.nodup_append]
  refine ⟨h, List.pairwise_singleton _ _, fun a ha b hb e => n ?_⟩
  rw [List.mem_singleton] at hb
  rw [← hb, ← e]
  exact ha
theorem Paired.snoc {α β : Type} {F : α → β → Prop} {a : α} {b : β} (r : F a b) : ∀ {l : List α} {m : List β}, Paired F l m → Paired F (l ++ [a]) (m ++ [b])
  | _, _, .nil => .cons r .nil
  | _, _, .cons r1 q => .cons r1 (Paired.snoc r q)
theorem p_make (T : Txt K mg) : FnR P w K mg base CX0 3 (He.ma K (He.ga K "Disk") "make") (sp_make K) := by
  obtain ⟨fd, F⟩ := T.d_Disk_make
  refine mkR F (F.ok sc_make (fun vs H Q E h => ?_) fun cdv A outer s H vs Q E hr h => ?_) fun _ _ _ _ _ _ us hl => match us, hl with | [_, _], _ => rfl
  · obtain ⟨A, d, name, rfl, _⟩ := h
    rfl
  · obtain ⟨D, d, name, rfl, hd, hn, hnm, hlen, k⟩ := h
    refine ⟨_, (pss_cons (ps_if (pt_not (pt_val (pe_callR (p_is_name T) (hr.mono (by decide)) T.g_is_name (kp_is_name T) (pa_cons (pv 1) pa_nil))))
      (pss_one ps_never)
      pss_nil)
      (pss_cons (ps_if (pt_cmp (pc_din (hu_of hr) (pv 1) (pe_fld (pv 0) rfl)))
      (pss_one ps_never)
      pss_nil)
      (pss_one (ps_dput (hu_of hr) (pe_fld (pv 0) rfl) (pv 1) (pe_makeG T.mk_File (p_File_init T) hr T.g_File (pa_cons (pv 0) (pa_cons (pv 1) pa_nil))) rfl)))), ?_⟩
    refine ⟨_, rfl, name, rfl, hn, fun H1 e1 => ⟨_, rfl, iteF ?_⟩⟩
    have hfd1 := e1 _ _ hd.fd
    have hob1 := e1 _ _ hd.ob
    have hv : valV (fkv D.fs d.files) (Sum.inr name) = none := fkv_none hnm
    refine ⟨_, rfl, _, rfl, D.p, _, D.dx, _, _, rfl, hob1, T.c_Disk, T.n_Disk_files, fd_files, D.fd, none, rfl, ?_, _, rfl, iteF ?_⟩
    · have g := DGet.k (k := Sum.inr name) hfd1
      rw [hv] at g
      exact g
    refine ⟨_, rfl, _, rfl, fun x dx hx hdx hne => ?_⟩
    refine ⟨x, dx, D.p, name, rfl, upd_same, fun H2 l hk hl hx2 hl2 => ⟨rfl, ?_⟩⟩
    have e2 : Same H1 H2 := fun b o hb => hk b o (by rw [upd_ne (ne_of_none hb hx), upd_ne (ne_of_none hb hdx)]; exact hb) (ne_of_none hb hx)
    have e3 : Same H H2 := Same.trans e1 e2
    have hxl : x ≠ l := ne_of_none upd_same hl
    have hl1 : H1 l = none := by
      by_cases z : l = dx
      · rw [z]; exact hdx
      · rw [upd_ne hxl.symm, upd_ne z] at hl
        exact hl
    have hfd2 := e3 _ _ hd.fd
    have hlz : (fkv D.fs d.files).length = d.files.length := by
      rw [List.length_map, List.length_zip, Paired.length hd.fs, Nat.min_self]
    refine ⟨_, rfl, D.p, _, D.dx, _, _, rfl, e3 _ _ hd.ob, T.c_Disk, T.n_Disk_files, fd_files, _, rfl, D.fd, _, rfl, .inl ⟨_, Sum.inr name, hfd2, rfl, ?_, rfl⟩, ?_⟩
    · show (fkv D.fs d.files).length < sizeLine
      rw [hlz]
      exact big1 (by omega)
    · rw [putK_new hv]
      have s1 : Stp K [D.fd] H2 (upd H2 D.fd (.dK (fkv D.fs d.files ++ [(Sum.inr name, V.ref x)]))) := Stp.dK hfd2
      have s2 : Stp K [D.fd] H (upd H2 D.fd (.dK (fkv D.fs d.files ++ [(Sum.inr name, V.ref x)]))) := (Stp.of_same e3).trans s1
      have hxf : x ≠ D.fd := ne_of hx2 hfd2 fun z => nomatch z
      have hlf : l ≠ D.fd := ne_of hl2 hfd2 fun z => nomatch z
      have hp1 : D.p ≠ D.fd := ne_of hd.ob hd.fd fun z => nomatch z
      have hp2 : D.bk ≠ D.fd := ne_of hd.bk hd.fd fun z => nomatch z
      refine k _ ⟨x, dx, l⟩ s2 (Same.none e1 hx) (Same.none e1 hl1) ?_
      refine ⟨s2.keep_ins hd.ob (by simpa using hp1), s2.keep_ins hd.bk (by simpa using hp2), s2.chg.tups _ _ hd.sh, ?_, ?_, ?_, ?_⟩
      · show (upd H2 D.fd _) D.fd = some (.dK (fkv (D.fs ++ [⟨x, dx, l⟩]) (d.files ++ [newF name])))
        rw [fkv_snoc (Paired.length hd.fs)]
        exact upd_same
      · refine Paired.snoc ?_ (paired_mem hd.fs fun a ha f _ z => z.chg s2.chg ?_ ?_)
        · exact ⟨s1.keep_ins hx2 (by simpa using hxf), [], s1.keep_lst hl2 (by simpa using hlf), .nil⟩
        · obtain ⟨⟨dx', fs', h1⟩, _⟩ := hd.ne_file ha
          have : a.f ≠ D.fd := ne_of h1 hd.fd fun z => nomatch z
          simpa using this
        · obtain ⟨_, xs', h1⟩ := hd.ne_file ha
          have : a.l ≠ D.fd := ne_of h1 hd.fd fun z => nomatch z
          simpa using this
      · show ((D.fs ++ [(⟨x, dx, l⟩ : FAd)]).map FAd.f).Nodup
        rw [List.map_append]
        refine nodup_snoc hd.ndf fun z => ?_
        obtain ⟨a, ha, e⟩ := List.mem_map.mp z
        obtain ⟨⟨dx', fs', h1⟩, _⟩ := hd.ne_file ha
        exact ne_of_none h1 (Same.none e1 hx) e
      · show ((D.fs ++ [(⟨x, dx, l⟩ : FAd)]).map FAd.l).Nodup
        rw [List.map_append]
        refine nodup_snoc hd.ndl fun z => ?_
        obtain ⟨a, ha, e⟩ := List.mem_map.mp z
        obtain ⟨_, xs', h1⟩ := hd.ne_file ha
        exact ne_of_none h1 (Same.none e1 hl1) e
/-! ### free -/
theorem Grw.extend {H H1 H2 : Hp} {L : Addr} {ts us : List Addr} {ps qs : List P2} (g : Grw H L H1 ts ps) (e : Same H1 H2) (hu : TupsAt H2 us qs) : Grw H L (upd H2 L (.lst (ts.map V.ref ++ us.map V.ref))) (ts ++ us) (ps ++ qs) := by
  have g2 : Grw H L H2 ts ps := ⟨Same.trans g.same e, g.new, e _ _ g.ob, g.tups.ext fun b xs z => e _ _ z⟩
  exact ⟨g2.wr _, g.new, by rw [upd_same, List.map_append], (g2.tups.append hu).ext (tup_upd g2.ob _)⟩
theorem ff_pieces {p l : Addr} {name : Str} {size hold : Int} {op : Bool} : (fileFs p l name size hold op).lookup (Str.ofString "pieces") = none := by kernel_rfl
theorem allRuns_take {fs : List FileS} {i : Nat} {f : FileS} (h : fs[i]? = some f) : (allRuns (fs.take (i + 1))).map fin = (allRuns (fs.take i)).map fin ++ f.runs.map fin := by
  unfold allRuns
  rw [take_snoc h, List.flatMap_append, List.map_append]
  simp
theorem allRuns_take_le (fs : List FileS) (i : Nat) : (allRuns (fs.take i)).length ≤ (allRuns fs).length := by
  have e : allRuns fs = allRuns (fs.take i) ++ allRuns (fs.drop i) := by
    unfold allRuns
    rw [← List.flatMap_append, List.take_append_drop]
  rw [e, List.length_append]
  exact Nat.le_add_right _ _
theorem runs_le {fs : List FileS} {i : Nat} {f : FileS} (h : fs[i]? = some f) : f.runs.length ≤ (allRuns fs).length := by
  have h1 := allRuns_take_le fs (i + 1)
  have h2 := congrArg List.length (allRuns_take h)
  rw [List.length_map, List.length_append, List.length_map, List.length_map] at h2
  omega
theorem RoomAt.stp {K : PySem.W.Frag} {H H' : Hp} {r : Addr} {ps : List P2} (h : RoomAt K H r ps) (s : Stp K [] H H') : RoomAt K H' r ps := let ⟨dx, l, h1, h2⟩ := h; ⟨dx, l, s.keep_ins h1 (by simp), s.pl h2 (by simp)⟩
def sp_free (K : PySem.W.Frag) : Sp := fun vs H Q _ => ∃ (A : DAd) (d : DiskS), vs = [.ref A.p] ∧ DiskAt K H A d ∧ (allRuns d.files).length ≤ 800 ∧ Tab K H ∧ ∀ (H' : Hp) (r : Addr), Stp K [] H H' → RoomAt K H' r (freeM (allRuns d.files)) → Q (.ref r) H'
theorem sc_free : FnScope ["self", "runs", "file"] ["self"] (defScope s_Disk_free) := ⟨rfl, rfl, rfl, by decide +kernel, rfl, by decide +kernel, by decide +kernel⟩
theorem joinedM_len (ps : List P2) : (joinedM ps).length ≤ ps.length := by
  have h := joined_len (byStart ps) []
  have h2 : (byStart ps).length = ps.length := List.length_mergeSort _
  unfold joinedM
  simp only [List.length_nil] at h
  omega
theorem files_at {H : Hp} {A : DAd} {d : DiskS} (h : DiskAt K H A d) {i : Nat} {y : V} (hy : ((fkv A.fs d.files).map (·.2))[i]? = some y) : ∃ a f, y = .ref a.f ∧ A.fs[i]? = some a ∧ d.files[i]? = some f ∧ FileAt K H A.p a f := by
  rw [List.map_map, List.getElem?_map] at hy
  cases ez : (A.fs.zip d.files)[i]? with
  | none => rw [ez] at hy; cases hy
  | some z =>
    rw [ez] at hy
    cases hy
    obtain ⟨h1, h2⟩ := List.getElem?_zip_eq_some.mp ez
    obtain ⟨a, h3, h4⟩ := h.file h2
    rw [h1] at h3
    obtain rfl := Option.some.inj h3
    exact ⟨z.1, z.2, rfl, h1, h2, h4⟩
theorem p_free (T : Txt K mg) (TB : LamX.TabB base mg (jC K) (jP K)) : FnR P w K mg base CX0 9 (He.ma K (He.ga K "Disk") "free") (sp_free K) := by
  obtain ⟨fd, F⟩ := T.d_Disk_free
  refine mkR F (F.ok sc_free (fun vs H Q E h => ?_) fun cdv A outer s H vs Q E hr h => ?_) fun _ _ _ _ _ _ us hl => match us, hl with | [_], _ => rfl
  · obtain ⟨A, d, rfl, _⟩ := h
    rfl
  · obtain ⟨D, d, rfl, hd, hn, tb, k⟩ := h
    have nd := sc_free.nd
    refine ⟨_, (pss_cons (ps_set (i := 1) nd rfl (Or.inl rfl) (pe_lst pa_nil))
      (pss_cons (ps_for PassesOwn.never rfl (pi_list (pe_listVals rfl T.f_list (pe_fld (pv 0) rfl))) (pg_name (i := 2) nd rfl (Or.inl rfl))
      (pss_one (ps_expr (pe_bm PySem.F.plainAttrs_list PySem.F.slot_list_extend PySem.F.type_list_extend mt_extend (pv 1) (pa_cons (pe_methR0 (pv 2) T.c_File T.m_File_pieces (p_File_pieces T) (hr.mono (by decide))) pa_nil)))))
      (pss_one (ps_ret (pe_op (op_subO T.subF T.m_Room_sub.at_ T.m_Room_sub.fn (p_Room_sub T TB) hr) (pe_makeG T.mk_Room (p_Room_init T TB) (hr.mono (by decide)) T.g_Room (pa_cons (pe_lst (pa_cons (pe_tup (pa_cons pe_int (pa_cons (pe_fld (pv 0) rfl) pa_nil))) pa_nil)) pa_nil)) (pe_callR (p_room_of T TB) (hr.mono (by decide)) T.g_room_of (kp_room_of T) (pa_cons (pe_callR (p_joined T TB) (hr.mono (by decide)) T.g_joined (kp_joined T) (pa_cons (pv 1) pa_nil)) pa_nil))))))), ?_⟩
    refine ⟨Nat.zero_le _, fun L hL => ?_⟩
    have e1 : Same H (upd H L (.lst [])) := Same.upd_new hL
    refine ⟨_, rfl, D.p, _, D.dx, _, _, rfl, e1 _ _ hd.ob, T.c_Disk, T.n_Disk_files, fd_files, D.fd, _, rfl, e1 _ _ hd.fd, fun S hS => ?_⟩
    have hLS : L ≠ S := ne_of_none upd_same hS
    have e2 : Same (upd H L (.lst [])) (upd (upd H L (.lst [])) S (.lst ((fkv D.fs d.files).map (·.2)))) := Same.upd_new hS
    have e12 := Same.trans e1 e2
    generalize hHb : less (upd (upd H L (.lst [])) S (.lst ((fkv D.fs d.files).map (·.2)))) L = Hb
    have keep : Same H Hb := fun b o hb => by
      rw [← hHb, less_ne (ne_of_none hb hL)]
      exact e12 _ _ hb
    have hbS : Hb S = some (.lst ((fkv D.fs d.files).map (·.2))) := by rw [← hHb, less_ne hLS.symm]; exact upd_same
    have hbL : Hb L = none := by rw [← hHb]; exact less_L
    have g0 : Grw Hb L (upd (upd H L (.lst [])) S (.lst ((fkv D.fs d.files).map (·.2)))) [] [] := ⟨by rw [← hHb]; exact less_same, hbL, by rw [upd_ne hLS]; exact upd_same, .nil⟩
    generalize upd (upd H L (.lst [])) S (.lst ((fkv D.fs d.files).map (·.2))) = H3 at g0 ⊢
    have hlz : ((fkv D.fs d.files).map (·.2)).length = d.files.length := by
      rw [List.length_map, List.length_map, List.length_zip, Paired.length hd.fs, Nat.min_self]
    refine ⟨S, rfl, ⟨_, SqL.of (g0.same _ _ hbS)⟩, for_list (K := K) (a := S) (xs := (fkv D.fs d.files).map (·.2)) (fun i σ H' => ∃ (us : List Addr) (v2 : Option V), σ = [some (.ref D.p), some (.ref L), v2] ∧ Grw Hb L H' us ((allRuns (d.files.take i)).map fin))
      ⟨[], none, rfl, by simpa [allRuns] using g0⟩ (fun i σ H' _ ⟨_, _, _, g⟩ => SqL.of (g.same _ _ hbS)) ?_ ?_⟩
    · rintro i y σ H' hy ⟨us, v2, rfl, g⟩
      obtain ⟨a, f, rfl, ha, hf, hfa⟩ := files_at hd hy
      have eH : Same H H' := Same.trans keep g.same
      refine ⟨_, rfl, .inl ⟨rfl, _, SqL.of g.ob⟩, _, rfl, a.f, a.dx, _, rfl, eH _ _ hfa.ob, ff_pieces, a.f, a.dx, D.p, a.l, f.name, f.size, f.hold, f.op, f.runs.map fin, rfl, eH _ _ hfa.ob, hfa.pl.same eH, fun H2 q e3 hq hpq => ?_⟩
      obtain ⟨ws, hq1, hq2⟩ := hpq
      refine ⟨L, q, _, _, rfl, rfl, e3 _ _ g.ob, hq1, ?_, us ++ ws, _, rfl, ?_⟩
      · have h1 := congrArg List.length (allRuns_take hf)
        have h2 := allRuns_take_le d.files (i + 1)
        rw [List.length_map, List.length_append, List.length_map, List.length_map] at h1
        rw [List.length_map, List.length_map, g.tups.length, hq2.length, List.length_map, List.length_map]
        exact Nat.le_of_lt (big1 (by omega))
      · rw [allRuns_take hf]
        exact g.extend e3 hq2
    · rintro σ H' ⟨us, v2, rfl, g⟩
      rw [hlz, List.take_length] at g
      have eH : Same H H' := Same.trans keep g.same
      refine ⟨_, rfl, D.p, _, D.dx, _, _, rfl, eH _ _ hd.ob, T.c_Disk, T.n_Disk_size, fd_size, (by show 2 ≤ sizeLine; decide), fun t ht => ⟨(by show 1 ≤ sizeLine; decide), fun m hm => fun x dx hx hdx hne => ?_⟩⟩
      have e3 : Same H' (upd (upd H' t (.tup [V.int 0, V.non])) m (.lst [V.ref t])) := Same.trans (Same.upd_new ht) (Same.upd_new hm)
      have e4 := Same.upd_wr (o := .ins (cR K) dx []) (Same.upd_new (o := .own x) hdx) hx
      have e5 := Same.trans eH (Same.trans e3 e4)
      refine ⟨x, dx, upd_same, .inr ⟨m, rfl, ⟨[t], e4 _ _ upd_same, .cons (e4 _ _ (Same.upd_new hm _ _ upd_same)) .nil⟩, tb.ext e5, fun H4 q eN tb4 hq hpq => ⟨rfl, ?_⟩⟩⟩
      have hx0 : H' x = none := Same.none e3 hx
      have hx4 := eN _ _ upd_same fun _ z => (nomatch z)
      have hqx : q ≠ x := fun z => by
        rw [z, upd_same] at hq
        cases hq
      have sE : Stp K [] H' (upd H4 x (.ins (cR K) dx (pairsFs q))) := Stp.drop (((Stp.of_same (Same.trans e3 e4)).trans ((Stp.of_ext eN tb4).trans (Stp.ins hx4)))) hx0
      have hR1 : RoomAt K (upd H4 x (.ins (cR K) dx (pairsFs q))) x [(0, none)] := by
        obtain ⟨zs, hz1, hz2⟩ := hpq
        exact .of upd_same ⟨zs, by rw [upd_ne hqx]; exact hz1, hz2.ext (Stp.ins (K := K) hx4).chg.tups⟩
      have sH : Stp K [] H (upd H4 x (.ins (cR K) dx (pairsFs q))) := (Stp.of_same eH).trans sE
      refine ⟨_, rfl, L, _, rfl, sE.pl g.pl (by simp), by rw [List.length_map]; omega, sH.tab tb, fun H6 q2 eN6 tb6 hq2 hpl2 => ?_⟩
      refine ⟨q2, _, rfl, hpl2, fun H7 r e7 hr7 hroom => ?_⟩
      have s7 : Stp K [] (upd H4 x (.ins (cR K) dx (pairsFs q))) H7 := (Stp.of_ext eN6 tb6).trans (.of_same e7)
      have hR2 := hR1.stp s7
      have hR2' := hR2
      have hroom' := hroom
      obtain ⟨dy, l1, h1, _⟩ := hR2'
      obtain ⟨dz, l2, h2, _⟩ := hroom'
      have hj := joinedM_len ((allRuns d.files).map fin)
      rw [List.length_map] at hj
      exact ⟨x, dy, _, r, dz, _, rfl, rfl, h1, h2, x, r, _, _, rfl, hR2, hroom, by show 1 ≤ 900; decide, by omega, fun H8 z e8 hz hroom8 => k H8 z (sH.trans (s7.trans (.of_same e8))) hroom8⟩
end
end GF

set_option Elab.async false
set_option linter.all false
set_option maxRecDepth 100000
set_option maxHeartbeats 4000000
namespace GF
open PySem PySem.Spec PyProof.Rows L2
/-! ### a disk whose i-th file was changed -/
theorem Paired.at2 {α β : Type} {F : α → β → Prop} : ∀ {l : List α} {m : List β} {i : Nat} {a : α} {b : β}, Paired F l m → l[i]? = some a → m[i]? = some b → F a b
  | _, _, i, _, _, .nil, h, _ => by simp at h
  | _, _, 0, _, _, .cons r _, h, h2 => by
    simp at h h2
    subst h h2
    exact r
  | _, _, i + 1, _, _, .cons _ q, h, h2 => Paired.at2 (i := i) q (by simpa using h) (by simpa using h2)
theorem paired_of {α β : Type} {F : α → β → Prop} : ∀ {l : List α} {m : List β}, l.length = m.length → (∀ (i : Nat) (a : α) (b : β), l[i]? = some a → m[i]? = some b → F a b) → Paired F l m
  | [], [], _, _ => .nil
  | [], _ :: _, h, _ => by simp at h
  | _ :: _, [], h, _ => by simp at h
  | a :: l, b :: m, h, f => .cons (f 0 a b rfl rfl) (paired_of (by simpa using h) fun i x y h1 h2 => f (i + 1) x y (by simpa using h1) (by simpa using h2))
theorem names_set {gs : List FileS} {i : Nat} {f f' : FileS} (hf : gs[i]? = some f) (hn : f'.name = f.name) : (gs.set i f').map (·.name) = gs.map (·.name) := by
  apply List.ext_getElem?
  intro j
  rw [List.getElem?_map, List.getElem?_map, List.getElem?_set]
  by_cases e : i = j
  · subst e
    have hlt : i < gs.length := (List.getElem?_eq_some_iff.mp hf).1
    rw [if_pos rfl, if_pos hlt, hf]
    show some f'.name = some f.name
    rw [hn]
  · rw [if_neg e]
theorem fkv_set : ∀ {fs : List FAd} {gs : List FileS} {i : Nat} {f f' : FileS}, gs[i]? = some f → f'.name = f.name → fkv fs (gs.set i f') = fkv fs gs
  | [], _, _, _, _, _, _ => rfl
  | _ :: _, [], _, _, _, _, _ => rfl
  | a :: fs, g :: gs, 0, f, f', h, hn => by
    simp at h
    subst h
    show ((Sum.inr f'.name : Key), V.ref a.f) :: fkv fs gs = _
    rw [hn]
    rfl
  | a :: fs, g :: gs, i + 1, f, f', h, hn => by
    show ((Sum.inr g.name : Key), V.ref a.f) :: fkv fs (gs.set i f') = ((Sum.inr g.name : Key), V.ref a.f) :: fkv fs gs
    rw [fkv_set (by simpa using h) hn]
theorem nodup_at {α β : Type} {l : List α} {g : α → β} (nd : (l.map g).Nodup) {i j : Nat} {a b : α} (h1 : l[i]? = some a) (h2 : l[j]? = some b) (n : i ≠ j) : g a ≠ g b := fun e => by
  have e1 : (l.map g)[i]? = some (g a) := by rw [List.getElem?_map, h1]; rfl
  have e2 : (l.map g)[j]? = some (g b) := by rw [List.getElem?_map, h2]; rfl
  have l1 : i < (l.map g).length := (List.getElem?_eq_some_iff.mp e1).1
  rw [← e, ← e1] at e2
  exact n ((List.getElem?_inj l1 nd).mp e2.symm)
section
variable {K : PySem.W.Frag} {H H' : Hp} {A : DAd} {d : DiskS} {i : Nat} {a : FAd} {f f' : FileS}
theorem own_p : A.p ∈ A.own := List.mem_cons_self
theorem own_f (h : A.fs[i]? = some a) : a.f ∈ A.own := List.mem_cons_of_mem _ (List.mem_cons_of_mem _ (List.mem_cons_of_mem _ (List.mem_append_left _ (List.mem_map.mpr ⟨a, List.mem_of_getElem? h, rfl⟩))))
theorem own_l (h : A.fs[i]? = some a) : a.l ∈ A.own := List.mem_cons_of_mem _ (List.mem_cons_of_mem _ (List.mem_cons_of_mem _ (List.mem_append_right _ (List.mem_map.mpr ⟨a, List.mem_of_getElem? h, rfl⟩))))
theorem sub_own (h : A.fs[i]? = some a) : ∀ b ∈ [A.p, a.f, a.l], b ∈ A.own := fun b hb => by
  simp only [List.mem_cons, List.not_mem_nil, or_false] at hb
  rcases hb with rfl | rfl | rfl
  · exact own_p
  · exact own_f h
  · exact own_l h
theorem FileAt.ne {p : Addr} (h : FileAt K H p a f) : a.f ≠ a.l := by
  obtain ⟨ts, h1, _⟩ := h.pl
  exact ne_of h.ob h1 fun z => nomatch z
theorem DiskAt.set {after : Int} (h : DiskAt K H A d) (ha : A.fs[i]? = some a) (hf : d.files[i]? = some f) (s : Stp K [A.p, a.f, a.l] H H') (hp : H' A.p = some (.ins (cD K) A.dx (diskFs A.bk A.fd d.rule d.short d.back after)))
    (hf' : FileAt K H' A.p a f') (hn : f'.name = f.name) : DiskAt K H' A { d with after := after, files := d.files.set i f' } := by
  have hfa : FileAt K H A.p a f := Paired.at2 h.fs ha hf
  obtain ⟨ts, hl1, _⟩ := hfa.pl
  have n1 : ∀ {b : Addr} {o : HO}, H b = some o → (∀ C dx fs, o ≠ .ins C dx fs) → (∀ xs, o ≠ .lst xs) → b ∉ [A.p, a.f, a.l] := fun e c1 c2 z => by
    simp only [List.mem_cons, List.not_mem_nil, or_false] at z
    rcases z with rfl | rfl | rfl
    · rw [h.ob] at e; exact c1 _ _ _ (Option.some.inj e).symm
    · rw [hfa.ob] at e; exact c1 _ _ _ (Option.some.inj e).symm
    · rw [hl1] at e; exact c2 _ (Option.some.inj e).symm
  refine ⟨hp, ?_, s.chg.tups _ _ h.sh, ?_, ?_, h.ndf, h.ndl⟩
  · refine s.keep_ins h.bk fun z => ?_
    simp only [List.mem_cons, List.not_mem_nil, or_false] at z
    rcases z with z | z | z
    · exact ne_of h.bk h.ob (fun y => disk_ne_book y.symm) z
    · exact ne_of h.bk hfa.ob (fun y => file_ne_book y.symm) z
    · exact ne_of h.bk hl1 (fun y => nomatch y) z
  · show H' A.fd = some (.dK (fkv A.fs (d.files.set i f')))
    rw [fkv_set hf hn]
    exact s.keep_dK h.fd (n1 h.fd (fun _ _ _ z => nomatch z) fun _ z => nomatch z)
  · refine paired_of (by rw [List.length_set]; exact Paired.length h.fs) fun j b g hb hg => ?_
    rw [List.getElem?_set] at hg
    by_cases e : i = j
    · subst e
      have hlt : i < d.files.length := (List.getElem?_eq_some_iff.mp hf).1
      rw [if_pos rfl, if_pos hlt] at hg
      rw [ha] at hb
      cases hb
      cases hg
      exact hf'
    · rw [if_neg e] at hg
      have hbg : FileAt K H A.p b g := Paired.at2 h.fs hb hg
      obtain ⟨us, hl2, _⟩ := hbg.pl
      refine hbg.chg s.chg (fun z => ?_) fun z => ?_
      · simp only [List.mem_cons, List.not_mem_nil, or_false] at z
        rcases z with z | z | z
        · exact ne_of hbg.ob h.ob file_ne_disk z
        · exact nodup_at h.ndf hb ha (Ne.symm e) z
        · exact ne_of hbg.ob hl1 (fun y => nomatch y) z
      · simp only [List.mem_cons, List.not_mem_nil, or_false] at z
        rcases z with z | z | z
        · exact ne_of hl2 h.ob (fun y => nomatch y) z
        · exact ne_of hl2 hfa.ob (fun y => nomatch y) z
        · exact nodup_at h.ndl hb ha (Ne.symm e) z
end
/-! ### l[0] -/
def tHead (te : TE) : TE := fun σ H Q => te σ H fun x H1 => ∃ (l : Addr) (xs : List V) (y : V), x = .ref l ∧ H1 l = some (.lst xs) ∧ xs[0]? = some y ∧ Q y H1
section
variable {X : Cx} {e : Expr} {te : TE} {pos p1 : Pos} {j : Nat}
theorem pe_head (he : PE X e te) : PE X (.Subscript e (.Constant (.int 0) j p1) pos) (tHead te) := by
  constructor
  intro pins s σ H Q I h
  refine Subscript_ (thn (he.run pins s σ H _ I h) fun v s1 ⟨x, H1, I1, rx, l, xs, y, ex, hl, hy, hQ⟩ => wpAny_Constant_int ?_)
  subst ex
  have I2 := I1.tok (s1.toks + 1)
  have hlt : 0 < xs.length := (List.getElem?_eq_some_iff.mp hy).1
  refine ix_list e (.Constant (.int 0) j p1) pins _ σ H1 (.ref l) (.int 0) v _ Q I2 rx ⟨_, rfl⟩ ⟨l, xs, 0, y, rfl, rfl, SqL.of hl, ?_, hQ⟩ rfl
  unfold atI ixN
  rw [if_pos (by decide), if_pos (by omega)]
  exact hy
end
end GF

set_option Elab.async false
set_option linter.all false
set_option maxRecDepth 100000
set_option maxHeartbeats 4000000
namespace GF
open PySem PySem.Spec PyProof.Rows L2
/-! ### written_behind -/
/-- the bounds under which a disk writes behind a file -/
structure WB (d : DiskS) (f : FileS) (many : Int) : Prop where
  n : (allRuns d.files).length ≤ 800
  bk : BookOk d.lo d.hi d.t d.b
  ru : isRule d.rule
  h0 : 0 ≤ f.hold
  h1 : f.hold ≤ 10 ^ 40
  n1 : needM f many ≤ 10 ^ 40
  go : 0 < needM f many → askD d f many ≤ 10 ^ 40 ∧ 0 ≤ behindM f.runs (freeM (allRuns d.files)) ∧ behindM f.runs (freeM (allRuns d.files)) ≤ 10 ^ 40 ∧ 0 ≤ d.after ∧ d.after ≤ 10 ^ 40 ∧ ∃ st, startM d f (askD d f many) = some st
theorem ask_ge (lo hi t b h need : Int) : need ≤ askM lo hi t b h need := by
  unfold askM
  split <;> omega
theorem fd_grow {bk fd : Addr} {rule : Str} {short back : Bool} {after : Int} : (diskFs bk fd rule short back after).lookup (Str.ofString "free") = none := by kernel_rfl
theorem ff_put {p l : Addr} {name : Str} {size hold : Int} {op : Bool} : (fileFs p l name size hold op).lookup (Str.ofString "put_behind") = none := by kernel_rfl
section
variable {P : Program} {w : World} {K : PySem.W.Frag} {mg : Str → Option Value} {base : Heap}
def sp_wb (K : PySem.W.Frag) : Sp := fun vs H Q _ => ∃ (A : DAd) (d : DiskS) (i : Nat) (a : FAd) (f : FileS) (many : Int), vs = [.ref A.p, .ref a.f, .int many] ∧ DiskAt K H A d ∧ A.fs[i]? = some a ∧ d.files[i]? = some f ∧ Tab K H ∧ WB d f many ∧
  ∀ H', Stp K A.own H H' → DiskAt K H' A (growD d i f many) → Q (.int (givenF d f many)) H'
theorem sc_wb : FnScope ["self", "file", "many", "need", "free", "asked", "behind", "runs", "start", "length"] ["self", "file", "many"] (defScope s_Disk_written_behind) := ⟨rfl, rfl, rfl, by decide +kernel, rfl, by decide +kernel, by decide +kernel⟩
theorem freeM_len (rs : List R2i) : (freeM rs).length ≤ rs.length + 1 := by
  unfold freeM
  have h1 := shared_len (othersM (joinedM (rs.map fin))) [(0, none)]
  have h2 := othersM_len (joinedM (rs.map fin))
  have h3 := joinedM_len (rs.map fin)
  rw [List.length_map] at h3
  rw [List.length_singleton, Nat.one_mul] at h1
  omega
theorem p_wb (T : Txt K mg) (TB : LamX.TabB base mg (jC K) (jP K)) : FnR P w K mg base CX0 12 (He.ma K (He.ga K "Disk") "written_behind") (sp_wb K) := by
  obtain ⟨fd, F⟩ := T.d_Disk_written_behind
  refine mkR F (F.ok sc_wb (fun vs H Q E h => ?_) fun cdv A outer s H vs Q E hr h => ?_) fun _ _ _ _ _ _ us hl => match us, hl with | [_, _, _], _ => rfl
  · obtain ⟨A, d, i, a, f, many, rfl, _⟩ := h
    rfl
  · obtain ⟨D, d, i, a, f, many, rfl, hd, ha, hf, tb, wb, k⟩ := h
    have nd := sc_wb.nd
    obtain ⟨fd2, G, B⟩ := p_placed (P := P) (w := w) (base := base) T
    have callO : StX.CallO K (cB K) (He.ma K (He.ga K "Book") "__call__") := ⟨T.m_Book_call.at_, T.m_Book_call.fn, T.fnCall⟩
    refine ⟨_, (pss_cons (ps_set (i := 3) nd rfl (Or.inl rfl) (pe_op op_sub (pe_op op_add (pe_fld (pv 1) rfl) (pv 2)) (pe_fld (pv 1) rfl)))
      (pss_cons (ps_if (pt_cmpR op_le (pv 3) pe_int (nomark _))
      (pss_cons (ps_fldaug (pv 1) (pv 2) in_add)
        (pss_one (ps_ret pe_int)))
      pss_nil)
      (pss_cons (ps_set (i := 4) nd rfl (Or.inl rfl) (pe_methR0 (pv 0) T.c_Disk T.m_Disk_free (p_free T TB) (hr.mono (by decide))))
      (pss_cons (ps_set (i := 5) nd rfl (Or.inl rfl) (pe_fldCallO (pv 0) T.c_Disk T.n_Disk_own_book callO (p_Book_call T) (hr.mono (by decide)) (pa_cons (pe_fld (pv 1) rfl) (pa_cons (pv 3) pa_nil))))
      (pss_cons (ps_set (i := 6) nd rfl (Or.inl rfl) pe_int)
      (pss_cons (ps_if (pt_cmpR op_gt (pe_callB call_len_seq (by rfl) T.f_len PySem.boot_len (pa_cons (pe_fld (pv 1) rfl) pa_nil)) pe_int (nomark _))
      (pss_one (ps_set (i := 6) nd rfl (Or.inl rfl) (pe_callB (cr_sumT rfl) (by rfl) T.f_sum (by decide +kernel) (pa_cons (pe_last (pe_fld (pv 1) rfl)) pa_nil))))
      (pss_one (ps_if (pt_truO (pv 4) T.m_Room_bool.at_ T.m_Room_bool.fn (p_Room_bool T) (hr.mono (by decide)))
        (pss_one (ps_set (i := 6) nd rfl (Or.inl rfl) (pe_fst (pe_head (pe_methR0 (pv 4) T.c_Room T.m_Room_runs (p_Room_runs T) (hr.mono (by decide)))))))
        pss_nil)))
      (pss_cons (ps_set (i := 7) nd rfl (Or.inl rfl) (pe_callN G (hr.mono (by decide)) rfl T.g_placed (kp_placed T) B pass0 (pa_cons (pe_fld (pv 0) rfl) (pa_cons (pv 4) (pa_cons (pv 5) pa_nil))) (pk_cons (pv 6) (pk_cons (pe_fld (pv 0) rfl) (pk_cons (pe_fld (pv 0) rfl) (pk_cons (pv 3) pk_nil))))))
      (pss_cons (ps_if (pt_cmpR op_isN (pv 7) pe_non (nomark _))
      (pss_one ps_never)
      pss_nil)
      (pss_cons (ps_expr (pe_methG (pv 1) T.c_File T.m_File_put_behind (p_put T) (hr.mono (by decide)) (pa_cons (pv 7) pa_nil)))
      (pss_cons (ps_fldaug (pv 1) (pv 2) in_add)
      (pss_cons (ps_fld (pv 0) (pe_callB (cr_sumT rfl) (by rfl) T.f_sum (by decide +kernel) (pa_cons (pe_last (pv 7)) pa_nil)) rfl)
      (pss_one (ps_ret (pe_callB (cr_sum rfl) (by rfl) T.f_sum (by decide +kernel) (pa_cons (pe_lc (own := [(Str.ofString "start", 8), (Str.ofString "length", 9)]) (g := gTup K 2 (gCons (gName 8) (gCons (gName 9) gNil))) (tt := tYes) (te := tVar 9) rfl nd (pi_list (pv 7)) (blkOk_by (N := ["self", "file", "many", "need", "free", "asked", "behind", "runs", "start", "length"]) (sc := defScope s_Disk_written_behind) (by decide +kernel)) (fun _ _ _ _ _ => (pg_tup rfl (pgs_cons (pg_name (i := 8) nd rfl (Or.inl rfl)) (pgs_cons (pg_name (i := 9) nd rfl (Or.inl rfl)) pgs_nil)))) (fun _ _ _ _ _ => pts_nil) (fun _ _ _ _ _ => (pv 9))) pa_nil))))))))))))))), ?_⟩
    have hfa : FileAt K H D.p a f := Paired.at2 hd.fs ha hf
    refine ⟨_, rfl, a.f, _, a.dx, _, _, rfl, hfa.ob, T.c_File, T.n_File_size, ff_size, _, rfl, _, _, rfl, rfl, _, rfl, a.f, _, a.dx, _, _, rfl, hfa.ob, T.c_File, T.n_File_hold, ff_hold, _, _, rfl, rfl, ?_⟩
    refine ⟨_, rfl, _, _, rfl, rfl, _, rfl, ?_⟩
    show if decide (needM f many ≤ 0) = true then _ else _
    by_cases h0 : needM f many ≤ 0
    · rw [decide_eq_true h0]
      refine iteT ⟨_, rfl, a.f, _, a.dx, _, _, rfl, hfa.ob, T.c_File, T.n_File_size, ff_size, _, rfl, _, _, rfl, rfl, a.dx, _, hfa.ob, by rw [ff_len]; decide, ?_⟩
      rw [ff_put_size]
      have s1 : Stp K [D.p, a.f, a.l] H (upd H a.f (.ins (cF K) a.dx (fileFs D.p a.l f.name (f.size + many) f.hold f.op))) := (Stp.ins hfa.ob).mono (by simp)
      have hset := hd.set (f' := { f with size := f.size + many }) ha hf s1 (by rw [upd_ne (fun z => ne_of hfa.ob hd.ob file_ne_disk z.symm)]; exact hd.ob) ⟨upd_same, (Stp.ins (K := K) hfa.ob).pl hfa.pl (by simpa using hfa.ne.symm)⟩ rfl
      have egrow : growD d i f many = { d with after := d.after, files := d.files.set i { f with size := f.size + many } } := by
        unfold growD grownF afterF
        rw [if_pos h0, if_pos h0]
      have egiv : givenF d f many = 0 := if_pos h0
      have hk := k _ (s1.mono (sub_own ha)) (by rw [egrow]; exact hset)
      rw [egiv] at hk
      exact hk
    · rw [decide_eq_false h0]
      obtain ⟨g1, g2, g3, g4, g5, st, hst⟩ := wb.go (by omega)
      have egrow : growD d i f many = { d with after := st + askD d f many, files := d.files.set i { f with size := f.size + many, hold := f.hold + askD d f many, runs := putM f.runs (st, askD d f many) } } := by
        unfold growD grownF afterF
        rw [if_neg h0, if_neg h0, hst]
        rfl
      have egiv : givenF d f many = askD d f many := if_neg h0
      have wn := wb.n
      have fl := freeM_len (allRuns d.files)
      have rl := runs_le hf
      unfold startM at hst
      refine iteF ⟨_, rfl, D.p, D.dx, _, rfl, hd.ob, fd_grow, D, d, rfl, hd, wb.n, tb, fun H1 r s1 hR => ?_⟩
      have hfa1 : FileAt K H1 D.p a f := ⟨s1.keep_ins hfa.ob (by simp), s1.pl hfa.pl (by simp)⟩
      have hbk1 := s1.keep_ins hd.bk (by simp)
      refine ⟨_, rfl, D.p, D.dx, _, D.bk, rfl, s1.keep_ins hd.ob (by simp), fd_book, _, rfl, a.f, _, a.dx, _, _, rfl, hfa1.ob, T.c_File, T.n_File_hold, ff_hold, _, rfl, ⟨_, _, hbk1⟩, D.bk, D.bdx, D.sh, d.lo, d.hi, d.t, d.b, f.hold, needM f many, rfl, ⟨hbk1, s1.chg.tups _ _ hd.sh⟩, wb.bk, wb.h0, wb.h1, by omega, wb.n1, ?_⟩
      obtain ⟨ts, hl1, ht1⟩ := hfa1.pl
      refine ⟨_, rfl, a.f, _, a.dx, _, _, rfl, hfa1.ob, T.c_File, T.n_File_runs_held, ff_runs, a.l, _, rfl, .inl (SqL.of hl1), _, _, rfl, rfl, _, rfl, ?_⟩
      by_cases hrs : f.runs = []
      · have hts : ts = [] := List.eq_nil_of_length_eq_zero (by rw [ht1.length, hrs]; rfl)
        subst hts
        obtain ⟨dx, rl1, hr1, hr2⟩ := id hR
        refine iteF ⟨_, rfl, r, dx, _, rfl, hr1, r, _, rfl, hR, _, rfl, ?_⟩
        cases hfree : freeM (allRuns d.files) with
        | nil =>
          have hb : behindM f.runs (freeM (allRuns d.files)) = 0 := by rw [hrs, hfree]; rfl
          refine iteF ?_
          have s2 := s1
          have hst' := hst
          have g2' := g2
          have g3' := g3
          rw [hb] at hst' g2' g3'
          refine ⟨_, rfl, D.p, _, D.dx, _, _, rfl, s2.keep_ins hd.ob (by simp), T.c_Disk, T.n_Disk_rule, fd_rule, _, rfl, _, rfl, _, rfl, _, rfl, D.p, _, D.dx, _, _, rfl, s2.keep_ins hd.ob (by simp), T.c_Disk, T.n_Disk_after, fd_after,
            _, rfl, D.p, _, D.dx, _, _, rfl, s2.keep_ins hd.ob (by simp), T.c_Disk, T.n_Disk_short, fd_short, _, rfl, rfl, rfl, d.rule, r, freeM (allRuns d.files), askD d f many, _, d.after, needM f many, st, d.short, rfl, wb.ru, hR, by omega, g1, g2', g3', g4, g5, by omega, ask_ge _ _ _ _ _ _, hst', fun H3 R e3 hR0 hpl => ?_⟩
          have s3 : Stp K [] H H3 := s2.trans (.of_same e3)
          have hRl : R ≠ a.l := by
            obtain ⟨us, hz, _⟩ := s2.pl hfa.pl (by simp)
            exact fun z => ne_of_none hz hR0 z.symm
          obtain ⟨ws, hR1, hR2⟩ := hpl
          have fal : a.f ≠ R := ne_of (s3.keep_ins hfa.ob (by simp)) hR1 fun z => nomatch z
          have pR : D.p ≠ R := ne_of (s3.keep_ins hd.ob (by simp)) hR1 fun z => nomatch z
          refine ⟨_, rfl, rfl, _, rfl, iteF ?_⟩
          refine ⟨_, rfl, a.f, a.dx, _, rfl, s3.keep_ins hfa.ob (by simp), ff_put, _, rfl, a.f, a.dx, D.p, a.l, R, f.name, f.size, f.hold, st, askD d f many, f.op, f.runs, rfl, s3.keep_ins hfa.ob (by simp), s3.pl hfa.pl (by simp), ⟨ws, hR1, hR2⟩, hRl, by omega, fun H4 s4 ob4 pl4 => ?_⟩
          replace ob4 : H4 a.f = some (.ins (cF K) a.dx (fileFs D.p a.l f.name f.size (f.hold + askD d f many) f.op)) := ob4
          replace s4 : Stp K [a.f, a.l] H3 H4 := s4
          refine ⟨_, rfl, a.f, _, a.dx, _, _, rfl, ob4, T.c_File, T.n_File_size, ff_size, _, rfl, _, _, rfl, rfl, a.dx, _, ob4, by rw [ff_len]; decide, ?_⟩
          rw [ff_put_size]
          have s5 : Stp K [a.f, a.l] H3 (upd H4 a.f (.ins (cF K) a.dx (fileFs D.p a.l f.name (f.size + many) (f.hold + askD d f many) f.op))) := s4.trans ((Stp.ins ob4).mono (by simp))
          have ob5 : (upd H4 a.f (.ins (cF K) a.dx (fileFs D.p a.l f.name (f.size + many) (f.hold + askD d f many) f.op))) a.f = some (.ins (cF K) a.dx (fileFs D.p a.l f.name (f.size + many) (f.hold + askD d f many) f.op)) := upd_same
          have pl5 : PL (upd H4 a.f (.ins (cF K) a.dx (fileFs D.p a.l f.name (f.size + many) (f.hold + askD d f many) f.op))) a.l ((putM f.runs (st, askD d f many)).map fin) := (Stp.ins (K := K) ob4).pl pl4 (by simpa using hfa.ne.symm)
          generalize upd H4 a.f (.ins (cF K) a.dx (fileFs D.p a.l f.name (f.size + many) (f.hold + askD d f many) f.op)) = H5 at s5 ob5 pl5 ⊢
          have hpf : D.p ∉ [a.f, a.l] := by
            obtain ⟨us, hz, _⟩ := hfa.pl
            simp only [List.mem_cons, List.not_mem_nil, or_false, not_or]
            exact ⟨fun z => ne_of hfa.ob hd.ob file_ne_disk z.symm, ne_of hd.ob hz fun z => nomatch z⟩
          have obp5 : H5 D.p = some (.ins (cD K) D.dx (diskFs D.bk D.fd d.rule d.short d.back d.after)) := s5.keep_ins (s3.keep_ins hd.ob (by simp)) hpf
          have hR5 : H5 R = some (.lst (ws.map V.ref)) := s5.keep_lst hR1 (by simp [fal.symm, hRl])
          have hR6 := hR2.ext s5.chg.tups
          obtain ⟨t, hws, ht⟩ : ∃ t, ws = [t] ∧ H5 t = some (.tup (pairV (st, some (askD d f many)))) := by
            cases hR6 with
            | cons r q => cases q; exact ⟨_, rfl, r⟩
          subst hws
          refine ⟨_, rfl, R, _, V.ref t, rfl, hR5, rfl, t, [st, askD d f many], rfl, SqT.of ht, _, rfl, D.p, _, D.dx, _, rfl, obp5, T.c_Disk, T.n_Disk_after, (by show 8 < 1000; decide), ?_⟩
          rw [fd_put_after]
          have esum : [st, askD d f many].sum = st + askD d f many := by simp
          rw [esum]
          have s6 : Stp K [D.p, a.f, a.l] H3 (upd H5 D.p (.ins (cD K) D.dx (diskFs D.bk D.fd d.rule d.short d.back (st + askD d f many)))) := (s5.mono (by simp)).trans ((Stp.ins obp5).mono (by simp))
          have hR7 : (upd H5 D.p (.ins (cD K) D.dx (diskFs D.bk D.fd d.rule d.short d.back (st + askD d f many)))) R = some (.lst ([t].map V.ref)) := by rw [upd_ne pR.symm]; exact hR5
          have ht7 : (upd H5 D.p (.ins (cD K) D.dx (diskFs D.bk D.fd d.rule d.short d.back (st + askD d f many)))) t = some (.tup (pairV (st, some (askD d f many)))) := (Stp.ins (K := K) obp5).chg.tups _ _ ht
          have ob7 : (upd H5 D.p (.ins (cD K) D.dx (diskFs D.bk D.fd d.rule d.short d.back (st + askD d f many)))) a.f = some (.ins (cF K) a.dx (fileFs D.p a.l f.name (f.size + many) (f.hold + askD d f many) f.op)) := (Stp.ins (K := K) obp5).keep_ins ob5 (by simpa using fun z => hpf (by simp [z]))
          have pl7 : PL (upd H5 D.p (.ins (cD K) D.dx (diskFs D.bk D.fd d.rule d.short d.back (st + askD d f many)))) a.l ((putM f.runs (st, askD d f many)).map fin) := (Stp.ins (K := K) obp5).pl pl5 (by simpa using fun z => hpf (by simp [z]))
          have obp7 : (upd H5 D.p (.ins (cD K) D.dx (diskFs D.bk D.fd d.rule d.short d.back (st + askD d f many)))) D.p = some (.ins (cD K) D.dx (diskFs D.bk D.fd d.rule d.short d.back (st + askD d f many))) := upd_same
          generalize upd H5 D.p (.ins (cD K) D.dx (diskFs D.bk D.fd d.rule d.short d.back (st + askD d f many))) = H6 at s6 hR7 ht7 ob7 pl7 obp7 ⊢
          refine ⟨_, rfl, R, rfl, ⟨_, SqL.of hR7⟩, fun L hL => ?_⟩
          refine lc_list (K := K) (a := R) (xs := [t].map V.ref) (fun i H' => Same H6 H' ∧ H' L = some (.lst (List.replicate i (V.int (askD d f many))))) ⟨Same.upd_new hL, upd_same⟩ (fun i H' _ ⟨e, _⟩ => SqL.of (e _ _ hR7)) ?_ ?_
          · rintro j y H' hy ⟨e, hl⟩
            have j0 : j = 0 := by
              have z := (List.getElem?_eq_some_iff.mp hy).1
              simp only [List.length_map, List.length_cons, List.length_nil] at z
              omega
            subst j0
            have hy' : y = V.ref t := (Option.some.inj hy).symm
            subst hy'
            refine ⟨t, _, rfl, SqT.of (e _ _ ht7), rfl, _, _, rfl, _, _, rfl, rfl, rfl, _, rfl, _, hl, (by show 0 < sizeLine; decide), Same.upd_wr e (by exact hL), upd_same⟩
          · rintro H' ⟨e, hl⟩
            have s7 : Stp K [D.p, a.f, a.l] H H' := (s3.mono (by simp)).trans (s6.trans (.of_same e))
            have hset : DiskAt K H' D { d with after := st + askD d f many, files := d.files.set i { f with size := f.size + many, hold := f.hold + askD d f many, runs := putM f.runs (st, askD d f many) } } :=
              hd.set ha hf s7 (e _ _ obp7) ⟨e _ _ ob7, pl7.same e⟩ rfl
            refine ⟨L, [askD d f many], rfl, SqL.of hl, ?_⟩
            have e8 : [askD d f many].sum = askD d f many := by simp
            rw [e8, ← egiv]
            exact k H' (s7.mono (sub_own ha)) (by rw [egrow]; exact hset)
        | cons p rest =>
          refine iteT ⟨_, rfl, r, dx, _, rfl, hr1, fp_runs, r, _, rfl, hR, by omega, fun H2 q e2 hq hpq => ?_⟩
          obtain ⟨us, hq1, hq2⟩ := hpq
          rw [hfree] at hq2
          obtain ⟨u, us', rfl, hu⟩ : ∃ u us', us = u :: us' ∧ H2 u = some (.tup (pairV (runOf p))) := by
            cases hq2 with
            | cons r q => exact ⟨_, _, rfl, r⟩
          refine ⟨q, _, V.ref u, rfl, hq1, rfl, u, runOf p, rfl, hu, ?_⟩
          have hb : behindM f.runs (freeM (allRuns d.files)) = (runOf p).1 := by rw [hrs, hfree]; rfl
          have s2 : Stp K [] H H2 := s1.trans (.of_same e2)
          replace hR := hR.same e2
          have hst' := hst
          have g2' := g2
          have g3' := g3
          rw [hb] at hst' g2' g3'
          refine ⟨_, rfl, D.p, _, D.dx, _, _, rfl, s2.keep_ins hd.ob (by simp), T.c_Disk, T.n_Disk_rule, fd_rule, _, rfl, _, rfl, _, rfl, _, rfl, D.p, _, D.dx, _, _, rfl, s2.keep_ins hd.ob (by simp), T.c_Disk, T.n_Disk_after, fd_after,
            _, rfl, D.p, _, D.dx, _, _, rfl, s2.keep_ins hd.ob (by simp), T.c_Disk, T.n_Disk_short, fd_short, _, rfl, rfl, rfl, d.rule, r, freeM (allRuns d.files), askD d f many, _, d.after, needM f many, st, d.short, rfl, wb.ru, hR, by omega, g1, g2', g3', g4, g5, by omega, ask_ge _ _ _ _ _ _, hst', fun H3 R e3 hR0 hpl => ?_⟩
          have s3 : Stp K [] H H3 := s2.trans (.of_same e3)
          have hRl : R ≠ a.l := by
            obtain ⟨us, hz, _⟩ := s2.pl hfa.pl (by simp)
            exact fun z => ne_of_none hz hR0 z.symm
          obtain ⟨ws, hR1, hR2⟩ := hpl
          have fal : a.f ≠ R := ne_of (s3.keep_ins hfa.ob (by simp)) hR1 fun z => nomatch z
          have pR : D.p ≠ R := ne_of (s3.keep_ins hd.ob (by simp)) hR1 fun z => nomatch z
          refine ⟨_, rfl, rfl, _, rfl, iteF ?_⟩
          refine ⟨_, rfl, a.f, a.dx, _, rfl, s3.keep_ins hfa.ob (by simp), ff_put, _, rfl, a.f, a.dx, D.p, a.l, R, f.name, f.size, f.hold, st, askD d f many, f.op, f.runs, rfl, s3.keep_ins hfa.ob (by simp), s3.pl hfa.pl (by simp), ⟨ws, hR1, hR2⟩, hRl, by omega, fun H4 s4 ob4 pl4 => ?_⟩
          replace ob4 : H4 a.f = some (.ins (cF K) a.dx (fileFs D.p a.l f.name f.size (f.hold + askD d f many) f.op)) := ob4
          replace s4 : Stp K [a.f, a.l] H3 H4 := s4
          refine ⟨_, rfl, a.f, _, a.dx, _, _, rfl, ob4, T.c_File, T.n_File_size, ff_size, _, rfl, _, _, rfl, rfl, a.dx, _, ob4, by rw [ff_len]; decide, ?_⟩
          rw [ff_put_size]
          have s5 : Stp K [a.f, a.l] H3 (upd H4 a.f (.ins (cF K) a.dx (fileFs D.p a.l f.name (f.size + many) (f.hold + askD d f many) f.op))) := s4.trans ((Stp.ins ob4).mono (by simp))
          have ob5 : (upd H4 a.f (.ins (cF K) a.dx (fileFs D.p a.l f.name (f.size + many) (f.hold + askD d f many) f.op))) a.f = some (.ins (cF K) a.dx (fileFs D.p a.l f.name (f.size + many) (f.hold + askD d f many) f.op)) := upd_same
          have pl5 : PL (upd H4 a.f (.ins (cF K) a.dx (fileFs D.p a.l f.name (f.size + many) (f.hold + askD d f many) f.op))) a.l ((putM f.runs (st, askD d f many)).map fin) := (Stp.ins (K := K) ob4).pl pl4 (by simpa using hfa.ne.symm)
          generalize upd H4 a.f (.ins (cF K) a.dx (fileFs D.p a.l f.name (f.size + many) (f.hold + askD d f many) f.op)) = H5 at s5 ob5 pl5 ⊢
          have hpf : D.p ∉ [a.f, a.l] := by
            obtain ⟨us, hz, _⟩ := hfa.pl
            simp only [List.mem_cons, List.not_mem_nil, or_false, not_or]
            exact ⟨fun z => ne_of hfa.ob hd.ob file_ne_disk z.symm, ne_of hd.ob hz fun z => nomatch z⟩
          have obp5 : H5 D.p = some (.ins (cD K) D.dx (diskFs D.bk D.fd d.rule d.short d.back d.after)) := s5.keep_ins (s3.keep_ins hd.ob (by simp)) hpf
          have hR5 : H5 R = some (.lst (ws.map V.ref)) := s5.keep_lst hR1 (by simp [fal.symm, hRl])
          have hR6 := hR2.ext s5.chg.tups
          obtain ⟨t, hws, ht⟩ : ∃ t, ws = [t] ∧ H5 t = some (.tup (pairV (st, some (askD d f many)))) := by
            cases hR6 with
            | cons r q => cases q; exact ⟨_, rfl, r⟩
          subst hws
          refine ⟨_, rfl, R, _, V.ref t, rfl, hR5, rfl, t, [st, askD d f many], rfl, SqT.of ht, _, rfl, D.p, _, D.dx, _, rfl, obp5, T.c_Disk, T.n_Disk_after, (by show 8 < 1000; decide), ?_⟩
          rw [fd_put_after]
          have esum : [st, askD d f many].sum = st + askD d f many := by simp
          rw [esum]
          have s6 : Stp K [D.p, a.f, a.l] H3 (upd H5 D.p (.ins (cD K) D.dx (diskFs D.bk D.fd d.rule d.short d.back (st + askD d f many)))) := (s5.mono (by simp)).trans ((Stp.ins obp5).mono (by simp))
          have hR7 : (upd H5 D.p (.ins (cD K) D.dx (diskFs D.bk D.fd d.rule d.short d.back (st + askD d f many)))) R = some (.lst ([t].map V.ref)) := by rw [upd_ne pR.symm]; exact hR5
          have ht7 : (upd H5 D.p (.ins (cD K) D.dx (diskFs D.bk D.fd d.rule d.short d.back (st + askD d f many)))) t = some (.tup (pairV (st, some (askD d f many)))) := (Stp.ins (K := K) obp5).chg.tups _ _ ht
          have ob7 : (upd H5 D.p (.ins (cD K) D.dx (diskFs D.bk D.fd d.rule d.short d.back (st + askD d f many)))) a.f = some (.ins (cF K) a.dx (fileFs D.p a.l f.name (f.size + many) (f.hold + askD d f many) f.op)) := (Stp.ins (K := K) obp5).keep_ins ob5 (by simpa using fun z => hpf (by simp [z]))
          have pl7 : PL (upd H5 D.p (.ins (cD K) D.dx (diskFs D.bk D.fd d.rule d.short d.back (st + askD d f many)))) a.l ((putM f.runs (st, askD d f many)).map fin) := (Stp.ins (K := K) obp5).pl pl5 (by simpa using fun z => hpf (by simp [z]))
          have obp7 : (upd H5 D.p (.ins (cD K) D.dx (diskFs D.bk D.fd d.rule d.short d.back (st + askD d f many)))) D.p = some (.ins (cD K) D.dx (diskFs D.bk D.fd d.rule d.short d.back (st + askD d f many))) := upd_same
          generalize upd H5 D.p (.ins (cD K) D.dx (diskFs D.bk D.fd d.rule d.short d.back (st + askD d f many))) = H6 at s6 hR7 ht7 ob7 pl7 obp7 ⊢
          refine ⟨_, rfl, R, rfl, ⟨_, SqL.of hR7⟩, fun L hL => ?_⟩
          refine lc_list (K := K) (a := R) (xs := [t].map V.ref) (fun i H' => Same H6 H' ∧ H' L = some (.lst (List.replicate i (V.int (askD d f many))))) ⟨Same.upd_new hL, upd_same⟩ (fun i H' _ ⟨e, _⟩ => SqL.of (e _ _ hR7)) ?_ ?_
          · rintro j y H' hy ⟨e, hl⟩
            have j0 : j = 0 := by
              have z := (List.getElem?_eq_some_iff.mp hy).1
              simp only [List.length_map, List.length_cons, List.length_nil] at z
              omega
            subst j0
            have hy' : y = V.ref t := (Option.some.inj hy).symm
            subst hy'
            refine ⟨t, _, rfl, SqT.of (e _ _ ht7), rfl, _, _, rfl, _, _, rfl, rfl, rfl, _, rfl, _, hl, (by show 0 < sizeLine; decide), Same.upd_wr e (by exact hL), upd_same⟩
          · rintro H' ⟨e, hl⟩
            have s7 : Stp K [D.p, a.f, a.l] H H' := (s3.mono (by simp)).trans (s6.trans (.of_same e))
            have hset : DiskAt K H' D { d with after := st + askD d f many, files := d.files.set i { f with size := f.size + many, hold := f.hold + askD d f many, runs := putM f.runs (st, askD d f many) } } :=
              hd.set ha hf s7 (e _ _ obp7) ⟨e _ _ ob7, pl7.same e⟩ rfl
            refine ⟨L, [askD d f many], rfl, SqL.of hl, ?_⟩
            have e8 : [askD d f many].sum = askD d f many := by simp
            rw [e8, ← egiv]
            exact k H' (s7.mono (sub_own ha)) (by rw [egrow]; exact hset)
      · obtain ⟨q, lr, hql⟩ := split_last hrs
        rw [hql, List.map_append, List.map_singleton] at ht1
        obtain ⟨ts0, u, e0, ht0, hu⟩ := ht1.unsnoc
        subst e0
        have hlast : (List.map V.ref (ts0 ++ [u]))[(List.map V.ref (ts0 ++ [u])).length - 1]? = some (V.ref u) := by rw [List.map_append]; exact last_snoc _ _
        have hgt : decide ((((List.map V.ref (ts0 ++ [u])).length : Nat) : Int) > 0) = true := decide_eq_true (by rw [List.length_map, List.length_append, List.length_singleton]; omega)
        refine (show (if decide ((((List.map V.ref (ts0 ++ [u])).length : Nat) : Int) > 0) = true then _ else _) from ?_)
        rw [hgt]
        refine iteT ⟨_, rfl, a.f, _, a.dx, _, _, rfl, hfa1.ob, T.c_File, T.n_File_runs_held, ff_runs, a.l, _, V.ref u, rfl, hl1, hlast, u, [lr.1, lr.2], rfl, SqT.of hu, ?_⟩
        have hsum : [lr.1, lr.2].sum = lr.1 + lr.2 := by simp
        rw [hsum]
        have hb : behindM f.runs (freeM (allRuns d.files)) = lr.1 + lr.2 := by
          unfold behindM
          rw [hql, List.getLast?_concat]
        have s2 := s1
        have hst' := hst
        have g2' := g2
        have g3' := g3
        rw [hb] at hst' g2' g3'
        refine ⟨_, rfl, D.p, _, D.dx, _, _, rfl, s2.keep_ins hd.ob (by simp), T.c_Disk, T.n_Disk_rule, fd_rule, _, rfl, _, rfl, _, rfl, _, rfl, D.p, _, D.dx, _, _, rfl, s2.keep_ins hd.ob (by simp), T.c_Disk, T.n_Disk_after, fd_after,
          _, rfl, D.p, _, D.dx, _, _, rfl, s2.keep_ins hd.ob (by simp), T.c_Disk, T.n_Disk_short, fd_short, _, rfl, rfl, rfl, d.rule, r, freeM (allRuns d.files), askD d f many, _, d.after, needM f many, st, d.short, rfl, wb.ru, hR, by omega, g1, g2', g3', g4, g5, by omega, ask_ge _ _ _ _ _ _, hst', fun H3 R e3 hR0 hpl => ?_⟩
        have s3 : Stp K [] H H3 := s2.trans (.of_same e3)
        have hRl : R ≠ a.l := by
          obtain ⟨us, hz, _⟩ := s2.pl hfa.pl (by simp)
          exact fun z => ne_of_none hz hR0 z.symm
        obtain ⟨ws, hR1, hR2⟩ := hpl
        have fal : a.f ≠ R := ne_of (s3.keep_ins hfa.ob (by simp)) hR1 fun z => nomatch z
        have pR : D.p ≠ R := ne_of (s3.keep_ins hd.ob (by simp)) hR1 fun z => nomatch z
        refine ⟨_, rfl, rfl, _, rfl, iteF ?_⟩
        refine ⟨_, rfl, a.f, a.dx, _, rfl, s3.keep_ins hfa.ob (by simp), ff_put, _, rfl, a.f, a.dx, D.p, a.l, R, f.name, f.size, f.hold, st, askD d f many, f.op, f.runs, rfl, s3.keep_ins hfa.ob (by simp), s3.pl hfa.pl (by simp), ⟨ws, hR1, hR2⟩, hRl, by omega, fun H4 s4 ob4 pl4 => ?_⟩
        replace ob4 : H4 a.f = some (.ins (cF K) a.dx (fileFs D.p a.l f.name f.size (f.hold + askD d f many) f.op)) := ob4
        replace s4 : Stp K [a.f, a.l] H3 H4 := s4
        refine ⟨_, rfl, a.f, _, a.dx, _, _, rfl, ob4, T.c_File, T.n_File_size, ff_size, _, rfl, _, _, rfl, rfl, a.dx, _, ob4, by rw [ff_len]; decide, ?_⟩
        rw [ff_put_size]
        have s5 : Stp K [a.f, a.l] H3 (upd H4 a.f (.ins (cF K) a.dx (fileFs D.p a.l f.name (f.size + many) (f.hold + askD d f many) f.op))) := s4.trans ((Stp.ins ob4).mono (by simp))
        have ob5 : (upd H4 a.f (.ins (cF K) a.dx (fileFs D.p a.l f.name (f.size + many) (f.hold + askD d f many) f.op))) a.f = some (.ins (cF K) a.dx (fileFs D.p a.l f.name (f.size + many) (f.hold + askD d f many) f.op)) := upd_same
        have pl5 : PL (upd H4 a.f (.ins (cF K) a.dx (fileFs D.p a.l f.name (f.size + many) (f.hold + askD d f many) f.op))) a.l ((putM f.runs (st, askD d f many)).map fin) := (Stp.ins (K := K) ob4).pl pl4 (by simpa using hfa.ne.symm)
        generalize upd H4 a.f (.ins (cF K) a.dx (fileFs D.p a.l f.name (f.size + many) (f.hold + askD d f many) f.op)) = H5 at s5 ob5 pl5 ⊢
        have hpf : D.p ∉ [a.f, a.l] := by
          obtain ⟨us, hz, _⟩ := hfa.pl
          simp only [List.mem_cons, List.not_mem_nil, or_false, not_or]
          exact ⟨fun z => ne_of hfa.ob hd.ob file_ne_disk z.symm, ne_of hd.ob hz fun z => nomatch z⟩
        have obp5 : H5 D.p = some (.ins (cD K) D.dx (diskFs D.bk D.fd d.rule d.short d.back d.after)) := s5.keep_ins (s3.keep_ins hd.ob (by simp)) hpf
        have hR5 : H5 R = some (.lst (ws.map V.ref)) := s5.keep_lst hR1 (by simp [fal.symm, hRl])
        have hR6 := hR2.ext s5.chg.tups
        obtain ⟨t, hws, ht⟩ : ∃ t, ws = [t] ∧ H5 t = some (.tup (pairV (st, some (askD d f many)))) := by
          cases hR6 with
          | cons r q => cases q; exact ⟨_, rfl, r⟩
        subst hws
        refine ⟨_, rfl, R, _, V.ref t, rfl, hR5, rfl, t, [st, askD d f many], rfl, SqT.of ht, _, rfl, D.p, _, D.dx, _, rfl, obp5, T.c_Disk, T.n_Disk_after, (by show 8 < 1000; decide), ?_⟩
        rw [fd_put_after]
        have esum : [st, askD d f many].sum = st + askD d f many := by simp
        rw [esum]
        have s6 : Stp K [D.p, a.f, a.l] H3 (upd H5 D.p (.ins (cD K) D.dx (diskFs D.bk D.fd d.rule d.short d.back (st + askD d f many)))) := (s5.mono (by simp)).trans ((Stp.ins obp5).mono (by simp))
        have hR7 : (upd H5 D.p (.ins (cD K) D.dx (diskFs D.bk D.fd d.rule d.short d.back (st + askD d f many)))) R = some (.lst ([t].map V.ref)) := by rw [upd_ne pR.symm]; exact hR5
        have ht7 : (upd H5 D.p (.ins (cD K) D.dx (diskFs D.bk D.fd d.rule d.short d.back (st + askD d f many)))) t = some (.tup (pairV (st, some (askD d f many)))) := (Stp.ins (K := K) obp5).chg.tups _ _ ht
        have ob7 : (upd H5 D.p (.ins (cD K) D.dx (diskFs D.bk D.fd d.rule d.short d.back (st + askD d f many)))) a.f = some (.ins (cF K) a.dx (fileFs D.p a.l f.name (f.size + many) (f.hold + askD d f many) f.op)) := (Stp.ins (K := K) obp5).keep_ins ob5 (by simpa using fun z => hpf (by simp [z]))
        have pl7 : PL (upd H5 D.p (.ins (cD K) D.dx (diskFs D.bk D.fd d.rule d.short d.back (st + askD d f many)))) a.l ((putM f.runs (st, askD d f many)).map fin) := (Stp.ins (K := K) obp5).pl pl5 (by simpa using fun z => hpf (by simp [z]))
        have obp7 : (upd H5 D.p (.ins (cD K) D.dx (diskFs D.bk D.fd d.rule d.short d.back (st + askD d f many)))) D.p = some (.ins (cD K) D.dx (diskFs D.bk D.fd d.rule d.short d.back (st + askD d f many))) := upd_same
        generalize upd H5 D.p (.ins (cD K) D.dx (diskFs D.bk D.fd d.rule d.short d.back (st + askD d f many))) = H6 at s6 hR7 ht7 ob7 pl7 obp7 ⊢
        refine ⟨_, rfl, R, rfl, ⟨_, SqL.of hR7⟩, fun L hL => ?_⟩
        refine lc_list (K := K) (a := R) (xs := [t].map V.ref) (fun i H' => Same H6 H' ∧ H' L = some (.lst (List.replicate i (V.int (askD d f many))))) ⟨Same.upd_new hL, upd_same⟩ (fun i H' _ ⟨e, _⟩ => SqL.of (e _ _ hR7)) ?_ ?_
        · rintro j y H' hy ⟨e, hl⟩
          have j0 : j = 0 := by
            have z := (List.getElem?_eq_some_iff.mp hy).1
            simp only [List.length_map, List.length_cons, List.length_nil] at z
            omega
          subst j0
          have hy' : y = V.ref t := (Option.some.inj hy).symm
          subst hy'
          refine ⟨t, _, rfl, SqT.of (e _ _ ht7), rfl, _, _, rfl, _, _, rfl, rfl, rfl, _, rfl, _, hl, (by show 0 < sizeLine; decide), Same.upd_wr e (by exact hL), upd_same⟩
        · rintro H' ⟨e, hl⟩
          have s7 : Stp K [D.p, a.f, a.l] H H' := (s3.mono (by simp)).trans (s6.trans (.of_same e))
          have hset : DiskAt K H' D { d with after := st + askD d f many, files := d.files.set i { f with size := f.size + many, hold := f.hold + askD d f many, runs := putM f.runs (st, askD d f many) } } :=
            hd.set ha hf s7 (e _ _ obp7) ⟨e _ _ ob7, pl7.same e⟩ rfl
          refine ⟨L, [askD d f many], rfl, SqL.of hl, ?_⟩
          have e8 : [askD d f many].sum = askD d f many := by simp
          rw [e8, ← egiv]
          exact k H' (s7.mono (sub_own ha)) (by rw [egrow]; exact hset)
end
end GF

set_option Elab.async false
set_option linter.all false
set_option maxRecDepth 100000
set_option maxHeartbeats 4000000
namespace GF
open PySem PySem.Spec PyProof.Rows L2
def closedF (d : DiskS) (f : FileS) : FileS := if d.back = true then { f with op := false, hold := f.size, runs := cutM f.runs (f.hold - f.size) } else { f with op := false }
def closeD (d : DiskS) (i : Nat) (f : FileS) : DiskS := { d with files := d.files.set i (closedF d f) }
def openD (d : DiskS) (i : Nat) (f : FileS) : DiskS := { d with files := d.files.set i { f with op := true } }
theorem set_self {α : Type} {l : List α} {i : Nat} {x : α} (h : l[i]? = some x) : l.set i x = l := by
  apply List.ext_getElem?
  intro j
  rw [List.getElem?_set]
  by_cases e : i = j
  · subst e
    rw [if_pos rfl, if_pos (List.getElem?_eq_some_iff.mp h).1, h]
  · rw [if_neg e]
theorem grow0 {d : DiskS} {i : Nat} {f : FileS} (hf : d.files[i]? = some f) (h : f.size ≤ f.hold) : growD d i f 0 = d ∧ givenF d f 0 = 0 := by
  have h0 : needM f 0 ≤ 0 := by unfold needM; omega
  refine ⟨?_, if_pos h0⟩
  unfold growD grownF afterF
  rw [if_pos h0, if_pos h0]
  have e : ({ f with size := f.size + 0 } : FileS) = f := by rw [Int.add_zero]
  rw [e, set_self hf]
theorem fd_m {bk fd : Addr} {rule : Str} {short back : Bool} {after : Int} : (diskFs bk fd rule short back after).lookup (Str.ofString "open_file") = none ∧ (diskFs bk fd rule short back after).lookup (Str.ofString "written_behind") = none ∧
  (diskFs bk fd rule short back after).lookup (Str.ofString "flush") = none ∧ (diskFs bk fd rule short back after).lookup (Str.ofString "grow") = none ∧ (diskFs bk fd rule short back after).lookup (Str.ofString "close") = none ∧ (diskFs bk fd rule short back after).lookup (Str.ofString "reopen") = none ∧
  (diskFs bk fd rule short back after).lookup (Str.ofString "make") = none := ⟨by kernel_rfl, by kernel_rfl, by kernel_rfl, by kernel_rfl, by kernel_rfl, by kernel_rfl, by kernel_rfl⟩
theorem ff_cut {p l : Addr} {name : Str} {size hold : Int} {op : Bool} : (fileFs p l name size hold op).lookup (Str.ofString "cut_idle") = none := by kernel_rfl
section
variable {P : Program} {w : World} {K : PySem.W.Frag} {mg : Str → Option Value} {base : Heap}
/-! ### grow -/
def sp_grow (K : PySem.W.Frag) : Sp := fun vs H Q _ => ∃ (A : DAd) (d : DiskS) (i : Nat) (f : FileS) (many : Int), vs = [.ref A.p, .str f.name, .int many] ∧ DiskAt K H A d ∧ (d.files.map (·.name)).Nodup ∧ d.files[i]? = some f ∧ f.op = true ∧ 0 ≤ many ∧ many ≤ 10 ^ 30 ∧ Tab K H ∧ WB d f many ∧
  ∀ H', Stp K A.own H H' → DiskAt K H' A (growD d i f many) → Q (.int (givenF d f many)) H'
theorem sc_grow : FnScope ["self", "name", "many", "file"] ["self", "name", "many"] (defScope s_Disk_grow) := ⟨rfl, rfl, rfl, by decide +kernel, rfl, by decide +kernel, by decide +kernel⟩
theorem p_grow (T : Txt K mg) (TB : LamX.TabB base mg (jC K) (jP K)) : FnR P w K mg base CX0 13 (He.ma K (He.ga K "Disk") "grow") (sp_grow K) := by
  obtain ⟨fd, F⟩ := T.d_Disk_grow
  refine mkR F (F.ok sc_grow (fun vs H Q E h => ?_) fun cdv A outer s H vs Q E hr h => ?_) fun _ _ _ _ _ _ us hl => match us, hl with | [_, _, _], _ => rfl
  · obtain ⟨A, d, i, f, many, rfl, _⟩ := h
    rfl
  · obtain ⟨D, d, i, f, many, rfl, hd, nm, hf, hop, m0, m1, tb, wb, k⟩ := h
    have nd := sc_grow.nd
    obtain ⟨a, ha, hfa⟩ := hd.file hf
    refine ⟨_, (pss_cons (ps_set (i := 3) nd rfl (Or.inl rfl) (pe_itemO (pv 0) (pv 1) T.m_Disk_getitem.at_ T.fnGet T.m_Disk_getitem.fn (p_Disk_get T) (hr.mono (by decide))))
      (pss_cons (ps_expr (pe_callR (p_check_integer T) (hr.mono (by decide)) T.g_check_integer (kp_check_integer T) (pa_cons (pv 2) (pa_cons pe_int (pa_cons (pe_gint T.i_MOST_GROWTH) pa_nil)))))
      (pss_cons (ps_set (i := 3) nd rfl (Or.inl rfl) (pe_methG (pv 0) T.c_Disk T.m_Disk_open_file (p_open_file T) (hr.mono (by decide)) (pa_cons (pv 1) pa_nil)))
      (pss_cons (ps_if (pt_val (pe_fld (pv 0) rfl))
      pss_never
      pss_nil)
      (pss_one (ps_ret (pe_methG (pv 0) T.c_Disk T.m_Disk_written_behind (p_wb T TB) hr (pa_cons (pv 3) (pa_cons (pv 2) pa_nil))))))))), ?_⟩
    refine ⟨_, rfl, _, rfl, D.p, D.dx, _, rfl, hd.ob, D, d, i, a, f, rfl, hd, nm, ha, hf, ?_⟩
    refine ⟨_, rfl, many, 0, 10 ^ 30, rfl, m0, m1, ?_⟩
    refine ⟨_, rfl, D.p, D.dx, _, rfl, hd.ob, fd_m.1, _, rfl, D, d, i, a, f, rfl, hd, nm, ha, hf, hop, ?_⟩
    refine ⟨_, rfl, D.p, _, D.dx, _, _, rfl, hd.ob, T.c_Disk, T.n_Disk_late, fd_late, _, rfl, iteF ?_⟩
    exact ⟨_, rfl, D.p, D.dx, _, rfl, hd.ob, fd_m.2.1, _, rfl, _, rfl, D, d, i, a, f, many, rfl, hd, ha, hf, tb, wb, k⟩
/-! ### flush -/
def sp_flush (K : PySem.W.Frag) : Sp := fun vs H Q _ => ∃ (A : DAd) (d : DiskS) (i : Nat) (f : FileS), vs = [.ref A.p, .str f.name] ∧ DiskAt K H A d ∧ (d.files.map (·.name)).Nodup ∧ d.files[i]? = some f ∧ f.op = true ∧ f.size ≤ f.hold ∧ Tab K H ∧ WB d f 0 ∧
  ∀ H', Stp K A.own H H' → DiskAt K H' A d → Q (.int 0) H'
theorem sc_flush : FnScope ["self", "name", "file", "given"] ["self", "name"] (defScope s_Disk_flush) := ⟨rfl, rfl, rfl, by decide +kernel, rfl, by decide +kernel, by decide +kernel⟩
theorem p_flush (T : Txt K mg) (TB : LamX.TabB base mg (jC K) (jP K)) : FnR P w K mg base CX0 13 (He.ma K (He.ga K "Disk") "flush") (sp_flush K) := by
  obtain ⟨fd, F⟩ := T.d_Disk_flush
  refine mkR F (F.ok sc_flush (fun vs H Q E h => ?_) fun cdv A outer s H vs Q E hr h => ?_) fun _ _ _ _ _ _ us hl => match us, hl with | [_, _], _ => rfl
  · obtain ⟨A, d, i, f, rfl, _⟩ := h
    rfl
  · obtain ⟨D, d, i, f, rfl, hd, nm, hf, hop, hsz, tb, wb, k⟩ := h
    have nd := sc_flush.nd
    obtain ⟨a, ha, hfa⟩ := hd.file hf
    refine ⟨_, (pss_cons (ps_set (i := 2) nd rfl (Or.inl rfl) (pe_methG (pv 0) T.c_Disk T.m_Disk_open_file (p_open_file T) (hr.mono (by decide)) (pa_cons (pv 1) pa_nil)))
      (pss_cons (ps_set (i := 3) nd rfl (Or.inl rfl) (pe_methG (pv 0) T.c_Disk T.m_Disk_written_behind (p_wb T TB) hr (pa_cons (pv 2) (pa_cons (pe_fld (pv 2) rfl) pa_nil))))
      (pss_cons (ps_fld (pv 2) pe_int rfl)
      (pss_one (ps_ret (pv 3)))))), ?_⟩
    refine ⟨_, rfl, D.p, D.dx, _, rfl, hd.ob, fd_m.1, _, rfl, D, d, i, a, f, rfl, hd, nm, ha, hf, hop, ?_⟩
    obtain ⟨e1, e2⟩ := grow0 hf hsz
    refine ⟨_, rfl, D.p, D.dx, _, rfl, hd.ob, fd_m.2.1, _, rfl, _, rfl, a.f, _, a.dx, _, _, rfl, hfa.ob, T.c_File, T.n_File_waiting, ff_wait, D, d, i, a, f, 0, rfl, hd, ha, hf, tb, wb, fun H1 s1 hd1 => ?_⟩
    rw [e1] at hd1
    rw [e2]
    have hfa1 : FileAt K H1 D.p a f := Paired.at2 hd1.fs ha hf
    refine ⟨_, rfl, a.f, _, a.dx, _, rfl, hfa1.ob, T.c_File, T.n_File_waiting, (by show 7 < 1000; decide), ?_⟩
    rw [ff_put_wait]
    have s2 : Stp K [D.p, a.f, a.l] H1 (upd H1 a.f (.ins (cF K) a.dx (fileFs D.p a.l f.name f.size f.hold f.op))) := (Stp.ins hfa1.ob).mono (by simp)
    have hset := hd1.set (f' := f) ha hf s2 (by rw [upd_ne (fun z => ne_of hfa1.ob hd1.ob file_ne_disk z.symm)]; exact hd1.ob) ⟨upd_same, (Stp.ins (K := K) hfa1.ob).pl hfa1.pl (by simpa using hfa1.ne.symm)⟩ rfl
    have e3 : ({ d with after := d.after, files := d.files.set i f } : DiskS) = d := by rw [set_self hf]
    rw [e3] at hset
    exact ⟨_, rfl, k _ (s1.trans (s2.mono (sub_own ha))) hset⟩
/-! ### close -/
def sp_close (K : PySem.W.Frag) : Sp := fun vs H Q _ => ∃ (A : DAd) (d : DiskS) (i : Nat) (f : FileS), vs = [.ref A.p, .str f.name] ∧ DiskAt K H A d ∧ (d.files.map (·.name)).Nodup ∧ d.files[i]? = some f ∧ f.op = true ∧ f.size ≤ f.hold ∧ f.hold - f.size ≤ holdM f.runs ∧ (∀ r ∈ f.runs, 1 ≤ r.2) ∧ Tab K H ∧ WB d f 0 ∧
  ∀ H', Stp K A.own H H' → DiskAt K H' A (closeD d i f) → Q (.int (if d.back = true then f.hold - f.size else 0)) H'
theorem sc_close : FnScope ["self", "name", "file"] ["self", "name"] (defScope s_Disk_close) := ⟨rfl, rfl, rfl, by decide +kernel, rfl, by decide +kernel, by decide +kernel⟩
theorem p_close (T : Txt K mg) (TB : LamX.TabB base mg (jC K) (jP K)) : FnR P w K mg base CX0 14 (He.ma K (He.ga K "Disk") "close") (sp_close K) := by
  obtain ⟨fd, F⟩ := T.d_Disk_close
  refine mkR F (F.ok sc_close (fun vs H Q E h => ?_) fun cdv A outer s H vs Q E hr h => ?_) fun _ _ _ _ _ _ us hl => match us, hl with | [_, _], _ => rfl
  · obtain ⟨A, d, i, f, rfl, _⟩ := h
    rfl
  · obtain ⟨D, d, i, f, rfl, hd, nm, hf, hop, hsz, hle, hpos, tb, wb, k⟩ := h
    have nd := sc_close.nd
    obtain ⟨a, ha, hfa⟩ := hd.file hf
    refine ⟨_, (pss_cons (ps_set (i := 2) nd rfl (Or.inl rfl) (pe_methG (pv 0) T.c_Disk T.m_Disk_open_file (p_open_file T) (hr.mono (by decide)) (pa_cons (pv 1) pa_nil)))
      (pss_cons (ps_expr (pe_methG (pv 0) T.c_Disk T.m_Disk_flush (p_flush T TB) hr (pa_cons (pv 1) pa_nil)))
      (pss_cons (ps_fld (pv 2) pe_bl rfl)
      (pss_one (ps_ret (pe_ifExp (pt_val (pe_fld (pv 0) rfl)) (pe_methR0 (pv 2) T.c_File T.m_File_cut_idle (p_cut T) (hr.mono (by decide))) pe_int)))))), ?_⟩
    refine ⟨_, rfl, D.p, D.dx, _, rfl, hd.ob, fd_m.1, _, rfl, D, d, i, a, f, rfl, hd, nm, ha, hf, hop, ?_⟩
    refine ⟨_, rfl, D.p, D.dx, _, rfl, hd.ob, fd_m.2.2.1, _, rfl, D, d, i, f, rfl, hd, nm, hf, hop, hsz, tb, wb, fun H1 s1 hd1 => ?_⟩
    have hfa1 : FileAt K H1 D.p a f := Paired.at2 hd1.fs ha hf
    refine ⟨_, rfl, a.f, _, a.dx, _, rfl, hfa1.ob, T.c_File, T.n_File_is_open, (by show 7 < 1000; decide), ?_⟩
    rw [ff_put_open]
    have s2 : Stp K [D.p, a.f, a.l] H1 (upd H1 a.f (.ins (cF K) a.dx (fileFs D.p a.l f.name f.size f.hold false))) := (Stp.ins hfa1.ob).mono (by simp)
    have hset := hd1.set (f' := { f with op := false }) ha hf s2 (by rw [upd_ne (fun z => ne_of hfa1.ob hd1.ob file_ne_disk z.symm)]; exact hd1.ob) ⟨upd_same, (Stp.ins (K := K) hfa1.ob).pl hfa1.pl (by simpa using hfa1.ne.symm)⟩ rfl
    generalize upd H1 a.f (.ins (cF K) a.dx (fileFs D.p a.l f.name f.size f.hold false)) = H2 at s2 hset ⊢
    have s12 := s1.trans (s2.mono (sub_own ha))
    have hlt : i < d.files.length := (List.getElem?_eq_some_iff.mp hf).1
    have hf2 : (d.files.set i { f with op := false })[i]? = some { f with op := false } := by rw [List.getElem?_set, if_pos rfl, if_pos hlt]
    refine ⟨_, rfl, D.p, _, D.dx, _, _, rfl, hset.ob, T.c_Disk, T.n_Disk_back, fd_back, _, rfl, ?_⟩
    cases hb : d.back with
    | false =>
      rw [hb] at k
      refine iteF ?_
      refine k H2 s12 ?_
      have e : closeD d i f = { d with after := d.after, files := d.files.set i { f with op := false } } := by
        unfold closeD closedF
        rw [hb]
        rfl
      rw [e]
      exact hset
    | true =>
      rw [hb] at k
      have hfa2 : FileAt K H2 D.p a { f with op := false } := Paired.at2 hset.fs ha hf2
      refine iteT ⟨_, rfl, a.f, a.dx, _, rfl, hfa2.ob, ff_cut, a.f, a.dx, D.p, a.l, f.name, f.size, f.hold, false, f.runs, rfl, hfa2.ob, hfa2.pl, ?_, hpos, hle, fun H3 s3 ob3 pl3 => ?_⟩
      · have h1 := runs_le hf
        have h2 := wb.n
        omega
      · have hset3 := hset.set (f' := { f with op := false, hold := f.size, runs := cutM f.runs (f.hold - f.size) }) ha hf2 (s3.mono (by simp)) (s3.keep_ins hset.ob (by
            obtain ⟨us, hz, _⟩ := hfa2.pl
            simp only [List.mem_cons, List.not_mem_nil, or_false, not_or]
            exact ⟨fun z => ne_of hfa2.ob hset.ob file_ne_disk z.symm, ne_of hset.ob hz fun z => nomatch z⟩)) ⟨ob3, pl3⟩ rfl
        refine k H3 (s12.trans (s3.mono fun b hb => sub_own ha b (by simp at hb ⊢; exact .inr hb))) ?_
        have e : closeD d i f = { d with after := d.after, files := (d.files.set i { f with op := false }).set i { f with op := false, hold := f.size, runs := cutM f.runs (f.hold - f.size) } } := by
          unfold closeD closedF
          rw [hb, List.set_set]
          rfl
        rw [e]
        exact hset3
/-! ### reopen -/
def sp_reopen (K : PySem.W.Frag) : Sp := fun vs H Q _ => ∃ (A : DAd) (d : DiskS) (i : Nat) (f : FileS), vs = [.ref A.p, .str f.name] ∧ DiskAt K H A d ∧ (d.files.map (·.name)).Nodup ∧ d.files[i]? = some f ∧ f.op = false ∧
  ∀ H', Stp K A.own H H' → DiskAt K H' A (openD d i f) → Q .non H'
theorem sc_reopen : FnScope ["self", "name", "file"] ["self", "name"] (defScope s_Disk_reopen) := ⟨rfl, rfl, rfl, by decide +kernel, rfl, by decide +kernel, by decide +kernel⟩
theorem p_reopen (T : Txt K mg) : FnR P w K mg base CX0 3 (He.ma K (He.ga K "Disk") "reopen") (sp_reopen K) := by
  obtain ⟨fd, F⟩ := T.d_Disk_reopen
  refine mkR F (F.ok sc_reopen (fun vs H Q E h => ?_) fun cdv A outer s H vs Q E hr h => ?_) fun _ _ _ _ _ _ us hl => match us, hl with | [_, _], _ => rfl
  · obtain ⟨A, d, i, f, rfl, _⟩ := h
    rfl
  · obtain ⟨D, d, i, f, rfl, hd, nm, hf, hop, k⟩ := h
    have nd := sc_reopen.nd
    obtain ⟨a, ha, hfa⟩ := hd.file hf
    refine ⟨_, (pss_cons (ps_set (i := 2) nd rfl (Or.inl rfl) (pe_itemO (pv 0) (pv 1) T.m_Disk_getitem.at_ T.fnGet T.m_Disk_getitem.fn (p_Disk_get T) hr))
      (pss_cons (ps_if (pt_val (pe_fld (pv 2) rfl))
      (pss_one ps_never)
      pss_nil)
      (pss_one (ps_fld (pv 2) pe_bl rfl)))), ?_⟩
    refine ⟨_, rfl, _, rfl, D.p, D.dx, _, rfl, hd.ob, D, d, i, a, f, rfl, hd, nm, ha, hf, ?_⟩
    refine ⟨_, rfl, a.f, _, a.dx, _, _, rfl, hfa.ob, T.c_File, T.n_File_is_open, ff_open, _, rfl, ?_⟩
    rw [hop]
    refine iteF ⟨_, rfl, a.f, _, a.dx, _, rfl, hfa.ob, T.c_File, T.n_File_is_open, (by show 7 < 1000; decide), ?_⟩
    rw [ff_put_open]
    have s2 : Stp K [D.p, a.f, a.l] H (upd H a.f (.ins (cF K) a.dx (fileFs D.p a.l f.name f.size f.hold true))) := (Stp.ins hfa.ob).mono (by simp)
    have hset := hd.set (f' := { f with op := true }) ha hf s2 (by rw [upd_ne (fun z => ne_of hfa.ob hd.ob file_ne_disk z.symm)]; exact hd.ob) ⟨upd_same, (Stp.ins (K := K) hfa.ob).pl hfa.pl (by simpa using hfa.ne.symm)⟩ rfl
    exact k _ (s2.mono (sub_own ha)) hset
end
end GF

set_option Elab.async false
set_option linter.all false
set_option maxRecDepth 100000
set_option maxHeartbeats 4000000
namespace GF
open PySem PySem.Spec PyProof.Rows L2
/-! ## the law's own defs: the pool -/
def PoolAt (H : Hp) (p : Addr) : Prop := ∃ p0 p1 : Int, H p = some (.lst [.int p0, .int p1]) ∧ 0 ≤ p1 ∧ p1 < 2147483647
theorem PoolAt.stp {K : PySem.W.Frag} {M : List Addr} {H H' : Hp} {p : Addr} (h : PoolAt H p) (s : Stp K M H H') (m : p ∉ M) : PoolAt H' p := let ⟨p0, p1, h1, h2⟩ := h; ⟨p0, p1, s.keep_lst h1 m, h2⟩
theorem PoolAt.same {H H' : Hp} {p : Addr} (h : PoolAt H p) (s : Same H H') : PoolAt H' p := let ⟨p0, p1, h1, h2⟩ := h; ⟨p0, p1, s _ _ h1, h2⟩
theorem cut_ints (ns : List Int) (lo hi : Option Int) : ∃ ms : List Int, cutV (ns.map V.int) lo hi = ms.map V.int ∧ ms.length ≤ ns.length := by
  unfold cutV
  refine ⟨(ns.drop (HT.sIx (ns.map V.int).length 0 lo)).take (HT.sIx (ns.map V.int).length (ns.map V.int).length hi - HT.sIx (ns.map V.int).length 0 lo), ?_, ?_⟩
  · rw [List.map_take, List.map_drop]
  · rw [List.length_take, List.length_drop]
    omega
section
variable {P : Program} {w : World} {K : PySem.W.Frag} {mg : Str → Option Value} {base : Heap}
def sp_hand (K : PySem.W.Frag) : Sp := fun vs H Q _ => ∃ (a : Addr) (ns : List Int) (k : Int), vs = [.ref a, .int k] ∧ SqL K H a (ns.map V.int) ∧ ns.length ≤ 1000000 ∧ 0 ≤ k ∧ k ≤ 10 ∧ ∀ (H' : Hp) (p : Addr), Same H H' → H p = none → PoolAt H' p → Q (.ref p) H'
theorem sc_hand : FnScope ["_law_script", "_law_k", "_law_cell", "_law_seed"] ["_law_script", "_law_k"] (defScope s_law_hand) := ⟨rfl, rfl, rfl, by decide +kernel, rfl, by decide +kernel, by decide +kernel⟩
theorem p_hand (T : Txt K mg) : FnR P w K mg base CX0 1 (He.ga K "_law_hand") (sp_hand K) := by
  obtain ⟨fd, F⟩ := T.d_law_hand
  refine mkR F (F.ok sc_hand (fun vs H Q E h => ?_) fun cdv A outer s H vs Q E hr h => ?_) fun _ _ _ _ _ _ us hl => match us, hl with | [_, _], _ => rfl
  · obtain ⟨a, ns, k, rfl, _⟩ := h
    rfl
  · obtain ⟨a, ns, kk, rfl, ha, hn, k0, k1, k⟩ := h
    have nd := sc_hand.nd
    refine ⟨_, (pss_cons (ps_set (i := 2) nd rfl (Or.inl rfl) (pe_head (pe_op op_cat (pe_slice sl_list (pv 0) (po_some (pv 1)) (po_some (pe_op op_add (pv 1) pe_int))) (pe_lst (pa_cons pe_int pa_nil)))))
      (pss_cons (ps_set (i := 3) nd rfl (Or.inl rfl) (pe_op op_mod (pe_op op_mul (pe_op op_add (pe_op op_add (pe_op op_mod (pe_callTy call_int1 (by rfl) T.f_int PyProof.Rows.boot_int (pa_cons (pv 2) pa_nil)) pe_int) (pe_op op_mul pe_int (pv 1))) pe_int) pe_int) pe_int))
      (pss_one (ps_ret (pe_lst (pa_cons (pe_op op_mul (pe_callTy call_int1 (by rfl) T.f_int PyProof.Rows.boot_int (pa_cons (pe_cmpR op_ge (pv 2) (pe_op op_pow pe_int pe_int) (nomark _)) pa_nil)) (pv 2)) (pa_cons (pv 3) pa_nil))))))), ?_⟩
    obtain ⟨ms, e, hms⟩ := cut_ints ns (some kk) (some (kk + 1))
    refine ⟨_, rfl, _, rfl, kk, rfl, _, rfl, _, _, rfl, rfl, _, rfl, a, _, rfl, ha, fun p hp => ?_⟩
    rw [e]
    refine ⟨Nat.succ_le_of_lt (by decide), fun q hq => ?_⟩
    have e1 : Same H (upd H p (.lst (ms.map V.int))) := Same.upd_new hp
    have hpq : (upd (upd H p (.lst (ms.map V.int))) q (.lst [.int 0])) p = some (.lst (ms.map V.int)) := Same.upd_new hq _ _ upd_same
    have hq0 : (upd (upd H p (.lst (ms.map V.int))) q (.lst [.int 0])) q = some (.lst ([0].map V.int)) := upd_same
    have e2 : Same H (upd (upd H p (.lst (ms.map V.int))) q (.lst [.int 0])) := Same.trans e1 (Same.upd_new hq)
    generalize upd (upd H p (.lst (ms.map V.int))) q (.lst [.int 0]) = H2 at hpq hq0 e2 ⊢
    refine ⟨p, q, _, _, rfl, rfl, hpq, hq0, ?_, fun r hr0 => ?_⟩
    · rw [List.length_map, List.length_map, List.length_singleton]
      exact Nat.le_of_lt (big1 (by omega))
    obtain ⟨cell, rest, hc⟩ : ∃ cell rest, ms.map V.int ++ [0].map V.int = V.int cell :: rest := by
      cases ms with
      | nil => exact ⟨0, [], rfl⟩
      | cons m ms => exact ⟨m, _, rfl⟩
    rw [hc]
    have e3 : Same H (upd H2 r (.lst (V.int cell :: rest))) := Same.trans e2 (Same.upd_new hr0)
    refine ⟨r, _, .int cell, rfl, upd_same, rfl, ?_⟩
    refine ⟨_, rfl, .inl ⟨cell, rfl, _, _, rfl, rfl, (by show (0:Int) < 2147483647; decide), _, rfl, _, _, rfl, rfl, .inl (by decide), _, _, rfl, rfl, _, _, rfl, rfl, _, _, rfl, rfl, .inr (by decide), _, _, rfl, rfl, (by show (0:Int) < 2147483629; decide), ?_⟩⟩
    have hseed : 0 ≤ (cell % 2147483647 + 7919 * kk + 1) * 48271 % 2147483629 ∧ (cell % 2147483647 + 7919 * kk + 1) * 48271 % 2147483629 < 2147483647 := ⟨Int.emod_nonneg _ (by decide), Int.lt_trans (Int.emod_lt_of_pos _ (by decide)) (by decide)⟩
    refine ⟨_, rfl, _, _, rfl, rfl, ⟨by decide, by decide, by decide⟩, _, _, rfl, rfl, .inr ⟨_, rfl, _, rfl, _, _, rfl, rfl, .inl ⟨by split <;> decide, by split <;> decide⟩, _, rfl, (by show 2 ≤ sizeLine; decide), fun t ht => ?_⟩⟩
    exact k _ t (Same.trans e3 (Same.upd_new ht)) (Same.none e3 ht) ⟨_, _, upd_same, hseed⟩
/-! ### draw -/
def sp_draw (K : PySem.W.Frag) : Sp := fun vs H Q _ => ∃ (p : Addr) (many : Int), vs = [.ref p, .int many] ∧ PoolAt H p ∧ 1 ≤ many ∧ many < 1000000 ∧ ∀ (H' : Hp) (z : Int), Stp K [p] H H' → PoolAt H' p → 0 ≤ z → z < many → Q (.int z) H'
theorem sc_draw : FnScope ["_law_pool", "_law_many", "_law_found"] ["_law_pool", "_law_many"] (defScope s_law_draw) := ⟨rfl, rfl, rfl, by decide +kernel, rfl, by decide +kernel, by decide +kernel⟩
theorem at_0 {x y : V} : atI [x, y] 0 = some x := rfl
theorem at_1 {x y : V} : atI [x, y] 1 = some y := rfl
theorem p_draw (T : Txt K mg) : FnR P w K mg base CX0 1 (He.ga K "_law_draw") (sp_draw K) := by
  obtain ⟨fd, F⟩ := T.d_law_draw
  refine mkR F (F.ok sc_draw (fun vs H Q E h => ?_) fun cdv A outer s H vs Q E hr h => ?_) fun _ _ _ _ _ _ us hl => match us, hl with | [_, _], _ => rfl
  · obtain ⟨p, many, rfl, _⟩ := h
    rfl
  · obtain ⟨p, many, rfl, ⟨p0, p1, hp, b0, b1⟩, m1, m2, k⟩ := h
    have nd := sc_draw.nd
    refine ⟨_, (pss_cons (ps_if (pt_cmpR op_gt (pe_head (pv 0)) pe_int (nomark _))
      (pss_cons (ps_set (i := 2) nd rfl (Or.inl rfl) (pe_op op_mod (pe_callTy call_int1 (by rfl) T.f_int PyProof.Rows.boot_int (pa_cons (pe_head (pv 0)) pa_nil)) (pv 1)))
        (pss_cons (ps_asg (pe_op op_fdiv (pe_head (pv 0)) (pv 1)) (pg_sub (pv 0) pe_int set_list))
        (pss_one (ps_ret (pv 2)))))
      pss_nil)
      (pss_cons (ps_asg (pe_op op_mod (pe_callTy call_int1 (by rfl) T.f_int PyProof.Rows.boot_int (pa_cons (pe_op op_add (pe_op op_mul (pe_ix ix_list (pv 0) pe_int (fun _ _ => rfl)) pe_int) pe_int) pa_nil)) pe_int) (pg_sub (pv 0) pe_int set_list))
      (pss_one (ps_ret (pe_op op_mod (pe_op op_fdiv (pe_op op_mod (pe_callTy call_int1 (by rfl) T.f_int PyProof.Rows.boot_int (pa_cons (pe_op op_mul (pe_ix ix_list (pv 0) pe_int (fun _ _ => rfl)) (pe_ix ix_list (pv 0) pe_int (fun _ _ => rfl))) pa_nil)) pe_int) pe_int) (pv 1)))))), ?_⟩
    have hm : (0 : Int) < many := by omega
    refine ⟨_, rfl, p, _, _, rfl, hp, rfl, _, _, rfl, rfl, _, rfl, ?_⟩
    show if decide (p0 > 0) = true then _ else _
    by_cases h0 : p0 > 0
    · rw [decide_eq_true h0]
      refine iteT ⟨_, rfl, p, _, _, rfl, hp, rfl, .inl ⟨p0, rfl, _, rfl, _, _, rfl, rfl, hm, ?_⟩⟩
      refine ⟨_, rfl, p, _, _, rfl, hp, rfl, _, rfl, _, _, rfl, rfl, ⟨hm, by omega⟩, _, rfl, p, _, 0, 0, rfl, rfl, hp, rfl, ?_⟩
      exact ⟨_, rfl, k _ _ (Stp.lst hp) ⟨p0 / many, p1, upd_same, b0, b1⟩ (Int.emod_nonneg _ (by omega)) (Int.emod_lt_of_pos _ hm)⟩
    · rw [decide_eq_false h0]
      refine iteF ?_
      have n1 : 0 ≤ (p1 * 48271 + 11) % 2147483647 := Int.emod_nonneg _ (by decide)
      have n2 : (p1 * 48271 + 11) % 2147483647 < 2147483647 := Int.emod_lt_of_pos _ (by decide)
      refine ⟨_, rfl, p, _, 1, .int p1, rfl, rfl, SqL.of hp, rfl, _, _, rfl, rfl, .inr (by decide), _, _, rfl, rfl, .inl ⟨_, rfl, _, _, rfl, rfl, (by show (0:Int) < 2147483647; decide), _, rfl, p, _, 1, 1, rfl, rfl, hp, rfl, ?_⟩⟩
      have hp2 : (upd H p (.lst ([V.int p0, V.int p1].set 1 (V.int ((p1 * 48271 + 11) % 2147483647))))) p = some (.lst [V.int p0, V.int ((p1 * 48271 + 11) % 2147483647)]) := upd_same
      refine ⟨_, rfl, p, _, 1, _, rfl, rfl, SqL.of hp2, at_1, _, rfl, p, _, 1, _, rfl, rfl, SqL.of hp2, at_1, _, _, rfl, rfl, .inl ⟨by omega, by omega⟩, .inl ⟨_, rfl, _, _, rfl, rfl, (by show (0:Int) < 2147483629; decide), _, _, rfl, rfl, ⟨by decide, by decide⟩, _, rfl, _, _, rfl, rfl, hm, ?_⟩⟩
      exact k _ _ (Stp.lst hp) ⟨p0, _, hp2, n1, n2⟩ (Int.emod_nonneg _ (by omega)) (Int.emod_lt_of_pos _ hm)
end
end GF

set_option Elab.async false
set_option linter.all false
set_option maxRecDepth 100000
set_option maxHeartbeats 4000000
namespace GF
open PySem PySem.Spec PyProof.Rows L2
section
variable {P : Program} {w : World} {K : PySem.W.Frag} {mg : Str → Option Value} {base : Heap}
/-! ### small_book -/
structure BookSm (lo hi t b : Int) : Prop where
  ok : BookOk lo hi t b
  lo4 : lo ≤ 4
  hi12 : hi ≤ 12
  t2 : t ≤ 2
  b3 : b ≤ 3
theorem four {z : Int} (h0 : 0 ≤ z) (h1 : z < 4) : z = 0 ∨ z = 1 ∨ z = 2 ∨ z = 3 := by omega
def PartsAt (H : Hp) (T sh : Addr) (lo hi t b : Int) : Prop := H T = some (.tup [.int lo, .int hi, .ref sh]) ∧ H sh = some (.tup [.int t, .int b])
def sp_small (K : PySem.W.Frag) : Sp := fun vs H Q _ => ∃ (p : Addr), vs = [.ref p] ∧ PoolAt H p ∧ ∀ (H' : Hp) (T sh : Addr) (lo hi t b : Int), Stp K [p] H H' → PoolAt H' p → PartsAt H' T sh lo hi t b → BookSm lo hi t b → Q (.ref T) H'
theorem sc_small : FnScope ["_law_pool", "_law_low", "_law_high"] ["_law_pool"] (defScope s_law_small_book) := ⟨rfl, rfl, rfl, by decide +kernel, rfl, by decide +kernel, by decide +kernel⟩
theorem p_small (T : Txt K mg) : FnR P w K mg base CX0 2 (He.ga K "_law_small_book") (sp_small K) := by
  obtain ⟨fd, F⟩ := T.d_law_small_book
  refine mkR F (F.ok sc_small (fun vs H Q E h => ?_) fun cdv A outer s H vs Q E hr h => ?_) fun _ _ _ _ _ _ us hl => match us, hl with | [_], _ => rfl
  · obtain ⟨p, rfl, _⟩ := h
    rfl
  · obtain ⟨p, rfl, hp, k⟩ := h
    have nd := sc_small.nd
    refine ⟨_, (pss_cons (ps_set (i := 1) nd rfl (Or.inl rfl) (pe_op op_add pe_int (pe_callR (p_draw T) hr T.g_law_draw (kp_law_draw T) (pa_cons (pv 0) (pa_cons pe_int pa_nil)))))
      (pss_cons (ps_set (i := 2) nd rfl (Or.inl rfl) (pe_op op_add (pv 1) (pe_ix ix_list (pe_lst (pa_cons pe_int (pa_cons pe_int (pa_cons pe_int (pa_cons (pe_callR (p_draw T) hr T.g_law_draw (kp_law_draw T) (pa_cons (pv 0) (pa_cons pe_int pa_nil))) pa_nil))))) (pe_callR (p_draw T) hr T.g_law_draw (kp_law_draw T) (pa_cons (pv 0) (pa_cons pe_int pa_nil))) (fun _ _ => rfl))))
      (pss_one (ps_ret (pe_tup (pa_cons (pv 1) (pa_cons (pv 2) (pa_cons (pe_ix ix_list (pe_lst (pa_cons (pe_tup (pa_cons pe_int (pa_cons pe_int pa_nil))) (pa_cons (pe_tup (pa_cons pe_int (pa_cons pe_int pa_nil))) (pa_cons (pe_tup (pa_cons pe_int (pa_cons pe_int pa_nil))) (pa_cons (pe_tup (pa_cons pe_int (pa_cons pe_int pa_nil))) pa_nil))))) (pe_callR (p_draw T) hr T.g_law_draw (kp_law_draw T) (pa_cons (pv 0) (pa_cons pe_int pa_nil))) (fun _ _ => rfl)) pa_nil)))))))), ?_⟩
    refine ⟨_, rfl, p, 4, rfl, hp, by decide, by decide, fun H1 z1 s1 hp1 a1 a2 => ⟨_, _, rfl, rfl, ?_⟩⟩
    refine ⟨_, rfl, _, rfl, p, 9, rfl, hp1, by decide, by decide, fun H2 z2 s2 hp2 b1 b2 => ⟨(by show 4 ≤ sizeLine; decide), fun L hL => ?_⟩⟩
    have hpL : p ≠ L := by
      obtain ⟨_, _, hz, _⟩ := hp2
      exact ne_of_none hz hL
    have e3 : Stp K [p] H2 (upd H2 L (.lst [.int 0, .int 0, .int 3, .int z2])) := .of_same (Same.upd_new hL)
    refine ⟨_, rfl, p, 4, rfl, hp2.same (Same.upd_new hL), by decide, by decide, fun H3 z3 s3 hp3 c1 c2 => ?_⟩
    have hL3 : H3 L = some (.lst [.int 0, .int 0, .int 3, .int z2]) := s3.keep_lst upd_same (by simpa using hpL.symm)
    have s13 := s1.trans (s2.trans (e3.trans s3))
    obtain ⟨x, hx, x0, x8⟩ : ∃ x : Int, atI [V.int 0, .int 0, .int 3, .int z2] z3 = some (.int x) ∧ 0 ≤ x ∧ x ≤ 8 := by
      rcases four c1 c2 with rfl | rfl | rfl | rfl
      · exact ⟨0, rfl, by decide, by decide⟩
      · exact ⟨0, rfl, by decide, by decide⟩
      · exact ⟨3, rfl, by decide, by decide⟩
      · exact ⟨z2, rfl, b1, by omega⟩
    refine ⟨L, _, z3, .int x, rfl, rfl, SqL.of hL3, hx, _, _, rfl, rfl, ?_⟩
    refine ⟨_, rfl, _, rfl, (by show 2 ≤ sizeLine; decide), fun t1 h1 => ⟨(by show 2 ≤ sizeLine; decide), fun t2 h2 => ⟨(by show 2 ≤ sizeLine; decide), fun t3 h3 => ⟨(by show 2 ≤ sizeLine; decide), fun t4 h4 => ⟨(by show 4 ≤ sizeLine; decide), fun M hM => ?_⟩⟩⟩⟩⟩
    have e1 := Same.upd_new (o := .tup [V.int 1, V.int 1]) h1
    have e2 := Same.upd_new (o := .tup [V.int 1, V.int 2]) h2
    have e3' := Same.upd_new (o := .tup [V.int 2, V.int 1]) h3
    have e4 := Same.upd_new (o := .tup [V.int 1, V.int 3]) h4
    have e5 := Same.upd_new (o := .lst [V.ref t1, V.ref t2, V.ref t3, V.ref t4]) hM
    have eS := Same.trans e1 (Same.trans e2 (Same.trans e3' (Same.trans e4 e5)))
    have q1 := e5 _ _ (e4 _ _ (e3' _ _ (e2 _ _ (upd_same (H := H3) (a := t1) (o := .tup [V.int 1, V.int 1])))))
    have q2 := e5 _ _ (e4 _ _ (e3' _ _ (upd_same (H := upd H3 t1 (.tup [V.int 1, V.int 1])) (a := t2) (o := .tup [V.int 1, V.int 2]))))
    have q3 := e5 _ _ (e4 _ _ (upd_same (H := upd (upd H3 t1 (.tup [V.int 1, V.int 1])) t2 (.tup [V.int 1, V.int 2])) (a := t3) (o := .tup [V.int 2, V.int 1])))
    have q4 := e5 _ _ (upd_same (H := upd (upd (upd H3 t1 (.tup [V.int 1, V.int 1])) t2 (.tup [V.int 1, V.int 2])) t3 (.tup [V.int 2, V.int 1])) (a := t4) (o := .tup [V.int 1, V.int 3]))
    have q5 : (upd (upd (upd (upd (upd H3 t1 (.tup [V.int 1, V.int 1])) t2 (.tup [V.int 1, V.int 2])) t3 (.tup [V.int 2, V.int 1])) t4 (.tup [V.int 1, V.int 3])) M (.lst [V.ref t1, V.ref t2, V.ref t3, V.ref t4])) M = some (.lst [V.ref t1, V.ref t2, V.ref t3, V.ref t4]) := upd_same
    have hpM : p ≠ M := by
      obtain ⟨_, _, hz, _⟩ := hp3.same (Same.trans e1 (Same.trans e2 (Same.trans e3' e4)))
      exact ne_of_none hz hM
    have hp4 := hp3.same eS
    generalize upd (upd (upd (upd (upd H3 t1 (.tup [V.int 1, V.int 1])) t2 (.tup [V.int 1, V.int 2])) t3 (.tup [V.int 2, V.int 1])) t4 (.tup [V.int 1, V.int 3])) M (.lst [V.ref t1, V.ref t2, V.ref t3, V.ref t4]) = H4 at eS q1 q2 q3 q4 q5 hp4 ⊢
    refine ⟨_, rfl, p, 4, rfl, hp4, by decide, by decide, fun H5 z5 s5 hp5 d1 d2 => ?_⟩
    have hM5 := s5.keep_lst q5 (by simpa using hpM.symm)
    obtain ⟨y, t, b, hy, hty, t1', t2', b1', b2'⟩ : ∃ (y : Addr) (t b : Int), atI [V.ref t1, .ref t2, .ref t3, .ref t4] z5 = some (.ref y) ∧ H5 y = some (.tup [.int t, .int b]) ∧ 1 ≤ t ∧ t ≤ 2 ∧ 1 ≤ b ∧ b ≤ 3 := by
      rcases four d1 d2 with rfl | rfl | rfl | rfl
      · exact ⟨t1, 1, 1, rfl, s5.chg.tups _ _ q1, by decide, by decide, by decide, by decide⟩
      · exact ⟨t2, 1, 2, rfl, s5.chg.tups _ _ q2, by decide, by decide, by decide, by decide⟩
      · exact ⟨t3, 2, 1, rfl, s5.chg.tups _ _ q3, by decide, by decide, by decide, by decide⟩
      · exact ⟨t4, 1, 3, rfl, s5.chg.tups _ _ q4, by decide, by decide, by decide, by decide⟩
    refine ⟨M, _, z5, .ref y, rfl, rfl, SqL.of hM5, hy, (by show 3 ≤ sizeLine; decide), fun U hU => ?_⟩
    refine k _ U y (1 + z1) (1 + z1 + x) t b (s13.trans ((Stp.of_same eS).trans (s5.trans (.of_same (Same.upd_new hU))))) (hp5.same (Same.upd_new hU)) ⟨upd_same, Same.upd_new hU _ _ hty⟩ ⟨⟨by omega, by omega, by omega, by omega, by omega, by omega, by omega⟩, by omega, by omega, t2', b2'⟩
end
end GF

set_option Elab.async false
set_option linter.all false
set_option maxRecDepth 100000
set_option maxHeartbeats 4000000
namespace GF
open PySem PySem.Spec PyProof.Rows L2
/-! ### the world of the law -/
structure WS where
  lo : Int
  hi : Int
  t : Int
  b : Int
  rule : Str
  short : Bool
abbrev sk (x : String) : Key := Sum.inr (Str.ofString x)
def wk3 (T f : Addr) : List (Key × V) := [(sk "book", .ref T), (sk "after", .int 0), (sk "files", .ref f)]
def wk (T f : Addr) (rule : Str) (size : V) (short back late : Bool) : List (Key × V) :=
  [(sk "book", .ref T), (sk "after", .int 0), (sk "files", .ref f), (sk "rule", .str rule), (sk "size", size), (sk "short", .bl short), (sk "back", .bl back), (sk "late", .bl late)]
section
variable {T f : Addr} {rule r2 : Str} {size z : V} {short back late x : Bool}
theorem wk_merge : mergeK [] [(sk "book", V.ref T), (sk "after", V.int 0), (sk "files", V.ref f)] = wk3 T f := by kernel_rfl
theorem wk_p1 : putK (wk3 T f) (sk "rule") (.str rule) = wk3 T f ++ [(sk "rule", .str rule)] := by kernel_rfl
theorem wk_p2 : putK (wk3 T f ++ [(sk "rule", .str rule)]) (sk "size") size = wk3 T f ++ [(sk "rule", .str rule), (sk "size", size)] := by kernel_rfl
theorem wk_p3 : putK (wk3 T f ++ [(sk "rule", .str rule), (sk "size", size)]) (sk "short") (.bl short) = wk3 T f ++ [(sk "rule", .str rule), (sk "size", size), (sk "short", .bl short)] := by kernel_rfl
theorem wk_p4 : putK (wk3 T f ++ [(sk "rule", .str rule), (sk "size", size), (sk "short", .bl short)]) (sk "back") (.bl back) = wk3 T f ++ [(sk "rule", .str rule), (sk "size", size), (sk "short", .bl short), (sk "back", .bl back)] := by kernel_rfl
theorem wk_p5 : putK (wk3 T f ++ [(sk "rule", .str rule), (sk "size", size), (sk "short", .bl short), (sk "back", .bl back)]) (sk "late") (.bl late) = wk T f rule size short back late := by kernel_rfl
theorem wk_size : putK (wk T f rule size short back late) (sk "size") z = wk T f rule z short back late := by kernel_rfl
theorem wk_late : putK (wk T f rule size short back late) (sk "late") (.bl x) = wk T f rule size short back x := by kernel_rfl
theorem wk_back : putK (wk T f rule size short back late) (sk "back") (.bl x) = wk T f rule size short x late := by kernel_rfl
theorem wk_rule : putK (wk T f rule size short back late) (sk "rule") (.str r2) = wk T f r2 size short back late := by kernel_rfl
theorem wk_g_book : valV (wk T f rule size short back late) (sk "book") = some (.ref T) := by kernel_rfl
theorem wk_g_rule : valV (wk T f rule size short back late) (sk "rule") = some (.str rule) := by kernel_rfl
theorem wk_g_size : valV (wk T f rule size short back late) (sk "size") = some size := by kernel_rfl
theorem wk_g_short : valV (wk T f rule size short back late) (sk "short") = some (.bl short) := by kernel_rfl
theorem wk_g_back : valV (wk T f rule size short back late) (sk "back") = some (.bl back) := by kernel_rfl
theorem wk_g_late : valV (wk T f rule size short back late) (sk "late") = some (.bl late) := by kernel_rfl
end
def WorldAt (H : Hp) (wd : Addr) (W : WS) (size : V) (back late : Bool) : Prop := ∃ T f sh, H wd = some (.dK (wk T f W.rule size W.short back late)) ∧ PartsAt H T sh W.lo W.hi W.t W.b
structure WOk (W : WS) : Prop where
  sm : BookSm W.lo W.hi W.t W.b
  ru : isRule W.rule
theorem WorldAt.stp {K : PySem.W.Frag} {M : List Addr} {H H' : Hp} {wd : Addr} {W : WS} {size : V} {back late : Bool} (h : WorldAt H wd W size back late) (s : Stp K M H H') (m : wd ∉ M) : WorldAt H' wd W size back late :=
  let ⟨T, f, sh, h1, h2, h3⟩ := h; ⟨T, f, sh, s.keep_dK h1 m, s.chg.tups _ _ h2, s.chg.tups _ _ h3⟩
theorem dput {H : Hp} {a : Addr} {kvs kvs' : List (Key × V)} {x : String} {v : V} (h : H a = some (.dK kvs)) (e : putK kvs (sk x) v = kvs') (n : kvs.length ≤ 100) : DPut H a (.str (Str.ofString x)) v (upd H a (.dK kvs')) := by
  rw [← e]
  exact .inl ⟨kvs, sk x, h, rfl, big1 (by omega), rfl⟩
theorem dget {H : Hp} {a : Addr} {kvs : List (Key × V)} {x : String} {v : V} (h : H a = some (.dK kvs)) (e : valV kvs (sk x) = some v) : DGet H a (.str (Str.ofString x)) (some v) := by
  rw [← e]
  exact DGet.k (k := sk x) h
/-- the state while the world is filled -/
structure Fil (K : PySem.W.Frag) (p wd : Addr) (H H' : Hp) (kvs : List (Key × V)) (T sh : Addr) (lo hi t b : Int) : Prop where
  st : Stp K [p, wd] H H'
  hw : H' wd = some (.dK kvs)
  pl : PoolAt H' p
  pt : PartsAt H' T sh lo hi t b
theorem Fil.draw {K : PySem.W.Frag} {p wd T sh : Addr} {H H' H2 : Hp} {kvs : List (Key × V)} {lo hi t b : Int} (f : Fil K p wd H H' kvs T sh lo hi t b) (n : wd ≠ p) (s : Stp K [p] H' H2) (hp : PoolAt H2 p) : Fil K p wd H H2 kvs T sh lo hi t b :=
  ⟨f.st.trans (s.mono (by simp)), s.keep_dK f.hw (by simpa using n), hp, s.chg.tups _ _ f.pt.1, s.chg.tups _ _ f.pt.2⟩
theorem Fil.put {K : PySem.W.Frag} {p wd T sh : Addr} {H H' : Hp} {kvs kvs' : List (Key × V)} {lo hi t b : Int} (f : Fil K p wd H H' kvs T sh lo hi t b) (n : wd ≠ p) : Fil K p wd H (upd H' wd (.dK kvs')) kvs' T sh lo hi t b :=
  have s : Stp K [wd] H' (upd H' wd (.dK kvs')) := Stp.dK f.hw
  ⟨f.st.trans (s.mono (by simp)), upd_same, f.pl.stp s (by simpa using n.symm), s.chg.tups _ _ f.pt.1, s.chg.tups _ _ f.pt.2⟩
theorem Fil.same {K : PySem.W.Frag} {p wd T sh : Addr} {H H' H2 : Hp} {kvs : List (Key × V)} {lo hi t b : Int} (f : Fil K p wd H H' kvs T sh lo hi t b) (e : Same H' H2) : Fil K p wd H H2 kvs T sh lo hi t b :=
  ⟨f.st.trans (.of_same e), e _ _ f.hw, f.pl.same e, e _ _ f.pt.1, e _ _ f.pt.2⟩
theorem PoolAt.ne {H : Hp} {p L : Addr} (h : PoolAt H p) (n : H L = none) : p ≠ L := by
  obtain ⟨_, _, hz, _⟩ := h
  exact ne_of_none hz n
section
variable {P : Program} {w : World} {K : PySem.W.Frag} {mg : Str → Option Value} {base : Heap}
/-! ### rules -/
def sp_rules (K : PySem.W.Frag) : Sp := fun vs H Q _ => ∃ (p : Addr), vs = [.ref p] ∧ PoolAt H p ∧ ∀ (H' : Hp) (wd : Addr) (W : WS) (size : V) (back late : Bool), Stp K [p] H H' → PoolAt H' p → H wd = none → WorldAt H' wd W size back late → WOk W → Q (.ref wd) H'
theorem sc_rules : FnScope ["_law_pool", "_law_world"] ["_law_pool"] (defScope s_law_rules) := ⟨rfl, rfl, rfl, by decide +kernel, rfl, by decide +kernel, by decide +kernel⟩
theorem p_rules (T : Txt K mg) : FnR P w K mg base CX0 3 (He.ga K "_law_rules") (sp_rules K) := by
  obtain ⟨fd, F⟩ := T.d_law_rules
  refine mkR F (F.ok sc_rules (fun vs H Q E h => ?_) fun cdv A outer s H vs Q E hr h => ?_) fun _ _ _ _ _ _ us hl => match us, hl with | [_], _ => rfl
  · obtain ⟨p, rfl, _⟩ := h
    rfl
  · obtain ⟨p, rfl, hp, k⟩ := h
    have nd := sc_rules.nd
    have hu := hu_of hr
    refine ⟨_, (pss_cons (ps_set (i := 1) nd rfl (Or.inl rfl) (pe_disp (pps_cons pe_str (pe_callR (p_small T) hr T.g_law_small_book (kp_law_small_book T) (pa_cons (pv 0) pa_nil)) (pps_cons pe_str pe_int (pps_cons pe_str pe_dnewK pps_nil))) rfl rfl (by simp) (by decide)))
      (pss_cons (ps_dput hu (pv 1) pe_str (pe_ix ix_list (pe_lst (pa_cons pe_str (pa_cons pe_str (pa_cons pe_str (pa_cons pe_str pa_nil))))) (pe_callR (p_draw T) (hr.mono (by decide)) T.g_law_draw (kp_law_draw T) (pa_cons (pv 0) (pa_cons pe_int pa_nil))) (fun _ _ => rfl)) rfl)
      (pss_cons (ps_dput hu (pv 1) pe_str (pe_ix ix_list (pe_lst (pa_cons pe_non (pa_cons pe_non (pa_cons (pe_op op_add pe_int (pe_callR (p_draw T) (hr.mono (by decide)) T.g_law_draw (kp_law_draw T) (pa_cons (pv 0) (pa_cons pe_int pa_nil)))) pa_nil)))) (pe_callR (p_draw T) (hr.mono (by decide)) T.g_law_draw (kp_law_draw T) (pa_cons (pv 0) (pa_cons pe_int pa_nil))) (fun _ _ => rfl)) rfl)
      (pss_cons (ps_dput hu (pv 1) pe_str (pe_cmpR op_gt (pe_callR (p_draw T) (hr.mono (by decide)) T.g_law_draw (kp_law_draw T) (pa_cons (pv 0) (pa_cons pe_int pa_nil))) pe_int (nomark _)) rfl)
      (pss_cons (ps_dput hu (pv 1) pe_str (pe_cmpR op_eq (pe_callR (p_draw T) (hr.mono (by decide)) T.g_law_draw (kp_law_draw T) (pa_cons (pv 0) (pa_cons pe_int pa_nil))) pe_int (nomark _)) rfl)
      (pss_cons (ps_dput hu (pv 1) pe_str (pe_cmpR op_eq (pe_callR (p_draw T) (hr.mono (by decide)) T.g_law_draw (kp_law_draw T) (pa_cons (pv 0) (pa_cons pe_int pa_nil))) pe_int (nomark _)) rfl)
      (pss_one (ps_ret (pv 1))))))))), ?_⟩
    refine fun wd hwd => ?_
    have e0 : Same H (upd H wd (.dK [])) := Same.upd_new hwd
    have hpw : p ≠ wd := by
      obtain ⟨_, _, hz, _⟩ := hp
      exact ne_of_none hz hwd
    refine ⟨_, rfl, p, rfl, hp.same e0, fun H1 Tp sh lo hi t b s1 hp1 hparts sm => ?_⟩
    have hw1 : H1 wd = some (.dK []) := s1.keep_dK upd_same (by simpa using hpw.symm)
    refine fun fl hfl => ⟨Same.upd_new hfl _ _ hw1, [(sk "book", .ref Tp), (sk "after", .int 0), (sk "files", .ref fl)], rfl, (by show 3 ≤ 15; decide), ?_⟩
    rw [wk_merge]
    have e1 : Same H1 (upd H1 fl (.dK [])) := Same.upd_new hfl
    have hw1' : (upd H1 fl (.dK [])) wd = some (.dK []) := e1 _ _ hw1
    have n : wd ≠ p := hpw.symm
    have F0 : Fil K p wd H (upd (upd H1 fl (.dK [])) wd (.dK (wk3 Tp fl))) (wk3 Tp fl) Tp sh lo hi t b :=
      Fil.put (kvs := []) ⟨(Stp.of_same e0).trans ((s1.mono (by simp)).trans (.of_same e1)), hw1', hp1.same e1, e1 _ _ hparts.1, e1 _ _ hparts.2⟩ n
    generalize upd (upd H1 fl (.dK [])) wd (.dK (wk3 Tp fl)) = H2 at F0 ⊢
    -- rule
    refine ⟨(by show 4 ≤ sizeLine; decide), fun L hL => ?_⟩
    have F1 := F0.same (Same.upd_new (o := .lst [.str "behind", .str "first", .str "best", .str "next"]) hL)
    refine ⟨_, rfl, p, 4, rfl, F1.pl, by decide, by decide, fun H3 z3 s3 hp3 c1 c2 => ?_⟩
    have F3 := F1.draw n s3 hp3
    have hL3 := s3.keep_lst upd_same (by simpa using (F0.pl.ne hL).symm)
    obtain ⟨rule, hx, hru⟩ : ∃ rule : Str, atI [V.str "behind", .str "first", .str "best", .str "next"] z3 = some (.str rule) ∧ isRule rule := by
      rcases four c1 c2 with rfl | rfl | rfl | rfl
      · exact ⟨_, rfl, .inl rfl⟩
      · exact ⟨_, rfl, .inr (.inl rfl)⟩
      · exact ⟨_, rfl, .inr (.inr (.inl rfl))⟩
      · exact ⟨_, rfl, .inr (.inr (.inr rfl))⟩
    refine ⟨L, _, z3, .str rule, rfl, rfl, SqL.of hL3, hx, _, rfl, wd, _, rfl, dput F3.hw wk_p1 (by show 3 ≤ 100; decide), ?_⟩
    have F4 := F3.put (kvs' := wk3 Tp fl ++ [(sk "rule", .str rule)]) n
    generalize upd H3 wd (.dK (wk3 Tp fl ++ [(sk "rule", .str rule)])) = H4 at F4 ⊢
    -- size
    refine ⟨_, rfl, p, 40, rfl, F4.pl, by decide, by decide, fun H5 z5 s5 hp5 d1 d2 => ⟨_, _, rfl, rfl, (by show 3 ≤ sizeLine; decide), fun M hM => ?_⟩⟩
    have F5 := F4.draw n s5 hp5
    have F6 := F5.same (Same.upd_new (o := .lst [.non, .non, .int (9 + z5)]) hM)
    refine ⟨_, rfl, p, 3, rfl, F6.pl, by decide, by decide, fun H7 z7 s7 hp7 f1 f2 => ?_⟩
    have F7 := F6.draw n s7 hp7
    have hM7 := s7.keep_lst upd_same (by simpa using (F5.pl.ne hM).symm)
    obtain ⟨size, hy⟩ : ∃ size : V, atI [V.non, .non, .int (9 + z5)] z7 = some size := by
      rcases (show z7 = 0 ∨ z7 = 1 ∨ z7 = 2 by omega) with rfl | rfl | rfl
      · exact ⟨_, rfl⟩
      · exact ⟨_, rfl⟩
      · exact ⟨_, rfl⟩
    refine ⟨M, _, z7, size, rfl, rfl, SqL.of hM7, hy, _, rfl, wd, _, rfl, dput F7.hw wk_p2 (by show 4 ≤ 100; decide), ?_⟩
    have F8 := F7.put (kvs' := wk3 Tp fl ++ [(sk "rule", .str rule), (sk "size", size)]) n
    generalize upd H7 wd (.dK (wk3 Tp fl ++ [(sk "rule", .str rule), (sk "size", size)])) = H8 at F8 ⊢
    -- short, back, late
    refine ⟨_, rfl, p, 4, rfl, F8.pl, by decide, by decide, fun H9 z9 s9 hp9 _ _ => ⟨_, _, rfl, rfl, ?_⟩⟩
    have F9 := F8.draw n s9 hp9
    refine ⟨_, rfl, wd, _, rfl, dput F9.hw wk_p3 (by show 5 ≤ 100; decide), ?_⟩
    have G0 := F9.put (kvs' := wk3 Tp fl ++ [(sk "rule", .str rule), (sk "size", size), (sk "short", .bl (decide (z9 > 0)))]) n
    generalize upd H9 wd (.dK (wk3 Tp fl ++ [(sk "rule", .str rule), (sk "size", size), (sk "short", .bl (decide (z9 > 0)))])) = K0 at G0 ⊢
    refine ⟨_, rfl, p, 2, rfl, G0.pl, by decide, by decide, fun K1 y1 u1 hq1 _ _ => ⟨rfl, ?_⟩⟩
    have G1 := G0.draw n u1 hq1
    refine ⟨_, rfl, wd, _, rfl, dput G1.hw wk_p4 (by show 6 ≤ 100; decide), ?_⟩
    have G2 := G1.put (kvs' := wk3 Tp fl ++ [(sk "rule", .str rule), (sk "size", size), (sk "short", .bl (decide (z9 > 0))), (sk "back", .bl (decide (V.int y1 = V.int 0)))]) n
    generalize upd K1 wd (.dK (wk3 Tp fl ++ [(sk "rule", .str rule), (sk "size", size), (sk "short", .bl (decide (z9 > 0))), (sk "back", .bl (decide (V.int y1 = V.int 0)))])) = K2 at G2 ⊢
    refine ⟨_, rfl, p, 4, rfl, G2.pl, by decide, by decide, fun K3 y3 u3 hq3 _ _ => ⟨rfl, ?_⟩⟩
    have G3 := G2.draw n u3 hq3
    refine ⟨_, rfl, wd, _, rfl, dput G3.hw wk_p5 (by show 7 ≤ 100; decide), ?_⟩
    have G4 := G3.put (kvs' := wk Tp fl rule size (decide (z9 > 0)) (decide (V.int y1 = V.int 0)) (decide (V.int y3 = V.int 0))) n
    refine ⟨_, rfl, k _ wd ⟨lo, hi, t, b, rule, decide (z9 > 0)⟩ size _ _ (Stp.drop (p := wd) (G4.st.mono (by simp)) hwd) G4.pl hwd ⟨Tp, fl, sh, G4.hw, G4.pt⟩ ⟨sm, hru⟩⟩
end
end GF

set_option Elab.async false
set_option linter.all false
set_option maxRecDepth 100000
set_option maxHeartbeats 4000000
namespace GF
open PySem PySem.Spec PyProof.Rows L2
section
variable {P : Program} {w : World} {K : PySem.W.Frag} {mg : Str → Option Value} {base : Heap}
theorem at3_0 {x y z : V} : atI [x, y, z] 0 = some x := rfl
theorem at3_1 {x y z : V} : atI [x, y, z] 1 = some y := rfl
theorem at3_2 {x y z : V} : atI [x, y, z] 2 = some z := rfl
/-! ### made -/
def sp_made (K : PySem.W.Frag) : Sp := fun vs H Q _ => ∃ (T sh : Addr) (lo hi t b : Int), vs = [.ref T] ∧ PartsAt H T sh lo hi t b ∧ BookOk lo hi t b ∧ ∀ (H' : Hp) (r dx : Addr), Same H H' → H r = none → BookAt K H' r dx sh lo hi t b → Q (.ref r) H'
theorem sc_made : FnScope ["_law_parts_here"] ["_law_parts_here"] (defScope s_law_made) := ⟨rfl, rfl, rfl, by decide +kernel, rfl, by decide +kernel, by decide +kernel⟩
theorem p_made (T : Txt K mg) : FnR P w K mg base CX0 6 (He.ga K "_law_made") (sp_made K) := by
  obtain ⟨fd, F⟩ := T.d_law_made
  refine mkR F (F.ok sc_made (fun vs H Q E h => ?_) fun cdv A outer s H vs Q E hr h => ?_) fun _ _ _ _ _ _ us hl => match us, hl with | [_], _ => rfl
  · obtain ⟨Tp, sh, lo, hi, t, b, rfl, _⟩ := h
    rfl
  · obtain ⟨Tp, sh, lo, hi, t, b, rfl, ⟨hT, hs⟩, o, k⟩ := h
    obtain ⟨fd2, G, B⟩ := p_Book_init (P := P) (w := w) (base := base) T
    refine ⟨_, (pss_one (ps_ret (pe_makeN T.mk_Book G hr rfl T.g_Book B pass0 (pa_cons (pe_ix ix_tup (pv 0) pe_int (fun _ _ => rfl)) (pa_cons (pe_ix ix_tup (pv 0) pe_int (fun _ _ => rfl)) pa_nil)) (pk_cons (pe_ix ix_tup (pv 0) pe_int (fun _ _ => rfl)) pk_nil)))), ?_⟩
    refine ⟨_, rfl, Tp, _, 0, _, rfl, rfl, SqT.of hT, at3_0, _, rfl, Tp, _, 1, _, rfl, rfl, SqT.of hT, at3_1, _, rfl, Tp, _, 2, _, rfl, rfl, SqT.of hT, at3_2, rfl, rfl, fun x ex hx hex hne => ?_⟩
    have e1 : Same H (upd (upd H ex (.own x)) x (.ins (cB K) ex [])) := Same.upd_wr (Same.upd_new hex) hx
    refine ⟨x, ex, sh, lo, hi, t, b, rfl, upd_same, e1 _ _ hs, o, fun H' hk hx' => ?_⟩
    have e2 : Same H H' := fun c u hc => by
      rw [hk c (ne_of_none hc hx)]
      exact e1 _ _ hc
    exact ⟨rfl, k H' x ex e2 hx ⟨hx', e2 _ _ hs⟩⟩
/-! ### step -/
theorem step_eq {t b h : Int} (hb : 0 < b) : (if h * t / b * b < h * t then h * t / b + 1 else h * t / b) = partM t b h := by
  unfold partM
  rw [Int.neg_mul]
  generalize h * t = x
  have h1 := Int.emod_add_mul_ediv x b
  have h2 := Int.emod_nonneg x (show b ≠ 0 by omega)
  have h3 := Int.emod_lt_of_pos x hb
  rw [Int.mul_comm (x / b) b]
  split
  · have e : (-x) / b = -(x / b + 1) := by
      refine ((Int.ediv_emod_unique hb (r := b - x % b)).mpr ⟨?_, by omega, by omega⟩).1
      rw [Int.mul_neg, Int.mul_add, Int.mul_one]
      omega
    rw [e]; omega
  · have e : (-x) / b = -(x / b) := by
      refine ((Int.ediv_emod_unique hb (r := 0)).mpr ⟨?_, by omega, hb⟩).1
      rw [Int.mul_neg]
      omega
    rw [e]; omega
def sp_step (K : PySem.W.Frag) : Sp := fun vs H Q _ => ∃ (T sh : Addr) (lo hi t b h : Int), vs = [.ref T, .int h] ∧ PartsAt H T sh lo hi t b ∧ BookOk lo hi t b ∧ Q (.int (stepM lo hi t b h)) H
theorem sc_step : FnScope ["_law_parts_here", "_law_hold", "_law_low", "_law_high", "_law_part", "_law_many"] ["_law_parts_here", "_law_hold"] (defScope s_law_step) := ⟨rfl, rfl, rfl, by decide +kernel, rfl, by decide +kernel, by decide +kernel⟩
theorem p_step (T : Txt K mg) : FnR P w K mg base CX0 1 (He.ga K "_law_step") (sp_step K) := by
  obtain ⟨fd, F⟩ := T.d_law_step
  refine mkR F (F.ok sc_step (fun vs H Q E h => ?_) fun cdv A outer s H vs Q E hr h => ?_) fun _ _ _ _ _ _ us hl => match us, hl with | [_, _], _ => rfl
  · obtain ⟨Tp, sh, lo, hi, t, b, h, rfl, _⟩ := h
    rfl
  · obtain ⟨Tp, sh, lo, hi, t, b, h, rfl, ⟨hT, hs⟩, o, k⟩ := h
    have nd := sc_step.nd
    refine ⟨_, (pss_cons (ps_asg (pv 0) (pg_tup rfl (pgs_cons (pg_name (i := 2) nd rfl (Or.inl rfl)) (pgs_cons (pg_name (i := 3) nd rfl (Or.inl rfl)) (pgs_cons (pg_name (i := 4) nd rfl (Or.inl rfl)) pgs_nil)))))
      (pss_cons (ps_set (i := 5) nd rfl (Or.inl rfl) (pe_op op_fdiv (pe_op op_mul (pv 1) (pe_fst (pv 4))) (pe_snd (pv 4))))
      (pss_cons (ps_if (pt_cmpR op_lt (pe_op op_mul (pv 5) (pe_snd (pv 4))) (pe_op op_mul (pv 1) (pe_fst (pv 4))) (nomark _))
      (pss_one (ps_set (i := 5) nd rfl (Or.inl rfl) (pe_op op_add (pv 5) pe_int)))
      pss_nil)
      (pss_cons (ps_if (pt_cmpR op_lt (pv 5) (pv 2) (nomark _))
      (pss_one (ps_ret (pv 2)))
      pss_nil)
      (pss_one (ps_ret (pe_ifExp (pt_cmpR op_lt (pv 5) (pv 3) (nomark _)) (pv 5) (pv 3)))))))), ?_⟩
    have o1 := o.t1
    have o2 := o.t2
    have o3 := o.b1
    have o4 := o.b2
    have cm : ∀ x : Int, CMul x t := fun x => .inr ⟨by omega, by omega⟩
    have cb : ∀ x : Int, CMul x b := fun x => .inr ⟨by omega, by omega⟩
    refine ⟨_, rfl, Tp, _, rfl, SqT.of hT, rfl, _, _, rfl, _, _, rfl, _, _, rfl, rfl, ?_⟩
    refine ⟨_, rfl, _, rfl, sh, (t, some b), rfl, hs, _, _, rfl, rfl, cm _, _, rfl, sh, (t, some b), rfl, hs, _, _, rfl, rfl, ⟨by show 0 < b; omega, by show b < 1073741824; omega⟩, ?_⟩
    refine ⟨_, rfl, _, rfl, sh, (t, some b), rfl, hs, _, _, rfl, rfl, cb _, _, rfl, _, rfl, sh, (t, some b), rfl, hs, _, _, rfl, rfl, cm _, _, _, rfl, rfl, _, rfl, ?_⟩
    have hstep := step_eq (t := t) (b := b) (h := h) (by omega)
    have fin : ∀ m : Int, m = partM t b h → Q (.int (if m < lo then lo else if m < hi then m else hi)) H := fun m e => by
      rw [e]
      exact k
    show if decide (h * t / b * b < h * t) = true then _ else _
    by_cases h1 : h * t / b * b < h * t
    case' pos =>
      rw [if_pos h1] at hstep
      rw [decide_eq_true h1]
      refine iteT ⟨_, rfl, _, _, rfl, rfl, ?_⟩
      have fin2 := fin _ hstep
      refine ⟨_, rfl, _, rfl, _, _, rfl, rfl, _, rfl, ?_⟩
      show if decide (h * t / b + 1 < lo) = true then _ else _
    case' neg =>
      rw [if_neg h1] at hstep
      rw [decide_eq_false h1]
      refine iteF ?_
      have fin2 := fin _ hstep
      refine ⟨_, rfl, _, rfl, _, _, rfl, rfl, _, rfl, ?_⟩
      show if decide (h * t / b < lo) = true then _ else _
    all_goals
      split at fin2
      · rename_i h2
        rw [decide_eq_true h2]
        exact iteT ⟨_, rfl, fin2⟩
      · rename_i h2
        rw [decide_eq_false h2]
        refine iteF ⟨_, rfl, _, rfl, _, _, rfl, rfl, _, rfl, ?_⟩
        split at fin2
        · rename_i h3
          first
          | refine (show if decide (h * t / b + 1 < hi) = true then _ else _ from ?_)
            rw [decide_eq_true h3]
            exact iteT ⟨_, rfl, fin2⟩
          | refine (show if decide (h * t / b < hi) = true then _ else _ from ?_)
            rw [decide_eq_true h3]
            exact iteT ⟨_, rfl, fin2⟩
        · rename_i h3
          first
          | refine (show if decide (h * t / b + 1 < hi) = true then _ else _ from ?_)
            rw [decide_eq_false h3]
            exact iteF ⟨_, rfl, fin2⟩
          | refine (show if decide (h * t / b < hi) = true then _ else _ from ?_)
            rw [decide_eq_false h3]
            exact iteF ⟨_, rfl, fin2⟩
/-! ### disk -/
def sp_disk (K : PySem.W.Frag) : Sp := fun vs H Q _ => ∃ (wd : Addr) (W : WS) (back : Bool), vs = [.ref wd] ∧ WorldAt H wd W .non back false ∧ WOk W ∧
  ∀ (H' : Hp) (A : DAd), Same H H' → (∀ c ∈ A.own, H c = none) → DiskAt K H' A ⟨W.lo, W.hi, W.t, W.b, W.rule, W.short, back, 0, []⟩ → Q (.ref A.p) H'
theorem sc_disk : FnScope ["_law_world", "_law_book_here", "_law_some", "_law_word"] ["_law_world"] (defScope s_law_disk) := ⟨rfl, rfl, rfl, by decide +kernel, rfl, by decide +kernel, by decide +kernel⟩
theorem p_disk (T : Txt K mg) : FnR P w K mg base CX0 9 (He.ga K "_law_disk") (sp_disk K) := by
  obtain ⟨fd, F⟩ := T.d_law_disk
  refine mkR F (F.ok sc_disk (fun vs H Q E h => ?_) fun cdv A outer s H vs Q E hr h => ?_) fun _ _ _ _ _ _ us hl => match us, hl with | [_], _ => rfl
  · obtain ⟨wd, W, back, rfl, _⟩ := h
    rfl
  · obtain ⟨wd, W, back, rfl, ⟨Tp, fl, sh, hw, hpt⟩, wo, k⟩ := h
    have nd := sc_disk.nd
    have hu := hu_of hr
    obtain ⟨fd2, G, B⟩ := p_Disk_init (P := P) (w := w) (base := base) T
    refine ⟨_, (pss_cons (ps_par (i := 1) (j := 2) rfl nd rfl rfl (by decide) rfl rfl (pa_cons (pe_callR (p_made T) (hr.mono (by decide)) T.g_law_made (kp_law_made T) (pa_cons (pe_dget hu (pv 0) pe_str (fun _ _ => rfl)) pa_nil)) (pa_cons (pe_lc (own := [(Str.ofString "_law_word", 3)]) (g := gName 3) (tt := tYes) (te := tDGet (tVar 0) (tVar 3)) rfl nd (pi_list (pe_lst (pa_cons pe_str (pa_cons pe_str (pa_cons pe_str (pa_cons pe_str (pa_cons pe_str pa_nil))))))) (blkOk_by (N := ["_law_world", "_law_book_here", "_law_some", "_law_word"]) (sc := defScope s_law_disk) (by decide +kernel)) (fun _ _ _ _ _ => (pg_name (i := 3) nd rfl (Or.inl rfl))) (fun _ _ _ _ _ => pts_nil) (fun _ _ _ _ _ => (pe_dget hu (pv 0) (pv 3) (fun _ _ => rfl)))) pa_nil)) rfl)
      (pss_one (ps_ret (pe_makeN T.mk_Disk G hr rfl T.g_Disk B pass0 (pa_cons (pv 1) pa_nil) (pk_cons (pe_head (pv 2)) (pk_cons (pe_ix ix_list (pv 2) pe_int (fun _ _ => rfl)) (pk_cons (pe_ix ix_list (pv 2) pe_int (fun _ _ => rfl)) (pk_cons (pe_ix ix_list (pv 2) pe_int (fun _ _ => rfl)) (pk_cons (pe_ix ix_list (pv 2) pe_int (fun _ _ => rfl)) pk_nil))))))))), ?_⟩
    refine ⟨_, rfl, wd, _, rfl, dget hw wk_g_book, Tp, sh, _, _, _, _, rfl, hpt, wo.sm.ok, fun H1 r rdx e1 hr0 hbk => ?_⟩
    refine ⟨(by show 5 ≤ sizeLine; decide), fun L hL => ⟨L, rfl, ⟨_, SqL.of upd_same⟩, fun D hD => ?_⟩⟩
    have e2 : Same H1 (upd H1 L (.lst [.str "rule", .str "size", .str "short", .str "back", .str "late"])) := Same.upd_new hL
    have e12 := Same.trans e1 e2
    have hL1 : (upd H1 L (.lst [.str "rule", .str "size", .str "short", .str "back", .str "late"])) L = some (.lst [.str "rule", .str "size", .str "short", .str "back", .str "late"]) := upd_same
    generalize upd H1 L (.lst [.str "rule", .str "size", .str "short", .str "back", .str "late"]) = H2 at e2 e12 hL1 hD ⊢
    refine lc_list (K := K) (a := L) (xs := [.str "rule", .str "size", .str "short", .str "back", .str "late"]) (fun i H' => Same H2 H' ∧ H' D = some (.lst ([V.str W.rule, .non, .bl W.short, .bl back, .bl false].take i))) ⟨Same.upd_new hD, upd_same⟩ (fun i H' _ ⟨e, _⟩ => SqL.of (e _ _ hL1)) ?_ ?_
    · rintro i y H' hy ⟨e, hl⟩
      have hw' := e _ _ (e12 _ _ hw)
      have key : ∃ (x : String) (v : V), y = .str (Str.ofString x) ∧ valV (wk Tp fl W.rule .non W.short back false) (sk x) = some v ∧ [V.str W.rule, .non, .bl W.short, .bl back, .bl false].take (i + 1) = [V.str W.rule, .non, .bl W.short, .bl back, .bl false].take i ++ [v] := by
        match i, hy with
        | 0, hy => exact ⟨"rule", _, (Option.some.inj hy).symm, wk_g_rule, rfl⟩
        | 1, hy => exact ⟨"size", _, (Option.some.inj hy).symm, wk_g_size, rfl⟩
        | 2, hy => exact ⟨"short", _, (Option.some.inj hy).symm, wk_g_short, rfl⟩
        | 3, hy => exact ⟨"back", _, (Option.some.inj hy).symm, wk_g_back, rfl⟩
        | 4, hy => exact ⟨"late", _, (Option.some.inj hy).symm, wk_g_late, rfl⟩
      obtain ⟨x, v, rfl, hv, ht⟩ := key
      have hlen : ([V.str W.rule, .non, .bl W.short, .bl back, .bl false].take i).length < sizeLine := by
        rw [List.length_take]
        exact big1 (by simp only [List.length_cons, List.length_nil]; omega)
      refine ⟨rfl, _, rfl, _, rfl, wd, v, rfl, dget hw' hv, _, hl, hlen, Same.upd_wr e (by exact hD), ?_⟩
      rw [ht]
      exact upd_same
    · rintro H' ⟨e, hl⟩
      have hl' : H' D = some (.lst [V.str W.rule, .non, .bl W.short, .bl back, .bl false]) := hl
      have e3 := Same.trans e12 e
      refine ⟨_, _, rfl, _, rfl, ?_⟩
      refine ⟨_, rfl, D, _, _, rfl, hl', rfl, _, rfl, D, _, 1, .non, rfl, rfl, SqL.of hl', rfl, _, rfl, D, _, 2, _, rfl, rfl, SqL.of hl', rfl, _, rfl, D, _, 3, _, rfl, rfl, SqL.of hl', rfl, _, rfl, D, _, 4, _, rfl, rfl, SqL.of hl', rfl, rfl, rfl, fun x dx hx hdx hne => ?_⟩
      have e4 : Same H' (upd (upd H' dx (.own x)) x (.ins (cD K) dx [])) := Same.upd_wr (Same.upd_new hdx) hx
      have e24 := Same.trans e2 (Same.trans e e4)
      refine ⟨x, dx, r, rdx, sh, W.lo, W.hi, W.t, W.b, W.rule, W.short, back, rfl, upd_same, ⟨e24 _ _ hbk.1, e24 _ _ hbk.2⟩, wo.sm.ok, wo.ru, fun H'' A hk hp how hd => ⟨rfl, ?_⟩⟩
      have e5 : Same H' H'' := fun c o hc => hk c o (e4 _ _ hc) (ne_of_none hc hx)
      rw [← hp]
      refine k H'' A (Same.trans e3 e5) (fun c hc => ?_) hd
      rcases how c hc with rfl | z
      · exact Same.none e3 hx
      · exact Same.none e3 (Same.none e4 z)
/-! ### two -/
def sp_two (K : PySem.W.Frag) : Sp := fun vs H Q _ => ∃ (wd : Addr) (W : WS) (size : V) (back late : Bool), vs = [.ref wd] ∧ WorldAt H wd W size back late ∧ WOk W ∧
  ∀ (H' : Hp) (U : Addr) (A B : DAd), Stp K [wd] H H' → (∀ c ∈ A.own, H c = none) → (∀ c ∈ B.own, H c = none ∧ c ∉ A.own) → DiskAt K H' A ⟨W.lo, W.hi, W.t, W.b, W.rule, W.short, back, 0, []⟩ → DiskAt K H' B ⟨W.lo, W.hi, W.t, W.b, W.rule, W.short, back, 0, []⟩ →
    H' U = some (.tup [.ref A.p, .ref B.p]) → WorldAt H' wd W .non back false → Q (.ref U) H'
theorem sc_two : FnScope ["_law_world"] ["_law_world"] (defScope s_law_two) := ⟨rfl, rfl, rfl, by decide +kernel, rfl, by decide +kernel, by decide +kernel⟩
theorem p_two (T : Txt K mg) : FnR P w K mg base CX0 10 (He.ga K "_law_two") (sp_two K) := by
  obtain ⟨fd, F⟩ := T.d_law_two
  refine mkR F (F.ok sc_two (fun vs H Q E h => ?_) fun cdv A outer s H vs Q E hr h => ?_) fun _ _ _ _ _ _ us hl => match us, hl with | [_], _ => rfl
  · obtain ⟨wd, W, size, back, late, rfl, _⟩ := h
    rfl
  · obtain ⟨wd, W, size, back, late, rfl, ⟨Tp, fl, sh, hw, hpt⟩, wo, k⟩ := h
    have hu := hu_of hr
    refine ⟨_, (pss_cons (ps_asg (pe_tup (pa_cons pe_non (pa_cons pe_bl pa_nil))) (pg_tup rfl (pgs_cons (pg_sub (pv 0) pe_str (set_dict hu)) (pgs_cons (pg_sub (pv 0) pe_str (set_dict hu)) pgs_nil))))
      (pss_one (ps_ret (pe_tup (pa_cons (pe_callR (p_disk T) hr T.g_law_disk (kp_law_disk T) (pa_cons (pv 0) pa_nil)) (pa_cons (pe_callR (p_disk T) hr T.g_law_disk (kp_law_disk T) (pa_cons (pv 0) pa_nil)) pa_nil)))))), ?_⟩
    refine ⟨(by show 2 ≤ sizeLine; decide), fun t ht => ⟨t, _, rfl, SqT.of upd_same, rfl, ?_⟩⟩
    have e1 : Same H (upd H t (.tup [.non, .bl false])) := Same.upd_new ht
    have hw1 := e1 _ _ hw
    have s1 : Stp K [wd] H (upd (upd H t (.tup [.non, .bl false])) wd (.dK (wk Tp fl W.rule .non W.short back late))) := (Stp.of_same e1).trans (Stp.dK hw1)
    have hw2 : (upd (upd H t (.tup [.non, .bl false])) wd (.dK (wk Tp fl W.rule .non W.short back late))) wd = some (.dK (wk Tp fl W.rule .non W.short back late)) := upd_same
    refine ⟨_, _, rfl, _, rfl, wd, _, rfl, dput hw1 wk_size (by show 8 ≤ 100; decide), ?_⟩
    refine ⟨_, _, rfl, _, rfl, wd, _, rfl, dput hw2 wk_late (by show 8 ≤ 100; decide), rfl, ?_⟩
    have s2 : Stp K [wd] H (upd (upd (upd H t (.tup [.non, .bl false])) wd (.dK (wk Tp fl W.rule .non W.short back late))) wd (.dK (wk Tp fl W.rule .non W.short back false))) := s1.trans (Stp.dK hw2)
    have hW : WorldAt (upd (upd (upd H t (.tup [.non, .bl false])) wd (.dK (wk Tp fl W.rule .non W.short back late))) wd (.dK (wk Tp fl W.rule .non W.short back false))) wd W .non back false := ⟨Tp, fl, sh, upd_same, s2.chg.tups _ _ hpt.1, s2.chg.tups _ _ hpt.2⟩
    have dom : ∀ c, (upd (upd (upd H t (.tup [.non, .bl false])) wd (.dK (wk Tp fl W.rule .non W.short back late))) wd (.dK (wk Tp fl W.rule .non W.short back false))) c = none → H c = none := fun c hc => by
      have n : c ≠ wd := fun z => by rw [z, upd_same] at hc; cases hc
      rw [upd_ne n, upd_ne n] at hc
      exact Same.none e1 hc
    generalize upd (upd (upd H t (.tup [.non, .bl false])) wd (.dK (wk Tp fl W.rule .non W.short back late))) wd (.dK (wk Tp fl W.rule .non W.short back false)) = H2 at s2 hW dom ⊢
    refine ⟨_, rfl, wd, W, back, rfl, hW, wo, fun H3 A e3 fA dA => ?_⟩
    refine ⟨_, rfl, wd, W, back, rfl, hW.stp (K := K) (M := []) (.of_same e3) (by simp), wo, fun H4 B e4 fB dB => ⟨(by show 2 ≤ sizeLine; decide), fun U hU => ?_⟩⟩
    have e5 : Same H4 (upd H4 U (.tup [.ref A.p, .ref B.p])) := Same.upd_new hU
    have live : ∀ c ∈ A.own, ∃ o, H3 c = some o := fun c hc => by
      simp only [DAd.own, List.mem_cons, List.mem_append, List.mem_map] at hc
      have hfs : A.fs = [] := by
        have z := Paired.length dA.fs
        exact List.eq_nil_of_length_eq_zero z
      rw [hfs] at hc
      rcases hc with rfl | rfl | rfl | ⟨_, h, _⟩ | ⟨_, h, _⟩
      · exact ⟨_, dA.ob⟩
      · exact ⟨_, dA.bk⟩
      · exact ⟨_, dA.fd⟩
      · cases h
      · cases h
    refine k _ U A B (s2.trans (.of_same (Same.trans e3 (Same.trans e4 e5)))) (fun c hc => dom c (fA c hc)) (fun c hc => ⟨dom c (Same.none e3 (fB c hc)), fun z => ?_⟩) (dA.chg (.of_same (M := []) (Same.trans e4 e5)) (fun _ _ => by simp)) (dB.chg (.of_same (M := []) e5) (fun _ _ => by simp)) upd_same (hW.stp (K := K) (M := []) (.of_same (Same.trans e3 (Same.trans e4 e5))) (by simp))
    obtain ⟨o, ho⟩ := live c z
    rw [fB c hc] at ho
    cases ho
end
end GF

set_option Elab.async false
set_option linter.all false
set_option maxRecDepth 100000
set_option maxHeartbeats 4000000
namespace GF
open PySem PySem.Spec PyProof.Rows L2
/-! ## the mathematics: an endless disk always has a place -/
/-- a pair whose end is finite, both within bounds -/
def FinP (B : Int) (p : P2) : Prop := 0 ≤ p.1 ∧ ∃ e, p.2 = some e ∧ 0 ≤ e ∧ e ≤ B
def RunOk (B : Int) (r : R2i) : Prop := 0 ≤ r.1 ∧ 1 ≤ r.2 ∧ r.1 + r.2 ≤ B
theorem joinStep_fin {B : Int} {found : List P2} {run : P2} (h : ∀ p ∈ found, FinP B p) (r : 0 ≤ run.1 ∧ ∃ e, endOf run = some e ∧ 0 ≤ e ∧ e ≤ B) : ∀ p ∈ joinStep found run, FinP B p := by
  unfold joinStep
  have new : FinP B (run.1, endOf run) := r
  have app : ∀ p ∈ found ++ [(run.1, endOf run)], FinP B p := fun p hp => by
    rcases List.mem_append.mp hp with hp | hp
    · exact h p hp
    · rw [List.mem_singleton.mp hp]
      exact new
  cases hl : found.getLast? with
  | none => exact app
  | some l =>
    have hm : l ∈ found := List.mem_of_getLast? hl
    show ∀ p ∈ (if leEnd run.1 l.2 = true then (if before l.2 (endOf run) = true then found.set (found.length - 1) (l.1, endOf run) else found) else found ++ [(run.1, endOf run)]), FinP B p
    split
    · split
      · intro p hp
        rcases List.mem_or_eq_of_mem_set hp with hp | hp
        · exact h p hp
        · rw [hp]
          exact ⟨(h l hm).1, r.2⟩
      · exact h
    · exact app
theorem joined_fin {B : Int} {rs : List R2i} (h : ∀ r ∈ rs, RunOk B r) : ∀ p ∈ joinedM (rs.map fin), FinP B p := by
  unfold joinedM
  have hb : ∀ q ∈ byStart (rs.map fin), 0 ≤ q.1 ∧ ∃ e, endOf q = some e ∧ 0 ≤ e ∧ e ≤ B := fun q hq => by
    have hm : q ∈ rs.map fin := List.mem_mergeSort.mp hq
    obtain ⟨r, hr, rfl⟩ := List.mem_map.mp hm
    obtain ⟨h1, h2, h3⟩ := h r hr
    exact ⟨h1, r.1 + r.2, rfl, by omega, h3⟩
  generalize byStart (rs.map fin) = qs at hb
  have : ∀ (qs : List P2) (found : List P2), (∀ q ∈ qs, 0 ≤ q.1 ∧ ∃ e, endOf q = some e ∧ 0 ≤ e ∧ e ≤ B) → (∀ p ∈ found, FinP B p) → ∀ p ∈ qs.foldl joinStep found, FinP B p := by
    intro qs
    induction qs with
    | nil => exact fun found _ hf => hf
    | cons q qs ih => exact fun found hq hf => ih _ (fun x hx => hq x (List.mem_cons_of_mem _ hx)) (joinStep_fin hf (hq q List.mem_cons_self))
  exact this qs [] hb (fun p hp => by cases hp)
theorem others_fin {B : Int} : ∀ (ps : List P2) (fo : List P2) (a : Int), (∀ p ∈ ps, FinP B p) → (∀ p ∈ fo, 0 ≤ p.1 ∧ p.1 ≤ B) → 0 ≤ a → a ≤ B → ∃ L b, (ps.foldl othersStep (fo, some a)) = (L, some b) ∧ (∀ p ∈ L, 0 ≤ p.1 ∧ p.1 ≤ B) ∧ 0 ≤ b ∧ b ≤ B
  | [], fo, a, _, hf, h0, h1 => ⟨fo, a, rfl, hf, h0, h1⟩
  | p :: ps, fo, a, hp, hf, h0, h1 => by
    obtain ⟨_, e, he, e0, e1⟩ := hp p List.mem_cons_self
    rw [List.foldl_cons]
    have es : othersStep (fo, some a) p = (if a < p.1 then fo ++ [(a, some p.1)] else fo, some e) := by
      unfold othersStep
      rw [he]
    rw [es]
    refine others_fin ps _ e (fun x hx => hp x (List.mem_cons_of_mem _ hx)) ?_ e0 e1
    split
    · intro q hq
      rcases List.mem_append.mp hq with hq | hq
      · exact hf q hq
      · rw [List.mem_singleton.mp hq]
        exact ⟨h0, h1⟩
    · exact hf
theorem meets_zero (os : List P2) (h : ∀ p ∈ os, 0 ≤ p.1) : sharedM [(0, none)] os = os.filter fun t => before (some t.1) t.2 := by
  unfold sharedM
  rw [List.flatMap_cons, List.flatMap_nil, List.append_nil]
  unfold meets
  have hs : ∀ t ∈ os, meetS (0, none) t = t.1 := fun t ht => by
    unfold meetS
    have := h t ht
    split
    · rfl
    · show (0 : Int) = t.1
      omega
  have hB : ∀ t ∈ os, meetB (0, none) t = before (some t.1) t.2 := fun t ht => by
    unfold meetB
    rw [hs t ht]
    rfl
  rw [List.filter_congr hB]
  have hP : ∀ t ∈ os.filter (fun t => before (some t.1) t.2), meetP (0, none) t = t := fun t ht => by
    unfold meetP
    rw [hs t ((List.mem_filter.mp ht).1)]
    rfl
  rw [List.map_congr_left hP, List.map_id']
/-- the free room: bounded starts, the last without end -/
structure FreeOk (B : Int) (free : List P2) : Prop where
  starts : ∀ p ∈ free, 0 ≤ p.1 ∧ p.1 ≤ B
  last : ∃ L a, free = L ++ [(a, none)]
theorem free_ok {B : Int} {rs : List R2i} (hB : 0 ≤ B) (h : ∀ r ∈ rs, RunOk B r) : FreeOk B (freeM rs) := by
  obtain ⟨L, b, e, hL, b0, b1⟩ := others_fin (joinedM (rs.map fin)) [] 0 (joined_fin h) (fun p hp => by cases hp) (Int.le_refl 0) hB
  have eo : othersM (joinedM (rs.map fin)) = L ++ [(b, none)] := by
    unfold othersM
    rw [e]
    rfl
  have hst : ∀ p ∈ L ++ [(b, none)], 0 ≤ p.1 ∧ p.1 ≤ B := fun p hp => by
    rcases List.mem_append.mp hp with hp | hp
    · exact hL p hp
    · rw [List.mem_singleton.mp hp]
      exact ⟨b0, b1⟩
  unfold freeM
  rw [eo, meets_zero _ (fun p hp => (hst p hp).1)]
  refine ⟨fun p hp => hst p ((List.mem_filter.mp hp).1), L.filter (fun t => before (some t.1) t.2), b, ?_⟩
  rw [List.filter_append]
  rfl
theorem run_start {p : P2} : (runOf p).1 = p.1 := rfl
theorem first_mem {runs : List P2} {many s : Int} (h : firstM runs many = some s) : ∃ r ∈ runs, r.1 = s := by
  unfold firstM at h
  cases hf : runs.find? (fun r => enough r many) with
  | none => rw [hf] at h; cases h
  | some r =>
    rw [hf] at h
    exact ⟨r, List.mem_of_find?_eq_some hf, Option.some.inj h⟩
theorem first_some {L : List P2} {a many : Int} : ∃ s, firstM (runsM (L ++ [(a, none)])) many = some s := by
  unfold firstM
  have : (runsM (L ++ [(a, none)])).find? (fun r => enough r many) ≠ none := fun h => by
    have h2 := List.find?_eq_none.mp h (runOf (a, none)) (List.mem_map.mpr ⟨(a, none), by simp, rfl⟩)
    exact h2 rfl
  cases hf : (runsM (L ++ [(a, none)])).find? (fun r => enough r many) with
  | none => exact absurd hf this
  | some r => exact ⟨r.1, rfl⟩
theorem best_mem {many : Int} : ∀ (runs : List P2) (b : Option P2) (r : P2), runs.foldl (bestStep many) b = some r → r ∈ runs ∨ b = some r
  | [], b, r, h => .inr h
  | x :: xs, b, r, h => by
    rw [List.foldl_cons] at h
    rcases best_mem xs _ r h with h | h
    · exact .inl (List.mem_cons_of_mem _ h)
    · unfold bestStep at h
      split at h
      · cases b with
        | none =>
          rw [← Option.some.inj h]
          exact .inl List.mem_cons_self
        | some c =>
          replace h : (if lessL x c = true then some x else some c) = some r := h
          split at h
          · rw [← Option.some.inj h]
            exact .inl List.mem_cons_self
          · exact .inr h
      · exact .inr h
theorem best_some {L : List P2} {a many : Int} : ∃ r, (runsM (L ++ [(a, none)])).foldl (bestStep many) none = some r := by
  unfold runsM
  rw [List.map_append, List.foldl_append]
  generalize (L.map runOf).foldl (bestStep many) none = b
  show ∃ r, bestStep many b (runOf (a, none)) = some r
  have e : enough (runOf (a, none)) many = true := rfl
  unfold bestStep
  rw [if_pos e]
  cases b with
  | none => exact ⟨_, rfl⟩
  | some c =>
    show ∃ r, (if lessL (runOf (a, none)) c = true then some (runOf (a, none)) else some c) = some r
    split
    · exact ⟨_, rfl⟩
    · exact ⟨_, rfl⟩
theorem shared_starts {B b : Int} {free : List P2} (h : ∀ p ∈ free, 0 ≤ p.1 ∧ p.1 ≤ B) (b0 : 0 ≤ b) (b1 : b ≤ B) : ∀ r ∈ runsM (sharedM free [(b, none)]), 0 ≤ r.1 ∧ r.1 ≤ B := by
  intro r hr
  obtain ⟨q, hq, rfl⟩ := List.mem_map.mp hr
  obtain ⟨p, hp, hq⟩ := List.mem_flatMap.mp hq
  obtain ⟨t, ht, rfl⟩ := List.mem_map.mp hq
  have ht2 : t = (b, none) := List.mem_singleton.mp ((List.mem_filter.mp ht).1)
  subst ht2
  show 0 ≤ meetS p (b, none) ∧ meetS p (b, none) ≤ B
  have := h p hp
  unfold meetS
  split
  · exact ⟨b0, b1⟩
  · exact this
theorem place_ok {B : Int} {rule : Str} {free : List P2} {many behind after : Int} (f : FreeOk B free) (b0 : 0 ≤ behind) (b1 : behind ≤ B) (a0 : 0 ≤ after) (a1 : after ≤ B) : ∃ st, placeM rule free many behind after = some st ∧ 0 ≤ st ∧ st ≤ B := by
  obtain ⟨L, a, ef⟩ := f.last
  have hruns : ∀ r ∈ runsM free, 0 ≤ r.1 ∧ r.1 ≤ B := fun r hr => by
    obtain ⟨p, hp, rfl⟩ := List.mem_map.mp hr
    exact f.starts p hp
  have hfirst : ∃ st, firstM (runsM free) many = some st ∧ 0 ≤ st ∧ st ≤ B := by
    obtain ⟨s, hs⟩ := first_some (L := L) (a := a) (many := many)
    rw [← ef] at hs
    obtain ⟨r, hr, e⟩ := first_mem hs
    have := hruns r hr
    rw [e] at this
    exact ⟨s, hs, this⟩
  unfold placeM
  split
  · obtain ⟨r, hr⟩ := best_some (L := L) (a := a) (many := many)
    rw [← ef] at hr
    refine ⟨r.1, by unfold bestM; rw [hr]; rfl, ?_⟩
    rcases best_mem _ _ _ hr with h | h
    · exact hruns r h
    · cases h
  · split
    · exact hfirst
    · rename_i s hs
      refine ⟨s, rfl, ?_⟩
      split at hs
      · obtain ⟨r, hr, e⟩ := first_mem hs
        have := shared_starts f.starts b0 b1 r ((List.mem_filter.mp hr).1)
        rw [e] at this
        exact this
      · split at hs
        · obtain ⟨r, hr, e⟩ := first_mem hs
          have := shared_starts f.starts a0 a1 r hr
          rw [e] at this
          exact this
        · cases hs
end GF

set_option Elab.async false
set_option linter.all false
set_option maxRecDepth 100000
set_option maxHeartbeats 4000000
namespace GF
open PySem PySem.Spec PyProof.Rows L2
/-! ## what holds of files and disks all along -/
structure FOk (B : Int) (N : Nat) (f : FileS) : Prop where
  s0 : 0 ≤ f.size
  sh : f.size ≤ f.hold
  hr : f.hold = holdM f.runs
  hb : f.hold ≤ B
  rs : ∀ r ∈ f.runs, RunOk B r
  n : f.runs.length ≤ N
structure DOk (B : Int) (N : Nat) (d : DiskS) : Prop where
  B0 : 0 ≤ B
  fs : ∀ f ∈ d.files, FOk B N f
  a0 : 0 ≤ d.after
  a1 : d.after ≤ B
  bk : BookSm d.lo d.hi d.t d.b
  ru : isRule d.rule
  nf : d.files.length ≤ 3
theorem RunOk.mono {B C : Int} {r : R2i} (h : RunOk B r) (c : B ≤ C) : RunOk C r := ⟨h.1, h.2.1, Int.le_trans h.2.2 c⟩
theorem FOk.mono {B C : Int} {N M : Nat} {f : FileS} (h : FOk B N f) (c : B ≤ C) (m : N ≤ M) : FOk C M f := ⟨h.s0, h.sh, h.hr, Int.le_trans h.hb c, fun r hr => (h.rs r hr).mono c, Nat.le_trans h.n m⟩
theorem DOk.mono {B C : Int} {N M : Nat} {d : DiskS} (h : DOk B N d) (c : B ≤ C) (m : N ≤ M) : DOk C M d := ⟨Int.le_trans h.B0 c, fun f hf => (h.fs f hf).mono c m, h.a0, Int.le_trans h.a1 c, h.bk, h.ru, h.nf⟩
theorem allRuns_ok {B : Int} {fs : List FileS} {N : Nat} (h : ∀ f ∈ fs, FOk B N f) : (∀ r ∈ allRuns fs, RunOk B r) ∧ (allRuns fs).length ≤ fs.length * N := by
  constructor
  · intro r hr
    obtain ⟨f, hf, hr⟩ := List.mem_flatMap.mp hr
    exact (h f hf).rs r hr
  · induction fs with
    | nil => exact Nat.zero_le _
    | cons f fs ih =>
      have h1 := ih fun g hg => h g (List.mem_cons_of_mem _ hg)
      have h2 := (h f List.mem_cons_self).n
      unfold allRuns at h1 ⊢
      rw [List.flatMap_cons, List.length_append, List.length_cons, Nat.succ_mul]
      omega
theorem last_mem {α : Type} {l : List α} {x : α} (h : l.getLast? = some x) : x ∈ l := List.mem_of_getLast? h
theorem behind_ok {B : Int} {rs : List R2i} {free : List P2} (f : FreeOk B free) (h : ∀ r ∈ rs, RunOk B r) : 0 ≤ behindM rs free ∧ behindM rs free ≤ B := by
  unfold behindM
  cases hl : rs.getLast? with
  | some l =>
    obtain ⟨h1, h2, h3⟩ := h l (last_mem hl)
    show 0 ≤ l.1 + l.2 ∧ l.1 + l.2 ≤ B
    omega
  | none =>
    obtain ⟨L, a, e⟩ := f.last
    cases free with
    | nil => cases L <;> cases e
    | cons p ps => exact f.starts p List.mem_cons_self
theorem step_le {lo hi t b h : Int} (l : lo ≤ hi) : stepM lo hi t b h ≤ hi := by
  unfold stepM
  split
  · exact l
  · split
    · omega
    · exact Int.le_refl _
theorem ask_le {lo hi t b h need : Int} (l : lo ≤ hi) : askM lo hi t b h need ≤ hi ∨ askM lo hi t b h need = need := by
  unfold askM
  have := step_le (lo := lo) (hi := hi) (t := t) (b := b) (h := h) l
  split
  · exact .inl this
  · exact .inr rfl
theorem hold_put (rs : List R2i) (r : R2i) : holdM (putM rs r) = holdM rs + r.2 := by
  by_cases e : rs = []
  · subst e
    show holdM [r] = _
    unfold holdM
    simp
  · obtain ⟨q, l, e⟩ := split_last e
    subst e
    rw [put_snoc]
    split
    · rw [hold_snoc, hold_snoc]
      show holdM q + (l.2 + r.2) = _
      omega
    · rw [hold_snoc, hold_snoc]
theorem put_ok {B : Int} {rs : List R2i} {r : R2i} (h : ∀ x ∈ rs, RunOk B x) (hr : RunOk B r) : (∀ x ∈ putM rs r, RunOk B x) ∧ (putM rs r).length ≤ rs.length + 1 := by
  by_cases e : rs = []
  · subst e
    exact ⟨fun x hx => by rw [List.mem_singleton.mp hx]; exact hr, Nat.le_refl _⟩
  · obtain ⟨q, l, e⟩ := split_last e
    subst e
    rw [put_snoc]
    have hl := h l (by simp)
    have hq : ∀ x ∈ q, RunOk B x := fun x hx => h x (List.mem_append_left _ hx)
    obtain ⟨l1, l2, l3⟩ := hl
    obtain ⟨r1, r2, r3⟩ := hr
    split
    · refine ⟨fun x hx => ?_, ?_⟩
      · rcases List.mem_append.mp hx with hx | hx
        · exact hq x hx
        · rw [List.mem_singleton.mp hx]
          refine ⟨l1, ?_, ?_⟩
          · show 1 ≤ l.2 + r.2; omega
          · show l.1 + (l.2 + r.2) ≤ B; omega
      · simp
    · refine ⟨fun x hx => ?_, by simp⟩
      rcases List.mem_append.mp hx with hx | hx
      · exact h x hx
      · rw [List.mem_singleton.mp hx]
        exact ⟨r1, r2, r3⟩
/-- a growth of at most 20 new bytes is well within bounds -/
theorem DOk.wb {B : Int} {N : Nat} {d : DiskS} {f : FileS} {many : Int} (h : DOk B N d) (hf : f ∈ d.files) (hB : B ≤ 10 ^ 30) (hN : N ≤ 200) (n1 : needM f many ≤ 20) : WB d f many ∧ (0 < needM f many → ∃ st, startM d f (askD d f many) = some st ∧ 0 ≤ st ∧ st ≤ B ∧ askD d f many ≤ 20 ∧ 1 ≤ askD d f many) := by
  have hfo := h.fs f hf
  obtain ⟨hr, hl⟩ := allRuns_ok h.fs
  have hfree := free_ok h.B0 hr
  obtain ⟨b0, b1⟩ := behind_ok hfree hfo.rs
  have hnf := h.nf
  have hlen : (allRuns d.files).length ≤ 800 := by
    have : d.files.length * N ≤ 3 * 200 := Nat.mul_le_mul hnf hN
    omega
  have hhi := h.bk.hi12
  have hask : askD d f many ≤ 20 := by
    unfold askD
    rcases ask_le (lo := d.lo) (hi := d.hi) (t := d.t) (b := d.b) (h := f.hold) (need := needM f many) h.bk.ok.l2 with z | z <;> omega
  obtain ⟨st, e, s0, s1⟩ := place_ok (rule := d.rule) (many := askD d f many) hfree b0 b1 h.a0 h.a1
  have hhb := hfo.hb
  have hsh := hfo.sh
  have hs0 := hfo.s0
  have ha1 := h.a1
  refine ⟨⟨hlen, h.bk.ok, h.ru, by omega, by omega, by omega, fun n0 => ⟨by omega, b0, by omega, h.a0, by omega, st, e⟩⟩, fun n0 => ⟨st, e, s0, s1, hask, ?_⟩⟩
  have := ask_ge d.lo d.hi d.t d.b f.hold (needM f many)
  show 1 ≤ askM d.lo d.hi d.t d.b f.hold (needM f many)
  omega
theorem mem_set_of {α : Type} {l : List α} {i : Nat} {x y : α} (h : y ∈ l.set i x) : y ∈ l ∨ y = x := List.mem_or_eq_of_mem_set h
theorem DOk.grow {B : Int} {N : Nat} {d : DiskS} {i : Nat} {f : FileS} {many : Int} (h : DOk B N d) (hf : d.files[i]? = some f) (hB : B ≤ 10 ^ 30) (hN : N ≤ 200) (m0 : 0 ≤ many) (n1 : needM f many ≤ 20) : DOk (B + 20) (N + 1) (growD d i f many) ∧ FOk (B + 20) (N + 1) (grownF d f many) := by
  have hm : f ∈ d.files := List.mem_of_getElem? hf
  have hfo := h.fs f hm
  obtain ⟨wb, hgo⟩ := h.wb hm hB hN n1
  have hs0 := hfo.s0
  have hsh := hfo.sh
  have hhb := hfo.hb
  have ha0 := h.a0
  have ha1 := h.a1
  have hB0 := h.B0
  have hB0 := h.B0
  have fo : FOk (B + 20) (N + 1) (grownF d f many) ∧ 0 ≤ afterF d f many ∧ afterF d f many ≤ B + 20 := by
    unfold grownF afterF
    by_cases h0 : needM f many ≤ 0
    · rw [if_pos h0, if_pos h0]
      unfold needM at h0
      refine ⟨⟨by show 0 ≤ f.size + many; omega, by show f.size + many ≤ f.hold; omega, hfo.hr, by show f.hold ≤ B + 20; omega, fun r hr => (hfo.rs r hr).mono (by omega), Nat.le_succ_of_le hfo.n⟩, h.a0, by omega⟩
    · rw [if_neg h0, if_neg h0]
      obtain ⟨st, e, s0, s1, k1, k2⟩ := hgo (by omega)
      rw [e]
      have hge := ask_ge d.lo d.hi d.t d.b f.hold (needM f many)
      replace hge : needM f many ≤ askD d f many := hge
      have hr : RunOk (B + 20) (st, askD d f many) := ⟨s0, k2, by show st + askD d f many ≤ B + 20; omega⟩
      obtain ⟨p1, p2⟩ := put_ok (fun x hx => (hfo.rs x hx).mono (show B ≤ B + 20 by omega)) hr
      unfold needM at hge
      have hn := hfo.n
      refine ⟨⟨by show 0 ≤ f.size + many; omega, by show f.size + many ≤ f.hold + askD d f many; omega, ?_, by show f.hold + askD d f many ≤ B + 20; omega, p1, by show (putM f.runs (st, askD d f many)).length ≤ N + 1; omega⟩, by show 0 ≤ st + askD d f many; omega, by show st + askD d f many ≤ B + 20; omega⟩
      show f.hold + askD d f many = holdM (putM f.runs (st, askD d f many))
      rw [hold_put, ← hfo.hr]
  refine ⟨⟨by omega, fun g hg => ?_, fo.2.1, fo.2.2, h.bk, h.ru, by show (d.files.set i (grownF d f many)).length ≤ 3; rw [List.length_set]; exact h.nf⟩, fo.1⟩
  rcases mem_set_of hg with hg | rfl
  · exact (h.fs g hg).mono (by omega) (Nat.le_succ _)
  · exact fo.1
theorem cutR_ok {B : Int} : ∀ (rs : List R2i) (left : Int), (∀ r ∈ rs, RunOk B r) → left ≤ holdM rs → 0 ≤ left → (∀ r ∈ cutR rs left, RunOk B r) ∧ (cutR rs left).length ≤ rs.length ∧ holdM (cutR rs left) = holdM rs - left
  | [], left, _, hl, h0 => by
    have e : holdM ([] : List R2i) = 0 := rfl
    refine ⟨fun r hr => (by cases hr), Nat.le_refl _, ?_⟩
    show holdM [] = holdM [] - left
    omega
  | r :: rs, left, h, hl, h0 => by
    have e : holdM (r :: rs) = r.2 + holdM rs := rfl
    obtain ⟨r1, r2, r3⟩ := h r List.mem_cons_self
    unfold cutR
    split
    · refine ⟨h, Nat.le_refl _, by omega⟩
    · split
      · refine ⟨fun x hx => ?_, Nat.le_refl _, ?_⟩
        · rcases List.mem_cons.mp hx with rfl | hx
          · refine ⟨r1, ?_, ?_⟩
            · show 1 ≤ r.2 - left; omega
            · show r.1 + (r.2 - left) ≤ B; omega
          · exact h x (List.mem_cons_of_mem _ hx)
        · show (r.2 - left) + holdM rs = _
          omega
      · obtain ⟨a1, a2, a3⟩ := cutR_ok rs (left - r.2) (fun x hx => h x (List.mem_cons_of_mem _ hx)) (by omega) (by omega)
        exact ⟨a1, Nat.le_succ_of_le a2, by omega⟩
theorem hold_reverse (rs : List R2i) : holdM rs.reverse = holdM rs := by
  unfold holdM
  rw [List.map_reverse, List.sum_reverse]
theorem FOk.closed {B : Int} {N : Nat} {d : DiskS} {f : FileS} (h : FOk B N f) : FOk B N (closedF d f) := by
  unfold closedF
  have h1 := h.s0
  have h2 := h.sh
  have h3 := h.hr
  have h4 := h.hb
  split
  · obtain ⟨a1, a2, a3⟩ := cutR_ok f.runs.reverse (f.hold - f.size) (fun r hr => h.rs r (List.mem_reverse.mp hr)) (by rw [hold_reverse]; omega) (by omega)
    refine ⟨h1, Int.le_refl _, ?_, by show f.size ≤ B; omega, fun r hr => a1 r (List.mem_reverse.mp hr), ?_⟩
    · show f.size = holdM (cutM f.runs (f.hold - f.size))
      unfold cutM
      rw [hold_reverse, a3, hold_reverse]
      omega
    · show (cutM f.runs (f.hold - f.size)).length ≤ N
      unfold cutM
      rw [List.length_reverse]
      have := h.n
      rw [List.length_reverse] at a2
      omega
  · exact ⟨h1, h2, h3, h4, h.rs, h.n⟩
theorem DOk.set {B : Int} {N : Nat} {d : DiskS} {i : Nat} {f : FileS} (h : DOk B N d) (hf : FOk B N f) : DOk B N { d with files := d.files.set i f } :=
  ⟨h.B0, fun g hg => by
    rcases mem_set_of hg with hg | rfl
    · exact h.fs g hg
    · exact hf, h.a0, h.a1, h.bk, h.ru, by show (d.files.set i f).length ≤ 3; rw [List.length_set]; exact h.nf⟩
theorem FOk.op {B : Int} {N : Nat} {f : FileS} {o : Bool} (h : FOk B N f) : FOk B N { f with op := o } := ⟨h.s0, h.sh, h.hr, h.hb, h.rs, h.n⟩
theorem FOk.fresh {B : Int} {N : Nat} {name : Str} (h : 0 ≤ B) : FOk B N (newF name) := ⟨Int.le_refl 0, Int.le_refl 0, rfl, h, fun r hr => (by cases hr), Nat.zero_le _⟩
end GF

set_option Elab.async false
set_option linter.all false
set_option maxRecDepth 100000
set_option maxHeartbeats 4000000
namespace GF
open PySem PySem.Spec PyProof.Rows L2
/-! ## rooms of few runs -/
theorem free_nil : freeM [] = [(0, none)] := by
  unfold freeM
  have e : joinedM ([].map fin) = [] := by
    unfold joinedM byStart
    rw [List.map_nil, List.mergeSort_nil]
    rfl
  rw [e]
  rfl
theorem joined_1 {s l : Int} : joinedM ([(s, l)].map fin) = [(s, some (s + l))] := by
  unfold joinedM byStart
  rw [List.map_singleton, List.mergeSort_singleton]
  rfl
theorem free_1 {h : Int} (h0 : 0 < h) : freeM [(0, h)] = [(h, none)] := by
  unfold freeM
  rw [joined_1]
  have e : othersM [(0, some (0 + h))] = [(h, none)] := by
    unfold othersM
    rw [List.foldl_cons, List.foldl_nil]
    have e1 : othersStep ([], some 0) (0, some (0 + h)) = ([], some (0 + h)) := by
      unfold othersStep
      show ((if (0 : Int) < 0 then _ else _), _) = _
      rw [if_neg (by omega)]
    rw [e1, Int.zero_add]
    rfl
  rw [e, meets_zero _ (fun p hp => by rw [List.mem_singleton.mp hp]; show 0 ≤ h; omega)]
  rfl
theorem joined_2a {s g l : Int} (hs : 0 < s) (hg : s < g) : joinedM ([(0, s), (g, l)].map fin) = [(0, some s), (g, some (g + l))] := by
  unfold joinedM byStart
  rw [List.mergeSort_of_pairwise (by
    rw [List.map_cons, List.map_cons, List.map_nil]
    refine List.Pairwise.cons (fun p hp => ?_) (List.pairwise_singleton _ _)
    rw [List.mem_singleton.mp hp]
    show decide ((0 : Int) ≤ g) = true
    exact decide_eq_true (by omega))]
  rw [List.map_cons, List.map_cons, List.map_nil, List.foldl_cons, List.foldl_cons, List.foldl_nil]
  have e1 : joinStep [] (fin (0, s)) = [(0, some s)] := by
    show [((0 : Int), some (0 + s))] = _
    rw [Int.zero_add]
  rw [e1]
  show (if decide (g ≤ s) = true then _ else [(0, some s)] ++ [(g, some (g + l))]) = _
  rw [decide_eq_false (by omega)]
  rfl
theorem joined_2b {s l : Int} (hs : 0 < s) (hl : 0 < l) : joinedM ([(0, s), (s, l)].map fin) = [(0, some (s + l))] := by
  unfold joinedM byStart
  rw [List.mergeSort_of_pairwise (by
    rw [List.map_cons, List.map_cons, List.map_nil]
    refine List.Pairwise.cons (fun p hp => ?_) (List.pairwise_singleton _ _)
    rw [List.mem_singleton.mp hp]
    show decide ((0 : Int) ≤ s) = true
    exact decide_eq_true (by omega))]
  rw [List.map_cons, List.map_cons, List.map_nil, List.foldl_cons, List.foldl_cons, List.foldl_nil]
  have e1 : joinStep [] (fin (0, s)) = [(0, some s)] := by
    show [((0 : Int), some (0 + s))] = _
    rw [Int.zero_add]
  rw [e1]
  show (if decide (s ≤ s) = true then (if decide (s < s + l) = true then [(0, some (s + l))] else _) else _) = _
  rw [decide_eq_true (Int.le_refl s), decide_eq_true (by omega)]
  rfl
/-- two runs with a gap: the gap and what is behind -/
theorem free_2a {s g l : Int} (hs : 0 < s) (hg : s < g) (hl : 0 < l) : freeM [(0, s), (g, l)] = [(s, some g), (g + l, none)] := by
  unfold freeM
  rw [joined_2a hs hg]
  have e : othersM [(0, some s), (g, some (g + l))] = [(s, some g), (g + l, none)] := by
    unfold othersM
    rw [List.foldl_cons, List.foldl_cons, List.foldl_nil]
    have e1 : othersStep ([], some 0) (0, some s) = ([], some s) := by
      unfold othersStep
      show ((if (0 : Int) < 0 then _ else _), _) = _
      rw [if_neg (by omega)]
    have e2 : othersStep ([], some s) (g, some (g + l)) = ([(s, some g)], some (g + l)) := by
      unfold othersStep
      show ((if s < g then _ else _), _) = _
      rw [if_pos hg]
      rfl
    rw [e1, e2]
    rfl
  rw [e, meets_zero _ (fun p hp => by
    rcases List.mem_cons.mp hp with rfl | hp
    · show 0 ≤ s; omega
    · rw [List.mem_singleton.mp hp]; show 0 ≤ g + l; omega)]
  show List.filter (fun t : P2 => before (some t.1) t.2) [(s, some g), (g + l, none)] = _
  rw [List.filter_cons, if_pos (by show decide (s < g) = true; exact decide_eq_true hg)]
  rfl
theorem free_2b {s l : Int} (hs : 0 < s) (hl : 0 < l) : freeM [(0, s), (s, l)] = [(s + l, none)] := by
  unfold freeM
  rw [joined_2b hs hl]
  have e := free_1 (h := s + l) (by omega)
  unfold freeM at e
  rw [joined_1, Int.zero_add] at e
  exact e
/-! ### places of one endless run -/
theorem place_one {rule : Str} {a many after : Int} (hr : isRule rule) (hn : rule ≠ "next") : placeM rule [(a, none)] many a after = some a := by
  unfold placeM
  rcases hr with rfl | rfl | rfl | rfl
  · rw [if_neg (by decide +kernel), if_pos rfl]
    have e : sharedM [(a, none)] [(a, none)] = [(a, none)] := by
      show (List.map _ (List.filter _ [(a, none)])) ++ [] = _
      rw [List.append_nil, List.filter_cons, if_pos (by rfl), List.filter_nil]
      show [meetP (a, none) (a, none)] = _
      unfold meetP meetS
      rw [if_neg (by show ¬ a < a; omega)]
      rfl
    rw [e]
    have e2 : (runsM [(a, none)]).filter (fun r => decide (r.1 = a)) = [(a, none)] := by
      show List.filter _ [(a, none)] = _
      rw [List.filter_cons, if_pos (by show decide (a = a) = true; exact decide_eq_true rfl), List.filter_nil]
    rw [e2]
    rfl
  · rw [if_neg (by decide +kernel), if_neg (by decide +kernel), if_neg (by decide +kernel)]
    rfl
  · rw [if_pos rfl]
    rfl
  · exact absurd rfl hn
theorem place_first {free : List P2} {many b after : Int} : placeM "first" free many b after = firstM (runsM free) many := by
  unfold placeM
  rw [if_neg (by decide +kernel), if_neg (by decide +kernel), if_neg (by decide +kernel)]
/-! ### one file alone -/
def Solo (f : FileS) : Prop := (f.runs = [] ∧ f.hold = 0) ∨ (f.runs = [(0, f.hold)] ∧ 0 < f.hold)
theorem solo_start {d : DiskS} {f : FileS} {asked : Int} (hd : d.files = [f]) (s : Solo f) (hr : isRule d.rule) (hn : d.rule ≠ "next") : startM d f asked = some f.hold := by
  unfold startM
  have ea : allRuns d.files = f.runs := by
    rw [hd]
    show f.runs ++ [] = _
    rw [List.append_nil]
  rw [ea]
  rcases s with ⟨e, h0⟩ | ⟨e, h0⟩
  · rw [e, free_nil, h0]
    exact place_one hr hn
  · rw [e, free_1 h0]
    have eb : behindM [(0, f.hold)] [(f.hold, none)] = f.hold := by
      show (0 : Int) + f.hold = _
      omega
    rw [eb]
    exact place_one hr hn
theorem solo_grow {d : DiskS} {f : FileS} {many : Int} (hd : d.files = [f]) (s : Solo f) (hr : isRule d.rule) (hn : d.rule ≠ "next") (hm : 1 ≤ many) (hs : 0 ≤ f.size) : (grownF d f many).runs = [(0, (grownF d f many).hold)] ∧ 0 < (grownF d f many).hold := by
  unfold grownF
  by_cases h0 : needM f many ≤ 0
  · rw [if_pos h0]
    unfold needM at h0
    rcases s with ⟨e, h1⟩ | h1
    · omega
    · exact h1
  · rw [if_neg h0, solo_start hd s hr hn]
    have hge := ask_ge d.lo d.hi d.t d.b f.hold (needM f many)
    replace hge : needM f many ≤ askD d f many := hge
    show putM f.runs (f.hold, askD d f many) = [(0, f.hold + askD d f many)] ∧ 0 < f.hold + askD d f many
    rcases s with ⟨e, h1⟩ | ⟨e, h1⟩
    · rw [e, h1, Int.zero_add]
      exact ⟨rfl, by omega⟩
    · rw [e]
      refine ⟨?_, by omega⟩
      have := put_snoc [] (0, f.hold) (f.hold, askD d f many)
      rw [List.nil_append] at this
      rw [this, if_pos (by show 0 + f.hold = f.hold; omega)]
      rfl
theorem cut_1 {h left : Int} (h0 : 0 ≤ left) (h1 : left < h) : cutM [(0, h)] left = [(0, h - left)] := by
  have := cut_snoc [] (0, h) left
  rw [List.nil_append] at this
  rw [this]
  by_cases hz : left ≤ 0
  · have e : left = 0 := by omega
    rw [if_pos hz, e, Int.sub_zero]
  · rw [if_neg hz, if_pos h1]
    rfl
end GF

set_option Elab.async false
set_option linter.all false
set_option maxRecDepth 100000
set_option maxHeartbeats 4000000
namespace GF
open PySem PySem.Spec PyProof.Rows L2
/-! ## the law's states -/
/-- nothing stands there, but maybe a table -/
def Fre (H : Hp) (c : Addr) : Prop := ∀ o, H c = some o → ∃ ps, o = HO.tbl ps
theorem Fre.none {H : Hp} {c : Addr} (h : H c = Option.none) : Fre H c := fun o e => by rw [h] at e; cases e
section
variable {K : PySem.W.Frag} {M N : List Addr} {H H0 H1 H' : Hp}
theorem Stp.new (s : Stp K M H H') (h : ∀ b ∈ M, b ∈ N ∨ Fre H b) : Stp K N H H' where
  chg := ⟨fun b o e n ht => s.chg.keep b o e (fun z => by
    rcases h b z with y | y
    · exact n y
    · obtain ⟨ps, e2⟩ := y o e
      exact ht ps e2) ht, s.chg.tups⟩
  tab := s.tab
/-- what is new now was free before -/
theorem Stp.fre {c : Addr} (s : Stp K M H0 H) (h : H c = none) (l : ∀ b ∈ M, ∃ o, H b = some o) : Fre H0 c := fun o e => by
  cases o with
  | tbl ps => exact ⟨ps, rfl⟩
  | _ =>
    exfalso
    have z := s.chg.keep c _ e (fun hm => by
      obtain ⟨o', ho⟩ := l c hm
      rw [h] at ho
      cases ho) (fun _ z => nomatch z)
    rw [h] at z
    cases z
theorem DiskAt.live {A : DAd} {d : DiskS} (h : DiskAt K H A d) : ∀ c ∈ A.own, ∃ o, H c = some o := fun c hc => by
  simp only [DAd.own, List.mem_cons, List.mem_append, List.mem_map] at hc
  rcases hc with rfl | rfl | rfl | ⟨a, ha, rfl⟩ | ⟨a, ha, rfl⟩
  · exact ⟨_, h.ob⟩
  · exact ⟨_, h.bk⟩
  · exact ⟨_, h.fd⟩
  · obtain ⟨⟨_, _, e⟩, _⟩ := h.ne_file ha
    exact ⟨_, e⟩
  · obtain ⟨_, _, e⟩ := h.ne_file ha
    exact ⟨_, e⟩
end
/-- the law's frame: what stood at the start stands, the pool and the world as well -/
structure StB (K : PySem.W.Frag) (H0 H : Hp) (p wd : Addr) (W : WS) (size : V) (back late : Bool) : Prop where
  p0 : PoolAt H0 p
  w0 : ∃ kvs, H0 wd = some (.dK kvs)
  st : Stp K [p, wd] H0 H
  pl : PoolAt H p
  wo : WorldAt H wd W size back late
  tb : Tab K H
structure On (K : PySem.W.Frag) (H0 H : Hp) (A : DAd) (d : DiskS) : Prop where
  is : DiskAt K H A d
  fr : ∀ c ∈ A.own, Fre H0 c
section
variable {K : PySem.W.Frag} {H0 H H1 : Hp} {p wd : Addr} {W : WS} {size : V} {back late : Bool} {A B : DAd} {d e : DiskS}
theorem StB.ne (s : StB K H0 H p wd W size back late) : p ≠ wd := by
  obtain ⟨_, _, h1, _⟩ := s.p0
  obtain ⟨kvs, h2⟩ := s.w0
  exact ne_of h1 h2 fun z => nomatch z
theorem StB.np (s : StB K H0 H p wd W size back late) {c : Addr} (f : Fre H0 c) : c ≠ p := fun z => by
  obtain ⟨_, _, h1, _⟩ := s.p0
  obtain ⟨ps, e⟩ := f _ (by rw [z]; exact h1)
  cases e
theorem StB.nw (s : StB K H0 H p wd W size back late) {c : Addr} (f : Fre H0 c) : c ≠ wd := fun z => by
  obtain ⟨kvs, h1⟩ := s.w0
  obtain ⟨ps, e⟩ := f _ (by rw [z]; exact h1)
  cases e
theorem StB.live (s : StB K H0 H p wd W size back late) : ∀ b ∈ [p, wd], ∃ o, H b = some o := fun b hb => by
  simp only [List.mem_cons, List.not_mem_nil, or_false] at hb
  rcases hb with rfl | rfl
  · obtain ⟨_, _, h1, _⟩ := s.pl
    exact ⟨_, h1⟩
  · obtain ⟨_, _, _, h1, _⟩ := s.wo
    exact ⟨_, h1⟩
/-- a step at places that were free at the start -/
theorem StB.step {M : List Addr} (s : StB K H0 H p wd W size back late) (t : Stp K M H H1) (f : ∀ c ∈ M, Fre H0 c) : StB K H0 H1 p wd W size back late where
  p0 := s.p0
  w0 := s.w0
  st := ((s.st.mono (N := [p, wd] ++ M) (by simp)).trans (t.mono (N := [p, wd] ++ M) (by simp +contextual))).new fun b hb => by
    rcases List.mem_append.mp hb with h | h
    · exact .inl h
    · exact .inr (f b h)
  pl := s.pl.stp t fun z => s.np (f p z) rfl
  wo := s.wo.stp t fun z => s.nw (f wd z) rfl
  tb := t.tab s.tb
theorem StB.same (s : StB K H0 H p wd W size back late) (t : Same H H1) : StB K H0 H1 p wd W size back late := s.step (M := []) (.of_same t) (fun _ z => by cases z)
theorem StB.draw (s : StB K H0 H p wd W size back late) (t : Stp K [p] H H1) (h : PoolAt H1 p) : StB K H0 H1 p wd W size back late where
  p0 := s.p0
  w0 := s.w0
  st := s.st.trans (t.mono (by simp))
  pl := h
  wo := s.wo.stp t (by simpa using s.ne.symm)
  tb := t.tab s.tb
theorem On.draw (o : On K H0 H A d) (s : StB K H0 H p wd W size back late) (t : Stp K [p] H H1) : On K H0 H1 A d :=
  ⟨o.is.chg t.chg fun b hb z => s.np (o.fr b hb) (List.mem_singleton.mp z), o.fr⟩
theorem On.same (o : On K H0 H A d) (t : Same H H1) : On K H0 H1 A d := ⟨o.is.chg (.of_same (M := []) t) (fun _ _ z => by cases z), o.fr⟩
theorem On.other (o : On K H0 H A d) {M : List Addr} (t : Stp K M H H1) (n : ∀ c ∈ A.own, c ∉ M) : On K H0 H1 A d := ⟨o.is.chg t.chg n, o.fr⟩
end
/-! ### lists of pairs as data -/
def pdO : Option Int → PyData
  | none => .none
  | some i => .int i
def pdP (p : P2) : PyData := .tuple [.int p.1, pdO p.2]
def pdL (ps : List P2) : PyData := .list (ps.map pdP)
theorem dpO {K : PySem.W.Frag} {H : Hp} : ∀ o : Option Int, Dp K H (oV o) (pdO o)
  | none => .non
  | some i => .int i
theorem PL.dp {K : PySem.W.Frag} {H : Hp} {l : Addr} {ps : List P2} (h : PL H l ps) : Dp K H (.ref l) (pdL ps) := by
  obtain ⟨ts, h1, h2⟩ := h
  refine .lst (SqL.of h1) ?_
  clear h1
  have key : ∀ {ts : List Addr} {ps : List P2}, TupsAt H ts ps → DpAll K H (ts.map V.ref) (ps.map pdP) := by
    intro ts
    induction ts with
    | nil => intro ps h; cases h; exact .nil
    | cons t ts ih =>
      intro ps h
      cases h with
      | cons r q => exact .cons (.tup (SqT.of r) (.cons (.int _) (.cons (dpO _) .nil))) (ih q)
  exact key h2
theorem pd_lay : ∀ ps : List P2, PyData.canLayAll0 (ps.map pdP) = true ∧ PyData.depthAll (ps.map pdP) ≤ 1
  | [] => ⟨rfl, Nat.zero_le _⟩
  | p :: ps => by
    obtain ⟨h1, h2⟩ := pd_lay ps
    obtain ⟨a, b⟩ := p
    have e1 : (pdP (a, b)).canLay0 = true := by cases b <;> rfl
    have e2 : (pdP (a, b)).depth = 1 := by cases b <;> rfl
    rw [List.map_cons]
    constructor
    · rw [PyData.canLayAll0, e1, h1]; rfl
    · rw [PyData.depthAll, e2]
      omega
theorem pd_shaped (ps : List P2) : SeqAt.shaped (pdL ps) = true := by
  obtain ⟨h1, h2⟩ := pd_lay ps
  unfold SeqAt.shaped pdL
  have e1 : (PyData.list (ps.map pdP)).canLay0 = true := by rw [PyData.canLay0]; exact h1
  have e2 : (PyData.list (ps.map pdP)).depth ≤ 64 := by rw [PyData.depth]; omega
  rw [e1, decide_eq_true e2]
  rfl
theorem pd_refl (ps : List P2) : PyData.eqv (pdL ps) (pdL ps) = true := SeqAt.eqv_refl _ (SeqAt.canLay_of_shaped (pd_shaped ps))
end GF

set_option Elab.async false
set_option linter.all false
set_option maxRecDepth 100000
set_option maxHeartbeats 4000000
namespace GF
open PySem PySem.Spec PyProof.Rows L2
/-! ## kept_right -/
/-- two files "a", "b", both open -/
structure Ab (d : DiskS) : Prop where
  ex : ∃ fa fb : FileS, d.files = [fa, fb] ∧ fa.name = "a" ∧ fb.name = "b" ∧ fa.op = true ∧ fb.op = true
theorem Ab.names {d : DiskS} (h : Ab d) : (d.files.map (·.name)).Nodup := by
  obtain ⟨fa, fb, e, e1, e2, _⟩ := h.ex
  rw [e]
  show [fa.name, fb.name].Nodup
  rw [e1, e2]
  decide +kernel
theorem Ab.at {d : DiskS} (h : Ab d) {i : Nat} (hi : i < 2) : ∃ f, d.files[i]? = some f ∧ f.name = (if i = 0 then Str.ofString "a" else Str.ofString "b") ∧ f.op = true := by
  obtain ⟨fa, fb, e, e1, e2, e3, e4⟩ := h.ex
  rw [e]
  match i, hi with
  | 0, _ => exact ⟨fa, rfl, e1, e3⟩
  | 1, _ => exact ⟨fb, rfl, e2, e4⟩
theorem grown_name {d : DiskS} {f : FileS} {many : Int} : (grownF d f many).name = f.name ∧ (grownF d f many).op = f.op := by
  unfold grownF
  split <;> exact ⟨rfl, rfl⟩
theorem Ab.grow {d : DiskS} {i : Nat} {f : FileS} {many : Int} (h : Ab d) (hf : d.files[i]? = some f) : Ab (growD d i f many) := by
  obtain ⟨fa, fb, e, e1, e2, e3, e4⟩ := h.ex
  rw [e] at hf
  obtain ⟨n1, n2⟩ := grown_name (d := d) (f := f) (many := many)
  match i, hf with
  | 0, hf =>
    obtain rfl : fa = f := Option.some.inj hf
    exact ⟨grownF d fa many, fb, by show d.files.set 0 _ = _; rw [e]; rfl, n1.trans e1, e2, n2.trans e3, e4⟩
  | 1, hf =>
    obtain rfl : fb = f := Option.some.inj hf
    exact ⟨fa, grownF d fb many, by show d.files.set 1 _ = _; rw [e]; rfl, e1, n1.trans e2, e3, n2.trans e4⟩
  | n + 2, hf => cases hf
theorem set_at {α : Type} {l : List α} {i : Nat} {x y : α} (h : l[i]? = some x) : (l.set i y)[i]? = some y := by
  rw [List.getElem?_set, if_pos rfl, if_pos (List.getElem?_eq_some_iff.mp h).1]
/-- close without giving back, and open again: nothing has changed -/
theorem close_open {d : DiskS} {i : Nat} {f : FileS} (hb : d.back = false) (hf : d.files[i]? = some f) (ho : f.op = true) : openD (closeD d i f) i (closedF d f) = d := by
  have e1 : closedF d f = { f with op := false } := by unfold closedF; rw [hb]; rfl
  have e2 : ({ closedF d f with op := true } : FileS) = f := by
    rw [e1]
    cases f
    cases ho
    rfl
  unfold openD closeD
  show ({ d with files := (d.files.set i (closedF d f)).set i { closedF d f with op := true } } : DiskS) = d
  rw [List.set_set, e2, set_self hf]
theorem closed_name {d : DiskS} {f : FileS} : (closedF d f).name = f.name ∧ (closedF d f).op = false := by
  unfold closedF
  split <;> exact ⟨rfl, rfl⟩
theorem close_names {d : DiskS} {i : Nat} {f : FileS} (hf : d.files[i]? = some f) (h : (d.files.map (·.name)).Nodup) : ((closeD d i f).files.map (·.name)).Nodup := by
  show ((d.files.set i (closedF d f)).map (·.name)).Nodup
  rw [names_set hf closed_name.1]
  exact h
theorem own_snoc {A : DAd} {a : FAd} {c : Addr} (h : c ∈ ({ A with fs := A.fs ++ [a] } : DAd).own) : c ∈ A.own ∨ c = a.f ∨ c = a.l := by
  simp only [DAd.own, List.mem_cons, List.mem_append, List.mem_map, List.not_mem_nil, or_false] at h ⊢
  rcases h with h | h | h | ⟨b, hb | rfl, e⟩ | ⟨b, hb | rfl, e⟩
  · exact .inl (.inl h)
  · exact .inl (.inr (.inl h))
  · exact .inl (.inr (.inr (.inl h)))
  · exact .inl (.inr (.inr (.inr (.inl ⟨b, hb, e⟩))))
  · exact .inr (.inl e.symm)
  · exact .inl (.inr (.inr (.inr (.inr ⟨b, hb, e⟩))))
  · exact .inr (.inr e.symm)
theorem fd_own {A : DAd} : A.fd ∈ A.own := List.mem_cons_of_mem _ (List.mem_cons_of_mem _ List.mem_cons_self)
section
variable {K : PySem.W.Frag} {H0 H H1 : Hp} {p wd : Addr} {W : WS} {size : V} {back late : Bool} {A B : DAd} {d d' e : DiskS} {a : FAd}
theorem On.made (o : On K H0 H A d) (s : StB K H0 H p wd W size back late) (n1 : H a.f = none) (n2 : H a.l = none) (h : DiskAt K H1 { A with fs := A.fs ++ [a] } d') : On K H0 H1 { A with fs := A.fs ++ [a] } d' :=
  ⟨h, fun c hc => by
    rcases own_snoc hc with hc | rfl | rfl
    · exact o.fr c hc
    · exact s.st.fre n1 s.live
    · exact s.st.fre n2 s.live⟩
theorem made_dis (o : DiskAt K H B e) (ab : ∀ c ∈ A.own, c ∉ B.own) (n1 : H a.f = none) (n2 : H a.l = none) : ∀ c ∈ ({ A with fs := A.fs ++ [a] } : DAd).own, c ∉ B.own := fun c hc hb => by
  obtain ⟨u, hu⟩ := o.live c hb
  rcases own_snoc hc with hc | rfl | rfl
  · exact ab c hc hb
  · rw [n1] at hu; cases hu
  · rw [n2] at hu; cases hu
theorem StB.make (s : StB K H0 H p wd W size back late) (o : On K H0 H A d) (t : Stp K [A.fd] H H1) : StB K H0 H1 p wd W size back late := s.step t fun c hc => by
  rw [List.mem_singleton.mp hc]
  exact o.fr _ fd_own
theorem On.make (o : On K H0 H B e) (ab : ∀ c ∈ A.own, c ∉ B.own) (t : Stp K [A.fd] H H1) : On K H0 H1 B e := o.other t fun c hc z => by
  rw [List.mem_singleton.mp z] at hc
  exact ab _ fd_own hc
end
/-- the files a and b are made on a fresh disk -/
theorem two_made {K : PySem.W.Frag} {H0 H H1 : Hp} {p wd : Addr} {W : WS} {size : V} {back late : Bool} {A B : DAd} {d e : DiskS} {a : FAd} {name : Str} {L : Addr} {xs : List V} (st : StB K H0 H p wd W size back late) (oA : On K H0 H A d) (oB : On K H0 H B e) (dis : ∀ c ∈ A.own, c ∉ B.own) (hL : H L = some (.lst xs))
    (s : Stp K [A.fd] H H1) (n1 : H a.f = none) (n2 : H a.l = none) (h : DiskAt K H1 { A with fs := A.fs ++ [a] } { d with files := d.files ++ [newF name] }) :
    StB K H0 H1 p wd W size back late ∧ On K H0 H1 { A with fs := A.fs ++ [a] } { d with files := d.files ++ [newF name] } ∧ On K H0 H1 B e ∧ (∀ c ∈ ({ A with fs := A.fs ++ [a] } : DAd).own, c ∉ B.own) ∧ H1 L = some (.lst xs) :=
  ⟨st.make oA s, oA.made st n1 n2 h, oB.make dis s, made_dis oB.is dis n1 n2, s.keep_lst hL (by simpa using ne_of hL oA.is.fd fun z => nomatch z)⟩
section
variable {P : Program} {w : World} {K : PySem.W.Frag} {mg : Str → Option Value} {base : Heap}
def sp_kept (K : PySem.W.Frag) : Sp := fun vs H Q _ => ∃ (p wd : Addr) (W : WS) (size : V) (back late : Bool), vs = [.ref p, .ref wd] ∧ PoolAt H p ∧ WorldAt H wd W size back late ∧ WOk W ∧ Tab K H ∧
  ∀ (H' : Hp) (W' : WS) (size' : V) (back' late' : Bool), Stp K [p, wd] H H' → PoolAt H' p → WorldAt H' wd W' size' back' late' → WOk W' → Q (.bl true) H'
theorem sc_kept : FnScope ["_law_pool", "_law_world", "_law_disk_here", "_law_twin", "_law_one", "_law_turn", "_law_name", "_law_many"] ["_law_pool", "_law_world"] (defScope s_law_kept_right) := ⟨rfl, rfl, rfl, by decide +kernel, rfl, by decide +kernel, by decide +kernel⟩
theorem p_kept (T : Txt K mg) (TB : LamX.TabB base mg (jC K) (jP K)) : FnR P w K mg base CX0 16 (He.ga K "_law_kept_right") (sp_kept K) := by
  obtain ⟨fd, F⟩ := T.d_law_kept_right
  refine mkR F (F.ok sc_kept (fun vs H Q E h => ?_) fun cdv A0 outer s H vs Q E hr h => ?_) fun _ _ _ _ _ _ us hl => match us, hl with | [_, _], _ => rfl
  · obtain ⟨p, wd, W, size, back, late, rfl, _⟩ := h
    rfl
  · obtain ⟨p, wd, W, size, back, late, rfl, hp, hw, wo, tb, k⟩ := h
    have nd := sc_kept.nd
    have hu := hu_of hr
    refine ⟨_, (pss_cons (ps_asg pe_bl (pg_sub (pv 1) pe_str (set_dict hu)))
      (pss_cons (ps_asg (pe_callR (p_two T) (hr.mono (by decide)) T.g_law_two (kp_law_two T) (pa_cons (pv 1) pa_nil)) (pg_tup rfl (pgs_cons (pg_name (i := 2) nd rfl (Or.inl rfl)) (pgs_cons (pg_name (i := 3) nd rfl (Or.inl rfl)) pgs_nil))))
      (pss_cons (ps_for PassesOwn.never rfl (pi_list (pe_lst (pa_cons (pv 2) (pa_cons (pv 3) pa_nil)))) (pg_name (i := 4) nd rfl (Or.inl rfl))
      (pss_cons (ps_expr (pe_methG (pv 4) T.c_Disk T.m_Disk_make (p_make T) (hr.mono (by decide)) (pa_cons pe_str pa_nil)))
        (pss_one (ps_expr (pe_methG (pv 4) T.c_Disk T.m_Disk_make (p_make T) (hr.mono (by decide)) (pa_cons pe_str pa_nil))))))
      (pss_cons (ps_for PassesOwn.never rfl (pi_range1 rfl T.f_range (pa_cons pe_int pa_nil)) (pg_name (i := 5) nd rfl (Or.inl rfl))
      (pss_cons (ps_par (i := 6) (j := 7) rfl nd rfl rfl (by decide) rfl rfl (pa_cons (pe_ix ix_list (pe_lst (pa_cons pe_str (pa_cons pe_str pa_nil))) (pe_callR (p_draw T) (hr.mono (by decide)) T.g_law_draw (kp_law_draw T) (pa_cons (pv 0) (pa_cons pe_int pa_nil))) (fun _ _ => rfl)) (pa_cons (pe_callR (p_draw T) (hr.mono (by decide)) T.g_law_draw (kp_law_draw T) (pa_cons (pv 0) (pa_cons pe_int pa_nil))) pa_nil)) rfl)
        (pss_cons (ps_if (pt_cmpR op_ne (pe_methG (pv 2) T.c_Disk T.m_Disk_grow (p_grow T TB) (hr.mono (by decide)) (pa_cons (pv 6) (pa_cons (pv 7) pa_nil))) (pe_methG (pv 3) T.c_Disk T.m_Disk_grow (p_grow T TB) (hr.mono (by decide)) (pa_cons (pv 6) (pa_cons (pv 7) pa_nil))) (nomark _))
        (pss_one (ps_ret pe_bl))
        pss_nil)
        (pss_cons (ps_if (PW.pt (pw_or (pt_cmpR op_ne (pe_methG (pv 2) T.c_Disk T.m_Disk_close (p_close T TB) (hr.mono (by decide)) (pa_cons (pv 6) pa_nil)) pe_int (nomark _)) (pw_or1 (pt_cmpR op_notN (pe_methG (pv 2) T.c_Disk T.m_Disk_reopen (p_reopen T) (hr.mono (by decide)) (pa_cons (pv 6) pa_nil)) pe_non (nomark _)))))
        (pss_one (ps_ret pe_bl))
        pss_nil)
        (pss_one (ps_for PassesOwn.never rfl (pi_list (pe_lst (pa_cons pe_str (pa_cons pe_str pa_nil)))) (pg_name (i := 4) nd rfl (Or.inl rfl))
        (pss_one (ps_if (PW.pt (pw_or (pt_cmpR (op_neD hr.units) (pe_methR0 (pe_itemO (pv 2) (pv 4) T.m_Disk_getitem.at_ T.fnGet T.m_Disk_getitem.fn (p_Disk_get T) (hr.mono (by decide))) T.c_File T.m_File_pieces (p_File_pieces T) (hr.mono (by decide))) (pe_methR0 (pe_itemO (pv 3) (pv 4) T.m_Disk_getitem.at_ T.fnGet T.m_Disk_getitem.fn (p_Disk_get T) (hr.mono (by decide))) T.c_File T.m_File_pieces (p_File_pieces T) (hr.mono (by decide))) (nomark _)) (pw_or1 (pt_cmpR op_ne (pe_fld (pe_itemO (pv 2) (pv 4) T.m_Disk_getitem.at_ T.fnGet T.m_Disk_getitem.fn (p_Disk_get T) (hr.mono (by decide))) rfl) (pe_fld (pe_itemO (pv 3) (pv 4) T.m_Disk_getitem.at_ T.fnGet T.m_Disk_getitem.fn (p_Disk_get T) (hr.mono (by decide))) rfl) (nomark _)))))
          (pss_one (ps_ret pe_bl))
          pss_nil))))))))
      (pss_one (ps_ret pe_bl)))))), ?_⟩
    obtain ⟨Tp, fl, sh, hw0, hpt⟩ := hw
    have hpw : p ≠ wd := by
      obtain ⟨_, _, h1, _⟩ := hp
      exact ne_of h1 hw0 fun z => nomatch z
    refine ⟨_, rfl, wd, _, rfl, dput hw0 wk_back (by show 8 ≤ 100; decide), ?_⟩
    have s1 : Stp K [wd] H (upd H wd (.dK (wk Tp fl W.rule size W.short false late))) := Stp.dK hw0
    have hw1 : WorldAt (upd H wd (.dK (wk Tp fl W.rule size W.short false late))) wd W size false late := ⟨Tp, fl, sh, upd_same, s1.chg.tups _ _ hpt.1, s1.chg.tups _ _ hpt.2⟩
    have f1 : ∀ c, (upd H wd (.dK (wk Tp fl W.rule size W.short false late))) c = none → Fre H c := fun c hc => s1.fre hc fun b hb => by
      rw [List.mem_singleton.mp hb]
      exact ⟨_, upd_same⟩
    generalize upd H wd (.dK (wk Tp fl W.rule size W.short false late)) = H1 at s1 hw1 f1 ⊢
    refine ⟨_, rfl, wd, W, size, false, late, rfl, hw1, wo, fun H2 U A B s2 fA fB dA dB hU hw2 => ?_⟩
    have s12 := s1.trans s2
    have st2 : StB K H H2 p wd W .non false false := ⟨hp, ⟨_, hw0⟩, s12.mono (by simp), hp.stp s12 (by simpa using hpw), hw2, s12.tab tb⟩
    have oA : On K H H2 A ⟨W.lo, W.hi, W.t, W.b, W.rule, W.short, false, 0, []⟩ := ⟨dA, fun c hc => f1 c (fA c hc)⟩
    have oB : On K H H2 B ⟨W.lo, W.hi, W.t, W.b, W.rule, W.short, false, 0, []⟩ := ⟨dB, fun c hc => f1 c (fB c hc).1⟩
    have ab : ∀ c ∈ A.own, c ∉ B.own := fun c hc hb => (fB c hb).2 hc
    clear fA fB dA dB hw1 hw2 s1 s2 s12 f1 hp hw0 hpt
    refine ⟨U, _, rfl, SqT.of hU, rfl, _, _, rfl, _, _, rfl, rfl, ?_⟩
    clear hU
    refine ⟨_, rfl, _, rfl, (by show 2 ≤ sizeLine; decide), fun L hL => ?_⟩
    have e3 := Same.upd_new (o := .lst [V.ref A.p, V.ref B.p]) hL
    have hL3 : (upd H2 L (.lst [V.ref A.p, V.ref B.p])) L = some (.lst [V.ref A.p, V.ref B.p]) := upd_same
    have st3 := st2.same e3
    have oA3 := oA.same e3
    have oB3 := oB.same e3
    clear st2 oA oB e3
    generalize upd H2 L (.lst [V.ref A.p, V.ref B.p]) = H3 at hL3 st3 oA3 oB3 ⊢
    refine ⟨L, rfl, ⟨_, SqL.of hL3⟩, for_list (K := K) (a := L) (xs := [V.ref A.p, V.ref B.p]) (fun i σ H' => ∃ (A' B' : DAd) (v4 v5 v6 v7 : Option V), σ = [some (.ref p), some (.ref wd), some (.ref A.p), some (.ref B.p), v4, v5, v6, v7] ∧ A'.p = A.p ∧ B'.p = B.p ∧ StB K H H' p wd W .non false false ∧
        On K H H' A' ⟨W.lo, W.hi, W.t, W.b, W.rule, W.short, false, 0, if 0 < i then [newF "a", newF "b"] else []⟩ ∧ On K H H' B' ⟨W.lo, W.hi, W.t, W.b, W.rule, W.short, false, 0, if 1 < i then [newF "a", newF "b"] else []⟩ ∧ (∀ c ∈ A'.own, c ∉ B'.own) ∧ H' L = some (.lst [V.ref A.p, V.ref B.p]))
      ⟨A, B, none, none, none, none, rfl, rfl, rfl, st3, oA3, oB3, ab, hL3⟩ (fun i σ H' _ ⟨_, _, _, _, _, _, _, _, _, _, _, _, _, h⟩ => SqL.of h) ?_ ?_⟩
    · rintro i y σ H' hy ⟨A', B', v4, v5, v6, v7, rfl, eA, eB, st, oA', oB', dis, hL'⟩
      match i, hy with
      | 0, hy =>
        obtain rfl : V.ref A.p = y := Option.some.inj hy
        refine ⟨_, rfl, A.p, A'.dx, _, rfl, by rw [← eA]; exact oA'.is.ob, fd_m.2.2.2.2.2.2, A', _, "a", by rw [eA], oA'.is, .inl rfl, List.not_mem_nil, Nat.zero_le _, fun H9 a s9 n1 n2 h9 => ?_⟩
        obtain ⟨st9, oX9, oY9, dis9, hL9⟩ := two_made st oA' oB' dis hL' s9 n1 n2 h9
        refine ⟨_, rfl, A.p, A'.dx, _, rfl, by rw [← eA]; exact oX9.is.ob, fd_m.2.2.2.2.2.2, _, _, "b", by rw [← eA], oX9.is, .inr (.inl rfl), (by show (Str.ofString "b") ∉ [Str.ofString "a"]; decide +kernel), (by show 1 ≤ 100; decide), fun H10 b s10 m1 m2 h10 => ?_⟩
        obtain ⟨st10, oX10, oY10, dis10, hL10⟩ := two_made st9 oX9 oY9 dis9 hL9 s10 m1 m2 h10
        exact ⟨{ A' with fs := A'.fs ++ [a] ++ [b] }, B', _, _, _, _, rfl, eA, eB, st10, oX10, oY10, dis10, hL10⟩
      | 1, hy =>
        obtain rfl : V.ref B.p = y := Option.some.inj hy
        refine ⟨_, rfl, B.p, B'.dx, _, rfl, by rw [← eB]; exact oB'.is.ob, fd_m.2.2.2.2.2.2, B', _, "a", by rw [eB], oB'.is, .inl rfl, List.not_mem_nil, Nat.zero_le _, fun H9 a s9 n1 n2 h9 => ?_⟩
        obtain ⟨st9, oX9, oY9, dis9, hL9⟩ := two_made st oB' oA' (fun c h1 h2 => dis c h2 h1) hL' s9 n1 n2 h9
        refine ⟨_, rfl, B.p, B'.dx, _, rfl, by rw [← eB]; exact oX9.is.ob, fd_m.2.2.2.2.2.2, _, _, "b", by rw [← eB], oX9.is, .inr (.inl rfl), (by show (Str.ofString "b") ∉ [Str.ofString "a"]; decide +kernel), (by show 1 ≤ 100; decide), fun H10 b s10 m1 m2 h10 => ?_⟩
        obtain ⟨st10, oX10, oY10, dis10, hL10⟩ := two_made st9 oX9 oY9 dis9 hL9 s10 m1 m2 h10
        exact ⟨A', { B' with fs := B'.fs ++ [a] ++ [b] }, _, _, _, _, rfl, eA, eB, st10, oY10, oX10, fun c h1 h2 => dis10 c h2 h1, hL10⟩
    · rintro σ H' ⟨A', B', v4, v5, v6, v7, rfl, eA, eB, st, oA', oB', dis, hL'⟩
      clear oA3 oB3 ab st3 hL3
      rw [← eA, ← eB]
      clear eA eB
      have go : ∃ d : DiskS, On K H H' A' d ∧ On K H H' B' d ∧ Ab d ∧ DOk (20 * (0 : Nat)) 0 d ∧ d.back = false := by
        refine ⟨⟨W.lo, W.hi, W.t, W.b, W.rule, W.short, false, 0, [newF "a", newF "b"]⟩, oA', oB', ⟨newF "a", newF "b", rfl, rfl, rfl, rfl, rfl⟩, ⟨Int.le_refl 0, fun f hf => ?_, Int.le_refl 0, Int.le_refl 0, wo.sm, wo.ru, by show 2 ≤ 3; decide⟩, rfl⟩
        simp only [List.mem_cons, List.not_mem_nil, or_false] at hf
        rcases hf with rfl | rfl
        · exact FOk.fresh (Int.le_refl 0)
        · exact FOk.fresh (Int.le_refl 0)
      obtain ⟨d, oA, oB, abd, dok, hback⟩ := go
      clear oA' oB' hL'
      refine ⟨8, rfl, by decide, by decide, for_range (fun i σ H' => ∃ (d : DiskS) (v4 v5 v6 v7 : Option V), σ = [some (.ref p), some (.ref wd), some (.ref A'.p), some (.ref B'.p), v4, v5, v6, v7] ∧ StB K H H' p wd W .non false false ∧
        On K H H' A' d ∧ On K H H' B' d ∧ Ab d ∧ DOk (20 * (i : Nat)) i d ∧ d.back = false)
        ⟨d, v4, v5, v6, v7, rfl, st, oA, oB, abd, dok, hback⟩ ?_ ?_⟩
      · clear st oA oB abd dok hback
        rintro i σ H' hi ⟨d, v4, v5, v6, v7, rfl, st, oA, oB, abd, dok, hback⟩
        replace hi : i < 8 := hi
        refine ⟨(by show 2 ≤ sizeLine; decide), fun M hM => ?_⟩
        have e1 := Same.upd_new (o := .lst [V.str "a", V.str "b"]) hM
        have hpM := st.pl.ne hM
        replace st := st.same e1
        replace oA := oA.same e1
        replace oB := oB.same e1
        have hM1 : (upd H' M (.lst [V.str "a", V.str "b"])) M = some (.lst [V.str "a", V.str "b"]) := upd_same
        generalize upd H' M (.lst [V.str "a", V.str "b"]) = H1 at e1 st oA oB hM1 ⊢
        refine ⟨_, rfl, p, 2, rfl, st.pl, by decide, by decide, fun H3 z s3 hp3 c1 c2 => ?_⟩
        have hM3 := s3.keep_lst hM1 (by simpa using hpM.symm)
        replace oA := oA.draw st s3
        replace oB := oB.draw st s3
        replace st := st.draw s3 hp3
        obtain ⟨j, hj, hx⟩ : ∃ j : Nat, j < 2 ∧ atI [V.str "a", .str "b"] z = some (.str (if j = 0 then Str.ofString "a" else Str.ofString "b")) := by
          rcases (show z = 0 ∨ z = 1 by omega) with rfl | rfl
          · exact ⟨0, by decide, rfl⟩
          · exact ⟨1, by decide, rfl⟩
        obtain ⟨f, hf, hnm, hop⟩ := abd.at hj
        rw [← hnm] at hx
        refine ⟨M, _, z, .str f.name, rfl, rfl, SqL.of hM3, hx, ?_⟩
        refine ⟨_, rfl, p, 6, rfl, st.pl, by decide, by decide, fun H5 many s5 hp5 m0 m1 => ⟨_, _, rfl, ?_⟩⟩
        replace oA := oA.draw st s5
        replace oB := oB.draw st s5
        replace st := st.draw s5 hp5
        clear hM3 hM1 e1 hp3 hp5 s3 s5 hM hx hpM
        have hmem : f ∈ d.files := List.mem_of_getElem? hf
        have hfo := dok.fs f hmem
        have hB : (20 * (i : Int)) ≤ 10 ^ 30 := by omega
        have hneed : needM f many ≤ 20 := by
          have := hfo.sh
          unfold needM
          omega
        obtain ⟨wb, _⟩ := dok.wb hmem hB (by omega) hneed
        obtain ⟨dok1, fok1⟩ := dok.grow hf hB (by omega) m0 hneed
        have abd1 := abd.grow (many := many) hf
        have hf1 : (growD d j f many).files[j]? = some (grownF d f many) := set_at hf
        have hb1 : (growD d j f many).back = false := hback
        have hop1 : (grownF d f many).op = true := grown_name.2.trans hop
        have hn1 : (grownF d f many).name = f.name := grown_name.1
        -- grow both
        refine ⟨_, rfl, A'.p, A'.dx, _, rfl, oA.is.ob, fd_m.2.2.2.1, _, rfl, _, rfl, A', d, j, f, many, rfl, oA.is, abd.names, hf, hop, m0, by omega, st.tb, wb, fun H6 s6 hd6 => ?_⟩
        replace oB := oB.other s6 fun c hc hz => dis c hz hc
        have st6 := st.step s6 oA.fr
        replace oA : On K H H6 A' (growD d j f many) := ⟨hd6, oA.fr⟩
        clear st
        refine ⟨_, rfl, B'.p, B'.dx, _, rfl, oB.is.ob, fd_m.2.2.2.1, _, rfl, _, rfl, B', d, j, f, many, rfl, oB.is, abd.names, hf, hop, m0, by omega, st6.tb, wb, fun H7 s7 hd7 => ?_⟩
        replace oA := oA.other s7 dis
        have st := st6.step s7 oB.fr
        replace oB : On K H H7 B' (growD d j f many) := ⟨hd7, oB.fr⟩
        clear st6 hd6 hd7 s6 s7
        refine ⟨rfl, _, rfl, ?_⟩
        rw [show (!decide (V.int (givenF d f many) = V.int (givenF d f many))) = false by rw [decide_eq_true rfl]; rfl]
        refine iteF ?_
        -- close and open
        obtain ⟨wb0, _⟩ := dok1.wb (List.mem_of_getElem? hf1) (by omega) (by omega) (show needM (grownF d f many) 0 ≤ 20 by have := fok1.sh; unfold needM; omega)
        refine ⟨_, rfl, A'.p, A'.dx, _, rfl, oA.is.ob, fd_m.2.2.2.2.1, _, rfl, A', growD d j f many, j, grownF d f many, by rw [hn1], oA.is, abd1.names, hf1, hop1, fok1.sh, by have := fok1.s0; have := fok1.hr; omega, fun r hr => (fok1.rs r hr).2.1, st.tb, wb0, fun H8 s8 hd8 => ?_⟩
        rw [if_neg (by rw [hb1]; exact Bool.false_ne_true)]
        replace oB := oB.other s8 fun c hc hz => dis c hz hc
        have st8 := st.step s8 oA.fr
        replace oA : On K H H8 A' (closeD (growD d j f many) j (grownF d f many)) := ⟨hd8, oA.fr⟩
        clear st s8 hd8
        refine ⟨rfl, _, rfl, iteF ?_⟩
        refine ⟨_, rfl, A'.p, A'.dx, _, rfl, oA.is.ob, fd_m.2.2.2.2.2.1, _, rfl, A', closeD (growD d j f many) j (grownF d f many), j, closedF (growD d j f many) (grownF d f many), by rw [closed_name.1, hn1], oA.is, close_names hf1 abd1.names, set_at hf1, closed_name.2, fun H9 s9 hd9 => ?_⟩
        rw [close_open hb1 hf1 hop1] at hd9
        replace oB := oB.other s9 fun c hc hz => dis c hz hc
        have st := st8.step s9 oA.fr
        replace oA : On K H H9 A' (growD d j f many) := ⟨hd9, oA.fr⟩
        clear st8 s9 hd9
        refine ⟨rfl, _, rfl, iteF ?_⟩
        refine ⟨(by show 2 ≤ sizeLine; decide), fun R hR => ?_⟩
        have e1 := Same.upd_new (o := .lst [V.str "a", V.str "b"]) hR
        have hR1 : (upd H9 R (.lst [V.str "a", V.str "b"])) R = some (.lst [V.str "a", V.str "b"]) := upd_same
        replace st := st.same e1
        replace oA := oA.same e1
        replace oB := oB.same e1
        generalize upd H9 R (.lst [V.str "a", V.str "b"]) = Hr at hR1 st oA oB ⊢
        generalize growD d j f many = d1 at dok1 abd1 hb1 oA oB ⊢
        clear wb wb0 hf1 hop1 hn1 fok1 dok abd hfo hmem hneed e1 hR
        refine ⟨R, rfl, ⟨_, SqL.of hR1⟩, for_list (K := K) (a := R) (xs := [V.str "a", V.str "b"]) (fun _ σ H' => ∃ v4 v5 v6 v7 : Option V, σ = [some (.ref p), some (.ref wd), some (.ref A'.p), some (.ref B'.p), v4, v5, v6, v7] ∧ StB K H H' p wd W .non false false ∧ On K H H' A' d1 ∧ On K H H' B' d1 ∧ H' R = some (.lst [V.str "a", V.str "b"]))
          ⟨_, _, _, _, rfl, st, oA, oB, hR1⟩ (fun i σ H' _ ⟨_, _, _, _, _, _, _, _, h⟩ => SqL.of h) ?_ ?_⟩
        · clear st oA oB hR1
          rintro m y σ Hm hy ⟨v4, v5, v6, v7, rfl, st, oA, oB, hR1⟩
          obtain ⟨n, hn, rfl⟩ : ∃ n : Nat, n < 2 ∧ y = .str (if n = 0 then Str.ofString "a" else Str.ofString "b") := by
            match m, hy with
            | 0, hy => exact ⟨0, by decide, (Option.some.inj hy).symm⟩
            | 1, hy => exact ⟨1, by decide, (Option.some.inj hy).symm⟩
          obtain ⟨g, hg, gnm, _⟩ := abd1.at hn
          rw [← gnm]
          obtain ⟨a, ha, hga⟩ := oA.is.file hg
          obtain ⟨b, hb, hgb⟩ := oB.is.file hg
          refine ⟨_, rfl, _, rfl, A'.p, A'.dx, _, rfl, oA.is.ob, A', d1, n, a, g, rfl, oA.is, abd1.names, ha, hg, a.f, a.dx, _, rfl, hga.ob, ff_pieces, a.f, a.dx, A'.p, a.l, g.name, g.size, g.hold, g.op, g.runs.map fin, rfl, hga.ob, hga.pl, fun H10 q1 e1 hq1 hp1 => ?_⟩
          have oB1 := oB.same e1
          refine ⟨_, rfl, _, rfl, B'.p, B'.dx, _, rfl, oB1.is.ob, B', d1, n, b, g, rfl, oB1.is, abd1.names, hb, hg, b.f, b.dx, _, rfl, e1 _ _ hgb.ob, ff_pieces, b.f, b.dx, B'.p, b.l, g.name, g.size, g.hold, g.op, g.runs.map fin, rfl, e1 _ _ hgb.ob, hgb.pl.same e1, fun H11 q2 e2 hq2 hp2 => ?_⟩
          have e12 := Same.trans e1 e2
          refine ⟨pdL (g.runs.map fin), pdL (g.runs.map fin), (hp1.same e2).dp, hp2.dp, pd_shaped _, pd_shaped _, _, rfl, ?_⟩
          rw [pd_refl]
          have oA2 := oA.same e12
          have oB2 := oB.same e12
          refine iteF ⟨_, rfl, _, rfl, A'.p, A'.dx, _, rfl, oA2.is.ob, A', d1, n, a, g, rfl, oA2.is, abd1.names, ha, hg, a.f, _, a.dx, _, _, rfl, e12 _ _ hga.ob, T.c_File, T.n_File_size, ff_size, ?_⟩
          refine ⟨_, rfl, _, rfl, B'.p, B'.dx, _, rfl, oB2.is.ob, B', d1, n, b, g, rfl, oB2.is, abd1.names, hb, hg, b.f, _, b.dx, _, _, rfl, e12 _ _ hgb.ob, T.c_File, T.n_File_size, ff_size, rfl, _, rfl, ?_⟩
          rw [show (!decide (V.int g.size = V.int g.size)) = false by rw [decide_eq_true rfl]; rfl]
          exact iteF (⟨_, _, _, _, rfl, st.same e12, oA2, oB2, e12 _ _ hR1⟩)
        · rintro σ Hm ⟨v4, v5, v6, v7, rfl, st, oA, oB, _⟩
          refine ⟨d1, v4, v5, v6, v7, rfl, st, oA, oB, abd1, ?_, hb1⟩
          have e : (20 * ((i + 1 : Nat) : Int)) = 20 * (i : Int) + 20 := by omega
          rw [e]
          exact dok1
      · rintro σ H' ⟨d, v4, v5, v6, v7, rfl, st, oA, oB, abd, dok, hback⟩
        exact k H' W .non false false st.st st.pl st.wo wo
end
end GF

set_option Elab.async false
set_option linter.all false
set_option maxRecDepth 100000
set_option maxHeartbeats 4000000
namespace GF
open PySem PySem.Spec PyProof.Rows L2
/-! ## back_right -/
/-- one open file "a" on a disk that gives back -/
structure One (W : WS) (i : Nat) (d : DiskS) (f : FileS) : Prop where
  fs : d.files = [f]
  nm : f.name = "a"
  op : f.op = true
  dok : DOk (20 * (i : Int)) i d
  back : d.back = true
  bk : d.lo = W.lo ∧ d.hi = W.hi ∧ d.t = W.t ∧ d.b = W.b ∧ d.rule = W.rule
  so : W.rule ≠ "next" → Solo f
theorem One.hf {W : WS} {i : Nat} {d : DiskS} {f : FileS} (h : One W i d f) : d.files[0]? = some f := by rw [h.fs]; rfl
theorem One.names {W : WS} {i : Nat} {d : DiskS} {f : FileS} (h : One W i d f) : (d.files.map (·.name)).Nodup := by
  rw [h.fs]
  exact List.pairwise_singleton _ _
theorem One.fok {W : WS} {i : Nat} {d : DiskS} {f : FileS} (h : One W i d f) : FOk (20 * (i : Int)) i f := h.dok.fs f (by rw [h.fs]; exact List.mem_singleton.mpr rfl)
theorem grown_hold {d : DiskS} {f : FileS} {many : Int} : (grownF d f many).hold = f.hold + givenF d f many ∧ (grownF d f many).size = f.size + many := by
  unfold grownF givenF
  split
  · exact ⟨(Int.add_zero _).symm, rfl⟩
  · exact ⟨rfl, rfl⟩
theorem One.grow {W : WS} {i : Nat} {d : DiskS} {f : FileS} {many : Int} (h : One W i d f) (hi : i < 20) (m0 : 1 ≤ many) (m1 : many ≤ 5) : One W (i + 1) (growD d 0 f many) (grownF d f many) ∧ WB d f many ∧ (W.rule ≠ "next" → (grownF d f many).runs = [(0, (grownF d f many).hold)] ∧ 0 < (grownF d f many).hold) := by
  have hm : f ∈ d.files := by rw [h.fs]; exact List.mem_singleton.mpr rfl
  have hB : (20 * (i : Int)) ≤ 10 ^ 30 := by omega
  have hneed : needM f many ≤ 20 := by
    have := h.fok.sh
    unfold needM
    omega
  obtain ⟨wb, _⟩ := h.dok.wb hm hB (by omega) hneed
  obtain ⟨dok1, _⟩ := h.dok.grow h.hf hB (by omega) (by omega) hneed
  have hso : W.rule ≠ "next" → (grownF d f many).runs = [(0, (grownF d f many).hold)] ∧ 0 < (grownF d f many).hold := fun hn =>
    solo_grow h.fs (h.so hn) h.dok.ru (by rw [h.bk.2.2.2.2]; exact hn) m0 h.fok.s0
  refine ⟨⟨by show d.files.set 0 _ = _; rw [h.fs]; rfl, grown_name.1.trans h.nm, grown_name.2.trans h.op, ?_, h.back, h.bk, fun hn => .inr (hso hn)⟩, wb, hso⟩
  have e : (20 * ((i + 1 : Nat) : Int)) = 20 * (i : Int) + 20 := by omega
  rw [e]
  exact dok1
theorem One.shut {W : WS} {i : Nat} {d : DiskS} {f : FileS} (h : One W i d f) (hs : 1 ≤ f.size) : One W i (openD (closeD d 0 f) 0 (closedF d f)) { closedF d f with op := true } := by
  have hc := h.fok.closed (d := d)
  refine ⟨by show (d.files.set 0 _).set 0 _ = _; rw [h.fs]; rfl, closed_name.1.trans h.nm, rfl, (h.dok.set hc).set (FOk.op hc), h.back, h.bk, fun hn => .inr ?_⟩
  have e : closedF d f = { f with op := false, hold := f.size, runs := cutM f.runs (f.hold - f.size) } := by unfold closedF; rw [h.back]; rfl
  rw [e]
  show cutM f.runs (f.hold - f.size) = [(0, f.size)] ∧ 0 < f.size
  have hsh := h.fok.sh
  rcases h.so hn with ⟨e1, e2⟩ | ⟨e1, e2⟩
  · omega
  · rw [e1, cut_1 (by omega) (by omega)]
    refine ⟨?_, by omega⟩
    rw [show f.hold - (f.hold - f.size) = f.size by omega]
theorem ne_self {x : V} : (!decide (x = x)) = false := by rw [decide_eq_true rfl]; rfl
section
variable {P : Program} {w : World} {K : PySem.W.Frag} {mg : Str → Option Value} {base : Heap}
def sp_back (K : PySem.W.Frag) : Sp := sp_kept K
theorem sc_back : FnScope ["_law_pool", "_law_world", "_law_disk_here", "_law_turn", "_law_many", "_law_hold", "_law_idle", "_law_given", "_law_due", "_law_free"] ["_law_pool", "_law_world"] (defScope s_law_back_right) := ⟨rfl, rfl, rfl, by decide +kernel, rfl, by decide +kernel, by decide +kernel⟩
theorem p_back (T : Txt K mg) (TB : LamX.TabB base mg (jC K) (jP K)) : FnR P w K mg base CX0 16 (He.ga K "_law_back_right") (sp_back K) := by
  obtain ⟨fd, F⟩ := T.d_law_back_right
  refine mkR F (F.ok sc_back (fun vs H Q E h => ?_) fun cdv A0 outer s H vs Q E hr h => ?_) fun _ _ _ _ _ _ us hl => match us, hl with | [_, _], _ => rfl
  · obtain ⟨p, wd, W, size, back, late, rfl, _⟩ := h
    rfl
  · obtain ⟨p, wd, W, size, back, late, rfl, hp, hw, wo, tb, k⟩ := h
    have nd := sc_back.nd
    have hu := hu_of hr
    obtain ⟨fdI, GI, BI⟩ := p_File_idle (P := P) (w := w) (base := base) T
    refine ⟨_, (pss_cons (ps_asg pe_bl (pg_sub (pv 1) pe_str (set_dict hu)))
      (pss_cons (ps_set (i := 2) nd rfl (Or.inl rfl) (pe_ix ix_tup (pe_callR (p_two T) (hr.mono (by decide)) T.g_law_two (kp_law_two T) (pa_cons (pv 1) pa_nil)) pe_int (fun _ _ => rfl)))
      (pss_cons (ps_expr (pe_methG (pv 2) T.c_Disk T.m_Disk_make (p_make T) (hr.mono (by decide)) (pa_cons pe_str pa_nil)))
      (pss_cons (ps_for PassesOwn.never rfl (pi_range1 rfl T.f_range (pa_cons pe_int pa_nil)) (pg_name (i := 3) nd rfl (Or.inl rfl))
      (pss_cons (ps_par (i := 4) (j := 5) rfl nd rfl rfl (by decide) rfl rfl (pa_cons (pe_op op_add pe_int (pe_callR (p_draw T) (hr.mono (by decide)) T.g_law_draw (kp_law_draw T) (pa_cons (pv 0) (pa_cons pe_int pa_nil)))) (pa_cons (pe_fld (pe_itemO (pv 2) pe_str T.m_Disk_getitem.at_ T.fnGet T.m_Disk_getitem.fn (p_Disk_get T) (hr.mono (by decide))) rfl) pa_nil)) rfl)
        (pss_cons (ps_set (i := 6) nd rfl (Or.inl rfl) (pe_prop (pe_itemO (pv 2) pe_str T.m_Disk_getitem.at_ T.fnGet T.m_Disk_getitem.fn (p_Disk_get T) (hr.mono (by decide))) T.c_File T.idle GI (hr.mono (by decide)) BI .nil pass0 rfl))
        (pss_cons (ps_set (i := 7) nd rfl (Or.inl rfl) (pe_methG (pv 2) T.c_Disk T.m_Disk_grow (p_grow T TB) (hr.mono (by decide)) (pa_cons pe_str (pa_cons (pv 4) pa_nil))))
        (pss_cons (ps_set (i := 8) nd rfl (Or.inl rfl) pe_int)
        (pss_cons (ps_if (pt_cmpR op_gt (pv 4) (pv 6) (nomark _))
        (pss_one (ps_set (i := 8) nd rfl (Or.inl rfl) (pe_callB (call_max2 rfl) (by rfl) T.f_max (by decide +kernel) (pa_cons (pe_callTy call_int1 (by rfl) T.f_int PyProof.Rows.boot_int (pa_cons (pe_callR (p_step T) (hr.mono (by decide)) T.g_law_step (kp_law_step T) (pa_cons (pe_dget hu (pv 1) pe_str (fun _ _ => rfl)) (pa_cons (pv 5) pa_nil))) pa_nil)) (pa_cons (pe_op op_sub (pv 4) (pv 6)) pa_nil)))))
        pss_nil)
        (pss_cons (ps_if (PW.pt (pw_or (pt_cmpR op_ne (pv 7) (pv 8) (nomark _)) (pw_or1 (pt_cmpR op_ne (pe_fld (pe_itemO (pv 2) pe_str T.m_Disk_getitem.at_ T.fnGet T.m_Disk_getitem.fn (p_Disk_get T) (hr.mono (by decide))) rfl) (pe_op op_add (pv 5) (pv 8)) (nomark _)))))
        (pss_one (ps_ret pe_bl))
        pss_nil)
        (pss_cons (ps_if (PW.pt (pw_and (pt_cmpR op_ne (pe_dget hu (pv 1) pe_str (fun _ _ => rfl)) pe_str (nomark _)) (pw_and1 (pt_cmpR op_ne (pe_callB call_len_seq (by rfl) T.f_len PySem.boot_len (pa_cons (pe_methR0 (pe_itemO (pv 2) pe_str T.m_Disk_getitem.at_ T.fnGet T.m_Disk_getitem.fn (p_Disk_get T) (hr.mono (by decide))) T.c_File T.m_File_pieces (p_File_pieces T) (hr.mono (by decide))) pa_nil)) pe_int (nomark _)))))
        (pss_one (ps_ret pe_bl))
        pss_nil)
        (pss_cons (ps_set (i := 9) nd rfl (Or.inl rfl) (pe_prop (pe_itemO (pv 2) pe_str T.m_Disk_getitem.at_ T.fnGet T.m_Disk_getitem.fn (p_Disk_get T) (hr.mono (by decide))) T.c_File T.idle GI (hr.mono (by decide)) BI .nil pass0 rfl))
        (pss_one (ps_if (pt_cmpR op_eq (pe_callR (p_draw T) (hr.mono (by decide)) T.g_law_draw (kp_law_draw T) (pa_cons (pv 0) (pa_cons pe_int pa_nil))) pe_int (nomark _))
        (pss_cons (ps_if (PW.pt (pw_or (pt_cmpR op_ne (pe_methG (pv 2) T.c_Disk T.m_Disk_close (p_close T TB) (hr.mono (by decide)) (pa_cons pe_str pa_nil)) (pv 9) (nomark _)) (pw_or (pt_cmpR op_ne (pe_fld (pe_itemO (pv 2) pe_str T.m_Disk_getitem.at_ T.fnGet T.m_Disk_getitem.fn (p_Disk_get T) (hr.mono (by decide))) rfl) (pe_fld (pe_itemO (pv 2) pe_str T.m_Disk_getitem.at_ T.fnGet T.m_Disk_getitem.fn (p_Disk_get T) (hr.mono (by decide))) rfl) (nomark _)) (pw_or1 (pt_cmpR op_ne (pe_prop (pe_itemO (pv 2) pe_str T.m_Disk_getitem.at_ T.fnGet T.m_Disk_getitem.fn (p_Disk_get T) (hr.mono (by decide))) T.c_File T.idle GI (hr.mono (by decide)) BI .nil pass0 rfl) pe_int (nomark _))))))
          (pss_one (ps_ret pe_bl))
          pss_nil)
          (pss_one (ps_expr (pe_methG (pv 2) T.c_Disk T.m_Disk_reopen (p_reopen T) (hr.mono (by decide)) (pa_cons pe_str pa_nil)))))
        pss_nil)))))))))))
      (pss_one (ps_ret pe_bl)))))), ?_⟩
    obtain ⟨Tp, fl, sh, hw0, hpt⟩ := hw
    have hpw : p ≠ wd := by
      obtain ⟨_, _, h1, _⟩ := hp
      exact ne_of h1 hw0 fun z => nomatch z
    refine ⟨_, rfl, wd, _, rfl, dput hw0 wk_back (by show 8 ≤ 100; decide), ?_⟩
    have s1 : Stp K [wd] H (upd H wd (.dK (wk Tp fl W.rule size W.short true late))) := Stp.dK hw0
    have hw1 : WorldAt (upd H wd (.dK (wk Tp fl W.rule size W.short true late))) wd W size true late := ⟨Tp, fl, sh, upd_same, s1.chg.tups _ _ hpt.1, s1.chg.tups _ _ hpt.2⟩
    have f1 : ∀ c, (upd H wd (.dK (wk Tp fl W.rule size W.short true late))) c = none → Fre H c := fun c hc => s1.fre hc fun b hb => by
      rw [List.mem_singleton.mp hb]
      exact ⟨_, upd_same⟩
    generalize upd H wd (.dK (wk Tp fl W.rule size W.short true late)) = H1 at s1 hw1 f1 ⊢
    refine ⟨_, rfl, wd, W, size, true, late, rfl, hw1, wo, fun H2 U A B s2 fA fB dA dB hU hw2 => ?_⟩
    have s12 := s1.trans s2
    have st2 : StB K H H2 p wd W .non true false := ⟨hp, ⟨_, hw0⟩, s12.mono (by simp), hp.stp s12 (by simpa using hpw), hw2, s12.tab tb⟩
    have oA : On K H H2 A ⟨W.lo, W.hi, W.t, W.b, W.rule, W.short, true, 0, []⟩ := ⟨dA, fun c hc => f1 c (fA c hc)⟩
    clear fA fB dA dB hw1 hw2 s1 s2 s12 f1 hp hw0 hpt
    refine ⟨U, _, 0, _, rfl, rfl, SqT.of hU, rfl, ?_⟩
    clear hU
    refine ⟨_, rfl, A.p, A.dx, _, rfl, oA.is.ob, fd_m.2.2.2.2.2.2, A, _, "a", rfl, oA.is, .inl rfl, List.not_mem_nil, Nat.zero_le _, fun H3 a0 s3 n1 n2 h3 => ?_⟩
    have st3 := st2.make oA s3
    have oA3 := oA.made st2 n1 n2 h3
    have epA : A.p = ({ A with fs := A.fs ++ [a0] } : DAd).p := rfl
    generalize hA' : ({ A with fs := A.fs ++ [a0] } : DAd) = A' at oA3 epA
    rw [epA]
    have go : ∃ d f, On K H H3 A' d ∧ One W 0 d f := by
      refine ⟨_, newF "a", oA3, rfl, rfl, rfl, ⟨Int.le_refl 0, fun f hf => ?_, Int.le_refl 0, Int.le_refl 0, wo.sm, wo.ru, by show 1 ≤ 3; decide⟩, rfl, ⟨rfl, rfl, rfl, rfl, rfl⟩, fun _ => .inl ⟨rfl, rfl⟩⟩
      replace hf : f ∈ [newF "a"] := hf
      rw [List.mem_singleton.mp hf]
      exact FOk.fresh (Int.le_refl 0)
    obtain ⟨d, f, oD, one⟩ := go
    clear oA3 oA st2 hA' epA s3 n1 n2 h3
    refine ⟨8, rfl, by decide, by decide, for_range (fun i σ H' => ∃ (d : DiskS) (f : FileS) (v3 v4 v5 v6 v7 v8 v9 : Option V), σ = [some (.ref p), some (.ref wd), some (.ref A'.p), v3, v4, v5, v6, v7, v8, v9] ∧ StB K H H' p wd W .non true false ∧ On K H H' A' d ∧ One W i d f)
      ⟨d, f, _, _, _, _, _, _, _, rfl, st3, oD, one⟩ ?_ ?_⟩
    · clear st3 oD one
      rintro i σ H4 hi ⟨d, f, v3, v4, v5, v6, v7, v8, v9, rfl, st, oA, one⟩
      replace hi : i < 8 := hi
      refine ⟨_, rfl, p, 5, rfl, st.pl, by decide, by decide, fun H5 z s5 hp5 m0 m1 => ⟨_, _, rfl, rfl, ?_⟩⟩
      replace oA := oA.draw st s5
      replace st := st.draw s5 hp5
      obtain ⟨a, ha, hfa⟩ := oA.is.file one.hf
      refine ⟨_, rfl, A'.p, A'.dx, _, rfl, oA.is.ob, A', d, 0, a, f, by rw [one.nm], oA.is, one.names, ha, one.hf, a.f, _, a.dx, _, _, rfl, hfa.ob, T.c_File, T.n_File_hold, ff_hold, _, _, rfl, ?_⟩
      refine ⟨_, rfl, A'.p, A'.dx, _, rfl, oA.is.ob, A', d, 0, a, f, by rw [one.nm], oA.is, one.names, ha, one.hf, a.f, a.dx, _, rfl, hfa.ob, a.f, a.dx, A'.p, a.l, f.name, f.size, f.hold, f.op, rfl, hfa.ob, ?_⟩
      obtain ⟨one1, wb, hsolo⟩ := one.grow (many := 1 + z) (by omega) (by omega) (by omega)
      refine ⟨_, rfl, A'.p, A'.dx, _, rfl, oA.is.ob, fd_m.2.2.2.1, _, rfl, A', d, 0, f, 1 + z, by rw [one.nm], oA.is, one.names, one.hf, one.op, by omega, by omega, st.tb, wb, fun H6 s6 hd6 => ?_⟩
      replace st := st.step s6 oA.fr
      replace oA : On K H H6 A' (growD d 0 f (1 + z)) := ⟨hd6, oA.fr⟩
      have hfa1 : FileAt K H6 A'.p a (grownF d f (1 + z)) := Paired.at2 oA.is.fs ha one1.hf
      obtain ⟨gh, gs⟩ := grown_hold (d := d) (f := f) (many := 1 + z)
      have hfok := one.fok
      have hfok1 := one1.fok
      clear hd6 s6 s5 hp5 hfa
      -- what is due
      refine ⟨_, rfl, _, rfl, _, _, rfl, rfl, _, rfl, ?_⟩
      show if decide (1 + z > f.hold - f.size) = true then _ else _
      by_cases hdue : 1 + z > f.hold - f.size
      case' pos =>
        have hneed : ¬ needM f (1 + z) ≤ 0 := by unfold needM; omega
        have hgiv : givenF d f (1 + z) = (if (1 + z - (f.hold - f.size)) > stepM W.lo W.hi W.t W.b f.hold then (1 + z - (f.hold - f.size)) else stepM W.lo W.hi W.t W.b f.hold) := by
          unfold givenF
          rw [if_neg hneed]
          unfold askD askM
          obtain ⟨b1, b2, b3, b4, _⟩ := one.bk
          rw [b1, b2, b3, b4]
          have e : needM f (1 + z) = 1 + z - (f.hold - f.size) := by unfold needM; omega
          rw [e]
          split <;> split <;> omega
        rw [decide_eq_true hdue]
        obtain ⟨Tq, fl2, sh2, hw6, hpt6⟩ := id st.wo
        refine iteT ⟨_, rfl, wd, _, rfl, dget hw6 wk_g_book, _, rfl, Tq, sh2, W.lo, W.hi, W.t, W.b, f.hold, rfl, hpt6, wo.sm.ok, .inl ⟨_, rfl, _, rfl, _, rfl, _, _, rfl, rfl, _, _, rfl, ?_⟩⟩
        rw [← hgiv]
      case' neg =>
        have hneed : needM f (1 + z) ≤ 0 := by unfold needM; omega
        have hgiv : givenF d f (1 + z) = 0 := if_pos hneed
        rw [decide_eq_false hdue]
        refine iteF ?_
        rw [hgiv] at gh ⊢
      all_goals
        refine ⟨_, rfl, _, rfl, rfl, _, rfl, ?_⟩
        rw [ne_self]
        refine iteF ⟨_, rfl, A'.p, A'.dx, _, rfl, oA.is.ob, A', _, 0, a, _, by rw [one1.nm], oA.is, one1.names, ha, one1.hf, a.f, _, a.dx, _, _, rfl, hfa1.ob, T.c_File, T.n_File_hold, ff_hold, _, rfl, _, rfl, _, _, rfl, rfl, rfl, _, rfl, ?_⟩
        rw [gh, ne_self]
        clear hgiv hneed hdue gh
        refine iteF ?_
        obtain ⟨Tq, fl2, sh2, hw6, _⟩ := id st.wo
        refine ⟨_, rfl, wd, _, rfl, dget hw6 wk_g_rule, rfl, _, rfl, ?_⟩
        clear hw6
        by_cases hn : W.rule = "next"
        case' pos =>
          rw [show (!decide (V.str W.rule = V.str (Str.ofString "next"))) = false by rw [hn]; exact ne_self]
          refine iteF (iteF ?_)
        case' neg =>
          rw [show (!decide (V.str W.rule = V.str (Str.ofString "next"))) = true by rw [decide_eq_false (fun e => hn (by injection e))]; rfl]
          refine iteT ⟨_, rfl, A'.p, A'.dx, _, rfl, oA.is.ob, A', _, 0, a, _, by rw [one1.nm], oA.is, one1.names, ha, one1.hf, a.f, a.dx, _, rfl, hfa1.ob, ff_pieces, a.f, a.dx, A'.p, a.l, _, _, _, _, _, rfl, hfa1.ob, hfa1.pl, fun H7 q e7 hq hpl => ?_⟩
          obtain ⟨ws, hq1, hq2⟩ := hpl
          have hlen : (((ws.map V.ref).length : Nat) : Int) = 1 := by
            rw [List.length_map, hq2.length, (hsolo hn).1]
            rfl
          refine ⟨q, _, rfl, .inl (SqL.of hq1), rfl, _, rfl, ?_⟩
          rw [hlen, ne_self]
          replace st := st.same e7
          replace oA := oA.same e7
          replace hfa1 : FileAt K H7 A'.p a (grownF d f (1 + z)) := Paired.at2 oA.is.fs ha one1.hf
          refine iteF ?_
        all_goals
          refine ⟨_, rfl, A'.p, A'.dx, _, rfl, oA.is.ob, A', _, 0, a, _, by rw [one1.nm], oA.is, one1.names, ha, one1.hf, a.f, a.dx, _, rfl, hfa1.ob, a.f, a.dx, A'.p, a.l, _, _, _, _, rfl, hfa1.ob, ?_⟩
          refine ⟨_, rfl, p, 2, rfl, st.pl, by decide, by decide, fun H8 y s8 hp8 _ _ => ⟨rfl, _, rfl, ?_⟩⟩
          replace oA := oA.draw st s8
          replace st := st.draw s8 hp8
          clear hfa1 s8 hp8
          have gs1 : 1 ≤ (grownF d f (1 + z)).size := by
            have := hfok.s0
            omega
          generalize grownF d f (1 + z) = f1 at one1 hfok1 gs1 ⊢
          generalize growD d 0 f (1 + z) = d1 at oA one1 ⊢
          by_cases hy : V.int y = V.int 0
          · rw [decide_eq_true hy]
            have hB1 : (20 * ((i + 1 : Nat) : Int)) ≤ 10 ^ 30 := by omega
            obtain ⟨wb0, _⟩ := one1.dok.wb (List.mem_of_getElem? one1.hf) hB1 (by omega) (show needM f1 0 ≤ 20 by have := hfok1.sh; unfold needM; omega)
            refine iteT ⟨_, rfl, A'.p, A'.dx, _, rfl, oA.is.ob, fd_m.2.2.2.2.1, A', d1, 0, f1, by rw [one1.nm], oA.is, one1.names, one1.hf, one1.op, hfok1.sh, by have := hfok1.s0; have := hfok1.hr; omega, fun r hr => (hfok1.rs r hr).2.1, st.tb, wb0, fun H9 s9 hd9 => ?_⟩
            rw [if_pos one1.back]
            refine ⟨_, rfl, rfl, _, rfl, ?_⟩
            rw [ne_self]
            replace st := st.step s9 oA.fr
            replace oA : On K H H9 A' (closeD d1 0 f1) := ⟨hd9, oA.fr⟩
            have hf2 : (closeD d1 0 f1).files[0]? = some (closedF d1 f1) := set_at one1.hf
            have hfa2 : FileAt K H9 A'.p a (closedF d1 f1) := Paired.at2 oA.is.fs ha hf2
            have nm2 : (closedF d1 f1).name = "a" := closed_name.1.trans one1.nm
            have names2 := close_names one1.hf one1.names
            have hc : (closedF d1 f1).hold = f1.size ∧ (closedF d1 f1).size = f1.size := by
              unfold closedF
              rw [if_pos one1.back]
              exact ⟨rfl, rfl⟩
            refine iteF ⟨_, rfl, A'.p, A'.dx, _, rfl, oA.is.ob, A', _, 0, a, _, by rw [nm2], oA.is, names2, ha, hf2, a.f, _, a.dx, _, _, rfl, hfa2.ob, T.c_File, T.n_File_hold, ff_hold, ?_⟩
            refine ⟨_, rfl, A'.p, A'.dx, _, rfl, oA.is.ob, A', _, 0, a, _, by rw [nm2], oA.is, names2, ha, hf2, a.f, _, a.dx, _, _, rfl, hfa2.ob, T.c_File, T.n_File_size, ff_size, rfl, _, rfl, ?_⟩
            rw [hc.1, hc.2, ne_self]
            refine iteF ⟨_, rfl, A'.p, A'.dx, _, rfl, oA.is.ob, A', _, 0, a, _, by rw [nm2], oA.is, names2, ha, hf2, a.f, a.dx, _, rfl, hfa2.ob, a.f, a.dx, A'.p, a.l, _, _, _, _, rfl, hfa2.ob, rfl, _, rfl, ?_⟩
            rw [hc.1, hc.2, Int.sub_self, ne_self]
            refine iteF ?_
            refine ⟨_, rfl, A'.p, A'.dx, _, rfl, oA.is.ob, fd_m.2.2.2.2.2.1, A', _, 0, _, by rw [nm2], oA.is, names2, hf2, closed_name.2, fun H10 s10 hd10 => ?_⟩
            exact ⟨_, _, _, _, _, _, _, _, _, rfl, st.step s10 oA.fr, ⟨hd10, oA.fr⟩, one1.shut gs1⟩
          · rw [decide_eq_false hy]
            exact iteF ⟨_, _, _, _, _, _, _, _, _, rfl, st, oA, one1⟩
    · rintro σ H' ⟨d, f, v3, v4, v5, v6, v7, v8, v9, rfl, st, oA, one⟩
      exact k H' W .non true false st.st st.pl st.wo wo
end
end GF

set_option Elab.async false
set_option linter.all false
set_option maxRecDepth 100000
set_option maxHeartbeats 4000000
namespace GF
open PySem PySem.Spec PyProof.Rows L2
/-! ## given_back_right: the mathematics -/
structure Frst (n : Nat) (d : DiskS) : Prop where
  dok : DOk (20 * (n : Int)) n d
  rule : d.rule = "first"
  back : d.back = true
theorem Frst.mono {n m : Nat} {d : DiskS} (h : Frst n d) (c : n ≤ m) : Frst m d := ⟨h.dok.mono (by omega) c, h.rule, h.back⟩
theorem Frst.wb {n : Nat} {d : DiskS} {i : Nat} {f : FileS} {many : Int} (h : Frst n d) (hf : d.files[i]? = some f) (hn : n ≤ 100) (k : needM f many ≤ 20) : WB d f many := (h.dok.wb (List.mem_of_getElem? hf) (by omega) (by omega) k).1
theorem Frst.grow {n : Nat} {d : DiskS} {i : Nat} {f : FileS} {many : Int} (h : Frst n d) (hf : d.files[i]? = some f) (hn : n ≤ 100) (m0 : 0 ≤ many) (k : needM f many ≤ 20) : Frst (n + 1) (growD d i f many) := by
  obtain ⟨k1, _⟩ := h.dok.grow hf (by omega) (by omega) m0 k
  have e : (20 * ((n + 1 : Nat) : Int)) = 20 * (n : Int) + 20 := by omega
  exact ⟨by rw [e]; exact k1, h.rule, h.back⟩
theorem ask_lo {lo hi t b : Int} (h : 1 ≤ lo) : askM lo hi t b 0 1 = lo := by
  have e : partM t b 0 = 0 := by
    unfold partM
    rw [Int.neg_zero, Int.zero_mul, Int.zero_ediv]
    rfl
  unfold askM stepM
  rw [e, if_pos (show (0 : Int) < lo by omega)]
  split <;> omega
theorem start_first {d : DiskS} {f : FileS} {asked : Int} (hr : d.rule = "first") : startM d f asked = firstM (runsM (freeM (allRuns d.files))) asked := by
  unfold startM
  rw [hr]
  exact place_first
theorem first_one {a many : Int} : firstM (runsM [(a, none)]) many = some a := rfl
/-- "a" alone has bytes: the run from 0 on -/
structure S2 (n : Nat) (d : DiskS) (f : FileS) : Prop extends Frst n d where
  fs : d.files = [f, newF "b"]
  nm : f.name = "a"
  op : f.op = true
  runs : f.runs = [(0, f.hold)]
  s1 : 1 ≤ f.size
theorem S2.hf {n : Nat} {d : DiskS} {f : FileS} (h : S2 n d f) : d.files[0]? = some f := by rw [h.fs]; rfl
theorem S2.fok {n : Nat} {d : DiskS} {f : FileS} (h : S2 n d f) : FOk (20 * (n : Int)) n f := h.dok.fs f (by rw [h.fs]; exact List.mem_cons_self)
theorem S2.names {n : Nat} {d : DiskS} {f : FileS} (h : S2 n d f) : (d.files.map (·.name)).Nodup := by
  rw [h.fs]
  show [f.name, Str.ofString "b"].Nodup
  rw [h.nm]
  decide +kernel
theorem grown_new {d : DiskS} {name : Str} {many st : Int} (h : 1 ≤ many) (hs : startM d (newF name) (askD d (newF name) many) = some st) : grownF d (newF name) many = { newF name with size := many, hold := askD d (newF name) many, runs := [(st, askD d (newF name) many)] } := by
  unfold grownF
  have hn : ¬ needM (newF name) many ≤ 0 := by
    unfold needM newF
    show ¬ (0 : Int) + many - 0 ≤ 0
    omega
  rw [if_neg hn, hs]
  show ({ newF name with size := 0 + many, hold := 0 + askD d (newF name) many, runs := [(st, askD d (newF name) many)] } : FileS) = _
  rw [Int.zero_add, Int.zero_add]
theorem s_first {d : DiskS} {many : Int} (h : Frst 0 d) (fs : d.files = [newF "a", newF "b"]) (m0 : 1 ≤ many) (m1 : many ≤ 6) : S2 1 (growD d 0 (newF "a") many) (grownF d (newF "a") many) ∧ (grownF d (newF "a") many).size = many ∧ WB d (newF "a") many := by
  have hf : d.files[0]? = some (newF "a") := by rw [fs]; rfl
  have hneed : needM (newF "a") many ≤ 20 := by
    unfold needM newF
    show (0 : Int) + many - 0 ≤ 20
    omega
  have hst : startM d (newF "a") (askD d (newF "a") many) = some 0 := by
    rw [start_first h.rule]
    have e : allRuns d.files = [] := by rw [fs]; rfl
    rw [e, free_nil]
    rfl
  have e := grown_new m0 hst
  refine ⟨{ toFrst := h.grow hf (by omega) (by omega) hneed, fs := by show d.files.set 0 _ = _; rw [fs]; rfl, nm := grown_name.1, op := grown_name.2, runs := by rw [e], s1 := by rw [e]; exact m0 }, by rw [e], h.wb hf (by omega) hneed⟩
theorem s_more {d : DiskS} {f : FileS} (h : S2 1 d f) : S2 2 (growD d 0 f (f.hold - f.size + 1)) (grownF d f (f.hold - f.size + 1)) ∧ WB d f (f.hold - f.size + 1) := by
  have hfo := h.fok
  have hs := hfo.sh
  have hneed1 : needM f (f.hold - f.size + 1) = 1 := by unfold needM; omega
  have hh : 0 < f.hold := by have := h.s1; omega
  have hst : startM d f (askD d f (f.hold - f.size + 1)) = some f.hold := by
    rw [start_first h.rule]
    have e : allRuns d.files = [(0, f.hold)] := by
      rw [h.fs]
      show f.runs ++ [] = _
      rw [h.runs, List.append_nil]
    rw [e, free_1 hh]
    rfl
  have e : grownF d f (f.hold - f.size + 1) = { f with size := f.size + (f.hold - f.size + 1), hold := f.hold + askD d f (f.hold - f.size + 1), runs := [(0, f.hold + askD d f (f.hold - f.size + 1))] } := by
    unfold grownF
    rw [if_neg (by omega), hst, h.runs]
    have z := put_snoc [] (0, f.hold) (f.hold, askD d f (f.hold - f.size + 1))
    rw [List.nil_append] at z
    show ({ f with size := _, hold := _, runs := putM [(0, f.hold)] (f.hold, askD d f (f.hold - f.size + 1)) } : FileS) = _
    rw [z, if_pos (by show 0 + f.hold = f.hold; omega)]
    rfl
  refine ⟨{ toFrst := h.toFrst.grow h.hf (by omega) (by omega) (by omega), fs := by show d.files.set 0 _ = _; rw [h.fs]; rfl, nm := grown_name.1.trans h.nm, op := grown_name.2.trans h.op, runs := by rw [e], s1 := by rw [e]; show 1 ≤ f.size + (f.hold - f.size + 1); omega }, h.toFrst.wb h.hf (by omega) (by omega)⟩
/-- "b" behind "a" -/
structure S3 (n : Nat) (d : DiskS) (f g : FileS) : Prop extends Frst n d where
  fs : d.files = [f, g]
  nm : f.name = "a"
  op : f.op = true
  nmb : g.name = "b"
  runs : f.runs = [(0, f.hold)]
  s1 : 1 ≤ f.size
  rb : g.runs = [(f.hold, d.lo)]
theorem s_b {d : DiskS} {f : FileS} (h : S2 2 d f) : S3 3 (growD d 1 (newF "b") 1) f (grownF d (newF "b") 1) ∧ WB d (newF "b") 1 := by
  have hf : d.files[1]? = some (newF "b") := by rw [h.fs]; rfl
  have hneed : needM (newF "b") 1 ≤ 20 := by decide
  have hs := h.fok.sh
  have hh : 0 < f.hold := by have := h.s1; omega
  have hask : askD d (newF "b") 1 = d.lo := by
    show askM d.lo d.hi d.t d.b 0 1 = d.lo
    exact ask_lo h.dok.bk.ok.l1
  have hst : startM d (newF "b") (askD d (newF "b") 1) = some f.hold := by
    rw [start_first h.rule]
    have e : allRuns d.files = [(0, f.hold)] := by
      rw [h.fs]
      show f.runs ++ [] = _
      rw [h.runs, List.append_nil]
    rw [e, free_1 hh]
    rfl
  have e := grown_new (by decide) hst
  rw [hask] at e
  refine ⟨{ toFrst := h.toFrst.grow hf (by omega) (by omega) hneed, fs := by show d.files.set 1 _ = _; rw [h.fs]; rfl, nm := h.nm, op := h.op, nmb := grown_name.1, runs := h.runs, s1 := h.s1, rb := by rw [e]; rfl }, h.toFrst.wb hf (by omega) hneed⟩
theorem S3.hf {n : Nat} {d : DiskS} {f g : FileS} (h : S3 n d f g) : d.files[0]? = some f := by rw [h.fs]; rfl
theorem S3.fok {n : Nat} {d : DiskS} {f g : FileS} (h : S3 n d f g) : FOk (20 * (n : Int)) n f := h.dok.fs f (by rw [h.fs]; exact List.mem_cons_self)
theorem S3.names {n : Nat} {d : DiskS} {f g : FileS} (h : S3 n d f g) : (d.files.map (·.name)).Nodup := by
  rw [h.fs]
  show [f.name, g.name].Nodup
  rw [h.nm, h.nmb]
  decide +kernel
/-- the disk behind the close of "a", with a new "c" -/
def shutC (d : DiskS) (f : FileS) : DiskS := { closeD d 0 f with files := (closeD d 0 f).files ++ [newF "c"] }
theorem shut_files {n : Nat} {d : DiskS} {f g : FileS} (h : S3 n d f g) : (closeD d 0 f).files = [closedF d f, g] := by
  show d.files.set 0 _ = _
  rw [h.fs]
  rfl
theorem s_c {d : DiskS} {f g : FileS} (h : S3 3 d f g) : (shutC d f).files = [closedF d f, g, newF "c"] ∧ ((shutC d f).files.map (·.name)).Nodup ∧ WB (shutC d f) (newF "c") 1 ∧ givenF (shutC d f) (newF "c") 1 = d.lo ∧
    ∃ st, (grownF (shutC d f) (newF "c") 1).runs = [(st, d.lo)] ∧ (d.lo > f.hold - f.size → st > f.size) ∧ (¬ d.lo > f.hold - f.size → st = f.size) := by
  have efs : (shutC d f).files = [closedF d f, g, newF "c"] := by
    show (closeD d 0 f).files ++ [newF "c"] = _
    rw [shut_files h]
    rfl
  have hsh := h.fok.sh
  have hs1 := h.s1
  have hlo := h.dok.bk.ok.l1
  have efa : closedF d f = { f with op := false, hold := f.size, runs := [(0, f.size)] } := by
    unfold closedF
    rw [if_pos h.back, h.runs, cut_1 (by omega) (by omega)]
    rw [show f.hold - (f.hold - f.size) = f.size by omega]
  have hdok : DOk (20 * ((3 : Nat) : Int)) 3 (shutC d f) := by
    have hc := h.fok.closed (d := d)
    have z := h.dok.set (i := 0) hc
    refine ⟨z.B0, fun x hx => ?_, z.a0, z.a1, z.bk, z.ru, by rw [efs]; show 3 ≤ 3; decide⟩
    rw [efs] at hx
    simp only [List.mem_cons, List.not_mem_nil, or_false] at hx
    rcases hx with rfl | rfl | rfl
    · exact hc
    · exact h.dok.fs _ (by rw [h.fs]; simp)
    · exact FOk.fresh h.dok.B0
  have hfr : Frst 3 (shutC d f) := ⟨hdok, h.rule, h.back⟩
  have hf : (shutC d f).files[2]? = some (newF "c") := by rw [efs]; rfl
  have hask : askD (shutC d f) (newF "c") 1 = d.lo := by
    show askM d.lo d.hi d.t d.b 0 1 = d.lo
    exact ask_lo hlo
  have hgiv : givenF (shutC d f) (newF "c") 1 = d.lo := by
    unfold givenF
    rw [if_neg (by decide)]
    exact hask
  have eruns : allRuns (shutC d f).files = [(0, f.size), (f.hold, d.lo)] := by
    rw [efs, efa]
    show [(0, f.size)] ++ (g.runs ++ ([] ++ [])) = _
    rw [h.rb]
    rfl
  refine ⟨efs, ?_, hfr.wb hf (by omega) (by decide), hgiv, ?_⟩
  · rw [efs]
    show [(closedF d f).name, g.name, Str.ofString "c"].Nodup
    rw [closed_name.1, h.nm, h.nmb]
    decide +kernel
  · have fin : ∀ st, startM (shutC d f) (newF "c") (askD (shutC d f) (newF "c") 1) = some st → (grownF (shutC d f) (newF "c") 1).runs = [(st, d.lo)] := fun st hst => by
      rw [grown_new (by decide) hst, hask]
    rw [start_first hfr.rule, eruns, hask] at fin
    by_cases hgap : f.size < f.hold
    · rw [free_2a (by omega) hgap (by omega)] at fin
      by_cases hl : d.lo > f.hold - f.size
      · refine ⟨f.hold + d.lo, fin _ ?_, fun _ => by omega, fun z => absurd hl z⟩
        show ((runsM [(f.size, some f.hold), (f.hold + d.lo, none)]).find? fun r => enough r d.lo).map (·.1) = _
        have e1 : enough (f.size, some (f.hold - f.size)) d.lo = false := decide_eq_false (by omega)
        show (List.find? (fun r => enough r d.lo) [((f.size, some (f.hold - f.size)) : P2), (f.hold + d.lo, none)]).map (·.1) = _
        rw [List.find?_cons, e1]
        rfl
      · refine ⟨f.size, fin _ ?_, fun z => absurd z hl, fun _ => rfl⟩
        have e1 : enough (f.size, some (f.hold - f.size)) d.lo = true := decide_eq_true (by omega)
        show (List.find? (fun r => enough r d.lo) [((f.size, some (f.hold - f.size)) : P2), (f.hold + d.lo, none)]).map (·.1) = _
        rw [List.find?_cons, e1]
        rfl
    · have e : f.hold = f.size := by omega
      rw [e, free_2b (by omega) (by omega)] at fin
      refine ⟨f.size + d.lo, fin _ rfl, fun _ => by omega, fun z => by omega⟩
end GF

set_option Elab.async false
set_option linter.all false
set_option maxRecDepth 100000
set_option maxHeartbeats 4000000
namespace GF
open PySem PySem.Spec PyProof.Rows L2
section
variable {P : Program} {w : World} {K : PySem.W.Frag} {mg : Str → Option Value} {base : Heap}
/-! ## given_back_right -/
theorem sc_given : FnScope ["_law_pool", "_law_world", "_law_disk_here", "_law_many", "_law_name", "_law_start", "_law_left", "_law_given"] ["_law_pool", "_law_world"] (defScope s_law_given_back_right) := ⟨rfl, rfl, rfl, by decide +kernel, rfl, by decide +kernel, by decide +kernel⟩
theorem p_given (T : Txt K mg) (TB : LamX.TabB base mg (jC K) (jP K)) : FnR P w K mg base CX0 16 (He.ga K "_law_given_back_right") (sp_kept K) := by
  obtain ⟨fd, F⟩ := T.d_law_given_back_right
  refine mkR F (F.ok sc_given (fun vs H Q E h => ?_) fun cdv A0 outer s H vs Q E hr h => ?_) fun _ _ _ _ _ _ us hl => match us, hl with | [_, _], _ => rfl
  · obtain ⟨p, wd, W, size, back, late, rfl, _⟩ := h
    rfl
  · obtain ⟨p, wd, W, size, back, late, rfl, hp, hw, wo, tb, k⟩ := h
    have nd := sc_given.nd
    have hu := hu_of hr
    obtain ⟨fdI, GI, BI⟩ := p_File_idle (P := P) (w := w) (base := base) T
    refine ⟨_, (pss_cons (ps_asg (pe_tup (pa_cons pe_bl (pa_cons pe_str pa_nil))) (pg_tup rfl (pgs_cons (pg_sub (pv 1) pe_str (set_dict hu)) (pgs_cons (pg_sub (pv 1) pe_str (set_dict hu)) pgs_nil))))
      (pss_cons (ps_set (i := 2) nd rfl (Or.inl rfl) (pe_ix ix_tup (pe_callR (p_two T) (hr.mono (by decide)) T.g_law_two (kp_law_two T) (pa_cons (pv 1) pa_nil)) pe_int (fun _ _ => rfl)))
      (pss_cons (ps_set (i := 3) nd rfl (Or.inl rfl) (pe_op op_add pe_int (pe_callR (p_draw T) (hr.mono (by decide)) T.g_law_draw (kp_law_draw T) (pa_cons (pv 0) (pa_cons pe_int pa_nil)))))
      (pss_cons (ps_for PassesOwn.never rfl (pi_list (pe_lst (pa_cons pe_str (pa_cons pe_str pa_nil)))) (pg_name (i := 4) nd rfl (Or.inl rfl))
      (pss_one (ps_expr (pe_methG (pv 2) T.c_Disk T.m_Disk_make (p_make T) (hr.mono (by decide)) (pa_cons (pv 4) pa_nil)))))
      (pss_cons (ps_expr (pe_methG (pv 2) T.c_Disk T.m_Disk_grow (p_grow T TB) (hr.mono (by decide)) (pa_cons pe_str (pa_cons (pv 3) pa_nil))))
      (pss_cons (ps_if (pt_cmpR op_eq (pe_callR (p_draw T) (hr.mono (by decide)) T.g_law_draw (kp_law_draw T) (pa_cons (pv 0) (pa_cons pe_int pa_nil))) pe_int (nomark _))
      (pss_cons (ps_set (i := 3) nd rfl (Or.inl rfl) (pe_op op_add (pe_op op_add (pv 3) (pe_prop (pe_itemO (pv 2) pe_str T.m_Disk_getitem.at_ T.fnGet T.m_Disk_getitem.fn (p_Disk_get T) (hr.mono (by decide))) T.c_File T.idle GI (hr.mono (by decide)) BI .nil pass0 rfl)) pe_int))
        (pss_one (ps_expr (pe_methG (pv 2) T.c_Disk T.m_Disk_grow (p_grow T TB) (hr.mono (by decide)) (pa_cons pe_str (pa_cons (pe_op op_add (pe_prop (pe_itemO (pv 2) pe_str T.m_Disk_getitem.at_ T.fnGet T.m_Disk_getitem.fn (p_Disk_get T) (hr.mono (by decide))) T.c_File T.idle GI (hr.mono (by decide)) BI .nil pass0 rfl) pe_int) pa_nil))))))
      pss_nil)
      (pss_cons (ps_expr (pe_methG (pv 2) T.c_Disk T.m_Disk_grow (p_grow T TB) (hr.mono (by decide)) (pa_cons pe_str (pa_cons pe_int pa_nil))))
      (pss_cons (ps_set (i := 5) nd rfl (Or.inl rfl) (pe_op op_add (pe_fst (pe_head (pe_methR0 (pe_itemO (pv 2) pe_str T.m_Disk_getitem.at_ T.fnGet T.m_Disk_getitem.fn (p_Disk_get T) (hr.mono (by decide))) T.c_File T.m_File_pieces (p_File_pieces T) (hr.mono (by decide))))) (pv 3)))
      (pss_cons (ps_set (i := 6) nd rfl (Or.inl rfl) (pe_prop (pe_itemO (pv 2) pe_str T.m_Disk_getitem.at_ T.fnGet T.m_Disk_getitem.fn (p_Disk_get T) (hr.mono (by decide))) T.c_File T.idle GI (hr.mono (by decide)) BI .nil pass0 rfl))
      (pss_cons (ps_expr (pe_methG (pv 2) T.c_Disk T.m_Disk_close (p_close T TB) (hr.mono (by decide)) (pa_cons pe_str pa_nil)))
      (pss_cons (ps_expr (pe_methG (pv 2) T.c_Disk T.m_Disk_make (p_make T) (hr.mono (by decide)) (pa_cons pe_str pa_nil)))
      (pss_cons (ps_set (i := 7) nd rfl (Or.inl rfl) (pe_methG (pv 2) T.c_Disk T.m_Disk_grow (p_grow T TB) (hr.mono (by decide)) (pa_cons pe_str (pa_cons pe_int pa_nil))))
      (pss_cons (ps_if (pt_cmpR op_gt (pv 7) (pv 6) (nomark _))
      (pss_one (ps_ret (pe_and (pe_cmpR (op_neD hr.units) (pe_methR0 (pe_itemO (pv 2) pe_str T.m_Disk_getitem.at_ T.fnGet T.m_Disk_getitem.fn (p_Disk_get T) (hr.mono (by decide))) T.c_File T.m_File_pieces (p_File_pieces T) (hr.mono (by decide))) (pe_lst pa_nil) (nomark _)) (pe_one (pe_cmpR op_gt (pe_fst (pe_head (pe_methR0 (pe_itemO (pv 2) pe_str T.m_Disk_getitem.at_ T.fnGet T.m_Disk_getitem.fn (p_Disk_get T) (hr.mono (by decide))) T.c_File T.m_File_pieces (p_File_pieces T) (hr.mono (by decide))))) (pv 5) (nomark _))))))
      pss_nil)
      (pss_one (ps_ret (pe_cmpR (op_eqD hr.units) (pe_methR0 (pe_itemO (pv 2) pe_str T.m_Disk_getitem.at_ T.fnGet T.m_Disk_getitem.fn (p_Disk_get T) (hr.mono (by decide))) T.c_File T.m_File_pieces (p_File_pieces T) (hr.mono (by decide))) (pe_lst (pa_cons (pe_tup (pa_cons (pv 5) (pa_cons (pv 7) pa_nil))) pa_nil)) (nomark _))))))))))))))))), ?_⟩
    obtain ⟨Tp, fl, sh, hw0, hpt⟩ := hw
    have hpw : p ≠ wd := by
      obtain ⟨_, _, h1, _⟩ := hp
      exact ne_of h1 hw0 fun z => nomatch z
    refine ⟨(by show 2 ≤ sizeLine; decide), fun t ht => ⟨t, _, rfl, SqT.of upd_same, rfl, ?_⟩⟩
    have e0 : Same H (upd H t (.tup [.bl true, .str "first"])) := Same.upd_new ht
    have hw1 := e0 _ _ hw0
    have s1 : Stp K [wd] H (upd (upd H t (.tup [.bl true, .str "first"])) wd (.dK (wk Tp fl W.rule size W.short true late))) := (Stp.of_same e0).trans (Stp.dK hw1)
    have hw2 : (upd (upd H t (.tup [.bl true, .str "first"])) wd (.dK (wk Tp fl W.rule size W.short true late))) wd = some (.dK (wk Tp fl W.rule size W.short true late)) := upd_same
    refine ⟨_, _, rfl, _, rfl, wd, _, rfl, dput hw1 wk_back (by show 8 ≤ 100; decide), ?_⟩
    refine ⟨_, _, rfl, _, rfl, wd, _, rfl, dput hw2 wk_rule (by show 8 ≤ 100; decide), rfl, ?_⟩
    have s2 : Stp K [wd] H (upd (upd (upd H t (.tup [.bl true, .str "first"])) wd (.dK (wk Tp fl W.rule size W.short true late))) wd (.dK (wk Tp fl "first" size W.short true late))) := s1.trans (Stp.dK hw2)
    have wo' : WOk { W with rule := "first" } := ⟨wo.sm, .inr (.inl rfl)⟩
    have hW : WorldAt (upd (upd (upd H t (.tup [.bl true, .str "first"])) wd (.dK (wk Tp fl W.rule size W.short true late))) wd (.dK (wk Tp fl "first" size W.short true late))) wd { W with rule := "first" } size true late := ⟨Tp, fl, sh, upd_same, s2.chg.tups _ _ hpt.1, s2.chg.tups _ _ hpt.2⟩
    have f1 : ∀ c, (upd (upd (upd H t (.tup [.bl true, .str "first"])) wd (.dK (wk Tp fl W.rule size W.short true late))) wd (.dK (wk Tp fl "first" size W.short true late))) c = none → Fre H c := fun c hc => s2.fre hc fun b hb => by
      rw [List.mem_singleton.mp hb]
      exact ⟨_, upd_same⟩
    generalize upd (upd (upd H t (.tup [.bl true, .str "first"])) wd (.dK (wk Tp fl W.rule size W.short true late))) wd (.dK (wk Tp fl "first" size W.short true late)) = H1 at s2 hW f1 ⊢
    clear s1 hw2 hw1 e0 wo
    generalize hWd : ({ W with rule := "first" } : WS) = W' at wo' hW
    have hrule : W'.rule = "first" := by rw [← hWd]
    clear hWd
    refine ⟨_, rfl, wd, W', size, true, late, rfl, hW, wo', fun H2 U A B s3 fA fB dA dB hU hw2 => ?_⟩
    have s12 := s2.trans s3
    have st2 : StB K H H2 p wd W' .non true false := ⟨hp, ⟨_, hw0⟩, s12.mono (by simp), hp.stp s12 (by simpa using hpw), hw2, s12.tab tb⟩
    have oA : On K H H2 A ⟨W'.lo, W'.hi, W'.t, W'.b, W'.rule, W'.short, true, 0, []⟩ := ⟨dA, fun c hc => f1 c (fA c hc)⟩
    clear fA fB dA dB hW hw2 s2 s3 s12 f1 hp hw0 hpt ht hpw
    refine ⟨U, _, 0, _, rfl, rfl, SqT.of hU, rfl, ?_⟩
    clear hU
    refine ⟨_, rfl, p, 6, rfl, st2.pl, by decide, by decide, fun H3 z s3 hp3 z0 z1 => ⟨_, _, rfl, rfl, ?_⟩⟩
    replace oA := oA.draw st2 s3
    have st3 := st2.draw s3 hp3
    clear st2 s3 hp3
    have m0 : 1 ≤ 1 + z := by omega
    have m1 : 1 + z ≤ 6 := by omega
    -- make a and b
    refine ⟨(by show 2 ≤ sizeLine; decide), fun M hM => ?_⟩
    have e1 := Same.upd_new (o := .lst [V.str "a", V.str "b"]) hM
    have hM1 : (upd H3 M (.lst [V.str "a", V.str "b"])) M = some (.lst [V.str "a", V.str "b"]) := upd_same
    replace st3 := st3.same e1
    replace oA := oA.same e1
    generalize upd H3 M (.lst [V.str "a", V.str "b"]) = H4 at e1 hM1 st3 oA ⊢
    refine ⟨M, rfl, ⟨_, SqL.of hM1⟩, for_list (K := K) (a := M) (xs := [V.str "a", V.str "b"]) (fun i σ H' => ∃ (A' : DAd) (v4 v5 v6 v7 : Option V), σ = [some (.ref p), some (.ref wd), some (.ref A.p), some (.int (1 + z)), v4, v5, v6, v7] ∧ A'.p = A.p ∧ StB K H H' p wd W' .non true false ∧
        On K H H' A' ⟨W'.lo, W'.hi, W'.t, W'.b, W'.rule, W'.short, true, 0, [newF "a", newF "b"].take i⟩ ∧ H' M = some (.lst [V.str "a", V.str "b"]))
      ⟨A, none, none, none, none, rfl, rfl, st3, oA, hM1⟩ (fun i σ H' _ ⟨_, _, _, _, _, _, _, _, _, h⟩ => SqL.of h) ?_ ?_⟩
    · clear st3 oA hM1 e1
      rintro i y σ H5 hy ⟨A', v4, v5, v6, v7, rfl, eA, st, oA', hM1⟩
      match i, hy with
      | 0, hy =>
        obtain rfl : V.str "a" = y := Option.some.inj hy
        refine ⟨_, rfl, A.p, A'.dx, _, rfl, by rw [← eA]; exact oA'.is.ob, fd_m.2.2.2.2.2.2, _, rfl, A', _, "a", by rw [eA], oA'.is, .inl rfl, List.not_mem_nil, Nat.zero_le _, fun H9 a s9 n1 n2 h9 => ?_⟩
        exact ⟨{ A' with fs := A'.fs ++ [a] }, _, _, _, _, rfl, eA, st.make oA' s9, oA'.made st n1 n2 h9, s9.keep_lst hM1 (by simpa using ne_of hM1 oA'.is.fd fun z => nomatch z)⟩
      | 1, hy =>
        obtain rfl : V.str "b" = y := Option.some.inj hy
        refine ⟨_, rfl, A.p, A'.dx, _, rfl, by rw [← eA]; exact oA'.is.ob, fd_m.2.2.2.2.2.2, _, rfl, A', _, "b", by rw [eA], oA'.is, .inr (.inl rfl), (by show (Str.ofString "b") ∉ [Str.ofString "a"]; decide +kernel), (by show 1 ≤ 100; decide), fun H9 a s9 n1 n2 h9 => ?_⟩
        exact ⟨{ A' with fs := A'.fs ++ [a] }, _, _, _, _, rfl, eA, st.make oA' s9, oA'.made st n1 n2 h9, s9.keep_lst hM1 (by simpa using ne_of hM1 oA'.is.fd fun z => nomatch z)⟩
    · rintro σ H5 ⟨A', v4, v5, v6, v7, rfl, eA, st, oA', _⟩
      rw [← eA]
      generalize (1 + z) = m at m0 m1 ⊢
      clear z0 z1
      have go : ∃ d : DiskS, On K H H5 A' d ∧ Frst 0 d ∧ d.files = [newF "a", newF "b"] := by
        refine ⟨⟨W'.lo, W'.hi, W'.t, W'.b, W'.rule, W'.short, true, 0, [newF "a", newF "b"]⟩, oA', ⟨⟨Int.le_refl 0, fun f hf => ?_, Int.le_refl 0, Int.le_refl 0, wo'.sm, wo'.ru, by show 2 ≤ 3; decide⟩, hrule, rfl⟩, rfl⟩
        simp only [List.mem_cons, List.not_mem_nil, or_false] at hf
        rcases hf with rfl | rfl
        · exact FOk.fresh (Int.le_refl 0)
        · exact FOk.fresh (Int.le_refl 0)
      obtain ⟨d0, oD, fr0, fs0⟩ := go
      clear oA' eA st3 oA hM1 e1
      obtain ⟨a, ha, _⟩ := oD.is.file (show d0.files[0]? = some (newF "a") by rw [fs0]; rfl)
      obtain ⟨ss1, sz1, wb1⟩ := s_first fr0 fs0 m0 m1
      -- a grows
      refine ⟨_, rfl, A'.p, A'.dx, _, rfl, oD.is.ob, fd_m.2.2.2.1, _, rfl, A', d0, 0, newF "a", m, rfl, oD.is, by rw [fs0]; show [Str.ofString "a", Str.ofString "b"].Nodup; decide +kernel, by rw [fs0]; rfl, rfl, by omega, by omega, st.tb, wb1, fun H6 s6 hd6 => ?_⟩
      replace st := st.step s6 oD.fr
      replace oD : On K H H6 A' (growD d0 0 (newF "a") m) := ⟨hd6, oD.fr⟩
      clear hd6 s6 wb1
      generalize grownF d0 (newF "a") m = f1 at ss1 sz1
      generalize growD d0 0 (newF "a") m = d1 at ss1 oD
      clear fr0 fs0
      refine ⟨_, rfl, p, 2, rfl, st.pl, by decide, by decide, fun H7 y s7 hp7 _ _ => ⟨rfl, _, rfl, ?_⟩⟩
      replace oD := oD.draw st s7
      replace st := st.draw s7 hp7
      clear s7 hp7
      by_cases hy : V.int y = V.int 0
      case' pos =>
        rw [decide_eq_true hy]
        have hfa : FileAt K H7 A'.p a f1 := Paired.at2 oD.is.fs ha ss1.hf
        obtain ⟨ss2, wb2⟩ := s_more ss1
        have hs1 := ss1.fok.sh
        refine iteT ⟨_, rfl, _, rfl, A'.p, A'.dx, _, rfl, oD.is.ob, A', d1, 0, a, f1, by rw [ss1.nm], oD.is, ss1.names, ha, ss1.hf, a.f, a.dx, _, rfl, hfa.ob, a.f, a.dx, A'.p, a.l, _, _, _, _, rfl, hfa.ob, _, _, rfl, rfl, _, _, rfl, rfl, ?_⟩
        refine ⟨_, rfl, A'.p, A'.dx, _, rfl, oD.is.ob, fd_m.2.2.2.1, _, rfl, A'.p, A'.dx, _, rfl, oD.is.ob, A', d1, 0, a, f1, by rw [ss1.nm], oD.is, ss1.names, ha, ss1.hf, a.f, a.dx, _, rfl, hfa.ob, a.f, a.dx, A'.p, a.l, _, _, _, _, rfl, hfa.ob, _, _, rfl, rfl, ?_⟩
        refine ⟨A', d1, 0, f1, f1.hold - f1.size + 1, by rw [ss1.nm], oD.is, ss1.names, ss1.hf, ss1.op, by omega, ?_, st.tb, wb2, fun H8 s8 hd8 => ?_⟩
        · have := ss1.fok.hb
          have := ss1.fok.s0
          omega
        replace st := st.step s8 oD.fr
        replace oD : On K H H8 A' (growD d1 0 f1 (f1.hold - f1.size + 1)) := ⟨hd8, oD.fr⟩
        have hsz : m + (f1.hold - f1.size) + 1 = (grownF d1 f1 (f1.hold - f1.size + 1)).size := by
          rw [(grown_hold (d := d1) (f := f1) (many := f1.hold - f1.size + 1)).2, sz1]
          omega
        dsimp only
        generalize m + (f1.hold - f1.size) + 1 = mm at hsz ⊢
        generalize grownF d1 f1 (f1.hold - f1.size + 1) = f2 at ss2 hsz
        generalize growD d1 0 f1 (f1.hold - f1.size + 1) = d2 at ss2 oD
        clear hd8 s8 wb2 hfa
      case' neg =>
        rw [decide_eq_false hy]
        refine iteF ?_
        have ss2 : S2 2 d1 f1 := { toFrst := ss1.toFrst.mono (by decide), fs := ss1.fs, nm := ss1.nm, op := ss1.op, runs := ss1.runs, s1 := ss1.s1 }
        have hsz : m = f1.size := sz1.symm
        dsimp only
        generalize m = mm at hsz ⊢
        have oD2 := oD
        clear oD
        generalize f1 = f2 at ss2 hsz
        generalize d1 = d2 at ss2 oD2
        have oD := oD2
        clear oD2
      all_goals
        obtain ⟨ss3, wb3⟩ := s_b ss2
        have hfb : d2.files[1]? = some (newF "b") := by rw [ss2.fs]; rfl
        refine ⟨_, rfl, A'.p, A'.dx, _, rfl, oD.is.ob, fd_m.2.2.2.1, A', d2, 1, newF "b", 1, rfl, oD.is, ss2.names, hfb, rfl, by decide, by decide, st.tb, wb3, fun H9 s9 hd9 => ?_⟩
        replace st := st.step s9 oD.fr
        replace oD : On K H H9 A' (growD d2 1 (newF "b") 1) := ⟨hd9, oD.fr⟩
        generalize growD d2 1 (newF "b") 1 = d3 at ss3 oD
        generalize grownF d2 (newF "b") 1 = g at ss3
        clear hd9 s9 wb3 hfb ss2
        have hfa : FileAt K H9 A'.p a f2 := Paired.at2 oD.is.fs ha ss3.hf
        refine ⟨_, rfl, A'.p, A'.dx, _, rfl, oD.is.ob, A', d3, 0, a, f2, by rw [ss3.nm], oD.is, ss3.names, ha, ss3.hf, a.f, a.dx, _, rfl, hfa.ob, ff_pieces, a.f, a.dx, A'.p, a.l, _, _, _, _, _, rfl, hfa.ob, hfa.pl, fun H10 q e10 hq hpl => ?_⟩
        obtain ⟨ws, hq1, hq2⟩ := hpl
        rw [ss3.runs] at hq2
        obtain ⟨u, rfl, hu⟩ : ∃ u, ws = [u] ∧ H10 u = some (.tup (pairV (0, some f2.hold))) := by
          cases hq2 with
          | cons r q => cases q; exact ⟨_, rfl, r⟩
        refine ⟨q, _, V.ref u, rfl, hq1, rfl, u, (0, some f2.hold), rfl, hu, _, rfl, _, _, rfl, rfl, ?_⟩
        replace st := st.same e10
        replace oD := oD.same e10
        replace hfa : FileAt K H10 A'.p a f2 := Paired.at2 oD.is.fs ha ss3.hf
        refine ⟨_, rfl, A'.p, A'.dx, _, rfl, oD.is.ob, A', d3, 0, a, f2, by rw [ss3.nm], oD.is, ss3.names, ha, ss3.hf, a.f, a.dx, _, rfl, hfa.ob, a.f, a.dx, A'.p, a.l, _, _, _, _, rfl, hfa.ob, ?_⟩
        have hfo := ss3.fok
        have hsh := hfo.sh
        have wb4 : WB d3 f2 0 := ss3.toFrst.wb ss3.hf (by omega) (by unfold needM; omega)
        refine ⟨_, rfl, A'.p, A'.dx, _, rfl, oD.is.ob, fd_m.2.2.2.2.1, A', d3, 0, f2, by rw [ss3.nm], oD.is, ss3.names, ss3.hf, ss3.op, hsh, by have := hfo.s0; have := hfo.hr; omega, fun r hr => (hfo.rs r hr).2.1, st.tb, wb4, fun H11 s11 hd11 => ?_⟩
        replace st := st.step s11 oD.fr
        replace oD : On K H H11 A' (closeD d3 0 f2) := ⟨hd11, oD.fr⟩
        clear hd11 s11 wb4 hq1 hq2 hu hq e10 hfa
        have esf := shut_files ss3
        refine ⟨_, rfl, A'.p, A'.dx, _, rfl, oD.is.ob, fd_m.2.2.2.2.2.2, A', closeD d3 0 f2, "c", rfl, oD.is, .inr (.inr rfl), by
          rw [esf]
          show Str.ofString "c" ∉ [(closedF d3 f2).name, g.name]
          rw [closed_name.1, ss3.nm, ss3.nmb]
          decide +kernel, by rw [esf]; show 2 ≤ 100; decide, fun H12 a2 s12 n1 n2 h12 => ?_⟩
        have oC : On K H H12 { A' with fs := A'.fs ++ [a2] } (shutC d3 f2) := oD.made st n1 n2 h12
        replace st := st.make oD s12
        have ep : A'.p = ({ A' with fs := A'.fs ++ [a2] } : DAd).p := rfl
        generalize ({ A' with fs := A'.fs ++ [a2] } : DAd) = B' at oC ep
        rw [ep]
        clear h12 s12 n1 n2 oD
        obtain ⟨efs, names5, wb5, hgiv, st0, hruns, hbig, hsm⟩ := s_c ss3
        have hf5 : (shutC d3 f2).files[2]? = some (newF "c") := by rw [efs]; rfl
        obtain ⟨ac, hac, _⟩ := oC.is.file hf5
        refine ⟨_, rfl, B'.p, B'.dx, _, rfl, oC.is.ob, fd_m.2.2.2.1, B', shutC d3 f2, 2, newF "c", 1, rfl, oC.is, names5, hf5, rfl, by decide, by decide, st.tb, wb5, fun H13 s13 hd13 => ?_⟩
        rw [hgiv]
        replace st := st.step s13 oC.fr
        replace oC : On K H H13 B' (growD (shutC d3 f2) 2 (newF "c") 1) := ⟨hd13, oC.fr⟩
        have hf6 : (growD (shutC d3 f2) 2 (newF "c") 1).files[2]? = some (grownF (shutC d3 f2) (newF "c") 1) := set_at hf5
        have nm6 : (grownF (shutC d3 f2) (newF "c") 1).name = "c" := grown_name.1
        have names6 : ((growD (shutC d3 f2) 2 (newF "c") 1).files.map (·.name)).Nodup := by
          show (((shutC d3 f2).files.set 2 _).map (·.name)).Nodup
          rw [names_set hf5 grown_name.1]
          exact names5
        have hfc : FileAt K H13 B'.p ac (grownF (shutC d3 f2) (newF "c") 1) := Paired.at2 oC.is.fs hac hf6
        generalize growD (shutC d3 f2) 2 (newF "c") 1 = d6 at oC hf6 names6
        generalize grownF (shutC d3 f2) (newF "c") 1 = fc at hf6 nm6 hfc hruns
        clear hd13 s13 wb5 hgiv hf5 names5 efs
        refine ⟨_, rfl, _, rfl, _, _, rfl, rfl, _, rfl, ?_⟩
        show if decide (d3.lo > f2.hold - f2.size) = true then _ else _
        by_cases hl : d3.lo > f2.hold - f2.size
        · rw [decide_eq_true hl]
          refine iteT ⟨_, rfl, B'.p, B'.dx, _, rfl, oC.is.ob, B', d6, 2, ac, fc, by rw [nm6], oC.is, names6, hac, hf6, ac.f, ac.dx, _, rfl, hfc.ob, ff_pieces, ac.f, ac.dx, B'.p, ac.l, _, _, _, _, _, rfl, hfc.ob, hfc.pl, fun H14 q e14 hq hpl => ⟨Nat.zero_le _, fun L hL => ?_⟩⟩
          rw [hruns] at hpl
          have e15 := Same.upd_new (o := .lst []) hL
          have dpe : PL (upd H14 L (.lst [])) L [] := ⟨[], upd_same, .nil⟩
          refine ⟨pdL [fin (st0, d3.lo)], pdL [], (hpl.same e15).dp, dpe.dp, pd_shaped _, pd_shaped _, _, rfl, ?_⟩
          rw [show (!PyData.eqv (pdL [fin (st0, d3.lo)]) (pdL [])) = true from by simp [pdL, PyData.eqv, PyData.eqvAll]]
          have e145 := Same.trans e14 e15
          replace st := st.same e145
          replace oC := oC.same e145
          have hfc2 : FileAt K (upd H14 L (.lst [])) B'.p ac fc := Paired.at2 oC.is.fs hac hf6
          generalize upd H14 L (.lst []) = H15 at st oC hfc2 ⊢
          refine iteT ⟨_, rfl, B'.p, B'.dx, _, rfl, oC.is.ob, B', d6, 2, ac, fc, by rw [nm6], oC.is, names6, hac, hf6, ac.f, ac.dx, _, rfl, hfc2.ob, ff_pieces, ac.f, ac.dx, B'.p, ac.l, _, _, _, _, _, rfl, hfc2.ob, hfc2.pl, fun H16 q2 e16 hq2 hpl2 => ?_⟩
          rw [hruns] at hpl2
          obtain ⟨ws, hz1, hz2⟩ := hpl2
          obtain ⟨u2, rfl, hu2⟩ : ∃ u, ws = [u] ∧ H16 u = some (.tup (pairV (st0, some d3.lo))) := by
            cases hz2 with
            | cons r q => cases q; exact ⟨_, rfl, r⟩
          refine ⟨q2, _, V.ref u2, rfl, hz1, rfl, u2, (st0, some d3.lo), rfl, hu2, _, rfl, _, _, rfl, rfl, ?_⟩
          replace st := st.same e16
          have hlast : decide (st0 > 0 + mm) = true := decide_eq_true (by have := hbig hl; omega)
          show Q (.bl (decide (st0 > 0 + mm))) H16
          rw [hlast]
          exact k H16 W' .non true false st.st st.pl st.wo wo'
        · rw [decide_eq_false hl]
          refine iteF ⟨_, rfl, B'.p, B'.dx, _, rfl, oC.is.ob, B', d6, 2, ac, fc, by rw [nm6], oC.is, names6, hac, hf6, ac.f, ac.dx, _, rfl, hfc.ob, ff_pieces, ac.f, ac.dx, B'.p, ac.l, _, _, _, _, _, rfl, hfc.ob, hfc.pl, fun H14 q e14 hq hpl => ?_⟩
          rw [hruns, hsm hl] at hpl
          refine ⟨_, rfl, _, rfl, (by show 2 ≤ sizeLine; decide), fun v hv => ⟨(by show 1 ≤ sizeLine; decide), fun L hL => ?_⟩⟩
          have e15 := Same.upd_new (o := .tup [.int (0 + mm), .int d3.lo]) hv
          have e16 := Same.upd_new (o := .lst [V.ref v]) hL
          have e56 := Same.trans e15 e16
          have hmm : (0 : Int) + mm = f2.size := by omega
          have dpe : PL (upd (upd H14 v (.tup [.int (0 + mm), .int d3.lo])) L (.lst [V.ref v])) L [fin (f2.size, d3.lo)] := ⟨[v], upd_same, .cons (by rw [← hmm]; exact e16 _ _ upd_same) .nil⟩
          refine ⟨pdL [fin (f2.size, d3.lo)], pdL [fin (f2.size, d3.lo)], (hpl.same e56).dp, dpe.dp, pd_shaped _, pd_shaped _, ?_⟩
          rw [pd_refl]
          replace st := st.same (Same.trans e14 e56)
          exact k _ W' .non true false st.st st.pl st.wo wo'
end
end GF

set_option Elab.async false
set_option linter.all false
set_option maxRecDepth 100000
set_option maxHeartbeats 4000000
namespace GF
open PySem PySem.Spec PyProof.Rows L2
/-! ## law -/
theorem SqL.stp {K : PySem.W.Frag} {H H' : Hp} {a : Addr} {xs : List V} (h : SqL K H a xs) (s : Stp K [] H H') : SqL K H' a xs := by
  rcases h with (e | ⟨o, e⟩) | h
  · exact .inl (.inl (s.chg.keep _ _ e (by simp) fun _ z => nomatch z))
  · exact .inl (.inr ⟨o, s.chg.keep _ _ e (by simp) fun _ z => nomatch z⟩)
  · exact .inr h
section
variable {P : Program} {w : World} {K : PySem.W.Frag} {mg : Str → Option Value} {base : Heap}
def sp_law (K : PySem.W.Frag) : Sp := fun vs H Q _ => ∃ (a : Addr) (ns : List Int), vs = [.ref a] ∧ SqL K H a (ns.map V.int) ∧ ns.length ≤ 1000000 ∧ Tab K H ∧ ∀ H', Q (.bl true) H'
theorem sc_law : FnScope ["_law_script", "_law_k", "_law_pool", "_law_world"] ["_law_script"] (defScope s_law) := ⟨rfl, rfl, rfl, by decide +kernel, rfl, by decide +kernel, by decide +kernel⟩
theorem p_law (T : Txt K mg) (TB : LamX.TabB base mg (jC K) (jP K)) {fd : FuncData} (F : Fun K "law" "law" s_law (He.ga K "law") fd) : FnOk P w K mg base CX0 17 (He.ga K "law") fd ["_law_script"] (sp_law K) := by
  refine F.ok sc_law (fun vs H Q E h => ?_) fun cdv A0 outer s H vs Q E hr h => ?_
  · obtain ⟨a, ns, rfl, _⟩ := h
    rfl
  · obtain ⟨a, ns, rfl, ha, hn, tb, k⟩ := h
    have nd := sc_law.nd
    refine ⟨_, (pss_cons (ps_for PassesOwn.never rfl (pi_range1 rfl T.f_range (pa_cons (pe_callB (call_max2 rfl) (by rfl) T.f_max (by decide +kernel) (pa_cons pe_int (pa_cons (pe_callB (call_min2 rfl) (by rfl) T.f_min (by decide +kernel) (pa_cons (pe_callB call_len_seq (by rfl) T.f_len PySem.boot_len (pa_cons (pv 0) pa_nil)) (pa_cons pe_int pa_nil))) pa_nil))) pa_nil)) (pg_name (i := 1) nd rfl (Or.inl rfl))
      (pss_cons (ps_set (i := 2) nd rfl (Or.inl rfl) (pe_callR (p_hand T) (hr.mono (by decide)) T.g_law_hand (kp_law_hand T) (pa_cons (pv 0) (pa_cons (pv 1) pa_nil))))
        (pss_cons (ps_set (i := 3) nd rfl (Or.inl rfl) (pe_callR (p_rules T) (hr.mono (by decide)) T.g_law_rules (kp_law_rules T) (pa_cons (pv 2) pa_nil)))
        (pss_cons (ps_if (PW.pt (pw_or (pt_not (pt_val (pe_callR (p_kept T TB) hr T.g_law_kept_right (kp_law_kept_right T) (pa_cons (pv 2) (pa_cons (pv 3) pa_nil))))) (pw_or1 (pt_not (pt_val (pe_callR (p_back T TB) hr T.g_law_back_right (kp_law_back_right T) (pa_cons (pv 2) (pa_cons (pv 3) pa_nil))))))))
        (pss_one (ps_ret pe_bl))
        pss_nil)
        (pss_one (ps_if (pt_not (pt_val (pe_callR (p_given T TB) hr T.g_law_given_back_right (kp_law_given_back_right T) (pa_cons (pv 2) (pa_cons (pv 3) pa_nil)))))
        (pss_one (ps_ret pe_bl))
        pss_nil))))))
      (pss_one (ps_ret pe_bl))), ?_⟩
    have hN : ∀ L : Int, 1 ≤ (if (if (4 : Int) < L then 4 else L) > 1 then (if (4 : Int) < L then 4 else L) else 1) ∧ (if (if (4 : Int) < L then 4 else L) > 1 then (if (4 : Int) < L then 4 else L) else 1) ≤ 4 := fun L => by
      split <;> split <;> omega
    obtain ⟨n1, n4⟩ := hN (((ns.map V.int).length : Nat) : Int)
    refine ⟨_, rfl, a, _, rfl, .inl ha, _, _, rfl, _, _, rfl, _, rfl, ?_, ?_, for_range (fun i σ H' => ∃ v1 v2 v3 : Option V, σ = [some (.ref a), v1, v2, v3] ∧ Stp K [] H H') ⟨none, none, none, rfl, Stp.refl⟩ ?_ ?_⟩
    · exact Int.le_trans (by decide) n1
    · exact Int.lt_of_le_of_lt n4 (by decide)
    · rintro i σ H1 hi ⟨v1, v2, v3, rfl, s1⟩
      have hi4 : i < 4 := by
        refine Nat.lt_of_lt_of_le hi ?_
        have := Int.toNat_le_toNat n4
        exact this
      refine ⟨_, rfl, _, rfl, a, ns, 0 + (i : Int), rfl, SqL.stp ha s1, hn, by omega, by omega, fun H2 p e2 hp0 hp => ?_⟩
      refine ⟨_, rfl, p, rfl, hp, fun H3 wd W size back late s3 hp3 hw0 hw wo => ?_⟩
      have s13 : Stp K [] H1 H3 := ((Stp.of_same (M := [p]) e2).trans s3).new fun b hb => by
        rw [List.mem_singleton.mp hb]
        exact .inr (.none hp0)
      have hwd1 : H1 wd = none := Same.none e2 hw0
      have tb3 : Tab K H3 := (s1.trans s13).tab tb
      have fin : ∀ H' : Hp, Stp K [p, wd] H3 H' → Stp K [] H H' := fun H' s => s1.trans <| (((s13.mono (N := [p, wd]) (by simp)).trans s).new fun b hb => by
        simp only [List.mem_cons, List.not_mem_nil, or_false] at hb
        rcases hb with rfl | rfl
        · exact .inr (.none hp0)
        · exact .inr (.none hwd1))
      refine ⟨_, rfl, _, rfl, p, wd, W, size, back, late, rfl, hp3, hw, wo, tb3, fun H4 W4 size4 back4 late4 s4 hp4 hw4 wo4 => ⟨_, rfl, iteF ?_⟩⟩
      refine ⟨_, rfl, _, rfl, p, wd, W4, size4, back4, late4, rfl, hp4, hw4, wo4, s4.tab tb3, fun H5 W5 size5 back5 late5 s5 hp5 hw5 wo5 => ⟨_, rfl, iteF ?_⟩⟩
      refine ⟨_, rfl, _, rfl, p, wd, W5, size5, back5, late5, rfl, hp5, hw5, wo5, (s4.trans s5).tab tb3, fun H6 W6 size6 back6 late6 s6 hp6 hw6 wo6 => ⟨_, rfl, iteF ?_⟩⟩
      exact ⟨_, _, _, rfl, fin H6 (s4.trans (s5.trans s6))⟩
    · rintro σ H1 ⟨v1, v2, v3, rfl, s1⟩
      exact k H1
end
end GF

set_option Elab.async false
set_option linter.all false
set_option maxRecDepth 100000
set_option maxHeartbeats 0
namespace GF
open PySem PySem.Spec PyProof.Rows L2
theorem at_law {w : World} {K : PySem.W.Frag} {mg : Str → Option Value} {fa : Addr} {h : Heap} (X : K.In h) (G : h.Ns PySem.mainGlobals mg) (S : Says h K) (hmg : mg "law" = some (.ref fa)) :
    LamX.LawAtS PySem.Challenge.rw_grownfiles_k30_whole_closing_and_growing w K CX0 17 63 "_law_script" mg fa h := by
  have T := txt_of X G S
  have e : fa = He.ga K "law" := by
    have z := hmg.symm.trans T.g_law
    injection z with z
    injection z with z
  subst e
  obtain ⟨fd, F⟩ := T.d_law
  refine ⟨fd, [(jC K, jP K)], sp_law K, fun p hp => ?_, fun p hp => ?_, fun p hp => ?_, fun s u => ?_, fun H a ns hl _ hT hS => ?_, fun base _ _ TB => ?_⟩
  · rw [List.mem_singleton.mp hp]
    exact S.empty
  · rw [List.mem_singleton.mp hp]
    exact S.out
  · rw [List.mem_singleton.mp hp]
    exact PySem.W.codeHd_of_K X S.hd
  · obtain ⟨oc, od, kV, doc, pm, an, cdv, ct, osl, rfl, lk, hcd⟩ := F.ex
    exact BindsTo.of_eq rfl
  · exact ⟨a, ns, rfl, hS, by omega, LamX.TabS.nil (hT _ (List.mem_singleton.mpr rfl)), fun _ => rfl⟩
  · exact p_law T (TB _ (List.mem_singleton.mpr rfl)) F
end GF
open PySem PySem.W PySem.Calls PyProof.Rows
theorem PySem.Challenge.cw_grownfiles_k30_whole_closing_and_growing_holds : PySem.Challenge.rw_grownfiles_k30_whole_closing_and_growing.Holds := by
  w_on; o_law
  refine HandSHeadRun.head_any (r := GF.R) (q := view GF.R.prog [79]) (H := GF.hookG) (ob := GF.ob) (M := 60000) (loose := GF.names) (d := HandSHeadRun.topDef GF.R.prog 79) (kwd := []) GF.ob_eq
    (by kernel_rfl) (fun s => by kernel_rfl) GF.run (by kernel_rfl) (by kernel_rfl) (by kernel_rfl) (by rfl) (by first | assumption | decide +kernel) (by decide +kernel) ⟨rfl, rfl, rfl, rfl, rfl, by decide +kernel⟩ ?hw ?hc
  case hw => w_witness2
  case hc =>
    refine LamX.walk_ofTsE (l := PySem.Challenge.rw_grownfiles_k30_whole_closing_and_growing) (n := 63) (k := 17) (x := "_law_script") (CX := fun _ => L2.CX0) rfl (by decide) (by kernel_rfl) ⟨rfl, by decide, by decide⟩ ?F (fun _ _ _ _ _ z => z)
    intro w mg fa h Y G hmg0
    obtain ⟨K, KX, c⟩ := Y
    have hmg : mg ("law" : PySem.Str) = some (.ref fa) := by
      have e : (HandSHeadRun.topDef GF.R.prog 79).name = ("law" : PySem.Str) := by kernel_rfl
      rw [← e]
      exact hmg0
    exact ⟨K, KX, GF.at_law KX G c hmg⟩

