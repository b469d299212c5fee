import PyProof.Rows.All
import Wide.All
import OpenK.AllK
import Wide.FinOn
import HandS.TupAny
import HandS.TupMul
import HandS.SetFor
import HandS.ForMost
import KE.KeyNested
import KE.KDictKeyed
import HandS.Property
import HandS.Defaults
import HandS.ClsMeth
import HandS.MakeKw
import HandS.Zip
import HandS.Deep
import HandS.TupLe
import HandS.WideBits
import HandS.Star
import HandS.OwnEq
import HandS.IsInst
import HandS.Style
import HandS.Conv
import HandS.StrMore
import HandS.RaiseMore
import KE.DataMinMax
import KE.SortData
import KE.SortCalls
import KE.KTupSum
import HandS.TryOnly
import HandS.Text
import KE.KDictSum
import KE.KDictCopyH
import HandS.TupSets
import HandS.FStr
import HandS.Iter
import HandS.HeadHook1
import HandS.HeadHook2
import HandS.HeadNt
import HandS.HeadEnd
import HandS.Exc
import HandS.ExcOwn
import HandS.ExcInit
import HandS.ExcField
import HandS.WordsExc
import HandS.Codes
import PyProof.ListStr
import PyProof.ZipIter
import PyProof.MeetsSeq2
import PyProof.ListNew
import KE.KItemsList
import KE.GoesMore
import HandS.Zip0
import KE.KStar
import KE.KStateDown
import Lean
import HandS.Head0
import HandS.Head1
import HandS.Head2
import KE.KIntText
import PySem.Challenge.RW_nearsettled_k39_agreements_judged
set_option Elab.async false
set_option linter.all false
set_option maxRecDepth 100000
namespace Pd
open PySem PySem.Spec PyProof.Rows L2
def clsBody (s : Stmt) : List Stmt := match s with
  | .ClassDef _ _ _ b _ _ _ _ _ _ _ => b
  | _ => []
def tyNames : List String := ["NoneType", "bool", "int", "str", "list", "tuple"]
/-! ### the head -/
/-- what is read off the head: Bools, defs -/
def obsP (ex : PySem.W.Frag → List Bool) (fn : List He5.DefA) (K : PySem.W.Frag) : He.AlD := ((ex K).all (fun b => b) && fn.all (fun d => d.ok K), fn.map fun d => He5.fnA K (d.at_ K))
def SaysP (ex : PySem.W.Frag → List Bool) (fn : List He5.DefA) (K : PySem.W.Frag) : Prop := obsP ex fn K = He5.valA fn
def obsPG (n : Nat) (ex : PySem.W.Frag → List Bool) (fn : List He5.DefA) (g : Addr → Option Obj) : He.AlD := obsP ex fn (He.frG g (He5.asA g n))
def hookP (n : Nat) (ex : PySem.W.Frag → List Bool) (fn : List He5.DefA) : PySem.W.Hook where
  α := He.AlD
  obs := fun s => obsPG n ex fn s.heap.get?
  val := fun _ => He5.valA fn
  says := fun _ h => ∃ K : PySem.W.Frag, K.In h ∧ SaysP ex fn K
  of := fun _ _ e => ⟨_, He.frG_in, e⟩
  keeps := fun _ _ _ ⟨K, hK, c⟩ k => ⟨K, PySem.W.Frag.In.keeps hK k, c⟩
theorem obsPG_eq {n : Nat} {ex : PySem.W.Frag → List Bool} {fn : List He5.DefA} {g : Addr → Option Obj} {s : Shared} (h : ∀ a, g a = s.heap.get? a) : obsPG n ex fn g = (hookP n ex fn).obs s := by
  have e : g = s.heap.get? := funext h
  subst e
  rfl
section
variable {ex : PySem.W.Frag → List Bool} {fn : List He5.DefA} {K : PySem.W.Frag}
theorem SaysP.fact (c : SaysP ex fn K) (i : Nat) {b : Bool} (h : (ex K)[i]? = some b) : b = true := by
  have c1 := (He.ba (show ((ex K).all (fun b => b) && fn.all fun d => d.ok K) = true from congrArg (fun z : He.AlD => z.1) c)).1
  exact List.all_eq_true.mp c1 b (List.mem_of_getElem? h)
theorem SaysP.all (c : SaysP ex fn K) {b : Bool} (h : b ∈ ex K) : b = true := by
  have c1 := (He.ba (show ((ex K).all (fun b => b) && fn.all fun d => d.ok K) = true from congrArg (fun z : He.AlD => z.1) c)).1
  exact List.all_eq_true.mp c1 b h
theorem SaysP.def_ (c : SaysP ex fn K) (i : Nat) {d : He5.DefA} (h : fn[i]? = some d := by rfl) : ∃ fd, FunD K d.name d.qual d.params d.body d.scope (d.dvs K) (d.kws K) (d.at_ K) fd := by
  have c2 := (He.ba (show ((ex K).all (fun b => b) && fn.all fun d => d.ok K) = true from congrArg (fun z : He.AlD => z.1) c)).2
  have e : fn.map (fun d => He5.fnA K (d.at_ K)) = fn.map He5.DefA.val := congrArg (fun z : He.AlD => z.2) c
  have e2 : (fn.map fun d => He5.fnA K (d.at_ K))[i]? = (fn.map He5.DefA.val)[i]? := by rw [e]
  rw [List.getElem?_map, List.getElem?_map, h] at e2
  exact He5.DefA.funD (Option.some.inj e2) (List.all_eq_true.mp c2 d (List.mem_of_getElem? h))
end
/-- a property's getter -/
def pAd (K : PySem.W.Frag) (C : Addr) (m : Str) : Addr := match PySem.W.recIn K (He.ma K C m) "property" with
  | some (.ref g :: _) => g
  | _ => 0
def propB (K : PySem.W.Frag) (C : Addr) (m : Str) : Bool := He.eqO (PySem.W.findIn K (.ref C) m) (some (some (.ref (He.ma K C m)))) && (He.eqO (PySem.W.specialIn K (.ref (He.ma K C m)) "__get__") (some (some (.builtin "property.__get__"))) && (decide (PySem.W.takesIn K (.ref (He.ma K C m)) = some true) &&
  (match PySem.W.recIn K (He.ma K C m) "property" with
  | some (.ref _ :: _) => true
  | _ => false)))
theorem propB_ok {K : PySem.W.Frag} {C : Addr} {m : Str} (h : propB K C m = true) : PropOf K C m (He.ma K C m) (pAd K C m) := by
  obtain ⟨h1, h⟩ := He.ba h
  obtain ⟨h2, h⟩ := He.ba h
  obtain ⟨h3, h4⟩ := He.ba h
  refine ⟨He.eqO_ok h1, He.eqO_ok h2, of_decide_eq_true h3, ?_⟩
  unfold pAd
  split at h4
  · rename_i g r e
    exact ⟨r, by rw [e]⟩
  · cases h4
/-- a special method -/
def dunB (K : PySem.W.Frag) (C : Addr) (m : Str) : Bool := He.eqO (PySem.W.findIn K (.ref C) m) (some (some (.ref (He.ma K C m)))) && (PySem.W.isFn K (.ref (He.ma K C m)) && PySem.W.fnIn K (He.ma K C m))
theorem dunB_ok {K : PySem.W.Frag} {C : Addr} {m : Str} (h : dunB K C m = true) : PySem.W.findIn K (.ref C) m = some (some (.ref (He.ma K C m))) ∧ PySem.W.isFn K (.ref (He.ma K C m)) = true ∧ PySem.W.fnIn K (He.ma K C m) = true := by
  obtain ⟨h1, h⟩ := He.ba h
  obtain ⟨h2, h3⟩ := He.ba h
  exact ⟨He.eqO_ok h1, h2, h3⟩
def obcB (K : PySem.W.Frag) (C : Addr) : Bool := He.eqO (PySem.W.findIn K (.ref C) "__class__") (some (some (.builtin "object.__class__"))) && (He.eqO (PySem.W.specialIn K (.builtin "object.__class__") "__get__") (some (some (.builtin "getset_descriptor.__get__"))) &&
  (decide (PySem.W.takesIn K (.builtin "object.__class__") = some true) && decide (PySem.W.mroIn K C (.type "object") = some true)))
def neB (K : PySem.W.Frag) (C : Addr) : Bool := He.eqO (PySem.W.findIn K (.ref C) "__ne__") (some (some (.builtin "object.__ne__"))) && decide (PySem.W.subIn K (.ref C) (.type "object") = some true)
abbrev Bls := List (PySem.W.Frag → Bool)
def exOf (l : Bls) (K : PySem.W.Frag) : List Bool := l.map fun f => f K
def kitB (x : Str) (v : PySem.W.Frag → Value) (b : Bool) (K : PySem.W.Frag) : Bool := decide (PySem.W.kitOne K (.ref (He.ga K x)) (v K) = some b)
def faB (f : He.Fa) (K : PySem.W.Frag) : Bool := f.ok K
def obB (x : Str) (K : PySem.W.Frag) : Bool := obcB K (He.ga K x)
def neB' (x : Str) (K : PySem.W.Frag) : Bool := neB K (He.ga K x)
def duB (x m : Str) (K : PySem.W.Frag) : Bool := dunB K (He.ga K x) m
def prB (x m : Str) (K : PySem.W.Frag) : Bool := propB K (He.ga K x) m
def smB (x m : Str) (K : PySem.W.Frag) : Bool := He5.wrapB K (He.ga K x) "staticmethod" "staticmethod.__get__" m
def crB (x : Str) (K : PySem.W.Frag) : Bool := PySem.W.readsIn K (He.ga K x) (.type "type")
def tyB (x : Str) (K : PySem.W.Frag) : Bool := tyNames.all fun s => decide (PySem.W.kitOne K (.type s) (.ref (He.ga K x)) = some false)
def oexB (K : PySem.W.Frag) (C : Addr) : Bool := match K.lookup C with
  | some ⟨.type "type", _, .cls cd, sl⟩ => (match cd.mro, sl.toList with
    | .ref C' :: bm, [_, _, _, _, some (.builtin n), _] => decide (C' = C) && decide (n = "ValueError.__new__") && !cd.hasDel && cd.hasDict && PySem.HandSPX.refsVE bm
    | _, _ => false)
  | _ => false
/-- all that is asked of the class x -/
def erB (x : Str) (K : PySem.W.Frag) : Bool := oexB K (He.ga K x) && (He.eqO (PySem.W.findIn K (.ref (He.ga K x)) "__setattr__") (some (some (.builtin "object.__setattr__"))) && (decide (PySem.W.subIn K (.ref (He.ga K x)) (.type "BaseException") = some true) &&
  (decide (PySem.W.typeIn K (.ref (He.ga K x)) = some (.type "type")) && (PySem.W.keepIn K (.ref (He.ga K x)) && (xfB K (He.ga K x) && (decide (PySem.W.exmOne K (.ref (He.ga K x)) (.ref (He.ga K x)) = some true) &&
  (He.eqO (PySem.W.findIn K (.ref (He.ga K x)) "__init__") (some (some (.ref (He.fAd K (x, some "__init__"))))) && decide (PySem.W.typeIn K (.ref (He.fAd K (x, some "__init__"))) = some (.type "function")))))))))
end Pd
set_option maxHeartbeats 0
namespace L39
open PySem PySem.Spec PyProof.Rows L2 Pd
def top (i : Nat) : Stmt := PySem.Challenge.pw_nearsettled_k39_agreements_judged.main.body.getD i (.Pass ⟨0, 0, 0, 0⟩)
def cbody (i j : Nat) : Stmt := (clsBody (top i)).getD j (.Pass ⟨0, 0, 0, 0⟩)
abbrev s__law_feed : Stmt := top 44
abbrev s__law_take : Stmt := top 45
abbrev s__law_pick : Stmt := top 46
abbrev s__law_width : Stmt := top 50
abbrev s__law_all : Stmt := top 47
abbrev s__law_agreement : Stmt := top 58
abbrev s__law_together : Stmt := top 54
abbrev s__law_cell : Stmt := top 53
abbrev s__law_given : Stmt := top 55
abbrev s__law_closed : Stmt := top 57
abbrev s__law_drawn_row : Stmt := top 48
abbrev s__law_drawn_rows : Stmt := top 49
abbrev s__law_agreeing : Stmt := top 59
abbrev s_within : Stmt := top 20
abbrev s_check_width : Stmt := top 22
abbrev s_Book_init : Stmt := cbody 28 0
abbrev s_check_arity : Stmt := top 23
abbrev s_is_row : Stmt := top 21
abbrev s_Table_init : Stmt := cbody 25 0
abbrev s__law_program_table : Stmt := top 51
abbrev s__law_program_book : Stmt := top 52
abbrev s__law_agrees : Stmt := top 60
abbrev s__law_keeps : Stmt := top 56
abbrev s_check_near : Stmt := top 32
abbrev s_is_use : Stmt := top 29
abbrev s_Puzzle_init : Stmt := cbody 30 0
abbrev s_tuples_of : Stmt := top 24
abbrev s_odd_ones : Stmt := top 36
abbrev s_Operation_agrees : Stmt := cbody 37 4
abbrev s_Book_tables : Stmt := cbody 28 1
abbrev s_rows_together : Stmt := top 38
abbrev s_Table_rows : Stmt := cbody 25 1
abbrev s_Puzzle_rows : Stmt := cbody 30 1
abbrev s_Table_contains : Stmt := cbody 25 3
abbrev s_columns : Stmt := top 39
abbrev s_cell_of : Stmt := top 35
abbrev s_Operation_call : Stmt := cbody 37 2
abbrev s_breaks : Stmt := top 40
abbrev s_shows_agreement : Stmt := top 42
abbrev s_Operation_init : Stmt := cbody 37 0
abbrev s_Table_eq : Stmt := cbody 25 4
abbrev s_Book_eq : Stmt := cbody 28 5
abbrev s_Operation_taking : Stmt := cbody 37 6
abbrev s__law_other_number_refused : Stmt := top 61
abbrev s_Table_full : Stmt := cbody 25 10
abbrev s_law : Stmt := top 62
end L39
namespace H39
open PySem PySem.Spec PyProof.Rows L2 Pd L39
def dA_law : He5.DefA := ⟨fun K => He.fAd K ("law", none), "law", "law", defArgs s_law, defBody s_law, defScope s_law, [], []⟩
def dA__law_feed : He5.DefA := ⟨fun K => He.fAd K ("_law_feed", none), "_law_feed", "_law_feed", defArgs s__law_feed, defBody s__law_feed, defScope s__law_feed, [], []⟩
def dA__law_width : He5.DefA := ⟨fun K => He.fAd K ("_law_width", none), "_law_width", "_law_width", defArgs s__law_width, defBody s__law_width, defScope s__law_width, [], []⟩
def dA__law_pick : He5.DefA := ⟨fun K => He.fAd K ("_law_pick", none), "_law_pick", "_law_pick", defArgs s__law_pick, defBody s__law_pick, defScope s__law_pick, [], []⟩
def dA__law_take : He5.DefA := ⟨fun K => He.fAd K ("_law_take", none), "_law_take", "_law_take", defArgs s__law_take, defBody s__law_take, defScope s__law_take, [], []⟩
def dA__law_agreeing : He5.DefA := ⟨fun K => He.fAd K ("_law_agreeing", none), "_law_agreeing", "_law_agreeing", defArgs s__law_agreeing, defBody s__law_agreeing, defScope s__law_agreeing, [], []⟩
def dA__law_agreement : He5.DefA := ⟨fun K => He.fAd K ("_law_agreement", none), "_law_agreement", "_law_agreement", defArgs s__law_agreement, defBody s__law_agreement, defScope s__law_agreement, [], []⟩
def dA__law_all : He5.DefA := ⟨fun K => He.fAd K ("_law_all", none), "_law_all", "_law_all", defArgs s__law_all, defBody s__law_all, defScope s__law_all, [], []⟩
def dA__law_closed : He5.DefA := ⟨fun K => He.fAd K ("_law_closed", none), "_law_closed", "_law_closed", defArgs s__law_closed, defBody s__law_closed, defScope s__law_closed, [], []⟩
def dA__law_together : He5.DefA := ⟨fun K => He.fAd K ("_law_together", none), "_law_together", "_law_together", defArgs s__law_together, defBody s__law_together, defScope s__law_together, [], []⟩
def dA__law_given : He5.DefA := ⟨fun K => He.fAd K ("_law_given", none), "_law_given", "_law_given", defArgs s__law_given, defBody s__law_given, defScope s__law_given, [], []⟩
def dA__law_cell : He5.DefA := ⟨fun K => He.fAd K ("_law_cell", none), "_law_cell", "_law_cell", defArgs s__law_cell, defBody s__law_cell, defScope s__law_cell, [], []⟩
def dA__law_drawn_rows : He5.DefA := ⟨fun K => He.fAd K ("_law_drawn_rows", none), "_law_drawn_rows", "_law_drawn_rows", defArgs s__law_drawn_rows, defBody s__law_drawn_rows, defScope s__law_drawn_rows, [], []⟩
def dA__law_drawn_row : He5.DefA := ⟨fun K => He.fAd K ("_law_drawn_row", none), "_law_drawn_row", "_law_drawn_row", defArgs s__law_drawn_row, defBody s__law_drawn_row, defScope s__law_drawn_row, [], []⟩
def dA__law_program_book : He5.DefA := ⟨fun K => He.fAd K ("_law_program_book", none), "_law_program_book", "_law_program_book", defArgs s__law_program_book, defBody s__law_program_book, defScope s__law_program_book, [], []⟩
def dA_Book_init : He5.DefA := ⟨fun K => He.fAd K ("Book", some "__init__"), "__init__", "Book.__init__", defArgs s_Book_init, defBody s_Book_init, defScope s_Book_init, [], []⟩
def dA_check_width : He5.DefA := ⟨fun K => He.fAd K ("check_width", none), "check_width", "check_width", defArgs s_check_width, defBody s_check_width, defScope s_check_width, [], []⟩
def dA_within : He5.DefA := ⟨fun K => He.fAd K ("within", none), "within", "within", defArgs s_within, defBody s_within, defScope s_within, [], []⟩
def dA__law_program_table : He5.DefA := ⟨fun K => He.fAd K ("_law_program_table", none), "_law_program_table", "_law_program_table", defArgs s__law_program_table, defBody s__law_program_table, defScope s__law_program_table, [], []⟩
def dA_Table_init : He5.DefA := ⟨fun K => He.fAd K ("Table", some "__init__"), "__init__", "Table.__init__", defArgs s_Table_init, defBody s_Table_init, defScope s_Table_init, [], []⟩
def dA_check_arity : He5.DefA := ⟨fun K => He.fAd K ("check_arity", none), "check_arity", "check_arity", defArgs s_check_arity, defBody s_check_arity, defScope s_check_arity, [], []⟩
def dA_is_row : He5.DefA := ⟨fun K => He.fAd K ("is_row", none), "is_row", "is_row", defArgs s_is_row, defBody s_is_row, defScope s_is_row, [], []⟩
def dA__law_agrees : He5.DefA := ⟨fun K => He.fAd K ("_law_agrees", none), "_law_agrees", "_law_agrees", defArgs s__law_agrees, defBody s__law_agrees, defScope s__law_agrees, [], []⟩
def dA__law_keeps : He5.DefA := ⟨fun K => He.fAd K ("_law_keeps", none), "_law_keeps", "_law_keeps", defArgs s__law_keeps, defBody s__law_keeps, defScope s__law_keeps, [], []⟩
def dA_shows_agreement : He5.DefA := ⟨fun K => He.fAd K ("shows_agreement", none), "shows_agreement", "shows_agreement", defArgs s_shows_agreement, defBody s_shows_agreement, defScope s_shows_agreement, [], []⟩
def dA_check_near : He5.DefA := ⟨fun K => He.fAd K ("check_near", none), "check_near", "check_near", defArgs s_check_near, defBody s_check_near, defScope s_check_near, [], []⟩
def dA_Puzzle_init : He5.DefA := ⟨fun K => He.fAd K ("Puzzle", some "__init__"), "__init__", "Puzzle.__init__", defArgs s_Puzzle_init, defBody s_Puzzle_init, defScope s_Puzzle_init, [], []⟩
def dA_is_use : He5.DefA := ⟨fun K => He.fAd K ("is_use", none), "is_use", "is_use", defArgs s_is_use, defBody s_is_use, defScope s_is_use, [], []⟩
def dA_Operation_agrees : He5.DefA := ⟨fun K => He.fAd K ("Operation", some "agrees"), "agrees", "Operation.agrees", defArgs s_Operation_agrees, defBody s_Operation_agrees, defScope s_Operation_agrees, [], []⟩
def dA_tuples_of : He5.DefA := ⟨fun K => He.fAd K ("tuples_of", none), "tuples_of", "tuples_of", defArgs s_tuples_of, defBody s_tuples_of, defScope s_tuples_of, [], []⟩
def dA_odd_ones : He5.DefA := ⟨fun K => He.fAd K ("odd_ones", none), "odd_ones", "odd_ones", defArgs s_odd_ones, defBody s_odd_ones, defScope s_odd_ones, [], []⟩
def dA_Book_tables : He5.DefA := ⟨fun K => pAd K (He.ga K "Book") "tables", "tables", "Book.tables", defArgs s_Book_tables, defBody s_Book_tables, defScope s_Book_tables, [], []⟩
def dA_breaks : He5.DefA := ⟨fun K => He.fAd K ("breaks", none), "breaks", "breaks", defArgs s_breaks, defBody s_breaks, defScope s_breaks, [], []⟩
def dA_rows_together : He5.DefA := ⟨fun K => He.fAd K ("rows_together", none), "rows_together", "rows_together", defArgs s_rows_together, defBody s_rows_together, defScope s_rows_together, [], []⟩
def dA_Table_rows : He5.DefA := ⟨fun K => pAd K (He.ga K "Table") "rows", "rows", "Table.rows", defArgs s_Table_rows, defBody s_Table_rows, defScope s_Table_rows, [], []⟩
def dA_Puzzle_rows : He5.DefA := ⟨fun K => pAd K (He.ga K "Puzzle") "rows", "rows", "Puzzle.rows", defArgs s_Puzzle_rows, defBody s_Puzzle_rows, defScope s_Puzzle_rows, [], []⟩
def dA_Table_contains : He5.DefA := ⟨fun K => He.fAd K ("Table", some "__contains__"), "__contains__", "Table.__contains__", defArgs s_Table_contains, defBody s_Table_contains, defScope s_Table_contains, [], []⟩
def dA_columns : He5.DefA := ⟨fun K => He.fAd K ("columns", none), "columns", "columns", defArgs s_columns, defBody s_columns, defScope s_columns, [], []⟩
def dA_Operation_call : He5.DefA := ⟨fun K => He.fAd K ("Operation", some "__call__"), "__call__", "Operation.__call__", defArgs s_Operation_call, defBody s_Operation_call, defScope s_Operation_call, [], []⟩
def dA_cell_of : He5.DefA := ⟨fun K => He.fAd K ("cell_of", none), "cell_of", "cell_of", defArgs s_cell_of, defBody s_cell_of, defScope s_cell_of, [], []⟩
def dA_Operation_init : He5.DefA := ⟨fun K => He.fAd K ("Operation", some "__init__"), "__init__", "Operation.__init__", defArgs s_Operation_init, defBody s_Operation_init, defScope s_Operation_init, [], []⟩
def dA_Book_eq : He5.DefA := ⟨fun K => He.fAd K ("Book", some "__eq__"), "__eq__", "Book.__eq__", defArgs s_Book_eq, defBody s_Book_eq, defScope s_Book_eq, [], []⟩
def dA_Table_eq : He5.DefA := ⟨fun K => He.fAd K ("Table", some "__eq__"), "__eq__", "Table.__eq__", defArgs s_Table_eq, defBody s_Table_eq, defScope s_Table_eq, [], []⟩
def dA_Operation_taking : He5.DefA := ⟨fun K => He5.wf K (He.ga K "Operation") "staticmethod" "taking", "taking", "Operation.taking", defArgs s_Operation_taking, defBody s_Operation_taking, defScope s_Operation_taking, [], []⟩
def dA__law_other_number_refused : He5.DefA := ⟨fun K => He.fAd K ("_law_other_number_refused", none), "_law_other_number_refused", "_law_other_number_refused", defArgs s__law_other_number_refused, defBody s__law_other_number_refused, defScope s__law_other_number_refused, [], []⟩
def dA_Table_full : He5.DefA := ⟨fun K => He5.wf K (He.ga K "Table") "staticmethod" "full", "full", "Table.full", defArgs s_Table_full, defBody s_Table_full, defScope s_Table_full, [], []⟩
def fn0 : List He5.DefA := [dA_law, dA__law_feed, dA__law_width, dA__law_pick, dA__law_take, dA__law_agreeing, dA__law_agreement, dA__law_all, dA__law_closed, dA__law_together, dA__law_given, dA__law_cell, dA__law_drawn_rows, dA__law_drawn_row, dA__law_program_book, dA_Book_init, dA_check_width, dA_within, dA__law_program_table, dA_Table_init]
def fn1 : List He5.DefA := [dA_check_arity, dA_is_row, dA__law_agrees, dA__law_keeps, dA_shows_agreement, dA_check_near, dA_Puzzle_init, dA_is_use, dA_Operation_agrees, dA_tuples_of, dA_odd_ones, dA_Book_tables, dA_breaks, dA_rows_together, dA_Table_rows, dA_Puzzle_rows, dA_Table_contains, dA_columns, dA_Operation_call, dA_cell_of]
def fn2 : List He5.DefA := [dA_Operation_init, dA_Book_eq, dA_Table_eq, dA_Operation_taking, dA__law_other_number_refused, dA_Table_full]
def fn : List He5.DefA := fn0 ++ (fn1 ++ (fn2
))
def bl0 : Bls := [faB (.free "len"), faB (.free "min"), faB (.free "max"), faB (.free "range"), faB (.free "abs"), faB (.free "int"), faB (.free "sorted"), faB (.free "set"), faB (.free "tuple"), kitB "Table" (fun _ => .type "int") false, faB (.cls "Table"), obB "Table"]
def bl1 : Bls := [kitB "Book" (fun _ => .type "int") false, faB (.cls "Book"), obB "Book", kitB "Puzzle" (fun _ => .type "int") false, faB (.cls "Puzzle"), obB "Puzzle", kitB "Operation" (fun _ => .type "int") false, faB (.cls "Operation"), obB "Operation", faB (.free "isinstance"), kitB "Table" (fun _ => .type "bool") false, kitB "Book" (fun _ => .type "bool") false]
def bl2 : Bls := [kitB "Puzzle" (fun _ => .type "bool") false, kitB "Operation" (fun _ => .type "bool") false, faB (.free "bool"), faB (.int "MOST_WIDTH" 3), kitB "Table" (fun _ => .type "list") false, kitB "Book" (fun _ => .type "list") false, kitB "Puzzle" (fun _ => .type "list") false, kitB "Operation" (fun _ => .type "list") false, faB (.free "list"), faB (.free "enumerate"), kitB "Table" (fun K => .ref (He.ga K "Table")) true, kitB "Book" (fun K => .ref (He.ga K "Table")) false]
def bl3 : Bls := [kitB "Puzzle" (fun K => .ref (He.ga K "Table")) false, kitB "Operation" (fun K => .ref (He.ga K "Table")) false, faB (.glo "Table"), tyB "Table", faB (.noat "Table" "width"), faB (.noat "Book" "width"), faB (.noat "Operation" "width"), faB (.noat "Book" "kept_tables"), faB (.int "MOST_ARITY" 3), kitB "Table" (fun _ => .type "tuple") false, kitB "Book" (fun _ => .type "tuple") false, kitB "Puzzle" (fun _ => .type "tuple") false]
def bl4 : Bls := [kitB "Operation" (fun _ => .type "tuple") false, faB (.free "all"), faB (.noat "Table" "arity"), faB (.noat "Operation" "arity"), faB (.noat "Table" "held"), faB (.noat "Operation" "held"), faB (.noat "Table" "there"), faB (.noat "Puzzle" "book"), faB (.int "MOST_PLACES" 60), faB (.noat "Puzzle" "places"), faB (.noat "Puzzle" "kept_rows"), kitB "Table" (fun K => .ref (He.ga K "Operation")) false]
def bl5 : Bls := [kitB "Book" (fun K => .ref (He.ga K "Operation")) false, kitB "Puzzle" (fun K => .ref (He.ga K "Operation")) false, kitB "Operation" (fun K => .ref (He.ga K "Operation")) true, faB (.glo "Operation"), tyB "Operation", faB (.free "zip"), faB (.int "MOST_ARGUMENTS" 4), kitB "Table" (fun K => .ref (He.ga K "Book")) false, kitB "Book" (fun K => .ref (He.ga K "Book")) true, kitB "Puzzle" (fun K => .ref (He.ga K "Book")) false, kitB "Operation" (fun K => .ref (He.ga K "Book")) false, faB (.glo "Book")]
def bl6 : Bls := [tyB "Book", neB' "Book", faB (.glo "_law_feed"), faB (.glo "_law_take"), faB (.glo "_law_pick"), faB (.glo "_law_width"), faB (.glo "_law_all"), faB (.glo "_law_agreement"), faB (.glo "_law_together"), faB (.glo "_law_cell"), faB (.glo "_law_given"), faB (.glo "_law_closed")]
def bl7 : Bls := [faB (.glo "_law_drawn_row"), faB (.glo "_law_drawn_rows"), faB (.glo "_law_agreeing"), faB (.glo "within"), faB (.glo "check_width"), faB (.mkr "Book"), faB (.glo "check_arity"), faB (.glo "is_row"), faB (.mkr "Table"), faB (.glo "_law_program_table"), faB (.glo "_law_program_book"), faB (.glo "_law_agrees")]
def bl8 : Bls := [faB (.glo "_law_keeps"), faB (.glo "check_near"), faB (.glo "is_use"), faB (.mkr "Puzzle"), faB (.glo "Puzzle"), faB (.glo "tuples_of"), faB (.glo "odd_ones"), faB (.meth "Operation" "agrees"), prB "Book" "tables", faB (.glo "rows_together"), prB "Table" "rows", prB "Puzzle" "rows"]
def bl9 : Bls := [duB "Table" "__contains__", faB (.glo "columns"), faB (.glo "cell_of"), duB "Operation" "__call__", faB (.glo "breaks"), faB (.glo "shows_agreement"), faB (.mkr "Operation"), duB "Table" "__eq__", duB "Book" "__eq__", smB "Operation" "taking", crB "Operation", faB (.glo "_law_other_number_refused")]
def bl10 : Bls := [smB "Table" "full", crB "Table", faB (.glo "law")]
def bl : Bls := bl0 ++ (bl1 ++ (bl2 ++ (bl3 ++ (bl4 ++ (bl5 ++ (bl6 ++ (bl7 ++ (bl8 ++ (bl9 ++ (bl10
))))))))))
def names0 : List Str := ["_wall", "NearError", "NoList", "BadWidth", "BadArity", "BadRow", "BadCell", "BadLength", "BadSpots", "Unlike", "BadArguments", "BadTable", "NoNumber", "BadPlaces", "BadUse", "BadNear", "MOST_WIDTH", "MOST_ARITY"]
def names1 : List Str := ["within", "is_row", "check_width", "check_arity", "tuples_of", "Table", "MOST_PLACES", "Book", "is_use", "Puzzle", "check_near", "MOST_ARGUMENTS", "cell_of", "odd_ones", "Operation", "rows_together", "columns", "breaks"]
def names2 : List Str := ["shows_agreement", "_law_feed", "_law_take", "_law_pick", "_law_all", "_law_drawn_row", "_law_drawn_rows", "_law_width", "_law_program_table", "_law_program_book", "_law_cell", "_law_together", "_law_given", "_law_keeps", "_law_closed", "_law_agreement", "_law_agreeing", "_law_agrees"]
def names3 : List Str := ["_law_other_number_refused"]
def names : List Str := names0 ++ names1 ++ names2 ++ names3
abbrev R : PySem.W.OpenRow := PySem.W.OpenLaw.row PySem.Challenge.rw_nearsettled_k39_agreements_judged
abbrev qv : Program := PySem.W.view R.prog [62]
abbrev hk : PySem.W.Hook := hookP 5 (exOf bl) fn
def ob (s : PySem.W.SharedT) : He.AlD := obsPG 5 (exOf bl) fn (HandSHeadRun.getT s)
theorem ob_eq (s : PySem.W.SharedT) : ob s = hk.obs s.abs := obsPG_eq (HandSHeadRun.getT_eq s)
theorem run (w : World) : HandSHeadRun.RunEq R qv hk ob 20000 names w := by
  intro os
  kernel_rfl
end H39
set_option maxHeartbeats 200000
set_option Elab.async false
set_option linter.all false
set_option maxRecDepth 100000
set_option maxHeartbeats 4000000
/-! ZT: tuples that are made, held with their very object (it has no dict); t.count(k). -/
namespace L2
open PySem PySem.Spec PyProof.Rows HT
section
variable {X : Cx} {es : List Expr} {t : TA} {pos : Pos}
theorem frz_ok {P : Program} {w : World} {H : Hp} {h : Heap} {a : Addr} {its : List Value} {xs : List V} (hz : xs.length ≤ sizeLine) (r : Vals xs its) (e : h.get? a = some { cls := .type "tuple", data := .seq its.toArray }) :
    ObjOk P w H h a (.frz { cls := .type "tuple", data := .seq its.toArray } (.tup xs)) := ⟨e, hz, its, r, ⟨_, e, rfl, _, rfl⟩⟩
def tTupF (t : TA) : TE := fun σ H Q => t σ H fun xs H1 => xs.length ≤ sizeLine ∧ ∀ p o, H1 p = none → o.dict = none → Q (.ref p) (upd H1 p (.frz o (.tup xs)))
theorem pe_tupF {x1} (h : PA X es t) : PE X (.Tuple es x1 pos) (tTupF t) := by
  refine ⟨fun pins s σ H Q I hq => ?_⟩
  refine wpAny_Tuple_spliced (thn (h.run pos pins s σ H _ I hq) fun us s1 ⟨xs, H1, I1, r, z, q⟩ => ⟨by rw [← r.length]; exact z, ?_⟩)
  have hf : H1 s1.heap.objs.size = none := I1.hok.fresh (Nat.le_refl _)
  exact ⟨.ref s1.heap.objs.size, _, I1.laid (t' := s1.toks) (fun b u e => Heap.get?_push_of_some _ e) (Nat.le_refl _) (frz_ok z r (Heap.get?_push_size _ rfl)), rfl, q _ _ hf rfl⟩
def rCatF (K : PySem.W.Frag) : R2 := fun x y H Q => ∃ a b xs ys, x = .ref a ∧ y = .ref b ∧ SqT K H a xs ∧ SqT K H b ys ∧ xs.length + ys.length ≤ sizeLine ∧
  (xs = [] → Q (.ref b) H) ∧ (xs ≠ [] → ys = [] → Q (.ref a) H) ∧ (xs ≠ [] → ys ≠ [] → ∀ p o, H p = none → o.dict = none → Q (.ref p) (upd H p (.frz o (.tup (xs ++ ys)))))
theorem op_catF : OpR X (binaryOp .Add) (rCatF X.K) := by
  intro pins s σ H x y v u Q I rx ry h
  obtain ⟨a, b, xs, ys, rfl, rfl, ha, hb, hz, q0, q1, q2⟩ := h
  cases rx
  cases ry
  obtain ⟨its, r1, p1, _⟩ := I.tuple ha
  obtain ⟨its2, r2, p2, _⟩ := I.tuple hb
  by_cases hx : xs = []
  · subst hx
    cases r1
    exact cat_tup0 p1 p2 ⟨.ref b, H, I, rfl, q0 rfl⟩
  · refine HT.cat_tup p1 p2 (fun z => hx (r1.nil_iff.mp z)) (fun z => ⟨.ref a, H, I, rfl, q1 hx (r2.nil_iff.mp z)⟩) (fun z => ?_) (by rw [← r1.length, ← r2.length]; exact hz)
    exact ⟨.ref s.heap.objs.size, _, I.laid (t' := s.toks) (fun b ob q => Heap.get?_push_of_some _ q) (Nat.le_refl _) (frz_ok (by rw [List.length_append]; exact hz) (r1.append r2) (Heap.get?_push_size _ rfl)), rfl, q2 hx (fun w => z (r2.nil_iff.mpr w)) _ _ (I.hok.fresh (Nat.le_refl _)) rfl⟩
def rSlF (K : PySem.W.Frag) : V → Option Int → Option Int → Hp → VK → Prop := fun x lo hi H Q => ∃ a xs, x = .ref a ∧ SqT K H a xs ∧
  (HT.sIx xs.length 0 lo = 0 ∧ HT.sIx xs.length xs.length hi = xs.length → Q (.ref a) H) ∧ (¬ (HT.sIx xs.length 0 lo = 0 ∧ HT.sIx xs.length xs.length hi = xs.length) → ∀ p o, H p = none → o.dict = none → Q (.ref p) (upd H p (.frz o (.tup (cutV xs lo hi)))))
theorem sl_tupF : SlR X (rSlF X.K) := by
  intro pins s σ H x v vl vu lo hi sl Q I rx hs pl pu h
  obtain ⟨a, xs, rfl, hx, q1, q2⟩ := h
  cases rx
  obtain ⟨its, r, ht, hz⟩ := I.tuple hx
  have hlen : its.toArray.size = xs.length := by rw [List.size_toArray]; exact r.length.symm
  refine ⟨"tuple", _, PyProof.Rows.slot_tuple_getitem.lookup, ht.typeIs, ?_⟩
  by_cases hw : HT.sIx xs.length 0 lo = 0 ∧ HT.sIx xs.length xs.length hi = xs.length
  · exact getItem_tuple_whole ht hs pl pu (by rw [hlen]; exact hw) ⟨.ref a, H, I, rfl, q1 hw⟩
  · refine HT.getItem_tuple_cut ht hs pl pu (by rw [hlen]; exact hw) ?_ (by rw [hlen]; exact hz)
    rw [hlen]
    exact ⟨.ref s.heap.objs.size, _, I.laid (t' := s.toks) (fun b ob q => Heap.get?_push_of_some _ q) (Nat.le_refl _) (frz_ok (Nat.le_trans (cutV_length xs lo hi) hz) ((r.drop (HT.sIx xs.length 0 lo)).take (HT.sIx xs.length xs.length hi - HT.sIx xs.length 0 lo)) (Heap.get?_push_size _ rfl)), rfl, q2 hw _ _ (I.hok.fresh (Nat.le_refl _)) rfl⟩
theorem call_tuple_ofF : CallR X (.type "tuple") (fun xs H Q => ∃ p ys, xs = [.ref p] ∧ ((SqL X.K H p ys ∧ ∀ l o, H l = none → o.dict = none → Q (.ref l) (upd H l (.frz o (.tup ys)))) ∨ (SqT X.K H p ys ∧ Q (.ref p) H))) := by
  intro pins s σ H xs us Q I r h
  obtain ⟨p, ys, rfl, h⟩ := h
  obtain ⟨u, rfl, rx⟩ := vals1 r
  cases rx
  rcases h with ⟨hq, q⟩ | ⟨hq, q⟩
  · obtain ⟨its, r', pl, hz⟩ := I.list hq
    have hlen := r'.length
    refine call_tuple_list pl.isList (fun h' kp => ?_) (by simp only [List.size_toArray] <;> omega)
    have I1 : Inv X pins σ H { s with heap := h' } := I.kept (t' := s.toks) kp
    exact ⟨.ref h'.objs.size, _, I1.laid (t' := s.toks) (fun b o e => Heap.get?_push_of_some _ e) (Nat.le_refl _) (frz_ok hz r' (Heap.get?_push_size _ rfl)), rfl, q _ _ (I1.hok.fresh (Nat.le_refl _)) rfl⟩
  · obtain ⟨its, r', pl, hz⟩ := I.tuple hq
    exact call_tuple_same pl ⟨.ref p, H, I, rfl, q⟩
def rRepF (K : PySem.W.Frag) : R2 := fun x y H Q => ∃ l k xs, x = .ref l ∧ y = .int k ∧ SqT K H l xs ∧ xs ≠ [] ∧ 2 ≤ k ∧ k ≤ 1000 ∧ xs.length ≤ 1000 ∧ ∀ p o, H p = none → o.dict = none → Q (.ref p) (upd H p (.frz o (.tup (List.replicate k.toNat xs).flatten)))
theorem op_repF : OpR X (binaryOp .Mult) (rRepF X.K) := by
  intro pins s σ H x y v u Q I rx ry h
  obtain ⟨l, k, xs, rfl, rfl, hT, hne, h1, h2, hz, q⟩ := h
  cases rx
  obtain ⟨t, rfl⟩ := ry
  obtain ⟨its, r, ⟨⟨cls, dd, data, sl⟩, ho, hc, n, hd⟩, hs⟩ := I.tuple hT
  simp only at hc hd
  subst hc hd
  have hle : its.length = xs.length := r.length.symm
  have hn : its ≠ [] := fun e => hne (by rw [e] at hle; exact List.eq_nil_of_length_eq_zero hle.symm)
  have hi : its.toArray.isEmpty = false := by
    cases its with
    | nil => exact absurd rfl hn
    | cons a b => rfl
  have hsz0 : its.toArray.size = xs.length := by rw [List.size_toArray, hle]
  have hm : ((its.toArray.size : Nat) : Int) * k ≤ 1000000 := by
    rw [hsz0]
    have a1 : ((xs.length : Nat) : Int) * k ≤ 1000 * k := Int.mul_le_mul_of_nonneg_right (by omega) (by omega)
    omega
  have flen : (List.replicate k.toNat its).flatten.length ≤ sizeLine := by
    rw [PyProof.Rows.lm_len_rep_flat, hle, sizeLine_eq]
    have a1 : k.toNat * xs.length ≤ 1000 * 1000 := Nat.mul_le_mul (by omega) hz
    omega
  have c0 : (decide (k < -(2 ^ 63)) || decide (k ≥ 2 ^ 63)) = false := by
    rw [decide_eq_false (by omega), decide_eq_false (by omega)] <;> rfl
  have c1 : (its.toArray.isEmpty || k == 1) = false := by
    rw [hi, Bool.false_or]; exact beq_eq_false_iff_ne.mpr (by omega)
  have c2 : (decide (k ≤ 0) || its.toArray.isEmpty) = false := by
    rw [hi, Bool.or_false]; exact decide_eq_false (by omega)
  have c4 : Builtin.Tuple.tupleTooMany (((its.toArray.size : Nat) : Int) * k) = false := by
    unfold Builtin.Tuple.tupleTooMany
    rw [sizeLine_eq]
    exact decide_eq_false (by omega)
  refine wpAny_binaryOp_repeat_ref (T := "tuple") (U := "int") (by decide) ⟨_, ho, rfl⟩ (fun s' => typeIs_int s' k t) noFill_tuple_mul F.fills_int_mul F.slot_int_rmul repeat_tuple F.slot_int_index.lookup
    (call_meets F.slot_int_rmul (typeIs_int s k t) F.entry_int_rmul (F.args_int_rmul_2 _ _) (int_rmul_tuple k t l its.toArray n dd sl)
      ⟨ho, rfl, ⟨_, ho, rfl⟩, call_meets F.slot_tuple_mul ⟨_, ho, rfl⟩ F.entry_tuple_mul (F.args_tuple_mul_2 _ _) (tuple_mulW l its.toArray n dd sl k t c0 c1 c2 (by omega) c4 (by rw [size_rep, List.size_toArray]; exact flen)) ⟨ho, ?_⟩⟩)
  rw [size_rep]
  exact ⟨.ref s.heap.objs.size, _, I.laid (t' := s.toks) (fun b ob q => Heap.get?_push_of_some _ q) (Nat.le_refl _) (frz_ok (xs := (List.replicate k.toNat xs).flatten) (by rw [PyProof.Rows.lm_len_rep_flat, sizeLine_eq]; have a1 : k.toNat * xs.length ≤ 1000 * 1000 := Nat.mul_le_mul (by omega) hz; omega) (r.rep k.toNat) (Heap.get?_push_size _ rfl)), rfl, q _ _ (I.hok.fresh (Nat.le_refl _)) rfl⟩
/-! ### the call of a tuple's method -/
/-- the value is a tuple whose object is known -/
def tyF (x : V) (H : Hp) : Prop := ∃ p o xs, x = .ref p ∧ H p = some (.frz o (.tup xs)) ∧ o.dict = none
def tBMF (r : V → List V → Hp → VK → Prop) (to : TE) (t : TA) : TE := fun σ H Q => to σ H fun x H1 => tyF x H1 ∧ t σ H1 fun xs H2 => r x xs H2 Q
theorem pe_bmF {o e : Expr} {to : TE} {name : Str} {apos cpos : Pos} {id : String} {r : V → List V → Hp → VK → Prop} (slot : Slot "tuple" name id) (hty : typeOf (.builtin id) = pure (.type "method_descriptor")) (hm : MtR X id r) (ho : PE X o to) (ha : PA X (e :: es) t)
    (hbase : attributeBase o name X.env (eval o X.env) = eval o X.env := by rfl)
    (hfew : ((backTo cpos (starEach (e :: es) X.env)).all (fun x => !x.1) && (backToKw cpos (keywordEach [] X.env)).all (fun x => x.1.isSome)
      && decide ((e :: es).length + ([] : List Keyword).length + (if ([] : List Keyword).isEmpty then 0 else 1) < 30)) = true := by rfl)
    (hline : (apos.endLine == cpos.line) = true := by rfl) (hs : starEach (e :: es) X.env = (false, eval e X.env) :: starEach es X.env := by rfl) (hplain : (backTo cpos (starEach es X.env)).any (·.1) = false := by rfl) :
    PE X (.Call (.Attribute o name apos) (e :: es) [] cpos) (tBMF r to t) := by
  refine ⟨fun pins s σ H Q I h => ?_⟩
  refine wpAny_Call_method_late hbase hfew hline rfl (thn (ho.run pins s σ H _ I h) fun v s1 ⟨x, H1, I1, r1, ty, q1⟩ => ?_)
  obtain ⟨p, ob, xs, rfl, hp, hd⟩ := ty
  obtain rfl : v = .ref p := r1
  obtain ⟨e1, z, its, rv, o2, e2, hc, n, hd2⟩ := I1.hok p _ hp
  refine ⟨"tuple", id, PySem.F.plainAttrs_tuple, slot, hty, ⟨o2, e2, hc⟩, fun a ea => ?_, ?_⟩
  · cases ea; exact ⟨ob, e1, hd⟩
  · have hA := ha.run cpos pins s1 σ H1 _ I1 q1
    rw [hs] at hA ⊢
    refine Calls.callWith_builtin (by show (false || (backTo cpos (starEach es X.env)).any (·.1)) = false; rw [hplain] <;> rfl) (Calls.evalArgs_plain ?_)
    exact thn hA fun us s2 ⟨vs, H2, I2, r2, q2⟩ => hm pins s2 σ H2 (.ref p) vs (.ref p) us Q I2 rfl r2 q2
def rCntT (K : PySem.W.Frag) : V → List V → Hp → VK → Prop := fun x xs H Q => ∃ (p : Addr) (ns : List Int) (k : Int), x = .ref p ∧ xs = [.int k] ∧ SqT K H p (ns.map V.int) ∧ Q (.int (ns.count k : Nat)) H
theorem mt_tcount : MtR X "tuple.count" (rCntT X.K) := by
  intro pins s σ H x xs v us Q I rx rxs h
  obtain ⟨p, ns, k, rfl, rfl, hs, q⟩ := h
  cases rx
  obtain ⟨u, rfl, ru⟩ := rxs.one
  obtain ⟨t, rfl⟩ := ru
  obtain ⟨its, rv, ⟨⟨cls, dd, data, sl⟩, ho, hc, n, hd⟩, hlen⟩ := I.tuple hs
  simp only at hc hd
  subst hc hd
  have hi := ints_of_vals rv
  refine call_meets PySem.F.slot_tuple_count ⟨_, ho, rfl⟩ PySem.F.entry_tuple_count (PySem.F.args_tuple_count_2 _ _)
    (SeqAt.tuple_countAt p its.toArray n dd sl (.int k t) (eqk k)) ⟨ho, fun y hy => (eqk_gives hi y (by simpa using hy)).at _ _, ?_⟩
  have ec : its.toArray.toList.countP (eqk k) = ns.count k := eqk_count hi
  refine ⟨.int (ns.count k : Nat), H, I.tok _, ⟨s.toks, ?_⟩, q⟩
  show Value.int ((its.toArray.toList.countP (eqk k) : Nat) : Int) s.toks = Value.int ((ns.count k : Nat) : Int) s.toks
  rw [ec]
end
end L2
set_option Elab.async false
set_option linter.all false
set_option maxRecDepth 100000
/-! Pd0: data as trees (D), cells that may change, what represents what. -/
namespace Pd
open PySem PySem.Spec PyProof.Rows L2

/-- data; cell: an object that may still change, by its number -/
inductive D where
  | non
  | bl (b : Bool)
  | int (i : Int)
  | str (x : Str)
  | tup (xs : List D)
  | lst (xs : List D)
  | dic (ks vs : List D)
  | obj (c : Nat) (vs : List D)
  | cell (k : Nat)
  | scr (ns : List Int)
  | cls (c : Nat)

mutual
def D.beq : D → D → Bool
  | .non, .non => true
  | .bl a, .bl b => a == b
  | .int a, .int b => decide (a = b)
  | .str a, .str b => decide (a = b)
  | .tup a, .tup b => D.beqs a b
  | .lst a, .lst b => D.beqs a b
  | .dic a a', .dic b b' => D.beqs a b && D.beqs a' b'
  | .obj c a, .obj d b => Nat.beq c d && D.beqs a b
  | .cell a, .cell b => Nat.beq a b
  | .scr a, .scr b => decide (a = b)
  | .cls a, .cls b => Nat.beq a b
  | _, _ => false
def D.beqs : List D → List D → Bool
  | [], [] => true
  | a :: as, b :: bs => D.beq a b && D.beqs as bs
  | _, _ => false
end

mutual
/-- the key that a thing is, up to == -/
def nk : D → Option NestedKey
  | .non => some .none
  | .bl b => some (.num (if b = true then 1 else 0))
  | .int i => some (.num i)
  | .str x => some (.text x)
  | .tup xs => (nks xs).map .tup
  | _ => none
def nks : List D → Option (List NestedKey)
  | [] => some []
  | x :: xs => match nk x, nks xs with
    | some k, some ks => some (k :: ks)
    | _, _ => none
end

/-- the program's facts: the written part, the classes by number, their fields in the order of __init__ -/
structure Tb where
  K : PySem.W.Frag
  P : Program
  w : World
  mg : Str → Option Value
  base : Heap
  cl : Nat → Addr
  fl : Nat → List Str

def keyD : Key → D
  | .inl i => .int i
  | .inr x => .str x

/-- a dict's record at a: its entries are xs -/
def RawK (P : Program) (w : World) (a : Addr) (xs : List (NestedKey × Addr × Value)) : Heap → Prop := fun h =>
  (a == sysModules) = false ∧ ∃ o es ep, h.get? a = some o ∧ o.ExactDict ∧ o.data = .dict es ep ∧ es.toList = xs.map (entryOfKey (nestedKind P w)) ∧ (xs.map (·.1)).Nodup

/-- a tuple whose object is known, or a short one -/
def NoD (G : Hp) (a : Addr) (n : Nat) : Prop := n ≤ 2 ∨ ∃ o u, G a = some (.frz o (.tup u)) ∧ o.dict = none
theorem NoD.mono {G G' : Hp} {a : Addr} {n : Nat} (g : ∀ a o, G a = some o → G' a = some o) (h : NoD G a n) : NoD G' a n := by
  rcases h with h | ⟨o, u, h, hd⟩
  · exact .inl h
  · exact .inr ⟨o, u, g _ _ h, hd⟩
mutual
/-- v is the datum d: G holds what never changes, al the places of the cells -/
inductive Rp (T : Tb) (G : Hp) (al : List Addr) : D → V → Prop
  | non : Rp T G al .non .non
  | bl (b : Bool) : Rp T G al (.bl b) (.bl b)
  | int (i : Int) : Rp T G al (.int i) (.int i)
  | str (x : Str) : Rp T G al (.str x) (.str x)
  | tup {a : Addr} {vs : List V} {ds : List D} : SqT T.K G a vs → RpL T G al ds vs → NoD G a ds.length → Rp T G al (.tup ds) (.ref a)
  | box {a : Addr} {o : HO} {d : D} : G a = some o → Bx T G al a o d → Rp T G al d (.ref a)
  | cell {k : Nat} {a : Addr} : al[k]? = some a → Rp T G al (.cell k) (.ref a)
  | scr {ns : List Int} {a : Addr} : SqL T.K G a (ns.map V.int) → Rp T G al (.scr ns) (.ref a)
  | cls (c : Nat) : Rp T G al (.cls c) (.ref (T.cl c))
inductive RpL (T : Tb) (G : Hp) (al : List Addr) : List D → List V → Prop
  | nil : RpL T G al [] []
  | cons {d : D} {v : V} {ds : List D} {vs : List V} : Rp T G al d v → RpL T G al ds vs → RpL T G al (d :: ds) (v :: vs)
/-- the object o at a is the list, the dict, the instance d -/
inductive Bx (T : Tb) (G : Hp) (al : List Addr) : Addr → HO → D → Prop
  | lst {a : Addr} {vs : List V} {ds : List D} : RpL T G al ds vs → Bx T G al a (.lst vs) (.lst ds)
  | dK {a : Addr} {kvs : List (Key × V)} {ks ds : List D} : ks = kvs.map (fun p => keyD p.1) → RpL T G al ds (kvs.map (·.2)) → Bx T G al a (.dK kvs) (.dic ks ds)
  | dN {a : Addr} {xs : List (NestedKey × Addr × Value)} {ks ds : List D} {vs : List V} : xs ≠ [] → ks.map nk = xs.map (fun x => some x.1) → (∀ x ∈ xs, x.1.depth ≤ 8) → RpL T G al ks (xs.map fun x => V.ref x.2.1) →
      RpL T G al ds vs → Vals vs (xs.map fun x => x.2.2) → (∀ k ∈ ks, ∃ es, k = .tup es) → Bx T G al a (.ext (RawK T.P T.w a xs)) (.dic ks ds)
  | obj {a dx : Addr} {c : Nat} {vs : List V} {ds : List D} : RpL T G al ds vs → ds.length ≤ (T.fl c).length → Bx T G al a (.ins (T.cl c) dx ((T.fl c).zip vs)) (.obj c ds)
end

/-- more is known -/
structure Le (G : Hp) (al : List Addr) (G' : Hp) (al' : List Addr) : Prop where
  g : ∀ a o, G a = some o → G' a = some o
  a : al <+: al'
theorem Le.refl (G : Hp) (al : List Addr) : Le G al G al := ⟨fun _ _ h => h, List.prefix_refl _⟩
theorem Le.trans {G1 G2 G3 : Hp} {a1 a2 a3 : List Addr} (x : Le G1 a1 G2 a2) (y : Le G2 a2 G3 a3) : Le G1 a1 G3 a3 := ⟨fun a o h => y.g a o (x.g a o h), x.a.trans y.a⟩
theorem Le.get {G G' : Hp} {al al' : List Addr} (x : Le G al G' al') {k : Nat} {a : Addr} (h : al[k]? = some a) : al'[k]? = some a := by
  obtain ⟨r, e⟩ := x.a
  subst e
  obtain ⟨hl, _⟩ := List.getElem?_eq_some_iff.mp h
  rw [List.getElem?_append_left hl]; exact h
theorem Le.upd {G : Hp} {al : List Addr} {p : Addr} {o : HO} (h : G p = none) : Le G al (upd G p o) al := ⟨fun a u e => by rw [upd_ne (ne_of_none e h)]; exact e, List.prefix_refl _⟩
theorem sqT_le {K : PySem.W.Frag} {G G' : Hp} {a : Addr} {xs : List V} (g : ∀ a o, G a = some o → G' a = some o) (h : SqT K G a xs) : SqT K G' a xs := by
  rcases h with (h | ⟨o, h⟩) | h
  · exact .inl (.inl (g _ _ h))
  · exact .inl (.inr ⟨o, g _ _ h⟩)
  · exact .inr h
theorem sqL_le {K : PySem.W.Frag} {G G' : Hp} {a : Addr} {xs : List V} (g : ∀ a o, G a = some o → G' a = some o) (h : SqL K G a xs) : SqL K G' a xs := by
  rcases h with (h | ⟨o, h⟩) | h
  · exact .inl (.inl (g _ _ h))
  · exact .inl (.inr ⟨o, g _ _ h⟩)
  · exact .inr h

section
variable {T : Tb} {G G' : Hp} {al al' : List Addr}
mutual
theorem Rp.mono (l : Le G al G' al') : ∀ {d : D} {v : V}, Rp T G al d v → Rp T G' al' d v
  | _, _, .non => .non
  | _, _, .bl b => .bl b
  | _, _, .int b => .int b
  | _, _, .str b => .str b
  | _, _, .tup h r n => .tup (sqT_le l.g h) (RpL.mono l r) (n.mono l.g)
  | _, _, .box h r => .box (l.g _ _ h) (Bx.mono l r)
  | _, _, .cell h => .cell (l.get h)
  | _, _, .scr h => .scr (sqL_le l.g h)
  | _, _, .cls c => .cls c
theorem RpL.mono (l : Le G al G' al') : ∀ {ds : List D} {vs : List V}, RpL T G al ds vs → RpL T G' al' ds vs
  | _, _, .nil => .nil
  | _, _, .cons h r => .cons (Rp.mono l h) (RpL.mono l r)
theorem Bx.mono (l : Le G al G' al') : ∀ {a : Addr} {o : HO} {d : D}, Bx T G al a o d → Bx T G' al' a o d
  | _, _, _, .lst r => .lst (RpL.mono l r)
  | _, _, _, .dK e r => .dK e (RpL.mono l r)
  | _, _, _, .dN e0 e e2 r1 r2 v k => .dN e0 e e2 (RpL.mono l r1) (RpL.mono l r2) v k
  | _, _, _, .obj r h => .obj (RpL.mono l r) h
end
theorem RpL.length : ∀ {ds : List D} {vs : List V}, RpL T G al ds vs → ds.length = vs.length
  | _, _, .nil => rfl
  | _, _, .cons _ r => by rw [List.length_cons, List.length_cons, RpL.length r]
theorem RpL.get : ∀ {ds : List D} {vs : List V} {i : Nat} {d : D}, RpL T G al ds vs → ds[i]? = some d → ∃ v, vs[i]? = some v ∧ Rp T G al d v
  | _, _, _, _, .nil, e => by simp at e
  | _, _, 0, _, .cons r _, e => by simp at e; subst e; exact ⟨_, rfl, r⟩
  | _, _, i + 1, d, .cons _ t, e => by
    obtain ⟨u, h1, h2⟩ := RpL.get (i := i) (d := d) t (by simpa using e)
    exact ⟨u, by simpa using h1, h2⟩
theorem RpL.append : ∀ {ds es : List D} {vs ws : List V}, RpL T G al ds vs → RpL T G al es ws → RpL T G al (ds ++ es) (vs ++ ws)
  | _, _, _, _, .nil, s => s
  | _, _, _, _, .cons r t, s => .cons r (RpL.append t s)
theorem RpL.set {d : D} {v : V} (r : Rp T G al d v) : ∀ {ds : List D} {vs : List V} (i : Nat), RpL T G al ds vs → RpL T G al (ds.set i d) (vs.set i v)
  | _, _, _, .nil => .nil
  | _, _, 0, .cons _ t => .cons r t
  | _, _, i + 1, .cons q t => .cons q (RpL.set r i t)
theorem RpL.take : ∀ {ds : List D} {vs : List V} (n : Nat), RpL T G al ds vs → RpL T G al (ds.take n) (vs.take n)
  | _, _, 0, _ => .nil
  | _, _, _ + 1, .nil => .nil
  | _, _, n + 1, .cons r t => .cons r (RpL.take n t)
theorem RpL.drop : ∀ {ds : List D} {vs : List V} (n : Nat), RpL T G al ds vs → RpL T G al (ds.drop n) (vs.drop n)
  | _, _, 0, r => r
  | _, _, _ + 1, .nil => .nil
  | _, _, n + 1, .cons _ t => RpL.drop n t
theorem RpL.reverse {ds : List D} {vs : List V} (h : RpL T G al ds vs) : RpL T G al ds.reverse vs.reverse := by
  induction h using RpL.rec (motive_1 := fun _ _ _ => True) (motive_3 := fun _ _ _ _ => True) with
  | nil => exact .nil
  | cons r t _ ih => rw [List.reverse_cons, List.reverse_cons]; exact RpL.append ih (.cons r .nil)
  | _ => trivial
theorem RpL.one {d : D} {vs : List V} : RpL T G al [d] vs → ∃ v, vs = [v] ∧ Rp T G al d v
  | .cons r .nil => ⟨_, rfl, r⟩
theorem RpL.two {d e : D} {vs : List V} : RpL T G al [d, e] vs → ∃ v u, vs = [v, u] ∧ Rp T G al d v ∧ Rp T G al e u
  | .cons r (.cons q .nil) => ⟨_, _, rfl, r, q⟩
theorem RpL.ints : ∀ {ns : List Int} {vs : List V}, RpL T G al (ns.map D.int) vs → vs = ns.map V.int
  | [], _, .nil => rfl
  | n :: ns, _, .cons r t => by
    cases r with
    | int => rw [RpL.ints t]; rfl
    | box _ b => cases b
theorem RpL.of_ints : ∀ {ns : List Int}, RpL T G al (ns.map D.int) (ns.map V.int)
  | [] => .nil
  | n :: ns => .cons (.int n) RpL.of_ints
end

/-- the heap H holds G and the cells: al their places, c what they are -/
structure HSt (T : Tb) (G : Hp) (al : List Addr) (c : List D) (H : Hp) : Prop where
  ex : ∀ a o, G a = some o → H a = some o
  len : al.length = c.length
  nd : al.Nodup
  at_ : ∀ (k : Nat) (a : Addr) (d : D), al[k]? = some a → c[k]? = some d → G a = none ∧ ∃ o, H a = some o ∧ Bx T G al a o d

/-- from one state to a later one: more is known, what lies apart stays -/
structure Stp (G : Hp) (al : List Addr) (H : Hp) (G' : Hp) (al' : List Addr) (H' : Hp) : Prop where
  le : Le G al G' al'
  fr : ∀ a o, G a = none → a ∉ al → H a = some o → G' a = none ∧ a ∉ al' ∧ H' a = some o
theorem Stp.refl (G : Hp) (al : List Addr) (H : Hp) : Stp G al H G al H := ⟨.refl _ _, fun _ _ g a h => ⟨g, a, h⟩⟩
theorem Stp.trans {G1 G2 G3 H1 H2 H3 : Hp} {a1 a2 a3 : List Addr} (x : Stp G1 a1 H1 G2 a2 H2) (y : Stp G2 a2 H2 G3 a3 H3) : Stp G1 a1 H1 G3 a3 H3 :=
  ⟨x.le.trans y.le, fun a o g n h => let ⟨g', n', h'⟩ := x.fr a o g n h; y.fr a o g' n' h'⟩

/-- v is the datum d, or an object of one's own that is -/
def Rq (T : Tb) (G : Hp) (al : List Addr) (H : Hp) (d : D) (v : V) : Prop :=
  Rp T G al d v ∨ ∃ a o, v = .ref a ∧ G a = none ∧ a ∉ al ∧ H a = some o ∧ Bx T G al a o d
theorem Rq.mono {T : Tb} {G G' H H' : Hp} {al al' : List Addr} (s : Stp G al H G' al' H') {d : D} {v : V} (h : Rq T G al H d v) : Rq T G' al' H' d v := by
  rcases h with h | ⟨a, o, e, g, n, hh, b⟩
  · exact .inl (h.mono s.le)
  · obtain ⟨g', n', h'⟩ := s.fr a o g n hh
    exact .inr ⟨a, o, e, g', n', h', b.mono s.le⟩

section
variable {T : Tb} {G : Hp} {al : List Addr} {c : List D} {H : Hp}
theorem HSt.free (h : HSt T G al c H) {p : Addr} (hp : H p = none) : G p = none := by
  cases q : G p with
  | none => rfl
  | some o => rw [h.ex p o q] at hp; cases hp
theorem HSt.has (h : HSt T G al c H) {k : Nat} {a : Addr} (hk : al[k]? = some a) : ∃ d, c[k]? = some d := by
  obtain ⟨hl, _⟩ := List.getElem?_eq_some_iff.mp hk
  exact ⟨c[k]'(by rw [← h.len]; exact hl), List.getElem?_eq_getElem _⟩
theorem HSt.apart (h : HSt T G al c H) {p : Addr} (hp : H p = none) : p ∉ al := fun hm => by
  obtain ⟨k, hk⟩ := List.mem_iff_getElem?.mp hm
  obtain ⟨d, hd⟩ := h.has hk
  obtain ⟨_, o, e, _⟩ := h.at_ k p d hk hd
  rw [e] at hp; cases hp
/-- a new object, never to change -/
theorem HSt.freeze (h : HSt T G al c H) {p : Addr} {o : HO} (hp : H p = none) : HSt T (upd G p o) al c (upd H p o) := by
  have gp := h.free hp
  refine ⟨fun a u e => ?_, h.len, h.nd, fun k a d ha hd => ?_⟩
  · by_cases q : a = p
    · subst q; rw [upd_same] at e ⊢; exact e
    · rw [upd_ne q] at e ⊢; exact h.ex a u e
  · obtain ⟨g, u, e, b⟩ := h.at_ k a d ha hd
    have q : a ≠ p := ne_of_none e hp
    exact ⟨by rw [upd_ne q]; exact g, u, by rw [upd_ne q]; exact e, b.mono (.upd gp)⟩
theorem Stp.freeze (h : HSt T G al c H) {p : Addr} {o : HO} (hp : H p = none) : Stp G al H (upd G p o) al (upd H p o) :=
  ⟨.upd (h.free hp), fun a u g n e => by
    have q : a ≠ p := ne_of_none e hp
    exact ⟨by rw [upd_ne q]; exact g, n, by rw [upd_ne q]; exact e⟩⟩
/-- an object of the heap that is no cell's, never to change from here on -/
theorem HSt.fix (h : HSt T G al c H) {p : Addr} {o : HO} (hg : G p = none) (ha : p ∉ al) (hp : H p = some o) : HSt T (upd G p o) al c H := by
  refine ⟨fun a u e => ?_, h.len, h.nd, fun k a d hk hd => ?_⟩
  · by_cases q : a = p
    · subst q; rw [upd_same] at e; cases e; exact hp
    · rw [upd_ne q] at e; exact h.ex a u e
  · obtain ⟨g, u, e, b⟩ := h.at_ k a d hk hd
    have q : a ≠ p := fun z => ha (z ▸ List.mem_of_getElem? hk)
    exact ⟨by rw [upd_ne q]; exact g, u, e, b.mono (.upd hg)⟩
/-- .. as a new cell -/
theorem HSt.cell (h : HSt T G al c H) {p : Addr} {o : HO} {d : D} (hg : G p = none) (ha : p ∉ al) (hp : H p = some o) (hb : Bx T G al p o d) : HSt T G (al ++ [p]) (c ++ [d]) H := by
  have le : Le G al G (al ++ [p]) := ⟨fun _ _ h => h, List.prefix_append _ _⟩
  refine ⟨h.ex, by simp [h.len], ?_, fun k a e hk hd => ?_⟩
  · rw [List.nodup_append]
    refine ⟨h.nd, by simp, fun x hx y hy => ?_⟩
    have : y = p := by simpa using hy
    subst this
    exact fun z => ha (z ▸ hx)
  · by_cases hl : k < al.length
    · rw [List.getElem?_append_left hl] at hk
      rw [List.getElem?_append_left (by rw [← h.len]; exact hl)] at hd
      obtain ⟨g, u, e', b⟩ := h.at_ k a e hk hd
      exact ⟨g, u, e', b.mono le⟩
    · have hk' : k = al.length := by
        obtain ⟨z, _⟩ := List.getElem?_eq_some_iff.mp hk
        rw [List.length_append, List.length_singleton] at z
        omega
      subst hk'
      rw [List.getElem?_append_right (Nat.le_refl _)] at hk
      rw [h.len, List.getElem?_append_right (Nat.le_refl _)] at hd
      simp at hk hd
      subst hk; subst hd
      exact ⟨hg, o, hp, hb.mono le⟩
/-- a cell changes -/
theorem HSt.put (h : HSt T G al c H) {k : Nat} {p : Addr} {o : HO} {d : D} (hk : al[k]? = some p) (hb : Bx T G al p o d) : HSt T G al (c.set k d) (upd H p o) := by
  obtain ⟨hl, hke⟩ := List.getElem?_eq_some_iff.mp hk
  have hl' : k < c.length := by rw [← h.len]; exact hl
  obtain ⟨gp, _⟩ := h.at_ k p c[k] hk (List.getElem?_eq_getElem hl')
  refine ⟨fun a u e => ?_, by simp [h.len], h.nd, fun j a e hj hd => ?_⟩
  · have q : a ≠ p := fun z => by rw [z, gp] at e; cases e
    rw [upd_ne q]; exact h.ex a u e
  · by_cases hjk : j = k
    · subst hjk
      rw [hk] at hj; cases hj
      rw [List.getElem?_set_self hl'] at hd
      cases hd
      exact ⟨gp, o, upd_same, hb⟩
    · rw [List.getElem?_set_ne (Ne.symm hjk)] at hd
      obtain ⟨g, u, e', b⟩ := h.at_ j a e hj hd
      have q : a ≠ p := fun z => by
        subst z
        obtain ⟨hlj, hje⟩ := List.getElem?_eq_some_iff.mp hj
        exact hjk ((List.getElem_inj h.nd).mp (hje.trans hke.symm))
      exact ⟨g, u, by rw [upd_ne q]; exact e', b⟩
theorem Stp.put {k : Nat} {p : Addr} {o : HO} (hk : al[k]? = some p) : Stp G al H G al (upd H p o) :=
  ⟨.refl _ _, fun a u g n e => ⟨g, n, by rw [upd_ne (show a ≠ p from fun z => n (z ▸ List.mem_of_getElem? hk))]; exact e⟩⟩
/-- what lies apart may change -/
theorem HSt.other (h : HSt T G al c H) {H' : Hp} (e1 : ∀ a o, G a = some o → H' a = some o) (e2 : ∀ a ∈ al, ∀ o, H a = some o → H' a = some o) : HSt T G al c H' :=
  ⟨e1, h.len, h.nd, fun k a d hk hd => let ⟨g, u, e, b⟩ := h.at_ k a d hk hd; ⟨g, u, e2 a (List.mem_of_getElem? hk) u e, b⟩⟩
theorem HSt.apartPut (h : HSt T G al c H) {p : Addr} {o : HO} (hg : G p = none) (ha : p ∉ al) : HSt T G al c (upd H p o) :=
  h.other (fun a u e => by rw [upd_ne (ne_of_none e hg)]; exact h.ex a u e) fun a m u e => by rw [upd_ne (show a ≠ p from fun z => ha (z ▸ m))]; exact e
/-- a new object that nothing speaks of -/
theorem HSt.junk (h : HSt T G al c H) {p : Addr} {o : HO} (hp : H p = none) : HSt T G al c (upd H p o) := h.apartPut (h.free hp) (h.apart hp)
theorem Stp.junk {p : Addr} {o : HO} (hp : H p = none) : Stp G al H G al (upd H p o) :=
  ⟨.refl _ _, fun a u g n e => ⟨g, n, by rw [upd_ne (ne_of_none e hp)]; exact e⟩⟩
end
end Pd
set_option Elab.async false
set_option linter.all false
set_option maxRecDepth 100000
/-! Pd1: what an expression, a statement does to data. -/
namespace Pd
open PySem PySem.Spec PyProof.Rows L2

/-! ### a piece of syntax as its own reading -/
def SemE (X : Cx) (e : Expr) : TE := fun σ H Q => ∀ (pins : List (Addr × Obj)) (s : Shared), Inv X pins σ H s → wpAny (model X.prog X.w) X.A (eval e X.env) (EP X pins σ Q) X.xe s
def SemT (X : Cx) (e : Expr) : TT := fun σ H Q => ∀ (pins : List (Addr × Obj)) (s : Shared), Inv X pins σ H s → wpAny (model X.prog X.w) X.A (isTrue e X.env (eval e X.env)) (TP X pins σ Q) X.xe s
def SemW (X : Cx) (e : Expr) : TT := fun σ H Q => ∀ (whole : Sem Value) (pins : List (Addr × Obj)) (s : Shared), Inv X pins σ H s → wpAny (model X.prog X.w) X.A (isTrue e X.env whole) (TP X pins σ Q) X.xe s
def SemA (X : Cx) (es : List Expr) : TA := fun σ H Q => ∀ (pos : Pos) (pins : List (Addr × Obj)) (s : Shared), Inv X pins σ H s → wpAny (model X.prog X.w) X.A (spliced (backTo pos (starEach es X.env))) (AP X pins σ Q) X.xe s
def SemS (X : Cx) (st : Stmt) : TS := fun D σ H => ∀ (pins : List (Addr × Obj)) (s : Shared), Inv X pins σ H s → wpAny (model X.prog X.w) X.A (exec st X.env) (SP X pins D) X.xe s
def SemB (X : Cx) (st : List Stmt) : TS := fun D σ H => ∀ (pins : List (Addr × Obj)) (s : Shared), Inv X pins σ H s → wpAny (model X.prog X.w) X.A (execs st X.env) (SP X pins D) X.xe s
def SemG (X : Cx) (tg : Expr) : TG := fun v σ H Q => ∀ (pins : List (Addr × Obj)) (s : Shared) (u : Value), Inv X pins σ H s → RelV v u →
  wpAny (model X.prog X.w) X.A (assign tg X.env u) (fun _ s' => ∃ σ' H', Inv X pins σ' H' s' ∧ Q σ' H') X.xe s
def SemGs (X : Cx) (ts : List Expr) : TGs := fun vs σ H Q => ∀ (pins : List (Addr × Obj)) (s : Shared) (us : List Value), Inv X pins σ H s → Vals vs us →
  wpAny (model X.prog X.w) X.A (assignInOrder ((assignEach ts X.env).map (·.2)) us) (fun _ s' => ∃ σ' H', Inv X pins σ' H' s' ∧ Q σ' H') X.xe s
def SemI (X : Cx) (tg iter : Expr) : TI := fun σ H R => ∀ (pins : List (Addr × Obj)) (s : Shared), Inv X pins σ H s →
  wpAny (model X.prog X.w) X.A (eval iter X.env) (fun v s1 => wpAny (model X.prog X.w) X.A (pyIter v) (PIE X pins σ tg R) X.xe s1) X.xe s
def SemTs (X : Cx) (ifs : List Expr) : TT := fun σ H Q => ∀ (pins : List (Addr × Obj)) (s : Shared), Inv X pins σ H s →
  wpAny (model X.prog X.w) X.A (forIn ifs true fun c r => if r = true then do let ok ← isTrue c X.env (eval c X.env); pure (ForInStep.yield ok) else pure (ForInStep.yield r)) (TP X pins σ Q) X.xe s
section
variable {X : Cx}
theorem peS (e : Expr) : PE X e (SemE X e) := ⟨fun pins s σ H Q I h => h pins s I⟩
theorem ptS (e : Expr) : PT X e (SemT X e) := ⟨fun pins s σ H Q I h => h pins s I⟩
theorem pwS (e : Expr) : PW X e (SemW X e) := ⟨fun wh pins s σ H Q I h => h wh pins s I⟩
theorem paS (es : List Expr) : PA X es (SemA X es) := ⟨fun pos pins s σ H Q I h => h pos pins s I⟩
theorem psS (st : Stmt) : PS X st (SemS X st) := ⟨fun pins s σ H D I h => h pins s I⟩
theorem pbS (st : List Stmt) : PSs X st (SemB X st) := ⟨fun pins s σ H D I h => h pins s I⟩
theorem pgS (tg : Expr) : PG X tg (SemG X tg) := ⟨fun pins s σ H v u Q I r h => h pins s u I r⟩
theorem pgsS (ts : List Expr) : PGs X ts (SemGs X ts) := ⟨fun pins s σ H vs us Q I r h => h pins s us I r⟩
theorem piS (tg iter : Expr) : PI X tg iter (SemI X tg iter) := ⟨fun pins s σ H R I h => h pins s I⟩
theorem ptsS (ifs : List Expr) : PTs X ifs (SemTs X ifs) := ⟨fun pins s σ H Q I h => h pins s I⟩
theorem ofE {e : Expr} {t : TE} (p : PE X e t) {σ : L2.St} {H : Hp} {Q : VK} (h : t σ H Q) : SemE X e σ H Q := fun pins s I => p.run pins s σ H Q I h
theorem ofT {e : Expr} {t : TT} (p : PT X e t) {σ : L2.St} {H : Hp} {Q : Bool → Hp → Prop} (h : t σ H Q) : SemT X e σ H Q := fun pins s I => p.run pins s σ H Q I h
theorem ofW {e : Expr} {t : TT} (p : PW X e t) {σ : L2.St} {H : Hp} {Q : Bool → Hp → Prop} (h : t σ H Q) : SemW X e σ H Q := fun wh pins s I => p.run wh pins s σ H Q I h
theorem ofA {es : List Expr} {t : TA} (p : PA X es t) {σ : L2.St} {H : Hp} {Q : List V → Hp → Prop} (h : t σ H Q) : SemA X es σ H Q := fun pos pins s I => p.run pos pins s σ H Q I h
theorem ofS {st : Stmt} {t : TS} (p : PS X st t) {σ : L2.St} {H : Hp} {D : Ends} (h : t D σ H) : SemS X st D σ H := fun pins s I => p.run pins s σ H D I h
theorem ofB {st : List Stmt} {t : TS} (p : PSs X st t) {σ : L2.St} {H : Hp} {D : Ends} (h : t D σ H) : SemB X st D σ H := fun pins s I => p.run pins s σ H D I h
theorem ofG {tg : Expr} {t : TG} (p : PG X tg t) {v : V} {σ : L2.St} {H : Hp} {Q : L2.St → Hp → Prop} (h : t v σ H Q) : SemG X tg v σ H Q := fun pins s u I r => p.run pins s σ H v u Q I r h
theorem ofGs {ts : List Expr} {t : TGs} (p : PGs X ts t) {vs : List V} {σ : L2.St} {H : Hp} {Q : L2.St → Hp → Prop} (h : t vs σ H Q) : SemGs X ts vs σ H Q := fun pins s us I r => p.run pins s σ H vs us Q I r h
theorem ofI {tg iter : Expr} {t : TI} (p : PI X tg iter t) {σ : L2.St} {H : Hp} {R : It → Hp → Prop} (h : t σ H R) : SemI X tg iter σ H R := fun pins s I => p.run pins s σ H R I h
theorem ofTs {ifs : List Expr} {t : TT} (p : PTs X ifs t) {σ : L2.St} {H : Hp} {Q : Bool → Hp → Prop} (h : t σ H Q) : SemTs X ifs σ H Q := fun pins s I => p.run pins s σ H Q I h
end

/-! ### names -/
abbrev Cs := List D
/-- what a name stands for: a datum; an object of one's own, that may change -/
inductive Sl where
  | f (d : D)
  | o (d : D)
abbrev En := List (Option Sl)
structure EOk (T : Tb) (G : Hp) (al : List Addr) (H : Hp) (env : En) (σ : L2.St) : Prop where
  len : env.length = σ.length
  frz : ∀ (i : Nat) (d : D), env[i]? = some (some (.f d)) → ∃ v, σ[i]? = some (some v) ∧ Rp T G al d v
  own : ∀ (i : Nat) (d : D), env[i]? = some (some (.o d)) → ∃ a o, σ[i]? = some (some (.ref a)) ∧ G a = none ∧ a ∉ al ∧ H a = some o ∧ Bx T G al a o d
  dis : ∀ (i j : Nat) (d e : D) (a : Addr), env[i]? = some (some (.o d)) → env[j]? = some (some (.o e)) → σ[i]? = some (some (.ref a)) → σ[j]? = some (some (.ref a)) → i = j
section
variable {T : Tb} {G G' H H' : Hp} {al al' : List Addr} {env : En} {σ : L2.St}
theorem EOk.mono (l : Stp G al H G' al' H') (h : EOk T G al H env σ) : EOk T G' al' H' env σ :=
  ⟨h.len, fun i d e => let ⟨v, a, r⟩ := h.frz i d e; ⟨v, a, r.mono l.le⟩,
    fun i d e => let ⟨a, o, s, g, n, hh, b⟩ := h.own i d e; let ⟨g', n', h'⟩ := l.fr a o g n hh; ⟨a, o, s, g', n', h', b.mono l.le⟩, h.dis⟩
/-- a name stored -/
theorem EOk.set (h : EOk T G al H env σ) (i : Nat) {d : D} {v : V} (r : Rp T G al d v) : EOk T G al H (env.set i (some (.f d))) (σ.set i (some v)) := by
  have key : ∀ (j : Nat) (s : Sl), (env.set i (some (.f d)))[j]? = some (some s) → (j = i ∧ s = .f d ∧ i < env.length) ∨ (j ≠ i ∧ env[j]? = some (some s)) := fun j s q => by
    by_cases hj : j = i
    · subst hj
      by_cases hl : j < env.length
      · rw [List.getElem?_set_self hl] at q
        cases q
        exact .inl ⟨rfl, rfl, hl⟩
      · rw [List.getElem?_eq_none (by simpa using hl)] at q; cases q
    · rw [List.getElem?_set_ne (Ne.symm hj)] at q
      exact .inr ⟨hj, q⟩
  refine ⟨by simp [h.len], fun j e q => ?_, fun j e q => ?_, fun j k e f a q1 q2 s1 s2 => ?_⟩
  · rcases key j _ q with ⟨rfl, e1, hl⟩ | ⟨hj, q⟩
    · cases e1
      exact ⟨v, by rw [List.getElem?_set_self (by rw [← h.len]; exact hl)], r⟩
    · obtain ⟨u, a, s⟩ := h.frz j e q
      exact ⟨u, by rw [List.getElem?_set_ne (Ne.symm hj)]; exact a, s⟩
  · rcases key j _ q with ⟨rfl, e1, hl⟩ | ⟨hj, q⟩
    · cases e1
    · obtain ⟨a, o, s, z⟩ := h.own j e q
      exact ⟨a, o, by rw [List.getElem?_set_ne (Ne.symm hj)]; exact s, z⟩
  · rcases key j _ q1 with ⟨rfl, e1, hl⟩ | ⟨hj, q1⟩
    · cases e1
    · rcases key k _ q2 with ⟨rfl, e1, hl⟩ | ⟨hk, q2⟩
      · cases e1
      · rw [List.getElem?_set_ne (Ne.symm hj)] at s1
        rw [List.getElem?_set_ne (Ne.symm hk)] at s2
        exact h.dis j k e f a q1 q2 s1 s2
/-- a name stored: an object of one's own, which no other name has -/
theorem EOk.setO (h : EOk T G al H env σ) (i : Nat) {d : D} {p : Addr} {o : HO} (hg : G p = none) (ha : p ∉ al) (hp : H p = some o) (hb : Bx T G al p o d)
    (hn : ∀ (j : Nat) (e : D), j ≠ i → env[j]? = some (some (.o e)) → σ[j]? ≠ some (some (.ref p))) : EOk T G al H (env.set i (some (.o d))) (σ.set i (some (.ref p))) := by
  have key : ∀ (j : Nat) (s : Sl), (env.set i (some (.o d)))[j]? = some (some s) → (j = i ∧ s = .o d ∧ i < env.length) ∨ (j ≠ i ∧ env[j]? = some (some s)) := fun j s q => by
    by_cases hj : j = i
    · subst hj
      by_cases hl : j < env.length
      · rw [List.getElem?_set_self hl] at q
        cases q
        exact .inl ⟨rfl, rfl, hl⟩
      · rw [List.getElem?_eq_none (by simpa using hl)] at q; cases q
    · rw [List.getElem?_set_ne (Ne.symm hj)] at q
      exact .inr ⟨hj, q⟩
  refine ⟨by simp [h.len], fun j e q => ?_, fun j e q => ?_, fun j k e f a q1 q2 s1 s2 => ?_⟩
  · rcases key j _ q with ⟨rfl, e1, hl⟩ | ⟨hj, q⟩
    · cases e1
    · obtain ⟨u, a, s⟩ := h.frz j e q
      exact ⟨u, by rw [List.getElem?_set_ne (Ne.symm hj)]; exact a, s⟩
  · rcases key j _ q with ⟨rfl, e1, hl⟩ | ⟨hj, q⟩
    · cases e1
      exact ⟨p, o, by rw [List.getElem?_set_self (by rw [← h.len]; exact hl)], hg, ha, hp, hb⟩
    · obtain ⟨a, o', s, z⟩ := h.own j e q
      exact ⟨a, o', by rw [List.getElem?_set_ne (Ne.symm hj)]; exact s, z⟩
  · rcases key j _ q1 with ⟨ej, e1, hl⟩ | ⟨hj, q3⟩
    · rcases key k _ q2 with ⟨ek, e2, _⟩ | ⟨hk, q4⟩
      · rw [ej, ek]
      · rw [ej, List.getElem?_set_self (by rw [← h.len]; exact hl)] at s1
        rw [List.getElem?_set_ne (Ne.symm hk)] at s2
        cases s1
        exact absurd s2 (hn k _ hk q4)
    · rcases key k _ q2 with ⟨ek, e2, hl⟩ | ⟨hk, q4⟩
      · rw [ek, List.getElem?_set_self (by rw [← h.len]; exact hl)] at s2
        rw [List.getElem?_set_ne (Ne.symm hj)] at s1
        cases s2
        exact absurd s1 (hn j _ hj q3)
      · rw [List.getElem?_set_ne (Ne.symm hj)] at s1
        rw [List.getElem?_set_ne (Ne.symm hk)] at s2
        exact h.dis j k e f a q3 q4 s1 s2
/-- an object of one's own changes -/
theorem EOk.putO (h : EOk T G al H env σ) {i : Nat} {d d' : D} {p : Addr} {o : HO} (hi : env[i]? = some (some (.o d))) (hp : σ[i]? = some (some (.ref p))) (hb : Bx T G al p o d') : EOk T G al (upd H p o) (env.set i (some (.o d'))) σ := by
  have hl : i < env.length := (List.getElem?_eq_some_iff.mp hi).1
  obtain ⟨a, o0, hs, hg, ha, hh, b0⟩ := h.own i d hi
  rw [hp] at hs; cases hs
  have key : ∀ (j : Nat) (s : Sl), (env.set i (some (.o d')))[j]? = some (some s) → (j = i ∧ s = .o d') ∨ (j ≠ i ∧ env[j]? = some (some s)) := fun j s q => by
    by_cases hj : j = i
    · subst hj
      rw [List.getElem?_set_self hl] at q
      cases q
      exact .inl ⟨rfl, rfl⟩
    · rw [List.getElem?_set_ne (Ne.symm hj)] at q
      exact .inr ⟨hj, q⟩
  refine ⟨by simp [h.len], fun j e q => ?_, fun j e q => ?_, fun j k e f b q1 q2 s1 s2 => ?_⟩
  · rcases key j _ q with ⟨rfl, e1⟩ | ⟨hj, q⟩
    · cases e1
    · exact h.frz j e q
  · rcases key j _ q with ⟨rfl, e1⟩ | ⟨hj, q⟩
    · cases e1
      exact ⟨p, o, hp, hg, ha, upd_same, hb⟩
    · obtain ⟨b, ob, s, g, n, hb', z⟩ := h.own j e q
      have : b ≠ p := fun z' => hj (h.dis j i e d p q hi (z' ▸ s) hp)
      exact ⟨b, ob, s, g, n, by rw [upd_ne this]; exact hb', z⟩
  · rcases key j _ q1 with ⟨ej, e1⟩ | ⟨hj, q3⟩
    · rcases key k _ q2 with ⟨ek, e2⟩ | ⟨hk, q4⟩
      · rw [ej, ek]
      · subst ej; exact h.dis j k d f b hi q4 s1 s2
    · rcases key k _ q2 with ⟨ek, e2⟩ | ⟨hk, q4⟩
      · subst ek; exact h.dis j k e d b q3 hi s1 s2
      · exact h.dis j k e f b q3 q4 s1 s2
/-- .. will never change from here on -/
theorem EOk.fix (h : EOk T G al H env σ) {i : Nat} {d : D} {p : Addr} {o : HO} (hi : env[i]? = some (some (.o d))) (hp : σ[i]? = some (some (.ref p))) (ho : H p = some o) : EOk T (upd G p o) al H (env.set i (some (.f d))) σ := by
  have hl : i < env.length := (List.getElem?_eq_some_iff.mp hi).1
  obtain ⟨a, o0, hs, hg, ha, hh, b0⟩ := h.own i d hi
  rw [hp] at hs; cases hs
  rw [ho] at hh; cases hh
  have key : ∀ (j : Nat) (s : Sl), (env.set i (some (.f d)))[j]? = some (some s) → (j = i ∧ s = .f d) ∨ (j ≠ i ∧ env[j]? = some (some s)) := fun j s q => by
    by_cases hj : j = i
    · subst hj
      rw [List.getElem?_set_self hl] at q
      cases q
      exact .inl ⟨rfl, rfl⟩
    · rw [List.getElem?_set_ne (Ne.symm hj)] at q
      exact .inr ⟨hj, q⟩
  refine ⟨by simp [h.len], fun j e q => ?_, fun j e q => ?_, fun j k e f b q1 q2 s1 s2 => ?_⟩
  · rcases key j _ q with ⟨rfl, e1⟩ | ⟨hj, q⟩
    · cases e1
      exact ⟨_, hp, .box upd_same (b0.mono (.upd hg))⟩
    · obtain ⟨v, s, r⟩ := h.frz j e q
      exact ⟨v, s, r.mono (.upd hg)⟩
  · rcases key j _ q with ⟨rfl, e1⟩ | ⟨hj, q⟩
    · cases e1
    · obtain ⟨b, ob, s, g, n, hb', z⟩ := h.own j e q
      have : b ≠ p := fun z' => hj (h.dis j i e d p q hi (z' ▸ s) hp)
      exact ⟨b, ob, s, by rw [upd_ne this]; exact g, n, hb', z.mono (.upd hg)⟩
  · rcases key j _ q1 with ⟨rfl, e1⟩ | ⟨hj, q1⟩
    · cases e1
    · rcases key k _ q2 with ⟨rfl, e2⟩ | ⟨hk, q2⟩
      · cases e2
      · exact h.dis j k e f b q1 q2 s1 s2
def wipeD (env : En) : List Nat → En
  | [] => env
  | v :: vs => (wipeD env vs).set v none
theorem EOk.wipe1 (h : EOk T G al H env σ) (v : Nat) : EOk T G al H (env.set v none) (σ.set v none) := by
  have key : ∀ (j : Nat) (s : Sl), (env.set v none)[j]? = some (some s) → j ≠ v ∧ env[j]? = some (some s) := fun j s q => by
    by_cases hj : j = v
    · subst hj
      by_cases hl : j < env.length
      · rw [List.getElem?_set_self hl] at q; cases q
      · rw [List.getElem?_eq_none (by simpa using hl)] at q; cases q
    · rw [List.getElem?_set_ne (Ne.symm hj)] at q
      exact ⟨hj, q⟩
  refine ⟨by simp [h.len], fun j e q => ?_, fun j e q => ?_, fun j k e f a q1 q2 s1 s2 => ?_⟩
  · obtain ⟨hj, q⟩ := key j _ q
    obtain ⟨u, a, s⟩ := h.frz j e q
    exact ⟨u, by rw [List.getElem?_set_ne (Ne.symm hj)]; exact a, s⟩
  · obtain ⟨hj, q⟩ := key j _ q
    obtain ⟨a, o, s, z⟩ := h.own j e q
    exact ⟨a, o, by rw [List.getElem?_set_ne (Ne.symm hj)]; exact s, z⟩
  · obtain ⟨hj, q1⟩ := key j _ q1
    obtain ⟨hk, q2⟩ := key k _ q2
    rw [List.getElem?_set_ne (Ne.symm hj)] at s1
    rw [List.getElem?_set_ne (Ne.symm hk)] at s2
    exact h.dis j k e f a q1 q2 s1 s2
theorem EOk.wipe (h : EOk T G al H env σ) : ∀ vs : List Nat, EOk T G al H (wipeD env vs) (L2.wipe σ vs)
  | [] => h
  | v :: vs => (EOk.wipe h vs).wipe1 v
end

/-- where code runs: n calls deep at most from here -/
structure Tied (T : Tb) (n : Nat) (X : Cx) : Prop where
  K : X.K = T.K
  P : X.prog = T.P
  w : X.w = T.w
  mg : X.mg = T.mg
  base : X.base = T.base
  calm : X.calm = true
  nd : X.N.Nodup
  room : Room n X.A

/-- what is wanted behind a value; behind one that is looked at alone; behind a new object -/
abbrev Aft (T : Tb) (G : Hp) (al : List Addr) (H : Hp) (d : D) (c' : Cs) (Q : VK) : Prop :=
  ∀ (G' : Hp) (al' : List Addr) (H' : Hp) (v : V), Stp G al H G' al' H' → HSt T G' al' c' H' → Rp T G' al' d v → Q v H'
abbrev AftQ (T : Tb) (G : Hp) (al : List Addr) (H : Hp) (d : D) (c' : Cs) (Q : VK) : Prop :=
  ∀ (G' : Hp) (al' : List Addr) (H' : Hp) (v : V), Stp G al H G' al' H' → HSt T G' al' c' H' → Rq T G' al' H' d v → Q v H'
abbrev AftN (T : Tb) (G : Hp) (al : List Addr) (H : Hp) (d : D) (c' : Cs) (Q : VK) : Prop :=
  ∀ (G' : Hp) (al' : List Addr) (H' : Hp) (a : Addr) (o : HO), Stp G al H G' al' H' → HSt T G' al' c' H' → G' a = none → a ∉ al' → H a = none → H' a = some o → Bx T G' al' a o d → Q (.ref a) H'
abbrev AftT (T : Tb) (G : Hp) (al : List Addr) (H : Hp) (b : Bool) (c' : Cs) (Q : Bool → Hp → Prop) : Prop :=
  ∀ (G' : Hp) (al' : List Addr) (H' : Hp), Stp G al H G' al' H' → HSt T G' al' c' H' → Q b H'
abbrev AftA (T : Tb) (G : Hp) (al : List Addr) (H : Hp) (ds : List D) (c' : Cs) (Q : List V → Hp → Prop) : Prop :=
  ∀ (G' : Hp) (al' : List Addr) (H' : Hp) (vs : List V), Stp G al H G' al' H' → HSt T G' al' c' H' → RpL T G' al' ds vs → Q vs H'

abbrev FE := En → Cs → Option (D × Cs)
abbrev FT := En → Cs → Option (Bool × Cs)
abbrev FA := En → Cs → Option (List D × Cs)
structure TrE (T : Tb) (n : Nat) (X : Cx) (e : Expr) (f : FE) : Prop where
  run : Tied T n X → ∀ (G : Hp) (al : List Addr) (c : Cs) (env : En) (σ : L2.St) (H : Hp) (Q : VK) (d : D) (c' : Cs), HSt T G al c H → EOk T G al H env σ → f env c = some (d, c') → Aft T G al H d c' Q → SemE X e σ H Q
/-- .. looked at alone: an object of one's own too -/
structure TrQ (T : Tb) (n : Nat) (X : Cx) (e : Expr) (f : FE) : Prop where
  run : Tied T n X → ∀ (G : Hp) (al : List Addr) (c : Cs) (env : En) (σ : L2.St) (H : Hp) (Q : VK) (d : D) (c' : Cs), HSt T G al c H → EOk T G al H env σ → f env c = some (d, c') → AftQ T G al H d c' Q → SemE X e σ H Q
/-- a new list, dict, instance -/
structure TrN (T : Tb) (n : Nat) (X : Cx) (e : Expr) (f : FE) : Prop where
  run : Tied T n X → ∀ (G : Hp) (al : List Addr) (c : Cs) (env : En) (σ : L2.St) (H : Hp) (Q : VK) (d : D) (c' : Cs), HSt T G al c H → EOk T G al H env σ → f env c = some (d, c') → AftN T G al H d c' Q → SemE X e σ H Q
structure TrT (T : Tb) (n : Nat) (X : Cx) (e : Expr) (f : FT) : Prop where
  run : Tied T n X → ∀ (G : Hp) (al : List Addr) (c : Cs) (env : En) (σ : L2.St) (H : Hp) (Q : Bool → Hp → Prop) (b : Bool) (c' : Cs), HSt T G al c H → EOk T G al H env σ → f env c = some (b, c') → AftT T G al H b c' Q → SemT X e σ H Q
structure TrW (T : Tb) (n : Nat) (X : Cx) (e : Expr) (f : FT) : Prop where
  run : Tied T n X → ∀ (G : Hp) (al : List Addr) (c : Cs) (env : En) (σ : L2.St) (H : Hp) (Q : Bool → Hp → Prop) (b : Bool) (c' : Cs), HSt T G al c H → EOk T G al H env σ → f env c = some (b, c') → AftT T G al H b c' Q → SemW X e σ H Q
structure TrTs (T : Tb) (n : Nat) (X : Cx) (es : List Expr) (f : FT) : Prop where
  run : Tied T n X → ∀ (G : Hp) (al : List Addr) (c : Cs) (env : En) (σ : L2.St) (H : Hp) (Q : Bool → Hp → Prop) (b : Bool) (c' : Cs), HSt T G al c H → EOk T G al H env σ → f env c = some (b, c') → AftT T G al H b c' Q → SemTs X es σ H Q
structure TrA (T : Tb) (n : Nat) (X : Cx) (es : List Expr) (f : FA) : Prop where
  run : Tied T n X → ∀ (G : Hp) (al : List Addr) (c : Cs) (env : En) (σ : L2.St) (H : Hp) (Q : List V → Hp → Prop) (ds : List D) (c' : Cs), HSt T G al c H → EOk T G al H env σ → f env c = some (ds, c') → AftA T G al H ds c' Q → SemA X es σ H Q
/-- arguments that are looked at alone -/
inductive RqL (T : Tb) (G : Hp) (al : List Addr) (H : Hp) : List D → List V → Prop
  | nil : RqL T G al H [] []
  | cons {d : D} {v : V} {ds : List D} {vs : List V} : Rq T G al H d v → RqL T G al H ds vs → RqL T G al H (d :: ds) (v :: vs)
theorem RqL.mono {T : Tb} {G G' H H' : Hp} {al al' : List Addr} (s : Stp G al H G' al' H') : ∀ {ds : List D} {vs : List V}, RqL T G al H ds vs → RqL T G' al' H' ds vs
  | _, _, .nil => .nil
  | _, _, .cons h t => .cons (h.mono s) (RqL.mono s t)
theorem RqL.one {T : Tb} {G H : Hp} {al : List Addr} {d : D} {vs : List V} : RqL T G al H [d] vs → ∃ v, vs = [v] ∧ Rq T G al H d v
  | .cons r .nil => ⟨_, rfl, r⟩
theorem RqL.two {T : Tb} {G H : Hp} {al : List Addr} {d e : D} {vs : List V} : RqL T G al H [d, e] vs → ∃ v u, vs = [v, u] ∧ Rq T G al H d v ∧ Rq T G al H e u
  | .cons r (.cons q .nil) => ⟨_, _, rfl, r, q⟩
structure TrQA (T : Tb) (n : Nat) (X : Cx) (es : List Expr) (f : FA) : Prop where
  run : Tied T n X → ∀ (G : Hp) (al : List Addr) (c : Cs) (env : En) (σ : L2.St) (H : Hp) (Q : List V → Hp → Prop) (ds : List D) (c' : Cs), HSt T G al c H → EOk T G al H env σ → f env c = some (ds, c') →
    (∀ (G' : Hp) (al' : List Addr) (H' : Hp) (vs : List V), Stp G al H G' al' H' → HSt T G' al' c' H' → RqL T G' al' H' ds vs → Q vs H') → SemA X es σ H Q

/-! ### operators by data -/
abbrev F2 := D → D → Cs → Option (D × Cs)
abbrev FC := List D → Cs → Option (D × Cs)
def rD (T : Tb) (g : F2) : R2 := fun x y H Q => ∃ (G : Hp) (al : List Addr) (c : Cs) (dx dy d : D) (c' : Cs), HSt T G al c H ∧ Rq T G al H dx x ∧ Rq T G al H dy y ∧ g dx dy c = some (d, c') ∧ Aft T G al H d c' Q
def rDN (T : Tb) (g : F2) : R2 := fun x y H Q => ∃ (G : Hp) (al : List Addr) (c : Cs) (dx dy d : D) (c' : Cs), HSt T G al c H ∧ Rq T G al H dx x ∧ Rq T G al H dy y ∧ g dx dy c = some (d, c') ∧ AftN T G al H d c' Q
def rC (T : Tb) (g : FC) : List V → Hp → VK → Prop := fun xs H Q => ∃ (G : Hp) (al : List Addr) (c : Cs) (ds : List D) (d : D) (c' : Cs), HSt T G al c H ∧ RqL T G al H ds xs ∧ g ds c = some (d, c') ∧ Aft T G al H d c' Q
def rCN (T : Tb) (g : FC) : List V → Hp → VK → Prop := fun xs H Q => ∃ (G : Hp) (al : List Addr) (c : Cs) (ds : List D) (d : D) (c' : Cs), HSt T G al c H ∧ RqL T G al H ds xs ∧ g ds c = some (d, c') ∧ AftN T G al H d c' Q

section
variable {T : Tb} {n : Nat} {X : Cx} {pos : Pos} {a b e : Expr} {es : List Expr} {fa fb fe : FE} {ft fu : FT}
theorem TrE.q (h : TrE T n X e fe) : TrQ T n X e fe := ⟨fun t G al c env σ H Q d c' hs he hf q => h.run t G al c env σ H Q d c' hs he hf fun G' al' H' v l s r => q G' al' H' v l s (.inl r)⟩
/-- the new object will never change -/
theorem TrN.fz (h : TrN T n X e fe) : TrE T n X e fe := by
  refine ⟨fun t G al c env σ H Q d c' hs he hf q => h.run t G al c env σ H Q d c' hs he hf ?_⟩
  intro G' al' H' p o le hs' hg ha hp0 hp hb
  refine q (upd G' p o) al' H' (.ref p) ⟨le.le.trans (.upd hg), fun a u g m e => ?_⟩ (hs'.fix hg ha hp) (.box upd_same (hb.mono (.upd hg)))
  obtain ⟨g', n', h'⟩ := le.fr a u g m e
  have na : a ≠ p := ne_of_none e hp0
  exact ⟨by rw [upd_ne na]; exact g', n', h'⟩
/-- the new object may change: it becomes the next cell -/
def fCell (f : FE) : FE := fun env c => match f env c with | some (d, c1) => some (.cell c1.length, c1 ++ [d]) | none => none
theorem TrN.cl (h : TrN T n X e fe) : TrE T n X e (fCell fe) := by
  refine ⟨fun t G al c env σ H Q d c' hs he hf q => ?_⟩
  unfold fCell at hf
  split at hf
  case h_2 => cases hf
  case h_1 d1 c1 e1 =>
    cases hf
    refine h.run t G al c env σ H Q d1 c1 hs he e1 ?_
    intro G' al' H' a o le hs' hg ha hp0 hp hb
    refine q G' (al' ++ [a]) H' (.ref a) ⟨⟨le.le.g, le.le.a.trans (List.prefix_append _ _)⟩, fun b u g m e => ?_⟩ (hs'.cell hg ha hp hb) (.cell ?_)
    · obtain ⟨g', n', h'⟩ := le.fr b u g m e
      have nb : b ≠ a := ne_of_none e hp0
      exact ⟨g', by simp [n', nb], h'⟩
    · rw [← hs'.len]
      simp

/-! ### names, constants -/
def fVar (i : Nat) : FE := fun env c => match env[i]? with | some (some (.f d)) => some (d, c) | _ => none
/-- a datum, or an object of one's own as it is -/
def fVarQ (i : Nat) : FE := fun env c => match env[i]? with | some (some (.f d)) => some (d, c) | some (some (.o d)) => some (d, c) | _ => none
def fC (d : D) : FE := fun _ c => some (d, c)
theorem tr_var (i : Nat) {x : Str} (hN : X.N[i]? = some x := by rfl) (hv : Vis X.env.scope x := by first | exact Or.inl rfl | exact Or.inr (Or.inl rfl) | exact Or.inr (Or.inr rfl)) (hd : (x == ("__debug__" : Str)) = false := by decide)
    (hcd : (x == ("__classdict__" : Str)) = false := by decide) : TrE T n X (.Name x pos) (fVar i) := by
  refine ⟨fun t G al c env σ H Q d c' hs he hf q => ofE (pe_var hN hv hd hcd) ?_⟩
  unfold fVar at hf
  split at hf
  case h_2 => cases hf
  case h_1 d' e1 =>
    cases hf
    obtain ⟨v, hv', r⟩ := he.frz i _ e1
    exact ⟨v, hv', q G al H v (.refl _ _ _) hs r⟩
theorem tq_var (i : Nat) {x : Str} (hN : X.N[i]? = some x := by rfl) (hv : Vis X.env.scope x := by first | exact Or.inl rfl | exact Or.inr (Or.inl rfl) | exact Or.inr (Or.inr rfl)) (hd : (x == ("__debug__" : Str)) = false := by decide)
    (hcd : (x == ("__classdict__" : Str)) = false := by decide) : TrQ T n X (.Name x pos) (fVarQ i) := by
  refine ⟨fun t G al c env σ H Q d c' hs he hf q => ofE (pe_var hN hv hd hcd) ?_⟩
  unfold fVarQ at hf
  split at hf
  case h_3 => cases hf
  case h_1 d' e1 =>
    cases hf
    obtain ⟨v, hv', r⟩ := he.frz i _ e1
    exact ⟨v, hv', q G al H v (.refl _ _ _) hs (.inl r)⟩
  case h_2 d' e1 =>
    cases hf
    obtain ⟨a, o, hv', g, m, hh, b⟩ := he.own i _ e1
    exact ⟨.ref a, hv', q G al H _ (.refl _ _ _) hs (.inr ⟨a, o, rfl, g, m, hh, b⟩)⟩
theorem tr_of {t : TE} {d : D} {v : V} (p : PE X e t) (ht : ∀ σ H Q, Q v H → t σ H Q) (r : ∀ G al, Rp T G al d v) : TrE T n X e (fC d) := by
  refine ⟨fun t' G al c env σ H Q d' c' hs he hf q => ofE p (ht σ H Q ?_)⟩
  cases hf
  exact q G al H v (.refl _ _ _) hs (r G al)
theorem tr_int {i : Int} {j} : TrE T n X (.Constant (.int i) j pos) (fC (.int i)) := tr_of pe_int (fun _ _ _ h => h) fun _ _ => .int i
theorem tr_bl {b : Bool} {j} : TrE T n X (.Constant (.bool b) j pos) (fC (.bl b)) := tr_of pe_bl (fun _ _ _ h => h) fun _ _ => .bl b
theorem tr_non {j} : TrE T n X (.Constant .none j pos) (fC .non) := tr_of pe_non (fun _ _ _ h => h) fun _ _ => .non
theorem tr_str {x : Str} {j} : TrE T n X (.Constant (.str x) j pos) (fC (.str x)) := tr_of pe_str (fun _ _ _ h => h) fun _ _ => .str x
theorem tr_gint {x : Str} {i : Int} (hm : ∃ t, X.mg x = some (.int i t)) (hg : Gl X x := by rfl) (hd : (x == ("__debug__" : Str)) = false := by decide) : TrE T n X (.Name x pos) (fC (.int i)) :=
  let ⟨t, hm⟩ := hm; tr_of (pe_glob (v := .int i) hg hm ⟨t, rfl⟩ hd) (fun _ _ _ h => h) fun _ _ => .int i
theorem tr_gstr {x y : Str} (hm : ∃ t, X.mg x = some (.str y t)) (hg : Gl X x := by rfl) (hd : (x == ("__debug__" : Str)) = false := by decide) : TrE T n X (.Name x pos) (fC (.str y)) :=
  let ⟨t, hm⟩ := hm; tr_of (pe_glob (v := .str y) hg hm ⟨t, rfl⟩ hd) (fun _ _ _ h => h) fun _ _ => .str y
theorem tr_gcls {x : Str} {k : Nat} (hm : X.mg x = some (.ref (T.cl k))) (hg : Gl X x := by rfl) (hd : (x == ("__debug__" : Str)) = false := by decide) : TrE T n X (.Name x pos) (fC (.cls k)) :=
  tr_of (pe_glob (v := .ref (T.cl k)) hg hm rfl hd) (fun _ _ _ h => h) fun _ _ => .cls k

/-! ### operators -/
def fOp (g : F2) (fa fb : FE) : FE := fun env c => match fa env c with
  | some (x, c1) => match fb env c1 with
    | some (y, c2) => g x y c2
    | none => none
  | none => none
theorem two {R : V → V → Hp → Prop} {G : Hp} {al : List Addr} {c : Cs} {env : En} {σ : L2.St} {H : Hp} {r : D × Cs} {g : F2} (t : Tied T n X) (ha : TrQ T n X a fa) (hb : TrQ T n X b fb) (hs : HSt T G al c H) (he : EOk T G al H env σ) (hf : fOp g fa fb env c = some r)
    (k : ∀ (G2 : Hp) (al2 : List Addr) (c2 : Cs) (H2 : Hp) (x y : D) (v u : V), Stp G al H G2 al2 H2 → HSt T G2 al2 c2 H2 → Rq T G2 al2 H2 x v → Rq T G2 al2 H2 y u → g x y c2 = some r → R v u H2) :
    SemE X a σ H fun v H1 => SemE X b σ H1 fun u H2 => R v u H2 := by
  unfold fOp at hf
  split at hf
  case h_2 => cases hf
  case h_1 x c1 e1 =>
    split at hf
    case h_2 => cases hf
    case h_1 y c2 e2 =>
      refine ha.run t G al c env σ H _ x c1 hs he e1 fun G1 al1 H1 v l1 hs1 r1 => ?_
      exact hb.run t G1 al1 c1 env σ H1 _ y c2 hs1 (he.mono l1) e2 fun G2 al2 H2 u l2 hs2 r2 => k G2 al2 c2 H2 x y v u (l1.trans l2) hs2 (r1.mono l2) r2 hf
theorem tr_op {op : Operator} {g : F2} (ho : Tied T n X → OpR X (binaryOp op) (rD T g)) (ha : TrQ T n X a fa) (hb : TrQ T n X b fb) : TrE T n X (.BinOp a op b pos) (fOp g fa fb) :=
  ⟨fun t G al c env σ H Q d c' hs he hf q => ofE (pe_op (ho t) (peS a) (peS b)) (two t ha hb hs he hf fun G2 al2 c2 H2 x y v u l hs2 rx ry hg =>
    ⟨G2, al2, c2, x, y, d, c', hs2, rx, ry, hg, fun G' al' H' v' l' => q G' al' H' v' (l.trans l')⟩)⟩
theorem tr_opN {op : Operator} {g : F2} (ho : Tied T n X → OpR X (binaryOp op) (rDN T g)) (ha : TrQ T n X a fa) (hb : TrQ T n X b fb) : TrN T n X (.BinOp a op b pos) (fOp g fa fb) := by
  refine ⟨fun t G al c env σ H Q d c' hs he hf q => ofE (pe_op (ho t) (peS a) (peS b)) (two t ha hb hs he hf fun G2 al2 c2 H2 x y v u l hs2 rx ry hg =>
    ⟨G2, al2, c2, x, y, d, c', hs2, rx, ry, hg, fun G' al' H' v' o l' hs' hg' ha' hp0 => q G' al' H' v' o (l.trans l') hs' hg' ha' ?_⟩)⟩
  cases hh : H v' with
  | none => rfl
  | some u =>
    by_cases hg0 : G v' = none
    · by_cases hm : v' ∈ al
      · exact absurd (l.le.a.subset hm) (fun z => hs2.apart hp0 z)
      · obtain ⟨_, _, z⟩ := l.fr v' u hg0 hm hh
        rw [z] at hp0; cases hp0
    · cases hq : G v' with
      | none => exact absurd hq hg0
      | some u' =>
        have z := hs2.ex v' u' (l.le.g _ _ hq)
        rw [z] at hp0; cases hp0
theorem tr_cmp {op : CmpOp} {g : F2} (ho : Tied T n X → OpR X (compareOp op) (rD T g)) (ha : TrQ T n X a fa) (hb : TrQ T n X b fb) (hm : behindInMarks op b = false := by first | exact nomark _ | rfl) : TrE T n X (.Compare a [op] [b] pos) (fOp g fa fb) :=
  ⟨fun t G al c env σ H Q d c' hs he hf q => ofE (pe_cmpR (ho t) (peS a) (peS b) hm) (two t ha hb hs he hf fun G2 al2 c2 H2 x y v u l hs2 rx ry hg =>
    ⟨G2, al2, c2, x, y, d, c', hs2, rx, ry, hg, fun G' al' H' v' l' => q G' al' H' v' (l.trans l')⟩)⟩
/-- an expression's value as a test's -/
def asB (f : FE) : FT := fun env c => match f env c with | some (.bl b, c') => some (b, c') | _ => none
theorem Rp.bl_inv {G : Hp} {al : List Addr} {b : Bool} {v : V} (r : Rp T G al (.bl b) v) : v = .bl b := by
  cases r with
  | bl => rfl
  | box _ z => cases z
theorem tt_cmp {op : CmpOp} {g : F2} (ho : Tied T n X → OpR X (compareOp op) (rD T g)) (ha : TrQ T n X a fa) (hb : TrQ T n X b fb) (hm : behindInMarks op b = false := by first | exact nomark _ | rfl) : TrT T n X (.Compare a [op] [b] pos) (asB (fOp g fa fb)) := by
  refine ⟨fun t G al c env σ H Q k c' hs he hf q => ofT (pt_cmpR (ho t) (peS a) (peS b) hm) ?_⟩
  unfold asB at hf
  split at hf
  case h_2 => cases hf
  case h_1 k' c1 e1 =>
    cases hf
    refine two t ha hb hs he e1 fun G2 al2 c2 H2 x y v u l hs2 rx ry hg => ?_
    exact ⟨G2, al2, c2, x, y, _, _, hs2, rx, ry, hg, fun G' al' H' v' l' hs' r => ⟨_, r.bl_inv, q G' al' H' (l.trans l') hs'⟩⟩
theorem tt_val (h : TrE T n X e fe) (he : ∀ whole, isTrue e X.env whole = (do let v ← whole; standAt e.pos; holding [v] (truthy v)) := by intro _; rfl) : TrT T n X e (asB fe) := by
  refine ⟨fun t G al c env σ H Q k c' hs heo hf q => ofT (pt_val (peS e) he) ?_⟩
  unfold asB at hf
  split at hf
  case h_2 => cases hf
  case h_1 k' c1 e1 =>
    cases hf
    exact h.run t G al c env σ H _ _ _ hs heo e1 fun G' al' H' v l hs' r => ⟨_, r.bl_inv, q G' al' H' l hs'⟩
/-- a < b < c: b is asked once -/
def fChain (g g' : F2) (fa fb fc : FE) : FE := fun env c => match fa env c with
  | some (x, c1) => match fb env c1 with
    | some (y, c2) => match g x y c2 with
      | some (.bl true, c3) => match fc env c3 with
        | some (z, c4) => g' y z c4
        | none => none
      | some (.bl false, c3) => some (.bl false, c3)
      | _ => none
    | none => none
  | none => none
theorem chain {R : VK} {e3 : Expr} {fc : FE} {op op' : CmpOp} {G : Hp} {al : List Addr} {c : Cs} {env : En} {σ : L2.St} {H : Hp} {d : D} {c' : Cs} {g g' : F2} (t : Tied T n X)
    (ha : TrQ T n X a fa) (hb : TrQ T n X b fb) (hc : TrQ T n X e3 fc) (hs : HSt T G al c H) (he : EOk T G al H env σ) (hf : fChain g g' fa fb fc env c = some (d, c')) (q : Aft T G al H d c' R) :
    tChain (rD T g) (rD T g') (SemE X a) (SemE X b) (SemE X e3) σ H R := by
  unfold fChain at hf
  split at hf
  case h_2 => cases hf
  case h_1 x c1 e1 =>
    split at hf
    case h_2 => cases hf
    case h_1 y c2 e2 =>
      refine ha.run t G al c env σ H _ x c1 hs he e1 fun G1 al1 H1 v l1 hs1 r1 => ?_
      refine hb.run t G1 al1 c1 env σ H1 _ y c2 hs1 (he.mono l1) e2 fun G2 al2 H2 u l2 hs2 r2 => ?_
      split at hf
      case h_3 => cases hf
      case h_1 c3 e4 =>
        split at hf
        case h_2 => cases hf
        case h_1 z c4 e5 =>
          refine ⟨G2, al2, c2, x, y, _, _, hs2, r1.mono l2, r2, e4, fun G3 al3 H3 v3 l3 hs3 r3 => ⟨true, r3.bl_inv, iteT ?_⟩⟩
          refine hc.run t G3 al3 c3 env σ H3 _ z c4 hs3 (he.mono ((l1.trans l2).trans l3)) e5 fun G4 al4 H4 w l4 hs4 r4 => ?_
          exact ⟨G4, al4, c4, y, z, d, c', hs4, (r2.mono l3).mono l4, r4, hf, fun G' al' H' v' l' => q G' al' H' v' ((((l1.trans l2).trans l3).trans l4).trans l')⟩
      case h_2 c3 e4 =>
        cases hf
        exact ⟨G2, al2, c2, x, y, _, _, hs2, r1.mono l2, r2, e4, fun G3 al3 H3 v3 l3 hs3 r3 => ⟨false, r3.bl_inv, iteF (q G3 al3 H3 _ ((l1.trans l2).trans l3) hs3 (.bl _))⟩⟩

/-! ### and, or, not -/
def fAnd (f g : FT) : FT := fun env c => match f env c with | some (true, c1) => g env c1 | some (false, c1) => some (false, c1) | none => none
def fOr (f g : FT) : FT := fun env c => match f env c with | some (false, c1) => g env c1 | some (true, c1) => some (true, c1) | none => none
def fNot (f : FT) : FT := fun env c => match f env c with | some (b, c1) => some (!b, c1) | none => none
variable {rest : List Expr}
theorem TrW.tt (h : TrW T n X e ft) : TrT T n X e ft := ⟨fun t G al c env σ H Q b c' hs he hf q => fun pins s I => (ofW (pwS e) (h.run t G al c env σ H Q b c' hs he hf q)) _ pins s I⟩
theorem tw_and1 (h : TrT T n X a ft) : TrW T n X (.BoolOp .And [a] pos) ft := ⟨fun t G al c env σ H Q b c' hs he hf q => ofW (pw_and1 (ptS a)) (h.run t G al c env σ H Q b c' hs he hf q)⟩
theorem tw_or1 (h : TrT T n X a ft) : TrW T n X (.BoolOp .Or [a] pos) ft := ⟨fun t G al c env σ H Q b c' hs he hf q => ofW (pw_or1 (ptS a)) (h.run t G al c env σ H Q b c' hs he hf q)⟩
theorem tw_and (h : TrT T n X a ft) (h2 : TrW T n X (.BoolOp .And (b :: rest) pos) fu) : TrW T n X (.BoolOp .And (a :: b :: rest) pos) (fAnd ft fu) := by
  refine ⟨fun t G al c env σ H Q k c' hs he hf q => ofW (pw_and (ptS a) (pwS _)) ?_⟩
  unfold fAnd at hf
  split at hf
  case h_1 c1 e1 =>
    exact h.run t G al c env σ H _ _ _ hs he e1 fun G1 al1 H1 l1 hs1 => iteT (h2.run t G1 al1 c1 env σ H1 _ _ _ hs1 (he.mono l1) hf fun G' al' H' l' hs' => q G' al' H' (l1.trans l') hs')
  case h_2 c1 e1 =>
    cases hf
    exact h.run t G al c env σ H _ _ _ hs he e1 fun G1 al1 H1 l1 hs1 => iteF (q G1 al1 H1 l1 hs1)
  case h_3 => cases hf
theorem tw_or (h : TrT T n X a ft) (h2 : TrW T n X (.BoolOp .Or (b :: rest) pos) fu) : TrW T n X (.BoolOp .Or (a :: b :: rest) pos) (fOr ft fu) := by
  refine ⟨fun t G al c env σ H Q k c' hs he hf q => ofW (pw_or (ptS a) (pwS _)) ?_⟩
  unfold fOr at hf
  split at hf
  case h_1 c1 e1 =>
    exact h.run t G al c env σ H _ _ _ hs he e1 fun G1 al1 H1 l1 hs1 => iteF (h2.run t G1 al1 c1 env σ H1 _ _ _ hs1 (he.mono l1) hf fun G' al' H' l' hs' => q G' al' H' (l1.trans l') hs')
  case h_2 c1 e1 =>
    cases hf
    exact h.run t G al c env σ H _ _ _ hs he e1 fun G1 al1 H1 l1 hs1 => iteT (q G1 al1 H1 l1 hs1)
  case h_3 => cases hf
theorem tt_not (h : TrT T n X a ft) : TrT T n X (.UnaryOp .Not a pos) (fNot ft) := by
  refine ⟨fun t G al c env σ H Q k c' hs he hf q => ofT (pt_not (ptS a)) ?_⟩
  unfold fNot at hf
  split at hf
  case h_2 => cases hf
  case h_1 b c1 e1 =>
    cases hf
    exact h.run t G al c env σ H _ _ _ hs he e1 fun G1 al1 H1 l1 hs1 => q G1 al1 H1 l1 hs1
/-- .. as values -/
def fAndV (f g : FE) : FE := fun env c => match f env c with | some (.bl true, c1) => g env c1 | some (.bl false, c1) => some (.bl false, c1) | _ => none
def fOrV (f g : FE) : FE := fun env c => match f env c with | some (.bl false, c1) => g env c1 | some (.bl true, c1) => some (.bl true, c1) | _ => none
def fNotV (f : FE) : FE := fun env c => match f env c with | some (.bl b, c1) => some (.bl (!b), c1) | _ => none
theorem tr_one {op} (h : TrE T n X a fa) : TrE T n X (.BoolOp op [a] pos) fa := ⟨fun t G al c env σ H Q d c' hs he hf q => ofE (pe_one (peS a)) (h.run t G al c env σ H Q d c' hs he hf q)⟩
theorem tr_and (h : TrE T n X a fa) (h2 : TrE T n X (.BoolOp .And (b :: rest) pos) fb) : TrE T n X (.BoolOp .And (a :: b :: rest) pos) (fAndV fa fb) := by
  refine ⟨fun t G al c env σ H Q d c' hs he hf q => ofE (pe_and (peS a) (peS _)) ?_⟩
  unfold fAndV at hf
  split at hf
  case h_1 c1 e1 =>
    refine h.run t G al c env σ H _ _ _ hs he e1 fun G1 al1 H1 v l1 hs1 r => ?_
    exact ⟨true, r.bl_inv, iteT (h2.run t G1 al1 c1 env σ H1 _ _ _ hs1 (he.mono l1) hf fun G' al' H' v' l' hs' r' => q G' al' H' v' (l1.trans l') hs' r')⟩
  case h_2 c1 e1 =>
    cases hf
    refine h.run t G al c env σ H _ _ _ hs he e1 fun G1 al1 H1 v l1 hs1 r => ?_
    exact ⟨false, r.bl_inv, iteF (q G1 al1 H1 _ l1 hs1 (.bl _))⟩
  case h_3 => cases hf
theorem tr_or (h : TrE T n X a fa) (h2 : TrE T n X (.BoolOp .Or (b :: rest) pos) fb) : TrE T n X (.BoolOp .Or (a :: b :: rest) pos) (fOrV fa fb) := by
  refine ⟨fun t G al c env σ H Q d c' hs he hf q => ofE (pe_or (peS a) (peS _)) ?_⟩
  unfold fOrV at hf
  split at hf
  case h_1 c1 e1 =>
    refine h.run t G al c env σ H _ _ _ hs he e1 fun G1 al1 H1 v l1 hs1 r => ?_
    exact ⟨false, r.bl_inv, iteF (h2.run t G1 al1 c1 env σ H1 _ _ _ hs1 (he.mono l1) hf fun G' al' H' v' l' hs' r' => q G' al' H' v' (l1.trans l') hs' r')⟩
  case h_2 c1 e1 =>
    cases hf
    refine h.run t G al c env σ H _ _ _ hs he e1 fun G1 al1 H1 v l1 hs1 r => ?_
    exact ⟨true, r.bl_inv, iteT (q G1 al1 H1 _ l1 hs1 (.bl _))⟩
  case h_3 => cases hf
theorem tr_not (h : TrE T n X a fa) : TrE T n X (.UnaryOp .Not a pos) (fNotV fa) := by
  refine ⟨fun t G al c env σ H Q d c' hs he hf q => ofE (pe_not (peS a)) ?_⟩
  unfold fNotV at hf
  split at hf
  case h_2 => cases hf
  case h_1 b c1 e1 =>
    cases hf
    refine h.run t G al c env σ H _ _ _ hs he e1 fun G1 al1 H1 v l1 hs1 r => ?_
    exact ⟨_, r.bl_inv, q G1 al1 H1 _ l1 hs1 (.bl _)⟩
def fIf (ft : FT) (f g : FE) : FE := fun env c => match ft env c with | some (true, c1) => f env c1 | some (false, c1) => g env c1 | none => none
theorem tr_if {t0 : Expr} (ht : TrT T n X t0 ft) (ha : TrE T n X a fa) (hb : TrE T n X b fb) : TrE T n X (.IfExp t0 a b pos) (fIf ft fa fb) := by
  refine ⟨fun t G al c env σ H Q d c' hs he hf q => ofE (pe_ifExp (ptS t0) (peS a) (peS b)) ?_⟩
  unfold fIf at hf
  split at hf
  case h_1 c1 e1 => exact ht.run t G al c env σ H _ _ _ hs he e1 fun G1 al1 H1 l1 hs1 => iteT (ha.run t G1 al1 c1 env σ H1 _ _ _ hs1 (he.mono l1) hf fun G' al' H' v' l' hs' r' => q G' al' H' v' (l1.trans l') hs' r')
  case h_2 c1 e1 => exact ht.run t G al c env σ H _ _ _ hs he e1 fun G1 al1 H1 l1 hs1 => iteF (hb.run t G1 al1 c1 env σ H1 _ _ _ hs1 (he.mono l1) hf fun G' al' H' v' l' hs' r' => q G' al' H' v' (l1.trans l') hs' r')
  case h_3 => cases hf

/-! ### argument lists, displays -/
def aNil : FA := fun _ c => some ([], c)
def aCons (f : FE) (g : FA) : FA := fun env c => match f env c with
  | some (d, c1) => match g env c1 with
    | some (ds, c2) => some (d :: ds, c2)
    | none => none
  | none => none
theorem ta_nil : TrA T n X [] aNil := ⟨fun t G al c env σ H Q ds c' hs he hf q => ofA pa_nil (by cases hf; exact q G al H [] (.refl _ _ _) hs .nil)⟩
theorem ta_cons {g : FA} (h : TrE T n X e fe) (hr : TrA T n X es g) (hs : starEach (e :: es) X.env = (false, eval e X.env) :: starEach es X.env := by rfl) : TrA T n X (e :: es) (aCons fe g) := by
  refine ⟨fun t G al c env σ H Q ds c' hst he hf q => ofA (pa_cons (peS e) (paS es) hs) ?_⟩
  unfold aCons at hf
  split at hf
  case h_2 => cases hf
  case h_1 d c1 e1 =>
    split at hf
    case h_2 => cases hf
    case h_1 ds' c2 e2 =>
      cases hf
      refine h.run t G al c env σ H _ _ _ hst he e1 fun G1 al1 H1 v l1 hs1 r1 => ?_
      exact hr.run t G1 al1 c1 env σ H1 _ _ _ hs1 (he.mono l1) e2 fun G2 al2 H2 vs l2 hs2 r2 => q G2 al2 H2 (v :: vs) (l1.trans l2) hs2 (.cons (r1.mono l2.le) r2)
theorem tqa_nil : TrQA T n X [] aNil := ⟨fun t G al c env σ H Q ds c' hs he hf q => ofA pa_nil (by cases hf; exact q G al H [] (.refl _ _ _) hs .nil)⟩
theorem tqa_cons {g : FA} (h : TrQ T n X e fe) (hr : TrQA T n X es g) (hs : starEach (e :: es) X.env = (false, eval e X.env) :: starEach es X.env := by rfl) : TrQA T n X (e :: es) (aCons fe g) := by
  refine ⟨fun t G al c env σ H Q ds c' hst he hf q => ofA (pa_cons (peS e) (paS es) hs) ?_⟩
  unfold aCons at hf
  split at hf
  case h_2 => cases hf
  case h_1 d c1 e1 =>
    split at hf
    case h_2 => cases hf
    case h_1 ds' c2 e2 =>
      cases hf
      refine h.run t G al c env σ H _ _ _ hst he e1 fun G1 al1 H1 v l1 hs1 r1 => ?_
      exact hr.run t G1 al1 c1 env σ H1 _ _ _ hs1 (he.mono l1) e2 fun G2 al2 H2 vs l2 hs2 r2 => q G2 al2 H2 (v :: vs) (l1.trans l2) hs2 (.cons (r1.mono l2) r2)
/-- a cell is no longer there behind a state that was before: what was not there before is new -/
theorem fresh_before {G H G2 H2 : Hp} {al al2 : List Addr} {c c2 : Cs} {p : Addr} (hs : HSt T G al c H) (hs2 : HSt T G2 al2 c2 H2) (l : Stp G al H G2 al2 H2) (hp0 : H2 p = none) : H p = none := by
  cases hh : H p with
  | none => rfl
  | some u =>
    by_cases hg0 : G p = none
    · by_cases hm : p ∈ al
      · exact absurd (l.le.a.subset hm) (fun z => hs2.apart hp0 z)
      · obtain ⟨_, _, z⟩ := l.fr p u hg0 hm hh
        rw [z] at hp0; cases hp0
    · cases hq : G p with
      | none => exact absurd hq hg0
      | some u' =>
        have z := hs2.ex p u' (l.le.g _ _ hq)
        rw [z] at hp0; cases hp0
/-- the most items of a list that is made -/
def lim : Nat := 1000000
theorem lim_line : lim ≤ sizeLine := by rw [sizeLine_eq]; decide
def fTup (g : FA) : FE := fun env c => match g env c with | some (ds, c1) => if ds.length ≤ lim then some (.tup ds, c1) else none | none => none
def fLst (g : FA) : FE := fun env c => match g env c with | some (ds, c1) => if ds.length ≤ lim then some (.lst ds, c1) else none | none => none
theorem tr_tup {g : FA} {k} (h : TrA T n X es g) : TrE T n X (.Tuple es k pos) (fTup g) := by
  refine ⟨fun t G al c env σ H Q d c' hs he hf q => ofE (pe_tupF (paS es)) ?_⟩
  unfold fTup at hf
  split at hf
  case h_2 => cases hf
  case h_1 ds c1 e1 =>
    split at hf
    case isFalse => cases hf
    case isTrue hl =>
      cases hf
      refine h.run t G al c env σ H _ _ _ hs he e1 fun G1 al1 H1 vs l1 hs1 r1 => ⟨by rw [← r1.length]; exact Nat.le_trans hl lim_line, fun p o hp ho => ?_⟩
      have gp := hs1.free hp
      exact q (upd G1 p (.frz o (.tup vs))) al1 _ (.ref p) (l1.trans (.freeze hs1 hp)) (hs1.freeze hp) (.tup (.inl (.inr ⟨o, upd_same⟩)) (r1.mono (.upd gp)) (.inr ⟨o, _, upd_same, ho⟩))
theorem tr_lst {g : FA} (h : TrA T n X es g) : TrN T n X (.List es pos) (fLst g) := by
  refine ⟨fun t G al c env σ H Q d c' hs he hf q => ofE (pe_lst (paS es)) ?_⟩
  unfold fLst at hf
  split at hf
  case h_2 => cases hf
  case h_1 ds c1 e1 =>
    split at hf
    case isFalse => cases hf
    case isTrue hl =>
      cases hf
      refine h.run t G al c env σ H _ _ _ hs he e1 fun G1 al1 H1 vs l1 hs1 r1 => ⟨by rw [← r1.length]; exact Nat.le_trans hl lim_line, fun p hp => ?_⟩
      exact q G1 al1 (upd H1 p (.lst vs)) p (.lst vs) (l1.trans (.junk hp)) (hs1.junk hp) (hs1.free hp) (hs1.apart hp) (fresh_before hs hs1 l1 hp) upd_same (.lst r1)
end
end Pd
set_option Elab.async false
set_option linter.all false
set_option maxRecDepth 100000
/-! Pd2: statements, targets, loops. -/
namespace Pd
open PySem PySem.Spec PyProof.Rows L2

inductive Fl where
  | nx
  | rt (d : D)
  | bk
  | ct
abbrev FS := En → Cs → Option (Fl × En × Cs)
/-- the state at a def's entry -/
structure Base where
  G : Hp
  al : List Addr
  c : Cs
  H : Hp
  self : Option Addr := none
/-- all that is known where a statement begins -/
structure Ok (T : Tb) (B : Base) (G : Hp) (al : List Addr) (c : Cs) (H : Hp) (env : En) (σ : L2.St) : Prop where
  hs0 : HSt T B.G B.al B.c B.H
  hs : HSt T G al c H
  he : EOk T G al H env σ
  st : Stp B.G B.al B.H G al H
  nw : ∀ (i : Nat) (d : D) (a : Addr), env[i]? = some (some (.o d)) → σ[i]? = some (some (.ref a)) → B.H a = none
  se : ∀ (x : Addr) (d : D), B.self = some x → env[0]? = some (some (.o d)) → σ[0]? = some (some (.ref x))
section
variable {T : Tb} {B : Base} {G G' H H' : Hp} {al al' : List Addr} {c c' : Cs} {env : En} {σ : L2.St}
theorem Ok.step (k : Ok T B G al c H env σ) (l : Stp G al H G' al' H') (hs' : HSt T G' al' c' H') : Ok T B G' al' c' H' env σ := ⟨k.hs0, hs', k.he.mono l, k.st.trans l, k.nw, k.se⟩
theorem Ok.set (k : Ok T B G al c H env σ) (i : Nat) {d : D} {v : V} (r : Rp T G al d v) : Ok T B G al c H (env.set i (some (.f d))) (σ.set i (some v)) := by
  have key : ∀ (j : Nat) (e : D), (env.set i (some (.f d)))[j]? = some (some (.o e)) → j ≠ i ∧ env[j]? = some (some (.o e)) := fun j e q1 => by
    by_cases hj : j = i
    · subst hj
      by_cases hl : j < env.length
      · rw [List.getElem?_set_self hl] at q1; cases q1
      · rw [List.getElem?_eq_none (by simpa using hl)] at q1; cases q1
    · rw [List.getElem?_set_ne (Ne.symm hj)] at q1
      exact ⟨hj, q1⟩
  refine ⟨k.hs0, k.hs, k.he.set i r, k.st, fun j e a q1 q2 => ?_, fun x e hx q1 => ?_⟩
  · obtain ⟨hj, q⟩ := key j e q1
    rw [List.getElem?_set_ne (Ne.symm hj)] at q2
    exact k.nw j e a q q2
  · obtain ⟨hj, q⟩ := key 0 e q1
    rw [List.getElem?_set_ne (Ne.symm hj)]
    exact k.se x e hx q
end
/-- what is wanted behind a statement -/
abbrev AftS (T : Tb) (B : Base) (G : Hp) (al : List Addr) (r : Fl) (env' : En) (c' : Cs) (E : Ends) : Prop :=
  ∀ (G' : Hp) (al' : List Addr) (σ' : L2.St) (H' : Hp), Le G al G' al' → Ok T B G' al' c' H' env' σ' → (match r with | .nx => E.nx σ' H' | .bk => E.bk σ' H' | .ct => E.ct σ' H' | .rt d => ∀ v, Rp T G' al' d v → E.rt v H')
structure TrS (T : Tb) (n : Nat) (X : Cx) (st : Stmt) (f : FS) : Prop where
  run : Tied T n X → ∀ (B : Base) (G : Hp) (al : List Addr) (c : Cs) (env : En) (σ : L2.St) (H : Hp) (E : Ends) (r : Fl) (env' : En) (c' : Cs), Ok T B G al c H env σ → f env c = some (r, env', c') → AftS T B G al r env' c' E → SemS X st E σ H
structure TrB (T : Tb) (n : Nat) (X : Cx) (st : List Stmt) (f : FS) : Prop where
  run : Tied T n X → ∀ (B : Base) (G : Hp) (al : List Addr) (c : Cs) (env : En) (σ : L2.St) (H : Hp) (E : Ends) (r : Fl) (env' : En) (c' : Cs), Ok T B G al c H env σ → f env c = some (r, env', c') → AftS T B G al r env' c' E → SemB X st E σ H

/-- an assignment's target: the slots ws are set -/
abbrev FG := D → En → Option En
structure TrG (T : Tb) (n : Nat) (X : Cx) (tg : Expr) (ws : List Nat) (g : FG) : Prop where
  run : Tied T n X → ∀ (G : Hp) (al : List Addr) (c : Cs) (env : En) (σ : L2.St) (H : Hp) (d : D) (v : V) (env' : En) (Q : L2.St → Hp → Prop), HSt T G al c H → EOk T G al H env σ → Rp T G al d v → g d env = some env' →
    (∀ σ' : L2.St, EOk T G al H env' σ' → σ'.length = σ.length → (∀ j, j ∉ ws → σ'[j]? = σ[j]? ∧ env'[j]? = env[j]?) → (∀ (j : Nat) (e : D), env'[j]? = some (some (Sl.o e)) → env[j]? = some (some (Sl.o e)) ∧ σ'[j]? = σ[j]?) → Q σ' H) → SemG X tg v σ H Q
abbrev FGs := List D → En → Option En
structure TrGs (T : Tb) (n : Nat) (X : Cx) (tgs : List Expr) (ws : List Nat) (g : FGs) : Prop where
  run : Tied T n X → ∀ (G : Hp) (al : List Addr) (c : Cs) (env : En) (σ : L2.St) (H : Hp) (ds : List D) (vs : List V) (env' : En) (Q : L2.St → Hp → Prop), HSt T G al c H → EOk T G al H env σ → RpL T G al ds vs → g ds env = some env' →
    (∀ σ' : L2.St, EOk T G al H env' σ' → σ'.length = σ.length → (∀ j, j ∉ ws → σ'[j]? = σ[j]? ∧ env'[j]? = env[j]?) → (∀ (j : Nat) (e : D), env'[j]? = some (some (Sl.o e)) → env[j]? = some (some (Sl.o e)) ∧ σ'[j]? = σ[j]?) → Q σ' H) → SemGs X tgs vs σ H Q

section
variable {T : Tb} {n : Nat} {X : Cx} {pos : Pos} {e tg : Expr} {es : List Expr} {st : Stmt} {rest body : List Stmt} {fe : FE} {ft : FT} {f fr fb : FS} {g : FG} {gs : FGs} {ws : List Nat}

/-! ### targets -/
def gSet (i : Nat) : FG := fun d env => some (env.set i (some (.f d)))
theorem tg_name (i : Nat) {x : Str} (hi : X.N[i]? = some x := by rfl) (hx : Loc X.env.scope x := by first | exact Or.inl rfl | exact Or.inr rfl) (hf : X.fn x = true ∨ X.env.scope.names.lookup x = some .local := by first | exact .inl rfl | exact .inr rfl | assumption) :
    TrG T n X (.Name x pos) [i] (gSet i) := by
  refine ⟨fun t G al c env σ H d v env' Q hs he r hg q => ofG (pg_name t.nd hi hx hf) ?_⟩
  cases hg
  refine q _ (he.set i r) (by simp) (fun j hj => ?_) fun j e hje => ?_
  · have : j ≠ i := by simpa using hj
    exact ⟨List.getElem?_set_ne (Ne.symm this), List.getElem?_set_ne (Ne.symm this)⟩
  · by_cases hj : j = i
    · subst hj
      by_cases hl : j < env.length
      · rw [List.getElem?_set_self hl] at hje; cases hje
      · rw [List.getElem?_eq_none (by simpa using hl)] at hje; cases hje
    · rw [List.getElem?_set_ne (Ne.symm hj)] at hje
      exact ⟨hje, List.getElem?_set_ne (Ne.symm hj)⟩
def gsNil : FGs := fun ds env => match ds with | [] => some env | _ => none
def gsCons (g : FG) (gs : FGs) : FGs := fun ds env => match ds with
  | [] => none
  | d :: r => match g d env with
    | some env1 => gs r env1
    | none => none
theorem tgs_nil : TrGs T n X [] [] gsNil := by
  refine ⟨fun t G al c env σ H ds vs env' Q hs he r hg q => ofGs pgs_nil ?_⟩
  unfold gsNil at hg
  cases r with
  | nil =>
    cases hg
    exact ⟨rfl, q σ he rfl (fun _ _ => ⟨rfl, rfl⟩) fun _ _ h => ⟨h, rfl⟩⟩
  | cons _ _ => cases hg
theorem tgs_cons {ws' : List Nat} (h : TrG T n X e ws g) (h2 : TrGs T n X es ws' gs) (hs : (assignEach (e :: es) X.env).map (·.2) = assign e X.env :: (assignEach es X.env).map (·.2) := by rfl) : TrGs T n X (e :: es) (ws ++ ws') (gsCons g gs) := by
  refine ⟨fun t G al c env σ H ds vs env' Q hst he r hg q => ofGs (pgs_cons (pgS e) (pgsS es) hs) ?_⟩
  cases r with
  | nil => cases hg
  | cons r1 r2 =>
    unfold gsCons at hg
    simp only at hg
    split at hg
    case h_2 => cases hg
    case h_1 env1 e1 =>
      refine ⟨_, _, rfl, h.run t G al c env σ H _ _ env1 _ hst he r1 e1 fun σ1 he1 hl1 ho1 hx1 => ?_⟩
      refine h2.run t G al c env1 σ1 H _ _ env' _ hst he1 r2 hg fun σ2 he2 hl2 ho2 hx2 => q σ2 he2 (hl2.trans hl1) (fun j hj => ?_) fun j e hje => ?_
      · have h1 : j ∉ ws := fun z => hj (List.mem_append_left _ z)
        have h2 : j ∉ ws' := fun z => hj (List.mem_append_right _ z)
        exact ⟨(ho2 j h2).1.trans (ho1 j h1).1, (ho2 j h2).2.trans (ho1 j h1).2⟩
      · obtain ⟨a1, b1⟩ := hx2 j e hje
        obtain ⟨a2, b2⟩ := hx1 j e a1
        exact ⟨a2, b1.trans b2⟩
def gTup (k : Nat) (gs : FGs) : FG := fun d env => match d with
  | .tup ds => if ds.length = k then gs ds env else none
  | _ => none
theorem Rp.tup_inv {G : Hp} {al : List Addr} {ds : List D} {v : V} (r : Rp T G al (.tup ds) v) : ∃ a vs, v = .ref a ∧ SqT T.K G a vs ∧ RpL T G al ds vs := by
  cases r with
  | tup h q _ => exact ⟨_, _, rfl, h, q⟩
  | box _ z => cases z
theorem sqT_h {K : PySem.W.Frag} {G H : Hp} {a : Addr} {xs : List V} (g : ∀ a o, G a = some o → H a = some o) (h : SqT K G a xs) : SqT K H a xs := sqT_le g h
theorem tg_tup {k0 k : Nat} (h : TrGs T n X es ws gs) (hn : (assignEach es X.env).length = k := by rfl) (hst : (assignEach es X.env).findIdx? (·.1) = none := by rfl) : TrG T n X (.Tuple es k0 pos) ws (gTup k gs) := by
  refine ⟨fun t G al c env σ H d v env' Q hs he r hg q => ofG (pg_tup t.calm (pgsS es) hn hst) ?_⟩
  unfold gTup at hg
  split at hg
  case h_2 => cases hg
  case h_1 ds =>
    split at hg
    case isFalse => cases hg
    case isTrue hl =>
      obtain ⟨a, vs, rfl, hq, rl⟩ := r.tup_inv
      refine ⟨a, vs, rfl, ?_, rl.length.symm.trans hl, h.run t G al c env σ H ds vs env' Q hs he rl hg q⟩
      rw [t.K]
      exact sqT_h hs.ex hq

/-! ### blocks, small statements -/
def fNx : FS := fun env c => some (.nx, env, c)
def fSeq (f g : FS) : FS := fun env c => match f env c with
  | some (.nx, env1, c1) => g env1 c1
  | r => r
theorem tb_nil : TrB T n X [] fNx := ⟨fun t B G al c env σ H E r env' c' k hf q => ofB pss_nil (by cases hf; exact q G al σ H (.refl _ _) k)⟩
theorem tb_cons (h : TrS T n X st f) (h2 : TrB T n X rest fr) : TrB T n X (st :: rest) (fSeq f fr) := by
  refine ⟨fun t B G al c env σ H E r env' c' k hf q => ofB (pss_cons (psS st) (pbS rest)) ?_⟩
  unfold fSeq at hf
  cases e1 : f env c with
  | none => rw [e1] at hf; cases hf
  | some p =>
    obtain ⟨r1, env1, c1⟩ := p
    rw [e1] at hf
    refine h.run t B G al c env σ H _ r1 env1 c1 k e1 fun G1 al1 σ1 H1 l1 k1 => ?_
    cases r1 with
    | nx => exact h2.run t B G1 al1 c1 env1 σ1 H1 E r env' c' k1 hf fun G2 al2 σ2 H2 l2 => q G2 al2 σ2 H2 (l1.trans l2)
    | rt d => cases hf; exact q G1 al1 σ1 H1 l1 k1
    | bk => cases hf; exact q G1 al1 σ1 H1 l1 k1
    | ct => cases hf; exact q G1 al1 σ1 H1 l1 k1
theorem tb_one (h : TrS T n X st f) : TrB T n X [st] f := by
  refine ⟨fun t B G al c env σ H E r env' c' k hf q => ofB (pss_one (psS st)) ?_⟩
  exact h.run t B G al c env σ H E r env' c' k hf q
theorem ts_pass : TrS T n X (.Pass pos) fNx := ⟨fun t B G al c env σ H E r env' c' k hf q => ofS ps_pass (by cases hf; exact q G al σ H (.refl _ _) k)⟩
def fBk : FS := fun env c => some (.bk, env, c)
def fCt : FS := fun env c => some (.ct, env, c)
theorem ts_break : TrS T n X (.Break pos) fBk := ⟨fun t B G al c env σ H E r env' c' k hf q => ofS ps_break (by cases hf; exact q G al σ H (.refl _ _) k)⟩
theorem ts_continue : TrS T n X (.Continue pos) fCt := ⟨fun t B G al c env σ H E r env' c' k hf q => ofS ps_continue (by cases hf; exact q G al σ H (.refl _ _) k)⟩
/-- a statement that is never come to -/
def fNo : FS := fun _ _ => none
theorem ts_never : TrS T n X st fNo := ⟨fun t B G al c env σ H E r env' c' k hf q => by cases hf⟩
theorem tb_never : TrB T n X rest fNo := ⟨fun t B G al c env σ H E r env' c' k hf q => by cases hf⟩
def fDrop (f : FE) : FS := fun env c => match f env c with | some (_, c1) => some (.nx, env, c1) | none => none
theorem ts_expr (h : TrE T n X e fe) (hs : swapsWith e none pos.line X.env = pure false := by rfl) : TrS T n X (.Expr e pos) (fDrop fe) := by
  refine ⟨fun t B G al c env σ H E r env' c' k hf q => ofS (ps_expr (peS e) hs) ?_⟩
  unfold fDrop at hf
  split at hf
  case h_2 => cases hf
  case h_1 d c1 e1 =>
    cases hf
    exact h.run t G al c env σ H _ _ _ k.hs k.he e1 fun G1 al1 H1 v l hs1 r1 => q G1 al1 σ H1 l.le (k.step l hs1)
def fRet (f : FE) : FS := fun env c => match f env c with | some (d, c1) => some (.rt d, env, c1) | none => none
theorem ts_ret (h : TrE T n X e fe) : TrS T n X (.Return (some e) pos) (fRet fe) := by
  refine ⟨fun t B G al c env σ H E r env' c' k hf q => ofS (ps_ret (peS e)) ?_⟩
  unfold fRet at hf
  split at hf
  case h_2 => cases hf
  case h_1 d c1 e1 =>
    cases hf
    exact h.run t G al c env σ H _ _ _ k.hs k.he e1 fun G1 al1 H1 v l hs1 r1 => q G1 al1 σ H1 l.le (k.step l hs1) v r1
def fRetN : FS := fun env c => some (.rt .non, env, c)
theorem ts_retN : TrS T n X (.Return none pos) fRetN := ⟨fun t B G al c env σ H E r env' c' k hf q => ofS ps_retN (by cases hf; exact q G al σ H (.refl _ _) k .non .non)⟩
def fIte (ft : FT) (f g : FS) : FS := fun env c => match ft env c with
  | some (true, c1) => f env c1
  | some (false, c1) => g env c1
  | none => none
theorem ts_if {a b : List Stmt} {fa fb : FS} (ht : TrT T n X e ft) (ha : TrB T n X a fa) (hb : TrB T n X b fb) : TrS T n X (.If e a b pos) (fIte ft fa fb) := by
  refine ⟨fun t B G al c env σ H E r env' c' k hf q => ofS (ps_if (ptS e) (pbS a) (pbS b)) ?_⟩
  unfold fIte at hf
  split at hf
  case h_1 c1 e1 => exact ht.run t G al c env σ H _ _ _ k.hs k.he e1 fun G1 al1 H1 l hs1 => iteT (ha.run t B G1 al1 c1 env σ H1 E r env' c' (k.step l hs1) hf fun G2 al2 σ2 H2 l2 => q G2 al2 σ2 H2 (l.le.trans l2))
  case h_2 c1 e1 => exact ht.run t G al c env σ H _ _ _ k.hs k.he e1 fun G1 al1 H1 l hs1 => iteF (hb.run t B G1 al1 c1 env σ H1 E r env' c' (k.step l hs1) hf fun G2 al2 σ2 H2 l2 => q G2 al2 σ2 H2 (l.le.trans l2))
  case h_3 => cases hf

/-! ### assignments -/
def fSet (i : Nat) (f : FE) : FS := fun env c => match f env c with | some (d, c1) => some (.nx, env.set i (some (.f d)), c1) | none => none
theorem ts_set (i : Nat) {x : Str} {pos' : Pos} (h : TrE T n X e fe) (hi : X.N[i]? = some x := by rfl) (hx : Loc X.env.scope x := by first | exact Or.inl rfl | exact Or.inr rfl) (hs : swapsWith e (some (.Name x pos')) pos.line X.env = pure false := by rfl)
    (hf : X.fn x = true ∨ X.env.scope.names.lookup x = some .local := by first | exact .inl rfl | exact .inr rfl | assumption) : TrS T n X (.Assign [.Name x pos'] e pos) (fSet i fe) := by
  refine ⟨fun t B G al c env σ H E r env' c' k hf' q => ofS (ps_set t.nd hi hx (peS e) hs hf) ?_⟩
  unfold fSet at hf'
  split at hf'
  case h_2 => cases hf'
  case h_1 d c1 e1 =>
    cases hf'
    exact h.run t G al c env σ H _ _ _ k.hs k.he e1 fun G1 al1 H1 v l hs1 r1 => q G1 al1 _ H1 l.le ((k.step l hs1).set i r1)
/-- an object of one's own -/
def fSetO (i : Nat) (f : FE) : FS := fun env c => match f env c with | some (d, c1) => some (.nx, env.set i (some (.o d)), c1) | none => none
theorem Ok.setO {B : Base} {G G' H H' : Hp} {al al' : List Addr} {c c' : Cs} {env : En} {σ : L2.St} (k : Ok T B G al c H env σ) (i : Nat) {d : D} {p : Addr} {o : HO} (l : Stp G al H G' al' H') (hs' : HSt T G' al' c' H') (hg : G' p = none) (ha : p ∉ al') (hp0 : H p = none) (hp : H' p = some o) (hb : Bx T G' al' p o d) (h0 : i ≠ 0) :
    Ok T B G' al' c' H' (env.set i (some (.o d))) (σ.set i (some (.ref p))) := by
  have k' := k.step l hs'
  refine ⟨k.hs0, hs', k'.he.setO i hg ha hp hb fun j e hj q1 q2 => ?_, k'.st, fun j e a q1 q2 => ?_, fun x e hx q1 => ?_⟩
  · obtain ⟨a, u, s, _, _, hh, _⟩ := k.he.own j e q1
    rw [q2] at s; cases s
    rw [hp0] at hh; cases hh
  · by_cases hj : j = i
    · subst hj
      by_cases hl : j < env.length
      · rw [List.getElem?_set_self (by rw [← k.he.len]; exact hl)] at q2
        cases q2
        exact fresh_before k.hs0 k.hs k.st hp0
      · rw [List.getElem?_eq_none (by simpa using hl)] at q1; cases q1
    · rw [List.getElem?_set_ne (Ne.symm hj)] at q1 q2
      exact k.nw j e a q1 q2
  · rw [List.getElem?_set_ne h0] at q1 ⊢
    exact k.se x e hx q1
theorem ts_setO (i : Nat) {x : Str} {pos' : Pos} (h : TrN T n X e fe) (h0 : i ≠ 0 := by decide) (hi : X.N[i]? = some x := by rfl) (hx : Loc X.env.scope x := by first | exact Or.inl rfl | exact Or.inr rfl) (hs : swapsWith e (some (.Name x pos')) pos.line X.env = pure false := by rfl)
    (hf : X.fn x = true ∨ X.env.scope.names.lookup x = some .local := by first | exact .inl rfl | exact .inr rfl | assumption) : TrS T n X (.Assign [.Name x pos'] e pos) (fSetO i fe) := by
  refine ⟨fun t B G al c env σ H E r env' c' k hf' q => ofS (ps_set t.nd hi hx (peS e) hs hf) ?_⟩
  unfold fSetO at hf'
  split at hf'
  case h_2 => cases hf'
  case h_1 d c1 e1 =>
    cases hf'
    exact h.run t G al c env σ H _ _ _ k.hs k.he e1 fun G1 al1 H1 p o l hs1 hg ha hp0 hp hb => q G1 al1 _ H1 l.le (k.setO i l hs1 hg ha hp0 hp hb h0)
/-- target = e -/
def fAsg (f : FE) (g : FG) : FS := fun env c => match f env c with
  | some (d, c1) => match g d env with
    | some env1 => some (.nx, env1, c1)
    | none => none
  | none => none
theorem Ok.asg {B : Base} {G H : Hp} {al : List Addr} {c : Cs} {env env' : En} {σ σ' : L2.St} (k : Ok T B G al c H env σ) (he : EOk T G al H env' σ') (hx : ∀ (j : Nat) (e : D), env'[j]? = some (some (Sl.o e)) → env[j]? = some (some (Sl.o e)) ∧ σ'[j]? = σ[j]?) : Ok T B G al c H env' σ' :=
  ⟨k.hs0, k.hs, he, k.st, fun i d a q1 q2 => let ⟨h1, h2⟩ := hx i d q1; k.nw i d a h1 (h2 ▸ q2), fun x e hb q1 => let ⟨h1, h2⟩ := hx 0 e q1; h2.trans (k.se x e hb h1)⟩
theorem ts_asg (h : TrE T n X e fe) (hg : TrG T n X tg ws g) (hs : swapsWithSole [tg] e pos.line X.env = pure false := by rfl) (hw : swappedStores [tg] e X.env = pure none := by rfl) (h1 : (assignEach [tg] X.env).map (·.2) = [assign tg X.env] := by rfl) :
    TrS T n X (.Assign [tg] e pos) (fAsg fe g) := by
  refine ⟨fun t B G al c env σ H E r env' c' k hf' q => ofS (ps_asg (peS e) (pgS tg) hs hw h1) ?_⟩
  unfold fAsg at hf'
  split at hf'
  case h_2 => cases hf'
  case h_1 d c1 e1 =>
    split at hf'
    case h_2 => cases hf'
    case h_1 env1 e2 =>
      cases hf'
      refine h.run t G al c env σ H _ _ _ k.hs k.he e1 fun G1 al1 H1 v l hs1 r1 => ?_
      have k1 := k.step l hs1
      exact hg.run t G1 al1 _ env σ H1 d v _ _ hs1 k1.he r1 e2 fun σ' he' _ _ hx => q G1 al1 σ' H1 l.le (k1.asg he' hx)
/-- freezing a name's object ahead of a statement -/
def fzE (i : Nat) (env : En) : En := match env[i]? with | some (some (.o d)) => env.set i (some (.f d)) | _ => env
theorem Ok.fz {B : Base} {G H : Hp} {al : List Addr} {c : Cs} {env : En} {σ : L2.St} (k : Ok T B G al c H env σ) (i : Nat) : ∃ G', Le G al G' al ∧ Ok T B G' al c H (fzE i env) σ := by
  unfold fzE
  split
  case h_2 => exact ⟨G, .refl _ _, k⟩
  case h_1 d hi =>
    obtain ⟨a, o, s, hg, ha, hh, b⟩ := k.he.own i d hi
    have hn := k.nw i d a hi s
    refine ⟨upd G a o, .upd hg, k.hs0, k.hs.fix hg ha hh, k.he.fix hi s hh, ⟨k.st.le.trans (.upd hg), fun x u g m e => ?_⟩, fun j e x q1 q2 => ?_, fun x e hx q1 => ?_⟩
    · obtain ⟨g', m', e'⟩ := k.st.fr x u g m e
      have nx : x ≠ a := ne_of_none e hn
      exact ⟨by rw [upd_ne nx]; exact g', m', e'⟩
    · by_cases hj : j = i
      · subst hj
        rw [List.getElem?_set_self (List.getElem?_eq_some_iff.mp hi).1] at q1; cases q1
      · rw [List.getElem?_set_ne (Ne.symm hj)] at q1
        exact k.nw j e x q1 q2
    · by_cases hj : i = 0
      · subst hj
        rw [List.getElem?_set_self (List.getElem?_eq_some_iff.mp hi).1] at q1; cases q1
      · rw [List.getElem?_set_ne hj] at q1
        exact k.se x e hx q1
def fFz (i : Nat) (f : FS) : FS := fun env c => f (fzE i env) c
theorem ts_fz (i : Nat) (h : TrS T n X st f) : TrS T n X st (fFz i f) :=
  ⟨fun t B G al c env σ H E r env' c' k hf q => let ⟨G', l', k'⟩ := k.fz i; h.run t B G' al c (fzE i env) σ H E r env' c' k' hf fun G2 al2 σ2 H2 l2 => q G2 al2 σ2 H2 (l'.trans l2)⟩
theorem tb_fz (i : Nat) (h : TrB T n X rest f) : TrB T n X rest (fFz i f) :=
  ⟨fun t B G al c env σ H E r env' c' k hf q => let ⟨G', l', k'⟩ := k.fz i; h.run t B G' al c (fzE i env) σ H E r env' c' k' hf fun G2 al2 σ2 H2 l2 => q G2 al2 σ2 H2 (l'.trans l2)⟩

/-! ### what is walked -/
/-- the items ds come one after the other, whatever is done meanwhile -/
def ItOk (T : Tb) (G : Hp) (al : List Addr) (J : It) (ds : List D) : Prop := ∀ (i : Nat) (G2 : Hp) (al2 : List Addr) (c2 : Cs) (H2 : Hp), Le G al G2 al2 → HSt T G2 al2 c2 H2 →
  (∀ d, ds[i]? = some d → J.go i H2 ∧ ∀ x H3, J.yld i H2 x H3 → ∃ G3, Stp G2 al2 H2 G3 al2 H3 ∧ HSt T G3 al2 c2 H3 ∧ Rp T G3 al2 d x) ∧ (ds.length ≤ i → J.stop i H2)
/-- .. while what is one's own stays as it is -/
def ItOkQ (T : Tb) (G : Hp) (al : List Addr) (H : Hp) (J : It) (ds : List D) : Prop := ∀ (i : Nat) (G2 : Hp) (al2 : List Addr) (c2 : Cs) (H2 : Hp), Stp G al H G2 al2 H2 → HSt T G2 al2 c2 H2 →
  (∀ d, ds[i]? = some d → J.go i H2 ∧ ∀ x H3, J.yld i H2 x H3 → ∃ G3, Stp G2 al2 H2 G3 al2 H3 ∧ HSt T G3 al2 c2 H3 ∧ Rp T G3 al2 d x) ∧ (ds.length ≤ i → J.stop i H2)
structure TrI (T : Tb) (n : Nat) (X : Cx) (tg iter : Expr) (f : FA) : Prop where
  run : Tied T n X → ∀ (G : Hp) (al : List Addr) (c : Cs) (env : En) (σ : L2.St) (H : Hp) (R : It → Hp → Prop) (ds : List D) (c' : Cs), HSt T G al c H → EOk T G al H env σ → f env c = some (ds, c') →
    (∀ (G' : Hp) (al' : List Addr) (H' : Hp) (J : It), Stp G al H G' al' H' → HSt T G' al' c' H' → ItOk T G' al' J ds → R J H') → SemI X tg iter σ H R
structure TrIQ (T : Tb) (n : Nat) (X : Cx) (tg iter : Expr) (f : FA) : Prop where
  run : Tied T n X → ∀ (G : Hp) (al : List Addr) (c : Cs) (env : En) (σ : L2.St) (H : Hp) (R : It → Hp → Prop) (ds : List D) (c' : Cs), HSt T G al c H → EOk T G al H env σ → f env c = some (ds, c') →
    (∀ (G' : Hp) (al' : List Addr) (H' : Hp) (J : It), Stp G al H G' al' H' → HSt T G' al' c' H' → ItOkQ T G' al' H' J ds → R J H') → SemI X tg iter σ H R
theorem TrI.q {fa : FA} {iter : Expr} (h : TrI T n X tg iter fa) : TrIQ T n X tg iter fa :=
  ⟨fun t G al c env σ H R ds c' hs he hf q => h.run t G al c env σ H R ds c' hs he hf fun G' al' H' J l hs' it => q G' al' H' J l hs' fun i G2 al2 c2 H2 l2 => it i G2 al2 c2 H2 l2.le⟩

def forD (g : FG) (fb : FS) : List D → FS
  | [], env, c => some (.nx, env, c)
  | d :: ds, env, c => match g d env with
    | none => none
    | some env1 => match fb env1 c with
      | some (.nx, env2, c2) => forD g fb ds env2 c2
      | some (.ct, env2, c2) => forD g fb ds env2 c2
      | some (.bk, env2, c2) => some (.nx, env2, c2)
      | some (.rt d, env2, c2) => some (.rt d, env2, c2)
      | none => none
def fFor (fi : FA) (g : FG) (fb : FS) : FS := fun env c => match fi env c with
  | some (ds, c1) => forD g fb ds env c1
  | none => none
theorem ts_for {iter : Expr} {fi : FA} (hi : TrI T n X tg iter fi) (hg : TrG T n X tg ws g) (hb : TrB T n X body fb) (hp : Tied T n X → PassesOwn (model X.prog X.w) X.A X.env X.xe := by intro _; exact PassesOwn.never)
    (hs : ∀ x, foldedSetIterable iter X.env x = pure x := by intro _; rfl) : TrS T n X (.For tg iter body [] pos) (fFor fi g fb) := by
  refine ⟨fun t B G al c env σ H E r env' c' k hf q => ofS (ps_for (hp t) t.calm (piS tg iter) (pgS tg) (pbS body) hs) ?_⟩
  unfold fFor at hf
  split at hf
  case h_2 => cases hf
  case h_1 ds c1 e1 =>
    refine hi.run t G al c env σ H _ ds c1 k.hs k.he e1 fun G1 al1 H1 J l1 hs1 it => ?_
    have k1 := k.step l1 hs1
    -- at turn i the rest of the items leads to the same end
    refine ⟨fun i m σ2 H2 => m = ds.length - i ∧ i ≤ ds.length ∧ ∃ G2 al2 c2 env2, Le G1 al1 G2 al2 ∧ Ok T B G2 al2 c2 H2 env2 σ2 ∧ forD g fb (ds.drop i) env2 c2 = some (r, env', c'), ⟨_, rfl, Nat.zero_le _, G1, al1, c1, env, .refl _ _, k1, by simpa using hf⟩, ?_⟩
    rintro i m σ2 H2 ⟨rfl, hil, G2, al2, c2, env2, le2, k2, hr⟩
    by_cases hlt : i < ds.length
    · rw [List.drop_eq_getElem_cons hlt] at hr
      unfold forD at hr
      split at hr
      case h_1 => cases hr
      case h_2 env3 e3 =>
        obtain ⟨go, yl⟩ := (it i G2 al2 c2 H2 le2 k2.hs).1 ds[i] (List.getElem?_eq_getElem hlt)
        refine .inr ⟨go, fun σ' H' => ∃ G' al' cn en, Le G1 al1 G' al' ∧ Ok T B G' al' cn H' en σ' ∧ forD g fb (ds.drop (i + 1)) en cn = some (r, env', c'), fun σ' H' ⟨G', al', cn, en, le', k', hr'⟩ => ⟨ds.length - (i + 1), by omega, rfl, hlt, G', al', cn, en, le', k', hr'⟩, fun x H3 y => ?_⟩
        obtain ⟨G3, l3, hs3, r3⟩ := yl x H3 y
        have k3 := k2.step l3 hs3
        refine hg.run t G3 al2 c2 env2 σ2 H3 ds[i] x env3 _ hs3 k3.he r3 e3 fun σ4 he4 _ _ hx4 => ?_
        have k4 := k3.asg he4 hx4
        have le4 := le2.trans l3.le
        split at hr
        case h_1 en cn eb => exact hb.run t B G3 al2 c2 env3 σ4 H3 _ _ _ _ k4 eb fun G5 al5 σ5 H5 l5 k5 => ⟨G5, al5, cn, en, le4.trans l5, k5, hr⟩
        case h_2 en cn eb => exact hb.run t B G3 al2 c2 env3 σ4 H3 _ _ _ _ k4 eb fun G5 al5 σ5 H5 l5 k5 => ⟨G5, al5, cn, en, le4.trans l5, k5, hr⟩
        case h_3 en cn eb => cases hr; exact hb.run t B G3 al2 c2 env3 σ4 H3 _ _ _ _ k4 eb fun G5 al5 σ5 H5 l5 k5 => q G5 al5 σ5 H5 (l1.le.trans (le4.trans l5)) k5
        case h_4 dd en cn eb => cases hr; exact hb.run t B G3 al2 c2 env3 σ4 H3 _ _ _ _ k4 eb fun G5 al5 σ5 H5 l5 k5 => q G5 al5 σ5 H5 (l1.le.trans (le4.trans l5)) k5
        case h_5 => cases hr
    · have e : i = ds.length := by omega
      subst e
      rw [List.drop_length] at hr
      cases hr
      exact .inl ⟨(it _ G2 al2 _ H2 le2 k2.hs).2 (Nat.le_refl _), q G2 al2 σ2 H2 (l1.le.trans le2) k2⟩
end
end Pd
set_option Elab.async false
set_option linter.all false
set_option maxRecDepth 100000
/-! Pd3: defs and their calls, attributes, methods, properties, new instances. -/
namespace Pd
open PySem PySem.Spec PyProof.Rows L2

/-- a def's promise by data -/
def SpS (T : Tb) (k : Nat) (m : FC) : Sp := fun vs H Q _ => vs.length = k ∧ ∃ (G : Hp) (al : List Addr) (c : Cs) (ds : List D) (d : D) (c' : Cs), HSt T G al c H ∧ RpL T G al ds vs ∧ m ds c = some (d, c') ∧ Aft T G al H d c' Q
/-- a def that stands at f -/
structure FnAt (T : Tb) (n : Nat) (f : Addr) (fd : FuncData) (ps : List Str) (m : FC) : Prop where
  ok : FnOk T.P T.w T.K T.mg T.base CX0 n f fd ps (SpS T ps.length m)
  kp : PySem.W.keepIn T.K (.ref f) = true
  b : Binds T.K fd ps []
  len : ∀ ds c r, m ds c = some r → ds.length = ps.length
/-- a def of the module -/
structure Fn (T : Tb) (n : Nat) (x : Str) (ps : List Str) (m : FC) : Prop where
  ex : ∃ f fd, FnAt T n f fd ps m ∧ T.mg x = some (.ref f)
/-- the field f: of the classes ks, with its place -/
structure Acc (T : Tb) (f : Str) (ks : List (Nat × Nat)) : Prop where
  ok : ∀ k i, ks.lookup k = some i → Cls T.K (T.cl k) ∧ NoAttr T.K (T.cl k) f ∧ (T.fl k)[i]? = some f ∧ (T.fl k).Nodup
/-- a method of the class k -/
structure Mth (T : Tb) (n : Nat) (k : Nat) (x : Str) (ps : List Str) (m : FC) : Prop where
  ex : ∃ f fd, FnAt T n f fd ps m ∧ Meth T.K (T.cl k) x f
  cls : Cls T.K (T.cl k)
  no : x ∉ T.fl k
/-- a property of the class k -/
structure Prp (T : Tb) (n : Nat) (k : Nat) (x : Str) (m : FC) : Prop where
  ex : ∃ p f fd ps, FnAt T n f fd ps m ∧ PropOf T.K (T.cl k) x p f
  cls : Cls T.K (T.cl k)
/-- a staticmethod of the class k -/
structure Smt (T : Tb) (n : Nat) (k : Nat) (x : Str) (ps : List Str) (m : FC) : Prop where
  ex : ∃ p f fd, FnAt T n f fd ps m ∧ PySem.W.findCls T.K (.ref (T.cl k)) (.type "type") x = some (.get (.builtin "staticmethod.__get__") (.ref p) .none (.ref (T.cl k))) ∧ (∃ rest, PySem.W.recIn T.K p "staticmethod" = some (.ref f :: rest))
  rd : ClX.CRead T.K (T.cl k) (.type "type")
/-- what __init__ makes of the new instance -/
def SpI (T : Tb) (k : Nat) (j : Nat) (m : FC) : Sp := fun vs H Q _ => vs.length = j ∧ ∃ (x dx : Addr) (vs' : List V) (G : Hp) (al : List Addr) (c : Cs) (H0 : Hp) (ds : List D) (d : D) (c' : Cs), vs = .ref x :: vs' ∧ H0 x = none ∧ H0 dx = none ∧ dx ≠ x ∧
  H = upd (upd H0 dx (.own x)) x (.ins (T.cl k) dx []) ∧ HSt T G al c H0 ∧ RpL T G al ds vs' ∧ m ds c = some (d, c') ∧
  ∀ (G' : Hp) (al' : List Addr) (H' : Hp) (o : HO), Stp G al H0 G' al' H' → HSt T G' al' c' H' → G' x = none → x ∉ al' → H' x = some o → Bx T G' al' x o d → Q .non H'
structure Mkr (T : Tb) (n : Nat) (k : Nat) (x : Str) (ps : List Str) (m : FC) : Prop where
  ex : ∃ f fd, FnOk T.P T.w T.K T.mg T.base CX0 n f fd ps (SpI T k ps.length m) ∧ Mk T.K (T.cl k) f ∧ Binds T.K fd ps []
  len : ∀ ds c r, m ds c = some r → ds.length + 1 = ps.length
  mg : T.mg x = some (.ref (T.cl k))

theorem FnAt.mono {T : Tb} {n n' : Nat} {f : Addr} {fd : FuncData} {ps : List Str} {m : FC} (h : FnAt T n f fd ps m) (l : n ≤ n') : FnAt T n' f fd ps m := ⟨h.ok.mono l, h.kp, h.b, h.len⟩
theorem FnAt.sp {T : Tb} {n : Nat} {f : Addr} {fd : FuncData} {ps : List Str} {m : FC} (h : FnAt T n f fd ps m) {G : Hp} {al : List Addr} {c : Cs} {H : Hp} {Q : VK} {E : XK} {ds : List D} {vs : List V} {d : D} {c' : Cs} (hs : HSt T G al c H) (r : RpL T G al ds vs) (hm : m ds c = some (d, c')) (q : Aft T G al H d c' Q) :
    SpS T ps.length m vs H Q E := ⟨r.length.symm.trans (h.len _ _ _ hm), G, al, c, ds, d, c', hs, r, hm, q⟩

section
variable {T : Tb} {n k : Nat} {X : Cx} {pos p : Pos} {e o : Expr} {es : List Expr} {fe fo : FE} {fa : FA} {m : FC} {x : Str} {ps : List Str}
theorem Tied.fn {f : Addr} {fd : FuncData} {sp : Sp} (t : Tied T n X) (h : FnOk T.P T.w T.K T.mg T.base CX0 k f fd ps sp) : FnOk X.prog X.w X.K X.mg X.base CX0 k f fd ps sp := by
  rw [t.P, t.w, t.K, t.mg, t.base]; exact h
def fCall (m : FC) (fa : FA) : FE := fun env c => match fa env c with
  | some (ds, c1) => m ds c1
  | none => none
theorem tr_call (F : Fn T k x ps m) (ha : TrA T n X (e :: es) fa) (hk : k ≤ n := by decide) (hg : Gl X x := by rfl) (hdb : (x == ("__debug__" : Str)) = false := by decide) (he : starEach (e :: es) X.env = (false, eval e X.env) :: starEach es X.env := by rfl)
    (hpl : (backTo pos (starEach es X.env)).any (·.1) = false := by rfl) : TrE T n X (.Call (.Name x p) (e :: es) [] pos) (fCall m fa) := by
  obtain ⟨f, fd, A, g⟩ := F.ex
  refine ⟨fun t G al c env σ H Q d c' hs he' hf q => ofE (pe_call (t.fn A.ok) (t.room.mono hk) hg (by rw [t.mg]; exact g) (by rw [t.K]; exact A.kp) (by rw [t.K]; exact A.b) .nil pass0 (paS (e :: es)) hdb he hpl) ?_⟩
  unfold fCall at hf
  split at hf
  case h_2 => cases hf
  case h_1 ds c1 e1 =>
    refine ha.run t G al c env σ H _ ds c1 hs he' e1 fun G1 al1 H1 vs l1 hs1 r1 => ?_
    rw [List.append_nil]
    exact A.sp hs1 r1 hf fun G' al' H' v l => q G' al' H' v (l1.trans l)
theorem tr_call0 (F : Fn T k x ps m) (hk : k ≤ n := by decide) (hg : Gl X x := by rfl) (hdb : (x == ("__debug__" : Str)) = false := by decide) : TrE T n X (.Call (.Name x p) [] [] pos) (fCall m aNil) := by
  obtain ⟨f, fd, A, g⟩ := F.ex
  refine ⟨fun t G al c env σ H Q d c' hs he' hf q => ofE (pe_call0 (t.fn A.ok) (t.room.mono hk) hg (by rw [t.mg]; exact g) (by rw [t.K]; exact A.kp) (by rw [t.K]; exact A.b) .nil pass0 hdb) ?_⟩
  exact A.sp (E := E0) hs .nil hf q

/-! ### attributes -/
theorem zip_lookup : ∀ {fl : List Str} {vs : List V} {i : Nat} {f : Str} {v : V}, fl.Nodup → fl[i]? = some f → vs[i]? = some v → (fl.zip vs).lookup f = some v
  | [], _, _, _, _, _, h, _ => by simp at h
  | _ :: _, [], _, _, _, _, _, h => by simp at h
  | a :: fl, w :: vs, 0, f, v, nd, h1, h2 => by
    simp at h1 h2; subst h1; subst h2
    show List.lookup a ((a, w) :: fl.zip vs) = some w
    simp [List.lookup_cons]
  | a :: fl, w :: vs, i + 1, f, v, nd, h1, h2 => by
    have nd' := List.nodup_cons.mp nd
    have h1' : fl[i]? = some f := by simpa using h1
    have ne : f ≠ a := fun z => nd'.1 (z ▸ List.mem_of_getElem? h1')
    show List.lookup f ((a, w) :: fl.zip vs) = some v
    rw [List.lookup_cons]
    have : (f == a) = false := by simpa using ne
    rw [this]
    exact zip_lookup nd'.2 h1' (by simpa using h2)
/-- the instance that a datum stands for -/
theorem Rq.ins {G : Hp} {al : List Addr} {c : Cs} {H : Hp} {k : Nat} {ds : List D} {v : V} (hs : HSt T G al c H) (h : Rq T G al H (.obj k ds) v) : ∃ a dx vs, v = .ref a ∧ H a = some (.ins (T.cl k) dx ((T.fl k).zip vs)) ∧ RpL T G al ds vs ∧ ds.length ≤ (T.fl k).length := by
  rcases h with h | ⟨a, o, e, _, _, hh, b⟩
  · cases h with
    | box g b =>
      cases b with
      | obj r hl => exact ⟨_, _, _, rfl, hs.ex _ _ g, r, hl⟩
  · cases b with
    | obj r hl => exact ⟨a, _, _, e, hh, r, hl⟩
/-- a datum, or what its cell holds -/
def deref (c : Cs) : D → Option D
  | .cell k => c[k]?
  | d => some d
/-- .. in the heap -/
theorem Rq.ins' {G : Hp} {al : List Addr} {c : Cs} {H : Hp} {k : Nat} {d : D} {ds : List D} {v : V} (hs : HSt T G al c H) (h : Rq T G al H d v) (hd : deref c d = some (.obj k ds)) : ∃ a dx vs, v = .ref a ∧ H a = some (.ins (T.cl k) dx ((T.fl k).zip vs)) ∧ RpL T G al ds vs ∧ ds.length ≤ (T.fl k).length := by
  cases d with
  | cell j =>
    have hd : c[j]? = some (.obj k ds) := hd
    rcases h with h | ⟨a, o, e, _, _, hh, b⟩
    · cases h with
      | box g b => cases b
      | cell ha =>
        obtain ⟨_, o, ho, b⟩ := hs.at_ j _ _ ha hd
        cases b with
        | obj r hl => exact ⟨_, _, _, rfl, ho, r, hl⟩
    · cases b
  | obj k' ds' => cases hd; exact h.ins hs
  | _ => cases hd
def fFld (ks : List (Nat × Nat)) (f : FE) : FE := fun env c => match f env c with
  | some (d, c1) => match deref c1 d with
    | some (.obj k ds) => match ks.lookup k with
      | some i => match ds[i]? with
        | some y => some (y, c1)
        | none => none
      | none => none
    | _ => none
  | none => none
theorem tr_fld {f : Str} {ks : List (Nat × Nat)} (A : Acc T f ks) (h : TrQ T n X e fe) (hb : attributeBase e f X.env (eval e X.env) = eval e X.env := by rfl) : TrE T n X (.Attribute e f pos) (fFld ks fe) := by
  refine ⟨fun t G al c env σ H Q d c' hs he' hf q => ofE (pe_fld (peS e) hb) ?_⟩
  unfold fFld at hf
  split at hf
  case h_2 => cases hf
  case h_1 d1 c1 e1 =>
    split at hf
    case h_2 => cases hf
    case h_1 k ds e2 =>
      split at hf
      case h_2 => cases hf
      case h_1 i e3 =>
        split at hf
        case h_2 => cases hf
        case h_1 y e4 =>
          cases hf
          refine h.run t G al c env σ H _ d1 _ hs he' e1 fun G1 al1 H1 v l1 hs1 r1 => ?_
          obtain ⟨a, dx, vs, rfl, ha, rl, hl⟩ := r1.ins' hs1 e2
          obtain ⟨h1, h2, h3, h4⟩ := A.ok k i e3
          obtain ⟨u, hu, ru⟩ := rl.get e4
          exact ⟨a, _, dx, _, u, rfl, ha, by rw [t.K]; exact h1, by rw [t.K]; exact h2, zip_lookup h4 h3 hu, q G1 al1 H1 u l1 hs1 ru⟩

/-! ### methods, properties -/
theorem zip_none : ∀ {fl : List Str} {vs : List V} {f : Str}, f ∉ fl → (fl.zip vs).lookup f = none
  | [], _, _, _ => rfl
  | _ :: _, [], _, _ => rfl
  | a :: fl, w :: vs, f, h => by
    have ne : f ≠ a := fun z => h (z ▸ List.mem_cons_self)
    show List.lookup f ((a, w) :: fl.zip vs) = none
    rw [List.lookup_cons]
    have : (f == a) = false := by simpa using ne
    rw [this]
    exact zip_none fun z => h (List.mem_cons_of_mem _ z)
/-- o.m(..): by the class of o -/
def fMeth (ms : Nat → Option FC) (fo : FE) (fa : FA) : FE := fun env c => match fo env c with
  | some (d, c1) => match deref c1 d with
    | some (.obj k _) => match ms k with
      | some m => match fa env c1 with
        | some (ds, c2) => m (d :: ds) c2
        | none => none
      | none => none
    | _ => none
  | none => none
theorem tr_meth {ms : Nat → Option FC} {apos : Pos} (hm : ∀ j m, ms j = some m → ∃ k ps, k ≤ n ∧ Mth T k j x ps m) (ho : TrE T n X o fo) (ha : TrA T n X (e :: es) fa) (pl : Sem Bool)
    (hst : starEach (e :: es) X.env = (false, eval e X.env) :: starEach es X.env := by rfl) (hpl : (backTo pos (starEach es X.env)).any (·.1) = false := by rfl)
    (ht : eval (.Call (.Attribute o x apos) (e :: es) [] pos) X.env = (do
      let ov ← eval o X.env
      standAt apos.atName
      let (f, first) ← holding [ov] (getMethod ov x pl)
      callWith pos f first (backTo pos (starEach (e :: es) X.env)) (backToKw pos (keywordEach [] X.env))) := by rfl) : TrE T n X (.Call (.Attribute o x apos) (e :: es) [] pos) (fMeth ms fo fa) := by
  refine ⟨fun t G al c env σ H Q d c' hs he' hf q => ?_⟩
  unfold fMeth at hf
  split at hf
  case h_2 => cases hf
  case h_1 d1 c1 e1 =>
    split at hf
    case h_2 => cases hf
    case h_1 j ds0 e2 =>
      split at hf
      case h_2 => cases hf
      case h_1 m e3 =>
        split at hf
        case h_2 => cases hf
        case h_1 ds c2 e4 =>
          obtain ⟨k, ps, hk, ⟨f, fd, A, M⟩, C, no⟩ := hm j m e3
          refine ofE (pe_meth (pl := pl) (peS o) (by rw [t.K]; exact C) (by rw [t.K]; exact M) (t.fn A.ok) (t.room.mono hk) (by rw [t.K]; exact A.b) .nil pass0 (paS (e :: es)) hst hpl ht) ?_
          refine ho.run t G al c env σ H _ d1 c1 hs he' e1 fun G1 al1 H1 v l1 hs1 r1 => ?_
          obtain ⟨a, dx, vs0, rfl, hh, rl, hl⟩ := Rq.ins' hs1 (.inl r1) e2
          refine ⟨a, dx, _, rfl, hh, zip_none no, ?_⟩
          refine ha.run t G1 al1 c1 env σ H1 _ ds c2 hs1 (he'.mono l1) e4 fun G2 al2 H2 vs l2 hs2 r2 => ?_
          rw [List.append_nil]
          exact A.sp hs2 (.cons (r1.mono l2.le) r2) hf fun G' al' H' v' l => q G' al' H' v' ((l1.trans l2).trans l)
theorem tr_meth0 {ms : Nat → Option FC} {apos : Pos} (hm : ∀ j m, ms j = some m → ∃ k ps, k ≤ n ∧ Mth T k j x ps m) (ho : TrE T n X o fo) (pl : Sem Bool)
    (ht : eval (.Call (.Attribute o x apos) [] [] pos) X.env = (do
      let ov ← eval o X.env
      standAt apos.atName
      let (f, first) ← holding [ov] (getMethod ov x pl)
      callWith pos f first (backTo pos (starEach [] X.env)) (backToKw pos (keywordEach [] X.env))) := by rfl) : TrE T n X (.Call (.Attribute o x apos) [] [] pos) (fMeth ms fo aNil) := by
  refine ⟨fun t G al c env σ H Q d c' hs he' hf q => ?_⟩
  unfold fMeth at hf
  split at hf
  case h_2 => cases hf
  case h_1 d1 c1 e1 =>
    split at hf
    case h_2 => cases hf
    case h_1 j ds0 e2 =>
      split at hf
      case h_2 => cases hf
      case h_1 m e3 =>
        have hf : m [d1] c1 = some (d, c') := hf
        obtain ⟨k, ps, hk, ⟨f, fd, A, M⟩, C, no⟩ := hm j m e3
        refine ofE (pe_meth0 (pl := pl) (peS o) (by rw [t.K]; exact C) (by rw [t.K]; exact M) (t.fn A.ok) (t.room.mono hk) (by rw [t.K]; exact A.b) .nil pass0 ht) ?_
        refine ho.run t G al c env σ H _ d1 c1 hs he' e1 fun G1 al1 H1 v l1 hs1 r1 => ?_
        obtain ⟨a, dx, vs0, rfl, hh, rl, hl⟩ := Rq.ins' hs1 (.inl r1) e2
        refine ⟨a, dx, _, rfl, hh, zip_none no, ?_⟩
        exact A.sp (E := E0) hs1 (.cons r1 .nil) hf fun G' al' H' v' l => q G' al' H' v' (l1.trans l)
/-- o.f, a property by the class of o -/
def fProp (ms : Nat → Option FC) (fo : FE) : FE := fun env c => match fo env c with
  | some (d, c1) => match deref c1 d with
    | some (.obj k _) => match ms k with
      | some m => m [d] c1
      | none => none
    | _ => none
  | none => none
theorem tr_prop {ms : Nat → Option FC} (hm : ∀ j m, ms j = some m → ∃ k, k + 1 ≤ n ∧ Prp T k j x m) (ho : TrE T n X o fo) (hab : attributeBase o x X.env (eval o X.env) = eval o X.env := by rfl) : TrE T n X (.Attribute o x pos) (fProp ms fo) := by
  refine ⟨fun t G al c env σ H Q d c' hs he' hf q => ?_⟩
  unfold fProp at hf
  split at hf
  case h_2 => cases hf
  case h_1 d1 c1 e1 =>
    split at hf
    case h_2 => cases hf
    case h_1 j ds0 e2 =>
      split at hf
      case h_2 => cases hf
      case h_1 m e3 =>
        obtain ⟨k, hk, ⟨pp, f, fd, ps, A, P⟩, C⟩ := hm j m e3
        refine ofE (pe_prop (peS o) (by rw [t.K]; exact C) (by rw [t.K]; exact P) (t.fn A.ok) (t.room.mono hk) (by rw [t.K]; exact A.b) .nil pass0 hab) ?_
        refine ho.run t G al c env σ H _ d1 c1 hs he' e1 fun G1 al1 H1 v l1 hs1 r1 => ?_
        obtain ⟨a, dx, vs0, rfl, hh, rl, hl⟩ := Rq.ins' hs1 (.inl r1) e2
        refine ⟨a, dx, _, rfl, hh, ?_⟩
        exact A.sp (E := E0) hs1 (.cons r1 .nil) hf fun G' al' H' v' l => q G' al' H' v' (l1.trans l)
/-! ### staticmethods -/
theorem getsm_ok {pins : List (Addr × Obj)} {σ : L2.St} {H : Hp} {s : Shared} {C q f : Addr} {b : Bool} {A : Around} {Q : Value → Shared → Prop} {E : Value → Shared → Prop} (I : Inv X pins σ H s) (r : ClX.CRead X.K C (.type "type"))
    (e : PySem.W.findCls X.K (.ref C) (.type "type") x = some (.get (.builtin "staticmethod.__get__") (.ref q) .none (.ref C))) (hp : ∃ rest, PySem.W.recIn X.K q "staticmethod" = some (.ref f :: rest))
    (h : ∀ s', Inv X pins σ H s' → Q (.ref f) s') : wpAny (model X.prog X.w) A (getAttr (.ref C) x b) Q E s := by
  obtain ⟨rest, hp⟩ := hp
  exact PySem.W.cls_bind I.kIn r.rd e (wpAny_call (PySem.W.sm_get (s := { s with toks := s.toks + 1 }) I.kIn hp (PySem.W.handed_on (by rfl) (h _ (I.tok _)))))
theorem tr_sm {apos : Pos} (S : Smt T k j x ps m) (ho : X.mg y = some (.ref (T.cl j))) (ha : TrA T n X (e :: es) fa) (pl : Sem Bool) (hk : k ≤ n := by decide) (hg : Gl X y := by rfl) (hd : (y == ("__debug__" : Str)) = false := by decide)
    (hst : starEach (e :: es) X.env = (false, eval e X.env) :: starEach es X.env := by rfl) (hpl : (backTo pos (starEach es X.env)).any (·.1) = false := by rfl)
    (ht : eval (.Call (.Attribute (.Name y p) x apos) (e :: es) [] pos) X.env = (do
      let ov ← eval (.Name y p) X.env
      standAt apos.atName
      let (f, first) ← holding [ov] (getMethod ov x pl)
      callWith pos f first (backTo pos (starEach (e :: es) X.env)) (backToKw pos (keywordEach [] X.env))) := by rfl) : TrE T n X (.Call (.Attribute (.Name y p) x apos) (e :: es) [] pos) (fCall m fa) := by
  obtain ⟨⟨q, f, fd, A, h1, h2⟩, rd⟩ := S
  refine ⟨fun t G al c env σ H Q d c' hs he' hf q' => fun pins s I => ?_⟩
  have pc : PE X (.Name y p) (tC (.ref (T.cl j))) := pe_glob (v := .ref (T.cl j)) hg ho rfl hd
  refine PySem.W.methodCall_KW (pl := pl) (thn (pc.run pins s σ H (fun v H1 => v = .ref (T.cl j) ∧ H1 = H) I ⟨rfl, rfl⟩) fun u s1 ⟨w, H1, I1, r1, ew, eH⟩ => ?_) ht
  subst ew; subst eH
  obtain rfl : u = Value.ref (T.cl j) := r1
  refine PySem.W.method_cls I1.kIn (by rw [t.K]; exact rd.ga) (getsm_ok I1 (by rw [t.K]; exact rd) (by rw [t.K]; exact h1) (by rw [t.K]; exact h2) fun s2 I2 => ?_)
  unfold fCall at hf
  split at hf
  case h_2 => cases hf
  case h_1 ds c1 e1 =>
    refine PySem.W.callWith_K (first := []) (h₀ := X.base) I.ok.mod.kin (by rw [t.K]; exact A.kp) ?_ hst hpl
    have key : SemA X (e :: es) σ H1 fun vs H2 => SpS T ps.length m vs H2 Q E0 := ha.run t G al c env σ H1 _ ds c1 hs he' e1 fun G1 al1 H2 vs l1 hs1 rl => A.sp hs1 rl hf fun G' al' H' v l => q' G' al' H' v (l1.trans l)
    refine thn (key pos pins s2 I2) fun us s3 ⟨vs, H2, I3, rv, q2⟩ => ⟨I3.kIn, ?_⟩
    exact run_fn (us := us) (t.fn A.ok) (t.room.mono hk) (by rw [t.K]; exact A.b) .nil pass0 I3 rv (by rw [List.append_nil]; exact q2)
/-! ### new instances -/
theorem tr_make (M : Mkr T k j x ps m) (ha : TrA T n X (e :: es) fa) (hk : k + 1 ≤ n := by decide) (hg : Gl X x := by rfl) (hdb : (x == ("__debug__" : Str)) = false := by decide) (he : starEach (e :: es) X.env = (false, eval e X.env) :: starEach es X.env := by rfl)
    (hpl : (backTo pos (starEach es X.env)).any (·.1) = false := by rfl) : TrN T n X (.Call (.Name x p) (e :: es) [] pos) (fCall m fa) := by
  obtain ⟨f, fd, A, MK, b⟩ := M.ex
  refine ⟨fun t G al c env σ H Q d c' hs he' hf q => ofE (pe_make (by rw [t.K]; exact MK) (t.fn A) (t.room.mono hk) hg (by rw [t.mg]; exact M.mg) (by rw [t.K]; exact b) .nil pass0 (paS (e :: es)) hdb he hpl) ?_⟩
  unfold fCall at hf
  split at hf
  case h_2 => cases hf
  case h_1 ds c1 e1 =>
    refine ha.run t G al c env σ H _ ds c1 hs he' e1 fun G1 al1 H1 vs l1 hs1 r1 => fun y dx hy hdx hne => ?_
    rw [List.append_nil]
    refine ⟨by rw [List.length_cons, ← r1.length]; exact M.len _ _ _ hf, y, dx, vs, G1, al1, c1, H1, ds, d, c', rfl, hy, hdx, hne, rfl, hs1, r1, hf, fun G' al' H' o l hs' hg' ha' ho hb => ⟨rfl, ?_⟩⟩
    exact q G' al' H' y o (l1.trans l) hs' hg' ha' (fresh_before hs hs1 l1 hy) ho hb
end

/-! ### a def's body -/
def startD (N : List Str) (ds : List D) : En := ds.map (fun d => some (.f d)) ++ List.replicate (N.length - ds.length) none
/-- the context of a body -/
abbrev BX (T : Tb) (N : List Str) (qual : Str) (scope : Scope) (f : Addr) (cdv : Value) (A : Around) (outer : List Env) (s : Shared) (H : Hp) (E : XK) : Cx := (cxOf CX0 T.P T.w T.K T.mg T.base N qual scope f cdv A outer s H E).nox
section
variable {T : Tb} {n : Nat} {N ps : List Str} {x qual : Str} {params : Arguments} {body : List Stmt} {scope : Scope} {f : Addr} {fd : FuncData} {kws : List (Str × V)} {m : FC} {fb : FS}
theorem eok_start {G : Hp} {al : List Addr} {H : Hp} {ds : List D} {vs : List V} (r : RpL T G al ds vs) : EOk T G al H (startD N ds) (L2.start N vs) := by
  have len := r.length
  have key : ∀ (i : Nat) (s : Sl), (startD N ds)[i]? = some (some s) → ∃ d, s = .f d ∧ ds[i]? = some d := fun i s h => by
    unfold startD at h
    by_cases hi : i < ds.length
    · rw [List.getElem?_append_left (by simpa using hi), List.getElem?_map, List.getElem?_eq_getElem hi] at h
      cases h
      exact ⟨_, rfl, List.getElem?_eq_getElem hi⟩
    · rw [List.getElem?_append_right (by simpa using hi), List.getElem?_replicate] at h
      split at h <;> cases h
  refine ⟨by simp [startD, L2.start, len], fun i d h => ?_, fun i d h => ?_, fun i j d e a h _ _ _ => ?_⟩
  · obtain ⟨d', e, hd⟩ := key i _ h
    cases e
    obtain ⟨v, hv, rv⟩ := r.get hd
    refine ⟨v, ?_, rv⟩
    obtain ⟨hl, _⟩ := List.getElem?_eq_some_iff.mp hv
    unfold L2.start
    rw [List.getElem?_append_left (by simpa using hl), List.getElem?_map, hv]
    rfl
  · obtain ⟨d', e, _⟩ := key i _ h
    cases e
  · obtain ⟨d', e, _⟩ := key i _ h
    cases e
theorem fnok_body (F : FunD T.K x qual params body scope [] kws f fd) (S : FnScope N ps scope) (nd : N.Nodup)
    (tr : ∀ (cdv : Value) (A : Around) (outer : List Env) (s : Shared) (H : Hp) (E : XK), TrB T n (BX T N qual scope f cdv A outer s H E) body fb)
    (hm : ∀ ds c r, m ds c = some r → ∃ fl env', fb (startD N ds) c = some (fl, env', r.2) ∧ (fl = .rt r.1 ∨ (fl = .nx ∧ r.1 = .non))) : FnOk T.P T.w T.K T.mg T.base CX0 (n + 1) f fd ps (SpS T ps.length m) := by
  refine F.ok S (fun vs H Q E h => h.1) (fun cdv A outer s H vs Q E hr h => ?_)
  obtain ⟨hl, G, al, c, ds, d, c', hs, rl, e1, q⟩ := h
  obtain ⟨fl, env', e2, e3⟩ := hm ds c (d, c') e1
  have ti : Tied T n (BX T N qual scope f cdv A outer s H E) := ⟨rfl, rfl, rfl, rfl, rfl, rfl, nd, hr⟩
  refine ⟨_, PSs.nox (pbS body), (tr cdv A outer s H E).run ti ⟨G, al, c, H, none⟩ G al c (startD N ds) (L2.start N vs) H _ fl env' c' ⟨hs, hs, eok_start rl, .refl _ _ _, fun i e a h => ?_, fun x e hx => by cases hx⟩ e2 fun G' al' σ' H' l k' => ?_⟩
  · obtain ⟨b, o, s1, _⟩ := (eok_start (N := N) (H := H) rl).own i e h
    unfold startD at h
    by_cases hi : i < ds.length
    · rw [List.getElem?_append_left (by simpa using hi), List.getElem?_map, List.getElem?_eq_getElem hi] at h; cases h
    · rw [List.getElem?_append_right (by simpa using hi), List.getElem?_replicate] at h
      split at h <;> cases h
  · rcases e3 with e3 | ⟨e3, e4⟩
    · subst e3
      exact fun v r => q G' al' H' v k'.st k'.hs r
    · subst e3
      have e4 : d = .non := e4
      subst e4
      exact q G' al' H' .non k'.st k'.hs .non
/-- __init__: the new instance is the first parameter's -/
def startI (k : Nat) (N : List Str) (ds : List D) : En := (startD N (.non :: ds)).set 0 (some (.o (.obj k [])))
theorem fnok_init {k : Nat} (F : FunD T.K x qual params body scope [] kws f fd) (S : FnScope N ps scope) (nd : N.Nodup)
    (tr : ∀ (cdv : Value) (A : Around) (outer : List Env) (s : Shared) (H : Hp) (E : XK), TrB T n (BX T N qual scope f cdv A outer s H E) body fb)
    (hm : ∀ ds c r, m ds c = some r → ∃ fl env', fb (startI k N ds) c = some (fl, env', r.2) ∧ (fl = .rt .non ∨ fl = .nx) ∧ env'[0]? = some (some (.o r.1))) : FnOk T.P T.w T.K T.mg T.base CX0 (n + 1) f fd ps (SpI T k ps.length m) := by
  refine F.ok S (fun vs H Q E h => h.1) (fun cdv A outer s H vs Q E hr h => ?_)
  obtain ⟨hl, y, dx, vs', G, al, c, H0, ds, d, c', rfl, hy, hdx, hne, rfl, hs, rl, e1, q⟩ := h
  obtain ⟨fl, env', e2, e3, e4⟩ := hm ds c (d, c') e1
  have ti : Tied T n (BX T N qual scope f cdv A outer s (upd (upd H0 dx (.own y)) y (.ins (T.cl k) dx [])) E) := ⟨rfl, rfl, rfl, rfl, rfl, rfl, nd, hr⟩
  have hy1 : (upd H0 dx (.own y)) y = none := by rw [upd_ne (Ne.symm hne)]; exact hy
  have hs1 : HSt T G al c (upd (upd H0 dx (.own y)) y (.ins (T.cl k) dx [])) := (hs.junk hdx).junk hy1
  have st1 : Stp G al H0 G al (upd (upd H0 dx (.own y)) y (.ins (T.cl k) dx [])) := (Stp.junk hdx).trans (Stp.junk hy1)
  have r0 : RpL T G al (.non :: ds) (.non :: vs') := .cons .non rl
  have he0 : EOk T G al (upd (upd H0 dx (.own y)) y (.ins (T.cl k) dx [])) (startD N (.non :: ds)) (L2.start N (.non :: vs')) := eok_start r0
  have none_own : ∀ (j : Nat) (e : D), (startD N (.non :: ds))[j]? ≠ some (some (.o e)) := fun j e h => by
    unfold startD at h
    by_cases hi : j < (D.non :: ds).length
    · rw [List.getElem?_append_left (by simpa using hi), List.getElem?_map, List.getElem?_eq_getElem hi] at h; cases h
    · rw [List.getElem?_append_right (by simpa using hi), List.getElem?_replicate] at h
      split at h <;> cases h
  have es : L2.start N (.ref y :: vs') = (L2.start N (.non :: vs')).set 0 (some (.ref y)) := rfl
  have hb0 : Bx T G al y (.ins (T.cl k) dx []) (.obj k []) := by
    have := Bx.obj (T := T) (G := G) (al := al) (a := y) (dx := dx) (c := k) (vs := []) (ds := []) .nil (Nat.zero_le _)
    rw [List.zip_nil_right] at this
    exact this
  have he1 : EOk T G al (upd (upd H0 dx (.own y)) y (.ins (T.cl k) dx [])) (startI k N ds) (L2.start N (.ref y :: vs')) := by
    rw [es]
    exact he0.setO 0 (hs.free hy) (hs.apart hy) upd_same hb0 fun j e _ h => absurd h (none_own j e)
  refine ⟨_, PSs.nox (pbS body), (tr cdv A outer s _ E).run ti ⟨G, al, c, H0, some y⟩ G al c (startI k N ds) (L2.start N (.ref y :: vs')) _ _ fl env' c' ⟨hs, hs1, he1, st1, fun i e a h h2 => ?_, fun x e hx _ => ?_⟩ e2 fun G' al' σ' H' l k' => ?_⟩
  · by_cases hi : i = 0
    · subst hi
      rw [es] at h2
      unfold startI at h
      have hl0 : 0 < (L2.start N (.non :: vs')).length := by simp [L2.start]
      rw [List.getElem?_set_self hl0] at h2
      cases h2
      exact hy
    · unfold startI at h
      rw [List.getElem?_set_ne (Ne.symm hi)] at h
      exact absurd h (none_own i e)
  · cases hx
    rw [es]
    exact List.getElem?_set_self (by simp [L2.start])
  · have hx := k'.se y d rfl e4
    obtain ⟨a, o, s1, hg, ha, ho, hb⟩ := k'.he.own 0 d e4
    rw [hx] at s1
    cases s1
    have fin := q G' al' H' o k'.st k'.hs hg ha ho hb
    rcases e3 with e3 | e3
    · subst e3
      intro v r
      cases r with
      | non => exact fin
      | box _ z => cases z
    · subst e3
      exact fin

/-! ### a field of one's own object -/
theorem putF_zip : ∀ {fl : List Str} {vs : List V} {i : Nat} {f : Str} {v : V}, fl.Nodup → fl[i]? = some f → i ≤ vs.length → vs.length ≤ fl.length → putF f v (fl.zip vs) = fl.zip (if i < vs.length then vs.set i v else vs ++ [v])
  | [], _, _, _, _, _, h, _, _ => by simp at h
  | a :: fl, [], 0, f, v, nd, h, _, _ => by
    simp at h; subst h
    simp [putF]
  | a :: fl, [], i + 1, f, v, nd, h, hl, _ => by simp at hl
  | a :: fl, w :: vs, 0, f, v, nd, h, _, _ => by
    simp at h; subst h
    show putF a v ((a, w) :: fl.zip vs) = _
    unfold putF
    simp
  | a :: fl, w :: vs, i + 1, f, v, nd, h, hl, hl2 => by
    have nd' := List.nodup_cons.mp nd
    have h1 : fl[i]? = some f := by simpa using h
    have ne : a ≠ f := fun z => nd'.1 (z ▸ List.mem_of_getElem? h1)
    show putF f v ((a, w) :: fl.zip vs) = _
    have ih := putF_zip (vs := vs) (v := v) nd'.2 h1 (by simpa using hl) (by simpa using hl2)
    by_cases hlt : i < vs.length
    · rw [if_pos hlt] at ih
      rw [if_pos (by simpa using hlt)]
      unfold putF
      simp [ne, ih]
    · rw [if_neg hlt] at ih
      rw [if_neg (by simpa using hlt)]
      unfold putF
      simp [ne, ih]
/-- self.f = e: the fields are set in the order of the table at first -/
def fldPut (i : Nat) (ds : List D) (d : D) : Option (List D) := if i < ds.length then some (ds.set i d) else if i = ds.length then some (ds ++ [d]) else none
end
end Pd
set_option Elab.async false
set_option linter.all false
set_option maxRecDepth 100000
/-! Pd4: what is walked, comprehensions, stores into one's own objects. -/
namespace Pd
open PySem PySem.Spec PyProof.Rows L2

theorem wipe_ext : ∀ {vs : List Nat} {σ σ' : L2.St}, σ'.length = σ.length → (∀ j, j ∉ vs → σ'[j]? = σ[j]?) → L2.wipe σ' vs = L2.wipe σ vs := fun {vs σ σ'} hl h => by
  apply List.ext_getElem?
  intro j
  have key : ∀ (ws : List Nat) (τ : L2.St), j ∈ ws → (L2.wipe τ ws)[j]? = if j < τ.length then some none else none := fun ws τ => by
    induction ws with
    | nil => intro h; cases h
    | cons w ws ih =>
      intro hm
      unfold L2.wipe
      by_cases hw : w = j
      · subst hw
        by_cases hl : w < τ.length
        · rw [if_pos hl, List.getElem?_set_self (by rw [L2.wipe_length]; exact hl)]
        · rw [if_neg hl, List.getElem?_eq_none (by simp [L2.wipe_length]; omega)]
      · rw [List.getElem?_set_ne hw]
        rcases List.mem_cons.mp hm with e | e
        · exact absurd e.symm hw
        · exact ih e
  by_cases hj : j ∈ vs
  · rw [key vs σ' hj, key vs σ hj, hl]
  · rw [L2.wipe_out hj, L2.wipe_out hj]
    exact h j hj
theorem wipeD_some {env : En} {j : Nat} {s : Sl} : ∀ {vs : List Nat}, (wipeD env vs)[j]? = some (some s) → env[j]? = some (some s) ∧ j ∉ vs
  | [], h => ⟨h, by simp⟩
  | v :: vs, h => by
    unfold wipeD at h
    by_cases hi : v = j
    · subst hi
      by_cases hv : v < (wipeD env vs).length
      · rw [List.getElem?_set_self hv] at h; cases h
      · rw [List.getElem?_eq_none (by simpa using hv)] at h; cases h
    · rw [List.getElem?_set_ne hi] at h
      obtain ⟨h1, h2⟩ := wipeD_some h
      exact ⟨h1, by simp only [List.mem_cons, not_or]; exact ⟨fun e => hi e.symm, h2⟩⟩
theorem wipe_idem (σ : L2.St) (vs : List Nat) : L2.wipe (L2.wipe σ vs) vs = L2.wipe σ vs := wipe_ext (L2.wipe_length σ vs) fun j hj => L2.wipe_out hj

section
variable {T : Tb} {n : Nat} {X : Cx} {pos : Pos} {e elt tg iter c0 : Expr} {fe : FE} {ft : FT} {g : FG} {ws : List Nat} {fi : FA}
/-! ### a clause's tests -/
def fYes : FT := fun _ c => some (true, c)
theorem tts_nil : TrTs T n X [] fYes := ⟨fun t G al c env σ H Q b c' hs he hf q => ofTs pts_nil (by cases hf; exact q G al H (.refl _ _ _) hs)⟩
theorem tts_one (h : TrT T n X c0 ft) : TrTs T n X [c0] ft := ⟨fun t G al c env σ H Q b c' hs he hf q => ofTs (pts_one (ptS c0)) (h.run t G al c env σ H Q b c' hs he hf q)⟩

/-! ### comprehensions -/
def compD (g : FG) (ft : FT) (fe : FE) : List D → En → Cs → Option (List D × Cs)
  | [], _, c => some ([], c)
  | d :: ds, env, c => match g d env with
    | none => none
    | some env1 => match ft env1 c with
      | some (true, c1) => match fe env1 c1 with
        | some (y, c2) => match compD g ft fe ds env c2 with
          | some (ys, c3) => some (y :: ys, c3)
          | none => none
        | none => none
      | some (false, c1) => compD g ft fe ds env c1
      | none => none
def fComp (fi : FA) (g : FG) (ft : FT) (fe : FE) (vs : List Nat) : FE := fun env c => match fi env c with
  | some (ds, c1) => match compD g ft fe ds (wipeD env vs) c1 with
    | some (ys, c2) => if ys.length ≤ lim then some (.lst ys, c2) else none
    | none => none
  | none => none
abbrev BlkT (T : Tb) (n : Nat) (X : Cx) (scope : Scope) (R : Cx → Prop) : Prop := ∀ (s : Shared) (H : Hp) (C : Addr) (cl : List (Str × Addr)) (fp : List Addr), R (X.blk s H scope (compEnvC scope cl C X.env) fp)
theorem Tied.blk (t : Tied T n X) (s : Shared) (H : Hp) (scope : Scope) (ce : Env) (fp : List Addr) : Tied T n (X.blk s H scope ce fp) := ⟨t.K, t.P, t.w, t.mg, t.base, t.calm, t.nd, t.room⟩
/-- the state within a comprehension: D the new list, ys what it holds -/
structure CSt (T : Tb) (G1 : Hp) (al1 : List Addr) (H1 : Hp) (D0 : Addr) (ys : List D) (G : Hp) (al : List Addr) (c : Cs) (H : Hp) : Prop where
  st : Stp G1 al1 H1 G al H
  hs : HSt T G al c H
  gD : G D0 = none
  aD : D0 ∉ al
  hD : ∃ vs, H D0 = some (.lst vs) ∧ RpL T G al ys vs
theorem CSt.step {G1 H1 G H G' H' : Hp} {al1 al al' : List Addr} {c c' : Cs} {D0 : Addr} {ys : List D} (k : CSt T G1 al1 H1 D0 ys G al c H) (l : Stp G al H G' al' H') (hs' : HSt T G' al' c' H') : CSt T G1 al1 H1 D0 ys G' al' c' H' := by
  obtain ⟨vs, e, r⟩ := k.hD
  obtain ⟨g', a', h'⟩ := l.fr D0 _ k.gD k.aD e
  exact ⟨k.st.trans l, hs', g', a', vs, h', r.mono l.le⟩
theorem CSt.app {G1 H1 G H : Hp} {al1 al : List Addr} {c : Cs} {D0 : Addr} {ys : List D} {y : D} {v : V} {vs : List V} (k : CSt T G1 al1 H1 D0 ys G al c H) (hn : H1 D0 = none) (e : H D0 = some (.lst vs)) (rl : RpL T G al ys vs) (r : Rp T G al y v) : CSt T G1 al1 H1 D0 (ys ++ [y]) G al c (upd H D0 (.lst (vs ++ [v]))) := by
  refine ⟨⟨k.st.le, fun a o g m h => ?_⟩, k.hs.apartPut k.gD k.aD, k.gD, k.aD, vs ++ [v], upd_same, rl.append (.cons r .nil)⟩
  obtain ⟨g', m', h'⟩ := k.st.fr a o g m h
  exact ⟨g', m', by rw [upd_ne (ne_of_none h hn)]; exact h'⟩
theorem CSt.new {G1 H1 : Hp} {al1 : List Addr} {c1 : Cs} {D0 : Addr} (hs : HSt T G1 al1 c1 H1) (hn : H1 D0 = none) : CSt T G1 al1 H1 D0 [] G1 al1 c1 (upd H1 D0 (.lst [])) :=
  ⟨.junk hn, hs.junk hn, hs.free hn, hs.apart hn, [], upd_same, .nil⟩
/-- the state of slots in a block stays -/
theorem CSt.env {G1 H1 G H : Hp} {al1 al : List Addr} {c : Cs} {D0 : Addr} {ys : List D} {env : En} {σ : L2.St} (k : CSt T G1 al1 H1 D0 ys G al c H) (he : EOk T G1 al1 H1 env σ) : EOk T G al H env σ := he.mono k.st
/-- readings for every block -/
def BE (X : Cx) (scope : Scope) (e : Expr) : TE := fun σ H Q => BlkT T n X scope fun Y => SemE Y e σ H Q
def BTs (X : Cx) (scope : Scope) (es : List Expr) : TT := fun σ H Q => BlkT T n X scope fun Y => SemTs Y es σ H Q
def BG (X : Cx) (scope : Scope) (tg : Expr) : L2.TG := fun v σ H Q => BlkT T n X scope fun Y => SemG Y tg v σ H Q
def BI (X : Cx) (scope : Scope) (tg iter : Expr) : TI := fun σ H R => BlkT T n X scope fun Y => SemI Y tg iter σ H R
theorem bE {scope : Scope} (e : Expr) (s : Shared) (H : Hp) (C : Addr) (cl : List (Str × Addr)) (fp : List Addr) : PE (X.blk s H scope (compEnvC scope cl C X.env) fp) e (BE (T := T) (n := n) X scope e) := ⟨fun pins s' σ H' Q I h => h s H C cl fp pins s' I⟩
theorem bTs {scope : Scope} (es : List Expr) (s : Shared) (H : Hp) (C : Addr) (cl : List (Str × Addr)) (fp : List Addr) : PTs (X.blk s H scope (compEnvC scope cl C X.env) fp) es (BTs (T := T) (n := n) X scope es) := ⟨fun pins s' σ H' Q I h => h s H C cl fp pins s' I⟩
theorem bG {scope : Scope} (tg : Expr) (s : Shared) (H : Hp) (C : Addr) (cl : List (Str × Addr)) (fp : List Addr) : PG (X.blk s H scope (compEnvC scope cl C X.env) fp) tg (BG (T := T) (n := n) X scope tg) := ⟨fun pins s' σ H' v u Q I r h => h s H C cl fp pins s' u I r⟩
theorem bI {scope : Scope} (tg iter : Expr) (s : Shared) (H : Hp) (C : Addr) (cl : List (Str × Addr)) (fp : List Addr) : PI (X.blk s H scope (compEnvC scope cl C X.env) fp) tg iter (BI (T := T) (n := n) X scope tg iter) := ⟨fun pins s' σ H' R I h => h s H C cl fp pins s' I⟩
/-- a comprehension: as a value, or bound to a name on its own line (the model's other statement) -/
def RunN (T : Tb) (te : TE) (f : FE) : Prop := ∀ (G : Hp) (al : List Addr) (c : Cs) (env : En) (σ : L2.St) (H : Hp) (Q : VK) (d : D) (c' : Cs), HSt T G al c H → EOk T G al H env σ → f env c = some (d, c') → AftN T G al H d c' Q → te σ H Q
def RunE (T : Tb) (te : TE) (f : FE) : Prop := ∀ (G : Hp) (al : List Addr) (c : Cs) (env : En) (σ : L2.St) (H : Hp) (Q : VK) (d : D) (c' : Cs), HSt T G al c H → EOk T G al H env σ → f env c = some (d, c') → Aft T G al H d c' Q → te σ H Q
theorem RunN.fz {te : TE} (h : RunN T te fe) : RunE T te fe := by
  refine fun G al c env σ H Q d c' hs he hf q => h G al c env σ H Q d c' hs he hf ?_
  intro G' al' H' p o le hs' hg ha hp0 hp hb
  refine q (upd G' p o) al' H' (.ref p) ⟨le.le.trans (.upd hg), fun a u g m e => ?_⟩ (hs'.fix hg ha hp) (.box upd_same (hb.mono (.upd hg)))
  obtain ⟨g', n', h'⟩ := le.fr a u g m e
  have na : a ≠ p := ne_of_none e hp0
  exact ⟨by rw [upd_ne na]; exact g', n', h'⟩
theorem RunN.cl {te : TE} (h : RunN T te fe) : RunE T te (fCell fe) := by
  refine fun G al c env σ H Q d c' hs he hf q => ?_
  unfold fCell at hf
  split at hf
  case h_2 => cases hf
  case h_1 d1 c1 e1 =>
    cases hf
    refine h G al c env σ H Q d1 c1 hs he e1 ?_
    intro G' al' H' a o le hs' hg ha hp0 hp hb
    refine q G' (al' ++ [a]) H' (.ref a) ⟨⟨le.le.g, le.le.a.trans (List.prefix_append _ _)⟩, fun b u g m e => ?_⟩ (hs'.cell hg ha hp hb) (.cell ?_)
    · obtain ⟨g', n', h'⟩ := le.fr b u g m e
      have nb : b ≠ a := ne_of_none e hp0
      exact ⟨g', by simp [n', nb], h'⟩
    · rw [← hs'.len]
      simp
structure TrL (T : Tb) (n : Nat) (X : Cx) (e : Expr) (f : FE) : Prop where
  ex : Tied T n X → ∃ te : TE, PE X e te ∧ (∀ {i : Nat} {y : Str} {py spos : Pos}, X.N[i]? = some y → X.env.scope.names.lookup y = some .local → swapsWith e (some (.Name y py)) spos.line X.env = pure true → PS X (.Assign [.Name y py] e spos) (tAsg te (gName i))) ∧ RunN T te f
theorem TrL.toN (h : TrL T n X e fe) : TrN T n X e fe := ⟨fun t G al c env σ H Q d c' hs heo hf q => let ⟨_, p, _, r⟩ := h.ex t; ofE p (r G al c env σ H Q d c' hs heo hf q)⟩
theorem sw_c {elt : Expr} {gs : List Comprehension} {scope : Scope} {pos py : Pos} {y : Str} {l : Nat} {env : Env} (hk : env.scope.kind = .function) (hy : env.scope.names.lookup y = some .local) (hl : (py.line == pos.line) = true)
    (ha : (scope.names.any fun (n, k) => n == y && (k == .local || k == .cell)) = false) : swapsWith (.ListComp elt gs scope pos) (some (.Name y py)) l env = pure true := sw_true hk hy hl ha
section
variable {elt : Expr} {gs : List Comprehension} {scope : Scope}
theorem ts_setL (i : Nat) {x : Str} {pos' p2 : Pos} (h : TrL T n X (.ListComp elt gs scope p2) fe) (hi : X.N[i]? = some x := by rfl) (hk : X.env.scope.kind = .function := by rfl) (hx : X.env.scope.names.lookup x = some .local := by rfl) (hl : (pos'.line == p2.line) = true := by rfl)
    (ha : (scope.names.any fun (n, k) => n == x && (k == .local || k == .cell)) = false := by rfl) : TrS T n X (.Assign [.Name x pos'] (.ListComp elt gs scope p2) pos) (fSet i fe) := by
  refine ⟨fun t B G al c env σ H E r env' c' k hf' q => ?_⟩
  obtain ⟨te, _, ps, run⟩ := h.ex t
  refine ofS (ps hi hx (sw_true hk hx hl ha)) ?_
  unfold fSet at hf'
  split at hf'
  case h_2 => cases hf'
  case h_1 d c1 e1 =>
    cases hf'
    exact run.fz G al c env σ H _ _ _ k.hs k.he e1 fun G1 al1 H1 v l hs1 r1 => q G1 al1 _ H1 l.le ((k.step l hs1).set i r1)
theorem ts_setLC (i : Nat) {x : Str} {pos' p2 : Pos} (h : TrL T n X (.ListComp elt gs scope p2) fe) (hi : X.N[i]? = some x := by rfl) (hk : X.env.scope.kind = .function := by rfl) (hx : X.env.scope.names.lookup x = some .local := by rfl) (hl : (pos'.line == p2.line) = true := by rfl)
    (ha : (scope.names.any fun (n, k) => n == x && (k == .local || k == .cell)) = false := by rfl) : TrS T n X (.Assign [.Name x pos'] (.ListComp elt gs scope p2) pos) (fSet i (fCell fe)) := by
  refine ⟨fun t B G al c env σ H E r env' c' k hf' q => ?_⟩
  obtain ⟨te, _, ps, run⟩ := h.ex t
  refine ofS (ps hi hx (sw_true hk hx hl ha)) ?_
  unfold fSet at hf'
  split at hf'
  case h_2 => cases hf'
  case h_1 d c1 e1 =>
    cases hf'
    exact run.cl G al c env σ H _ _ _ k.hs k.he e1 fun G1 al1 H1 v l hs1 r1 => q G1 al1 _ H1 l.le ((k.step l hs1).set i r1)
theorem ts_setLO (i : Nat) {x : Str} {pos' p2 : Pos} (h : TrL T n X (.ListComp elt gs scope p2) fe) (h0 : i ≠ 0 := by decide) (hi : X.N[i]? = some x := by rfl) (hk : X.env.scope.kind = .function := by rfl) (hx : X.env.scope.names.lookup x = some .local := by rfl) (hl : (pos'.line == p2.line) = true := by rfl)
    (ha : (scope.names.any fun (n, k) => n == x && (k == .local || k == .cell)) = false := by rfl) : TrS T n X (.Assign [.Name x pos'] (.ListComp elt gs scope p2) pos) (fSetO i fe) := by
  refine ⟨fun t B G al c env σ H E r env' c' k hf' q => ?_⟩
  obtain ⟨te, _, ps, run⟩ := h.ex t
  refine ofS (ps hi hx (sw_true hk hx hl ha)) ?_
  unfold fSetO at hf'
  split at hf'
  case h_2 => cases hf'
  case h_1 d c1 e1 =>
    cases hf'
    exact run G al c env σ H _ _ _ k.hs k.he e1 fun G1 al1 H1 p o l hs1 hg ha hp0 hp hb => q G1 al1 _ H1 l.le (k.setO i l hs1 hg ha hp0 hp hb h0)
end
theorem tl_lc {scope : Scope} {own : List (Str × Nat)} (hi : TrIQ T n X tg iter fi) (ok : blkC X.N X.env.scope scope own = true) (hg : BlkT T n X scope fun Y => TrG T n Y tg ws g) {ifs : List Expr} (ht : BlkT T n X scope fun Y => TrTs T n Y ifs ft) (he : BlkT T n X scope fun Y => TrE T n Y elt fe)
    (hw : ∀ i ∈ ws, i ∈ own.map (·.2)) (hfs : ∀ x, foldedSetIterable iter X.env x = pure x := by intro _; rfl) : TrL T n X (.ListComp elt [⟨tg, iter, ifs, 0⟩] scope pos) (fComp fi g ft fe (own.map (·.2))) := by
  refine ⟨fun t => ⟨_, pe_lc t.calm t.nd (piS tg iter) (blkOk_by ok) (bG (T := T) (n := n) tg) (bTs (T := T) (n := n) ifs) (bE (T := T) (n := n) elt) hfs, fun hN hl hsw => ps_setLc t.calm t.nd hN hl hsw (piS tg iter) (blkOk_by ok) (bG (T := T) (n := n) tg) (bTs (T := T) (n := n) ifs) (bE (T := T) (n := n) elt) hfs, fun G al c env σ H Q d c' hs heo hf q => ?_⟩⟩
  unfold fComp at hf
  split at hf
  case h_2 => cases hf
  case h_1 ds c1 e1 =>
    split at hf
    case h_2 => cases hf
    case h_1 ys c2 e2 =>
      split at hf
      case isFalse => cases hf
      case isTrue hlen =>
        cases hf
        refine hi.run t G al c env σ H _ ds c1 hs heo e1 fun G1 al1 H1 J l1 hs1 it => fun D0 hD0 => ?_
        have he0 : EOk T G1 al1 H1 (wipeD env (own.map (·.2))) (L2.wipe σ (own.map (·.2))) := (heo.mono l1).wipe _
        -- at turn i: zs is made, the rest of the items makes the rest
        refine ⟨fun i m H2 => m = ds.length - i ∧ i ≤ ds.length ∧ ∃ G2 al2 cc zs rs, CSt T G1 al1 H1 D0 zs G2 al2 cc H2 ∧ compD g ft fe (ds.drop i) (wipeD env (own.map (·.2))) cc = some (rs, c') ∧ zs ++ rs = ys,
          ⟨_, rfl, Nat.zero_le _, G1, al1, c1, [], ys, CSt.new hs1 hD0, by simpa using e2, rfl⟩, ?_⟩
        rintro i m H2 ⟨rfl, hil, G2, al2, cc, zs, rs, k2, hr, hzr⟩
        by_cases hlt : i < ds.length
        · rw [List.drop_eq_getElem_cons hlt] at hr
          unfold compD at hr
          split at hr
          case h_1 => cases hr
          case h_2 env3 e3 =>
            obtain ⟨go, yl⟩ := (it i G2 al2 cc H2 k2.st k2.hs).1 ds[i] (List.getElem?_eq_getElem hlt)
            refine .inr ⟨go, fun H' => ∃ G' al' cn zs' rs', CSt T G1 al1 H1 D0 zs' G' al' cn H' ∧ compD g ft fe (ds.drop (i + 1)) (wipeD env (own.map (·.2))) cn = some (rs', c') ∧ zs' ++ rs' = ys,
              fun H' ⟨G', al', cn, zs', rs', k', hr', hz'⟩ => ⟨ds.length - (i + 1), by omega, rfl, hlt, G', al', cn, zs', rs', k', hr', hz'⟩, fun x H3 y => ?_⟩
            obtain ⟨G3, l3, hs3, r3⟩ := yl x H3 y
            have k3 := k2.step l3 hs3
            intro sB HB CB clB fpB
            refine (hg sB HB CB clB fpB).run (t.blk _ _ _ _ _) G3 al2 cc _ _ H3 ds[i] x env3 _ hs3 (k3.env he0) r3 e3 fun σ4 he4 hl4 ho4 hx4 => ?_
            refine ⟨?_, ?_⟩
            · rw [wipe_ext hl4 fun j hj => (ho4 j fun z => hj (hw j z)).1, wipe_idem]
            · intro sB HB CB clB fpB
              split at hr
              case h_3 => cases hr
              case h_2 c4 e4 =>
                refine (ht sB HB CB clB fpB).run (t.blk _ _ _ _ _) G3 al2 cc env3 σ4 H3 _ false c4 hs3 he4 e4 fun G4 al4 H4 l4 hs4 => ?_
                exact iteF ⟨G4, al4, c4, zs, rs, k3.step l4 hs4, hr, hzr⟩
              case h_1 c4 e4 =>
                refine (ht sB HB CB clB fpB).run (t.blk _ _ _ _ _) G3 al2 cc env3 σ4 H3 _ true c4 hs3 he4 e4 fun G4 al4 H4 l4 hs4 => iteT ?_
                have k4 := k3.step l4 hs4
                intro sB HB CB clB fpB
                split at hr
                case h_2 => cases hr
                case h_1 yy c5 e5 =>
                  refine (he sB HB CB clB fpB).run (t.blk _ _ _ _ _) G4 al4 c4 env3 σ4 H4 _ yy c5 hs4 (he4.mono l4) e5 fun G5 al5 H5 v l5 hs5 r5 => ?_
                  have k5 := k4.step l5 hs5
                  obtain ⟨vs, hv, rl⟩ := k5.hD
                  split at hr
                  case h_2 => cases hr
                  case h_1 rs' c6 e6 =>
                    cases hr
                    have hlz : zs.length < lim := by
                      have : (zs ++ yy :: rs').length ≤ lim := by rw [hzr]; exact hlen
                      simp at this
                      omega
                    refine ⟨vs, hv, by rw [← rl.length]; exact Nat.lt_of_lt_of_le hlz lim_line, ?_⟩
                    exact ⟨G5, al5, c5, zs ++ [yy], rs', k5.app hD0 hv rl r5, e6, by rw [List.append_assoc]; exact hzr⟩
        · have e : i = ds.length := by omega
          subst e
          rw [List.drop_length] at hr
          cases hr
          rw [List.append_nil] at hzr
          subst hzr
          obtain ⟨vs, hv, rl⟩ := k2.hD
          exact .inl ⟨(it _ G2 al2 _ H2 k2.st k2.hs).2 (Nat.le_refl _), q G2 al2 H2 D0 (.lst vs) (l1.trans k2.st) k2.hs k2.gD k2.aD (fresh_before hs hs1 l1 hD0) hv (.lst rl)⟩
theorem tn_lc {scope : Scope} {own : List (Str × Nat)} (hi : TrIQ T n X tg iter fi) (ok : blkC X.N X.env.scope scope own = true) (hg : BlkT T n X scope fun Y => TrG T n Y tg ws g) {ifs : List Expr} (ht : BlkT T n X scope fun Y => TrTs T n Y ifs ft) (he : BlkT T n X scope fun Y => TrE T n Y elt fe)
    (hw : ∀ i ∈ ws, i ∈ own.map (·.2)) (hfs : ∀ x, foldedSetIterable iter X.env x = pure x := by intro _; rfl) : TrN T n X (.ListComp elt [⟨tg, iter, ifs, 0⟩] scope pos) (fComp fi g ft fe (own.map (·.2))) := (tl_lc hi ok hg ht he hw hfs).toN
/-! ### two clauses -/
def compD2 (g : FG) (ft : FT) (fi1 : FA) (g1 : FG) (ft1 : FT) (fe : FE) (vs1 : List Nat) : List D → En → Cs → Option (List D × Cs)
  | [], _, c => some ([], c)
  | d :: ds, env, c => match g d env with
    | none => none
    | some env1 => match ft env1 c with
      | some (true, c1) => match fi1 env1 c1 with
        | some (ds1, c2) => match compD g1 ft1 fe ds1 (wipeD env1 vs1) c2 with
          | some (ys, c3) => match compD2 g ft fi1 g1 ft1 fe vs1 ds env c3 with
            | some (zs, c4) => some (ys ++ zs, c4)
            | none => none
          | none => none
        | none => none
      | some (false, c1) => compD2 g ft fi1 g1 ft1 fe vs1 ds env c1
      | none => none
def fComp2 (fi : FA) (g : FG) (ft : FT) (fi1 : FA) (g1 : FG) (ft1 : FT) (fe : FE) (vs vs1 : List Nat) : FE := fun env c => match fi env c with
  | some (ds, c1) => match compD2 g ft fi1 g1 ft1 fe vs1 ds (wipeD env vs) c1 with
    | some (ys, c2) => if ys.length ≤ lim then some (.lst ys, c2) else none
    | none => none
  | none => none
/-- what lies apart but the new list -/
theorem CSt.le {G1 H1 G H : Hp} {al1 al : List Addr} {c : Cs} {D0 : Addr} {ys : List D} (k : CSt T G1 al1 H1 D0 ys G al c H) : Le G1 al1 G al := k.st.le
theorem tl_lc2 {scope : Scope} {own : List (Str × Nat)} {tg1 iter1 : Expr} {fi1 : FA} {g1 : FG} {ft1 : FT} {ws1 vs1 : List Nat} (hi : TrIQ T n X tg iter fi) (ok : blkC X.N X.env.scope scope own = true) (hg : BlkT T n X scope fun Y => TrG T n Y tg ws g) {ifs ifs1 : List Expr} (ht : BlkT T n X scope fun Y => TrTs T n Y ifs ft)
    (hi1 : BlkT T n X scope fun Y => TrI T n Y tg1 iter1 fi1) (hg1 : BlkT T n X scope fun Y => TrG T n Y tg1 ws1 g1) (ht1 : BlkT T n X scope fun Y => TrTs T n Y ifs1 ft1) (he : BlkT T n X scope fun Y => TrE T n Y elt fe)
    (hw : ∀ i ∈ ws, i ∈ own.map (·.2)) (hv : ∀ i ∈ vs1, i ∈ own.map (·.2)) (hw1 : ∀ i ∈ ws1, i ∈ vs1) (hfs : ∀ x, foldedSetIterable iter X.env x = pure x := by intro _; rfl) (hfs1 : ∀ env x, foldedSetIterable iter1 env x = pure x := by intro _ _; rfl) :
    TrL T n X (.ListComp elt [⟨tg, iter, ifs, 0⟩, ⟨tg1, iter1, ifs1, 0⟩] scope pos) (fComp2 fi g ft fi1 g1 ft1 fe (own.map (·.2)) vs1) := by
  refine ⟨fun t => ⟨_, pe_lc2 (vs1 := vs1) t.calm t.nd (piS tg iter) (blkOk_by ok) hv (bG (T := T) (n := n) tg) (bTs (T := T) (n := n) ifs) (bI (T := T) (n := n) tg1 iter1) (bG (T := T) (n := n) tg1) (bTs (T := T) (n := n) ifs1) (bE (T := T) (n := n) elt) hfs hfs1, fun hN hl hsw => ps_setLc2 (vs1 := vs1) t.calm t.nd hN hl hsw (piS tg iter) (blkOk_by ok) hv (bG (T := T) (n := n) tg) (bTs (T := T) (n := n) ifs) (bI (T := T) (n := n) tg1 iter1) (bG (T := T) (n := n) tg1) (bTs (T := T) (n := n) ifs1) (bE (T := T) (n := n) elt) hfs hfs1, fun G al c env σ H Q d c' hs heo hf q => ?_⟩⟩
  unfold fComp2 at hf
  split at hf
  case h_2 => cases hf
  case h_1 ds c1 e1 =>
    split at hf
    case h_2 => cases hf
    case h_1 ys c2 e2 =>
      split at hf
      case isFalse => cases hf
      case isTrue hlen =>
        cases hf
        refine hi.run t G al c env σ H _ ds c1 hs heo e1 fun G1 al1 H1 J l1 hs1 it => fun D0 hD0 => ?_
        have he0 : EOk T G1 al1 H1 (wipeD env (own.map (·.2))) (L2.wipe σ (own.map (·.2))) := (heo.mono l1).wipe _
        refine ⟨fun i m H2 => m = ds.length - i ∧ i ≤ ds.length ∧ ∃ G2 al2 cc zs rs, CSt T G1 al1 H1 D0 zs G2 al2 cc H2 ∧ compD2 g ft fi1 g1 ft1 fe vs1 (ds.drop i) (wipeD env (own.map (·.2))) cc = some (rs, c') ∧ zs ++ rs = ys,
          ⟨_, rfl, Nat.zero_le _, G1, al1, c1, [], ys, CSt.new hs1 hD0, by simpa using e2, rfl⟩, ?_⟩
        rintro i m H2 ⟨rfl, hil, G2, al2, cc, zs, rs, k2, hr, hzr⟩
        by_cases hlt : i < ds.length
        · rw [List.drop_eq_getElem_cons hlt] at hr
          unfold compD2 at hr
          split at hr
          case h_1 => cases hr
          case h_2 env3 e3 =>
            obtain ⟨go, yl⟩ := (it i G2 al2 cc H2 k2.st k2.hs).1 ds[i] (List.getElem?_eq_getElem hlt)
            refine .inr ⟨go, fun H' => ∃ G' al' cn zs' rs', CSt T G1 al1 H1 D0 zs' G' al' cn H' ∧ compD2 g ft fi1 g1 ft1 fe vs1 (ds.drop (i + 1)) (wipeD env (own.map (·.2))) cn = some (rs', c') ∧ zs' ++ rs' = ys,
              fun H' ⟨G', al', cn, zs', rs', k', hr', hz'⟩ => ⟨ds.length - (i + 1), by omega, rfl, hlt, G', al', cn, zs', rs', k', hr', hz'⟩, fun x H3 y => ?_⟩
            obtain ⟨G3, l3, hs3, r3⟩ := yl x H3 y
            have k3 := k2.step l3 hs3
            intro sB HB CB clB fpB
            refine (hg sB HB CB clB fpB).run (t.blk _ _ _ _ _) G3 al2 cc _ _ H3 ds[i] x env3 _ hs3 (k3.env he0) r3 e3 fun σ4 he4 hl4 ho4 hx4 => ?_
            refine ⟨?_, ?_⟩
            · rw [wipe_ext hl4 fun j hj => (ho4 j fun z => hj (hw j z)).1, wipe_idem]
            · intro sB HB CB clB fpB
              split at hr
              case h_3 => cases hr
              case h_2 c4 e4 =>
                refine (ht sB HB CB clB fpB).run (t.blk _ _ _ _ _) G3 al2 cc env3 σ4 H3 _ false c4 hs3 he4 e4 fun G4 al4 H4 l4 hs4 => ?_
                exact iteF ⟨G4, al4, c4, zs, rs, k3.step l4 hs4, hr, hzr⟩
              case h_1 c4 e4 =>
                refine (ht sB HB CB clB fpB).run (t.blk _ _ _ _ _) G3 al2 cc env3 σ4 H3 _ true c4 hs3 he4 e4 fun G4 al4 H4 l4 hs4 => iteT ?_
                have k4 := k3.step l4 hs4
                have he4' := he4.mono l4
                intro sB HB CB clB fpB
                split at hr
                case h_2 => cases hr
                case h_1 ds1 c5 e5 =>
                  refine (hi1 sB HB CB clB fpB).run (t.blk _ _ _ _ _) G4 al4 c4 env3 σ4 H4 _ ds1 c5 hs4 he4' e5 fun G5 al5 H5 J1 l5 hs5 it1 => ?_
                  have k5 := k4.step l5 hs5
                  have he5 : EOk T G5 al5 H5 env3 σ4 := he4'.mono l5
                  split at hr
                  case h_2 => cases hr
                  case h_1 ys1 c6 e6 =>
                    split at hr
                    case h_2 => cases hr
                    case h_1 rs2 c7 e7 =>
                      cases hr
                      -- the slots of the inner target are forgotten; all else is as the block knew it: the env of the whole comprehension
                      -- the inner loop
                      refine ⟨fun j k H6 => k = ds1.length - j ∧ j ≤ ds1.length ∧ ∃ G6 al6 cc6 ws6 rs6, Le G5 al5 G6 al6 ∧ EOk T G6 al6 H6 (wipeD env3 vs1) (L2.wipe σ4 vs1) ∧ CSt T G1 al1 H1 D0 (zs ++ ws6) G6 al6 cc6 H6 ∧ compD g1 ft1 fe (ds1.drop j) (wipeD env3 vs1) cc6 = some (rs6, c6) ∧ ws6 ++ rs6 = ys1,
                        ⟨_, rfl, Nat.zero_le _, G5, al5, c5, [], ys1, .refl _ _, he5.wipe _, by simpa using k5, by simpa using e6, rfl⟩, ?_⟩
                      rintro j k H6 ⟨rfl, hjl, G6, al6, cc6, ws6, rs6, le6, he6, k6, hr6, hwr⟩
                      by_cases hlt1 : j < ds1.length
                      · rw [List.drop_eq_getElem_cons hlt1] at hr6
                        unfold compD at hr6
                        split at hr6
                        case h_1 => cases hr6
                        case h_2 env7 e8 =>
                          obtain ⟨go1, yl1⟩ := (it1 j G6 al6 cc6 H6 le6 k6.hs).1 ds1[j] (List.getElem?_eq_getElem hlt1)
                          refine .inr ⟨go1, fun H' => ∃ G' al' cn ws' rs', Le G5 al5 G' al' ∧ EOk T G' al' H' (wipeD env3 vs1) (L2.wipe σ4 vs1) ∧ CSt T G1 al1 H1 D0 (zs ++ ws') G' al' cn H' ∧ compD g1 ft1 fe (ds1.drop (j + 1)) (wipeD env3 vs1) cn = some (rs', c6) ∧ ws' ++ rs' = ys1,
                            fun H' ⟨G', al', cn, ws', rs', le', he', k', hr', hz'⟩ => ⟨ds1.length - (j + 1), by omega, rfl, hlt1, G', al', cn, ws', rs', le', he', k', hr', hz'⟩, fun x1 H7 y1 => ?_⟩
                          obtain ⟨G7, l7, hs7, r7⟩ := yl1 x1 H7 y1
                          have k7 := k6.step l7 hs7
                          have he7 := he6.mono l7
                          have le7 := le6.trans l7.le
                          intro sB HB CB clB fpB
                          refine (hg1 sB HB CB clB fpB).run (t.blk _ _ _ _ _) G7 al6 cc6 _ _ H7 ds1[j] x1 env7 _ hs7 he7 r7 e8 fun σ8 he8 hl8 ho8 hx8 => ?_
                          refine ⟨?_, ?_⟩
                          · rw [wipe_ext hl8 fun j hj => (ho8 j fun z => hj (hw1 j z)).1, wipe_idem]
                          · intro sB HB CB clB fpB
                            split at hr6
                            case h_3 => cases hr6
                            case h_2 c8 e9 =>
                              refine (ht1 sB HB CB clB fpB).run (t.blk _ _ _ _ _) G7 al6 cc6 env7 σ8 H7 _ false c8 hs7 he8 e9 fun G8 al8 H8 l8 hs8 => ?_
                              exact iteF ⟨G8, al8, c8, ws6, rs6, le7.trans l8.le, he7.mono l8, k7.step l8 hs8, hr6, hwr⟩
                            case h_1 c8 e9 =>
                              refine (ht1 sB HB CB clB fpB).run (t.blk _ _ _ _ _) G7 al6 cc6 env7 σ8 H7 _ true c8 hs7 he8 e9 fun G8 al8 H8 l8 hs8 => iteT ?_
                              have k8 := k7.step l8 hs8
                              intro sB HB CB clB fpB
                              split at hr6
                              case h_2 => cases hr6
                              case h_1 yy c9 e10 =>
                                refine (he sB HB CB clB fpB).run (t.blk _ _ _ _ _) G8 al8 c8 env7 σ8 H8 _ yy c9 hs8 (he8.mono l8) e10 fun G9 al9 H9 v l9 hs9 r9 => ?_
                                have k9 := k8.step l9 hs9
                                have he9 := (he7.mono l8).mono l9
                                obtain ⟨vs, hv', rl⟩ := k9.hD
                                split at hr6
                                case h_2 => cases hr6
                                case h_1 rs' c10 e11 =>
                                  cases hr6
                                  have hlz : (zs ++ ws6).length < lim := by
                                    have h1 : (zs ++ (ys1 ++ rs2)).length ≤ lim := by rw [hzr]; exact hlen
                                    rw [← hwr] at h1
                                    simp at h1 ⊢
                                    omega
                                  refine ⟨vs, hv', by rw [← rl.length]; exact Nat.lt_of_lt_of_le hlz lim_line, ?_⟩
                                  have ka := k9.app hD0 hv' rl r9
                                  refine ⟨G9, al9, c9, ws6 ++ [yy], rs', (le7.trans l8.le).trans l9.le, ?_, by rw [← List.append_assoc]; exact ka, e11, by rw [List.append_assoc]; exact hwr⟩
                                  -- the new list is no name's own
                                  have hDn : ∀ (j' : Nat) (e' : D), (wipeD env3 vs1)[j']? = some (some (.o e')) → (L2.wipe σ4 vs1)[j']? ≠ some (some (.ref D0)) := fun j' e' q1 q2 => by
                                    obtain ⟨q3, nj⟩ := wipeD_some q1
                                    rw [L2.wipe_out nj] at q2
                                    obtain ⟨q4, q5⟩ := hx4 j' e' q3
                                    rw [q5] at q2
                                    obtain ⟨a', o', s', _, _, h', _⟩ := he0.own j' e' q4
                                    rw [q2] at s'
                                    cases s'
                                    rw [hD0] at h'; cases h'
                                  exact ⟨he9.len, he9.frz, fun j' e' q1 => by
                                    obtain ⟨a', o', s', g', m', h', b'⟩ := he9.own j' e' q1
                                    exact ⟨a', o', s', g', m', by rw [upd_ne (show a' ≠ D0 from fun z => hDn j' e' q1 (by rw [s', z]))]; exact h', b'⟩, he9.dis⟩
                      · have e : j = ds1.length := by omega
                        subst e
                        rw [List.drop_length] at hr6
                        cases hr6
                        rw [List.append_nil] at hwr
                        subst hwr
                        exact .inl ⟨(it1 _ G6 al6 _ H6 le6 k6.hs).2 (Nat.le_refl _), G6, al6, _, zs ++ ws6, rs2, k6, e7, by rw [List.append_assoc]; exact hzr⟩
        · have e : i = ds.length := by omega
          subst e
          rw [List.drop_length] at hr
          cases hr
          rw [List.append_nil] at hzr
          subst hzr
          obtain ⟨vs, hv', rl⟩ := k2.hD
          exact .inl ⟨(it _ G2 al2 _ H2 k2.st k2.hs).2 (Nat.le_refl _), q G2 al2 H2 D0 (.lst vs) (l1.trans k2.st) k2.hs k2.gD k2.aD (fresh_before hs hs1 l1 hD0) hv' (.lst rl)⟩
theorem tn_lc2 {scope : Scope} {own : List (Str × Nat)} {tg1 iter1 : Expr} {fi1 : FA} {g1 : FG} {ft1 : FT} {ws1 vs1 : List Nat} (hi : TrIQ T n X tg iter fi) (ok : blkC X.N X.env.scope scope own = true) (hg : BlkT T n X scope fun Y => TrG T n Y tg ws g) {ifs ifs1 : List Expr} (ht : BlkT T n X scope fun Y => TrTs T n Y ifs ft)
    (hi1 : BlkT T n X scope fun Y => TrI T n Y tg1 iter1 fi1) (hg1 : BlkT T n X scope fun Y => TrG T n Y tg1 ws1 g1) (ht1 : BlkT T n X scope fun Y => TrTs T n Y ifs1 ft1) (he : BlkT T n X scope fun Y => TrE T n Y elt fe)
    (hw : ∀ i ∈ ws, i ∈ own.map (·.2)) (hv : ∀ i ∈ vs1, i ∈ own.map (·.2)) (hw1 : ∀ i ∈ ws1, i ∈ vs1) (hfs : ∀ x, foldedSetIterable iter X.env x = pure x := by intro _; rfl) (hfs1 : ∀ env x, foldedSetIterable iter1 env x = pure x := by intro _ _; rfl) :
    TrN T n X (.ListComp elt [⟨tg, iter, ifs, 0⟩, ⟨tg1, iter1, ifs1, 0⟩] scope pos) (fComp2 fi g ft fi1 g1 ft1 fe (own.map (·.2)) vs1) := (tl_lc2 hi ok hg ht hi1 hg1 ht1 he hw hv hw1 hfs hfs1).toN
end
end Pd
set_option Elab.async false
set_option linter.all false
set_option maxRecDepth 100000
/-! Pd5: what is walked; stores into one's own objects. -/
namespace Pd
open PySem PySem.Spec PyProof.Rows L2

section
variable {T : Tb} {G : Hp} {al : List Addr} {c : Cs} {H : Hp} {ds : List D} {v : V}
theorem Rp.lst_inv (r : Rp T G al (.lst ds) v) : ∃ a vs, v = .ref a ∧ G a = some (.lst vs) ∧ RpL T G al ds vs := by
  cases r with
  | box g b =>
    cases b with
    | lst r => exact ⟨_, _, rfl, g, r⟩
theorem Rq.lst_inv (hs : HSt T G al c H) (r : Rq T G al H (.lst ds) v) : ∃ a vs, v = .ref a ∧ H a = some (.lst vs) ∧ RpL T G al ds vs := by
  rcases r with r | ⟨a, o, e, _, _, hh, b⟩
  · obtain ⟨a, vs, e, g, rl⟩ := r.lst_inv
    exact ⟨a, vs, e, hs.ex _ _ g, rl⟩
  · cases b with
    | lst r => exact ⟨a, _, e, hh, r⟩
theorem Rq.tup_inv (hs : HSt T G al c H) (r : Rq T G al H (.tup ds) v) : ∃ a vs, v = .ref a ∧ SqT T.K H a vs ∧ RpL T G al ds vs := by
  rcases r with r | ⟨a, o, e, _, _, hh, b⟩
  · obtain ⟨a, vs, e, g, rl⟩ := r.tup_inv
    exact ⟨a, vs, e, sqT_h hs.ex g, rl⟩
  · cases b
theorem Rq.int_inv {i : Int} (r : Rq T G al H (.int i) v) : v = .int i := by
  rcases r with r | ⟨a, o, e, _, _, hh, b⟩
  · cases r with
    | int => rfl
    | box _ z => cases z
  · cases b
theorem Rq.bl_inv {i : Bool} (r : Rq T G al H (.bl i) v) : v = .bl i := by
  rcases r with r | ⟨a, o, e, _, _, hh, b⟩
  · exact r.bl_inv
  · cases b
theorem Rq.str_inv {i : Str} (r : Rq T G al H (.str i) v) : v = .str i := by
  rcases r with r | ⟨a, o, e, _, _, hh, b⟩
  · cases r with
    | str => rfl
    | box _ z => cases z
  · cases b
theorem Rq.non_inv (r : Rq T G al H .non v) : v = .non := by
  rcases r with r | ⟨a, o, e, _, _, hh, b⟩
  · cases r with
    | non => rfl
    | box _ z => cases z
  · cases b
theorem Rq.scr_inv {ns : List Int} (hs : HSt T G al c H) (r : Rq T G al H (.scr ns) v) : ∃ a, v = .ref a ∧ SqL T.K H a (ns.map V.int) := by
  rcases r with r | ⟨a, o, e, _, _, hh, b⟩
  · cases r with
    | scr h => exact ⟨_, rfl, sqL_le hs.ex h⟩
    | box _ z => cases z
  · cases b
end

section
variable {T : Tb} {n : Nat} {X : Cx} {pos p : Pos} {e e2 tg iter : Expr} {fe : FE} {fa : FA}

/-! ### items -/
def seqD (c : Cs) (d : D) : Option (List D) := match d with
  | .lst ds => some ds
  | .tup ds => some ds
  | _ => none
def fIt (f : FE) : FA := fun env c => match f env c with
  | some (.lst ds, c1) => some (ds, c1)
  | some (.tup ds, c1) => some (ds, c1)
  | _ => none
theorem it_list {K : PySem.W.Frag} {G : Hp} {al : List Addr} {a : Addr} {vs : List V} {ds : List D} (hg : G a = some (.lst vs)) (rl : RpL T G al ds vs) : ItOk T G al (Itl K a) ds := by
  intro i G2 al2 c2 H2 le hs2
  have hh : H2 a = some (.lst vs) := hs2.ex _ _ (le.g _ _ hg)
  have sq : ∀ xs, SqL K H2 a xs → H2 a = some (.lst vs) → True := fun _ _ _ => trivial
  refine ⟨fun d hd => ?_, fun hl => ⟨vs, SqL.of hh, by rw [← rl.length]; exact hl⟩⟩
  obtain ⟨x, hx, rx⟩ := rl.get hd
  refine ⟨⟨vs, x, SqL.of hh, hx⟩, fun y H3 ⟨e, hy⟩ => ?_⟩
  subst e
  have := hy vs (SqL.of hh)
  rw [hx] at this
  cases this
  exact ⟨G2, .refl _ _ _, hs2, rx.mono le⟩
theorem it_tup {K : PySem.W.Frag} {G : Hp} {al : List Addr} {a : Addr} {vs : List V} {ds : List D} (hg : SqT K G a vs) (rl : RpL T G al ds vs) : ItOk T G al (Itt K a) ds := by
  intro i G2 al2 c2 H2 le hs2
  have hh : SqT K H2 a vs := sqT_h (fun a o h => hs2.ex _ _ (le.g _ _ h)) hg
  refine ⟨fun d hd => ?_, fun hl => ⟨vs, hh, by rw [← rl.length]; exact hl⟩⟩
  obtain ⟨x, hx, rx⟩ := rl.get hd
  refine ⟨⟨vs, x, hh, hx⟩, fun y H3 ⟨e, hy⟩ => ?_⟩
  subst e
  have := hy vs hh
  rw [hx] at this
  cases this
  exact ⟨G2, .refl _ _ _, hs2, rx.mono le⟩
theorem ti_seq (h : TrE T n X e fe) : TrI T n X tg e (fIt fe) := by
  refine ⟨fun t G al c env σ H R ds c' hs he hf q => ?_⟩
  unfold fIt at hf
  split at hf
  case h_1 ds1 c1 e1 =>
    cases hf
    refine ofI (pi_list (peS e)) (h.run t G al c env σ H _ _ _ hs he e1 fun G1 al1 H1 v l1 hs1 r1 => ?_)
    obtain ⟨a, vs, rfl, hg, rl⟩ := r1.lst_inv
    exact ⟨a, rfl, ⟨vs, SqL.of (hs1.ex _ _ hg)⟩, q G1 al1 H1 _ l1 hs1 (it_list hg rl)⟩
  case h_2 ds1 c1 e1 =>
    cases hf
    refine ofI (pi_tup (peS e)) (h.run t G al c env σ H _ _ _ hs he e1 fun G1 al1 H1 v l1 hs1 r1 => ?_)
    obtain ⟨a, vs, rfl, hg, rl⟩ := r1.tup_inv
    rw [← t.K] at hg
    exact ⟨a, rfl, ⟨vs, sqT_h hs1.ex hg⟩, q G1 al1 H1 _ l1 hs1 (it_tup hg rl)⟩
  case h_3 => cases hf
/-- .. an object of one's own too: in a comprehension -/
theorem tiq_seq (h : TrQ T n X e fe) : TrIQ T n X tg e (fIt fe) := by
  refine ⟨fun t G al c env σ H R ds c' hs he hf q => ?_⟩
  unfold fIt at hf
  split at hf
  case h_1 ds1 c1 e1 =>
    cases hf
    refine ofI (pi_list (peS e)) (h.run t G al c env σ H _ _ _ hs he e1 fun G1 al1 H1 v l1 hs1 r1 => ?_)
    rcases r1 with r1 | ⟨a, o, ev, g1, m1, h1, b1⟩
    · obtain ⟨a, vs, rfl, hg, rl⟩ := r1.lst_inv
      exact ⟨a, rfl, ⟨vs, SqL.of (hs1.ex _ _ hg)⟩, q G1 al1 H1 _ l1 hs1 fun i G2 al2 c2 H2 l2 => it_list hg rl i G2 al2 c2 H2 l2.le⟩
    · cases b1 with
      | lst rl =>
        rename_i vs
        refine ⟨a, ev, ⟨vs, SqL.of h1⟩, q G1 al1 H1 _ l1 hs1 fun i G2 al2 c2 H2 l2 hs2 => ?_⟩
        obtain ⟨_, _, hh⟩ := l2.fr a _ g1 m1 h1
        refine ⟨fun d hd => ?_, fun hl => ⟨vs, SqL.of hh, by rw [← rl.length]; exact hl⟩⟩
        obtain ⟨x, hx, rx⟩ := rl.get hd
        refine ⟨⟨vs, x, SqL.of hh, hx⟩, fun y H3 ⟨e, hy⟩ => ?_⟩
        subst e
        have := hy vs (SqL.of hh)
        rw [hx] at this
        cases this
        exact ⟨G2, .refl _ _ _, hs2, rx.mono l2.le⟩
  case h_2 ds1 c1 e1 =>
    cases hf
    refine ofI (pi_tup (peS e)) (h.run t G al c env σ H _ _ _ hs he e1 fun G1 al1 H1 v l1 hs1 r1 => ?_)
    rcases r1 with r1 | ⟨a, o, ev, g1, m1, h1, b1⟩
    · obtain ⟨a, vs, rfl, hg, rl⟩ := r1.tup_inv
      rw [← t.K] at hg
      exact ⟨a, rfl, ⟨vs, sqT_h hs1.ex hg⟩, q G1 al1 H1 _ l1 hs1 fun i G2 al2 c2 H2 l2 => it_tup hg rl i G2 al2 c2 H2 l2.le⟩
    · cases b1
  case h_3 => cases hf
/-! ### ranges -/
def rangeD (lo : Int) (k : Nat) : List D := (List.range k).map fun i => .int (lo + (i : Nat))
def small62 (i : Int) : Bool := decide (-4611686018427387904 ≤ i) && decide (i < 4611686018427387904)
theorem small62_ok {i : Int} (h : small62 i = true) : -(2 ^ 62) ≤ i ∧ i < 2 ^ 62 := by
  unfold small62 at h
  simp only [Bool.and_eq_true, decide_eq_true_eq] at h
  constructor
  · have := h.1; omega
  · have := h.2; omega
def fRg1 (fa : FA) : FA := fun env c => match fa env c with
  | some ([.int j], c1) => if small62 j = true then some (rangeD 0 j.toNat, c1) else none
  | _ => none
def fRg2 (fa : FA) : FA := fun env c => match fa env c with
  | some ([.int i, .int j], c1) => if (small62 i && small62 j) = true then some (rangeD i (j - i).toNat, c1) else none
  | _ => none
theorem it_range {G : Hp} {al : List Addr} (lo : Int) (k : Nat) : ItOk T G al (Itr lo k) (rangeD lo k) := by
  intro i G2 al2 c2 H2 le hs2
  refine ⟨fun d hd => ?_, fun hl => ?_⟩
  · unfold rangeD at hd
    rw [List.getElem?_map] at hd
    by_cases hi : i < k
    · rw [List.getElem?_range hi] at hd
      cases hd
      exact ⟨hi, fun y H3 ⟨e1, e2⟩ => by subst e1; subst e2; exact ⟨G2, .refl _ _ _, hs2, .int _⟩⟩
    · rw [List.getElem?_eq_none (by simpa using hi)] at hd; cases hd
  · have : k ≤ i := by simpa [rangeD] using hl
    exact this
theorem RqL.int1 {G : Hp} {al : List Addr} {H : Hp} {i : Int} {vs : List V} (h : RqL T G al H [.int i] vs) : vs = [.int i] := by
  obtain ⟨v, rfl, r⟩ := h.one
  rw [r.int_inv]
theorem RqL.int2 {G : Hp} {al : List Addr} {H : Hp} {i j : Int} {vs : List V} (h : RqL T G al H [.int i, .int j] vs) : vs = [.int i, .int j] := by
  obtain ⟨v, u, rfl, r, s⟩ := h.two
  rw [r.int_inv, s.int_inv]
theorem ti_rg1 (ha : TrQA T n X [e] fa) (hm : X.mg "range" = none) (hg : Gl X "range" := by rfl) (hs : starEach [e] X.env = [(false, eval e X.env)] := by rfl) : TrI T n X tg (.Call (.Name "range" p) [e] [] pos) (fRg1 fa) := by
  refine ⟨fun t G al c env σ H R ds c' hst he hf q => ofI (pi_range1 hg hm (paS [e]) hs) ?_⟩
  unfold fRg1 at hf
  split at hf
  case h_2 => cases hf
  case h_1 j c1 e1 =>
    split at hf
    case isFalse => cases hf
    case isTrue hl =>
      cases hf
      refine ha.run t G al c env σ H _ _ _ hst he e1 fun G1 al1 H1 vs l1 hs1 r1 => ?_
      obtain ⟨h1, h2⟩ := small62_ok hl
      exact ⟨j, r1.int1, h1, h2, q G1 al1 H1 _ l1 hs1 (it_range 0 _)⟩
theorem ti_rg2 (ha : TrQA T n X [e, e2] fa) (hm : X.mg "range" = none) (hg : Gl X "range" := by rfl) (hs : starEach [e, e2] X.env = [(false, eval e X.env), (false, eval e2 X.env)] := by rfl) (hs2 : starEach [e2] X.env = [(false, eval e2 X.env)] := by rfl) : TrI T n X tg (.Call (.Name "range" p) [e, e2] [] pos) (fRg2 fa) := by
  refine ⟨fun t G al c env σ H R ds c' hst he hf q => ofI (pi_range2 hg hm (paS [e, e2]) hs hs2) ?_⟩
  unfold fRg2 at hf
  split at hf
  case h_2 => cases hf
  case h_1 i j c1 e1 =>
    split at hf
    case isFalse => cases hf
    case isTrue hl =>
      cases hf
      refine ha.run t G al c env σ H _ _ _ hst he e1 fun G1 al1 H1 vs l1 hs1 r1 => ?_
      obtain ⟨l2, l3⟩ := Bool.and_eq_true_iff.mp hl
      obtain ⟨h1, h2⟩ := small62_ok l2
      obtain ⟨h3, h4⟩ := small62_ok l3
      exact ⟨i, j, r1.int2, ⟨h1, h2, h3, h4⟩, q G1 al1 H1 _ l1 hs1 (it_range i _)⟩
/-! ### enumerate, zip -/
def enumD : Nat → List D → List D
  | _, [] => []
  | i, d :: ds => .tup [.int (i : Nat), d] :: enumD (i + 1) ds
theorem enumD_get : ∀ (ds : List D) (k i : Nat) (d : D), (enumD k ds)[i]? = some d → ∃ y, ds[i]? = some y ∧ d = .tup [.int ((k + i : Nat) : Int), y]
  | [], _, _, _, h => by simp [enumD] at h
  | y :: ds, k, 0, d, h => by simp [enumD] at h; exact ⟨y, rfl, by simpa using h.symm⟩
  | y :: ds, k, i + 1, d, h => by
    obtain ⟨z, h1, h2⟩ := enumD_get ds (k + 1) i d (by simpa [enumD] using h)
    exact ⟨z, by simpa using h1, by rw [h2]; congr 3; omega⟩
theorem enumD_length : ∀ (ds : List D) (k : Nat), (enumD k ds).length = ds.length
  | [], _ => rfl
  | _ :: ds, k => by simp [enumD, enumD_length ds (k + 1)]
def fEnum (fa : FA) : FA := fun env c => match fa env c with
  | some ([.lst ds], c1) => some (enumD 0 ds, c1)
  | _ => none
theorem it_enum {K : PySem.W.Frag} {G : Hp} {al : List Addr} {a : Addr} {vs : List V} {ds : List D} (hg : G a = some (.lst vs)) (rl : RpL T G al ds vs) : ItOk T G al (Ite K a) (enumD 0 ds) := by
  intro i G2 al2 c2 H2 le hs2
  have hh : H2 a = some (.lst vs) := hs2.ex _ _ (le.g _ _ hg)
  refine ⟨fun d hd => ?_, fun hl => ⟨vs, SqL.of hh, by rw [enumD_length] at hl; rw [← rl.length]; exact hl⟩⟩
  obtain ⟨y, hy, rfl⟩ := enumD_get ds 0 i d hd
  obtain ⟨x, hx, rx⟩ := rl.get hy
  refine ⟨⟨vs, x, SqL.of hh, hx⟩, fun w H3 ⟨P, x', e1, hP, e2, hy'⟩ => ?_⟩
  have := hy' vs (SqL.of hh)
  rw [hx] at this
  cases this
  subst e1; subst e2
  refine ⟨upd G2 P (.tup [.int (i : Nat), x]), .freeze hs2 hP, hs2.freeze hP, .tup (.inl (.inl upd_same)) (.cons ?_ (.cons ((rx.mono le).mono (.upd (hs2.free hP))) .nil)) (.inl (Nat.le_refl 2))⟩
  have : (0 + i : Nat) = i := by omega
  rw [this]
  exact .int _
theorem ti_enum {elts : List Expr} {kk : Nat} {tpos : Pos} (ha : TrA T n X [e] fa) (hm : X.mg "enumerate" = none) (hg : Gl X "enumerate" := by rfl) (hs : starEach [e] X.env = [(false, eval e X.env)] := by rfl) : TrI T n X (.Tuple elts kk tpos) (.Call (.Name "enumerate" p) [e] [] pos) (fEnum fa) := by
  refine ⟨fun t G al c env σ H R ds c' hst he hf q => ofI (pi_enum hg hm (paS [e]) hs) ?_⟩
  unfold fEnum at hf
  split at hf
  case h_2 => cases hf
  case h_1 ds1 c1 e1 =>
    cases hf
    refine ha.run t G al c env σ H _ _ _ hst he e1 fun G1 al1 H1 vs l1 hs1 r1 => ?_
    obtain ⟨v, rfl, rv⟩ := r1.one
    obtain ⟨a, xs, rfl, hga, rl⟩ := rv.lst_inv
    exact ⟨a, xs, rfl, SqL.of (hs1.ex _ _ hga), q G1 al1 H1 _ l1 hs1 (it_enum hga rl)⟩
def zipD : List D → List D → List D
  | x :: xs, y :: ys => .tup [x, y] :: zipD xs ys
  | _, _ => []
theorem zipD_get : ∀ (xs ys : List D) (i : Nat) (d : D), (zipD xs ys)[i]? = some d → ∃ x y, xs[i]? = some x ∧ ys[i]? = some y ∧ d = .tup [x, y]
  | [], _, _, _, h => by simp [zipD] at h
  | _ :: _, [], _, _, h => by simp [zipD] at h
  | x :: xs, y :: ys, 0, d, h => by simp [zipD] at h; exact ⟨x, y, rfl, rfl, h.symm⟩
  | x :: xs, y :: ys, i + 1, d, h => by
    obtain ⟨a, b, h1, h2, h3⟩ := zipD_get xs ys i d (by simpa [zipD] using h)
    exact ⟨a, b, by simpa using h1, by simpa using h2, h3⟩
theorem zipD_length : ∀ (xs ys : List D), (zipD xs ys).length = min xs.length ys.length
  | [], _ => by simp [zipD]
  | _ :: _, [] => by simp [zipD]
  | _ :: xs, _ :: ys => by simp [zipD, zipD_length xs ys, Nat.succ_min_succ]
def fZip (fa : FA) : FA := fun env c => match fa env c with
  | some ([.lst xs, .lst ys], c1) => some (zipD xs ys, c1)
  | some ([.tup xs, .tup ys], c1) => some (zipD xs ys, c1)
  | _ => none
theorem ti_zip {elts : List Expr} {kk : Nat} {tpos : Pos} (ha : TrA T n X [e, e2] fa) (hm : X.mg "zip" = none) (hg : Gl X "zip" := by rfl) (hs : starEach [e, e2] X.env = (false, eval e X.env) :: starEach [e2] X.env := by rfl) (hpl : (backTo pos (starEach [e2] X.env)).any (·.1) = false := by rfl) :
    TrI T n X (.Tuple elts kk tpos) (.Call (.Name "zip" p) [e, e2] [] pos) (fZip fa) := by
  refine ⟨fun t G al c env σ H R ds c' hst he hf q => ofI (RZ.pi_zipA hg hm (paS [e, e2]) hs hpl) ?_⟩
  have tupl : ∀ {G1 : Hp} {al1 : List Addr} {a b : Addr} {xs ys : List V} {d1 d2 : List D} {J : It}, RpL T G1 al1 d1 xs → RpL T G1 al1 d2 ys → (∀ (G2 : Hp) (al2 : List Addr) (c2 : Cs) (H2 : Hp), Le G1 al1 G2 al2 → HSt T G2 al2 c2 H2 →
      (∀ i x y, xs[i]? = some x → ys[i]? = some y → J.go i H2 ∧ ∀ w H3, J.yld i H2 w H3 → ∃ P, w = .ref P ∧ H2 P = none ∧ H3 = upd H2 P (.tup [x, y])) ∧ ∀ i, (xs.length ≤ i ∨ ys.length ≤ i) → J.stop i H2) → ItOk T G1 al1 J (zipD d1 d2) := by
    intro G1 al1 a b xs ys d1 d2 J r1 r2 hJ i G2 al2 c2 H2 le hs2
    obtain ⟨hJ1, hJ2⟩ := hJ G2 al2 c2 H2 le hs2
    refine ⟨fun d hd => ?_, fun hl => hJ2 i ?_⟩
    · obtain ⟨x, y, hx, hy, rfl⟩ := zipD_get d1 d2 i d hd
      obtain ⟨u, hu, ru⟩ := r1.get hx
      obtain ⟨w, hw, rw'⟩ := r2.get hy
      obtain ⟨go, yl⟩ := hJ1 i u w hu hw
      refine ⟨go, fun z H3 hz => ?_⟩
      obtain ⟨P, rfl, hP, rfl⟩ := yl z H3 hz
      exact ⟨upd G2 P (.tup [u, w]), .freeze hs2 hP, hs2.freeze hP, .tup (.inl (.inl upd_same)) (.cons ((ru.mono le).mono (.upd (hs2.free hP))) (.cons ((rw'.mono le).mono (.upd (hs2.free hP))) .nil)) (.inl (Nat.le_refl 2))⟩
    · rw [zipD_length, r1.length, r2.length] at hl
      omega
  unfold fZip at hf
  split at hf
  case h_3 => cases hf
  case h_1 d1 d2 c1 e1 =>
    cases hf
    refine ha.run t G al c env σ H _ _ _ hst he e1 fun G1 al1 H1 vs l1 hs1 r1 => ?_
    obtain ⟨v, u, rfl, rv, ru⟩ := r1.two
    obtain ⟨a, xs, rfl, hga, rl⟩ := rv.lst_inv
    obtain ⟨b, ys, rfl, hgb, rl2⟩ := ru.lst_inv
    refine ⟨a, b, xs, ys, rfl, .inl ⟨SqL.of (hs1.ex _ _ hga), SqL.of (hs1.ex _ _ hgb), q G1 al1 H1 _ l1 hs1 (tupl (a := a) (b := b) rl rl2 fun G2 al2 c2 H2 le hs2 => ?_)⟩⟩
    have h1 : SqL X.K H2 a xs := SqL.of (hs2.ex _ _ (le.g _ _ hga))
    have h2 : SqL X.K H2 b ys := SqL.of (hs2.ex _ _ (le.g _ _ hgb))
    refine ⟨fun i x y hx hy => ⟨⟨xs, ys, x, y, h1, h2, hx, hy⟩, fun w H3 ⟨P, x', y', e1, e2, e3, f1, f2⟩ => ?_⟩, fun i hi => ⟨xs, ys, h1, h2, hi⟩⟩
    have g1 := f1 xs h1
    have g2 := f2 ys h2
    rw [hx] at g1; rw [hy] at g2
    cases g1; cases g2
    exact ⟨P, e1, e2, e3⟩
  case h_2 d1 d2 c1 e1 =>
    cases hf
    refine ha.run t G al c env σ H _ _ _ hst he e1 fun G1 al1 H1 vs l1 hs1 r1 => ?_
    obtain ⟨v, u, rfl, rv, ru⟩ := r1.two
    obtain ⟨a, xs, rfl, hga, rl⟩ := rv.tup_inv
    obtain ⟨b, ys, rfl, hgb, rl2⟩ := ru.tup_inv
    rw [← t.K] at hga hgb
    refine ⟨a, b, xs, ys, rfl, .inr ⟨sqT_h hs1.ex hga, sqT_h hs1.ex hgb, q G1 al1 H1 _ l1 hs1 (tupl (a := a) (b := b) rl rl2 fun G2 al2 c2 H2 le hs2 => ?_)⟩⟩
    have h1 : SqT X.K H2 a xs := sqT_h (fun a o h => hs2.ex _ _ (le.g _ _ h)) hga
    have h2 : SqT X.K H2 b ys := sqT_h (fun a o h => hs2.ex _ _ (le.g _ _ h)) hgb
    refine ⟨fun i x y hx hy => ⟨⟨xs, ys, x, y, h1, h2, hx, hy⟩, fun w H3 ⟨P, x', y', e1, e2, e3, f1, f2⟩ => ?_⟩, fun i hi => ⟨xs, ys, h1, h2, hi⟩⟩
    have g1 := f1 xs h1
    have g2 := f2 ys h2
    rw [hx] at g1; rw [hy] at g2
    cases g1; cases g2
    exact ⟨P, e1, e2, e3⟩
end
end Pd
set_option Elab.async false
set_option linter.all false
set_option maxRecDepth 100000
/-! Pd6: operators by data. -/
namespace Pd
open PySem PySem.Spec PyProof.Rows L2

/-! ### plain data -/
mutual
/-- as plain data, at most k deep -/
def pdn : Nat → D → Option PyData
  | _, .non => some .none
  | _, .bl b => some (.bool b)
  | _, .int i => some (.int i)
  | _, .str x => if PyData.strOk x = true then some (.str x) else none
  | k + 1, .tup xs => match pdns k xs with | some ps => some (.tuple ps) | none => none
  | k + 1, .lst xs => match pdns k xs with | some ps => some (.list ps) | none => none
  | _, _ => none
def pdns : Nat → List D → Option (List PyData)
  | _, [] => some []
  | k, x :: xs => match pdn k x, pdns k xs with
    | some p, some ps => some (p :: ps)
    | _, _ => none
end
section
variable {T : Tb} {G H : Hp} {al : List Addr}
mutual
theorem Rp.dp (ex : ∀ a o, G a = some o → H a = some o) : ∀ (k : Nat) (d : D) (p : PyData) (v : V), pdn k d = some p → Rp T G al d v → Dp T.K H v p
  | k, .non, p, v, e, r => by
    simp only [pdn] at e
    cases e
    cases r with
    | non => exact .non
    | box _ z => cases z
  | k, .bl b, p, v, e, r => by
    simp only [pdn] at e
    cases e
    cases r with
    | bl => exact .bl b
    | box _ z => cases z
  | k, .int i, p, v, e, r => by
    simp only [pdn] at e
    cases e
    cases r with
    | int => exact .int i
    | box _ z => cases z
  | k, .str x, p, v, e, r => by
    simp only [pdn] at e
    split at e
    · cases e
      cases r with
      | str => exact .str x
      | box _ z => cases z
    · cases e
  | 0, .tup xs, p, v, e, r => by simp [pdn] at e
  | 0, .lst xs, p, v, e, r => by simp [pdn] at e
  | k + 1, .tup xs, p, v, e, r => by
    simp only [pdn] at e
    split at e
    case h_2 => cases e
    case h_1 ps h =>
      cases e
      obtain ⟨a, vs, rfl, hq, rl⟩ := r.tup_inv
      exact .tup (sqT_h ex hq) (RpL.dp ex k xs ps vs h rl)
  | k + 1, .lst xs, p, v, e, r => by
    simp only [pdn] at e
    split at e
    case h_2 => cases e
    case h_1 ps h =>
      cases e
      obtain ⟨a, vs, rfl, hq, rl⟩ := r.lst_inv
      exact .lst (SqL.of (ex _ _ hq)) (RpL.dp ex k xs ps vs h rl)
  | k, .dic _ _, p, v, e, r => by simp [pdn] at e
  | k, .obj _ _, p, v, e, r => by simp [pdn] at e
  | k, .cell _, p, v, e, r => by simp [pdn] at e
  | k, .scr _, p, v, e, r => by simp [pdn] at e
  | k, .cls _, p, v, e, r => by simp [pdn] at e
theorem RpL.dp (ex : ∀ a o, G a = some o → H a = some o) : ∀ (k : Nat) (ds : List D) (ps : List PyData) (vs : List V), pdns k ds = some ps → RpL T G al ds vs → DpAll T.K H vs ps
  | k, [], ps, vs, e, r => by
    simp only [pdns] at e
    cases e
    cases r
    exact .nil
  | k, d :: ds, ps, vs, e, r => by
    simp only [pdns] at e
    split at e
    case h_2 => cases e
    case h_1 p ps' h1 h2 =>
      cases e
      cases r with
      | cons r1 r2 => exact .cons (Rp.dp ex k d p _ h1 r1) (RpL.dp ex k ds ps' _ h2 r2)
end
mutual
theorem pdn_shape : ∀ (k : Nat) (d : D) (p : PyData), pdn k d = some p → p.canLay0 = true ∧ p.depth ≤ k
  | k, .non, p, e => by simp only [pdn] at e; cases e; exact ⟨by simp [PyData.canLay0], by simp [PyData.depth]⟩
  | k, .bl b, p, e => by simp only [pdn] at e; cases e; exact ⟨by simp [PyData.canLay0], by simp [PyData.depth]⟩
  | k, .int i, p, e => by simp only [pdn] at e; cases e; exact ⟨by simp [PyData.canLay0], by simp [PyData.depth]⟩
  | k, .str x, p, e => by
    simp only [pdn] at e
    split at e
    case isTrue h => cases e; exact ⟨by simpa [PyData.canLay0] using h, by simp [PyData.depth]⟩
    case isFalse => cases e
  | 0, .tup xs, p, e => by simp [pdn] at e
  | 0, .lst xs, p, e => by simp [pdn] at e
  | k + 1, .tup xs, p, e => by
    simp only [pdn] at e
    split at e
    case h_2 => cases e
    case h_1 ps h =>
      cases e
      obtain ⟨h1, h2⟩ := pdns_shape k xs ps h
      exact ⟨by simpa [PyData.canLay0] using h1, by simp only [PyData.depth]; omega⟩
  | k + 1, .lst xs, p, e => by
    simp only [pdn] at e
    split at e
    case h_2 => cases e
    case h_1 ps h =>
      cases e
      obtain ⟨h1, h2⟩ := pdns_shape k xs ps h
      exact ⟨by simpa [PyData.canLay0] using h1, by simp only [PyData.depth]; omega⟩
  | k, .dic _ _, p, e => by simp [pdn] at e
  | k, .obj _ _, p, e => by simp [pdn] at e
  | k, .cell _, p, e => by simp [pdn] at e
  | k, .scr _, p, e => by simp [pdn] at e
  | k, .cls _, p, e => by simp [pdn] at e
theorem pdns_shape : ∀ (k : Nat) (ds : List D) (ps : List PyData), pdns k ds = some ps → PyData.canLayAll0 ps = true ∧ PyData.depthAll ps ≤ k
  | k, [], ps, e => by simp only [pdns] at e; cases e; exact ⟨by simp [PyData.canLayAll0], by simp [PyData.depthAll]⟩
  | k, d :: ds, ps, e => by
    simp only [pdns] at e
    split at e
    case h_2 => cases e
    case h_1 p ps' h1 h2 =>
      cases e
      obtain ⟨a1, a2⟩ := pdn_shape k d p h1
      obtain ⟨b1, b2⟩ := pdns_shape k ds ps' h2
      exact ⟨by simp [PyData.canLayAll0, a1, b1], by simp only [PyData.depthAll]; omega⟩
end
/-- how deep data are compared -/
def deep : Nat := 60
theorem pdn_shaped {d : D} {p : PyData} (h : pdn deep d = some p) : SeqAt.shaped p = true := by
  obtain ⟨h1, h2⟩ := pdn_shape deep d p h
  unfold SeqAt.shaped
  rw [h1, Bool.true_and, decide_eq_true_eq]
  exact Nat.le_trans h2 (by decide)
theorem Rq.dp {c : Cs} (hs : HSt T G al c H) {d : D} {p : PyData} {v : V} (h : pdn deep d = some p) (r : Rq T G al H d v) : Dp T.K H v p := by
  rcases r with r | ⟨a, o, e, _, _, hh, b⟩
  · exact r.dp hs.ex deep d p v h
  · cases b with
    | lst rl =>
      unfold deep at h
      simp only [pdn] at h
      split at h
      case h_2 => cases h
      case h_1 ps h1 =>
        cases h
        rw [e]
        exact .lst (SqL.of hh) (rl.dp hs.ex _ _ ps _ h1)
    | _ => simp [pdn, deep] at h
end

section
variable {T : Tb} {n : Nat} {X : Cx}
theorem opr_of {f : Value → Value → Sem Value} {r : R2} (h : ∀ x y H Q, r x y H Q → ∃ r' : R2, OpR X f r' ∧ r' x y H Q) : OpR X f r :=
  fun pins s σ H x y v u Q I rx ry hr => let ⟨_, o, q⟩ := h x y H Q hr; o pins s σ H x y v u Q I rx ry q
/-- what the values of a rD are -/
theorem rD_of {f : Value → Value → Sem Value} {g : F2} (h : ∀ (G : Hp) (al : List Addr) (c : Cs) (H : Hp) (dx dy d : D) (c' : Cs) (x y : V) (Q : VK), HSt T G al c H → Rq T G al H dx x → Rq T G al H dy y → g dx dy c = some (d, c') → Aft T G al H d c' Q → ∃ r' : R2, OpR X f r' ∧ r' x y H Q) : OpR X f (rD T g) :=
  opr_of fun x y H Q ⟨G, al, c, dx, dy, d, c', hs, rx, ry, hg, q⟩ => h G al c H dx dy d c' x y Q hs rx ry hg q
/-- a new object that will never change, as a datum -/
theorem Aft.new {G H : Hp} {al : List Addr} {c : Cs} {d : D} {Q : VK} {p : Addr} {o : HO} (hs : HSt T G al c H) (q : Aft T G al H d c Q) (hp : H p = none) (b : Bx T G al p o d) : Q (.ref p) (upd H p o) :=
  q (upd G p o) al _ (.ref p) (.freeze hs hp) (hs.freeze hp) (.box upd_same (b.mono (.upd (hs.free hp))))
theorem Aft.newT {G H : Hp} {al : List Addr} {c : Cs} {ds : List D} {vs : List V} {Q : VK} {p : Addr} {o : Obj} (hs : HSt T G al c H) (q : Aft T G al H (.tup ds) c Q) (hp : H p = none) (ho : o.dict = none) (b : RpL T G al ds vs) : Q (.ref p) (upd H p (.frz o (.tup vs))) :=
  q (upd G p (.frz o (.tup vs))) al _ (.ref p) (.freeze hs hp) (hs.freeze hp) (.tup (.inl (.inr ⟨o, upd_same⟩)) (b.mono (.upd (hs.free hp))) (.inr ⟨o, _, upd_same, ho⟩))
theorem Aft.now {G H : Hp} {al : List Addr} {c : Cs} {d : D} {v : V} {Q : VK} (hs : HSt T G al c H) (q : Aft T G al H d c Q) (r : Rp T G al d v) : Q v H := q G al H v (.refl _ _ _) hs r

/-! ### + - * // % ** -/
def oAdd : F2 := fun x y c => match x, y with
  | .int i, .int j => some (.int (i + j), c)
  | .str a, .str b => if a.length + b.length ≤ lim then some (.str (a ++ b), c) else none
  | .tup a, .tup b => if a.length + b.length ≤ lim then some (.tup (a ++ b), c) else none
  | .lst a, .lst b => if a.length + b.length ≤ lim then some (.lst (a ++ b), c) else none
  | _, _ => none
theorem Rq.rp_tup {G H : Hp} {al : List Addr} {ds : List D} {v : V} (r : Rq T G al H (.tup ds) v) : Rp T G al (.tup ds) v := by
  rcases r with r | ⟨_, _, _, _, _, _, b⟩
  · exact r
  · cases b
theorem op_oAdd (t : Tied T n X) : OpR X (binaryOp .Add) (rD T oAdd) := by
  refine rD_of fun G al c H dx dy d c' x y Q hs rx ry hg q => ?_
  unfold oAdd at hg
  split at hg
  case h_1 i j => cases hg; rw [rx.int_inv, ry.int_inv]; exact ⟨_, op_add, _, _, rfl, rfl, q.now hs (.int _)⟩
  case h_2 a b =>
    split at hg
    case isFalse => cases hg
    case isTrue hl => cases hg; rw [rx.str_inv, ry.str_inv]; exact ⟨_, op_add_str, _, _, rfl, rfl, Nat.le_trans hl lim_line, q.now hs (.str _)⟩
  case h_3 a b =>
    split at hg
    case isFalse => cases hg
    case isTrue hl =>
      cases hg
      have kx := rx.rp_tup
      have ky := ry.rp_tup
      obtain ⟨p, vs, rfl, h1, l1⟩ := rx.tup_inv hs
      obtain ⟨p2, ws, rfl, h2, l2⟩ := ry.tup_inv hs
      rw [← t.K] at h1 h2
      refine ⟨_, op_catF, p, p2, vs, ws, rfl, rfl, h1, h2, by rw [← l1.length, ← l2.length]; exact Nat.le_trans hl lim_line, fun e => ?_, fun e1 e2 => ?_, fun e1 e2 p o hp ho => q.newT hs hp ho (l1.append l2)⟩
      · have : a = [] := by have := l1.length; rw [e] at this; exact List.length_eq_zero_iff.mp this
        rw [this] at q
        exact q.now hs ky
      · have : b = [] := by have := l2.length; rw [e2] at this; exact List.length_eq_zero_iff.mp this
        rw [this, List.append_nil] at q
        exact q.now hs kx
  case h_4 a b =>
    split at hg
    case isFalse => cases hg
    case isTrue hl =>
      cases hg
      obtain ⟨p, vs, rfl, h1, l1⟩ := rx.lst_inv hs
      obtain ⟨p2, ws, rfl, h2, l2⟩ := ry.lst_inv hs
      exact ⟨_, op_cat, p, p2, vs, ws, rfl, rfl, h1, h2, by rw [← l1.length, ← l2.length]; exact Nat.le_trans hl lim_line, fun p hp => q.new hs hp (.lst (l1.append l2))⟩
  case h_5 => cases hg
/-- list + list, one's own -/
def oCat : F2 := fun x y c => match x, y with
  | .lst a, .lst b => if a.length + b.length ≤ lim then some (.lst (a ++ b), c) else none
  | _, _ => none
theorem op_oCat (t : Tied T n X) : OpR X (binaryOp .Add) (rDN T oCat) := by
  refine opr_of fun x y H Q ⟨G, al, c, dx, dy, d, c', hs, rx, ry, hg, q⟩ => ?_
  unfold oCat at hg
  split at hg
  case h_2 => cases hg
  case h_1 a b =>
    split at hg
    case isFalse => cases hg
    case isTrue hl =>
      cases hg
      obtain ⟨p, vs, rfl, h1, l1⟩ := rx.lst_inv hs
      obtain ⟨p2, ws, rfl, h2, l2⟩ := ry.lst_inv hs
      exact ⟨_, op_cat, p, p2, vs, ws, rfl, rfl, h1, h2, by rw [← l1.length, ← l2.length]; exact Nat.le_trans hl lim_line, fun p hp => q G al _ p _ (.junk hp) (hs.junk hp) (hs.free hp) (hs.apart hp) hp upd_same (.lst (l1.append l2))⟩
def oSub : F2 := fun x y c => match x, y with
  | .int i, .int j => some (.int (i - j), c)
  | _, _ => none
theorem op_oSub (t : Tied T n X) : OpR X (binaryOp .Sub) (rD T oSub) := by
  refine rD_of fun G al c H dx dy d c' x y Q hs rx ry hg q => ?_
  unfold oSub at hg
  split at hg
  case h_1 i j => cases hg; rw [rx.int_inv, ry.int_inv]; exact ⟨_, op_sub, _, _, rfl, rfl, q.now hs (.int _)⟩
  case h_2 => cases hg
def sm64 (i : Int) : Bool := decide (-18446744073709551616 < i) && decide (i < 18446744073709551616)
theorem sm64_ok {i : Int} (h : sm64 i = true) : -(2 ^ 64) < i ∧ i < 2 ^ 64 := by
  unfold sm64 at h
  simp only [Bool.and_eq_true, decide_eq_true_eq] at h
  exact ⟨by have := h.1; omega, by have := h.2; omega⟩
def oMul : F2 := fun x y c => match x, y with
  | .int i, .int j => if (sm64 i || sm64 j) = true then some (.int (i * j), c) else none
  | .lst a, .int k => if (small62 k && decide (a.length * k.toNat ≤ lim)) = true then some (.lst (List.replicate k.toNat a).flatten, c) else none
  | .tup a, .int k => if (!a.isEmpty && decide (2 ≤ k) && decide (k ≤ 1000) && decide (a.length ≤ 1000)) = true then some (.tup (List.replicate k.toNat a).flatten, c) else none
  | _, _ => none
theorem RpL.rep {G : Hp} {al : List Addr} {ds : List D} {vs : List V} (h : RpL T G al ds vs) : ∀ k : Nat, RpL T G al (List.replicate k ds).flatten (List.replicate k vs).flatten
  | 0 => .nil
  | k + 1 => by
    rw [List.replicate_succ, List.replicate_succ, List.flatten_cons, List.flatten_cons]
    exact h.append (RpL.rep h k)
theorem op_oMul (t : Tied T n X) : OpR X (binaryOp .Mult) (rD T oMul) := by
  refine rD_of fun G al c H dx dy d c' x y Q hs rx ry hg q => ?_
  unfold oMul at hg
  split at hg
  case h_1 i j =>
    split at hg
    case isFalse => cases hg
    case isTrue hl =>
      cases hg
      rw [rx.int_inv, ry.int_inv]
      refine ⟨_, op_mul, _, _, rfl, rfl, ?_, q.now hs (.int _)⟩
      rcases Bool.or_eq_true_iff.mp hl with h | h
      · exact .inl (sm64_ok h)
      · exact .inr (sm64_ok h)
  case h_2 a k =>
    split at hg
    case isFalse => cases hg
    case isTrue hl =>
      cases hg
      obtain ⟨h1, h2⟩ := Bool.and_eq_true_iff.mp hl
      obtain ⟨h3, h4⟩ := small62_ok h1
      obtain ⟨p, vs, rfl, hv, l1⟩ := rx.lst_inv hs
      rw [ry.int_inv]
      refine ⟨_, op_rep, p, k, vs, rfl, rfl, hv, by omega, by omega, ?_, fun p hp => q.new hs hp (.lst (l1.rep _))⟩
      rw [← l1.length]
      exact Nat.le_trans (of_decide_eq_true h2) lim_line
  case h_3 a k =>
    split at hg
    case isFalse => cases hg
    case isTrue hl =>
      cases hg
      simp only [Bool.and_eq_true, decide_eq_true_eq, Bool.not_eq_true', List.isEmpty_eq_false_iff] at hl
      obtain ⟨⟨⟨h1, h2⟩, h3⟩, h4⟩ := hl
      obtain ⟨p, vs, rfl, hv, l1⟩ := rx.tup_inv hs
      rw [← t.K] at hv
      rw [ry.int_inv]
      refine ⟨_, op_repF, p, k, vs, rfl, rfl, hv, fun e => ?_, h2, h3, by rw [← l1.length]; exact h4, fun p o hp ho => q.newT hs hp ho (l1.rep _)⟩
      have := l1.length
      rw [e] at this
      exact h1 (List.length_eq_zero_iff.mp this)
  case h_4 => cases hg
/-- list * int, one's own -/
def oRep : F2 := fun x y c => match x, y with
  | .lst a, .int k => if (small62 k && decide (a.length * k.toNat ≤ lim)) = true then some (.lst (List.replicate k.toNat a).flatten, c) else none
  | _, _ => none
theorem op_oRep (t : Tied T n X) : OpR X (binaryOp .Mult) (rDN T oRep) := by
  refine opr_of fun x y H Q ⟨G, al, c, dx, dy, d, c', hs, rx, ry, hg, q⟩ => ?_
  unfold oRep at hg
  split at hg
  case h_2 => cases hg
  case h_1 a k =>
    split at hg
    case isFalse => cases hg
    case isTrue hl =>
      cases hg
      obtain ⟨h1, h2⟩ := Bool.and_eq_true_iff.mp hl
      obtain ⟨h3, h4⟩ := small62_ok h1
      obtain ⟨p, vs, rfl, hv, l1⟩ := rx.lst_inv hs
      rw [ry.int_inv]
      refine ⟨_, op_rep, p, k, vs, rfl, rfl, hv, by omega, by omega, ?_, fun p hp => q G al _ p _ (.junk hp) (hs.junk hp) (hs.free hp) (hs.apart hp) hp upd_same (.lst (l1.rep _))⟩
      rw [← l1.length]
      exact Nat.le_trans (of_decide_eq_true h2) lim_line
def oFdiv : F2 := fun x y c => match x, y with
  | .int i, .int j => if (decide (0 < j) && decide (j < 1073741824)) = true then some (.int (i / j), c) else none
  | _, _ => none
theorem op_oFdiv (t : Tied T n X) : OpR X (binaryOp .FloorDiv) (rD T oFdiv) := by
  refine rD_of fun G al c H dx dy d c' x y Q hs rx ry hg q => ?_
  unfold oFdiv at hg
  split at hg
  case h_2 => cases hg
  case h_1 i j =>
    split at hg
    case isFalse => cases hg
    case isTrue hl =>
      cases hg
      simp only [Bool.and_eq_true, decide_eq_true_eq] at hl
      rw [rx.int_inv, ry.int_inv]
      exact ⟨_, op_fdiv, _, _, rfl, rfl, hl, q.now hs (.int _)⟩
def oMod : F2 := fun x y c => match x, y with
  | .int i, .int j => if 0 < j then some (.int (i % j), c) else none
  | _, _ => none
theorem op_oMod (t : Tied T n X) : OpR X (binaryOp .Mod) (rD T oMod) := by
  refine rD_of fun G al c H dx dy d c' x y Q hs rx ry hg q => ?_
  unfold oMod at hg
  split at hg
  case h_2 => cases hg
  case h_1 i j =>
    split at hg
    case isFalse => cases hg
    case isTrue hl =>
      cases hg
      rw [rx.int_inv, ry.int_inv]
      exact ⟨_, op_mod, _, _, rfl, rfl, hl, q.now hs (.int _)⟩
def oPow : F2 := fun x y c => match x, y with
  | .int i, .int j => if (decide (0 ≤ j) && decide (j ≤ 1000) && sm64 i) = true then some (.int (i ^ j.toNat), c) else none
  | _, _ => none
theorem op_oPow (t : Tied T n X) : OpR X (binaryOp .Pow) (rD T oPow) := by
  refine rD_of fun G al c H dx dy d c' x y Q hs rx ry hg q => ?_
  unfold oPow at hg
  split at hg
  case h_2 => cases hg
  case h_1 i j =>
    split at hg
    case isFalse => cases hg
    case isTrue hl =>
      cases hg
      simp only [Bool.and_eq_true, decide_eq_true_eq] at hl
      obtain ⟨⟨h1, h2⟩, h3⟩ := hl
      obtain ⟨h4, h5⟩ := sm64_ok h3
      rw [rx.int_inv, ry.int_inv]
      exact ⟨_, op_pow, _, _, rfl, rfl, ⟨h1, by omega, by omega⟩, q.now hs (.int _)⟩

/-! ### comparisons -/
def oEq : F2 := fun x y c => match pdn deep x, pdn deep y with
  | some p, some q => some (.bl (PyData.eqv p q), c)
  | _, _ => none
def oNe : F2 := fun x y c => match pdn deep x, pdn deep y with
  | some p, some q => some (.bl (!PyData.eqv p q), c)
  | _, _ => none
theorem op_oEq (t : Tied T n X) : OpR X (compareOp .Eq) (rD T oEq) := by
  refine rD_of fun G al c H dx dy d c' x y Q hs rx ry hg q => ?_
  unfold oEq at hg
  split at hg
  case h_2 => cases hg
  case h_1 p p' h1 h2 =>
    cases hg
    exact ⟨_, op_eqD t.room.units, p, p', by rw [t.K]; exact rx.dp hs h1, by rw [t.K]; exact ry.dp hs h2, pdn_shaped h1, pdn_shaped h2, q.now hs (.bl _)⟩
theorem op_oNe (t : Tied T n X) : OpR X (compareOp .NotEq) (rD T oNe) := by
  refine rD_of fun G al c H dx dy d c' x y Q hs rx ry hg q => ?_
  unfold oNe at hg
  split at hg
  case h_2 => cases hg
  case h_1 p p' h1 h2 =>
    cases hg
    exact ⟨_, op_neD t.room.units, p, p', by rw [t.K]; exact rx.dp hs h1, by rw [t.K]; exact ry.dp hs h2, pdn_shaped h1, pdn_shaped h2, q.now hs (.bl _)⟩
def ints? : List D → Option (List Int)
  | [] => some []
  | .int i :: r => match ints? r with | some is => some (i :: is) | none => none
  | _ :: _ => none
theorem ints?_map : ∀ {ds : List D} {ns : List Int}, ints? ds = some ns → ds = ns.map D.int
  | [], _, h => by cases h; rfl
  | .int i :: r, ns, h => by
    simp only [ints?] at h
    split at h
    case h_2 => cases h
    case h_1 is e => cases h; rw [ints?_map e]; rfl
  | .non :: _, _, h => by simp [ints?] at h
  | .bl _ :: _, _, h => by simp [ints?] at h
  | .str _ :: _, _, h => by simp [ints?] at h
  | .tup _ :: _, _, h => by simp [ints?] at h
  | .lst _ :: _, _, h => by simp [ints?] at h
  | .dic _ _ :: _, _, h => by simp [ints?] at h
  | .obj _ _ :: _, _, h => by simp [ints?] at h
  | .cell _ :: _, _, h => by simp [ints?] at h
  | .scr _ :: _, _, h => by simp [ints?] at h
  | .cls _ :: _, _, h => by simp [ints?] at h
theorem ints?_of (ns : List Int) : ints? (ns.map D.int) = some ns := by
  induction ns with
  | nil => rfl
  | cons a r ih => simp [ints?, ih]
def lexLeZ (ns ms : List Int) : Bool := Ob.lexAt (fun j => decide (ns.getD j 0 = ms.getD j 0)) (fun j => decide (ns.getD j 0 ≤ ms.getD j 0)) (decide (ns.length ≤ ms.length)) 0 (min ns.length ms.length)
def oLe : F2 := fun x y c => match x, y with
  | .int i, .int j => some (.bl (decide (i ≤ j)), c)
  | .tup a, .tup b => match ints? a, ints? b with
    | some ns, some ms => some (.bl (lexLeZ ns ms), c)
    | _, _ => none
  | _, _ => none
theorem op_oLe (t : Tied T n X) : OpR X (compareOp .LtE) (rD T oLe) := by
  refine rD_of fun G al c H dx dy d c' x y Q hs rx ry hg q => ?_
  unfold oLe at hg
  split at hg
  case h_1 i j => cases hg; rw [rx.int_inv, ry.int_inv]; exact ⟨_, op_le, _, _, rfl, rfl, q.now hs (.bl _)⟩
  case h_2 a b =>
    split at hg
    case h_2 => cases hg
    case h_1 ns ms h1 h2 =>
      cases hg
      obtain rfl := ints?_map h1
      obtain rfl := ints?_map h2
      obtain ⟨p, vs, rfl, hv, l1⟩ := rx.tup_inv hs
      obtain ⟨p2, ws, rfl, hw, l2⟩ := ry.tup_inv hs
      rw [l1.ints, ← t.K] at hv
      rw [l2.ints, ← t.K] at hw
      exact ⟨_, op_leT t.room.units0, p, p2, ns, ms, rfl, rfl, hv, hw, q.now hs (.bl _)⟩
  case h_3 => cases hg
def oLt : F2 := fun x y c => match x, y with
  | .int i, .int j => some (.bl (decide (i < j)), c)
  | .tup a, .tup b => match ints? a, ints? b with
    | some ns, some ms => some (.bl (HT.lexLt ns ms), c)
    | _, _ => none
  | _, _ => none
theorem op_oLt (t : Tied T n X) : OpR X (compareOp .Lt) (rD T oLt) := by
  refine rD_of fun G al c H dx dy d c' x y Q hs rx ry hg q => ?_
  unfold oLt at hg
  split at hg
  case h_1 i j => cases hg; rw [rx.int_inv, ry.int_inv]; exact ⟨_, op_lt, _, _, rfl, rfl, q.now hs (.bl _)⟩
  case h_2 a b =>
    split at hg
    case h_2 => cases hg
    case h_1 ns ms h1 h2 =>
      cases hg
      obtain rfl := ints?_map h1
      obtain rfl := ints?_map h2
      obtain ⟨p, vs, rfl, hv, l1⟩ := rx.tup_inv hs
      obtain ⟨p2, ws, rfl, hw, l2⟩ := ry.tup_inv hs
      rw [l1.ints, ← t.K] at hv
      rw [l2.ints, ← t.K] at hw
      exact ⟨_, op_ltT t.room.units0, p, p2, ns, ms, rfl, rfl, hv, hw, q.now hs (.bl _)⟩
  case h_3 => cases hg
def oGt : F2 := fun x y c => match x, y with
  | .int i, .int j => some (.bl (decide (j < i)), c)
  | _, _ => none
theorem op_oGt (t : Tied T n X) : OpR X (compareOp .Gt) (rD T oGt) := by
  refine rD_of fun G al c H dx dy d c' x y Q hs rx ry hg q => ?_
  unfold oGt at hg
  split at hg
  case h_1 i j => cases hg; rw [rx.int_inv, ry.int_inv]; exact ⟨_, op_gt, _, _, rfl, rfl, q.now hs (.bl _)⟩
  case h_2 => cases hg
def oGe : F2 := fun x y c => match x, y with
  | .int i, .int j => some (.bl (decide (j ≤ i)), c)
  | _, _ => none
theorem op_oGe (t : Tied T n X) : OpR X (compareOp .GtE) (rD T oGe) := by
  refine rD_of fun G al c H dx dy d c' x y Q hs rx ry hg q => ?_
  unfold oGe at hg
  split at hg
  case h_1 i j => cases hg; rw [rx.int_inv, ry.int_inv]; exact ⟨_, op_ge, _, _, rfl, rfl, q.now hs (.bl _)⟩
  case h_2 => cases hg
/-- is this datum None -/
def isNonD : D → Bool
  | .non => true
  | _ => false
theorem Rq.isNon {G H : Hp} {al : List Addr} {d : D} {v : V} (r : Rq T G al H d v) : decide (v = .non) = isNonD d := by
  rcases r with r | ⟨a, o, e, _, _, hh, b⟩
  · cases r with
    | box _ b => cases b <;> simp [isNonD]
    | _ => simp [isNonD]
  · subst e
    cases b <;> simp [isNonD]
def oIs : F2 := fun x y c => match y with
  | .non => some (.bl (isNonD x), c)
  | .bl b => match x with
    | .bl a => some (.bl (decide (a = b)), c)
    | _ => none
  | _ => none
def oIsNot : F2 := fun x y c => match y with
  | .non => some (.bl (!isNonD x), c)
  | .bl b => match x with
    | .bl a => some (.bl (!decide (a = b)), c)
    | _ => none
  | _ => none
theorem op_oIs (t : Tied T n X) : OpR X (compareOp .Is) (rD T oIs) := by
  refine rD_of fun G al c H dx dy d c' x y Q hs rx ry hg q => ?_
  unfold oIs at hg
  split at hg
  case h_1 => cases hg; rw [ry.non_inv]; exact ⟨_, op_isN, rfl, by rw [rx.isNon]; exact q.now hs (.bl _)⟩
  case h_2 b =>
    split at hg
    case h_2 => cases hg
    case h_1 a => cases hg; rw [rx.bl_inv, ry.bl_inv]; exact ⟨_, op_is_bl, _, _, rfl, rfl, q.now hs (.bl _)⟩
  case h_3 => cases hg
theorem op_oIsNot (t : Tied T n X) : OpR X (compareOp .IsNot) (rD T oIsNot) := by
  refine rD_of fun G al c H dx dy d c' x y Q hs rx ry hg q => ?_
  unfold oIsNot at hg
  split at hg
  case h_1 => cases hg; rw [ry.non_inv]; exact ⟨_, op_notN, rfl, by rw [rx.isNon]; exact q.now hs (.bl _)⟩
  case h_2 b =>
    split at hg
    case h_2 => cases hg
    case h_1 a => cases hg; rw [rx.bl_inv, ry.bl_inv]; exact ⟨_, op_isnot_bl, _, _, rfl, rfl, q.now hs (.bl _)⟩
  case h_3 => cases hg
end
end Pd
set_option Elab.async false
set_option linter.all false
set_option maxRecDepth 100000
/-! Pd7: membership, subscripts, slices, the special methods of one's own classes. -/
namespace Pd
open PySem PySem.Spec PyProof.Rows L2

section
variable {T : Tb} {G H : Hp} {al : List Addr} {c : Cs} {v : V}
theorem Rq.lst' {d : D} {ds : List D} (hs : HSt T G al c H) (h : Rq T G al H d v) (hd : deref c d = some (.lst ds)) : ∃ a vs, v = .ref a ∧ H a = some (.lst vs) ∧ RpL T G al ds vs := by
  cases d with
  | cell j =>
    have hd : c[j]? = some (.lst ds) := hd
    rcases h with h | ⟨a, o, e, _, _, hh, b⟩
    · cases h with
      | box g b => cases b
      | cell ha =>
        obtain ⟨_, o, ho, b⟩ := hs.at_ j _ _ ha hd
        cases b with
        | lst r => exact ⟨_, _, rfl, ho, r⟩
    · cases b
  | lst ds' => cases hd; exact h.lst_inv hs
  | _ => cases hd
end

/-- a list's, a tuple's items; those of a cell -/
def seqOf (c : Cs) (d : D) : Option (List D) := match deref c d with
  | some (.lst ds) => some ds
  | some (.tup ds) => some ds
  | _ => none
section
variable {T : Tb} {G H : Hp} {al : List Addr} {c : Cs} {v : V}
theorem Rq.seq' {d : D} {ds : List D} (hs : HSt T G al c H) (h : Rq T G al H d v) (hd : seqOf c d = some ds) : ∃ a vs, v = .ref a ∧ (SqL T.K H a vs ∨ SqT T.K H a vs) ∧ RpL T G al ds vs := by
  unfold seqOf at hd
  split at hd
  case h_1 ds' e =>
    cases hd
    obtain ⟨a, vs, e1, e2, rl⟩ := h.lst' hs e
    exact ⟨a, vs, e1, .inl (SqL.of e2), rl⟩
  case h_2 ds' e =>
    cases hd
    cases d with
    | tup ds'' =>
      cases e
      obtain ⟨a, vs, e1, e2, rl⟩ := h.tup_inv hs
      exact ⟨a, vs, e1, .inr e2, rl⟩
    | cell j =>
      have e : c[j]? = some (.tup ds) := e
      rcases h with h | ⟨a, o, e', _, _, hh, b⟩
      · cases h with
        | box g b => cases b
        | cell ha =>
          obtain ⟨_, o, ho, b⟩ := hs.at_ j _ _ ha e
          cases b
      · cases b
    | _ => cases e
  case h_3 => cases hd
end

/-! ### in, not in -/
def flatD : D → Bool
  | .non => true
  | .bl _ => true
  | .int _ => true
  | .str _ => true
  | _ => false
def inTup (x : D) (ds : List D) : Option Bool := if (flatD x && ds.all flatD) = true then match pdn deep x, pdns deep ds with
  | some p, some ps => some (ps.any fun z => PyData.eqv z p)
  | _, _ => none else none
def inLst (x : D) (ds : List D) : Option Bool := match pdn deep x, pdns 59 ds with
  | some p, some ps => some (ps.any fun z => PyData.eqv z p)
  | _, _ => none
def inStr (i j : Str) : Bool := !(Builtin.Str.occurrences j i 0 j.length 1).isEmpty
def inD (c : Cs) (x y : D) : Option Bool := match deref c y with
  | some (.lst ds) => inLst x ds
  | some (.tup ds) => inTup x ds
  | some (.str j) => match x with
    | .str i => some (inStr i j)
    | _ => none
  | _ => none
def oIn : F2 := fun x y c => match inD c x y with | some b => some (.bl b, c) | none => none
def oNotIn : F2 := fun x y c => match inD c x y with | some b => some (.bl (!b), c) | none => none
section
variable {T : Tb} {n : Nat} {X : Cx}
theorem flat_v {G H : Hp} {al : List Addr} {d : D} {v : V} (h : flatD d = true) (r : Rq T G al H d v) : flatV v = true := by
  cases d with
  | non => rw [r.non_inv]; rfl
  | bl b => rw [r.bl_inv]; rfl
  | int i => rw [r.int_inv]; rfl
  | str x => rw [r.str_inv]; rfl
  | _ => cases h
theorem flat_eq {G H : Hp} {al : List Addr} {x y : D} {v u : V} {p q : PyData} (hx : flatD x = true) (hy : flatD y = true) (rx : Rq T G al H x v) (ry : Rq T G al H y u) {k : Nat} (ex : pdn k x = some p) (ey : pdn k y = some q) : eqV u v = PyData.eqv q p := by
  cases x <;> cases y <;> (try cases hx) <;> (try cases hy) <;> simp only [pdn] at ex ey <;> (try split at ex) <;> (try split at ey) <;> (try cases ex) <;> (try cases ey) <;>
    (try rw [rx.non_inv]) <;> (try rw [ry.non_inv]) <;> (try rw [rx.bl_inv]) <;> (try rw [ry.bl_inv]) <;> (try rw [rx.int_inv]) <;> (try rw [ry.int_inv]) <;> (try rw [rx.str_inv]) <;> (try rw [ry.str_inv]) <;>
    simp [eqV, PyData.eqv]
theorem all_flat {G : Hp} {al : List Addr} : ∀ {ds : List D} {vs : List V}, ds.all flatD = true → RpL T G al ds vs → vs.all flatV = true
  | _, _, _, .nil => rfl
  | d :: ds, _, h, .cons r t => by
    rw [List.all_cons, Bool.and_eq_true] at h
    rw [List.all_cons, Bool.and_eq_true]
    exact ⟨flat_v (H := G) h.1 (.inl r), all_flat h.2 t⟩
theorem in_flat {G H : Hp} {al : List Addr} {x : D} {v : V} {p : PyData} {k : Nat} (hx : flatD x = true) (rx : Rq T G al H x v) (ex : pdn k x = some p) : ∀ {ds : List D} {vs : List V} {ps : List PyData}, ds.all flatD = true → RpL T G al ds vs → pdns k ds = some ps → inV v vs = ps.any fun z => PyData.eqv z p
  | _, _, _, _, .nil, e => by simp only [pdns] at e; cases e; rfl
  | d :: ds, _, _, h, .cons r t, e => by
    rw [List.all_cons, Bool.and_eq_true] at h
    simp only [pdns] at e
    split at e
    case h_2 => cases e
    case h_1 q qs e1 e2 =>
      cases e
      have h1 := flat_eq hx h.1 rx (.inl r) ex e1
      have h2 := in_flat hx rx ex h.2 t e2
      unfold inV at h2 ⊢
      rw [List.any_cons, List.any_cons, h1, h2]
theorem op_inD (t : Tied T n X) (neg : Bool) {G H : Hp} {al : List Addr} {c : Cs} {dx dy : D} {b : Bool} {x y : V} {Q : VK} (hs : HSt T G al c H) (rx : Rq T G al H dx x) (ry : Rq T G al H dy y) (e : inD c dx dy = some b) (q : Q (.bl (if neg = true then !b else b)) H) :
    ∃ r' : R2, OpR X (compareOp (if neg = true then .NotIn else .In)) r' ∧ r' x y H Q := by
  unfold inD at e
  split at e
  case h_1 ds e1 =>
    unfold inLst at e
    split at e
    case h_2 => cases e
    case h_1 p ps e2 e3 =>
      cases e
      obtain ⟨a, vs, rfl, hv, rl⟩ := ry.lst' hs e1
      have hp := rx.dp hs e2
      have hps := rl.dp hs.ex 59 ds ps vs e3
      have sh : SeqAt.shaped (.list ps) = true := by
        obtain ⟨h1, h2⟩ := pdns_shape 59 ds ps e3
        unfold SeqAt.shaped
        rw [Bool.and_eq_true, decide_eq_true_eq]
        refine ⟨by simpa [PyData.canLay0] using h1, ?_⟩
        show PyData.depthAll ps + 1 ≤ 64
        omega
      have un : X.A.units + 65 < cLine := by have := t.room.un; omega
      rw [← t.K] at hp hps
      cases neg with
      | false => exact ⟨_, L2.op_inD un, p, ps, hp, .lst (SqL.of hv) hps, pdn_shaped e2, sh, q⟩
      | true => exact ⟨_, L2.op_notInD un, p, ps, hp, .lst (SqL.of hv) hps, pdn_shaped e2, sh, q⟩
  case h_2 ds e1 =>
    unfold inTup at e
    split at e
    case isFalse => cases e
    case isTrue hf =>
      split at e
      case h_2 => cases e
      case h_1 p ps e2 e3 =>
        cases e
        obtain ⟨hx, hd⟩ := Bool.and_eq_true_iff.mp hf
        obtain ⟨a, vs, rfl, hv, rl⟩ := ry.seq' hs (by unfold seqOf; rw [e1])
        have hi := in_flat hx rx e2 hd rl e3
        rw [← hi] at q
        rw [← t.K] at hv
        cases neg with
        | false => exact ⟨_, op_in_seq, a, vs, rfl, hv, flat_v hx rx, all_flat hd rl, q⟩
        | true => exact ⟨_, op_notIn_seq, a, vs, rfl, hv, flat_v hx rx, all_flat hd rl, q⟩
  case h_3 j e1 =>
    split at e
    case h_2 => cases e
    case h_1 i =>
      cases e
      have ey : dy = .str j := by
        cases dy with
        | cell k =>
          have e1 : c[k]? = some (.str j) := e1
          rcases ry with ry | ⟨a, o, e', _, _, hh, b⟩
          · cases ry with
            | box g b => cases b
            | cell ha =>
              obtain ⟨_, o, ho, b⟩ := hs.at_ k _ _ ha e1
              cases b
          · cases b
        | str s => cases e1; rfl
        | _ => cases e1
      subst ey
      rw [rx.str_inv, ry.str_inv]
      cases neg with
      | false => exact ⟨_, op_in_str, i, j, rfl, rfl, q⟩
      | true => exact ⟨_, op_notin_str, i, j, rfl, rfl, q⟩
  case h_4 => cases e
theorem op_oIn (t : Tied T n X) : OpR X (compareOp .In) (rD T oIn) := by
  refine rD_of fun G al c H dx dy d c' x y Q hs rx ry hg q => ?_
  unfold oIn at hg
  split at hg
  case h_2 => cases hg
  case h_1 b e => cases hg; exact op_inD t false hs rx ry e (q.now hs (.bl _))
theorem op_oNotIn (t : Tied T n X) : OpR X (compareOp .NotIn) (rD T oNotIn) := by
  refine rD_of fun G al c H dx dy d c' x y Q hs rx ry hg q => ?_
  unfold oNotIn at hg
  split at hg
  case h_2 => cases hg
  case h_1 b e => cases hg; exact op_inD t true hs rx ry e (q.now hs (.bl _))

/-! ### subscripts -/
def ixD (c : Cs) (x y : D) : Option D := match y with
  | .int i => match deref c x with
    | some (.lst ds) => atI ds i
    | some (.tup ds) => atI ds i
    | some (.scr ns) => (atI ns i).map D.int
    | some (.str z) => if z.length ≤ lim then (atI z.cps.toList i).map fun k => D.str ⟨#[k]⟩ else none
    | _ => none
  | _ => none
def oIx : F2 := fun x y c => match ixD c x y with | some d => some (d, c) | none => none
theorem RpL.atI {G : Hp} {al : List Addr} {ds : List D} {vs : List V} {i : Int} {d : D} (r : RpL T G al ds vs) (h : L2.atI ds i = some d) : ∃ v, L2.atI vs i = some v ∧ Rp T G al d v := by
  unfold L2.atI at h ⊢
  rw [r.length] at h
  cases e : ixN vs.length i with
  | none => rw [e] at h; cases h
  | some j =>
    rw [e] at h
    have h : ds[j]? = some d := h
    exact r.get h
theorem atI_map {α β : Type} (f : α → β) (xs : List α) (i : Int) : L2.atI (xs.map f) i = (L2.atI xs i).map f := by
  unfold L2.atI
  rw [List.length_map]
  cases ixN xs.length i with
  | none => rfl
  | some j => simp
theorem ixr_of {r : R2} (h : ∀ x y H Q, r x y H Q → ∃ r' : R2, IxR X r' ∧ r' x y H Q) : IxR X r :=
  fun value slice pins s σ H x y v u Q I rx ry hr => let ⟨_, o, q⟩ := h x y H Q hr; o value slice pins s σ H x y v u Q I rx ry q
theorem ix_oIx (t : Tied T n X) : IxR X (rD T oIx) := by
  refine ixr_of fun x y H Q ⟨G, al, c, dx, dy, d, c', hs, rx, ry, hg, q⟩ => ?_
  unfold oIx at hg
  split at hg
  case h_2 => cases hg
  case h_1 d1 e =>
    cases hg
    unfold ixD at e
    split at e
    case h_2 => cases e
    case h_1 i =>
      rw [ry.int_inv]
      split at e
      case h_1 ds e1 =>
        obtain ⟨a, vs, rfl, hv, rl⟩ := rx.lst' hs e1
        obtain ⟨w, hw, rw'⟩ := rl.atI e
        exact ⟨_, ix_list, a, vs, i, w, rfl, rfl, SqL.of hv, hw, q.now hs rw'⟩
      case h_2 ds e1 =>
        obtain ⟨a, vs, rfl, hv, rl⟩ := rx.seq' hs (by unfold seqOf; rw [e1])
        obtain ⟨w, hw, rw'⟩ := rl.atI e
        rw [← t.K] at hv
        rcases hv with hv | hv
        · exact ⟨_, ix_list, a, vs, i, w, rfl, rfl, hv, hw, q.now hs rw'⟩
        · exact ⟨_, ix_tup, a, vs, i, w, rfl, rfl, hv, hw, q.now hs rw'⟩
      case h_3 ns e1 =>
        have ex : dx = .scr ns := by
          cases dx with
          | cell k =>
            have e1 : c[k]? = some (.scr ns) := e1
            rcases rx with ry | ⟨a, o, e', _, _, hh, b⟩
            · cases ry with
              | box g b => cases b
              | cell ha =>
                obtain ⟨_, o, ho, b⟩ := hs.at_ k _ _ ha e1
                cases b
            · cases b
          | scr s => cases e1; rfl
          | _ => cases e1
        subst ex
        obtain ⟨a, rfl, hv⟩ := rx.scr_inv hs
        rw [← t.K] at hv
        obtain ⟨m, hm, rfl⟩ := Option.map_eq_some_iff.mp e
        exact ⟨_, ix_list, a, _, i, .int m, rfl, rfl, hv, by rw [atI_map, hm]; rfl, q.now hs (.int m)⟩
      case h_4 z e1 =>
        split at e
        case isFalse => cases e
        case isTrue hz =>
          have ex : dx = .str z := by
            cases dx with
            | cell k =>
              have e1 : c[k]? = some (.str z) := e1
              rcases rx with ry | ⟨a, o, e', _, _, hh, b⟩
              · cases ry with
                | box g b => cases b
                | cell ha =>
                  obtain ⟨_, o, ho, b⟩ := hs.at_ k _ _ ha e1
                  cases b
              · cases b
            | str s => cases e1; rfl
            | _ => cases e1
          subst ex
          rw [rx.str_inv]
          obtain ⟨m, hm, rfl⟩ := Option.map_eq_some_iff.mp e
          exact ⟨_, ix_str, z, i, m, rfl, rfl, Nat.le_trans hz lim_line, hm, q.now hs (.str _)⟩
      case h_5 => cases e
variable {pos p2 : Pos} {a b e : Expr} {lo hi : Option Expr} {fa fb fe : FE}
theorem tr_ix {g : F2} (ho : Tied T n X → IxR X (rD T g)) (ha : TrQ T n X a fa) (hb : TrQ T n X b fb) (hp : PlainIx b := by intro _ _; rfl) : TrE T n X (.Subscript a b pos) (fOp g fa fb) :=
  ⟨fun t G al c env σ H Q d c' hs he hf q => ofE (pe_ix (ho t) (peS a) (peS b) hp) (two t ha hb hs he hf fun G2 al2 c2 H2 x y v u l hs2 rx ry hg =>
    ⟨G2, al2, c2, x, y, d, c', hs2, rx, ry, hg, fun G' al' H' v' l' => q G' al' H' v' (l.trans l')⟩)⟩

/-! ### slices -/
abbrev FO := En → Cs → Option (Option Int × Cs)
structure TrO (T : Tb) (n : Nat) (X : Cx) (e : Option Expr) (f : FO) : Prop where
  run : Tied T n X → ∃ t, PO X e t ∧ ∀ (G : Hp) (al : List Addr) (c : Cs) (env : En) (σ : L2.St) (H : Hp) (Q : Option Int → Hp → Prop) (i : Option Int) (c' : Cs), HSt T G al c H → EOk T G al H env σ → f env c = some (i, c') →
    (∀ (G' : Hp) (al' : List Addr) (H' : Hp), Stp G al H G' al' H' → HSt T G' al' c' H' → Q i H') → t σ H Q
def oNone : FO := fun _ c => some (none, c)
def oSome (f : FE) : FO := fun env c => match f env c with | some (.int i, c1) => some (some i, c1) | _ => none
theorem to_none : TrO T n X none oNone := ⟨fun t => ⟨_, po_none, fun G al c env σ H Q i c' hs he hf q => by cases hf; exact q G al H (.refl _ _ _) hs⟩⟩
theorem to_some (h : TrE T n X e fe) : TrO T n X (some e) (oSome fe) := by
  refine ⟨fun t => ⟨_, po_some (peS e), fun G al c env σ H Q i c' hs he hf q => ?_⟩⟩
  unfold oSome at hf
  split at hf
  case h_2 => cases hf
  case h_1 j c1 e1 =>
    cases hf
    exact h.run t G al c env σ H _ _ _ hs he e1 fun G1 al1 H1 v l hs1 r => ⟨j, (Rq.int_inv (H := H1) (.inl r)), q G1 al1 H1 l hs1⟩
/-- the items from lo to hi -/
def cutD {α : Type} (xs : List α) (lo hi : Option Int) : List α := (xs.drop (HT.sIx xs.length 0 lo)).take (HT.sIx xs.length xs.length hi - HT.sIx xs.length 0 lo)
theorem RpL.cut {G : Hp} {al : List Addr} {ds : List D} {vs : List V} (r : RpL T G al ds vs) (lo hi : Option Int) : RpL T G al (cutD ds lo hi) (cutV vs lo hi) := by
  unfold cutD cutV
  rw [r.length]
  exact (r.drop _).take _
def fSl (f : FE) (fl fh : FO) : FE := fun env c => match f env c with
  | some (d, c1) => match fl env c1 with
    | some (lo, c2) => match fh env c2 with
      | some (hi, c3) => match d with
        | .lst ds => some (.lst (cutD ds lo hi), c3)
        | .tup ds => some (.tup (cutD ds lo hi), c3)
        | _ => none
      | none => none
    | none => none
  | none => none
theorem slr_of {r : V → Option Int → Option Int → Hp → VK → Prop} (h : ∀ x lo hi H Q, r x lo hi H Q → ∃ r' : V → Option Int → Option Int → Hp → VK → Prop, SlR X r' ∧ r' x lo hi H Q) : SlR X r :=
  fun pins s σ H x v vl vu lo hi sl Q I rx hs pl pu q => let ⟨_, o, q'⟩ := h x lo hi H Q q; o pins s σ H x v vl vu lo hi sl Q I rx hs pl pu q'
def rSlD (T : Tb) : V → Option Int → Option Int → Hp → VK → Prop := fun x lo hi H Q => ∃ (G : Hp) (al : List Addr) (c : Cs) (dx d : D), HSt T G al c H ∧ Rq T G al H dx x ∧
  (match dx with | .lst ds => some (D.lst (cutD ds lo hi)) | .tup ds => some (.tup (cutD ds lo hi)) | _ => none) = some d ∧ Aft T G al H d c Q
theorem sl_data (t : Tied T n X) : SlR X (rSlD T) := by
  refine slr_of fun x lo hi H Q ⟨G, al, c, dx, d, hs, rx, hg, q⟩ => ?_
  split at hg
  case h_1 ds =>
    cases hg
    obtain ⟨p, vs, rfl, h1, l1⟩ := rx.lst_inv hs
    exact ⟨_, sl_list, p, vs, rfl, SqL.of h1, fun p hp => q.new hs hp (.lst (l1.cut lo hi))⟩
  case h_2 ds =>
    cases hg
    have kx := rx.rp_tup
    obtain ⟨p, vs, rfl, h1, l1⟩ := rx.tup_inv hs
    rw [← t.K] at h1
    refine ⟨_, sl_tupF, p, vs, rfl, h1, fun ⟨h3, h4⟩ => ?_, fun _ p o hp ho => q.newT hs hp ho (l1.cut lo hi)⟩
    have e : cutD ds lo hi = ds := by
      unfold cutD
      rw [l1.length, h3, h4, List.drop_zero, Nat.sub_zero, ← l1.length, List.take_length]
    rw [e] at q
    exact q.now hs kx
  case h_3 => cases hg
theorem tr_sl {fl fh : FO} (h : TrQ T n X e fe) (hl : TrO T n X lo fl) (hh : TrO T n X hi fh) : TrE T n X (.Subscript e (.Slice lo hi none p2) pos) (fSl fe fl fh) := by
  refine ⟨fun t G al c env σ H Q d c' hs he hf q => ?_⟩
  obtain ⟨tl, pl, kl⟩ := hl.run t
  obtain ⟨th, ph, kh⟩ := hh.run t
  refine ofE (pe_slice (sl_data t) (peS e) pl ph) ?_
  unfold fSl at hf
  split at hf
  case h_2 => cases hf
  case h_1 dx c1 e1 =>
    split at hf
    case h_2 => cases hf
    case h_1 i c2 e2 =>
      split at hf
      case h_2 => cases hf
      case h_1 j c3 e3 =>
        refine h.run t G al c env σ H _ _ _ hs he e1 fun G1 al1 H1 v l1 hs1 r1 => ?_
        refine kl G1 al1 c1 env σ H1 _ _ _ hs1 (he.mono l1) e2 fun G2 al2 H2 l2 hs2 => ?_
        refine kh G2 al2 c2 env σ H2 _ _ _ hs2 ((he.mono l1).mono l2) e3 fun G3 al3 H3 l3 hs3 => ?_
        refine ⟨G3, al3, c3, dx, d, hs3, (r1.mono l2).mono l3, ?_, ?_⟩
        · split at hf <;> cases hf <;> rfl
        · have : c' = c3 := by split at hf <;> cases hf <;> rfl
          subst this
          exact fun G' al' H' v' l' => q G' al' H' v' (((l1.trans l2).trans l3).trans l')
end
end Pd
set_option Elab.async false
set_option linter.all false
set_option maxRecDepth 100000
/-! Pd8: isinstance; the special methods of one's own classes. -/
namespace Pd
open PySem PySem.Spec PyProof.Rows L2

/-! ### isinstance -/
def isaB (s t : String) : Bool := s == t || (s == "bool" && t == "int")
theorem kit_tab : (tyNames.all fun s => tyNames.all fun t => L2.kitB s t == some (isaB s t)) = true := by decide +kernel
/-- the built-in type of a datum, or its class -/
def kindD : D → Option (String ⊕ Nat)
  | .non => some (.inl "NoneType")
  | .bl _ => some (.inl "bool")
  | .int _ => some (.inl "int")
  | .str _ => some (.inl "str")
  | .lst _ => some (.inl "list")
  | .tup _ => some (.inl "tuple")
  | .scr _ => some (.inl "list")
  | .obj k _ => some (.inr k)
  | _ => none
/-- what isinstance asks of a class of one's own -/
structure Obc (K : PySem.W.Frag) (C : Addr) : Prop where
  cls : Cls K C
  ha : PySem.W.findIn K (.ref C) "__class__" = some (some (.builtin "object.__class__"))
  hn : PySem.W.specialIn K (.builtin "object.__class__") "__get__" = some (some (.builtin "getset_descriptor.__get__"))
  htk : PySem.W.takesIn K (.builtin "object.__class__") = some true
  hm : PySem.W.mroIn K C (.type "object") = some true
/-- the class that a name stands for, as isinstance's second argument: its answers -/
structure Isi (T : Tb) (nm : Str) (tb : String → Bool) (tc : Nat → Option Bool) : Prop where
  ex : ∃ (u : V) (w : Value), ClsV u w ∧ RelV u w ∧ ((T.mg nm = none ∧ bootBuiltins nm = some w ∧ nm ≠ "__name__") ∨ T.mg nm = some w) ∧
    (∀ s ∈ tyNames, PySem.W.kitOne T.K (.type s) w = some (tb s)) ∧ ∀ k b, tc k = some b → PySem.W.kitOne T.K (.ref (T.cl k)) w = some b ∧ Obc T.K (T.cl k)
theorem Isi.bt {T : Tb} {nm : Str} {t : String} {tc : Nat → Option Bool} (hm : T.mg nm = none) (hv : bootBuiltins nm = some (.type t)) (hn : nm ≠ "__name__") (ht : t ∈ tyNames) (hc : ∀ k b, tc k = some b → PySem.W.kitOne T.K (.ref (T.cl k)) (.type t) = some b ∧ Obc T.K (T.cl k)) :
    Isi T nm (fun s => isaB s t) tc :=
  ⟨.ty t, .type t, .ty t, rfl, .inl ⟨hm, hv, hn⟩, fun s hs => by
    have h := List.all_eq_true.mp (List.all_eq_true.mp kit_tab s hs) t ht
    exact kit_ty (by simpa using h), hc⟩
def isiD (tb : String → Bool) (tc : Nat → Option Bool) (c : Cs) (d : D) : Option Bool := match deref c d with
  | some e => match kindD e with
    | some (.inl s) => some (tb s)
    | some (.inr k) => tc k
    | none => none
  | none => none
def fIsi (tb : String → Bool) (tc : Nat → Option Bool) (f : FE) : FE := fun env c => match f env c with
  | some (d, c1) => match isiD tb tc c1 d with
    | some b => some (.bl b, c1)
    | none => none
  | none => none
section
variable {T : Tb} {n : Nat} {X : Cx} {pos p p2 : Pos} {e e2 : Expr} {es : List Expr} {fe fa fb : FE}
theorem sqT_ty {K : PySem.W.Frag} {H : Hp} {a : Addr} {vs : List V} (h : SqT K H a vs) : TyX K H (.ref a) (.type "tuple") := by
  rcases h with (h | ⟨o, h⟩) | ⟨o, its, m, h, hc, _⟩
  · exact .base (.tup h)
  · exact .fTuple h
  · exact .kTuple h hc
theorem sqL_ty {K : PySem.W.Frag} {H : Hp} {a : Addr} {vs : List V} (h : SqL K H a vs) : TyX K H (.ref a) (.type "list") := by
  rcases h with (h | ⟨o, h⟩) | ⟨o, its, m, h, hc, _⟩
  · exact .base (.lst h)
  · exact .base (.frz h)
  · exact .kList h hc
/-- a datum's type in the heap -/
theorem Rq.ty {G H : Hp} {al : List Addr} {c : Cs} {d e : D} {v : V} (hs : HSt T G al c H) (r : Rq T G al H d v) (hd : deref c d = some e) :
    (∀ s, kindD e = some (.inl s) → TyX T.K H v (.type s) ∧ s ∈ tyNames) ∧ ∀ k, kindD e = some (.inr k) → Obc T.K (T.cl k) → TyX T.K H v (.ref (T.cl k)) := by
  have key : ∀ {a : Addr} {o : HO}, H a = some o → Bx T G al a o e → (∀ s, kindD e = some (.inl s) → TyX T.K H (.ref a) (.type s) ∧ s ∈ tyNames) ∧ ∀ k, kindD e = some (.inr k) → Obc T.K (T.cl k) → TyX T.K H (.ref a) (.ref (T.cl k)) := by
    intro a o ho b
    cases b with
    | lst r => exact ⟨fun s h => by cases h; exact ⟨.base (.lst ho), by simp [tyNames]⟩, fun k h => by cases h⟩
    | dK _ _ => exact ⟨fun s h => (by cases h), fun k h => by cases h⟩
    | dN _ _ _ _ _ _ _ => exact ⟨fun s h => (by cases h), fun k h => by cases h⟩
    | obj r hl => exact ⟨fun s h => (by cases h), fun k h ob => by cases h; exact .base (.ins ho ob.cls ob.ha ob.hn ob.htk ob.hm)⟩
  cases d with
  | cell j =>
    have hd : c[j]? = some e := hd
    rcases r with r | ⟨a, o, e', _, _, hh, b⟩
    · cases r with
      | box g b => cases b
      | cell ha =>
        obtain ⟨_, o, ho, b⟩ := hs.at_ j _ _ ha hd
        exact key ho b
    · cases b
  | non => cases hd; rw [r.non_inv]; exact ⟨fun s h => by cases h; exact ⟨.base .non, by simp [tyNames]⟩, fun k h => by cases h⟩
  | bl b => cases hd; rw [r.bl_inv]; exact ⟨fun s h => by cases h; exact ⟨.base (.bl b), by simp [tyNames]⟩, fun k h => by cases h⟩
  | int b => cases hd; rw [r.int_inv]; exact ⟨fun s h => by cases h; exact ⟨.base (.int b), by simp [tyNames]⟩, fun k h => by cases h⟩
  | str b => cases hd; rw [r.str_inv]; exact ⟨fun s h => by cases h; exact ⟨.base (.str b), by simp [tyNames]⟩, fun k h => by cases h⟩
  | tup ds =>
    cases hd
    obtain ⟨a, vs, rfl, h1, _⟩ := r.tup_inv hs
    exact ⟨fun s h => by cases h; exact ⟨sqT_ty h1, by simp [tyNames]⟩, fun k h => by cases h⟩
  | scr ns =>
    cases hd
    obtain ⟨a, rfl, h1⟩ := r.scr_inv hs
    exact ⟨fun s h => by cases h; exact ⟨sqL_ty h1, by simp [tyNames]⟩, fun k h => by cases h⟩
  | cls k => cases hd; exact ⟨fun s h => (by cases h), fun k h => by cases h⟩
  | lst ds =>
    cases hd
    rcases r with r | ⟨a, o, e', _, _, hh, b⟩
    · cases r with
      | box g b => exact key (hs.ex _ _ g) b
    · subst e'; exact key hh b
  | dic ks ds => cases hd; exact ⟨fun s h => (by cases h), fun k h => by cases h⟩
  | obj k ds =>
    cases hd
    rcases r with r | ⟨a, o, e', _, _, hh, b⟩
    · cases r with
      | box g b => exact key (hs.ex _ _ g) b
    · subst e'; exact key hh b
theorem boot_isinstance : bootBuiltins "isinstance" = some (.builtin "isinstance") := by decide +kernel
theorem tr_isi {nm : Str} {tb : String → Bool} {tc : Nat → Option Bool} (I : Isi T nm tb tc) (h : TrQ T n X e fe) (hm : X.mg "isinstance" = none) (hg : Gl X "isinstance" := by rfl) (hg2 : Gl X nm := by rfl) (hd : (nm == ("__debug__" : Str)) = false := by decide)
    (hst : starEach [e, .Name nm p2] X.env = (false, eval e X.env) :: starEach [.Name nm p2] X.env := by rfl) (hpl : (backTo pos (starEach [.Name nm p2] X.env)).any (·.1) = false := by rfl) (hst2 : starEach [.Name nm p2] X.env = (false, eval (.Name nm p2) X.env) :: starEach [] X.env := by rfl) :
    TrE T n X (.Call (.Name "isinstance" p) [e, .Name nm p2] [] pos) (fIsi tb tc fe) := by
  obtain ⟨u, w, cv, rv, hn, kb, kc⟩ := I.ex
  refine ⟨fun t G al c env σ H Q d c' hs he hf q => ?_⟩
  have hn' : PE X (.Name nm p2) (tC u) := by
    rcases hn with ⟨h1, h2, h3⟩ | h1
    · exact pe_bltn hg2 (by rw [t.mg]; exact h1) h2 rv h3 hd
    · exact pe_glob hg2 (by rw [t.mg]; exact h1) rv hd
  refine ofE (pe_callB call_isi hg hm boot_isinstance (pa_cons (peS e) (pa_cons hn' pa_nil hst2) hst) (he := hst) (hpl := hpl)) ?_
  unfold fIsi at hf
  split at hf
  case h_2 => cases hf
  case h_1 d1 c1 e1 =>
    split at hf
    case h_2 => cases hf
    case h_1 b e2 =>
      cases hf
      refine h.run t G al c env σ H _ _ _ hs he e1 fun G1 al1 H1 v l1 hs1 r1 => ?_
      unfold isiD at e2
      split at e2
      case h_2 => cases e2
      case h_1 d2 e3 =>
        obtain ⟨k1, k2⟩ := r1.ty hs1 e3
        split at e2
        case h_1 s e4 =>
          cases e2
          obtain ⟨ty, hm⟩ := k1 s e4
          exact ⟨v, u, _, w, tb s, rfl, cv, by rw [t.K]; exact ty, by rw [t.K]; exact kb s hm, q G1 al1 H1 _ l1 hs1 (.bl _)⟩
        case h_2 k e4 =>
          obtain ⟨h1, h2⟩ := kc k b e2
          exact ⟨v, u, _, w, b, rfl, cv, by rw [t.K]; exact k2 k e4 h2, by rw [t.K]; exact h1, q G1 al1 H1 _ l1 hs1 (.bl _)⟩
        case h_3 => cases e2

/-! ### special methods of one's own classes -/
/-- the class j's method x (a dunder name) does m -/
structure Dun (T : Tb) (k : Nat) (j : Nat) (x : Str) (ps : List Str) (m : FC) : Prop where
  ex : ∃ f fd, FnAt T k f fd ps m ∧ PySem.W.findIn T.K (.ref (T.cl j)) x = some (some (.ref f)) ∧ PySem.W.isFn T.K (.ref f) = true ∧ PySem.W.fnIn T.K f = true
abbrev Ms := Nat → Option FC
/-- the table's methods are there, k deep at most -/
def Duns (T : Tb) (k : Nat) (x : Str) (ms : Ms) : Prop := ∀ j m, ms j = some m → ∃ ps, Dun T k j x ps m
theorem Dun.mono {k k' j : Nat} {x : Str} {ps : List Str} {m : FC} (h : Dun T k j x ps m) (l : k ≤ k') : Dun T k' j x ps m :=
  let ⟨f, fd, A, r⟩ := h.ex; ⟨f, fd, A.mono l, r⟩
/-- a def's call at A -/
theorem FnAt.call {k : Nat} {f : Addr} {fd : FuncData} {ps : List Str} {m : FC} (F : FnAt T k f fd ps m) (t : Tied T n X) {A : Around} (hr : Room k A) (ha : ∀ (s : Shared) (H : Hp), Env0 X.prog X.w X.K X.mg X.base X.A X.stack s H → Env0 X.prog X.w X.K X.mg X.base A X.stack s H)
    {pins : List (Addr × Obj)} {s : Shared} {σ : L2.St} {H : Hp} (I : Inv X pins σ H s) {G : Hp} {al : List Addr} {c : Cs} {ds : List D} {vs : List V} {us : List Value} {d : D} {c' : Cs} {Q : VK} (hs : HSt T G al c H) (r : RpL T G al ds vs) (rv : Vals vs us)
    (hm : m ds c = some (d, c')) (q : Aft T G al H d c' Q) : wpAny (model X.prog X.w) A (call (.ref f) us) (EP X pins σ Q) X.xe s := by
  have hsp : SpS T ps.length m vs H Q E0 := F.sp hs r hm q
  have Fo := t.fn F.ok
  have hl : us.length = ps.length := by rw [← rv.length]; exact Fo.len _ _ _ _ hsp
  refine wpAny_call (codeAny_mono (Fo.run A X.stack s H ⟨us, []⟩ us vs Q E0 hr (ha s H I.env0) (by
    have := F.b s us (by rw [← t.K]; exact I.kIn) (by simpa using hl)
    simpa using this) rv hsp) fun r s' hq => ?_)
  cases r with
  | error e => exact (pass0 (X := X)) pins σ H s e s' I hq
  | ok fl =>
    cases fl with
    | ret u => exact I.after hq
    | next => exact False.elim hq
    | brk => exact False.elim hq
    | cont => exact False.elim hq
/-- an instance's object -/
theorem obj_at {pins : List (Addr × Obj)} {s : Shared} {σ : L2.St} {H : Hp} (I : Inv X pins σ H s) {a C dx : Addr} {fs : List (Str × V)} (h : H a = some (.ins C dx fs)) : ∃ ox od, PySem.W.InstAt s.heap a ox C od ∧ ox.data = .plain := by
  obtain ⟨mA, O, _⟩ := ins_get I.hok h
  obtain ⟨od, J, _⟩ := O.look
  exact ⟨_, _, J, rfl⟩
theorem Rp.ins' {G H : Hp} {al : List Addr} {c : Cs} {k : Nat} {d : D} {ds : List D} {v : V} (hs : HSt T G al c H) (h : Rp T G al d v) (hd : deref c d = some (.obj k ds)) : ∃ a dx fs, v = .ref a ∧ H a = some (.ins (T.cl k) dx fs) := by
  obtain ⟨a, dx, vs, e1, e2, _⟩ := Rq.ins' hs (.inl h) hd
  exact ⟨a, dx, _, e1, e2⟩

/-! ### len -/
def lenD (c : Cs) (d : D) : Option Int := match deref c d with
  | some (.lst ds) => some (ds.length : Nat)
  | some (.tup ds) => some (ds.length : Nat)
  | some (.scr ns) => some (ns.length : Nat)
  | some (.str z) => if z.length ≤ lim then some (z.length : Nat) else none
  | _ => none
def oLen (ms : Ms) (c : Cs) (d : D) : Option (D × Cs) := match deref c d with
  | some (.obj j _) => match ms j with
    | some m => match m [d] c with
      | some (.int i, c') => if (decide (0 ≤ i) && small62 i) = true then some (.int i, c') else none
      | _ => none
    | none => none
  | _ => match lenD c d with
    | some i => some (.int i, c)
    | none => none
def fLenQ (f : FE) : FE := fun env c => match f env c with
  | some (d, c1) => match lenD c1 d with
    | some i => some (.int i, c1)
    | none => none
  | none => none
def fLen (ms : Ms) (f : FE) : FE := fun env c => match f env c with
  | some (d, c1) => oLen ms c1 d
  | none => none
theorem boot_len : bootBuiltins "len" = some (.builtin "len") := by decide +kernel
theorem Rq.cellEq {G H : Hp} {al : List Addr} {c : Cs} {d e : D} {v : V} (hs : HSt T G al c H) (r : Rq T G al H d v) (hd : deref c d = some e) (he : (∀ ds, e ≠ .lst ds) ∧ (∀ k vs, e ≠ .dic k vs) ∧ ∀ k ds, e ≠ .obj k ds) : d = e := by
  cases d with
  | cell j =>
    have hd : c[j]? = some e := hd
    rcases r with r | ⟨a, o, e', _, _, hh, b⟩
    · cases r with
      | box g b => cases b
      | cell ha =>
        obtain ⟨_, o, ho, b⟩ := hs.at_ j _ _ ha hd
        cases b with
        | lst _ => exact absurd rfl (he.1 _)
        | dK _ _ => exact absurd rfl (he.2.1 _ _)
        | dN _ _ _ _ _ _ _ => exact absurd rfl (he.2.1 _ _)
        | obj _ _ => exact absurd rfl (he.2.2 _ _)
    · cases b
  | _ => cases hd; rfl
theorem len_data (t : Tied T n X) {G H : Hp} {al : List Addr} {c : Cs} {d : D} {i : Int} {v : V} (hs : HSt T G al c H) (r : Rq T G al H d v) (h : lenD c d = some i) : ∃ k : Nat, i = k ∧ LenV X.K v H k := by
  unfold lenD at h
  split at h
  case h_1 ds e1 =>
    cases h
    obtain ⟨a, vs, rfl, hv, rl⟩ := r.lst' hs e1
    exact ⟨_, rfl, .inl ⟨vs, SqL.of hv, rl.length⟩⟩
  case h_2 ds e1 =>
    cases h
    obtain ⟨a, vs, rfl, hv, rl⟩ := r.seq' hs (by unfold seqOf; rw [e1])
    rw [← t.K] at hv
    rcases hv with hv | hv
    · exact ⟨_, rfl, .inl ⟨vs, hv, rl.length⟩⟩
    · exact ⟨_, rfl, .inr ⟨vs, hv, rl.length⟩⟩
  case h_3 ns e1 =>
    cases h
    have := r.cellEq hs e1 ⟨fun _ z => (by cases z), fun _ _ z => (by cases z), fun _ _ z => by cases z⟩
    subst this
    obtain ⟨a, rfl, hv⟩ := r.scr_inv hs
    rw [← t.K] at hv
    exact ⟨_, rfl, .inl ⟨_, hv, by rw [List.length_map]⟩⟩
  case h_4 z e1 =>
    split at h
    case isFalse => cases h
    case isTrue hz =>
      cases h
      have := r.cellEq hs e1 ⟨fun _ z => (by cases z), fun _ _ z => (by cases z), fun _ _ z => by cases z⟩
      subst this
      rw [r.str_inv]
      exact ⟨_, rfl, Nat.le_trans hz lim_line, rfl⟩
  case h_5 => cases h
theorem tr_lenQ (h : TrQ T n X e fe) (hm : X.mg "len" = none) (hg : Gl X "len" := by rfl) (hst : starEach [e] X.env = (false, eval e X.env) :: starEach [] X.env := by rfl) (hpl : (backTo pos (starEach [] X.env)).any (·.1) = false := by rfl) : TrE T n X (.Call (.Name "len" p) [e] [] pos) (fLenQ fe) := by
  refine ⟨fun t G al c env σ H Q d c' hs he hf q => ?_⟩
  refine ofE (pe_callB call_len hg hm boot_len (pa_cons (peS e) pa_nil hst) (he := hst) (hpl := hpl)) ?_
  unfold fLenQ at hf
  split at hf
  case h_2 => cases hf
  case h_1 d1 c1 e1 =>
    split at hf
    case h_2 => cases hf
    case h_1 i e2 =>
      cases hf
      refine h.run t G al c env σ H _ _ _ hs he e1 fun G1 al1 H1 v l1 hs1 r1 => ?_
      obtain ⟨k, rfl, hk⟩ := len_data t hs1 r1 e2
      exact ⟨v, k, rfl, hk, q G1 al1 H1 _ l1 hs1 (.int _)⟩
theorem callr_len {k : Nat} {ms : Ms} (D0 : Duns T k "__len__" ms) (hk : k + 1 ≤ n) (t : Tied T n X) : CallR X (.builtin "len") (fun xs H Q => ∃ (G : Hp) (al : List Addr) (c : Cs) (d0 d : D) (c' : Cs) (v : V), xs = [v] ∧ HSt T G al c H ∧ Rp T G al d0 v ∧ oLen ms c d0 = some (d, c') ∧ Aft T G al H d c' Q) := by
  intro pins s σ H xs us Q I rv h
  obtain ⟨G, al, c, d0, d, c', v, rfl, hs, r, hf, q⟩ := h
  unfold oLen at hf
  split at hf
  case h_1 j ds e1 =>
    split at hf
    case h_2 => cases hf
    case h_1 m e2 =>
      split at hf
      case h_2 => cases hf
      case h_1 i c1 e3 =>
        split at hf
        case isFalse => cases hf
        case isTrue hi =>
          cases hf
          obtain ⟨ps, f, fd, F, h1, h2, h3⟩ := D0 j m e2
          obtain ⟨a, dx, fs, rfl, ha⟩ := r.ins' hs e1
          rw [Vals.ref1 rv]
          obtain ⟨ox, od, J, _⟩ := obj_at I ha
          obtain ⟨_, hF⟩ := I.fr
          refine PySem.W.len_K hF I.ok.mod.kin J (by rw [t.K]; exact h1) (by rw [t.K]; exact h2) ?_
          have ro : Room k X.A.in1 := (t.room.mono hk).in1
          refine wpAny_mono (F.call t ro (fun _ _ z => z.in1) I hs (.cons r .nil) (.cons rfl .nil) e3 (Q := fun v H' => ∃ G' al', Stp G al H G' al' H' ∧ HSt T G' al' c' H' ∧ v = .int i) fun G' al' H' v l hs' r' => ⟨G', al', l, hs', Rq.int_inv (H := H') (.inl r')⟩) (fun u s' hq => ?_) fun _ _ z => z
          obtain ⟨w, H', I', rw', G', al', l, hs', rfl⟩ := hq
          obtain ⟨tk, rfl⟩ := rw'
          obtain ⟨h5, h6⟩ := Bool.and_eq_true_iff.mp hi
          obtain ⟨h7, h8⟩ := small62_ok h6
          exact ⟨⟨of_decide_eq_true h5, by omega⟩, .int i, H', I'.tok _, ⟨_, rfl⟩, q G' al' H' _ l hs' (.int i)⟩
  case h_2 =>
    split at hf
    case h_2 => cases hf
    case h_1 i e2 =>
      cases hf
      obtain ⟨k, rfl, hk⟩ := len_data t hs (.inl r) e2
      exact call_len pins s σ H _ us Q I rv ⟨v, k, rfl, hk, q.now hs (.int _)⟩
theorem tr_len {k : Nat} {ms : Ms} (D0 : Duns T k "__len__" ms) (h : TrE T n X e fe) (hm : X.mg "len" = none) (hk : k + 1 ≤ n := by decide) (hg : Gl X "len" := by rfl) (hst : starEach [e] X.env = (false, eval e X.env) :: starEach [] X.env := by rfl) (hpl : (backTo pos (starEach [] X.env)).any (·.1) = false := by rfl) :
    TrE T n X (.Call (.Name "len" p) [e] [] pos) (fLen ms fe) := by
  refine ⟨fun t G al c env σ H Q d c' hs he hf q => ?_⟩
  refine ofE (pe_callB (callr_len D0 hk t) hg hm boot_len (pa_cons (peS e) pa_nil hst) (he := hst) (hpl := hpl)) ?_
  unfold fLen at hf
  split at hf
  case h_2 => cases hf
  case h_1 d1 c1 e1 =>
    refine h.run t G al c env σ H _ _ _ hs he e1 fun G1 al1 H1 v l1 hs1 r1 => ?_
    exact ⟨G1, al1, c1, d1, d, c', v, rfl, hs1, r1, hf, fun G' al' H' v' l' => q G' al' H' v' (l1.trans l')⟩

/-! ### operators with special methods: the operands are data or cells -/
def rP (T : Tb) (g : F2) : R2 := fun x y H Q => ∃ (G : Hp) (al : List Addr) (c : Cs) (dx dy d : D) (c' : Cs), HSt T G al c H ∧ Rp T G al dx x ∧ Rp T G al dy y ∧ g dx dy c = some (d, c') ∧ Aft T G al H d c' Q
theorem twoP {R : V → V → Hp → Prop} {a b : Expr} {G : Hp} {al : List Addr} {c : Cs} {env : En} {σ : L2.St} {H : Hp} {r : D × Cs} {g : F2} (t : Tied T n X) (ha : TrE T n X a fa) (hb : TrE T n X b fb) (hs : HSt T G al c H) (he : EOk T G al H env σ) (hf : fOp g fa fb env c = some r)
    (k : ∀ (G2 : Hp) (al2 : List Addr) (c2 : Cs) (H2 : Hp) (x y : D) (v u : V), Stp G al H G2 al2 H2 → HSt T G2 al2 c2 H2 → Rp T G2 al2 x v → Rp T G2 al2 y u → g x y c2 = some r → R v u H2) :
    SemE X a σ H fun v H1 => SemE X b σ H1 fun u H2 => R v u H2 := by
  unfold fOp at hf
  split at hf
  case h_2 => cases hf
  case h_1 x c1 e1 =>
    split at hf
    case h_2 => cases hf
    case h_1 y c2 e2 =>
      refine ha.run t G al c env σ H _ x c1 hs he e1 fun G1 al1 H1 v l1 hs1 r1 => ?_
      exact hb.run t G1 al1 c1 env σ H1 _ y c2 hs1 (he.mono l1) e2 fun G2 al2 H2 u l2 hs2 r2 => k G2 al2 c2 H2 x y v u (l1.trans l2) hs2 (r1.mono l2.le) r2 hf
theorem tr_cmpP {a b : Expr} {op : CmpOp} {g : F2} (ho : Tied T n X → OpR X (compareOp op) (rP T g)) (ha : TrE T n X a fa) (hb : TrE T n X b fb) (hm : behindInMarks op b = false := by first | exact nomark _ | rfl) : TrE T n X (.Compare a [op] [b] pos) (fOp g fa fb) :=
  ⟨fun t G al c env σ H Q d c' hs he hf q => ofE (pe_cmpR (ho t) (peS a) (peS b) hm) (twoP t ha hb hs he hf fun G2 al2 c2 H2 x y v u l hs2 rx ry hg =>
    ⟨G2, al2, c2, x, y, d, c', hs2, rx, ry, hg, fun G' al' H' v' l' => q G' al' H' v' (l.trans l')⟩)⟩
theorem tr_opP {a b : Expr} {op : Operator} {g : F2} (ho : Tied T n X → OpR X (binaryOp op) (rP T g)) (ha : TrE T n X a fa) (hb : TrE T n X b fb) : TrE T n X (.BinOp a op b pos) (fOp g fa fb) :=
  ⟨fun t G al c env σ H Q d c' hs he hf q => ofE (pe_op (ho t) (peS a) (peS b)) (twoP t ha hb hs he hf fun G2 al2 c2 H2 x y v u l hs2 rx ry hg =>
    ⟨G2, al2, c2, x, y, d, c', hs2, rx, ry, hg, fun G' al' H' v' l' => q G' al' H' v' (l.trans l')⟩)⟩
/-- what stands as an index of a plain subscript of one's own classes -/
def PlainIx2 (b : Expr) : Prop := ∀ o i, subscripted b true o i = runValue (.builtin "lifetime.subscript" ⟨[o, i], []⟩)
def IxR2 (X : Cx) (r : R2) : Prop :=
  ∀ (value slice : Expr) (pins : List (Addr × Obj)) (s : Shared) (σ : L2.St) (H : Hp) (x y : V) (v u : Value) (Q : VK), Inv X pins σ H s → RelV x v → RelV y u → r x y H Q →
    PlainIx slice → PlainIx2 slice → wpAny (model X.prog X.w) X.A (subscriptTail value slice v u) (EP X pins σ Q) X.xe s
theorem pe_ix2 {a b : Expr} {ta tb : TE} {r : R2} (hr : IxR2 X r) (ha : PE X a ta) (hb : PE X b tb) (hs : PlainIx b) (hs2 : PlainIx2 b) : PE X (.Subscript a b pos) (tOp r ta tb) :=
  ⟨fun pins s σ H Q I h => Subscript_ (binT ha hb I h fun v u s2 x y H2 I2 rx ry q => hr a b pins s2 σ H2 x y v u Q I2 rx ry q hs hs2)⟩
theorem tr_ixP {a b : Expr} {g : F2} (ho : Tied T n X → IxR2 X (rP T g)) (ha : TrE T n X a fa) (hb : TrE T n X b fb) (hp : PlainIx b := by intro _ _; rfl) (hp2 : PlainIx2 b := by intro _ _; with_unfolding_all rfl) : TrE T n X (.Subscript a b pos) (fOp g fa fb) :=
  ⟨fun t G al c env σ H Q d c' hs he hf q => ofE (pe_ix2 (ho t) (peS a) (peS b) hp hp2) (twoP t ha hb hs he hf fun G2 al2 c2 H2 x y v u l hs2 rx ry hg =>
    ⟨G2, al2, c2, x, y, d, c', hs2, rx, ry, hg, fun G' al' H' v' l' => q G' al' H' v' (l.trans l')⟩)⟩
/-- x in y: y an instance, or data -/
def oInM (ms : Ms) (neg : Bool) : F2 := fun x y c => match deref c y with
  | some (.obj j _) => match ms j with
    | some m => match m [y, x] c with
      | some (.bl b, c') => some (.bl (if neg = true then !b else b), c')
      | _ => none
    | none => none
  | _ => match inD c x y with
    | some b => some (.bl (if neg = true then !b else b), c)
    | none => none
theorem op_oInM {k : Nat} {ms : Ms} (D0 : Duns T k "__contains__" ms) (hk : k ≤ n) (neg : Bool) (t : Tied T n X) : OpR X (compareOp (if neg = true then .NotIn else .In)) (rP T (oInM ms neg)) := by
  intro pins s σ H x y v u Q I rx' ry' h
  obtain ⟨G, al, c, dx, dy, d, c', hs, rx, ry, hf, q⟩ := h
  unfold oInM at hf
  split at hf
  case h_1 j ds e1 =>
    split at hf
    case h_2 => cases hf
    case h_1 m e2 =>
      split at hf
      case h_2 => cases hf
      case h_1 b c1 e3 =>
        cases hf
        obtain ⟨ps, f, fd, F, h1, h2, h3⟩ := D0 j m e2
        obtain ⟨a, dx', fs, rfl, ha⟩ := ry.ins' hs e1
        obtain rfl : u = .ref a := ry'
        obtain ⟨ox, od, J, _⟩ := obj_at I ha
        obtain ⟨_, hF⟩ := I.fr
        have ro : Room k X.A := t.room.mono hk
        have cal := F.call t ro (fun _ _ z => z) I hs (.cons ry (.cons rx .nil)) (.cons rfl (.cons rx' .nil)) e3 (Q := fun v H' => ∃ G' al', Stp G al H G' al' H' ∧ HSt T G' al' c' H' ∧ v = .bl b) fun G' al' H' v l hs' r' => ⟨G', al', l, hs', r'.bl_inv⟩
        cases neg with
        | false =>
          refine PySem.W.in_K hF I.ok.mod.kin J (by rw [t.K]; exact h1) (by rw [t.K]; exact h2) (wpAny_mono cal (fun u s' hq => ?_) fun _ _ z => z)
          obtain ⟨w, H', I', rw', G', al', l, hs', rfl⟩ := hq
          obtain rfl : u = .bool b := rw'
          exact wpAny_truthy_bool ⟨.bl b, H', I', rfl, q G' al' H' _ l hs' (.bl b)⟩
        | true =>
          refine PySem.W.notIn_K hF I.ok.mod.kin J (by rw [t.K]; exact h1) (by rw [t.K]; exact h2) (wpAny_mono cal (fun u s' hq => ?_) fun _ _ z => z)
          obtain ⟨w, H', I', rw', G', al', l, hs', rfl⟩ := hq
          obtain rfl : u = .bool b := rw'
          exact wpAny_truthy_bool ⟨.bl (!b), H', I', rfl, q G' al' H' _ l hs' (.bl (!b))⟩
  case h_2 =>
    split at hf
    case h_2 => cases hf
    case h_1 b e2 =>
      cases hf
      obtain ⟨r', o, z⟩ := op_inD (Q := Q) t neg hs (.inl rx) (.inl ry) e2 (q.now hs (.bl _))
      exact o pins s σ H x y v u Q I rx' ry' z
/-- x[y]: x an instance, or data -/
def oIxM (ms : Ms) : F2 := fun x y c => match deref c x with
  | some (.obj j _) => match ms j with
    | some m => m [x, y] c
    | none => none
  | _ => oIx x y c
theorem ix_oIxM {k : Nat} {ms : Ms} (D0 : Duns T k "__getitem__" ms) (hk : k + 1 ≤ n) (t : Tied T n X) : IxR2 X (rP T (oIxM ms)) := by
  intro value slice pins s σ H x y v u Q I rx' ry' h hsub hsub2
  obtain ⟨G, al, c, dx, dy, d, c', hs, rx, ry, hf, q⟩ := h
  unfold oIxM at hf
  split at hf
  case h_1 j ds e1 =>
    split at hf
    case h_2 => cases hf
    case h_1 m e2 =>
      obtain ⟨ps, f, fd, F, h1, h2, h3⟩ := D0 j m e2
      obtain ⟨a, dx', fs, rfl, ha⟩ := rx.ins' hs e1
      obtain rfl : v = .ref a := rx'
      obtain ⟨ox, od, J, _⟩ := obj_at I ha
      obtain ⟨_, hF⟩ := I.fr
      have ro : Room k X.A.in1 := (t.room.mono hk).in1
      exact PySem.W.sub_K hF I.ok.mod.kin J (by rw [t.K]; exact h1) (by rw [t.K]; exact h3) (by rw [t.K]; exact h2) (F.call t ro (fun _ _ z => z.in1) I hs (.cons rx (.cons ry .nil)) (.cons rfl (.cons ry' .nil)) hf q) (hsub2 _ _)
  case h_2 => exact ix_oIx t value slice pins s σ H x y v u Q I rx' ry' ⟨G, al, c, dx, dy, d, c', hs, .inl rx, .inl ry, hf, q⟩ (hsub _ _)
end
end Pd
set_option Elab.async false
set_option linter.all false
set_option maxRecDepth 100000
/-! Pd9: == and != with one's own __eq__; the call of an instance. -/
namespace Pd
open PySem PySem.Spec PyProof.Rows L2

/-! ### a built-in special method of one's own class -/
section
variable {M : Model} {A : Around} {E : Value → Shared → Prop} {s : Shared} {K : PySem.W.Frag} {x C f : Addr} {ox : Obj} {od : Option Obj}
theorem ifBound_B {tn id : String} {name : Str} {args : List Value} {Q : Option Value → Shared → Prop} (X : K.In s.heap) (I : PySem.W.InstAt s.heap x ox C od) (S : PySem.Slot tn name id) (hs : PySem.W.findIn K (.ref C) name = some (some (.builtin id)))
    (h : wpAny M A (call (.builtin id) (.ref x :: args)) (fun v => Q (some v)) E s) : wpAny M A (callSpecialIfBound? (.ref x) name args) Q E s := by
  simp only [callSpecialIfBound?, bindSpecialIfBound?]
  refine wpAny_holding (wpAny_bind (wpAny_bind (wpAny_bind (I.type.here ((PySem.W.looks_findIn X hs).here ?_)))))
  refine wpAny_bind (wpAny_askSetting (wpAny_ite ?_))
  rw [S.bind]
  have fin : wpAny M A (call (.builtin id) ([.ref x] ++ args) >>= fun v => pure (some v)) Q E s := wpAny_bind (wpAny_mono h (fun v s' h' => wpAny_pure h') fun _ _ h' => h')
  split
  · exact wpAny_bind (wpAny_pure (wpAny_pure fin))
  · exact wpAny_tryCatch (wpAny_bind (wpAny_pure (wpAny_pure fin)))
end
theorem slot_obj_ne : PySem.Slot "object" "__ne__" "object.__ne__" := PySem.F.cmp_object.ne
section
variable {prog : Program} {w : World} {A : Around} {E : Value → Shared → Prop} {s : Shared} {K : PySem.W.Frag} {x y C L f : Addr} {h₀ : Heap} {m : Str → Option Value} {ox : Obj} {od : Option Obj} {tb : Value}
/-- a != b by one's own __eq__ that answers a bool -/
theorem ne_K {Q : Value → Shared → Prop} (hu : A.units + 1 < cLine) (F : Fr h₀ L s.heap m) (X₀ : K.In h₀) (I : PySem.W.InstAt s.heap x ox C od) (hb : PySem.W.Looks (model prog w) s.heap (typeOf (.ref y)) tb) (hn : PySem.W.notFirst K C tb = true)
    (hne : PySem.W.findIn K (.ref C) "__ne__" = some (some (.builtin "object.__ne__"))) (ho : PySem.W.subIn K (.ref C) (.type "object") = some true)
    (hs : PySem.W.findIn K (.ref C) "__eq__" = some (some (.ref f))) (hf : PySem.W.isFn K (.ref f) = true)
    (h : wpAny (model prog w) A.in1 (call (.ref f) [.ref x, .ref y]) (fun r s' => ∃ b, r = .bool b ∧ Q (.bool (!b)) s') E s) : wpAny (model prog w) A (richCompare .NotEq (.ref x) (.ref y)) Q E s := by
  have X := X₀.keeps F.keep
  have one : wpAny (model prog w) A (tryCompare (.ref x) "__ne__" (.ref y)) (fun r s' => ∃ v, r = some v ∧ Q v s') E s := by
    unfold tryCompare
    refine wpAny_bind (ifBound_B X I slot_obj_ne hne ?_)
    refine wpAny_call (codeAny_call_builtin slot_obj_ne.plain PySem.F.cmpEntry_ne (PySem.W.check_slot PySem.F.cmpKind_ne PySem.F.cmpSplit_ne (I.type.andThen (PySem.W.looks_subIn X ho)) (PySem.F.cmpArgs_ne _ _) ?_))
    unfold Builtin.«object.__ne__»
    have hu1 : A.in1.units < cLine := hu
    have key : ∀ {R : Option Value → Shared → Prop}, (∀ b s', Q (.bool (!b)) s' → R (some (.bool b)) s') → wpAny (model prog w) A.in1 (callSpecialIfBound? (.ref x) "__eq__" [.ref y]) R E s := fun {R} hR =>
      PySem.W.ifBound_K X I hs hf (wpAny_mono h (fun r s' ⟨b, e, q⟩ => by subst e; exact hR b s' q) fun _ _ z => z)
    repeat (first | with_reducible refine wpAny_cRoomFor hu1 ?_ | with_reducible refine key fun b s' q => ?_ | wp_step)
    exact ⟨_, rfl, q⟩
  unfold richCompare
  simp only [oneThing_ref]
  refine wpAny_holding (wpAny_bind (wpAny_cRoomFor (by omega) ?_))
  refine wpAny_bind (I.type.here (wpAny_bind (hb.here ?_)))
  have hi : cmpInfo .NotEq = (("!=", "__ne__", "__ne__") : String × Str × Str) := rfl
  split
  · rename_i q
    have e : PySem.W.subIn K tb (.ref C) = some false := by
      rcases Bool.or_eq_true_iff.mp hn with e | e
      · rw [beq_iff_eq.mp e] at q; simp at q
      · exact beq_iff_eq.mp e
    refine wpAny_bind ((PySem.W.looks_subIn X e).here ?_)
    simp only [Bool.false_eq_true, if_false]
    refine wpAny_bind (wpAny_mono one (fun r s' z => ?_) fun _ _ e => e)
    obtain ⟨v, rfl, hq⟩ := z
    exact wpAny_pure hq
  · refine wpAny_bind (wpAny_pure ?_)
    simp only [Bool.false_eq_true, if_false]
    refine wpAny_bind (wpAny_mono one (fun r s' z => ?_) fun _ _ e => e)
    obtain ⟨v, rfl, hq⟩ := z
    exact wpAny_pure hq
end

/-! ### == by data -/
/-- instances by their class's __eq__ -/
def eqObj (ms : Ms) (x y : D) (c : Cs) : Option (Bool × Cs) := match deref c x, deref c y with
  | some (.obj j _), some (.obj k _) => if j = k then match ms j with
    | some m => match m [x, y] c with
      | some (.bl b, c') => some (b, c')
      | _ => none
    | none => none else none
  | _, _ => none
/-- lists of instances that are equal, one by one -/
def eqObjs (ms : Ms) : List D → List D → Cs → Option Cs
  | [], [], c => some c
  | x :: xs, y :: ys, c => match eqObj ms x y c with
    | some (true, c1) => eqObjs ms xs ys c1
    | _ => none
  | _, _, _ => none
def eqM (ms : Ms) (x y : D) (c : Cs) : Option (Bool × Cs) := match pdn deep x, pdn deep y with
  | some p, some q => some (PyData.eqv p q, c)
  | _, _ => match x, y with
    | .lst xs, .lst ys => match eqObjs ms xs ys c with
      | some c1 => some (true, c1)
      | none => none
    | _, _ => eqObj ms x y c
def oEqM (ms : Ms) : F2 := fun x y c => match eqM ms x y c with | some (b, c1) => some (.bl b, c1) | none => none
def neM (ms : Ms) (x y : D) (c : Cs) : Option (Bool × Cs) := match pdn deep x, pdn deep y with
  | some p, some q => some (PyData.eqv p q, c)
  | _, _ => eqObj ms x y c
def oNeM (ms : Ms) : F2 := fun x y c => match neM ms x y c with | some (b, c1) => some (.bl (!b), c1) | none => none
/-- what != asks of a class -/
structure NeC (K : PySem.W.Frag) (C : Addr) : Prop where
  ne : PySem.W.findIn K (.ref C) "__ne__" = some (some (.builtin "object.__ne__"))
  ob : PySem.W.subIn K (.ref C) (.type "object") = some true
section
variable {T : Tb} {n : Nat} {X : Cx} {k0 : Nat} {ms : Ms}
/-- what lies behind a comparison -/
def BackS (T : Tb) (X : Cx) (pins : List (Addr × Obj)) (σ : L2.St) (G : Hp) (al : List Addr) (H : Hp) (c' : Cs) (s' : Shared) : Prop := ∃ G' al' H', Inv X pins σ H' s' ∧ Stp G al H G' al' H' ∧ HSt T G' al' c' H'
theorem BackS.trans {pins : List (Addr × Obj)} {σ : L2.St} {G H G1 H1 : Hp} {al al1 : List Addr} {c' : Cs} {s' : Shared} (l : Stp G al H G1 al1 H1) (b : BackS T X pins σ G1 al1 H1 c' s') : BackS T X pins σ G al H c' s' :=
  let ⟨G', al', H', i, l', h⟩ := b; ⟨G', al', H', i, l.trans l', h⟩
/-- the call of a method within a comparison, at A -/
theorem call_eq {k : Nat} {f : Addr} {fd : FuncData} {ps : List Str} {m : FC} (F : FnAt T k f fd ps m) (t : Tied T n X) {A : Around} (hr : Room k A) (hfr : A.frames = X.A.frames) {pins : List (Addr × Obj)} {s : Shared} {σ : L2.St} {H : Hp} (I : Inv X pins σ H s)
    {G : Hp} {al : List Addr} {c c' : Cs} {dx dy : D} {a b : Addr} {r : Bool} (hs : HSt T G al c H) (rx : Rp T G al dx (.ref a)) (ry : Rp T G al dy (.ref b)) (hm : m [dx, dy] c = some (.bl r, c')) :
    wpAny (model X.prog X.w) A (call (.ref f) [.ref a, .ref b]) (fun u s' => u = .bool r ∧ BackS T X pins σ G al H c' s') X.xe s := by
  have cal := F.call t hr (A := A) (fun _ _ z => ⟨by rw [hfr]; exact z.frames, z.mod, z.bs, z.bsz, z.funs, z.frf, z.hok, z.bare⟩) I hs (.cons rx (.cons ry .nil)) (us := [.ref a, .ref b]) (.cons rfl (.cons rfl .nil)) hm (Q := fun v H' => ∃ G' al', Stp G al H G' al' H' ∧ HSt T G' al' c' H' ∧ v = .bl r) fun G' al' H' v l hs' r' => ⟨G', al', l, hs', r'.bl_inv⟩
  refine wpAny_mono cal (fun u s' hq => ?_) fun _ _ z => z
  obtain ⟨w, H', I', rw', G', al', l, hs', rfl⟩ := hq
  exact ⟨rw', G', al', H', I', l, hs'⟩
theorem rc_obj (D0 : Duns T k0 "__eq__" ms) (t : Tied T n X) {A : Around} (sb : Sub X k0 A) {pins : List (Addr × Obj)} {s : Shared} {σ : L2.St} {H : Hp} (I : Inv X pins σ H s) {G : Hp} {al : List Addr} {c c' : Cs} {dx dy : D} {x y : V} {u v : Value} {r : Bool}
    (hs : HSt T G al c H) (rx : Rp T G al dx x) (ry : Rp T G al dy y) (ru : RelV x u) (rv : RelV y v) (h : eqObj ms dx dy c = some (r, c')) :
    wpAny (model X.prog X.w) A (richCompare .Eq u v) (fun u s' => u = .bool r ∧ BackS T X pins σ G al H c' s') X.xe s := by
  unfold eqObj at h
  split at h
  case h_2 => cases h
  case h_1 j ds k es e1 e2 =>
    split at h
    case isFalse => cases h
    case isTrue hj =>
      subst hj
      split at h
      case h_2 => cases h
      case h_1 m e3 =>
        split at h
        case h_2 => cases h
        case h_1 b c1 e4 =>
          cases h
          obtain ⟨ps, f, fd, F, h1, h2, h3⟩ := D0 j m e3
          obtain ⟨a, dx', fs, rfl, ha⟩ := rx.ins' hs e1
          obtain ⟨a2, dx2, fs2, rfl, ha2⟩ := ry.ins' hs e2
          obtain rfl : u = .ref a := ru
          obtain rfl : v = .ref a2 := rv
          obtain ⟨ox, od, J, _⟩ := obj_at I ha
          obtain ⟨ox2, od2, J2, _⟩ := obj_at I ha2
          obtain ⟨_, hF⟩ := I.fr
          refine PySem.W.cmp_K (op := .Eq) (tb := .ref (T.cl j)) sb.room.units0 hF I.ok.mod.kin J J2.type (by simp [PySem.W.notFirst]) (by rw [t.K]; exact h1) (by rw [t.K]; exact h2) (wpAny_mono (call_eq F t sb.room sb.fr I hs rx ry e4) (fun w s' z => ?_) fun _ _ z => z)
          obtain ⟨rfl, z⟩ := z
          exact ⟨rfl, z⟩
theorem eqb_obj (D0 : Duns T k0 "__eq__" ms) (t : Tied T n X) {A : Around} (sb : Sub X k0 A) {pins : List (Addr × Obj)} {s : Shared} {σ : L2.St} {H : Hp} (I : Inv X pins σ H s) {G : Hp} {al : List Addr} {c c' : Cs} {dx dy : D} {x y : V} {u v : Value}
    (hs : HSt T G al c H) (rx : Rp T G al dx x) (ry : Rp T G al dy y) (ru : RelV x u) (rv : RelV y v) (h : eqObj ms dx dy c = some (true, c')) (hc : c' = c) :
    wpAny (model X.prog X.w) A (eqBool u v) (fun u s' => u = true ∧ BackS T X pins σ G al H c' s') X.xe s := by
  have h0 := h
  unfold eqObj at h
  split at h
  case h_2 => cases h
  case h_1 j ds k es e1 e2 =>
    obtain ⟨a, dx', fs, ex, ha⟩ := rx.ins' hs e1
    obtain ⟨a2, dx2, fs2, ey, ha2⟩ := ry.ins' hs e2
    have z := rc_obj D0 t sb I hs rx ry ru rv h0
    subst ex; subst ey
    obtain rfl : u = .ref a := ru
    obtain rfl : v = .ref a2 := rv
    by_cases hab : a = a2
    · subst hab
      refine SeqAt.EqAt.same (A := A) (s := s) (.ref a) X.prog X.w X.xe _ ⟨rfl, ?_⟩
      rw [hc]
      exact ⟨G, al, H, I, .refl _ _ _, hs⟩
    · exact GQ.eqBool_refG hab (wpAny_mono z (fun r s' ⟨e, q⟩ => ⟨true, e, rfl, q⟩) fun _ _ z => z)
theorem eqObj_refs {G H : Hp} {al : List Addr} {c c' : Cs} {dx dy : D} {x y : V} {r : Bool} (hs : HSt T G al c H) (rx : Rp T G al dx x) (ry : Rp T G al dy y) (h : eqObj ms dx dy c = some (r, c')) : ∃ a b, x = .ref a ∧ y = .ref b := by
  unfold eqObj at h
  split at h
  case h_2 => cases h
  case h_1 j ds k es e1 e2 =>
    obtain ⟨a, dx', fs, ex, ha⟩ := rx.ins' hs e1
    obtain ⟨a2, dx2, fs2, ey, ha2⟩ := ry.ins' hs e2
    exact ⟨a, a2, ex, ey⟩
theorem eqObjs_len : ∀ {xs ys : List D} {c c' : Cs}, eqObjs ms xs ys c = some c' → xs.length = ys.length
  | [], [], _, _, _ => rfl
  | x :: xs, y :: ys, c, c', h => by
    unfold eqObjs at h
    split at h
    case h_1 c1 e => rw [List.length_cons, List.length_cons, eqObjs_len h]
    case h_2 => cases h
  | [], _ :: _, _, _, h => by simp [eqObjs] at h
  | _ :: _, [], _, _, h => by simp [eqObjs] at h
/-- the i-th pair of lists that are equal -/
theorem eqObjs_at : ∀ {xs ys : List D} {c c' : Cs} (i : Nat), eqObjs ms xs ys c = some c' → i ≤ xs.length → ∃ ci, eqObjs ms (xs.drop i) (ys.drop i) ci = some c'
  | xs, ys, c, c', 0, h, _ => ⟨c, h⟩
  | [], _, _, _, i + 1, _, hi => by simp at hi
  | x :: xs, [], c, c', i + 1, h, hi => by simp [eqObjs] at h
  | x :: xs, y :: ys, c, c', i + 1, h, hi => by
    unfold eqObjs at h
    split at h
    case h_1 c1 e => exact eqObjs_at i h (by simpa using hi)
    case h_2 => cases h
theorem rc_list (D0 : Duns T k0 "__eq__" ms) (t : Tied T n X) {A : Around} (sb : Sub X (k0 + 1) A) {pins : List (Addr × Obj)} {s : Shared} {σ : L2.St} {H : Hp} (I : Inv X pins σ H s) {G : Hp} {al : List Addr} {c c' : Cs} {xs ys : List D} {x y : V} {u v : Value}
    (hs : HSt T G al c H) (rx : Rp T G al (.lst xs) x) (ry : Rp T G al (.lst ys) y) (ru : RelV x u) (rv : RelV y v) (h : eqObjs ms xs ys c = some c') (pure_ : ∀ x y c b c', eqObj ms x y c = some (b, c') → c' = c) :
    wpAny (model X.prog X.w) A (richCompare .Eq u v) (fun u s' => u = .bool true ∧ BackS T X pins σ G al H c' s') X.xe s := by
  obtain ⟨a, vs, rfl, ga, la⟩ := rx.lst_inv
  obtain ⟨b, ws, rfl, gb, lb⟩ := ry.lst_inv
  obtain rfl : u = .ref a := ru
  obtain rfl : v = .ref b := rv
  have hl := eqObjs_len h
  refine GQ.rc_listG (N := xs.length) sb.room.units0 (fun i s' => ∃ G1 al1 H1 ci, Inv X pins σ H1 s' ∧ Stp G al H G1 al1 H1 ∧ HSt T G1 al1 ci H1 ∧ eqObjs ms (xs.drop i) (ys.drop i) ci = some c') (fun i s' q => ?_) (fun s' q => ?_) ⟨G, al, H, c, I, .refl _ _ _, hs, h⟩
  · obtain ⟨G1, al1, H1, ci, I1, l1, hs1, e1⟩ := q
    have ha1 : H1 a = some (.lst vs) := hs1.ex _ _ (l1.le.g _ _ ga)
    have hb1 : H1 b = some (.lst ws) := hs1.ex _ _ (l1.le.g _ _ gb)
    obtain ⟨z, its, k, r, e⟩ := I1.hok a _ ha1
    obtain ⟨z2, its2, k2, r2, e2⟩ := I1.hok b _ hb1
    refine ⟨its.toArray, its2.toArray, k, k2, e, e2, by rw [List.size_toArray, ← r.length, la.length], by rw [List.size_toArray, ← r2.length, ← lb.length]; exact hl.symm, fun h1 h2 => ?_⟩
    have i1 : i < its.length := by simpa using h1
    have i2 : i < its2.length := by simpa using h2
    have j1 : i < xs.length := by rw [la.length, r.length]; exact i1
    have j2 : i < ys.length := by rw [lb.length, r2.length]; exact i2
    obtain ⟨w1, hw1, rw1⟩ := la.get (List.getElem?_eq_getElem j1)
    obtain ⟨w2, hw2, rw2⟩ := lb.get (List.getElem?_eq_getElem j2)
    obtain ⟨u1, hu1, ru1⟩ := r.get hw1
    obtain ⟨u2, hu2, ru2⟩ := r2.get hw2
    have g1 : its.toArray[i] = u1 := by
      rw [List.getElem?_eq_getElem i1] at hu1
      simpa using Option.some.inj hu1
    have g2 : its2.toArray[i] = u2 := by
      rw [List.getElem?_eq_getElem i2] at hu2
      simpa using Option.some.inj hu2
    rw [g1, g2]
    rw [List.drop_eq_getElem_cons j1, List.drop_eq_getElem_cons j2] at e1
    unfold eqObjs at e1
    split at e1
    case h_2 => cases e1
    case h_1 c1 e3 =>
      refine wpAny_mono (eqb_obj D0 t sb.in1 I1 hs1 (rw1.mono l1.le) (rw2.mono l1.le) ru1 ru2 e3 (pure_ _ _ _ _ _ e3)) (fun r s2 ⟨e4, G2, al2, H2, I2, l2, hs2⟩ => ⟨e4, G2, al2, H2, c1, I2, l1.trans l2, hs2, e1⟩) fun _ _ z => z
  · obtain ⟨G1, al1, H1, ci, I1, l1, hs1, e1⟩ := q
    have e2 : ys.drop xs.length = [] := by rw [hl]; exact List.drop_length
    rw [List.drop_length, e2] at e1
    simp only [eqObjs] at e1
    cases e1
    exact ⟨rfl, G1, al1, H1, I1, l1, hs1⟩
/-- the table's methods leave the cells -/
def Still (ms : Ms) : Prop := ∀ x y c b c', eqObj ms x y c = some (b, c') → c' = c
theorem op_oEqM (D0 : Duns T k0 "__eq__" ms) (st : Still ms) (hk : k0 + 1 ≤ n) (t : Tied T n X) : OpR X (compareOp .Eq) (rP T (oEqM ms)) := by
  intro pins s σ H x y u v Q I ru rv h
  obtain ⟨G, al, c, dx, dy, d, c', hs, rx, ry, hf, q⟩ := h
  unfold oEqM at hf
  split at hf
  case h_2 => cases hf
  case h_1 b c1 e1 =>
    cases hf
    have fin : ∀ (w : Value) (s' : Shared), (w = .bool b ∧ BackS T X pins σ G al H c' s') → EP X pins σ Q w s' := fun w s' ⟨e, G', al', H', I', l, hs'⟩ => ⟨.bl b, H', I', by rw [e]; rfl, q G' al' H' _ l hs' (.bl b)⟩
    have sb : Sub X (k0 + 1) X.A := ⟨t.room.mono hk, rfl⟩
    unfold eqM at e1
    split at e1
    case h_1 p p' h1 h2 =>
      cases e1
      exact op_eqD t.room.units pins s σ H x y u v Q I ru rv ⟨p, p', by rw [t.K]; exact Rq.dp hs h1 (.inl rx), by rw [t.K]; exact Rq.dp hs h2 (.inl ry), pdn_shaped h1, pdn_shaped h2, q.now hs (.bl _)⟩
    case h_2 =>
      split at e1
      case h_1 xs ys =>
        split at e1
        case h_2 => cases e1
        case h_1 c2 e2 =>
          cases e1
          exact wpAny_mono (rc_list D0 t sb I hs rx ry ru rv e2 st) fin fun _ _ z => z
      case h_2 => exact wpAny_mono (rc_obj D0 t (sb.mono (Nat.le_succ _)) I hs rx ry ru rv e1) fin fun _ _ z => z
theorem op_oNeM (D0 : Duns T k0 "__eq__" ms) (hne : ∀ j m, ms j = some m → NeC T.K (T.cl j)) (hk : k0 + 1 ≤ n) (t : Tied T n X) : OpR X (compareOp .NotEq) (rP T (oNeM ms)) := by
  intro pins s σ H x y u v Q I ru rv h
  obtain ⟨G, al, c, dx, dy, d, c', hs, rx, ry, hf, q⟩ := h
  unfold oNeM at hf
  split at hf
  case h_2 => cases hf
  case h_1 b c1 e1 =>
    cases hf
    have sb : Sub X (k0 + 1) X.A := ⟨t.room.mono hk, rfl⟩
    unfold neM at e1
    split at e1
    case h_1 p p' h1 h2 =>
      cases e1
      exact op_neD t.room.units pins s σ H x y u v Q I ru rv ⟨p, p', by rw [t.K]; exact Rq.dp hs h1 (.inl rx), by rw [t.K]; exact Rq.dp hs h2 (.inl ry), pdn_shaped h1, pdn_shaped h2, q.now hs (.bl _)⟩
    case h_2 =>
      unfold eqObj at e1
      split at e1
      case h_2 => cases e1
      case h_1 j ds k es e1' e2 =>
        split at e1
        case isFalse => cases e1
        case isTrue hj =>
          subst hj
          split at e1
          case h_2 => cases e1
          case h_1 m e3 =>
            split at e1
            case h_2 => cases e1
            case h_1 b' c1 e4 =>
              cases e1
              obtain ⟨ps, f, fd, F, h1, h2, h3⟩ := D0 j m e3
              obtain ⟨a, dx', fs, rfl, ha⟩ := rx.ins' hs e1'
              obtain ⟨a2, dx2, fs2, rfl, ha2⟩ := ry.ins' hs e2
              obtain rfl : u = .ref a := ru
              obtain rfl : v = .ref a2 := rv
              obtain ⟨ox, od, J, _⟩ := obj_at I ha
              obtain ⟨ox2, od2, J2, _⟩ := obj_at I ha2
              obtain ⟨_, hF⟩ := I.fr
              have N := hne j m e3
              have un : X.A.units + 1 < cLine := by have := t.room.un; omega
              refine ne_K un hF I.ok.mod.kin J J2.type (by simp [PySem.W.notFirst]) (by rw [t.K]; exact N.ne) (by rw [t.K]; exact N.ob) (by rw [t.K]; exact h1) (by rw [t.K]; exact h2) (wpAny_mono (call_eq F t sb.in1.room sb.in1.fr I hs rx ry e4) (fun w s' ⟨e, G', al', H', I', l, hs'⟩ => ⟨b, e, .bl (!b), H', I', rfl, q G' al' H' _ l hs' (.bl (!b))⟩) fun _ _ z => z)
end

/-! ### the call of an instance -/
theorem Rp.ref_of {T : Tb} {G : Hp} {al : List Addr} {c : Cs} {d : D} {v : V} {j : Nat} {ds : List D} (r : Rp T G al d v) (h : deref c d = some (.obj j ds)) : ∃ a, v = .ref a := by
  cases r with
  | box g b => exact ⟨_, rfl⟩
  | cell h => exact ⟨_, rfl⟩
  | tup _ _ _ => exact ⟨_, rfl⟩
  | scr _ => exact ⟨_, rfl⟩
  | cls _ => exact ⟨_, rfl⟩
  | _ => cases h
section
variable {T : Tb} {n k0 : Nat} {X : Cx} {ms : Ms} {pos : Pos} {fe0 e : Expr} {es : List Expr} {fo : FE} {fa : FA}
/-- o(..): by the class of o -/
def fInst (ms : Ms) (fo : FE) (fa : FA) : FE := fun env c => match fo env c with
  | some (d, c1) => match fa env c1 with
    | some (ds, c2) => match deref c2 d with
      | some (.obj j _) => match ms j with
        | some m => m (d :: ds) c2
        | none => none
      | _ => none
    | none => none
  | none => none
theorem tr_inst (D0 : Duns T k0 "__call__" ms) (ho : TrE T n X fe0 fo) (ha : TrA T n X (e :: es) fa) (hk : k0 ≤ n := by decide)
    (ht : eval (.Call fe0 (e :: es) [] pos) X.env = (do callWith pos (← eval fe0 X.env) [] (backTo pos (starEach (e :: es) X.env)) (backToKw pos (keywordEach [] X.env))) := by rfl)
    (he : starEach (e :: es) X.env = (false, eval e X.env) :: starEach es X.env := by rfl) (hpl : (backTo pos (starEach es X.env)).any (·.1) = false := by rfl) : TrE T n X (.Call fe0 (e :: es) [] pos) (fInst ms fo fa) := by
  refine ⟨fun t G al c env σ H Q d c' hs he' hf q => fun pins s I => ?_⟩
  unfold fInst at hf
  split at hf
  case h_2 => cases hf
  case h_1 d1 c1 e1 =>
    split at hf
    case h_2 => cases hf
    case h_1 ds c2 e2 =>
      split at hf
      case h_2 => cases hf
      case h_1 j ds0 e3 =>
        split at hf
        case h_2 => cases hf
        case h_1 m e4 =>
          obtain ⟨ps, f, fd, F, h1, h2, h3⟩ := D0 j m e4
          -- the instance is there from the start
          have first : SemE X fe0 σ H fun v H1 => (∃ a, v = .ref a) ∧ SemA X (e :: es) σ H1 fun vs H2 => ∃ (a dx : Addr) (fs : List (Str × V)) (G2 : Hp) (al2 : List Addr), v = .ref a ∧ H2 a = some (.ins (T.cl j) dx fs) ∧ Stp G al H G2 al2 H2 ∧ HSt T G2 al2 c2 H2 ∧ RpL T G2 al2 (d1 :: ds) (v :: vs) :=
            ho.run t G al c env σ H _ d1 c1 hs he' e1 fun G1 al1 H1 v l1 hs1 r1 => ⟨r1.ref_of e3, ha.run t G1 al1 c1 env σ H1 _ ds c2 hs1 (he'.mono l1) e2 fun G2 al2 H2 vs l2 hs2 r2 => by
              have r1' := r1.mono l2.le
              obtain ⟨a, dx, fs, ev, hh⟩ := r1'.ins' hs2 e3
              exact ⟨a, dx, fs, G2, al2, ev, hh, l1.trans l2, hs2, .cons r1' r2⟩⟩
          refine Call_ (thn (first pins s I) fun u s1 ⟨y, H1, I1, ry, ⟨a0, ey0⟩, q1⟩ => ?_) ht
          subst ey0
          obtain rfl : u = .ref a0 := ry
          have fin : wpAny (model X.prog X.w) X.A (spliced (backTo pos (starEach (e :: es) X.env))) (fun us s2 => ∃ a, Value.ref a0 = .ref a ∧ (∃ C ox od, PySem.W.InstAt s2.heap a ox C od ∧ ox.data = .plain) ∧ wpAny (model X.prog X.w) X.A (call (.ref a) ([] ++ us)) (EP X pins σ Q) X.xe s2) X.xe s1 := by
            refine thn (q1 pos pins s1 I1) fun us s2 ⟨vs, H2, I2, r, a, dx, fs, G2, al2, ey, hh, l2, hs2, rl⟩ => ?_
            cases ey
            obtain ⟨ox, od, J, hd⟩ := obj_at I2 hh
            refine ⟨a0, rfl, ⟨T.cl j, ox, od, J, hd⟩, ?_⟩
            have hsp : SpS T ps.length m (.ref a0 :: vs) H2 Q E0 := F.sp hs2 rl hf fun G' al' H' v' l' => q G' al' H' v' (l2.trans l')
            have Fo := t.fn F.ok
            have ro : Room k0 X.A := t.room.mono hk
            have cR : codeAny (model X.prog X.w) X.A (.call (.ref f) ⟨.ref a0 :: us, []⟩) (fun r s' => match r with | .ok (.ret v) => EP X pins σ Q v s' | .ok _ => False | .error e => X.xe e s') s2 := by
              have rv : Vals (.ref a0 :: vs) (.ref a0 :: us) := .cons rfl r
              have hl : (Value.ref a0 :: us).length = ps.length := by rw [← rv.length]; exact Fo.len _ _ _ _ hsp
              refine codeAny_mono (Fo.run X.A X.stack s2 H2 ⟨.ref a0 :: us, []⟩ (.ref a0 :: us) (.ref a0 :: vs) Q E0 ro I2.env0 (by
                have := F.b s2 (.ref a0 :: us) (by rw [← t.K]; exact I2.kIn) (by simpa using hl)
                simpa using this) rv hsp) fun r s' hq => ?_
              cases r with
              | error e => exact (pass0 (X := X)) pins σ H2 s2 e s' I2 hq
              | ok fl =>
                cases fl with
                | ret u => exact I2.after hq
                | next => exact False.elim hq
                | brk => exact False.elim hq
                | cont => exact False.elim hq
            exact wpAny_call (PySem.W.kco_code I2.kIn J hd (by rw [t.K]; exact h1) (by rw [t.K]; exact h2) (by rw [t.K]; exact h3) cR)
          refine StX.callO_with (wpAny_mono fin (fun us s2 ⟨a', e', h1, h2⟩ => ?_) fun _ _ z => z) he hpl
          cases e'
          exact ⟨h1, h2⟩
end
end Pd
set_option Elab.async false
set_option linter.all false
set_option maxRecDepth 100000
/-! Pd10: built-in functions by data. -/
namespace Pd
open PySem PySem.Spec PyProof.Rows L2

section
variable {T : Tb} {n : Nat} {X : Cx} {pos p : Pos} {e : Expr} {es : List Expr} {fa : FA} {x : Str} {bid t0 : String} {g : FC}
/-! ### f(..), f a built-in function or type -/
theorem tr_cb (hc : Tied T n X → CallR X (.builtin bid) (rC T g)) (ha : TrQA T n X (e :: es) fa) (hm : X.mg x = none) (hv : bootBuiltins x = some (.builtin bid) := by decide +kernel) (hg : Gl X x := by rfl) (hn : x ≠ "__name__" := by decide) (hdb : (x == ("__debug__" : Str)) = false := by decide)
    (he : starEach (e :: es) X.env = (false, eval e X.env) :: starEach es X.env := by rfl) (hpl : (backTo pos (starEach es X.env)).any (·.1) = false := by rfl) : TrE T n X (.Call (.Name x p) (e :: es) [] pos) (fCall g fa) := by
  refine ⟨fun t G al c env σ H Q d c' hs he' hf q => ofE (pe_callB (hc t) hg hm hv (paS (e :: es)) hn hdb he hpl) ?_⟩
  unfold fCall at hf
  split at hf
  case h_2 => cases hf
  case h_1 ds c1 e1 => exact ha.run t G al c env σ H _ ds c1 hs he' e1 fun G1 al1 H1 vs l1 hs1 r1 => ⟨G1, al1, c1, ds, d, c', hs1, r1, hf, fun G' al' H' v' l' => q G' al' H' v' (l1.trans l')⟩
theorem tr_ct (hc : Tied T n X → CallR X (.type t0) (rC T g)) (ha : TrQA T n X (e :: es) fa) (hm : X.mg x = none) (hv : bootBuiltins x = some (.type t0) := by decide +kernel) (hg : Gl X x := by rfl) (hn : x ≠ "__name__" := by decide) (hdb : (x == ("__debug__" : Str)) = false := by decide)
    (he : starEach (e :: es) X.env = (false, eval e X.env) :: starEach es X.env := by rfl) (hpl : (backTo pos (starEach es X.env)).any (·.1) = false := by rfl) : TrE T n X (.Call (.Name x p) (e :: es) [] pos) (fCall g fa) := by
  refine ⟨fun t G al c env σ H Q d c' hs he' hf q => ofE (pe_callTy (hc t) hg hm hv (paS (e :: es)) hn hdb he hpl) ?_⟩
  unfold fCall at hf
  split at hf
  case h_2 => cases hf
  case h_1 ds c1 e1 => exact ha.run t G al c env σ H _ ds c1 hs he' e1 fun G1 al1 H1 vs l1 hs1 r1 => ⟨G1, al1, c1, ds, d, c', hs1, r1, hf, fun G' al' H' v' l' => q G' al' H' v' (l1.trans l')⟩
theorem tn_cb (hc : Tied T n X → CallR X (.builtin bid) (rCN T g)) (ha : TrQA T n X (e :: es) fa) (hm : X.mg x = none) (hv : bootBuiltins x = some (.builtin bid) := by decide +kernel) (hg : Gl X x := by rfl) (hn : x ≠ "__name__" := by decide) (hdb : (x == ("__debug__" : Str)) = false := by decide)
    (he : starEach (e :: es) X.env = (false, eval e X.env) :: starEach es X.env := by rfl) (hpl : (backTo pos (starEach es X.env)).any (·.1) = false := by rfl) : TrN T n X (.Call (.Name x p) (e :: es) [] pos) (fCall g fa) := by
  refine ⟨fun t G al c env σ H Q d c' hs he' hf q => ofE (pe_callB (hc t) hg hm hv (paS (e :: es)) hn hdb he hpl) ?_⟩
  unfold fCall at hf
  split at hf
  case h_2 => cases hf
  case h_1 ds c1 e1 => exact ha.run t G al c env σ H _ ds c1 hs he' e1 fun G1 al1 H1 vs l1 hs1 r1 => ⟨G1, al1, c1, ds, d, c', hs1, r1, hf, fun G' al' H' a o l' hs' hg' ha' hp0 => q G' al' H' a o (l1.trans l') hs' hg' ha' (fresh_before hs hs1 l1 hp0)⟩
theorem tn_ct (hc : Tied T n X → CallR X (.type t0) (rCN T g)) (ha : TrQA T n X (e :: es) fa) (hm : X.mg x = none) (hv : bootBuiltins x = some (.type t0) := by decide +kernel) (hg : Gl X x := by rfl) (hn : x ≠ "__name__" := by decide) (hdb : (x == ("__debug__" : Str)) = false := by decide)
    (he : starEach (e :: es) X.env = (false, eval e X.env) :: starEach es X.env := by rfl) (hpl : (backTo pos (starEach es X.env)).any (·.1) = false := by rfl) : TrN T n X (.Call (.Name x p) (e :: es) [] pos) (fCall g fa) := by
  refine ⟨fun t G al c env σ H Q d c' hs he' hf q => ofE (pe_callTy (hc t) hg hm hv (paS (e :: es)) hn hdb he hpl) ?_⟩
  unfold fCall at hf
  split at hf
  case h_2 => cases hf
  case h_1 ds c1 e1 => exact ha.run t G al c env σ H _ ds c1 hs he' e1 fun G1 al1 H1 vs l1 hs1 r1 => ⟨G1, al1, c1, ds, d, c', hs1, r1, hf, fun G' al' H' a o l' hs' hg' ha' hp0 => q G' al' H' a o (l1.trans l') hs' hg' ha' (fresh_before hs hs1 l1 hp0)⟩
theorem callr_of {f : Value} {r : List V → Hp → VK → Prop} (h : ∀ xs H Q, r xs H Q → ∃ r' : List V → Hp → VK → Prop, CallR X f r' ∧ r' xs H Q) : CallR X f r :=
  fun pins s σ H xs us Q I rv hr => let ⟨_, o, q⟩ := h xs H Q hr; o pins s σ H xs us Q I rv q
theorem rC_of {f : Value} (h : ∀ (G : Hp) (al : List Addr) (c : Cs) (H : Hp) (ds : List D) (d : D) (c' : Cs) (xs : List V) (Q : VK), HSt T G al c H → RqL T G al H ds xs → g ds c = some (d, c') → Aft T G al H d c' Q → ∃ r' : List V → Hp → VK → Prop, CallR X f r' ∧ r' xs H Q) : CallR X f (rC T g) :=
  callr_of fun xs H Q ⟨G, al, c, ds, d, c', hs, rl, hg, q⟩ => h G al c H ds d c' xs Q hs rl hg q
theorem rCN_of {f : Value} (h : ∀ (G : Hp) (al : List Addr) (c : Cs) (H : Hp) (ds : List D) (d : D) (c' : Cs) (xs : List V) (Q : VK), HSt T G al c H → RqL T G al H ds xs → g ds c = some (d, c') → AftN T G al H d c' Q → ∃ r' : List V → Hp → VK → Prop, CallR X f r' ∧ r' xs H Q) : CallR X f (rCN T g) :=
  callr_of fun xs H Q ⟨G, al, c, ds, d, c', hs, rl, hg, q⟩ => h G al c H ds d c' xs Q hs rl hg q
theorem AftN.new {G H : Hp} {al : List Addr} {c : Cs} {d : D} {Q : VK} {q0 : Addr} {o : HO} (hs : HSt T G al c H) (q : AftN T G al H d c Q) (hp : H q0 = none) (b : Bx T G al q0 o d) : Q (.ref q0) (upd H q0 o) :=
  q G al _ q0 o (.junk hp) (hs.junk hp) (hs.free hp) (hs.apart hp) hp upd_same b

/-! ### ints -/
def bAbs : FC := fun ds c => match ds with
  | [.int i] => some (.int (if i < 0 then -i else i), c)
  | _ => none
theorem cr_bAbs (t : Tied T n X) : CallR X (.builtin "abs") (rC T bAbs) := by
  refine rC_of fun G al c H ds d c' xs Q hs rl hg q => ?_
  unfold bAbs at hg
  split at hg
  case h_2 => cases hg
  case h_1 i => cases hg; exact ⟨_, call_abs, i, rl.int1, q.now hs (.int _)⟩
def bInt : FC := fun ds c => match ds with
  | [.int i] => some (.int i, c)
  | [.bl b] => some (.int (if b = true then 1 else 0), c)
  | _ => none
theorem cr_bInt (t : Tied T n X) : CallR X (.type "int") (rC T bInt) := by
  refine rC_of fun G al c H ds d c' xs Q hs rl hg q => ?_
  unfold bInt at hg
  split at hg
  case h_3 => cases hg
  case h_1 i => cases hg; exact ⟨_, call_int1, .inl ⟨i, rl.int1, q.now hs (.int _)⟩⟩
  case h_2 b =>
    cases hg
    obtain ⟨v, rfl, r⟩ := rl.one
    rw [r.bl_inv]
    exact ⟨_, call_int1, .inr ⟨b, rfl, q.now hs (.int _)⟩⟩
/-- the ints of a list or a tuple -/
def intsOf (c : Cs) (d : D) : Option (List Int) := match seqOf c d with
  | some ds => ints? ds
  | none => none
theorem Rq.intSeq {G H : Hp} {al : List Addr} {c : Cs} {d : D} {ns : List Int} {v : V} (hs : HSt T G al c H) (r : Rq T G al H d v) (h : intsOf c d = some ns) : ∃ a, v = .ref a ∧ (SqL T.K H a (ns.map V.int) ∨ SqT T.K H a (ns.map V.int)) := by
  unfold intsOf at h
  split at h
  case h_2 => cases h
  case h_1 ds e =>
    obtain ⟨a, vs, e1, e2, rl⟩ := r.seq' hs e
    have := ints?_map h
    subst this
    rw [rl.ints] at e2
    exact ⟨a, e1, e2⟩
def bMax : FC := fun ds c => match ds with
  | [.int i, .int j] => some (.int (if j > i then j else i), c)
  | [d] => match intsOf c d with
    | some (k :: ks) => some (.int (ks.foldl max k), c)
    | _ => none
  | _ => none
def bMin : FC := fun ds c => match ds with
  | [.int i, .int j] => some (.int (if j < i then j else i), c)
  | [d] => match intsOf c d with
    | some (k :: ks) => some (.int (ks.foldl min k), c)
    | _ => none
  | _ => none
def bSum : FC := fun ds c => match ds with
  | [d] => match intsOf c d with
    | some ks => some (.int ks.sum, c)
    | _ => none
  | _ => none
theorem reads_ints {h : Heap} : ∀ {ns : List Int} {us : List Value}, Vals (ns.map V.int) us → ReadsAll h us (ns.map PyData.int) (ns.map fun _ => ([] : List Addr)).flatten
  | [], _, .nil => .nil
  | k :: ns, _, .cons r t => by
    obtain ⟨tk, rfl⟩ := r
    exact .cons (Reads.int k tk) (reads_ints t)
theorem alike_allints (ns : List Int) : PySem.W.AllAlike (ns.map PyData.int) := PySem.W.AllAlike.of (enc := PyData.int) fun _ _ => by simp [PySem.W.alike]
theorem Reads.int_inv {h : Heap} {u : Value} {i : Int} {as : List Addr} (r : Reads h u (.int i) as) : ∃ t, u = .int i t := by
  cases r
  exact ⟨_, rfl⟩
theorem alikeAll_ints (ns : List Int) : PySem.W.AlikeAll (ns.map PyData.int) := ⟨fun x hx y hy => by
  obtain ⟨a, _, rfl⟩ := List.mem_map.mp hx
  obtain ⟨b, _, rfl⟩ := List.mem_map.mp hy
  simp [PySem.W.alike], fun x hx => by
  obtain ⟨a, _, rfl⟩ := List.mem_map.mp hx
  simp⟩
theorem depthAll_ints (ns : List Int) : PyData.depthAll (ns.map PyData.int) = 0 := by
  induction ns with
  | nil => rfl
  | cons a r ih => simp [PyData.depthAll, PyData.depth, ih]
theorem cr_bMax (t : Tied T n X) : CallR X (.builtin "max") (rC T bMax) := by
  intro pins s σ H xs us Q I rv h
  obtain ⟨G, al, c, ds, d, c', hs, rl, hg, q⟩ := h
  unfold bMax at hg
  split at hg
  case h_1 i j => cases hg; exact call_max2 t.calm pins s σ H xs us Q I rv ⟨i, j, rl.int2, q.now hs (.int _)⟩
  case h_2 d0 =>
    split at hg
    case h_2 => cases hg
    case h_1 k ks e =>
      cases hg
      obtain ⟨v, rfl, r⟩ := rl.one
      obtain ⟨a, rfl, hv⟩ := r.intSeq hs e
      rw [Vals.ref1 rv]
      rw [← t.K] at hv
      have hu : X.A.units + 1 + PyData.depthAll (PyData.int k :: ks.map PyData.int) < cLine := by
        have h0 : PyData.depthAll (PyData.int k :: ks.map PyData.int) = 0 := depthAll_ints (k :: ks)
        have := t.room.un
        omega
      have ha : PySem.W.AlikeAll (PyData.int k :: ks.map PyData.int) := alikeAll_ints (k :: ks)
      have fin : ∀ (i : Nat) (v : Value) (h' : Heap) (tk : Nat) (bs : List Addr), Reads h' v (PySem.W.maxD (.int k) (ks.map .int)) bs → (∀ b o, s.heap.get? b = some o → h'.get? b = some o) → EP X pins σ Q v { s with heap := h', toks := tk } := by
        intro i v h' tk bs hr hk
        rw [PySem.W.maxD_ints] at hr
        obtain ⟨tk', rfl⟩ := Reads.int_inv hr
        exact ⟨.int _, H, I.kept hk, ⟨_, rfl⟩, q.now hs (.int _)⟩
      rcases hv with hv | hv
      · obtain ⟨its, rw', hl, _⟩ := I.list hv
        exact PySem.W.max_list_data (x := .int k) (xs := ks.map .int) (I.ok.hd t.calm) hl.isList (reads_ints (ns := k :: ks) rw') ha hu fun i v h' tk bs _ hr hk => fin i v h' tk bs hr hk
      · obtain ⟨its, rw', hl, _⟩ := I.tuple hv
        exact PySem.W.max_tuple_data (x := .int k) (xs := ks.map .int) (I.ok.hd t.calm) hl (reads_ints (ns := k :: ks) rw') ha hu fun i v h' tk bs _ hr hk => fin i v h' tk bs hr hk
  case h_3 => cases hg
theorem cr_bMin (t : Tied T n X) : CallR X (.builtin "min") (rC T bMin) := by
  intro pins s σ H xs us Q I rv h
  obtain ⟨G, al, c, ds, d, c', hs, rl, hg, q⟩ := h
  unfold bMin at hg
  split at hg
  case h_1 i j => cases hg; exact call_min2 t.calm pins s σ H xs us Q I rv ⟨i, j, rl.int2, q.now hs (.int _)⟩
  case h_2 d0 =>
    split at hg
    case h_2 => cases hg
    case h_1 k ks e =>
      cases hg
      obtain ⟨v, rfl, r⟩ := rl.one
      obtain ⟨a, rfl, hv⟩ := r.intSeq hs e
      rw [Vals.ref1 rv]
      rw [← t.K] at hv
      have hu : X.A.units + 1 + PyData.depthAll (PyData.int k :: ks.map PyData.int) < cLine := by
        have h0 : PyData.depthAll (PyData.int k :: ks.map PyData.int) = 0 := depthAll_ints (k :: ks)
        have := t.room.un
        omega
      have ha : PySem.W.AlikeAll (PyData.int k :: ks.map PyData.int) := alikeAll_ints (k :: ks)
      have fin : ∀ (i : Nat) (v : Value) (h' : Heap) (tk : Nat) (bs : List Addr), Reads h' v (PySem.W.minD (.int k) (ks.map .int)) bs → (∀ b o, s.heap.get? b = some o → h'.get? b = some o) → EP X pins σ Q v { s with heap := h', toks := tk } := by
        intro i v h' tk bs hr hk
        rw [PySem.W.minD_ints] at hr
        obtain ⟨tk', rfl⟩ := Reads.int_inv hr
        exact ⟨.int _, H, I.kept hk, ⟨_, rfl⟩, q.now hs (.int _)⟩
      rcases hv with hv | hv
      · obtain ⟨its, rw', hl, _⟩ := I.list hv
        exact PySem.W.min_list_data (x := .int k) (xs := ks.map .int) (I.ok.hd t.calm) hl.isList (reads_ints (ns := k :: ks) rw') ha hu fun i v h' tk bs _ hr hk => fin i v h' tk bs hr hk
      · obtain ⟨its, rw', hl, _⟩ := I.tuple hv
        exact PySem.W.min_tuple_data (x := .int k) (xs := ks.map .int) (I.ok.hd t.calm) hl (reads_ints (ns := k :: ks) rw') ha hu fun i v h' tk bs _ hr hk => fin i v h' tk bs hr hk
  case h_3 => cases hg
theorem cr_bSum (t : Tied T n X) : CallR X (.builtin "sum") (rC T bSum) := by
  intro pins s σ H xs us Q I rv h
  obtain ⟨G, al, c, ds, d, c', hs, rl, hg, q⟩ := h
  unfold bSum at hg
  split at hg
  case h_2 => cases hg
  case h_1 d0 =>
    split at hg
    case h_2 => cases hg
    case h_1 ks e =>
      cases hg
      obtain ⟨v, rfl, r⟩ := rl.one
      obtain ⟨a, rfl, hv⟩ := r.intSeq hs e
      rw [← t.K] at hv
      rcases hv with hv | hv
      · exact cr_sum t.calm pins s σ H _ us Q I rv ⟨a, ks, rfl, hv, q.now hs (.int _)⟩
      · rw [Vals.ref1 rv]
        obtain ⟨its, rw', hl, _⟩ := I.tuple hv
        have hi := rw'.ints
        obtain ⟨zs, e⟩ := hi.allInts.items
        have hn : numsOf (intItems zs).toList = ks := by rw [← e]; exact hi.numsOf
        rw [nums_intItems] at hn
        rw [e] at hl
        refine PySem.W.ktm_sumG (I.ok.hd t.calm) hl fun h' tk t' hk => ?_
        rw [preSum_eq, List.take_of_length_le (by simp), hn]
        exact ⟨.int _, H, I.kept hk, ⟨_, rfl⟩, q.now hs (.int _)⟩

/-! ### all, any -/
def bools? : List D → Option (List Bool)
  | [] => some []
  | .bl b :: r => match bools? r with | some bs => some (b :: bs) | none => none
  | _ :: _ => none
theorem bools?_map : ∀ {ds : List D} {bs : List Bool}, bools? ds = some bs → ds = bs.map D.bl
  | [], _, h => by cases h; rfl
  | .bl b :: r, bs, h => by
    simp only [bools?] at h
    split at h
    case h_2 => cases h
    case h_1 is e => cases h; rw [bools?_map e]; rfl
  | .non :: _, _, h => by simp [bools?] at h
  | .int _ :: _, _, h => by simp [bools?] at h
  | .str _ :: _, _, h => by simp [bools?] at h
  | .tup _ :: _, _, h => by simp [bools?] at h
  | .lst _ :: _, _, h => by simp [bools?] at h
  | .dic _ _ :: _, _, h => by simp [bools?] at h
  | .obj _ _ :: _, _, h => by simp [bools?] at h
  | .cell _ :: _, _, h => by simp [bools?] at h
  | .scr _ :: _, _, h => by simp [bools?] at h
  | .cls _ :: _, _, h => by simp [bools?] at h
theorem bools?_of (bs : List Bool) : bools? (bs.map D.bl) = some bs := by
  induction bs with
  | nil => rfl
  | cons a r ih => simp [bools?, ih]
theorem RpL.bools {G : Hp} {al : List Addr} : ∀ {bs : List Bool} {vs : List V}, RpL T G al (bs.map D.bl) vs → vs = bs.map V.bl
  | [], _, .nil => rfl
  | b :: bs, _, .cons r t => by rw [r.bl_inv, RpL.bools t]; rfl
def bAll : FC := fun ds c => match ds with
  | [.lst xs] => match bools? xs with
    | some bs => some (.bl (bs.all id), c)
    | none => none
  | _ => none
def bAny : FC := fun ds c => match ds with
  | [.lst xs] => match bools? xs with
    | some bs => some (.bl (bs.any id), c)
    | none => none
  | _ => none
theorem cr_bAll (t : Tied T n X) : CallR X (.builtin "all") (rC T bAll) := by
  refine rC_of fun G al c H ds d c' xs Q hs rl hg q => ?_
  unfold bAll at hg
  split at hg
  case h_2 => cases hg
  case h_1 ys =>
    split at hg
    case h_2 => cases hg
    case h_1 bs e =>
      cases hg
      obtain ⟨v, rfl, r⟩ := rl.one
      obtain ⟨a, vs, rfl, hv, rl2⟩ := r.lst_inv hs
      have := bools?_map e
      subst this
      rw [rl2.bools] at hv
      exact ⟨_, cr_all t.calm, a, bs, rfl, SqL.of hv, q.now hs (.bl _)⟩
theorem cr_bAny (t : Tied T n X) : CallR X (.builtin "any") (rC T bAny) := by
  refine rC_of fun G al c H ds d c' xs Q hs rl hg q => ?_
  unfold bAny at hg
  split at hg
  case h_2 => cases hg
  case h_1 ys =>
    split at hg
    case h_2 => cases hg
    case h_1 bs e =>
      cases hg
      obtain ⟨v, rfl, r⟩ := rl.one
      obtain ⟨a, vs, rfl, hv, rl2⟩ := r.lst_inv hs
      have := bools?_map e
      subst this
      rw [rl2.bools] at hv
      exact ⟨_, cr_any t.calm, a, bs, rfl, SqL.of hv, q.now hs (.bl _)⟩

/-! ### str, list, tuple -/
def smStr (i : Int) : Bool := decide (i.natAbs.log2 < 1920)
def bStr : FC := fun ds c => match ds with
  | [.int i] => if smStr i = true then some (.str (toString i), c) else none
  | [.str x] => some (.str x, c)
  | _ => none
theorem cr_bStr (t : Tied T n X) : CallR X (.type "str") (rC T bStr) := by
  refine rC_of fun G al c H ds d c' xs Q hs rl hg q => ?_
  unfold bStr at hg
  split at hg
  case h_3 => cases hg
  case h_1 i =>
    split at hg
    case isFalse => cases hg
    case isTrue hl => cases hg; exact ⟨_, call_str_int, i, rl.int1, of_decide_eq_true hl, q.now hs (.str _)⟩
  case h_2 x =>
    cases hg
    obtain ⟨v, rfl, r⟩ := rl.one
    rw [r.str_inv]
    exact ⟨_, SkE.call_str_str, x, rfl, q.now hs (.str _)⟩
def bList : FC := fun ds c => match ds with
  | [d] => match seqOf c d with
    | some xs => some (.lst xs, c)
    | none => none
  | _ => none
theorem cr_bList (t : Tied T n X) : CallR X (.type "list") (rCN T bList) := by
  refine rCN_of fun G al c H ds d c' xs Q hs rl hg q => ?_
  unfold bList at hg
  split at hg
  case h_2 => cases hg
  case h_1 d0 =>
    split at hg
    case h_2 => cases hg
    case h_1 ys e =>
      cases hg
      obtain ⟨v, rfl, r⟩ := rl.one
      obtain ⟨a, vs, rfl, hv, rl2⟩ := r.seq' hs e
      rw [← t.K] at hv
      exact ⟨_, call_list_of, a, vs, rfl, hv, fun p hp => q.new hs hp (.lst rl2)⟩
def bTuple : FC := fun ds c => match ds with
  | [d] => match deref c d with
    | some (.lst xs) => some (.tup xs, c)
    | some (.tup xs) => some (.tup xs, c)
    | _ => none
  | _ => none
theorem cr_bTuple (t : Tied T n X) : CallR X (.type "tuple") (rC T bTuple) := by
  refine rC_of fun G al c H ds d c' xs Q hs rl hg q => ?_
  unfold bTuple at hg
  split at hg
  case h_2 => cases hg
  case h_1 d0 =>
    split at hg
    case h_1 ys e =>
      cases hg
      obtain ⟨v, rfl, r⟩ := rl.one
      obtain ⟨a, vs, rfl, hv, rl2⟩ := r.lst' hs e
      exact ⟨_, call_tuple_ofF, a, vs, rfl, .inl ⟨SqL.of hv, fun p o hp ho => q.newT hs hp ho rl2⟩⟩
    case h_2 ys e =>
      cases hg
      obtain ⟨v, rfl, r⟩ := rl.one
      have hd := r.cellEq hs e ⟨fun _ z => (by cases z), fun _ _ z => (by cases z), fun _ _ z => (by cases z)⟩
      subst hd
      have k := r.rp_tup
      obtain ⟨a, vs, rfl, e2, rl3⟩ := r.tup_inv hs
      rw [← t.K] at e2
      exact ⟨_, call_tuple_of, a, vs, rfl, .inr ⟨e2, q.now hs k⟩⟩
    case h_3 => cases hg

/-! ### sorted -/
def alikeB (ps : List PyData) : Bool := ps.all fun d => ps.all fun e => PySem.W.alike d e
def tupB : PyData → Bool
  | .tuple (_ :: _) => true
  | _ => false
def othB : PyData → Bool
  | .none => false
  | .tuple _ => false
  | _ => true
def sortB (ps : List PyData) : Bool := ps.all tupB || ps.all othB
theorem alikeB_ok {ps : List PyData} (h : alikeB ps = true) : PySem.W.AllAlike ps := fun d hd e he => List.all_eq_true.mp (List.all_eq_true.mp h d hd) e he
theorem sortB_ok {ps : List PyData} (h : sortB ps = true) : PySem.W.Sortable ps := by
  rcases Bool.or_eq_true_iff.mp h with h | h
  · refine .inl fun d hd => ?_
    have := List.all_eq_true.mp h d hd
    cases d with
    | tuple xs =>
      cases xs with
      | nil => cases this
      | cons x r => exact ⟨x, r, rfl⟩
    | _ => cases this
  · refine .inr fun d hd => ?_
    have := List.all_eq_true.mp h d hd
    refine ⟨fun e => ?_, fun xs e => ?_⟩
    · subst e; cases this
    · subst e; cases this
/-- the items in their order -/
def sortD (ds : List D) (ps : List PyData) : List D := ((ds.zip ps).mergeSort (PySem.W.dataLe false (·.2))).map (·.1)
def bSorted : FC := fun ds c => match ds with
  | [d] => match deref c d with
    | some (.lst xs) => match pdns deep xs with
      | some ps => if (alikeB ps && sortB ps && decide (xs.length ≤ lim)) = true then some (.lst (sortD xs ps), c) else none
      | none => none
    | _ => none
  | _ => none
theorem pdns_length {k : Nat} : ∀ {ds : List D} {ps : List PyData}, pdns k ds = some ps → ds.length = ps.length
  | [], _, h => by simp only [pdns] at h; cases h; rfl
  | d :: ds, ps, h => by
    simp only [pdns] at h
    split at h
    case h_2 => cases h
    case h_1 p ps' h1 h2 => cases h; rw [List.length_cons, List.length_cons, pdns_length h2]
/-- values that go with data -/
theorem each_of {G : Hp} {al : List Addr} {k : Nat} {pins : List (Addr × Obj)} {s : Shared} {σ : L2.St} {H : Hp} {c : Cs} (I : Inv X pins σ H s) (t : Tied T n X) (hs : HSt T G al c H) : ∀ {ds : List D} {ps : List PyData} {vs : List V} {us : List Value}, pdns k ds = some ps → RpL T G al ds vs → Vals vs us →
    PySem.W.EachIs (fun (u : Value) (b : D × PyData) => (∃ x, RelV x u ∧ Rp T G al b.1 x) ∧ ∃ as, Reads s.heap u b.2 as) us (ds.zip ps)
  | [], _, _, _, h, .nil, .nil => by simp only [pdns] at h; cases h; exact .nil
  | d :: ds, ps, _, _, h, .cons r t1, .cons rv t2 => by
    simp only [pdns] at h
    split at h
    case h_2 => cases h
    case h_1 p ps' h1 h2 =>
      cases h
      have hd := r.dp hs.ex k d p _ h1
      rw [← t.K] at hd
      exact .cons ⟨⟨_, rv, r⟩, Dp.reads I p _ _ hd rv⟩ (each_of I t hs h2 t1 t2)
theorem each_fst {G : Hp} {al : List Addr} {h : Heap} : ∀ {us : List Value} {bs : List (D × PyData)}, PySem.W.EachIs (fun (u : Value) (b : D × PyData) => (∃ x, RelV x u ∧ Rp T G al b.1 x) ∧ ∃ as, Reads h u b.2 as) us bs → ∃ vs, Vals vs us ∧ RpL T G al (bs.map (·.1)) vs
  | _, _, .nil => ⟨[], .nil, .nil⟩
  | _, _, .cons ⟨⟨x, rx, r⟩, _⟩ t => let ⟨vs, h1, h2⟩ := each_fst t; ⟨x :: vs, .cons rx h1, .cons r h2⟩
theorem sorted_gives (t : Tied T n X) {pins : List (Addr × Obj)} {s : Shared} {σ : L2.St} {H : Hp} {Q : VK} {a : Addr} {xs : List D} {ps : List PyData} {vs : List V} {its : List Value} {G : Hp} {al : List Addr} {c : Cs} (I : Inv X pins σ H s) (hs : HSt T G al c H) (rl : RpL T G al xs vs) (rv : Vals vs its) (hl : s.heap.IsList a its.toArray)
    (e : pdns deep xs = some ps) (h1 : alikeB ps = true) (h2 : sortB ps = true) (h3 : xs.length ≤ lim) (q : AftN T G al H (.lst (sortD xs ps)) c Q) : wpAny (model X.prog X.w) X.A (call (.builtin "sorted") [.ref a]) (EP X pins σ Q) X.xe s := by
  have ea := each_of I t hs e rl rv
  have hlen := pdns_length e
  have hm : (xs.zip ps).map (·.2) = ps := List.map_snd_zip (Nat.le_of_eq hlen.symm)
  have lz : (xs.zip ps).length = xs.length := by rw [List.length_zip, hlen, Nat.min_self]
  refine PySem.W.sorted_data (enc := fun b : D × PyData => b.2) hl ea (ea.mono fun _ _ z => z.2) (by rw [hm]; exact alikeB_ok h1) (by rw [hm]; exact sortB_ok h2) (by rw [lz]; exact Nat.le_trans h3 lim_line) (fun b hb => ?_) fun out ho eo => ?_
  · have hb2 : b.2 ∈ ps := by rw [← hm]; exact List.mem_map.mpr ⟨b, hb, rfl⟩
    obtain ⟨_, hd⟩ := pdns_shape deep xs ps e
    have hle : ∀ (ps : List PyData) (p : PyData), p ∈ ps → p.depth ≤ PyData.depthAll ps := by
      intro ps
      induction ps with
      | nil => intro p hp; cases hp
      | cons y r ih =>
        intro p hp
        simp only [PyData.depthAll]
        rcases List.mem_cons.mp hp with rfl | hp
        · omega
        · have := ih p hp; omega
    have h4 := hle ps b.2 hb2
    have h5 : b.2.depth ≤ 60 := Nat.le_trans h4 hd
    have := t.room.un
    omega
  · obtain ⟨ws, rw', rl'⟩ := each_fst eo
    obtain ⟨ep, he'⟩ := PyProof.Rows.sortedAll_at s.heap its out.toArray
    have hws : ws.length ≤ sizeLine := by
      rw [rw'.length, ho, lz]
      exact Nat.le_trans h3 lim_line
    have hn := I.hok.fresh (Nat.le_succ s.heap.objs.size)
    exact ⟨.ref _, upd H (s.heap.objs.size + 1) (.lst ws), I.laid (t' := s.toks) (fun _ _ => PyProof.Rows.sortedAll_old) (Nat.le_succ _) ⟨hws, out, ep, rw', he'⟩, rfl, q.new hs hn (.lst rl')⟩
theorem cr_bSorted (t : Tied T n X) : CallR X (.builtin "sorted") (rCN T bSorted) := by
  intro pins s σ H xs us Q I rv h
  obtain ⟨G, al, c, ds, d, c', hs, rl, hg, q⟩ := h
  unfold bSorted at hg
  split at hg
  case h_2 => cases hg
  case h_1 d0 =>
    split at hg
    case h_2 => cases hg
    case h_1 ys e =>
      split at hg
      case h_2 => cases hg
      case h_1 ps e2 =>
        split at hg
        case isFalse => cases hg
        case isTrue hb =>
          cases hg
          simp only [Bool.and_eq_true, decide_eq_true_eq] at hb
          obtain ⟨v, rfl, r⟩ := rl.one
          obtain ⟨a, vs, rfl, hv, rl2⟩ := r.lst' hs e
          rw [Vals.ref1 rv]
          obtain ⟨its, rw', hl, _⟩ := I.list (SqL.of hv : SqL X.K H a vs)
          exact sorted_gives t I hs rl2 rw' hl.isList e2 hb.1.1 hb.1.2 hb.2 q
end
end Pd
set_option Elab.async false
set_option linter.all false
set_option maxRecDepth 100000
/-! Pd11: changes of objects, stores, while, parallel stores, methods of texts and lists. -/
namespace Pd
open PySem PySem.Spec PyProof.Rows L2

section
variable {T : Tb} {B : Base} {G G' H H' : Hp} {al al' : List Addr} {c c' : Cs} {env : En} {σ : L2.St}
/-- an object of one's own changes -/
theorem Ok.putO (k : Ok T B G al c H env σ) {i : Nat} {d d' : D} {p : Addr} {o : HO} (hi : env[i]? = some (some (.o d))) (hp : σ[i]? = some (some (.ref p))) (hb : Bx T G al p o d') : Ok T B G al c (upd H p o) (env.set i (some (.o d'))) σ := by
  obtain ⟨a, o0, hs, hg, ha, hh, b0⟩ := k.he.own i d hi
  rw [hp] at hs; cases hs
  have hn := k.nw i d p hi hp
  have hl : i < env.length := (List.getElem?_eq_some_iff.mp hi).1
  have key : ∀ (j : Nat) (e : D), (env.set i (some (.o d')))[j]? = some (some (.o e)) → ∃ e', env[j]? = some (some (.o e')) := fun j e q => by
    by_cases hj : j = i
    · subst hj; exact ⟨d, hi⟩
    · rw [List.getElem?_set_ne (Ne.symm hj)] at q
      exact ⟨e, q⟩
  refine ⟨k.hs0, k.hs.apartPut hg ha, k.he.putO hi hp hb, ⟨k.st.le, fun a u g m e => ?_⟩, fun j e a q1 q2 => ?_, fun x e hx q1 => ?_⟩
  · obtain ⟨g', m', e'⟩ := k.st.fr a u g m e
    exact ⟨g', m', by rw [upd_ne (ne_of_none e hn)]; exact e'⟩
  · obtain ⟨e', h'⟩ := key j e q1
    exact k.nw j e' a h' q2
  · obtain ⟨e', h'⟩ := key 0 e q1
    exact k.se x e' hx h'
/-- a cell changes -/
theorem Ok.putC (k : Ok T B G al c H env σ) {j : Nat} {d : D} {p : Addr} {o : HO} (hk : al[j]? = some p) (hb : Bx T G al p o d) : Ok T B G al (c.set j d) (upd H p o) env σ := k.step (.put hk) (k.hs.put hk hb)
end

/-! ### changes by data -/
/-- a method that changes its object: what it gives, what the object is then -/
abbrev Up := D → List D → Option (D × D)
def rMu (T : Tb) (up : Up) : V → List V → Hp → VK → Prop := fun x xs H Q => ∃ (G : Hp) (al : List Addr) (c : Cs) (p : Addr) (ho : HO) (d : D) (ds : List D) (d' dr : D), x = .ref p ∧ HSt T G al c H ∧ H p = some ho ∧ Bx T G al p ho d ∧ RpL T G al ds xs ∧ up d ds = some (dr, d') ∧
  ∀ (r : V) (o' : HO), Rp T G al dr r → Bx T G al p o' d' → Q r (upd H p o')
def uApp : Up := fun d ds => match d, ds with
  | .lst xs, [y] => if xs.length < lim then some (.non, .lst (xs ++ [y])) else none
  | _, _ => none
def uPop : Up := fun d ds => match d, ds with
  | .lst xs, [] => match xs[xs.length - 1]? with | some y => some (y, .lst xs.dropLast) | none => none
  | .lst xs, [.int i] => if small62 i = true then match seqIndex? i xs.length with
    | some k => match xs[k]? with | some y => some (y, .lst (xs.eraseIdx k)) | none => none
    | none => none else none
  | _, _ => none
def uRev : Up := fun d ds => match d, ds with
  | .lst xs, [] => some (.non, .lst xs.reverse)
  | _, _ => none
def uClr : Up := fun d ds => match d, ds with
  | .lst _, [] => some (.non, .lst [])
  | _, _ => none
theorem RpL.dropLast {T : Tb} {G : Hp} {al : List Addr} {ds : List D} {vs : List V} (r : RpL T G al ds vs) : RpL T G al ds.dropLast vs.dropLast := by
  rw [List.dropLast_eq_take, List.dropLast_eq_take, r.length]
  exact r.take _
theorem RpL.eraseIdx {T : Tb} {G : Hp} {al : List Addr} : ∀ {ds : List D} {vs : List V} (i : Nat), RpL T G al ds vs → RpL T G al (ds.eraseIdx i) (vs.eraseIdx i)
  | _, _, _, .nil => .nil
  | _, _, 0, .cons _ t => t
  | _, _, i + 1, .cons r t => .cons r (RpL.eraseIdx i t)
section
variable {T : Tb} {X : Cx}
theorem Bx.lst_inv {G : Hp} {al : List Addr} {p : Addr} {o : HO} {ds : List D} (b : Bx T G al p o (.lst ds)) : ∃ vs, o = .lst vs ∧ RpL T G al ds vs := by
  cases b with
  | lst r => exact ⟨_, rfl, r⟩
theorem RpL.one' {G : Hp} {al : List Addr} {d : D} {vs : List V} (r : RpL T G al [d] vs) : ∃ v, vs = [v] ∧ Rp T G al d v := r.one
theorem RpL.nil_inv {G : Hp} {al : List Addr} {vs : List V} (r : RpL T G al [] vs) : vs = [] := by cases r; rfl
theorem mt_uApp : MtR X "list.append" (rMu T uApp) := by
  intro pins s σ H x xs v us Q I rx rxs h
  obtain ⟨G, al, c, p, ho, d, ds, d', dr, rfl, hs, hp, b, rl, hu, q⟩ := h
  unfold uApp at hu
  split at hu
  case h_2 => cases hu
  case h_1 ys y =>
    split at hu
    case isFalse => cases hu
    case isTrue hl =>
      cases hu
      obtain ⟨vs, rfl, rl2⟩ := b.lst_inv
      obtain ⟨w, rfl, rw'⟩ := rl.one
      exact mt_append pins s σ H _ _ v us Q I rx rxs ⟨p, vs, w, rfl, rfl, hp, by rw [← rl2.length]; exact Nat.lt_of_lt_of_le hl lim_line, q .non _ .non (.lst (rl2.append (.cons rw' .nil)))⟩
theorem mt_uPop : MtR X "list.pop" (rMu T uPop) := by
  intro pins s σ H x xs v us Q I rx rxs h
  obtain ⟨G, al, c, p, ho, d, ds, d', dr, rfl, hs, hp, b, rl, hu, q⟩ := h
  unfold uPop at hu
  split at hu
  case h_1 ys =>
    split at hu
    case h_2 => cases hu
    case h_1 y e =>
      cases hu
      obtain ⟨vs, rfl, rl2⟩ := b.lst_inv
      obtain ⟨w, hw, rw'⟩ := rl2.get e
      have e1 := rl.nil_inv
      subst e1
      exact mt_pop pins s σ H _ _ v us Q I rx rxs ⟨p, vs, w, rfl, rfl, hp, by rw [← rl2.length]; exact hw, q w _ rw' (.lst rl2.dropLast)⟩
  case h_2 ys i =>
    split at hu
    case isFalse => cases hu
    case isTrue hi =>
      split at hu
      case h_2 => cases hu
      case h_1 k e1 =>
        split at hu
        case h_2 => cases hu
        case h_1 y e2 =>
          cases hu
          obtain ⟨vs, rfl, rl2⟩ := b.lst_inv
          obtain ⟨w, hw, rw'⟩ := rl2.get e2
          obtain ⟨z, rfl, rz⟩ := rl.one
          have ez : z = .int i := Rq.int_inv (H := H) (.inl rz)
          subst ez
          obtain ⟨h1, h2⟩ := small62_ok hi
          rw [rl2.length] at e1
          exact mt_popAt pins s σ H _ _ v us Q I rx rxs ⟨p, vs, i, k, w, rfl, rfl, hp, by omega, by omega, e1, hw, q w _ rw' (.lst (rl2.eraseIdx k))⟩
  case h_3 => cases hu
theorem mt_uRev : MtR X "list.reverse" (rMu T uRev) := by
  intro pins s σ H x xs v us Q I rx rxs h
  obtain ⟨G, al, c, p, ho, d, ds, d', dr, rfl, hs, hp, b, rl, hu, q⟩ := h
  unfold uRev at hu
  split at hu
  case h_2 => cases hu
  case h_1 ys =>
    cases hu
    obtain ⟨vs, rfl, rl2⟩ := b.lst_inv
    have e1 := rl.nil_inv
    subst e1
    exact mt_reverse pins s σ H _ _ v us Q I rx rxs ⟨p, vs, rfl, rfl, hp, q .non _ .non (.lst rl2.reverse)⟩
theorem mt_uClr : MtR X "list.clear" (rMu T uClr) := by
  intro pins s σ H x xs v us Q I rx rxs h
  obtain ⟨G, al, c, p, ho, d, ds, d', dr, rfl, hs, hp, b, rl, hu, q⟩ := h
  unfold uClr at hu
  split at hu
  case h_2 => cases hu
  case h_1 ys =>
    cases hu
    obtain ⟨vs, rfl, rl2⟩ := b.lst_inv
    have e1 := rl.nil_inv
    subst e1
    exact mt_clear pins s σ H _ _ v us Q I rx rxs ⟨p, vs, rfl, rfl, hp, q .non _ .non (.lst .nil)⟩
end
/-- the built-in type by whose method the object is changed -/
def isTy (tn : String) (d : D) : Bool := match d with
  | .lst _ => tn == "list"
  | _ => false
section
variable {T : Tb} {n : Nat} {X : Cx} {pos p2 cpos apos px : Pos} {o e : Expr} {es : List Expr} {fo fe : FE} {fa : FA} {up : Up} {tn name : String} {nm x : Str} {bid : String}
theorem isTy_v {G : Hp} {al : List Addr} {H : Hp} {p : Addr} {ho : HO} {d : D} (h : isTy tn d = true) (hp : H p = some ho) (b : Bx T G al p ho d) : tyV X.K tn (.ref p) H := by
  cases d with
  | lst ds =>
    obtain ⟨vs, rfl, _⟩ := b.lst_inv
    have : tn = "list" := by simpa [isTy] using h
    exact .inl ⟨this, vs, SqL.of hp⟩
  | _ => cases h
/-- o.m(..), o a cell -/
def fMut (tn : String) (up : Up) (fo : FE) (fa : FA) : FE := fun env c => match fo env c with
  | some (.cell k, c1) => match c1[k]? with
    | some d0 => if isTy tn d0 = true then match fa env c1 with
      | some (ds, c2) => match c2[k]? with
        | some d => match up d ds with
          | some (r, d') => some (r, c2.set k d')
          | none => none
        | none => none
      | none => none else none
    | none => none
  | _ => none
theorem tr_mut (pa : PlainAttrs tn) (slot : Slot tn nm bid) (hty : typeOf (.builtin bid) = pure (.type "method_descriptor")) (hm : MtR X bid (rMu T up)) (ho : TrE T n X o fo) (ha : TrA T n X (e :: es) fa)
    (hbase : attributeBase o nm X.env (eval o X.env) = eval o X.env := by rfl)
    (hfew : ((backTo cpos (starEach (e :: es) X.env)).all (fun x => !x.1) && (backToKw cpos (keywordEach [] X.env)).all (fun x => x.1.isSome)
      && decide ((e :: es).length + ([] : List Keyword).length + (if ([] : List Keyword).isEmpty then 0 else 1) < 30)) = true := by rfl)
    (hline : (apos.endLine == cpos.line) = true := by rfl) (hs : starEach (e :: es) X.env = (false, eval e X.env) :: starEach es X.env := by rfl) (hplain : (backTo cpos (starEach es X.env)).any (·.1) = false := by rfl) :
    TrE T n X (.Call (.Attribute o nm apos) (e :: es) [] cpos) (fMut tn up fo fa) := by
  refine ⟨fun t G al c env σ H Q d c' hst he hf q => ofE (pe_bm pa slot hty hm (peS o) (paS (e :: es)) hbase hfew hline hs hplain) ?_⟩
  unfold fMut at hf
  split at hf
  case h_2 => cases hf
  case h_1 k c1 e1 =>
    split at hf
    case h_2 => cases hf
    case h_1 d0 e2 =>
      split at hf
      case isFalse => cases hf
      case isTrue hT =>
        split at hf
        case h_2 => cases hf
        case h_1 ds c2 e3 =>
          split at hf
          case h_2 => cases hf
          case h_1 d1 e4 =>
            split at hf
            case h_2 => cases hf
            case h_1 r d' e5 =>
              cases hf
              refine ho.run t G al c env σ H _ _ _ hst he e1 fun G1 al1 H1 v l1 hs1 r1 => ?_
              cases r1 with
              | box _ z => cases z
              | cell hk =>
                rename_i p
                obtain ⟨_, ho1, hp1, b1⟩ := hs1.at_ k _ _ hk e2
                refine ⟨isTy_v hT hp1 b1, ha.run t G1 al1 c1 env σ H1 _ _ _ hs1 (he.mono l1) e3 fun G2 al2 H2 vs l2 hs2 rl => ?_⟩
                have hk2 := l2.le.get hk
                obtain ⟨_, ho2, hp2, b2⟩ := hs2.at_ k _ _ hk2 e4
                refine ⟨G2, al2, c2, p, ho2, d1, ds, d', d, rfl, hs2, hp2, b2, rl, e5, fun w o' rw' b' => ?_⟩
                exact q G2 al2 _ w ((l1.trans l2).trans (.put hk2)) (hs2.put hk2 b') rw'
theorem tr_mut0 (pa : PlainAttrs tn) (slot : Slot tn nm bid) (hty : typeOf (.builtin bid) = pure (.type "method_descriptor")) (hm : MtR X bid (rMu T up)) (ho : TrE T n X o fo)
    (hbase : attributeBase o nm X.env (eval o X.env) = eval o X.env := by rfl) (hline : (apos.endLine == cpos.line) = true := by rfl) :
    TrE T n X (.Call (.Attribute o nm apos) [] [] cpos) (fMut tn up fo aNil) := by
  refine ⟨fun t G al c env σ H Q d c' hst he hf q => ofE (pe_bm0 pa slot hty hm (peS o) hbase hline) ?_⟩
  unfold fMut at hf
  split at hf
  case h_2 => cases hf
  case h_1 k c1 e1 =>
    split at hf
    case h_2 => cases hf
    case h_1 d0 e2 =>
      split at hf
      case isFalse => cases hf
      case isTrue hT =>
        split at hf
        case h_2 => cases hf
        case h_1 ds c2 e3 =>
          cases e3
          split at hf
          case h_2 => cases hf
          case h_1 d1 e4 =>
            split at hf
            case h_2 => cases hf
            case h_1 r d' e5 =>
              cases hf
              refine ho.run t G al c env σ H _ _ _ hst he e1 fun G1 al1 H1 v l1 hs1 r1 => ?_
              cases r1 with
              | box _ z => cases z
              | cell hk =>
                rename_i p
                obtain ⟨_, ho1, hp1, b1⟩ := hs1.at_ k _ _ hk e4
                rw [e2] at e4
                cases e4
                refine ⟨isTy_v hT hp1 b1, G1, al1, c1, p, ho1, d0, [], d', d, rfl, hs1, hp1, b1, .nil, e5, fun w o' rw' b' => ?_⟩
                exact q G1 al1 _ w (l1.trans (.put hk)) (hs1.put hk b') rw'
/-- x.m(..) as a statement, x an object of one's own -/
def fMutO (tn : String) (up : Up) (i : Nat) (fa : FA) : FS := fun env c => match env[i]? with
  | some (some (.o d)) => if isTy tn d = true then match fa env c with
    | some (ds, c1) => match up d ds with
      | some (_, d') => some (.nx, env.set i (some (.o d')), c1)
      | none => none
    | none => none else none
  | _ => none
theorem ts_mutO (i : Nat) (pa : PlainAttrs tn) (slot : Slot tn nm bid) (hty : typeOf (.builtin bid) = pure (.type "method_descriptor")) (hm : MtR X bid (rMu T up)) (ha : TrA T n X (e :: es) fa)
    (hN : X.N[i]? = some x := by rfl) (hv : Vis X.env.scope x := by first | exact Or.inl rfl | exact Or.inr (Or.inl rfl) | exact Or.inr (Or.inr rfl)) (hd : (x == ("__debug__" : Str)) = false := by decide) (hcd : (x == ("__classdict__" : Str)) = false := by decide)
    (hsw : swapsWith (.Call (.Attribute (.Name x px) nm apos) (e :: es) [] cpos) none pos.line X.env = pure false := by rfl)
    (hbase : attributeBase (.Name x px) nm X.env (eval (.Name x px) X.env) = eval (.Name x px) X.env := by rfl)
    (hfew : ((backTo cpos (starEach (e :: es) X.env)).all (fun x => !x.1) && (backToKw cpos (keywordEach [] X.env)).all (fun x => x.1.isSome)
      && decide ((e :: es).length + ([] : List Keyword).length + (if ([] : List Keyword).isEmpty then 0 else 1) < 30)) = true := by rfl)
    (hline : (apos.endLine == cpos.line) = true := by rfl) (hs : starEach (e :: es) X.env = (false, eval e X.env) :: starEach es X.env := by rfl) (hplain : (backTo cpos (starEach es X.env)).any (·.1) = false := by rfl) :
    TrS T n X (.Expr (.Call (.Attribute (.Name x px) nm apos) (e :: es) [] cpos) pos) (fMutO tn up i fa) := by
  refine ⟨fun t B G al c env σ H E r env' c' k hf q => ofS (ps_expr (pe_bm pa slot hty hm (pe_var hN hv hd hcd) (paS (e :: es)) hbase hfew hline hs hplain) hsw) ?_⟩
  unfold fMutO at hf
  split at hf
  case h_2 => cases hf
  case h_1 d0 e1 =>
    split at hf
    case isFalse => cases hf
    case isTrue hT =>
      split at hf
      case h_2 => cases hf
      case h_1 ds c1 e2 =>
        split at hf
        case h_2 => cases hf
        case h_1 dr d' e3 =>
          cases hf
          obtain ⟨a, o0, hsl, hg, hal, hh, b0⟩ := k.he.own i d0 e1
          refine ⟨.ref a, hsl, isTy_v hT hh b0, ha.run t G al c env σ H _ _ _ k.hs k.he e2 fun G2 al2 H2 vs l2 hs2 rl => ?_⟩
          have k2 := k.step l2 hs2
          obtain ⟨a', o2, hsl2, hg2, hal2, hh2, b2⟩ := k2.he.own i d0 e1
          rw [hsl] at hsl2; cases hsl2
          exact ⟨G2, al2, _, a, o2, d0, ds, d', dr, rfl, hs2, hh2, b2, rl, e3, fun w o' rw' b' => q G2 al2 σ _ l2.le (k2.putO e1 hsl b')⟩
theorem ts_mutO0 (i : Nat) (pa : PlainAttrs tn) (slot : Slot tn nm bid) (hty : typeOf (.builtin bid) = pure (.type "method_descriptor")) (hm : MtR X bid (rMu T up))
    (hN : X.N[i]? = some x := by rfl) (hv : Vis X.env.scope x := by first | exact Or.inl rfl | exact Or.inr (Or.inl rfl) | exact Or.inr (Or.inr rfl)) (hd : (x == ("__debug__" : Str)) = false := by decide) (hcd : (x == ("__classdict__" : Str)) = false := by decide)
    (hsw : swapsWith (.Call (.Attribute (.Name x px) nm apos) [] [] cpos) none pos.line X.env = pure false := by rfl)
    (hbase : attributeBase (.Name x px) nm X.env (eval (.Name x px) X.env) = eval (.Name x px) X.env := by rfl) (hline : (apos.endLine == cpos.line) = true := by rfl) :
    TrS T n X (.Expr (.Call (.Attribute (.Name x px) nm apos) [] [] cpos) pos) (fMutO tn up i aNil) := by
  refine ⟨fun t B G al c env σ H E r env' c' k hf q => ofS (ps_expr (pe_bm0 pa slot hty hm (pe_var hN hv hd hcd) hbase hline) hsw) ?_⟩
  unfold fMutO at hf
  split at hf
  case h_2 => cases hf
  case h_1 d0 e1 =>
    split at hf
    case isFalse => cases hf
    case isTrue hT =>
      split at hf
      case h_2 => cases hf
      case h_1 ds c1 e2 =>
        cases e2
        split at hf
        case h_2 => cases hf
        case h_1 dr d' e3 =>
          cases hf
          obtain ⟨a, o0, hsl, hg, hal, hh, b0⟩ := k.he.own i d0 e1
          exact ⟨.ref a, hsl, isTy_v hT hh b0, G, al, _, a, o0, d0, [], d', dr, rfl, k.hs, hh, b0, .nil, e3, fun w o' rw' b' => q G al σ _ (.refl _ _) (k.putO e1 hsl b')⟩
end
end Pd
set_option Elab.async false
set_option linter.all false
set_option maxRecDepth 100000
/-! Pd12: stores, while, parallel stores, methods of texts and lists. -/
namespace Pd
open PySem PySem.Spec PyProof.Rows L2

/-! ### o[i] = e -/
abbrev Ust := D → D → D → Option D
def rSt (T : Tb) (u : Ust) : TSet := fun o i v H Q => ∃ (G : Hp) (al : List Addr) (c : Cs) (p : Addr) (ho : HO) (d di dv d' : D), o = .ref p ∧ HSt T G al c H ∧ H p = some ho ∧ Bx T G al p ho d ∧ Rp T G al di i ∧ Rp T G al dv v ∧ u d di dv = some d' ∧
  ∀ o', Bx T G al p o' d' → Q (upd H p o')
def uSetL : Ust := fun d di dv => match d, di with
  | .lst xs, .int i => match ixN xs.length i with | some j => some (.lst (xs.set j dv)) | none => none
  | _, _ => none
section
variable {T : Tb} {n : Nat} {X : Cx} {pos p2 cpos apos px tpos : Pos} {o e ie tg : Expr} {es body : List Expr} {fo fe fi : FE} {fa : FA} {nm x : Str} {bid : String} {ust : Ust}
theorem set_uSetL : PSet X (rSt T uSetL) := by
  intro pins s σ H o i v ov iv u Q I ro ri rv h
  obtain ⟨G, al, c, p, ho, d, di, dv, d', rfl, hs, hp, b, r1, r2, hu, q⟩ := h
  unfold uSetL at hu
  split at hu
  case h_2 => cases hu
  case h_1 xs k =>
    split at hu
    case h_2 => cases hu
    case h_1 j e =>
      cases hu
      obtain ⟨vs, rfl, rl⟩ := b.lst_inv
      have ei : i = .int k := Rq.int_inv (H := H) (.inl r1)
      subst ei
      rw [rl.length] at e
      exact set_list pins s σ H _ _ v ov iv u Q I ro ri rv ⟨p, vs, k, j, rfl, rfl, hp, e, q _ (.lst (rl.set r2 j))⟩
/-- o a cell -/
def fStC (u : Ust) (fe fo fi : FE) : FS := fun env c => match fe env c with
  | some (dv, c1) => match fo env c1 with
    | some (.cell k, c2) => match fi env c2 with
      | some (di, c3) => match c3[k]? with
        | some d => match u d di dv with
          | some d' => some (.nx, env, c3.set k d')
          | none => none
        | none => none
      | none => none
    | _ => none
  | none => none
theorem ts_stC (hS : Tied T n X → PSet X (rSt T ust)) (he : TrE T n X e fe) (ho : TrE T n X o fo) (hi : TrE T n X ie fi)
    (ha : ∀ v, assign (.Subscript o ie tpos) X.env v = (do
      let ov ← holding [v] (eval o X.env)
      let iv ← holding [v, ov] (eval ie X.env)
      standAt tpos
      holding [v, ov, iv] (setItem ov iv v)
      release [v, ov, iv] []) := by intro _; rfl)
    (hs : swapsWithSole [.Subscript o ie tpos] e pos.line X.env = pure false := by rfl) (hw : swappedStores [.Subscript o ie tpos] e X.env = pure none := by rfl) (h1 : (assignEach [.Subscript o ie tpos] X.env).map (·.2) = [assign (.Subscript o ie tpos) X.env] := by rfl) :
    TrS T n X (.Assign [.Subscript o ie tpos] e pos) (fStC ust fe fo fi) := by
  refine ⟨fun t B G al c env σ H E r env' c' k hf q => ofS (ps_asg (peS e) (pg_sub (peS o) (peS ie) (hS t) ha) hs hw h1) ?_⟩
  unfold fStC at hf
  split at hf
  case h_2 => cases hf
  case h_1 dv c1 e1 =>
    split at hf
    case h_2 => cases hf
    case h_1 kk c2 e2 =>
      split at hf
      case h_2 => cases hf
      case h_1 di c3 e3 =>
        split at hf
        case h_2 => cases hf
        case h_1 d0 e4 =>
          split at hf
          case h_2 => cases hf
          case h_1 d' e5 =>
            cases hf
            refine he.run t G al c env σ H _ _ _ k.hs k.he e1 fun G1 al1 H1 v l1 hs1 r1 => ?_
            have k1 := k.step l1 hs1
            refine ho.run t G1 al1 c1 env σ H1 _ _ _ hs1 k1.he e2 fun G2 al2 H2 ov l2 hs2 r2 => ?_
            have k2 := k1.step l2 hs2
            refine hi.run t G2 al2 c2 env σ H2 _ _ _ hs2 k2.he e3 fun G3 al3 H3 iv l3 hs3 r3 => ?_
            have k3 := k2.step l3 hs3
            have r2' := r2.mono l3.le
            cases r2' with
            | box _ z => cases z
            | cell hk =>
              rename_i p
              obtain ⟨_, ho3, hp3, b3⟩ := hs3.at_ kk _ _ hk e4
              exact ⟨G3, al3, c3, p, ho3, d0, di, dv, d', rfl, hs3, hp3, b3, r3, (r1.mono l2.le).mono l3.le, e5, fun o' b' => q G3 al3 σ _ ((l1.le.trans l2.le).trans l3.le) (k3.putC hk b')⟩
/-- o an object of one's own -/
def fStO (u : Ust) (i : Nat) (fe fi : FE) : FS := fun env c => match fe env c with
  | some (dv, c1) => match env[i]? with
    | some (some (.o d)) => match fi env c1 with
      | some (di, c3) => match u d di dv with
        | some d' => some (.nx, env.set i (some (.o d')), c3)
        | none => none
      | none => none
    | _ => none
  | none => none
theorem ts_stO (i : Nat) (hS : Tied T n X → PSet X (rSt T ust)) (he : TrE T n X e fe) (hi : TrE T n X ie fi)
    (hN : X.N[i]? = some x := by rfl) (hv : Vis X.env.scope x := by first | exact Or.inl rfl | exact Or.inr (Or.inl rfl) | exact Or.inr (Or.inr rfl)) (hd : (x == ("__debug__" : Str)) = false := by decide) (hcd : (x == ("__classdict__" : Str)) = false := by decide)
    (ha : ∀ v, assign (.Subscript (.Name x px) ie tpos) X.env v = (do
      let ov ← holding [v] (eval (.Name x px) X.env)
      let iv ← holding [v, ov] (eval ie X.env)
      standAt tpos
      holding [v, ov, iv] (setItem ov iv v)
      release [v, ov, iv] []) := by intro _; rfl)
    (hs : swapsWithSole [.Subscript (.Name x px) ie tpos] e pos.line X.env = pure false := by rfl) (hw : swappedStores [.Subscript (.Name x px) ie tpos] e X.env = pure none := by rfl) (h1 : (assignEach [.Subscript (.Name x px) ie tpos] X.env).map (·.2) = [assign (.Subscript (.Name x px) ie tpos) X.env] := by rfl) :
    TrS T n X (.Assign [.Subscript (.Name x px) ie tpos] e pos) (fStO ust i fe fi) := by
  refine ⟨fun t B G al c env σ H E r env' c' k hf q => ofS (ps_asg (peS e) (pg_sub (pe_var hN hv hd hcd) (peS ie) (hS t) ha) hs hw h1) ?_⟩
  unfold fStO at hf
  split at hf
  case h_2 => cases hf
  case h_1 dv c1 e1 =>
    split at hf
    case h_2 => cases hf
    case h_1 d0 e4 =>
      split at hf
      case h_2 => cases hf
      case h_1 di c3 e3 =>
        split at hf
        case h_2 => cases hf
        case h_1 d' e5 =>
          cases hf
          refine he.run t G al c env σ H _ _ _ k.hs k.he e1 fun G1 al1 H1 v l1 hs1 r1 => ?_
          have k1 := k.step l1 hs1
          obtain ⟨a, o1, hsl, _, _, _, _⟩ := k1.he.own i d0 e4
          refine ⟨.ref a, hsl, hi.run t G1 al1 c1 env σ H1 _ _ _ hs1 k1.he e3 fun G3 al3 H3 iv l3 hs3 r3 => ?_⟩
          have k3 := k1.step l3 hs3
          obtain ⟨a', o3, hsl3, _, _, hh3, b3⟩ := k3.he.own i d0 e4
          rw [hsl] at hsl3; cases hsl3
          exact ⟨G3, al3, _, a, o3, d0, di, dv, d', rfl, hs3, hh3, b3, r3, r1.mono l3.le, e5, fun o' b' => q G3 al3 σ _ (l1.le.trans l3.le) (k3.putO e4 hsl b')⟩

/-! ### fields -/
/-- self.f = e, self an object of one's own at slot i (in __init__) -/
def fFldO (ks : List (Nat × Nat)) (i : Nat) (fe : FE) : FS := fun env c => match fe env c with
  | some (dv, c1) => match env[i]? with
    | some (some (.o (.obj k ds))) => match ks.lookup k with
      | some j => match fldPut j ds dv with
        | some ds' => some (.nx, env.set i (some (.o (.obj k ds'))), c1)
        | none => none
      | none => none
    | _ => none
  | none => none
theorem Bx.put {G : Hp} {al : List Addr} {p dx : Addr} {k j : Nat} {ds ds' : List D} {vs : List V} {dv : D} {v : V} {f : Str} (rl : RpL T G al ds vs) (hl : ds.length ≤ (T.fl k).length) (nd : (T.fl k).Nodup) (hf : (T.fl k)[j]? = some f) (r : Rp T G al dv v) (h : fldPut j ds dv = some ds') :
    Bx T G al p (.ins (T.cl k) dx (putF f v ((T.fl k).zip vs))) (.obj k ds') := by
  unfold fldPut at h
  have hj : j < (T.fl k).length := (List.getElem?_eq_some_iff.mp hf).1
  have hvl : vs.length ≤ (T.fl k).length := by rw [← rl.length]; exact hl
  split at h
  case isTrue h1 =>
    cases h
    have h1' : j < vs.length := by rw [← rl.length]; exact h1
    rw [putF_zip nd hf (by omega) hvl, if_pos h1']
    exact .obj (rl.set r j) (by rw [List.length_set]; exact hl)
  case isFalse h1 =>
    split at h
    case isFalse => cases h
    case isTrue h2 =>
      cases h
      have h2' : j = vs.length := by rw [← rl.length]; exact h2
      rw [putF_zip nd hf (by omega) hvl, if_neg (by omega)]
      exact .obj (rl.append (.cons r .nil)) (by rw [List.length_append, List.length_singleton]; omega)
theorem ts_fldO {f : Str} {ks : List (Nat × Nat)} (i : Nat) (A : Acc T f ks) (he : TrE T n X e fe) (hk : ∀ k, (T.fl k).length < 1000) (hN : X.N[i]? = some x := by rfl) (hv : Vis X.env.scope x := by first | exact Or.inl rfl | exact Or.inr (Or.inl rfl) | exact Or.inr (Or.inr rfl)) (hd : (x == ("__debug__" : Str)) = false := by decide) (hcd : (x == ("__classdict__" : Str)) = false := by decide)
    (hs : swapsWith e (some (.Attribute (.Name x px) f tpos)) pos.line X.env = pure false := by rfl) : TrS T n X (.Assign [.Attribute (.Name x px) f tpos] e pos) (fFldO ks i fe) := by
  refine ⟨fun t B G al c env σ H E r env' c' k hf q => ofS (ps_fld (pe_var hN hv hd hcd) (peS e) hs) ?_⟩
  unfold fFldO at hf
  split at hf
  case h_2 => cases hf
  case h_1 dv c1 e1 =>
    split at hf
    case h_2 => cases hf
    case h_1 kk ds e4 =>
      split at hf
      case h_2 => cases hf
      case h_1 j e3 =>
        split at hf
        case h_2 => cases hf
        case h_1 ds' e5 =>
          cases hf
          refine he.run t G al c env σ H _ _ _ k.hs k.he e1 fun G1 al1 H1 v l1 hs1 r1 => ?_
          have k1 := k.step l1 hs1
          obtain ⟨a, o1, hsl, hg, hal, hh, b⟩ := k1.he.own i _ e4
          obtain ⟨h1, h2, h3, h4⟩ := A.ok kk j e3
          cases b with
          | obj rl hl =>
            rename_i dx vs
            refine ⟨.ref a, hsl, a, _, dx, _, rfl, hh, by rw [t.K]; exact h1, by rw [t.K]; exact h2, ?_, ?_⟩
            · have := hk kk
              rw [List.length_zip]
              omega
            · exact q G1 al1 σ _ l1.le (k1.putO e4 hsl (Bx.put rl hl h4 h3 r1 e5))
/-- o.f = e, o a cell -/
def fFldC (ks : List (Nat × Nat)) (fe fo : FE) : FS := fun env c => match fe env c with
  | some (dv, c1) => match fo env c1 with
    | some (.cell m, c2) => match c2[m]? with
      | some (.obj k ds) => match ks.lookup k with
        | some j => match fldPut j ds dv with
          | some ds' => some (.nx, env, c2.set m (.obj k ds'))
          | none => none
        | none => none
      | _ => none
    | _ => none
  | none => none
theorem ts_fldC {f : Str} {ks : List (Nat × Nat)} (A : Acc T f ks) (he : TrE T n X e fe) (ho : TrE T n X o fo) (hk : ∀ k, (T.fl k).length < 1000) (hs : swapsWith e (some (.Attribute o f tpos)) pos.line X.env = pure false := by rfl) : TrS T n X (.Assign [.Attribute o f tpos] e pos) (fFldC ks fe fo) := by
  refine ⟨fun t B G al c env σ H E r env' c' k hf q => ofS (ps_fld (peS o) (peS e) hs) ?_⟩
  unfold fFldC at hf
  split at hf
  case h_2 => cases hf
  case h_1 dv c1 e1 =>
    split at hf
    case h_2 => cases hf
    case h_1 m c2 e2 =>
      split at hf
      case h_2 => cases hf
      case h_1 kk ds e4 =>
        split at hf
        case h_2 => cases hf
        case h_1 j e3 =>
          split at hf
          case h_2 => cases hf
          case h_1 ds' e5 =>
            cases hf
            refine he.run t G al c env σ H _ _ _ k.hs k.he e1 fun G1 al1 H1 v l1 hs1 r1 => ?_
            have k1 := k.step l1 hs1
            refine ho.run t G1 al1 c1 env σ H1 _ _ _ hs1 k1.he e2 fun G2 al2 H2 ov l2 hs2 r2 => ?_
            have k2 := k1.step l2 hs2
            cases r2 with
            | box _ z => cases z
            | cell hm =>
              rename_i p
              obtain ⟨_, ho2, hp2, b⟩ := hs2.at_ m _ _ hm e4
              obtain ⟨h1, h2, h3, h4⟩ := A.ok kk j e3
              cases b with
              | obj rl hl =>
                rename_i dx vs
                refine ⟨p, _, dx, _, rfl, hp2, by rw [t.K]; exact h1, by rw [t.K]; exact h2, ?_, ?_⟩
                · have := hk kk
                  rw [List.length_zip]
                  omega
                · exact q G2 al2 σ _ (l1.le.trans l2.le) (k2.putC hm (Bx.put rl hl h4 h3 (r1.mono l2.le) e5))
end

/-! ### targets: a tuple or a list -/
def gSeq (k : Nat) (gs : FGs) : FG := fun d env => match d with
  | .tup ds => if ds.length = k then gs ds env else none
  | .lst ds => if ds.length = k then gs ds env else none
  | _ => none
section
variable {T : Tb} {n : Nat} {X : Cx} {pos : Pos} {es : List Expr} {gs : FGs} {ws : List Nat}
theorem tg_seq {k0 k : Nat} (h : TrGs T n X es ws gs) (hn : (assignEach es X.env).length = k := by rfl) (hst : (assignEach es X.env).findIdx? (·.1) = none := by rfl) : TrG T n X (.Tuple es k0 pos) ws (gSeq k gs) := by
  refine ⟨fun t G al c env σ H d v env' Q hs he r hg q => ?_⟩
  unfold gSeq at hg
  split at hg
  case h_3 => cases hg
  case h_1 ds =>
    split at hg
    case isFalse => cases hg
    case isTrue hl =>
      obtain ⟨a, vs, rfl, hq, rl⟩ := r.tup_inv
      refine ofG (pg_tup t.calm (pgsS es) hn hst) ⟨a, vs, rfl, ?_, rl.length.symm.trans hl, h.run t G al c env σ H ds vs env' Q hs he rl hg q⟩
      rw [t.K]
      exact sqT_h hs.ex hq
  case h_2 ds =>
    split at hg
    case isFalse => cases hg
    case isTrue hl =>
      obtain ⟨a, vs, rfl, hq, rl⟩ := r.lst_inv
      exact ofG (pg_lst t.calm (pgsS es) hn hst) ⟨a, vs, rfl, SqL.of (hs.ex _ _ hq), rl.length.symm.trans hl, h.run t G al c env σ H ds vs env' Q hs he rl hg q⟩
end

/-! ### while -/
/-- k turns at most -/
def whileD (ft : FT) (fb : FS) : Nat → FS
  | 0, _, _ => none
  | k + 1, env, c => match ft env c with
    | some (true, c1) => match fb env c1 with
      | some (.nx, env2, c2) => whileD ft fb k env2 c2
      | some (.ct, env2, c2) => whileD ft fb k env2 c2
      | some (.bk, env2, c2) => some (.nx, env2, c2)
      | some (.rt d, env2, c2) => some (.rt d, env2, c2)
      | none => none
    | some (false, c1) => some (.nx, env, c1)
    | none => none
theorem whileD_mono {ft : FT} {fb : FS} : ∀ {k m : Nat} {env : En} {c : Cs} {r : Fl × En × Cs}, whileD ft fb k env c = some r → k ≤ m → whileD ft fb m env c = some r
  | 0, _, _, _, _, h, _ => by cases h
  | k + 1, 0, _, _, _, _, hm => by omega
  | k + 1, m + 1, env, c, r, h, hm => by
    unfold whileD at h ⊢
    cases e1 : ft env c with
    | none => rw [e1] at h; cases h
    | some p =>
      obtain ⟨b, c1⟩ := p
      rw [e1] at h
      cases b with
      | false => exact h
      | true =>
        dsimp only at h ⊢
        cases e2 : fb env c1 with
        | none => rw [e2] at h; cases h
        | some p2 =>
          obtain ⟨fl, env2, c2⟩ := p2
          rw [e2] at h
          cases fl with
          | nx => exact whileD_mono h (by omega)
          | ct => exact whileD_mono h (by omega)
          | bk => exact h
          | rt d => exact h
def fWhile (ft : FT) (fb : FS) : FS := whileD ft fb lim
section
variable {T : Tb} {n : Nat} {X : Cx} {pos : Pos} {e : Expr} {body : List Stmt} {ft : FT} {fb : FS}
theorem ts_while (hc : TrT T n X e ft) (hb : TrB T n X body fb) (hp : Tied T n X → PassesOwn (model X.prog X.w) X.A X.env X.xe := by intro _; exact PassesOwn.never) : TrS T n X (.While e body [] pos) (fWhile ft fb) := by
  refine ⟨fun t B G al c env σ H E r env' c' k hf q => ofS (ps_while (hp t) (ptS e) (pbS body)) ?_⟩
  unfold fWhile at hf
  refine ⟨fun m σ2 H2 => ∃ G2 al2 c2 env2, Le G al G2 al2 ∧ Ok T B G2 al2 c2 H2 env2 σ2 ∧ whileD ft fb m env2 c2 = some (r, env', c'), ⟨lim, G, al, c, env, .refl _ _, k, hf⟩, ?_⟩
  rintro m σ2 H2 ⟨G2, al2, c2, env2, le2, k2, hr⟩
  cases m with
  | zero => cases hr
  | succ m =>
    unfold whileD at hr
    split at hr
    case h_3 => cases hr
    case h_2 c3 e1 =>
      cases hr
      exact hc.run t G2 al2 c2 _ σ2 H2 _ _ _ k2.hs k2.he e1 fun G3 al3 H3 l3 hs3 => iteF (q G3 al3 σ2 H3 (le2.trans l3.le) (k2.step l3 hs3))
    case h_1 c3 e1 =>
      refine hc.run t G2 al2 c2 env2 σ2 H2 _ _ _ k2.hs k2.he e1 fun G3 al3 H3 l3 hs3 => iteT ?_
      have k3 := k2.step l3 hs3
      have le3 := le2.trans l3.le
      refine ⟨fun σ' H' => ∃ G' al' cn en, Le G al G' al' ∧ Ok T B G' al' cn H' en σ' ∧ whileD ft fb m en cn = some (r, env', c'), fun σ' H' ⟨G', al', cn, en, le', k', hr'⟩ => ⟨m, Nat.lt_succ_self m, G', al', cn, en, le', k', hr'⟩, ?_⟩
      split at hr
      case h_1 en cn eb => exact hb.run t B G3 al3 c3 env2 σ2 H3 _ _ _ _ k3 eb fun G5 al5 σ5 H5 l5 k5 => ⟨G5, al5, cn, en, le3.trans l5, k5, hr⟩
      case h_2 en cn eb => exact hb.run t B G3 al3 c3 env2 σ2 H3 _ _ _ _ k3 eb fun G5 al5 σ5 H5 l5 k5 => ⟨G5, al5, cn, en, le3.trans l5, k5, hr⟩
      case h_3 en cn eb => cases hr; exact hb.run t B G3 al3 c3 env2 σ2 H3 _ _ _ _ k3 eb fun G5 al5 σ5 H5 l5 k5 => q G5 al5 σ5 H5 (le3.trans l5) k5
      case h_4 dd en cn eb => cases hr; exact hb.run t B G3 al3 c3 env2 σ2 H3 _ _ _ _ k3 eb fun G5 al5 σ5 H5 l5 k5 => q G5 al5 σ5 H5 (le3.trans l5) k5
      case h_5 => cases hr
end

/-! ### a datum or an object of one's own -/
abbrev FX := En → Cs → Option (Sl × Cs)
abbrev AftX (T : Tb) (G : Hp) (al : List Addr) (H : Hp) (s : Sl) (c' : Cs) (Q : VK) : Prop := match s with
  | .f d => Aft T G al H d c' Q
  | .o d => AftN T G al H d c' Q
structure TrX (T : Tb) (n : Nat) (X : Cx) (e : Expr) (f : FX) : Prop where
  run : Tied T n X → ∀ (G : Hp) (al : List Addr) (c : Cs) (env : En) (σ : L2.St) (H : Hp) (Q : VK) (s : Sl) (c' : Cs), HSt T G al c H → EOk T G al H env σ → f env c = some (s, c') → AftX T G al H s c' Q → SemE X e σ H Q
def xF (f : FE) : FX := fun env c => match f env c with | some (d, c1) => some (.f d, c1) | none => none
def xO (f : FE) : FX := fun env c => match f env c with | some (d, c1) => some (.o d, c1) | none => none
section
variable {T : Tb} {n : Nat} {X : Cx} {pos px py pz pt pt2 : Pos} {a b e : Expr} {f : FE} {fa fb fc : FX}
theorem TrE.x (h : TrE T n X e f) : TrX T n X e (xF f) := by
  refine ⟨fun t G al c env σ H Q s c' hs he hf q => ?_⟩
  unfold xF at hf
  split at hf
  case h_2 => cases hf
  case h_1 d c1 e1 => cases hf; exact h.run t G al c env σ H Q d _ hs he e1 q
theorem TrN.x (h : TrN T n X e f) : TrX T n X e (xO f) := by
  refine ⟨fun t G al c env σ H Q s c' hs he hf q => ?_⟩
  unfold xO at hf
  split at hf
  case h_2 => cases hf
  case h_1 d c1 e1 => cases hf; exact h.run t G al c env σ H Q d _ hs he e1 q
/-- v is what the slot says; p: where it lies if it is one's own -/
def IsSl (T : Tb) (G : Hp) (al : List Addr) (H0 H : Hp) (s : Sl) (v : V) : Prop := match s with
  | .f d => Rp T G al d v
  | .o d => ∃ p o, v = .ref p ∧ G p = none ∧ p ∉ al ∧ H0 p = none ∧ H p = some o ∧ Bx T G al p o d
theorem IsSl.mono {G G' H0 H H' : Hp} {al al' : List Addr} {s : Sl} {v : V} (l : Stp G al H G' al' H') (h : IsSl T G al H0 H s v) : IsSl T G' al' H0 H' s v := by
  cases s with
  | f d => exact Rp.mono l.le h
  | o d =>
    obtain ⟨p, o, e, g, m, h0, hh, b⟩ := h
    obtain ⟨g', m', h'⟩ := l.fr p o g m hh
    exact ⟨p, o, e, g', m', h0, h', b.mono l.le⟩
theorem TrX.is (h : TrX T n X e fa) (t : Tied T n X) {G : Hp} {al : List Addr} {c c' : Cs} {env : En} {σ : L2.St} {H : Hp} {Q : VK} {s : Sl} (hs : HSt T G al c H) (he : EOk T G al H env σ) (hf : fa env c = some (s, c'))
    (q : ∀ (G' : Hp) (al' : List Addr) (H' : Hp) (v : V), Stp G al H G' al' H' → HSt T G' al' c' H' → IsSl T G' al' H H' s v → Q v H') : SemE X e σ H Q := by
  refine h.run t G al c env σ H Q s c' hs he hf ?_
  cases s with
  | f d => exact fun G' al' H' v l hs' r => q G' al' H' v l hs' r
  | o d => exact fun G' al' H' p o l hs' g m h0 hh b => q G' al' H' _ l hs' ⟨p, o, rfl, g, m, h0, hh, b⟩
def NewSl (T : Tb) (B : Base) (G : Hp) (al : List Addr) (H : Hp) (env : En) (σ : L2.St) (i : Nat) (v : V) : Sl → Prop
  | .f d => Rp T G al d v
  | .o d => ∃ p o, v = .ref p ∧ G p = none ∧ p ∉ al ∧ H p = some o ∧ Bx T G al p o d ∧ B.H p = none ∧ ∀ (j : Nat) (e : D), j ≠ i → env[j]? = some (some (.o e)) → σ[j]? ≠ some (some (.ref p))
theorem Ok.setS {B : Base} {G H : Hp} {al : List Addr} {c : Cs} {env : En} {σ : L2.St} (k : Ok T B G al c H env σ) (i : Nat) {s : Sl} {v : V} (h0 : i ≠ 0) (r : NewSl T B G al H env σ i v s) : Ok T B G al c H (env.set i (some s)) (σ.set i (some v)) := by
  cases s with
  | f d => exact k.set i r
  | o d =>
    obtain ⟨p, o, rfl, hg, ha, hp, hb, hB, hn⟩ := r
    refine ⟨k.hs0, k.hs, k.he.setO i hg ha hp hb hn, k.st, fun j e a q1 q2 => ?_, fun x e hx q1 => ?_⟩
    · by_cases hj : j = i
      · subst hj
        by_cases hl : j < env.length
        · rw [List.getElem?_set_self (by rw [← k.he.len]; exact hl)] at q2
          cases q2
          exact hB
        · rw [List.getElem?_eq_none (by simpa using hl)] at q1; cases q1
      · rw [List.getElem?_set_ne (Ne.symm hj)] at q1 q2
        exact k.nw j e a q1 q2
    · rw [List.getElem?_set_ne h0] at q1 ⊢
      exact k.se x e hx q1
/-- x, y = a, b -/
def fPar (i j : Nat) (fa fb : FX) : FS := fun env c => match fa env c with
  | some (s, c1) => match fb env c1 with
    | some (u, c2) => some (.nx, (env.set i (some s)).set j (some u), c2)
    | none => none
  | none => none
theorem IsSl.put {B : Base} {G H : Hp} {al : List Addr} {c : Cs} {env : En} {σ : L2.St} {G0 H0 : Hp} {al0 : List Addr} {c0 : Cs} {σ0 : L2.St} {env0 : En} (k0 : Ok T B G0 al0 c0 H0 env0 σ0) (k : Ok T B G al c H env σ) (i : Nat) {s : Sl} {v : V} (h0 : i ≠ 0) (r : IsSl T G al H0 H s v)
    (hn : ∀ (p : Addr) (d : D), s = .o d → v = .ref p → H0 p = none → ∀ (j : Nat) (e : D), j ≠ i → env[j]? = some (some (.o e)) → σ[j]? ≠ some (some (.ref p))) : Ok T B G al c H (env.set i (some s)) (σ.set i (some v)) := by
  refine k.setS i h0 ?_
  cases s with
  | f d => exact r
  | o d =>
    obtain ⟨p, o, e, g, m, hz, hh, b⟩ := r
    exact ⟨p, o, e, g, m, hh, b, fresh_before k0.hs0 k0.hs k0.st hz, hn p d rfl e hz⟩
theorem ts_par (i j : Nat) {x y : Str} {kt k2 : Nat} (ha : TrX T n X a fa) (hb : TrX T n X b fb) (hi0 : i ≠ 0 := by decide) (hj0 : j ≠ 0 := by decide) (hij : i ≠ j := by decide) (hi : X.N[i]? = some x := by rfl) (hj : X.N[j]? = some y := by rfl)
    (hx : X.env.scope.names.lookup x = some .local := by rfl) (hy : X.env.scope.names.lookup y = some .local := by rfl)
    (hst : starEach [a, b] X.env = (false, eval a X.env) :: starEach [b] X.env := by rfl) (hst2 : starEach [b] X.env = (false, eval b X.env) :: starEach [] X.env := by rfl)
    (hw : swappedStores [.Tuple [.Name x px, .Name y py] kt pt] (.Tuple [a, b] k2 pt2) X.env = pure (some [x, y]) := by rfl) (hs : swapsWithSole [.Tuple [.Name x px, .Name y py] kt pt] (.Tuple [a, b] k2 pt2) pos.line X.env = pure false := by rfl) :
    TrS T n X (.Assign [.Tuple [.Name x px, .Name y py] kt pt] (.Tuple [a, b] k2 pt2) pos) (fPar i j fa fb) := by
  refine ⟨fun t B G al c env σ H E r env' c' k hf q => ofS (ps_par t.calm t.nd hi hj hij hx hy (pa_cons (peS a) (pa_cons (peS b) pa_nil hst2) hst) hw hs) ?_⟩
  unfold fPar at hf
  split at hf
  case h_2 => cases hf
  case h_1 s c1 e1 =>
    split at hf
    case h_2 => cases hf
    case h_1 u c2 e2 =>
      cases hf
      refine ha.is t k.hs k.he e1 fun G1 al1 H1 v l1 hs1 r1 => ?_
      have k1 := k.step l1 hs1
      refine hb.is t hs1 k1.he e2 fun G2 al2 H2 w l2 hs2 r2 => ?_
      have k2 := k1.step l2 hs2
      have r1' := r1.mono l2
      refine ⟨v, w, rfl, ?_⟩
      -- names of one's own lie where they lay
      have old : ∀ (p : Addr) (jj : Nat) (e : D), H p = none → env[jj]? = some (some (.o e)) → σ[jj]? ≠ some (some (.ref p)) := fun p jj e hz q1 q2 => by
        obtain ⟨a', o', s', _, _, hh', _⟩ := k.he.own jj e q1
        rw [q2] at s'; cases s'
        rw [hz] at hh'; cases hh'
      have k3 := r1'.put k k2 i hi0 fun p d _ _ hz jj e _ q1 => old p jj e hz q1
      have k4 := r2.put k1 k3 j hj0 fun p d _ _ hz jj e hne q1 q2 => by
        by_cases hji : jj = i
        · subst hji
          by_cases hl : jj < env.length
          · rw [List.getElem?_set_self hl] at q1
            rw [List.getElem?_set_self (by rw [← k.he.len]; exact hl)] at q2
            cases q1; cases q2
            obtain ⟨p', o', e', _, _, _, hh', _⟩ := r1
            cases e'
            rw [hz] at hh'; cases hh'
          · rw [List.getElem?_eq_none (by simpa using hl)] at q1; cases q1
        · rw [List.getElem?_set_ne (Ne.symm hji)] at q1 q2
          exact old p jj e (fresh_before k.hs hs1 l1 hz) q1 q2
      exact q G2 al2 _ H2 (l1.le.trans l2.le) k4
end

/-! ### methods that change nothing -/
/-- a method by data -/
def rMd (T : Tb) (g : FC) : V → List V → Hp → VK → Prop := fun x xs H Q => ∃ (G : Hp) (al : List Addr) (c : Cs) (ds : List D) (d : D) (c' : Cs), HSt T G al c H ∧ RqL T G al H ds (x :: xs) ∧ g ds c = some (d, c') ∧ Aft T G al H d c' Q
def isTyM (tn : String) (c : Cs) (d : D) : Bool := match deref c d with
  | some (.lst _) => tn == "list"
  | some (.str _) => tn == "str"
  | _ => false
def fMd (tn : String) (g : FC) (fo : FE) (fa : FA) : FE := fun env c => match fo env c with
  | some (d0, c1) => if isTyM tn c1 d0 = true then match fa env c1 with
    | some (ds, c2) => g (d0 :: ds) c2
    | none => none else none
  | _ => none
section
variable {T : Tb} {n : Nat} {X : Cx} {pos p2 cpos apos : Pos} {o e : Expr} {es : List Expr} {fo : FE} {fa : FA} {g : FC} {tn : String} {nm : Str} {bid : String}
theorem isTyM_v (t : Tied T n X) {G : Hp} {al : List Addr} {c : Cs} {H : Hp} {d : D} {v : V} (hs : HSt T G al c H) (h : isTyM tn c d = true) (r : Rq T G al H d v) : tyV X.K tn v H := by
  unfold isTyM at h
  split at h
  case h_1 ds e =>
    obtain ⟨a, vs, rfl, hv, _⟩ := r.lst' hs e
    exact .inl ⟨by simpa using h, vs, SqL.of hv⟩
  case h_2 x e =>
    have := r.cellEq hs e ⟨fun _ z => (by cases z), fun _ _ z => (by cases z), fun _ _ z => (by cases z)⟩
    subst this
    rw [r.str_inv]
    show tn = "str"
    simpa using h
  case h_3 => cases h
theorem tr_md (pa : PlainAttrs tn) (slot : Slot tn nm bid) (hty : typeOf (.builtin bid) = pure (.type "method_descriptor")) (hm : Tied T n X → MtR X bid (rMd T g)) (ho : TrQ T n X o fo) (ha : TrQA T n X (e :: es) fa)
    (hbase : attributeBase o nm X.env (eval o X.env) = eval o X.env := by rfl)
    (hfew : ((backTo cpos (starEach (e :: es) X.env)).all (fun x => !x.1) && (backToKw cpos (keywordEach [] X.env)).all (fun x => x.1.isSome)
      && decide ((e :: es).length + ([] : List Keyword).length + (if ([] : List Keyword).isEmpty then 0 else 1) < 30)) = true := by rfl)
    (hline : (apos.endLine == cpos.line) = true := by rfl) (hs : starEach (e :: es) X.env = (false, eval e X.env) :: starEach es X.env := by rfl) (hplain : (backTo cpos (starEach es X.env)).any (·.1) = false := by rfl) :
    TrE T n X (.Call (.Attribute o nm apos) (e :: es) [] cpos) (fMd tn g fo fa) := by
  refine ⟨fun t G al c env σ H Q d c' hst he hf q => ofE (pe_bm pa slot hty (hm t) (peS o) (paS (e :: es)) hbase hfew hline hs hplain) ?_⟩
  unfold fMd at hf
  split at hf
  case h_2 => cases hf
  case h_1 d0 c1 e1 =>
    split at hf
    case isFalse => cases hf
    case isTrue hT =>
      split at hf
      case h_2 => cases hf
      case h_1 ds c2 e2 =>
        refine ho.run t G al c env σ H _ _ _ hst he e1 fun G1 al1 H1 v l1 hs1 r1 => ⟨isTyM_v t hs1 hT r1, ha.run t G1 al1 c1 env σ H1 _ _ _ hs1 (he.mono l1) e2 fun G2 al2 H2 vs l2 hs2 rl => ?_⟩
        exact ⟨G2, al2, c2, d0 :: ds, d, c', hs2, .cons (r1.mono l2) rl, hf, fun G' al' H' v' l' => q G' al' H' v' ((l1.trans l2).trans l')⟩
theorem mtr_of {r : V → List V → Hp → VK → Prop} (h : ∀ x xs H Q, r x xs H Q → ∃ r' : V → List V → Hp → VK → Prop, MtR X bid r' ∧ r' x xs H Q) : MtR X bid r :=
  fun pins s σ H x xs v us Q I rx rv hr => let ⟨_, o, q⟩ := h x xs H Q hr; o pins s σ H x xs v us Q I rx rv q
theorem RqL.cons_inv {G : Hp} {al : List Addr} {H : Hp} {d : D} {ds : List D} {v : V} {vs : List V} (h : RqL T G al H (d :: ds) (v :: vs)) : Rq T G al H d v ∧ RqL T G al H ds vs := by
  cases h with
  | cons a b => exact ⟨a, b⟩
/-- xs.count(k), ints -/
def mCount : FC := fun ds c => match ds with
  | [d, .int k] => match deref c d with
    | some (.lst xs) => match ints? xs with
      | some ns => some (.int (ns.count k : Nat), c)
      | none => none
    | _ => none
  | _ => none
theorem mt_mCount (t : Tied T n X) : MtR X "list.count" (rMd T mCount) := by
  refine mtr_of fun x xs H Q ⟨G, al, c, ds, d, c', hs, rl, hg, q⟩ => ?_
  unfold mCount at hg
  split at hg
  case h_2 => cases hg
  case h_1 d0 k =>
    split at hg
    case h_2 => cases hg
    case h_1 ys e =>
      split at hg
      case h_2 => cases hg
      case h_1 ns e2 =>
        cases hg
        obtain ⟨r0, rl0⟩ := rl.cons_inv
        obtain ⟨a, vs, rfl, hv, rl2⟩ := r0.lst' hs e
        have := ints?_map e2
        subst this
        rw [rl2.ints] at hv
        exact ⟨_, mt_lcount, a, ns, k, rfl, rl0.int1, SqL.of hv, q.now hs (.int _)⟩
/-- xs.index(y): the first place of an equal one -/
def firstEq (q : PyData) : List PyData → Option Nat
  | [] => none
  | p :: ps => if PyData.eqv p q = true then some 0 else (firstEq q ps).map (· + 1)
def mIndex : FC := fun ds c => match ds with
  | [d, y] => match deref c d with
    | some (.lst xs) => match pdns 59 xs, pdn deep y with
      | some ps, some q => match firstEq q ps with
        | some j => some (.int (j : Nat), c)
        | none => none
      | _, _ => none
    | _ => none
  | _ => none
theorem firstEq_spec {q : PyData} : ∀ {ps : List PyData} {j : Nat}, firstEq q ps = some j → (∃ z, ps[j]? = some z ∧ PyData.eqv z q = true) ∧ ∀ (m : Nat) (z : PyData), m < j → ps[m]? = some z → PyData.eqv z q = false
  | p :: ps, j, h => by
    unfold firstEq at h
    split at h
    case isTrue e => cases h; exact ⟨⟨p, rfl, e⟩, fun m z hm => by omega⟩
    case isFalse e =>
      obtain ⟨i, hi, rfl⟩ := Option.map_eq_some_iff.mp h
      obtain ⟨⟨z, h1, h2⟩, h3⟩ := firstEq_spec hi
      refine ⟨⟨z, by simpa using h1, h2⟩, fun m z hm hz => ?_⟩
      cases m with
      | zero => simp at hz; subst hz; simpa using e
      | succ m => exact h3 m z (by omega) (by simpa using hz)
theorem mt_mIndex (t : Tied T n X) : MtR X "list.index" (rMd T mIndex) := by
  refine mtr_of fun x xs H Q ⟨G, al, c, ds, d, c', hs, rl, hg, q⟩ => ?_
  unfold mIndex at hg
  split at hg
  case h_2 => cases hg
  case h_1 d0 y =>
    split at hg
    case h_2 => cases hg
    case h_1 ys e =>
      split at hg
      case h_2 => cases hg
      case h_1 ps p e2 e3 =>
        split at hg
        case h_2 => cases hg
        case h_1 j e4 =>
          cases hg
          obtain ⟨r0, rl0⟩ := rl.cons_inv
          obtain ⟨a, vs, rfl, hv, rl2⟩ := r0.lst' hs e
          obtain ⟨w, rfl, rw'⟩ := rl0.one
          obtain ⟨⟨z, h1, h2⟩, h3⟩ := firstEq_spec e4
          have hps := rl2.dp hs.ex 59 ys ps vs e2
          have hp := rw'.dp hs e3
          rw [← t.K] at hps hp
          have sh : SeqAt.shaped (.list ps) = true := by
            obtain ⟨h1, h2⟩ := pdns_shape 59 ys ps e2
            unfold SeqAt.shaped
            rw [Bool.and_eq_true, decide_eq_true_eq]
            refine ⟨by simpa [PyData.canLay0] using h1, ?_⟩
            show PyData.depthAll ps + 1 ≤ 64
            omega
          have un : X.A.units + 65 < cLine := by have := t.room.un; omega
          exact ⟨_, mt_indexD un, a, w, p, ps, j, z, rfl, rfl, .lst (SqL.of hv) hps, hp, sh, pdn_shaped e3, h1, h2, h3, q.now hs (.int _)⟩
def strs? : List D → Option (List Str)
  | [] => some []
  | .str i :: r => match strs? r with | some is => some (i :: is) | none => none
  | _ :: _ => none
theorem strs?_map : ∀ {ds : List D} {ns : List Str}, strs? ds = some ns → ds = ns.map D.str
  | [], _, h => by cases h; rfl
  | .str i :: r, ns, h => by
    simp only [strs?] at h
    split at h
    case h_2 => cases h
    case h_1 is e => cases h; rw [strs?_map e]; rfl
  | .non :: _, _, h => by simp [strs?] at h
  | .bl _ :: _, _, h => by simp [strs?] at h
  | .int _ :: _, _, h => by simp [strs?] at h
  | .tup _ :: _, _, h => by simp [strs?] at h
  | .lst _ :: _, _, h => by simp [strs?] at h
  | .dic _ _ :: _, _, h => by simp [strs?] at h
  | .obj _ _ :: _, _, h => by simp [strs?] at h
  | .cell _ :: _, _, h => by simp [strs?] at h
  | .scr _ :: _, _, h => by simp [strs?] at h
  | .cls _ :: _, _, h => by simp [strs?] at h
theorem strs?_of (ns : List Str) : strs? (ns.map D.str) = some ns := by
  induction ns with
  | nil => rfl
  | cons a r ih => simp [strs?, ih]
theorem RpL.strs {G : Hp} {al : List Addr} {H : Hp} : ∀ {bs : List Str} {vs : List V}, RpL T G al (bs.map D.str) vs → vs = bs.map V.str
  | [], _, .nil => rfl
  | b :: bs, _, .cons r t => by
    have e := Rq.str_inv (H := G) (.inl r)
    rw [e, RpL.strs (H := G) t]; rfl
/-- sep.join(xs) -/
def mJoin : FC := fun ds c => match ds with
  | [.str a, d] => match seqOf c d with
    | some xs => match strs? xs with
      | some ys => if (ys.map (·.length)).sum + ys.length * a.length ≤ lim then some (.str (Txt.join a ys), c) else none
      | none => none
    | none => none
  | _ => none
theorem mt_mJoin (t : Tied T n X) : MtR X "str.join" (rMd T mJoin) := by
  refine mtr_of fun x xs H Q ⟨G, al, c, ds, d, c', hs, rl, hg, q⟩ => ?_
  unfold mJoin at hg
  split at hg
  case h_2 => cases hg
  case h_1 a d0 =>
    split at hg
    case h_2 => cases hg
    case h_1 ys e =>
      split at hg
      case h_2 => cases hg
      case h_1 ns e2 =>
        split at hg
        case isFalse => cases hg
        case isTrue hl =>
          cases hg
          obtain ⟨r0, rl0⟩ := rl.cons_inv
          obtain ⟨w, rfl, rw'⟩ := rl0.one
          obtain ⟨p, vs, rfl, hv, rl2⟩ := rw'.seq' hs e
          have := strs?_map e2
          subst this
          rw [rl2.strs (H := G), ← t.K] at hv
          exact ⟨_, mt_join, a, p, ns, r0.str_inv, rfl, hv, Nat.le_trans hl (by decide), q.now hs (.str _)⟩
/-- x.split(sep): a new list -/
def mSplit : FC := fun ds c => match ds with
  | [.str a, .str b] => if (!(b.length == 0) && decide (a.length + 2 ≤ lim)) = true then some (.lst ((Txt.split a b).map D.str), c) else none
  | _ => none
theorem RpL.of_strs {G : Hp} {al : List Addr} : ∀ (ns : List Str), RpL T G al (ns.map D.str) (ns.map V.str)
  | [] => .nil
  | n :: ns => .cons (.str n) (RpL.of_strs ns)
theorem mt_mSplit (t : Tied T n X) : MtR X "str.split" (rMd T mSplit) := by
  refine mtr_of fun x xs H Q ⟨G, al, c, ds, d, c', hs, rl, hg, q⟩ => ?_
  unfold mSplit at hg
  split at hg
  case h_2 => cases hg
  case h_1 a b =>
    split at hg
    case isFalse => cases hg
    case isTrue hl =>
      cases hg
      obtain ⟨r0, rl0⟩ := rl.cons_inv
      obtain ⟨w, rfl, rw'⟩ := rl0.one
      simp only [Bool.and_eq_true, decide_eq_true_eq, Bool.not_eq_true'] at hl
      exact ⟨_, mt_split, a, b, r0.str_inv, by rw [rw'.str_inv], hl.1, Nat.le_trans hl.2 lim_line, fun p hp => q.new hs hp (.lst (RpL.of_strs _))⟩
end
end Pd
set_option Elab.async false
set_option linter.all false
set_option maxRecDepth 100000
/-! Pd13: dicts whose keys are tuples. -/
namespace Pd
open PySem PySem.Spec PyProof.Rows L2

def isTupD : D → Bool
  | .tup _ => true
  | _ => false
def dHas (ks : List D) (key : D) : Bool := ks.any fun k => decide (nk k = nk key)
def dPutV (ks ds : List D) (key v : D) : List D := List.zipWith (fun k d => if nk k = nk key then v else d) ks ds
def dPut (ks ds : List D) (key v : D) : List D × List D := if dHas ks key = true then (ks, dPutV ks ds key v) else (ks ++ [key], ds ++ [v])
def dGet (ks ds : List D) (key : D) : Option D := ((ks.zip ds).find? fun p => decide (nk p.1 = nk key)).map (·.2)
/-- a key that may be used -/
def keyOk (d : D) : Bool := match d with
  | .tup _ => match nk d with | some k => decide (k.depth ≤ 8) | none => false
  | _ => false
section
variable {T : Tb} {n : Nat} {X : Cx}
mutual
theorem Rp.nested {pins : List (Addr × Obj)} {s : Shared} {σ : L2.St} {G H : Hp} {al : List Addr} (I : Inv X pins σ H s) (hK : X.K = T.K) (ex : ∀ a o, G a = some o → H a = some o) : ∀ (d : D) (k : NestedKey) (v : V) (u : Value), nk d = some k → Rp T G al d v → RelV v u → NestedIs s.heap k u
  | .non, k, v, u, e, r, rv => by
    simp only [nk] at e; cases e
    have := Rq.non_inv (H := H) (.inl r)
    subst this
    obtain rfl : u = .none := rv
    exact .none
  | .bl b, k, v, u, e, r, rv => by
    simp only [nk] at e; cases e
    have := r.bl_inv
    subst this
    obtain rfl : u = .bool b := rv
    exact .bool rfl
  | .int i, k, v, u, e, r, rv => by
    simp only [nk] at e; cases e
    have := Rq.int_inv (H := H) (.inl r)
    subst this
    obtain ⟨t, rfl⟩ := rv
    exact .int i t
  | .str x, k, v, u, e, r, rv => by
    simp only [nk] at e; cases e
    have := Rq.str_inv (H := H) (.inl r)
    subst this
    obtain ⟨t, rfl⟩ := rv
    exact .text x t
  | .tup xs, k, v, u, e, r, rv => by
    simp only [nk] at e
    obtain ⟨ks, e1, rfl⟩ := Option.map_eq_some_iff.mp e
    obtain ⟨a, vs, rfl, hq, rl⟩ := r.tup_inv
    obtain rfl : u = .ref a := rv
    have hq' := sqT_h ex hq
    rw [← hK] at hq'
    obtain ⟨its, rv', ⟨o, ho, hc, m, hd⟩, _⟩ := I.tuple hq'
    exact .tup ho hc hd (by simpa using RpL.nested I hK ex xs ks vs its e1 rl rv')
  | .lst _, k, v, u, e, r, rv => by simp [nk] at e
  | .dic _ _, k, v, u, e, r, rv => by simp [nk] at e
  | .obj _ _, k, v, u, e, r, rv => by simp [nk] at e
  | .cell _, k, v, u, e, r, rv => by simp [nk] at e
  | .scr _, k, v, u, e, r, rv => by simp [nk] at e
  | .cls _, k, v, u, e, r, rv => by simp [nk] at e
theorem RpL.nested {pins : List (Addr × Obj)} {s : Shared} {σ : L2.St} {G H : Hp} {al : List Addr} (I : Inv X pins σ H s) (hK : X.K = T.K) (ex : ∀ a o, G a = some o → H a = some o) : ∀ (ds : List D) (ks : List NestedKey) (vs : List V) (us : List Value), nks ds = some ks → RpL T G al ds vs → Vals vs us → NestedAll s.heap ks us
  | [], ks, vs, us, e, r, rv => by
    simp only [nks] at e; cases e
    cases r
    cases rv
    exact .nil
  | d :: ds, ks, vs, us, e, r, rv => by
    simp only [nks] at e
    split at e
    case h_2 => cases e
    case h_1 k ks' e1 e2 =>
      cases e
      cases r with
      | cons r1 r2 =>
        cases rv with
        | cons v1 v2 => exact .cons (Rp.nested I hK ex d k _ _ e1 r1 v1) (RpL.nested I hK ex ds ks' _ _ e2 r2 v2)
end
/-- the dict at p, its keys tuples: xs its entries -/
structure DAt (T : Tb) (G : Hp) (al : List Addr) (h : Heap) (p : Addr) (ks ds : List D) (xs : List (NestedKey × Addr × Value)) (vs : List V) : Prop where
  of_ : h.DictOfH (nestedKind T.P T.w) p xs
  ns : (p == sysModules) = false
  hk : ks.map nk = xs.map (fun x => some x.1)
  dp : ∀ x ∈ xs, x.1.depth ≤ 8
  rk : RpL T G al ks (xs.map fun x => V.ref x.2.1)
  rd : RpL T G al ds vs
  rv : Vals vs (xs.map fun x => x.2.2)
  tp : ∀ k ∈ ks, ∃ es, k = D.tup es
theorem key_is (t : Tied T n X) {pins : List (Addr × Obj)} {s : Shared} {σ : L2.St} {G H : Hp} {al : List Addr} {c : Cs} (I : Inv X pins σ H s) (hs : HSt T G al c H) {d : D} {v : V} {u : Value} (h : keyOk d = true) (r : Rp T G al d v) (ru : RelV v u) :
    ∃ k a, nk d = some k ∧ u = .ref a ∧ v = .ref a ∧ (nestedKind T.P T.w).is s.heap k a := by
  unfold keyOk at h
  split at h
  case h_2 => cases h
  case h_1 es =>
    split at h
    case h_2 => cases h
    case h_1 k e =>
      obtain ⟨a, vs, rfl, _, _⟩ := r.tup_inv
      obtain rfl : u = .ref a := ru
      exact ⟨k, a, e, rfl, rfl, r.nested I t.K hs.ex _ _ _ _ e rfl, of_decide_eq_true h⟩
theorem dict_at (t : Tied T n X) {pins : List (Addr × Obj)} {s : Shared} {σ : L2.St} {G H : Hp} {al : List Addr} {c : Cs} (I : Inv X pins σ H s) (hs : HSt T G al c H) {p : Addr} {ho : HO} {ks ds : List D} (hp : H p = some ho) (b : Bx T G al p ho (.dic ks ds)) (hT : ks.all isTupD = true) :
    ∃ xs vs, DAt T G al s.heap p ks ds xs vs := by
  cases b with
  | dK e r =>
    rename_i kvs
    have hnil : kvs = [] := by
      cases kvs with
      | nil => rfl
      | cons q r =>
        subst e
        obtain ⟨k, v⟩ := q
        cases k <;> simp [keyD, isTupD] at hT
    subst hnil
    obtain ⟨z, hd, vs, rel, dd⟩ := dk_of I.hok hp
    cases rel
    obtain ⟨o, es, ep, h1, h2, h3, h4, h5, h6⟩ := dd
    have hes : es.toList = [] := by
      cases q : es.toList with
      | nil => rfl
      | cons y r => rw [q] at h5; cases h5
    cases r
    subst e
    exact ⟨[], [], ⟨o, es, ep, h1, h2, h3, by rw [hes]; rfl, fun x hx => (by cases hx), List.nodup_nil⟩, hd, rfl, fun x hx => (by cases hx), .nil, .nil, .nil, fun k hk => (by cases hk)⟩
  | dN h0 hk hd r1 r2 hv htp =>
    rename_i xs vs
    obtain ⟨⟨hns, o, es, ep, h1, h2, h3, h4, h5⟩, _⟩ := I.hok p _ hp
    refine ⟨xs, vs, ⟨o, es, ep, h1, h2, h3, h4, fun x hx => ?_, h5⟩, hns, hk, hd, r1, r2, hv, htp⟩
    obtain ⟨j, hj⟩ := List.mem_iff_getElem?.mp hx
    have hkj : ∃ d, ks[j]? = some d ∧ nk d = some x.1 := by
      have : (ks.map nk)[j]? = some (some x.1) := by rw [hk, List.getElem?_map, hj]; rfl
      rw [List.getElem?_map] at this
      obtain ⟨d, e1, e2⟩ := Option.map_eq_some_iff.mp this
      exact ⟨d, e1, e2⟩
    obtain ⟨d, e1, e2⟩ := hkj
    obtain ⟨v, hv', rv⟩ := r1.get e1
    rw [List.getElem?_map, hj] at hv'
    cases hv'
    exact ⟨rv.nested I t.K hs.ex d _ _ _ e2 rfl, hd x hx⟩
theorem dHas_at {ks : List D} {xs : List (NestedKey × Addr × Value)} {key : D} {k : NestedKey} (h : ks.map nk = xs.map (fun x => some x.1)) (hk : nk key = some k) : dHas ks key = (atKey xs k).isSome := by
  induction xs generalizing ks with
  | nil =>
    cases ks with
    | nil => rfl
    | cons _ _ => simp at h
  | cons x xs ih =>
    cases ks with
    | nil => simp at h
    | cons d ks =>
      simp only [List.map_cons, List.cons.injEq] at h
      have := ih h.2
      unfold dHas at this ⊢
      rw [List.any_cons, this, h.1, hk]
      unfold atKey
      rw [List.find?_cons]
      by_cases e : x.1 = k
      · simp [e]
      · simp [e]
theorem dGet_at {G : Hp} {al : List Addr} {ks ds : List D} {xs : List (NestedKey × Addr × Value)} {vs : List V} {key d : D} {k : NestedKey} (h : ks.map nk = xs.map (fun x => some x.1)) (hk : nk key = some k) (rd : RpL T G al ds vs) (rv : Vals vs (xs.map fun x => x.2.2)) (hg : dGet ks ds key = some d) :
    ∃ (p : Addr × Value) (v : V), atKey xs k = some p ∧ RelV v p.2 ∧ Rp T G al d v := by
  induction xs generalizing ks ds vs with
  | nil =>
    cases ks with
    | nil => simp [dGet] at hg
    | cons _ _ => simp at h
  | cons x xs ih =>
    cases ks with
    | nil => simp at h
    | cons d0 ks =>
      simp only [List.map_cons, List.cons.injEq] at h
      cases rv with
      | cons v1 v2 =>
        cases rd with
        | cons r1 r2 =>
          unfold dGet at hg
          rw [List.zip_cons_cons, List.find?_cons, h.1, hk] at hg
          unfold atKey
          rw [List.find?_cons]
          by_cases e : x.1 = k
          · simp [e] at hg ⊢
            subst hg
            exact ⟨_, v1, r1⟩
          · simp only [e, decide_false, Option.some.injEq] at hg ⊢
            obtain ⟨p, v, h1, h2, h3⟩ := ih h.2 r2 v2 (by unfold dGet; rw [hk]; exact hg)
            exact ⟨p, v, by unfold atKey at h1; exact h1, h2, h3⟩
theorem put_vals {G : Hp} {al : List Addr} {key dv : D} {k : NestedKey} {w : Value} {v : V} (hk : nk key = some k) (r : Rp T G al dv v) (rw' : RelV v w) : ∀ {xs : List (NestedKey × Addr × Value)} {ks ds : List D} {vs : List V}, ks.map nk = xs.map (fun x => some x.1) → RpL T G al ds vs → Vals vs (xs.map fun x => x.2.2) →
    ∃ vs', RpL T G al (dPutV ks ds key dv) vs' ∧ Vals vs' ((xs.map (putAt k w)).map fun x => x.2.2)
  | [], [], _, _, _, .nil, .nil => ⟨[], .nil, .nil⟩
  | x :: xs, d0 :: ks, d1 :: ds, v0 :: vs, h, .cons r1 r2, .cons v1 v2 => by
    simp only [List.map_cons, List.cons.injEq] at h
    obtain ⟨vs', h1, h2⟩ := put_vals hk r rw' h.2 r2 v2
    unfold dPutV at h1 ⊢
    rw [List.zipWith_cons_cons, h.1, hk]
    rw [hk] at h1
    by_cases e : x.1 = k
    · refine ⟨v :: vs', ?_, ?_⟩
      · simp only [e, if_true]
        exact .cons r h1
      · simp only [List.map_cons]
        refine .cons ?_ h2
        unfold putAt
        rw [if_pos e]
        exact rw'
    · refine ⟨v0 :: vs', ?_, ?_⟩
      · simp only [Option.some.injEq, e, if_false]
        exact .cons r1 h1
      · simp only [List.map_cons]
        refine .cons ?_ h2
        unfold putAt
        rw [if_neg e]
        exact v1
  | [], _ :: _, _, _, h, _, _ => by simp at h
  | _ :: _, [], _, _, h, _, _ => by simp at h
  | _ :: _, _ :: _, [], _, _, .nil, rv => by cases rv
theorem keys_putAt (xs : List (NestedKey × Addr × Value)) (k : NestedKey) (w : Value) : (xs.map (putAt k w)).map (fun x => V.ref x.2.1) = xs.map fun x => V.ref x.2.1 := by
  rw [List.map_map]
  refine List.map_congr_left fun x _ => ?_
  unfold Function.comp putAt
  dsimp only
  split <;> rfl
theorem keys_putAt' (xs : List (NestedKey × Addr × Value)) (k : NestedKey) (w : Value) : (xs.map (putAt k w)).map (fun x => some x.1) = xs.map fun x => some x.1 := by
  rw [List.map_map]
  refine List.map_congr_left fun x _ => ?_
  unfold Function.comp putAt
  dsimp only
  split <;> rfl
def uSetN : Ust := fun d di dv => match d with
  | .dic ks ds => if (ks.all isTupD && keyOk di && decide (ks.length < lim)) = true then some (.dic (dPut ks ds di dv).1 (dPut ks ds di dv).2) else none
  | _ => none
theorem raw_ok {H : Hp} {h : Heap} {p : Addr} {xs : List (NestedKey × Addr × Value)} (hns : (p == sysModules) = false) (of_ : h.DictOfH (nestedKind T.P T.w) p xs) : ObjOk T.P T.w H h p (.ext (RawK T.P T.w p xs)) := by
  obtain ⟨o, es, ep, h1, h2, h3, h4, h5, h6⟩ := of_
  exact ⟨⟨hns, o, es, ep, h1, h2, h3, h4, h6⟩, ⟨o, h1⟩, fun a b ⟨hn, o', es', ep', g1, g2⟩ k => ⟨hn, o', es', ep', k o' g1, g2⟩⟩
theorem set_uSetN (t : Tied T n X) : PSet X (rSt T uSetN) := by
  intro pins s σ H o i v ov iv u Q I ro ri rv h
  obtain ⟨G, al, c, p, ho, d, di, dv, d', rfl, hs, hp, b, r1, r2, hu, q⟩ := h
  unfold uSetN at hu
  split at hu
  case h_2 => cases hu
  case h_1 ks ds =>
    split at hu
    case isFalse => cases hu
    case isTrue hb =>
      cases hu
      simp only [Bool.and_eq_true, decide_eq_true_eq] at hb
      obtain ⟨⟨hT, hko⟩, hlen⟩ := hb
      obtain ⟨k, a, ek, rfl, rfl, his⟩ := key_is t I hs hko r1 ri
      obtain ⟨xs, vs, D0⟩ := dict_at t I hs hp b hT
      have ro' : ov = .ref p := ro
      subst ro'
      have hx : xs.length = ks.length := by have := congrArg List.length D0.hk; simpa using this.symm
      have hroom : (nestedKind T.P T.w).room X.A.in1 := by
        show X.A.in1.units + 8 < cLine
        have := t.room.un
        show X.A.units + 1 + 8 < cLine
        omega
      have hmod : model X.prog X.w = model T.P T.w := by rw [t.P, t.w]
      rw [hmod]
      have mu : Mut (H p) := by
        rw [hp]
        cases b <;> exact True.intro
      refine wpAny_setItem_heap (knd := nestedKind T.P T.w) hroom his D0.of_ (fun h' of' hsb => ?_) (by rw [hx]; exact Nat.le_trans (Nat.le_of_lt hlen) lim_line)
      have ex' : ∃ q, h'.get? p = some q := let ⟨q, _, _, e, _⟩ := of'; ⟨q, e⟩
      have I' : Inv X pins σ (upd H p (.ext (RawK T.P T.w p (storedH xs k a u)))) { s with heap := h', toks := s.toks + (nestedKind T.P T.w).draws k } :=
        d_write I mu hsb ex' (by rw [t.P, t.w]; exact raw_ok D0.ns of')
      refine ⟨_, I', q _ ?_⟩
      have hdk : k.depth ≤ 8 := his.2
      have tpk : ∃ es, di = D.tup es := by
        cases di with
        | tup es => exact ⟨es, rfl⟩
        | _ => simp [keyOk] at hko
      unfold dPut
      rw [dHas_at D0.hk ek]
      cases hat : atKey xs k with
      | none =>
        rw [storedH_new hat]
        simp only [Option.isSome_none, Bool.false_eq_true, if_false]
        refine .dN (by simp) (by simp [D0.hk, ek]) (fun x hx => ?_) (by rw [List.map_append]; exact D0.rk.append (.cons r1 .nil)) (D0.rd.append (.cons r2 .nil)) (by rw [List.map_append]; exact Vals.append D0.rv (.cons rv .nil)) (fun y hy => ?_)
        · rcases List.mem_append.mp hx with hx | hx
          · exact D0.dp x hx
          · simp at hx; subst hx; exact hdk
        · rcases List.mem_append.mp hy with hy | hy
          · exact D0.tp y hy
          · simp at hy; subst hy; exact tpk
      | some pp =>
        rw [storedH_old hat]
        simp only [Option.isSome_some, if_true]
        obtain ⟨vs', h1, h2⟩ := put_vals ek r2 rv D0.hk D0.rd D0.rv
        refine .dN (fun e => ?_) (by rw [keys_putAt']; exact D0.hk) (fun x hx => ?_) (by rw [keys_putAt]; exact D0.rk) h1 h2 D0.tp
        · have : xs = [] := by simpa using e
          rw [this] at hat; cases hat
        · obtain ⟨y, hy, rfl⟩ := List.mem_map.mp hx
          have := D0.dp y hy
          unfold putAt
          split <;> exact this
end
end Pd
set_option Elab.async false
set_option linter.all false
set_option maxRecDepth 100000
/-! Pd14: sorted dicts and sets of tuples; what else is asked of a dict; texts written. -/
namespace Pd
open PySem PySem.Spec PyProof.Rows L2

/-! ### rows of ints in their order -/
def insL (x : List Int) : List (List Int) → List (List Int)
  | [] => [x]
  | y :: r => if x < y then x :: y :: r else if x = y then y :: r else y :: insL x r
/-- in order, each once -/
def sortL : List (List Int) → List (List Int)
  | [] => []
  | x :: r => insL x (sortL r)
theorem ltI_irrefl (a : List Int) : ¬ a < a := List.lt_irrefl a
theorem ltI_trans {a b c : List Int} (h : a < b) (k : b < c) : a < c := List.lt_trans h k
theorem ltI_tri (a b : List Int) : a < b ∨ a = b ∨ b < a := by
  induction a generalizing b with
  | nil =>
    cases b with
    | nil => exact .inr (.inl rfl)
    | cons y s => exact .inl (by simp)
  | cons x r ih =>
    cases b with
    | nil => exact .inr (.inr (by simp))
    | cons y s =>
      simp only [List.cons_lt_cons_iff, List.cons.injEq]
      rcases Int.lt_trichotomy x y with h | h | h
      · exact .inl (.inl h)
      · rcases ih s with k | k | k
        · exact .inl (.inr ⟨h, k⟩)
        · exact .inr (.inl ⟨h, k⟩)
        · exact .inr (.inr (.inr ⟨h.symm, k⟩))
      · exact .inr (.inr (.inl h))
abbrev StrI (l : List (List Int)) : Prop := l.Pairwise (· < ·)
theorem mem_insL {x y : List Int} {l : List (List Int)} : y ∈ insL x l ↔ y = x ∨ y ∈ l := by
  induction l with
  | nil => simp [insL]
  | cons z r ih =>
    unfold insL
    split
    · simp
    · split
      · rename_i h; subst h; simp
      · simp only [List.mem_cons, ih]
        constructor
        · rintro (h | h | h) <;> simp [h]
        · rintro (h | h | h) <;> simp [h]
theorem mem_sortL {x : List Int} : ∀ {l : List (List Int)}, x ∈ sortL l ↔ x ∈ l
  | [] => by simp [sortL]
  | y :: r => by rw [sortL, mem_insL, mem_sortL, List.mem_cons]
theorem str_insL {x : List Int} {l : List (List Int)} (h : StrI l) : StrI (insL x l) := by
  induction l with
  | nil => simp [insL]
  | cons z r ih =>
    have h' := List.pairwise_cons.mp h
    unfold insL
    split
    · rename_i hlt
      refine List.pairwise_cons.mpr ⟨fun y hy => ?_, h⟩
      rcases List.mem_cons.mp hy with rfl | hy
      · exact hlt
      · exact ltI_trans hlt (h'.1 y hy)
    · rename_i hn
      split
      · exact h
      · rename_i hne
        refine List.pairwise_cons.mpr ⟨fun y hy => ?_, ih h'.2⟩
        rcases mem_insL.mp hy with rfl | hy
        · rcases ltI_tri y z with q | q | q
          · exact absurd q hn
          · exact absurd q hne
          · exact q
        · exact h'.1 y hy
theorem str_sortL : ∀ l : List (List Int), StrI (sortL l)
  | [] => List.Pairwise.nil
  | x :: r => str_insL (str_sortL r)
theorem str_uniq : ∀ {a b : List (List Int)}, StrI a → StrI b → (∀ x, x ∈ a ↔ x ∈ b) → a = b
  | [], [], _, _, _ => rfl
  | [], y :: s, _, _, h => by have := (h y).mpr List.mem_cons_self; cases this
  | x :: r, [], _, _, h => by have := (h x).mp List.mem_cons_self; cases this
  | x :: r, y :: s, ha, hb, h => by
    have ha' := List.pairwise_cons.mp ha
    have hb' := List.pairwise_cons.mp hb
    have e : x = y := by
      rcases List.mem_cons.mp ((h x).mp List.mem_cons_self) with q | q
      · exact q
      · rcases List.mem_cons.mp ((h y).mpr List.mem_cons_self) with p | p
        · exact p.symm
        · exact absurd (ltI_trans (ha'.1 y p) (hb'.1 x q)) (ltI_irrefl _)
    subst e
    have : r = s := str_uniq ha'.2 hb'.2 fun z => by
      constructor
      · intro hz
        rcases List.mem_cons.mp ((h z).mp (List.mem_cons_of_mem _ hz)) with q | q
        · subst q; exact absurd (ha'.1 z hz) (ltI_irrefl _)
        · exact q
      · intro hz
        rcases List.mem_cons.mp ((h z).mpr (List.mem_cons_of_mem _ hz)) with q | q
        · subst q; exact absurd (hb'.1 z hz) (ltI_irrefl _)
        · exact q
    rw [this]
theorem sortL_of_str {l : List (List Int)} (h : StrI l) : sortL l = l := str_uniq (str_sortL l) h fun _ => mem_sortL
theorem sortL_congr {a b : List (List Int)} (h : ∀ x, x ∈ a ↔ x ∈ b) : sortL a = sortL b := str_uniq (str_sortL a) (str_sortL b) fun x => by rw [mem_sortL, mem_sortL]; exact h x
theorem code_lex64 {B : Int} : ∀ {a b : List Int}, a.length = b.length → TS.Bd B a → TS.Bd B b → (TS.code B a < TS.code B b ↔ a < b)
  | [], [], _, _, _ => by simp [TS.code]
  | x :: r, y :: s, hl, ha, hb => by
    have hl' : r.length = s.length := by simpa using hl
    rw [List.cons_lt_cons_iff]
    rcases Int.lt_trichotomy x y with h | h | h
    · exact ⟨fun _ => .inl h, fun _ => TS.code_lt hl' ha.tail hb.tail h⟩
    · subst h
      rw [TS.code_same hl', code_lex64 hl' ha.tail hb.tail]
      exact ⟨fun q => .inr ⟨rfl, q⟩, fun q => by rcases q with q | ⟨_, q⟩; exact absurd q (Int.lt_irrefl _); exact q⟩
    · have := TS.code_lt (B := B) hl'.symm hb.tail ha.tail h
      exact ⟨fun q => by omega, fun q => by rcases q with q | ⟨q, _⟩ <;> omega⟩
theorem str_of_code {B : Int} {d : Nat} {l : List (List Int)} (hb : ∀ x ∈ l, x.length = d ∧ TS.Bd B x) (hn : l.Nodup) (hp : l.Pairwise fun a b => TS.code B a ≤ TS.code B b) : StrI l := by
  induction l with
  | nil => exact .nil
  | cons x r ih =>
    have hn' := List.nodup_cons.mp hn
    have hp' := List.pairwise_cons.mp hp
    refine List.pairwise_cons.mpr ⟨fun y hy => ?_, ih (fun z hz => hb z (List.mem_cons_of_mem _ hz)) hn'.2 hp'.2⟩
    obtain ⟨l1, b1⟩ := hb x List.mem_cons_self
    obtain ⟨l2, b2⟩ := hb y (List.mem_cons_of_mem _ hy)
    rcases ltI_tri x y with q | q | q
    · exact q
    · subst q; exact absurd hy hn'.1
    · have h1 := hp'.1 y hy
      have h2 := (code_lex64 (l2.trans l1.symm) b2 b1).mpr q
      omega

/-! ### tuples of ints -/
def tupsI? : List D → Option (List (List Int))
  | [] => some []
  | .tup xs :: r => match ints? xs, tupsI? r with
    | some ns, some nss => some (ns :: nss)
    | _, _ => none
  | _ :: _ => none
def tupI (ns : List Int) : D := .tup (ns.map D.int)
theorem tupsI?_map : ∀ {ds : List D} {nss : List (List Int)}, tupsI? ds = some nss → ds = nss.map tupI
  | [], _, h => by cases h; rfl
  | .tup xs :: r, nss, h => by
    simp only [tupsI?] at h
    split at h
    case h_2 => cases h
    case h_1 ns nss' e1 e2 => cases h; rw [tupsI?_map e2, ints?_map e1]; rfl
  | .non :: _, _, h => by simp [tupsI?] at h
  | .bl _ :: _, _, h => by simp [tupsI?] at h
  | .int _ :: _, _, h => by simp [tupsI?] at h
  | .str _ :: _, _, h => by simp [tupsI?] at h
  | .lst _ :: _, _, h => by simp [tupsI?] at h
  | .dic _ _ :: _, _, h => by simp [tupsI?] at h
  | .obj _ _ :: _, _, h => by simp [tupsI?] at h
  | .cell _ :: _, _, h => by simp [tupsI?] at h
  | .scr _ :: _, _, h => by simp [tupsI?] at h
  | .cls _ :: _, _, h => by simp [tupsI?] at h
theorem tupsI?_of (nss : List (List Int)) : tupsI? (nss.map tupI) = some nss := by
  induction nss with
  | nil => rfl
  | cons a r ih => simp [tupsI?, tupI, ints?_of] at ih ⊢; rw [ih]

/-! ### sorted(set(xs)), xs rows of ints -/
def rowsOk (nss : List (List Int)) : Bool := decide (nss.length < 64) && nss.all fun ns => decide (1 ≤ ns.length) && (nss.all fun ms => decide (ms.length = ns.length)) && ns.all fun m => decide (0 ≤ m) && decide (m < 64)
def fSortSet (f : FE) : FE := fun env c => match f env c with
  | some (.lst xs, c1) => match tupsI? xs with
    | some nss => if rowsOk nss = true then some (.lst ((sortL nss).map tupI), c1) else none
    | none => none
  | _ => none
section
variable {T : Tb} {n : Nat} {X : Cx} {pos p p2 pos2 : Pos} {e : Expr} {fe : FE}
theorem rows_at {G H : Hp} {al : List Addr} (ex : ∀ a o, G a = some o → H a = some o) : ∀ {nss : List (List Int)} {vs : List V}, RpL T G al (nss.map tupI) vs → ∃ ks : List (Addr × List Int), vs = ks.map (fun q => V.ref q.1) ∧ ks.map (·.2) = nss ∧ ∀ q ∈ ks, SqT T.K H q.1 (q.2.map V.int) ∧ Rp T G al (tupI q.2) (.ref q.1)
  | [], _, .nil => ⟨[], rfl, rfl, fun q hq => (by cases hq)⟩
  | ns :: nss, _, .cons r t => by
    obtain ⟨ks, rfl, h2, h3⟩ := rows_at ex t
    obtain ⟨a, ws, rfl, hq, rl⟩ := Rp.tup_inv (ds := ns.map D.int) r
    rw [rl.ints] at hq
    refine ⟨(a, ns) :: ks, rfl, by rw [List.map_cons, h2], fun q hq' => ?_⟩
    rcases List.mem_cons.mp hq' with rfl | hq'
    · exact ⟨sqT_h ex hq, r⟩
    · exact h3 q hq'
theorem rows_rp {G : Hp} {al : List Addr} : ∀ {L : List (Addr × List Int)}, (∀ q ∈ L, Rp T G al (tupI q.2) (.ref q.1)) → RpL T G al ((L.map (·.2)).map tupI) (L.map fun q => V.ref q.1)
  | [], _ => .nil
  | q :: L, h => .cons (h q List.mem_cons_self) (rows_rp fun r hr => h r (List.mem_cons_of_mem _ hr))
theorem tn_sortSet (h : TrQ T n X e fe) (hm : X.mg "sorted" = none) (hm2 : X.mg "set" = none) (hg : Gl X "sorted" := by rfl) (hg2 : Gl X "set" := by rfl)
    (hst : starEach [.Call (.Name "set" p2) [e] [] pos2] X.env = (false, eval (.Call (.Name "set" p2) [e] [] pos2) X.env) :: starEach [] X.env := by rfl) (hst2 : starEach [e] X.env = (false, eval e X.env) :: starEach [] X.env := by rfl)
    (hpl : (backTo pos (starEach [] X.env)).any (·.1) = false := by rfl) (hpl2 : (backTo pos2 (starEach [] X.env)).any (·.1) = false := by rfl) :
    TrN T n X (.Call (.Name "sorted" p) [.Call (.Name "set" p2) [e] [] pos2] [] pos) (fSortSet fe) := by
  refine ⟨fun t G al c env σ H Q d c' hs he hf q => ?_⟩
  refine ofE (pe_callB (cr_sortedT t.calm) hg hm (by decide +kernel) (pa_cons (pe_callTy (cr_setOfT t.calm t.room.units) hg2 hm2 (by decide +kernel) (pa_cons (peS e) pa_nil hst2) (he := hst2) (hpl := hpl2)) pa_nil hst) (he := hst) (hpl := hpl)) ?_
  unfold fSortSet at hf
  split at hf
  case h_2 => cases hf
  case h_1 xs c1 e1 =>
    split at hf
    case h_2 => cases hf
    case h_1 nss e2 =>
      split at hf
      case isFalse => cases hf
      case isTrue hok =>
        cases hf
        have := tupsI?_map e2
        subst this
        unfold rowsOk at hok
        simp only [Bool.and_eq_true, decide_eq_true_eq, List.all_eq_true] at hok
        obtain ⟨hlen, hall⟩ := hok
        refine h.run t G al c env σ H _ _ _ hs he e1 fun G1 al1 H1 v l1 hs1 r1 => ?_
        obtain ⟨a, vs, rfl, hv, rl⟩ := r1.lst_inv hs1
        obtain ⟨ks, rfl, hk2, hk3⟩ := rows_at hs1.ex rl
        refine ⟨a, ks, rfl, SqL.of hv, fun q hq => by rw [t.K]; exact (hk3 q hq).1, by rw [← hk2, List.length_map] at hlen; exact hlen, fun b L hb hL1 hL2 => ?_⟩
        have sub : ∀ q ∈ L, q.2 ∈ nss := fun q hq => by rw [← hk2]; exact List.mem_map.mpr ⟨q, hL1 q hq, rfl⟩
        have bd : ∀ ns ∈ nss, TS.Bd 64 ns := fun ns hns m hm => (hall ns hns).2 m hm
        have hd : ∃ dd, 1 ≤ dd ∧ ∀ ns ∈ nss, ns.length = dd := by
          cases nss with
          | nil => exact ⟨1, Nat.le_refl _, fun ns h => (by cases h)⟩
          | cons n0 r => exact ⟨n0.length, (hall n0 List.mem_cons_self).1.1, fun ns hns => (hall n0 List.mem_cons_self).1.2 ns hns⟩
        obtain ⟨dd, hd1, hd2⟩ := hd
        refine ⟨b, L, dd, 64, rfl, upd_same, fun q hq => ?_, hd1, fun q hq => ⟨hd2 _ (sub q hq), bd _ (sub q hq)⟩, fun L' pp hperm hnd hl64 hpw hpp => ?_⟩
        · have hz := (hk3 q (hL1 q hq)).1
          rw [← t.K] at hz
          exact sqT_le (fun a' o' e' => by rw [upd_ne (ne_of_none e' hb)]; exact e') hz
        · have hsub' : ∀ q ∈ L', q ∈ L := fun q hq => hperm.mem_iff.mp hq
          have hstr : StrI (L'.map (·.2)) := by
            refine str_of_code (B := 64) (d := dd) (fun x hx => ?_) hnd ?_
            · obtain ⟨q, hq, rfl⟩ := List.mem_map.mp hx
              exact ⟨hd2 _ (sub q (hsub' q hq)), bd _ (sub q (hsub' q hq))⟩
            · rw [List.pairwise_map]
              exact hpw
          have heq : L'.map (·.2) = sortL nss := by
            refine str_uniq hstr (str_sortL _) fun x => ?_
            rw [mem_sortL]
            constructor
            · intro hx
              obtain ⟨q, hq, rfl⟩ := List.mem_map.mp hx
              exact sub q (hsub' q hq)
            · intro hx
              rw [← hk2] at hx
              obtain ⟨q, hq, rfl⟩ := List.mem_map.mp hx
              exact (hperm.map (·.2)).mem_iff.mpr (hL2 q hq)
          have hs2 := hs1.junk (o := SetTO X.prog X.w b L) hb
          have hrp : RpL T G1 al1 ((sortL nss).map tupI) (L'.map fun q => V.ref q.1) := by
            rw [← heq]
            exact rows_rp fun q hq => (hk3 q (hL1 q (hsub' q hq))).2
          have hp0 : H1 pp = none := by
            by_cases hpb : pp = b
            · subst hpb; exact hb
            · rw [upd_ne hpb] at hpp; exact hpp
          exact q G1 al1 _ pp _ (l1.trans ((Stp.junk hb).trans (.junk hpp))) (hs2.junk hpp) (hs2.free hpp) (hs2.apart hpp) (fresh_before hs hs1 l1 hp0) upd_same (.lst hrp)
end
end Pd
set_option Elab.async false
set_option linter.all false
set_option maxRecDepth 100000
/-! Pd15: dicts asked, sorted; texts. -/
namespace Pd
open PySem PySem.Spec PyProof.Rows L2

section
variable {T : Tb} {n k0 : Nat} {X : Cx} {pos p p2 pos2 : Pos} {e : Expr} {es : List Expr} {fe : FE} {fa : FA} {ms : Ms}
/-! ### {} -/
theorem tn_dic0 : TrN T n X (.Dict [] [] pos) (fC (.dic [] [])) := by
  refine ⟨fun t G al c env σ H Q d c' hs he hf q => ofE pe_dnewK fun p hp => ?_⟩
  cases hf
  exact q G al _ p _ (.junk hp) (hs.junk hp) (hs.free hp) (hs.apart hp) hp upd_same (.dK (kvs := []) rfl .nil)

/-! ### k in d, d[k] -/
theorem dict_of (t : Tied T n X) {pins : List (Addr × Obj)} {s : Shared} {σ : L2.St} {G H : Hp} {al : List Addr} {c : Cs} (I : Inv X pins σ H s) (hs : HSt T G al c H) {d : D} {v : V} {ks ds : List D} (r : Rq T G al H d v) (hd : deref c d = some (.dic ks ds)) (hT : ks.all isTupD = true) :
    ∃ p xs vs, v = .ref p ∧ DAt T G al s.heap p ks ds xs vs := by
  cases d with
  | cell j =>
    have hd : c[j]? = some (.dic ks ds) := hd
    rcases r with r | ⟨a, o, e, _, _, hh, b⟩
    · cases r with
      | box g b => cases b
      | cell ha =>
        obtain ⟨_, o, ho, b⟩ := hs.at_ j _ _ ha hd
        obtain ⟨xs, vs, D0⟩ := dict_at t I hs ho b hT
        exact ⟨_, xs, vs, rfl, D0⟩
    · cases b
  | dic ks' ds' =>
    cases hd
    rcases r with r | ⟨a, o, e, _, _, hh, b⟩
    · cases r with
      | box g b =>
        obtain ⟨xs, vs, D0⟩ := dict_at t I hs (hs.ex _ _ g) b hT
        exact ⟨_, xs, vs, rfl, D0⟩
    · obtain ⟨xs, vs, D0⟩ := dict_at t I hs hh b hT
      exact ⟨_, xs, vs, e, D0⟩
  | _ => cases hd
def inDic (c : Cs) (x y : D) : Option Bool := match deref c y with
  | some (.dic ks _) => if (ks.all isTupD && keyOk x) = true then some (dHas ks x) else none
  | _ => none
theorem room8 (t : Tied T n X) : (nestedKind T.P T.w).room X.A.in1 := by
  have := t.room.un
  show X.A.units + 1 + 8 < cLine
  omega
theorem op_inDic (t : Tied T n X) (neg : Bool) {pins : List (Addr × Obj)} {s : Shared} {σ : L2.St} {G H : Hp} {al : List Addr} {c : Cs} {dx dy : D} {b : Bool} {x y : V} {u v : Value} {Q : VK} (I : Inv X pins σ H s) (hs : HSt T G al c H) (rx : Rq T G al H dx x) (ry : Rq T G al H dy y) (ru : RelV x u) (rv : RelV y v) (e : inDic c dx dy = some b)
    (q : Q (.bl (if neg = true then !b else b)) H) : wpAny (model X.prog X.w) X.A (compareOp (if neg = true then .NotIn else .In) u v) (EP X pins σ Q) X.xe s := by
  unfold inDic at e
  split at e
  case h_2 => cases e
  case h_1 ks ds e1 =>
    split at e
    case isFalse => cases e
    case isTrue hb =>
      cases e
      simp only [Bool.and_eq_true] at hb
      obtain ⟨p, xs, vs, rfl, D0⟩ := dict_of t I hs ry e1 hb.1
      have rx' : Rp T G al dx x := by
        rcases rx with r | ⟨a, o, _, _, _, _, b⟩
        · exact r
        · cases b <;> simp [keyOk] at hb
      obtain ⟨k, a, ek, rfl, rfl, his⟩ := key_is t I hs hb.2 rx' ru
      obtain rfl : v = .ref p := rv
      have hmod : model X.prog X.w = model T.P T.w := by rw [t.P, t.w]
      rw [hmod]
      have hh : (valueAt (pairsH xs) k).isSome = dHas ks dx := by rw [valueAt_pairsH, Option.isSome_map, dHas_at D0.hk ek]
      cases neg with
      | false => exact in_keyed (room8 t) his D0.ns ⟨xs, D0.of_, rfl⟩ (by rw [hh]; exact ⟨.bl _, H, I.tok _, rfl, q⟩)
      | true => exact notIn_keyed (room8 t) his D0.ns ⟨xs, D0.of_, rfl⟩ (by rw [hh]; exact ⟨.bl _, H, I.tok _, rfl, q⟩)
/-- x in y: y an instance, a dict, or data -/
def oInA (ms : Ms) (neg : Bool) : F2 := fun x y c => match deref c y with
  | some (.dic _ _) => match inDic c x y with
    | some b => some (.bl (if neg = true then !b else b), c)
    | none => none
  | _ => oInM ms neg x y c
theorem op_oInA (D0 : Duns T k0 "__contains__" ms) (hk : k0 ≤ n) (neg : Bool) (t : Tied T n X) : OpR X (compareOp (if neg = true then .NotIn else .In)) (rP T (oInA ms neg)) := by
  intro pins s σ H x y u v Q I ru rv h
  obtain ⟨G, al, c, dx, dy, d, c', hs, rx, ry, hf, q⟩ := h
  unfold oInA at hf
  split at hf
  case h_1 ks ds e1 =>
    split at hf
    case h_2 => cases hf
    case h_1 b e2 => cases hf; exact op_inDic t neg I hs (.inl rx) (.inl ry) ru rv e2 (q.now hs (.bl _))
  case h_2 => exact op_oInM D0 hk neg t pins s σ H x y u v Q I ru rv ⟨G, al, c, dx, dy, d, c', hs, rx, ry, hf, q⟩
/-- .. an object of one's own too -/
def oInQ (neg : Bool) : F2 := fun x y c => match deref c y with
  | some (.dic _ _) => match inDic c x y with
    | some b => some (.bl (if neg = true then !b else b), c)
    | none => none
  | _ => match inD c x y with
    | some b => some (.bl (if neg = true then !b else b), c)
    | none => none
theorem op_oInQ (neg : Bool) (t : Tied T n X) : OpR X (compareOp (if neg = true then .NotIn else .In)) (rD T (oInQ neg)) := by
  intro pins s σ H x y u v Q I ru rv h
  obtain ⟨G, al, c, dx, dy, d, c', hs, rx, ry, hf, q⟩ := h
  unfold oInQ at hf
  split at hf
  case h_1 ks ds e1 =>
    split at hf
    case h_2 => cases hf
    case h_1 b e2 => cases hf; exact op_inDic t neg I hs rx ry ru rv e2 (q.now hs (.bl _))
  case h_2 =>
    split at hf
    case h_2 => cases hf
    case h_1 b e2 =>
      cases hf
      obtain ⟨r', o, z⟩ := Pd.op_inD (Q := Q) t neg hs rx ry e2 (q.now hs (.bl _))
      exact o pins s σ H x y u v Q I ru rv z

/-! ### sorted(d) -/
mutual
theorem reads_apart {h : Heap} {a : Addr} (ha : h.get? a = none) : ∀ {d : PyData} {v : Value} {as : List Addr}, Reads h v d as → ∀ b ∈ as, b ≠ a
  | _, _, _, .none => fun b hb => (by cases hb)
  | _, _, _, .bool _ => fun b hb => (by cases hb)
  | _, _, _, .int _ _ => fun b hb => (by cases hb)
  | _, _, _, .str _ _ => fun b hb => (by cases hb)
  | _, _, _, .list h1 _ _ r => fun b hb => by
    rcases List.mem_cons.mp hb with rfl | hb
    · intro e; subst e; rw [ha] at h1; cases h1
    · exact reads_apartAll ha r b hb
  | _, _, _, .tuple h1 _ _ r => fun b hb => reads_apartAll ha r b hb
  | _, _, _, .dict h1 _ _ r1 r2 => fun b hb => by
    rcases List.mem_append.mp hb with hb | hb
    · rcases List.mem_cons.mp hb with rfl | hb
      · intro e; subst e; rw [ha] at h1; cases h1
      · exact reads_apartAll ha r1 b hb
    · exact reads_apartAll ha r2 b hb
theorem reads_apartAll {h : Heap} {a : Addr} (ha : h.get? a = none) : ∀ {ds : List PyData} {vs : List Value} {as : List Addr}, ReadsAll h vs ds as → ∀ b ∈ as, b ≠ a
  | _, _, _, .nil => fun b hb => (by cases hb)
  | _, _, _, .cons r1 r2 => fun b hb => by
    rcases List.mem_append.mp hb with hb | hb
    · exact reads_apart ha r1 b hb
    · exact reads_apartAll ha r2 b hb
end
/-- the sorted keys of a dict -/
def fSortDic (f : FE) : FE := fun env c => match f env c with
  | some (d, c1) => match deref c1 d with
    | some (.dic ks _) => match pdns deep ks with
      | some ps => if (ks.all isTupD && alikeB ps && sortB ps && decide (ks.length ≤ lim)) = true then some (.lst (sortD ks ps), c1) else none
      | none => none
    | _ => none
  | none => none
theorem each_vals {G : Hp} {al : List Addr} {h : Heap} {us : List Value} {ds : List D} {ps : List PyData} {vs : List V} (hl : ds.length = ps.length) (hr : RpL T G al ds vs) (hv : Vals vs us) (hd : ∀ (i : Nat) u p, us[i]? = some u → ps[i]? = some p → ∃ as, Reads h u p as) :
    PySem.W.EachIs (fun (u : Value) (b : D × PyData) => (∃ x, RelV x u ∧ Rp T G al b.1 x) ∧ ∃ as, Reads h u b.2 as) us (ds.zip ps) := by
  induction hv generalizing ds ps with
  | nil =>
    cases hr
    exact .nil
  | cons r t ih =>
    cases hr with
    | cons r1 t1 =>
      cases ps with
      | nil => simp at hl
      | cons q qs =>
        exact .cons ⟨⟨_, r, r1⟩, hd 0 _ _ rfl rfl⟩ (ih (by simpa using hl) t1 fun i u p h1 h2 => hd (i + 1) u p (by simpa using h1) (by simpa using h2))
theorem vals_keys : ∀ xs : List (NestedKey × Addr × Value), Vals (xs.map fun x => V.ref x.2.1) (xs.map fun x => Value.ref x.2.1)
  | [] => .nil
  | x :: xs => .cons rfl (vals_keys xs)
theorem depth_le {p : PyData} : ∀ {ps : List PyData}, p ∈ ps → p.depth ≤ PyData.depthAll ps
  | [], hp => by cases hp
  | y :: r, hp => by
    simp only [PyData.depthAll]
    rcases List.mem_cons.mp hp with rfl | hp
    · omega
    · have := depth_le hp
      omega
theorem sort_dict (t : Tied T n X) {pins : List (Addr × Obj)} {s : Shared} {σ : L2.St} {H : Hp} {Q : VK} {G : Hp} {al : List Addr} {c : Cs} {p : Addr} {ks ds : List D} {ps : List PyData} {xs : List (NestedKey × Addr × Value)} {vs : List V} (I : Inv X pins σ H s) (hs : HSt T G al c H) (D0 : DAt T G al s.heap p ks ds xs vs)
    (e : pdns deep ks = some ps) (h1 : alikeB ps = true) (h2 : sortB ps = true) (h3 : ks.length ≤ lim) (q : AftN T G al H (.lst (sortD ks ps)) c Q) : wpAny (model X.prog X.w) X.A (call (.builtin "sorted") [.ref p]) (EP X pins σ Q) X.xe s := by
  obtain ⟨es, ep, hraw, hsz, hes⟩ := D0.of_.raw
  have hx : xs.length = ks.length := by have := congrArg List.length D0.hk; simpa using this.symm
  have hsz' : es.size = ks.length := by rw [hsz, hx]
  have hraw2 : ∀ i (hi : i < es.size), ∃ y, xs[i]? = some y ∧ es[i].key = .ref y.2.1 ∧ es[i].val = y.2.2 ∧ (nestedKind T.P T.w).is s.heap y.1 y.2.1 := hes
  have hle : es.size ≤ sizeLine := by rw [hsz']; exact Nat.le_trans h3 lim_line
  have hhd : X.A.in1.handled = none := I.ok.hd t.calm
  have hmod : model X.prog X.w = model T.P T.w := by rw [t.P, t.w]
  -- what is gathered: the keys, in their sequence
  have hkeys : ∀ (acc : Array Value), PySem.ItemsOf (fun i v => ∃ hi : i < es.size, v = es[i].key) acc es.size → Vals (xs.map fun x => V.ref x.2.1) acc.toList := by
    intro acc hacc
    have : acc.toList = xs.map fun x => Value.ref x.2.1 := by
      apply List.ext_getElem?
      intro i
      by_cases hi : i < es.size
      · have ha : i < acc.size := by rw [hacc.1]; exact hi
        have h0 : acc[i]? = some acc[i] := Array.getElem?_eq_getElem ha
        obtain ⟨hi', e1⟩ := hacc.2 i acc[i] h0
        obtain ⟨y, hy, hk', _, _⟩ := hraw2 i hi
        rw [Array.getElem?_toList, h0, List.getElem?_map, hy, e1, hk']
        rfl
      · rw [List.getElem?_eq_none (by rw [Array.length_toList, hacc.1]; omega), List.getElem?_eq_none (by rw [List.length_map, hx, ← hsz']; omega)]
    rw [this]
    exact vals_keys xs
  refine Calls.call_function_entry kind_sorted plain_sorted entry_sorted (args_sorted1 _) ?_
  unfold Builtin.«sorted»
  refine wpAny_bind (wpAny_pure ?_)
  dsimp only
  refine wpAny_bind (PySem.W.kdu_collect (A := X.A.in1) (PySem.KdlSrc.rawDict (prog := X.prog) (w := X.w) D0.ns) hhd hraw hle fun h' tk acc hk hacc => ?_)
  have hv := hkeys acc hacc
  have hal : acc.toList.length = ks.length := by rw [Array.length_toList, hacc.1, hsz']
  have hm : (ks.zip ps).map (·.2) = ps := List.map_snd_zip (Nat.le_of_eq (pdns_length e).symm)
  have lz : (ks.zip ps).length = ks.length := by rw [List.length_zip, pdns_length e, Nat.min_self]
  refine wpAny_bind (wpAny_newList ?_ (by rw [hal, ← hsz']; exact hle))
  have each := each_of I t hs e D0.rk hv
  have fresh : h'.get? h'.objs.size = none := Heap.get?_none_of_le (Nat.le_refl _)
  have hL : (h'.push { cls := .type "list", data := .seq acc.toList.toArray }).get? h'.objs.size = some (seqObj "list" acc.toList.toArray 0) := Heap.get?_push_size _ rfl
  have er : PySem.W.EachIs (fun (u : Value) (b : D × PyData) => ∃ as, Reads (h'.push { cls := .type "list", data := .seq acc.toList.toArray }) u b.2 as ∧ h'.objs.size ∉ as) acc.toList (ks.zip ps) :=
    each.mono fun u b ⟨_, as, r⟩ => ⟨as, PyProof.Rows.Reads.keeps (fun b o q => Heap.get?_push_of_some _ (hk b o q)) r, fun hm => by
      have r' := PyProof.Rows.Reads.keeps hk r
      exact reads_apart fresh r' _ hm rfl⟩
  have hu5 : ∀ b ∈ ks.zip ps, X.A.in1.units + 1 + (b.2).depth < cLine := by
    intro b hb
    have hb2 : b.2 ∈ ps := by rw [← hm]; exact List.mem_map.mpr ⟨b, hb, rfl⟩
    obtain ⟨_, hd⟩ := pdns_shape deep ks ps e
    have h4 := depth_le hb2
    have h5 : b.2.depth ≤ 60 := Nat.le_trans h4 hd
    have := t.room.un
    show X.A.units + 1 + 1 + b.2.depth < cLine
    omega
  refine wpAny_bind (wpAny_holding (PySem.W.list_sort_data (s := { s with heap := h'.push { cls := .type "list", data := .seq acc.toList.toArray }, toks := tk }) (enc := fun b : D × PyData => b.2) hL each er (by rw [hm]; exact alikeB_ok h1) (by rw [hm]; exact sortB_ok h2) (by rw [lz, ← hsz']; exact hle) hu5 fun out ho eo => ?_))
  refine wpAny_pure ⟨_, rfl, ?_⟩
  obtain ⟨ws, rw', rl'⟩ := each_fst eo
  obtain ⟨cc, hc⟩ := sortedHeap_at (vs := acc.toList) (out := out.toArray) hL
  have hws : ws.length ≤ sizeLine := by rw [rw'.length, ho, lz, ← hsz']; exact hle
  have I1 : Inv X pins σ H { s with heap := h', toks := tk } := I.kept hk
  have hn : H h'.objs.size = none := I1.hok.fresh (Nat.le_refl _)
  have keep : ∀ b o, h'.get? b = some o → (sortedHeap (h'.push { cls := .type "list", data := .seq acc.toList.toArray }) h'.objs.size acc.toList out.toArray).get? b = some o := fun b o q' => by
    have hlt := Heap.lt_size q'
    rw [sortedHeap_old (Nat.ne_of_lt hlt) (by rw [Heap.size_push]; exact Nat.lt_succ_of_lt hlt)]
    exact Heap.get?_push_of_some _ q'
  exact ⟨.ref _, upd H h'.objs.size (.lst ws), I1.laid (t' := tk) keep (Nat.le_refl _) ⟨hws, out, cc, rw', hc⟩, rfl, q.new hs hn (.lst rl')⟩
end
end Pd
set_option Elab.async false
set_option linter.all false
set_option maxRecDepth 100000
/-! Pd16: sorted(d), d[k], texts, list(range). -/
namespace Pd
open PySem PySem.Spec PyProof.Rows L2

section
variable {T : Tb} {n k0 : Nat} {X : Cx} {pos p p2 pos2 : Pos} {e e2 : Expr} {es : List Expr} {fe fe2 : FE} {fa : FA} {ms : Ms}
/-! ### sorted(x): a list, a dict -/
def bSortA : FC := fun ds c => match ds with
  | [d] => match deref c d with
    | some (.dic ks _) => match pdns deep ks with
      | some ps => if (ks.all isTupD && alikeB ps && sortB ps && decide (ks.length ≤ lim)) = true then some (.lst (sortD ks ps), c) else none
      | none => none
    | _ => bSorted [d] c
  | _ => none
theorem cr_bSortA (t : Tied T n X) : CallR X (.builtin "sorted") (rCN T bSortA) := by
  intro pins s σ H xs us Q I rv h
  obtain ⟨G, al, c, ds, d, c', hs, rl, hg, q⟩ := h
  unfold bSortA at hg
  split at hg
  case h_2 => cases hg
  case h_1 d0 =>
    split at hg
    case h_2 => exact cr_bSorted t pins s σ H xs us Q I rv ⟨G, al, c, _, d, c', hs, rl, hg, q⟩
    case h_1 ks vs e1 =>
      split at hg
      case h_2 => cases hg
      case h_1 ps e3 =>
        split at hg
        case isFalse => cases hg
        case isTrue hb =>
          cases hg
          simp only [Bool.and_eq_true, decide_eq_true_eq] at hb
          obtain ⟨v, rfl, r⟩ := rl.one
          obtain ⟨a, xs', vs', rfl, D0⟩ := dict_of t I hs r e1 hb.1.1.1
          rw [Vals.ref1 rv]
          exact sort_dict t I hs D0 e3 hb.1.1.2 hb.1.2 hb.2 q

/-! ### d[k] -/
/-- x[y]: x an instance, a dict, or data -/
def oIxA (ms : Ms) : F2 := fun x y c => match deref c x with
  | some (.dic ks ds) => if (ks.all isTupD && keyOk y) = true then match dGet ks ds y with | some d => some (d, c) | none => none else none
  | _ => oIxM ms x y c
theorem ix_oIxA (D0 : Duns T k0 "__getitem__" ms) (hk : k0 + 1 ≤ n) (t : Tied T n X) : IxR2 X (rP T (oIxA ms)) := by
  intro value slice pins s σ H x y v u Q I ru rv h hsub hsub2
  obtain ⟨G, al, c, dx, dy, d, c', hs, rx, ry, hf, q⟩ := h
  unfold oIxA at hf
  split at hf
  case h_2 => exact ix_oIxM D0 hk t value slice pins s σ H x y v u Q I ru rv ⟨G, al, c, dx, dy, d, c', hs, rx, ry, hf, q⟩ hsub hsub2
  case h_1 ks ds e1 =>
    split at hf
    case isFalse => cases hf
    case isTrue hb =>
      split at hf
      case h_2 => cases hf
      case h_1 d1 e2 =>
        cases hf
        simp only [Bool.and_eq_true] at hb
        obtain ⟨p, xs, vs, rfl, D0⟩ := dict_of t I hs (.inl rx) e1 hb.1
        obtain ⟨k, a, ek, rfl, rfl, his⟩ := key_is t I hs hb.2 ry rv
        obtain rfl : v = .ref p := ru
        obtain ⟨pp, w, hp, rw', rd⟩ := dGet_at D0.hk ek D0.rd D0.rv e2
        have hmod : model X.prog X.w = model T.P T.w := by rw [t.P, t.w]
        refine subscriptTail_builtinR (x := pp.2) D0.of_.typeIs slot_dict_getitem.lookup ?_ (hsub _ _)
        rw [hmod]
        exact wpAny_getItem_heap (Q := fun r s' => r = pp.2 ∧ EP X pins σ Q r s') (room8 t) his D0.of_ hp ⟨rfl, w, H, I.tok _, rw', q.now hs rd⟩

/-! ### int, str of texts -/
def bIntS : FC := fun ds c => match ds with
  | [.str x] => match PySem.intText? x with
    | some i => if x.length ≤ 640 then some (.int i, c) else none
    | none => none
  | _ => bInt ds c
theorem cr_bIntS (t : Tied T n X) : CallR X (.type "int") (rC T bIntS) := by
  intro pins s σ H xs us Q I rv h
  obtain ⟨G, al, c, ds, d, c', hs, rl, hg, q⟩ := h
  unfold bIntS at hg
  split at hg
  case h_1 x =>
    split at hg
    case h_2 => cases hg
    case h_1 i e =>
      split at hg
      case isFalse => cases hg
      case isTrue hl =>
        cases hg
        obtain ⟨v, rfl, r⟩ := rl.one
        have := r.str_inv
        subst this
        exact call_int_str pins s σ H _ us Q I rv ⟨x, i, rfl, e, hl, q.now hs (.int _)⟩
  case h_2 => exact cr_bInt t pins s σ H xs us Q I rv ⟨G, al, c, ds, d, c', hs, rl, hg, q⟩

/-! ### f-strings -/
def fFmt (f : FE) : FE := fun env c => match f env c with
  | some (.str x, c1) => if x.length ≤ lim then some (.str x, c1) else none
  | some (.int i, c1) => if smStr i = true then some (.str (toString i), c1) else none
  | _ => none
theorem tr_fmt (h : TrE T n X e fe) : TrE T n X (.FormattedValue e (-1) none pos) (fFmt fe) := by
  refine ⟨fun t G al c env σ H Q d c' hs he hf q => ofE (pe_fmt (peS e)) ?_⟩
  unfold fFmt at hf
  split at hf
  case h_3 => cases hf
  case h_1 x c1 e1 =>
    split at hf
    case isFalse => cases hf
    case isTrue hl =>
      cases hf
      refine h.run t G al c env σ H _ _ _ hs he e1 fun G1 al1 H1 v l hs1 r => ?_
      have := Rq.str_inv (H := H1) (.inl r)
      subst this
      exact .inl ⟨x, rfl, Nat.le_trans hl lim_line, q G1 al1 H1 _ l hs1 (.str _)⟩
  case h_2 i c1 e1 =>
    split at hf
    case isFalse => cases hf
    case isTrue hl =>
      cases hf
      refine h.run t G al c env σ H _ _ _ hs he e1 fun G1 al1 H1 v l hs1 r => ?_
      have := Rq.int_inv (H := H1) (.inl r)
      subst this
      exact .inr ⟨i, rfl, of_decide_eq_true hl, q G1 al1 H1 _ l hs1 (.str _)⟩
/-- the parts' texts, one behind the other -/
def catS : Str → List D → Option Str
  | acc, [] => some acc
  | acc, .str y :: r => if (acc ++ y).length ≤ lim then catS (acc ++ y) r else none
  | _, _ => none
def fJoined (fa : FA) : FE := fun env c => match fa env c with
  | some (ds, c1) => match catS Str.empty ds with
    | some x => some (.str x, c1)
    | none => none
  | none => none
/-- parts, one by one -/
structure TrJ (T : Tb) (n : Nat) (X : Cx) (es : List Expr) (f : FA) : Prop where
  run : Tied T n X → ∃ ts, PJ X es ts ∧ ∀ (G : Hp) (al : List Addr) (c : Cs) (env : En) (σ : L2.St) (H : Hp) (acc : Str) (Q : Str → Hp → Prop) (ds : List D) (c' : Cs) (x : Str), HSt T G al c H → EOk T G al H env σ → f env c = some (ds, c') → catS acc ds = some x →
    (∀ (G' : Hp) (al' : List Addr) (H' : Hp), Stp G al H G' al' H' → HSt T G' al' c' H' → Q x H') → tJs ts acc σ H Q
theorem tj_nil : TrJ T n X [] aNil := ⟨fun t => ⟨[], .nil, fun G al c env σ H acc Q ds c' x hs he hf hc q => by
  cases hf
  cases hc
  exact q G al H (.refl _ _ _) hs⟩⟩
theorem tj_cons (h : TrE T n X e fe) (hr : TrJ T n X es fa) : TrJ T n X (e :: es) (aCons fe fa) := by
  refine ⟨fun t => ?_⟩
  obtain ⟨ts, pj, run⟩ := hr.run t
  refine ⟨_ :: ts, .cons (peS e) pj, fun G al c env σ H acc Q ds c' x hs he hf hc q => ?_⟩
  unfold aCons at hf
  split at hf
  case h_2 => cases hf
  case h_1 d c1 e1 =>
    split at hf
    case h_2 => cases hf
    case h_1 ds' c2 e2 =>
      cases hf
      cases d with
      | str y =>
        have hc : (if (acc ++ y).length ≤ lim then catS (acc ++ y) ds' else none) = some x := hc
        split at hc
        case isFalse => cases hc
        case isTrue hl =>
          refine h.run t G al c env σ H _ _ _ hs he e1 fun G1 al1 H1 v l1 hs1 r1 => ?_
          have := Rq.str_inv (H := H1) (.inl r1)
          exact ⟨y, this, Nat.le_trans hl lim_line, run G1 al1 c1 env σ H1 (acc ++ y) Q _ _ x hs1 (he.mono l1) e2 hc fun G' al' H' l' => q G' al' H' (l1.trans l')⟩
      | _ => cases hc
theorem tr_joined (h : TrJ T n X (e :: e2 :: es) fa) : TrE T n X (.JoinedStr (e :: e2 :: es) pos) (fJoined fa) := by
  refine ⟨fun t G al c env σ H Q d c' hs he hf q => ?_⟩
  obtain ⟨ts, pj, run⟩ := h.run t
  refine ofE (pe_joined pj) ?_
  unfold fJoined at hf
  split at hf
  case h_2 => cases hf
  case h_1 ds c1 e1 =>
    split at hf
    case h_2 => cases hf
    case h_1 x e3 => cases hf; exact run G al c env σ H _ _ ds _ x hs he e1 e3 fun G' al' H' l hs' => q G' al' H' _ l hs' (.str x)
theorem tr_joined1 (h : TrE T n X e fe) : TrE T n X (.JoinedStr [e] pos) fe := ⟨fun t G al c env σ H Q d c' hs he hf q => ofE (pe_joined1 (peS e)) (h.run t G al c env σ H Q d c' hs he hf q)⟩

/-! ### list(range(..)) -/
def rgOk (a b : Int) : Bool := small62 a && small62 b && decide ((b - a).toNat ≤ 16777216)
def fLstRg (fr : FA) : FE := fun env c => match fr env c with
  | some ([.int a, .int b], c1) => if rgOk a b = true then some (.lst (rangeD a (b - a).toNat), c1) else none
  | some ([.int b], c1) => if rgOk 0 b = true then some (.lst (rangeD 0 (b - 0).toNat), c1) else none
  | _ => none
theorem rgOk_ok {a b : Int} (h : rgOk a b = true) : RgOk a b := by
  unfold rgOk at h
  simp only [Bool.and_eq_true, decide_eq_true_eq] at h
  obtain ⟨⟨h1, h2⟩, h3⟩ := h
  obtain ⟨h4, h5⟩ := small62_ok h1
  obtain ⟨h6, h7⟩ := small62_ok h2
  exact ⟨h4, h5, h6, h7, h3⟩
theorem rl_range {G : Hp} {al : List Addr} (a : Int) (k : Nat) : RpL T G al (rangeD a k) ((List.range k).map fun i => V.int (a + (i : Nat))) := by
  have : ∀ (l : List Nat), RpL T G al (l.map fun i => D.int (a + (i : Nat))) (l.map fun i => V.int (a + (i : Nat))) := by
    intro l
    induction l with
    | nil => exact .nil
    | cons x r ih => exact .cons (.int _) ih
  exact this _
theorem tn_lstRg1 (h : TrE T n X e fe) (hm : X.mg "list" = none) (hm2 : X.mg "range" = none) (hg : Gl X "list" := by rfl) (hg2 : Gl X "range" := by rfl) (na : starEach [.Call (.Name "range" p2) [e] [] pos2] X.env = (false, eval (.Call (.Name "range" p2) [e] [] pos2) X.env) :: starEach [] X.env := by rfl)
    (na2 : starEach [e] X.env = (false, eval e X.env) :: starEach [] X.env := by rfl) : TrN T n X (.Call (.Name "list" p) [.Call (.Name "range" p2) [e] [] pos2] [] pos) (fLstRg (aCons fe aNil)) := by
  refine ⟨fun t G al c env σ H Q d c' hs he hf q => ofE (pe_listRg t.calm hg hm (prg_1 hg2 hm2 (peS e) na2) na) ?_⟩
  unfold fLstRg at hf
  split at hf
  case h_1 a b c1 e1 =>
    unfold aCons aNil at e1
    split at e1 <;> simp at e1
  case h_2 b c1 e1 =>
    unfold aCons aNil at e1
    split at e1
    case h_2 => cases e1
    case h_1 d1 c2 e2 =>
      simp only [Option.some.injEq, Prod.mk.injEq, List.cons.injEq, and_true] at e1
      obtain ⟨rfl, rfl⟩ := e1
      split at hf
      case isFalse => cases hf
      case isTrue hl =>
        cases hf
        refine h.run t G al c env σ H _ _ _ hs he e2 fun G1 al1 H1 v l hs1 r => ?_
        have := Rq.int_inv (H := H1) (.inl r)
        subst this
        exact ⟨b, rfl, rgOk_ok hl, fun w hw => q G1 al1 _ w _ (l.trans (.junk hw)) (hs1.junk hw) (hs1.free hw) (hs1.apart hw) (fresh_before hs hs1 l hw) upd_same (.lst (rl_range 0 _))⟩
  case h_3 => cases hf
end
end Pd
set_option Elab.async false
set_option linter.all false
set_option maxRecDepth 100000
/-! Pd17: what was left over; defs as mirrors; the head's facts. -/
namespace Pd
open PySem PySem.Spec PyProof.Rows L2

section
variable {T : Tb} {n : Nat} {X : Cx} {pos p : Pos} {a b e e3 tg : Expr} {fa fb fc fe : FE}
theorem tr_chain {op op' : CmpOp} {g g' : F2} (ho : Tied T n X → OpR X (compareOp op) (rD T g)) (ho' : Tied T n X → OpR X (compareOp op') (rD T g')) (ha : TrQ T n X a fa) (hb : TrQ T n X b fb) (hc : TrQ T n X e3 fc) (hm : lastMarks [op, op'] [b, e3] = false := by with_unfolding_all rfl) :
    TrE T n X (.Compare a [op, op'] [b, e3] pos) (fChain g g' fa fb fc) :=
  ⟨fun t G al c env σ H Q d c' hs he hf q => ofE (pe_chain (ho t) (ho' t) (peS a) (peS b) (peS e3) hm) (chain (op := op) (op' := op') t ha hb hc hs he hf q)⟩
theorem tt_chain {op op' : CmpOp} {g g' : F2} (ho : Tied T n X → OpR X (compareOp op) (rD T g)) (ho' : Tied T n X → OpR X (compareOp op') (rD T g')) (ha : TrQ T n X a fa) (hb : TrQ T n X b fb) (hc : TrQ T n X e3 fc) (hm : lastMarks [op, op'] [b, e3] = false := by with_unfolding_all rfl) :
    TrT T n X (.Compare a [op, op'] [b, e3] pos) (asB (fChain g g' fa fb fc)) := by
  refine ⟨fun t G al c env σ H Q k c' hs he hf q => ofT (pt_chain (ho t) (ho' t) (peS a) (peS b) (peS e3) hm) ?_⟩
  unfold asB at hf
  split at hf
  case h_2 => cases hf
  case h_1 k' c1 e1 =>
    cases hf
    exact chain (op := op) (op' := op') t ha hb hc hs he e1 fun G' al' H' v l hs' r => ⟨_, r.bl_inv, q G' al' H' l hs'⟩
theorem tt_cmpP {op : CmpOp} {g : F2} (ho : Tied T n X → OpR X (compareOp op) (rP T g)) (ha : TrE T n X a fa) (hb : TrE T n X b fb) (hm : behindInMarks op b = false := by first | exact nomark _ | rfl) : TrT T n X (.Compare a [op] [b] pos) (asB (fOp g fa fb)) := by
  refine ⟨fun t G al c env σ H Q k c' hs he hf q => ofT (pt_cmpR (ho t) (peS a) (peS b) hm) ?_⟩
  unfold asB at hf
  split at hf
  case h_2 => cases hf
  case h_1 k' c1 e1 =>
    cases hf
    exact twoP t ha hb hs he e1 fun G2 al2 c2 H2 x y v u l hs2 rx ry hg => ⟨G2, al2, c2, x, y, _, _, hs2, rx, ry, hg, fun G' al' H' v' l' hs' r => ⟨_, r.bl_inv, q G' al' H' (l.trans l') hs'⟩⟩
def fNeg (f : FE) : FE := fun env c => match f env c with | some (.int i, c1) => some (.int (-i), c1) | _ => none
theorem tr_neg (h : TrE T n X e fe) : TrE T n X (.UnaryOp .USub e pos) (fNeg fe) := by
  refine ⟨fun t G al c env σ H Q d c' hs he hf q => ofE (pe_un un_neg (peS e)) ?_⟩
  unfold fNeg at hf
  split at hf
  case h_2 => cases hf
  case h_1 i c1 e1 =>
    cases hf
    exact h.run t G al c env σ H _ _ _ hs he e1 fun G1 al1 H1 v l hs1 r => ⟨i, Rq.int_inv (H := H1) (.inl r), q G1 al1 H1 _ l hs1 (.int _)⟩
/-! ### the signs of a text -/
def signs (x : Str) : List D := x.cps.toList.map fun k => .str ⟨#[k]⟩
def fSig (f : FE) : FA := fun env c => match f env c with
  | some (.str x, c1) => some (signs x, c1)
  | _ => none
theorem ti_str (h : TrE T n X e fe) : TrI T n X tg e (fSig fe) := by
  refine ⟨fun t G al c env σ H R ds c' hs he hf q => ofI (pi_str (peS e)) ?_⟩
  unfold fSig at hf
  split at hf
  case h_2 => cases hf
  case h_1 x c1 e1 =>
    cases hf
    refine h.run t G al c env σ H _ _ _ hs he e1 fun G1 al1 H1 v l1 hs1 r1 => ⟨x, Rq.str_inv (H := H1) (.inl r1), q G1 al1 H1 _ l1 hs1 fun i G2 al2 c2 H2 le hs2 => ⟨fun d hd => ?_, fun hl => ?_⟩⟩
    · unfold signs at hd
      rw [List.getElem?_map] at hd
      obtain ⟨k, hk, rfl⟩ := Option.map_eq_some_iff.mp hd
      have hk' : x.cps[i]? = some k := by rw [← Array.getElem?_toList]; exact hk
      refine ⟨(Array.getElem?_eq_some_iff.mp hk').1, fun y H3 ⟨e2, kk, e3, e4⟩ => ?_⟩
      subst e2
      rw [hk'] at e3
      cases e3
      subst e4
      exact ⟨G2, .refl _ _ _, hs2, .str _⟩
    · have : x.cps.size ≤ i := by simpa [signs] using hl
      exact this
end

/-! ### defs as mirrors -/
def mOf (N : List Str) (k : Nat) (fb : FS) : FC := fun ds c => if ds.length = k then match fb (startD N ds) c with
  | some (.rt d, _, c1) => some (d, c1)
  | some (.nx, _, c1) => some (.non, c1)
  | _ => none else none
def mInit (j : Nat) (N : List Str) (k : Nat) (fb : FS) : FC := fun ds c => if ds.length + 1 = k then match fb (startI j N ds) c with
  | some (.nx, env1, c1) => match env1[0]? with
    | some (some (Sl.o d)) => some (d, c1)
    | _ => none
  | _ => none else none
section
variable {T : Tb} {n : Nat} {N ps : List Str} {x qual : Str} {params : Arguments} {body : List Stmt} {scope : Scope} {f : Addr} {fd : FuncData} {kws : List (Str × V)} {fb : FS} {st : Stmt}
theorem mOf_len {ds : List D} {c : Cs} {r : D × Cs} {k : Nat} (h : mOf N k fb ds c = some r) : ds.length = k := by
  unfold mOf at h
  split at h
  case isTrue e => exact e
  case isFalse => cases h
theorem mInit_len {j : Nat} {ds : List D} {c : Cs} {r : D × Cs} {k : Nat} (h : mInit j N k fb ds c = some r) : ds.length + 1 = k := by
  unfold mInit at h
  split at h
  case isTrue e => exact e
  case isFalse => cases h
theorem fnat_of (F : FunD T.K x qual params body scope [] kws f fd) (S : FnScope N ps scope) (b : Binds T.K fd ps [])
    (tr : ∀ (cdv : Value) (A : Around) (outer : List Env) (s : Shared) (H : Hp) (E : XK), TrB T n (BX T N qual scope f cdv A outer s H E) body fb) : FnAt T (n + 1) f fd ps (mOf N ps.length fb) := by
  refine ⟨fnok_body F S S.nd tr fun ds c r h => ?_, F.kp, b, fun ds c r h => mOf_len h⟩
  unfold mOf at h
  split at h
  case isFalse => cases h
  case isTrue hl =>
    split at h
    case h_1 d env1 c1 e => cases h; exact ⟨_, _, e, .inl rfl⟩
    case h_2 env1 c1 e => cases h; exact ⟨_, _, e, .inr ⟨rfl, rfl⟩⟩
    case h_3 => cases h
theorem mkr_of {j : Nat} {y : Str} (F : FunD T.K x qual params body scope [] kws f fd) (S : FnScope N ps scope) (b : Binds T.K fd ps []) (M : Mk T.K (T.cl j) f) (g : T.mg y = some (.ref (T.cl j)))
    (tr : ∀ (cdv : Value) (A : Around) (outer : List Env) (s : Shared) (H : Hp) (E : XK), TrB T n (BX T N qual scope f cdv A outer s H E) body fb) : Mkr T (n + 1) j y ps (mInit j N ps.length fb) := by
  refine ⟨⟨f, fd, fnok_init F S S.nd tr fun ds c r h => ?_, M, b⟩, fun ds c r h => mInit_len h, g⟩
  unfold mInit at h
  split at h
  case isFalse => cases h
  case isTrue hl =>
    split at h
    case h_2 => cases h
    case h_1 env1 c1 e =>
      split at h
      case h_2 => cases h
      case h_1 d e2 => cases h; exact ⟨_, _, e, .inr rfl, e2⟩
end

/-! ### the head -/
section
variable {ex : PySem.W.Frag → List Bool} {fn : List He5.DefA} {K : PySem.W.Frag}
end
theorem obcB_ok {K : PySem.W.Frag} {C : Addr} (c : Cls K C) (h : obcB K C = true) : Obc K C := by
  obtain ⟨h1, h⟩ := He.ba h
  obtain ⟨h2, h⟩ := He.ba h
  obtain ⟨h3, h4⟩ := He.ba h
  exact ⟨c, He.eqO_ok h1, He.eqO_ok h2, of_decide_eq_true h3, of_decide_eq_true h4⟩
theorem neB_ok {K : PySem.W.Frag} {C : Addr} (h : neB K C = true) : NeC K C := by
  obtain ⟨h1, h2⟩ := He.ba h
  exact ⟨He.eqO_ok h1, of_decide_eq_true h2⟩
end Pd
set_option Elab.async false
set_option linter.all false
set_option maxRecDepth 100000
/-! Pd18: what the printed derivations lean on. -/
namespace Pd
open PySem PySem.Spec PyProof.Rows L2
abbrev Der (T : Tb) (n : Nat) (N : List Str) (qual : Str) (st : Stmt) (fb : FS) : Prop :=
  ∀ (f : Addr) (cdv : Value) (A : Around) (outer : List Env) (s : Shared) (H : Hp) (E : XK), TrB T n (BX T N qual (defScope st) f cdv A outer s H E) (defBody st) fb
def tc_cls (n i : Nat) : Nat → Option Bool := fun k => if k < n then some (decide (k = i)) else none
def tc_none (n : Nat) : Nat → Option Bool := fun k => if k < n then some false else none
def Prps (T : Tb) (k : Nat) (x : Str) (ms : Ms) : Prop := ∀ j m, ms j = some m → Prp T k j x m
def Mths (T : Tb) (k : Nat) (x : Str) (ms : Ms) : Prop := ∀ j m, ms j = some m → ∃ ps, Mth T k j x ps m
theorem Prps.at {T : Tb} {k n : Nat} {x : Str} {ms : Ms} (h : Prps T k x ms) (hk : k + 1 ≤ n) : ∀ j m, ms j = some m → ∃ k, k + 1 ≤ n ∧ Prp T k j x m := fun j m e => ⟨k, hk, h j m e⟩
theorem Mths.at {T : Tb} {k n : Nat} {x : Str} {ms : Ms} (h : Mths T k x ms) (hk : k ≤ n) : ∀ j m, ms j = some m → ∃ k ps, k ≤ n ∧ Mth T k j x ps m := fun j m e => let ⟨ps, M⟩ := h j m e; ⟨k, ps, hk, M⟩
end Pd
set_option Elab.async false
set_option linter.all false
set_option maxRecDepth 100000
/-! Pd19: readings that leave the cells alone; the head's facts as the derivations want them. -/
namespace Pd
open PySem PySem.Spec PyProof.Rows L2
class NcE (f : FE) : Prop where
  h : ∀ env c d c', f env c = some (d, c') → c' = c
class NcA (f : FA) : Prop where
  h : ∀ env c d c', f env c = some (d, c') → c' = c
class NcT (f : FT) : Prop where
  h : ∀ env c d c', f env c = some (d, c') → c' = c
class NcS (f : FS) : Prop where
  h : ∀ env c l e c', f env c = some (l, e, c') → c' = c
class Nc2 (f : F2) : Prop where
  h : ∀ x y c d c', f x y c = some (d, c') → c' = c
class NcC (f : FC) : Prop where
  h : ∀ ds c d c', f ds c = some (d, c') → c' = c
class NcM (ms : Ms) : Prop where
  h : ∀ j m, ms j = some m → NcC m
instance (i : Nat) : NcE (fVar i) := ⟨fun env c d c' h => by unfold fVar at h; split at h <;> first | (cases h; rfl) | cases h⟩
instance (i : Nat) : NcE (fVarQ i) := ⟨fun env c d c' h => by unfold fVarQ at h; split at h <;> first | (cases h; rfl) | cases h⟩
instance (d : D) : NcE (fC d) := ⟨fun env c d c' h => by unfold fC at h; cases h; rfl⟩
instance (ks : List (Nat × Nat)) (f : FE) [n : NcE f] : NcE (fFld ks f) := ⟨fun env c d c' h => by
  unfold fFld at h
  split at h
  case h_2 => cases h
  case h_1 d1 c1 e =>
    repeat (split at h <;> try cases h)
    exact n.h _ _ _ _ e⟩
instance (g : F2) (f f' : FE) [n : NcE f] [n' : NcE f'] [n2 : Nc2 g] : NcE (fOp g f f') := ⟨fun env c d c' h => by
  unfold fOp at h
  split at h
  case h_2 => cases h
  case h_1 d1 c1 e =>
    split at h
    case h_2 => cases h
    case h_1 d2 c2 e2 => exact (n2.h _ _ _ _ _ h).trans ((n'.h _ _ _ _ e2).trans (n.h _ _ _ _ e))⟩
instance : NcA aNil := ⟨fun env c d c' h => by unfold aNil at h; cases h; rfl⟩
instance (f : FE) (g : FA) [n : NcE f] [n' : NcA g] : NcA (aCons f g) := ⟨fun env c d c' h => by
  unfold aCons at h
  split at h
  case h_2 => cases h
  case h_1 d1 c1 e =>
    split at h
    case h_2 => cases h
    case h_1 d2 c2 e2 =>
      cases h
      exact (n'.h _ _ _ _ e2).trans (n.h _ _ _ _ e)⟩
instance (g : FA) [n : NcA g] : NcE (fTup g) := ⟨fun env c d c' h => by
  unfold fTup at h
  split at h
  case h_2 => cases h
  case h_1 d1 c1 e =>
    split at h <;> cases h
    exact n.h _ _ _ _ e⟩
instance (g : FA) [n : NcA g] (m : FC) [n2 : NcC m] : NcE (fCall m g) := ⟨fun env c d c' h => by
  unfold fCall at h
  split at h
  case h_2 => cases h
  case h_1 d1 c1 e => exact (n2.h _ _ _ _ h).trans (n.h _ _ _ _ e)⟩
instance (ms : Ms) (f : FE) (g : FA) [n : NcE f] [n2 : NcA g] [n3 : NcM ms] : NcE (fMeth ms f g) := ⟨fun env c d c' h => by
  unfold fMeth at h
  split at h
  case h_2 => cases h
  case h_1 d1 c1 e =>
    split at h
    case h_2 => cases h
    case h_1 j ds0 e2 =>
      split at h
      case h_2 => cases h
      case h_1 m em =>
        split at h
        case h_2 => cases h
        case h_1 ds c2 e3 => exact ((n3.h _ _ em).h _ _ _ _ h).trans ((n2.h _ _ _ _ e3).trans (n.h _ _ _ _ e))⟩
instance (ms : Ms) (f : FE) [n : NcE f] [n3 : NcM ms] : NcE (fProp ms f) := ⟨fun env c d c' h => by
  unfold fProp at h
  split at h
  case h_2 => cases h
  case h_1 d1 c1 e =>
    split at h
    case h_2 => cases h
    case h_1 j ds0 e2 =>
      split at h
      case h_2 => cases h
      case h_1 m em => exact ((n3.h _ _ em).h _ _ _ _ h).trans (n.h _ _ _ _ e)⟩
instance (tb : String → Bool) (tc : Nat → Option Bool) (f : FE) [n : NcE f] : NcE (fIsi tb tc f) := ⟨fun env c d c' h => by
  unfold fIsi at h
  split at h
  case h_2 => cases h
  case h_1 d1 c1 e =>
    split at h <;> cases h
    exact n.h _ _ _ _ e⟩
instance (f g : FE) [n : NcE f] [n2 : NcE g] : NcE (fAndV f g) := ⟨fun env c d c' h => by
  unfold fAndV at h
  split at h
  case h_3 => cases h
  case h_1 c1 e => exact (n2.h _ _ _ _ h).trans (n.h _ _ _ _ e)
  case h_2 c1 e => cases h; exact n.h _ _ _ _ e⟩
instance (f g : FE) [n : NcE f] [n2 : NcE g] : NcE (fOrV f g) := ⟨fun env c d c' h => by
  unfold fOrV at h
  split at h
  case h_3 => cases h
  case h_1 c1 e => exact (n2.h _ _ _ _ h).trans (n.h _ _ _ _ e)
  case h_2 c1 e => cases h; exact n.h _ _ _ _ e⟩
instance (f : FE) [n : NcE f] : NcE (fNotV f) := ⟨fun env c d c' h => by
  unfold fNotV at h
  split at h
  case h_2 => cases h
  case h_1 c1 e => cases h; exact n.h _ _ _ _ e⟩
instance (f : FE) [n : NcE f] : NcE (fLenQ f) := ⟨fun env c d c' h => by
  unfold fLenQ at h
  split at h
  case h_2 => cases h
  case h_1 d1 c1 e =>
    split at h <;> cases h
    exact n.h _ _ _ _ e⟩
instance (f : FE) [n : NcE f] : NcT (asB f) := ⟨fun env c d c' h => by
  unfold asB at h
  split at h
  case h_2 => cases h
  case h_1 c1 e => cases h; exact n.h _ _ _ _ e⟩
instance (f : FT) [n : NcT f] : NcT (fNot f) := ⟨fun env c d c' h => by
  unfold fNot at h
  split at h
  case h_2 => cases h
  case h_1 c1 e => cases h; exact n.h _ _ _ _ e⟩
instance (f g : FT) [n : NcT f] [n2 : NcT g] : NcT (fAnd f g) := ⟨fun env c d c' h => by
  unfold fAnd at h
  split at h
  case h_3 => cases h
  case h_1 c1 e => exact (n2.h _ _ _ _ h).trans (n.h _ _ _ _ e)
  case h_2 c1 e => cases h; exact n.h _ _ _ _ e⟩
instance (f g : FT) [n : NcT f] [n2 : NcT g] : NcT (fOr f g) := ⟨fun env c d c' h => by
  unfold fOr at h
  split at h
  case h_3 => cases h
  case h_1 c1 e => exact (n2.h _ _ _ _ h).trans (n.h _ _ _ _ e)
  case h_2 c1 e => cases h; exact n.h _ _ _ _ e⟩
instance (t : FT) (f g : FE) [n0 : NcT t] [n : NcE f] [n2 : NcE g] : NcE (fIf t f g) := ⟨fun env c d c' h => by
  unfold fIf at h
  split at h
  case h_3 => cases h
  case h_1 c1 e => exact (n.h _ _ _ _ h).trans (n0.h _ _ _ _ e)
  case h_2 c1 e => exact (n2.h _ _ _ _ h).trans (n0.h _ _ _ _ e)⟩
instance : NcS fNx := ⟨fun env c l e c' h => by unfold fNx at h; cases h; rfl⟩
instance (f : FE) [n : NcE f] : NcS (fRet f) := ⟨fun env c l e c' h => by
  unfold fRet at h
  split at h
  case h_2 => cases h
  case h_1 d1 c1 e1 => cases h; exact n.h _ _ _ _ e1⟩
instance (i : Nat) (f : FE) [n : NcE f] : NcS (fSet i f) := ⟨fun env c l e c' h => by
  unfold fSet at h
  split at h
  case h_2 => cases h
  case h_1 d1 c1 e1 => cases h; exact n.h _ _ _ _ e1⟩
instance (t : FT) (f g : FS) [n0 : NcT t] [n : NcS f] [n2 : NcS g] : NcS (fIte t f g) := ⟨fun env c l e c' h => by
  unfold fIte at h
  split at h
  case h_3 => cases h
  case h_1 c1 e1 => exact (n.h _ _ _ _ _ h).trans (n0.h _ _ _ _ e1)
  case h_2 c1 e1 => exact (n2.h _ _ _ _ _ h).trans (n0.h _ _ _ _ e1)⟩
instance (f g : FS) [n : NcS f] [n2 : NcS g] : NcS (fSeq f g) := ⟨fun env c l e c' h => by
  unfold fSeq at h
  split at h
  case h_1 env1 c1 e1 => exact (n2.h _ _ _ _ _ h).trans (n.h _ _ _ _ _ e1)
  case h_2 => exact n.h _ _ _ _ _ h⟩
instance : NcS fNo := ⟨fun env c l e c' h => by unfold fNo at h; cases h⟩
instance (N : List Str) (k : Nat) (f : FS) [n : NcS f] : NcC (mOf N k f) := ⟨fun ds c d c' h => by
  unfold mOf at h
  split at h
  case isFalse => cases h
  case isTrue =>
    split at h
    case h_3 => cases h
    case h_1 d1 e1 c1 e => cases h; exact n.h _ _ _ _ _ e
    case h_2 e1 c1 e => cases h; exact n.h _ _ _ _ _ e⟩
instance : Nc2 oEq := ⟨fun x y c d c' h => by unfold oEq at h; split at h <;> first | (cases h; rfl) | cases h⟩
instance : Nc2 oNe := ⟨fun x y c d c' h => by unfold oNe at h; split at h <;> first | (cases h; rfl) | cases h⟩
theorem nc_eqObj (ms : Ms) [n : NcM ms] {x y : D} {c : Cs} {b : Bool} {c' : Cs} (h : eqObj ms x y c = some (b, c')) : c' = c := by
  unfold eqObj at h
  split at h
  case h_2 => cases h
  case h_1 j _ k _ e1 e2 =>
    split at h
    case isFalse => cases h
    case isTrue =>
      split at h
      case h_2 => cases h
      case h_1 m em =>
        split at h
        case h_2 => cases h
        case h_1 b1 c1 e => cases h; exact (n.h _ _ em).h _ _ _ _ e
theorem nc_eqObjs (ms : Ms) [n : NcM ms] : ∀ {xs ys : List D} {c c' : Cs}, eqObjs ms xs ys c = some c' → c' = c
  | [], [], c, c', h => by unfold eqObjs at h; cases h; rfl
  | [], _ :: _, c, c', h => by unfold eqObjs at h; cases h
  | _ :: _, [], c, c', h => by unfold eqObjs at h; cases h
  | x :: xs, y :: ys, c, c', h => by
    unfold eqObjs at h
    split at h
    case h_2 => cases h
    case h_1 c1 e => exact (nc_eqObjs ms h).trans (nc_eqObj ms e)
theorem still_of (ms : Ms) [n : NcM ms] : Still ms := fun x y c b c' h => nc_eqObj ms h
instance (ms : Ms) [n : NcM ms] : Nc2 (oEqM ms) := ⟨fun x y c d c' h => by
  unfold oEqM eqM at h
  split at h
  case h_2 => cases h
  case h_1 b c1 e =>
    cases h
    split at e
    · cases e; rfl
    · split at e
      · split at e
        · cases e; rename_i e3; exact nc_eqObjs ms e3
        · cases e
      · exact nc_eqObj ms e⟩
instance (ms : Ms) [n : NcM ms] : Nc2 (oNeM ms) := ⟨fun x y c d c' h => by
  unfold oNeM neM at h
  split at h
  case h_2 => cases h
  case h_1 b c1 e =>
    cases h
    split at e
    · cases e; rfl
    · exact nc_eqObj ms e⟩
/-! ### the head -/
theorem SaysP.at {l : Bls} {fn : List He5.DefA} {K : PySem.W.Frag} (c : SaysP (exOf l) fn K) (i : Nat) {f : PySem.W.Frag → Bool} (h : l[i]? = some f := by rfl) : f K = true :=
  c.fact i (by rw [exOf, List.getElem?_map, h]; rfl)
theorem kitB_ok {x : Str} {v : PySem.W.Frag → Value} {b : Bool} {K : PySem.W.Frag} (h : kitB x v b K = true) : PySem.W.kitOne K (.ref (He.ga K x)) (v K) = some b := of_decide_eq_true h
theorem crB_ok {x : Str} {K : PySem.W.Frag} (N : crB x K = true) : ClX.CRead K (He.ga K x) (.type "type") := by
  unfold crB at N
  refine ⟨N, ?_⟩
  have h := N
  unfold PySem.W.readsIn at h
  obtain ⟨h, _⟩ := He.ba h
  obtain ⟨h, _⟩ := He.ba h
  obtain ⟨h, h3⟩ := He.ba h
  obtain ⟨_, h2⟩ := He.ba h
  unfold PySem.W.specialIn
  rw [beq_iff_eq.mp h2, Option.bind_some]
  exact beq_iff_eq.mp h3
/-- Isi of a class of the program -/
theorem Isi.own {T : Tb} {nm : Str} {a : Addr} {tc : Nat → Option Bool} (g : T.mg nm = some (.ref a)) (ht : tyNames.all (fun s => decide (PySem.W.kitOne T.K (.type s) (.ref a) = some false)) = true)
    (hc : ∀ k b, tc k = some b → PySem.W.kitOne T.K (.ref (T.cl k)) (.ref a) = some b ∧ Obc T.K (T.cl k)) : Isi T nm (fun _ => false) tc :=
  ⟨.ref a, .ref a, .own a, rfl, .inr g, fun s hs => of_decide_eq_true (List.all_eq_true.mp ht s hs), hc⟩
end Pd
set_option Elab.async false
set_option linter.all false
set_option maxRecDepth 100000
/-! Pd20: own errors with one field: raised, handed through, caught. -/
namespace Pd
open PySem PySem.Spec PyProof.Rows L2

/-- a value, or an error: its class, its fields -/
inductive Rx where
  | ok (d : D)
  | er (k : Nat) (ds : List D)
abbrev FCX := List D → Cs → Option (Rx × Cs)
abbrev FEX := En → Cs → Option (Rx × Cs)
/-- an error that is on its way: its class, its fields -/
def ErAt (T : Tb) (G : Hp) (al : List Addr) (H : Hp) (k : Nat) (ds : List D) (cls : Value) (dx : Option Addr) : Prop :=
  cls = .ref (T.cl k) ∧ ∃ (a : Addr) (vs : List V), dx = some a ∧ H a = some (.xd ((T.fl k).zip vs)) ∧ RpL T G al ds vs
abbrev AftR (T : Tb) (G : Hp) (al : List Addr) (H : Hp) (r : Rx) (c' : Cs) (Q : VK) (E : XK) : Prop := match r with
  | .ok d => Aft T G al H d c' Q
  | .er k ds => ∀ (G' : Hp) (al' : List Addr) (H' : Hp) (cls : Value) (dx : Option Addr), Stp G al H G' al' H' → HSt T G' al' c' H' → ErAt T G' al' H' k ds cls dx → E cls dx H'
/-- a def's promise by data, errors told -/
def SpX (T : Tb) (k : Nat) (m : FCX) : Sp := fun vs H Q E => vs.length = k ∧ ∃ (G : Hp) (al : List Addr) (c : Cs) (ds : List D) (r : Rx) (c' : Cs), HSt T G al c H ∧ RpL T G al ds vs ∧ m ds c = some (r, c') ∧ AftR T G al H r c' Q E
structure FnAtX (T : Tb) (n : Nat) (f : Addr) (fd : FuncData) (ps : List Str) (m : FCX) : Prop where
  ok : FnOk T.P T.w T.K T.mg T.base (L2.CX T.P T.w) n f fd ps (SpX T ps.length m)
  kp : PySem.W.keepIn T.K (.ref f) = true
  b : Binds T.K fd ps []
  len : ∀ ds c r, m ds c = some r → ds.length = ps.length
structure FnX (T : Tb) (n : Nat) (x : Str) (ps : List Str) (m : FCX) : Prop where
  ex : ∃ f fd, FnAtX T n f fd ps m ∧ T.mg x = some (.ref f)
/-- what is known of an error's class with one field -/
structure ErC (T : Tb) (n : Nat) (k : Nat) (x f : Str) : Prop where
  mg : T.mg x = some (.ref (T.cl k))
  oex : OexC T.K (T.cl k)
  noN : PySem.W.findIn T.K (.ref (T.cl k)) f = some none
  ini : ∃ fI fd ps, PySem.W.findIn T.K (.ref (T.cl k)) "__init__" = some (some (.ref fI)) ∧ PySem.W.typeIn T.K (.ref fI) = some (.type "function") ∧ Binds T.K fd ps [] ∧
    FnOk T.P T.w T.K T.mg T.base CX0 n fI fd ps (fun vs H Q _ => ∃ (a : Addr) (y : V), vs = [.ref a, y] ∧ OexC T.K (T.cl k) ∧ H a = some (exo a (T.cl k) none) ∧ ∀ dx, H dx = none → dx ≠ a → Q .non (upd (upd H dx (exd dx [(f, y)])) a (exo a (T.cl k) (some dx))))
  fl : T.fl k = [f]
  xf : XfC T.K (T.cl k)
  te : PySem.W.exmOne T.K (.ref (T.cl k)) (.ref (T.cl k)) = some true

structure TrEX (T : Tb) (n : Nat) (X : Cx) (e : Expr) (f : FEX) : Prop where
  run : Tied T n X → ∀ (W : WX), Takes X W → ∀ (G : Hp) (al : List Addr) (c : Cs) (env : En) (σ : L2.St) (H : Hp) (Q : VK) (r : Rx) (c' : Cs), HSt T G al c H → EOk T G al H env σ → f env c = some (r, c') →
    AftR T G al H r c' Q (fun cls dx H' => W cls dx σ H') → SemE X e σ H Q
section
variable {T : Tb} {n k : Nat} {X : Cx} {pos p : Pos} {e a b : Expr} {es : List Expr} {fe : FE} {fa : FA} {fx fy : FEX} {ft : FT} {m : FC} {mx : FCX} {x : Str} {ps : List Str}
def fV (f : FE) : FEX := fun env c => match f env c with | some (d, c1) => some (.ok d, c1) | none => none
theorem ex_val (h : TrE T n X e fe) : TrEX T n X e (fV fe) := by
  refine ⟨fun t W tk G al c env σ H Q r c' hs he hf q => ?_⟩
  unfold fV at hf
  split at hf
  case h_2 => cases hf
  case h_1 d c1 e1 => cases hf; exact h.run t G al c env σ H Q d c' hs he e1 q
theorem Tied.fnX {f : Addr} {fd : FuncData} {sp : Sp} (t : Tied T n X) (h : FnOk T.P T.w T.K T.mg T.base (L2.CX T.P T.w) k f fd ps sp) : FnOk X.prog X.w X.K X.mg X.base (L2.CX X.prog X.w) k f fd ps sp := by
  rw [t.P, t.w, t.K, t.mg, t.base]; exact h
theorem AftR.after {G G1 H H1 : Hp} {al al1 : List Addr} {r : Rx} {c' : Cs} {Q : VK} {E : XK} (l : Stp G al H G1 al1 H1) (q : AftR T G al H r c' Q E) : AftR T G1 al1 H1 r c' Q E := by
  cases r with
  | ok d => exact fun G' al' H' v l' => q G' al' H' v (l.trans l')
  | er k ds => exact fun G' al' H' cls dx l' => q G' al' H' cls dx (l.trans l')
def fCallX (m : FCX) (fa : FA) : FEX := fun env c => match fa env c with
  | some (ds, c1) => m ds c1
  | none => none
theorem ex_call (F : FnX T k x ps mx) (ha : TrA T n X (e :: es) fa) (hk : k ≤ n := by decide) (hg : Gl X x := by rfl) (hdb : (x == ("__debug__" : Str)) = false := by decide) (he : starEach (e :: es) X.env = (false, eval e X.env) :: starEach es X.env := by rfl)
    (hpl : (backTo pos (starEach es X.env)).any (·.1) = false := by rfl) : TrEX T n X (.Call (.Name x p) (e :: es) [] pos) (fCallX mx fa) := by
  obtain ⟨f, fd, A, g⟩ := F.ex
  refine ⟨fun t W tk G al c env σ H Q r c' hs he' hf q => ofE (pe_callS (t.fnX A.ok) (t.room.mono hk) hg (by rw [t.mg]; exact g) (by rw [t.K]; exact A.kp) (by rw [t.K]; exact A.b) (fun σ => passAt tk σ) (paS (e :: es)) hdb he hpl) ?_⟩
  unfold fCallX at hf
  split at hf
  case h_2 => cases hf
  case h_1 ds c1 e1 =>
    refine ha.run t G al c env σ H _ ds c1 hs he' e1 fun G1 al1 H1 vs l1 hs1 r1 => ?_
    exact ⟨r1.length.symm.trans (A.len _ _ _ hf), G1, al1, c1, ds, r, c', hs1, r1, hf, q.after l1⟩
/-- f(e), e may raise -/
def fCallX1 (m : FC) (fx : FEX) : FEX := fun env c => match fx env c with
  | some (.ok d, c1) => match m [d] c1 with
    | some (d', c2) => some (.ok d', c2)
    | none => none
  | some (.er k ds, c1) => some (.er k ds, c1)
  | none => none
theorem ex_call1 (F : Fn T k x ps m) (h : TrEX T n X e fx) (hk : k ≤ n := by decide) (hg : Gl X x := by rfl) (hdb : (x == ("__debug__" : Str)) = false := by decide) (he : starEach (e :: []) X.env = (false, eval e X.env) :: starEach [] X.env := by rfl)
    (hpl : (backTo pos (starEach [] X.env)).any (·.1) = false := by rfl) : TrEX T n X (.Call (.Name x p) [e] [] pos) (fCallX1 m fx) := by
  obtain ⟨f, fd, A, g⟩ := F.ex
  refine ⟨fun t W tk G al c env σ H Q r c' hs he' hf q => ofE (pe_call (t.fn A.ok) (t.room.mono hk) hg (by rw [t.mg]; exact g) (by rw [t.K]; exact A.kp) (by rw [t.K]; exact A.b) .nil pass0 (pa_cons (peS e) pa_nil he) hdb he hpl) ?_⟩
  unfold fCallX1 at hf
  split at hf
  case h_3 => cases hf
  case h_1 d c1 e1 =>
    split at hf
    case h_2 => cases hf
    case h_1 d' c2 e2 =>
      cases hf
      refine h.run t W tk G al c env σ H _ (.ok d) c1 hs he' e1 fun G1 al1 H1 v l1 hs1 r1 => ?_
      show SpS T ps.length m ([v] ++ []) H1 Q E0
      rw [List.append_nil]
      exact A.sp hs1 (.cons r1 .nil) e2 fun G' al' H' v' l => q G' al' H' v' (l1.trans l)
  case h_2 k' ds c1 e1 =>
    cases hf
    exact h.run t W tk G al c env σ H _ (.er k' ds) _ hs he' e1 q
def fIfX (ft : FT) (f g : FEX) : FEX := fun env c => match ft env c with | some (true, c1) => f env c1 | some (false, c1) => g env c1 | none => none
theorem ex_if {t0 : Expr} (ht : TrT T n X t0 ft) (ha : TrEX T n X a fx) (hb : TrEX T n X b fy) : TrEX T n X (.IfExp t0 a b pos) (fIfX ft fx fy) := by
  refine ⟨fun t W tk G al c env σ H Q r c' hs he hf q => ofE (pe_ifExp (ptS t0) (peS a) (peS b)) ?_⟩
  unfold fIfX at hf
  split at hf
  case h_1 c1 e1 => exact ht.run t G al c env σ H _ _ _ hs he e1 fun G1 al1 H1 l1 hs1 => iteT (ha.run t W tk G1 al1 c1 env σ H1 _ _ _ hs1 (he.mono l1) hf (q.after l1))
  case h_2 c1 e1 => exact ht.run t G al c env σ H _ _ _ hs he e1 fun G1 al1 H1 l1 hs1 => iteF (hb.run t W tk G1 al1 c1 env σ H1 _ _ _ hs1 (he.mono l1) hf (q.after l1))
  case h_3 => cases hf
end

/-! ### statements -/
inductive FlX where
  | fl (r : Fl)
  | er (k : Nat) (ds : List D)
abbrev FSX := En → Cs → Option (FlX × En × Cs)
abbrev AftSX (T : Tb) (B : Base) (G : Hp) (al : List Addr) (r : FlX) (env' : En) (c' : Cs) (E : Ends) (W : WX) : Prop := match r with
  | .fl r => AftS T B G al r env' c' E
  | .er k ds => ∀ (G' : Hp) (al' : List Addr) (σ' : L2.St) (H' : Hp) (cls : Value) (dx : Option Addr), Le G al G' al' → Ok T B G' al' c' H' env' σ' → ErAt T G' al' H' k ds cls dx → W cls dx σ' H'
structure TrSX (T : Tb) (n : Nat) (X : Cx) (st : Stmt) (f : FSX) : Prop where
  run : Tied T n X → ∀ (W : WX), Takes X W → ∀ (B : Base) (G : Hp) (al : List Addr) (c : Cs) (env : En) (σ : L2.St) (H : Hp) (E : Ends) (r : FlX) (env' : En) (c' : Cs), Ok T B G al c H env σ → f env c = some (r, env', c') → AftSX T B G al r env' c' E W → SemS X st E σ H
structure TrBX (T : Tb) (n : Nat) (X : Cx) (st : List Stmt) (f : FSX) : Prop where
  run : Tied T n X → ∀ (W : WX), Takes X W → ∀ (B : Base) (G : Hp) (al : List Addr) (c : Cs) (env : En) (σ : L2.St) (H : Hp) (E : Ends) (r : FlX) (env' : En) (c' : Cs), Ok T B G al c H env σ → f env c = some (r, env', c') → AftSX T B G al r env' c' E W → SemB X st E σ H
section
variable {T : Tb} {n k : Nat} {X : Cx} {pos p : Pos} {e tg iter : Expr} {es : List Expr} {st : Stmt} {rest body : List Stmt} {fe : FE} {fa : FA} {fx fy : FEX} {ft : FT} {f fb : FSX} {fr : FSX} {f0 : FS} {g : FG} {ws : List Nat} {m : FC} {x : Str} {ps : List Str}
theorem AftSX.le {B : Base} {G G1 : Hp} {al al1 : List Addr} {r : FlX} {env' : En} {c' : Cs} {E : Ends} {W : WX} (l : Le G al G1 al1) (q : AftSX T B G al r env' c' E W) : AftSX T B G1 al1 r env' c' E W := by
  cases r with
  | fl r => exact fun G' al' σ' H' l' => q G' al' σ' H' (l.trans l')
  | er k ds => exact fun G' al' σ' H' cls dx l' => q G' al' σ' H' cls dx (l.trans l')
def fSV (f : FS) : FSX := fun env c => match f env c with | some (r, env1, c1) => some (.fl r, env1, c1) | none => none
theorem sx_val (h : TrS T n X st f0) : TrSX T n X st (fSV f0) := by
  refine ⟨fun t W tk B G al c env σ H E r env' c' k hf q => ?_⟩
  unfold fSV at hf
  split at hf
  case h_2 => cases hf
  case h_1 r1 env1 c1 e1 => cases hf; exact h.run t B G al c env σ H E _ _ _ k e1 q
def fSetX (i : Nat) (f : FEX) : FSX := fun env c => match f env c with
  | some (.ok d, c1) => some (.fl .nx, env.set i (some (.f d)), c1)
  | some (.er k ds, c1) => some (.er k ds, env, c1)
  | none => none
theorem sx_set (i : Nat) {x : Str} {pos' : Pos} (h : TrEX T n X e fx) (hi : X.N[i]? = some x := by rfl) (hx : Loc X.env.scope x := by first | exact Or.inl rfl | exact Or.inr rfl) (hs : swapsWith e (some (.Name x pos')) pos.line X.env = pure false := by rfl)
    (hf : X.fn x = true ∨ X.env.scope.names.lookup x = some .local := by first | exact .inl rfl | exact .inr rfl | assumption) : TrSX T n X (.Assign [.Name x pos'] e pos) (fSetX i fx) := by
  refine ⟨fun t W tk B G al c env σ H E r env' c' k hf' q => ofS (ps_set t.nd hi hx (peS e) hs hf) ?_⟩
  unfold fSetX at hf'
  split at hf'
  case h_3 => cases hf'
  case h_1 d c1 e1 =>
    cases hf'
    exact h.run t W tk G al c env σ H _ (.ok d) _ k.hs k.he e1 fun G1 al1 H1 v l hs1 r1 => q G1 al1 _ H1 l.le ((k.step l hs1).set i r1)
  case h_2 kk ds c1 e1 =>
    cases hf'
    exact h.run t W tk G al c env σ H _ (.er kk ds) _ k.hs k.he e1 fun G1 al1 H1 cls dx l hs1 r1 => q G1 al1 σ H1 cls dx l.le (k.step l hs1) r1
def fAsgX (f : FEX) (g : FG) : FSX := fun env c => match f env c with
  | some (.ok d, c1) => match g d env with
    | some env1 => some (.fl .nx, env1, c1)
    | none => none
  | some (.er k ds, c1) => some (.er k ds, env, c1)
  | none => none
theorem sx_asg (h : TrEX T n X e fx) (hg : TrG T n X tg ws g) (hs : swapsWithSole [tg] e pos.line X.env = pure false := by rfl) (hw : swappedStores [tg] e X.env = pure none := by rfl) (h1 : (assignEach [tg] X.env).map (·.2) = [assign tg X.env] := by rfl) :
    TrSX T n X (.Assign [tg] e pos) (fAsgX fx g) := by
  refine ⟨fun t W tk B G al c env σ H E r env' c' k hf' q => ofS (ps_asg (peS e) (pgS tg) hs hw h1) ?_⟩
  unfold fAsgX at hf'
  split at hf'
  case h_3 => cases hf'
  case h_1 d c1 e1 =>
    split at hf'
    case h_2 => cases hf'
    case h_1 env1 e2 =>
      cases hf'
      refine h.run t W tk G al c env σ H _ (.ok d) _ k.hs k.he e1 fun G1 al1 H1 v l hs1 r1 => ?_
      have k1 := k.step l hs1
      exact hg.run t G1 al1 _ env σ H1 d v _ _ hs1 k1.he r1 e2 fun σ' he' _ _ hx => q G1 al1 σ' H1 l.le (k1.asg he' hx)
  case h_2 kk ds c1 e1 =>
    cases hf'
    exact h.run t W tk G al c env σ H _ (.er kk ds) _ k.hs k.he e1 fun G1 al1 H1 cls dx l hs1 r1 => q G1 al1 σ H1 cls dx l.le (k.step l hs1) r1
def fRetX (f : FEX) : FSX := fun env c => match f env c with
  | some (.ok d, c1) => some (.fl (.rt d), env, c1)
  | some (.er k ds, c1) => some (.er k ds, env, c1)
  | none => none
theorem sx_ret (h : TrEX T n X e fx) : TrSX T n X (.Return (some e) pos) (fRetX fx) := by
  refine ⟨fun t W tk B G al c env σ H E r env' c' k hf' q => ofS (ps_ret (peS e)) ?_⟩
  unfold fRetX at hf'
  split at hf'
  case h_3 => cases hf'
  case h_1 d c1 e1 =>
    cases hf'
    exact h.run t W tk G al c env σ H _ (.ok d) _ k.hs k.he e1 fun G1 al1 H1 v l hs1 r1 => q G1 al1 σ H1 l.le (k.step l hs1) v r1
  case h_2 kk ds c1 e1 =>
    cases hf'
    exact h.run t W tk G al c env σ H _ (.er kk ds) _ k.hs k.he e1 fun G1 al1 H1 cls dx l hs1 r1 => q G1 al1 σ H1 cls dx l.le (k.step l hs1) r1
/-- raise C(e) -/
def fRaise (k : Nat) (f : FE) : FSX := fun env c => match f env c with
  | some (d, c1) => some (.er k [d], env, c1)
  | none => none
theorem sx_raise {j : Nat} {y : Str} {pos2 : Pos} (C : ErC T j k x y) (h : TrE T n X e fe) (hk : j + 1 ≤ n := by decide) (hg : Gl X x := by rfl) (hdb : (x == ("__debug__" : Str)) = false := by decide)
    (he : starEach (e :: []) X.env = (false, eval e X.env) :: starEach [] X.env := by rfl) (hpl : (backTo pos (starEach [] X.env)).any (·.1) = false := by rfl) : TrSX T n X (.Raise (some (.Call (.Name x p) [e] [] pos)) none pos2) (fRaise k fe) := by
  obtain ⟨fI, fd, ps, i1, i2, i3, i4⟩ := C.ini
  refine ⟨fun t W tk B G al c env σ H E r env' c' kk hf q => ?_⟩
  have PM := pmk_oex (X := X) (CX := CX0) (x := x) (p := p) (pos := pos) (e := e) (es := []) (ta := tCons (SemE X e) tNil) (dvs := []) (ds := []) (by rw [t.K]; exact C.oex) (by rw [t.K]; exact i1) (by rw [t.K]; exact i2) (t.fn i4) (t.room.mono hk) (by rw [t.K]; exact i3) .nil pass0 hg (by rw [t.mg]; exact C.mg) (pa_cons (peS e) pa_nil he) hdb he hpl
  refine ofS (ps_raise t.calm tk PM) ?_
  unfold fRaise at hf
  split at hf
  case h_2 => cases hf
  case h_1 d c1 e1 =>
    cases hf
    refine h.run t G al c env σ H _ d _ kk.hs kk.he e1 fun G1 al1 H1 v l1 hs1 r1 => ⟨(show 1 ≤ 1000 by decide), fun a ha => ⟨a, v, rfl, C.oex, upd_same, fun dx hdx hne => ⟨rfl, dx, [(y, v)], upd_same, ?_, ?_, ?_⟩⟩⟩
    · rw [upd_ne hne, upd_same]
    · rw [upd_ne hne] at hdx; exact hdx
    · rw [upd_ne hne] at hdx
      have eH : upd (del (upd (upd (upd H1 a (exo a (T.cl k) none)) dx (exd dx [(y, v)])) a (exo a (T.cl k) (some dx))) a) dx (.xd [(y, v)]) = upd H1 dx (.xd [(y, v)]) := by
        funext z
        by_cases hz : z = dx
        · rw [hz, upd_same, upd_same]
        · rw [upd_ne hz, upd_ne hz]
          by_cases hz2 : z = a
          · rw [hz2, del_same, ha]
          · rw [del_ne hz2, upd_ne hz2, upd_ne hz, upd_ne hz2]
      rw [eH]
      have l2 : Stp G al H G1 al1 (upd H1 dx (.xd [(y, v)])) := l1.trans (.junk hdx)
      have k2 := kk.step l2 (hs1.junk hdx)
      refine q G1 al1 σ _ _ (some dx) l2.le k2 ⟨rfl, dx, [v], rfl, ?_, .cons r1 .nil⟩
      rw [upd_same, C.fl]
      rfl
def fIteX (ft : FT) (f g : FSX) : FSX := fun env c => match ft env c with
  | some (true, c1) => f env c1
  | some (false, c1) => g env c1
  | none => none
theorem sx_if {a b : List Stmt} {fa fb : FSX} (ht : TrT T n X e ft) (ha : TrBX T n X a fa) (hb : TrBX T n X b fb) : TrSX T n X (.If e a b pos) (fIteX ft fa fb) := by
  refine ⟨fun t W tk B G al c env σ H E r env' c' k hf q => ofS (ps_if (ptS e) (pbS a) (pbS b)) ?_⟩
  unfold fIteX at hf
  split at hf
  case h_1 c1 e1 => exact ht.run t G al c env σ H _ _ _ k.hs k.he e1 fun G1 al1 H1 l hs1 => iteT (ha.run t W tk B G1 al1 c1 env σ H1 E r env' c' (k.step l hs1) hf (q.le l.le))
  case h_2 c1 e1 => exact ht.run t G al c env σ H _ _ _ k.hs k.he e1 fun G1 al1 H1 l hs1 => iteF (hb.run t W tk B G1 al1 c1 env σ H1 E r env' c' (k.step l hs1) hf (q.le l.le))
  case h_3 => cases hf
def fNxX : FSX := fun env c => some (.fl .nx, env, c)
def fSeqX (f g : FSX) : FSX := fun env c => match f env c with
  | some (.fl .nx, env1, c1) => g env1 c1
  | r => r
theorem bx_nil : TrBX T n X [] fNxX := ⟨fun t W tk B G al c env σ H E r env' c' k hf q => ofB pss_nil (by cases hf; exact q G al σ H (.refl _ _) k)⟩
theorem bx_cons (h : TrSX T n X st f) (h2 : TrBX T n X rest fr) : TrBX T n X (st :: rest) (fSeqX f fr) := by
  refine ⟨fun t W tk B G al c env σ H E r env' c' k hf q => ofB (pss_cons (psS st) (pbS rest)) ?_⟩
  unfold fSeqX at hf
  cases e1 : f env c with
  | none => rw [e1] at hf; cases hf
  | some p =>
    obtain ⟨r1, env1, c1⟩ := p
    rw [e1] at hf
    refine h.run t W tk B G al c env σ H _ r1 env1 c1 k e1 ?_
    cases r1 with
    | fl r1 =>
      intro G1 al1 σ1 H1 l1 k1
      cases r1 with
      | nx => exact h2.run t W tk B G1 al1 c1 env1 σ1 H1 E r env' c' k1 hf (q.le l1)
      | rt d => cases hf; exact q G1 al1 σ1 H1 l1 k1
      | bk => cases hf; exact q G1 al1 σ1 H1 l1 k1
      | ct => cases hf; exact q G1 al1 σ1 H1 l1 k1
    | er kk ds => cases hf; exact q
theorem bx_one (h : TrSX T n X st f) : TrBX T n X [st] f :=
  ⟨fun t W tk B G al c env σ H E r env' c' k hf q => ofB (pss_one (psS st)) (h.run t W tk B G al c env σ H E r env' c' k hf q)⟩
def fFzX (i : Nat) (f : FSX) : FSX := fun env c => f (fzE i env) c
theorem sx_fz (i : Nat) (h : TrSX T n X st f) : TrSX T n X st (fFzX i f) :=
  ⟨fun t W tk B G al c env σ H E r env' c' k hf q => let ⟨G', l', k'⟩ := k.fz i; h.run t W tk B G' al c (fzE i env) σ H E r env' c' k' hf (q.le l')⟩
def forX (g : FG) (fb : FSX) : List D → FSX
  | [], env, c => some (.fl .nx, env, c)
  | d :: ds, env, c => match g d env with
    | none => none
    | some env1 => match fb env1 c with
      | some (.fl .nx, env2, c2) => forX g fb ds env2 c2
      | some (.fl .ct, env2, c2) => forX g fb ds env2 c2
      | some (.fl .bk, env2, c2) => some (.fl .nx, env2, c2)
      | some (.fl (.rt d), env2, c2) => some (.fl (.rt d), env2, c2)
      | some (.er k ds, env2, c2) => some (.er k ds, env2, c2)
      | none => none
def fForX (fi : FA) (g : FG) (fb : FSX) : FSX := fun env c => match fi env c with
  | some (ds, c1) => forX g fb ds env c1
  | none => none
theorem sx_for {fi : FA} (hi : TrI T n X tg iter fi) (hg : TrG T n X tg ws g) (hb : TrBX T n X body fb) (hp : Tied T n X → PassesOwn (model X.prog X.w) X.A X.env X.xe)
    (hs : ∀ x, foldedSetIterable iter X.env x = pure x := by intro _; rfl) : TrSX T n X (.For tg iter body [] pos) (fForX fi g fb) := by
  refine ⟨fun t W tk B G al c env σ H E r env' c' k hf q => ofS (ps_for (hp t) t.calm (piS tg iter) (pgS tg) (pbS body) hs) ?_⟩
  unfold fForX at hf
  split at hf
  case h_2 => cases hf
  case h_1 ds c1 e1 =>
    refine hi.run t G al c env σ H _ ds c1 k.hs k.he e1 fun G1 al1 H1 J l1 hs1 it => ?_
    have k1 := k.step l1 hs1
    refine ⟨fun i m σ2 H2 => m = ds.length - i ∧ i ≤ ds.length ∧ ∃ G2 al2 c2 env2, Le G1 al1 G2 al2 ∧ Ok T B G2 al2 c2 H2 env2 σ2 ∧ forX g fb (ds.drop i) env2 c2 = some (r, env', c'), ⟨_, rfl, Nat.zero_le _, G1, al1, c1, env, .refl _ _, k1, by simpa using hf⟩, ?_⟩
    rintro i m σ2 H2 ⟨rfl, hil, G2, al2, c2, env2, le2, k2, hr⟩
    by_cases hlt : i < ds.length
    · rw [List.drop_eq_getElem_cons hlt] at hr
      unfold forX at hr
      split at hr
      case h_1 => cases hr
      case h_2 env3 e3 =>
        obtain ⟨go, yl⟩ := (it i G2 al2 c2 H2 le2 k2.hs).1 ds[i] (List.getElem?_eq_getElem hlt)
        refine .inr ⟨go, fun σ' H' => ∃ G' al' cn en, Le G1 al1 G' al' ∧ Ok T B G' al' cn H' en σ' ∧ forX g fb (ds.drop (i + 1)) en cn = some (r, env', c'), fun σ' H' ⟨G', al', cn, en, le', k', hr'⟩ => ⟨ds.length - (i + 1), by omega, rfl, hlt, G', al', cn, en, le', k', hr'⟩, fun x H3 y => ?_⟩
        obtain ⟨G3, l3, hs3, r3⟩ := yl x H3 y
        have k3 := k2.step l3 hs3
        refine hg.run t G3 al2 c2 env2 σ2 H3 ds[i] x env3 _ hs3 k3.he r3 e3 fun σ4 he4 _ _ hx4 => ?_
        have k4 := k3.asg he4 hx4
        have le4 := le2.trans l3.le
        split at hr
        case h_1 en cn eb => exact hb.run t W tk B G3 al2 c2 env3 σ4 H3 _ _ _ _ k4 eb fun G5 al5 σ5 H5 l5 k5 => ⟨G5, al5, cn, en, le4.trans l5, k5, hr⟩
        case h_2 en cn eb => exact hb.run t W tk B G3 al2 c2 env3 σ4 H3 _ _ _ _ k4 eb fun G5 al5 σ5 H5 l5 k5 => ⟨G5, al5, cn, en, le4.trans l5, k5, hr⟩
        case h_3 en cn eb => cases hr; exact hb.run t W tk B G3 al2 c2 env3 σ4 H3 _ _ _ _ k4 eb fun G5 al5 σ5 H5 l5 k5 => q G5 al5 σ5 H5 (l1.le.trans (le4.trans l5)) k5
        case h_4 dd en cn eb => cases hr; exact hb.run t W tk B G3 al2 c2 env3 σ4 H3 _ _ _ _ k4 eb fun G5 al5 σ5 H5 l5 k5 => q G5 al5 σ5 H5 (l1.le.trans (le4.trans l5)) k5
        case h_5 kk dd en cn eb => cases hr; exact hb.run t W tk B G3 al2 c2 env3 σ4 H3 _ _ _ _ k4 eb fun G5 al5 σ5 H5 cls dx l5 k5 => q G5 al5 σ5 H5 cls dx (l1.le.trans (le4.trans l5)) k5
        case h_6 => cases hr
    · have e : i = ds.length := by omega
      subst e
      rw [List.drop_length] at hr
      cases hr
      exact .inl ⟨(it _ G2 al2 _ H2 le2 k2.hs).2 (Nat.le_refl _), q G2 al2 σ2 H2 (l1.le.trans le2) k2⟩
end

/-! ### a def's body -/
abbrev BXX (T : Tb) (N : List Str) (qual : Str) (scope : Scope) (f : Addr) (cdv : Value) (A : Around) (outer : List Env) (s : Shared) (H : Hp) (E : XK) : Cx := cxOf (L2.CX T.P T.w) T.P T.w T.K T.mg T.base N qual scope f cdv A outer s H E
abbrev DerX (T : Tb) (n : Nat) (N : List Str) (qual : Str) (st : Stmt) (fb : FSX) : Prop :=
  ∀ (f : Addr) (cdv : Value) (A : Around) (outer : List Env) (s : Shared) (H : Hp) (E : XK), TrBX T n (BXX T N qual (defScope st) f cdv A outer s H E) (defBody st) fb
theorem pow_BXX {T : Tb} {N : List Str} {qual : Str} {scope : Scope} {f : Addr} {cdv : Value} {A : Around} {outer : List Env} {s : Shared} {H : Hp} {E : XK} : PassesOwn (model (BXX T N qual scope f cdv A outer s H E).prog (BXX T N qual scope f cdv A outer s H E).w) (BXX T N qual scope f cdv A outer s H E).A (BXX T N qual scope f cdv A outer s H E).env (BXX T N qual scope f cdv A outer s H E).xe := passes_of rfl
def mOfX (N : List Str) (k : Nat) (fb : FSX) : FCX := fun ds c => if ds.length = k then match fb (startD N ds) c with
  | some (.fl (.rt d), _, c1) => some (.ok d, c1)
  | some (.fl .nx, _, c1) => some (.ok .non, c1)
  | some (.er k ds, _, c1) => some (.er k ds, c1)
  | _ => none else none
section
variable {T : Tb} {n : Nat} {N ps : List Str} {x qual : Str} {params : Arguments} {body : List Stmt} {scope : Scope} {f : Addr} {fd : FuncData} {fb : FSX}
theorem mOfX_len {ds : List D} {c : Cs} {r : Rx × Cs} {k : Nat} (h : mOfX N k fb ds c = some r) : ds.length = k := by
  unfold mOfX at h
  split at h
  case isTrue e => exact e
  case isFalse => cases h
theorem fnatX_of (F : FunD T.K x qual params body scope [] [] f fd) (S : FnScope N ps scope) (b : Binds T.K fd ps [])
    (tr : ∀ (cdv : Value) (A : Around) (outer : List Env) (s : Shared) (H : Hp) (E : XK), TrBX T n (BXX T N qual scope f cdv A outer s H E) body fb) : FnAtX T (n + 1) f fd ps (mOfX N ps.length fb) := by
  refine ⟨F.ok S (fun vs H Q E h => h.1) (fun cdv A outer s H vs Q E hr h => ?_), F.kp, b, fun ds c r h => mOfX_len h⟩
  obtain ⟨hl, G, al, c, ds, r, c', hs, rl, e1, q⟩ := h
  have ti : Tied T n (BXX T N qual scope f cdv A outer s H E) := ⟨rfl, rfl, rfl, rfl, rfl, rfl, S.nd, hr⟩
  have key : ∃ fl env', fb (startD N ds) c = some (fl, env', c') ∧ (match fl with | .fl (.rt d) => r = .ok d | .fl .nx => r = .ok .non | .er k es => r = .er k es | _ => False) := by
    unfold mOfX at e1
    split at e1
    case isFalse => cases e1
    case isTrue =>
      split at e1
      case h_1 d env1 c1 e2 => cases e1; exact ⟨_, _, e2, rfl⟩
      case h_2 env1 c1 e2 => cases e1; exact ⟨_, _, e2, rfl⟩
      case h_3 kk es env1 c1 e2 => cases e1; exact ⟨_, _, e2, rfl⟩
      case h_4 => cases e1
  obtain ⟨fl, env', e2, e3⟩ := key
  refine ⟨_, pbS body, (tr cdv A outer s H E).run ti (fun cls d _ H => E cls d H) (takes_of rfl rfl rfl rfl) ⟨G, al, c, H, none⟩ G al c (startD N ds) (L2.start N vs) H _ fl env' c' ⟨hs, hs, eok_start rl, .refl _ _ _, fun i e a h => ?_, fun x e hx => by cases hx⟩ e2 ?_⟩
  · unfold startD at h
    by_cases hi : i < ds.length
    · rw [List.getElem?_append_left (by simpa using hi), List.getElem?_map, List.getElem?_eq_getElem hi] at h; cases h
    · rw [List.getElem?_append_right (by simpa using hi), List.getElem?_replicate] at h
      split at h <;> cases h
  · cases fl with
    | fl r1 =>
      intro G' al' σ' H' l k'
      cases r1 with
      | rt d =>
        have e3 : r = .ok d := e3
        subst e3
        exact fun v rv => q G' al' H' v k'.st k'.hs rv
      | nx =>
        have e3 : r = .ok .non := e3
        subst e3
        exact q G' al' H' .non k'.st k'.hs .non
      | bk => exact e3.elim
      | ct => exact e3.elim
    | er kk es =>
      have e3 : r = .er kk es := e3
      subst e3
      exact fun G' al' σ' H' cls dx l k' ea => q G' al' H' cls dx k'.st k'.hs ea
end

/-! ### try: return e, except C as n: return n.f -/
def fTryRet (k i : Nat) (fx : FEX) : FS := fun env c => match fx env c with
  | some (.ok d, c1) => some (.rt d, env, c1)
  | some (.er j [d], c1) => if j = k ∧ i < env.length then some (.rt d, env, c1) else none
  | _ => none
theorem ts_tryRet {T : Tb} {n k i j : Nat} {X : Cx} {e : Expr} {fx : FEX} {x nm y : Str} {np pos pos' rp rp2 p1 p2 : Pos} (C : ErC T j k x y)
    (h : ∀ (pn : List (Addr × Obj)) (xe : Value → Shared → Prop), TrEX T n (X.tr pn xe) e fx) (hs : X.stack = X.env :: X.outer := by rfl) (hf : X.env.frame = some X.env.locals := by rfl) (hi : X.N[i]? = some nm := by rfl)
    (hln : X.env.kindOf nm = some .local := by rfl) (hgx : Gl X x := by rfl) (hdb : (x == ("__debug__" : Str)) = false := by decide)
    (hpv : ∀ (a : Addr) (oe : Obj) (pn : List (Addr × Obj)), PE (X.suite a ((a, oe) :: pn)) (.Name nm p1) (tVar i)) (hbase : attributeBase (.Name nm p1) y X.env (eval (.Name nm p1) X.env) = eval (.Name nm p1) X.env := by rfl) :
    TrS T n X (.Try [.Return (some e) rp] [.ExceptHandler (some (.Name x np)) (some nm) [.Return (some (.Attribute (.Name nm p1) y p2)) rp2] pos'] [] [] pos) (fTryRet k i fx) := by
  refine ⟨fun t B G al c env σ H E r env' c' kk hf' q => ?_⟩
  have P := ps_try_as (X := X) (x := x) (n := nm) (c := .ref (T.cl k)) (i := i) (np := np) (pos := pos) (pos' := pos') (body := [.Return (some e) rp]) (b₀ := .Return (some (.Attribute (.Name nm p1) y p2)) rp2) (suite := [])
    (tb := fun W => fun D σ H => ∀ (pn : List (Addr × Obj)) (xe : Value → Shared → Prop), Takes (X.tr pn xe) W → SemB (X.tr pn xe) [.Return (some e) rp] D σ H)
    (ts := fun a cls d => tRet (tXf a cls d (T.cl k) y (tVar i))) (Wout := fun _ _ _ _ => False) hs hf t.nd hi hln ⟨hgx, hdb, .inl (by rw [t.mg]; exact C.mg)⟩ takes0
    (fun W pn xe tk _ => ⟨fun pins s σ H D I hh => hh pn xe tk pins s I⟩)
    (fun a oe cls d pn hz hv => pss_one (ps_ret (pe_xf (by rw [t.K]; exact C.xf) (by rw [t.K]; exact C.noN) hz hv (hpv a oe pn) hbase)))
  refine ofS P ?_
  intro pn xe tk
  refine ofB (pss_one (psS _)) ?_
  have t' : Tied T n (X.tr pn xe) := ⟨t.K, t.P, t.w, t.mg, t.base, t.calm, t.nd, t.room⟩
  unfold fTryRet at hf'
  split at hf'
  case h_1 d c1 e1 =>
    cases hf'
    exact ofS (ps_ret (peS e)) ((h pn xe).run t' _ tk G al c env σ H _ (.ok d) _ kk.hs kk.he e1 fun G1 al1 H1 v l hs1 r1 => q G1 al1 σ H1 l.le (kk.step l hs1) v r1)
  case h_2 jj d c1 e1 =>
    split at hf'
    case isFalse => cases hf'
    case isTrue ej =>
      cases hf'
      obtain ⟨ej, ei⟩ := ej
      subst ej
      refine ofS (ps_ret (peS e)) ((h pn xe).run t' _ tk G al c env σ H _ (.er jj [d]) _ kk.hs kk.he e1 fun G1 al1 H1 cls dx l hs1 r1 => ?_)
      obtain ⟨rfl, a, vs, rfl, ha, rl⟩ := r1
      obtain ⟨v, rfl, rv⟩ := rl.one
      refine ⟨true, by rw [t.K]; exact C.te, fun _ a0 ha0 => ?_, fun z => Bool.noConfusion z⟩
      have hl : i < σ.length := by rw [← kk.he.len]; exact ei
      refine ⟨.ref a0, by rw [List.getElem?_set_self hl], rfl, rfl, a, _, v, rfl, ha, ?_, q G1 al1 σ H1 l.le (kk.step l hs1) v rv⟩
      rw [C.fl]
      show List.lookup y [(y, v)] = some v
      simp
  case h_3 => cases hf'
end Pd
set_option Elab.async false
set_option linter.all false
set_option maxRecDepth 100000
/-! Pd21: parts of texts, the signs of a text as a list, two items exchanged. -/
namespace Pd
open PySem PySem.Spec PyProof.Rows L2
section
variable {T : Tb} {n : Nat} {X : Cx} {pos p2 : Pos} {e : Expr} {lo hi : Option Expr} {fe : FE}
/-- x[lo:hi], texts too -/
def cutA (d : D) (lo hi : Option Int) : Option D := match d with
  | .lst ds => some (.lst (cutD ds lo hi))
  | .tup ds => some (.tup (cutD ds lo hi))
  | .str z => if z.length ≤ lim then some (.str (Txt.slice z lo hi)) else none
  | _ => none
def fSlA (f : FE) (fl fh : FO) : FE := fun env c => match f env c with
  | some (d, c1) => match fl env c1 with
    | some (lo, c2) => match fh env c2 with
      | some (hi, c3) => match cutA d lo hi with
        | some d' => some (d', c3)
        | none => none
      | none => none
    | none => none
  | none => none
def rSlA2 (T : Tb) : V → Option Int → Option Int → Hp → VK → Prop := fun x lo hi H Q => ∃ (G : Hp) (al : List Addr) (c : Cs) (dx d : D), HSt T G al c H ∧ Rq T G al H dx x ∧ cutA dx lo hi = some d ∧ Aft T G al H d c Q
theorem sl_dataA (t : Tied T n X) : SlR X (rSlA2 T) := by
  refine slr_of fun x lo hi H Q ⟨G, al, c, dx, d, hs, rx, hg, q⟩ => ?_
  unfold cutA at hg
  split at hg
  case h_1 ds => exact ⟨_, sl_data t, G, al, c, _, d, hs, rx, hg, q⟩
  case h_2 ds => exact ⟨_, sl_data t, G, al, c, _, d, hs, rx, hg, q⟩
  case h_3 z =>
    split at hg
    case isFalse => cases hg
    case isTrue hz =>
      cases hg
      exact ⟨_, C8.sl_txt, z, rx.str_inv, Nat.le_trans hz lim_line, q.now hs (.str _)⟩
  case h_4 => cases hg
theorem tr_slA {fl fh : FO} (h : TrQ T n X e fe) (hl : TrO T n X lo fl) (hh : TrO T n X hi fh) : TrE T n X (.Subscript e (.Slice lo hi none p2) pos) (fSlA fe fl fh) := by
  refine ⟨fun t G al c env σ H Q d c' hs he hf q => ?_⟩
  obtain ⟨tl, pl, kl⟩ := hl.run t
  obtain ⟨th, ph, kh⟩ := hh.run t
  refine ofE (pe_slice (sl_dataA t) (peS e) pl ph) ?_
  unfold fSlA at hf
  split at hf
  case h_2 => cases hf
  case h_1 dx c1 e1 =>
    split at hf
    case h_2 => cases hf
    case h_1 i c2 e2 =>
      split at hf
      case h_2 => cases hf
      case h_1 j c3 e3 =>
        split at hf
        case h_2 => cases hf
        case h_1 d' e4 =>
          cases hf
          refine h.run t G al c env σ H _ _ _ hs he e1 fun G1 al1 H1 v l1 hs1 r1 => ?_
          refine kl G1 al1 c1 env σ H1 _ _ _ hs1 (he.mono l1) e2 fun G2 al2 H2 l2 hs2 => ?_
          refine kh G2 al2 c2 env σ H2 _ _ _ hs2 ((he.mono l1).mono l2) e3 fun G3 al3 H3 l3 hs3 => ?_
          exact ⟨G3, al3, _, dx, _, hs3, (r1.mono l2).mono l3, e4, fun G' al' H' v' l' => q G' al' H' v' (((l1.trans l2).trans l3).trans l')⟩
/-! ### list(x) of a text -/
theorem vals_signs {z : Str} {acc : Array Value} (h : ItemsOf (SignAt z) acc z.cps.size) : Vals ((z.cps.toList.map fun k => V.str ⟨#[k]⟩)) acc.toList := by
  obtain ⟨h1, h2⟩ := h
  have key : ∀ (l : List Nat) (us : List Value), us.length = l.length → (∀ (j : Nat) (v : Value), us[j]? = some v → ∃ (c : Nat) (u : Tok), l[j]? = some c ∧ v = Value.str (⟨#[c]⟩ : Str) u) → Vals (l.map fun k => V.str ⟨#[k]⟩) us := by
    intro l
    induction l with
    | nil =>
      intro us hl _
      cases us with
      | nil => exact .nil
      | cons => simp at hl
    | cons k l ih =>
      intro us hl hu
      cases us with
      | nil => simp at hl
      | cons u us =>
        obtain ⟨c, t, e1, e2⟩ := hu 0 u rfl
        have e1 : k = c := by simpa using e1
        subst e1
        exact .cons ⟨t, e2⟩ (ih us (by simpa using hl) fun j v hj => by
          obtain ⟨c, t, a1, a2⟩ := hu (j + 1) v (by simpa using hj)
          exact ⟨c, t, by simpa using a1, a2⟩)
  refine key _ _ (by rw [Array.length_toList, Array.length_toList, h1]) fun j v hj => ?_
  rw [Array.getElem?_toList] at hj
  obtain ⟨c, u, a1, a2⟩ := h2 j v hj
  exact ⟨c, u, by rw [Array.getElem?_toList]; exact a1, a2⟩
theorem RpL.of_signs {G : Hp} {al : List Addr} : ∀ ks : List Nat, RpL T G al (ks.map fun k => D.str ⟨#[k]⟩) (ks.map fun k => V.str ⟨#[k]⟩)
  | [] => .nil
  | k :: ks => .cons (.str _) (RpL.of_signs ks)
def bListS : FC := fun ds c => match ds with
  | [.str z] => if z.length ≤ lim then some (.lst (signs z), c) else none
  | _ => bList ds c
theorem cr_bListS (t : Tied T n X) : CallR X (.type "list") (rCN T bListS) := by
  intro pins s σ H xs us Q I rv h
  obtain ⟨G, al, c, ds, d, c', hs, rl, hg, q⟩ := h
  unfold bListS at hg
  split at hg
  case h_2 => exact cr_bList t pins s σ H xs us Q I rv ⟨G, al, c, ds, d, c', hs, rl, hg, q⟩
  case h_1 z =>
    split at hg
    case isFalse => cases hg
    case isTrue hz =>
      cases hg
      obtain ⟨v, rfl, r⟩ := rl.one
      have ev := r.str_inv
      subst ev
      obtain ⟨u, rfl, rx⟩ := vals1 rv
      obtain ⟨tk, rfl⟩ := rx
      have hsz : z.cps.size ≤ sizeLine := Nat.le_trans (show z.cps.size ≤ lim from hz) lim_line
      refine call_list_str (I.ok.hd t.calm) z tk (fun h' tk' acc' c2 hk hS hacc => ?_) hsz
      have hv := vals_signs hacc
      have hn : H s.heap.objs.size = none := I.hok.fresh (Nat.le_refl _)
      refine ⟨.ref s.heap.objs.size, _, I.laid (t' := tk') hk (Nat.le_refl _) (show ObjOk X.prog X.w _ h' _ (.lst (z.cps.toList.map fun k => V.str ⟨#[k]⟩)) from ⟨by rw [List.length_map, Array.length_toList]; exact hsz, acc'.toList, c2, hv, by simpa using hS⟩), rfl, ?_⟩
      exact q.new hs hn (.lst (RpL.of_signs z.cps.toList))
/-! ### x[a], x[b] = e -/
def fSwapO (i ja jb : Nat) (fe : FE) : FS := fun env c => match fe env c with
  | some (.tup [d1, d2], c1) => match env[i]?, env[ja]?, env[jb]? with
    | some (some (.o (.lst ds))), some (some (.f (.int a))), some (some (.f (.int b))) => match ixN ds.length a, ixN ds.length b with
      | some u, some v => some (.nx, env.set i (some (.o (.lst ((ds.set u d1).set v d2)))), c1)
      | _, _ => none
    | _, _, _ => none
  | _ => none
theorem ts_swapO (i ja jb : Nat) {x ya yb : Str} {px pa px2 pb q1 q2 pt : Pos} {kt : Nat} (he : TrE T n X e fe) (hij : i ≠ ja := by decide) (hib : i ≠ jb := by decide)
    (hN : X.N[i]? = some x := by rfl) (hv : Vis X.env.scope x := by first | exact Or.inl rfl | exact Or.inr (Or.inl rfl) | exact Or.inr (Or.inr rfl)) (hd : (x == ("__debug__" : Str)) = false := by decide) (hcd : (x == ("__classdict__" : Str)) = false := by decide)
    (hNa : X.N[ja]? = some ya := by rfl) (hva : Vis X.env.scope ya := by first | exact Or.inl rfl | exact Or.inr (Or.inl rfl) | exact Or.inr (Or.inr rfl)) (hda : (ya == ("__debug__" : Str)) = false := by decide) (hcda : (ya == ("__classdict__" : Str)) = false := by decide)
    (hNb : X.N[jb]? = some yb := by rfl) (hvb : Vis X.env.scope yb := by first | exact Or.inl rfl | exact Or.inr (Or.inl rfl) | exact Or.inr (Or.inr rfl)) (hdb : (yb == ("__debug__" : Str)) = false := by decide) (hcdb : (yb == ("__classdict__" : Str)) = false := by decide)
    (ha : ∀ v, assign (.Subscript (.Name x px) (.Name ya pa) q1) X.env v = (do
      let ov ← holding [v] (eval (.Name x px) X.env)
      let iv ← holding [v, ov] (eval (.Name ya pa) X.env)
      standAt q1
      holding [v, ov, iv] (setItem ov iv v)
      release [v, ov, iv] []) := by intro _; rfl)
    (ha2 : ∀ v, assign (.Subscript (.Name x px2) (.Name yb pb) q2) X.env v = (do
      let ov ← holding [v] (eval (.Name x px2) X.env)
      let iv ← holding [v, ov] (eval (.Name yb pb) X.env)
      standAt q2
      holding [v, ov, iv] (setItem ov iv v)
      release [v, ov, iv] []) := by intro _; rfl)
    (hn : (assignEach [.Subscript (.Name x px) (.Name ya pa) q1, .Subscript (.Name x px2) (.Name yb pb) q2] X.env).length = 2 := by rfl) (hst : (assignEach [.Subscript (.Name x px) (.Name ya pa) q1, .Subscript (.Name x px2) (.Name yb pb) q2] X.env).findIdx? (·.1) = none := by rfl)
    (hs : swapsWithSole [.Tuple [.Subscript (.Name x px) (.Name ya pa) q1, .Subscript (.Name x px2) (.Name yb pb) q2] kt pt] e pos.line X.env = pure false := by rfl) (hw : swappedStores [.Tuple [.Subscript (.Name x px) (.Name ya pa) q1, .Subscript (.Name x px2) (.Name yb pb) q2] kt pt] e X.env = pure none := by rfl)
    (h1 : (assignEach [.Tuple [.Subscript (.Name x px) (.Name ya pa) q1, .Subscript (.Name x px2) (.Name yb pb) q2] kt pt] X.env).map (·.2) = [assign (.Tuple [.Subscript (.Name x px) (.Name ya pa) q1, .Subscript (.Name x px2) (.Name yb pb) q2] kt pt) X.env] := by rfl)
    (hc1 : assignEach [.Subscript (.Name x px) (.Name ya pa) q1, .Subscript (.Name x px2) (.Name yb pb) q2] X.env = (false, assign (.Subscript (.Name x px) (.Name ya pa) q1) X.env) :: assignEach [.Subscript (.Name x px2) (.Name yb pb) q2] X.env := by rfl)
    (hc2 : assignEach [.Subscript (.Name x px2) (.Name yb pb) q2] X.env = (false, assign (.Subscript (.Name x px2) (.Name yb pb) q2) X.env) :: assignEach [] X.env := by rfl) :
    TrS T n X (.Assign [.Tuple [.Subscript (.Name x px) (.Name ya pa) q1, .Subscript (.Name x px2) (.Name yb pb) q2] kt pt] e pos) (fSwapO i ja jb fe) := by
  refine ⟨fun t B G al c env σ H E r env' c' k hf q => ofS (ps_asg (peS e) (pg_tup t.calm (pgs_cons (pg_sub (pe_var hN hv hd hcd) (pe_var hNa hva hda hcda) (set_uSetL (T := T)) ha) (pgs_cons (pg_sub (pe_var hN hv hd hcd) (pe_var hNb hvb hdb hcdb) (set_uSetL (T := T)) ha2) pgs_nil)) hn hst) hs hw h1) ?_⟩
  unfold fSwapO at hf
  split at hf
  case h_2 => cases hf
  case h_1 d1 d2 c1 e1 =>
    split at hf
    case h_2 => cases hf
    case h_1 ds a b e2 e3 e4 =>
      split at hf
      case h_2 => cases hf
      case h_1 u v e5 e6 =>
        cases hf
        refine he.run t G al c env σ H _ _ _ k.hs k.he e1 fun G1 al1 H1 w l1 hs1 r1 => ?_
        have k1 := k.step l1 hs1
        obtain ⟨tp, vs, rfl, h2, rl⟩ := (show Rq T G1 al1 H1 (.tup [d1, d2]) w from .inl r1).tup_inv hs1
        obtain ⟨v1, v2, rfl, rv1, rv2⟩ := rl.two
        obtain ⟨p, ho, hsl, hg, hp, hh, bx⟩ := k1.he.own i _ e2
        obtain ⟨va, hsa, ra⟩ := k1.he.frz ja _ e3
        obtain ⟨vb, hsb, rb⟩ := k1.he.frz jb _ e4
        refine ⟨tp, [v1, v2], rfl, by rw [t.K]; exact h2, rfl, v1, [v2], rfl, ?_⟩
        refine ⟨.ref p, hsl, va, hsa, G1, al1, _, p, ho, .lst ds, .int a, d1, .lst (ds.set u d1), rfl, hs1, hh, bx, ra, rv1, by simp only [uSetL, e5], fun o' b' => ?_⟩
        have k2 := k1.putO e2 hsl b'
        have hh2 : upd H1 p o' p = some o' := upd_same
        refine ⟨v2, [], rfl, ?_⟩
        refine ⟨.ref p, hsl, vb, hsb, G1, al1, _, p, o', .lst (ds.set u d1), .int b, d2, .lst ((ds.set u d1).set v d2), rfl, k2.hs, hh2, b', rb, rv2, by simp only [uSetL, List.length_set, e6], fun o'' b'' => ⟨rfl, ?_⟩⟩
        have e7 : (env.set i (some (Sl.o (.lst (ds.set u d1)))))[i]? = some (some (Sl.o (.lst (ds.set u d1)))) := by
          rw [List.getElem?_set_self (List.getElem?_eq_some_iff.mp e2).1]
        have k3 := k2.putO e7 hsl b''
        rw [List.set_set] at k3
        exact q G1 al1 σ _ l1.le k3
end
end Pd
set_option Elab.async false
set_option linter.all false
set_option maxRecDepth 100000
/-! Pd22: the head's facts of an own error's class. -/
namespace Pd
open PySem PySem.Spec PyProof.Rows L2
theorem oexB_ok {K : PySem.W.Frag} {C : Addr} (q : oexB K C = true) : ∃ nm qn N bs bm sn sub ab col dd k0 k1 k2 k3 k5, K.lookup C = some (excClassObj nm qn C N bs bm true sn sub ab col dd k0 k1 k2 k3 k5 "ValueError.__new__") ∧ PySem.HandSPX.refsVE bm = true := by
  unfold oexB at q
  split at q
  · rename_i dd cd sl ho
    split at q
    · rename_i C' bm k0 k1 k2 k3 n k5 hm hs
      simp only [Bool.and_eq_true, decide_eq_true_eq, Bool.not_eq_true'] at q
      obtain ⟨⟨⟨⟨rfl, rfl⟩, hdel⟩, hhd⟩, hve⟩ := q
      obtain ⟨nm, bs, mro, ns, qn, hd, sn, sub, ab, col, del⟩ := cd
      dsimp only at hm hdel hhd
      subst hm hdel hhd
      have hsl : sl = #[k0, k1, k2, k3, some (.builtin "ValueError.__new__"), k5] := by
        obtain ⟨l⟩ := sl
        simp only at hs
        rw [hs]
      subst hsl
      exact ⟨nm, qn, ns, bs, bm, sn, sub, ab, col, dd, k0, k1, k2, k3, k5, ho, hve⟩
    · cases q
  · cases q
theorem erC_of {T : Tb} {k : Nat} {x y qual : Str} {params : Arguments} {scope : Scope} {fd : FuncData} {p1 p2 p3 p4 : Pos} (h : erB x T.K = true) (hk : T.cl k = He.ga T.K x) (g : T.mg x = some (.ref (T.cl k))) (no : PySem.W.findIn T.K (.ref (He.ga T.K x)) y = some none) (fl : T.fl k = [y])
    (F : FunD T.K "__init__" qual params [.Assign [.Attribute (.Name "self" p1) y p2] (.Name y p3) p4] scope [] [] (He.fAd T.K (x, some "__init__")) fd) (S : FnScope ["self", y] ["self", y] scope) (b : Binds T.K fd ["self", y] [])
    (hpv : ∀ (cdv : Value) (A : Around) (outer : List Env) (s : Shared) (H : Hp) (E : XK), PS (BX T ["self", y] qual scope (He.fAd T.K (x, some "__init__")) cdv A outer s H E) (.Assign [.Attribute (.Name "self" p1) y p2] (.Name y p3) p4) (tOst T.K y (tVar 0) (tVar 1))) : ErC T 1 k x y := by
  unfold erB at h
  obtain ⟨h1, h⟩ := He.ba h
  obtain ⟨h2, h⟩ := He.ba h
  obtain ⟨h3, h⟩ := He.ba h
  obtain ⟨h4, h⟩ := He.ba h
  obtain ⟨h5, h⟩ := He.ba h
  obtain ⟨h6, h⟩ := He.ba h
  obtain ⟨h7, h⟩ := He.ba h
  obtain ⟨h8, h9⟩ := He.ba h
  have ox : OexC T.K (T.cl k) := by rw [hk]; exact ⟨oexB_ok h1, He.eqO_ok h2, of_decide_eq_true h3, of_decide_eq_true h4, h5⟩
  have no' : PySem.W.findIn T.K (.ref (T.cl k)) y = some none := by rw [hk]; exact no
  refine ⟨g, ox, no', ⟨_, fd, ["self", y], by rw [hk]; exact He.eqO_ok h8, of_decide_eq_true h9, b, ?_⟩, fl, by rw [hk]; exact xfB_ok h6, by rw [hk]; exact of_decide_eq_true h7⟩
  refine F.ok S (fun vs H Q E h => ?_) (fun cdv A outer s H vs Q E hr h => ⟨_, PSs.nox (pss_one (hpv cdv A outer s H E)), ?_⟩)
  · obtain ⟨a, v, rfl, _⟩ := h
    rfl
  · obtain ⟨a, v, rfl, hC, ha, q⟩ := h
    exact ⟨v, rfl, .ref a, rfl, a, T.cl k, rfl, hC, no', .inl ⟨ha, fun dx hd hn => q dx hd hn⟩⟩
end Pd
set_option Elab.async false
set_option linter.all false
set_option maxRecDepth 100000
/-! Pd23: a list that a method makes, kept as one's own. -/
namespace Pd
open PySem PySem.Spec PyProof.Rows L2
def rMdN (T : Tb) (g : FC) : V → List V → Hp → VK → Prop := fun x xs H Q => ∃ (G : Hp) (al : List Addr) (c : Cs) (ds : List D) (d : D) (c' : Cs), HSt T G al c H ∧ RqL T G al H ds (x :: xs) ∧ g ds c = some (d, c') ∧ AftN T G al H d c' Q
section
variable {T : Tb} {n : Nat} {X : Cx} {pos p2 cpos apos : Pos} {o e : Expr} {es : List Expr} {fo : FE} {fa : FA} {g : FC} {tn : String} {nm : Str} {bid : String}
theorem tn_md (pa : PlainAttrs tn) (slot : Slot tn nm bid) (hty : typeOf (.builtin bid) = pure (.type "method_descriptor")) (hm : Tied T n X → MtR X bid (rMdN T g)) (ho : TrQ T n X o fo) (ha : TrQA T n X (e :: es) fa)
    (hbase : attributeBase o nm X.env (eval o X.env) = eval o X.env := by rfl)
    (hfew : ((backTo cpos (starEach (e :: es) X.env)).all (fun x => !x.1) && (backToKw cpos (keywordEach [] X.env)).all (fun x => x.1.isSome)
      && decide ((e :: es).length + ([] : List Keyword).length + (if ([] : List Keyword).isEmpty then 0 else 1) < 30)) = true := by rfl)
    (hline : (apos.endLine == cpos.line) = true := by rfl) (hs : starEach (e :: es) X.env = (false, eval e X.env) :: starEach es X.env := by rfl) (hplain : (backTo cpos (starEach es X.env)).any (·.1) = false := by rfl) :
    TrN T n X (.Call (.Attribute o nm apos) (e :: es) [] cpos) (fMd tn g fo fa) := by
  refine ⟨fun t G al c env σ H Q d c' hst he hf q => ofE (pe_bm pa slot hty (hm t) (peS o) (paS (e :: es)) hbase hfew hline hs hplain) ?_⟩
  unfold fMd at hf
  split at hf
  case h_2 => cases hf
  case h_1 d0 c1 e1 =>
    split at hf
    case isFalse => cases hf
    case isTrue hT =>
      split at hf
      case h_2 => cases hf
      case h_1 ds c2 e2 =>
        refine ho.run t G al c env σ H _ _ _ hst he e1 fun G1 al1 H1 v l1 hs1 r1 => ⟨isTyM_v t hs1 hT r1, ha.run t G1 al1 c1 env σ H1 _ _ _ hs1 (he.mono l1) e2 fun G2 al2 H2 vs l2 hs2 rl => ?_⟩
        exact ⟨G2, al2, c2, d0 :: ds, d, c', hs2, .cons (r1.mono l2) rl, hf, fun G' al' H' a o l' hs' hg' ha' hp0 => q G' al' H' a o ((l1.trans l2).trans l') hs' hg' ha' (fresh_before hst hs2 (l1.trans l2) hp0)⟩
theorem mtn_mSplit (t : Tied T n X) : MtR X "str.split" (rMdN T mSplit) := by
  refine mtr_of fun x xs H Q ⟨G, al, c, ds, d, c', hs, rl, hg, q⟩ => ?_
  unfold mSplit at hg
  split at hg
  case h_2 => cases hg
  case h_1 a b =>
    split at hg
    case isFalse => cases hg
    case isTrue hl =>
      cases hg
      obtain ⟨r0, rl0⟩ := rl.cons_inv
      obtain ⟨w, rfl, rw'⟩ := rl0.one
      simp only [Bool.and_eq_true, decide_eq_true_eq, Bool.not_eq_true'] at hl
      exact ⟨_, mt_split, a, b, r0.str_inv, by rw [rw'.str_inv], hl.1, Nat.le_trans hl.2 lim_line, fun p hp => q.new hs hp (.lst (RpL.of_strs _))⟩
end
end Pd
set_option Elab.async false
set_option linter.all false
set_option maxRecDepth 100000
set_option maxHeartbeats 1000000
/-! ZN: zip of any number of tuples, gathered in a list, at the library's level. -/
namespace ZN
open PySem
open PySem.Sem (wp)
/-- a zip, whatever became of the tuple it gave last -/
abbrev IsZipV (h : Heap) (z TI TO : Addr) (v : Value) (f : Bool) : Prop :=
  h.get? z = some { cls := .type "zip", dict := none, data := .fields #[v, .bool f, .bool false, .ref TI, .ref TO], slots := #[] }
abbrev IsTupV (h : Heap) (T : Addr) (vs : List Value) : Prop := h.get? T = some { cls := .type "tuple", data := .seq vs.toArray }
section
variable {prog : Program} {w : World} {A : Around} {E : Value → Shared → Prop} {s : Shared}
theorem alive_any {a : Addr} {Q : Option Obj → Shared → Prop} (h : Q (s.heap.get? a) s) : wpAny (model prog w) A (loadIfAlive a) Q E s := fun _ _ _ => h
theorem free_cases {z TI TO : Addr} {v : Value} {f : Bool} {Q : Bool → Shared → Prop} (hz : IsZipV s.heap z TI TO v f) (hv : v = .none ∨ ∃ T : Nat, v = rawInt T)
    (h : ∀ b h' f', IsZipV h' z TI TO v f' → Heap.SameBut z s.heap h' → Q b { s with heap := h' }) : wpAny (model prog w) A (Builtin.SmallTypes.ownedTupleIsFree (.ref z)) Q E s := by
  unfold Builtin.SmallTypes.ownedTupleIsFree
  refine wpAny_bind (wpAny_field hz rfl (x := v) rfl ?_)
  rcases hv with rfl | ⟨T, rfl⟩
  · exact wpAny_pure (h _ s.heap f hz (Heap.SameBut.refl _ _))
  · show wpAny _ _ (loadIfAlive ((T : Int).toNat) >>= _) _ _ _
    refine wpAny_bind (alive_any ?_)
    cases s.heap.get? (T : Int).toNat with
    | none => exact wpAny_pure (h _ s.heap f hz (Heap.SameBut.refl _ _))
    | some o =>
      simp only [Option.isNone_some, Bool.false_eq_true, if_false]
      refine wpAny_bind (wpAny_field hz rfl (x := .bool f) rfl ?_)
      cases f with
      | true =>
        rw [if_neg (show ¬ ((Value.bool true != Value.bool true) = true) from Bool.false_ne_true)]
        exact wpAny_pure (h _ s.heap true hz (Heap.SameBut.refl _ _))
      | false =>
        rw [if_pos (show (Value.bool false != Value.bool true) = true from rfl)]
        exact wpAny_bind (wpAny_setField_rec hz (by simp) fun h₁ hz₁ hs₁ => wpAny_pure (h _ h₁ true hz₁ hs₁))
/-- the cells of a zip: its iterators, its two tuples, itself; its tuples lie before them -/
structure Zc (b n : Nat) (ts : List Addr) : Prop where
  pos : 0 < n
  few : n ≤ 1000
  len : ts.length = n
  lt : ∀ t ∈ ts, t < b
abbrev iters (b n : Nat) : List Value := (List.range n).map fun j => .ref (b + j)
/-- so many of the iterators have gone on -/
structure Adv (b n : Nat) (ts : List Addr) (k j : Nat) (h0 h : Heap) : Prop where
  sz : h.objs.size = h0.objs.size
  old : ∀ (c : Nat) o, (c < b ∨ c = b + n ∨ b + n + 1 < c) → h0.get? c = some o → h.get? c = some o
  it : ∀ (i : Nat) t, ts[i]? = some t → h.IsTupleIter (b + i) t (if i < j then k + 1 else k)
theorem Adv.step {b n k j : Nat} {ts : List Addr} {h0 h h' : Heap} {t : Addr} (C : Zc b n ts) (a : Adv b n ts k j h0 h) (ej : ts[j]? = some t) (hit : h'.IsTupleIter (b + j) t (k + 1)) (hs : Heap.SameBut (b + j) h h') : Adv b n ts k (j + 1) h0 h' := by
  have hj : j < n := by rw [← C.len]; exact (List.getElem?_eq_some_iff.mp ej).1
  refine ⟨hs.1.trans a.sz, fun c o hc e => hs.extBut c o (by show c ≠ b + j; omega) (a.old c o hc e), fun i t' ei => ?_⟩
  by_cases hi : i = j
  · subst hi
    rw [ej] at ei
    cases ei
    rw [if_pos (by omega)]
    exact hit
  · have := a.it i t' ei
    by_cases hl : i < j
    · rw [if_pos hl] at this
      rw [if_pos (by omega)]
      exact this.extBut hs.extBut (by show b + i ≠ b + j; omega)
    · rw [if_neg hl] at this
      rw [if_neg (by omega)]
      exact this.extBut hs.extBut (by show b + i ≠ b + j; omega)
theorem Adv.over {b n k j : Nat} {ts : List Addr} {h0 h h' : Heap} (C : Zc b n ts) (a : Adv b n ts k j h0 h) (hs : Heap.SameBut (b + n + 1) h h') : Adv b n ts k j h0 h' := by
  refine ⟨hs.1.trans a.sz, fun c o hc e => hs.extBut c o (by show c ≠ b + n + 1; omega) (a.old c o hc e), fun i t ei => ?_⟩
  have hi : i < n := by rw [← C.len]; exact (List.getElem?_eq_some_iff.mp ei).1
  exact (a.it i t ei).extBut hs.extBut (by show b + i ≠ b + n + 1; omega)
theorem iters_at {b n j : Nat} (h : j < n) : (iters b n)[j]? = some (.ref (b + j)) := by simp [iters, h]
theorem sz_le {os : List Value} {n : Nat} (h : os.length = n) (hn : n ≤ 1000) : os.toArray.size ≤ sizeLine := by
  rw [List.size_toArray, h, sizeLine_eq]; omega
theorem drop_cons' {α : Type} {l rest : List α} {x : α} {j : Nat} (h : x :: rest = l.drop j) : l[j]? = some x ∧ rest = l.drop (j + 1) := by
  have hj : j < l.length := by
    rcases Nat.lt_or_ge j l.length with q | q
    · exact q
    · rw [List.drop_of_length_le q] at h; cases h
  rw [List.drop_eq_getElem_cons hj] at h
  injection h with h1 h2
  exact ⟨by rw [List.getElem?_eq_getElem hj, h1], h2⟩
theorem next_item {b n : Nat} {ts : List Addr} {v : Value} {f : Bool} {os xs : List Value} {k : Nat} {Q : Value → Shared → Prop} (C : Zc b n ts)
    (hz : IsZipV s.heap (b + n + 2) (b + n) (b + n + 1) v f) (hv : v = .none ∨ ∃ T : Nat, v = rawInt T) (hTI : IsTupV s.heap (b + n) (iters b n)) (hTO : IsTupV s.heap (b + n + 1) os) (ho : os.length = n)
    (hit : ∀ (j : Nat) t, ts[j]? = some t → s.heap.IsTupleIter (b + j) t k) (hx : xs.length = n) (ht : ∀ (j : Nat) t x, ts[j]? = some t → xs[j]? = some x → ∃ items, s.heap.IsTuple t items ∧ items[k]? = some x)
    (hQ : ∀ h' v' f' os', IsZipV h' (b + n + 2) (b + n) (b + n + 1) v' f' → (v' = .none ∨ ∃ T : Nat, v' = rawInt T) → IsTupV h' (b + n + 1) os' → os'.length = n → (∀ (j : Nat) t, ts[j]? = some t → h'.IsTupleIter (b + j) t (k + 1)) →
      IsTupV h' s.heap.objs.size xs → h'.objs.size = s.heap.objs.size + 1 → (∀ c o, (c < b ∨ c = b + n ∨ b + n + 2 < c) → s.heap.get? c = some o → h'.get? c = some o) → Q (.ref s.heap.objs.size) { s with heap := h' }) :
    wpAny (model prog w) A (Builtin.«zip.__next__» ⟨[.ref (b + n + 2)], []⟩) (fun fin s' => ∃ v, fin = .done (.ret v) ∧ Q v s') E s := by
  show wpAny _ _ (field (.ref (b + n + 2)) 2 >>= _) _ _ _
  refine wpAny_bind (wpAny_field hz rfl (x := .bool false) rfl ?_)
  show wpAny _ _ (field (.ref (b + n + 2)) 3 >>= _) _ _ _
  refine wpAny_bind (wpAny_field hz rfl (x := .ref (b + n)) rfl ?_)
  refine wpAny_bind (wpAny_seqItems hTI rfl ?_)
  have hne : (iters b n).toArray.isEmpty = false := by
    have := C.pos
    rw [List.isEmpty_toArray]
    cases n with
    | zero => omega
    | succ n => rw [iters, List.range_succ_eq_map]; rfl
  simp only [hne, Bool.false_eq_true, if_false]
  show wpAny _ _ (Builtin.SmallTypes.ownedTupleIsFree (.ref (b + n + 2)) >>= _) _ _ _
  refine wpAny_bind (free_cases hz hv fun fr h₀ f₀ hz₀ hs₀ => ?_)
  obtain ⟨hp, g, d, tk, oss⟩ := s
  replace hs₀ : Heap.SameBut (b + n + 2) hp h₀ := hs₀
  have hTI₀ : IsTupV h₀ (b + n) (iters b n) := hs₀.extBut _ _ (by show b + n ≠ b + n + 2; omega) hTI
  have hTO₀ : IsTupV h₀ (b + n + 1) os := hs₀.extBut _ _ (by show b + n + 1 ≠ b + n + 2; omega) hTO
  have ht₀ : ∀ (j : Nat) t x, ts[j]? = some t → xs[j]? = some x → ∃ items, h₀.IsTuple t items ∧ items[k]? = some x := fun j t x e1 e2 => by
    obtain ⟨items, i1, i2⟩ := ht j t x e1 e2
    have htb : (t : Nat) < b := C.lt t (List.mem_of_getElem? e1)
    exact ⟨items, i1.extBut hs₀.extBut (fun q => absurd htb (by rw [show t = b + n + 2 from q]; exact Nat.not_lt.mpr (by omega))), i2⟩
  have hit₀ : ∀ (i : Nat) t, ts[i]? = some t → h₀.IsTupleIter (b + i) t k := fun i t e => by
    have hi : i < n := by rw [← C.len]; exact (List.getElem?_eq_some_iff.mp e).1
    exact (hit i t e).extBut hs₀.extBut (by show b + i ≠ b + n + 2; omega)
  have ok₀ : ∀ (c : Nat) o, (c < b ∨ c = b + n ∨ b + n + 2 < c) → hp.get? c = some o → h₀.get? c = some o := fun c o hc e => hs₀.extBut c o (by show c ≠ b + n + 2; omega) e
  have sz₀ : h₀.objs.size = hp.objs.size := hs₀.1
  clear hs₀ hit ht hz hTI hTO
  cases fr with
  | true =>
    simp only [if_true]
    refine wpAny_bind (wpAny_rule ?_)
    refine wpAny_bind (wpAny_field hz₀ rfl (x := .ref (b + n + 1)) rfl ?_)
    refine wpAny_bind (wpAny_setField_rec hz₀ (by simp) fun h₁ hz₁ hs₁ => ?_)
    replace hz₁ : IsZipV h₁ (b + n + 2) (b + n) (b + n + 1) .ellipsis f₀ := hz₁
    replace hs₁ : Heap.SameBut (b + n + 2) h₀ h₁ := hs₁
    have hTO₁ : IsTupV h₁ (b + n + 1) os := hs₁.extBut _ _ (by show b + n + 1 ≠ b + n + 2; omega) hTO₀
    have a₁ : Adv b n ts k 0 h₁ h₁ := ⟨rfl, fun _ _ _ e => e, fun i t e => by
      have hi : i < n := by rw [← C.len]; exact (List.getElem?_eq_some_iff.mp e).1
      rw [if_neg (by omega)]
      exact (hit₀ i t e).extBut hs₁.extBut (by show b + i ≠ b + n + 2; omega)⟩
    refine wpAny_bind ?_
    refine wpAny_forIn_list _ (fun rest st s' => ∃ (j : Nat) (h : Heap) (os' : List Value), j ≤ n ∧ rest = (iters b n).zipIdx.drop j ∧ st = (none, ()) ∧ s' = ⟨h, g, d, tk, oss⟩ ∧ Adv b n ts k j h₁ h ∧ IsTupV h (b + n + 1) os' ∧ os'.length = n ∧ ∀ i, i < j → os'[i]? = xs[i]?)
      _ ?_ ?_ _ _ ⟨0, h₁, os, by omega, rfl, rfl, rfl, a₁, hTO₁, ho, fun i hi => by omega⟩
    · rintro x rest st s' ⟨j, h, os', hj, er, rfl, rfl, a, hTO', hl', hos⟩
      obtain ⟨ex, er'⟩ := drop_cons' er
      have hjn : j < n := by
        have := (List.getElem?_eq_some_iff.mp ex).1
        simpa [iters] using this
      have ex' : x = (.ref (b + j), j) := by
        rw [List.getElem?_zipIdx, iters_at hjn] at ex
        simpa using ex.symm
      subst ex'
      obtain ⟨t, et⟩ : ∃ t, ts[j]? = some t := ⟨ts[j]'(by rw [C.len]; exact hjn), List.getElem?_eq_getElem _⟩
      obtain ⟨y, ey⟩ : ∃ y, xs[j]? = some y := ⟨xs[j]'(by rw [hx]; exact hjn), List.getElem?_eq_getElem _⟩
      obtain ⟨items, i1, i2⟩ := ht₀ j t y et ey
      have htb := C.lt t (List.mem_of_getElem? et)
      obtain ⟨ot, hot, rt⟩ := i1
      have i1' : h.IsTuple t items := ⟨ot, a.old t ot (.inl htb) (hs₁.extBut t ot (fun q => absurd htb (by rw [show t = b + n + 2 from q]; exact Nat.not_lt.mpr (by omega))) hot), rt⟩
      have itj := a.it j t et
      rw [if_neg (by omega)] at itj
      refine wpAny_bind (wpAny_onRaise ?_)
      show wpAny _ _ (Builtin.SmallTypes.nextOf (.ref (b + j)) >>= _) _ _ _
      refine wpAny_bind (RZ.nextOf_tuple_item (s := ⟨h, g, d, tk, oss⟩) itj i1' i2 fun h2 it2 hs2 => wpAny_pure ?_)
      replace hs2 : Heap.SameBut (b + j) h h2 := hs2
      have hTO2 : IsTupV h2 (b + n + 1) os' := hs2.extBut _ _ (by show b + n + 1 ≠ b + j; omega) hTO'
      have a2 := a.step C et it2 hs2
      refine wpAny_bind (wpAny_seqItems (s := ⟨h2, g, d, tk, oss⟩) hTO2 rfl ?_)
      refine wpAny_bind (wpAny_updateSeq (s := ⟨h2, g, d, tk, oss⟩) (hz := sz_le hl' C.few) (_hz' := by simpa using Nat.le_trans (sz_le hl' C.few) (Nat.le_succ _)) hTO2 rfl ?_)
      have hs3 : Heap.SameBut (b + n + 1) h2 (h2.update (b + n + 1) (Obj.mapSeq (·.setIfInBounds j y))) := Heap.SameBut.update ..
      have hTO3 : IsTupV (h2.update (b + n + 1) (Obj.mapSeq (·.setIfInBounds j y))) (b + n + 1) (os'.set j y) := by
        show Heap.get? _ _ = _
        rw [Heap.get?_update_self _ hTO2 rfl]
        simp [Obj.mapSeq]
      refine wpAny_bind (wpAny_letGo (wpAny_pure ⟨j + 1, _, os'.set j y, by omega, er', rfl, rfl, a2.over C hs3, hTO3, by rw [List.length_set]; exact hl', fun i hi => ?_⟩))
      by_cases hij : i = j
      · subst hij
        rw [ey, List.getElem?_set_self (by omega)]
      · rw [List.getElem?_set_ne (by omega)]
        exact hos i (by omega)
    · rintro st s' ⟨j, h, os', hj, er, rfl, rfl, a, hTO', hl', hos⟩
      have hjn : j = n := by
        have := congrArg List.length er
        simp [iters] at this
        omega
      subst hjn
      have eo : os' = xs := by
        apply List.ext_getElem?
        intro i
        by_cases hi : i < j
        · exact hos i hi
        · rw [List.getElem?_eq_none (by omega), List.getElem?_eq_none (by omega)]
      subst eo
      simp only
      refine wpAny_bind (wpAny_seqItems (s := ⟨h, g, d, tk, oss⟩) hTO' rfl ?_)
      refine wpAny_bind (wpAny_newTuple (hsz := by rw [show os'.toArray.toList.length = _ from by simpa using hl']; exact (by rw [sizeLine_eq]; have := C.few; omega)) ?_)
      have hzz : IsZipV h (b + j + 2) (b + j) (b + j + 1) .ellipsis f₀ := a.old _ _ (.inr (.inr (by omega))) hz₁
      have hzlt : b + j + 2 < h.objs.size := Heap.lt_size hzz
      have ea : os'.toArray.toList.toArray = os'.toArray := by simp
      rw [ea]
      show wpAny _ _ (Builtin.SmallTypes.ownedTupleHandOut (.ref (b + j + 2)) (.ref h.objs.size) >>= _) _ _ ⟨h.push { cls := .type "tuple", data := .seq os'.toArray }, g, d, tk, oss⟩
      refine wpAny_bind ?_
      unfold Builtin.SmallTypes.ownedTupleHandOut
      have hz₆ : IsZipV (h.push { cls := .type "tuple", data := .seq os'.toArray }) (b + j + 2) (b + j) (b + j + 1) .ellipsis f₀ := Heap.get?_push_of_some _ hzz
      refine wpAny_bind (wpAny_setField_rec (s := ⟨h.push { cls := .type "tuple", data := .seq os'.toArray }, g, d, tk, oss⟩) hz₆ (by simp) fun h₇ hz₇ hs₇ => ?_)
      replace hz₇ : IsZipV h₇ (b + j + 2) (b + j) (b + j + 1) (rawInt h.objs.size) f₀ := hz₇
      refine wpAny_setField_rec hz₇ (by simp) fun h₈ hz₈ hs₈ => ?_
      replace hz₈ : IsZipV h₈ (b + j + 2) (b + j) (b + j + 1) (rawInt h.objs.size) false := hz₈
      replace hs₇ : Heap.SameBut (b + j + 2) (h.push { cls := .type "tuple", data := .seq os'.toArray }) h₇ := hs₇
      replace hs₈ : Heap.SameBut (b + j + 2) h₇ h₈ := hs₈
      have up : ∀ (c : Nat) o, c ≠ b + j + 2 → h.get? c = some o → h₈.get? c = some o := fun c o c1 e => hs₈.extBut _ _ c1 (hs₇.extBut _ _ c1 (Heap.get?_push_of_some _ e))
      have hT₈ : IsTupV h₈ h.objs.size os' := hs₈.extBut _ _ (Nat.ne_of_gt hzlt) (hs₇.extBut _ _ (Nat.ne_of_gt hzlt) (Heap.get?_push_size _ rfl))
      have hz8 : h₈.objs.size = h.objs.size + 1 := by rw [hs₈.1, hs₇.1, Heap.size_push]
      have hsz : h.objs.size = hp.objs.size := by rw [a.sz, hs₁.1, sz₀]
      rw [hsz] at hz₈ hT₈ hz8
      refine wpAny_pure ⟨_, rfl, ?_⟩
      show Q (.ref h.objs.size) ⟨h₈, g, d, tk, oss⟩
      rw [hsz]
      refine hQ h₈ _ _ os' hz₈ (.inr ⟨_, rfl⟩) (up _ _ (by omega) hTO') hl' (fun i t e => ?_) hT₈ hz8 fun c o hc e => up c o (by omega) (a.old c o (by omega) (hs₁.extBut c o (by show c ≠ b + j + 2; omega) (ok₀ c o hc e)))
      have hi : i < j := by rw [← C.len]; exact (List.getElem?_eq_some_iff.mp e).1
      have := a.it i t e
      rw [if_pos hi] at this
      exact this.at fun o q => up _ o (by omega) q
  | false =>
    simp only [Bool.false_eq_true, if_false]
    refine wpAny_bind ?_
    have a₁ : Adv b n ts k 0 h₀ h₀ := ⟨rfl, fun _ _ _ e => e, fun i t e => by
      rw [if_neg (by omega)]
      exact hit₀ i t e⟩
    refine MeetsSeq2.wpAny_forIn_array _ (fun rest st s' => ∃ (j : Nat) (h : Heap), j ≤ n ∧ rest = (iters b n).drop j ∧ st = (none, (xs.take j).toArray) ∧ s' = ⟨h, g, d, tk, oss⟩ ∧ Adv b n ts k j h₀ h ∧ IsTupV h (b + n + 1) os)
      _ ?_ ?_ _ _ ⟨0, h₀, by omega, by simp, by simp, rfl, a₁, hTO₀⟩
    · rintro x rest st s' ⟨j, h, hj, er, rfl, rfl, a, hTO'⟩
      obtain ⟨ex, er'⟩ := drop_cons' er
      have hjn : j < n := by
        have := (List.getElem?_eq_some_iff.mp ex).1
        simpa [iters] using this
      rw [iters_at hjn] at ex
      cases ex
      obtain ⟨t, et⟩ : ∃ t, ts[j]? = some t := ⟨ts[j]'(by rw [C.len]; exact hjn), List.getElem?_eq_getElem _⟩
      obtain ⟨y, ey⟩ : ∃ y, xs[j]? = some y := ⟨xs[j]'(by rw [hx]; exact hjn), List.getElem?_eq_getElem _⟩
      obtain ⟨items, i1, i2⟩ := ht₀ j t y et ey
      have htb := C.lt t (List.mem_of_getElem? et)
      obtain ⟨ot, hot, rt⟩ := i1
      have i1' : h.IsTuple t items := ⟨ot, a.old t ot (.inl htb) hot, rt⟩
      have itj := a.it j t et
      rw [if_neg (by omega)] at itj
      refine wpAny_bind (wpAny_holding ?_)
      show wpAny _ _ (Builtin.SmallTypes.nextOf (.ref (b + j)) >>= _) _ _ _
      refine wpAny_bind (RZ.nextOf_tuple_item (s := ⟨h, g, d, tk, oss⟩) itj i1' i2 fun h2 it2 hs2 => wpAny_pure ?_)
      replace hs2 : Heap.SameBut (b + j) h h2 := hs2
      refine wpAny_pure ⟨j + 1, h2, by omega, er', ?_, rfl, a.step C et it2 hs2, hs2.extBut _ _ (by show b + n + 1 ≠ b + j; omega) hTO'⟩
      rw [List.take_add_one, ey]
      simp
    · rintro st s' ⟨j, h, hj, er, rfl, rfl, a, hTO'⟩
      have hjn : j = n := by
        have := congrArg List.length er
        simp [iters] at this
        omega
      subst hjn
      have eo : xs.take j = xs := by rw [← hx, List.take_length]
      rw [eo]
      simp only
      refine wpAny_bind (wpAny_newTuple (hsz := by rw [show xs.toArray.toList.length = _ from by simpa using hx]; exact (by rw [sizeLine_eq]; have := C.few; omega)) ?_)
      have ea : xs.toArray.toList.toArray = xs.toArray := by simp
      rw [ea]
      have hsz : h.objs.size = hp.objs.size := by rw [a.sz, sz₀]
      refine wpAny_pure ⟨_, rfl, ?_⟩
      show Q (.ref h.objs.size) ⟨h.push { cls := .type "tuple", data := .seq xs.toArray }, g, d, tk, oss⟩
      have hT : IsTupV (h.push { cls := .type "tuple", data := .seq xs.toArray }) h.objs.size xs := Heap.get?_push_size _ rfl
      have hs8 : (h.push { cls := .type "tuple", data := .seq xs.toArray }).objs.size = h.objs.size + 1 := Heap.size_push ..
      have up : ∀ (c : Nat) o, h.get? c = some o → (h.push { cls := .type "tuple", data := .seq xs.toArray }).get? c = some o := fun c o e => Heap.get?_push_of_some _ e
      rw [hsz] at hT hs8 ⊢
      refine hQ _ _ _ os (up _ _ (a.old _ _ (.inr (.inr (by omega))) hz₀)) hv (up _ _ hTO') ho (fun i t e => ?_) hT hs8 fun c o hc e => up c o (a.old c o (by omega) (ok₀ c o hc e))
      have hi : i < j := by rw [← C.len]; exact (List.getElem?_eq_some_iff.mp e).1
      have := a.it i t e
      rw [if_pos hi] at this
      exact this.at fun o q => up _ o q
theorem next_end {b n : Nat} {ts : List Addr} {v : Value} {f : Bool} {os : List Value} {k : Nat} {Q : Fin → Shared → Prop} (hh : A.handled = none) (C : Zc b n ts)
    (hz : IsZipV s.heap (b + n + 2) (b + n) (b + n + 1) v f) (hv : v = .none ∨ ∃ T : Nat, v = rawInt T) (hTI : IsTupV s.heap (b + n) (iters b n)) (hTO : IsTupV s.heap (b + n + 1) os) (ho : os.length = n)
    (hit : ∀ (j : Nat) t, ts[j]? = some t → s.heap.IsTupleIter (b + j) t k) (ht : ∀ t, ts[0]? = some t → ∃ items, s.heap.IsTuple t items ∧ items[k]? = none)
    (hE : ∀ h' e, (∀ (c : Nat) o, (c < b ∨ c = b + n ∨ b + n + 2 < c) → s.heap.get? c = some o → h'.get? c = some o) → (∃ o, h'.get? e = some o ∧ o.cls = .type "StopIteration") → E (.ref e) { s with heap := h' }) :
    wpAny (model prog w) A (Builtin.«zip.__next__» ⟨[.ref (b + n + 2)], []⟩) Q E s := by
  show wpAny _ _ (field (.ref (b + n + 2)) 2 >>= _) _ _ _
  refine wpAny_bind (wpAny_field hz rfl (x := .bool false) rfl ?_)
  show wpAny _ _ (field (.ref (b + n + 2)) 3 >>= _) _ _ _
  refine wpAny_bind (wpAny_field hz rfl (x := .ref (b + n)) rfl ?_)
  refine wpAny_bind (wpAny_seqItems hTI rfl ?_)
  obtain ⟨m, rfl⟩ : ∃ m, n = m + 1 := ⟨n - 1, by have := C.pos; omega⟩
  have hne : (iters b (m + 1)).toArray.isEmpty = false := by
    rw [List.isEmpty_toArray, iters, List.range_succ_eq_map]; rfl
  have ei : ∃ r, iters b (m + 1) = .ref (b + 0) :: r := ⟨_, by rw [iters, List.range_succ_eq_map, List.map_cons]⟩
  obtain ⟨r, ei⟩ := ei
  simp only [hne, Bool.false_eq_true, if_false]
  obtain ⟨t, et⟩ : ∃ t, ts[0]? = some t := ⟨ts[0]'(by rw [C.len]; omega), List.getElem?_eq_getElem _⟩
  obtain ⟨items, i1, i2⟩ := ht t et
  have htb : (t : Nat) < b := C.lt t (List.mem_of_getElem? et)
  have it0 := hit 0 t et
  show wpAny _ _ (Builtin.SmallTypes.ownedTupleIsFree (.ref (b + (m + 1) + 2)) >>= _) _ _ _
  refine wpAny_bind (free_cases hz hv fun fr h₀ f₀ hz₀ hs₀ => ?_)
  obtain ⟨hp, g, d, tk, oss⟩ := s
  replace hs₀ : Heap.SameBut (b + (m + 1) + 2) hp h₀ := hs₀
  have i1₀ : h₀.IsTuple t items := i1.extBut hs₀.extBut (fun q => absurd htb (by rw [show t = b + (m + 1) + 2 from q]; exact Nat.not_lt.mpr (by omega)))
  have it₀ : h₀.IsTupleIter (b + 0) t k := it0.extBut hs₀.extBut (by show b + 0 ≠ b + (m + 1) + 2; omega)
  cases fr with
  | true =>
    simp only [if_true]
    refine wpAny_bind (wpAny_rule ?_)
    refine wpAny_bind (wpAny_field hz₀ rfl (x := .ref (b + (m + 1) + 1)) rfl ?_)
    refine wpAny_bind (wpAny_setField_rec hz₀ (by simp) fun h₁ hz₁ hs₁ => ?_)
    replace hz₁ : IsZipV h₁ (b + (m + 1) + 2) (b + (m + 1)) (b + (m + 1) + 1) .ellipsis f₀ := hz₁
    replace hs₁ : Heap.SameBut (b + (m + 1) + 2) h₀ h₁ := hs₁
    refine wpAny_bind ?_
    simp only [ei, List.zipIdx_cons, List.forIn_cons]
    refine wpAny_bind (wpAny_bind (wpAny_onRaise ?_))
    show wpAny _ _ (Builtin.SmallTypes.nextOf (.ref (b + 0)) >>= _) _ _ ⟨h₁, g, d, tk, oss⟩
    refine wpAny_bind (RZ.nextOf_tuple_end (s := ⟨h₁, g, d, tk, oss⟩) hh (it₀.extBut hs₁.extBut (by show b + 0 ≠ b + (m + 1) + 2; omega)) (i1₀.extBut hs₁.extBut (fun q => absurd htb (by rw [show t = b + (m + 1) + 2 from q]; exact Nat.not_lt.mpr (by omega)))) i2 fun h₂ e hs₂ he => ?_)
    replace hs₂ : Heap.ExtBut (b + 0) h₁ h₂ := hs₂
    obtain ⟨oe, hoe, hce⟩ := he
    have hz₂ : IsZipV h₂ (b + (m + 1) + 2) (b + (m + 1)) (b + (m + 1) + 1) .ellipsis f₀ := hs₂ _ _ (by show b + (m + 1) + 2 ≠ b + 0; omega) hz₁
    have hez : e ≠ b + (m + 1) + 2 := fun x => by subst x; replace hoe : h₂.get? (b + (m + 1) + 2) = some oe := hoe; rw [hz₂] at hoe; cases hoe; simp at hce
    refine wpAny_setField_rec hz₂ (by simp) fun h₃ _ hs₃ => hE h₃ e (fun c o hc x => hs₃.extBut _ _ (by show c ≠ b + (m + 1) + 2; omega) (hs₂ _ _ (by show c ≠ b + 0; omega) (hs₁.extBut _ _ (by show c ≠ b + (m + 1) + 2; omega) (hs₀.extBut _ _ (by show c ≠ b + (m + 1) + 2; omega) x)))) ⟨oe, hs₃.extBut _ _ hez hoe, hce⟩
  | false =>
    simp only [Bool.false_eq_true, if_false]
    refine wpAny_bind ?_
    rw [← Array.forIn_toList]
    simp only [ei, List.forIn_cons]
    refine wpAny_bind (wpAny_bind (wpAny_holding ?_))
    show wpAny _ _ (Builtin.SmallTypes.nextOf (.ref (b + 0)) >>= _) _ _ ⟨h₀, g, d, tk, oss⟩
    refine wpAny_bind (RZ.nextOf_tuple_end (s := ⟨h₀, g, d, tk, oss⟩) hh it₀ i1₀ i2 fun h₂ e hs₂ he => ?_)
    exact hE h₂ e (fun c o hc x => hs₂ _ _ (by show c ≠ b + 0; omega) (hs₀.extBut _ _ (by show c ≠ b + (m + 1) + 2; omega) x)) he
theorem pyNext_item {b n : Nat} {ts : List Addr} {v : Value} {f : Bool} {os xs : List Value} {k : Nat} {Q : Option Value → Shared → Prop} (C : Zc b n ts)
    (hz : IsZipV s.heap (b + n + 2) (b + n) (b + n + 1) v f) (hv : v = .none ∨ ∃ T : Nat, v = rawInt T) (hTI : IsTupV s.heap (b + n) (iters b n)) (hTO : IsTupV s.heap (b + n + 1) os) (ho : os.length = n)
    (hit : ∀ (j : Nat) t, ts[j]? = some t → s.heap.IsTupleIter (b + j) t k) (hx : xs.length = n) (ht : ∀ (j : Nat) t x, ts[j]? = some t → xs[j]? = some x → ∃ items, s.heap.IsTuple t items ∧ items[k]? = some x)
    (hQ : ∀ h' v' f' os', IsZipV h' (b + n + 2) (b + n) (b + n + 1) v' f' → (v' = .none ∨ ∃ T : Nat, v' = rawInt T) → IsTupV h' (b + n + 1) os' → os'.length = n → (∀ (j : Nat) t, ts[j]? = some t → h'.IsTupleIter (b + j) t (k + 1)) →
      IsTupV h' s.heap.objs.size xs → h'.objs.size = s.heap.objs.size + 1 → (∀ (c : Nat) o, (c < b ∨ c = b + n ∨ b + n + 2 < c) → s.heap.get? c = some o → h'.get? c = some o) → Q (some (.ref s.heap.objs.size)) { s with heap := h' }) :
    wpAny (model prog w) A (pyNext (.ref (b + n + 2))) Q E s := by
  have hT : s.TypeIs (.ref (b + n + 2)) "zip" := ⟨_, hz, rfl⟩
  unfold pyNext
  exact wpAny_bind (wpAny_attempt (wpAny_callSpecial?_slot (name := Str.ofString "__next__") hT F.slot_zip_next
    (wpAny_call_entry F.slot_zip_next hT F.entry_zip_next
      (next_item C hz hv hTI hTO ho hit hx ht fun h' v' f' os' a1 a2 a3 a4 a5 a6 a7 a8 => wpAny_pure (hQ h' v' f' os' a1 a2 a3 a4 a5 a6 a7 a8)) (F.args_zip_next_1 _))))
theorem pyNext_end {b n : Nat} {ts : List Addr} {v : Value} {f : Bool} {os : List Value} {k : Nat} {Q : Option Value → Shared → Prop} (hh : A.handled = none) (C : Zc b n ts)
    (hz : IsZipV s.heap (b + n + 2) (b + n) (b + n + 1) v f) (hv : v = .none ∨ ∃ T : Nat, v = rawInt T) (hTI : IsTupV s.heap (b + n) (iters b n)) (hTO : IsTupV s.heap (b + n + 1) os) (ho : os.length = n)
    (hit : ∀ (j : Nat) t, ts[j]? = some t → s.heap.IsTupleIter (b + j) t k) (ht : ∀ t, ts[0]? = some t → ∃ items, s.heap.IsTuple t items ∧ items[k]? = none)
    (hQ : ∀ h', (∀ (c : Nat) o, (c < b ∨ c = b + n ∨ b + n + 2 < c) → s.heap.get? c = some o → h'.get? c = some o) → Q none { s with heap := h' }) :
    wpAny (model prog w) A (pyNext (.ref (b + n + 2))) Q E s := by
  have hT : s.TypeIs (.ref (b + n + 2)) "zip" := ⟨_, hz, rfl⟩
  unfold pyNext
  refine wpAny_bind (wpAny_attempt (wpAny_callSpecial?_slot (name := Str.ofString "__next__") hT F.slot_zip_next
    (wpAny_call_entry F.slot_zip_next hT F.entry_zip_next (next_end hh C hz hv hTI hTO ho hit ht fun h' e hk he => ?_) (F.args_zip_next_1 _))))
  obtain ⟨o, ho', hc⟩ := he
  refine wpAny_bind (wpAny_isInstance (T := "StopIteration") (b := true) ⟨o, ho', hc⟩ isSubtype_stop ?_)
  exact wpAny_pure (hQ _ hk)
/-- a column -/
def col (its : List (Array Value)) (j : Nat) : List Value := its.map fun a => a.getD j .none
/-- the zip at its k-th turn, the list S of what it gave -/
structure At (b n N : Nat) (ts : List Addr) (its : List (Array Value)) (S : Addr) (k : Nat) (Ts : List Addr) (h : Heap) : Prop where
  z : ∃ v f, IsZipV h (b + n + 2) (b + n) (b + n + 1) v f ∧ (v = .none ∨ ∃ T : Nat, v = rawInt T)
  TI : IsTupV h (b + n) (iters b n)
  TO : ∃ os, IsTupV h (b + n + 1) os ∧ os.length = n
  it : ∀ (j : Nat) t, ts[j]? = some t → h.IsTupleIter (b + j) t k
  tup : ∀ (j : Nat) t a, ts[j]? = some t → its[j]? = some a → h.IsTuple t a
  lst : ∃ c, h.get? S = some { cls := .type "list", dict := none, data := .seq (Ts.map Value.ref).toArray c, slots := #[] }
  len : Ts.length = k
  far : ∀ T ∈ Ts, b + n + 2 < (T : Nat) ∧ T ≠ S
  nd : Ts.Nodup
  cols : ∀ (j : Nat) T, Ts[j]? = some T → IsTupV h T (col its j)
structure Rw (n N : Nat) (ts : List Addr) (its : List (Array Value)) : Prop where
  len : its.length = n
  sz : ∀ a ∈ its, a.size = N
  few : N ≤ 1000
theorem ext_loop {R : Result → Shared → Prop} {b n N : Nat} {ts : List Addr} {its : List (Array Value)} {S : Addr} {res : Value} (hh : A.handled = none) (C : Zc b n ts) (W : Rw n N ts its) (hb : b + n + 2 < (S : Nat)) :
    ∀ (r k : Nat) (s : Shared) (Ts : List Addr), r + k = N → At b n N ts its S k Ts s.heap →
      (∀ (h' : Heap) (Ts' : List Addr) (c : Nat), Ts'.length = N → Ts'.Nodup → (∀ T ∈ Ts', b + n + 2 < (T : Nat) ∧ T ≠ S) → (∀ (j : Nat) T, Ts'[j]? = some T → IsTupV h' T (col its j)) → h'.get? S = some { cls := .type "list", dict := none, data := .seq (Ts'.map Value.ref).toArray c, slots := #[] } →
        (∀ (c : Nat) o, c < b → s.heap.get? c = some o → h'.get? c = some o) → R (.ok (.ret res)) { s with heap := h' }) →
      codeAny (model prog w) A (.builtin "list.extend.loop" ⟨[.ref S, .ref (b + n + 2), res], []⟩) R s := by
  intro r
  induction r with
  | zero =>
    intro k s Ts hk st hR
    have hkN : k = N := by omega
    subst hkN
    obtain ⟨v, f, hz, hv⟩ := st.z
    obtain ⟨os, hTO, ho⟩ := st.TO
    obtain ⟨cS, hS⟩ := st.lst
    refine codeAny_builtin F.entry_extend_loop ?_
    rw [Around.under_plainId F.plain_extend_loop _]
    show wpAny _ A.in1 (pyNext (.ref (b + n + 2)) >>= _) _ _ s
    refine wpAny_bind (pyNext_end hh C hz hv st.TI hTO ho st.it (fun t et => ?_) fun h' hk => ?_)
    · obtain ⟨a, ea⟩ : ∃ a, its[0]? = some a := ⟨its[0]'(by rw [W.len]; exact C.pos), List.getElem?_eq_getElem _⟩
      refine ⟨a, st.tup 0 t a et ea, ?_⟩
      have := W.sz a (List.mem_of_getElem? ea)
      rw [Array.getElem?_eq_none (by omega)]
    · exact wpAny_pure (hR h' Ts cS st.len st.nd st.far (fun j T e => hk _ _ (.inr (.inr (st.far T (List.mem_of_getElem? e)).1)) (st.cols j T e)) (hk _ _ (.inr (.inr hb)) hS) fun c o hc e => hk c o (.inl hc) e)
  | succ r ih =>
    intro k s Ts hk st hR
    have hkN : k < N := by omega
    obtain ⟨v, f, hz, hv⟩ := st.z
    obtain ⟨os, hTO, ho⟩ := st.TO
    obtain ⟨cS, hS⟩ := st.lst
    refine codeAny_builtin F.entry_extend_loop ?_
    rw [Around.under_plainId F.plain_extend_loop _]
    show wpAny _ A.in1 (pyNext (.ref (b + n + 2)) >>= _) _ _ s
    refine wpAny_bind (pyNext_item (xs := col its k) C hz hv st.TI hTO ho st.it (by rw [col, List.length_map]; exact W.len) (fun j t x et ex => ?_) fun h' v' f' os' a1 a2 a3 a4 a5 a6 a7 a8 => ?_)
    · rw [col, List.getElem?_map] at ex
      obtain ⟨a, ea, rfl⟩ := Option.map_eq_some_iff.mp ex
      have := W.sz a (List.mem_of_getElem? ea)
      refine ⟨a, st.tup j t a et ea, ?_⟩
      rw [Array.getD_eq_getD_getElem?, Array.getElem?_eq_getElem (by omega)]; rfl
    · have hSlt : (S : Nat) < s.heap.objs.size := Heap.lt_size hS
      have hS' := a8 _ _ (.inr (.inr hb)) hS
      show wpAny _ A.in1 (updateSeq S (·.push (.ref s.heap.objs.size)) >>= _) _ _ _
      refine wpAny_bind ?_
      have szT : (Ts.map Value.ref).toArray.size = k := by rw [List.size_toArray, List.length_map]; exact st.len
      have oth : ∀ (c : Nat) o, c ≠ S → h'.get? c = some o → (h'.update S (Obj.mapSeq (·.push (Value.ref s.heap.objs.size)))).get? c = some o := fun c o hc e => (Heap.get?_update_other _ _ (fun q => hc q.symm)).trans e
      have hnew : ∀ (c : Nat), c < s.heap.objs.size → c ≠ s.heap.objs.size := fun c h => Nat.ne_of_lt h
      refine wpAny_updateSeq (s := { s with heap := h' }) hS' rfl (wpAny_pure ⟨plainId_quiet F.plain_extend_loop _, ih (k + 1) _ (Ts ++ [s.heap.objs.size]) (by omega) ⟨⟨v', f', ?_, a2⟩, ?_, ⟨os', ?_, a4⟩, ?_, ?_, ?_, ?_, ?_, ?_, ?_⟩ fun h'' Ts' c' q1 q2 q3 q4 q5 q6 => ?_⟩) (by rw [szT, sizeLine_eq]; have := W.few; omega) (by show ((Ts.map Value.ref).toArray.push _).size ≤ _; rw [Array.size_push, szT, sizeLine_eq]; have := W.few; omega)
      · exact oth _ _ (by omega) a1
      · exact oth _ _ (by omega) (a8 _ _ (.inr (.inl rfl)) st.TI)
      · exact oth _ _ (by omega) a3
      · intro j t et
        have hj : j < n := by rw [← C.len]; exact (List.getElem?_eq_some_iff.mp et).1
        exact (a5 j t et).at fun o e => oth _ o (by omega) e
      · intro j t a et ea
        have htb : (t : Nat) < b := C.lt t (List.mem_of_getElem? et)
        obtain ⟨o, eo, ro⟩ := st.tup j t a et ea
        exact ⟨o, oth t o (fun q => absurd htb (by rw [q]; exact Nat.not_lt.mpr (by omega))) (a8 t o (.inl htb) eo), ro⟩
      · have := Heap.get?_update_self (Obj.mapSeq (·.push (Value.ref s.heap.objs.size))) hS' rfl
        have em : ((Ts ++ [s.heap.objs.size]).map Value.ref).toArray = (Ts.map Value.ref).toArray.push (Value.ref s.heap.objs.size) := by simp
        rw [em]
        exact ⟨_, this⟩
      · rw [List.length_append, st.len]; rfl
      · intro T hT
        rcases List.mem_append.mp hT with hT | hT
        · exact st.far T hT
        · rw [List.mem_singleton.mp hT]
          exact ⟨Nat.lt_trans hb hSlt, fun q => absurd hSlt (by rw [← q]; exact Nat.lt_irrefl _)⟩
      · refine List.nodup_append.mpr ⟨st.nd, by simp, fun x hx y hy => ?_⟩
        rw [List.mem_singleton.mp hy]
        obtain ⟨j, ej⟩ := List.mem_iff_getElem?.mp hx
        have := Heap.lt_size (st.cols j x ej)
        exact Nat.ne_of_lt this
      · intro j T ej
        by_cases hj : j < Ts.length
        · rw [List.getElem?_append_left hj] at ej
          exact oth T _ (st.far T (List.mem_of_getElem? ej)).2 (a8 T _ (.inr (.inr (st.far T (List.mem_of_getElem? ej)).1)) (st.cols j T ej))
        · have hjk : j = k := by
            have := (List.getElem?_eq_some_iff.mp ej).1
            rw [List.length_append, List.length_singleton] at this
            have := st.len
            omega
          subst hjk
          rw [List.getElem?_append_right (by rw [st.len]; exact Nat.le_refl _), st.len, Nat.sub_self] at ej
          cases ej
          exact oth _ _ (Nat.ne_of_gt hSlt) a6
      · exact hR h'' Ts' c' q1 q2 q3 q4 q5 fun c o hc e => q6 c o hc (oth c o (fun q => absurd hc (by rw [q]; exact Nat.not_lt.mpr (by omega))) (a8 c o (.inl hc) e))
theorem zip_no_len : typeLookup (.type "zip") "__len__" = pure none := by rw [typeLookup_type, builtinLookup_eq_fast]; kernel_rfl
theorem zip_no_hint : typeLookup (.type "zip") "__length_hint__" = pure none := by rw [typeLookup_type, builtinLookup_eq_fast]; kernel_rfl
theorem At.ext {b n N : Nat} {ts : List Addr} {its : List (Array Value)} {S : Addr} {Ts : List Addr} {k : Nat} {h h' : Heap} (C : Zc b n ts) (a : At b n N ts its S k Ts h) (hb : b + n + 2 < (S : Nat)) (k0 : ∀ (c : Nat) o, c ≠ S → h.get? c = some o → h'.get? c = some o)
    (hS : ∃ c, h'.get? S = some { cls := .type "list", dict := none, data := .seq (Ts.map Value.ref).toArray c, slots := #[] }) : At b n N ts its S k Ts h' := by
  obtain ⟨v, f, hz, hv⟩ := a.z
  obtain ⟨os, hTO, ho⟩ := a.TO
  refine ⟨⟨v, f, k0 _ _ (by omega) hz, hv⟩, k0 _ _ (by omega) a.TI, ⟨os, k0 _ _ (by omega) hTO, ho⟩, fun j t et => ?_, fun j t a' et ea => ?_, hS, a.len, a.far, a.nd, fun j T e => k0 T _ (a.far T (List.mem_of_getElem? e)).2 (a.cols j T e)⟩
  · have hj : j < n := by rw [← C.len]; exact (List.getElem?_eq_some_iff.mp et).1
    exact (a.it j t et).at fun o e => k0 _ o (by omega) e
  · have htb : (t : Nat) < b := C.lt t (List.mem_of_getElem? et)
    obtain ⟨o, eo, ro⟩ := a.tup j t a' et ea
    exact ⟨o, k0 t o (fun q => absurd htb (by rw [q]; exact Nat.not_lt.mpr (by omega))) eo, ro⟩
abbrev Done (R : Result → Shared → Prop) (b N : Nat) (its : List (Array Value)) (n : Nat) (S : Addr) (res : Value) (s : Shared) : Prop :=
  ∀ (h' : Heap) (Ts' : List Addr) (c : Nat), Ts'.length = N → Ts'.Nodup → (∀ T ∈ Ts', b + n + 2 < (T : Nat) ∧ T ≠ S) → (∀ (j : Nat) T, Ts'[j]? = some T → IsTupV h' T (col its j)) → h'.get? S = some { cls := .type "list", dict := none, data := .seq (Ts'.map Value.ref).toArray c, slots := #[] } →
        (∀ (c : Nat) o, c < b → s.heap.get? c = some o → h'.get? c = some o) → R (.ok (.ret res)) { s with heap := h' }
theorem extend_zip {R : Result → Shared → Prop} {b n N : Nat} {ts : List Addr} {its : List (Array Value)} {S : Addr} {res : Value} (hh : A.handled = none) (C : Zc b n ts) (W : Rw n N ts its) (hb : b + n + 2 < (S : Nat)) (hz0 : IsZip s.heap (b + n + 2) (b + n) (b + n + 1) .none)
    (st : At b n N ts its S 0 [] s.heap) (hR : Done R b N its n S res s) :
    wpAny (model prog w) A.in1 (Builtin.List.listExtendWith (.ref S) (.ref (b + n + 2)) res)
      (fun fin s' => match fin with | .done f => R (.ok f) s' | .again c' => c'.quiet = true ∧ codeAny (model prog w) A c' R s') (fun e s' => R (.error e) s') s := by
  have hSI : (S : Nat) ≠ b + n + 2 := Nat.ne_of_gt hb
  have hT : s.TypeIs (.ref (b + n + 2)) "zip" := ⟨_, hz0, rfl⟩
  unfold Builtin.List.listExtendWith
  refine wpAny_bind (wpAny_typeOf hT ?_)
  have h1 : Builtin.List.listSameRef (.ref S) (.ref (b + n + 2)) = false := by
    show ((S : Nat) == b + n + 2) = false
    simpa using hSI
  have h2 : (Value.type "zip" == Value.type "list") = false := by decide
  have h3 : (Value.type "zip" == Value.type "tuple") = false := by decide
  simp only [h1, h2, h3, Bool.or_false, Bool.false_eq_true, if_false]
  refine wpAny_bind (wpAny_pyIter_zip hz0 ?_)
  refine wpAny_bind (wpAny_holding ?_)
  unfold Builtin.List.listLengthHint
  refine wpAny_bind (wpAny_specialOf hT zip_no_len ?_)
  show wpAny _ A.in1 (specialOf (Value.ref (b + n + 2)) (Str.ofString "__length_hint__") >>= _) _ _ _
  refine wpAny_bind (wpAny_specialOf hT zip_no_hint ?_)
  refine wpAny_pure ?_
  show wpAny _ A.in1 (rule "list.extend.makes-room" >>= fun _ => Builtin.List.listTouch (.ref S) >>= fun _ =>
    again (.builtin "list.extend.loop" ⟨[.ref S, .ref (b + n + 2), res], []⟩)) _ _ _
  refine wpAny_bind (wpAny_rule ?_)
  refine wpAny_bind ?_
  show wpAny _ A.in1 (updateSeq S (·.push .none) >>= fun _ => updateSeq S (·.pop)) _ _ _
  obtain ⟨cS, hS⟩ := st.lst
  refine wpAny_bind (wpAny_updateSeq (_hz' := by show ((#[] : Array Value).push _).size ≤ _; rw [sizeLine_eq]; decide) (hz := by show (#[] : Array Value).size ≤ _; rw [sizeLine_eq]; decide) hS rfl ?_)
  have hS₂ := Heap.get?_update_self (Obj.mapSeq (·.push Value.none)) hS rfl
  refine wpAny_updateSeq (_hz' := by show (((#[] : Array Value).push Value.none).pop).size ≤ _; rw [sizeLine_eq]; decide) (hz := by show ((#[] : Array Value).push Value.none).size ≤ _; rw [sizeLine_eq]; decide) hS₂ rfl ?_
  have hS₃ := Heap.get?_update_self (Obj.mapSeq (·.pop)) hS₂ rfl
  have oth : ∀ (c : Nat) o, c ≠ S → s.heap.get? c = some o → ((s.heap.update S (Obj.mapSeq (·.push Value.none))).update S (Obj.mapSeq (·.pop))).get? c = some o :=
    fun c o hc e => (Heap.get?_update_other _ _ (fun q => hc q.symm)).trans ((Heap.get?_update_other _ _ (fun q => hc q.symm)).trans e)
  refine wpAny_pure ⟨plainId_quiet F.plain_extend_loop _, ext_loop hh C W hb N 0 _ [] rfl (st.ext C hb oth ⟨_, hS₃⟩) fun h' Ts' c q1 q2 q3 q4 q5 q6 => ?_⟩
  exact hR h' Ts' c q1 q2 q3 q4 q5 fun c o hc e => q6 c o hc (oth c o (fun q => absurd hc (by rw [q]; exact Nat.not_lt.mpr (by omega))) e)
theorem list_init_zip {R : Result → Shared → Prop} {b n N : Nat} {ts : List Addr} {its : List (Array Value)} {S : Addr} (hh : A.handled = none) (C : Zc b n ts) (W : Rw n N ts its) (hb : b + n + 2 < (S : Nat)) (hz0 : IsZip s.heap (b + n + 2) (b + n) (b + n + 1) .none)
    (st : At b n N ts its S 0 [] s.heap) (hS0 : s.heap.get? S = some { cls := .type "list", data := .seq #[] }) (hR : Done R b N its n S .none s) :
    wpAny (model prog w) A.in1 (Builtin.«list.__init__» ⟨[.ref S, .ref (b + n + 2)], []⟩)
      (fun fin s' => match fin with | .done f => R (.ok f) s' | .again c' => c'.quiet = true ∧ codeAny (model prog w) A c' R s') (fun e s' => R (.error e) s') s := by
  show wpAny _ A.in1 (do let old ← Builtin.List.listItems (.ref S); Builtin.List.listUpdate (.ref S) (fun _ => #[]); letGo old.toList.reverse; Builtin.List.listExtendWith (.ref S) (.ref (b + n + 2)) .none) _ _ s
  refine wpAny_bind ?_
  unfold Builtin.List.listItems
  refine wpAny_bind (wpAny_seqItems hS0 rfl (wpAny_pure ?_))
  show wpAny _ A.in1 (updateSeq S (fun _ => #[]) >>= fun _ => letGo (#[] : Array Value).toList.reverse >>= fun _ => Builtin.List.listExtendWith (.ref S) (.ref (b + n + 2)) .none) _ _ s
  refine wpAny_bind (wpAny_updateSeq hS0 rfl ?_)
  have hS₂ := Heap.get?_update_self (Obj.mapSeq (fun _ => (#[] : Array Value))) hS0 rfl
  have oth : ∀ (c : Nat) o, c ≠ S → s.heap.get? c = some o → (s.heap.update S (Obj.mapSeq (fun _ => (#[] : Array Value)))).get? c = some o :=
    fun c o hc e => (Heap.get?_update_other _ _ (fun q => hc q.symm)).trans e
  refine wpAny_bind (wpAny_letGo ?_)
  refine extend_zip (s := { s with heap := s.heap.update S (Obj.mapSeq (fun _ => (#[] : Array Value))) }) hh C W hb (oth _ _ (Nat.ne_of_lt hb) hz0) (st.ext C hb oth ⟨_, hS₂⟩) fun h' Ts' c q1 q2 q3 q4 q5 q6 => ?_
  exact hR h' Ts' c q1 q2 q3 q4 q5 fun c o hc e => q6 c o hc (oth c o (fun q => absurd hc (by rw [q]; exact Nat.not_lt.mpr (by omega))) e)
end
section
variable {prog : Program} {w : World} {A : Around} {E : Value → Shared → Prop} {s : Shared}
theorem call_list_zip {b n N : Nat} {ts : List Addr} {its : List (Array Value)} {Q : Value → Shared → Prop} (hh : A.handled = none) (C : Zc b n ts) (W : Rw n N ts its) (hz0 : IsZip s.heap (b + n + 2) (b + n) (b + n + 1) .none) (hTI : IsTupV s.heap (b + n) (iters b n))
    (hTO : ∃ os, IsTupV s.heap (b + n + 1) os ∧ os.length = n) (hit : ∀ (j : Nat) t, ts[j]? = some t → s.heap.IsTupleIter (b + j) t 0) (ht : ∀ (j : Nat) t a, ts[j]? = some t → its[j]? = some a → s.heap.IsTuple t a)
    (hQ : ∀ (h' : Heap) (Ts' : List Addr) (c : Nat), Ts'.length = N → Ts'.Nodup → (∀ T ∈ Ts', b + n + 2 < (T : Nat) ∧ T ≠ s.heap.objs.size) → (∀ (j : Nat) T, Ts'[j]? = some T → IsTupV h' T (col its j)) → h'.get? s.heap.objs.size = some { cls := .type "list", dict := none, data := .seq (Ts'.map Value.ref).toArray c, slots := #[] } →
        (∀ (c : Nat) o, c < b → s.heap.get? c = some o → h'.get? c = some o) → Q (.ref s.heap.objs.size) { s with heap := h' }) :
    wpAny (model prog w) A (call (.type "list") [.ref (b + n + 2)]) Q E s := by
  have hb : b + n + 2 < s.heap.objs.size := Heap.lt_size hz0
  refine callType_codes (Q₁ := fun obj s₁ => obj = .ref s.heap.objs.size ∧ s₁ = { s with heap := s.heap.push { cls := .type "list", data := .seq #[] } }) F.called_list (F.typeCall_list_1 _) F.entry_list_init
    (code_list_new _ ⟨rfl, rfl⟩) fun obj s₁ h₁ => ?_
  obtain ⟨rfl, rfl⟩ := h₁
  have hS : (s.heap.push { cls := .type "list", data := .seq #[] }).get? s.heap.objs.size = some { cls := .type "list", data := .seq #[] } := Heap.get?_push_size _ rfl
  have up : ∀ (c : Nat) o, s.heap.get? c = some o → (s.heap.push { cls := .type "list", data := .seq #[] }).get? c = some o := fun c o e => Heap.get?_push_of_some _ e
  obtain ⟨os, hTO, ho⟩ := hTO
  refine ⟨⟨_, hS, rfl⟩, F.args_list_init_2 _ _, list_init_zip (A := A.in1) (s := { s with heap := s.heap.push { cls := .type "list", data := .seq #[] } }) hh C W hb (up _ _ hz0)
    ⟨⟨.none, false, up _ _ hz0, .inl rfl⟩, up _ _ hTI, ⟨os, up _ _ hTO, ho⟩, fun j t e => (hit j t e).at fun o q => up _ o q, fun j t a e1 e2 => (ht j t a e1 e2).at fun o q => up t o q, ⟨_, hS⟩, rfl, (by simp), .nil, (by simp)⟩ hS fun h' Ts' c q1 q2 q3 q4 q5 q6 => ?_⟩
  exact ⟨rfl, hQ h' Ts' c q1 q2 q3 q4 q5 fun c o hc e => q6 c o hc (up c o e)⟩
end
/-! ### zip(a, b, c), zip(a, b, c, d) -/
abbrev gzT4 (h : Heap) (o1 o2 o3 o4 : Obj) : Heap := ((((h.push o1).push o2).push o3).push o4).push { cls := .type "tuple", data := .seq #[.ref h.objs.size, .ref (h.push o1).objs.size, .ref ((h.push o1).push o2).objs.size, .ref (((h.push o1).push o2).push o3).objs.size] }
abbrev gzO4 (h : Heap) (o1 o2 o3 o4 : Obj) : Heap := (gzT4 h o1 o2 o3 o4).push { cls := .type "tuple", data := .seq #[.none, .none, .none, .none] }
abbrev gzZ4 (h : Heap) (o1 o2 o3 o4 : Obj) : Heap := (gzO4 h o1 o2 o3 o4).push { cls := .type "zip", data := .fields #[.none, .bool false, .bool false, .ref ((((h.push o1).push o2).push o3).push o4).objs.size, .ref (gzT4 h o1 o2 o3 o4).objs.size] }
theorem typeCall_zip_4 (a b c d : Value) : checkTypeCall "zip" ⟨[a, b, c, d], []⟩ = pure () := by kernel_rfl
theorem newCall_zip_4 (a b c d : Value) : checkBuiltinCall "zip.__new__" ⟨[.type "zip", a, b, c, d], []⟩ = pure () := by kernel_rfl
theorem args_object_init_5 (obj a b c d : Value) : argsOk "object.__init__" ⟨[obj, a, b, c, d], []⟩ := by unfold argsOk; kernel_rfl
theorem meets_zip_newB4 {v1 v2 v3 v4 : Value} {o1 o2 o3 o4 : Obj} {H1 H2 H3 H4 : Heap → Prop} (B1 : Begins v1 o1 H1) (B2 : Begins v2 o2 H2) (B3 : Begins v3 o3 H3) (B4 : Begins v4 o4 H4) :
    Meets (Builtin.«zip.__new__» ⟨[.type "zip", v1, v2, v3, v4], []⟩) (fun _ R s => (H1 s.heap ∧ H2 s.heap ∧ H3 s.heap ∧ H4 s.heap) ∧
      R (.ok (.ret (.ref (gzO4 s.heap o1 o2 o3 o4).objs.size))) { s with heap := gzZ4 s.heap o1 o2 o3 o4 }) :=
  .of_wp fun prog w A R s h => by
    obtain ⟨hp, g, d, tk, os⟩ := s; obtain ⟨⟨h1, h2, h3, h4⟩, h⟩ := h
    have hsub := sub_zip
    have q1 : ∀ {A' : Around} {E : Value → Shared → Prop} {Q : Value → Shared → Prop}, Q (.ref hp.objs.size) ⟨(hp.push o1), g, d, tk, os⟩ → wpAny (model prog w) A' (pyIter v1) Q E ⟨hp, g, d, tk, os⟩ :=
      fun q => B1.iter prog w _ _ ⟨hp, g, d, tk, os⟩ _ (B1.keeps _ _ h1 fun b o' e => e) q
    have q2 : ∀ {A' : Around} {E : Value → Shared → Prop} {Q : Value → Shared → Prop}, Q (.ref (hp.push o1).objs.size) ⟨((hp.push o1).push o2), g, d, tk, os⟩ → wpAny (model prog w) A' (pyIter v2) Q E ⟨(hp.push o1), g, d, tk, os⟩ :=
      fun q => B2.iter prog w _ _ ⟨(hp.push o1), g, d, tk, os⟩ _ (B2.keeps _ _ h2 fun b o' e => (Heap.get?_push_of_some _ e)) q
    have q3 : ∀ {A' : Around} {E : Value → Shared → Prop} {Q : Value → Shared → Prop}, Q (.ref ((hp.push o1).push o2).objs.size) ⟨(((hp.push o1).push o2).push o3), g, d, tk, os⟩ → wpAny (model prog w) A' (pyIter v3) Q E ⟨((hp.push o1).push o2), g, d, tk, os⟩ :=
      fun q => B3.iter prog w _ _ ⟨((hp.push o1).push o2), g, d, tk, os⟩ _ (B3.keeps _ _ h3 fun b o' e => (Heap.get?_push_of_some _ (Heap.get?_push_of_some _ e))) q
    have q4 : ∀ {A' : Around} {E : Value → Shared → Prop} {Q : Value → Shared → Prop}, Q (.ref (((hp.push o1).push o2).push o3).objs.size) ⟨((((hp.push o1).push o2).push o3).push o4), g, d, tk, os⟩ → wpAny (model prog w) A' (pyIter v4) Q E ⟨(((hp.push o1).push o2).push o3), g, d, tk, os⟩ :=
      fun q => B4.iter prog w _ _ ⟨(((hp.push o1).push o2).push o3), g, d, tk, os⟩ _ (B4.keeps _ _ h4 fun b o' e => (Heap.get?_push_of_some _ (Heap.get?_push_of_some _ (Heap.get?_push_of_some _ e)))) q
    wp_walk using q1, q2, q3, q4
    exact ⟨_, rfl, h⟩
section
variable {prog : Program} {w : World} {A : Around} {E : Value → Shared → Prop} {s : Shared}
/-- a zip of tuples as it begins -/
structure Begun (b n : Nat) (ts : List Addr) (h h' : Heap) : Prop where
  z : IsZip h' (b + n + 2) (b + n) (b + n + 1) .none
  TI : IsTupV h' (b + n) (iters b n)
  TO : ∃ os, IsTupV h' (b + n + 1) os ∧ os.length = n
  it : ∀ (j : Nat) t, ts[j]? = some t → h'.IsTupleIter (b + j) t 0
  old : ∀ c o, h.get? c = some o → h'.get? c = some o
abbrev tio (t : Addr) : Obj := { cls := .type "tuple_iterator", data := .fields #[.ref t, .int 0 0] }
theorem call_zip3 {t1 t2 t3 : Addr} {a1 a2 a3 : Array Value} {Q : Value → Shared → Prop} (h1 : s.heap.IsTuple t1 a1) (h2 : s.heap.IsTuple t2 a2) (h3 : s.heap.IsTuple t3 a3)
    (h : ∀ h', Begun s.heap.objs.size 3 [t1, t2, t3] s.heap h' → Q (.ref (s.heap.objs.size + 3 + 2)) { s with heap := h' }) : wpAny (model prog w) A (call (.type "zip") [.ref t1, .ref t2, .ref t3]) Q E s := by
  refine zip_begins3 (begins_tuple t1 a1) (begins_tuple t2 a2) (begins_tuple t3 a3) h1 h2 h3 fun h' z TI TO g1 g2 g3 sz old => ?_
  refine h h' ⟨z, TI, ⟨[.none, .none, .none], TO, rfl⟩, fun j t e => ?_, old⟩
  match j, e with
  | 0, e => cases e; exact ⟨_, g1, rfl, rfl⟩
  | 1, e => cases e; exact ⟨_, g2, rfl, rfl⟩
  | 2, e => cases e; exact ⟨_, g3, rfl, rfl⟩
  | j + 3, e => simp at e
theorem call_zip4 {t1 t2 t3 t4 : Addr} {a1 a2 a3 a4 : Array Value} {Q : Value → Shared → Prop} (h1 : s.heap.IsTuple t1 a1) (h2 : s.heap.IsTuple t2 a2) (h3 : s.heap.IsTuple t3 a3) (h4 : s.heap.IsTuple t4 a4)
    (h : ∀ h', Begun s.heap.objs.size 4 [t1, t2, t3, t4] s.heap h' → Q (.ref (s.heap.objs.size + 4 + 2)) { s with heap := h' }) : wpAny (model prog w) A (call (.type "zip") [.ref t1, .ref t2, .ref t3, .ref t4]) Q E s := by
  refine callType_new F.called_zip (by decide) (typeCall_zip_4 _ _ _ _) (newCall_zip_4 _ _ _ _) (fun obj => args_object_init_5 obj _ _ _ _) F.entry_zip_new
    (meets_zip_newB4 (begins_tuple t1 a1) (begins_tuple t2 a2) (begins_tuple t3 a3) (begins_tuple t4 a4)) ⟨⟨h1, h2, h3, h4⟩, ?_⟩
  have z1 : (s.heap.push (tio t1)).objs.size = s.heap.objs.size + 1 := by rw [Heap.size_push]
  have z2 : ((s.heap.push (tio t1)).push (tio t2)).objs.size = s.heap.objs.size + 2 := by rw [Heap.size_push, z1]
  have z3 : (((s.heap.push (tio t1)).push (tio t2)).push (tio t3)).objs.size = s.heap.objs.size + 3 := by rw [Heap.size_push, z2]
  have z4 : ((((s.heap.push (tio t1)).push (tio t2)).push (tio t3)).push (tio t4)).objs.size = s.heap.objs.size + 4 := by rw [Heap.size_push, z3]
  have zT : (gzT4 s.heap (tio t1) (tio t2) (tio t3) (tio t4)).objs.size = s.heap.objs.size + 5 := by rw [Heap.size_push, z4]
  have zO : (gzO4 s.heap (tio t1) (tio t2) (tio t3) (tio t4)).objs.size = s.heap.objs.size + 6 := by rw [Heap.size_push, zT]
  have gZ : (gzZ4 s.heap (tio t1) (tio t2) (tio t3) (tio t4)).get? (gzO4 s.heap (tio t1) (tio t2) (tio t3) (tio t4)).objs.size = some { cls := .type "zip", data := .fields #[.none, .bool false, .bool false, .ref ((((s.heap.push (tio t1)).push (tio t2)).push (tio t3)).push (tio t4)).objs.size, .ref (gzT4 s.heap (tio t1) (tio t2) (tio t3) (tio t4)).objs.size] } := Heap.get?_push_size _ rfl
  have gO : (gzZ4 s.heap (tio t1) (tio t2) (tio t3) (tio t4)).get? (gzT4 s.heap (tio t1) (tio t2) (tio t3) (tio t4)).objs.size = some { cls := .type "tuple", data := .seq #[.none, .none, .none, .none] } := Heap.get?_push_of_some _ (Heap.get?_push_size _ rfl)
  have gT : (gzZ4 s.heap (tio t1) (tio t2) (tio t3) (tio t4)).get? ((((s.heap.push (tio t1)).push (tio t2)).push (tio t3)).push (tio t4)).objs.size = some { cls := .type "tuple", data := .seq #[.ref s.heap.objs.size, .ref (s.heap.push (tio t1)).objs.size, .ref ((s.heap.push (tio t1)).push (tio t2)).objs.size, .ref (((s.heap.push (tio t1)).push (tio t2)).push (tio t3)).objs.size] } := Heap.get?_push_of_some _ (Heap.get?_push_of_some _ (Heap.get?_push_size _ rfl))
  have g1 : (gzZ4 s.heap (tio t1) (tio t2) (tio t3) (tio t4)).get? s.heap.objs.size = some (tio t1) := Heap.get?_push_of_some _ (Heap.get?_push_of_some _ (Heap.get?_push_of_some _ (Heap.get?_push_of_some _ (Heap.get?_push_of_some _ (Heap.get?_push_of_some _ (Heap.get?_push_size _ rfl))))))
  have g2 : (gzZ4 s.heap (tio t1) (tio t2) (tio t3) (tio t4)).get? (s.heap.push (tio t1)).objs.size = some (tio t2) := Heap.get?_push_of_some _ (Heap.get?_push_of_some _ (Heap.get?_push_of_some _ (Heap.get?_push_of_some _ (Heap.get?_push_of_some _ (Heap.get?_push_size _ rfl)))))
  have g3 : (gzZ4 s.heap (tio t1) (tio t2) (tio t3) (tio t4)).get? ((s.heap.push (tio t1)).push (tio t2)).objs.size = some (tio t3) := Heap.get?_push_of_some _ (Heap.get?_push_of_some _ (Heap.get?_push_of_some _ (Heap.get?_push_of_some _ (Heap.get?_push_size _ rfl))))
  have g4 : (gzZ4 s.heap (tio t1) (tio t2) (tio t3) (tio t4)).get? (((s.heap.push (tio t1)).push (tio t2)).push (tio t3)).objs.size = some (tio t4) := Heap.get?_push_of_some _ (Heap.get?_push_of_some _ (Heap.get?_push_of_some _ (Heap.get?_push_size _ rfl)))
  rw [zO, zT, z4] at gZ
  rw [zT] at gO
  rw [z4, z3, z2, z1] at gT
  rw [z1] at g2
  rw [z2] at g3
  rw [z3] at g4
  show _ ∧ _
  rw [zO]
  refine ⟨⟨_, gZ, rfl⟩, h _ ⟨gZ, gT, ⟨[.none, .none, .none, .none], gO, rfl⟩, fun j t e => ?_, fun c o e => Heap.get?_push_of_some _ (Heap.get?_push_of_some _ (Heap.get?_push_of_some _ (Heap.get?_push_of_some _ (Heap.get?_push_of_some _ (Heap.get?_push_of_some _ (Heap.get?_push_of_some _ e))))))⟩⟩
  match j, e with
  | 0, e => cases e; exact ⟨_, g1, rfl, rfl⟩
  | 1, e => cases e; exact ⟨_, g2, rfl, rfl⟩
  | 2, e => cases e; exact ⟨_, g3, rfl, rfl⟩
  | 3, e => cases e; exact ⟨_, g4, rfl, rfl⟩
  | j + 4, e => simp at e
end
end ZN
set_option Elab.async false
set_option linter.all false
set_option maxRecDepth 100000
/-! Pd24: list(zip(*x)), x a tuple of three or four tuples of one length. -/
namespace L2
open PySem PySem.Spec PyProof.Rows
section
variable {X : Cx} {pins : List (Addr × Obj)} {σ : St} {H H' : Hp} {s : Shared} {h' : Heap} {t' : Nat}
/-- many new objects, tracked at once -/
theorem Inv.many (I : Inv X pins σ H s) (k : ∀ b o, s.heap.get? b = some o → h'.get? b = some o) (same : ∀ b o, H b = some o → H' b = some o) (few : ∀ b, b < s.heap.objs.size → H' b = H b)
    (new : ∀ b o, H' b = some o → H b = some o ∨ ObjOk X.prog X.w H' h' b o) : Inv X pins σ H' { s with heap := h', toks := t' } := by
  refine I.un ⟨fun b o q _ _ _ => k b o q, fun b o q _ _ _ => ⟨o.slots, k b o q⟩, fun b o q n _ => (few b (Heap.lt_size q)).trans n, fun b o q _ => ⟨o, k b o q⟩, fun b xs q => same _ _ q, fun b o u q => same _ _ q, fun b ps q => ⟨#[], by rw [same _ _ q]; simp⟩⟩ ?_
  intro b o e
  rcases new b o e with h | h
  · exact (I.hok b o h).stay (fun c v _ q => k c v q) (fun c q => same _ _ q) fun c xs q => same _ _ q
  · exact h
end
def updTs (H : Hp) : List Addr → List Obj → List (List V) → Hp
  | T :: Ts, o :: os, c :: cs => updTs (upd H T (.frz o (.tup c))) Ts os cs
  | _, _, _ => H
theorem updTs_out : ∀ {Ts : List Addr} {os : List Obj} {cs : List (List V)} {H : Hp} {b : Addr}, b ∉ Ts → updTs H Ts os cs b = H b
  | [], _, _, _, _, _ => by simp [updTs]
  | _ :: _, [], _, _, _, _ => by simp [updTs]
  | _ :: _, _ :: _, [], _, _, _ => by simp [updTs]
  | T :: Ts, o :: os, c :: cs, H, b, h => by
    simp only [List.mem_cons, not_or] at h
    rw [updTs, updTs_out h.2, upd_ne h.1]
theorem updTs_in {T : Addr} {o : Obj} {c : List V} (Ts : List Addr) : ∀ (os : List Obj) (cs : List (List V)) (H : Hp) (j : Nat), Ts.Nodup → Ts[j]? = some T → os[j]? = some o → cs[j]? = some c → updTs H Ts os cs T = some (.frz o (.tup c)) := by
  induction Ts with
  | nil => intro os cs H j nd e1 e0 e2; simp at e1
  | cons T0 Ts ih =>
    intro os cs H j nd e1 e0 e2
    cases os with
    | nil => simp at e0
    | cons o0 os =>
      cases cs with
      | nil => simp at e2
      | cons c0 cs =>
        cases j with
        | zero =>
          cases e1; cases e2; cases e0
          rw [updTs, updTs_out (List.nodup_cons.mp nd).1, upd_same]
        | succ j =>
          rw [updTs]
          exact ih os cs _ j (List.nodup_cons.mp nd).2 (by simpa using e1) (by simpa using e0) (by simpa using e2)
/-- rows and their values -/
def RowsV : List (List V) → List (List Value) → Prop
  | [], [] => True
  | r :: rs, u :: us => Vals r u ∧ RowsV rs us
  | _, _ => False
def colV (rows : List (List V)) (j : Nat) : List V := rows.map fun r => r.getD j .non
theorem vals_col : ∀ {rows : List (List V)} {us : List (List Value)} {j : Nat}, RowsV rows us → (∀ r ∈ rows, j < r.length) → Vals (colV rows j) (ZN.col (us.map List.toArray) j)
  | [], [], _, _, _ => .nil
  | r :: rs, u :: us, j, h, hl => by
    have hj := hl r (List.mem_cons_self ..)
    have hu : j < u.length := by have := h.1.length; omega
    refine .cons ?_ (vals_col h.2 fun r' h' => hl r' (List.mem_cons_of_mem _ h'))
    obtain ⟨v, ev, rv⟩ := h.1.get (List.getElem?_eq_getElem hj)
    have e1 : r.getD j .non = r[j] := by rw [List.getD_eq_getElem?_getD, List.getElem?_eq_getElem hj]; rfl
    have e2 : u.toArray.getD j .none = v := by rw [Array.getD_eq_getD_getElem?, List.getElem?_toArray, ev]; rfl
    show RelV (r.getD j .non) (u.toArray.getD j .none)
    rw [e1, e2]; exact rv
/-- what a star of tuples gives to zip, the columns in new tuples, these in a new list -/
def tLstZip (K : PySem.W.Frag) (te : TE) : TE := fun σ H Q => te σ H fun x H1 => ∃ (a : Addr) (ps : List Addr) (rows : List (List V)) (N : Nat), x = V.ref a ∧ (SqT K H1 a (ps.map V.ref) ∨ SqL K H1 a (ps.map V.ref)) ∧ (ps.length = 3 ∨ ps.length = 4) ∧ rows.length = ps.length ∧ N ≤ 1000 ∧ (∀ r ∈ rows, r.length = N) ∧
  (∀ (j : Nat) (p : Addr) r, ps[j]? = some p → rows[j]? = some r → SqT K H1 p r) ∧
  ∀ (Ts : List Addr) (os : List Obj) (S : Addr), Ts.length = N → os.length = N → (∀ o ∈ os, o.dict = none) → (Ts ++ [S]).Nodup → (∀ b ∈ Ts ++ [S], H1 b = none) → Q (.ref S) (upd (updTs H1 Ts os ((List.range N).map (colV rows))) S (.lst (Ts.map V.ref)))
theorem rowsV_of {X : Cx} {pins : List (Addr × Obj)} {σ : St} {H : Hp} {s : Shared} (I : Inv X pins σ H s) : ∀ {ps : List Addr} {rows : List (List V)}, rows.length = ps.length → (∀ (j : Nat) (p : Addr) r, ps[j]? = some p → rows[j]? = some r → SqT X.K H p r) →
    ∃ us : List (List Value), RowsV rows us ∧ us.length = ps.length ∧ ∀ (j : Nat) (p : Addr) u, ps[j]? = some p → us[j]? = some u → IsTup s.heap p u.toArray
  | [], [], _, _ => ⟨[], trivial, rfl, fun j p u e => by simp at e⟩
  | p :: ps, r :: rows, hl, h => by
    obtain ⟨us, h1, h2, h3⟩ := rowsV_of I (ps := ps) (rows := rows) (by simpa using hl) fun j p' r' e1 e2 => h (j + 1) p' r' (by simpa using e1) (by simpa using e2)
    obtain ⟨u, rv, pu, _⟩ := I.tuple (h 0 p r rfl rfl)
    refine ⟨u :: us, ⟨rv, h1⟩, by simp [h2], fun j p' u' e1 e2 => ?_⟩
    match j, e1, e2 with
    | 0, e1, e2 => cases e1; cases e2; exact pu
    | j + 1, e1, e2 => exact h3 j p' u' (by simpa using e1) (by simpa using e2)
theorem looks_type {M : Model} (h : Heap) (T : String) : PySem.W.Looks M h (keeperOf (.type T)) .machine := PySem.W.Looks.of_pure rfl
theorem refs_of_valsZ : ∀ {ps : List Addr} {us : List Value}, Vals (ps.map V.ref) us → us = ps.map Value.ref
  | [], _, h => by cases h; rfl
  | p :: ps, _, h => by
    cases h with
    | cons r t => cases r; rw [refs_of_valsZ t]; rfl
section
variable {X : Cx} {e : Expr} {te : TE} {p p2 sp pos pos2 : Pos}
theorem call_zipN {prog : Program} {w : World} {A : Around} {E : Value → Shared → Prop} {s : Shared} {ps : List Addr} {us : List (List Value)} {Q : Value → Shared → Prop} (hn : ps.length = 3 ∨ ps.length = 4) (hu : us.length = ps.length)
    (ht : ∀ (j : Nat) (p : Addr) u, ps[j]? = some p → us[j]? = some u → IsTup s.heap p u.toArray)
    (h : ∀ h', ZN.Begun s.heap.objs.size ps.length ps s.heap h' → Q (.ref (s.heap.objs.size + ps.length + 2)) { s with heap := h' }) : wpAny (model prog w) A (call (.type "zip") (ps.map Value.ref)) Q E s := by
  rcases hn with hn | hn
  · match ps, hn, us, hu with
    | [p1, p2, p3], _, [u1, u2, u3], _ =>
      exact ZN.call_zip3 (show s.heap.IsTuple p1 u1.toArray from ht 0 _ _ rfl rfl) (show s.heap.IsTuple p2 u2.toArray from ht 1 _ _ rfl rfl) (show s.heap.IsTuple p3 u3.toArray from ht 2 _ _ rfl rfl) h
  · match ps, hn, us, hu with
    | [p1, p2, p3, p4], _, [u1, u2, u3, u4], _ =>
      exact ZN.call_zip4 (show s.heap.IsTuple p1 u1.toArray from ht 0 _ _ rfl rfl) (show s.heap.IsTuple p2 u2.toArray from ht 1 _ _ rfl rfl) (show s.heap.IsTuple p3 u3.toArray from ht 2 _ _ rfl rfl) (show s.heap.IsTuple p4 u4.toArray from ht 3 _ _ rfl rfl) h
theorem pe_lstZip (hc : X.calm = true) (hg : Gl X "list") (hm : X.mg "list" = none) (hg2 : Gl X "zip") (hm2 : X.mg "zip" = none) (he : PE X e te)
    (na : starEach [.Call (.Name "zip" p2) [.Starred e sp] [] pos2] X.env = (false, eval (.Call (.Name "zip" p2) [.Starred e sp] [] pos2) X.env) :: starEach [] X.env := by rfl) (na2 : starEach [.Starred e sp] X.env = [(true, eval e X.env)] := by rfl) :
    PE X (.Call (.Name "list" p) [.Call (.Name "zip" p2) [.Starred e sp] [] pos2] [] pos) (tLstZip X.K te) := by
  refine ⟨fun pins s σ H Q I h => ?_⟩
  refine Call_ (ld_blt I hg hm boot_list (PyProof.Rows.callWith_type1 (args_cons ?_ na) na))
  refine Call_ (ld_blt I hg2 hm2 PyProof.Rows.boot_zip ?_)
  rw [na2]
  refine PySem.W.ks_call (P := fun _ => True) rfl (fun hh _ => ⟨.machine, .inr (.inl rfl), looks_type hh _⟩) (PySem.W.ks_lone (thn (he.run pins s σ H _ I h) fun v s1 ⟨y, H1, I1, ry, a, ps, rows, N, ey, hxs, hn, hrl, hN, hrN, hrow, q⟩ => ?_))
  subst ey
  obtain rfl : v = Value.ref a := ry
  refine StX.star_any I1 hxs fun us s2 I2 rv => ⟨trivial, ?_⟩
  rw [refs_of_valsZ rv]
  obtain ⟨uu, RV, hul, htup⟩ := rowsV_of I2 hrl hrow
  show wpAny _ _ (call (.type "zip") (ps.map Value.ref)) _ _ _
  refine call_zipN hn hul htup fun h' B => args_nil ?_
  have hh := I2.ok.hd hc
  have hpt : ∀ p ∈ ps, (p : Nat) < s2.heap.objs.size := fun p hp => by
    obtain ⟨j, ej⟩ := List.mem_iff_getElem?.mp hp
    have hj : j < uu.length := by rw [hul]; exact (List.getElem?_eq_some_iff.mp ej).1
    obtain ⟨o, ho, _⟩ := htup j p uu[j] ej (List.getElem?_eq_getElem hj)
    exact Heap.lt_size ho
  have huN : ∀ (us : List (List Value)) (rs : List (List V)), RowsV rs us → (∀ r ∈ rs, r.length = N) → ∀ u ∈ us, u.length = N := by
    intro us
    induction us with
    | nil => intro rs _ _ u hu; cases hu
    | cons u us ih =>
      intro rs h1 h2 u' hu'
      cases rs with
      | nil => exact h1.elim
      | cons r rs =>
        rcases List.mem_cons.mp hu' with rfl | hu'
        · rw [← h1.1.length]; exact h2 r (List.mem_cons_self ..)
        · exact ih rs h1.2 (fun r hr => h2 r (List.mem_cons_of_mem _ hr)) u' hu'
  have C : ZN.Zc s2.heap.objs.size ps.length ps := ⟨by omega, by omega, rfl, hpt⟩
  have W : ZN.Rw ps.length N ps (uu.map List.toArray) := ⟨by rw [List.length_map]; exact hul, fun a ha => by
    obtain ⟨u, hu, rfl⟩ := List.mem_map.mp ha
    rw [List.size_toArray]; exact huN uu rows RV hrN u hu, hN⟩
  refine ZN.call_list_zip (s := { s2 with heap := h' }) hh C W B.z B.TI B.TO B.it (fun j t a et ea => ?_) fun h'' Ts c q1 q2 q3 q4 q5 q6 => ?_
  · rw [List.getElem?_map] at ea
    obtain ⟨u, eu, rfl⟩ := Option.map_eq_some_iff.mp ea
    obtain ⟨o, ho, r⟩ := htup j t u et eu
    exact ⟨o, B.old _ _ ho, r⟩
  · have hS : s2.heap.objs.size < h'.objs.size := by
      have q : s2.heap.objs.size + ps.length + 2 < h'.objs.size := Heap.lt_size B.z
      omega
    have far : ∀ b ∈ Ts ++ [h'.objs.size], s2.heap.objs.size ≤ (b : Nat) := fun b hb => by
      rcases List.mem_append.mp hb with hb | hb
      · have := (q3 b hb).1
        exact Nat.le_trans (show s2.heap.objs.size ≤ s2.heap.objs.size + ps.length + 2 by omega) (Nat.le_of_lt this)
      · rw [List.mem_singleton.mp hb]; exact Nat.le_of_lt hS
    have nd : (Ts ++ [h'.objs.size]).Nodup := List.nodup_append.mpr ⟨q2, by simp, fun x hx y hy => by rw [List.mem_singleton.mp hy]; exact (q3 x hx).2⟩
    have nS : h'.objs.size ∉ Ts := fun hm => (q3 _ hm).2 rfl
    have fresh : ∀ b ∈ Ts ++ [h'.objs.size], H1 b = none := fun b hb => I2.hok.fresh (far b hb)
    let os : List Obj := (List.range N).map fun j => { cls := .type "tuple", data := .seq (ZN.col (uu.map List.toArray) j).toArray }
    refine ⟨.ref h'.objs.size, _, Inv.many (s := s2) (h' := h'') (t' := s2.toks) (H' := upd (updTs H1 Ts os ((List.range N).map (colV rows))) h'.objs.size (.lst (Ts.map V.ref))) I2 (fun b o e => q6 b o (Heap.lt_size e) (B.old b o e)) (fun b o e => ?_) (fun b hb => ?_) (fun b o e => ?_), rfl, q Ts os _ q1 (by show ((List.range N).map _).length = N; simp) (fun o ho => by obtain ⟨j, _, rfl⟩ := List.mem_map.mp ho; rfl) nd fresh⟩
    · have nb : b ∉ Ts ++ [h'.objs.size] := fun hm => by rw [fresh b hm] at e; cases e
      simp only [List.mem_append, List.mem_singleton, not_or] at nb
      rw [upd_ne nb.2, updTs_out nb.1]; exact e
    · have nb : b ∉ Ts ++ [h'.objs.size] := fun hm => absurd hb (Nat.not_lt.mpr (far b hm))
      simp only [List.mem_append, List.mem_singleton, not_or] at nb
      rw [upd_ne nb.2, updTs_out nb.1]
    · by_cases hbS : b = h'.objs.size
      · subst hbS
        rw [upd_same] at e
        cases e
        right
        exact ⟨by rw [List.length_map, q1, sizeLine_eq]; omega, Ts.map Value.ref, c, vals_refs Ts, q5⟩
      · rw [upd_ne hbS] at e
        by_cases hbT : b ∈ Ts
        · right
          obtain ⟨j, ej⟩ := List.mem_iff_getElem?.mp hbT
          have hj : j < N := by rw [← q1]; exact (List.getElem?_eq_some_iff.mp ej).1
          have ec : ((List.range N).map (colV rows))[j]? = some (colV rows j) := by simp [hj]
          have eo : os[j]? = some { cls := .type "tuple", data := .seq (ZN.col (uu.map List.toArray) j).toArray } := by show ((List.range N).map _)[j]? = _; simp [hj]
          rw [updTs_in Ts os _ _ j q2 ej eo ec] at e
          cases e
          have := q4 j b ej
          exact ⟨this, by rw [colV, List.length_map, sizeLine_eq]; omega, _, vals_col RV (fun r hr => by rw [hrN r hr]; exact hj), ⟨_, this, rfl, _, rfl⟩⟩
        · left
          rw [updTs_out hbT] at e; exact e
end
end L2
namespace Pd
open PySem PySem.Spec PyProof.Rows L2
section
variable {T : Tb} {n : Nat} {X : Cx} {e : Expr} {fe : FE} {p p2 sp pos pos2 : Pos}
def tups? : List D → Option (List (List D))
  | [] => some []
  | .tup xs :: r => match tups? r with | some rs => some (xs :: rs) | none => none
  | _ :: _ => none
theorem tups?_map : ∀ {ds : List D} {rs : List (List D)}, tups? ds = some rs → ds = rs.map D.tup
  | [], _, h => by cases h; rfl
  | d :: r, rs, h => by
    cases d with
    | tup xs =>
      simp only [tups?] at h
      split at h
      case h_2 => cases h
      case h_1 rs' e1 => cases h; rw [tups?_map e1]; rfl
    | _ => simp [tups?] at h
def colD (rows : List (List D)) (j : Nat) : D := .tup (rows.map fun r => r.getD j .non)
/-- list(zip(*x)) -/
def fLstZip (f : FE) : FE := fun env c => match f env c with
  | some (.tup ds, c1) => match tups? ds with
    | some (r :: rs) => if (decide ((r :: rs).length = 3) || decide ((r :: rs).length = 4)) && decide (r.length ≤ 1000) && (r :: rs).all (fun x => decide (x.length = r.length)) then some (.lst ((List.range r.length).map (colD (r :: rs))), c1) else none
    | _ => none
  | _ => none
theorem RpL.tups {G : Hp} {al : List Addr} : ∀ {rs : List (List D)} {vs : List V}, RpL T G al (rs.map D.tup) vs → ∃ (ps : List Addr) (rows : List (List V)), vs = ps.map V.ref ∧ ps.length = rs.length ∧ rows.length = rs.length ∧ (∀ (j : Nat) (p : Addr) r, ps[j]? = some p → rows[j]? = some r → SqT T.K G p r) ∧
    ∀ (j : Nat) (d : List D) r, rs[j]? = some d → rows[j]? = some r → RpL T G al d r
  | [], vs, h => by
    cases h
    exact ⟨[], [], rfl, rfl, rfl, fun j p r e => by simp at e, fun j p r e => by simp at e⟩
  | d :: rs, vs, h => by
    cases h with
    | cons r1 r2 =>
      obtain ⟨a, ws, rfl, hq, rl⟩ := r1.tup_inv
      obtain ⟨ps, rows, rfl, l1, l2, h1, h2⟩ := RpL.tups r2
      refine ⟨a :: ps, ws :: rows, rfl, by simp [l1], by simp [l2], fun j p r e1 e2 => ?_, fun j p r e1 e2 => ?_⟩
      · match j, e1, e2 with
        | 0, e1, e2 => cases e1; cases e2; exact hq
        | j + 1, e1, e2 => exact h1 j p r (by simpa using e1) (by simpa using e2)
      · match j, e1, e2 with
        | 0, e1, e2 => cases e1; cases e2; exact rl
        | j + 1, e1, e2 => exact h2 j p r (by simpa using e1) (by simpa using e2)
theorem rpl_col {G : Hp} {al : List Addr} {k : Nat} : ∀ {rs : List (List D)} {rows : List (List V)}, rows.length = rs.length → (∀ (j : Nat) (d : List D) r, rs[j]? = some d → rows[j]? = some r → RpL T G al d r) → (∀ d ∈ rs, k < d.length) → RpL T G al (rs.map fun r => r.getD k .non) (colV rows k)
  | [], [], _, _, _ => .nil
  | d :: rs, r :: rows, hl, h, hk => by
    have r0 := h 0 d r rfl rfl
    have hd := hk d (List.mem_cons_self ..)
    obtain ⟨v, ev, rv⟩ := r0.get (List.getElem?_eq_getElem hd)
    refine .cons ?_ (rpl_col (by simpa using hl) (fun j d' r' e1 e2 => h (j + 1) d' r' (by simpa using e1) (by simpa using e2)) fun d' h' => hk d' (List.mem_cons_of_mem _ h'))
    have e1 : d.getD k .non = d[k] := by rw [List.getD_eq_getElem?_getD, List.getElem?_eq_getElem hd]; rfl
    have e2 : r.getD k .non = v := by rw [List.getD_eq_getElem?_getD, ev]; rfl
    show Rp T G al (d.getD k .non) (r.getD k .non)
    rw [e1, e2]; exact rv
/-- new tuples, one behind the other -/
theorem stp_tups {al : List Addr} {c : Cs} (Ts : List Addr) : ∀ (os : List Obj) (dss : List (List D)) (css : List (List V)) (G H : Hp), HSt T G al c H → Ts.length = dss.length → Ts.length = os.length → Ts.length = css.length → (∀ o ∈ os, o.dict = none) → Ts.Nodup → (∀ b ∈ Ts, H b = none) → (∀ (j : Nat) ds cs, dss[j]? = some ds → css[j]? = some cs → RpL T G al ds cs) →
    ∃ G', Stp G al H G' al (updTs H Ts os css) ∧ HSt T G' al c (updTs H Ts os css) ∧ RpL T G' al (dss.map D.tup) (Ts.map V.ref) := by
  induction Ts with
  | nil =>
    intro os dss css G H hs l1 l0 l2 ho nd fr h
    cases dss with
    | cons _ _ => simp at l1
    | nil => exact ⟨G, .refl _ _ _, hs, .nil⟩
  | cons t Ts ih =>
    intro os dss css G H hs l1 l0 l2 ho nd fr h
    cases os with
    | nil => simp at l0
    | cons o os =>
      cases dss with
      | nil => simp at l1
      | cons ds dss =>
        cases css with
        | nil => simp at l2
        | cons cs css =>
          have ht := fr t (List.mem_cons_self ..)
          have r0 := h 0 ds cs rfl rfl
          have hs1 : HSt T (upd G t (.frz o (.tup cs))) al c (upd H t (.frz o (.tup cs))) := hs.freeze ht
          have s1 : Stp G al H (upd G t (.frz o (.tup cs))) al (upd H t (.frz o (.tup cs))) := .freeze hs ht
          have nd' := List.nodup_cons.mp nd
          obtain ⟨G', s2, hs2, rl⟩ := ih os dss css _ _ hs1 (by simpa using l1) (by simpa using l0) (by simpa using l2) (fun o' h' => ho o' (List.mem_cons_of_mem _ h')) nd'.2 (fun b hb => by
            have : b ≠ t := fun q => nd'.1 (q ▸ hb)
            rw [upd_ne this]; exact fr b (List.mem_cons_of_mem _ hb)) (fun j d' c' e1 e2 => (h (j + 1) d' c' (by simpa using e1) (by simpa using e2)).mono s1.le)
          exact ⟨G', s1.trans s2, hs2, .cons (.tup (.inl (.inr ⟨o, s2.le.g _ _ upd_same⟩)) (r0.mono (s1.trans s2).le) (.inr ⟨o, _, s2.le.g _ _ upd_same, ho o (List.mem_cons_self ..)⟩)) rl⟩
theorem tn_lstZip (h : TrE T n X e fe) (hm : X.mg "list" = none) (hm2 : X.mg "zip" = none) (hg : Gl X "list" := by rfl) (hg2 : Gl X "zip" := by rfl)
    (na : starEach [.Call (.Name "zip" p2) [.Starred e sp] [] pos2] X.env = (false, eval (.Call (.Name "zip" p2) [.Starred e sp] [] pos2) X.env) :: starEach [] X.env := by rfl) (na2 : starEach [.Starred e sp] X.env = [(true, eval e X.env)] := by rfl) :
    TrN T n X (.Call (.Name "list" p) [.Call (.Name "zip" p2) [.Starred e sp] [] pos2] [] pos) (fLstZip fe) := by
  refine ⟨fun t G al c env σ H Q d c' hs he hf q => ofE (pe_lstZip t.calm hg hm hg2 hm2 (peS e) na na2) ?_⟩
  unfold fLstZip at hf
  split at hf
  case h_2 => cases hf
  case h_1 ds c1 e1 =>
    split at hf
    case h_2 => cases hf
    case h_1 r0 rs e2 =>
      split at hf
      case isFalse => cases hf
      case isTrue hl =>
        cases hf
        simp only [Bool.and_eq_true, Bool.or_eq_true, decide_eq_true_eq, List.all_eq_true] at hl
        obtain ⟨⟨h34, hN⟩, hall⟩ := hl
        refine h.run t G al c env σ H _ _ _ hs he e1 fun G1 al1 H1 v l hs1 r => ?_
        obtain ⟨a, vs, rfl, hq, rl⟩ := r.tup_inv
        rw [tups?_map e2] at rl
        obtain ⟨ps, rows, rfl, l1, l2, q1, q2⟩ := RpL.tups rl
        have hrl : ∀ r ∈ rows, r.length = r0.length := fun r hr => by
          obtain ⟨j, ej⟩ := List.mem_iff_getElem?.mp hr
          have hj : j < (r0 :: rs).length := by rw [← l2]; exact (List.getElem?_eq_some_iff.mp ej).1
          have ed := List.getElem?_eq_getElem hj
          have := (q2 j _ _ ed ej).length
          rw [← this]; exact hall _ (List.getElem_mem hj)
        have hK : X.K = T.K := t.K
        refine ⟨a, ps, rows, r0.length, rfl, .inl (by rw [hK]; exact sqT_le hs1.ex hq), by rw [l1]; exact h34, by rw [l1, l2], hN, hrl, fun j p r e1 e2 => by rw [hK]; exact sqT_le hs1.ex (q1 j p r e1 e2), fun Ts os S lT lO dO nd fr => ?_⟩
        have nd' := List.nodup_append.mp nd
        have nS : S ∉ Ts := fun hm => nd'.2.2 S hm S (by simp) rfl
        obtain ⟨G2, s2, hs2, rl2⟩ := stp_tups Ts os ((List.range r0.length).map fun j => (r0 :: rs).map fun r => r.getD j .non) ((List.range r0.length).map (colV rows)) _ _ hs1 (by simpa using lT) (by rw [lT, lO]) (by simpa using lT) dO nd'.1 (fun b hb => fr b (List.mem_append_left _ hb)) (fun j d' c' e1 e2 => by
          rw [List.getElem?_map] at e1 e2
          obtain ⟨j1, f1, rfl⟩ := Option.map_eq_some_iff.mp e1
          obtain ⟨j2, f2, rfl⟩ := Option.map_eq_some_iff.mp e2
          rw [f1] at f2
          cases f2
          have hj : j1 < r0.length := by
            have := List.mem_of_getElem? f1
            simpa using this
          exact rpl_col l2 q2 fun d hd => by rw [hall d hd]; exact hj)
        have hS1 : H1 S = none := fr S (by simp)
        have hS2 : updTs H1 Ts os ((List.range r0.length).map (colV rows)) S = none := by rw [updTs_out nS]; exact hS1
        have rl3 : RpL T G2 al1 ((List.range r0.length).map (colD (r0 :: rs))) (Ts.map V.ref) := by
          have e : ((List.range r0.length).map fun j => (r0 :: rs).map fun r => r.getD j .non).map D.tup = (List.range r0.length).map (colD (r0 :: rs)) := by rw [List.map_map]; rfl
          rw [← e]; exact rl2
        exact q G2 al1 _ S _ ((l.trans s2).trans (.junk hS2)) (hs2.junk hS2) (hs2.free hS2) (hs2.apart hS2) (fresh_before hs hs1 l hS1) upd_same (.lst rl3)
end
end Pd
set_option Elab.async false
set_option linter.all false
set_option maxRecDepth 100000
/-! Pd25: sorted(set(xs)), xs a long list of tuples of ints, few of them distinct. (The two proofs of the set's loop are TupSets' own, turned to a bound by the distinct items.) -/
namespace L2
open PySem PySem.Spec PyProof.Rows
theorem nodup_len {α : Type} [DecidableEq α] : ∀ {l D : List α}, l.Nodup → (∀ x ∈ l, x ∈ D) → l.length ≤ D.length
  | [], _, _, _ => Nat.zero_le _
  | x :: l, D, hn, h => by
    have hn' := List.nodup_cons.mp hn
    have ih := nodup_len (l := l) (D := D.erase x) hn'.2 fun y hy => (List.mem_erase_of_ne (fun e => hn'.1 (by rw [← e]; exact hy))).mpr (h y (List.mem_cons_of_mem _ hy))
    have hm := h x (List.mem_cons_self ..)
    rw [List.length_erase_of_mem hm] at ih
    have := List.length_pos_of_mem hm
    rw [List.length_cons]; omega
theorem got_few {ks L : List (Addr × List Int)} {i : Nat} (hfew : ∃ Dl : List (List Int), (∀ p ∈ ks, p.2 ∈ Dl) ∧ Dl.length < 63) (g : Got ks i L) (nd : (L.map (·.2)).Nodup) : L.length + 1 < 64 := by
  obtain ⟨Dl, h1, h2⟩ := hfew
  have := nodup_len nd (D := Dl) fun x hx => by
    obtain ⟨p, hp, rfl⟩ := List.mem_map.mp hx
    exact h1 p (List.mem_of_mem_take (g.sub p hp))
  rw [List.length_map] at this
  omega
section
variable {P : Program} {w : World} {A : Around} {E : Value → Shared → Prop} {s : Shared}
/-- set.update's loop, few distinct items -/
theorem set_update_many {I : Addr} {fp wr : List Addr} {G : Array GenState → Array GenState → Prop} {n : Nat} {Pv : Nat → Value → Prop} {St : Nat → Shared → Prop} {R : Result → Shared → Prop}
    (W : WalksS P w A.in1 I fp wr G n Pv St) (S : Addr) (hSf : S ∉ fp) (ks : List (Addr × List Int)) (hn : n = ks.length) (hfew : ∃ Dl : List (List Int), (∀ p ∈ ks, p.2 ∈ Dl) ∧ Dl.length < 63) (hval : ∀ i v, Pv i v → ∃ p, ks[i]? = some p ∧ v = .ref p.1)
    (h0 : Heap) (hk : ∀ p ∈ ks, IsT P w h0 p.2 p.1) (hS0 : h0.get? S = none) (hw0 : ∀ b ∈ wr, h0.get? b = none) (hu : A.in1.units < cLine) :
    ∀ (k i : Nat) (s : Shared), n - i = k → i ≤ n → St i s → (∀ b o, h0.get? b = some o → s.heap.get? b = some o) → (∃ L es ep t, SetTR P w s.heap S L es ep t ∧ Got ks i L) →
      (∀ s' L es ep t, Moved (S :: wr) G s s' → SetTR P w s'.heap S L es ep t → Got ks n L → (∀ b o, h0.get? b = some o → s'.heap.get? b = some o) → R (.ok (.ret .none)) s') →
      codeAny (model P w) A (.builtin "set.update.loop" ⟨[.ref S, .ref I], []⟩) R s := by
  have hSw : S ∉ wr := fun h => hSf (W.sub _ h)
  have hsub : ∀ b ∈ wr, b ∈ S :: wr := fun b hb => List.mem_cons_of_mem _ hb
  have keepM : ∀ {s s' : Shared}, Moved wr G s s' → (∀ b o, h0.get? b = some o → s.heap.get? b = some o) → ∀ b o, h0.get? b = some o → s'.heap.get? b = some o := fun hm hkp b o e =>
    hm.heap b o (fun hb => by rw [hw0 b hb] at e; cases e) (hkp b o e)
  intro k
  induction k with
  | zero =>
    intro i s hk' hi hst hkp ⟨L, es, ep, t, hS, g⟩ hR
    have hin : i = n := by omega
    subst hin
    refine codeAny_builtin F.entry_set_update_loop ?_
    rw [Around.under_plainId F.plain_set_update_loop _]
    show wpAny _ A.in1 (pyNext (.ref I) >>= _) _ _ s
    refine wpAny_bind (W.done s _ _ hst fun s' hm => ?_)
    show wpAny _ A.in1 (ret Value.none) _ _ s'
    have hkp' := keepM hm hkp
    have sub : ∀ p ∈ L, p ∈ ks := fun p hp => List.mem_of_mem_take (g.sub p hp)
    exact wpAny_pure (hR s' L es ep t (hm.mono hsub) (hS.keep (fun o e => hm.heap S o hSw e) fun p hp => isT_keep (hk p (sub p hp)) hkp') g hkp')
  | succ k ih =>
    intro i s hk' hi hst hkp ⟨L, es, ep, t, hS, g⟩ hR
    have hlt : i < n := by omega
    refine codeAny_builtin F.entry_set_update_loop ?_
    rw [Around.under_plainId F.plain_set_update_loop _]
    show wpAny _ A.in1 (pyNext (.ref I) >>= _) _ _ s
    refine wpAny_bind (W.item i s _ _ hlt hst fun v s' hP hst' hm => ?_)
    obtain ⟨p, hp, rfl⟩ := hval i v hP
    have hkp' := keepM hm hkp
    have sub : ∀ p ∈ L, p ∈ ks := fun p hp => List.mem_of_mem_take (g.sub p hp)
    have hS' : SetTR P w s'.heap S L es ep t := hS.keep (fun o e => hm.heap S o hSw e) fun q hq => isT_keep (hk q (sub q hq)) hkp'
    have hx : IsT P w s'.heap p.2 p.1 := isT_keep (hk p (List.mem_of_getElem? hp)) hkp'
    show wpAny _ A.in1 (holding [Value.ref p.1] (setAdd S (.ref p.1)) >>= _) _ _ s'
    refine wpAny_bind (wpAny_holding ?_)
    unfold setAdd
    refine wpAny_holding ?_
    refine wpAny_bind (wpAny_pyHash_tuple hu hx ?_)
    refine add_at (s := { s' with toks := s'.toks + (p.2.length + 1) }) hS' hx hu (got_few hfew g hS'.nd) fun b h' L' es' ep' t' hsb hS2 c1 c2 => ?_
    have g' : Got ks (i + 1) L' := by
      rcases Classical.em (p.2 ∈ L.map (·.2)) with c | c
      · rw [c1 c]; exact g.same hp c
      · exact g.more hp (c2 c)
    have hkp2 : ∀ b o, h0.get? b = some o → h'.get? b = some o := fun b o e => (hsb.2 b (fun z => by rw [z, hS0] at e; cases e)).trans (hkp' b o e)
    refine wpAny_pure ⟨plainId_quiet F.plain_set_update_loop _, ih (i + 1) _ (by omega) hlt (W.frame _ s' _ _ hst' (Nat.le_add_right _ _) fun b hb o e => ?_) hkp2 ⟨L', es', ep', t', hS2, g'⟩ fun s'' L2 es2 ep2 t2 hm'' hS'' g'' hkp'' => ?_⟩
    · rw [hsb.2 b (fun h : b = S => hSf (by rw [← h]; exact hb))]; exact e
    · refine hR s'' L2 es2 ep2 t2 (Moved.trans W.gtrans ((hm.mono hsub).then_heap (Nat.le_add_right _ _) fun b o hb e => ?_) hm'') hS'' g'' hkp''
      rw [hsb.2 b (fun h : b = S => hb (by rw [h]; exact List.mem_cons_self))]; exact e

set_option maxRecDepth 100000 in
set_option maxHeartbeats 3200000 in
/-- set(xs), few distinct items -/
theorem call_set_many {l : Addr} {items : Array Value} (ks : List (Addr × List Int)) {Q : Value → Shared → Prop} (hh : A.handled = none) (hl : s.heap.IsList l items) (hit : items.toList = ks.map fun p => Value.ref p.1)
    (hk : ∀ p ∈ ks, IsT P w s.heap p.2 p.1) (hfew : ∃ Dl : List (List Int), (∀ p ∈ ks, p.2 ∈ Dl) ∧ Dl.length < 63) (hu : A.units + 3 < cLine)
    (h : ∀ (h' : Heap) (tk : Nat) L es ep t, SetTR P w h' s.heap.objs.size L es ep t → Got ks ks.length L → (∀ b o, s.heap.get? b = some o → h'.get? b = some o) → Q (.ref s.heap.objs.size) { s with heap := h', toks := tk }) :
    wpAny (model P w) A (call (.type "set") [.ref l]) Q E s := by
  have hisz : items.size = ks.length := by
    have q := congrArg List.length hit
    rw [Array.length_toList, List.length_map] at q
    exact q
  obtain ⟨c, tl, hmro⟩ := F.called_set.mro
  have hmade := F.called_set.made
  have hsub := F.called_set.sub
  refine wpAny_call (codeAny_of_tree ?_)
  show wpAny _ _ (callAny (.type "set") _) _ _ _
  refine wpAny_pure ⟨Code.quiet_builtin _ (by decide +kernel), codeAny_builtin F.entry_type_call ?_⟩
  rw [Around.under_plain (weight_type_call_type "set" [.ref l] []) rfl]
  have h1 := F.called_set.notType
  have h2 := F.called_set.canCreate
  have hct := F.typeCall_set_1 (.ref l)
  repeat (any_goals (first | assumption | wp_step))

  refine codeAny_mono (code_set_led1 (.ref l) (E := E) (Q₁ := fun obj s₁ => obj = .ref s.heap.objs.size ∧ s₁ = { s with heap := s.heap.push { cls := .type "set", dict := none, data := .set #[] 0 (.fresh 0 0 (!w.params.followText "set-order")) } }) ⟨rfl, rfl⟩) fun r s₁ hr => ?_
  cases r with
  | error e => exact hr
  | ok fl =>
    cases fl with
    | ret obj =>
      obtain ⟨rfl, rfl⟩ := hr
      have hS : (s.heap.push { cls := .type "set", dict := none, data := .set #[] 0 (.fresh 0 0 (!w.params.followText "set-order")) }).get? s.heap.objs.size = some { cls := .type "set", dict := none, data := .set #[] 0 (.fresh 0 0 (!w.params.followText "set-order")) } := Heap.get?_push_size _ rfl
      have hT : Shared.TypeIs { s with heap := s.heap.push { cls := .type "set", dict := none, data := .set #[] 0 (.fresh 0 0 (!w.params.followText "set-order")) } } (.ref s.heap.objs.size) "set" := ⟨_, hS, rfl⟩
      have hli := F.called_set.init.lookup
      have hbi := F.called_set.init.bind (.ref s.heap.objs.size)
      repeat (any_goals (first | assumption | wp_step))

      refine codeAny_mono (codeAny_call_builtin (R := wants (fun r s₂ => r = .none ∧ ∃ h' tk L es ep t, s₂ = { s with heap := h', toks := tk } ∧ SetTR P w h' s.heap.objs.size L es ep t ∧ Got ks ks.length L ∧
          (∀ b o, s.heap.get? b = some o → h'.get? b = some o)) E) F.called_set.init.plain F.entry_set_init (check_set_init_1 hT ?_)) fun r₂ s₂ hr₂ => ?_
      · obtain ⟨ol, hol, hcl, nl, hdl⟩ := hl
        obtain ⟨ocls, odict, odata, oslots⟩ := ol
        simp only at hcl hdl
        subst hcl; subst hdl
        have hol' : (s.heap.push { cls := .type "set", dict := none, data := .set #[] 0 (.fresh 0 0 (!w.params.followText "set-order")) }).get? l = some { cls := .type "list", dict := odict, data := .seq items nl, slots := oslots } := Heap.get?_push_of_some _ hol
        have hsls := F.sub_list_set
        have hslf := F.sub_list_frozenset
        have hne : (Value.type "list" == Value.type "dict") = false := by decide
        have hl1 : (s.heap.push { cls := .type "set", dict := none, data := .set #[] 0 (.fresh 0 0 (!w.params.followText "set-order")) }).IsList l items := ⟨_, hol', rfl, nl, rfl⟩
        unfold Builtin.«set.__init__» noKeywords Builtin.Frozenset.updateFrom
        generalize hPI : pyIter = PI
        wp_walk
        subst hPI

        refine wpAny_pyIter_list hl1 ?_
        refine wpAny_bind (wpAny_runValue ?_)
        have hlS : l < s.heap.objs.size := Heap.lt_size hol
        have hh3 : A.in1.in1.in1.handled = none := by simp [hh]
        have hz1 : (s.heap.push { cls := .type "set", dict := none, data := .set #[] 0 (.fresh 0 0 (!w.params.followText "set-order")) }).objs.size = s.heap.objs.size + 1 := Heap.size_push ..
        have hneI : l ≠ (s.heap.push { cls := .type "set", dict := none, data := .set #[] 0 (.fresh 0 0 (!w.params.followText "set-order")) }).objs.size := by
          rw [Heap.size_push]; exact Nat.ne_of_lt (Nat.lt_succ_of_lt hlS)
        have hSf : s.heap.objs.size ∉ [(s.heap.push { cls := .type "set", dict := none, data := .set #[] 0 (.fresh 0 0 (!w.params.followText "set-order")) }).objs.size, l] := by
          rw [Heap.size_push]; simp only [List.mem_cons, List.mem_singleton, List.not_mem_nil, or_false, not_or]
          exact ⟨Nat.ne_of_lt (Nat.lt_succ_self _), Nat.ne_of_gt hlS⟩
        have hval : ∀ (i : Nat) (v : Value), items[i]? = some v → ∃ p, ks[i]? = some p ∧ v = .ref p.1 := fun i v hv => by
          have q : items.toList[i]? = some v := by rw [Array.getElem?_toList]; exact hv
          rw [hit, List.getElem?_map] at q
          cases hq : ks[i]? with
          | none => rw [hq] at q; cases q
          | some p =>
            rw [hq] at q
            exact ⟨p, rfl, (Option.some.inj q).symm⟩
        have none_of : ∀ b, s.heap.objs.size ≤ b → s.heap.get? b = none := fun b hb => by
          cases q : s.heap.get? b with
          | none => rfl
          | some o => exact absurd (Nat.lt_of_lt_of_le (Heap.lt_size q) hb) (Nat.lt_irrefl _)
        refine set_update_many ((Walks.list hh3 _ l hneI items).toS) s.heap.objs.size
          hSf ks hisz hfew hval s.heap hk (none_of _ (Nat.le_refl _)) (fun b hb => none_of b (by
            rw [List.mem_singleton.mp hb, Heap.size_push]
            exact Nat.le_succ _)) hu (items.size - 0) 0 _ (by omega) (Nat.zero_le _)
          ⟨⟨_, Heap.get?_push_size _ rfl, rfl, rfl⟩, (hl1.push _)⟩ (fun b o e => Heap.get?_push_of_some _ (Heap.get?_push_of_some _ e)) ?hS0 ?hR
        case hS0 =>
          have hget : ((s.heap.push { cls := .type "set", dict := none, data := .set #[] 0 (.fresh 0 0 (!w.params.followText "set-order")) }).push { cls := .type "list_iterator", data := .fields #[.ref l, .int 0 0] }).get? s.heap.objs.size
              = some { cls := .type "set", dict := none, data := .set #[] 0 (.fresh 0 0 (!w.params.followText "set-order")) } := Heap.get?_push_of_some _ hS
          exact ⟨[], #[], 0, _, setTR_fresh hget, Got.zero ks⟩
        case hR =>
          intro s' L es ep t hm hS' g' hkp
          obtain ⟨h', g2, d', tk', os'⟩ := s'
          have eg : g2 = s.gens := hm.gens
          have ed : d' = s.drawn := hm.drawn
          have eo : os' = s.os := hm.os
          subst eg; subst ed; subst eo
          show wpAny _ _ _ _ _ _
          refine wpAny_pure ?_
          show wpAny _ _ (ret Value.none) _ _ _
          rw [hisz] at g'
          exact wpAny_pure ⟨rfl, h', tk', L, es, ep, t, rfl, hS', g', hkp⟩

      · cases r₂ with
        | error e => exact hr₂
        | ok fl₂ =>
          cases fl₂ with
          | ret r =>
            obtain ⟨rfl, h', tk, L, es, ep, t, rfl, hS', g', hk'⟩ := hr₂
            repeat (any_goals (first | assumption | wp_step))
            exact h _ _ _ _ _ _ hS' g' hk'
          | _ => exact hr₂.elim
    | _ => exact hr.elim

end
section
variable {X : Cx}
def rSetMany (K : PySem.W.Frag) (P : Program) (w : World) : List V → Hp → VK → Prop := fun xs H Q => ∃ (l : Addr) (ks : List (Addr × List Int)), xs = [V.ref l] ∧ SqL K H l (ks.map fun p => V.ref p.1) ∧ (∀ p ∈ ks, SqT K H p.1 (p.2.map V.int)) ∧ (∃ Dl : List (List Int), (∀ p ∈ ks, p.2 ∈ Dl) ∧ Dl.length < 63) ∧
  ∀ a L, H a = none → (∀ p ∈ L, p ∈ ks) → (∀ p ∈ ks, p.2 ∈ L.map (·.2)) → Q (.ref a) (upd H a (SetTO P w a L))
theorem cr_setMany (hc : X.calm = true) (hu : X.A.units + 64 < cLine) : CallR X (.type "set") (rSetMany X.K X.prog X.w) := by
  intro pins s σ H xs us Q I r h
  obtain ⟨l, ks, rfl, hl, hk, hf, q⟩ := h
  rw [Vals.ref1 r]
  obtain ⟨its, rv, pl, hz⟩ := I.list hl
  have hn : H s.heap.objs.size = none := I.hok.fresh (Nat.le_refl _)
  refine call_set_many (P := X.prog) (w := X.w) ks (I.ok.hd hc) pl.isList (by simpa using refs_of_vals rv) (fun p hp => I.isT (hk p hp)) hf (by omega) fun h' tk L es ep t R g k => ?_
  refine ⟨.ref s.heap.objs.size, upd H s.heap.objs.size (SetTO X.prog X.w s.heap.objs.size L), I.laid (t' := tk) k (Nat.le_refl _) (setTO_new R.t0), rfl, q _ L hn (fun p hp => ?_) fun p hp => ?_⟩
  · exact List.mem_of_mem_take (g.sub p hp)
  · exact g.all p (by rw [List.take_length]; exact hp)
end
end L2
namespace Pd
open PySem PySem.Spec PyProof.Rows L2
def rowsOkB (nss : List (List Int)) : Bool := decide ((sortL nss).length < 63) && nss.all fun ns => decide (1 ≤ ns.length) && (nss.all fun ms => decide (ms.length = ns.length)) && ns.all fun m => decide (0 ≤ m) && decide (m < 64)
def fSortSetB (f : FE) : FE := fun env c => match f env c with
  | some (.lst xs, c1) => match tupsI? xs with
    | some nss => if rowsOkB nss = true then some (.lst ((sortL nss).map tupI), c1) else none
    | none => none
  | _ => none
section
variable {T : Tb} {n : Nat} {X : Cx} {pos p p2 pos2 : Pos} {e : Expr} {fe : FE}
theorem tn_sortSetB (h : TrQ T n X e fe) (hm : X.mg "sorted" = none) (hm2 : X.mg "set" = none) (hg : Gl X "sorted" := by rfl) (hg2 : Gl X "set" := by rfl)
    (hst : starEach [.Call (.Name "set" p2) [e] [] pos2] X.env = (false, eval (.Call (.Name "set" p2) [e] [] pos2) X.env) :: starEach [] X.env := by rfl) (hst2 : starEach [e] X.env = (false, eval e X.env) :: starEach [] X.env := by rfl)
    (hpl : (backTo pos (starEach [] X.env)).any (·.1) = false := by rfl) (hpl2 : (backTo pos2 (starEach [] X.env)).any (·.1) = false := by rfl) :
    TrN T n X (.Call (.Name "sorted" p) [.Call (.Name "set" p2) [e] [] pos2] [] pos) (fSortSetB fe) := by
  refine ⟨fun t G al c env σ H Q d c' hs he hf q => ?_⟩
  refine ofE (pe_callB (cr_sortedT t.calm) hg hm (by decide +kernel) (pa_cons (pe_callTy (cr_setMany t.calm t.room.units) hg2 hm2 (by decide +kernel) (pa_cons (peS e) pa_nil hst2) (he := hst2) (hpl := hpl2)) pa_nil hst) (he := hst) (hpl := hpl)) ?_
  unfold fSortSetB at hf
  split at hf
  case h_2 => cases hf
  case h_1 xs c1 e1 =>
    split at hf
    case h_2 => cases hf
    case h_1 nss e2 =>
      split at hf
      case isFalse => cases hf
      case isTrue hok =>
        cases hf
        have := tupsI?_map e2
        subst this
        unfold rowsOkB at hok
        simp only [Bool.and_eq_true, decide_eq_true_eq, List.all_eq_true] at hok
        obtain ⟨hlen, hall⟩ := hok
        refine h.run t G al c env σ H _ _ _ hs he e1 fun G1 al1 H1 v l1 hs1 r1 => ?_
        obtain ⟨a, vs, rfl, hv, rl⟩ := r1.lst_inv hs1
        obtain ⟨ks, rfl, hk2, hk3⟩ := rows_at hs1.ex rl
        refine ⟨a, ks, rfl, SqL.of hv, fun q hq => by rw [t.K]; exact (hk3 q hq).1, ⟨sortL nss, fun q hq => mem_sortL.mpr (by rw [← hk2]; exact List.mem_map.mpr ⟨q, hq, rfl⟩), hlen⟩, fun b L hb hL1 hL2 => ?_⟩
        have sub : ∀ q ∈ L, q.2 ∈ nss := fun q hq => by rw [← hk2]; exact List.mem_map.mpr ⟨q, hL1 q hq, rfl⟩
        have bd : ∀ ns ∈ nss, TS.Bd 64 ns := fun ns hns m hm => (hall ns hns).2 m hm
        have hd : ∃ dd, 1 ≤ dd ∧ ∀ ns ∈ nss, ns.length = dd := by
          cases nss with
          | nil => exact ⟨1, Nat.le_refl _, fun ns h => (by cases h)⟩
          | cons n0 r => exact ⟨n0.length, (hall n0 List.mem_cons_self).1.1, fun ns hns => (hall n0 List.mem_cons_self).1.2 ns hns⟩
        obtain ⟨dd, hd1, hd2⟩ := hd
        refine ⟨b, L, dd, 64, rfl, upd_same, fun q hq => ?_, hd1, fun q hq => ⟨hd2 _ (sub q hq), bd _ (sub q hq)⟩, fun L' pp hperm hnd hl64 hpw hpp => ?_⟩
        · have hz := (hk3 q (hL1 q hq)).1
          rw [← t.K] at hz
          exact sqT_le (fun a' o' e' => by rw [upd_ne (ne_of_none e' hb)]; exact e') hz
        · have hsub' : ∀ q ∈ L', q ∈ L := fun q hq => hperm.mem_iff.mp hq
          have hstr : StrI (L'.map (·.2)) := by
            refine str_of_code (B := 64) (d := dd) (fun x hx => ?_) hnd ?_
            · obtain ⟨q, hq, rfl⟩ := List.mem_map.mp hx
              exact ⟨hd2 _ (sub q (hsub' q hq)), bd _ (sub q (hsub' q hq))⟩
            · rw [List.pairwise_map]
              exact hpw
          have heq : L'.map (·.2) = sortL nss := by
            refine str_uniq hstr (str_sortL _) fun x => ?_
            rw [mem_sortL]
            constructor
            · intro hx
              obtain ⟨q, hq, rfl⟩ := List.mem_map.mp hx
              exact sub q (hsub' q hq)
            · intro hx
              rw [← hk2] at hx
              obtain ⟨q, hq, rfl⟩ := List.mem_map.mp hx
              exact (hperm.map (·.2)).mem_iff.mpr (hL2 q hq)
          have hs2 := hs1.junk (o := SetTO X.prog X.w b L) hb
          have hrp : RpL T G1 al1 ((sortL nss).map tupI) (L'.map fun q => V.ref q.1) := by
            rw [← heq]
            exact rows_rp fun q hq => (hk3 q (hL1 q (hsub' q hq))).2
          have hp0 : H1 pp = none := by
            by_cases hpb : pp = b
            · subst hpb; exact hb
            · rw [upd_ne hpb] at hpp; exact hpp
          exact q G1 al1 _ pp _ (l1.trans ((Stp.junk hb).trans (.junk hpp))) (hs2.junk hpp) (hs2.free hpp) (hs2.apart hpp) (fresh_before hs hs1 l1 hp0) upd_same (.lst hrp)
end
end Pd
set_option Elab.async false
set_option linter.all false
set_option maxRecDepth 100000
/-! Pd26: target = x.pop(i), x a list of one's own. -/
namespace Pd
open PySem PySem.Spec PyProof.Rows L2
section
variable {T : Tb} {n : Nat} {X : Cx} {pos p2 cpos apos px : Pos} {o e tg : Expr} {es : List Expr} {fo fe : FE} {fa : FA} {up : Up} {tn name : String} {nm x : Str} {bid : String} {g : FG} {ws : List Nat}
def fAsgO (tn : String) (up : Up) (i : Nat) (fa : FA) (g : FG) : FS := fun env c => match env[i]? with
  | some (some (.o d)) => if isTy tn d = true then match fa env c with
    | some (ds, c1) => match up d ds with
      | some (r, d') => match g r (env.set i (some (.o d'))) with
        | some env1 => some (.nx, env1, c1)
        | none => none
      | none => none
    | none => none else none
  | _ => none
theorem ts_asgO (i : Nat) (pa : PlainAttrs tn) (slot : Slot tn nm bid) (hty : typeOf (.builtin bid) = pure (.type "method_descriptor")) (hm : MtR X bid (rMu T up)) (ha : TrA T n X (e :: es) fa) (hg : TrG T n X tg ws g)
    (hN : X.N[i]? = some x := by rfl) (hv : Vis X.env.scope x := by first | exact Or.inl rfl | exact Or.inr (Or.inl rfl) | exact Or.inr (Or.inr rfl)) (hd : (x == ("__debug__" : Str)) = false := by decide) (hcd : (x == ("__classdict__" : Str)) = false := by decide)
    (hsw : swapsWithSole [tg] (.Call (.Attribute (.Name x px) nm apos) (e :: es) [] cpos) pos.line X.env = pure false := by rfl) (hw : swappedStores [tg] (.Call (.Attribute (.Name x px) nm apos) (e :: es) [] cpos) X.env = pure none := by rfl) (h1 : (assignEach [tg] X.env).map (·.2) = [assign tg X.env] := by rfl)
    (hbase : attributeBase (.Name x px) nm X.env (eval (.Name x px) X.env) = eval (.Name x px) X.env := by rfl)
    (hfew : ((backTo cpos (starEach (e :: es) X.env)).all (fun x => !x.1) && (backToKw cpos (keywordEach [] X.env)).all (fun x => x.1.isSome)
      && decide ((e :: es).length + ([] : List Keyword).length + (if ([] : List Keyword).isEmpty then 0 else 1) < 30)) = true := by rfl)
    (hline : (apos.endLine == cpos.line) = true := by rfl) (hs : starEach (e :: es) X.env = (false, eval e X.env) :: starEach es X.env := by rfl) (hplain : (backTo cpos (starEach es X.env)).any (·.1) = false := by rfl) :
    TrS T n X (.Assign [tg] (.Call (.Attribute (.Name x px) nm apos) (e :: es) [] cpos) pos) (fAsgO tn up i fa g) := by
  refine ⟨fun t B G al c env σ H E r env' c' k hf q => ofS (ps_asg (pe_bm pa slot hty hm (pe_var hN hv hd hcd) (paS (e :: es)) hbase hfew hline hs hplain) (pgS tg) hsw hw h1) ?_⟩
  unfold fAsgO at hf
  split at hf
  case h_2 => cases hf
  case h_1 d0 e1 =>
    split at hf
    case isFalse => cases hf
    case isTrue hT =>
      split at hf
      case h_2 => cases hf
      case h_1 ds c1 e2 =>
        split at hf
        case h_2 => cases hf
        case h_1 dr d' e3 =>
          split at hf
          case h_2 => cases hf
          case h_1 env1 e4 =>
            cases hf
            obtain ⟨a, o0, hsl, hg0, hal, hh, b0⟩ := k.he.own i d0 e1
            refine ⟨.ref a, hsl, isTy_v hT hh b0, ha.run t G al c env σ H _ _ _ k.hs k.he e2 fun G2 al2 H2 vs l2 hs2 rl => ?_⟩
            have k2 := k.step l2 hs2
            obtain ⟨a', o2, hsl2, hg2, hal2, hh2, b2⟩ := k2.he.own i d0 e1
            rw [hsl] at hsl2; cases hsl2
            refine ⟨G2, al2, _, a, o2, d0, ds, d', dr, rfl, hs2, hh2, b2, rl, e3, fun w o' rw' b' => ?_⟩
            have k3 := k2.putO e1 hsl b'
            exact hg.run t G2 al2 _ (env.set i (some (.o d'))) σ _ dr w _ _ k3.hs k3.he rw' e4 fun σ' he' _ _ hx => q G2 al2 σ' _ l2.le (k3.asg he' hx)
end
end Pd
set_option Elab.async false
set_option linter.all false
set_option maxRecDepth 100000
/-! Pd27: t.count(k), t a tuple of three whole numbers or more. -/
namespace Pd
open PySem PySem.Spec PyProof.Rows L2
def fMdT (g : FC) (fo : FE) (fa : FA) : FE := fun env c => match fo env c with
  | some (.tup ds, c1) => if 3 ≤ ds.length then match fa env c1 with
    | some (es, c2) => g (.tup ds :: es) c2
    | none => none else none
  | _ => none
section
variable {T : Tb} {n : Nat} {X : Cx} {pos p2 cpos apos : Pos} {o e : Expr} {es : List Expr} {fo : FE} {fa : FA} {g : FC} {nm : Str} {bid : String}
theorem tr_mdT (slot : Slot "tuple" nm bid) (hty : typeOf (.builtin bid) = pure (.type "method_descriptor")) (hm : Tied T n X → MtR X bid (rMd T g)) (ho : TrQ T n X o fo) (ha : TrQA T n X (e :: es) fa)
    (hbase : attributeBase o nm X.env (eval o X.env) = eval o X.env := by rfl)
    (hfew : ((backTo cpos (starEach (e :: es) X.env)).all (fun x => !x.1) && (backToKw cpos (keywordEach [] X.env)).all (fun x => x.1.isSome)
      && decide ((e :: es).length + ([] : List Keyword).length + (if ([] : List Keyword).isEmpty then 0 else 1) < 30)) = true := by rfl)
    (hline : (apos.endLine == cpos.line) = true := by rfl) (hs : starEach (e :: es) X.env = (false, eval e X.env) :: starEach es X.env := by rfl) (hplain : (backTo cpos (starEach es X.env)).any (·.1) = false := by rfl) :
    TrE T n X (.Call (.Attribute o nm apos) (e :: es) [] cpos) (fMdT g fo fa) := by
  refine ⟨fun t G al c env σ H Q d c' hst he hf q => ofE (pe_bmF slot hty (hm t) (peS o) (paS (e :: es)) hbase hfew hline hs hplain) ?_⟩
  unfold fMdT at hf
  split at hf
  case h_2 => cases hf
  case h_1 d0 c1 e1 =>
    split at hf
    case isFalse => cases hf
    case isTrue hT =>
      split at hf
      case h_2 => cases hf
      case h_1 ds c2 e2 =>
        refine ho.run t G al c env σ H _ _ _ hst he e1 fun G1 al1 H1 v l1 hs1 r1 => ⟨?_, ha.run t G1 al1 c1 env σ H1 _ _ _ hs1 (he.mono l1) e2 fun G2 al2 H2 vs l2 hs2 rl => ?_⟩
        · have r2 := r1.rp_tup
          cases r2 with
          | tup h rl nd =>
            rcases nd with nd | ⟨o, u, hg, hd⟩
            · omega
            · exact ⟨_, o, u, rfl, hs1.ex _ _ hg, hd⟩
          | box _ z => cases z
        · exact ⟨G2, al2, c2, _, d, c', hs2, .cons (r1.mono l2) rl, hf, fun G' al' H' v' l' => q G' al' H' v' ((l1.trans l2).trans l')⟩
/-- t.count(k), ints -/
def mCountT : FC := fun ds c => match ds with
  | [.tup xs, .int k] => match ints? xs with
      | some ns => some (.int (ns.count k : Nat), c)
      | none => none
  | _ => none
theorem mt_mCountT (t : Tied T n X) : MtR X "tuple.count" (rMd T mCountT) := by
  refine mtr_of fun x xs H Q ⟨G, al, c, ds, d, c', hs, rl, hg, q⟩ => ?_
  unfold mCountT at hg
  split at hg
  case h_2 => cases hg
  case h_1 ys k =>
    split at hg
    case h_2 => cases hg
    case h_1 ns e2 =>
      cases hg
      obtain ⟨r0, rl0⟩ := rl.cons_inv
      have := ints?_map e2
      subst this
      obtain ⟨a, vs, rfl, hv, rl2⟩ := r0.tup_inv hs
      rw [rl2.ints, ← t.K] at hv
      exact ⟨_, mt_tcount, a, ns, k, rfl, rl0.int1, hv, q.now hs (.int _)⟩
end
end Pd
set_option Elab.async false
set_option linter.all false
set_option maxRecDepth 100000
set_option maxHeartbeats 0
namespace L39
open PySem PySem.Spec PyProof.Rows L2 Pd
def N__law_feed : List Str := ["script", "k", "cell", "digits", "state"]
def ps__law_feed : List Str := ["script", "k"]
def f__law_feed : FS := (fSeq (fSet 2 (fIf (asB (fOp oLt (fVarQ 1) (fLenQ (fVarQ 0)))) (fOp oIx (fVarQ 0) (fVarQ 1)) (fOp oAdd (fOp oMul (fC (.int 61)) (fVarQ 1)) (fC (.int 17)))))
  (fSeq (fSet 3 (fCall bMax (aCons (fC (.int 0)) (aCons (fOp oSub (fCall bAbs (aCons (fVarQ 2) aNil)) (fOp oPow (fC (.int 10)) (fC (.int 18)))) aNil))))
  (fSeq (fSet 4 (fOp oMod (fCall bIntS (aCons (fOp oAdd (fOp oAdd (fOp oMul (fVarQ 2) (fC (.int 6364136223846793005))) (fOp oMul (fC (.int 7919)) (fVarQ 1))) (fC (.int 1442695040888963407))) aNil)) (fC (.int 2305843009213693951))))
  (fRet (fCell (fLst (aCons (fVar 3) (aCons (fVar 4) aNil))))))))
def m__law_feed : FC := mOf N__law_feed 2 f__law_feed
def N__law_take : List Str := ["feed", "many", "digit"]
def ps__law_take : List Str := ["feed", "many"]
def f__law_take : FS := (fSeq (fIte (asB (fOp oGt (fOp oIx (fVarQ 0) (fC (.int 0))) (fC (.int 0))))
  (fSeq (fSet 2 (fOp oMod (fCall bIntS (aCons (fOp oIx (fVarQ 0) (fC (.int 0))) aNil)) (fVarQ 1)))
  (fSeq (fStC uSetL (fOp oFdiv (fOp oIx (fVarQ 0) (fC (.int 0))) (fVarQ 1)) (fVar 0) (fC (.int 0)))
  (fRet (fVar 2))))
  fNx)
  (fSeq (fStC uSetL (fOp oMod (fCall bIntS (aCons (fOp oAdd (fOp oMul (fOp oIx (fVarQ 0) (fC (.int 1))) (fC (.int 6364136223846793005))) (fC (.int 1442695040888963407))) aNil)) (fC (.int 2305843009213693951))) (fVar 0) (fC (.int 1)))
  (fRet (fOp oMod (fCall bIntS (aCons (fOp oFdiv (fOp oIx (fVarQ 0) (fC (.int 1))) (fC (.int 65536))) aNil)) (fVarQ 1)))))
def m__law_take : FC := mOf N__law_take 2 f__law_take
def N__law_pick : List Str := ["feed", "some"]
def ps__law_pick : List Str := ["feed", "some"]
def f__law_pick : FS := (fRet (fOp oIx (fVarQ 1) (fCall m__law_take (aCons (fVar 0) (aCons (fLenQ (fVarQ 1)) aNil)))))
def m__law_pick : FC := mOf N__law_pick 2 f__law_pick
def N__law_width : List Str := ["feed"]
def ps__law_width : List Str := ["feed"]
def f__law_width : FS := (fRet (fCall m__law_pick (aCons (fVar 0) (aCons (fLst (aCons (fC (.int 2)) (aCons (fC (.int 2)) (aCons (fC (.int 2)) (aCons (fC (.int 3)) (aCons (fC (.int 3)) (aCons (fC (.int 1)) aNil))))))) aNil))))
def m__law_width : FC := mOf N__law_width 1 f__law_width
def N__law_all : List Str := ["width", "length", "found", "turn", "longer", "one", "value"]
def ps__law_all : List Str := ["width", "length"]
def f__law_all : FS := (fSeq (fSet 2 (fLst (aCons (fTup aNil) aNil)))
  (fSeq (fFor (fRg1 (aCons (fVarQ 1) aNil)) (gSet 3)
  (fSeq (fSet 4 (fLst aNil))
  (fSeq (fFor (fIt (fVar 2)) (gSet 5)
  (fSet 4 (fOp oAdd (fVarQ 4) (fComp (fRg1 (aCons (fVarQ 0) aNil)) (gSet 6) fYes (fOp oAdd (fVarQ 5) (fTup (aCons (fVar 6) aNil))) [6]))))
  (fSet 2 (fVar 4)))))
  (fRet (fVar 2))))
def m__law_all : FC := mOf N__law_all 2 f__law_all
def N__law_agreement : List Str := ["feed", "width", "many", "found", "row", "most", "value", "one"]
def ps__law_agreement : List Str := ["feed", "width", "many"]
def f__law_agreement : FS := (fSeq (fSetO 3 (fLst aNil))
  (fSeq (fFor (fIt (fCall m__law_all (aCons (fVar 1) (aCons (fVar 2) aNil)))) (gSet 4)
  (fSeq (fSet 5 (fComp (fRg1 (aCons (fVarQ 1) aNil)) (gSet 6) (asB (fOp oGe (fLenQ (fComp (fIt (fVar 4)) (gSet 7) (asB (fOp oEq (fVarQ 7) (fVarQ 6))) (fVar 7) [7])) (fOp oSub (fVarQ 2) (fC (.int 1))))) (fVar 6) [6]))
  (fMutO "list" uApp 3 (aCons (fIf (asB (fOp oNe (fVarQ 5) (fLst aNil))) (fOp oIx (fVarQ 5) (fC (.int 0))) (fCall m__law_take (aCons (fVar 0) (aCons (fVar 1) aNil)))) aNil))))
  (fFz 3 (fRet (fVar 3)))))
def m__law_agreement : FC := mOf N__law_agreement 3 f__law_agreement
def N__law_together : List Str := ["rows", "many", "found", "turn", "longer", "one", "row"]
def ps__law_together : List Str := ["rows", "many"]
def f__law_together : FS := (fSeq (fSet 2 (fLst (aCons (fLst aNil) aNil)))
  (fSeq (fFor (fRg1 (aCons (fVarQ 1) aNil)) (gSet 3)
  (fSeq (fSet 4 (fLst aNil))
  (fSeq (fFor (fIt (fVar 2)) (gSet 5)
  (fSet 4 (fOp oAdd (fVarQ 4) (fComp (fIt (fVar 0)) (gSet 6) fYes (fOp oAdd (fVarQ 5) (fLst (aCons (fVar 6) aNil))) [6]))))
  (fSet 2 (fVar 4)))))
  (fRet (fVar 2))))
def m__law_together : FC := mOf N__law_together 2 f__law_together
def N__law_cell : List Str := ["width", "cells", "arguments", "at", "one"]
def ps__law_cell : List Str := ["width", "cells", "arguments"]
def f__law_cell : FS := (fSeq (fSet 3 (fC (.int 0)))
  (fSeq (fFor (fIt (fVar 2)) (gSet 4)
  (fSet 3 (fOp oAdd (fOp oMul (fVarQ 3) (fVarQ 0)) (fVarQ 4))))
  (fRet (fOp oIx (fVarQ 1) (fVarQ 3)))))
def m__law_cell : FC := mOf N__law_cell 3 f__law_cell
def N__law_given : List Str := ["width", "cells", "some", "at", "row"]
def ps__law_given : List Str := ["width", "cells", "some"]
def f__law_given : FS := (fRet (fCall bTuple (aCons (fComp (fRg1 (aCons (fLenQ (fOp oIx (fVarQ 2) (fC (.int 0)))) aNil)) (gSet 3) fYes (fCall m__law_cell (aCons (fVar 0) (aCons (fVar 1) (aCons (fComp (fIt (fVar 2)) (gSet 4) fYes (fOp oIx (fVarQ 4) (fVarQ 3)) [4]) aNil)))) [3]) aNil)))
def m__law_given : FC := mOf N__law_given 3 f__law_given
def N__law_closed : List Str := ["width", "operation", "arity", "rows", "found", "most", "turn", "more", "some"]
def ps__law_closed : List Str := ["width", "operation", "arity", "rows"]
def f__law_closed : FS := (fSeq (fPar 4 5 (xF (fSortSetB (fVarQ 3))) (xF (fIf (asB (fOp oLt (fOp oIx (fVarQ 1) (fC (.int 0))) (fC (.int 4)))) (fC (.int 9)) (fC (.int 6)))))
  (fSeq (fFor (fRg1 (aCons (fC (.int 10)) aNil)) (gSet 6)
  (fSeq (fIte (asB (fOp oGt (fLenQ (fVarQ 4)) (fVarQ 5)))
  (fRet (fCall m__law_all (aCons (fVar 0) (aCons (fVar 2) aNil))))
  fNx)
  (fSeq (fSet 7 (fComp (fIt (fCall m__law_together (aCons (fVar 4) (aCons (fOp oIx (fVarQ 1) (fC (.int 0))) aNil)))) (gSet 8) fYes (fCall m__law_given (aCons (fVar 0) (aCons (fOp oIx (fVarQ 1) (fC (.int 1))) (aCons (fVar 8) aNil)))) [8]))
  (fSet 4 (fSortSetB (fOp oAdd (fVarQ 4) (fVarQ 7)))))))
  (fRet (fVar 4))))
def m__law_closed : FC := mOf N__law_closed 4 f__law_closed
def N__law_drawn_row : List Str := ["feed", "width", "arity", "turn"]
def ps__law_drawn_row : List Str := ["feed", "width", "arity"]
def f__law_drawn_row : FS := (fRet (fCall bTuple (aCons (fComp (fRg1 (aCons (fVarQ 2) aNil)) (gSet 3) fYes (fCall m__law_take (aCons (fVar 0) (aCons (fVar 1) aNil))) [3]) aNil)))
def m__law_drawn_row : FC := mOf N__law_drawn_row 3 f__law_drawn_row
def N__law_drawn_rows : List Str := ["feed", "width", "arity", "most", "turn"]
def ps__law_drawn_rows : List Str := ["feed", "width", "arity", "most"]
def f__law_drawn_rows : FS := (fRet (fComp (fRg1 (aCons (fCall m__law_take (aCons (fVar 0) (aCons (fOp oAdd (fVarQ 3) (fC (.int 1))) aNil))) aNil)) (gSet 4) fYes (fCall m__law_drawn_row (aCons (fVar 0) (aCons (fVar 1) (aCons (fVar 2) aNil)))) [4]))
def m__law_drawn_rows : FC := mOf N__law_drawn_rows 4 f__law_drawn_rows
def N__law_agreeing : List Str := ["feed", "width", "near", "many", "cells", "found", "turn", "arity", "rows"]
def ps__law_agreeing : List Str := ["feed", "width", "near", "many"]
def f__law_agreeing : FS := (fSeq (fPar 4 5 (xF (fCall m__law_agreement (aCons (fVar 0) (aCons (fVar 1) (aCons (fOp oAdd (fVarQ 2) (fC (.int 1))) aNil))))) (xO (fLst aNil)))
  (fSeq (fFor (fRg1 (aCons (fCall m__law_take (aCons (fVar 0) (aCons (fOp oAdd (fVarQ 3) (fC (.int 1))) aNil))) aNil)) (gSet 6)
  (fSeq (fSet 7 (fOp oAdd (fC (.int 1)) (fCall m__law_take (aCons (fVar 0) (aCons (fC (.int 3)) aNil)))))
  (fSeq (fSet 8 (fCall m__law_closed (aCons (fVar 1) (aCons (fLst (aCons (fOp oAdd (fVarQ 2) (fC (.int 1))) (aCons (fVar 4) aNil))) (aCons (fVar 7) (aCons (fCall m__law_drawn_rows (aCons (fVar 0) (aCons (fVar 1) (aCons (fVar 7) (aCons (fC (.int 4)) aNil))))) aNil))))))
  (fMutO "list" uApp 5 (aCons (fLst (aCons (fVar 7) (aCons (fVar 8) aNil))) aNil)))))
  (fFz 5 (fRet (fLst (aCons (fVar 4) (aCons (fVar 5) aNil)))))))
def m__law_agreeing : FC := mOf N__law_agreeing 4 f__law_agreeing
def N_within : List Str := ["value", "low", "high"]
def ps_within : List Str := ["value", "low", "high"]
def f_within : FS := (fRet (fAndV (fIsi (fun s => isaB s "int") (tc_none 4) (fVarQ 0)) (fAndV (fNotV (fIsi (fun s => isaB s "bool") (tc_none 4) (fVarQ 0))) (fChain oLe oLe (fVarQ 1) (fVarQ 0) (fVarQ 2)))))
def m_within : FC := mOf N_within 3 f_within
def N_check_width : List Str := ["width"]
def ps_check_width : List Str := ["width"]
def f_check_width : FS := (fIte (fNot (asB (fCall m_within (aCons (fVar 0) (aCons (fC (.int 1)) (aCons (fC (.int 3)) aNil))))))
  fNo
  fNx)
def m_check_width : FC := mOf N_check_width 1 f_check_width
def N_Book_init : List Str := ["self", "width", "tables", "number", "table"]
def ps_Book_init : List Str := ["self", "width", "tables"]
def f_Book_init : FS := (fSeq (fDrop (fCall m_check_width (aCons (fVar 1) aNil)))
  (fSeq (fIte (fNot (asB (fIsi (fun s => isaB s "list") (tc_none 4) (fVarQ 2))))
  fNo
  fNx)
  (fSeq (fFor (fEnum (aCons (fVar 2) aNil)) (gSeq 2 (gsCons (gSet 3) (gsCons (gSet 4) gsNil)))
  (fIte (fOr (fNot (asB (fIsi (fun _ => false) (tc_cls 4 0) (fVarQ 4)))) (asB (fOp oNe (fFld [(0, 0), (1, 0), (3, 0)] (fVarQ 4)) (fVarQ 1))))
  fNo
  fNx))
  (fSeq (fFldO [(0, 0), (1, 0), (3, 0)] 0 (fVar 1))
  (fFldO [(1, 1)] 0 (fCall bList (aCons (fVarQ 2) aNil)))))))
def m_Book_init : FC := mInit 1 N_Book_init 3 f_Book_init
def N_check_arity : List Str := ["arity", "most"]
def ps_check_arity : List Str := ["arity", "most"]
def f_check_arity : FS := (fIte (fNot (asB (fCall m_within (aCons (fVar 0) (aCons (fC (.int 1)) (aCons (fVar 1) aNil))))))
  fNo
  fNx)
def m_check_arity : FC := mOf N_check_arity 2 f_check_arity
def N_is_row : List Str := ["value", "width", "arity", "one"]
def ps_is_row : List Str := ["value", "width", "arity"]
def f_is_row : FS := (fSeq (fIte (fOr (fNot (asB (fIsi (fun s => isaB s "tuple") (tc_none 4) (fVarQ 0)))) (asB (fOp oNe (fLenQ (fVarQ 0)) (fVarQ 2))))
  (fRet (fC (.bl false)))
  fNx)
  (fRet (fCall bAll (aCons (fComp (fIt (fVar 0)) (gSet 3) fYes (fCall m_within (aCons (fVar 3) (aCons (fC (.int 0)) (aCons (fOp oSub (fVarQ 1) (fC (.int 1))) aNil)))) [3]) aNil))))
def m_is_row : FC := mOf N_is_row 3 f_is_row
def N_Table_init : List Str := ["self", "width", "arity", "rows", "found", "number", "row"]
def ps_Table_init : List Str := ["self", "width", "arity", "rows"]
def f_Table_init : FS := (fSeq (fDrop (fCall m_check_width (aCons (fVar 1) aNil)))
  (fSeq (fDrop (fCall m_check_arity (aCons (fVar 2) (aCons (fC (.int 3)) aNil))))
  (fSeq (fIte (fNot (asB (fIsi (fun s => isaB s "list") (tc_none 4) (fVarQ 3))))
  fNo
  fNx)
  (fSeq (fSetO 4 (fC (.dic [] [])))
  (fSeq (fFor (fEnum (aCons (fVar 3) aNil)) (gSeq 2 (gsCons (gSet 5) (gsCons (gSet 6) gsNil)))
  (fSeq (fIte (fNot (asB (fCall m_is_row (aCons (fVar 6) (aCons (fVar 1) (aCons (fVar 2) aNil))))))
  fNo
  fNx)
  (fStO uSetN 4 (fC (.bl true)) (fVar 6))))
  (fSeq (fFldO [(0, 0), (1, 0), (3, 0)] 0 (fVar 1))
  (fSeq (fFldO [(0, 1), (3, 1)] 0 (fVar 2))
  (fSeq (fFldO [(0, 2), (3, 2)] 0 (fCall bSortA (aCons (fVarQ 4) aNil)))
  (fFz 4 (fFldO [(0, 3)] 0 (fVar 4)))))))))))
def m_Table_init : FC := mInit 0 N_Table_init 4 f_Table_init
def N__law_program_table : List Str := ["width", "table"]
def ps__law_program_table : List Str := ["width", "table"]
def f__law_program_table : FS := (fRet (fCall m_Table_init (aCons (fVar 0) (aCons (fOp oIx (fVarQ 1) (fC (.int 0))) (aCons (fCall bList (aCons (fOp oIx (fVarQ 1) (fC (.int 1))) aNil)) aNil)))))
def m__law_program_table : FC := mOf N__law_program_table 2 f__law_program_table
def N__law_program_book : List Str := ["width", "tables", "table"]
def ps__law_program_book : List Str := ["width", "tables"]
def f__law_program_book : FS := (fRet (fCall m_Book_init (aCons (fVar 0) (aCons (fComp (fIt (fVar 1)) (gSet 2) fYes (fCall m__law_program_table (aCons (fVar 0) (aCons (fVar 2) aNil))) [2]) aNil))))
def m__law_program_book : FC := mOf N__law_program_book 2 f__law_program_book
def N__law_agrees : List Str := ["width", "arity", "cells", "row", "value", "one"]
def ps__law_agrees : List Str := ["width", "arity", "cells"]
def f__law_agrees : FS := (fSeq (fFor (fIt (fCall m__law_all (aCons (fVar 0) (aCons (fVar 1) aNil)))) (gSet 3)
  (fFor (fRg1 (aCons (fVarQ 0) aNil)) (gSet 4)
  (fIte (fAnd (asB (fOp oLe (fLenQ (fComp (fIt (fVar 3)) (gSet 5) (asB (fOp oNe (fVarQ 5) (fVarQ 4))) (fVar 5) [5])) (fC (.int 1)))) (asB (fOp oNe (fCall m__law_cell (aCons (fVar 0) (aCons (fVar 2) (aCons (fVar 3) aNil)))) (fVarQ 4))))
  (fRet (fC (.bl false)))
  fNx)))
  (fRet (fOp oGe (fVarQ 1) (fC (.int 3)))))
def m__law_agrees : FC := mOf N__law_agrees 3 f__law_agrees
def N__law_keeps : List Str := ["width", "operation", "rows", "arity", "cells", "some"]
def ps__law_keeps : List Str := ["width", "operation", "rows"]
def f__law_keeps : FS := (fSeq (fAsg (fVar 1) (gSeq 2 (gsCons (gSet 3) (gsCons (gSet 4) gsNil))))
  (fRet (fOp oEq (fComp (fIt (fCall m__law_together (aCons (fVar 2) (aCons (fVar 3) aNil)))) (gSet 5) (asB (fOp (oInQ true) (fCall m__law_given (aCons (fVar 0) (aCons (fVar 4) (aCons (fVar 5) aNil)))) (fVarQ 2))) (fVar 5) [5]) (fLst aNil))))
def m__law_keeps : FC := mOf N__law_keeps 3 f__law_keeps
def N_check_near : List Str := ["puzzle", "near"]
def ps_check_near : List Str := ["puzzle", "near"]
def f_check_near : FS := (fIte (fOr (fNot (asB (fCall m_within (aCons (fVar 1) (aCons (fC (.int 2)) (aCons (fC (.int 3)) aNil)))))) (fAnd (asB (fOp oEq (fVarQ 1) (fC (.int 3)))) (asB (fOp oGt (fFld [(0, 0), (1, 0), (3, 0)] (fFld [(2, 0)] (fVarQ 0))) (fC (.int 2))))))
  fNo
  fNx)
def m_check_near : FC := mOf N_check_near 2 f_check_near
def N_is_use : List Str := ["value", "book", "places"]
def ps_is_use : List Str := ["value", "book", "places"]
def f_is_use : FS := (fSeq (fIte (fOr (fNot (asB (fIsi (fun s => isaB s "tuple") (tc_none 4) (fVarQ 0)))) (fOr (asB (fOp oNe (fLenQ (fVarQ 0)) (fC (.int 2)))) (fNot (asB (fCall m_within (aCons (fOp oIx (fVarQ 0) (fC (.int 0))) (aCons (fC (.int 0)) (aCons (fOp oSub (fLenQ (fVarQ 1)) (fC (.int 1))) aNil))))))))
  (fRet (fC (.bl false)))
  fNx)
  (fRet (fCall m_is_row (aCons (fOp oIx (fVarQ 0) (fC (.int 1))) (aCons (fVar 2) (aCons (fFld [(0, 1), (3, 1)] (fOp oIx (fVarQ 1) (fOp oIx (fVarQ 0) (fC (.int 0))))) aNil))))))
def m_is_use : FC := mOf N_is_use 3 f_is_use
def N_Puzzle_init : List Str := ["self", "book", "places", "rows", "number", "row"]
def ps_Puzzle_init : List Str := ["self", "book", "places", "rows"]
def f_Puzzle_init : FS := (fSeq (fIte (fNot (asB (fCall m_within (aCons (fVar 2) (aCons (fC (.int 0)) (aCons (fC (.int 60)) aNil))))))
  fNo
  fNx)
  (fSeq (fIte (fNot (asB (fIsi (fun s => isaB s "list") (tc_none 4) (fVarQ 3))))
  fNo
  fNx)
  (fSeq (fFor (fEnum (aCons (fVar 3) aNil)) (gSeq 2 (gsCons (gSet 4) (gsCons (gSet 5) gsNil)))
  (fIte (fNot (asB (fCall m_is_use (aCons (fVar 5) (aCons (fVar 1) (aCons (fVar 2) aNil))))))
  fNo
  fNx))
  (fSeq (fFldO [(2, 0)] 0 (fVar 1))
  (fSeq (fFldO [(2, 1)] 0 (fVar 2))
  (fFldO [(2, 2)] 0 (fCall bList (aCons (fVarQ 3) aNil))))))))
def m_Puzzle_init : FC := mInit 2 N_Puzzle_init 4 f_Puzzle_init
def N_tuples_of : List Str := ["width", "length", "found", "turn", "one", "value"]
def ps_tuples_of : List Str := ["width", "length"]
def f_tuples_of : FS := (fSeq (fSet 2 (fLst (aCons (fTup aNil) aNil)))
  (fSeq (fFor (fRg1 (aCons (fVarQ 1) aNil)) (gSet 3)
  (fSet 2 (fComp2 (fIt (fVar 2)) (gSet 4) fYes (fRg1 (aCons (fVarQ 0) aNil)) (gSet 5) fYes (fOp oAdd (fVarQ 4) (fTup (aCons (fVar 5) aNil))) [4, 5] [5])))
  (fRet (fVar 2))))
def m_tuples_of : FC := mOf N_tuples_of 2 f_tuples_of
def N_odd_ones : List Str := ["arguments", "counts", "value"]
def ps_odd_ones : List Str := ["arguments"]
def f_odd_ones : FS := (fSeq (fSet 1 (fCall bSortA (aCons (fComp (fIt (fVar 0)) (gSet 2) fYes (fTup (aCons (fMdT mCountT (fVarQ 0) (aCons (fVarQ 2) aNil)) (aCons (fVar 2) aNil))) [2]) aNil)))
  (fRet (fTup (aCons (fOp oSub (fLenQ (fVarQ 0)) (fOp oIx (fOp oIx (fVarQ 1) (fNeg (fC (.int 1)))) (fC (.int 0)))) (aCons (fOp oIx (fOp oIx (fVarQ 1) (fNeg (fC (.int 1)))) (fC (.int 1))) aNil)))))
def m_odd_ones : FC := mOf N_odd_ones 1 f_odd_ones
def N_Operation_agrees : List Str := ["self", "arguments", "value", "odd", "most"]
def ps_Operation_agrees : List Str := ["self"]
def f_Operation_agrees : FS := (fSeq (fIte (asB (fOp oLt (fFld [(0, 1), (3, 1)] (fVarQ 0)) (fC (.int 3))))
  (fRet (fC (.bl false)))
  fNx)
  (fSeq (fFor (fZip (aCons (fCall m_tuples_of (aCons (fFld [(0, 0), (1, 0), (3, 0)] (fVarQ 0)) (aCons (fFld [(0, 1), (3, 1)] (fVarQ 0)) aNil))) (aCons (fFld [(0, 2), (3, 2)] (fVarQ 0)) aNil))) (gSeq 2 (gsCons (gSet 1) (gsCons (gSet 2) gsNil)))
  (fSeq (fAsg (fCall m_odd_ones (aCons (fVar 1) aNil)) (gSeq 2 (gsCons (gSet 3) (gsCons (gSet 4) gsNil))))
  (fIte (fAnd (asB (fOp oLe (fVarQ 3) (fC (.int 1)))) (asB (fOp oNe (fVarQ 2) (fVarQ 4))))
  (fRet (fC (.bl false)))
  fNx)))
  (fRet (fC (.bl true)))))
def m_Operation_agrees : FC := mOf N_Operation_agrees 1 f_Operation_agrees
def ms_agrees_Operation : Ms := fun j => match j with | 3 => some m_Operation_agrees | _ => none
def N_Book_tables : List Str := ["self"]
def ps_Book_tables : List Str := ["self"]
def f_Book_tables : FS := (fRet (fCall bList (aCons (fFld [(1, 1)] (fVarQ 0)) aNil)))
def m_Book_tables : FC := mOf N_Book_tables 1 f_Book_tables
def ms_tables_Book : Ms := fun j => match j with | 1 => some m_Book_tables | _ => none
def N_rows_together : List Str := ["rows", "many", "found", "turn", "one", "row"]
def ps_rows_together : List Str := ["rows", "many"]
def f_rows_together : FS := (fSeq (fSet 2 (fLst (aCons (fTup aNil) aNil)))
  (fSeq (fFor (fRg1 (aCons (fVarQ 1) aNil)) (gSet 3)
  (fSet 2 (fComp2 (fIt (fVar 2)) (gSet 4) fYes (fIt (fVar 0)) (gSet 5) fYes (fOp oAdd (fVarQ 4) (fTup (aCons (fVar 5) aNil))) [4, 5] [5])))
  (fRet (fVar 2))))
def m_rows_together : FC := mOf N_rows_together 2 f_rows_together
def N_Table_rows : List Str := ["self"]
def ps_Table_rows : List Str := ["self"]
def f_Table_rows : FS := (fRet (fCall bList (aCons (fFld [(0, 2), (3, 2)] (fVarQ 0)) aNil)))
def m_Table_rows : FC := mOf N_Table_rows 1 f_Table_rows
def N_Puzzle_rows : List Str := ["self"]
def ps_Puzzle_rows : List Str := ["self"]
def f_Puzzle_rows : FS := (fRet (fCall bList (aCons (fFld [(2, 2)] (fVarQ 0)) aNil)))
def m_Puzzle_rows : FC := mOf N_Puzzle_rows 1 f_Puzzle_rows
def ms_rows_Table_Puzzle : Ms := fun j => match j with | 0 => some m_Table_rows | 2 => some m_Puzzle_rows | _ => none
def N_Table_contains : List Str := ["self", "row"]
def ps_Table_contains : List Str := ["self", "row"]
def f_Table_contains : FS := (fRet (fAndV (fCall m_is_row (aCons (fVar 1) (aCons (fFld [(0, 0), (1, 0), (3, 0)] (fVarQ 0)) (aCons (fFld [(0, 1), (3, 1)] (fVarQ 0)) aNil)))) (fOp (oInQ false) (fVarQ 1) (fFld [(0, 3)] (fVarQ 0)))))
def m_Table_contains : FC := mOf N_Table_contains 2 f_Table_contains
def ms_contains_Table : Ms := fun j => match j with | 0 => some m_Table_contains | _ => none
def N_columns : List Str := ["some"]
def ps_columns : List Str := ["some"]
def f_columns : FS := (fRet (fCall bTuple (aCons (fLstZip (fVar 0)) aNil)))
def m_columns : FC := mOf N_columns 1 f_columns
def N_cell_of : List Str := ["width", "arguments", "at", "value"]
def ps_cell_of : List Str := ["width", "arguments"]
def f_cell_of : FS := (fSeq (fSet 2 (fC (.int 0)))
  (fSeq (fFor (fIt (fVar 1)) (gSet 3)
  (fSet 2 (fOp oAdd (fOp oMul (fVarQ 2) (fVarQ 0)) (fVarQ 3))))
  (fRet (fVar 2))))
def m_cell_of : FC := mOf N_cell_of 2 f_cell_of
def N_Operation_call : List Str := ["self", "arguments"]
def ps_Operation_call : List Str := ["self", "arguments"]
def f_Operation_call : FS := (fSeq (fIte (fNot (asB (fCall m_is_row (aCons (fVar 1) (aCons (fFld [(0, 0), (1, 0), (3, 0)] (fVarQ 0)) (aCons (fFld [(0, 1), (3, 1)] (fVarQ 0)) aNil))))))
  fNo
  fNx)
  (fRet (fOp oIx (fFld [(0, 2), (3, 2)] (fVarQ 0)) (fCall m_cell_of (aCons (fFld [(0, 0), (1, 0), (3, 0)] (fVarQ 0)) (aCons (fVar 1) aNil))))))
def m_Operation_call : FC := mOf N_Operation_call 2 f_Operation_call
def ms_call_Operation : Ms := fun j => match j with | 3 => some m_Operation_call | _ => none
def N_breaks : List Str := ["operation", "table", "some", "column"]
def ps_breaks : List Str := ["operation", "table"]
def f_breaks : FS := (fSeq (fIte (asB (fOp oNe (fFld [(0, 0), (1, 0), (3, 0)] (fVarQ 0)) (fFld [(0, 0), (1, 0), (3, 0)] (fVarQ 1))))
  fNo
  fNx)
  (fSeq (fFor (fIt (fCall m_rows_together (aCons (fProp ms_rows_Table_Puzzle (fVar 1)) (aCons (fFld [(0, 1), (3, 1)] (fVarQ 0)) aNil)))) (gSet 2)
  (fIte (asB (fOp (oInA ms_contains_Table true) (fCall bTuple (aCons (fComp (fIt (fCall m_columns (aCons (fVar 2) aNil))) (gSet 3) fYes (fInst ms_call_Operation (fVar 0) (aCons (fVar 3) aNil)) [3]) aNil)) (fVar 1)))
  (fRet (fCall bList (aCons (fVarQ 2) aNil)))
  fNx))
  (fRet (fC .non))))
def m_breaks : FC := mOf N_breaks 2 f_breaks
def N_shows_agreement : List Str := ["book", "near", "value", "table"]
def ps_shows_agreement : List Str := ["book", "near", "value"]
def f_shows_agreement : FS := (fSeq (fDrop (fCall m_check_near (aCons (fCall m_Puzzle_init (aCons (fVar 0) (aCons (fC (.int 0)) (aCons (fLst aNil) aNil)))) (aCons (fVar 1) aNil))))
  (fSeq (fIte (fOr (fNot (asB (fIsi (fun _ => false) (tc_cls 4 3) (fVarQ 2)))) (fOr (asB (fOp oNe (fFld [(0, 0), (1, 0), (3, 0)] (fVarQ 2)) (fFld [(0, 0), (1, 0), (3, 0)] (fVarQ 0)))) (asB (fOp oNe (fFld [(0, 1), (3, 1)] (fVarQ 2)) (fOp oAdd (fVarQ 1) (fC (.int 1)))))))
  (fRet (fC (.bl false)))
  fNx)
  (fRet (fAndV (fMeth ms_agrees_Operation (fVar 2) aNil) (fCall bAll (aCons (fComp (fIt (fProp ms_tables_Book (fVar 0))) (gSet 3) fYes (fOp oIs (fCall m_breaks (aCons (fVar 2) (aCons (fVar 3) aNil))) (fC .non)) [3]) aNil))))))
def m_shows_agreement : FC := mOf N_shows_agreement 3 f_shows_agreement
def N_Operation_init : List Str := ["self", "width", "arity", "cells", "number", "value"]
def ps_Operation_init : List Str := ["self", "width", "arity", "cells"]
def f_Operation_init : FS := (fSeq (fDrop (fCall m_check_width (aCons (fVar 1) aNil)))
  (fSeq (fDrop (fCall m_check_arity (aCons (fVar 2) (aCons (fC (.int 4)) aNil))))
  (fSeq (fIte (fNot (asB (fIsi (fun s => isaB s "list") (tc_none 4) (fVarQ 3))))
  fNo
  fNx)
  (fSeq (fIte (asB (fOp oNe (fLenQ (fVarQ 3)) (fLenQ (fCall m_tuples_of (aCons (fVar 1) (aCons (fVar 2) aNil))))))
  fNo
  fNx)
  (fSeq (fFor (fEnum (aCons (fVar 3) aNil)) (gSeq 2 (gsCons (gSet 4) (gsCons (gSet 5) gsNil)))
  (fIte (fNot (asB (fCall m_within (aCons (fVar 5) (aCons (fC (.int 0)) (aCons (fOp oSub (fVarQ 1) (fC (.int 1))) aNil))))))
  fNo
  fNx))
  (fSeq (fFldO [(0, 0), (1, 0), (3, 0)] 0 (fVar 1))
  (fSeq (fFldO [(0, 1), (3, 1)] 0 (fVar 2))
  (fFldO [(0, 2), (3, 2)] 0 (fCall bList (aCons (fVarQ 3) aNil))))))))))
def m_Operation_init : FC := mInit 3 N_Operation_init 4 f_Operation_init
def N_Table_eq : List Str := ["self", "other"]
def ps_Table_eq : List Str := ["self", "other"]
def f_Table_eq : FS := (fSeq (fIte (fNot (asB (fIsi (fun _ => false) (tc_cls 4 0) (fVarQ 1))))
  (fRet (fC (.bl false)))
  fNx)
  (fRet (fOp oEq (fTup (aCons (fFld [(0, 0), (1, 0), (3, 0)] (fVarQ 0)) (aCons (fFld [(0, 1), (3, 1)] (fVarQ 0)) (aCons (fFld [(0, 2), (3, 2)] (fVarQ 0)) aNil)))) (fTup (aCons (fFld [(0, 0), (1, 0), (3, 0)] (fVarQ 1)) (aCons (fFld [(0, 1), (3, 1)] (fVarQ 1)) (aCons (fFld [(0, 2), (3, 2)] (fVarQ 1)) aNil)))))))
def m_Table_eq : FC := mOf N_Table_eq 2 f_Table_eq
def ms_eq_Table : Ms := fun j => match j with | 0 => some m_Table_eq | _ => none
def N_Book_eq : List Str := ["self", "other"]
def ps_Book_eq : List Str := ["self", "other"]
def f_Book_eq : FS := (fRet (fAndV (fIsi (fun _ => false) (tc_cls 4 1) (fVarQ 1)) (fAndV (fOp oEq (fFld [(0, 0), (1, 0), (3, 0)] (fVarQ 0)) (fFld [(0, 0), (1, 0), (3, 0)] (fVarQ 1))) (fOp (oEqM ms_eq_Table) (fFld [(1, 1)] (fVarQ 0)) (fFld [(1, 1)] (fVarQ 1))))))
def m_Book_eq : FC := mOf N_Book_eq 2 f_Book_eq
def ms_eq_Book : Ms := fun j => match j with | 1 => some m_Book_eq | _ => none
def N_Operation_taking : List Str := ["width", "arity", "at", "arguments"]
def ps_Operation_taking : List Str := ["width", "arity", "at"]
def f_Operation_taking : FS := (fSeq (fDrop (fCall m_check_width (aCons (fVar 0) aNil)))
  (fSeq (fDrop (fCall m_check_arity (aCons (fVar 1) (aCons (fC (.int 4)) aNil))))
  (fSeq (fIte (fNot (asB (fCall m_within (aCons (fVar 2) (aCons (fC (.int 0)) (aCons (fOp oSub (fVarQ 1) (fC (.int 1))) aNil))))))
  fNo
  fNx)
  (fRet (fCall m_Operation_init (aCons (fVar 0) (aCons (fVar 1) (aCons (fComp (fIt (fCall m_tuples_of (aCons (fVar 0) (aCons (fVar 1) aNil)))) (gSet 3) fYes (fOp oIx (fVarQ 3) (fVarQ 2)) [3]) aNil))))))))
def m_Operation_taking : FC := mOf N_Operation_taking 3 f_Operation_taking
def N__law_other_number_refused : List Str := ["feed", "width", "near", "many", "made", "same", "tables", "value"]
def ps__law_other_number_refused : List Str := ["feed", "width", "near"]
def f__law_other_number_refused : FS := (fSeq (fSet 3 (fIf (asB (fOp oEq (fVarQ 2) (fC (.int 2)))) (fC (.int 4)) (fC (.int 3))))
  (fSeq (fSet 4 (fCall m_Operation_init (aCons (fVar 1) (aCons (fVar 3) (aCons (fCall m__law_agreement (aCons (fVar 0) (aCons (fVar 1) (aCons (fVar 3) aNil)))) aNil)))))
  (fSeq (fSet 5 (fLst (aCons (fLst (aCons (fC (.int 1)) (aCons (fCall m__law_all (aCons (fVar 1) (aCons (fC (.int 1)) aNil))) aNil))) (aCons (fLst (aCons (fC (.int 2)) (aCons (fComp (fRg1 (aCons (fVarQ 1) aNil)) (gSet 7) fYes (fTup (aCons (fVar 7) (aCons (fVar 7) aNil))) [7]) aNil))) aNil))))
  (fSeq (fFor (fIt (fTup (aCons (fLst aNil) (aCons (fVar 5) aNil)))) (gSet 6)
  (fIte (asB (fOp oIsNot (fCall m_shows_agreement (aCons (fCall m__law_program_book (aCons (fVar 1) (aCons (fVar 6) aNil))) (aCons (fVar 2) (aCons (fVar 4) aNil)))) (fC (.bl false))))
  (fRet (fC (.bl false)))
  fNx))
  (fRet (fC (.bl true)))))))
def m__law_other_number_refused : FC := mOf N__law_other_number_refused 3 f__law_other_number_refused
def N_Table_full : List Str := ["width", "arity"]
def ps_Table_full : List Str := ["width", "arity"]
def f_Table_full : FS := (fSeq (fDrop (fCall m_check_width (aCons (fVar 0) aNil)))
  (fSeq (fDrop (fCall m_check_arity (aCons (fVar 1) (aCons (fC (.int 3)) aNil))))
  (fRet (fCall m_Table_init (aCons (fVar 0) (aCons (fVar 1) (aCons (fCall m_tuples_of (aCons (fVar 0) (aCons (fVar 1) aNil))) aNil)))))))
def m_Table_full : FC := mOf N_Table_full 2 f_Table_full
def N_law : List Str := (["script", "k", "feed", "width", "near", "cells", "tables", "arity", "rows", "at", "book", "other", "one", "due", "lone", "told", "wide", "odd"] : List Str) ++ (["bad", "table", "row"] : List Str)
def ps_law : List Str := ["script"]
def f_law : FS := (fSeq (fFor (fRg1 (aCons (fCall bMax (aCons (fC (.int 1)) (aCons (fCall bMin (aCons (fC (.int 2)) (aCons (fLenQ (fVarQ 0)) aNil))) aNil))) aNil)) (gSet 1)
  (fSeq (fSet 2 (fCall m__law_feed (aCons (fVar 0) (aCons (fVar 1) aNil))))
  (fSeq (fSet 3 (fCall m__law_width (aCons (fVar 2) aNil)))
  (fSeq (fSet 4 (fIf (asB (fOp oLt (fVarQ 3) (fC (.int 3)))) (fCall m__law_pick (aCons (fVar 2) (aCons (fLst (aCons (fC (.int 2)) (aCons (fC (.int 2)) (aCons (fC (.int 3)) aNil)))) aNil))) (fC (.int 2))))
  (fSeq (fAsg (fCall m__law_agreeing (aCons (fVar 2) (aCons (fVar 3) (aCons (fVar 4) (aCons (fIf (asB (fOp oEq (fVarQ 4) (fC (.int 2)))) (fC (.int 3)) (fC (.int 2))) aNil))))) (gSeq 2 (gsCons (gSet 5) (gsCons (gSet 6) gsNil))))
  (fSeq (fSetO 6 (fComp (fIt (fVarQ 6)) (gSet 19) (asB (fOp oLe (fLenQ (fOp oIx (fVarQ 19) (fC (.int 1)))) (fIf (asB (fOp oEq (fVarQ 4) (fC (.int 2)))) (fC (.int 9)) (fC (.int 6))))) (fVar 19) [19]))
  (fSeq (fIte (fAnd (asB (fOp oNe (fVarQ 6) (fLst aNil))) (asB (fOp oEq (fCall m__law_take (aCons (fVar 2) (aCons (fC (.int 3)) aNil))) (fC (.int 0)))))
  (fSeq (fAsgO "list" uPop 6 (aCons (fCall m__law_take (aCons (fVar 2) (aCons (fLenQ (fVarQ 6)) aNil))) aNil) (gSeq 2 (gsCons (gSet 7) (gsCons (gSet 8) gsNil))))
  (fSeq (fSet 9 (fCall m__law_take (aCons (fVar 2) (aCons (fOp oAdd (fLenQ (fVarQ 8)) (fC (.int 1))) aNil))))
  (fMutO "list" uApp 6 (aCons (fLst (aCons (fVar 7) (aCons (fOp oAdd (fSl (fVarQ 8) oNone (oSome (fVar 9))) (fSl (fVarQ 8) (oSome (fOp oAdd (fVarQ 9) (fC (.int 1)))) oNone)) aNil))) aNil))))
  fNx)
  (fSeq (fFz 6 (fPar 10 11 (xF (fCall m__law_program_book (aCons (fVar 3) (aCons (fVar 6) aNil)))) (xO (fCall bList (aCons (fVarQ 5) aNil)))))
  (fSeq (fStO uSetL 11 (fCall m__law_take (aCons (fVar 2) (aCons (fVar 3) aNil))) (fCall m__law_take (aCons (fVar 2) (aCons (fLenQ (fVarQ 5)) aNil))))
  (fSeq (fFz 11 (fFor (fIt (fTup (aCons (fVar 5) (aCons (fVar 11) (aCons (fCall m__law_agreement (aCons (fVar 2) (aCons (fVar 3) (aCons (fOp oAdd (fVarQ 4) (fC (.int 1))) aNil)))) aNil))))) (gSet 12)
  (fSeq (fSet 13 (fCall m__law_agrees (aCons (fVar 3) (aCons (fOp oAdd (fVarQ 4) (fC (.int 1))) (aCons (fVar 12) aNil)))))
  (fSeq (fSet 14 (fComp (fIt (fVarQ 6)) (gSeq 2 (gsCons (gSet 7) (gsCons (gSet 8) gsNil))) (fNot (asB (fCall m__law_keeps (aCons (fVar 3) (aCons (fLst (aCons (fOp oAdd (fVarQ 4) (fC (.int 1))) (aCons (fVar 12) aNil))) (aCons (fVar 8) aNil)))))) (fVar 8) [7, 8]))
  (fSeq (fSet 15 (fCall m_shows_agreement (aCons (fVar 10) (aCons (fVar 4) (aCons (fCall m_Operation_init (aCons (fVar 3) (aCons (fOp oAdd (fVarQ 4) (fC (.int 1))) (aCons (fCall bList (aCons (fVarQ 12) aNil)) aNil)))) aNil)))))
  (fIte (fOr (fNot (asB (fIsi (fun s => isaB s "bool") (tc_none 4) (fVarQ 15)))) (asB (fOp oNe (fVarQ 15) (fAndV (fVar 13) (fOp oEq (fVarQ 14) (fLst aNil))))))
  (fRet (fC (.bl false)))
  fNx))))))
  (fSeq (fFz 6 (fIte (asB (fOp (oNeM ms_eq_Book) (fVar 10) (fCall m__law_program_book (aCons (fVar 3) (aCons (fVar 6) aNil)))))
  (fRet (fC (.bl false)))
  fNx))
  (fSeq (fSet 16 (fOp oAdd (fOp oMod (fCall bIntS (aCons (fVarQ 3) aNil)) (fC (.int 3))) (fC (.int 1))))
  (fSeq (fSet 17 (fLst (aCons (fC .non) (aCons (fVar 5) (aCons (fC (.str "agreement")) (aCons (fC (.int 0)) (aCons (fLst (aCons (fCall m_Operation_init (aCons (fVar 3) (aCons (fOp oAdd (fVarQ 4) (fC (.int 1))) (aCons (fVar 5) aNil)))) aNil)) (aCons (fCall m_Operation_taking (aCons (fVar 3) (aCons (fC (.int 2)) (aCons (fC (.int 0)) aNil)))) aNil))))))))
  (fSeq (fSet 17 (fOp oAdd (fVarQ 17) (fLst (aCons (fCall m_Operation_init (aCons (fVar 16) (aCons (fC (.int 3)) (aCons (fComp (fIt (fCall m__law_all (aCons (fVar 16) (aCons (fC (.int 3)) aNil)))) (gSet 20) fYes (fC (.int 0)) [20]) aNil)))) aNil))))
  (fSeq (fSet 17 (fOp oAdd (fVarQ 17) (fLst (aCons (fCall m_Operation_taking (aCons (fVar 3) (aCons (fOp oAdd (fVarQ 4) (fC (.int 1))) (aCons (fC (.int 1)) aNil)))) (aCons (fCall m_Operation_taking (aCons (fVar 3) (aCons (fC (.int 1)) (aCons (fC (.int 0)) aNil)))) aNil)))))
  (fSeq (fFor (fIt (fVar 17)) (gSet 18)
  (fSeq (fSet 13 (fAndV (fOp oEq (fVarQ 3) (fC (.int 1))) (fAndV (fIsi (fun _ => false) (tc_cls 4 3) (fVarQ 18)) (fAndV (fOp oEq (fFld [(0, 0), (1, 0), (3, 0)] (fVarQ 18)) (fC (.int 1))) (fOp oEq (fFld [(0, 1), (3, 1)] (fVarQ 18)) (fOp oAdd (fVarQ 4) (fC (.int 1))))))))
  (fIte (asB (fOp oNe (fCall m_shows_agreement (aCons (fVar 10) (aCons (fVar 4) (aCons (fVar 18) aNil)))) (fVarQ 13)))
  (fRet (fC (.bl false)))
  fNx)))
  (fSeq (fIte (fNot (asB (fCall m__law_other_number_refused (aCons (fVar 2) (aCons (fVar 3) (aCons (fVar 4) aNil))))))
  (fRet (fC (.bl false)))
  fNx)
  (fFor (fIt (fTup (aCons (fVar 10) (aCons (fCall m_Table_full (aCons (fVar 3) (aCons (fC (.int 1)) aNil))) (aCons (fTup (aCons (fC (.int 1)) aNil)) (aCons (fLst (aCons (fCall m_Table_full (aCons (fVar 3) (aCons (fC (.int 1)) aNil))) aNil)) aNil)))))) (gSet 18)
  (fIte (asB (fOp oIsNot (fCall m_shows_agreement (aCons (fVar 10) (aCons (fVar 4) (aCons (fVar 18) aNil)))) (fC (.bl false))))
  (fRet (fC (.bl false)))
  fNx)))))))))))))))))))
  (fRet (fC (.bl true))))
def m_law : FC := mOf N_law 1 f_law
structure Pg (T : Tb) : Prop where
  g_len : T.mg "len" = none
  g_min : T.mg "min" = none
  g_max : T.mg "max" = none
  g_range : T.mg "range" = none
  g_abs : T.mg "abs" = none
  g_int : T.mg "int" = none
  g_sorted : T.mg "sorted" = none
  g_set : T.mg "set" = none
  g_tuple : T.mg "tuple" = none
  isi_int : Isi T "int" (fun s => isaB s "int") (tc_none 4)
  g_isinstance : T.mg "isinstance" = none
  isi_bool : Isi T "bool" (fun s => isaB s "bool") (tc_none 4)
  c_MOST_WIDTH : ∃ t, T.mg "MOST_WIDTH" = some (.int 3 t)
  isi_list : Isi T "list" (fun s => isaB s "list") (tc_none 4)
  g_enumerate : T.mg "enumerate" = none
  isi_Table : Isi T "Table" (fun _ => false) (tc_cls 4 0)
  acc_width : Acc T "width" [(0, 0), (1, 0), (3, 0)]
  g_list : T.mg "list" = none
  acc_kept_tables : Acc T "kept_tables" [(1, 1)]
  c_MOST_ARITY : ∃ t, T.mg "MOST_ARITY" = some (.int 3 t)
  isi_tuple : Isi T "tuple" (fun s => isaB s "tuple") (tc_none 4)
  g_all : T.mg "all" = none
  acc_arity : Acc T "arity" [(0, 1), (3, 1)]
  acc_held : Acc T "held" [(0, 2), (3, 2)]
  acc_there : Acc T "there" [(0, 3)]
  acc_book : Acc T "book" [(2, 0)]
  c_MOST_PLACES : ∃ t, T.mg "MOST_PLACES" = some (.int 60 t)
  acc_places : Acc T "places" [(2, 1)]
  acc_kept_rows : Acc T "kept_rows" [(2, 2)]
  isi_Operation : Isi T "Operation" (fun _ => false) (tc_cls 4 3)
  g_zip : T.mg "zip" = none
  c_MOST_ARGUMENTS : ∃ t, T.mg "MOST_ARGUMENTS" = some (.int 4 t)
  isi_Book : Isi T "Book" (fun _ => false) (tc_cls 4 1)
  still_ms_eq_Table : Still ms_eq_Table
  ne_ms_eq_Book : ∀ j m, ms_eq_Book j = some m → NeC T.K (T.cl j)
  cl_Operation : T.mg "Operation" = some (.ref (T.cl 3))
  cl_Table : T.mg "Table" = some (.ref (T.cl 0))
  flen : ∀ k, (T.fl k).length < 1000
theorem d__law_feed {T : Tb} (P : Pg T) : Der T 0 N__law_feed "_law_feed" s__law_feed f__law_feed := fun f cdv A outer s H E =>
  (tb_cons (ts_set 2 (tr_if (tt_cmp op_oLt (tq_var 1) (TrE.q (tr_lenQ (tq_var 0) P.g_len))) (tr_ix ix_oIx (tq_var 0) (tq_var 1)) (tr_op op_oAdd (TrE.q (tr_op op_oMul (TrE.q tr_int) (tq_var 1))) (TrE.q tr_int))))
  (tb_cons (ts_set 3 (tr_cb cr_bMax (tqa_cons (TrE.q tr_int) (tqa_cons (TrE.q (tr_op op_oSub (TrE.q (tr_cb cr_bAbs (tqa_cons (tq_var 2) tqa_nil) P.g_abs)) (TrE.q (tr_op op_oPow (TrE.q tr_int) (TrE.q tr_int))))) tqa_nil)) P.g_max))
  (tb_cons (ts_set 4 (tr_op op_oMod (TrE.q (tr_ct cr_bIntS (tqa_cons (TrE.q (tr_op op_oAdd (TrE.q (tr_op op_oAdd (TrE.q (tr_op op_oMul (tq_var 2) (TrE.q tr_int))) (TrE.q (tr_op op_oMul (TrE.q tr_int) (tq_var 1))))) (TrE.q tr_int))) tqa_nil) P.g_int)) (TrE.q tr_int)))
  (tb_one (ts_ret (TrN.cl (tr_lst (ta_cons (tr_var 3) (ta_cons (tr_var 4) ta_nil)))))))))
theorem d__law_take {T : Tb} (P : Pg T) : Der T 0 N__law_take "_law_take" s__law_take f__law_take := fun f cdv A outer s H E =>
  (tb_cons (ts_if (tt_cmp op_oGt (TrE.q (tr_ix ix_oIx (tq_var 0) (TrE.q tr_int))) (TrE.q tr_int))
  (tb_cons (ts_set 2 (tr_op op_oMod (TrE.q (tr_ct cr_bIntS (tqa_cons (TrE.q (tr_ix ix_oIx (tq_var 0) (TrE.q tr_int))) tqa_nil) P.g_int)) (tq_var 1)))
  (tb_cons (ts_stC (fun _ => set_uSetL) (tr_op op_oFdiv (TrE.q (tr_ix ix_oIx (tq_var 0) (TrE.q tr_int))) (tq_var 1)) (tr_var 0) tr_int)
  (tb_one (ts_ret (tr_var 2)))))
  tb_nil)
  (tb_cons (ts_stC (fun _ => set_uSetL) (tr_op op_oMod (TrE.q (tr_ct cr_bIntS (tqa_cons (TrE.q (tr_op op_oAdd (TrE.q (tr_op op_oMul (TrE.q (tr_ix ix_oIx (tq_var 0) (TrE.q tr_int))) (TrE.q tr_int))) (TrE.q tr_int))) tqa_nil) P.g_int)) (TrE.q tr_int)) (tr_var 0) tr_int)
  (tb_one (ts_ret (tr_op op_oMod (TrE.q (tr_ct cr_bIntS (tqa_cons (TrE.q (tr_op op_oFdiv (TrE.q (tr_ix ix_oIx (tq_var 0) (TrE.q tr_int))) (TrE.q tr_int))) tqa_nil) P.g_int)) (tq_var 1))))))
theorem d__law_pick {T : Tb} (P : Pg T) (F__law_take : Fn T 1 "_law_take" ps__law_take m__law_take) : Der T 1 N__law_pick "_law_pick" s__law_pick f__law_pick := fun f cdv A outer s H E =>
  (tb_one (ts_ret (tr_ix ix_oIx (tq_var 1) (TrE.q (tr_call F__law_take (ta_cons (tr_var 0) (ta_cons (tr_lenQ (tq_var 1) P.g_len) ta_nil)))))))
theorem d__law_width {T : Tb} (P : Pg T) (F__law_pick : Fn T 2 "_law_pick" ps__law_pick m__law_pick) : Der T 2 N__law_width "_law_width" s__law_width f__law_width := fun f cdv A outer s H E =>
  (tb_one (ts_ret (tr_call F__law_pick (ta_cons (tr_var 0) (ta_cons (TrN.fz (tr_lst (ta_cons tr_int (ta_cons tr_int (ta_cons tr_int (ta_cons tr_int (ta_cons tr_int (ta_cons tr_int ta_nil)))))))) ta_nil)))))
theorem d__law_all {T : Tb} (P : Pg T) : Der T 0 N__law_all "_law_all" s__law_all f__law_all := fun f cdv A outer s H E =>
  (tb_cons (ts_set 2 (TrN.fz (tr_lst (ta_cons (tr_tup ta_nil) ta_nil))))
  (tb_cons (ts_for (ti_rg1 (tqa_cons (tq_var 1) tqa_nil) P.g_range) (tg_name 3)
  (tb_cons (ts_set 4 (TrN.fz (tr_lst ta_nil)))
  (tb_cons (ts_for (ti_seq (tr_var 2)) (tg_name 5)
  (tb_one (ts_set 4 (tr_op op_oAdd (tq_var 4) (TrE.q (TrN.fz (tn_lc (own := [("value", 6)]) (TrI.q (ti_rg1 (tqa_cons (tq_var 0) tqa_nil) P.g_range)) (by kernel_rfl) (fun _ _ _ _ _ => (tg_name 6)) (fun _ _ _ _ _ => tts_nil) (fun _ _ _ _ _ => (tr_op op_oAdd (tq_var 5) (TrE.q (tr_tup (ta_cons (tr_var 6) ta_nil))))) (by decide))))))))
  (tb_one (ts_set 2 (tr_var 4))))))
  (tb_one (ts_ret (tr_var 2)))))
theorem d__law_agreement {T : Tb} (P : Pg T) (F__law_all : Fn T 1 "_law_all" ps__law_all m__law_all) (F__law_take : Fn T 1 "_law_take" ps__law_take m__law_take) : Der T 1 N__law_agreement "_law_agreement" s__law_agreement f__law_agreement := fun f cdv A outer s H E =>
  (tb_cons (ts_setO 3 (tr_lst ta_nil))
  (tb_cons (ts_for (ti_seq (tr_call F__law_all (ta_cons (tr_var 1) (ta_cons (tr_var 2) ta_nil)))) (tg_name 4)
  (tb_cons (ts_setL 5 (tl_lc (own := [("value", 6)]) (TrI.q (ti_rg1 (tqa_cons (tq_var 1) tqa_nil) P.g_range)) (by kernel_rfl) (fun _ _ _ _ _ => (tg_name 6)) (fun _ _ _ _ _ => (tts_one (tt_cmp op_oGe (TrE.q (tr_lenQ (TrE.q (TrN.fz (tn_lc (own := [("one", 7)]) (TrI.q (ti_seq (tr_var 4))) (by kernel_rfl) (fun _ _ _ _ _ => (tg_name 7)) (fun _ _ _ _ _ => (tts_one (tt_cmp op_oEq (tq_var 7) (tq_var 6)))) (fun _ _ _ _ _ => (tr_var 7)) (by decide)))) P.g_len)) (TrE.q (tr_op op_oSub (tq_var 2) (TrE.q tr_int)))))) (fun _ _ _ _ _ => (tr_var 6)) (by decide)))
  (tb_one (ts_mutO 3 PySem.F.plainAttrs_list PySem.F.slot_list_append PySem.F.type_list_append mt_uApp (ta_cons (tr_if (tt_cmp op_oNe (tq_var 5) (TrE.q (TrN.fz (tr_lst ta_nil)))) (tr_ix ix_oIx (tq_var 5) (TrE.q tr_int)) (tr_call F__law_take (ta_cons (tr_var 0) (ta_cons (tr_var 1) ta_nil)))) ta_nil)))))
  (tb_one (ts_fz 3 (ts_ret (tr_var 3))))))
theorem d__law_together {T : Tb} (P : Pg T) : Der T 0 N__law_together "_law_together" s__law_together f__law_together := fun f cdv A outer s H E =>
  (tb_cons (ts_set 2 (TrN.fz (tr_lst (ta_cons (TrN.fz (tr_lst ta_nil)) ta_nil))))
  (tb_cons (ts_for (ti_rg1 (tqa_cons (tq_var 1) tqa_nil) P.g_range) (tg_name 3)
  (tb_cons (ts_set 4 (TrN.fz (tr_lst ta_nil)))
  (tb_cons (ts_for (ti_seq (tr_var 2)) (tg_name 5)
  (tb_one (ts_set 4 (tr_op op_oAdd (tq_var 4) (TrE.q (TrN.fz (tn_lc (own := [("row", 6)]) (TrI.q (ti_seq (tr_var 0))) (by kernel_rfl) (fun _ _ _ _ _ => (tg_name 6)) (fun _ _ _ _ _ => tts_nil) (fun _ _ _ _ _ => (tr_op op_oAdd (tq_var 5) (TrE.q (TrN.fz (tr_lst (ta_cons (tr_var 6) ta_nil)))))) (by decide))))))))
  (tb_one (ts_set 2 (tr_var 4))))))
  (tb_one (ts_ret (tr_var 2)))))
theorem d__law_cell {T : Tb} (P : Pg T) : Der T 0 N__law_cell "_law_cell" s__law_cell f__law_cell := fun f cdv A outer s H E =>
  (tb_cons (ts_set 3 tr_int)
  (tb_cons (ts_for (ti_seq (tr_var 2)) (tg_name 4)
  (tb_one (ts_set 3 (tr_op op_oAdd (TrE.q (tr_op op_oMul (tq_var 3) (tq_var 0))) (tq_var 4)))))
  (tb_one (ts_ret (tr_ix ix_oIx (tq_var 1) (tq_var 3))))))
theorem d__law_given {T : Tb} (P : Pg T) (F__law_cell : Fn T 1 "_law_cell" ps__law_cell m__law_cell) : Der T 1 N__law_given "_law_given" s__law_given f__law_given := fun f cdv A outer s H E =>
  (tb_one (ts_ret (tr_ct cr_bTuple (tqa_cons (TrE.q (TrN.fz (tn_lc (own := [("at", 3)]) (TrI.q (ti_rg1 (tqa_cons (TrE.q (tr_lenQ (TrE.q (tr_ix ix_oIx (tq_var 2) (TrE.q tr_int))) P.g_len)) tqa_nil) P.g_range)) (by kernel_rfl) (fun _ _ _ _ _ => (tg_name 3)) (fun _ _ _ _ _ => tts_nil) (fun _ _ _ _ _ => (tr_call F__law_cell (ta_cons (tr_var 0) (ta_cons (tr_var 1) (ta_cons (TrN.fz (tn_lc (own := [("row", 4)]) (TrI.q (ti_seq (tr_var 2))) (by kernel_rfl) (fun _ _ _ _ _ => (tg_name 4)) (fun _ _ _ _ _ => tts_nil) (fun _ _ _ _ _ => (tr_ix ix_oIx (tq_var 4) (tq_var 3))) (by decide))) ta_nil))))) (by decide)))) tqa_nil) P.g_tuple)))
theorem d__law_closed {T : Tb} (P : Pg T) (F__law_all : Fn T 1 "_law_all" ps__law_all m__law_all) (F__law_together : Fn T 1 "_law_together" ps__law_together m__law_together) (F__law_given : Fn T 2 "_law_given" ps__law_given m__law_given) : Der T 2 N__law_closed "_law_closed" s__law_closed f__law_closed := fun f cdv A outer s H E =>
  (tb_cons (ts_par 4 5 (TrE.x (TrN.fz (tn_sortSetB (tq_var 3) P.g_sorted P.g_set))) (TrE.x (tr_if (tt_cmp op_oLt (TrE.q (tr_ix ix_oIx (tq_var 1) (TrE.q tr_int))) (TrE.q tr_int)) tr_int tr_int)))
  (tb_cons (ts_for (ti_rg1 (tqa_cons (TrE.q tr_int) tqa_nil) P.g_range) (tg_name 6)
  (tb_cons (ts_if (tt_cmp op_oGt (TrE.q (tr_lenQ (tq_var 4) P.g_len)) (tq_var 5))
  (tb_one (ts_ret (tr_call F__law_all (ta_cons (tr_var 0) (ta_cons (tr_var 2) ta_nil)))))
  tb_nil)
  (tb_cons (ts_setL 7 (tl_lc (own := [("some", 8)]) (TrI.q (ti_seq (tr_call F__law_together (ta_cons (tr_var 4) (ta_cons (tr_ix ix_oIx (tq_var 1) (TrE.q tr_int)) ta_nil))))) (by kernel_rfl) (fun _ _ _ _ _ => (tg_name 8)) (fun _ _ _ _ _ => tts_nil) (fun _ _ _ _ _ => (tr_call F__law_given (ta_cons (tr_var 0) (ta_cons (tr_ix ix_oIx (tq_var 1) (TrE.q tr_int)) (ta_cons (tr_var 8) ta_nil))))) (by decide)))
  (tb_one (ts_set 4 (TrN.fz (tn_sortSetB (TrE.q (tr_op op_oAdd (tq_var 4) (tq_var 7))) P.g_sorted P.g_set)))))))
  (tb_one (ts_ret (tr_var 4)))))
theorem d__law_drawn_row {T : Tb} (P : Pg T) (F__law_take : Fn T 1 "_law_take" ps__law_take m__law_take) : Der T 1 N__law_drawn_row "_law_drawn_row" s__law_drawn_row f__law_drawn_row := fun f cdv A outer s H E =>
  (tb_one (ts_ret (tr_ct cr_bTuple (tqa_cons (TrE.q (TrN.fz (tn_lc (own := [("turn", 3)]) (TrI.q (ti_rg1 (tqa_cons (tq_var 2) tqa_nil) P.g_range)) (by kernel_rfl) (fun _ _ _ _ _ => (tg_name 3)) (fun _ _ _ _ _ => tts_nil) (fun _ _ _ _ _ => (tr_call F__law_take (ta_cons (tr_var 0) (ta_cons (tr_var 1) ta_nil)))) (by decide)))) tqa_nil) P.g_tuple)))
theorem d__law_drawn_rows {T : Tb} (P : Pg T) (F__law_take : Fn T 1 "_law_take" ps__law_take m__law_take) (F__law_drawn_row : Fn T 2 "_law_drawn_row" ps__law_drawn_row m__law_drawn_row) : Der T 2 N__law_drawn_rows "_law_drawn_rows" s__law_drawn_rows f__law_drawn_rows := fun f cdv A outer s H E =>
  (tb_one (ts_ret (TrN.fz (tn_lc (own := [("turn", 4)]) (TrI.q (ti_rg1 (tqa_cons (TrE.q (tr_call F__law_take (ta_cons (tr_var 0) (ta_cons (tr_op op_oAdd (tq_var 3) (TrE.q tr_int)) ta_nil)))) tqa_nil) P.g_range)) (by kernel_rfl) (fun _ _ _ _ _ => (tg_name 4)) (fun _ _ _ _ _ => tts_nil) (fun _ _ _ _ _ => (tr_call F__law_drawn_row (ta_cons (tr_var 0) (ta_cons (tr_var 1) (ta_cons (tr_var 2) ta_nil))))) (by decide)))))
theorem d__law_agreeing {T : Tb} (P : Pg T) (F__law_agreement : Fn T 2 "_law_agreement" ps__law_agreement m__law_agreement) (F__law_take : Fn T 1 "_law_take" ps__law_take m__law_take) (F__law_closed : Fn T 3 "_law_closed" ps__law_closed m__law_closed) (F__law_drawn_rows : Fn T 3 "_law_drawn_rows" ps__law_drawn_rows m__law_drawn_rows) : Der T 3 N__law_agreeing "_law_agreeing" s__law_agreeing f__law_agreeing := fun f cdv A outer s H E =>
  (tb_cons (ts_par 4 5 (TrE.x (tr_call F__law_agreement (ta_cons (tr_var 0) (ta_cons (tr_var 1) (ta_cons (tr_op op_oAdd (tq_var 2) (TrE.q tr_int)) ta_nil))))) (TrN.x (tr_lst ta_nil)))
  (tb_cons (ts_for (ti_rg1 (tqa_cons (TrE.q (tr_call F__law_take (ta_cons (tr_var 0) (ta_cons (tr_op op_oAdd (tq_var 3) (TrE.q tr_int)) ta_nil)))) tqa_nil) P.g_range) (tg_name 6)
  (tb_cons (ts_set 7 (tr_op op_oAdd (TrE.q tr_int) (TrE.q (tr_call F__law_take (ta_cons (tr_var 0) (ta_cons tr_int ta_nil))))))
  (tb_cons (ts_set 8 (tr_call F__law_closed (ta_cons (tr_var 1) (ta_cons (TrN.fz (tr_lst (ta_cons (tr_op op_oAdd (tq_var 2) (TrE.q tr_int)) (ta_cons (tr_var 4) ta_nil)))) (ta_cons (tr_var 7) (ta_cons (tr_call F__law_drawn_rows (ta_cons (tr_var 0) (ta_cons (tr_var 1) (ta_cons (tr_var 7) (ta_cons tr_int ta_nil))))) ta_nil))))))
  (tb_one (ts_mutO 5 PySem.F.plainAttrs_list PySem.F.slot_list_append PySem.F.type_list_append mt_uApp (ta_cons (TrN.fz (tr_lst (ta_cons (tr_var 7) (ta_cons (tr_var 8) ta_nil)))) ta_nil))))))
  (tb_one (ts_fz 5 (ts_ret (TrN.fz (tr_lst (ta_cons (tr_var 4) (ta_cons (tr_var 5) ta_nil)))))))))
theorem d_within {T : Tb} (P : Pg T) : Der T 0 N_within "within" s_within f_within := fun f cdv A outer s H E =>
  (tb_one (ts_ret (tr_and (tr_isi P.isi_int (tq_var 0) P.g_isinstance) (tr_and (tr_not (tr_isi P.isi_bool (tq_var 0) P.g_isinstance)) (tr_one (tr_chain op_oLe op_oLe (tq_var 1) (tq_var 0) (tq_var 2)))))))
theorem d_check_width {T : Tb} (P : Pg T) (F_within : Fn T 1 "within" ps_within m_within) : Der T 1 N_check_width "check_width" s_check_width f_check_width := fun f cdv A outer s H E =>
  (tb_one (ts_if (tt_not (tt_val (tr_call F_within (ta_cons (tr_var 0) (ta_cons tr_int (ta_cons (tr_gint P.c_MOST_WIDTH) ta_nil))))))
  (tb_one ts_never)
  tb_nil))
theorem d_Book_init {T : Tb} (P : Pg T) (F_check_width : Fn T 2 "check_width" ps_check_width m_check_width) : Der T 2 N_Book_init "Book.__init__" s_Book_init f_Book_init := fun f cdv A outer s H E =>
  (tb_cons (ts_expr (tr_call F_check_width (ta_cons (tr_var 1) ta_nil)))
  (tb_cons (ts_if (tt_not (tt_val (tr_isi P.isi_list (tq_var 2) P.g_isinstance)))
  (tb_one ts_never)
  tb_nil)
  (tb_cons (ts_for (ti_enum (ta_cons (tr_var 2) ta_nil) P.g_enumerate) (tg_seq (tgs_cons (tg_name 3) (tgs_cons (tg_name 4) tgs_nil)))
  (tb_one (ts_if (TrW.tt (tw_or (tt_not (tt_val (tr_isi P.isi_Table (tq_var 4) P.g_isinstance))) (tw_or1 (tt_cmp op_oNe (TrE.q (tr_fld P.acc_width (tq_var 4))) (tq_var 1)))))
  (tb_one ts_never)
  tb_nil)))
  (tb_cons (ts_fldO 0 P.acc_width (tr_var 1) P.flen)
  (tb_one (ts_fldO 0 P.acc_kept_tables (TrN.fz (tn_ct cr_bList (tqa_cons (tq_var 2) tqa_nil) P.g_list)) P.flen))))))
theorem d_check_arity {T : Tb} (P : Pg T) (F_within : Fn T 1 "within" ps_within m_within) : Der T 1 N_check_arity "check_arity" s_check_arity f_check_arity := fun f cdv A outer s H E =>
  (tb_one (ts_if (tt_not (tt_val (tr_call F_within (ta_cons (tr_var 0) (ta_cons tr_int (ta_cons (tr_var 1) ta_nil))))))
  (tb_one ts_never)
  tb_nil))
theorem d_is_row {T : Tb} (P : Pg T) (F_within : Fn T 1 "within" ps_within m_within) : Der T 1 N_is_row "is_row" s_is_row f_is_row := fun f cdv A outer s H E =>
  (tb_cons (ts_if (TrW.tt (tw_or (tt_not (tt_val (tr_isi P.isi_tuple (tq_var 0) P.g_isinstance))) (tw_or1 (tt_cmp op_oNe (TrE.q (tr_lenQ (tq_var 0) P.g_len)) (tq_var 2)))))
  (tb_one (ts_ret tr_bl))
  tb_nil)
  (tb_one (ts_ret (tr_cb cr_bAll (tqa_cons (TrE.q (TrN.fz (tn_lc (own := [("one", 3)]) (TrI.q (ti_seq (tr_var 0))) (by kernel_rfl) (fun _ _ _ _ _ => (tg_name 3)) (fun _ _ _ _ _ => tts_nil) (fun _ _ _ _ _ => (tr_call F_within (ta_cons (tr_var 3) (ta_cons tr_int (ta_cons (tr_op op_oSub (tq_var 1) (TrE.q tr_int)) ta_nil))))) (by decide)))) tqa_nil) P.g_all))))
theorem d_Table_init {T : Tb} (P : Pg T) (F_check_width : Fn T 2 "check_width" ps_check_width m_check_width) (F_check_arity : Fn T 2 "check_arity" ps_check_arity m_check_arity) (F_is_row : Fn T 2 "is_row" ps_is_row m_is_row) : Der T 2 N_Table_init "Table.__init__" s_Table_init f_Table_init := fun f cdv A outer s H E =>
  (tb_cons (ts_expr (tr_call F_check_width (ta_cons (tr_var 1) ta_nil)))
  (tb_cons (ts_expr (tr_call F_check_arity (ta_cons (tr_var 2) (ta_cons (tr_gint P.c_MOST_ARITY) ta_nil))))
  (tb_cons (ts_if (tt_not (tt_val (tr_isi P.isi_list (tq_var 3) P.g_isinstance)))
  (tb_one ts_never)
  tb_nil)
  (tb_cons (ts_setO 4 tn_dic0)
  (tb_cons (ts_for (ti_enum (ta_cons (tr_var 3) ta_nil) P.g_enumerate) (tg_seq (tgs_cons (tg_name 5) (tgs_cons (tg_name 6) tgs_nil)))
  (tb_cons (ts_if (tt_not (tt_val (tr_call F_is_row (ta_cons (tr_var 6) (ta_cons (tr_var 1) (ta_cons (tr_var 2) ta_nil))))))
  (tb_one ts_never)
  tb_nil)
  (tb_one (ts_stO 4 set_uSetN tr_bl (tr_var 6)))))
  (tb_cons (ts_fldO 0 P.acc_width (tr_var 1) P.flen)
  (tb_cons (ts_fldO 0 P.acc_arity (tr_var 2) P.flen)
  (tb_cons (ts_fldO 0 P.acc_held (TrN.fz (tn_cb cr_bSortA (tqa_cons (tq_var 4) tqa_nil) P.g_sorted)) P.flen)
  (tb_one (ts_fz 4 (ts_fldO 0 P.acc_there (tr_var 4) P.flen)))))))))))
theorem d__law_program_table {T : Tb} (P : Pg T) (K_Table : Mkr T 3 0 "Table" ps_Table_init m_Table_init) : Der T 4 N__law_program_table "_law_program_table" s__law_program_table f__law_program_table := fun f cdv A outer s H E =>
  (tb_one (ts_ret (TrN.fz (tr_make K_Table (ta_cons (tr_var 0) (ta_cons (tr_ix ix_oIx (tq_var 1) (TrE.q tr_int)) (ta_cons (TrN.fz (tn_ct cr_bList (tqa_cons (TrE.q (tr_ix ix_oIx (tq_var 1) (TrE.q tr_int))) tqa_nil) P.g_list)) ta_nil)))))))
theorem d__law_program_book {T : Tb} (P : Pg T) (K_Book : Mkr T 3 1 "Book" ps_Book_init m_Book_init) (F__law_program_table : Fn T 5 "_law_program_table" ps__law_program_table m__law_program_table) : Der T 5 N__law_program_book "_law_program_book" s__law_program_book f__law_program_book := fun f cdv A outer s H E =>
  (tb_one (ts_ret (TrN.fz (tr_make K_Book (ta_cons (tr_var 0) (ta_cons (TrN.fz (tn_lc (own := [("table", 2)]) (TrI.q (ti_seq (tr_var 1))) (by kernel_rfl) (fun _ _ _ _ _ => (tg_name 2)) (fun _ _ _ _ _ => tts_nil) (fun _ _ _ _ _ => (tr_call F__law_program_table (ta_cons (tr_var 0) (ta_cons (tr_var 2) ta_nil)))) (by decide))) ta_nil))))))
theorem d__law_agrees {T : Tb} (P : Pg T) (F__law_all : Fn T 1 "_law_all" ps__law_all m__law_all) (F__law_cell : Fn T 1 "_law_cell" ps__law_cell m__law_cell) : Der T 1 N__law_agrees "_law_agrees" s__law_agrees f__law_agrees := fun f cdv A outer s H E =>
  (tb_cons (ts_for (ti_seq (tr_call F__law_all (ta_cons (tr_var 0) (ta_cons (tr_var 1) ta_nil)))) (tg_name 3)
  (tb_one (ts_for (ti_rg1 (tqa_cons (tq_var 0) tqa_nil) P.g_range) (tg_name 4)
  (tb_one (ts_if (TrW.tt (tw_and (tt_cmp op_oLe (TrE.q (tr_lenQ (TrE.q (TrN.fz (tn_lc (own := [("one", 5)]) (TrI.q (ti_seq (tr_var 3))) (by kernel_rfl) (fun _ _ _ _ _ => (tg_name 5)) (fun _ _ _ _ _ => (tts_one (tt_cmp op_oNe (tq_var 5) (tq_var 4)))) (fun _ _ _ _ _ => (tr_var 5)) (by decide)))) P.g_len)) (TrE.q tr_int)) (tw_and1 (tt_cmp op_oNe (TrE.q (tr_call F__law_cell (ta_cons (tr_var 0) (ta_cons (tr_var 2) (ta_cons (tr_var 3) ta_nil))))) (tq_var 4)))))
  (tb_one (ts_ret tr_bl))
  tb_nil)))))
  (tb_one (ts_ret (tr_cmp op_oGe (tq_var 1) (TrE.q tr_int)))))
theorem d__law_keeps {T : Tb} (P : Pg T) (F__law_together : Fn T 1 "_law_together" ps__law_together m__law_together) (F__law_given : Fn T 2 "_law_given" ps__law_given m__law_given) : Der T 2 N__law_keeps "_law_keeps" s__law_keeps f__law_keeps := fun f cdv A outer s H E =>
  (tb_cons (ts_asg (tr_var 1) (tg_seq (tgs_cons (tg_name 3) (tgs_cons (tg_name 4) tgs_nil))))
  (tb_one (ts_ret (tr_cmp op_oEq (TrE.q (TrN.fz (tn_lc (own := [("some", 5)]) (TrI.q (ti_seq (tr_call F__law_together (ta_cons (tr_var 2) (ta_cons (tr_var 3) ta_nil))))) (by kernel_rfl) (fun _ _ _ _ _ => (tg_name 5)) (fun _ _ _ _ _ => (tts_one (tt_cmp (op_oInQ true) (TrE.q (tr_call F__law_given (ta_cons (tr_var 0) (ta_cons (tr_var 4) (ta_cons (tr_var 5) ta_nil))))) (tq_var 2)))) (fun _ _ _ _ _ => (tr_var 5)) (by decide)))) (TrE.q (TrN.fz (tr_lst ta_nil)))))))
theorem d_check_near {T : Tb} (P : Pg T) (F_within : Fn T 1 "within" ps_within m_within) : Der T 1 N_check_near "check_near" s_check_near f_check_near := fun f cdv A outer s H E =>
  (tb_one (ts_if (TrW.tt (tw_or (tt_not (tt_val (tr_call F_within (ta_cons (tr_var 1) (ta_cons tr_int (ta_cons tr_int ta_nil)))))) (tw_or1 (TrW.tt (tw_and (tt_cmp op_oEq (tq_var 1) (TrE.q tr_int)) (tw_and1 (tt_cmp op_oGt (TrE.q (tr_fld P.acc_width (TrE.q (tr_fld P.acc_book (tq_var 0))))) (TrE.q tr_int))))))))
  (tb_one ts_never)
  tb_nil))
theorem d_is_use {T : Tb} (P : Pg T) (F_within : Fn T 1 "within" ps_within m_within) (F_is_row : Fn T 2 "is_row" ps_is_row m_is_row) : Der T 2 N_is_use "is_use" s_is_use f_is_use := fun f cdv A outer s H E =>
  (tb_cons (ts_if (TrW.tt (tw_or (tt_not (tt_val (tr_isi P.isi_tuple (tq_var 0) P.g_isinstance))) (tw_or (tt_cmp op_oNe (TrE.q (tr_lenQ (tq_var 0) P.g_len)) (TrE.q tr_int)) (tw_or1 (tt_not (tt_val (tr_call F_within (ta_cons (tr_ix ix_oIx (tq_var 0) (TrE.q tr_int)) (ta_cons tr_int (ta_cons (tr_op op_oSub (TrE.q (tr_lenQ (tq_var 1) P.g_len)) (TrE.q tr_int)) ta_nil))))))))))
  (tb_one (ts_ret tr_bl))
  tb_nil)
  (tb_one (ts_ret (tr_call F_is_row (ta_cons (tr_ix ix_oIx (tq_var 0) (TrE.q tr_int)) (ta_cons (tr_var 2) (ta_cons (tr_fld P.acc_arity (TrE.q (tr_ix ix_oIx (tq_var 1) (TrE.q (tr_ix ix_oIx (tq_var 0) (TrE.q tr_int)))))) ta_nil)))))))
theorem d_Puzzle_init {T : Tb} (P : Pg T) (F_within : Fn T 1 "within" ps_within m_within) (F_is_use : Fn T 3 "is_use" ps_is_use m_is_use) : Der T 3 N_Puzzle_init "Puzzle.__init__" s_Puzzle_init f_Puzzle_init := fun f cdv A outer s H E =>
  (tb_cons (ts_if (tt_not (tt_val (tr_call F_within (ta_cons (tr_var 2) (ta_cons tr_int (ta_cons (tr_gint P.c_MOST_PLACES) ta_nil))))))
  (tb_one ts_never)
  tb_nil)
  (tb_cons (ts_if (tt_not (tt_val (tr_isi P.isi_list (tq_var 3) P.g_isinstance)))
  (tb_one ts_never)
  tb_nil)
  (tb_cons (ts_for (ti_enum (ta_cons (tr_var 3) ta_nil) P.g_enumerate) (tg_seq (tgs_cons (tg_name 4) (tgs_cons (tg_name 5) tgs_nil)))
  (tb_one (ts_if (tt_not (tt_val (tr_call F_is_use (ta_cons (tr_var 5) (ta_cons (tr_var 1) (ta_cons (tr_var 2) ta_nil))))))
  (tb_one ts_never)
  tb_nil)))
  (tb_cons (ts_fldO 0 P.acc_book (tr_var 1) P.flen)
  (tb_cons (ts_fldO 0 P.acc_places (tr_var 2) P.flen)
  (tb_one (ts_fldO 0 P.acc_kept_rows (TrN.fz (tn_ct cr_bList (tqa_cons (tq_var 3) tqa_nil) P.g_list)) P.flen)))))))
theorem d_tuples_of {T : Tb} (P : Pg T) : Der T 0 N_tuples_of "tuples_of" s_tuples_of f_tuples_of := fun f cdv A outer s H E =>
  (tb_cons (ts_set 2 (TrN.fz (tr_lst (ta_cons (tr_tup ta_nil) ta_nil))))
  (tb_cons (ts_for (ti_rg1 (tqa_cons (tq_var 1) tqa_nil) P.g_range) (tg_name 3)
  (tb_one (ts_setL 2 (tl_lc2 (own := [("one", 4), ("value", 5)]) (vs1 := [5]) (TrI.q (ti_seq (tr_var 2))) (by kernel_rfl) (fun _ _ _ _ _ => (tg_name 4)) (fun _ _ _ _ _ => tts_nil) (fun _ _ _ _ _ => (ti_rg1 (tqa_cons (tq_var 0) tqa_nil) P.g_range)) (fun _ _ _ _ _ => (tg_name 5)) (fun _ _ _ _ _ => tts_nil) (fun _ _ _ _ _ => (tr_op op_oAdd (tq_var 4) (TrE.q (tr_tup (ta_cons (tr_var 5) ta_nil))))) (by decide) (by decide) (by decide)))))
  (tb_one (ts_ret (tr_var 2)))))
theorem d_odd_ones {T : Tb} (P : Pg T) : Der T 0 N_odd_ones "odd_ones" s_odd_ones f_odd_ones := fun f cdv A outer s H E =>
  (tb_cons (ts_set 1 (TrN.fz (tn_cb cr_bSortA (tqa_cons (TrE.q (TrN.fz (tn_lc (own := [("value", 2)]) (TrI.q (ti_seq (tr_var 0))) (by kernel_rfl) (fun _ _ _ _ _ => (tg_name 2)) (fun _ _ _ _ _ => tts_nil) (fun _ _ _ _ _ => (tr_tup (ta_cons (tr_mdT PySem.F.slot_tuple_count PySem.F.type_tuple_count mt_mCountT (tq_var 0) (tqa_cons (tq_var 2) tqa_nil)) (ta_cons (tr_var 2) ta_nil)))) (by decide)))) tqa_nil) P.g_sorted)))
  (tb_one (ts_ret (tr_tup (ta_cons (tr_op op_oSub (TrE.q (tr_lenQ (tq_var 0) P.g_len)) (TrE.q (tr_ix ix_oIx (TrE.q (tr_ix ix_oIx (tq_var 1) (TrE.q (tr_neg tr_int)))) (TrE.q tr_int)))) (ta_cons (tr_ix ix_oIx (TrE.q (tr_ix ix_oIx (tq_var 1) (TrE.q (tr_neg tr_int)))) (TrE.q tr_int)) ta_nil))))))
theorem d_Operation_agrees {T : Tb} (P : Pg T) (F_tuples_of : Fn T 1 "tuples_of" ps_tuples_of m_tuples_of) (F_odd_ones : Fn T 1 "odd_ones" ps_odd_ones m_odd_ones) : Der T 1 N_Operation_agrees "Operation.agrees" s_Operation_agrees f_Operation_agrees := fun f cdv A outer s H E =>
  (tb_cons (ts_if (tt_cmp op_oLt (TrE.q (tr_fld P.acc_arity (tq_var 0))) (TrE.q tr_int))
  (tb_one (ts_ret tr_bl))
  tb_nil)
  (tb_cons (ts_for (ti_zip (ta_cons (tr_call F_tuples_of (ta_cons (tr_fld P.acc_width (tq_var 0)) (ta_cons (tr_fld P.acc_arity (tq_var 0)) ta_nil))) (ta_cons (tr_fld P.acc_held (tq_var 0)) ta_nil)) P.g_zip) (tg_seq (tgs_cons (tg_name 1) (tgs_cons (tg_name 2) tgs_nil)))
  (tb_cons (ts_asg (tr_call F_odd_ones (ta_cons (tr_var 1) ta_nil)) (tg_seq (tgs_cons (tg_name 3) (tgs_cons (tg_name 4) tgs_nil))))
  (tb_one (ts_if (TrW.tt (tw_and (tt_cmp op_oLe (tq_var 3) (TrE.q tr_int)) (tw_and1 (tt_cmp op_oNe (tq_var 2) (tq_var 4)))))
  (tb_one (ts_ret tr_bl))
  tb_nil))))
  (tb_one (ts_ret tr_bl))))
theorem d_Book_tables {T : Tb} (P : Pg T) : Der T 0 N_Book_tables "Book.tables" s_Book_tables f_Book_tables := fun f cdv A outer s H E =>
  (tb_one (ts_ret (TrN.fz (tn_ct cr_bList (tqa_cons (TrE.q (tr_fld P.acc_kept_tables (tq_var 0))) tqa_nil) P.g_list))))
theorem d_rows_together {T : Tb} (P : Pg T) : Der T 0 N_rows_together "rows_together" s_rows_together f_rows_together := fun f cdv A outer s H E =>
  (tb_cons (ts_set 2 (TrN.fz (tr_lst (ta_cons (tr_tup ta_nil) ta_nil))))
  (tb_cons (ts_for (ti_rg1 (tqa_cons (tq_var 1) tqa_nil) P.g_range) (tg_name 3)
  (tb_one (ts_setL 2 (tl_lc2 (own := [("one", 4), ("row", 5)]) (vs1 := [5]) (TrI.q (ti_seq (tr_var 2))) (by kernel_rfl) (fun _ _ _ _ _ => (tg_name 4)) (fun _ _ _ _ _ => tts_nil) (fun _ _ _ _ _ => (ti_seq (tr_var 0))) (fun _ _ _ _ _ => (tg_name 5)) (fun _ _ _ _ _ => tts_nil) (fun _ _ _ _ _ => (tr_op op_oAdd (tq_var 4) (TrE.q (tr_tup (ta_cons (tr_var 5) ta_nil))))) (by decide) (by decide) (by decide)))))
  (tb_one (ts_ret (tr_var 2)))))
theorem d_Table_rows {T : Tb} (P : Pg T) : Der T 0 N_Table_rows "Table.rows" s_Table_rows f_Table_rows := fun f cdv A outer s H E =>
  (tb_one (ts_ret (TrN.fz (tn_ct cr_bList (tqa_cons (TrE.q (tr_fld P.acc_held (tq_var 0))) tqa_nil) P.g_list))))
theorem d_Puzzle_rows {T : Tb} (P : Pg T) : Der T 0 N_Puzzle_rows "Puzzle.rows" s_Puzzle_rows f_Puzzle_rows := fun f cdv A outer s H E =>
  (tb_one (ts_ret (TrN.fz (tn_ct cr_bList (tqa_cons (TrE.q (tr_fld P.acc_kept_rows (tq_var 0))) tqa_nil) P.g_list))))
theorem d_Table_contains {T : Tb} (P : Pg T) (F_is_row : Fn T 2 "is_row" ps_is_row m_is_row) : Der T 2 N_Table_contains "Table.__contains__" s_Table_contains f_Table_contains := fun f cdv A outer s H E =>
  (tb_one (ts_ret (tr_and (tr_call F_is_row (ta_cons (tr_var 1) (ta_cons (tr_fld P.acc_width (tq_var 0)) (ta_cons (tr_fld P.acc_arity (tq_var 0)) ta_nil)))) (tr_one (tr_cmp (op_oInQ false) (tq_var 1) (TrE.q (tr_fld P.acc_there (tq_var 0))))))))
theorem d_columns {T : Tb} (P : Pg T) : Der T 0 N_columns "columns" s_columns f_columns := fun f cdv A outer s H E =>
  (tb_one (ts_ret (tr_ct cr_bTuple (tqa_cons (TrE.q (TrN.fz (tn_lstZip (tr_var 0) P.g_list P.g_zip))) tqa_nil) P.g_tuple)))
theorem d_cell_of {T : Tb} (P : Pg T) : Der T 0 N_cell_of "cell_of" s_cell_of f_cell_of := fun f cdv A outer s H E =>
  (tb_cons (ts_set 2 tr_int)
  (tb_cons (ts_for (ti_seq (tr_var 1)) (tg_name 3)
  (tb_one (ts_set 2 (tr_op op_oAdd (TrE.q (tr_op op_oMul (tq_var 2) (tq_var 0))) (tq_var 3)))))
  (tb_one (ts_ret (tr_var 2)))))
theorem d_Operation_call {T : Tb} (P : Pg T) (F_is_row : Fn T 2 "is_row" ps_is_row m_is_row) (F_cell_of : Fn T 1 "cell_of" ps_cell_of m_cell_of) : Der T 2 N_Operation_call "Operation.__call__" s_Operation_call f_Operation_call := fun f cdv A outer s H E =>
  (tb_cons (ts_if (tt_not (tt_val (tr_call F_is_row (ta_cons (tr_var 1) (ta_cons (tr_fld P.acc_width (tq_var 0)) (ta_cons (tr_fld P.acc_arity (tq_var 0)) ta_nil))))))
  (tb_one ts_never)
  tb_nil)
  (tb_one (ts_ret (tr_ix ix_oIx (TrE.q (tr_fld P.acc_held (tq_var 0))) (TrE.q (tr_call F_cell_of (ta_cons (tr_fld P.acc_width (tq_var 0)) (ta_cons (tr_var 1) ta_nil))))))))
theorem d_breaks {T : Tb} (P : Pg T) (F_rows_together : Fn T 1 "rows_together" ps_rows_together m_rows_together) (P_rows_Table_Puzzle : Prps T 1 "rows" ms_rows_Table_Puzzle) (D_contains_Table : Duns T 3 "__contains__" ms_contains_Table) (F_columns : Fn T 1 "columns" ps_columns m_columns) (D_call_Operation : Duns T 3 "__call__" ms_call_Operation) : Der T 3 N_breaks "breaks" s_breaks f_breaks := fun f cdv A outer s H E =>
  (tb_cons (ts_if (tt_cmp op_oNe (TrE.q (tr_fld P.acc_width (tq_var 0))) (TrE.q (tr_fld P.acc_width (tq_var 1))))
  (tb_one ts_never)
  tb_nil)
  (tb_cons (ts_for (ti_seq (tr_call F_rows_together (ta_cons (tr_prop (Prps.at P_rows_Table_Puzzle (by decide)) (tr_var 1)) (ta_cons (tr_fld P.acc_arity (tq_var 0)) ta_nil)))) (tg_name 2)
  (tb_one (ts_if (tt_cmpP (op_oInA D_contains_Table (by decide) true) (tr_ct cr_bTuple (tqa_cons (TrE.q (TrN.fz (tn_lc (own := [("column", 3)]) (TrI.q (ti_seq (tr_call F_columns (ta_cons (tr_var 2) ta_nil)))) (by kernel_rfl) (fun _ _ _ _ _ => (tg_name 3)) (fun _ _ _ _ _ => tts_nil) (fun _ _ _ _ _ => (tr_inst D_call_Operation (tr_var 0) (ta_cons (tr_var 3) ta_nil))) (by decide)))) tqa_nil) P.g_tuple) (tr_var 1))
  (tb_one (ts_ret (TrN.fz (tn_ct cr_bList (tqa_cons (tq_var 2) tqa_nil) P.g_list))))
  tb_nil)))
  (tb_one (ts_ret tr_non))))
theorem d_shows_agreement {T : Tb} (P : Pg T) (F_check_near : Fn T 2 "check_near" ps_check_near m_check_near) (K_Puzzle : Mkr T 4 2 "Puzzle" ps_Puzzle_init m_Puzzle_init) (M_agrees_Operation : Mths T 2 "agrees" ms_agrees_Operation) (P_tables_Book : Prps T 1 "tables" ms_tables_Book) (F_breaks : Fn T 4 "breaks" ps_breaks m_breaks) : Der T 5 N_shows_agreement "shows_agreement" s_shows_agreement f_shows_agreement := fun f cdv A outer s H E =>
  (tb_cons (ts_expr (tr_call F_check_near (ta_cons (TrN.fz (tr_make K_Puzzle (ta_cons (tr_var 0) (ta_cons tr_int (ta_cons (TrN.fz (tr_lst ta_nil)) ta_nil))))) (ta_cons (tr_var 1) ta_nil))))
  (tb_cons (ts_if (TrW.tt (tw_or (tt_not (tt_val (tr_isi P.isi_Operation (tq_var 2) P.g_isinstance))) (tw_or (tt_cmp op_oNe (TrE.q (tr_fld P.acc_width (tq_var 2))) (TrE.q (tr_fld P.acc_width (tq_var 0)))) (tw_or1 (tt_cmp op_oNe (TrE.q (tr_fld P.acc_arity (tq_var 2))) (TrE.q (tr_op op_oAdd (tq_var 1) (TrE.q tr_int))))))))
  (tb_one (ts_ret tr_bl))
  tb_nil)
  (tb_one (ts_ret (tr_and (tr_meth0 (Mths.at M_agrees_Operation (by decide)) (tr_var 2) _) (tr_one (tr_cb cr_bAll (tqa_cons (TrE.q (TrN.fz (tn_lc (own := [("table", 3)]) (TrI.q (ti_seq (tr_prop (Prps.at P_tables_Book (by decide)) (tr_var 0)))) (by kernel_rfl) (fun _ _ _ _ _ => (tg_name 3)) (fun _ _ _ _ _ => tts_nil) (fun _ _ _ _ _ => (tr_cmp op_oIs (TrE.q (tr_call F_breaks (ta_cons (tr_var 2) (ta_cons (tr_var 3) ta_nil)))) (TrE.q tr_non))) (by decide)))) tqa_nil) P.g_all)))))))
theorem d_Operation_init {T : Tb} (P : Pg T) (F_check_width : Fn T 2 "check_width" ps_check_width m_check_width) (F_check_arity : Fn T 2 "check_arity" ps_check_arity m_check_arity) (F_tuples_of : Fn T 1 "tuples_of" ps_tuples_of m_tuples_of) (F_within : Fn T 1 "within" ps_within m_within) : Der T 2 N_Operation_init "Operation.__init__" s_Operation_init f_Operation_init := fun f cdv A outer s H E =>
  (tb_cons (ts_expr (tr_call F_check_width (ta_cons (tr_var 1) ta_nil)))
  (tb_cons (ts_expr (tr_call F_check_arity (ta_cons (tr_var 2) (ta_cons (tr_gint P.c_MOST_ARGUMENTS) ta_nil))))
  (tb_cons (ts_if (tt_not (tt_val (tr_isi P.isi_list (tq_var 3) P.g_isinstance)))
  (tb_one ts_never)
  tb_nil)
  (tb_cons (ts_if (tt_cmp op_oNe (TrE.q (tr_lenQ (tq_var 3) P.g_len)) (TrE.q (tr_lenQ (TrE.q (tr_call F_tuples_of (ta_cons (tr_var 1) (ta_cons (tr_var 2) ta_nil)))) P.g_len)))
  (tb_one ts_never)
  tb_nil)
  (tb_cons (ts_for (ti_enum (ta_cons (tr_var 3) ta_nil) P.g_enumerate) (tg_seq (tgs_cons (tg_name 4) (tgs_cons (tg_name 5) tgs_nil)))
  (tb_one (ts_if (tt_not (tt_val (tr_call F_within (ta_cons (tr_var 5) (ta_cons tr_int (ta_cons (tr_op op_oSub (tq_var 1) (TrE.q tr_int)) ta_nil))))))
  (tb_one ts_never)
  tb_nil)))
  (tb_cons (ts_fldO 0 P.acc_width (tr_var 1) P.flen)
  (tb_cons (ts_fldO 0 P.acc_arity (tr_var 2) P.flen)
  (tb_one (ts_fldO 0 P.acc_held (TrN.fz (tn_ct cr_bList (tqa_cons (tq_var 3) tqa_nil) P.g_list)) P.flen)))))))))
theorem d_Table_eq {T : Tb} (P : Pg T) : Der T 0 N_Table_eq "Table.__eq__" s_Table_eq f_Table_eq := fun f cdv A outer s H E =>
  (tb_cons (ts_if (tt_not (tt_val (tr_isi P.isi_Table (tq_var 1) P.g_isinstance)))
  (tb_one (ts_ret tr_bl))
  tb_nil)
  (tb_one (ts_ret (tr_cmp op_oEq (TrE.q (tr_tup (ta_cons (tr_fld P.acc_width (tq_var 0)) (ta_cons (tr_fld P.acc_arity (tq_var 0)) (ta_cons (tr_fld P.acc_held (tq_var 0)) ta_nil))))) (TrE.q (tr_tup (ta_cons (tr_fld P.acc_width (tq_var 1)) (ta_cons (tr_fld P.acc_arity (tq_var 1)) (ta_cons (tr_fld P.acc_held (tq_var 1)) ta_nil)))))))))
theorem d_Book_eq {T : Tb} (P : Pg T) (D_eq_Table : Duns T 1 "__eq__" ms_eq_Table) : Der T 2 N_Book_eq "Book.__eq__" s_Book_eq f_Book_eq := fun f cdv A outer s H E =>
  (tb_one (ts_ret (tr_and (tr_isi P.isi_Book (tq_var 1) P.g_isinstance) (tr_and (tr_cmp op_oEq (TrE.q (tr_fld P.acc_width (tq_var 0))) (TrE.q (tr_fld P.acc_width (tq_var 1)))) (tr_one (tr_cmpP (op_oEqM D_eq_Table P.still_ms_eq_Table (by decide)) (tr_fld P.acc_kept_tables (tq_var 0)) (tr_fld P.acc_kept_tables (tq_var 1))))))))
theorem d_Operation_taking {T : Tb} (P : Pg T) (F_check_width : Fn T 2 "check_width" ps_check_width m_check_width) (F_check_arity : Fn T 2 "check_arity" ps_check_arity m_check_arity) (F_within : Fn T 1 "within" ps_within m_within) (K_Operation : Mkr T 3 3 "Operation" ps_Operation_init m_Operation_init) (F_tuples_of : Fn T 1 "tuples_of" ps_tuples_of m_tuples_of) : Der T 4 N_Operation_taking "Operation.taking" s_Operation_taking f_Operation_taking := fun f cdv A outer s H E =>
  (tb_cons (ts_expr (tr_call F_check_width (ta_cons (tr_var 0) ta_nil)))
  (tb_cons (ts_expr (tr_call F_check_arity (ta_cons (tr_var 1) (ta_cons (tr_gint P.c_MOST_ARGUMENTS) ta_nil))))
  (tb_cons (ts_if (tt_not (tt_val (tr_call F_within (ta_cons (tr_var 2) (ta_cons tr_int (ta_cons (tr_op op_oSub (tq_var 1) (TrE.q tr_int)) ta_nil))))))
  (tb_one ts_never)
  tb_nil)
  (tb_one (ts_ret (TrN.fz (tr_make K_Operation (ta_cons (tr_var 0) (ta_cons (tr_var 1) (ta_cons (TrN.fz (tn_lc (own := [("arguments", 3)]) (TrI.q (ti_seq (tr_call F_tuples_of (ta_cons (tr_var 0) (ta_cons (tr_var 1) ta_nil))))) (by kernel_rfl) (fun _ _ _ _ _ => (tg_name 3)) (fun _ _ _ _ _ => tts_nil) (fun _ _ _ _ _ => (tr_ix ix_oIx (tq_var 3) (tq_var 2))) (by decide))) ta_nil))))))))))
theorem d__law_other_number_refused {T : Tb} (P : Pg T) (K_Operation : Mkr T 3 3 "Operation" ps_Operation_init m_Operation_init) (F__law_agreement : Fn T 2 "_law_agreement" ps__law_agreement m__law_agreement) (F__law_all : Fn T 1 "_law_all" ps__law_all m__law_all) (F_shows_agreement : Fn T 6 "shows_agreement" ps_shows_agreement m_shows_agreement) (F__law_program_book : Fn T 6 "_law_program_book" ps__law_program_book m__law_program_book) : Der T 6 N__law_other_number_refused "_law_other_number_refused" s__law_other_number_refused f__law_other_number_refused := fun f cdv A outer s H E =>
  (tb_cons (ts_set 3 (tr_if (tt_cmp op_oEq (tq_var 2) (TrE.q tr_int)) tr_int tr_int))
  (tb_cons (ts_set 4 (TrN.fz (tr_make K_Operation (ta_cons (tr_var 1) (ta_cons (tr_var 3) (ta_cons (tr_call F__law_agreement (ta_cons (tr_var 0) (ta_cons (tr_var 1) (ta_cons (tr_var 3) ta_nil)))) ta_nil))))))
  (tb_cons (ts_set 5 (TrN.fz (tr_lst (ta_cons (TrN.fz (tr_lst (ta_cons tr_int (ta_cons (tr_call F__law_all (ta_cons (tr_var 1) (ta_cons tr_int ta_nil))) ta_nil)))) (ta_cons (TrN.fz (tr_lst (ta_cons tr_int (ta_cons (TrN.fz (tn_lc (own := [("value", 7)]) (TrI.q (ti_rg1 (tqa_cons (tq_var 1) tqa_nil) P.g_range)) (by kernel_rfl) (fun _ _ _ _ _ => (tg_name 7)) (fun _ _ _ _ _ => tts_nil) (fun _ _ _ _ _ => (tr_tup (ta_cons (tr_var 7) (ta_cons (tr_var 7) ta_nil)))) (by decide))) ta_nil)))) ta_nil)))))
  (tb_cons (ts_for (ti_seq (tr_tup (ta_cons (TrN.fz (tr_lst ta_nil)) (ta_cons (tr_var 5) ta_nil)))) (tg_name 6)
  (tb_one (ts_if (tt_cmp op_oIsNot (TrE.q (tr_call F_shows_agreement (ta_cons (tr_call F__law_program_book (ta_cons (tr_var 1) (ta_cons (tr_var 6) ta_nil))) (ta_cons (tr_var 2) (ta_cons (tr_var 4) ta_nil))))) (TrE.q tr_bl))
  (tb_one (ts_ret tr_bl))
  tb_nil)))
  (tb_one (ts_ret tr_bl))))))
theorem d_Table_full {T : Tb} (P : Pg T) (F_check_width : Fn T 2 "check_width" ps_check_width m_check_width) (F_check_arity : Fn T 2 "check_arity" ps_check_arity m_check_arity) (K_Table : Mkr T 3 0 "Table" ps_Table_init m_Table_init) (F_tuples_of : Fn T 1 "tuples_of" ps_tuples_of m_tuples_of) : Der T 4 N_Table_full "Table.full" s_Table_full f_Table_full := fun f cdv A outer s H E =>
  (tb_cons (ts_expr (tr_call F_check_width (ta_cons (tr_var 0) ta_nil)))
  (tb_cons (ts_expr (tr_call F_check_arity (ta_cons (tr_var 1) (ta_cons (tr_gint P.c_MOST_ARITY) ta_nil))))
  (tb_one (ts_ret (TrN.fz (tr_make K_Table (ta_cons (tr_var 0) (ta_cons (tr_var 1) (ta_cons (tr_call F_tuples_of (ta_cons (tr_var 0) (ta_cons (tr_var 1) ta_nil))) ta_nil)))))))))
theorem d_law {T : Tb} (P : Pg T) (F__law_feed : Fn T 1 "_law_feed" ps__law_feed m__law_feed) (F__law_width : Fn T 3 "_law_width" ps__law_width m__law_width) (F__law_pick : Fn T 2 "_law_pick" ps__law_pick m__law_pick) (F__law_agreeing : Fn T 4 "_law_agreeing" ps__law_agreeing m__law_agreeing) (F__law_take : Fn T 1 "_law_take" ps__law_take m__law_take) (F__law_program_book : Fn T 6 "_law_program_book" ps__law_program_book m__law_program_book) (F__law_agreement : Fn T 2 "_law_agreement" ps__law_agreement m__law_agreement) (F__law_agrees : Fn T 2 "_law_agrees" ps__law_agrees m__law_agrees) (F__law_keeps : Fn T 3 "_law_keeps" ps__law_keeps m__law_keeps) (F_shows_agreement : Fn T 6 "shows_agreement" ps_shows_agreement m_shows_agreement) (K_Operation : Mkr T 3 3 "Operation" ps_Operation_init m_Operation_init) (D_eq_Book : Duns T 3 "__eq__" ms_eq_Book) (S_Operation_taking : Smt T 5 3 "taking" ps_Operation_taking m_Operation_taking) (F__law_all : Fn T 1 "_law_all" ps__law_all m__law_all) (F__law_other_number_refused : Fn T 7 "_law_other_number_refused" ps__law_other_number_refused m__law_other_number_refused) (S_Table_full : Smt T 5 0 "full" ps_Table_full m_Table_full) : Der T 7 N_law "law" s_law f_law := fun f cdv A outer s H E =>
  (tb_cons (ts_for (ti_rg1 (tqa_cons (TrE.q (tr_cb cr_bMax (tqa_cons (TrE.q tr_int) (tqa_cons (TrE.q (tr_cb cr_bMin (tqa_cons (TrE.q tr_int) (tqa_cons (TrE.q (tr_lenQ (tq_var 0) P.g_len)) tqa_nil)) P.g_min)) tqa_nil)) P.g_max)) tqa_nil) P.g_range) (tg_name 1)
  (tb_cons (ts_set 2 (tr_call F__law_feed (ta_cons (tr_var 0) (ta_cons (tr_var 1) ta_nil))))
  (tb_cons (ts_set 3 (tr_call F__law_width (ta_cons (tr_var 2) ta_nil)))
  (tb_cons (ts_set 4 (tr_if (tt_cmp op_oLt (tq_var 3) (TrE.q tr_int)) (tr_call F__law_pick (ta_cons (tr_var 2) (ta_cons (TrN.fz (tr_lst (ta_cons tr_int (ta_cons tr_int (ta_cons tr_int ta_nil))))) ta_nil))) tr_int))
  (tb_cons (ts_asg (tr_call F__law_agreeing (ta_cons (tr_var 2) (ta_cons (tr_var 3) (ta_cons (tr_var 4) (ta_cons (tr_if (tt_cmp op_oEq (tq_var 4) (TrE.q tr_int)) tr_int tr_int) ta_nil))))) (tg_seq (tgs_cons (tg_name 5) (tgs_cons (tg_name 6) tgs_nil))))
  (tb_cons (ts_setLO 6 (tl_lc (own := [("table", 19)]) (tiq_seq (tq_var 6)) (by kernel_rfl) (fun _ _ _ _ _ => (tg_name 19)) (fun _ _ _ _ _ => (tts_one (tt_cmp op_oLe (TrE.q (tr_lenQ (TrE.q (tr_ix ix_oIx (tq_var 19) (TrE.q tr_int))) P.g_len)) (TrE.q (tr_if (tt_cmp op_oEq (tq_var 4) (TrE.q tr_int)) tr_int tr_int))))) (fun _ _ _ _ _ => (tr_var 19)) (by decide)))
  (tb_cons (ts_if (TrW.tt (tw_and (tt_cmp op_oNe (tq_var 6) (TrE.q (TrN.fz (tr_lst ta_nil)))) (tw_and1 (tt_cmp op_oEq (TrE.q (tr_call F__law_take (ta_cons (tr_var 2) (ta_cons tr_int ta_nil)))) (TrE.q tr_int)))))
  (tb_cons (ts_asgO 6 PySem.F.plainAttrs_list PySem.F.slot_list_pop PySem.F.type_list_pop mt_uPop (ta_cons (tr_call F__law_take (ta_cons (tr_var 2) (ta_cons (tr_lenQ (tq_var 6) P.g_len) ta_nil))) ta_nil) (tg_seq (tgs_cons (tg_name 7) (tgs_cons (tg_name 8) tgs_nil))))
  (tb_cons (ts_set 9 (tr_call F__law_take (ta_cons (tr_var 2) (ta_cons (tr_op op_oAdd (TrE.q (tr_lenQ (tq_var 8) P.g_len)) (TrE.q tr_int)) ta_nil))))
  (tb_one (ts_mutO 6 PySem.F.plainAttrs_list PySem.F.slot_list_append PySem.F.type_list_append mt_uApp (ta_cons (TrN.fz (tr_lst (ta_cons (tr_var 7) (ta_cons (tr_op op_oAdd (TrE.q (tr_sl (tq_var 8) to_none (to_some (tr_var 9)))) (TrE.q (tr_sl (tq_var 8) (to_some (tr_op op_oAdd (tq_var 9) (TrE.q tr_int))) to_none))) ta_nil)))) ta_nil)))))
  tb_nil)
  (tb_cons (ts_fz 6 (ts_par 10 11 (TrE.x (tr_call F__law_program_book (ta_cons (tr_var 3) (ta_cons (tr_var 6) ta_nil)))) (TrN.x (tn_ct cr_bList (tqa_cons (tq_var 5) tqa_nil) P.g_list))))
  (tb_cons (ts_stO 11 (fun _ => set_uSetL) (tr_call F__law_take (ta_cons (tr_var 2) (ta_cons (tr_var 3) ta_nil))) (tr_call F__law_take (ta_cons (tr_var 2) (ta_cons (tr_lenQ (tq_var 5) P.g_len) ta_nil))))
  (tb_cons (ts_fz 11 (ts_for (ti_seq (tr_tup (ta_cons (tr_var 5) (ta_cons (tr_var 11) (ta_cons (tr_call F__law_agreement (ta_cons (tr_var 2) (ta_cons (tr_var 3) (ta_cons (tr_op op_oAdd (tq_var 4) (TrE.q tr_int)) ta_nil)))) ta_nil))))) (tg_name 12)
  (tb_cons (ts_set 13 (tr_call F__law_agrees (ta_cons (tr_var 3) (ta_cons (tr_op op_oAdd (tq_var 4) (TrE.q tr_int)) (ta_cons (tr_var 12) ta_nil)))))
  (tb_cons (ts_setL 14 (tl_lc (own := [("arity", 7), ("rows", 8)]) (tiq_seq (tq_var 6)) (by kernel_rfl) (fun _ _ _ _ _ => (tg_seq (tgs_cons (tg_name 7) (tgs_cons (tg_name 8) tgs_nil)))) (fun _ _ _ _ _ => (tts_one (tt_not (tt_val (tr_call F__law_keeps (ta_cons (tr_var 3) (ta_cons (TrN.fz (tr_lst (ta_cons (tr_op op_oAdd (tq_var 4) (TrE.q tr_int)) (ta_cons (tr_var 12) ta_nil)))) (ta_cons (tr_var 8) ta_nil)))))))) (fun _ _ _ _ _ => (tr_var 8)) (by decide)))
  (tb_cons (ts_set 15 (tr_call F_shows_agreement (ta_cons (tr_var 10) (ta_cons (tr_var 4) (ta_cons (TrN.fz (tr_make K_Operation (ta_cons (tr_var 3) (ta_cons (tr_op op_oAdd (tq_var 4) (TrE.q tr_int)) (ta_cons (TrN.fz (tn_ct cr_bList (tqa_cons (tq_var 12) tqa_nil) P.g_list)) ta_nil))))) ta_nil)))))
  (tb_one (ts_if (TrW.tt (tw_or (tt_not (tt_val (tr_isi P.isi_bool (tq_var 15) P.g_isinstance))) (tw_or1 (tt_cmp op_oNe (tq_var 15) (TrE.q (tr_and (tr_var 13) (tr_one (tr_cmp op_oEq (tq_var 14) (TrE.q (TrN.fz (tr_lst ta_nil)))))))))))
  (tb_one (ts_ret tr_bl))
  tb_nil)))))))
  (tb_cons (ts_fz 6 (ts_if (tt_cmpP (op_oNeM D_eq_Book P.ne_ms_eq_Book (by decide)) (tr_var 10) (tr_call F__law_program_book (ta_cons (tr_var 3) (ta_cons (tr_var 6) ta_nil))))
  (tb_one (ts_ret tr_bl))
  tb_nil))
  (tb_cons (ts_set 16 (tr_op op_oAdd (TrE.q (tr_op op_oMod (TrE.q (tr_ct cr_bIntS (tqa_cons (tq_var 3) tqa_nil) P.g_int)) (TrE.q tr_int))) (TrE.q tr_int)))
  (tb_cons (ts_set 17 (TrN.fz (tr_lst (ta_cons tr_non (ta_cons (tr_var 5) (ta_cons tr_str (ta_cons tr_int (ta_cons (TrN.fz (tr_lst (ta_cons (TrN.fz (tr_make K_Operation (ta_cons (tr_var 3) (ta_cons (tr_op op_oAdd (tq_var 4) (TrE.q tr_int)) (ta_cons (tr_var 5) ta_nil))))) ta_nil))) (ta_cons (tr_sm S_Operation_taking P.cl_Operation (ta_cons (tr_var 3) (ta_cons tr_int (ta_cons tr_int ta_nil))) _) ta_nil)))))))))
  (tb_cons (ts_set 17 (tr_op op_oAdd (tq_var 17) (TrE.q (TrN.fz (tr_lst (ta_cons (TrN.fz (tr_make K_Operation (ta_cons (tr_var 16) (ta_cons tr_int (ta_cons (TrN.fz (tn_lc (own := [("row", 20)]) (TrI.q (ti_seq (tr_call F__law_all (ta_cons (tr_var 16) (ta_cons tr_int ta_nil))))) (by kernel_rfl) (fun _ _ _ _ _ => (tg_name 20)) (fun _ _ _ _ _ => tts_nil) (fun _ _ _ _ _ => tr_int) (by decide))) ta_nil))))) ta_nil))))))
  (tb_cons (ts_set 17 (tr_op op_oAdd (tq_var 17) (TrE.q (TrN.fz (tr_lst (ta_cons (tr_sm S_Operation_taking P.cl_Operation (ta_cons (tr_var 3) (ta_cons (tr_op op_oAdd (tq_var 4) (TrE.q tr_int)) (ta_cons tr_int ta_nil))) _) (ta_cons (tr_sm S_Operation_taking P.cl_Operation (ta_cons (tr_var 3) (ta_cons tr_int (ta_cons tr_int ta_nil))) _) ta_nil)))))))
  (tb_cons (ts_for (ti_seq (tr_var 17)) (tg_name 18)
  (tb_cons (ts_set 13 (tr_and (tr_cmp op_oEq (tq_var 3) (TrE.q tr_int)) (tr_and (tr_isi P.isi_Operation (tq_var 18) P.g_isinstance) (tr_and (tr_cmp op_oEq (TrE.q (tr_fld P.acc_width (tq_var 18))) (TrE.q tr_int)) (tr_one (tr_cmp op_oEq (TrE.q (tr_fld P.acc_arity (tq_var 18))) (TrE.q (tr_op op_oAdd (tq_var 4) (TrE.q tr_int)))))))))
  (tb_one (ts_if (tt_cmp op_oNe (TrE.q (tr_call F_shows_agreement (ta_cons (tr_var 10) (ta_cons (tr_var 4) (ta_cons (tr_var 18) ta_nil))))) (tq_var 13))
  (tb_one (ts_ret tr_bl))
  tb_nil))))
  (tb_cons (ts_if (tt_not (tt_val (tr_call F__law_other_number_refused (ta_cons (tr_var 2) (ta_cons (tr_var 3) (ta_cons (tr_var 4) ta_nil))))))
  (tb_one (ts_ret tr_bl))
  tb_nil)
  (tb_one (ts_for (ti_seq (tr_tup (ta_cons (tr_var 10) (ta_cons (tr_sm S_Table_full P.cl_Table (ta_cons (tr_var 3) (ta_cons tr_int ta_nil)) _) (ta_cons (tr_tup (ta_cons tr_int ta_nil)) (ta_cons (TrN.fz (tr_lst (ta_cons (tr_sm S_Table_full P.cl_Table (ta_cons (tr_var 3) (ta_cons tr_int ta_nil)) _) ta_nil))) ta_nil)))))) (tg_name 18)
  (tb_one (ts_if (tt_cmp op_oIsNot (TrE.q (tr_call F_shows_agreement (ta_cons (tr_var 10) (ta_cons (tr_var 4) (ta_cons (tr_var 18) ta_nil))))) (TrE.q tr_bl))
  (tb_one (ts_ret tr_bl))
  tb_nil)))))))))))))))))))))
  (tb_one (ts_ret tr_bl)))
end L39
set_option Elab.async false
set_option linter.all false
set_option maxRecDepth 100000
set_option maxHeartbeats 0
namespace H39
open PySem PySem.Spec PyProof.Rows L2 Pd L39
structure Hd (K : PySem.W.Frag) (mg : Str → Option Value) : Prop where
  ex : ∃ h : Heap, K.In h ∧ h.Ns mainGlobals mg
  c : SaysP (exOf bl) fn K
section
variable {K : PySem.W.Frag} {mg : Str → Option Value}
theorem Hd.glo (B : Hd K mg) {x : Str} (h : faB (.glo x) K = true) : mg x = some (.ref (He.ga K x)) := let ⟨_, X, G⟩ := B.ex; He.glo_ok X G h
theorem Hd.free (B : Hd K mg) {x : Str} (h : faB (.free x) K = true) : mg x = none := let ⟨_, X, G⟩ := B.ex; He.free_ok X G h
theorem Hd.int (B : Hd K mg) {x : Str} {i : Int} (h : faB (.int x i) K = true) : ∃ t, mg x = some (.int i t) := let ⟨_, X, G⟩ := B.ex; He.int_ok X G h
theorem Hd.str (B : Hd K mg) {x z : Str} (h : faB (.str x z) K = true) : ∃ t, mg x = some (.str z t) := let ⟨_, X, G⟩ := B.ex; He.str_ok X G h
end
def clK (K : PySem.W.Frag) : Nat → Addr := fun k => match k with | 0 => He.ga K "Table" | 1 => He.ga K "Book" | 2 => He.ga K "Puzzle" | 3 => He.ga K "Operation" | _ => 0
def flK : Nat → List Str := fun k => match k with | 0 => ["width", "arity", "held", "there"] | 1 => ["width", "kept_tables"] | 2 => ["book", "places", "kept_rows"] | 3 => ["width", "arity", "held"] | _ => []
theorem fl_nd : ∀ k, (flK k).Nodup := fun k => by
  match k with
  | 0 => exact (by decide +kernel)
  | 1 => exact (by decide +kernel)
  | 2 => exact (by decide +kernel)
  | 3 => exact (by decide +kernel)
  | n + 4 => exact .nil
theorem fl_len : ∀ k, (flK k).length < 1000 := fun k => by
  match k with
  | 0 => exact (by decide +kernel)
  | 1 => exact (by decide +kernel)
  | 2 => exact (by decide +kernel)
  | 3 => exact (by decide +kernel)
  | n + 4 => exact (by show 0 < 1000; decide)
abbrev tb (K : PySem.W.Frag) (P : Program) (w : World) (mg : Str → Option Value) (base : Heap) : Tb := ⟨K, P, w, mg, base, clK K, flK⟩
instance nc_Table_eq : NcC m_Table_eq := by unfold m_Table_eq f_Table_eq; infer_instance
instance ncms_eq_Table : NcM ms_eq_Table := ⟨fun j m e => by
  match j, e with
  | 0, e => cases (show some m_Table_eq = some m from e); infer_instance
  | 1, e => cases (show none = some m from e)
  | 2, e => cases (show none = some m from e)
  | 3, e => cases (show none = some m from e)
  | n + 4, e => cases (show none = some m from e)⟩
theorem sc_law : FnScope N_law ps_law (defScope s_law) := ⟨by first | rfl | kernel_rfl, by first | rfl | kernel_rfl, by first | rfl | kernel_rfl, by decide +kernel, by first | rfl | kernel_rfl, by decide +kernel, by decide +kernel⟩
theorem sc__law_feed : FnScope N__law_feed ps__law_feed (defScope s__law_feed) := ⟨by first | rfl | kernel_rfl, by first | rfl | kernel_rfl, by first | rfl | kernel_rfl, by decide +kernel, by first | rfl | kernel_rfl, by decide +kernel, by decide +kernel⟩
theorem sc__law_width : FnScope N__law_width ps__law_width (defScope s__law_width) := ⟨by first | rfl | kernel_rfl, by first | rfl | kernel_rfl, by first | rfl | kernel_rfl, by decide +kernel, by first | rfl | kernel_rfl, by decide +kernel, by decide +kernel⟩
theorem sc__law_pick : FnScope N__law_pick ps__law_pick (defScope s__law_pick) := ⟨by first | rfl | kernel_rfl, by first | rfl | kernel_rfl, by first | rfl | kernel_rfl, by decide +kernel, by first | rfl | kernel_rfl, by decide +kernel, by decide +kernel⟩
theorem sc__law_take : FnScope N__law_take ps__law_take (defScope s__law_take) := ⟨by first | rfl | kernel_rfl, by first | rfl | kernel_rfl, by first | rfl | kernel_rfl, by decide +kernel, by first | rfl | kernel_rfl, by decide +kernel, by decide +kernel⟩
theorem sc__law_agreeing : FnScope N__law_agreeing ps__law_agreeing (defScope s__law_agreeing) := ⟨by first | rfl | kernel_rfl, by first | rfl | kernel_rfl, by first | rfl | kernel_rfl, by decide +kernel, by first | rfl | kernel_rfl, by decide +kernel, by decide +kernel⟩
theorem sc__law_agreement : FnScope N__law_agreement ps__law_agreement (defScope s__law_agreement) := ⟨by first | rfl | kernel_rfl, by first | rfl | kernel_rfl, by first | rfl | kernel_rfl, by decide +kernel, by first | rfl | kernel_rfl, by decide +kernel, by decide +kernel⟩
theorem sc__law_all : FnScope N__law_all ps__law_all (defScope s__law_all) := ⟨by first | rfl | kernel_rfl, by first | rfl | kernel_rfl, by first | rfl | kernel_rfl, by decide +kernel, by first | rfl | kernel_rfl, by decide +kernel, by decide +kernel⟩
theorem sc__law_closed : FnScope N__law_closed ps__law_closed (defScope s__law_closed) := ⟨by first | rfl | kernel_rfl, by first | rfl | kernel_rfl, by first | rfl | kernel_rfl, by decide +kernel, by first | rfl | kernel_rfl, by decide +kernel, by decide +kernel⟩
theorem sc__law_together : FnScope N__law_together ps__law_together (defScope s__law_together) := ⟨by first | rfl | kernel_rfl, by first | rfl | kernel_rfl, by first | rfl | kernel_rfl, by decide +kernel, by first | rfl | kernel_rfl, by decide +kernel, by decide +kernel⟩
theorem sc__law_given : FnScope N__law_given ps__law_given (defScope s__law_given) := ⟨by first | rfl | kernel_rfl, by first | rfl | kernel_rfl, by first | rfl | kernel_rfl, by decide +kernel, by first | rfl | kernel_rfl, by decide +kernel, by decide +kernel⟩
theorem sc__law_cell : FnScope N__law_cell ps__law_cell (defScope s__law_cell) := ⟨by first | rfl | kernel_rfl, by first | rfl | kernel_rfl, by first | rfl | kernel_rfl, by decide +kernel, by first | rfl | kernel_rfl, by decide +kernel, by decide +kernel⟩
theorem sc__law_drawn_rows : FnScope N__law_drawn_rows ps__law_drawn_rows (defScope s__law_drawn_rows) := ⟨by first | rfl | kernel_rfl, by first | rfl | kernel_rfl, by first | rfl | kernel_rfl, by decide +kernel, by first | rfl | kernel_rfl, by decide +kernel, by decide +kernel⟩
theorem sc__law_drawn_row : FnScope N__law_drawn_row ps__law_drawn_row (defScope s__law_drawn_row) := ⟨by first | rfl | kernel_rfl, by first | rfl | kernel_rfl, by first | rfl | kernel_rfl, by decide +kernel, by first | rfl | kernel_rfl, by decide +kernel, by decide +kernel⟩
theorem sc__law_program_book : FnScope N__law_program_book ps__law_program_book (defScope s__law_program_book) := ⟨by first | rfl | kernel_rfl, by first | rfl | kernel_rfl, by first | rfl | kernel_rfl, by decide +kernel, by first | rfl | kernel_rfl, by decide +kernel, by decide +kernel⟩
theorem sc_Book_init : FnScope N_Book_init ps_Book_init (defScope s_Book_init) := ⟨by first | rfl | kernel_rfl, by first | rfl | kernel_rfl, by first | rfl | kernel_rfl, by decide +kernel, by first | rfl | kernel_rfl, by decide +kernel, by decide +kernel⟩
theorem sc_check_width : FnScope N_check_width ps_check_width (defScope s_check_width) := ⟨by first | rfl | kernel_rfl, by first | rfl | kernel_rfl, by first | rfl | kernel_rfl, by decide +kernel, by first | rfl | kernel_rfl, by decide +kernel, by decide +kernel⟩
theorem sc_within : FnScope N_within ps_within (defScope s_within) := ⟨by first | rfl | kernel_rfl, by first | rfl | kernel_rfl, by first | rfl | kernel_rfl, by decide +kernel, by first | rfl | kernel_rfl, by decide +kernel, by decide +kernel⟩
theorem sc__law_program_table : FnScope N__law_program_table ps__law_program_table (defScope s__law_program_table) := ⟨by first | rfl | kernel_rfl, by first | rfl | kernel_rfl, by first | rfl | kernel_rfl, by decide +kernel, by first | rfl | kernel_rfl, by decide +kernel, by decide +kernel⟩
theorem sc_Table_init : FnScope N_Table_init ps_Table_init (defScope s_Table_init) := ⟨by first | rfl | kernel_rfl, by first | rfl | kernel_rfl, by first | rfl | kernel_rfl, by decide +kernel, by first | rfl | kernel_rfl, by decide +kernel, by decide +kernel⟩
theorem sc_check_arity : FnScope N_check_arity ps_check_arity (defScope s_check_arity) := ⟨by first | rfl | kernel_rfl, by first | rfl | kernel_rfl, by first | rfl | kernel_rfl, by decide +kernel, by first | rfl | kernel_rfl, by decide +kernel, by decide +kernel⟩
theorem sc_is_row : FnScope N_is_row ps_is_row (defScope s_is_row) := ⟨by first | rfl | kernel_rfl, by first | rfl | kernel_rfl, by first | rfl | kernel_rfl, by decide +kernel, by first | rfl | kernel_rfl, by decide +kernel, by decide +kernel⟩
theorem sc__law_agrees : FnScope N__law_agrees ps__law_agrees (defScope s__law_agrees) := ⟨by first | rfl | kernel_rfl, by first | rfl | kernel_rfl, by first | rfl | kernel_rfl, by decide +kernel, by first | rfl | kernel_rfl, by decide +kernel, by decide +kernel⟩
theorem sc__law_keeps : FnScope N__law_keeps ps__law_keeps (defScope s__law_keeps) := ⟨by first | rfl | kernel_rfl, by first | rfl | kernel_rfl, by first | rfl | kernel_rfl, by decide +kernel, by first | rfl | kernel_rfl, by decide +kernel, by decide +kernel⟩
theorem sc_shows_agreement : FnScope N_shows_agreement ps_shows_agreement (defScope s_shows_agreement) := ⟨by first | rfl | kernel_rfl, by first | rfl | kernel_rfl, by first | rfl | kernel_rfl, by decide +kernel, by first | rfl | kernel_rfl, by decide +kernel, by decide +kernel⟩
theorem sc_check_near : FnScope N_check_near ps_check_near (defScope s_check_near) := ⟨by first | rfl | kernel_rfl, by first | rfl | kernel_rfl, by first | rfl | kernel_rfl, by decide +kernel, by first | rfl | kernel_rfl, by decide +kernel, by decide +kernel⟩
theorem sc_Puzzle_init : FnScope N_Puzzle_init ps_Puzzle_init (defScope s_Puzzle_init) := ⟨by first | rfl | kernel_rfl, by first | rfl | kernel_rfl, by first | rfl | kernel_rfl, by decide +kernel, by first | rfl | kernel_rfl, by decide +kernel, by decide +kernel⟩
theorem sc_is_use : FnScope N_is_use ps_is_use (defScope s_is_use) := ⟨by first | rfl | kernel_rfl, by first | rfl | kernel_rfl, by first | rfl | kernel_rfl, by decide +kernel, by first | rfl | kernel_rfl, by decide +kernel, by decide +kernel⟩
theorem sc_Operation_agrees : FnScope N_Operation_agrees ps_Operation_agrees (defScope s_Operation_agrees) := ⟨by first | rfl | kernel_rfl, by first | rfl | kernel_rfl, by first | rfl | kernel_rfl, by decide +kernel, by first | rfl | kernel_rfl, by decide +kernel, by decide +kernel⟩
theorem sc_tuples_of : FnScope N_tuples_of ps_tuples_of (defScope s_tuples_of) := ⟨by first | rfl | kernel_rfl, by first | rfl | kernel_rfl, by first | rfl | kernel_rfl, by decide +kernel, by first | rfl | kernel_rfl, by decide +kernel, by decide +kernel⟩
theorem sc_odd_ones : FnScope N_odd_ones ps_odd_ones (defScope s_odd_ones) := ⟨by first | rfl | kernel_rfl, by first | rfl | kernel_rfl, by first | rfl | kernel_rfl, by decide +kernel, by first | rfl | kernel_rfl, by decide +kernel, by decide +kernel⟩
theorem sc_Book_tables : FnScope N_Book_tables ps_Book_tables (defScope s_Book_tables) := ⟨by first | rfl | kernel_rfl, by first | rfl | kernel_rfl, by first | rfl | kernel_rfl, by decide +kernel, by first | rfl | kernel_rfl, by decide +kernel, by decide +kernel⟩
theorem sc_breaks : FnScope N_breaks ps_breaks (defScope s_breaks) := ⟨by first | rfl | kernel_rfl, by first | rfl | kernel_rfl, by first | rfl | kernel_rfl, by decide +kernel, by first | rfl | kernel_rfl, by decide +kernel, by decide +kernel⟩
theorem sc_rows_together : FnScope N_rows_together ps_rows_together (defScope s_rows_together) := ⟨by first | rfl | kernel_rfl, by first | rfl | kernel_rfl, by first | rfl | kernel_rfl, by decide +kernel, by first | rfl | kernel_rfl, by decide +kernel, by decide +kernel⟩
theorem sc_Table_rows : FnScope N_Table_rows ps_Table_rows (defScope s_Table_rows) := ⟨by first | rfl | kernel_rfl, by first | rfl | kernel_rfl, by first | rfl | kernel_rfl, by decide +kernel, by first | rfl | kernel_rfl, by decide +kernel, by decide +kernel⟩
theorem sc_Puzzle_rows : FnScope N_Puzzle_rows ps_Puzzle_rows (defScope s_Puzzle_rows) := ⟨by first | rfl | kernel_rfl, by first | rfl | kernel_rfl, by first | rfl | kernel_rfl, by decide +kernel, by first | rfl | kernel_rfl, by decide +kernel, by decide +kernel⟩
theorem sc_Table_contains : FnScope N_Table_contains ps_Table_contains (defScope s_Table_contains) := ⟨by first | rfl | kernel_rfl, by first | rfl | kernel_rfl, by first | rfl | kernel_rfl, by decide +kernel, by first | rfl | kernel_rfl, by decide +kernel, by decide +kernel⟩
theorem sc_columns : FnScope N_columns ps_columns (defScope s_columns) := ⟨by first | rfl | kernel_rfl, by first | rfl | kernel_rfl, by first | rfl | kernel_rfl, by decide +kernel, by first | rfl | kernel_rfl, by decide +kernel, by decide +kernel⟩
theorem sc_Operation_call : FnScope N_Operation_call ps_Operation_call (defScope s_Operation_call) := ⟨by first | rfl | kernel_rfl, by first | rfl | kernel_rfl, by first | rfl | kernel_rfl, by decide +kernel, by first | rfl | kernel_rfl, by decide +kernel, by decide +kernel⟩
theorem sc_cell_of : FnScope N_cell_of ps_cell_of (defScope s_cell_of) := ⟨by first | rfl | kernel_rfl, by first | rfl | kernel_rfl, by first | rfl | kernel_rfl, by decide +kernel, by first | rfl | kernel_rfl, by decide +kernel, by decide +kernel⟩
theorem sc_Operation_init : FnScope N_Operation_init ps_Operation_init (defScope s_Operation_init) := ⟨by first | rfl | kernel_rfl, by first | rfl | kernel_rfl, by first | rfl | kernel_rfl, by decide +kernel, by first | rfl | kernel_rfl, by decide +kernel, by decide +kernel⟩
theorem sc_Book_eq : FnScope N_Book_eq ps_Book_eq (defScope s_Book_eq) := ⟨by first | rfl | kernel_rfl, by first | rfl | kernel_rfl, by first | rfl | kernel_rfl, by decide +kernel, by first | rfl | kernel_rfl, by decide +kernel, by decide +kernel⟩
theorem sc_Table_eq : FnScope N_Table_eq ps_Table_eq (defScope s_Table_eq) := ⟨by first | rfl | kernel_rfl, by first | rfl | kernel_rfl, by first | rfl | kernel_rfl, by decide +kernel, by first | rfl | kernel_rfl, by decide +kernel, by decide +kernel⟩
theorem sc_Operation_taking : FnScope N_Operation_taking ps_Operation_taking (defScope s_Operation_taking) := ⟨by first | rfl | kernel_rfl, by first | rfl | kernel_rfl, by first | rfl | kernel_rfl, by decide +kernel, by first | rfl | kernel_rfl, by decide +kernel, by decide +kernel⟩
theorem sc__law_other_number_refused : FnScope N__law_other_number_refused ps__law_other_number_refused (defScope s__law_other_number_refused) := ⟨by first | rfl | kernel_rfl, by first | rfl | kernel_rfl, by first | rfl | kernel_rfl, by decide +kernel, by first | rfl | kernel_rfl, by decide +kernel, by decide +kernel⟩
theorem sc_Table_full : FnScope N_Table_full ps_Table_full (defScope s_Table_full) := ⟨by first | rfl | kernel_rfl, by first | rfl | kernel_rfl, by first | rfl | kernel_rfl, by decide +kernel, by first | rfl | kernel_rfl, by decide +kernel, by decide +kernel⟩
theorem pg {K : PySem.W.Frag} {P : Program} {w : World} {mg : Str → Option Value} {base : Heap} (B : Hd K mg) : Pg (tb K P w mg base) where
  g_len := B.free (B.c.at 0 (f := faB (.free "len")))
  g_min := B.free (B.c.at 1 (f := faB (.free "min")))
  g_max := B.free (B.c.at 2 (f := faB (.free "max")))
  g_range := B.free (B.c.at 3 (f := faB (.free "range")))
  g_abs := B.free (B.c.at 4 (f := faB (.free "abs")))
  g_int := B.free (B.c.at 5 (f := faB (.free "int")))
  g_sorted := B.free (B.c.at 6 (f := faB (.free "sorted")))
  g_set := B.free (B.c.at 7 (f := faB (.free "set")))
  g_tuple := B.free (B.c.at 8 (f := faB (.free "tuple")))
  isi_int := Isi.bt (B.free (B.c.at 5 (f := faB (.free "int")))) (by first | rfl | decide +kernel | kernel_rfl) (by decide) (by decide) (fun k b e => by
    match k, e with
    | 0, e => cases (show some false = some b from e); exact ⟨kitB_ok (B.c.at 9 (f := kitB "Table" (fun _ => .type "int") false)), obcB_ok (He.cls_ok (B.c.at 10 (f := faB (.cls "Table")))) (B.c.at 11 (f := obB "Table"))⟩
    | 1, e => cases (show some false = some b from e); exact ⟨kitB_ok (B.c.at 12 (f := kitB "Book" (fun _ => .type "int") false)), obcB_ok (He.cls_ok (B.c.at 13 (f := faB (.cls "Book")))) (B.c.at 14 (f := obB "Book"))⟩
    | 2, e => cases (show some false = some b from e); exact ⟨kitB_ok (B.c.at 15 (f := kitB "Puzzle" (fun _ => .type "int") false)), obcB_ok (He.cls_ok (B.c.at 16 (f := faB (.cls "Puzzle")))) (B.c.at 17 (f := obB "Puzzle"))⟩
    | 3, e => cases (show some false = some b from e); exact ⟨kitB_ok (B.c.at 18 (f := kitB "Operation" (fun _ => .type "int") false)), obcB_ok (He.cls_ok (B.c.at 19 (f := faB (.cls "Operation")))) (B.c.at 20 (f := obB "Operation"))⟩
    | n + 4, e => cases (show none = some b from e))
  g_isinstance := B.free (B.c.at 21 (f := faB (.free "isinstance")))
  isi_bool := Isi.bt (B.free (B.c.at 26 (f := faB (.free "bool")))) (by first | rfl | decide +kernel | kernel_rfl) (by decide) (by decide) (fun k b e => by
    match k, e with
    | 0, e => cases (show some false = some b from e); exact ⟨kitB_ok (B.c.at 22 (f := kitB "Table" (fun _ => .type "bool") false)), obcB_ok (He.cls_ok (B.c.at 10 (f := faB (.cls "Table")))) (B.c.at 11 (f := obB "Table"))⟩
    | 1, e => cases (show some false = some b from e); exact ⟨kitB_ok (B.c.at 23 (f := kitB "Book" (fun _ => .type "bool") false)), obcB_ok (He.cls_ok (B.c.at 13 (f := faB (.cls "Book")))) (B.c.at 14 (f := obB "Book"))⟩
    | 2, e => cases (show some false = some b from e); exact ⟨kitB_ok (B.c.at 24 (f := kitB "Puzzle" (fun _ => .type "bool") false)), obcB_ok (He.cls_ok (B.c.at 16 (f := faB (.cls "Puzzle")))) (B.c.at 17 (f := obB "Puzzle"))⟩
    | 3, e => cases (show some false = some b from e); exact ⟨kitB_ok (B.c.at 25 (f := kitB "Operation" (fun _ => .type "bool") false)), obcB_ok (He.cls_ok (B.c.at 19 (f := faB (.cls "Operation")))) (B.c.at 20 (f := obB "Operation"))⟩
    | n + 4, e => cases (show none = some b from e))
  c_MOST_WIDTH := B.int (B.c.at 27 (f := faB (.int "MOST_WIDTH" 3)))
  isi_list := Isi.bt (B.free (B.c.at 32 (f := faB (.free "list")))) (by first | rfl | decide +kernel | kernel_rfl) (by decide) (by decide) (fun k b e => by
    match k, e with
    | 0, e => cases (show some false = some b from e); exact ⟨kitB_ok (B.c.at 28 (f := kitB "Table" (fun _ => .type "list") false)), obcB_ok (He.cls_ok (B.c.at 10 (f := faB (.cls "Table")))) (B.c.at 11 (f := obB "Table"))⟩
    | 1, e => cases (show some false = some b from e); exact ⟨kitB_ok (B.c.at 29 (f := kitB "Book" (fun _ => .type "list") false)), obcB_ok (He.cls_ok (B.c.at 13 (f := faB (.cls "Book")))) (B.c.at 14 (f := obB "Book"))⟩
    | 2, e => cases (show some false = some b from e); exact ⟨kitB_ok (B.c.at 30 (f := kitB "Puzzle" (fun _ => .type "list") false)), obcB_ok (He.cls_ok (B.c.at 16 (f := faB (.cls "Puzzle")))) (B.c.at 17 (f := obB "Puzzle"))⟩
    | 3, e => cases (show some false = some b from e); exact ⟨kitB_ok (B.c.at 31 (f := kitB "Operation" (fun _ => .type "list") false)), obcB_ok (He.cls_ok (B.c.at 19 (f := faB (.cls "Operation")))) (B.c.at 20 (f := obB "Operation"))⟩
    | n + 4, e => cases (show none = some b from e))
  g_enumerate := B.free (B.c.at 33 (f := faB (.free "enumerate")))
  isi_Table := Isi.own (a := He.ga K "Table") (B.glo (B.c.at 38 (f := faB (.glo "Table")))) (B.c.at 39 (f := tyB "Table")) (fun k b e => by
    match k, e with
    | 0, e => cases (show some true = some b from e); exact ⟨kitB_ok (B.c.at 34 (f := kitB "Table" (fun K => .ref (He.ga K "Table")) true)), obcB_ok (He.cls_ok (B.c.at 10 (f := faB (.cls "Table")))) (B.c.at 11 (f := obB "Table"))⟩
    | 1, e => cases (show some false = some b from e); exact ⟨kitB_ok (B.c.at 35 (f := kitB "Book" (fun K => .ref (He.ga K "Table")) false)), obcB_ok (He.cls_ok (B.c.at 13 (f := faB (.cls "Book")))) (B.c.at 14 (f := obB "Book"))⟩
    | 2, e => cases (show some false = some b from e); exact ⟨kitB_ok (B.c.at 36 (f := kitB "Puzzle" (fun K => .ref (He.ga K "Table")) false)), obcB_ok (He.cls_ok (B.c.at 16 (f := faB (.cls "Puzzle")))) (B.c.at 17 (f := obB "Puzzle"))⟩
    | 3, e => cases (show some false = some b from e); exact ⟨kitB_ok (B.c.at 37 (f := kitB "Operation" (fun K => .ref (He.ga K "Table")) false)), obcB_ok (He.cls_ok (B.c.at 19 (f := faB (.cls "Operation")))) (B.c.at 20 (f := obB "Operation"))⟩
    | n + 4, e => cases (show none = some b from e))
  acc_width := ⟨fun k i e => by
    match k, e with
    | 0, e => cases (show some 0 = some i from e); exact ⟨He.cls_ok (B.c.at 10 (f := faB (.cls "Table"))), He.noat_ok (B.c.at 40 (f := faB (.noat "Table" "width"))), rfl, fl_nd 0⟩
    | 1, e => cases (show some 0 = some i from e); exact ⟨He.cls_ok (B.c.at 13 (f := faB (.cls "Book"))), He.noat_ok (B.c.at 41 (f := faB (.noat "Book" "width"))), rfl, fl_nd 1⟩
    | 2, e => cases (show none = some i from e)
    | 3, e => cases (show some 0 = some i from e); exact ⟨He.cls_ok (B.c.at 19 (f := faB (.cls "Operation"))), He.noat_ok (B.c.at 42 (f := faB (.noat "Operation" "width"))), rfl, fl_nd 3⟩
    | n + 4, e => cases (show none = some i from e)⟩
  g_list := B.free (B.c.at 32 (f := faB (.free "list")))
  acc_kept_tables := ⟨fun k i e => by
    match k, e with
    | 0, e => cases (show none = some i from e)
    | 1, e => cases (show some 1 = some i from e); exact ⟨He.cls_ok (B.c.at 13 (f := faB (.cls "Book"))), He.noat_ok (B.c.at 43 (f := faB (.noat "Book" "kept_tables"))), rfl, fl_nd 1⟩
    | 2, e => cases (show none = some i from e)
    | 3, e => cases (show none = some i from e)
    | n + 4, e => cases (show none = some i from e)⟩
  c_MOST_ARITY := B.int (B.c.at 44 (f := faB (.int "MOST_ARITY" 3)))
  isi_tuple := Isi.bt (B.free (B.c.at 8 (f := faB (.free "tuple")))) (by first | rfl | decide +kernel | kernel_rfl) (by decide) (by decide) (fun k b e => by
    match k, e with
    | 0, e => cases (show some false = some b from e); exact ⟨kitB_ok (B.c.at 45 (f := kitB "Table" (fun _ => .type "tuple") false)), obcB_ok (He.cls_ok (B.c.at 10 (f := faB (.cls "Table")))) (B.c.at 11 (f := obB "Table"))⟩
    | 1, e => cases (show some false = some b from e); exact ⟨kitB_ok (B.c.at 46 (f := kitB "Book" (fun _ => .type "tuple") false)), obcB_ok (He.cls_ok (B.c.at 13 (f := faB (.cls "Book")))) (B.c.at 14 (f := obB "Book"))⟩
    | 2, e => cases (show some false = some b from e); exact ⟨kitB_ok (B.c.at 47 (f := kitB "Puzzle" (fun _ => .type "tuple") false)), obcB_ok (He.cls_ok (B.c.at 16 (f := faB (.cls "Puzzle")))) (B.c.at 17 (f := obB "Puzzle"))⟩
    | 3, e => cases (show some false = some b from e); exact ⟨kitB_ok (B.c.at 48 (f := kitB "Operation" (fun _ => .type "tuple") false)), obcB_ok (He.cls_ok (B.c.at 19 (f := faB (.cls "Operation")))) (B.c.at 20 (f := obB "Operation"))⟩
    | n + 4, e => cases (show none = some b from e))
  g_all := B.free (B.c.at 49 (f := faB (.free "all")))
  acc_arity := ⟨fun k i e => by
    match k, e with
    | 0, e => cases (show some 1 = some i from e); exact ⟨He.cls_ok (B.c.at 10 (f := faB (.cls "Table"))), He.noat_ok (B.c.at 50 (f := faB (.noat "Table" "arity"))), rfl, fl_nd 0⟩
    | 1, e => cases (show none = some i from e)
    | 2, e => cases (show none = some i from e)
    | 3, e => cases (show some 1 = some i from e); exact ⟨He.cls_ok (B.c.at 19 (f := faB (.cls "Operation"))), He.noat_ok (B.c.at 51 (f := faB (.noat "Operation" "arity"))), rfl, fl_nd 3⟩
    | n + 4, e => cases (show none = some i from e)⟩
  acc_held := ⟨fun k i e => by
    match k, e with
    | 0, e => cases (show some 2 = some i from e); exact ⟨He.cls_ok (B.c.at 10 (f := faB (.cls "Table"))), He.noat_ok (B.c.at 52 (f := faB (.noat "Table" "held"))), rfl, fl_nd 0⟩
    | 1, e => cases (show none = some i from e)
    | 2, e => cases (show none = some i from e)
    | 3, e => cases (show some 2 = some i from e); exact ⟨He.cls_ok (B.c.at 19 (f := faB (.cls "Operation"))), He.noat_ok (B.c.at 53 (f := faB (.noat "Operation" "held"))), rfl, fl_nd 3⟩
    | n + 4, e => cases (show none = some i from e)⟩
  acc_there := ⟨fun k i e => by
    match k, e with
    | 0, e => cases (show some 3 = some i from e); exact ⟨He.cls_ok (B.c.at 10 (f := faB (.cls "Table"))), He.noat_ok (B.c.at 54 (f := faB (.noat "Table" "there"))), rfl, fl_nd 0⟩
    | 1, e => cases (show none = some i from e)
    | 2, e => cases (show none = some i from e)
    | 3, e => cases (show none = some i from e)
    | n + 4, e => cases (show none = some i from e)⟩
  acc_book := ⟨fun k i e => by
    match k, e with
    | 0, e => cases (show none = some i from e)
    | 1, e => cases (show none = some i from e)
    | 2, e => cases (show some 0 = some i from e); exact ⟨He.cls_ok (B.c.at 16 (f := faB (.cls "Puzzle"))), He.noat_ok (B.c.at 55 (f := faB (.noat "Puzzle" "book"))), rfl, fl_nd 2⟩
    | 3, e => cases (show none = some i from e)
    | n + 4, e => cases (show none = some i from e)⟩
  c_MOST_PLACES := B.int (B.c.at 56 (f := faB (.int "MOST_PLACES" 60)))
  acc_places := ⟨fun k i e => by
    match k, e with
    | 0, e => cases (show none = some i from e)
    | 1, e => cases (show none = some i from e)
    | 2, e => cases (show some 1 = some i from e); exact ⟨He.cls_ok (B.c.at 16 (f := faB (.cls "Puzzle"))), He.noat_ok (B.c.at 57 (f := faB (.noat "Puzzle" "places"))), rfl, fl_nd 2⟩
    | 3, e => cases (show none = some i from e)
    | n + 4, e => cases (show none = some i from e)⟩
  acc_kept_rows := ⟨fun k i e => by
    match k, e with
    | 0, e => cases (show none = some i from e)
    | 1, e => cases (show none = some i from e)
    | 2, e => cases (show some 2 = some i from e); exact ⟨He.cls_ok (B.c.at 16 (f := faB (.cls "Puzzle"))), He.noat_ok (B.c.at 58 (f := faB (.noat "Puzzle" "kept_rows"))), rfl, fl_nd 2⟩
    | 3, e => cases (show none = some i from e)
    | n + 4, e => cases (show none = some i from e)⟩
  isi_Operation := Isi.own (a := He.ga K "Operation") (B.glo (B.c.at 63 (f := faB (.glo "Operation")))) (B.c.at 64 (f := tyB "Operation")) (fun k b e => by
    match k, e with
    | 0, e => cases (show some false = some b from e); exact ⟨kitB_ok (B.c.at 59 (f := kitB "Table" (fun K => .ref (He.ga K "Operation")) false)), obcB_ok (He.cls_ok (B.c.at 10 (f := faB (.cls "Table")))) (B.c.at 11 (f := obB "Table"))⟩
    | 1, e => cases (show some false = some b from e); exact ⟨kitB_ok (B.c.at 60 (f := kitB "Book" (fun K => .ref (He.ga K "Operation")) false)), obcB_ok (He.cls_ok (B.c.at 13 (f := faB (.cls "Book")))) (B.c.at 14 (f := obB "Book"))⟩
    | 2, e => cases (show some false = some b from e); exact ⟨kitB_ok (B.c.at 61 (f := kitB "Puzzle" (fun K => .ref (He.ga K "Operation")) false)), obcB_ok (He.cls_ok (B.c.at 16 (f := faB (.cls "Puzzle")))) (B.c.at 17 (f := obB "Puzzle"))⟩
    | 3, e => cases (show some true = some b from e); exact ⟨kitB_ok (B.c.at 62 (f := kitB "Operation" (fun K => .ref (He.ga K "Operation")) true)), obcB_ok (He.cls_ok (B.c.at 19 (f := faB (.cls "Operation")))) (B.c.at 20 (f := obB "Operation"))⟩
    | n + 4, e => cases (show none = some b from e))
  g_zip := B.free (B.c.at 65 (f := faB (.free "zip")))
  c_MOST_ARGUMENTS := B.int (B.c.at 66 (f := faB (.int "MOST_ARGUMENTS" 4)))
  isi_Book := Isi.own (a := He.ga K "Book") (B.glo (B.c.at 71 (f := faB (.glo "Book")))) (B.c.at 72 (f := tyB "Book")) (fun k b e => by
    match k, e with
    | 0, e => cases (show some false = some b from e); exact ⟨kitB_ok (B.c.at 67 (f := kitB "Table" (fun K => .ref (He.ga K "Book")) false)), obcB_ok (He.cls_ok (B.c.at 10 (f := faB (.cls "Table")))) (B.c.at 11 (f := obB "Table"))⟩
    | 1, e => cases (show some true = some b from e); exact ⟨kitB_ok (B.c.at 68 (f := kitB "Book" (fun K => .ref (He.ga K "Book")) true)), obcB_ok (He.cls_ok (B.c.at 13 (f := faB (.cls "Book")))) (B.c.at 14 (f := obB "Book"))⟩
    | 2, e => cases (show some false = some b from e); exact ⟨kitB_ok (B.c.at 69 (f := kitB "Puzzle" (fun K => .ref (He.ga K "Book")) false)), obcB_ok (He.cls_ok (B.c.at 16 (f := faB (.cls "Puzzle")))) (B.c.at 17 (f := obB "Puzzle"))⟩
    | 3, e => cases (show some false = some b from e); exact ⟨kitB_ok (B.c.at 70 (f := kitB "Operation" (fun K => .ref (He.ga K "Book")) false)), obcB_ok (He.cls_ok (B.c.at 19 (f := faB (.cls "Operation")))) (B.c.at 20 (f := obB "Operation"))⟩
    | n + 4, e => cases (show none = some b from e))
  still_ms_eq_Table := still_of _
  ne_ms_eq_Book := fun j m e => by
    match j, e with
    | 0, e => cases (show none = some m from e)
    | 1, _ => exact neB_ok (B.c.at 73 (f := neB' "Book"))
    | 2, e => cases (show none = some m from e)
    | 3, e => cases (show none = some m from e)
    | n + 4, e => cases (show none = some m from e)
  cl_Operation := B.glo (B.c.at 63 (f := faB (.glo "Operation")))
  cl_Table := B.glo (B.c.at 38 (f := faB (.glo "Table")))
  flen := fl_len
theorem A__law_feed {K : PySem.W.Frag} {P : Program} {w : World} {mg : Str → Option Value} {base : Heap} (B : Hd K mg) : ∃ fd, FnAt (tb K P w mg base) 1 (He.fAd K ("_law_feed", none)) fd ps__law_feed m__law_feed :=
  let ⟨fd, F⟩ := B.c.def_ 1 (d := dA__law_feed) (by rfl)
  ⟨fd, fnat_of (n := 0) F sc__law_feed (F.bindsN fun _ _ _ _ _ _ us hl => match us, hl with | [_, _], _ => rfl) (d__law_feed (pg B) _)⟩
theorem F__law_feed {K : PySem.W.Frag} {P : Program} {w : World} {mg : Str → Option Value} {base : Heap} (B : Hd K mg) : Fn (tb K P w mg base) 1 "_law_feed" ps__law_feed m__law_feed :=
  let ⟨fd, A⟩ := A__law_feed B
  ⟨_, fd, A, B.glo (B.c.at 74 (f := faB (.glo "_law_feed")))⟩
theorem A__law_take {K : PySem.W.Frag} {P : Program} {w : World} {mg : Str → Option Value} {base : Heap} (B : Hd K mg) : ∃ fd, FnAt (tb K P w mg base) 1 (He.fAd K ("_law_take", none)) fd ps__law_take m__law_take :=
  let ⟨fd, F⟩ := B.c.def_ 4 (d := dA__law_take) (by rfl)
  ⟨fd, fnat_of (n := 0) F sc__law_take (F.bindsN fun _ _ _ _ _ _ us hl => match us, hl with | [_, _], _ => rfl) (d__law_take (pg B) _)⟩
theorem F__law_take {K : PySem.W.Frag} {P : Program} {w : World} {mg : Str → Option Value} {base : Heap} (B : Hd K mg) : Fn (tb K P w mg base) 1 "_law_take" ps__law_take m__law_take :=
  let ⟨fd, A⟩ := A__law_take B
  ⟨_, fd, A, B.glo (B.c.at 75 (f := faB (.glo "_law_take")))⟩
theorem A__law_pick {K : PySem.W.Frag} {P : Program} {w : World} {mg : Str → Option Value} {base : Heap} (B : Hd K mg) : ∃ fd, FnAt (tb K P w mg base) 2 (He.fAd K ("_law_pick", none)) fd ps__law_pick m__law_pick :=
  let ⟨fd, F⟩ := B.c.def_ 3 (d := dA__law_pick) (by rfl)
  ⟨fd, fnat_of (n := 1) F sc__law_pick (F.bindsN fun _ _ _ _ _ _ us hl => match us, hl with | [_, _], _ => rfl) (d__law_pick (pg B) (F__law_take B) _)⟩
theorem F__law_pick {K : PySem.W.Frag} {P : Program} {w : World} {mg : Str → Option Value} {base : Heap} (B : Hd K mg) : Fn (tb K P w mg base) 2 "_law_pick" ps__law_pick m__law_pick :=
  let ⟨fd, A⟩ := A__law_pick B
  ⟨_, fd, A, B.glo (B.c.at 76 (f := faB (.glo "_law_pick")))⟩
theorem A__law_width {K : PySem.W.Frag} {P : Program} {w : World} {mg : Str → Option Value} {base : Heap} (B : Hd K mg) : ∃ fd, FnAt (tb K P w mg base) 3 (He.fAd K ("_law_width", none)) fd ps__law_width m__law_width :=
  let ⟨fd, F⟩ := B.c.def_ 2 (d := dA__law_width) (by rfl)
  ⟨fd, fnat_of (n := 2) F sc__law_width (F.bindsN fun _ _ _ _ _ _ us hl => match us, hl with | [_], _ => rfl) (d__law_width (pg B) (F__law_pick B) _)⟩
theorem F__law_width {K : PySem.W.Frag} {P : Program} {w : World} {mg : Str → Option Value} {base : Heap} (B : Hd K mg) : Fn (tb K P w mg base) 3 "_law_width" ps__law_width m__law_width :=
  let ⟨fd, A⟩ := A__law_width B
  ⟨_, fd, A, B.glo (B.c.at 77 (f := faB (.glo "_law_width")))⟩
theorem A__law_all {K : PySem.W.Frag} {P : Program} {w : World} {mg : Str → Option Value} {base : Heap} (B : Hd K mg) : ∃ fd, FnAt (tb K P w mg base) 1 (He.fAd K ("_law_all", none)) fd ps__law_all m__law_all :=
  let ⟨fd, F⟩ := B.c.def_ 7 (d := dA__law_all) (by rfl)
  ⟨fd, fnat_of (n := 0) F sc__law_all (F.bindsN fun _ _ _ _ _ _ us hl => match us, hl with | [_, _], _ => rfl) (d__law_all (pg B) _)⟩
theorem F__law_all {K : PySem.W.Frag} {P : Program} {w : World} {mg : Str → Option Value} {base : Heap} (B : Hd K mg) : Fn (tb K P w mg base) 1 "_law_all" ps__law_all m__law_all :=
  let ⟨fd, A⟩ := A__law_all B
  ⟨_, fd, A, B.glo (B.c.at 78 (f := faB (.glo "_law_all")))⟩
theorem A__law_agreement {K : PySem.W.Frag} {P : Program} {w : World} {mg : Str → Option Value} {base : Heap} (B : Hd K mg) : ∃ fd, FnAt (tb K P w mg base) 2 (He.fAd K ("_law_agreement", none)) fd ps__law_agreement m__law_agreement :=
  let ⟨fd, F⟩ := B.c.def_ 6 (d := dA__law_agreement) (by rfl)
  ⟨fd, fnat_of (n := 1) F sc__law_agreement (F.bindsN fun _ _ _ _ _ _ us hl => match us, hl with | [_, _, _], _ => rfl) (d__law_agreement (pg B) (F__law_all B) (F__law_take B) _)⟩
theorem F__law_agreement {K : PySem.W.Frag} {P : Program} {w : World} {mg : Str → Option Value} {base : Heap} (B : Hd K mg) : Fn (tb K P w mg base) 2 "_law_agreement" ps__law_agreement m__law_agreement :=
  let ⟨fd, A⟩ := A__law_agreement B
  ⟨_, fd, A, B.glo (B.c.at 79 (f := faB (.glo "_law_agreement")))⟩
theorem A__law_together {K : PySem.W.Frag} {P : Program} {w : World} {mg : Str → Option Value} {base : Heap} (B : Hd K mg) : ∃ fd, FnAt (tb K P w mg base) 1 (He.fAd K ("_law_together", none)) fd ps__law_together m__law_together :=
  let ⟨fd, F⟩ := B.c.def_ 9 (d := dA__law_together) (by rfl)
  ⟨fd, fnat_of (n := 0) F sc__law_together (F.bindsN fun _ _ _ _ _ _ us hl => match us, hl with | [_, _], _ => rfl) (d__law_together (pg B) _)⟩
theorem F__law_together {K : PySem.W.Frag} {P : Program} {w : World} {mg : Str → Option Value} {base : Heap} (B : Hd K mg) : Fn (tb K P w mg base) 1 "_law_together" ps__law_together m__law_together :=
  let ⟨fd, A⟩ := A__law_together B
  ⟨_, fd, A, B.glo (B.c.at 80 (f := faB (.glo "_law_together")))⟩
theorem A__law_cell {K : PySem.W.Frag} {P : Program} {w : World} {mg : Str → Option Value} {base : Heap} (B : Hd K mg) : ∃ fd, FnAt (tb K P w mg base) 1 (He.fAd K ("_law_cell", none)) fd ps__law_cell m__law_cell :=
  let ⟨fd, F⟩ := B.c.def_ 11 (d := dA__law_cell) (by rfl)
  ⟨fd, fnat_of (n := 0) F sc__law_cell (F.bindsN fun _ _ _ _ _ _ us hl => match us, hl with | [_, _, _], _ => rfl) (d__law_cell (pg B) _)⟩
theorem F__law_cell {K : PySem.W.Frag} {P : Program} {w : World} {mg : Str → Option Value} {base : Heap} (B : Hd K mg) : Fn (tb K P w mg base) 1 "_law_cell" ps__law_cell m__law_cell :=
  let ⟨fd, A⟩ := A__law_cell B
  ⟨_, fd, A, B.glo (B.c.at 81 (f := faB (.glo "_law_cell")))⟩
theorem A__law_given {K : PySem.W.Frag} {P : Program} {w : World} {mg : Str → Option Value} {base : Heap} (B : Hd K mg) : ∃ fd, FnAt (tb K P w mg base) 2 (He.fAd K ("_law_given", none)) fd ps__law_given m__law_given :=
  let ⟨fd, F⟩ := B.c.def_ 10 (d := dA__law_given) (by rfl)
  ⟨fd, fnat_of (n := 1) F sc__law_given (F.bindsN fun _ _ _ _ _ _ us hl => match us, hl with | [_, _, _], _ => rfl) (d__law_given (pg B) (F__law_cell B) _)⟩
theorem F__law_given {K : PySem.W.Frag} {P : Program} {w : World} {mg : Str → Option Value} {base : Heap} (B : Hd K mg) : Fn (tb K P w mg base) 2 "_law_given" ps__law_given m__law_given :=
  let ⟨fd, A⟩ := A__law_given B
  ⟨_, fd, A, B.glo (B.c.at 82 (f := faB (.glo "_law_given")))⟩
theorem A__law_closed {K : PySem.W.Frag} {P : Program} {w : World} {mg : Str → Option Value} {base : Heap} (B : Hd K mg) : ∃ fd, FnAt (tb K P w mg base) 3 (He.fAd K ("_law_closed", none)) fd ps__law_closed m__law_closed :=
  let ⟨fd, F⟩ := B.c.def_ 8 (d := dA__law_closed) (by rfl)
  ⟨fd, fnat_of (n := 2) F sc__law_closed (F.bindsN fun _ _ _ _ _ _ us hl => match us, hl with | [_, _, _, _], _ => rfl) (d__law_closed (pg B) (F__law_all B) (F__law_together B) (F__law_given B) _)⟩
theorem F__law_closed {K : PySem.W.Frag} {P : Program} {w : World} {mg : Str → Option Value} {base : Heap} (B : Hd K mg) : Fn (tb K P w mg base) 3 "_law_closed" ps__law_closed m__law_closed :=
  let ⟨fd, A⟩ := A__law_closed B
  ⟨_, fd, A, B.glo (B.c.at 83 (f := faB (.glo "_law_closed")))⟩
theorem A__law_drawn_row {K : PySem.W.Frag} {P : Program} {w : World} {mg : Str → Option Value} {base : Heap} (B : Hd K mg) : ∃ fd, FnAt (tb K P w mg base) 2 (He.fAd K ("_law_drawn_row", none)) fd ps__law_drawn_row m__law_drawn_row :=
  let ⟨fd, F⟩ := B.c.def_ 13 (d := dA__law_drawn_row) (by rfl)
  ⟨fd, fnat_of (n := 1) F sc__law_drawn_row (F.bindsN fun _ _ _ _ _ _ us hl => match us, hl with | [_, _, _], _ => rfl) (d__law_drawn_row (pg B) (F__law_take B) _)⟩
theorem F__law_drawn_row {K : PySem.W.Frag} {P : Program} {w : World} {mg : Str → Option Value} {base : Heap} (B : Hd K mg) : Fn (tb K P w mg base) 2 "_law_drawn_row" ps__law_drawn_row m__law_drawn_row :=
  let ⟨fd, A⟩ := A__law_drawn_row B
  ⟨_, fd, A, B.glo (B.c.at 84 (f := faB (.glo "_law_drawn_row")))⟩
theorem A__law_drawn_rows {K : PySem.W.Frag} {P : Program} {w : World} {mg : Str → Option Value} {base : Heap} (B : Hd K mg) : ∃ fd, FnAt (tb K P w mg base) 3 (He.fAd K ("_law_drawn_rows", none)) fd ps__law_drawn_rows m__law_drawn_rows :=
  let ⟨fd, F⟩ := B.c.def_ 12 (d := dA__law_drawn_rows) (by rfl)
  ⟨fd, fnat_of (n := 2) F sc__law_drawn_rows (F.bindsN fun _ _ _ _ _ _ us hl => match us, hl with | [_, _, _, _], _ => rfl) (d__law_drawn_rows (pg B) (F__law_take B) (F__law_drawn_row B) _)⟩
theorem F__law_drawn_rows {K : PySem.W.Frag} {P : Program} {w : World} {mg : Str → Option Value} {base : Heap} (B : Hd K mg) : Fn (tb K P w mg base) 3 "_law_drawn_rows" ps__law_drawn_rows m__law_drawn_rows :=
  let ⟨fd, A⟩ := A__law_drawn_rows B
  ⟨_, fd, A, B.glo (B.c.at 85 (f := faB (.glo "_law_drawn_rows")))⟩
theorem A__law_agreeing {K : PySem.W.Frag} {P : Program} {w : World} {mg : Str → Option Value} {base : Heap} (B : Hd K mg) : ∃ fd, FnAt (tb K P w mg base) 4 (He.fAd K ("_law_agreeing", none)) fd ps__law_agreeing m__law_agreeing :=
  let ⟨fd, F⟩ := B.c.def_ 5 (d := dA__law_agreeing) (by rfl)
  ⟨fd, fnat_of (n := 3) F sc__law_agreeing (F.bindsN fun _ _ _ _ _ _ us hl => match us, hl with | [_, _, _, _], _ => rfl) (d__law_agreeing (pg B) (F__law_agreement B) (F__law_take B) (F__law_closed B) (F__law_drawn_rows B) _)⟩
theorem F__law_agreeing {K : PySem.W.Frag} {P : Program} {w : World} {mg : Str → Option Value} {base : Heap} (B : Hd K mg) : Fn (tb K P w mg base) 4 "_law_agreeing" ps__law_agreeing m__law_agreeing :=
  let ⟨fd, A⟩ := A__law_agreeing B
  ⟨_, fd, A, B.glo (B.c.at 86 (f := faB (.glo "_law_agreeing")))⟩
theorem A_within {K : PySem.W.Frag} {P : Program} {w : World} {mg : Str → Option Value} {base : Heap} (B : Hd K mg) : ∃ fd, FnAt (tb K P w mg base) 1 (He.fAd K ("within", none)) fd ps_within m_within :=
  let ⟨fd, F⟩ := B.c.def_ 17 (d := dA_within) (by rfl)
  ⟨fd, fnat_of (n := 0) F sc_within (F.bindsN fun _ _ _ _ _ _ us hl => match us, hl with | [_, _, _], _ => rfl) (d_within (pg B) _)⟩
theorem F_within {K : PySem.W.Frag} {P : Program} {w : World} {mg : Str → Option Value} {base : Heap} (B : Hd K mg) : Fn (tb K P w mg base) 1 "within" ps_within m_within :=
  let ⟨fd, A⟩ := A_within B
  ⟨_, fd, A, B.glo (B.c.at 87 (f := faB (.glo "within")))⟩
theorem A_check_width {K : PySem.W.Frag} {P : Program} {w : World} {mg : Str → Option Value} {base : Heap} (B : Hd K mg) : ∃ fd, FnAt (tb K P w mg base) 2 (He.fAd K ("check_width", none)) fd ps_check_width m_check_width :=
  let ⟨fd, F⟩ := B.c.def_ 16 (d := dA_check_width) (by rfl)
  ⟨fd, fnat_of (n := 1) F sc_check_width (F.bindsN fun _ _ _ _ _ _ us hl => match us, hl with | [_], _ => rfl) (d_check_width (pg B) (F_within B) _)⟩
theorem F_check_width {K : PySem.W.Frag} {P : Program} {w : World} {mg : Str → Option Value} {base : Heap} (B : Hd K mg) : Fn (tb K P w mg base) 2 "check_width" ps_check_width m_check_width :=
  let ⟨fd, A⟩ := A_check_width B
  ⟨_, fd, A, B.glo (B.c.at 88 (f := faB (.glo "check_width")))⟩
theorem K_Book {K : PySem.W.Frag} {P : Program} {w : World} {mg : Str → Option Value} {base : Heap} (B : Hd K mg) : Mkr (tb K P w mg base) 3 1 "Book" ps_Book_init m_Book_init :=
  let ⟨fd, F⟩ := B.c.def_ 15 (d := dA_Book_init) (by rfl)
  mkr_of (n := 2) F sc_Book_init (F.bindsN fun _ _ _ _ _ _ us hl => match us, hl with | [_, _, _], _ => rfl) (He.mkr_ok (B.c.at 89 (f := faB (.mkr "Book")))) (B.glo (B.c.at 71 (f := faB (.glo "Book")))) (d_Book_init (pg B) (F_check_width B) _)
theorem A_check_arity {K : PySem.W.Frag} {P : Program} {w : World} {mg : Str → Option Value} {base : Heap} (B : Hd K mg) : ∃ fd, FnAt (tb K P w mg base) 2 (He.fAd K ("check_arity", none)) fd ps_check_arity m_check_arity :=
  let ⟨fd, F⟩ := B.c.def_ 20 (d := dA_check_arity) (by rfl)
  ⟨fd, fnat_of (n := 1) F sc_check_arity (F.bindsN fun _ _ _ _ _ _ us hl => match us, hl with | [_, _], _ => rfl) (d_check_arity (pg B) (F_within B) _)⟩
theorem F_check_arity {K : PySem.W.Frag} {P : Program} {w : World} {mg : Str → Option Value} {base : Heap} (B : Hd K mg) : Fn (tb K P w mg base) 2 "check_arity" ps_check_arity m_check_arity :=
  let ⟨fd, A⟩ := A_check_arity B
  ⟨_, fd, A, B.glo (B.c.at 90 (f := faB (.glo "check_arity")))⟩
theorem A_is_row {K : PySem.W.Frag} {P : Program} {w : World} {mg : Str → Option Value} {base : Heap} (B : Hd K mg) : ∃ fd, FnAt (tb K P w mg base) 2 (He.fAd K ("is_row", none)) fd ps_is_row m_is_row :=
  let ⟨fd, F⟩ := B.c.def_ 21 (d := dA_is_row) (by rfl)
  ⟨fd, fnat_of (n := 1) F sc_is_row (F.bindsN fun _ _ _ _ _ _ us hl => match us, hl with | [_, _, _], _ => rfl) (d_is_row (pg B) (F_within B) _)⟩
theorem F_is_row {K : PySem.W.Frag} {P : Program} {w : World} {mg : Str → Option Value} {base : Heap} (B : Hd K mg) : Fn (tb K P w mg base) 2 "is_row" ps_is_row m_is_row :=
  let ⟨fd, A⟩ := A_is_row B
  ⟨_, fd, A, B.glo (B.c.at 91 (f := faB (.glo "is_row")))⟩
theorem K_Table {K : PySem.W.Frag} {P : Program} {w : World} {mg : Str → Option Value} {base : Heap} (B : Hd K mg) : Mkr (tb K P w mg base) 3 0 "Table" ps_Table_init m_Table_init :=
  let ⟨fd, F⟩ := B.c.def_ 19 (d := dA_Table_init) (by rfl)
  mkr_of (n := 2) F sc_Table_init (F.bindsN fun _ _ _ _ _ _ us hl => match us, hl with | [_, _, _, _], _ => rfl) (He.mkr_ok (B.c.at 92 (f := faB (.mkr "Table")))) (B.glo (B.c.at 38 (f := faB (.glo "Table")))) (d_Table_init (pg B) (F_check_width B) (F_check_arity B) (F_is_row B) _)
theorem A__law_program_table {K : PySem.W.Frag} {P : Program} {w : World} {mg : Str → Option Value} {base : Heap} (B : Hd K mg) : ∃ fd, FnAt (tb K P w mg base) 5 (He.fAd K ("_law_program_table", none)) fd ps__law_program_table m__law_program_table :=
  let ⟨fd, F⟩ := B.c.def_ 18 (d := dA__law_program_table) (by rfl)
  ⟨fd, fnat_of (n := 4) F sc__law_program_table (F.bindsN fun _ _ _ _ _ _ us hl => match us, hl with | [_, _], _ => rfl) (d__law_program_table (pg B) (K_Table B) _)⟩
theorem F__law_program_table {K : PySem.W.Frag} {P : Program} {w : World} {mg : Str → Option Value} {base : Heap} (B : Hd K mg) : Fn (tb K P w mg base) 5 "_law_program_table" ps__law_program_table m__law_program_table :=
  let ⟨fd, A⟩ := A__law_program_table B
  ⟨_, fd, A, B.glo (B.c.at 93 (f := faB (.glo "_law_program_table")))⟩
theorem A__law_program_book {K : PySem.W.Frag} {P : Program} {w : World} {mg : Str → Option Value} {base : Heap} (B : Hd K mg) : ∃ fd, FnAt (tb K P w mg base) 6 (He.fAd K ("_law_program_book", none)) fd ps__law_program_book m__law_program_book :=
  let ⟨fd, F⟩ := B.c.def_ 14 (d := dA__law_program_book) (by rfl)
  ⟨fd, fnat_of (n := 5) F sc__law_program_book (F.bindsN fun _ _ _ _ _ _ us hl => match us, hl with | [_, _], _ => rfl) (d__law_program_book (pg B) (K_Book B) (F__law_program_table B) _)⟩
theorem F__law_program_book {K : PySem.W.Frag} {P : Program} {w : World} {mg : Str → Option Value} {base : Heap} (B : Hd K mg) : Fn (tb K P w mg base) 6 "_law_program_book" ps__law_program_book m__law_program_book :=
  let ⟨fd, A⟩ := A__law_program_book B
  ⟨_, fd, A, B.glo (B.c.at 94 (f := faB (.glo "_law_program_book")))⟩
theorem A__law_agrees {K : PySem.W.Frag} {P : Program} {w : World} {mg : Str → Option Value} {base : Heap} (B : Hd K mg) : ∃ fd, FnAt (tb K P w mg base) 2 (He.fAd K ("_law_agrees", none)) fd ps__law_agrees m__law_agrees :=
  let ⟨fd, F⟩ := B.c.def_ 22 (d := dA__law_agrees) (by rfl)
  ⟨fd, fnat_of (n := 1) F sc__law_agrees (F.bindsN fun _ _ _ _ _ _ us hl => match us, hl with | [_, _, _], _ => rfl) (d__law_agrees (pg B) (F__law_all B) (F__law_cell B) _)⟩
theorem F__law_agrees {K : PySem.W.Frag} {P : Program} {w : World} {mg : Str → Option Value} {base : Heap} (B : Hd K mg) : Fn (tb K P w mg base) 2 "_law_agrees" ps__law_agrees m__law_agrees :=
  let ⟨fd, A⟩ := A__law_agrees B
  ⟨_, fd, A, B.glo (B.c.at 95 (f := faB (.glo "_law_agrees")))⟩
theorem A__law_keeps {K : PySem.W.Frag} {P : Program} {w : World} {mg : Str → Option Value} {base : Heap} (B : Hd K mg) : ∃ fd, FnAt (tb K P w mg base) 3 (He.fAd K ("_law_keeps", none)) fd ps__law_keeps m__law_keeps :=
  let ⟨fd, F⟩ := B.c.def_ 23 (d := dA__law_keeps) (by rfl)
  ⟨fd, fnat_of (n := 2) F sc__law_keeps (F.bindsN fun _ _ _ _ _ _ us hl => match us, hl with | [_, _, _], _ => rfl) (d__law_keeps (pg B) (F__law_together B) (F__law_given B) _)⟩
theorem F__law_keeps {K : PySem.W.Frag} {P : Program} {w : World} {mg : Str → Option Value} {base : Heap} (B : Hd K mg) : Fn (tb K P w mg base) 3 "_law_keeps" ps__law_keeps m__law_keeps :=
  let ⟨fd, A⟩ := A__law_keeps B
  ⟨_, fd, A, B.glo (B.c.at 96 (f := faB (.glo "_law_keeps")))⟩
theorem A_check_near {K : PySem.W.Frag} {P : Program} {w : World} {mg : Str → Option Value} {base : Heap} (B : Hd K mg) : ∃ fd, FnAt (tb K P w mg base) 2 (He.fAd K ("check_near", none)) fd ps_check_near m_check_near :=
  let ⟨fd, F⟩ := B.c.def_ 25 (d := dA_check_near) (by rfl)
  ⟨fd, fnat_of (n := 1) F sc_check_near (F.bindsN fun _ _ _ _ _ _ us hl => match us, hl with | [_, _], _ => rfl) (d_check_near (pg B) (F_within B) _)⟩
theorem F_check_near {K : PySem.W.Frag} {P : Program} {w : World} {mg : Str → Option Value} {base : Heap} (B : Hd K mg) : Fn (tb K P w mg base) 2 "check_near" ps_check_near m_check_near :=
  let ⟨fd, A⟩ := A_check_near B
  ⟨_, fd, A, B.glo (B.c.at 97 (f := faB (.glo "check_near")))⟩
theorem A_is_use {K : PySem.W.Frag} {P : Program} {w : World} {mg : Str → Option Value} {base : Heap} (B : Hd K mg) : ∃ fd, FnAt (tb K P w mg base) 3 (He.fAd K ("is_use", none)) fd ps_is_use m_is_use :=
  let ⟨fd, F⟩ := B.c.def_ 27 (d := dA_is_use) (by rfl)
  ⟨fd, fnat_of (n := 2) F sc_is_use (F.bindsN fun _ _ _ _ _ _ us hl => match us, hl with | [_, _, _], _ => rfl) (d_is_use (pg B) (F_within B) (F_is_row B) _)⟩
theorem F_is_use {K : PySem.W.Frag} {P : Program} {w : World} {mg : Str → Option Value} {base : Heap} (B : Hd K mg) : Fn (tb K P w mg base) 3 "is_use" ps_is_use m_is_use :=
  let ⟨fd, A⟩ := A_is_use B
  ⟨_, fd, A, B.glo (B.c.at 98 (f := faB (.glo "is_use")))⟩
theorem K_Puzzle {K : PySem.W.Frag} {P : Program} {w : World} {mg : Str → Option Value} {base : Heap} (B : Hd K mg) : Mkr (tb K P w mg base) 4 2 "Puzzle" ps_Puzzle_init m_Puzzle_init :=
  let ⟨fd, F⟩ := B.c.def_ 26 (d := dA_Puzzle_init) (by rfl)
  mkr_of (n := 3) F sc_Puzzle_init (F.bindsN fun _ _ _ _ _ _ us hl => match us, hl with | [_, _, _, _], _ => rfl) (He.mkr_ok (B.c.at 99 (f := faB (.mkr "Puzzle")))) (B.glo (B.c.at 100 (f := faB (.glo "Puzzle")))) (d_Puzzle_init (pg B) (F_within B) (F_is_use B) _)
theorem A_tuples_of {K : PySem.W.Frag} {P : Program} {w : World} {mg : Str → Option Value} {base : Heap} (B : Hd K mg) : ∃ fd, FnAt (tb K P w mg base) 1 (He.fAd K ("tuples_of", none)) fd ps_tuples_of m_tuples_of :=
  let ⟨fd, F⟩ := B.c.def_ 29 (d := dA_tuples_of) (by rfl)
  ⟨fd, fnat_of (n := 0) F sc_tuples_of (F.bindsN fun _ _ _ _ _ _ us hl => match us, hl with | [_, _], _ => rfl) (d_tuples_of (pg B) _)⟩
theorem F_tuples_of {K : PySem.W.Frag} {P : Program} {w : World} {mg : Str → Option Value} {base : Heap} (B : Hd K mg) : Fn (tb K P w mg base) 1 "tuples_of" ps_tuples_of m_tuples_of :=
  let ⟨fd, A⟩ := A_tuples_of B
  ⟨_, fd, A, B.glo (B.c.at 101 (f := faB (.glo "tuples_of")))⟩
theorem A_odd_ones {K : PySem.W.Frag} {P : Program} {w : World} {mg : Str → Option Value} {base : Heap} (B : Hd K mg) : ∃ fd, FnAt (tb K P w mg base) 1 (He.fAd K ("odd_ones", none)) fd ps_odd_ones m_odd_ones :=
  let ⟨fd, F⟩ := B.c.def_ 30 (d := dA_odd_ones) (by rfl)
  ⟨fd, fnat_of (n := 0) F sc_odd_ones (F.bindsN fun _ _ _ _ _ _ us hl => match us, hl with | [_], _ => rfl) (d_odd_ones (pg B) _)⟩
theorem F_odd_ones {K : PySem.W.Frag} {P : Program} {w : World} {mg : Str → Option Value} {base : Heap} (B : Hd K mg) : Fn (tb K P w mg base) 1 "odd_ones" ps_odd_ones m_odd_ones :=
  let ⟨fd, A⟩ := A_odd_ones B
  ⟨_, fd, A, B.glo (B.c.at 102 (f := faB (.glo "odd_ones")))⟩
theorem A_Operation_agrees {K : PySem.W.Frag} {P : Program} {w : World} {mg : Str → Option Value} {base : Heap} (B : Hd K mg) : ∃ fd, FnAt (tb K P w mg base) 2 (He.fAd K ("Operation", some "agrees")) fd ps_Operation_agrees m_Operation_agrees :=
  let ⟨fd, F⟩ := B.c.def_ 28 (d := dA_Operation_agrees) (by rfl)
  ⟨fd, fnat_of (n := 1) F sc_Operation_agrees (F.bindsN fun _ _ _ _ _ _ us hl => match us, hl with | [_], _ => rfl) (d_Operation_agrees (pg B) (F_tuples_of B) (F_odd_ones B) _)⟩
theorem M_agrees_Operation {K : PySem.W.Frag} {P : Program} {w : World} {mg : Str → Option Value} {base : Heap} (B : Hd K mg) : Mths (tb K P w mg base) 2 "agrees" ms_agrees_Operation := fun j m e => by
  match j, e with
  | 0, e => cases (show none = some m from e)
  | 1, e => cases (show none = some m from e)
  | 2, e => cases (show none = some m from e)
  | 3, e =>
    cases (show some m_Operation_agrees = some m from e)
    obtain ⟨fd, A⟩ := A_Operation_agrees (P := P) (w := w) (base := base) B
    exact ⟨_, ⟨_, fd, A.mono (by decide), He.meth_ok (B.c.at 103 (f := faB (.meth "Operation" "agrees")))⟩, He.cls_ok (B.c.at 19 (f := faB (.cls "Operation"))), by show ¬ ("agrees" : Str) ∈ flK 3; decide +kernel⟩
  | n + 4, e => cases (show none = some m from e)
theorem A_Book_tables {K : PySem.W.Frag} {P : Program} {w : World} {mg : Str → Option Value} {base : Heap} (B : Hd K mg) : ∃ fd, FnAt (tb K P w mg base) 1 (pAd K (He.ga K "Book") "tables") fd ps_Book_tables m_Book_tables :=
  let ⟨fd, F⟩ := B.c.def_ 31 (d := dA_Book_tables) (by rfl)
  ⟨fd, fnat_of (n := 0) F sc_Book_tables (F.bindsN fun _ _ _ _ _ _ us hl => match us, hl with | [_], _ => rfl) (d_Book_tables (pg B) _)⟩
theorem P_tables_Book {K : PySem.W.Frag} {P : Program} {w : World} {mg : Str → Option Value} {base : Heap} (B : Hd K mg) : Prps (tb K P w mg base) 1 "tables" ms_tables_Book := fun j m e => by
  match j, e with
  | 0, e => cases (show none = some m from e)
  | 1, e =>
    cases (show some m_Book_tables = some m from e)
    obtain ⟨fd, A⟩ := A_Book_tables (P := P) (w := w) (base := base) B
    exact ⟨⟨_, _, fd, _, A.mono (by decide), propB_ok (B.c.at 104 (f := prB "Book" "tables"))⟩, He.cls_ok (B.c.at 13 (f := faB (.cls "Book")))⟩
  | 2, e => cases (show none = some m from e)
  | 3, e => cases (show none = some m from e)
  | n + 4, e => cases (show none = some m from e)
theorem A_rows_together {K : PySem.W.Frag} {P : Program} {w : World} {mg : Str → Option Value} {base : Heap} (B : Hd K mg) : ∃ fd, FnAt (tb K P w mg base) 1 (He.fAd K ("rows_together", none)) fd ps_rows_together m_rows_together :=
  let ⟨fd, F⟩ := B.c.def_ 33 (d := dA_rows_together) (by rfl)
  ⟨fd, fnat_of (n := 0) F sc_rows_together (F.bindsN fun _ _ _ _ _ _ us hl => match us, hl with | [_, _], _ => rfl) (d_rows_together (pg B) _)⟩
theorem F_rows_together {K : PySem.W.Frag} {P : Program} {w : World} {mg : Str → Option Value} {base : Heap} (B : Hd K mg) : Fn (tb K P w mg base) 1 "rows_together" ps_rows_together m_rows_together :=
  let ⟨fd, A⟩ := A_rows_together B
  ⟨_, fd, A, B.glo (B.c.at 105 (f := faB (.glo "rows_together")))⟩
theorem A_Table_rows {K : PySem.W.Frag} {P : Program} {w : World} {mg : Str → Option Value} {base : Heap} (B : Hd K mg) : ∃ fd, FnAt (tb K P w mg base) 1 (pAd K (He.ga K "Table") "rows") fd ps_Table_rows m_Table_rows :=
  let ⟨fd, F⟩ := B.c.def_ 34 (d := dA_Table_rows) (by rfl)
  ⟨fd, fnat_of (n := 0) F sc_Table_rows (F.bindsN fun _ _ _ _ _ _ us hl => match us, hl with | [_], _ => rfl) (d_Table_rows (pg B) _)⟩
theorem A_Puzzle_rows {K : PySem.W.Frag} {P : Program} {w : World} {mg : Str → Option Value} {base : Heap} (B : Hd K mg) : ∃ fd, FnAt (tb K P w mg base) 1 (pAd K (He.ga K "Puzzle") "rows") fd ps_Puzzle_rows m_Puzzle_rows :=
  let ⟨fd, F⟩ := B.c.def_ 35 (d := dA_Puzzle_rows) (by rfl)
  ⟨fd, fnat_of (n := 0) F sc_Puzzle_rows (F.bindsN fun _ _ _ _ _ _ us hl => match us, hl with | [_], _ => rfl) (d_Puzzle_rows (pg B) _)⟩
theorem P_rows_Table_Puzzle {K : PySem.W.Frag} {P : Program} {w : World} {mg : Str → Option Value} {base : Heap} (B : Hd K mg) : Prps (tb K P w mg base) 1 "rows" ms_rows_Table_Puzzle := fun j m e => by
  match j, e with
  | 0, e =>
    cases (show some m_Table_rows = some m from e)
    obtain ⟨fd, A⟩ := A_Table_rows (P := P) (w := w) (base := base) B
    exact ⟨⟨_, _, fd, _, A.mono (by decide), propB_ok (B.c.at 106 (f := prB "Table" "rows"))⟩, He.cls_ok (B.c.at 10 (f := faB (.cls "Table")))⟩
  | 1, e => cases (show none = some m from e)
  | 2, e =>
    cases (show some m_Puzzle_rows = some m from e)
    obtain ⟨fd, A⟩ := A_Puzzle_rows (P := P) (w := w) (base := base) B
    exact ⟨⟨_, _, fd, _, A.mono (by decide), propB_ok (B.c.at 107 (f := prB "Puzzle" "rows"))⟩, He.cls_ok (B.c.at 16 (f := faB (.cls "Puzzle")))⟩
  | 3, e => cases (show none = some m from e)
  | n + 4, e => cases (show none = some m from e)
theorem A_Table_contains {K : PySem.W.Frag} {P : Program} {w : World} {mg : Str → Option Value} {base : Heap} (B : Hd K mg) : ∃ fd, FnAt (tb K P w mg base) 3 (He.fAd K ("Table", some "__contains__")) fd ps_Table_contains m_Table_contains :=
  let ⟨fd, F⟩ := B.c.def_ 36 (d := dA_Table_contains) (by rfl)
  ⟨fd, fnat_of (n := 2) F sc_Table_contains (F.bindsN fun _ _ _ _ _ _ us hl => match us, hl with | [_, _], _ => rfl) (d_Table_contains (pg B) (F_is_row B) _)⟩
theorem D_contains_Table {K : PySem.W.Frag} {P : Program} {w : World} {mg : Str → Option Value} {base : Heap} (B : Hd K mg) : Duns (tb K P w mg base) 3 "__contains__" ms_contains_Table := fun j m e => by
  match j, e with
  | 0, e =>
    cases (show some m_Table_contains = some m from e)
    obtain ⟨fd, A⟩ := A_Table_contains (P := P) (w := w) (base := base) B
    obtain ⟨h1, h2, h3⟩ := dunB_ok (B.c.at 108 (f := duB "Table" "__contains__"))
    exact ⟨_, ⟨_, fd, A.mono (by decide), h1, h2, h3⟩⟩
  | 1, e => cases (show none = some m from e)
  | 2, e => cases (show none = some m from e)
  | 3, e => cases (show none = some m from e)
  | n + 4, e => cases (show none = some m from e)
theorem A_columns {K : PySem.W.Frag} {P : Program} {w : World} {mg : Str → Option Value} {base : Heap} (B : Hd K mg) : ∃ fd, FnAt (tb K P w mg base) 1 (He.fAd K ("columns", none)) fd ps_columns m_columns :=
  let ⟨fd, F⟩ := B.c.def_ 37 (d := dA_columns) (by rfl)
  ⟨fd, fnat_of (n := 0) F sc_columns (F.bindsN fun _ _ _ _ _ _ us hl => match us, hl with | [_], _ => rfl) (d_columns (pg B) _)⟩
theorem F_columns {K : PySem.W.Frag} {P : Program} {w : World} {mg : Str → Option Value} {base : Heap} (B : Hd K mg) : Fn (tb K P w mg base) 1 "columns" ps_columns m_columns :=
  let ⟨fd, A⟩ := A_columns B
  ⟨_, fd, A, B.glo (B.c.at 109 (f := faB (.glo "columns")))⟩
theorem A_cell_of {K : PySem.W.Frag} {P : Program} {w : World} {mg : Str → Option Value} {base : Heap} (B : Hd K mg) : ∃ fd, FnAt (tb K P w mg base) 1 (He.fAd K ("cell_of", none)) fd ps_cell_of m_cell_of :=
  let ⟨fd, F⟩ := B.c.def_ 39 (d := dA_cell_of) (by rfl)
  ⟨fd, fnat_of (n := 0) F sc_cell_of (F.bindsN fun _ _ _ _ _ _ us hl => match us, hl with | [_, _], _ => rfl) (d_cell_of (pg B) _)⟩
theorem F_cell_of {K : PySem.W.Frag} {P : Program} {w : World} {mg : Str → Option Value} {base : Heap} (B : Hd K mg) : Fn (tb K P w mg base) 1 "cell_of" ps_cell_of m_cell_of :=
  let ⟨fd, A⟩ := A_cell_of B
  ⟨_, fd, A, B.glo (B.c.at 110 (f := faB (.glo "cell_of")))⟩
theorem A_Operation_call {K : PySem.W.Frag} {P : Program} {w : World} {mg : Str → Option Value} {base : Heap} (B : Hd K mg) : ∃ fd, FnAt (tb K P w mg base) 3 (He.fAd K ("Operation", some "__call__")) fd ps_Operation_call m_Operation_call :=
  let ⟨fd, F⟩ := B.c.def_ 38 (d := dA_Operation_call) (by rfl)
  ⟨fd, fnat_of (n := 2) F sc_Operation_call (F.bindsN fun _ _ _ _ _ _ us hl => match us, hl with | [_, _], _ => rfl) (d_Operation_call (pg B) (F_is_row B) (F_cell_of B) _)⟩
theorem D_call_Operation {K : PySem.W.Frag} {P : Program} {w : World} {mg : Str → Option Value} {base : Heap} (B : Hd K mg) : Duns (tb K P w mg base) 3 "__call__" ms_call_Operation := fun j m e => by
  match j, e with
  | 0, e => cases (show none = some m from e)
  | 1, e => cases (show none = some m from e)
  | 2, e => cases (show none = some m from e)
  | 3, e =>
    cases (show some m_Operation_call = some m from e)
    obtain ⟨fd, A⟩ := A_Operation_call (P := P) (w := w) (base := base) B
    obtain ⟨h1, h2, h3⟩ := dunB_ok (B.c.at 111 (f := duB "Operation" "__call__"))
    exact ⟨_, ⟨_, fd, A.mono (by decide), h1, h2, h3⟩⟩
  | n + 4, e => cases (show none = some m from e)
theorem A_breaks {K : PySem.W.Frag} {P : Program} {w : World} {mg : Str → Option Value} {base : Heap} (B : Hd K mg) : ∃ fd, FnAt (tb K P w mg base) 4 (He.fAd K ("breaks", none)) fd ps_breaks m_breaks :=
  let ⟨fd, F⟩ := B.c.def_ 32 (d := dA_breaks) (by rfl)
  ⟨fd, fnat_of (n := 3) F sc_breaks (F.bindsN fun _ _ _ _ _ _ us hl => match us, hl with | [_, _], _ => rfl) (d_breaks (pg B) (F_rows_together B) (P_rows_Table_Puzzle B) (D_contains_Table B) (F_columns B) (D_call_Operation B) _)⟩
theorem F_breaks {K : PySem.W.Frag} {P : Program} {w : World} {mg : Str → Option Value} {base : Heap} (B : Hd K mg) : Fn (tb K P w mg base) 4 "breaks" ps_breaks m_breaks :=
  let ⟨fd, A⟩ := A_breaks B
  ⟨_, fd, A, B.glo (B.c.at 112 (f := faB (.glo "breaks")))⟩
theorem A_shows_agreement {K : PySem.W.Frag} {P : Program} {w : World} {mg : Str → Option Value} {base : Heap} (B : Hd K mg) : ∃ fd, FnAt (tb K P w mg base) 6 (He.fAd K ("shows_agreement", none)) fd ps_shows_agreement m_shows_agreement :=
  let ⟨fd, F⟩ := B.c.def_ 24 (d := dA_shows_agreement) (by rfl)
  ⟨fd, fnat_of (n := 5) F sc_shows_agreement (F.bindsN fun _ _ _ _ _ _ us hl => match us, hl with | [_, _, _], _ => rfl) (d_shows_agreement (pg B) (F_check_near B) (K_Puzzle B) (M_agrees_Operation B) (P_tables_Book B) (F_breaks B) _)⟩
theorem F_shows_agreement {K : PySem.W.Frag} {P : Program} {w : World} {mg : Str → Option Value} {base : Heap} (B : Hd K mg) : Fn (tb K P w mg base) 6 "shows_agreement" ps_shows_agreement m_shows_agreement :=
  let ⟨fd, A⟩ := A_shows_agreement B
  ⟨_, fd, A, B.glo (B.c.at 113 (f := faB (.glo "shows_agreement")))⟩
theorem K_Operation {K : PySem.W.Frag} {P : Program} {w : World} {mg : Str → Option Value} {base : Heap} (B : Hd K mg) : Mkr (tb K P w mg base) 3 3 "Operation" ps_Operation_init m_Operation_init :=
  let ⟨fd, F⟩ := B.c.def_ 40 (d := dA_Operation_init) (by rfl)
  mkr_of (n := 2) F sc_Operation_init (F.bindsN fun _ _ _ _ _ _ us hl => match us, hl with | [_, _, _, _], _ => rfl) (He.mkr_ok (B.c.at 114 (f := faB (.mkr "Operation")))) (B.glo (B.c.at 63 (f := faB (.glo "Operation")))) (d_Operation_init (pg B) (F_check_width B) (F_check_arity B) (F_tuples_of B) (F_within B) _)
theorem A_Table_eq {K : PySem.W.Frag} {P : Program} {w : World} {mg : Str → Option Value} {base : Heap} (B : Hd K mg) : ∃ fd, FnAt (tb K P w mg base) 1 (He.fAd K ("Table", some "__eq__")) fd ps_Table_eq m_Table_eq :=
  let ⟨fd, F⟩ := B.c.def_ 42 (d := dA_Table_eq) (by rfl)
  ⟨fd, fnat_of (n := 0) F sc_Table_eq (F.bindsN fun _ _ _ _ _ _ us hl => match us, hl with | [_, _], _ => rfl) (d_Table_eq (pg B) _)⟩
theorem D_eq_Table {K : PySem.W.Frag} {P : Program} {w : World} {mg : Str → Option Value} {base : Heap} (B : Hd K mg) : Duns (tb K P w mg base) 1 "__eq__" ms_eq_Table := fun j m e => by
  match j, e with
  | 0, e =>
    cases (show some m_Table_eq = some m from e)
    obtain ⟨fd, A⟩ := A_Table_eq (P := P) (w := w) (base := base) B
    obtain ⟨h1, h2, h3⟩ := dunB_ok (B.c.at 115 (f := duB "Table" "__eq__"))
    exact ⟨_, ⟨_, fd, A.mono (by decide), h1, h2, h3⟩⟩
  | 1, e => cases (show none = some m from e)
  | 2, e => cases (show none = some m from e)
  | 3, e => cases (show none = some m from e)
  | n + 4, e => cases (show none = some m from e)
theorem A_Book_eq {K : PySem.W.Frag} {P : Program} {w : World} {mg : Str → Option Value} {base : Heap} (B : Hd K mg) : ∃ fd, FnAt (tb K P w mg base) 3 (He.fAd K ("Book", some "__eq__")) fd ps_Book_eq m_Book_eq :=
  let ⟨fd, F⟩ := B.c.def_ 41 (d := dA_Book_eq) (by rfl)
  ⟨fd, fnat_of (n := 2) F sc_Book_eq (F.bindsN fun _ _ _ _ _ _ us hl => match us, hl with | [_, _], _ => rfl) (d_Book_eq (pg B) (D_eq_Table B) _)⟩
theorem D_eq_Book {K : PySem.W.Frag} {P : Program} {w : World} {mg : Str → Option Value} {base : Heap} (B : Hd K mg) : Duns (tb K P w mg base) 3 "__eq__" ms_eq_Book := fun j m e => by
  match j, e with
  | 0, e => cases (show none = some m from e)
  | 1, e =>
    cases (show some m_Book_eq = some m from e)
    obtain ⟨fd, A⟩ := A_Book_eq (P := P) (w := w) (base := base) B
    obtain ⟨h1, h2, h3⟩ := dunB_ok (B.c.at 116 (f := duB "Book" "__eq__"))
    exact ⟨_, ⟨_, fd, A.mono (by decide), h1, h2, h3⟩⟩
  | 2, e => cases (show none = some m from e)
  | 3, e => cases (show none = some m from e)
  | n + 4, e => cases (show none = some m from e)
theorem A_Operation_taking {K : PySem.W.Frag} {P : Program} {w : World} {mg : Str → Option Value} {base : Heap} (B : Hd K mg) : ∃ fd, FnAt (tb K P w mg base) 5 (He5.wf K (He.ga K "Operation") "staticmethod" "taking") fd ps_Operation_taking m_Operation_taking :=
  let ⟨fd, F⟩ := B.c.def_ 43 (d := dA_Operation_taking) (by rfl)
  ⟨fd, fnat_of (n := 4) F sc_Operation_taking (F.bindsN fun _ _ _ _ _ _ us hl => match us, hl with | [_, _, _], _ => rfl) (d_Operation_taking (pg B) (F_check_width B) (F_check_arity B) (F_within B) (K_Operation B) (F_tuples_of B) _)⟩
theorem S_Operation_taking {K : PySem.W.Frag} {P : Program} {w : World} {mg : Str → Option Value} {base : Heap} (B : Hd K mg) : Smt (tb K P w mg base) 5 3 "taking" ps_Operation_taking m_Operation_taking :=
  let ⟨fd, A⟩ := A_Operation_taking B
  let ⟨h1, h2⟩ := He5.wrapB_ok (B.c.at 117 (f := smB "Operation" "taking"))
  ⟨⟨_, _, fd, A, h1, h2⟩, crB_ok (B.c.at 118 (f := crB "Operation"))⟩
theorem A__law_other_number_refused {K : PySem.W.Frag} {P : Program} {w : World} {mg : Str → Option Value} {base : Heap} (B : Hd K mg) : ∃ fd, FnAt (tb K P w mg base) 7 (He.fAd K ("_law_other_number_refused", none)) fd ps__law_other_number_refused m__law_other_number_refused :=
  let ⟨fd, F⟩ := B.c.def_ 44 (d := dA__law_other_number_refused) (by rfl)
  ⟨fd, fnat_of (n := 6) F sc__law_other_number_refused (F.bindsN fun _ _ _ _ _ _ us hl => match us, hl with | [_, _, _], _ => rfl) (d__law_other_number_refused (pg B) (K_Operation B) (F__law_agreement B) (F__law_all B) (F_shows_agreement B) (F__law_program_book B) _)⟩
theorem F__law_other_number_refused {K : PySem.W.Frag} {P : Program} {w : World} {mg : Str → Option Value} {base : Heap} (B : Hd K mg) : Fn (tb K P w mg base) 7 "_law_other_number_refused" ps__law_other_number_refused m__law_other_number_refused :=
  let ⟨fd, A⟩ := A__law_other_number_refused B
  ⟨_, fd, A, B.glo (B.c.at 119 (f := faB (.glo "_law_other_number_refused")))⟩
theorem A_Table_full {K : PySem.W.Frag} {P : Program} {w : World} {mg : Str → Option Value} {base : Heap} (B : Hd K mg) : ∃ fd, FnAt (tb K P w mg base) 5 (He5.wf K (He.ga K "Table") "staticmethod" "full") fd ps_Table_full m_Table_full :=
  let ⟨fd, F⟩ := B.c.def_ 45 (d := dA_Table_full) (by rfl)
  ⟨fd, fnat_of (n := 4) F sc_Table_full (F.bindsN fun _ _ _ _ _ _ us hl => match us, hl with | [_, _], _ => rfl) (d_Table_full (pg B) (F_check_width B) (F_check_arity B) (K_Table B) (F_tuples_of B) _)⟩
theorem S_Table_full {K : PySem.W.Frag} {P : Program} {w : World} {mg : Str → Option Value} {base : Heap} (B : Hd K mg) : Smt (tb K P w mg base) 5 0 "full" ps_Table_full m_Table_full :=
  let ⟨fd, A⟩ := A_Table_full B
  let ⟨h1, h2⟩ := He5.wrapB_ok (B.c.at 120 (f := smB "Table" "full"))
  ⟨⟨_, _, fd, A, h1, h2⟩, crB_ok (B.c.at 121 (f := crB "Table"))⟩
theorem A_law {K : PySem.W.Frag} {P : Program} {w : World} {mg : Str → Option Value} {base : Heap} (B : Hd K mg) : ∃ fd, FnAt (tb K P w mg base) 8 (He.fAd K ("law", none)) fd ps_law m_law :=
  let ⟨fd, F⟩ := B.c.def_ 0 (d := dA_law) (by rfl)
  ⟨fd, fnat_of (n := 7) F sc_law (F.bindsN fun _ _ _ _ _ _ us hl => match us, hl with | [_], _ => rfl) (d_law (pg B) (F__law_feed B) (F__law_width B) (F__law_pick B) (F__law_agreeing B) (F__law_take B) (F__law_program_book B) (F__law_agreement B) (F__law_agrees B) (F__law_keeps B) (F_shows_agreement B) (K_Operation B) (D_eq_Book B) (S_Operation_taking B) (F__law_all B) (F__law_other_number_refused B) (S_Table_full B) _)⟩
theorem F_law {K : PySem.W.Frag} {P : Program} {w : World} {mg : Str → Option Value} {base : Heap} (B : Hd K mg) : Fn (tb K P w mg base) 8 "law" ps_law m_law :=
  let ⟨fd, A⟩ := A_law B
  ⟨_, fd, A, B.glo (B.c.at 122 (f := faB (.glo "law")))⟩
theorem A_lawS (K : PySem.W.Frag) (P : Program) (w : World) (mg : Str → Option Value) (B : Hd K mg) {f : Addr} (hfa : mg ("law" : Str) = some (.ref f)) :
    ∃ fd : FuncData, (∀ (s : Shared) (v : Value), BindsTo s fd ⟨[v], []⟩ [("script", v)]) ∧ ∀ base : Heap, FnAt (tb K P w mg base) 8 f fd ps_law m_law := by
  obtain ⟨fd, F⟩ := B.c.def_ 0 (d := dA_law) (by rfl)
  have e := hfa.symm.trans (B.glo (B.c.at 122 (f := faB (.glo "law"))))
  cases e
  have b := FunD.bindsA (ps := ["script"]) F fun _ _ _ _ _ _ us hl => match us, hl with | [_], _ => rfl
  refine ⟨fd, fun s v => b s [v] rfl, fun base => ?_⟩
  exact fnat_of (n := 7) F sc_law (F.bindsN fun _ _ _ _ _ _ us hl => match us, hl with | [_], _ => rfl) (d_law (pg B) (F__law_feed B) (F__law_width B) (F__law_pick B) (F__law_agreeing B) (F__law_take B) (F__law_program_book B) (F__law_agreement B) (F__law_agrees B) (F__law_keeps B) (F_shows_agreement B) (K_Operation B) (D_eq_Book B) (S_Operation_taking B) (F__law_all B) (F__law_other_number_refused B) (S_Table_full B) _)
/-- what the law's mathematics has to say -/
def LawSays : Prop := ∀ ns : List Int, ns.length ≤ 63 → ∃ c', m_law [.scr ns] [] = some (.bl true, c')
def spLaw (K : PySem.W.Frag) : Sp := fun vs H Q _ => ∃ (a : Addr) (ns : List Int), vs = [.ref a] ∧ ns.length ≤ 63 ∧ SqL K H a (ns.map V.int) ∧ ∀ H', Q (.bl true) H'
end H39
set_option Elab.async false
set_option linter.all false
set_option maxRecDepth 100000
set_option maxHeartbeats 0
/-! Ma0: plain laws of the readings' parts. -/
namespace Ma
open PySem PySem.Spec PyProof.Rows L2 Pd TL

/-! ### data that compare equal to themselves -/
mutual
theorem pdn_self : ∀ (k : Nat) (d : D) (p : PyData), pdn k d = some p → PyData.eqv p p = true
  | k, .non, p, e => by simp only [pdn] at e; cases e; rfl
  | k, .bl b, p, e => by simp only [pdn] at e; cases e; simp [PyData.eqv]
  | k, .int i, p, e => by simp only [pdn] at e; cases e; simp [PyData.eqv]
  | k, .str x, p, e => by
    simp only [pdn] at e
    split at e <;> cases e
    simp [PyData.eqv]
  | 0, .tup xs, p, e => by simp [pdn] at e
  | 0, .lst xs, p, e => by simp [pdn] at e
  | k + 1, .tup xs, p, e => by
    simp only [pdn] at e
    split at e <;> cases e
    rename_i ps h
    simp only [PyData.eqv]
    exact pdns_self k xs ps h
  | k + 1, .lst xs, p, e => by
    simp only [pdn] at e
    split at e <;> cases e
    rename_i ps h
    simp only [PyData.eqv]
    exact pdns_self k xs ps h
  | k, .dic ks vs, p, e => by cases k <;> simp [pdn] at e
  | k, .obj c vs, p, e => by cases k <;> simp [pdn] at e
  | k, .cell c, p, e => by cases k <;> simp [pdn] at e
  | k, .scr c, p, e => by cases k <;> simp [pdn] at e
  | k, .cls c, p, e => by cases k <;> simp [pdn] at e
theorem pdns_self : ∀ (k : Nat) (ds : List D) (ps : List PyData), pdns k ds = some ps → PyData.eqvAll ps ps = true
  | k, [], ps, e => by simp only [pdns] at e; cases e; simp [PyData.eqvAll]
  | k, x :: xs, ps, e => by
    simp only [pdns] at e
    split at e <;> cases e
    rename_i p ps h1 h2
    simp only [PyData.eqvAll, pdn_self k x p h1, pdns_self k xs ps h2, Bool.and_self]
end
theorem oEq_self {d : D} {p : PyData} {c : Cs} (h : pdn deep d = some p) : oEq d d c = some (.bl true, c) := by
  simp only [oEq, h, pdn_self _ _ _ h]
theorem oNe_self {d : D} {p : PyData} {c : Cs} (h : pdn deep d = some p) : oNe d d c = some (.bl false, c) := by
  simp only [oNe, h, pdn_self _ _ _ h, Bool.not_true]

/-! ### rows -/
theorem pdns_ints (k : Nat) : ∀ r : List Int, pdns k (r.map .int) = some (r.map .int)
  | [] => by simp [pdns]
  | x :: r => by simp [pdns, pdn, pdns_ints k r]
theorem pdn_tupI (k : Nat) (r : List Int) : pdn (k + 1) (tupI r) = some (.tuple (r.map .int)) := by simp [tupI, pdn, pdns_ints]
theorem pdns_tupI (k : Nat) : ∀ rs : List (List Int), pdns (k + 1) (rs.map tupI) = some (rs.map fun r => .tuple (r.map .int))
  | [] => by simp [pdns]
  | x :: r => by simp only [List.map_cons, pdns, pdn_tupI, pdns_tupI k r]
theorem pdn_rows (k : Nat) (rs : List (List Int)) : pdn (k + 2) (.lst (rs.map tupI)) = some (.list (rs.map fun r => .tuple (r.map .int))) := by
  simp only [pdn, pdns_tupI]
theorem nks_ints : ∀ r : List Int, nks (r.map .int) = some (r.map .num)
  | [] => by simp [nks]
  | x :: r => by simp [nks, nk, nks_ints r]
theorem nk_tupI (r : List Int) : nk (tupI r) = some (.tup (r.map .num)) := by simp [tupI, nk, nks_ints]
theorem map_num_inj : ∀ {r s : List Int}, r.map NestedKey.num = s.map NestedKey.num → r = s
  | [], [], _ => rfl
  | [], _ :: _, h => by simp at h
  | _ :: _, [], h => by simp at h
  | x :: r, y :: s, h => by
    simp only [List.map_cons, List.cons.injEq, NestedKey.num.injEq] at h
    rw [h.1, map_num_inj h.2]
theorem nk_inj {r s : List Int} : nk (tupI r) = nk (tupI s) ↔ r = s := by
  rw [nk_tupI, nk_tupI]
  constructor
  · intro h
    simp only [Option.some.injEq, NestedKey.tup.injEq] at h
    exact map_num_inj h
  · intro h
    rw [h]
theorem depth_nums : ∀ r : List Int, NestedKey.depthAll (r.map NestedKey.num) = 0
  | [] => rfl
  | x :: r => by
    show max 0 (NestedKey.depthAll (r.map NestedKey.num)) = 0
    rw [depth_nums r]; rfl
theorem keyOk_tupI (r : List Int) : keyOk (tupI r) = true := by
  have e : keyOk (tupI r) = (match nk (tupI r) with | some k => decide (k.depth ≤ 8) | none => false) := rfl
  rw [e, nk_tupI]
  have : (NestedKey.tup (r.map NestedKey.num)).depth = 1 := by
    show NestedKey.depthAll (r.map NestedKey.num) + 1 = 1
    rw [depth_nums]
  simp [this]
theorem all_isTup (rs : List (List Int)) : (rs.map tupI).all isTupD = true := by
  rw [List.all_eq_true]
  intro d hd
  obtain ⟨r, _, rfl⟩ := List.mem_map.mp hd
  rfl
theorem dHas_rows (rs : List (List Int)) (r : List Int) : dHas (rs.map tupI) (tupI r) = decide (r ∈ rs) := by
  unfold dHas
  rw [List.any_map]
  by_cases h : r ∈ rs
  · rw [decide_eq_true h, List.any_eq_true]
    exact ⟨r, h, by simp⟩
  · rw [decide_eq_false h, List.any_eq_false]
    intro s hs
    simp only [Function.comp, decide_eq_true_eq, nk_inj]
    intro e
    exact h (e ▸ hs)
/-- a new row -/
theorem set_new {rs : List (List Int)} {r : List Int} {vs : List D} {v : D} (h : r ∉ rs) (hl : rs.length < lim) : uSetN (.dic (rs.map tupI) vs) (tupI r) v = some (.dic ((rs ++ [r]).map tupI) (vs ++ [v])) := by
  have : dHas (rs.map tupI) (tupI r) = false := by rw [dHas_rows]; exact decide_eq_false h
  simp only [uSetN, all_isTup, keyOk_tupI, List.length_map, hl, decide_true, Bool.and_self, if_true, dPut, this, List.map_append, List.map_cons, List.map_nil, Bool.false_eq_true, if_false]

/-! ### sorted -/
theorem dataLe_tups {β : Type} (x : β → List Int) : PySem.W.dataLe false (fun b => .tuple ((x b).map .int)) = fun p q => decide (x p ≤ x q) := by
  rw [← PySem.W.dataLe_rows x]
  funext p q
  rw [PySem.W.dataLe_eq, PySem.W.dataLe_eq]
  simp only [PySem.W.dataLt_tuple, PySem.W.dataLt_list]
theorem alike_ints : ∀ (r s : List Int), PySem.W.alikeAll (r.map .int) (s.map .int) = true
  | [], _ => by simp [PySem.W.alikeAll]
  | _ :: _, [] => by simp [PySem.W.alikeAll]
  | x :: r, y :: s => by simp [PySem.W.alikeAll, PySem.W.alike, alike_ints r s]
theorem sort_rows {rs : List (List Int)} (hs : StrI rs) (hn : ∀ r ∈ rs, r ≠ []) (hl : rs.length ≤ lim) (vs : List D) (c : Cs) : bSortA [.dic (rs.map tupI) vs] c = some (.lst (rs.map tupI), c) := by
  have e1 : pdns deep (rs.map tupI) = some (rs.map fun r => .tuple (r.map .int)) := pdns_tupI 59 rs
  have e2 : alikeB (rs.map fun r => (.tuple (r.map .int) : PyData)) = true := by
    unfold alikeB
    rw [List.all_eq_true]; intro d hd
    rw [List.all_eq_true]; intro e he
    obtain ⟨r, _, rfl⟩ := List.mem_map.mp hd
    obtain ⟨s, _, rfl⟩ := List.mem_map.mp he
    simp [PySem.W.alike, alike_ints]
  have e3 : sortB (rs.map fun r => (.tuple (r.map .int) : PyData)) = true := by
    unfold sortB
    rw [Bool.or_eq_true_iff]; left
    rw [List.all_eq_true]; intro d hd
    obtain ⟨r, hr, rfl⟩ := List.mem_map.mp hd
    cases r with
    | nil => exact absurd rfl (hn _ hr)
    | cons x r => rfl
  have e4 : sortD (rs.map tupI) (rs.map fun r => (.tuple (r.map .int) : PyData)) = rs.map tupI := by
    unfold sortD
    have z : (rs.map tupI).zip (rs.map fun r => (.tuple (r.map .int) : PyData)) = rs.map fun r => (tupI r, (.tuple (r.map .int) : PyData)) := by
      clear hs hn hl e1 e2 e3
      induction rs with
      | nil => rfl
      | cons x r ih => simp only [List.map_cons, List.zip_cons_cons, ih]
    rw [z, List.mergeSort_of_pairwise]
    · rw [List.map_map]; rfl
    · rw [List.pairwise_map]
      refine hs.imp fun {a b} h => ?_
      have := congrFun (congrFun (dataLe_tups (fun r : List Int => r)) a) b
      have t : PySem.W.dataLe false (·.2) (tupI a, (.tuple (a.map .int) : PyData)) (tupI b, (.tuple (b.map .int) : PyData)) = PySem.W.dataLe false (fun b : List Int => (.tuple (b.map .int) : PyData)) a b := rfl
      rw [t, this]
      exact decide_eq_true (List.le_of_lt h)
  unfold bSortA
  simp only [deref, e1, all_isTup, e2, e3, e4, List.length_map, hl, decide_true, Bool.and_self, if_true]
end Ma
set_option Elab.async false
set_option linter.all false
set_option maxRecDepth 100000
set_option maxHeartbeats 0
/-! Ma1: texts: numbers, lines, words. -/
namespace Ma
open PySem PySem.Spec PyProof.Rows L2 Pd TL
/-- a number's text -/
abbrev numS (i : Int) : Str := Str.ofString (toString i)
theorem tl_numS {i : Int} (h : 0 ≤ i) : tl (numS i) = numL i.toNat := by
  obtain ⟨n, rfl⟩ := Int.eq_ofNat_of_zero_le h
  exact tl_num n
theorem smStr_ok {i : Int} (h : 0 ≤ i) (h2 : i < 1000000000) : smStr i = true := by
  obtain ⟨n, rfl⟩ := Int.eq_ofNat_of_zero_le h
  have hn : n < 2 ^ 1920 := Nat.lt_of_lt_of_le (show n < 1000000000 by omega) (by decide)
  unfold smStr
  rw [Int.natAbs_natCast, decide_eq_true_eq]
  by_cases hz : n = 0
  · subst hz; decide
  · exact (Nat.log2_lt hz).mpr hn
theorem numS_len {i : Int} (h : 0 ≤ i) (h2 : i < 1000000000) : (numS i).length ≤ 9 ∧ 1 ≤ (numS i).length := by
  rw [len_tl, tl_numS h]
  refine ⟨numL_len (by decide) (by omega), ?_⟩
  exact List.length_pos_iff.mpr (numL_ne _)
/-- signs below 128 -/
def Asc (x : Str) : Prop := ∀ c ∈ tl x, c < 128
theorem asc_num {i : Int} (h : 0 ≤ i) : Asc (numS i) := by
  intro c hc
  rw [tl_numS h] at hc
  have := numL_digits _ c hc
  omega
theorem strOk_of {x : Str} (h : Asc x) : PyData.strOk x = true := by
  unfold PyData.strOk
  rw [← Array.all_toList, List.all_eq_true]
  intro c hc
  have := h c hc
  exact decide_eq_true (by omega)
theorem pdn_str {x : Str} (k : Nat) (h : Asc x) : pdn k (.str x) = some (.str x) := by
  simp only [pdn, strOk_of h, if_true]
theorem eqv_str (x y : Str) : PyData.eqv (.str x) (.str y) = decide (x = y) := by
  simp only [PyData.eqv]
  by_cases h : x = y
  · subst h; simp
  · simp [h]
theorem asc_append {x y : Str} (hx : Asc x) (hy : Asc y) : Asc (x ++ y) := by
  intro c hc
  rw [tl_append] at hc
  rcases List.mem_append.mp hc with h | h
  · exact hx c h
  · exact hy c h
theorem joinL_mem {S : List Nat} {c : Nat} : ∀ {l : List (List Nat)}, c ∈ joinL S l → c ∈ S ∨ ∃ p ∈ l, c ∈ p
  | [], h => by simp [joinL] at h
  | [p], h => .inr ⟨p, List.mem_cons_self .., h⟩
  | p :: q :: r, h => by
    simp only [joinL, List.mem_append] at h
    rcases h with h | h | h
    · exact .inr ⟨p, List.mem_cons_self .., h⟩
    · exact .inl h
    · rcases joinL_mem h with h | ⟨p', hp, hc⟩
      · exact .inl h
      · exact .inr ⟨p', List.mem_cons_of_mem _ hp, hc⟩
theorem tl_joinT (y : Str) (ps : List Str) : tl (Txt.join y ps) = joinL (tl y) (ps.map tl) := by rw [join_eq, tl_join]
theorem mem_join {y : Str} {c : Nat} {ps : List Str} (h : c ∈ tl (Txt.join y ps)) : c ∈ tl y ∨ ∃ p ∈ ps, c ∈ tl p := by
  rw [tl_joinT] at h
  rcases joinL_mem h with h | ⟨p, hp, hc⟩
  · exact .inl h
  · obtain ⟨q, hq, rfl⟩ := List.mem_map.mp hp
    exact .inr ⟨q, hq, hc⟩
theorem asc_join {y : Str} {ps : List Str} (hy : Asc y) (h : ∀ p ∈ ps, Asc p) : Asc (Txt.join y ps) := by
  intro c hc
  rcases mem_join hc with h1 | ⟨p, hp, h1⟩
  · exact hy c h1
  · exact h p hp c h1
theorem joinL_len {S : List Nat} : ∀ l : List (List Nat), (joinL S l).length ≤ (l.map (·.length)).sum + l.length * S.length
  | [] => by simp [joinL]
  | [p] => by simp [joinL]
  | p :: q :: r => by
    have := joinL_len (S := S) (q :: r)
    simp only [joinL, List.length_append, List.map_cons, List.sum_cons, List.length_cons] at this ⊢
    have e : (r.length + 1 + 1) * S.length = S.length + (r.length + 1) * S.length := by rw [Nat.add_mul (r.length + 1) 1, Nat.one_mul, Nat.add_comm]
    rw [e]
    omega
theorem join_len (y : Str) (ps : List Str) : (Txt.join y ps).length ≤ (ps.map (·.length)).sum + ps.length * y.length := by
  rw [len_tl, tl_joinT]
  refine Nat.le_trans (joinL_len _) ?_
  rw [List.map_map, List.length_map, len_tl]
  have : ((fun x : List Nat => x.length) ∘ tl) = fun p : Str => p.length := by funext p; exact (len_tl p).symm
  rw [this]
  exact Nat.le_refl _
/-- a word: neither a blank nor a line's end -/
def Wd (x : Str) : Prop := 32 ∉ tl x ∧ 10 ∉ tl x ∧ Asc x
theorem wd_num {i : Int} (h : 0 ≤ i) : Wd (numS i) := by
  refine ⟨?_, ?_, asc_num h⟩ <;> rw [tl_numS h] <;> exact numL_free (by omega)
theorem wd_lit {x : Str} (h : ((tl x).all fun c => decide (c ≠ 32) && (decide (c ≠ 10) && decide (c < 128))) = true) : Wd x := by
  refine ⟨fun hc => ?_, fun hc => ?_, fun c hc => ?_⟩
  · have := List.all_eq_true.mp h 32 hc; simp at this
  · have := List.all_eq_true.mp h 10 hc; simp at this
  · have := List.all_eq_true.mp h c hc
    simp only [Bool.and_eq_true, decide_eq_true_eq] at this
    exact this.2.2
abbrev blank : Str := Str.ofString " "
abbrev eol : Str := Str.ofString "\n"
theorem tl_blank : tl blank = [32] := by rw [tl_ofString]; rfl
theorem tl_eol : tl eol = [10] := by rw [tl_ofString]; rfl
theorem split_words {ws : List Str} (hne : ws ≠ []) (h : ∀ w ∈ ws, Wd w) : Txt.split (Txt.join blank ws) blank = ws :=
  TL.split_join tl_blank (by decide +kernel) hne fun p hp => (h p hp).1
/-- a line: words joined -/
def Ln (x : Str) : Prop := 10 ∉ tl x ∧ Asc x
theorem ln_words {ws : List Str} (h : ∀ w ∈ ws, Wd w) : Ln (Txt.join blank ws) := by
  refine ⟨fun hc => ?_, asc_join (by intro c hc; rw [tl_blank] at hc; simp at hc; omega) fun p hp => (h p hp).2.2⟩
  rcases mem_join hc with h1 | ⟨p, hp, h1⟩
  · rw [tl_blank] at h1; simp at h1
  · exact (h p hp).2.1 h1
theorem split_lines {ls : List Str} (hne : ls ≠ []) (h : ∀ l ∈ ls, Ln l) : Txt.split (Txt.join eol ls) eol = ls :=
  TL.split_join tl_eol (by decide +kernel) hne fun p hp => (h p hp).1
theorem intText_num {i : Int} (h : 0 ≤ i) (h2 : i < 1000000000) : PySem.intText? (numS i) = some i := by
  obtain ⟨n, rfl⟩ := Int.eq_ofNat_of_zero_le h
  refine int_num (Nat.le_trans (numL_len (k := 9) (by decide) (by omega)) (by decide))
/-! ### the parts of readings that ask for texts -/
theorem bStr_num {i : Int} (h : 0 ≤ i) (h2 : i < 1000000000) (c : Cs) : bStr [.int i] c = some (.str (numS i), c) := by
  simp only [bStr, smStr_ok h h2, if_true]
theorem strs?_of : ∀ ss : List Str, Pd.strs? (ss.map D.str) = some ss
  | [] => rfl
  | s :: ss => by simp only [List.map_cons, Pd.strs?, strs?_of ss]
theorem mJoin_of (x : Str) (ss : List Str) (h : (ss.map (·.length)).sum + ss.length * x.length ≤ lim) (c : Cs) : mJoin [.str x, .lst (ss.map D.str)] c = some (.str (Txt.join x ss), c) := by
  simp only [mJoin, seqOf, deref, strs?_of, h, if_true]
theorem mSplit_of {x y : Str} (h : (y.length == 0) = false) (h2 : x.length + 2 ≤ lim) (c : Cs) : mSplit [.str x, .str y] c = some (.lst ((Txt.split x y).map D.str), c) := by
  simp only [mSplit, h, h2, decide_true, Bool.not_false, Bool.and_self, if_true]
theorem pdns_strs (k : Nat) : ∀ {ss : List Str}, (∀ s ∈ ss, Asc s) → pdns k (ss.map D.str) = some (ss.map .str)
  | [], _ => by simp [pdns]
  | s :: ss, h => by
    simp only [List.map_cons, pdns, pdn_str k (h s (List.mem_cons_self ..)), pdns_strs k fun z hz => h z (List.mem_cons_of_mem _ hz)]
end Ma
set_option Elab.async false
set_option linter.all false
set_option maxRecDepth 100000
set_option maxHeartbeats 0
/-! Ma2: loops, comprehensions by their steps. -/
namespace Ma
open PySem PySem.Spec PyProof.Rows L2 Pd TL
theorem compD_map {α : Type} {g : FG} {ft : FT} {fe : FE} {h r : α → D} {env : En} {c : Cs} : ∀ {xs : List α}, (∀ x ∈ xs, ∃ env1, g (h x) env = some env1 ∧ ft env1 c = some (true, c) ∧ fe env1 c = some (r x, c)) → compD g ft fe (xs.map h) env c = some (xs.map r, c)
  | [], _ => rfl
  | x :: xs, H => by
    obtain ⟨env1, e1, e2, e3⟩ := H x (List.mem_cons_self ..)
    simp only [List.map_cons, compD, e1, e2, e3, compD_map fun z hz => H z (List.mem_cons_of_mem _ hz)]
theorem compD_filter {α : Type} {g : FG} {ft : FT} {fe : FE} {h r : α → D} {p : α → Bool} {env : En} {c : Cs} : ∀ {xs : List α}, (∀ x ∈ xs, ∃ env1, g (h x) env = some env1 ∧ ft env1 c = some (p x, c) ∧ fe env1 c = some (r x, c)) → compD g ft fe (xs.map h) env c = some ((xs.filter p).map r, c)
  | [], _ => rfl
  | x :: xs, H => by
    obtain ⟨env1, e1, e2, e3⟩ := H x (List.mem_cons_self ..)
    have ih := compD_filter fun z hz => H z (List.mem_cons_of_mem _ hz)
    cases hp : p x with
    | true =>
      rw [hp] at e2
      simp only [List.map_cons, compD, e1, e2, e3, ih, List.filter_cons, hp, if_true]
    | false =>
      rw [hp] at e2
      simp only [List.map_cons, compD, e1, e2, ih, List.filter_cons, hp, Bool.false_eq_true, if_false]
theorem compD_st {α : Type} {g : FG} {ft : FT} {fe : FE} {h : α → D} {env : En} {P : Cs → Prop} {R : α → D → Prop} : ∀ {xs : List α} {c : Cs}, P c →
    (∀ x ∈ xs, ∀ c, P c → ∃ env1 y c', g (h x) env = some env1 ∧ ft env1 c = some (true, c) ∧ fe env1 c = some (y, c') ∧ P c' ∧ R x y) →
    ∃ ys c', compD g ft fe (xs.map h) env c = some (ys, c') ∧ P c' ∧ ys.length = xs.length ∧ ∀ y ∈ ys, ∃ x ∈ xs, R x y
  | [], c, hp, _ => ⟨[], c, rfl, hp, rfl, fun y hy => (by cases hy)⟩
  | x :: xs, c, hp, H => by
    obtain ⟨env1, y, c1, e1, e2, e3, hp1, hr⟩ := H x (List.mem_cons_self ..) c hp
    obtain ⟨ys, c2, e4, hp2, hl, hy⟩ := compD_st hp1 fun z hz => H z (List.mem_cons_of_mem _ hz)
    refine ⟨y :: ys, c2, ?_, hp2, by simp [hl], ?_⟩
    · simp only [List.map_cons, compD, e1, e2, e3, e4]
    · intro z hz
      rcases List.mem_cons.mp hz with rfl | hz
      · exact ⟨x, List.mem_cons_self .., hr⟩
      · obtain ⟨w, hw, hr'⟩ := hy z hz
        exact ⟨w, List.mem_cons_of_mem _ hw, hr'⟩
theorem forD_aux {α : Type} {g : FG} {fb : FS} {h : α → D} {I : List α → En → Cs → Prop} : ∀ {post pre : List α} {env : En} {c : Cs}, I pre env c →
    (∀ pre' x post', pre ++ post = pre' ++ x :: post' → ∀ env c, I pre' env c → ∃ env1 env2 c2, g (h x) env = some env1 ∧ fb env1 c = some (.nx, env2, c2) ∧ I (pre' ++ [x]) env2 c2) →
    ∃ env' c', forD g fb (post.map h) env c = some (.nx, env', c') ∧ I (pre ++ post) env' c'
  | [], pre, env, c, hi, _ => ⟨env, c, rfl, by rw [List.append_nil]; exact hi⟩
  | x :: post, pre, env, c, hi, H => by
    obtain ⟨env1, env2, c2, e1, e2, hi2⟩ := H pre x post rfl env c hi
    have ea : (pre ++ [x]) ++ post = pre ++ x :: post := by rw [List.append_assoc]; rfl
    obtain ⟨env', c', e3, hi3⟩ := forD_aux (post := post) hi2 fun pre' y post' e => H pre' y post' (ea.symm.trans e)
    refine ⟨env', c', ?_, ea ▸ hi3⟩
    simp only [List.map_cons, forD, e1, e2, e3]
/-- a loop without an early end -/
theorem forD_st {α : Type} {g : FG} {fb : FS} {h : α → D} (I : List α → En → Cs → Prop) {xs : List α} {env : En} {c : Cs} (hi : I [] env c)
    (H : ∀ pre x post, xs = pre ++ x :: post → ∀ env c, I pre env c → ∃ env1 env2 c2, g (h x) env = some env1 ∧ fb env1 c = some (.nx, env2, c2) ∧ I (pre ++ [x]) env2 c2) :
    ∃ env' c', forD g fb (xs.map h) env c = some (.nx, env', c') ∧ I xs env' c' := by
  have := forD_aux (post := xs) (pre := []) hi (fun pre' x post' e => H pre' x post' (by rw [List.nil_append] at e; exact e))
  rw [List.nil_append] at this
  exact this
/-- enumerate -/
theorem enumD_map {α : Type} (h : α → D) : ∀ (i : Nat) (xs : List α), enumD i (xs.map h) = (xs.zipIdx i).map fun p => .tup [.int (p.2 : Nat), h p.1]
  | _, [] => rfl
  | i, x :: xs => by simp only [List.map_cons, enumD, List.zipIdx_cons, enumD_map h (i + 1) xs]
/-! ### the feed: a cell that holds two ints -/
def Fd (k : Nat) (c : Cs) : Prop := ∃ dg st : Int, c[k]? = some (.lst [.int dg, .int st])
/-- the other cells stay -/
structure FdTo (k : Nat) (c c' : Cs) : Prop where
  fd : Fd k c'
  len : c'.length = c.length
  oth : ∀ j, j ≠ k → c'[j]? = c[j]?
theorem FdTo.refl {k : Nat} {c : Cs} (h : Fd k c) : FdTo k c c := ⟨h, rfl, fun _ _ => rfl⟩
theorem FdTo.trans {k : Nat} {c1 c2 c3 : Cs} (h : FdTo k c1 c2) (h' : FdTo k c2 c3) : FdTo k c1 c3 := ⟨h'.fd, h'.len.trans h.len, fun j hj => (h'.oth j hj).trans (h.oth j hj)⟩
theorem FdTo.set {k : Nat} {c : Cs} {dg st : Int} (h : k < c.length) : FdTo k c (c.set k (.lst [.int dg, .int st])) :=
  ⟨⟨dg, st, by rw [List.getElem?_set_self h]⟩, by rw [List.length_set], fun j hj => by rw [List.getElem?_set_ne (Ne.symm hj)]⟩
theorem Fd.lt {k : Nat} {c : Cs} (h : Fd k c) : k < c.length := by
  obtain ⟨dg, st, e⟩ := h
  exact (List.getElem?_eq_some_iff.mp e).1
/-! ### tables, rows -/
def GRow (w : Int) (a : Nat) (r : List Int) : Prop := r.length = a ∧ ∀ x ∈ r, 0 ≤ x ∧ x < w
structure GT (w : Int) (a : Nat) (rs : List (List Int)) : Prop where
  a1 : 1 ≤ a
  a3 : a ≤ 3
  row : ∀ r ∈ rs, GRow w a r
  str : StrI rs
  len : rs.length ≤ 64
def gtB (w : Int) : D → Bool
  | .lst [.int a, .lst ds] => match tupsI? ds with
    | some rs => decide (1 ≤ a) && decide (a ≤ 3) && rs.all (fun r => decide ((r.length : Int) = a) && r.all fun x => decide (0 ≤ x) && decide (x < w)) && strB rs && decide (rs.length ≤ 64)
    | none => false
  | _ => false
where
  strB : List (List Int) → Bool
  | x :: y :: r => decide (x < y) && strB (y :: r)
  | _ => true
theorem strB_ok : ∀ {rs : List (List Int)}, gtB.strB rs = true → StrI rs
  | [], _ => .nil
  | [x], _ => by simp
  | x :: y :: r, h => by
    simp only [gtB.strB, Bool.and_eq_true, decide_eq_true_eq] at h
    have ih := strB_ok h.2
    refine List.pairwise_cons.mpr ⟨?_, ih⟩
    intro z hz
    rcases List.mem_cons.mp hz with rfl | hz
    · exact h.1
    · exact List.lt_trans h.1 ((List.pairwise_cons.mp ih).1 z hz)
/-- a table as the law draws it -/
def gD (a : Nat) (rs : List (List Int)) : D := .lst [.int a, .lst (rs.map tupI)]
theorem gtB_ok {w : Int} {d : D} (h : gtB w d = true) : ∃ a rs, d = gD a rs ∧ GT w a rs := by
  unfold gtB at h
  split at h
  case h_2 => cases h
  case h_1 a ds =>
    split at h
    case h_2 => cases h
    case h_1 rs e =>
      simp only [Bool.and_eq_true, decide_eq_true_eq, List.all_eq_true] at h
      obtain ⟨⟨⟨⟨h1, h2⟩, h3⟩, h4⟩, h5⟩ := h
      obtain ⟨n, rfl⟩ := Int.eq_ofNat_of_zero_le (show 0 ≤ a by omega)
      refine ⟨n, rs, by rw [tupsI?_map e]; rfl, by omega, by omega, fun r hr => ⟨by have := (h3 r hr).1; omega, (h3 r hr).2⟩, strB_ok h4, h5⟩
end Ma
set_option Elab.async false
set_option linter.all false
set_option maxRecDepth 100000
set_option maxHeartbeats 0
/-! Ma3: comparing. -/
namespace Ma
open PySem PySem.Spec PyProof.Rows L2 Pd TL
theorem beq_dec (i j : Int) : (i == j) = decide (i = j) := by
  by_cases h : i = j
  · subst h; simp
  · simp [h]
theorem oEq_int (i j : Int) (c : Cs) : oEq (.int i) (.int j) c = some (.bl (decide (i = j)), c) := by simp only [oEq, deep, pdn, PyData.eqv, beq_dec]
theorem oNe_int (i j : Int) (c : Cs) : oNe (.int i) (.int j) c = some (.bl (!decide (i = j)), c) := by simp only [oNe, deep, pdn, PyData.eqv, beq_dec]
theorem oEq_str {x y : Str} (hx : Asc x) (hy : Asc y) (c : Cs) : oEq (.str x) (.str y) c = some (.bl (decide (x = y)), c) := by simp only [oEq, pdn_str _ hx, pdn_str _ hy, eqv_str]
theorem oNe_str {x y : Str} (hx : Asc x) (hy : Asc y) (c : Cs) : oNe (.str x) (.str y) c = some (.bl (!decide (x = y)), c) := by simp only [oNe, pdn_str _ hx, pdn_str _ hy, eqv_str]
theorem eqvAll_strs : ∀ xs ys : List Str, PyData.eqvAll (xs.map .str) (ys.map .str) = decide (xs = ys)
  | [], [] => by simp [PyData.eqvAll]
  | [], _ :: _ => by simp [PyData.eqvAll]
  | _ :: _, [] => by simp [PyData.eqvAll]
  | x :: xs, y :: ys => by
    simp only [List.map_cons, PyData.eqvAll, eqv_str, eqvAll_strs xs ys]
    by_cases h : x = y <;> by_cases k : xs = ys <;> simp [h, k]
theorem pdn_strs (k : Nat) {ss : List Str} (h : ∀ s ∈ ss, Asc s) : pdn (k + 1) (.lst (ss.map D.str)) = some (.list (ss.map .str)) := by simp only [pdn, pdns_strs k h]
theorem oNe_strs {xs ys : List Str} (hx : ∀ s ∈ xs, Asc s) (hy : ∀ s ∈ ys, Asc s) (c : Cs) : oNe (.lst (xs.map D.str)) (.lst (ys.map D.str)) c = some (.bl (!decide (xs = ys)), c) := by
  simp only [oNe, deep, pdn_strs 59 hx, pdn_strs 59 hy, PyData.eqv, eqvAll_strs]
theorem bools?_true {α : Type} : ∀ xs : List α, bools? (xs.map fun _ => D.bl true) = some (xs.map fun _ => true)
  | [] => rfl
  | x :: xs => by simp only [List.map_cons, bools?, bools?_true xs]
theorem bAll_true {α : Type} (xs : List α) (c : Cs) : bAll [.lst (xs.map fun _ => D.bl true)] c = some (.bl true, c) := by
  simp only [bAll, bools?_true]
  have : (xs.map fun _ => true).all id = true := by simp
  rw [this]
theorem lim_le {n : Nat} (h : n ≤ 1000) : n ≤ lim := Nat.le_trans h (by decide)
theorem atIn {α : Type} (xs : List α) (n : Nat) : atI xs (n : Int) = xs[n]? := by
  unfold atI ixN
  rw [if_pos (Int.natCast_nonneg n)]
  by_cases h : n < xs.length
  · rw [if_pos (by omega)]; simp
  · rw [if_neg (by omega), List.getElem?_eq_none (by omega)]; rfl
theorem atI0 {α : Type} (x : α) (r : List α) : atI (x :: r) 0 = some x := atIn (x :: r) 0
theorem atI1 {α : Type} (x y : α) (r : List α) : atI (x :: y :: r) 1 = some y := atIn (x :: y :: r) 1
theorem atI2 {α : Type} (x y z : α) (r : List α) : atI (x :: y :: z :: r) 2 = some z := atIn (x :: y :: z :: r) 2
theorem atI3 {α : Type} (x y z u : α) (r : List α) : atI (x :: y :: z :: u :: r) 3 = some u := atIn (x :: y :: z :: u :: r) 3
theorem atI4 {α : Type} (x y z u v : α) (r : List α) : atI (x :: y :: z :: u :: v :: r) 4 = some v := atIn (x :: y :: z :: u :: v :: r) 4
end Ma
set_option Elab.async false
set_option linter.all false
set_option maxRecDepth 100000
set_option maxHeartbeats 0
/-! Ma4: signs of a text, words of a line. -/
namespace Ma
open PySem PySem.Spec PyProof.Rows L2 Pd TL
theorem str_eta (x : Str) : x = SX.S (tl x) := (SX.S_tl x).symm
theorem inStr_one (k : Nat) (y : Str) : inStr ⟨#[k]⟩ y = decide (k ∈ tl y) := by
  unfold inStr
  conv => lhs; rw [str_eta y]
  exact SX.in_one (tl y) k
theorem tl_digits : tl (Str.ofString "0123456789") = [48, 49, 50, 51, 52, 53, 54, 55, 56, 57] := by rw [tl_ofString]; rfl
theorem digit_in {k : Nat} (h : 48 ≤ k ∧ k ≤ 57) : inStr ⟨#[k]⟩ (Str.ofString "0123456789") = true := by
  rw [inStr_one, tl_digits, decide_eq_true_eq]
  have : k = 48 ∨ k = 49 ∨ k = 50 ∨ k = 51 ∨ k = 52 ∨ k = 53 ∨ k = 54 ∨ k = 55 ∨ k = 56 ∨ k = 57 := by omega
  simpa using this
theorem oIn_digit {k : Nat} (h : 48 ≤ k ∧ k ≤ 57) (c : Cs) : oInQ false (.str ⟨#[k]⟩) (.str (Str.ofString "0123456789")) c = some (.bl true, c) := by
  simp only [oInQ, deref, inD, digit_in h]; rfl
theorem numS_ne {i : Int} (h : 0 ≤ i) (h2 : i < 1000000000) : numS i ≠ Str.ofString "" := by
  intro e
  have := (numS_len h h2).2
  rw [e] at this
  exact absurd this (by decide +kernel)
theorem asc_lit {x : Str} (h : ((tl x).all fun c => decide (c < 128)) = true) : Asc x := fun c hc => of_decide_eq_true (List.all_eq_true.mp h c hc)
theorem asc_empty : Asc (Str.ofString "") := asc_lit (by decide +kernel)
theorem signs_num {i : Int} (h : 0 ≤ i) : Pd.signs (numS i) = (numL i.toNat).map fun k => D.str ⟨#[k]⟩ := by
  unfold Pd.signs
  have := tl_numS h
  unfold tl at this
  rw [this]
/-- a line of five words, two of them fixed texts -/
theorem join5 {A B C x y : Str} {p q : Str} (hp : tl p = tl A ++ [32] ++ tl B ++ [32]) (hq : tl q = [32] ++ tl C ++ [32]) : p ++ x ++ q ++ y = Txt.join blank [A, B, x, C, y] := by
  apply ext_tl
  simp only [tl_append, tl_joinT, hp, hq, tl_blank, List.map_cons, List.map_nil, joinL, List.append_assoc, List.cons_append, List.nil_append]
/-- words of a line -/
def wordsD (ws : List Str) : D := .lst (ws.map D.str)
abbrev lineOf (ws : List Str) : Str := Txt.join blank ws
abbrev textOf (ls : List (List Str)) : Str := Txt.join eol (ls.map lineOf)
structure Lns (ls : List (List Str)) : Prop where
  ne : ls ≠ []
  few : ls.length ≤ 1000
  w : ∀ l ∈ ls, l ≠ [] ∧ (∀ w ∈ l, Wd w) ∧ (lineOf l).length ≤ 200
theorem sum_le {m : Nat} : ∀ {l : List Nat}, (∀ x ∈ l, x ≤ m) → l.sum ≤ l.length * m
  | [], _ => by simp
  | x :: l, h => by
    have h1 := h x (List.mem_cons_self ..)
    have h2 := sum_le fun z hz => h z (List.mem_cons_of_mem _ hz)
    rw [List.sum_cons, List.length_cons, Nat.add_mul, Nat.one_mul]
    omega
theorem Lns.sum {ls : List (List Str)} (h : Lns ls) : ((ls.map lineOf).map (·.length)).sum + (ls.map lineOf).length * eol.length ≤ 210000 := by
  have h1 : ((ls.map lineOf).map (·.length)).sum ≤ ((ls.map lineOf).map (·.length)).length * 200 := sum_le fun x hx => by
    obtain ⟨l, hl, rfl⟩ := List.mem_map.mp hx
    obtain ⟨l', hl', rfl⟩ := List.mem_map.mp hl
    exact (h.w l' hl').2.2
  have h2 : eol.length = 1 := by rw [len_tl, tl_eol]; rfl
  rw [List.length_map, List.length_map] at h1
  rw [List.length_map, h2]
  have := h.few
  omega
theorem Lns.len {ls : List (List Str)} (h : Lns ls) : (textOf ls).length + 2 ≤ lim := by
  have := join_len eol (ls.map lineOf)
  have := h.sum
  have : lim = 1000000 := rfl
  show (Txt.join eol (ls.map lineOf)).length + 2 ≤ lim
  omega
theorem Lns.split {ls : List (List Str)} (h : Lns ls) : Txt.split (textOf ls) eol = ls.map lineOf :=
  split_lines (by intro e; exact h.ne (List.map_eq_nil_iff.mp e)) fun l hl => by
    obtain ⟨l', hl', rfl⟩ := List.mem_map.mp hl
    exact ln_words (h.w l' hl').2.1
theorem Lns.asc {ls : List (List Str)} (h : Lns ls) : Asc (textOf ls) :=
  asc_join (asc_lit (by decide +kernel)) fun p hp => by
    obtain ⟨l', hl', rfl⟩ := List.mem_map.mp hp
    exact (ln_words (h.w l' hl').2.1).2
theorem Lns.join {ls : List (List Str)} (h : Lns ls) (c : Cs) : mJoin [.str eol, .lst ((ls.map lineOf).map D.str)] c = some (.str (textOf ls), c) :=
  mJoin_of eol (ls.map lineOf) (Nat.le_trans h.sum (by decide)) c
theorem sum_num {r : List Int} (h : ∀ x ∈ r, 0 ≤ x ∧ x < 1000000000) : ((r.map numS).map (·.length)).sum ≤ r.length * 9 := by
  have := sum_le (m := 9) (l := (r.map numS).map (·.length)) fun x hx => by
    obtain ⟨l, hl, rfl⟩ := List.mem_map.mp hx
    obtain ⟨i, hi, rfl⟩ := List.mem_map.mp hl
    exact (numS_len (h i hi).1 (h i hi).2).1
  rw [List.length_map, List.length_map] at this
  exact this
theorem blank_len : blank.length = 1 := by rw [len_tl, tl_blank]; rfl
theorem join_nums {r : List Int} (h : ∀ x ∈ r, 0 ≤ x ∧ x < 1000000000) (hl : r.length ≤ 10) (c : Cs) : mJoin [.str blank, .lst ((r.map numS).map D.str)] c = some (.str (lineOf (r.map numS)), c) := by
  refine mJoin_of blank _ ?_ c
  have := sum_num h
  rw [blank_len, List.length_map]
  have : lim = 1000000 := rfl
  omega
theorem line_nums {r : List Int} (h : ∀ x ∈ r, 0 ≤ x ∧ x < 1000000000) (hl : r.length ≤ 10) : (lineOf (r.map numS)).length ≤ 100 := by
  have h1 := join_len blank (r.map numS)
  have := sum_num h
  rw [blank_len, List.length_map] at h1
  show (Txt.join blank (r.map numS)).length ≤ 100
  omega
end Ma
set_option Elab.async false
set_option linter.all false
set_option maxRecDepth 100000
set_option maxHeartbeats 0
/-! Ma5: rows compared, lines cut. -/
namespace Ma
open PySem PySem.Spec PyProof.Rows L2 Pd TL
theorem lexAt_shift {e r e' r' : Nat → Bool} {z : Bool} (he : ∀ i, e (i + 1) = e' i) (hr : ∀ i, r (i + 1) = r' i) : ∀ (k i : Nat), Ob.lexAt e r z (i + 1) k = Ob.lexAt e' r' z i k
  | 0, _ => rfl
  | k + 1, i => by
    show (if e (i + 1) = true then Ob.lexAt e r z (i + 1 + 1) k else r (i + 1)) = (if e' i = true then Ob.lexAt e' r' z (i + 1) k else r' i)
    rw [he, hr, lexAt_shift he hr k (i + 1)]
theorem lexAt_z {e r : Nat → Bool} {z z' : Bool} (hz : z = z') (k i : Nat) : Ob.lexAt e r z i k = Ob.lexAt e r z' i k := by rw [hz]
theorem lexLeZ_cons (x y : Int) (r s : List Int) : lexLeZ (x :: r) (y :: s) = if x = y then lexLeZ r s else decide (x ≤ y) := by
  unfold lexLeZ
  have hm : min (x :: r).length (y :: s).length = min r.length s.length + 1 := by simp only [List.length_cons]; omega
  rw [hm]
  show (if decide (x = y) = true then _ else decide (x ≤ y)) = _
  by_cases h : x = y
  · rw [if_pos (decide_eq_true h), if_pos h, lexAt_shift (e' := fun j => decide (r.getD j 0 = s.getD j 0)) (r' := fun j => decide (r.getD j 0 ≤ s.getD j 0)) (fun i => rfl) (fun i => rfl)]
    refine lexAt_z ?_ _ _
    simp
  · rw [if_neg (by simpa using h), if_neg h]
theorem lexLeZ_lt : ∀ {r s : List Int}, r.length = s.length → s < r → lexLeZ r s = false
  | [], [], _, h => absurd h (ltI_irrefl _)
  | x :: r, y :: s, hl, h => by
    rw [lexLeZ_cons]
    rw [List.cons_lt_cons_iff] at h
    rcases h with h | ⟨h, k⟩
    · rw [if_neg (by omega), decide_eq_false_iff_not]; omega
    · rw [if_pos h.symm]
      exact lexLeZ_lt (by simpa using hl) k
theorem ints?_of : ∀ r : List Int, Pd.ints? (r.map D.int) = some r
  | [] => rfl
  | x :: r => by simp only [List.map_cons, Pd.ints?, ints?_of r]
theorem oLe_lt {r s : List Int} (hl : r.length = s.length) (h : s < r) (c : Cs) : oLe (tupI r) (tupI s) c = some (.bl false, c) := by
  simp only [oLe, tupI, ints?_of, lexLeZ_lt hl h]
theorem oNe_nil (xs : List (List Int)) (c : Cs) : oNe (.lst (xs.map tupI)) (.lst []) c = some (.bl (!xs.isEmpty), c) := by
  have e1 : pdn deep (.lst (xs.map tupI)) = some (.list (xs.map fun r => .tuple (r.map .int))) := pdn_rows 58 xs
  have e2 : pdn deep (.lst []) = some (.list []) := rfl
  simp only [oNe, e1, e2]
  cases xs with
  | nil => simp [PyData.eqv, PyData.eqvAll]
  | cons x xs => simp [PyData.eqv, PyData.eqvAll]
theorem atI_last {α : Type} (xs : List α) (x : α) : atI (xs ++ [x]) (-1) = some x := by
  unfold atI ixN
  have hl : (xs ++ [x]).length = xs.length + 1 := by simp
  rw [if_neg (by omega), if_pos (by omega), hl]
  have : (-1 + ((xs.length + 1 : Nat) : Int)).toNat = xs.length := by omega
  simp only [Option.bind_some, this]
  simp
theorem range_split {n : Nat} {pre post : List Nat} {x : Nat} (e : List.range n = pre ++ x :: post) : x = pre.length ∧ x < n := by
  have h1 : (pre ++ x :: post)[pre.length]? = some x := by simp
  rw [← e] at h1
  have h2 := List.getElem?_eq_some_iff.mp h1
  obtain ⟨h3, h4⟩ := h2
  rw [List.getElem_range] at h4
  rw [List.length_range] at h3
  exact ⟨h4.symm, by omega⟩
theorem drop_at {α : Type} {ls xs rest : List α} {p i : Nat} (h : ls.drop p = xs ++ rest) (hi : i < xs.length) : ls[p + i]? = xs[i]? := by
  have : (ls.drop p)[i]? = (xs ++ rest)[i]? := by rw [h]
  rw [List.getElem?_drop, List.getElem?_append_left hi] at this
  exact this
theorem drop_more {α : Type} {ls xs rest : List α} {p : Nat} (h : ls.drop p = xs ++ rest) : ls.drop (p + xs.length) = rest := by
  rw [← List.drop_drop, h, List.drop_left]
theorem take_succ' {α : Type} {xs : List α} {n : Nat} (h : n < xs.length) : xs.take (n + 1) = xs.take n ++ [xs[n]] := by
  rw [List.take_add_one, List.getElem?_eq_getElem h]; rfl
end Ma
set_option Elab.async false
set_option linter.all false
set_option maxRecDepth 100000
set_option maxHeartbeats 0
/-! Ma6: statements, one by one. -/
namespace Ma
open PySem PySem.Spec PyProof.Rows L2 Pd TL
theorem fSeq_nx {f g : FS} {env env1 : En} {c c1 : Cs} (h : f env c = some (.nx, env1, c1)) : fSeq f g env c = g env1 c1 := by simp only [fSeq, h]
theorem fSeq_rt {f g : FS} {env env1 : En} {c c1 : Cs} {d : D} (h : f env c = some (.rt d, env1, c1)) : fSeq f g env c = some (.rt d, env1, c1) := by simp only [fSeq, h]
theorem mOf_rt {N : List Str} {k : Nat} {f : FS} {ds : List D} {c c1 : Cs} {d : D} {env1 : En} (hl : ds.length = k) (h : f (startD N ds) c = some (.rt d, env1, c1)) : mOf N k f ds c = some (d, c1) := by
  simp only [mOf, hl, if_true, h]
theorem mOf_nx {N : List Str} {k : Nat} {f : FS} {ds : List D} {c c1 : Cs} {env1 : En} (hl : ds.length = k) (h : f (startD N ds) c = some (.nx, env1, c1)) : mOf N k f ds c = some (.non, c1) := by
  simp only [mOf, hl, if_true, h]
theorem fIte_f {t : FT} {f g : FS} {env : En} {c c1 : Cs} (h : t env c = some (false, c1)) : fIte t f g env c = g env c1 := by simp only [fIte, h]
theorem fIte_t {t : FT} {f g : FS} {env : En} {c c1 : Cs} (h : t env c = some (true, c1)) : fIte t f g env c = f env c1 := by simp only [fIte, h]
theorem fFor_of {fi : FA} {g : FG} {fb : FS} {env : En} {c c1 : Cs} {ds : List D} (h : fi env c = some (ds, c1)) : fFor fi g fb env c = forD g fb ds env c1 := by simp only [fFor, h]
theorem fRg2_of {fa : FA} {env : En} {c c1 : Cs} {i j : Int} {k : Nat} (h : fa env c = some ([.int i, .int j], c1)) (hi : small62 i = true) (hj : small62 j = true) (hk : (j - i).toNat = k) : fRg2 fa env c = some (rangeD i k, c1) := by
  simp only [fRg2, h, hi, hj, hk, Bool.and_self, if_true]
theorem fRg1_of {fa : FA} {env : En} {c c1 : Cs} {j : Int} {k : Nat} (h : fa env c = some ([.int j], c1)) (hj : small62 j = true) (hk : j.toNat = k) : fRg1 fa env c = some (rangeD 0 k, c1) := by
  simp only [fRg1, h, hj, hk, if_true]
theorem fRet_of {f : FE} {env : En} {c c1 : Cs} {d : D} (h : f env c = some (d, c1)) : fRet f env c = some (.rt d, env, c1) := by simp only [fRet, h]
theorem small62_of {i : Int} (h : 0 ≤ i) (h2 : i < 1000000000) : small62 i = true := by
  simp only [small62, Bool.and_eq_true, decide_eq_true_eq]; omega
end Ma
set_option Elab.async false
set_option linter.all false
set_option maxRecDepth 100000
set_option maxHeartbeats 0
/-! Ma7: expressions, one by one. -/
namespace Ma
open PySem PySem.Spec PyProof.Rows L2 Pd TL
section
variable {env env1 : En} {c c1 c2 c3 : Cs} {d x y : D} {ds ys : List D} {f g h : FE} {fa ga : FA} {m : FC} {b : Bool} {i j : Nat}
theorem aC (h1 : f env c = some (d, c1)) (h2 : fa env c1 = some (ds, c2)) : aCons f fa env c = some (d :: ds, c2) := by simp only [aCons, h1, h2]
theorem aN : aNil env c = some ([], c) := rfl
theorem op_of {o : F2} (h1 : f env c = some (x, c1)) (h2 : g env c1 = some (y, c2)) : fOp o f g env c = o x y c2 := by simp only [fOp, h1, h2]
theorem call_of (h1 : fa env c = some (ds, c1)) : fCall m fa env c = m ds c1 := by simp only [fCall, h1]
theorem asB_of (h1 : f env c = some (.bl b, c1)) : asB f env c = some (b, c1) := by simp only [asB, h1]
theorem not_of {ft : FT} (h1 : ft env c = some (b, c1)) : fNot ft env c = some (!b, c1) := by simp only [fNot, h1]
theorem or_t {ft gt : FT} (h1 : ft env c = some (true, c1)) : fOr ft gt env c = some (true, c1) := by simp only [fOr, h1]
theorem or_f {ft gt : FT} (h1 : ft env c = some (false, c1)) : fOr ft gt env c = gt env c1 := by simp only [fOr, h1]
theorem and_t {ft gt : FT} (h1 : ft env c = some (true, c1)) : fAnd ft gt env c = gt env c1 := by simp only [fAnd, h1]
theorem and_f {ft gt : FT} (h1 : ft env c = some (false, c1)) : fAnd ft gt env c = some (false, c1) := by simp only [fAnd, h1]
theorem andV_t (h1 : f env c = some (.bl true, c1)) : fAndV f g env c = g env c1 := by simp only [fAndV, h1]
theorem andV_f (h1 : f env c = some (.bl false, c1)) : fAndV f g env c = some (.bl false, c1) := by simp only [fAndV, h1]
theorem orV_t (h1 : f env c = some (.bl true, c1)) : fOrV f g env c = some (.bl true, c1) := by simp only [fOrV, h1]
theorem orV_f (h1 : f env c = some (.bl false, c1)) : fOrV f g env c = g env c1 := by simp only [fOrV, h1]
theorem notV_of (h1 : f env c = some (.bl b, c1)) : fNotV f env c = some (.bl (!b), c1) := by simp only [fNotV, h1]
theorem if_t {ft : FT} (h1 : ft env c = some (true, c1)) : fIf ft f g env c = f env c1 := by simp only [fIf, h1]
theorem if_f {ft : FT} (h1 : ft env c = some (false, c1)) : fIf ft f g env c = g env c1 := by simp only [fIf, h1]
theorem fld_of {ks : List (Nat × Nat)} {k n : Nat} (h1 : f env c = some (x, c1)) (h2 : deref c1 x = some (.obj k ds)) (h3 : ks.lookup k = some n) (h4 : ds[n]? = some y) : fFld ks f env c = some (y, c1) := by simp only [fFld, h1, h2, h3, h4]
theorem prop_of {ms : Ms} {k : Nat} (h1 : f env c = some (x, c1)) (h2 : deref c1 x = some (.obj k ds)) (h3 : ms k = some m) : fProp ms f env c = m [x] c1 := by simp only [fProp, h1, h2, h3]
theorem meth_of {ms : Ms} {k : Nat} (h1 : f env c = some (x, c1)) (h2 : deref c1 x = some (.obj k ds)) (h3 : ms k = some m) (h4 : fa env c1 = some (ys, c2)) : fMeth ms f fa env c = m (x :: ys) c2 := by simp only [fMeth, h1, h2, h3, h4]
theorem lst_of (h1 : fa env c = some (ds, c1)) (h2 : ds.length ≤ lim) : fLst fa env c = some (.lst ds, c1) := by simp only [fLst, h1, h2, if_true]
theorem tup_of (h1 : fa env c = some (ds, c1)) (h2 : ds.length ≤ lim) : fTup fa env c = some (.tup ds, c1) := by simp only [fTup, h1, h2, if_true]
theorem it_lst (h1 : f env c = some (.lst ds, c1)) : fIt f env c = some (ds, c1) := by simp only [fIt, h1]
theorem it_tup (h1 : f env c = some (.tup ds, c1)) : fIt f env c = some (ds, c1) := by simp only [fIt, h1]
theorem comp_of {gg : FG} {ft : FT} {vs : List Nat} (h1 : fa env c = some (ds, c1)) (h2 : compD gg ft f ds (wipeD env vs) c1 = some (ys, c2)) (h3 : ys.length ≤ lim) : fComp fa gg ft f vs env c = some (.lst ys, c2) := by simp only [fComp, h1, h2, h3, if_true]
theorem lenQ_of {n : Int} (h1 : f env c = some (x, c1)) (h2 : lenD c1 x = some n) : fLenQ f env c = some (.int n, c1) := by simp only [fLenQ, h1, h2]
theorem len_of {ms : Ms} {k : Nat} {n : Int} (h1 : f env c = some (x, c1)) (h2 : deref c1 x = some (.obj k ds)) (h3 : ms k = some m) (h4 : m [x] c1 = some (.int n, c2)) (h5 : 0 ≤ n) (h6 : small62 n = true) : fLen ms f env c = some (.int n, c2) := by
  simp only [fLen, h1, oLen, h2, h3, h4, h5, h6, decide_true, Bool.and_self, if_true]
theorem isi_of {tb : String → Bool} {tc : Nat → Option Bool} (h1 : f env c = some (x, c1)) (h2 : isiD tb tc c1 x = some b) : fIsi tb tc f env c = some (.bl b, c1) := by simp only [fIsi, h1, h2]
theorem set_of (h1 : f env c = some (x, c1)) : fSet i f env c = some (.nx, env.set i (some (.f x)), c1) := by simp only [fSet, h1]
theorem setO_of (h1 : f env c = some (x, c1)) : fSetO i f env c = some (.nx, env.set i (some (.o x)), c1) := by simp only [fSetO, h1]
theorem drop_of (h1 : f env c = some (x, c1)) : fDrop f env c = some (.nx, env, c1) := by simp only [fDrop, h1]
theorem xF_of (h1 : f env c = some (x, c1)) : xF f env c = some (.f x, c1) := by simp only [xF, h1]
theorem xO_of (h1 : f env c = some (x, c1)) : xO f env c = some (.o x, c1) := by simp only [xO, h1]
theorem par_of {fx gx : FX} {s u : Sl} (h1 : fx env c = some (s, c1)) (h2 : gx env c1 = some (u, c2)) : fPar i j fx gx env c = some (.nx, (env.set i (some s)).set j (some u), c2) := by simp only [fPar, h1, h2]
theorem asg_of {gg : FG} (h1 : f env c = some (x, c1)) (h2 : gg x env = some env1) : fAsg f gg env c = some (.nx, env1, c1) := by simp only [fAsg, h1, h2]
theorem md_of {tn : String} (h1 : f env c = some (x, c1)) (h2 : isTyM tn c1 x = true) (h3 : fa env c1 = some (ds, c2)) : fMd tn m f fa env c = m (x :: ds) c2 := by simp only [fMd, h1, h2, h3, if_true]
theorem sl_lst {fl fh : FO} {lo hi : Option Int} (h1 : f env c = some (.lst ds, c1)) (h2 : fl env c1 = some (lo, c2)) (h3 : fh env c2 = some (hi, c3)) : fSl f fl fh env c = some (.lst (cutD ds lo hi), c3) := by simp only [fSl, h1, h2, h3]
theorem sl_tup {fl fh : FO} {lo hi : Option Int} (h1 : f env c = some (.tup ds, c1)) (h2 : fl env c1 = some (lo, c2)) (h3 : fh env c2 = some (hi, c3)) : fSl f fl fh env c = some (.tup (cutD ds lo hi), c3) := by simp only [fSl, h1, h2, h3]
theorem mutO_of {tn : String} {up : Up} {d' r : D} (h0 : env[i]? = some (some (.o d))) (h1 : isTy tn d = true) (h2 : fa env c = some (ds, c1)) (h3 : up d ds = some (r, d')) : fMutO tn up i fa env c = some (.nx, env.set i (some (.o d')), c1) := by
  simp only [fMutO, h0, h1, h2, h3, if_true]
theorem app_of (h : ds.length < lim) : uApp (.lst ds) [x] = some (.non, .lst (ds ++ [x])) := by simp only [uApp, h, if_true]
theorem enum_of (h1 : fa env c = some ([.lst ds], c1)) : fEnum fa env c = some (enumD 0 ds, c1) := by simp only [fEnum, h1]
theorem mInit_of {jc k : Nat} {N : List Str} {fb : FS} {env1 : En} (hl : ds.length + 1 = k) (h : fb (startI jc N ds) c = some (.nx, env1, c1)) (h2 : env1[0]? = some (some (.o d))) : mInit jc N k fb ds c = some (d, c1) := by
  simp only [mInit, hl, if_true, h, h2]
end
end Ma
set_option Elab.async false
set_option linter.all false
set_option maxRecDepth 100000
set_option maxHeartbeats 0
/-! Ma8: statements that may raise, loops with an early end, texts cut and glued, words as numbers. -/
namespace Ma
open PySem PySem.Spec PyProof.Rows L2 Pd TL NumText
section
variable {env env1 env2 : En} {c c1 c2 : Cs} {d x : D} {ds es : List D} {f g : FSX} {fe : FE} {fs : FS} {fx : FEX} {fa : FA} {ft : FT} {gg : FG} {m : FCX} {i k : Nat} {r : Fl}
theorem sqX_nx (h : f env c = some (.fl .nx, env1, c1)) : fSeqX f g env c = g env1 c1 := by simp only [fSeqX, h]
theorem sqX_rt (h : f env c = some (.fl (.rt d), env1, c1)) : fSeqX f g env c = some (.fl (.rt d), env1, c1) := by simp only [fSeqX, h]
theorem sqX_er (h : f env c = some (.er k ds, env1, c1)) : fSeqX f g env c = some (.er k ds, env1, c1) := by simp only [fSeqX, h]
theorem sV_of (h : fs env c = some (r, env1, c1)) : fSV fs env c = some (.fl r, env1, c1) := by simp only [fSV, h]
theorem iteX_t (h : ft env c = some (true, c1)) : fIteX ft f g env c = f env c1 := by simp only [fIteX, h]
theorem iteX_f (h : ft env c = some (false, c1)) : fIteX ft f g env c = g env c1 := by simp only [fIteX, h]
theorem raise_of (h : fe env c = some (d, c1)) : fRaise k fe env c = some (.er k [d], env, c1) := by simp only [fRaise, h]
theorem setX_ok (h : fx env c = some (.ok d, c1)) : fSetX i fx env c = some (.fl .nx, env.set i (some (.f d)), c1) := by simp only [fSetX, h]
theorem setX_er (h : fx env c = some (.er k ds, c1)) : fSetX i fx env c = some (.er k ds, env, c1) := by simp only [fSetX, h]
theorem asgX_ok (h : fx env c = some (.ok d, c1)) (h2 : gg d env = some env1) : fAsgX fx gg env c = some (.fl .nx, env1, c1) := by simp only [fAsgX, h, h2]
theorem asgX_er (h : fx env c = some (.er k ds, c1)) : fAsgX fx gg env c = some (.er k ds, env, c1) := by simp only [fAsgX, h]
theorem callX_of (h : fa env c = some (ds, c1)) : fCallX m fa env c = m ds c1 := by simp only [fCallX, h]
theorem forX_of (h : fa env c = some (ds, c1)) : fForX fa gg f env c = forX gg f ds env c1 := by simp only [fForX, h]
theorem mOfX_rt {N : List Str} {k : Nat} (hl : ds.length = k) (h : f (startD N ds) c = some (.fl (.rt d), env1, c1)) : mOfX N k f ds c = some (.ok d, c1) := by
  simp only [mOfX, hl, if_true, h]
theorem mOfX_er {N : List Str} {k j : Nat} (hl : ds.length = k) (h : f (startD N ds) c = some (.er j es, env1, c1)) : mOfX N k f ds c = some (.er j es, c1) := by
  simp only [mOfX, hl, if_true, h]
theorem forX_step (hg : gg d env = some env1) (hb : f env1 c = some (.fl .nx, env2, c2)) : forX gg f (d :: ds) env c = forX gg f ds env2 c2 := by simp only [forX, hg, hb]
theorem forX_er (hg : gg d env = some env1) (hb : f env1 c = some (.er k es, env2, c2)) : forX gg f (d :: ds) env c = some (.er k es, env2, c2) := by simp only [forX, hg, hb]
theorem forD_step (hg : gg d env = some env1) (hb : fs env1 c = some (.nx, env2, c2)) : forD gg fs (d :: ds) env c = forD gg fs ds env2 c2 := by simp only [forD, hg, hb]
theorem forD_rt (hg : gg d env = some env1) (hb : fs env1 c = some (.rt x, env2, c2)) : forD gg fs (d :: ds) env c = some (.rt x, env2, c2) := by simp only [forD, hg, hb]
theorem forD_bk (hg : gg d env = some env1) (hb : fs env1 c = some (.bk, env2, c2)) : forD gg fs (d :: ds) env c = some (.nx, env2, c2) := by simp only [forD, hg, hb]
theorem fSeq_bk {f g : FS} (h : f env c = some (.bk, env1, c1)) : fSeq f g env c = some (.bk, env1, c1) := by simp only [fSeq, h]
theorem slA_of {fl fh : FO} {lo hi : Option Int} {c3 : Cs} (h1 : fe env c = some (x, c1)) (h2 : fl env c1 = some (lo, c2)) (h3 : fh env c2 = some (hi, c3)) (h4 : cutA x lo hi = some d) : fSlA fe fl fh env c = some (d, c3) := by simp only [fSlA, h1, h2, h3, h4]
theorem oS_of {i : Int} (h : fe env c = some (.int i, c1)) : oSome fe env c = some (some i, c1) := by simp only [oSome, h]
end
theorem rangeD_zero (i : Int) : rangeD i 0 = [] := rfl
theorem rangeD_succ (i : Int) (k : Nat) : rangeD i (k + 1) = .int i :: rangeD (i + 1) k := by
  unfold rangeD
  rw [List.range_succ_eq_map, List.map_cons, List.map_map]
  congr 1
  · simp
  · refine List.map_congr_left fun j _ => ?_
    show D.int (i + ((j + 1 : Nat) : Int)) = D.int (i + 1 + (j : Nat))
    congr 1; omega
/-! ### texts glued -/
theorem joinL_lenE {S : List Nat} : ∀ {l : List (List Nat)}, l ≠ [] → (joinL S l).length + S.length = (l.map (·.length)).sum + l.length * S.length
  | [], h => absurd rfl h
  | [p], _ => by simp [joinL]
  | p :: q :: r, _ => by
    have ih := joinL_lenE (S := S) (l := q :: r) (by simp)
    simp only [joinL, List.length_append, List.map_cons, List.sum_cons, List.length_cons] at ih ⊢
    have e : (r.length + 1 + 1) * S.length = S.length + (r.length + 1) * S.length := by rw [Nat.add_mul (r.length + 1) 1, Nat.one_mul, Nat.add_comm]
    rw [e]
    omega
theorem joinL_ge {S : List Nat} : ∀ {l : List (List Nat)} {p : List Nat}, p ∈ l → p.length ≤ (joinL S l).length
  | [q], p, h => by
    rw [List.mem_singleton.mp h]; exact Nat.le_refl _
  | a :: q :: r, p, h => by
    have ih := fun h => joinL_ge (S := S) (l := q :: r) (p := p) h
    simp only [joinL, List.length_append]
    rcases List.mem_cons.mp h with rfl | h
    · omega
    · have := ih h; omega
/-- how long lines are, each with its end -/
def wt (L : List Str) : Nat := (L.map (·.length)).sum + L.length
theorem wt_nil : wt [] = 0 := rfl
theorem wt_cons (x : Str) (L : List Str) : wt (x :: L) = x.length + 1 + wt L := by simp only [wt, List.map_cons, List.sum_cons, List.length_cons]; omega
theorem wt_app (A B : List Str) : wt (A ++ B) = wt A + wt B := by
  simp only [wt, List.map_append, List.sum_append, List.length_append]; omega
theorem wt_len (L : List Str) : L.length ≤ wt L := by unfold wt; omega
theorem wt_mem {x : Str} : ∀ {L : List Str}, x ∈ L → x.length + 1 ≤ wt L
  | y :: L, h => by
    rw [wt_cons]
    rcases List.mem_cons.mp h with rfl | h
    · omega
    · have := wt_mem h; omega
theorem wt_take (L : List Str) (k : Nat) : wt (L.take k) ≤ wt L := by
  conv => rhs; rw [← List.take_append_drop k L, wt_app]
  omega
theorem wt_parts (L : List Str) {i j : Nat} (h : i ≤ j) : wt (L.take i) + wt (L.drop j) ≤ wt L := by
  have e : wt L = wt (L.take j) + wt (L.drop j) := by rw [← wt_app, List.take_append_drop]
  have e2 : wt (L.take i) ≤ wt (L.take j) := by
    have : L.take i = (L.take j).take i := by rw [List.take_take, Nat.min_eq_left h]
    rw [this]; exact wt_take _ _
  omega
theorem wt_set {y : Str} : ∀ (L : List Str) (i : Nat), wt (L.set i y) ≤ wt L + y.length + 1
  | [], i => by simp [wt]
  | x :: L, 0 => by rw [List.set_cons_zero, wt_cons, wt_cons]; omega
  | x :: L, i + 1 => by
    have := wt_set (y := y) L i
    rw [List.set_cons_succ, wt_cons, wt_cons]; omega
theorem map_len_tl (L : List Str) : (L.map tl).map (·.length) = L.map (·.length) := by
  rw [List.map_map]
  exact List.map_congr_left fun x _ => (len_tl x).symm
theorem wt_join {y : Str} {s : Nat} (ey : tl y = [s]) {L : List Str} (h : L ≠ []) : wt L = (Txt.join y L).length + 1 := by
  have := joinL_lenE (S := tl y) (l := L.map tl) (by simpa using h)
  rw [map_len_tl, List.length_map, ey] at this
  rw [len_tl, tl_joinT, ey, wt]
  simp only [List.length_cons, List.length_nil, Nat.zero_add, Nat.mul_one] at this
  omega
theorem join_le {y : Str} {s : Nat} (ey : tl y = [s]) (L : List Str) : (Txt.join y L).length ≤ wt L := by
  have := join_len y L
  rw [len_tl y, ey] at this
  unfold wt
  simpa using this
theorem part_le (y : Str) {L : List Str} {p : Str} (h : p ∈ L) : p.length ≤ (Txt.join y L).length := by
  rw [len_tl (Txt.join y L), tl_joinT, len_tl]
  exact joinL_ge (List.mem_map.mpr ⟨p, h, rfl⟩)
/-! ### texts cut -/
theorem spl1 (s : Nat) : ∀ (l acc : List Nat), s ∉ acc → joinL [s] (spl [s] 0 acc l) = acc ++ l ∧ spl [s] 0 acc l ≠ [] ∧ (∀ p ∈ spl [s] 0 acc l, s ∉ p) ∧ ∀ p ∈ spl [s] 0 acc l, ∀ c ∈ p, c ∈ acc ++ l
  | [], acc, h => by
    rw [spl_nil]
    refine ⟨by simp [joinL], by simp, ?_, ?_⟩
    · intro p hp; rw [List.mem_singleton.mp hp]; exact h
    · intro p hp c hc; rw [List.mem_singleton.mp hp] at hc; simpa using hc
  | k :: r, acc, h => by
    by_cases hk : k = s
    · subst hk
      have hp : pre [k] (k :: r) = true := pre_self [k] r
      obtain ⟨a, b, d, e⟩ := spl1 k r [] (by simp)
      rw [spl_hit hp]
      show joinL [k] (acc :: spl [k] 0 [] r) = _ ∧ (acc :: spl [k] 0 [] r) ≠ [] ∧ _ ∧ _
      refine ⟨?_, by simp, ?_, ?_⟩
      · have ej : joinL [k] (acc :: spl [k] 0 [] r) = acc ++ ([k] ++ joinL [k] (spl [k] 0 [] r)) := by
          generalize spl [k] 0 [] r = q at b
          cases q with
          | nil => exact absurd rfl b
          | cons x y => rfl
        rw [ej, a]; rfl
      · intro p hp
        rcases List.mem_cons.mp hp with rfl | hp
        · exact h
        · exact d p hp
      · intro p hp c hc
        rcases List.mem_cons.mp hp with rfl | hp
        · exact List.mem_append_left _ hc
        · have := e p hp c hc
          exact List.mem_append_right _ (List.mem_cons_of_mem _ (by simpa using this))
    · have hp : pre [s] (k :: r) = false := pre_of_head [] r hk
      rw [spl_miss hp]
      obtain ⟨a, b, d, e⟩ := spl1 s r (acc ++ [k]) (by
        intro hm
        rcases List.mem_append.mp hm with hm | hm
        · exact h hm
        · exact hk (List.mem_singleton.mp hm).symm)
      refine ⟨by rw [a, List.append_assoc]; rfl, b, d, fun p hp c hc => ?_⟩
      have := e p hp c hc
      rw [List.append_assoc] at this
      exact this
theorem split1 {y : Str} {s : Nat} (ey : tl y = [s]) (hk : y.cps.all (· < 256) = true) (x : Str) : Txt.join y (Txt.split x y) = x ∧ Txt.split x y ≠ [] ∧ ∀ p ∈ Txt.split x y, s ∉ tl p ∧ ∀ c ∈ tl p, c ∈ tl x := by
  have e := TL.split_spl x y (by rw [ey]; simp) (TL.kind_ok hk)
  rw [ey] at e
  obtain ⟨a, b, d, f⟩ := spl1 s (tl x) [] (by simp)
  refine ⟨?_, ?_, ?_⟩
  · apply ext_tl
    rw [tl_joinT, ey, e, a]; rfl
  · intro z
    rw [z] at e
    exact b e.symm
  · intro p hp
    have : tl p ∈ spl [s] 0 [] (tl x) := by rw [← e]; exact List.mem_map.mpr ⟨p, hp, rfl⟩
    exact ⟨d _ this, fun c hc => by simpa using f _ this c hc⟩
theorem split_blank (x : Str) : Txt.join blank (Txt.split x blank) = x ∧ Txt.split x blank ≠ [] ∧ ∀ p ∈ Txt.split x blank, 32 ∉ tl p ∧ ∀ c ∈ tl p, c ∈ tl x := split1 tl_blank (by decide +kernel) x
theorem split_eol (x : Str) : Txt.join eol (Txt.split x eol) = x ∧ Txt.split x eol ≠ [] ∧ ∀ p ∈ Txt.split x eol, 10 ∉ tl p ∧ ∀ c ∈ tl p, c ∈ tl x := split1 tl_eol (by decide +kernel) x
/-! ### slices -/
theorem tl_sto (x : Str) (k : Nat) : tl (Txt.slice x none (some (k : Int))) = (tl x).take k := by
  conv => lhs; rw [str_eta x]
  rw [SX.slice_to (Int.natCast_nonneg k)]; rfl
theorem tl_sfrom (x : Str) (k : Nat) : tl (Txt.slice x (some (k : Int)) none) = (tl x).drop k := by
  conv => lhs; rw [str_eta x]
  rw [SX.slice_from (Int.natCast_nonneg k)]; rfl
theorem cut_to {α : Type} (xs : List α) (k : Nat) : Pd.cutD xs none (some (k : Int)) = xs.take k := by
  unfold Pd.cutD
  rw [HT.sIx_nat, HT.sIx_none, List.drop_zero, Nat.sub_zero]
  rcases Nat.le_total k xs.length with h | h
  · rw [Nat.min_eq_left h]
  · rw [Nat.min_eq_right h, List.take_length, List.take_of_length_le h]
theorem cut_from {α : Type} (xs : List α) (k : Nat) : Pd.cutD xs (some (k : Int)) none = xs.drop k := by
  unfold Pd.cutD
  rw [HT.sIx_nat, HT.sIx_none]
  rcases Nat.le_total k xs.length with h | h
  · rw [Nat.min_eq_left h, ← List.length_drop, List.take_length]
  · rw [Nat.min_eq_right h, Nat.sub_self, List.take_zero, List.drop_of_length_le h]
/-! ### words as numbers -/
def digB (w : Str) : Bool := (tl w).all fun k => decide (48 ≤ k) && decide (k ≤ 57)
def wnum (w : Str) : Option Int := if w = Str.ofString "" then none else if 9 < w.length then none else if digB w then (match intText? w with | some i => if numS i = w then some i else none | none => none) else none
theorem digB_ok {w : Str} (h : digB w = true) : AllDigits (tl w) := fun c hc => by
  have := List.all_eq_true.mp h c hc
  simpa using this
theorem dv_lt : ∀ (n : Nat) (l : List Nat), l.length = n → AllDigits l → digitsVal l < 10 ^ n
  | 0, [], _, _ => by decide
  | n + 1, l, hl, h => by
    have hne : l ≠ [] := by intro z; rw [z] at hl; simp at hl
    have e : l = l.dropLast ++ [l.getLast hne] := (List.dropLast_concat_getLast hne).symm
    have h1 := dv_lt n l.dropLast (by rw [List.length_dropLast]; omega) fun c hc => h c (List.dropLast_subset _ hc)
    have h2 := h _ (List.getLast_mem hne)
    rw [e, digitsVal_snoc, Nat.pow_succ]
    omega
theorem int_digits {w : Str} (h : digB w = true) (h1 : w ≠ Str.ofString "") (h2 : ¬ 9 < w.length) : ∃ i, intText? w = some i ∧ 0 ≤ i ∧ i < 1000000000 := by
  have hd := digB_ok h
  have hne : tl w ≠ [] := by
    intro z
    exact h1 (ext_tl (z.trans (by rw [tl_ofString]; rfl)))
  refine ⟨_, intText_digits hd hne (by omega), Int.natCast_nonneg _, ?_⟩
  have := dv_lt (tl w).length (tl w) rfl hd
  have h3 : (tl w).length ≤ 9 := by rw [← len_tl]; omega
  have h4 : 10 ^ (tl w).length ≤ 10 ^ 9 := Nat.pow_le_pow_right (by decide) h3
  have h5 : digitsVal w.cps.toList < 10 ^ 9 := Nat.lt_of_lt_of_le this h4
  have : (10 : Nat) ^ 9 = 1000000000 := by decide
  omega
theorem wnum_ok {w : Str} {i : Int} (h : wnum w = some i) : 0 ≤ i ∧ i < 1000000000 ∧ numS i = w := by
  unfold wnum at h
  split at h
  · cases h
  · rename_i h1
    split at h
    · cases h
    · rename_i h2
      split at h
      · rename_i h3
        obtain ⟨j, e, j0, j1⟩ := int_digits h3 h1 h2
        rw [e] at h
        simp only at h
        split at h
        · rename_i h4
          cases h
          exact ⟨j0, j1, h4⟩
        · cases h
      · cases h
theorem wnum_num {i : Int} (h : 0 ≤ i) (h2 : i < 1000000000) : wnum (numS i) = some i := by
  have hl := numS_len h h2
  have hd : digB (numS i) = true := by
    unfold digB
    rw [tl_numS h, List.all_eq_true]
    intro k hk
    have := numL_digits _ k hk
    simpa using this
  unfold wnum
  rw [if_neg (numS_ne h h2), if_neg (by omega), if_pos hd, intText_num h h2]
  simp
theorem bools?_bl : ∀ bs : List Bool, bools? (bs.map D.bl) = some bs
  | [] => rfl
  | b :: bs => by simp only [List.map_cons, bools?, bools?_bl bs]
theorem digs_mem (k : Nat) : inStr ⟨#[k]⟩ (Str.ofString "0123456789") = (decide (48 ≤ k) && decide (k ≤ 57)) := by
  rw [inStr_one, tl_digits]
  by_cases h : 48 ≤ k ∧ k ≤ 57
  · have : k = 48 ∨ k = 49 ∨ k = 50 ∨ k = 51 ∨ k = 52 ∨ k = 53 ∨ k = 54 ∨ k = 55 ∨ k = 56 ∨ k = 57 := by omega
    rw [decide_eq_true h.1, decide_eq_true h.2, decide_eq_true (by simpa using this)]; rfl
  · have : ¬ (k = 48 ∨ k = 49 ∨ k = 50 ∨ k = 51 ∨ k = 52 ∨ k = 53 ∨ k = 54 ∨ k = 55 ∨ k = 56 ∨ k = 57) := by omega
    rw [decide_eq_false (by simpa using this)]
    by_cases h1 : 48 ≤ k
    · rw [decide_eq_true h1, decide_eq_false (by omega)]; rfl
    · rw [decide_eq_false h1]; rfl
theorem signs_tl (x : Str) : Pd.signs x = (tl x).map fun k => D.str ⟨#[k]⟩ := rfl
theorem asc_sign {x : Str} (h : Asc x) {k : Nat} (hk : k ∈ tl x) : Asc ⟨#[k]⟩ := fun c hc => by
  have : c = k := by
    have : c ∈ [k] := hc
    simpa using this
  rw [this]; exact h k hk
end Ma
set_option Elab.async false
set_option linter.all false
set_option maxRecDepth 100000
set_option maxHeartbeats 0
/-! Ma9: comprehensions of two clauses; lists that grow: all tuples, all rows together. -/
namespace Ma
open PySem PySem.Spec PyProof.Rows L2 Pd
theorem compD2_map {α : Type} {g : FG} {ft : FT} {fi1 : FA} {g1 : FG} {ft1 : FT} {fe : FE} {vs1 : List Nat} {h : α → D} {r : α → List D} {env : En} {c : Cs} : ∀ {xs : List α},
    (∀ x ∈ xs, ∃ env1 ds1, g (h x) env = some env1 ∧ ft env1 c = some (true, c) ∧ fi1 env1 c = some (ds1, c) ∧ compD g1 ft1 fe ds1 (wipeD env1 vs1) c = some (r x, c)) → compD2 g ft fi1 g1 ft1 fe vs1 (xs.map h) env c = some (xs.flatMap r, c)
  | [], _ => rfl
  | x :: xs, H => by
    obtain ⟨env1, ds1, e1, e2, e3, e4⟩ := H x (List.mem_cons_self ..)
    simp only [List.map_cons, compD2, e1, e2, e3, e4, compD2_map fun z hz => H z (List.mem_cons_of_mem _ hz), List.flatMap_cons]
theorem comp2_of {fi : FA} {gg : FG} {ft : FT} {fi1 : FA} {g1 : FG} {ft1 : FT} {f : FE} {vs vs1 : List Nat} {env : En} {c c1 c2 : Cs} {ds ys : List D} (h1 : fi env c = some (ds, c1)) (h2 : compD2 gg ft fi1 g1 ft1 f vs1 ds (wipeD env vs) c1 = some (ys, c2)) (h3 : ys.length ≤ lim) : fComp2 fi gg ft fi1 g1 ft1 f vs vs1 env c = some (.lst ys, c2) := by simp only [fComp2, h1, h2, h3, if_true]
/-- lists of items, ever longer -/
def grow {α : Type} (items : List α) : Nat → List (List α)
  | 0 => [[]]
  | k + 1 => (grow items k).flatMap fun one => items.map fun x => one ++ [x]
theorem grow_len {α : Type} (items : List α) : ∀ k, (grow items k).length = items.length ^ k
  | 0 => rfl
  | k + 1 => by
    rw [grow, List.length_flatMap, show ((fun one => (items.map fun x => one ++ [x]).length) : List α → Nat) = fun _ => items.length from funext fun _ => by simp]
    rw [List.map_const', List.sum_replicate_nat, grow_len items k, Nat.pow_succ]
theorem grow_mem {α : Type} (items : List α) : ∀ k l, l ∈ grow items k ↔ l.length = k ∧ ∀ x ∈ l, x ∈ items
  | 0, l => by
    simp only [grow, List.mem_singleton]
    constructor
    · rintro rfl; exact ⟨rfl, fun x hx => by cases hx⟩
    · rintro ⟨h, _⟩; exact List.length_eq_zero_iff.mp h
  | k + 1, l => by
    simp only [grow, List.mem_flatMap, List.mem_map, grow_mem items k]
    constructor
    · rintro ⟨one, ⟨h1, h2⟩, x, hx, rfl⟩
      refine ⟨by simp [h1], fun y hy => ?_⟩
      rcases List.mem_append.mp hy with hy | hy
      · exact h2 y hy
      · rw [List.mem_singleton.mp hy]; exact hx
    · rintro ⟨h1, h2⟩
      have hne : l ≠ [] := fun e => by rw [e] at h1; cases h1
      refine ⟨l.dropLast, ⟨by rw [List.length_dropLast, h1]; rfl, fun x hx => h2 x (List.dropLast_subset l hx)⟩, l.getLast hne, h2 _ (List.getLast_mem hne), List.dropLast_concat_getLast hne⟩
section
variable {α : Type} (h : α → D) (items : List α)
def tupH (l : List α) : D := .tup (l.map h)
def lstH (l : List α) : D := .lst (l.map h)
def gLT (L : List (List α)) : D := .lst (L.map (tupH h))
def gLL (L : List (List α)) : D := .lst (L.map (lstH h))
def gE (x0 x1 f : D) (t o i : Option Sl) : En := [some (.f x0), some (.f x1), some (.f f), t, o, i]
abbrev gB (FI : FA) : FS := fSet 2 (fComp2 (fIt (fVar 2)) (gSet 4) fYes FI (gSet 5) fYes (fOp oAdd (fVarQ 4) (fTup (aCons (fVar 5) aNil))) [4, 5] [5])
theorem one_add (l : List α) (x : α) (hl : l.length < 1000) (c : Cs) : oAdd (tupH h l) (.tup [h x]) c = some (tupH h (l ++ [x]), c) := by
  unfold oAdd tupH
  simp only [List.length_map, List.length_cons, List.length_nil, show l.length + (0 + 1) ≤ lim from lim_le (by omega), if_true, List.map_append, List.map_cons, List.map_nil]
theorem g_turn {x0 x1 : D} {FI : FA} {c : Cs} {k : Nat} (hFI : ∀ f t o i, FI (gE x0 x1 f t o i) c = some (items.map h, c)) (hk : k < 1000) (hlen : items.length ^ (k + 1) ≤ 100000) (t o i : Option Sl) :
    gB FI (gE x0 x1 (gLT h (grow items k)) t o i) c = some (.nx, gE x0 x1 (gLT h (grow items (k + 1))) t o i, c) := by
  have hl1 : (1 : Nat) ≤ lim := by decide
  refine set_of (comp2_of (ds := (grow items k).map (tupH h)) (c1 := c) (it_lst rfl) (compD2_map (r := fun one => (items.map fun x => one ++ [x]).map (tupH h)) fun l hl => ?_) ?_) |>.trans ?_
  · refine ⟨gE x0 x1 (gLT h (grow items k)) t (some (.f (tupH h l))) none, items.map h, rfl, rfl, hFI _ _ _ _, ?_⟩
    rw [List.map_map]
    refine compD_map fun x hx => ?_
    refine ⟨gE x0 x1 (gLT h (grow items k)) t (some (.f (tupH h l))) (some (.f (h x))), rfl, rfl, ?_⟩
    refine (op_of (x := tupH h l) (y := .tup [h x]) (c1 := c) (c2 := c) rfl (tup_of (aC rfl aN) hl1)).trans ?_
    exact one_add h l x (by rw [((grow_mem items k l).mp hl).1]; exact hk) c
  · rw [show ((grow items k).flatMap fun one => (items.map fun x => one ++ [x]).map (tupH h)).length = items.length ^ (k + 1) from ?_]
    · exact Nat.le_trans hlen (by decide)
    · rw [← List.map_flatMap, List.length_map]; exact grow_len items (k + 1)
  · have : ((grow items k).flatMap fun one => (items.map fun x => one ++ [x]).map (tupH h)) = (grow items (k + 1)).map (tupH h) := by rw [grow, List.map_flatMap]
    rw [this]; rfl
theorem g_loop {x0 x1 : D} {FI : FA} {c : Cs} (hFI : ∀ f t o i, FI (gE x0 x1 f t o i) c = some (items.map h, c)) : ∀ (n k : Nat) (j : Int) (t o i : Option Sl), k + n ≤ 1000 → (∀ m, m ≤ k + n → items.length ^ m ≤ 100000) →
    ∃ t' o' i', forD (gSet 3) (gB FI) (rangeD j n) (gE x0 x1 (gLT h (grow items k)) t o i) c = some (.nx, gE x0 x1 (gLT h (grow items (k + n))) t' o' i', c)
  | 0, k, j, t, o, i, _, _ => ⟨t, o, i, rfl⟩
  | n + 1, k, j, t, o, i, hk, hl => by
    obtain ⟨t', o', i', e⟩ := g_loop hFI n (k + 1) (j + 1) (some (.f (.int j))) o i (by omega) (fun m hm => hl m (by omega))
    refine ⟨t', o', i', ?_⟩
    rw [rangeD_succ, forD_step (env1 := gE x0 x1 (gLT h (grow items k)) (some (.f (.int j))) o i) rfl (g_turn h items hFI (by omega) (hl (k + 1) (by omega)) _ _ _), e, Nat.add_right_comm]
    rfl
abbrev gF (FI : FA) : FS := fSeq (fSet 2 (fLst (aCons (fTup aNil) aNil))) (fSeq (fFor (fRg1 (aCons (fVarQ 1) aNil)) (gSet 3) (gB FI)) (fRet (fVar 2)))
/-- found = [()]; for turn in range(n): found = [one + (x,) for one in found for x in items] -/
theorem g_all {N : List Str} (hN : N.length = 6) {x0 : D} {n : Nat} {FI : FA} {c : Cs} (hn : n ≤ 1000) (hFI : ∀ f t o i, FI (gE x0 (.int n) f t o i) c = some (items.map h, c)) (hl : ∀ m, m ≤ n → items.length ^ m ≤ 100000) :
    mOf N 2 (gF FI) [x0, .int n] c = some (gLT h (grow items n), c) := by
  obtain ⟨t', o', i', e⟩ := g_loop h items hFI n 0 0 none none none (by omega) (by simpa using hl)
  rw [Nat.zero_add] at e
  have hs : startD N [x0, .int n] = [some (.f x0), some (.f (.int n)), none, none, none, none] := by unfold startD; rw [hN]; rfl
  refine mOf_rt (env1 := gE x0 (.int n) (gLT h (grow items n)) t' o' i') rfl ?_
  rw [hs]
  refine (fSeq_nx (env1 := gE x0 (.int n) (gLT h (grow items 0)) none none none) (c1 := c) (set_of (lst_of (aC (tup_of aN (by decide)) aN) (by decide)))).trans ?_
  refine (fSeq_nx ((fFor_of (fRg1_of (aC rfl aN) (by rw [small62_of] <;> omega) (Int.toNat_natCast n))).trans e)).trans ?_
  exact fRet_of rfl
/-! longer = []; for one in found: longer = longer + [one + .. for x in items] -/
def lE (x0 x1 f : D) (t : Option Sl) (l : Option Sl) (o i : Option Sl) : En := [some (.f x0), some (.f x1), some (.f f), t, l, o, i]
abbrev lB (FI : FA) (W : FE) : FS := fSet 4 (fOp oAdd (fVarQ 4) (fComp FI (gSet 6) fYes (fOp oAdd (fVarQ 5) W) [6]))
variable (mk : List α → D)
def gM (L : List (List α)) : D := .lst (L.map mk)
theorem l_one {x0 x1 f : D} {FI : FA} {W : FE} {c : Cs} (hFI : ∀ t l o i, FI (lE x0 x1 f t l o i) c = some (items.map h, c)) {l : List α}
    (hW : ∀ (t lo : Option Sl) (x : α), x ∈ items → fOp oAdd (fVarQ 5) W (lE x0 x1 f t lo (some (.f (mk l))) (some (.f (h x)))) c = some (mk (l ++ [x]), c)) (acc : List (List α)) (hi : items.length ≤ 1000) (hl : acc.length + items.length ≤ 100000) (t i : Option Sl) :
    lB FI W (lE x0 x1 f t (some (.f (gM mk acc))) (some (.f (mk l))) i) c = some (.nx, lE x0 x1 f t (some (.f (gM mk (acc ++ items.map fun x => l ++ [x])))) (some (.f (mk l))) i, c) := by
  refine set_of ((op_of (x := gM mk acc) (y := gM mk (items.map fun x => l ++ [x])) (c1 := c) (c2 := c) rfl ((comp_of (c1 := c) (hFI _ _ _ _) (compD_map (r := fun x => mk (l ++ [x])) fun x hx => ⟨lE x0 x1 f t (some (.f (gM mk acc))) (some (.f (mk l))) (some (.f (h x))), rfl, rfl, hW _ _ x hx⟩) (by rw [List.length_map]; exact lim_le hi)).trans ?_)).trans ?_)
  · show some (D.lst _, c) = some (D.lst _, c)
    rw [List.map_map]; rfl
  · show oAdd (.lst (acc.map mk)) (.lst ((items.map fun x => l ++ [x]).map mk)) c = some (.lst ((acc ++ items.map fun x => l ++ [x]).map mk), c)
    unfold oAdd
    simp only [List.length_map, show acc.length + items.length ≤ lim from Nat.le_trans hl (by decide), if_true, List.map_append]
theorem l_inner {x0 x1 f : D} {FI : FA} {W : FE} {c : Cs} (hFI : ∀ t l o i, FI (lE x0 x1 f t l o i) c = some (items.map h, c)) (hi : items.length ≤ 1000) (t i : Option Sl) : ∀ (L acc : List (List α)) (o : Option Sl),
    (∀ l ∈ L, ∀ (t lo : Option Sl) (x : α), x ∈ items → fOp oAdd (fVarQ 5) W (lE x0 x1 f t lo (some (.f (mk l))) (some (.f (h x)))) c = some (mk (l ++ [x]), c)) → acc.length + L.length * items.length ≤ 100000 →
    ∃ o', forD (gSet 5) (lB FI W) (L.map mk) (lE x0 x1 f t (some (.f (gM mk acc))) o i) c = some (.nx, lE x0 x1 f t (some (.f (gM mk (acc ++ L.flatMap fun l => items.map fun x => l ++ [x])))) o' i, c)
  | [], acc, o, _, _ => ⟨o, by simp only [List.map_nil, forD, List.flatMap_nil, List.append_nil]⟩
  | l :: L, acc, o, hW, hl => by
    rw [List.length_cons, Nat.succ_mul] at hl
    obtain ⟨o', e⟩ := l_inner hFI hi t i L (acc ++ items.map fun x => l ++ [x]) (some (.f (mk l))) (fun l' h' => hW l' (List.mem_cons_of_mem _ h')) (by rw [List.length_append, List.length_map]; omega)
    refine ⟨o', ?_⟩
    rw [List.map_cons, forD_step (env1 := lE x0 x1 f t (some (.f (gM mk acc))) (some (.f (mk l))) i) rfl (l_one h items mk hFI (hW l (List.mem_cons_self ..)) acc hi (by omega) t i), e, List.flatMap_cons, List.append_assoc]
abbrev lT (FI : FA) (W : FE) : FS := fSeq (fSet 4 (fLst aNil)) (fSeq (fFor (fIt (fVar 2)) (gSet 5) (lB FI W)) (fSet 2 (fVar 4)))
theorem l_turn {x0 x1 : D} {FI : FA} {W : FE} {c : Cs} {k : Nat} (hFI : ∀ f t l o i, FI (lE x0 x1 f t l o i) c = some (items.map h, c)) (hi : items.length ≤ 1000) (hlen : items.length ^ (k + 1) ≤ 100000)
    (hW : ∀ l ∈ grow items k, ∀ (f : D) (t lo : Option Sl) (x : α), x ∈ items → fOp oAdd (fVarQ 5) W (lE x0 x1 f t lo (some (.f (mk l))) (some (.f (h x)))) c = some (mk (l ++ [x]), c)) (t l o i : Option Sl) :
    ∃ l' o', lT FI W (lE x0 x1 (gM mk (grow items k)) t l o i) c = some (.nx, lE x0 x1 (gM mk (grow items (k + 1))) t l' o' i, c) := by
  obtain ⟨o', e⟩ := l_inner h items mk (hFI (gM mk (grow items k))) hi t i (grow items k) [] o (fun l hl => hW l hl _) (by rw [List.length_nil, grow_len, Nat.zero_add]; exact hlen)
  rw [List.nil_append] at e
  refine ⟨some (.f (gM mk (grow items (k + 1)))), o', ?_⟩
  refine (fSeq_nx (env1 := lE x0 x1 (gM mk (grow items k)) t (some (.f (gM mk []))) o i) (c1 := c) (set_of (lst_of aN (by decide)))).trans ?_
  refine (fSeq_nx ((fFor_of (it_lst rfl)).trans e)).trans ?_
  exact set_of rfl
theorem l_loop {x0 x1 : D} {FI : FA} {W : FE} {c : Cs} (hFI : ∀ f t l o i, FI (lE x0 x1 f t l o i) c = some (items.map h, c)) (hi : items.length ≤ 1000) : ∀ (n k : Nat) (j : Int) (t l o i : Option Sl), (∀ m, m ≤ k + n → items.length ^ m ≤ 100000) →
    (∀ l : List α, l.length ≤ k + n → ∀ (f : D) (t lo : Option Sl) (x : α), x ∈ items → fOp oAdd (fVarQ 5) W (lE x0 x1 f t lo (some (.f (mk l))) (some (.f (h x)))) c = some (mk (l ++ [x]), c)) →
    ∃ t' l' o', forD (gSet 3) (lT FI W) (rangeD j n) (lE x0 x1 (gM mk (grow items k)) t l o i) c = some (.nx, lE x0 x1 (gM mk (grow items (k + n))) t' l' o' i, c)
  | 0, k, j, t, l, o, i, _, _ => ⟨t, l, o, rfl⟩
  | n + 1, k, j, t, l, o, i, hl, hW => by
    obtain ⟨l1, o1, e1⟩ := l_turn h items mk (k := k) hFI hi (hl (k + 1) (by omega)) (fun l hl' => hW l (by rw [((grow_mem items k l).mp hl').1]; omega)) (some (.f (.int j))) l o i
    obtain ⟨t', l', o', e⟩ := l_loop hFI hi n (k + 1) (j + 1) (some (.f (.int j))) l1 o1 i (fun m hm => hl m (by omega)) (fun l hl' => hW l (by omega))
    refine ⟨t', l', o', ?_⟩
    rw [rangeD_succ, forD_step (env1 := lE x0 x1 (gM mk (grow items k)) (some (.f (.int j))) l o i) rfl e1, e, Nat.add_right_comm]
    rfl
abbrev lF (Z : FE) (FI : FA) (W : FE) : FS := fSeq (fSet 2 (fLst (aCons Z aNil))) (fSeq (fFor (fRg1 (aCons (fVarQ 1) aNil)) (gSet 3) (lT FI W)) (fRet (fVar 2)))
theorem l_all {N : List Str} (hN : N.length = 7) {x0 : D} {n : Nat} {Z : FE} {FI : FA} {W : FE} {c : Cs} (hZ : ∀ env, Z env c = some (mk [], c)) (hn : n ≤ 1000) (hi : items.length ≤ 1000) (hFI : ∀ f t l o i, FI (lE x0 (.int n) f t l o i) c = some (items.map h, c)) (hl : ∀ m, m ≤ n → items.length ^ m ≤ 100000)
    (hW : ∀ l : List α, l.length ≤ n → ∀ (f : D) (t lo : Option Sl) (x : α), x ∈ items → fOp oAdd (fVarQ 5) W (lE x0 (.int n) f t lo (some (.f (mk l))) (some (.f (h x)))) c = some (mk (l ++ [x]), c)) :
    mOf N 2 (lF Z FI W) [x0, .int n] c = some (gM mk (grow items n), c) := by
  obtain ⟨t', l', o', e⟩ := l_loop h items mk hFI hi n 0 0 none none none none (by simpa using hl) (by simpa using hW)
  rw [Nat.zero_add] at e
  have hs : startD N [x0, .int n] = [some (.f x0), some (.f (.int n)), none, none, none, none, none] := by unfold startD; rw [hN]; rfl
  refine mOf_rt (env1 := lE x0 (.int n) (gM mk (grow items n)) t' l' o' none) rfl ?_
  rw [hs]
  refine (fSeq_nx (env1 := lE x0 (.int n) (gM mk (grow items 0)) none none none none) (c1 := c) (set_of (lst_of (aC (hZ _) aN) (by show 1 ≤ lim; decide)))).trans ?_
  refine (fSeq_nx ((fFor_of (fRg1_of (aC rfl aN) (by rw [small62_of] <;> omega) (Int.toNat_natCast n))).trans e)).trans ?_
  exact fRet_of rfl
theorem lone_add (l : List α) (x : α) (hl : l.length < 1000) (c : Cs) : oAdd (lstH h l) (.lst [h x]) c = some (lstH h (l ++ [x]), c) := by
  unfold oAdd lstH
  simp only [List.length_map, List.length_cons, List.length_nil, show l.length + (0 + 1) ≤ lim from lim_le (by omega), if_true, List.map_append, List.map_cons, List.map_nil]
theorem hW_tup {n : Nat} {x0 x1 : D} {c : Cs} (hn : n < 1000) : ∀ l : List α, l.length ≤ n → ∀ (f : D) (t lo : Option Sl) (x : α), x ∈ items → fOp oAdd (fVarQ 5) (fTup (aCons (fVar 6) aNil)) (lE x0 x1 f t lo (some (.f (tupH h l))) (some (.f (h x)))) c = some (tupH h (l ++ [x]), c) :=
  fun l hl f t lo x _ => (op_of (x := tupH h l) (y := .tup [h x]) (c1 := c) (c2 := c) rfl (tup_of (aC rfl aN) (by show 1 ≤ lim; decide))).trans (one_add h l x (by omega) c)
theorem hW_lst {n : Nat} {x0 x1 : D} {c : Cs} (hn : n < 1000) : ∀ l : List α, l.length ≤ n → ∀ (f : D) (t lo : Option Sl) (x : α), x ∈ items → fOp oAdd (fVarQ 5) (fLst (aCons (fVar 6) aNil)) (lE x0 x1 f t lo (some (.f (lstH h l))) (some (.f (h x)))) c = some (lstH h (l ++ [x]), c) :=
  fun l hl f t lo x _ => (op_of (x := lstH h l) (y := .lst [h x]) (c1 := c) (c2 := c) rfl (lst_of (aC rfl aN) (by show 1 ≤ lim; decide))).trans (lone_add h l x (by omega) c)
end
end Ma
set_option Elab.async false
set_option linter.all false
set_option maxRecDepth 100000
set_option maxHeartbeats 0
/-! Mb0: loops that look for one; sorted lists that do not lean on the cells. -/
namespace Ma
open PySem PySem.Spec PyProof.Rows L2 Pd
/-- a loop that ends with d at the first item that p tells -/
theorem forD_any {α : Type} {g : FG} {fb : FS} {h : α → D} {d : D} {c : Cs} (I : En → Prop) {p : α → Bool} : ∀ (xs : List α) (env : En), I env →
    (∀ x ∈ xs, ∀ env, I env → ∃ env1 env2, g (h x) env = some env1 ∧ fb env1 c = some (if p x then .rt d else .nx, env2, c) ∧ I env2) → ∃ env', forD g fb (xs.map h) env c = some (if xs.any p then .rt d else .nx, env', c) ∧ I env'
  | [], env, hi, _ => ⟨env, rfl, hi⟩
  | x :: xs, env, hi, H => by
    obtain ⟨env1, env2, e1, e2, hi2⟩ := H x (List.mem_cons_self ..) env hi
    cases hp : p x with
    | true =>
      rw [hp, if_pos rfl] at e2
      exact ⟨env2, by rw [List.map_cons, forD_rt e1 e2, List.any_cons, hp, Bool.true_or, if_pos rfl], hi2⟩
    | false =>
      rw [hp, if_neg Bool.false_ne_true] at e2
      obtain ⟨env', e3, hi3⟩ := forD_any I xs env2 hi2 fun y hy => H y (List.mem_cons_of_mem _ hy)
      exact ⟨env', by rw [List.map_cons, forD_step e1 e2, e3, List.any_cons, hp, Bool.false_or], hi3⟩
def leB (a b : List Int) : Bool := decide (a ≤ b)
theorem zip_tupI : ∀ rs : List (List Int), (rs.map tupI).zip (rs.map fun r => (.tuple (r.map .int) : PyData)) = rs.map fun r => (tupI r, (.tuple (r.map .int) : PyData))
  | [] => rfl
  | x :: r => by simp only [List.map_cons, List.zip_cons_cons, zip_tupI r]
/-- sorted(..) of a list of tuples of whole numbers -/
theorem sort_tups {rs : List (List Int)} (hn : ∀ r ∈ rs, r ≠ []) (hl : rs.length ≤ lim) (c : Cs) : bSortA [.lst (rs.map tupI)] c = some (.lst ((rs.mergeSort leB).map tupI), c) := by
  have e1 : pdns deep (rs.map tupI) = some (rs.map fun r => .tuple (r.map .int)) := pdns_tupI 59 rs
  have e2 : alikeB (rs.map fun r => (.tuple (r.map .int) : PyData)) = true := by
    unfold alikeB
    rw [List.all_eq_true]; intro d hd
    rw [List.all_eq_true]; intro e he
    obtain ⟨r, _, rfl⟩ := List.mem_map.mp hd
    obtain ⟨s, _, rfl⟩ := List.mem_map.mp he
    simp [PySem.W.alike, alike_ints]
  have e3 : sortB (rs.map fun r => (.tuple (r.map .int) : PyData)) = true := by
    unfold sortB
    rw [Bool.or_eq_true_iff]; left
    rw [List.all_eq_true]; intro d hd
    obtain ⟨r, hr, rfl⟩ := List.mem_map.mp hd
    cases r with
    | nil => exact absurd rfl (hn _ hr)
    | cons x r => rfl
  have e4 : sortD (rs.map tupI) (rs.map fun r => (.tuple (r.map .int) : PyData)) = (rs.mergeSort leB).map tupI := by
    unfold sortD
    rw [zip_tupI, ← List.map_mergeSort (r := leB), List.map_map]
    · rfl
    · intro a _ b _
      have := congrFun (congrFun (dataLe_tups (fun r : List Int => r)) a) b
      have t : PySem.W.dataLe false (·.2) (tupI a, (.tuple (a.map .int) : PyData)) (tupI b, (.tuple (b.map .int) : PyData)) = PySem.W.dataLe false (fun b : List Int => (.tuple (b.map .int) : PyData)) a b := rfl
      rw [t, this]; rfl
  simp only [bSortA, bSorted, deref, e1, e2, e3, e4, List.length_map, hl, decide_true, Bool.and_self, if_true]
theorem last_sorted {rs : List (List Int)} {m : List Int} (hm : m ∈ rs) (hx : ∀ x ∈ rs, x ≤ m) : ∃ zs, rs.mergeSort leB = zs ++ [m] := by
  have tr : ∀ a b c : List Int, leB a b = true → leB b c = true → leB a c = true := fun a b c h1 h2 => decide_eq_true (List.le_trans (of_decide_eq_true h1) (of_decide_eq_true h2))
  have tot : ∀ a b : List Int, (leB a b || leB b a) = true := fun a b => by
    rcases List.le_total a b with h | h
    · rw [show leB a b = true from decide_eq_true h, Bool.true_or]
    · rw [show leB b a = true from decide_eq_true h, Bool.or_true]
  have hp := List.mergeSort_perm rs leB
  have hs := List.pairwise_mergeSort tr tot rs
  have hne : rs.mergeSort leB ≠ [] := fun e => by
    have := hp.mem_iff.mpr hm
    rw [e] at this; cases this
  refine ⟨(rs.mergeSort leB).dropLast, ?_⟩
  have e := (List.dropLast_concat_getLast hne).symm
  have hl : (rs.mergeSort leB).getLast hne ∈ rs := hp.mem_iff.mp (List.getLast_mem hne)
  have h1 : (rs.mergeSort leB).getLast hne ≤ m := hx _ hl
  have h2 : m ≤ (rs.mergeSort leB).getLast hne := by
    have hm2 : m ∈ rs.mergeSort leB := hp.mem_iff.mpr hm
    rw [e] at hm2 hs
    rcases List.mem_append.mp hm2 with h | h
    · exact of_decide_eq_true ((List.pairwise_append.mp hs).2.2 m h _ (List.mem_singleton.mpr rfl))
    · rw [List.mem_singleton.mp h]; exact List.le_refl _
  rw [List.le_antisymm h1 h2] at e
  exact e
theorem mdT_of {fo : FE} {fa : FA} {g : FC} {env : En} {c c1 c2 : Cs} {xs es : List D} (h1 : fo env c = some (.tup xs, c1)) (h2 : 3 ≤ xs.length) (h3 : fa env c1 = some (es, c2)) : fMdT g fo fa env c = g (.tup xs :: es) c2 := by simp only [fMdT, h1, h2, h3, if_true]
theorem countT_of (ns : List Int) (k : Int) (c : Cs) : mCountT [tupI ns, .int k] c = some (.int (ns.count k : Nat), c) := by
  simp only [mCountT, tupI, ints?_of]
end Ma
set_option Elab.async false
set_option linter.all false
set_option maxRecDepth 100000
set_option maxHeartbeats 0
namespace M39
open PySem PySem.Spec PyProof.Rows L2 Pd L39 Ma
theorem sm1 : sm64 6364136223846793005 = true := by decide +kernel
theorem sm2 : sm64 7919 = true := by decide +kernel
theorem sm3 : sm64 61 = true := by decide +kernel
theorem pw1 (c : Cs) : oPow (.int 10) (.int 18) c = some (.int (10 ^ 18), c) := by
  have h : (decide ((0 : Int) ≤ 18) && decide ((18 : Int) ≤ 1000) && sm64 10) = true := by decide +kernel
  simp only [oPow, h, if_true]; rfl
theorem mul_r {i j : Int} {c : Cs} (h : sm64 j = true) : oMul (.int i) (.int j) c = some (.int (i * j), c) := by simp only [oMul, h, Bool.or_true, if_true]
theorem mul_l {i j : Int} {c : Cs} (h : sm64 i = true) : oMul (.int i) (.int j) c = some (.int (i * j), c) := by simp only [oMul, h, Bool.true_or, if_true]
theorem mod_p {i j : Int} {c : Cs} (h : 0 < j) : oMod (.int i) (.int j) c = some (.int (i % j), c) := by simp only [oMod, h, if_true]
theorem ps1 : (0 : Int) < 2305843009213693951 := by decide
theorem s_within (v lo hi : Int) (c : Cs) : m_within [.int v, .int lo, .int hi] c = some (.bl (decide (lo ≤ v) && decide (v ≤ hi)), c) := by
  by_cases h1 : lo ≤ v <;> by_cases h2 : v ≤ hi <;>
  simp [m_within, f_within, mOf, startD, N_within, fRet, fAndV, fNotV, fIsi, isiD, kindD, deref, tc_none, isaB, fChain, fVarQ, oLe, h1, h2]
theorem s_check_width (w : Int) (h1 : 1 ≤ w) (h2 : w ≤ 3) (c : Cs) : m_check_width [.int w] c = some (.non, c) := by
  simp [m_check_width, f_check_width, mOf, startD, N_check_width, fIte, fNot, asB, fCall, aCons, aNil, fVar, fC, s_within, h1, h2, fNx, fNo]
theorem s_check_arity (w m : Int) (h1 : 1 ≤ w) (h2 : w ≤ m) (c : Cs) : m_check_arity [.int w, .int m] c = some (.non, c) := by
  simp [m_check_arity, f_check_arity, mOf, startD, N_check_arity, fIte, fNot, asB, fCall, aCons, aNil, fVar, fC, s_within, h1, h2, fNx, fNo]
theorem s_feed0 (ns : List Int) (k v n : Int) (c : Cs) (hn : lenD c (.scr ns) = some n) (h : k < n) (e : oIx (.scr ns) (.int k) c = some (.int v, c)) : ∃ dg st : Int, m__law_feed [.scr ns, .int k] c = some (.cell c.length, c ++ [.lst [.int dg, .int st]]) := by
  have h2 : 2 ≤ lim := by decide
  exact ⟨_, _, by simp only [m__law_feed, f__law_feed, mOf, startD, N__law_feed, List.map_cons, List.map_nil, List.length_cons, List.length_nil, Nat.zero_add, Nat.reduceAdd, Nat.reduceSub, List.replicate, List.cons_append, List.nil_append, List.getElem?_cons_zero, List.getElem?_cons_succ, List.set_cons_zero, List.set_cons_succ, if_true, fSeq, fSet, fIf, asB, fOp, oLt, fVarQ, fVar, fLenQ, hn, h, decide_true, e, fCall, aCons, aNil, fC, bMax, bAbs, oSub, pw1, mul_r sm1, mul_l sm2, mul_l sm3, mod_p ps1, bIntS, bInt, oAdd, fRet, fCell, fLst, h2]; exact rfl⟩
theorem s_feed1 (ns : List Int) (k n : Int) (c : Cs) (hn : lenD c (.scr ns) = some n) (h : ¬ k < n) : ∃ dg st : Int, m__law_feed [.scr ns, .int k] c = some (.cell c.length, c ++ [.lst [.int dg, .int st]]) := by
  have h2 : 2 ≤ lim := by decide
  exact ⟨_, _, by simp only [m__law_feed, f__law_feed, mOf, startD, N__law_feed, List.map_cons, List.map_nil, List.length_cons, List.length_nil, Nat.zero_add, Nat.reduceAdd, Nat.reduceSub, List.replicate, List.cons_append, List.nil_append, List.getElem?_cons_zero, List.getElem?_cons_succ, List.set_cons_zero, List.set_cons_succ, if_true, fSeq, fSet, fIf, asB, fOp, oLt, fVarQ, fVar, fLenQ, hn, h, decide_false, fCall, aCons, aNil, fC, bMax, bAbs, oSub, pw1, mul_r sm1, mul_l sm2, mul_l sm3, mod_p ps1, bIntS, bInt, oAdd, fRet, fCell, fLst, h2]; exact rfl⟩
theorem s_feed (ns : List Int) (k : Nat) (c : Cs) : ∃ dg st : Int, m__law_feed [.scr ns, .int k] c = some (.cell c.length, c ++ [.lst [.int dg, .int st]]) := by
  have hn : lenD c (.scr ns) = some (ns.length : Int) := rfl
  by_cases h : (k : Int) < (ns.length : Int)
  · have hk2 : k < ns.length := by omega
    have e : oIx (.scr ns) (.int k) c = some (.int ns[k], c) := by
      simp [oIx, ixD, deref, atIn, hk2]
    exact s_feed0 ns k _ _ c hn h e
  · exact s_feed1 ns k _ c hn h
theorem s_take (c : Cs) (k : Nat) (m : Int) (hc : Fd k c) (hm : 0 < m) (hm2 : m < 1073741824) : ∃ (r : Int) (c' : Cs), 0 ≤ r ∧ r < m ∧ m__law_take [.cell k, .int m] c = some (.int r, c') ∧ FdTo k c c' := by
  have hl := hc.lt
  obtain ⟨dg, st, e⟩ := hc
  have fd {i : Int} {c : Cs} : oFdiv (.int i) (.int m) c = some (.int (i / m), c) := by simp only [oFdiv, hm, hm2, decide_true, Bool.and_self, if_true]
  have fd2 {i : Int} {c : Cs} : oFdiv (.int i) (.int 65536) c = some (.int (i / 65536), c) := by simp only [oFdiv, show (decide ((0 : Int) < 65536) && decide ((65536 : Int) < 1073741824)) = true from by decide, if_true]
  have i0 : ixN 2 0 = some 0 := by decide
  have i1 : ixN 2 1 = some 1 := by decide
  by_cases h : 0 < dg
  · refine ⟨dg % m, c.set k (.lst [.int (dg / m), .int st]), Int.emod_nonneg _ (by omega), Int.emod_lt_of_pos _ hm, ?_, FdTo.set hl⟩
    simp only [m__law_take, f__law_take, mOf, startD, N__law_take, List.map_cons, List.map_nil, List.length_cons, List.length_nil, Nat.zero_add, Nat.reduceAdd, Nat.reduceSub, List.replicate, List.cons_append, List.nil_append, List.getElem?_cons_zero, List.getElem?_cons_succ, List.set_cons_zero, List.set_cons_succ, if_true, fSeq, fSet, fIte, asB, fOp, oGt, oIx, ixD, atI0, atI1, fVarQ, fVar, deref, e, h, decide_true, fCall, aCons, aNil, fC, mod_p hm, fd, bIntS, bInt, fStC, uSetL, i0, fRet]
  · refine ⟨(st * 6364136223846793005 + 1442695040888963407) % 2305843009213693951 / 65536 % m, c.set k (.lst [.int dg, .int ((st * 6364136223846793005 + 1442695040888963407) % 2305843009213693951)]), Int.emod_nonneg _ (by omega), Int.emod_lt_of_pos _ hm, ?_, FdTo.set hl⟩
    simp only [m__law_take, f__law_take, mOf, startD, N__law_take, List.map_cons, List.map_nil, List.length_cons, List.length_nil, Nat.zero_add, Nat.reduceAdd, Nat.reduceSub, List.replicate, List.cons_append, List.nil_append, List.getElem?_cons_zero, List.getElem?_cons_succ, List.set_cons_zero, List.set_cons_succ, if_true, fSeq, fSet, fIte, asB, fOp, oGt, oIx, ixD, atI0, atI1, fVarQ, fVar, deref, e, h, decide_false, fCall, aCons, aNil, fC, mod_p hm, mod_p ps1, mul_r sm1, oAdd, fd, fd2, bIntS, bInt, fStC, uSetL, i0, i1, fRet, fNx, List.getElem?_set_self hl]
theorem s_pick (c : Cs) (k : Nat) (xs : List D) (hc : Fd k c) (hx : xs ≠ []) (hl : xs.length ≤ 100) : ∃ (x : D) (c' : Cs), x ∈ xs ∧ m__law_pick [.cell k, .lst xs] c = some (x, c') ∧ FdTo k c c' := by
  have hp : 0 < xs.length := List.length_pos_iff.mpr hx
  obtain ⟨r, c', h0, h1, e, f⟩ := s_take c k xs.length hc (by omega) (by omega)
  obtain ⟨n, rfl⟩ := Int.eq_ofNat_of_zero_le h0
  have hn : n < xs.length := by omega
  refine ⟨xs[n], c', List.getElem_mem hn, ?_, f⟩
  simp [m__law_pick, f__law_pick, mOf, startD, N__law_pick, fRet, fOp, fVarQ, fVar, fCall, aCons, aNil, fLenQ, lenD, deref, e, oIx, ixD, atIn, hn]
theorem s_width (c : Cs) (k : Nat) (hc : Fd k c) : ∃ (w : Int) (c' : Cs), 1 ≤ w ∧ w ≤ 3 ∧ m__law_width [.cell k] c = some (.int w, c') ∧ FdTo k c c' := by
  obtain ⟨x, c', hx, e, f⟩ := s_pick c k [.int 2, .int 2, .int 2, .int 3, .int 3, .int 1] hc (by simp) (by simp)
  have e2 : m__law_width [.cell k] c = some (x, c') := by
    simp [m__law_width, f__law_width, mOf, startD, N__law_width, fRet, fCall, aCons, aNil, fVar, fC, fLst, lim, e]
  simp only [List.mem_cons, List.not_mem_nil, or_false] at hx
  rcases hx with rfl | rfl | rfl | rfl | rfl | rfl <;> exact ⟨_, c', by decide, by decide, e2, f⟩
end M39
set_option Elab.async false
set_option linter.all false
set_option maxRecDepth 100000
set_option maxHeartbeats 0
namespace M39
open PySem PySem.Spec PyProof.Rows L2 Pd L39 Ma
theorem s_is_row (r : List Int) (w : Int) (a : Nat) (ha : a ≤ 10) (h : GRow w a r) (c : Cs) : m_is_row [tupI r, .int w, .int a] c = some (.bl true, c) := by
  have hl : r.length ≤ lim := lim_le (by have := h.1; omega)
  simp [m_is_row, f_is_row, mOf, startD, N_is_row, fSeq, fIte, fOr, fNot, asB, fIsi, isiD, kindD, deref, tupI, isaB, fOp, oNe_int, fLenQ, lenD, fVarQ, fVar, h.1, fNx, fRet, fCall, fComp, fIt, aCons, aNil, wipeD]
  rw [compD_map (h := D.int) (r := fun _ => D.bl true)]
  · simp [hl, bAll_true]
  · intro x hx
    exact ⟨_, rfl, rfl, by simp [fCall, aCons, aNil, fVar, fVarQ, fC, fOp, oSub, s_within, h.2 x hx]; have := h.2 x hx; omega⟩
end M39
set_option Elab.async false
set_option linter.all false
set_option maxRecDepth 100000
set_option maxHeartbeats 0
namespace M39
open PySem PySem.Spec PyProof.Rows L2 Pd L39 Ma
/-- a Table -/
def tobj (w : Int) (a : Nat) (rs : List (List Int)) : D := .obj 0 [.int w, .int a, .lst (rs.map tupI), .dic (rs.map tupI) (rs.map fun _ => .bl true)]
theorem str_new {rs pre post : List (List Int)} {x : List Int} (h : StrI rs) (e : rs = pre ++ x :: post) : x ∉ pre := by
  intro hx
  rw [e] at h
  have := (List.pairwise_append.mp h).2.2 x hx x (List.mem_cons_self ..)
  exact ltI_irrefl _ this
theorem zip_split {α : Type} {rs : List α} {i : Nat} {pre post : List (α × Nat)} {x : α × Nat} (e : rs.zipIdx i = pre ++ x :: post) : rs = pre.map (·.1) ++ x.1 :: post.map (·.1) := by
  have := congrArg (List.map (·.1)) e
  rw [List.zipIdx_map_fst, List.map_append, List.map_cons] at this
  exact this
theorem s_Table_loop (w : Int) (a : Nat) (rs : List (List Int)) (h : GT w a rs) (c : Cs) :
    ∃ x y, forD (gSeq 2 (gsCons (gSet 5) (gsCons (gSet 6) gsNil))) (fSeq (fIte (fNot (asB (fCall m_is_row (aCons (fVar 6) (aCons (fVar 1) (aCons (fVar 2) aNil)))))) fNo fNx) (fStO uSetN 4 (fC (.bl true)) (fVar 6)))
      (enumD 0 (rs.map tupI)) [some (.o (.obj 0 [])), some (.f (.int w)), some (.f (.int a)), some (.f (.lst (rs.map tupI))), some (.o (.dic [] [])), none, none] c =
      some (.nx, [some (.o (.obj 0 [])), some (.f (.int w)), some (.f (.int a)), some (.f (.lst (rs.map tupI))), some (.o (.dic (rs.map tupI) (rs.map fun _ => .bl true))), x, y], c) := by
  rw [enumD_map]
  have key := forD_st (g := gSeq 2 (gsCons (gSet 5) (gsCons (gSet 6) gsNil))) (fb := fSeq (fIte (fNot (asB (fCall m_is_row (aCons (fVar 6) (aCons (fVar 1) (aCons (fVar 2) aNil)))))) fNo fNx) (fStO uSetN 4 (fC (.bl true)) (fVar 6)))
    (h := fun p : List Int × Nat => .tup [.int (p.2 : Nat), tupI p.1])
    (fun pre env c1 => ∃ x y, env = [some (.o (.obj 0 [])), some (.f (.int w)), some (.f (.int a)), some (.f (.lst (rs.map tupI))), some (.o (.dic ((pre.map (·.1)).map tupI) (pre.map fun _ => .bl true))), x, y] ∧ c1 = c)
    (xs := rs.zipIdx 0) (env := [some (.o (.obj 0 [])), some (.f (.int w)), some (.f (.int a)), some (.f (.lst (rs.map tupI))), some (.o (.dic [] [])), none, none]) (c := c) ⟨_, _, rfl, rfl⟩
  have fin := key (by
      intro pre x post e env c1 ⟨u, v, he, hc⟩
      subst he hc
      have hsp := zip_split e
      have hr : x.1 ∈ rs := by rw [hsp]; simp
      have hnew : x.1 ∉ pre.map (·.1) := str_new h.str hsp
      have hlen : (pre.map (·.1)).length < lim := by
        have h1 := congrArg List.length hsp
        simp at h1
        have := h.len
        exact Nat.lt_of_lt_of_le (show _ < 100 by simp; omega) (by decide)
      refine ⟨_, [some (.o (.obj 0 [])), some (.f (.int w)), some (.f (.int a)), some (.f (.lst (rs.map tupI))), some (.o (.dic (((pre ++ [x]).map (·.1)).map tupI) ((pre ++ [x]).map fun _ => .bl true))), some (.f (.int x.2)), some (.f (tupI x.1))], c1, rfl, ?_, ⟨_, _, rfl, rfl⟩⟩
      have hset := set_new (vs := pre.map fun _ => D.bl true) (v := .bl true) hnew hlen
      simp only [fSeq, fIte, fNot, asB, fCall, aCons, aNil, fVar, List.getElem?_cons_zero, List.getElem?_cons_succ, s_is_row x.1 w a (by have := h.a3; omega) (h.row _ hr), Bool.not_true, fNx, fStO, fC, hset, List.set_cons_zero, List.set_cons_succ, List.map_append, List.map_cons, List.map_nil])
  obtain ⟨env', c', e, x, y, h1, h2⟩ := fin
  rw [e]
  subst h1 h2
  refine ⟨x, y, ?_⟩
  rw [List.zipIdx_map_fst]
  have : (rs.zipIdx 0).map (fun _ => D.bl true) = rs.map fun _ => D.bl true := by
    rw [← List.zipIdx_map_fst 0 rs, List.map_map, List.zipIdx_map_fst]; rfl
  rw [this]
theorem s_Table (w : Int) (a : Nat) (rs : List (List Int)) (h1 : 1 ≤ w) (h2 : w ≤ 3) (h : GT w a rs) (c : Cs) : m_Table_init [.int w, .int a, .lst (rs.map tupI)] c = some (tobj w a rs, c) := by
  obtain ⟨x, y, e⟩ := s_Table_loop w a rs h c
  have ha := s_check_arity a 3 (by have := h.a1; omega) (by have := h.a3; omega) c
  have hs := sort_rows h.str (fun r hr => by intro z; have := (h.row r hr).1; rw [z] at this; have := h.a1; simp at *; omega) (lim_le (by have := h.len; omega)) (rs.map fun _ => .bl true) c
  simp [m_Table_init, f_Table_init, mInit, startI, startD, N_Table_init, fSeq, fDrop, fCall, aCons, aNil, fVar, fVarQ, fC, s_check_width w h1 h2, ha, fIte, fNot, asB, fIsi, isiD, kindD, deref, isaB, fNx, fSetO, fFor, fEnum, e, fFldO, List.lookup, fldPut, hs, fFz, fzE, tobj]
end M39
set_option Elab.async false
set_option linter.all false
set_option maxRecDepth 100000
set_option maxHeartbeats 0
namespace M39
open PySem PySem.Spec PyProof.Rows L2 Pd L39 Ma
def rgI (w : Nat) : List Int := (List.range w).map fun i => ((0 : Int) + (i : Nat))
theorem rgI_len (w : Nat) : (rgI w).length = w := by simp [rgI]
theorem rgI_mem {w : Nat} {x : Int} : x ∈ rgI w ↔ 0 ≤ x ∧ x < w := by
  simp only [rgI, List.mem_map, List.mem_range]
  constructor
  · rintro ⟨i, h, rfl⟩; omega
  · rintro ⟨h1, h2⟩; exact ⟨x.toNat, by omega, by omega⟩
theorem rangeD_ints (w : Nat) : rangeD 0 w = (rgI w).map D.int := by unfold rangeD rgI; rw [List.map_map]; rfl
def tups (w n : Nat) : List (List Int) := grow (rgI w) n
theorem tups_len (w n : Nat) : (tups w n).length = w ^ n := by unfold tups; rw [grow_len, rgI_len]
theorem tups_mem {w n : Nat} {r : List Int} : r ∈ tups w n ↔ GRow w n r := by
  unfold tups GRow
  rw [grow_mem]
  constructor
  · rintro ⟨h1, h2⟩; exact ⟨h1, fun x hx => rgI_mem.mp (h2 x hx)⟩
  · rintro ⟨h1, h2⟩; exact ⟨h1, fun x hx => rgI_mem.mpr (h2 x hx)⟩
theorem pow_small {w n m : Nat} (hw : w ≤ 3) (hn : n ≤ 4) (h : m ≤ n) : w ^ m ≤ 81 := by
  have h1 : w ^ m ≤ 3 ^ m := Nat.pow_le_pow_left hw m
  have h2 : (3 : Nat) ^ m ≤ 3 ^ 4 := Nat.pow_le_pow_right (by decide) (by omega)
  exact Nat.le_trans h1 h2
theorem FI_rg {w : Nat} (hw : w ≤ 3) {x1 : D} {c : Cs} {env : En} (he : env[0]? = some (some (.f (.int (w : Int))))) : fRg1 (aCons (fVarQ 0) aNil) env c = some ((rgI w).map D.int, c) := by
  rw [← rangeD_ints]
  refine fRg1_of (c1 := c) (aC (d := .int (w : Int)) (c1 := c) ?_ aN) (by rw [small62_of] <;> omega) (Int.toNat_natCast w)
  simp only [fVarQ, he]
theorem s_tuples_of (w n : Nat) (hw : w ≤ 3) (hn : n ≤ 4) (c : Cs) : m_tuples_of [.int w, .int n] c = some (.lst ((tups w n).map tupI), c) :=
  g_all D.int (rgI w) (N := N_tuples_of) rfl (x0 := .int w) (n := n) (FI := fRg1 (aCons (fVarQ 0) aNil)) (by omega) (fun _ _ _ _ => FI_rg (x1 := .int n) hw rfl) (fun m hm => by rw [rgI_len]; exact Nat.le_trans (pow_small hw hn hm) (by decide))
theorem s_lall (w n : Nat) (hw : w ≤ 3) (hn : n ≤ 4) (c : Cs) : m__law_all [.int w, .int n] c = some (.lst ((tups w n).map tupI), c) :=
  l_all D.int (rgI w) (tupH D.int) (N := N__law_all) rfl (x0 := .int w) (n := n) (Z := fTup aNil) (FI := fRg1 (aCons (fVarQ 0) aNil)) (W := fTup (aCons (fVar 6) aNil)) (fun _ => tup_of aN (by decide)) (by omega) (by rw [rgI_len]; omega) (fun _ _ _ _ _ => FI_rg (x1 := .int n) hw rfl)
    (fun m hm => by rw [rgI_len]; exact Nat.le_trans (pow_small hw hn hm) (by decide)) (hW_tup D.int (rgI w) (by omega))
/-! ### the place of a tuple -/
def idxA (w : Int) (a : Int) (r : List Int) : Int := r.foldl (fun a v => a * w + v) a
def idx (w : Int) (r : List Int) : Int := idxA w 0 r
theorem idxA_bound (w : Int) (hw : 1 ≤ w) : ∀ (r : List Int) (a m : Int), (∀ x ∈ r, 0 ≤ x ∧ x < w) → 0 ≤ a → a < m → 0 ≤ idxA w a r ∧ idxA w a r < m * w ^ r.length
  | [], a, m, _, h0, h1 => by simp [idxA]; exact ⟨h0, h1⟩
  | x :: r, a, m, hr, h0, h1 => by
    obtain ⟨h2, h3⟩ := hr x (List.mem_cons_self ..)
    have hp : 0 ≤ a * w := Int.mul_nonneg h0 (by omega)
    have hq : a * w + x < m * w := by
      have : (a + 1) * w ≤ m * w := Int.mul_le_mul_of_nonneg_right (by omega) (by omega)
      have e : (a + 1) * w = a * w + w := by rw [Int.add_mul, Int.one_mul]
      omega
    have ih := idxA_bound w hw r (a * w + x) (m * w) (fun y hy => hr y (List.mem_cons_of_mem _ hy)) (by omega) hq
    rw [List.length_cons, Int.pow_succ, Int.mul_comm (w ^ r.length) w, ← Int.mul_assoc]
    exact ih
theorem idx_bound {w n : Nat} (hw : 1 ≤ w) {r : List Int} (h : GRow w n r) : 0 ≤ idx w r ∧ (idx w r).toNat < w ^ n := by
  obtain ⟨h1, h2⟩ := idxA_bound w (by omega) r 0 1 h.2 (Int.le_refl 0) (by decide)
  rw [h.1, Int.one_mul] at h2
  refine ⟨h1, ?_⟩
  have e : ((w : Int) ^ n) = ((w ^ n : Nat) : Int) := by simp
  rw [e] at h2
  have h3 : idxA (↑w) 0 r = idx w r := rfl
  omega
theorem mul3 {i : Int} {w : Nat} (hw : w ≤ 3) (c : Cs) : oMul (.int i) (.int w) c = some (.int (i * w), c) := by
  have : sm64 (w : Int) = true := by
    rcases (show w = 0 ∨ w = 1 ∨ w = 2 ∨ w = 3 by omega) with rfl | rfl | rfl | rfl <;> decide
  exact mul_r this
theorem cell_loop (w : Nat) (hw : w ≤ 3) {i : Nat} {jx : Nat} (hij : i ≠ jx) (h0 : 0 ≠ i) (h1 : 0 ≠ jx) (c : Cs) : ∀ (r : List Int) (a : Int) (env : En), env[0]? = some (some (.f (.int (w : Int)))) → env[i]? = some (some (.f (.int a))) → jx < env.length →
    ∃ env', forD (gSet jx) (fSet i (fOp oAdd (fOp oMul (fVarQ i) (fVarQ 0)) (fVarQ jx))) (r.map D.int) env c = some (.nx, env', c) ∧ env'[i]? = some (some (.f (.int (idxA w a r)))) ∧ ∀ m, m ≠ i → m ≠ jx → env'[m]? = env[m]?
  | [], a, env, _, ha, _ => ⟨env, rfl, ha, fun _ _ _ => rfl⟩
  | x :: r, a, env, hw0, ha, hl => by
    have hi : i < env.length := (List.getElem?_eq_some_iff.mp ha).1
    have b0 : (env.set jx (some (.f (.int x))))[0]? = some (some (.f (.int (w : Int)))) := by rw [List.getElem?_set_ne (Ne.symm h1)]; exact hw0
    have bi : (env.set jx (some (.f (.int x))))[i]? = some (some (.f (.int a))) := by rw [List.getElem?_set_ne (Ne.symm hij)]; exact ha
    have bj : (env.set jx (some (.f (.int x))))[jx]? = some (some (.f (.int x))) := List.getElem?_set_self hl
    have hb : fSet i (fOp oAdd (fOp oMul (fVarQ i) (fVarQ 0)) (fVarQ jx)) (env.set jx (some (.f (.int x)))) c = some (.nx, (env.set jx (some (.f (.int x)))).set i (some (.f (.int (a * w + x)))), c) := by
      refine set_of ((op_of (x := .int (a * w)) (y := .int x) (c1 := c) (c2 := c) ((op_of (x := .int a) (y := .int (w : Int)) (c1 := c) (c2 := c) ?_ ?_).trans (mul3 hw c)) ?_).trans rfl)
      · simp only [fVarQ, bi]
      · simp only [fVarQ, b0]
      · simp only [fVarQ, bj]
    obtain ⟨env', e1, e2, e3⟩ := cell_loop w hw hij h0 h1 c r (a * w + x) ((env.set jx (some (.f (.int x)))).set i (some (.f (.int (a * w + x))))) (by rw [List.getElem?_set_ne (Ne.symm h0)]; exact b0) (List.getElem?_set_self (by simpa using hi)) (by simpa using hl)
    refine ⟨env', ?_, e2, fun m hm hm2 => ?_⟩
    · rw [List.map_cons, forD_step (env1 := env.set jx (some (.f (.int x)))) rfl hb, e1]
    · rw [e3 m hm hm2, List.getElem?_set_ne (Ne.symm hm), List.getElem?_set_ne (Ne.symm hm2)]
theorem s_cell_of (w : Nat) (hw : w ≤ 3) (r : List Int) (c : Cs) : m_cell_of [.int w, tupI r] c = some (.int (idx w r), c) := by
  obtain ⟨env', e1, e2, _⟩ := cell_loop w hw (i := 2) (jx := 3) (by decide) (by decide) (by decide) c r 0 [some (.f (.int w)), some (.f (tupI r)), some (.f (.int 0)), none] rfl rfl (by show 3 < 4; decide)
  refine mOf_rt (env1 := env') rfl ?_
  refine (fSeq_nx (env1 := [some (.f (.int w)), some (.f (tupI r)), some (.f (.int 0)), none]) (c1 := c) (set_of rfl)).trans ?_
  refine (fSeq_nx ((fFor_of (it_tup rfl)).trans e1)).trans ?_
  exact fRet_of (by simp only [fVar, e2]; rfl)
/-- what an operation of these cells gives -/
def cellV (w : Nat) (cells : List Int) (r : List Int) : Int := cells.getD (idx w r).toNat 0
def intsD (r : List Int) : D := .lst (r.map D.int)
theorem ix_cells {w n : Nat} (hw : 1 ≤ w) {cells r : List Int} (hl : cells.length = w ^ n) (h : GRow w n r) (c : Cs) : oIx (intsD cells) (.int (idx w r)) c = some (.int (cellV w cells r), c) := by
  obtain ⟨h1, h2⟩ := idx_bound hw h
  have hlt : (idx w r).toNat < cells.length := by rw [hl]; exact h2
  obtain ⟨k, hk⟩ := Int.eq_ofNat_of_zero_le h1
  rw [hk] at hlt
  have hlt : k < cells.length := by simpa using hlt
  unfold cellV
  rw [hk]
  have e : cells.getD (Int.toNat (k : Int)) 0 = cells[k] := by rw [Int.toNat_natCast, List.getD_eq_getElem?_getD, List.getElem?_eq_getElem hlt]; rfl
  rw [e]
  have e2 : ((cells.map D.int)[k]?) = some (.int cells[k]) := by rw [List.getElem?_map, List.getElem?_eq_getElem hlt]; rfl
  simp only [oIx, ixD, deref, intsD, atIn, e2]
theorem s_lcell {w n : Nat} (h1 : 1 ≤ w) (hw : w ≤ 3) {cells r : List Int} (hl : cells.length = w ^ n) (h : GRow w n r) {A : D} (hA : A = tupI r ∨ A = intsD r) (c : Cs) : m__law_cell [.int w, intsD cells, A] c = some (.int (cellV w cells r), c) := by
  obtain ⟨env', e1, e2, e3⟩ := cell_loop w hw (i := 3) (jx := 4) (by decide) (by decide) (by decide) c r 0 [some (.f (.int w)), some (.f (intsD cells)), some (.f A), some (.f (.int 0)), none] rfl rfl (by show 4 < 5; decide)
  refine mOf_rt (env1 := env') rfl ?_
  refine (fSeq_nx (env1 := [some (.f (.int w)), some (.f (intsD cells)), some (.f A), some (.f (.int 0)), none]) (c1 := c) (set_of rfl)).trans ?_
  refine (fSeq_nx ((fFor_of (ds := r.map D.int) (c1 := c) ?_).trans e1)).trans ?_
  · rcases hA with rfl | rfl
    · exact it_tup rfl
    · exact it_lst rfl
  · have e4 := e3 1 (by decide) (by decide)
    refine fRet_of ((op_of (x := intsD cells) (y := .int (idx w r)) (c1 := c) (c2 := c) ?_ ?_).trans (ix_cells h1 hl h c))
    · simp only [fVarQ, e4]; rfl
    · simp only [fVarQ, e2]; rfl
end M39
set_option Elab.async false
set_option linter.all false
set_option maxRecDepth 100000
set_option maxHeartbeats 0
namespace M39
open PySem PySem.Spec PyProof.Rows L2 Pd L39 Ma
/-! ### odd_ones -/
def cntL (r : List Int) : List (List Int) := r.map fun v => [(r.count v : Nat), v]
def bestOf (r : List Int) : Nat × Int := r.foldl (fun b v => if b.1 < r.count v ∨ (b.1 = r.count v ∧ b.2 < v) then (r.count v, v) else b) (0, -1)
def mostP (r : List Int) : Int := (bestOf r).2
def oddP (r : List Int) : Int := r.length - (bestOf r).1
def bestR (r : List Int) : List Int := [(((bestOf r).1 : Nat) : Int), (bestOf r).2]
def oddCk (r : List Int) : Bool := (cntL r).contains (bestR r) && (cntL r).all fun x => decide (x ≤ bestR r)
theorem odd_33 : (tups 3 3).all oddCk = true := by decide +kernel
theorem odd_24 : (tups 2 4).all oddCk = true := by decide +kernel
/-- widths and arities that come up -/
def WN (w n : Nat) : Prop := 1 ≤ w ∧ ((w ≤ 3 ∧ n = 3) ∨ (w ≤ 2 ∧ n = 4))
theorem odd_ck {w n : Nat} (h : WN w n) {r : List Int} (hr : r ∈ tups w n) : oddCk r = true := by
  have g := tups_mem.mp hr
  rcases h with ⟨h0, ⟨h1, rfl⟩ | ⟨h1, rfl⟩⟩
  · exact List.all_eq_true.mp odd_33 r (tups_mem.mpr ⟨g.1, fun x hx => ⟨(g.2 x hx).1, by have := (g.2 x hx).2; omega⟩⟩)
  · exact List.all_eq_true.mp odd_24 r (tups_mem.mpr ⟨g.1, fun x hx => ⟨(g.2 x hx).1, by have := (g.2 x hx).2; omega⟩⟩)
theorem s_odd_ones {w n : Nat} (h : WN w n) {r : List Int} (hr : r ∈ tups w n) (c : Cs) : m_odd_ones [tupI r] c = some (.tup [.int (oddP r), .int (mostP r)], c) := by
  have hck := odd_ck h hr
  have hl : r.length = n := (tups_mem.mp hr).1
  have h3 : 3 ≤ r.length := by rcases h with ⟨_, ⟨_, rfl⟩ | ⟨_, rfl⟩⟩ <;> omega
  have h4 : r.length ≤ 4 := by rcases h with ⟨_, ⟨_, rfl⟩ | ⟨_, rfl⟩⟩ <;> omega
  unfold oddCk at hck
  simp only [Bool.and_eq_true, List.contains_iff_mem, List.all_eq_true, decide_eq_true_eq] at hck
  obtain ⟨zs, e0⟩ := last_sorted hck.1 hck.2
  have e2 : bSortA [.lst ((cntL r).map tupI)] c = some (.lst (zs.map tupI ++ [tupI (bestR r)]), c) := by
    rw [sort_tups (fun x hx => by obtain ⟨v, _, rfl⟩ := List.mem_map.mp hx; simp) (by unfold cntL; rw [List.length_map]; exact lim_le (by omega)), e0, List.map_append]; rfl
  have hcomp : fComp (fIt (fVar 0)) (gSet 2) fYes (fTup (aCons (fMdT mCountT (fVarQ 0) (aCons (fVarQ 2) aNil)) (aCons (fVar 2) aNil))) [2] [some (.f (tupI r)), none, none] c = some (.lst ((cntL r).map tupI), c) := by
    have : (cntL r).map tupI = r.map fun v => D.tup [.int (r.count v : Nat), .int v] := by unfold cntL; rw [List.map_map]; rfl
    rw [this]
    refine comp_of (c1 := c) (it_tup rfl) (compD_map (r := fun v => D.tup [.int (r.count v : Nat), .int v]) fun v hv => ?_) (by rw [List.length_map]; exact lim_le (by omega))
    refine ⟨[some (.f (tupI r)), none, some (.f (.int v))], rfl, rfl, tup_of (aC ((mdT_of (xs := r.map D.int) (c1 := c) (c2 := c) rfl (by rw [List.length_map]; exact h3) (aC rfl aN)).trans (countT_of r v c)) (aC rfl aN)) (by show 2 ≤ lim; decide)⟩
  have hlast : oIx (.lst (zs.map tupI ++ [tupI (bestR r)])) (.int (-1)) c = some (tupI (bestR r), c) := by
    simp only [oIx, ixD, deref, Ma.atI_last]
  refine mOf_rt (env1 := [some (.f (tupI r)), some (.f (.lst (zs.map tupI ++ [tupI (bestR r)]))), none]) rfl ?_
  refine (fSeq_nx (env1 := [some (.f (tupI r)), some (.f (.lst (zs.map tupI ++ [tupI (bestR r)]))), none]) (c1 := c) (set_of ((call_of (aC hcomp aN)).trans e2))).trans ?_
  have hix : fOp oIx (fVarQ 1) (fNeg (fC (.int 1))) [some (.f (tupI r)), some (.f (.lst (zs.map tupI ++ [tupI (bestR r)]))), none] c = some (tupI (bestR r), c) := (op_of rfl rfl).trans hlast
  refine fRet_of (tup_of (aC ((op_of (x := .int r.length) (y := .int (bestOf r).1) (c1 := c) (c2 := c) (lenQ_of (x := tupI r) rfl ?_) ((op_of hix rfl).trans ?_)).trans rfl) (aC ((op_of hix rfl).trans ?_) aN)) (by show 2 ≤ lim; decide))
  · simp only [lenD, deref, tupI, List.length_map]
  · simp only [oIx, ixD, deref, tupI, bestR, List.map_cons, List.map_nil, atI0]
  · simp only [oIx, ixD, deref, tupI, bestR, List.map_cons, List.map_nil, atI1]; rfl
/-! ### agreements -/
def cntNe (r : List Int) (v : Int) : Nat := (r.filter fun x => !decide (x = v)).length
def badP (r : List Int) (x : Int) : Bool := decide (oddP r ≤ 1) && !decide (x = mostP r)
def badL (w : Nat) (r : List Int) (x : Int) : Bool := (rgI w).any fun v => decide (((cntNe r v : Nat) : Int) ≤ 1) && !decide (x = v)
def sameB (w n : Nat) : Bool := (tups w n).all fun r => (rgI w).all fun x => badP r x == badL w r x
theorem same_all : [(1, 3), (2, 3), (3, 3), (1, 4), (2, 4)].all (fun p => sameB p.1 p.2) = true := by decide +kernel
theorem same_of {w n : Nat} (h : WN w n) {r : List Int} (hr : r ∈ tups w n) {x : Int} (hx : 0 ≤ x ∧ x < w) : badP r x = badL w r x := by
  have hm : (w, n) ∈ [(1, 3), (2, 3), (3, 3), (1, 4), (2, 4)] := by
    rcases h with ⟨h0, ⟨h1, rfl⟩ | ⟨h1, rfl⟩⟩
    · rcases (show w = 1 ∨ w = 2 ∨ w = 3 by omega) with rfl | rfl | rfl <;> simp
    · rcases (show w = 1 ∨ w = 2 by omega) with rfl | rfl <;> simp
  have := List.all_eq_true.mp same_all _ hm
  exact eq_of_beq (List.all_eq_true.mp (List.all_eq_true.mp this r hr) x (rgI_mem.mpr hx))
theorem idx_all : [(1, 3), (2, 3), (3, 3), (1, 4), (2, 4)].all (fun p => decide ((tups p.1 p.2).map (idx p.1) = rgI (p.1 ^ p.2))) = true := by decide +kernel
theorem cells_tab {w n : Nat} (h : WN w n) {cells : List Int} (hl : cells.length = w ^ n) : (tups w n).map (cellV w cells) = cells := by
  have hm : (w, n) ∈ [(1, 3), (2, 3), (3, 3), (1, 4), (2, 4)] := by
    rcases h with ⟨h0, ⟨h1, rfl⟩ | ⟨h1, rfl⟩⟩
    · rcases (show w = 1 ∨ w = 2 ∨ w = 3 by omega) with rfl | rfl | rfl <;> simp
    · rcases (show w = 1 ∨ w = 2 by omega) with rfl | rfl <;> simp
  have e := of_decide_eq_true (List.all_eq_true.mp idx_all _ hm)
  have e : (tups w n).map (idx w) = rgI (w ^ n) := e
  have : (tups w n).map (cellV w cells) = ((tups w n).map (idx w)).map fun i => cells.getD i.toNat 0 := by rw [List.map_map]; rfl
  rw [this, e, ← hl]
  unfold rgI
  rw [List.map_map]
  refine List.ext_getElem (by simp) fun i h1 h2 => ?_
  simp only [List.getElem_map, List.getElem_range, Function.comp]
  rw [List.getD_eq_getElem?_getD, show ((0 : Int) + (i : Nat)).toNat = i by omega, List.getElem?_eq_getElem h2]
  rfl
end M39
set_option Elab.async false
set_option linter.all false
set_option maxRecDepth 100000
set_option maxHeartbeats 0
namespace M39
open PySem PySem.Spec PyProof.Rows L2 Pd L39 Ma
def oobj (w n : Nat) (cells : List Int) : D := .obj 3 [.int w, .int n, intsD cells]
/-- cells of an operation -/
structure Cl (w n : Nat) (cells : List Int) : Prop where
  wn : WN w n
  len : cells.length = w ^ n
  val : ∀ x ∈ cells, 0 ≤ x ∧ x < (w : Int)
theorem Cl.at {w n : Nat} {cells : List Int} (h : Cl w n cells) {r : List Int} (hr : r ∈ tups w n) : 0 ≤ cellV w cells r ∧ cellV w cells r < (w : Int) :=
  h.val _ (by
    have : cellV w cells r ∈ (tups w n).map (cellV w cells) := List.mem_map.mpr ⟨r, hr, rfl⟩
    rw [cells_tab h.wn h.len] at this; exact this)
def agr (w n : Nat) (cells : List Int) : Bool := !((tups w n).any fun r => badL w r (cellV w cells r))
theorem WN.w1 {w n : Nat} (h : WN w n) : 1 ≤ w := h.1
theorem WN.w3 {w n : Nat} (h : WN w n) : w ≤ 3 := by rcases h with ⟨_, ⟨h, _⟩ | ⟨h, _⟩⟩ <;> omega
theorem WN.n3 {w n : Nat} (h : WN w n) : 3 ≤ n := by rcases h with ⟨_, ⟨_, h⟩ | ⟨_, h⟩⟩ <;> omega
theorem WN.n4 {w n : Nat} (h : WN w n) : n ≤ 4 := by rcases h with ⟨_, ⟨_, h⟩ | ⟨_, h⟩⟩ <;> omega
theorem f_width (w n : Nat) (cells : List Int) {f : FE} {env : En} {c : Cs} (h : f env c = some (oobj w n cells, c)) : fFld [(0, 0), (1, 0), (3, 0)] f env c = some (.int w, c) := fld_of (k := 3) (n := 0) h rfl rfl rfl
theorem f_arity (w n : Nat) (cells : List Int) {f : FE} {env : En} {c : Cs} (h : f env c = some (oobj w n cells, c)) : fFld [(0, 1), (3, 1)] f env c = some (.int n, c) := fld_of (k := 3) (n := 1) h rfl rfl rfl
theorem f_held (w n : Nat) (cells : List Int) {f : FE} {env : En} {c : Cs} (h : f env c = some (oobj w n cells, c)) : fFld [(0, 2), (3, 2)] f env c = some (intsD cells, c) := fld_of (k := 3) (n := 2) h rfl rfl rfl
theorem zip_map {α : Type} (f g : α → D) : ∀ L : List α, zipD (L.map f) (L.map g) = L.map fun x => .tup [f x, g x]
  | [] => rfl
  | x :: L => by simp only [List.map_cons, zipD, zip_map f g L]
theorem zip_of {fa : FA} {env : En} {c c1 : Cs} {xs ys : List D} (h : fa env c = some ([.lst xs, .lst ys], c1)) : fZip fa env c = some (zipD xs ys, c1) := by simp only [fZip, h]
theorem le_dec (i j : Int) (c : Cs) : oLe (.int i) (.int j) c = some (.bl (decide (i ≤ j)), c) := rfl
theorem rt_if {b : Bool} {d : D} {env : En} {c : Cs} {ft : FT} (h : ft env c = some (b, c)) : fIte ft (fRet (fC d)) fNx env c = some (if b then .rt d else .nx, env, c) := by
  cases b with
  | true => exact (fIte_t h).trans (fRet_of rfl)
  | false => exact (fIte_f h).trans rfl
theorem and_dec {p q : Bool} {ft gt : FT} {env : En} {c : Cs} (h1 : ft env c = some (p, c)) (h2 : p = true → gt env c = some (q, c)) : fAnd ft gt env c = some (p && q, c) := by
  cases p with
  | true => exact (and_t h1).trans (h2 rfl)
  | false => exact and_f h1
theorem s_agreesP {w n : Nat} {cells : List Int} (h : Cl w n cells) (c : Cs) : m_Operation_agrees [oobj w n cells] c = some (.bl (agr w n cells), c) := by
  have hz : zipD ((tups w n).map tupI) (cells.map D.int) = (tups w n).map fun r => .tup [tupI r, .int (cellV w cells r)] := by
    rw [← cells_tab h.wn h.len, List.map_map, zip_map]
    rw [cells_tab h.wn h.len]; rfl
  obtain ⟨env', e, hi⟩ := forD_any (g := gSeq 2 (gsCons (gSet 1) (gsCons (gSet 2) gsNil))) (fb := fSeq (fAsg (fCall m_odd_ones (aCons (fVar 1) aNil)) (gSeq 2 (gsCons (gSet 3) (gsCons (gSet 4) gsNil)))) (fIte (fAnd (asB (fOp oLe (fVarQ 3) (fC (.int 1)))) (asB (fOp oNe (fVarQ 2) (fVarQ 4)))) (fRet (fC (.bl false))) fNx))
    (h := fun r => .tup [tupI r, .int (cellV w cells r)]) (d := .bl false) (c := c) (fun env => ∃ a b x y, env = [some (.f (oobj w n cells)), a, b, x, y]) (p := fun r => badL w r (cellV w cells r)) (tups w n) [some (.f (oobj w n cells)), none, none, none, none] ⟨_, _, _, _, rfl⟩ (by
      rintro r hr env ⟨a, b, x, y, rfl⟩
      refine ⟨[some (.f (oobj w n cells)), some (.f (tupI r)), some (.f (.int (cellV w cells r))), x, y], [some (.f (oobj w n cells)), some (.f (tupI r)), some (.f (.int (cellV w cells r))), some (.f (.int (oddP r))), some (.f (.int (mostP r)))], rfl, ?_, ⟨_, _, _, _, rfl⟩⟩
      refine (fSeq_nx (env1 := [some (.f (oobj w n cells)), some (.f (tupI r)), some (.f (.int (cellV w cells r))), some (.f (.int (oddP r))), some (.f (.int (mostP r)))]) (c1 := c) (asg_of ((call_of (aC rfl aN)).trans (s_odd_ones h.wn hr c)) rfl)).trans ?_
      have hb : badL w r (cellV w cells r) = (decide (oddP r ≤ 1) && !decide (cellV w cells r = mostP r)) := (same_of h.wn hr (h.at hr)).symm
      rw [hb]
      refine rt_if (and_dec (asB_of ((op_of rfl rfl).trans (le_dec _ _ c))) fun _ => asB_of ((op_of (x := .int (cellV w cells r)) (y := .int (mostP r)) (c1 := c) (c2 := c) rfl rfl).trans (oNe_int _ _ c))))
  obtain ⟨a, b, x, y, rfl⟩ := hi
  unfold agr
  have h3 := h.wn.n3
  have start : fIte (asB (fOp oLt (fFld [(0, 1), (3, 1)] (fVarQ 0)) (fC (.int 3)))) (fRet (fC (.bl false))) fNx [some (.f (oobj w n cells)), none, none, none, none] c = some (.nx, [some (.f (oobj w n cells)), none, none, none, none], c) := by
    refine (fIte_f (asB_of ((op_of (f_arity w n cells rfl) rfl).trans ?_))).trans rfl
    show some (D.bl (decide ((n : Int) < 3)), c) = _
    rw [decide_eq_false (by omega)]
  have hfor : fFor (fZip (aCons (fCall m_tuples_of (aCons (fFld [(0, 0), (1, 0), (3, 0)] (fVarQ 0)) (aCons (fFld [(0, 1), (3, 1)] (fVarQ 0)) aNil))) (aCons (fFld [(0, 2), (3, 2)] (fVarQ 0)) aNil))) (gSeq 2 (gsCons (gSet 1) (gsCons (gSet 2) gsNil)))
      (fSeq (fAsg (fCall m_odd_ones (aCons (fVar 1) aNil)) (gSeq 2 (gsCons (gSet 3) (gsCons (gSet 4) gsNil)))) (fIte (fAnd (asB (fOp oLe (fVarQ 3) (fC (.int 1)))) (asB (fOp oNe (fVarQ 2) (fVarQ 4)))) (fRet (fC (.bl false))) fNx))
      [some (.f (oobj w n cells)), none, none, none, none] c = some (if (tups w n).any (fun r => badL w r (cellV w cells r)) then .rt (.bl false) else .nx, [some (.f (oobj w n cells)), a, b, x, y], c) := by
    refine (fFor_of (zip_of (aC ((call_of (aC (f_width w n cells rfl) (aC (f_arity w n cells rfl) aN))).trans (s_tuples_of w n h.wn.w3 h.wn.n4 c)) (aC (f_held w n cells rfl) aN)))).trans ?_
    rw [hz]
    exact e
  cases hp : (tups w n).any fun r => badL w r (cellV w cells r) with
  | true =>
    rw [hp, if_pos rfl] at hfor
    exact mOf_rt rfl ((fSeq_nx start).trans (fSeq_rt hfor))
  | false =>
    rw [hp, if_neg Bool.false_ne_true] at hfor
    exact mOf_rt rfl ((fSeq_nx start).trans ((fSeq_nx hfor).trans (fRet_of rfl)))
theorem comp_cnt (r : List Int) (v : Int) {fi : FE} {i j : Nat} {env : En} {c : Cs} (hi : fIt fi env c = some (r.map D.int, c)) (hl : r.length ≤ 1000) (hj : j < env.length) (hij : i ≠ j) (hv : env[i]? = some (some (.f (.int v)))) :
    fLenQ (fComp (fIt fi) (gSet j) (asB (fOp oNe (fVarQ j) (fVarQ i))) (fVar j) [j]) env c = some (.int (cntNe r v : Nat), c) := by
  have hlen : (cntNe r v) ≤ r.length := List.length_filter_le ..
  refine lenQ_of (x := .lst ((r.filter fun x => !decide (x = v)).map D.int)) (c1 := c) (comp_of (c1 := c) hi (compD_filter (p := fun x => !decide (x = v)) fun x hx => ?_) (by rw [List.length_map]; exact lim_le (by unfold cntNe at hlen; omega))) ?_
  · have b1 : ((wipeD env [j]).set j (some (.f (.int x))))[j]? = some (some (.f (.int x))) := List.getElem?_set_self (by show j < (env.set j none).length; simpa using hj)
    have b2 : ((wipeD env [j]).set j (some (.f (.int x))))[i]? = some (some (.f (.int v))) := by
      show ((env.set j none).set j _)[i]? = _
      rw [List.getElem?_set_ne (Ne.symm hij), List.getElem?_set_ne (Ne.symm hij)]; exact hv
    refine ⟨(wipeD env [j]).set j (some (.f (.int x))), rfl, asB_of ((op_of (x := .int x) (y := .int v) (c1 := c) (c2 := c) ?_ ?_).trans (oNe_int _ _ c)), ?_⟩
    · simp only [fVarQ, b1]
    · simp only [fVarQ, b2]
    · simp only [fVar, b1]
  · simp only [lenD, deref, List.length_map, cntNe]
end M39
set_option Elab.async false
set_option linter.all false
set_option maxRecDepth 100000
set_option maxHeartbeats 0
namespace M39
open PySem PySem.Spec PyProof.Rows L2 Pd L39 Ma
theorem eqv_int (x y : Int) : PyData.eqv (.int x) (.int y) = decide (x = y) := by simp only [PyData.eqv, beq_dec]
theorem eqvAll_rgI : ∀ xs ys : List Int, PyData.eqvAll (xs.map .int) (ys.map .int) = decide (xs = ys)
  | [], [] => by simp [PyData.eqvAll]
  | [], _ :: _ => by simp [PyData.eqvAll]
  | _ :: _, [] => by simp [PyData.eqvAll]
  | x :: xs, y :: ys => by
    simp only [List.map_cons, PyData.eqvAll, eqvAll_rgI xs ys, eqv_int, List.cons.injEq]
    by_cases h1 : x = y <;> by_cases h2 : xs = ys <;> simp [h1, h2]
theorem in_rows (g : List Int) (rs : List (List Int)) (neg : Bool) (c : Cs) : oInQ neg (tupI g) (.lst (rs.map tupI)) c = some (.bl (if neg = true then !decide (g ∈ rs) else decide (g ∈ rs)), c) := by
  have e1 : pdn deep (tupI g) = some (.tuple (g.map .int)) := pdn_tupI 59 g
  have e2 : pdns 59 (rs.map tupI) = some (rs.map fun r => .tuple (r.map .int)) := pdns_tupI 58 rs
  have e3 : (rs.map fun r => (.tuple (r.map .int) : PyData)).any (fun z => PyData.eqv z (.tuple (g.map .int))) = decide (g ∈ rs) := by
    rw [List.any_map]
    by_cases h : g ∈ rs
    · rw [decide_eq_true h, List.any_eq_true]
      exact ⟨g, h, by simp [PyData.eqv, eqvAll_rgI]⟩
    · rw [decide_eq_false h, List.any_eq_false]
      intro s hs
      simp only [Function.comp, PyData.eqv, eqvAll_rgI, decide_eq_true_eq]
      exact fun e => h (e ▸ hs)
  have e4 : inLst (tupI g) (rs.map tupI) = some (decide (g ∈ rs)) := by unfold inLst; rw [e1, e2]; exact congrArg some e3
  have e5 : inD c (tupI g) (.lst (rs.map tupI)) = some (decide (g ∈ rs)) := e4
  show (match inD c (tupI g) (.lst (rs.map tupI)) with | some b => _ | none => none) = _
  rw [e5]
/-! ### all rows together -/
def Few (rs : List (List Int)) (n : Nat) : Prop := n ≤ 4 ∧ (∀ m, m ≤ n → rs.length ^ m ≤ 2000) ∧ rs.length ≤ 1000
theorem few_of {rs : List (List Int)} {n : Nat} (h : (n = 3 ∧ rs.length ≤ 9) ∨ (n = 4 ∧ rs.length ≤ 6)) : Few rs n := by
  rcases h with ⟨rfl, h⟩ | ⟨rfl, h⟩
  · refine ⟨by decide, fun m hm => ?_, by omega⟩
    have h1 : rs.length ^ m ≤ 9 ^ m := Nat.pow_le_pow_left h m
    have h2 : (9 : Nat) ^ m ≤ 9 ^ 3 := Nat.pow_le_pow_right (by decide) hm
    exact Nat.le_trans h1 (Nat.le_trans h2 (by decide))
  · refine ⟨by decide, fun m hm => ?_, by omega⟩
    have h1 : rs.length ^ m ≤ 6 ^ m := Nat.pow_le_pow_left h m
    have h2 : (6 : Nat) ^ m ≤ 6 ^ 4 := Nat.pow_le_pow_right (by decide) hm
    exact Nat.le_trans h1 (Nat.le_trans h2 (by decide))
theorem Few.n {rs : List (List Int)} {n : Nat} (h : Few rs n) : n ≤ 4 := h.1
theorem Few.len {rs : List (List Int)} {n : Nat} (h : Few rs n) : rs.length ≤ 1000 := h.2.2
theorem s_ptog {rs : List (List Int)} {n : Nat} (h : Few rs n) (c : Cs) : m_rows_together [.lst (rs.map tupI), .int n] c = some (gLT tupI (grow rs n), c) :=
  g_all tupI rs (N := N_rows_together) rfl (x0 := .lst (rs.map tupI)) (n := n) (FI := fIt (fVar 0)) (by have := h.n; omega) (fun _ _ _ _ => it_lst rfl) (fun m hm => Nat.le_trans (h.2.1 m hm) (by decide))
theorem s_ltog {rs : List (List Int)} {n : Nat} (h : Few rs n) (c : Cs) : m__law_together [.lst (rs.map tupI), .int n] c = some (gLL tupI (grow rs n), c) :=
  l_all tupI rs (lstH tupI) (N := N__law_together) rfl (x0 := .lst (rs.map tupI)) (n := n) (Z := fLst aNil) (FI := fIt (fVar 0)) (W := fLst (aCons (fVar 6) aNil)) (fun _ => lst_of aN (by decide)) (by have := h.n; omega) h.len (fun _ _ _ _ _ => it_lst rfl)
    (fun m hm => Nat.le_trans (h.2.1 m hm) (by decide)) (hW_lst tupI rs (by have := h.n; omega))
/-! ### what an operation gives, position by position -/
def colI (some_ : List (List Int)) (j : Nat) : List Int := some_.map fun r => r.getD j 0
def givV (w : Nat) (cells : List Int) (a : Nat) (some_ : List (List Int)) : List Int := (List.range a).map fun j => cellV w cells (colI some_ j)
theorem col_row {w a n : Nat} {S : List (List Int)} (hn : S.length = n) (hS : ∀ r ∈ S, GRow w a r) {j : Nat} (hj : j < a) : GRow w n (colI S j) := by
  refine ⟨by unfold colI; rw [List.length_map, hn], fun x hx => ?_⟩
  obtain ⟨r, hr, rfl⟩ := List.mem_map.mp hx
  obtain ⟨h1, h2⟩ := hS r hr
  have hj2 : j < r.length := by rw [h1]; exact hj
  rw [List.getD_eq_getElem?_getD, List.getElem?_eq_getElem hj2]
  exact h2 _ (List.getElem_mem hj2)
theorem giv_row {w n a : Nat} {cells : List Int} (h : Cl w n cells) {S : List (List Int)} (hn : S.length = n) (hS : ∀ r ∈ S, GRow w a r) : GRow w a (givV w cells a S) := by
  refine ⟨by unfold givV; simp, fun x hx => ?_⟩
  obtain ⟨j, hj, rfl⟩ := List.mem_map.mp hx
  exact h.at (tups_mem.mpr (col_row hn hS (by simpa using hj)))
theorem getD_ix {r : List Int} {j : Nat} (hj : j < r.length) (c : Cs) : oIx (tupI r) (.int ((0 : Int) + (j : Nat))) c = some (.int (r.getD j 0), c) := by
  have e : r.getD j 0 = r[j] := by rw [List.getD_eq_getElem?_getD, List.getElem?_eq_getElem hj]; rfl
  have e2 : ((r.map D.int)[j]?) = some (.int r[j]) := by rw [List.getElem?_map, List.getElem?_eq_getElem hj]; rfl
  rw [Int.zero_add, e]
  simp only [oIx, ixD, deref, tupI, atIn, e2]
theorem s_lgiven {w n a : Nat} {cells : List Int} (h : Cl w n cells) (ha : a ≤ 3) {S : List (List Int)} (hn : S.length = n) (hS : ∀ r ∈ S, GRow w a r) (c : Cs) : m__law_given [.int w, intsD cells, lstH tupI S] c = some (tupI (givV w cells a S), c) := by
  have hn3 := h.wn.n3
  have hn4 := h.wn.n4
  obtain ⟨r0, S', rfl⟩ : ∃ r0 S', S = r0 :: S' := by
    cases S with
    | nil => rw [List.length_nil] at hn; omega
    | cons r0 S' => exact ⟨r0, S', rfl⟩
  have h0 : r0.length = a := (hS r0 (List.mem_cons_self ..)).1
  have e0 : fRg1 (aCons (fLenQ (fOp oIx (fVarQ 2) (fC (.int 0)))) aNil) [some (.f (.int w)), some (.f (intsD cells)), some (.f (lstH tupI (r0 :: S'))), none, none] c = some ((List.range a).map fun i => .int ((0 : Int) + (i : Nat)), c) := by
    refine fRg1_of (c1 := c) (j := (a : Nat)) (aC (lenQ_of (x := tupI r0) (n := (a : Nat)) (c1 := c) ((op_of (x := lstH tupI (r0 :: S')) (y := .int 0) rfl rfl).trans ?_) ?_) aN) (by rw [small62_of] <;> omega) (Int.toNat_natCast a)
    · simp only [oIx, ixD, deref, lstH, List.map_cons, atI0]
    · simp only [lenD, deref, tupI, List.length_map, h0]
  refine mOf_rt (env1 := [some (.f (.int w)), some (.f (intsD cells)), some (.f (lstH tupI (r0 :: S'))), none, none]) rfl (fRet_of ((call_of (aC (comp_of (c1 := c) e0 (compD_map (r := fun j => D.int (cellV w cells (colI (r0 :: S') j))) fun j hj => ?_) (by rw [List.length_map, List.length_range]; exact lim_le (by omega))) aN)).trans ?_))
  · have hj : j < a := by simpa using hj
    refine ⟨[some (.f (.int w)), some (.f (intsD cells)), some (.f (lstH tupI (r0 :: S'))), some (.f (.int ((0 : Int) + (j : Nat)))), none], rfl, rfl, ?_⟩
    refine (call_of (aC rfl (aC rfl (aC (d := intsD (colI (r0 :: S') j)) (c1 := c) (comp_of (c1 := c) (ds := (r0 :: S').map tupI) (it_lst rfl) ?_ ?_) aN)))).trans (s_lcell h.wn.w1 h.wn.w3 h.len (col_row hn hS hj) (.inr rfl) c)
    · have : (colI (r0 :: S') j).map D.int = (r0 :: S').map fun r => D.int (r.getD j 0) := by unfold colI; rw [List.map_map]; rfl
      rw [this]
      refine compD_map fun r hr => ⟨[some (.f (.int w)), some (.f (intsD cells)), some (.f (lstH tupI (r0 :: S'))), some (.f (.int ((0 : Int) + (j : Nat)))), some (.f (tupI r))], rfl, rfl, (op_of (x := tupI r) (y := .int ((0 : Int) + (j : Nat))) (c1 := c) (c2 := c) rfl rfl).trans (getD_ix (by rw [(hS r hr).1]; exact hj) c)⟩
    · unfold colI; rw [List.length_map, List.length_map, hn]; exact lim_le (by omega)
  · show bTuple [.lst ((List.range a).map fun j => D.int (cellV w cells (colI (r0 :: S') j)))] c = _
    unfold givV tupI
    rw [List.map_map]; rfl
end M39
set_option Elab.async false
set_option linter.all false
set_option maxRecDepth 100000
set_option maxHeartbeats 0
namespace M39
open PySem PySem.Spec PyProof.Rows L2 Pd L39 Ma
theorem pdns_some {α : Type} {k : Nat} {f : α → D} {g : α → PyData} (h : ∀ x, pdn k (f x) = some (g x)) : ∀ L : List α, pdns k (L.map f) = some (L.map g)
  | [] => by simp [pdns]
  | x :: L => by simp only [List.map_cons, pdns, h x, pdns_some h L]
theorem oEq_nil {α : Type} {f : α → D} {g : α → PyData} (h : ∀ x, pdn 59 (f x) = some (g x)) (L : List α) (c : Cs) : oEq (.lst (L.map f)) (.lst []) c = some (.bl L.isEmpty, c) := by
  have e1 : pdn deep (.lst (L.map f)) = some (.list (L.map g)) := by
    show pdn (59 + 1) _ = _
    simp only [pdn, pdns_some h L]
  have e2 : pdn deep (.lst []) = some (.list []) := rfl
  simp only [oEq, e1, e2]
  cases L with
  | nil => simp [PyData.eqv, PyData.eqvAll]
  | cons x L => simp [PyData.eqv, PyData.eqvAll]
def keepsB (w : Nat) (cells : List Int) (n a : Nat) (rs : List (List Int)) : Bool := (grow rs n).all fun S => decide (givV w cells a S ∈ rs)
theorem pdn_lstH (S : List (List Int)) : pdn 59 (lstH tupI S) = some (.list (S.map fun r => .tuple (r.map .int))) := pdn_rows 57 S
theorem filter_empty {α : Type} (p : α → Bool) : ∀ L : List α, (L.filter fun x => !p x).isEmpty = L.all p
  | [] => rfl
  | x :: L => by
    cases h : p x <;> simp [List.filter_cons, h, filter_empty p L]
theorem s_lkeeps {w n a : Nat} {cells : List Int} (h : Cl w n cells) (ha : a ≤ 3) {rs : List (List Int)} (hf : Few rs n) (hr : ∀ r ∈ rs, GRow w a r) (c : Cs) : m__law_keeps [.int w, .lst [.int n, intsD cells], .lst (rs.map tupI)] c = some (.bl (keepsB w cells n a rs), c) := by
  refine mOf_rt (env1 := [some (.f (.int w)), some (.f (.lst [.int n, intsD cells])), some (.f (.lst (rs.map tupI))), some (.f (.int n)), some (.f (intsD cells)), none]) rfl ?_
  refine (fSeq_nx (env1 := [some (.f (.int w)), some (.f (.lst [.int n, intsD cells])), some (.f (.lst (rs.map tupI))), some (.f (.int n)), some (.f (intsD cells)), none]) (c1 := c) (asg_of rfl rfl)).trans ?_
  refine fRet_of ((op_of (x := .lst (((grow rs n).filter fun S => !decide (givV w cells a S ∈ rs)).map (lstH tupI))) (y := .lst []) (c1 := c) (c2 := c) (comp_of (c1 := c) (it_lst ((call_of (aC rfl (aC rfl aN))).trans (s_ltog hf c))) (compD_filter (p := fun S => !decide (givV w cells a S ∈ rs)) fun S hS => ?_) ?_) (lst_of aN (by decide))).trans ((oEq_nil pdn_lstH _ c).trans ?_))
  · obtain ⟨h1, h2⟩ := (grow_mem rs n S).mp hS
    refine ⟨[some (.f (.int w)), some (.f (.lst [.int n, intsD cells])), some (.f (.lst (rs.map tupI))), some (.f (.int n)), some (.f (intsD cells)), some (.f (lstH tupI S))], rfl, asB_of ((op_of (x := tupI (givV w cells a S)) (y := .lst (rs.map tupI)) (c1 := c) (c2 := c) ((call_of (aC rfl (aC rfl (aC rfl aN)))).trans (s_lgiven h ha h1 (fun r hr' => hr r (h2 r hr')) c)) rfl).trans (in_rows _ rs true c)), rfl⟩
  · rw [List.length_map]
    refine Nat.le_trans (List.length_filter_le ..) ?_
    rw [grow_len]
    exact Nat.le_trans (hf.2.1 n (Nat.le_refl n)) (by decide)
  · unfold keepsB
    rw [filter_empty (fun S => decide (givV w cells a S ∈ rs))]
/-! ### the program's side -/
theorem tups_of : ∀ S : List (List Int), tups? (S.map tupI) = some (S.map fun r => r.map D.int)
  | [] => rfl
  | r :: S => by
    have := tups_of S
    simp only [List.map_cons, tupI, tups?] at this ⊢
    rw [this]
theorem s_columns {w n a : Nat} (h : WN w n) (ha : a ≤ 3) {S : List (List Int)} (hn : S.length = n) (hS : ∀ r ∈ S, GRow w a r) (c : Cs) : m_columns [tupH tupI S] c = some (.tup ((List.range a).map fun j => tupI (colI S j)), c) := by
  have hn3 := h.n3
  have hn4 := h.n4
  obtain ⟨r0, S', rfl⟩ : ∃ r0 S', S = r0 :: S' := by
    cases S with
    | nil => rw [List.length_nil] at hn; omega
    | cons r0 S' => exact ⟨r0, S', rfl⟩
  have h0 : r0.length = a := (hS r0 (List.mem_cons_self ..)).1
  have e1 : tups? ((r0 :: S').map tupI) = some ((r0.map D.int) :: S'.map fun r => r.map D.int) := tups_of (r0 :: S')
  have e2 : fLstZip (fVar 0) [some (.f (tupH tupI (r0 :: S')))] c = some (.lst ((List.range a).map fun j => tupI (colI (r0 :: S') j)), c) := by
    have e3 : (decide (((r0.map D.int) :: S'.map fun r => r.map D.int).length = 3) || decide (((r0.map D.int) :: S'.map fun r => r.map D.int).length = 4)) = true := by
      have : ((r0.map D.int) :: S'.map fun r => r.map D.int).length = n := by rw [List.length_cons, List.length_map, ← hn, List.length_cons]
      rw [this]
      rcases (show n = 3 ∨ n = 4 by omega) with rfl | rfl <;> rfl
    have e4 : ((r0.map D.int) :: S'.map fun r => r.map D.int).all (fun x => decide (x.length = (r0.map D.int).length)) = true := by
      rw [List.all_eq_true]
      intro x hx
      rw [decide_eq_true_eq, List.length_map, h0]
      rcases List.mem_cons.mp hx with rfl | hx
      · rw [List.length_map, h0]
      · obtain ⟨r, hr, rfl⟩ := List.mem_map.mp hx
        rw [List.length_map, (hS r (List.mem_cons_of_mem _ hr)).1]
    have e5 : decide ((r0.map D.int).length ≤ 1000) = true := by rw [List.length_map, h0]; exact decide_eq_true (by omega)
    have e6 : (List.range (r0.map D.int).length).map (colD ((r0.map D.int) :: S'.map fun r => r.map D.int)) = (List.range a).map fun j => tupI (colI (r0 :: S') j) := by
      rw [List.length_map, h0]
      refine List.map_congr_left fun j hj => ?_
      have hj : j < a := by simpa using hj
      show D.tup (((r0 :: S').map fun r => r.map D.int).map fun r => r.getD j .non) = D.tup (((r0 :: S').map fun r => r.getD j 0).map D.int)
      rw [List.map_map, List.map_map]
      congr 1
      refine List.map_congr_left fun r hr => ?_
      have hj2 : j < r.length := by rw [(hS r hr).1]; exact hj
      simp [Function.comp, List.getD_eq_getElem?_getD, List.getElem?_map, List.getElem?_eq_getElem hj2]
    have e7 : fVar 0 [some (.f (tupH tupI (r0 :: S')))] c = some (.tup ((r0 :: S').map tupI), c) := rfl
    simp only [fLstZip, e7, e1, e3, e4, e5, e6, Bool.and_self, if_true]
  exact mOf_rt (env1 := [some (.f (tupH tupI (r0 :: S')))]) rfl (fRet_of ((call_of (aC e2 aN)).trans rfl))
theorem s_opcall {w n : Nat} {cells : List Int} (h : Cl w n cells) {r : List Int} (hr : GRow w n r) (c : Cs) : m_Operation_call [oobj w n cells, tupI r] c = some (.int (cellV w cells r), c) := by
  have hn4 := h.wn.n4
  refine mOf_rt (env1 := [some (.f (oobj w n cells)), some (.f (tupI r))]) rfl ?_
  refine (fSeq_nx (env1 := [some (.f (oobj w n cells)), some (.f (tupI r))]) (c1 := c) ((fIte_f (not_of (b := true) (asB_of ((call_of (aC rfl (aC (f_width w n cells rfl) (aC (f_arity w n cells rfl) aN)))).trans (s_is_row r w n (by omega) hr c))))).trans rfl)).trans ?_
  exact fRet_of ((op_of (f_held w n cells rfl) ((call_of (aC (f_width w n cells rfl) (aC rfl aN))).trans (s_cell_of w h.wn.w3 r c))).trans (ix_cells h.wn.w1 h.len hr c))
theorem s_contains {w a : Nat} {rs : List (List Int)} (ha : a ≤ 3) {g : List Int} (hg : GRow w a g) (c : Cs) : m_Table_contains [tobj w a rs, tupI g] c = some (.bl (decide (g ∈ rs)), c) := by
  refine mOf_rt (env1 := [some (.f (tobj w a rs)), some (.f (tupI g))]) rfl ?_
  refine fRet_of ((andV_t ((call_of (aC rfl (aC (fld_of (k := 0) (n := 0) rfl rfl rfl rfl) (aC (fld_of (k := 0) (n := 1) rfl rfl rfl rfl) aN)))).trans (s_is_row g w a (by omega) hg c))).trans ((op_of (x := tupI g) (y := .dic (rs.map tupI) (rs.map fun _ => D.bl true)) (c1 := c) (c2 := c) rfl (fld_of (k := 0) (n := 3) rfl rfl rfl rfl)).trans ?_))
  have e : inDic c (tupI g) (.dic (rs.map tupI) (rs.map fun _ => D.bl true)) = some (decide (g ∈ rs)) := by
    show (if ((rs.map tupI).all isTupD && keyOk (tupI g)) = true then some (dHas (rs.map tupI) (tupI g)) else none) = _
    rw [all_isTup, keyOk_tupI, dHas_rows]; rfl
  show (match inDic c (tupI g) (.dic (rs.map tupI) (rs.map fun _ => D.bl true)) with | some b => some (D.bl (if false = true then !b else b), c) | none => none) = _
  rw [e]; rfl
theorem s_Table_rows (w : Int) (a : Nat) (rs : List (List Int)) (c : Cs) : m_Table_rows [tobj w a rs] c = some (.lst (rs.map tupI), c) := by
  exact mOf_rt (env1 := [some (.f (tobj w a rs))]) rfl (fRet_of ((call_of (aC (fld_of (k := 0) (n := 2) rfl rfl rfl rfl) aN)).trans rfl))
end M39
set_option Elab.async false
set_option linter.all false
set_option maxRecDepth 100000
set_option maxHeartbeats 0
namespace M39
open PySem PySem.Spec PyProof.Rows L2 Pd L39 Ma
theorem s_Book (w : Int) (ts : List (Nat × List (List Int))) (h1 : 1 ≤ w) (h2 : w ≤ 3) (c : Cs) : m_Book_init [.int w, .lst (ts.map fun t => tobj w t.1 t.2)] c = some (.obj 1 [.int w, .lst (ts.map fun t => tobj w t.1 t.2)], c) := by
  have loop : ∃ x y, forD (gSeq 2 (gsCons (gSet 3) (gsCons (gSet 4) gsNil))) (fIte (fOr (fNot (asB (fIsi (fun _ => false) (tc_cls 4 0) (fVarQ 4)))) (asB (fOp oNe (fFld [(0, 0), (1, 0), (3, 0)] (fVarQ 4)) (fVarQ 1)))) fNo fNx)
      (enumD 0 (ts.map fun t => tobj w t.1 t.2)) [some (.o (.obj 1 [])), some (.f (.int w)), some (.f (.lst (ts.map fun t => tobj w t.1 t.2))), none, none] c =
      some (.nx, [some (.o (.obj 1 [])), some (.f (.int w)), some (.f (.lst (ts.map fun t => tobj w t.1 t.2))), x, y], c) := by
    rw [enumD_map]
    have key := forD_st (g := gSeq 2 (gsCons (gSet 3) (gsCons (gSet 4) gsNil))) (fb := fIte (fOr (fNot (asB (fIsi (fun _ => false) (tc_cls 4 0) (fVarQ 4)))) (asB (fOp oNe (fFld [(0, 0), (1, 0), (3, 0)] (fVarQ 4)) (fVarQ 1)))) fNo fNx)
      (h := fun p : (Nat × List (List Int)) × Nat => .tup [.int (p.2 : Nat), tobj w p.1.1 p.1.2])
      (fun pre env c1 => ∃ x y, env = [some (.o (.obj 1 [])), some (.f (.int w)), some (.f (.lst (ts.map fun t => tobj w t.1 t.2))), x, y] ∧ c1 = c)
      (xs := ts.zipIdx 0) (env := [some (.o (.obj 1 [])), some (.f (.int w)), some (.f (.lst (ts.map fun t => tobj w t.1 t.2))), none, none]) (c := c) ⟨_, _, rfl, rfl⟩
    have fin := key (by
      intro pre x post e env c1 ⟨u, v, he, hc⟩
      subst he hc
      refine ⟨_, _, c1, rfl, ?_, ⟨some (.f (.int x.2)), some (.f (tobj w x.1.1 x.1.2)), rfl, rfl⟩⟩
      have e5 : oNe (.int w) (.int w) c1 = some (.bl false, c1) := by rw [oNe_int]; simp
      simp [mOf, startD, fSeq, fSet, fSetO, fIte, fOr, fAnd, fNot, asB, fOp, fVar, fVarQ, fC, fCall, aCons, aNil, fIf, fRet, fNx, fDrop, fIsi, isiD, kindD, deref, isaB, tc_none, tc_cls, fLenQ, lenD, fComp, fIt, fMd, isTyM, wipeD, tobj, fFld, List.lookup, e5])
    obtain ⟨env', c', e, x, y, h1, h2⟩ := fin
    rw [e]
    subst h1 h2
    exact ⟨x, y, rfl⟩
  obtain ⟨x, y, e⟩ := loop
  simp [m_Book_init, f_Book_init, mInit, startI, N_Book_init, mOf, startD, fSeq, fSet, fSetO, fIte, fOr, fAnd, fNot, asB, fOp, fVar, fVarQ, fC, fCall, aCons, aNil, fIf, fRet, fNx, fDrop, fIsi, isiD, kindD, deref, isaB, tc_none, tc_cls, fLenQ, lenD, fComp, fIt, fMd, isTyM, wipeD, s_check_width w h1 h2, fFor, fEnum, e, fFldO, List.lookup, fldPut, bList, seqOf]
abbrev Tbl := Nat × List (List Int)
def bobj (w : Int) (ts : List Tbl) : D := .obj 1 [.int w, .lst (ts.map fun t => tobj w t.1 t.2)]
theorem s_Book_tables (w : Int) (ts : List Tbl) (c : Cs) : m_Book_tables [bobj w ts] c = some (.lst (ts.map fun t => tobj w t.1 t.2), c) := by
  exact mOf_rt (env1 := [some (.f (bobj w ts))]) rfl (fRet_of ((call_of (aC (fld_of (k := 1) (n := 1) rfl rfl rfl rfl) aN)).trans rfl))
def fndF {α : Type} (d : α → D) : Option α → Fl
  | some x => .rt (d x)
  | none => .nx
theorem forD_find {α : Type} {g : FG} {fb : FS} {h d : α → D} {c : Cs} (I : En → Prop) {p : α → Bool} : ∀ (xs : List α) (env : En), I env →
    (∀ x ∈ xs, ∀ env, I env → ∃ env1 env2, g (h x) env = some env1 ∧ fb env1 c = some (if p x then .rt (d x) else .nx, env2, c) ∧ I env2) → ∃ env', forD g fb (xs.map h) env c = some (fndF d (xs.find? p), env', c) ∧ I env'
  | [], env, hi, _ => ⟨env, rfl, hi⟩
  | x :: xs, env, hi, H => by
    obtain ⟨env1, env2, e1, e2, hi2⟩ := H x (List.mem_cons_self ..) env hi
    cases hp : p x with
    | true =>
      rw [hp, if_pos rfl] at e2
      exact ⟨env2, by rw [List.map_cons, forD_rt e1 e2, List.find?_cons_of_pos hp]; rfl, hi2⟩
    | false =>
      rw [hp, if_neg Bool.false_ne_true] at e2
      obtain ⟨env', e3, hi3⟩ := forD_find I xs env2 hi2 fun y hy => H y (List.mem_cons_of_mem _ hy)
      exact ⟨env', by rw [List.map_cons, forD_step e1 e2, e3, List.find?_cons_of_neg (by rw [hp]; exact Bool.false_ne_true)], hi3⟩
def brk (w : Nat) (cells : List Int) (n a : Nat) (rs : List (List Int)) : D := match (grow rs n).find? fun S => !decide (givV w cells a S ∈ rs) with
  | some S => lstH tupI S
  | none => .non
theorem brk_is (w : Nat) (cells : List Int) (n a : Nat) (rs : List (List Int)) (c : Cs) : oIs (brk w cells n a rs) .non c = some (.bl (keepsB w cells n a rs), c) := by
  unfold brk keepsB
  cases h : (grow rs n).find? fun S => !decide (givV w cells a S ∈ rs) with
  | none =>
    rw [List.find?_eq_none] at h
    have : ((grow rs n).all fun S => decide (givV w cells a S ∈ rs)) = true := List.all_eq_true.mpr fun S hS => by simpa using h S hS
    rw [this]; rfl
  | some S =>
    have h1 := List.find?_some h
    have h2 := List.mem_of_find?_eq_some h
    have : ((grow rs n).all fun S => decide (givV w cells a S ∈ rs)) = false := by
      rw [← Bool.not_eq_true, List.all_eq_true]
      intro h3
      have h4 := h3 S h2
      rw [h4] at h1; exact absurd h1 (by decide)
    rw [this]; rfl
theorem s_breaks {w n a : Nat} {cells : List Int} (h : Cl w n cells) (ha : a ≤ 3) {rs : List (List Int)} (hf : Few rs n) (hr : ∀ r ∈ rs, GRow w a r) (c : Cs) : m_breaks [oobj w n cells, tobj w a rs] c = some (brk w cells n a rs, c) := by
  obtain ⟨env', e, hi⟩ := forD_find (g := gSet 2) (fb := fIte (asB (fOp (oInA ms_contains_Table true) (fCall bTuple (aCons (fComp (fIt (fCall m_columns (aCons (fVar 2) aNil))) (gSet 3) fYes (fInst ms_call_Operation (fVar 0) (aCons (fVar 3) aNil)) [3]) aNil)) (fVar 1))) (fRet (fCall bList (aCons (fVarQ 2) aNil))) fNx)
    (h := tupH tupI) (d := lstH tupI) (c := c) (fun env => ∃ x, env = [some (.f (oobj w n cells)), some (.f (tobj w a rs)), x, none]) (p := fun S => !decide (givV w cells a S ∈ rs)) (grow rs n) [some (.f (oobj w n cells)), some (.f (tobj w a rs)), none, none] ⟨_, rfl⟩ (by
      rintro S hS env ⟨x, rfl⟩
      obtain ⟨h1, h2⟩ := (grow_mem rs n S).mp hS
      have hS' : ∀ r ∈ S, GRow w a r := fun r hr' => hr r (h2 r hr')
      refine ⟨[some (.f (oobj w n cells)), some (.f (tobj w a rs)), some (.f (tupH tupI S)), none], [some (.f (oobj w n cells)), some (.f (tobj w a rs)), some (.f (tupH tupI S)), none], rfl, ?_, ⟨_, rfl⟩⟩
      have e1 : fCall bTuple (aCons (fComp (fIt (fCall m_columns (aCons (fVar 2) aNil))) (gSet 3) fYes (fInst ms_call_Operation (fVar 0) (aCons (fVar 3) aNil)) [3]) aNil) [some (.f (oobj w n cells)), some (.f (tobj w a rs)), some (.f (tupH tupI S)), none] c = some (tupI (givV w cells a S), c) := by
        refine (call_of (aC (comp_of (c1 := c) (it_tup ((call_of (aC rfl aN)).trans (s_columns h.wn ha h1 hS' c))) (compD_map (r := fun j => D.int (cellV w cells (colI S j))) fun j hj => ?_) (by rw [List.length_map, List.length_range]; exact lim_le (by omega))) aN)).trans ?_
        · have hj : j < a := by simpa using hj
          refine ⟨[some (.f (oobj w n cells)), some (.f (tobj w a rs)), some (.f (tupH tupI S)), some (.f (tupI (colI S j)))], rfl, rfl, ?_⟩
          exact s_opcall h (col_row h1 hS' hj) c
        · show some (D.tup _, c) = some (D.tup _, c)
          unfold givV; rw [List.map_map]; rfl
      have e2 : oInA ms_contains_Table true (tupI (givV w cells a S)) (tobj w a rs) c = some (.bl (!decide (givV w cells a S ∈ rs)), c) := by
        have e3 := s_contains (rs := rs) ha (giv_row h h1 hS') c
        show (match m_Table_contains [tobj w a rs, tupI (givV w cells a S)] c with | some (.bl b, c') => some (D.bl (if true = true then !b else b), c') | _ => none) = _
        rw [e3]; rfl
      cases hb : !decide (givV w cells a S ∈ rs) with
      | true =>
        rw [hb] at e2
        exact (fIte_t (asB_of ((op_of e1 rfl).trans e2))).trans (fRet_of ((call_of (aC rfl aN)).trans rfl))
      | false =>
        rw [hb] at e2
        exact (fIte_f (asB_of ((op_of e1 rfl).trans e2))).trans rfl)
  obtain ⟨x, rfl⟩ := hi
  have start : fIte (asB (fOp oNe (fFld [(0, 0), (1, 0), (3, 0)] (fVarQ 0)) (fFld [(0, 0), (1, 0), (3, 0)] (fVarQ 1)))) fNo fNx [some (.f (oobj w n cells)), some (.f (tobj w a rs)), none, none] c = some (.nx, [some (.f (oobj w n cells)), some (.f (tobj w a rs)), none, none], c) := by
    refine (fIte_f (asB_of ((op_of (f_width w n cells rfl) (fld_of (y := .int w) (k := 0) (n := 0) rfl rfl rfl rfl)).trans ((oNe_int _ _ c).trans ?_)))).trans rfl
    rw [decide_eq_true rfl]; rfl
  have hfor : fFor (fIt (fCall m_rows_together (aCons (fProp ms_rows_Table_Puzzle (fVar 1)) (aCons (fFld [(0, 1), (3, 1)] (fVarQ 0)) aNil)))) (gSet 2) (fIte (asB (fOp (oInA ms_contains_Table true) (fCall bTuple (aCons (fComp (fIt (fCall m_columns (aCons (fVar 2) aNil))) (gSet 3) fYes (fInst ms_call_Operation (fVar 0) (aCons (fVar 3) aNil)) [3]) aNil)) (fVar 1))) (fRet (fCall bList (aCons (fVarQ 2) aNil))) fNx)
      [some (.f (oobj w n cells)), some (.f (tobj w a rs)), none, none] c = some (fndF (lstH tupI) ((grow rs n).find? fun S => !decide (givV w cells a S ∈ rs)), [some (.f (oobj w n cells)), some (.f (tobj w a rs)), x, none], c) :=
    (fFor_of (it_lst ((call_of (aC ((prop_of (k := 0) rfl rfl rfl).trans (s_Table_rows w a rs c)) (aC (f_arity w n cells rfl) aN))).trans (s_ptog hf c)))).trans e
  unfold brk
  cases hp : (grow rs n).find? fun S => !decide (givV w cells a S ∈ rs) with
  | some S =>
    rw [hp] at hfor
    exact mOf_rt rfl ((fSeq_nx start).trans (fSeq_rt hfor))
  | none =>
    rw [hp] at hfor
    exact mOf_rt rfl ((fSeq_nx start).trans ((fSeq_nx hfor).trans (fRet_of rfl)))
end M39
set_option Elab.async false
set_option linter.all false
set_option maxRecDepth 100000
set_option maxHeartbeats 0
namespace M39
open PySem PySem.Spec PyProof.Rows L2 Pd L39 Ma
theorem f_bwidth (w : Int) (ts : List Tbl) {f : FE} {env : En} {c : Cs} (h : f env c = some (bobj w ts, c)) : fFld [(0, 0), (1, 0), (3, 0)] f env c = some (.int w, c) := fld_of (k := 1) (n := 0) h rfl rfl rfl
theorem f_kept (w : Int) (ts : List Tbl) {f : FE} {env : En} {c : Cs} (h : f env c = some (bobj w ts, c)) : fFld [(1, 1)] f env c = some (.lst (ts.map fun t => tobj w t.1 t.2), c) := fld_of (k := 1) (n := 1) h rfl rfl rfl
theorem s_Table_eq (w : Int) (a : Nat) (rs : List (List Int)) (c : Cs) : m_Table_eq [tobj w a rs, tobj w a rs] c = some (.bl true, c) := by
  have l3 : 3 ≤ lim := by decide
  have e1 : oEq (.tup [.int w, .int a, .lst (rs.map tupI)]) (.tup [.int w, .int a, .lst (rs.map tupI)]) c = some (.bl true, c) := by
    refine oEq_self (p := .tuple [.int w, .int a, .list (rs.map fun r => .tuple (r.map .int))]) ?_
    have := pdns_tupI 57 rs
    show pdn (59 + 1) _ = _
    simp only [pdn, pdns, this]
  refine mOf_rt (env1 := [some (.f (tobj w a rs)), some (.f (tobj w a rs))]) rfl ?_
  refine (fSeq_nx (env1 := [some (.f (tobj w a rs)), some (.f (tobj w a rs))]) (c1 := c) (fIte_f (not_of (b := true) (asB_of (isi_of (x := tobj w a rs) (c1 := c) rfl rfl))))).trans ?_
  refine fRet_of ((op_of (tup_of (aC (fld_of (x := tobj w a rs) (c1 := c) rfl rfl rfl rfl) (aC (fld_of (x := tobj w a rs) (c1 := c) rfl rfl rfl rfl) (aC (fld_of (x := tobj w a rs) (c1 := c) rfl rfl rfl rfl) aN))) l3) (tup_of (aC (fld_of (x := tobj w a rs) (c1 := c) rfl rfl rfl rfl) (aC (fld_of (x := tobj w a rs) (c1 := c) rfl rfl rfl rfl) (aC (fld_of (x := tobj w a rs) (c1 := c) rfl rfl rfl rfl) aN))) l3)).trans e1)
theorem eqObj_tab (w : Int) (t : Tbl) (c : Cs) : eqObj ms_eq_Table (tobj w t.1 t.2) (tobj w t.1 t.2) c = some (true, c) := by
  have e := s_Table_eq w t.1 t.2 c
  unfold eqObj
  show (match ms_eq_Table 0 with | some m => _ | none => none) = _
  show (match m_Table_eq [tobj w t.1 t.2, tobj w t.1 t.2] c with | some (.bl b, c') => some (b, c') | _ => none) = _
  rw [e]
theorem eqObjs_tabs (w : Int) : ∀ (ts : List Tbl) (c : Cs), eqObjs ms_eq_Table (ts.map fun t => tobj w t.1 t.2) (ts.map fun t => tobj w t.1 t.2) c = some c
  | [], c => rfl
  | t :: ts, c => by
    simp only [List.map_cons, eqObjs, eqObj_tab, eqObjs_tabs w ts c]
theorem eqM_tabs (w : Int) (ts : List Tbl) (c : Cs) : oEqM ms_eq_Table (.lst (ts.map fun t => tobj w t.1 t.2)) (.lst (ts.map fun t => tobj w t.1 t.2)) c = some (.bl true, c) := by
  have : eqM ms_eq_Table (.lst (ts.map fun t => tobj w t.1 t.2)) (.lst (ts.map fun t => tobj w t.1 t.2)) c = some (true, c) := by
    cases ts with
    | nil => rfl
    | cons t ts =>
      have e1 : pdn deep (.lst ((t :: ts).map fun t => tobj w t.1 t.2)) = none := rfl
      have e2 := eqObjs_tabs w (t :: ts) c
      simp only [eqM, e1, e2]
  simp only [oEqM, this]
theorem s_Book_eq (w : Int) (ts : List Tbl) (c : Cs) : m_Book_eq [bobj w ts, bobj w ts] c = some (.bl true, c) := by
  have e1 : oEq (.int w) (.int w) c = some (.bl true, c) := by rw [oEq_int]; simp
  refine mOf_rt (env1 := [some (.f (bobj w ts)), some (.f (bobj w ts))]) rfl ?_
  refine fRet_of ((andV_t (isi_of (x := bobj w ts) (c1 := c) rfl rfl)).trans ((andV_t ((op_of (f_bwidth w ts rfl) (f_bwidth w ts rfl)).trans e1)).trans ((op_of (f_kept w ts rfl) (f_kept w ts rfl)).trans (eqM_tabs w ts c))))
theorem ne_book (w : Int) (ts : List Tbl) (c : Cs) : oNeM ms_eq_Book (bobj w ts) (bobj w ts) c = some (.bl false, c) := by
  have e := s_Book_eq w ts c
  have : neM ms_eq_Book (bobj w ts) (bobj w ts) c = some (true, c) := by
    show (match m_Book_eq [bobj w ts, bobj w ts] c with | some (.bl b, c') => some (b, c') | _ => none) = _
    rw [e]
  simp only [oNeM, this, Bool.not_true]
/-! ### shows_agreement -/
def pz (w : Int) (ts : List Tbl) : D := .obj 2 [bobj w ts, .int 0, .lst []]
theorem s_pz (w : Int) (ts : List Tbl) (c : Cs) : m_Puzzle_init [bobj w ts, .int 0, .lst []] c = some (pz w ts, c) := by
  have e1 := s_within 0 0 60 c
  refine mInit_of (env1 := [some (.o (pz w ts)), some (.f (bobj w ts)), some (.f (.int 0)), some (.f (.lst [])), none, none]) rfl ?_ rfl
  refine (fSeq_nx (fIte_f (not_of (b := true) (asB_of ((call_of (aC rfl (aC rfl (aC rfl aN)))).trans e1))))).trans ?_
  refine (fSeq_nx (env1 := [some (.o (.obj 2 [])), some (.f (bobj w ts)), some (.f (.int 0)), some (.f (.lst [])), none, none]) (c1 := c) (fIte_f (not_of (b := true) (asB_of (isi_of (x := .lst []) (c1 := c) rfl rfl))))).trans ?_
  refine (fSeq_nx (env1 := [some (.o (.obj 2 [])), some (.f (bobj w ts)), some (.f (.int 0)), some (.f (.lst [])), none, none]) (c1 := c) ((fFor_of (enum_of (ds := []) (c1 := c) rfl)).trans rfl)).trans ?_
  rfl
/-- how many places are looked at -/
def NR (w m : Nat) : Prop := 1 ≤ w ∧ ((m = 2 ∧ w ≤ 3) ∨ (m = 3 ∧ w ≤ 2))
theorem NR.wn {w m : Nat} (h : NR w m) : WN w (m + 1) := by
  rcases h with ⟨h0, ⟨rfl, h⟩ | ⟨rfl, h⟩⟩
  · exact ⟨h0, .inl ⟨h, rfl⟩⟩
  · exact ⟨h0, .inr ⟨h, rfl⟩⟩
theorem s_check_near {w m : Nat} (h : NR w m) (ts : List Tbl) (c : Cs) : m_check_near [pz w ts, .int m] c = some (.non, c) := by
  have e1 := s_within m 2 3 c
  have h2 : (2 : Int) ≤ m := by rcases h with ⟨_, ⟨h, _⟩ | ⟨h, _⟩⟩ <;> omega
  have h3 : (m : Int) ≤ 3 := by rcases h with ⟨_, ⟨h, _⟩ | ⟨h, _⟩⟩ <;> omega
  rw [decide_eq_true h2, decide_eq_true h3, Bool.and_self] at e1
  have fw : fFld [(0, 0), (1, 0), (3, 0)] (fFld [(2, 0)] (fVarQ 0)) [some (.f (pz w ts)), some (.f (.int m))] c = some (.int w, c) := f_bwidth w ts (fld_of (k := 2) (n := 0) rfl rfl rfl rfl)
  refine mOf_nx (env1 := [some (.f (pz w ts)), some (.f (.int m))]) rfl ((fIte_f ((or_f (c1 := c) (not_of (b := true) (asB_of ((call_of (aC rfl (aC rfl (aC rfl aN)))).trans e1)))).trans ?_)).trans rfl)
  rcases h with ⟨_, ⟨rfl, _⟩ | ⟨rfl, hw⟩⟩
  · exact and_f (asB_of ((op_of rfl rfl).trans (oEq_int _ _ c)))
  · refine (and_t (c1 := c) (asB_of ((op_of rfl rfl).trans (oEq_int _ _ c)))).trans (asB_of ((op_of fw rfl).trans ?_))
    show some (D.bl (decide ((w : Int) > 2)), c) = _
    rw [decide_eq_false (by omega)]
abbrev saE (w m : Nat) (ts : List Tbl) (v : D) : En := [some (.f (bobj w ts)), some (.f (.int m)), some (.f v), none]
theorem s_sa0 {w m : Nat} (h : NR w m) (ts : List Tbl) (v : D) (c : Cs) : fDrop (fCall m_check_near (aCons (fCall m_Puzzle_init (aCons (fVar 0) (aCons (fC (.int 0)) (aCons (fLst aNil) aNil)))) (aCons (fVar 1) aNil))) (saE w m ts v) c = some (.nx, saE w m ts v, c) :=
  drop_of ((call_of (aC ((call_of (aC rfl (aC rfl (aC (lst_of aN (by decide)) aN)))).trans (s_pz w ts c)) (aC rfl aN))).trans (s_check_near h ts c))
/-- any other value -/
theorem s_sa_other {w m : Nat} (h : NR w m) (ts : List Tbl) (v : D) (c : Cs) (hv : isiD (fun _ => false) (tc_cls 4 3) c v = some false) : m_shows_agreement [bobj w ts, .int m, v] c = some (.bl false, c) := by
  refine mOf_rt (env1 := saE w m ts v) rfl ((fSeq_nx (s_sa0 h ts v c)).trans (fSeq_rt ((fIte_t (or_t (not_of (b := false) (asB_of (isi_of (x := v) (c1 := c) rfl hv))))).trans (fRet_of rfl))))
theorem isi_op (w n : Nat) (cells : List Int) (c : Cs) : isiD (fun _ => false) (tc_cls 4 3) c (oobj w n cells) = some true := rfl
/-- an operation of another width, another arity -/
theorem s_sa_unlike {w m : Nat} (h : NR w m) (ts : List Tbl) (w' n' : Nat) (cells : List Int) (c : Cs) (hv : w' ≠ w ∨ n' ≠ m + 1) : m_shows_agreement [bobj w ts, .int m, oobj w' n' cells] c = some (.bl false, c) := by
  refine mOf_rt (env1 := saE w m ts (oobj w' n' cells)) rfl ((fSeq_nx (s_sa0 h ts (oobj w' n' cells) c)).trans (fSeq_rt ((fIte_t ((or_f (c1 := c) (not_of (b := true) (asB_of (isi_of (x := oobj w' n' cells) (c1 := c) rfl (isi_op w' n' cells c))))).trans ?_)).trans (fRet_of rfl))))
  have e1 : asB (fOp oNe (fFld [(0, 0), (1, 0), (3, 0)] (fVarQ 2)) (fFld [(0, 0), (1, 0), (3, 0)] (fVarQ 0))) (saE w m ts (oobj w' n' cells)) c = some (!decide ((w' : Int) = w), c) := asB_of ((op_of (f_width w' n' cells rfl) (f_bwidth w ts rfl)).trans (oNe_int _ _ c))
  by_cases hw : w' = w
  · rw [decide_eq_true (by omega)] at e1
    refine (or_f e1).trans (asB_of ((op_of (f_arity w' n' cells rfl) ((op_of (x := .int m) (y := .int 1) (c1 := c) (c2 := c) rfl rfl).trans rfl)).trans ((oNe_int _ _ c).trans ?_)))
    rw [decide_eq_false (by rcases hv with hv | hv <;> omega)]; rfl
  · rw [decide_eq_false (by omega)] at e1
    exact or_t e1
def showsB (w m : Nat) (ts : List Tbl) (cells : List Int) : Bool := agr w (m + 1) cells && ts.all fun t => keepsB w cells (m + 1) t.1 t.2
theorem s_sa {w m : Nat} (h : NR w m) (ts : List Tbl) (hts : ts.length ≤ 1000) (hg : ∀ t ∈ ts, GT w t.1 t.2 ∧ Few t.2 (m + 1)) {cells : List Int} (hc : Cl w (m + 1) cells) (c : Cs) : m_shows_agreement [bobj w ts, .int m, oobj w (m + 1) cells] c = some (.bl (showsB w m ts cells), c) := by
  have e1 : asB (fOp oNe (fFld [(0, 0), (1, 0), (3, 0)] (fVarQ 2)) (fFld [(0, 0), (1, 0), (3, 0)] (fVarQ 0))) (saE w m ts (oobj w (m + 1) cells)) c = some (false, c) := by
    refine asB_of ((op_of (f_width w (m + 1) cells rfl) (f_bwidth w ts rfl)).trans ((oNe_int _ _ c).trans ?_))
    rw [decide_eq_true rfl]; rfl
  have e2 : asB (fOp oNe (fFld [(0, 1), (3, 1)] (fVarQ 2)) (fOp oAdd (fVarQ 1) (fC (.int 1)))) (saE w m ts (oobj w (m + 1) cells)) c = some (false, c) := by
    refine asB_of ((op_of (f_arity w (m + 1) cells rfl) ((op_of (x := .int m) (y := .int 1) (c1 := c) (c2 := c) rfl rfl).trans rfl)).trans ((oNe_int _ _ c).trans ?_))
    rw [decide_eq_true (by omega)]; rfl
  refine mOf_rt (env1 := saE w m ts (oobj w (m + 1) cells)) rfl ((fSeq_nx (s_sa0 h ts _ c)).trans ((fSeq_nx (env1 := saE w m ts (oobj w (m + 1) cells)) (c1 := c) ((fIte_f ((or_f (c1 := c) (not_of (b := true) (asB_of (isi_of (x := oobj w (m + 1) cells) (c1 := c) rfl (isi_op w (m + 1) cells c))))).trans ((or_f e1).trans e2))).trans rfl)).trans (fRet_of ?_)))
  have e3 : fMeth ms_agrees_Operation (fVar 2) aNil (saE w m ts (oobj w (m + 1) cells)) c = some (.bl (agr w (m + 1) cells), c) := (meth_of (k := 3) (x := oobj w (m + 1) cells) (c1 := c) (c2 := c) (ys := []) rfl rfl rfl rfl).trans (s_agreesP hc c)
  unfold showsB
  cases ha : agr w (m + 1) cells with
  | false => rw [ha] at e3; exact andV_f e3
  | true =>
    rw [ha] at e3
    refine (andV_t e3).trans ?_
    have e4 : fComp (fIt (fProp ms_tables_Book (fVar 0))) (gSet 3) fYes (fOp oIs (fCall m_breaks (aCons (fVar 2) (aCons (fVar 3) aNil))) (fC .non)) [3] (saE w m ts (oobj w (m + 1) cells)) c = some (.lst ((ts.map fun t => keepsB w cells (m + 1) t.1 t.2).map D.bl), c) := by
      rw [List.map_map]
      refine comp_of (c1 := c) (it_lst ((prop_of (k := 1) rfl rfl rfl).trans (s_Book_tables w ts c))) (compD_map (h := fun t : Tbl => tobj w t.1 t.2) (r := fun t => D.bl (keepsB w cells (m + 1) t.1 t.2)) fun t ht => ?_) (by rw [List.length_map]; exact lim_le hts)
      obtain ⟨g, f⟩ := hg t ht
      exact ⟨[some (.f (bobj w ts)), some (.f (.int m)), some (.f (oobj w (m + 1) cells)), some (.f (tobj w t.1 t.2))], rfl, rfl, (op_of ((call_of (aC rfl (aC rfl aN))).trans (s_breaks hc g.a3 f g.row c)) rfl).trans (brk_is w cells (m + 1) t.1 t.2 c)⟩
    refine (call_of (aC e4 aN)).trans ?_
    simp only [bAll, bools?_bl, Bool.true_and, List.all_map]
    rfl
end M39
set_option Elab.async false
set_option linter.all false
set_option maxRecDepth 100000
set_option maxHeartbeats 0
namespace M39
open PySem PySem.Spec PyProof.Rows L2 Pd L39 Ma
def tabD (t : Tbl) : D := gD t.1 t.2
theorem s_program_table (w : Int) (t : Tbl) (h1 : 1 ≤ w) (h2 : w ≤ 3) (g : GT w t.1 t.2) (c : Cs) : m__law_program_table [.int w, tabD t] c = some (tobj w t.1 t.2, c) := by
  have e := s_Table w t.1 t.2 h1 h2 g c
  have i0 : oIx (tabD t) (.int 0) c = some (.int t.1, c) := by simp only [tabD, gD, oIx, ixD, deref, atI0]
  have i1 : oIx (tabD t) (.int 1) c = some (.lst (t.2.map tupI), c) := by simp only [tabD, gD, oIx, ixD, deref, atI1]
  simp only [m__law_program_table, f__law_program_table, N__law_program_table, List.map_cons, List.map_nil, List.length_cons, List.length_nil, Nat.zero_add, Nat.reduceAdd, Nat.reduceSub, List.replicate, List.cons_append, List.nil_append, List.getElem?_cons_zero, List.getElem?_cons_succ, List.set_cons_zero, List.set_cons_succ, if_true, Bool.true_or, Bool.or_true, Bool.not_true, Bool.not_false, Bool.true_and, Bool.and_true, Bool.false_or, Bool.or_false, Bool.and_self, Bool.or_self, beq_self_eq_true, decide_true, decide_false, Bool.false_eq_true, if_false, mOf, startD, fSeq, fSet, fSetO, fIte, fOr, fAnd, fNot, asB, fOp, fVar, fVarQ, fC, fCall, aCons, aNil, fIf, fRet, fNx, fDrop, fIsi, isiD, kindD, deref, isaB, tc_none, tc_cls, fLenQ, lenD, fComp, fIt, fMd, isTyM, wipeD, i0, i1, bList, seqOf, e]
theorem s_program_book (w : Int) (ts : List Tbl) (h1 : 1 ≤ w) (h2 : w ≤ 3) (hg : ∀ t ∈ ts, GT w t.1 t.2) (hl : ts.length ≤ 12) (c : Cs) : m__law_program_book [.int w, .lst (ts.map tabD)] c = some (bobj w ts, c) := by
  have a3 : ∀ q x y : Option Sl, compD (gSet 2) fYes (fCall m__law_program_table (aCons (fVar 0) (aCons (fVar 2) aNil))) (ts.map tabD) [some (.f (.int w)), q, y] c = some (ts.map fun t => tobj w t.1 t.2, c) := by
    intro q x y
    refine compD_map fun t ht => ⟨_, rfl, rfl, ?_⟩
    simp only [mOf, startD, fSeq, fSet, fSetO, fIte, fOr, fAnd, fNot, asB, fOp, fVar, fVarQ, fC, fCall, aCons, aNil, fIf, fRet, fNx, fDrop, fIsi, isiD, kindD, deref, isaB, tc_none, tc_cls, fLenQ, lenD, fComp, fIt, fMd, isTyM, wipeD, gSet, List.map_cons, List.map_nil, List.length_cons, List.length_nil, Nat.zero_add, Nat.reduceAdd, Nat.reduceSub, List.replicate, List.cons_append, List.nil_append, List.getElem?_cons_zero, List.getElem?_cons_succ, List.set_cons_zero, List.set_cons_succ, if_true, Bool.true_or, Bool.or_true, Bool.not_true, Bool.not_false, Bool.true_and, Bool.and_true, Bool.false_or, Bool.or_false, Bool.and_self, Bool.or_self, beq_self_eq_true, decide_true, decide_false, Bool.false_eq_true, if_false, s_program_table w t h1 h2 (hg t ht)]
  have a4 : (ts.map fun t => tobj w t.1 t.2).length ≤ lim := by rw [List.length_map]; exact lim_le (by omega)
  simp only [m__law_program_book, f__law_program_book, N__law_program_book, List.map_cons, List.map_nil, List.length_cons, List.length_nil, Nat.zero_add, Nat.reduceAdd, Nat.reduceSub, List.replicate, List.cons_append, List.nil_append, List.getElem?_cons_zero, List.getElem?_cons_succ, List.set_cons_zero, List.set_cons_succ, if_true, Bool.true_or, Bool.or_true, Bool.not_true, Bool.not_false, Bool.true_and, Bool.and_true, Bool.false_or, Bool.or_false, Bool.and_self, Bool.or_self, beq_self_eq_true, decide_true, decide_false, Bool.false_eq_true, if_false, mOf, startD, fSeq, fSet, fSetO, fIte, fOr, fAnd, fNot, asB, fOp, fVar, fVarQ, fC, fCall, aCons, aNil, fIf, fRet, fNx, fDrop, fIsi, isiD, kindD, deref, isaB, tc_none, tc_cls, fLenQ, lenD, fComp, fIt, fMd, isTyM, wipeD, a3 _ none, a4, s_Book w ts h1 h2, bobj]
/-- cells of any operation -/
structure CO (w n : Nat) (cells : List Int) : Prop where
  w1 : 1 ≤ w
  w3 : w ≤ 3
  n1 : 1 ≤ n
  n4 : n ≤ 4
  len : cells.length = w ^ n
  val : ∀ x ∈ cells, 0 ≤ x ∧ x < (w : Int)
theorem Cl.co {w n : Nat} {cells : List Int} (h : Cl w n cells) : CO w n cells := ⟨h.wn.w1, h.wn.w3, by have := h.wn.n3; omega, h.wn.n4, h.len, h.val⟩
abbrev oiE (w n : Nat) (cells : List Int) (x y : Option Sl) : En := [some (.o (.obj 3 [])), some (.f (.int w)), some (.f (.int n)), some (.f (intsD cells)), x, y]
theorem s_Operation {w n : Nat} {cells : List Int} (h : CO w n cells) (c : Cs) : m_Operation_init [.int w, .int n, intsD cells] c = some (oobj w n cells, c) := by
  have h1 := h.w1
  have h3 := h.w3
  have n1 := h.n1
  have n4 := h.n4
  have loop : ∃ x y, forD (gSeq 2 (gsCons (gSet 4) (gsCons (gSet 5) gsNil))) (fIte (fNot (asB (fCall m_within (aCons (fVar 5) (aCons (fC (.int 0)) (aCons (fOp oSub (fVarQ 1) (fC (.int 1))) aNil)))))) fNo fNx) (enumD 0 (cells.map D.int)) (oiE w n cells none none) c = some (.nx, oiE w n cells x y, c) := by
    rw [enumD_map]
    have key := forD_st (g := gSeq 2 (gsCons (gSet 4) (gsCons (gSet 5) gsNil))) (fb := fIte (fNot (asB (fCall m_within (aCons (fVar 5) (aCons (fC (.int 0)) (aCons (fOp oSub (fVarQ 1) (fC (.int 1))) aNil)))))) fNo fNx)
      (h := fun p : Int × Nat => .tup [.int (p.2 : Nat), .int p.1]) (fun pre env c1 => ∃ x y, env = oiE w n cells x y ∧ c1 = c) (xs := cells.zipIdx 0) (env := oiE w n cells none none) (c := c) ⟨_, _, rfl, rfl⟩
    have fin := key (by
      intro pre x post e env c1 ⟨u, v, he, hc⟩
      subst he hc
      have hm : x.1 ∈ cells := by
        have := zip_split e
        rw [this]; simp
      obtain ⟨b1, b2⟩ := h.val _ hm
      have e1 := s_within x.1 0 ((w : Int) - 1) c1
      rw [decide_eq_true b1, decide_eq_true (show x.1 ≤ (w : Int) - 1 by omega), Bool.and_self] at e1
      exact ⟨_, _, c1, rfl, (fIte_f (not_of (b := true) (asB_of ((call_of (aC rfl (aC rfl (aC ((op_of (x := .int w) (y := .int 1) (c1 := c1) (c2 := c1) rfl rfl).trans rfl) aN)))).trans e1)))).trans rfl, some (.f (.int (x.2 : Nat))), some (.f (.int x.1)), rfl, rfl⟩)
    obtain ⟨env', c', e, x, y, q1, q2⟩ := fin
    rw [e]
    subst q1 q2
    exact ⟨x, y, rfl⟩
  obtain ⟨x, y, e⟩ := loop
  have el : fOp oNe (fLenQ (fVarQ 3)) (fLenQ (fCall m_tuples_of (aCons (fVar 1) (aCons (fVar 2) aNil)))) (oiE w n cells none none) c = some (.bl false, c) := by
    refine (op_of (lenQ_of (x := intsD cells) (n := (w ^ n : Nat)) (c1 := c) rfl ?_) (lenQ_of (n := (w ^ n : Nat)) (c1 := c) ((call_of (aC rfl (aC rfl aN))).trans (s_tuples_of w n h3 n4 c)) ?_)).trans ((oNe_int _ _ c).trans ?_)
    · simp only [lenD, deref, intsD, List.length_map, h.len]
    · simp only [lenD, deref, List.length_map, tups_len]
    · rw [decide_eq_true rfl]; rfl
  refine mInit_of (env1 := [some (.o (oobj w n cells)), some (.f (.int w)), some (.f (.int n)), some (.f (intsD cells)), x, y]) rfl ?_ rfl
  refine (fSeq_nx (env1 := oiE w n cells none none) (c1 := c) (drop_of ((call_of (aC rfl aN)).trans (s_check_width w (by omega) (by omega) c)))).trans ?_
  refine (fSeq_nx (env1 := oiE w n cells none none) (c1 := c) (drop_of ((call_of (aC rfl (aC rfl aN))).trans (s_check_arity n 4 (by omega) (by omega) c)))).trans ?_
  refine (fSeq_nx (env1 := oiE w n cells none none) (c1 := c) ((fIte_f (not_of (b := true) (asB_of (isi_of (x := intsD cells) (c1 := c) rfl rfl)))).trans rfl)).trans ?_
  refine (fSeq_nx (env1 := oiE w n cells none none) (c1 := c) ((fIte_f (asB_of el)).trans rfl)).trans ?_
  refine (fSeq_nx ((fFor_of (enum_of (ds := cells.map D.int) (c1 := c) rfl)).trans e)).trans ?_
  rfl
/-- the cells of a projection -/
def takC (w n at_ : Nat) : List Int := (tups w n).map fun r => r.getD at_ 0
theorem takC_co {w n at_ : Nat} (h1 : 1 ≤ w) (h3 : w ≤ 3) (n1 : 1 ≤ n) (n4 : n ≤ 4) (ha : at_ < n) : CO w n (takC w n at_) := by
  refine ⟨h1, h3, n1, n4, by unfold takC; rw [List.length_map, tups_len], fun x hx => ?_⟩
  obtain ⟨r, hr, rfl⟩ := List.mem_map.mp hx
  obtain ⟨g1, g2⟩ := tups_mem.mp hr
  have hj : at_ < r.length := by omega
  rw [List.getD_eq_getElem?_getD, List.getElem?_eq_getElem hj]
  exact g2 _ (List.getElem_mem hj)
theorem s_taking {w n at_ : Nat} (h1 : 1 ≤ w) (h3 : w ≤ 3) (n1 : 1 ≤ n) (n4 : n ≤ 4) (ha : at_ < n) (c : Cs) : m_Operation_taking [.int w, .int n, .int at_] c = some (oobj w n (takC w n at_), c) := by
  have e1 := s_within at_ 0 ((n : Int) - 1) c
  rw [decide_eq_true (show (0 : Int) ≤ at_ by omega), decide_eq_true (show (at_ : Int) ≤ (n : Int) - 1 by omega), Bool.and_self] at e1
  have hE : ∀ r ∈ tups w n, oIx (tupI r) (.int (at_ : Nat)) c = some (.int (r.getD at_ 0), c) := fun r hr => by
    have := getD_ix (r := r) (j := at_) (by rw [(tups_mem.mp hr).1]; exact ha) c
    rwa [Int.zero_add] at this
  refine mOf_rt (env1 := [some (.f (.int w)), some (.f (.int n)), some (.f (.int at_)), none]) rfl ?_
  refine (fSeq_nx (env1 := [some (.f (.int w)), some (.f (.int n)), some (.f (.int at_)), none]) (c1 := c) (drop_of ((call_of (aC rfl aN)).trans (s_check_width w (by omega) (by omega) c)))).trans ?_
  refine (fSeq_nx (env1 := [some (.f (.int w)), some (.f (.int n)), some (.f (.int at_)), none]) (c1 := c) (drop_of ((call_of (aC rfl (aC rfl aN))).trans (s_check_arity n 4 (by omega) (by omega) c)))).trans ?_
  refine (fSeq_nx (env1 := [some (.f (.int w)), some (.f (.int n)), some (.f (.int at_)), none]) (c1 := c) ((fIte_f (not_of (b := true) (asB_of ((call_of (aC rfl (aC rfl (aC ((op_of (x := .int n) (y := .int 1) (c1 := c) (c2 := c) rfl rfl).trans rfl) aN)))).trans e1)))).trans rfl)).trans ?_
  refine fRet_of ((call_of (aC rfl (aC rfl (aC (d := intsD (takC w n at_)) (c1 := c) (comp_of (c1 := c) (it_lst ((call_of (aC rfl (aC rfl aN))).trans (s_tuples_of w n h3 n4 c))) ?_ ?_) aN)))).trans (s_Operation (takC_co h1 h3 n1 n4 ha) c))
  · have : (takC w n at_).map D.int = (tups w n).map fun r => D.int (r.getD at_ 0) := by unfold takC; rw [List.map_map]; rfl
    rw [this]
    exact compD_map fun r hr => ⟨[some (.f (.int w)), some (.f (.int n)), some (.f (.int at_)), some (.f (tupI r))], rfl, rfl, (op_of (x := tupI r) (y := .int at_) (c1 := c) (c2 := c) rfl rfl).trans (hE r hr)⟩
  · unfold takC
    rw [List.length_map, List.length_map, tups_len]
    exact Nat.le_trans (pow_small h3 n4 (Nat.le_refl n)) (by decide)
theorem tups_str : [(1, 1), (1, 2), (1, 3), (2, 1), (2, 2), (2, 3), (3, 1), (3, 2), (3, 3)].all (fun p => gtB.strB (tups p.1 p.2)) = true := by decide +kernel
theorem tups_gt {w a : Nat} (h1 : 1 ≤ w) (h3 : w ≤ 3) (a1 : 1 ≤ a) (a3 : a ≤ 3) : GT w a (tups w a) := by
  refine ⟨a1, a3, fun r hr => tups_mem.mp hr, strB_ok ?_, ?_⟩
  · have hm : (w, a) ∈ [(1, 1), (1, 2), (1, 3), (2, 1), (2, 2), (2, 3), (3, 1), (3, 2), (3, 3)] := by
      rcases (show w = 1 ∨ w = 2 ∨ w = 3 by omega) with rfl | rfl | rfl <;> rcases (show a = 1 ∨ a = 2 ∨ a = 3 by omega) with rfl | rfl | rfl <;> simp
    exact List.all_eq_true.mp tups_str _ hm
  · rw [tups_len]
    have h2 : w ^ a ≤ 3 ^ 3 := Nat.le_trans (Nat.pow_le_pow_left h3 a) (Nat.pow_le_pow_right (by decide) a3)
    exact Nat.le_trans h2 (by decide)
theorem s_full {w : Nat} (h1 : 1 ≤ w) (h3 : w ≤ 3) (c : Cs) : m_Table_full [.int w, .int (1 : Nat)] c = some (tobj w 1 (tups w 1), c) := by
  refine mOf_rt (env1 := [some (.f (.int w)), some (.f (.int (1 : Nat)))]) rfl ?_
  refine (fSeq_nx (env1 := [some (.f (.int w)), some (.f (.int (1 : Nat)))]) (c1 := c) (drop_of ((call_of (aC rfl aN)).trans (s_check_width w (by omega) (by omega) c)))).trans ?_
  refine (fSeq_nx (env1 := [some (.f (.int w)), some (.f (.int (1 : Nat)))]) (c1 := c) (drop_of ((call_of (aC rfl (aC rfl aN))).trans (s_check_arity (1 : Nat) 3 (by decide) (by decide) c)))).trans ?_
  exact fRet_of ((call_of (aC rfl (aC rfl (aC ((call_of (aC rfl (aC rfl aN))).trans (s_tuples_of w 1 h3 (by decide) c)) aN)))).trans (s_Table w 1 (tups w 1) (by omega) (by omega) (tups_gt h1 h3 (by decide) (by decide)) c))
end M39
set_option Elab.async false
set_option linter.all false
set_option maxRecDepth 100000
set_option maxHeartbeats 0
namespace M39
open PySem PySem.Spec PyProof.Rows L2 Pd L39 Ma
abbrev lgE (w n : Nat) (cells : List Int) (x y z : Option Sl) : En := [some (.f (.int w)), some (.f (.int n)), some (.f (intsD cells)), x, y, z]
abbrev lgI : FS := fIte (fAnd (asB (fOp oLe (fLenQ (fComp (fIt (fVar 3)) (gSet 5) (asB (fOp oNe (fVarQ 5) (fVarQ 4))) (fVar 5) [5])) (fC (.int 1)))) (asB (fOp oNe (fCall m__law_cell (aCons (fVar 0) (aCons (fVar 2) (aCons (fVar 3) aNil)))) (fVarQ 4)))) (fRet (fC (.bl false))) fNx
theorem s_lagrees {w n : Nat} {cells : List Int} (h : Cl w n cells) (c : Cs) : m__law_agrees [.int w, .int n, intsD cells] c = some (.bl (agr w n cells), c) := by
  have hn3 := h.wn.n3
  have hn4 := h.wn.n4
  obtain ⟨env', e, hi⟩ := forD_any (g := gSet 3) (fb := fFor (fRg1 (aCons (fVarQ 0) aNil)) (gSet 4) lgI) (h := tupI) (d := .bl false) (c := c) (fun env => ∃ x y z, env = lgE w n cells x y z) (p := fun r => badL w r (cellV w cells r)) (tups w n) (lgE w n cells none none none) ⟨_, _, _, rfl⟩ (by
    rintro r hr env ⟨x, y, z, rfl⟩
    have g := tups_mem.mp hr
    obtain ⟨env2, e2, y2, z2, rfl⟩ := forD_any (g := gSet 4) (fb := lgI) (h := D.int) (d := .bl false) (c := c) (fun env => ∃ y z, env = lgE w n cells (some (.f (tupI r))) y z) (p := fun v => decide (((cntNe r v : Nat) : Int) ≤ 1) && !decide (cellV w cells r = v)) (rgI w) (lgE w n cells (some (.f (tupI r))) y z) ⟨_, _, rfl⟩ (by
      rintro v hv env ⟨y, z, rfl⟩
      refine ⟨lgE w n cells (some (.f (tupI r))) (some (.f (.int v))) z, lgE w n cells (some (.f (tupI r))) (some (.f (.int v))) z, rfl, ?_, ⟨_, _, rfl⟩⟩
      refine rt_if (and_dec (asB_of ((op_of (comp_cnt r v (i := 4) (j := 5) (it_tup rfl) (by rw [g.1]; omega) (by show 5 < 6; decide) (by decide) rfl) rfl).trans (le_dec _ _ c))) fun _ => asB_of ((op_of (x := .int (cellV w cells r)) (y := .int v) (c1 := c) (c2 := c) ((call_of (aC rfl (aC rfl (aC rfl aN)))).trans (s_lcell h.wn.w1 h.wn.w3 h.len g (.inl rfl) c)) rfl).trans (oNe_int _ _ c))))
    refine ⟨lgE w n cells (some (.f (tupI r))) y z, lgE w n cells (some (.f (tupI r))) y2 z2, rfl, ?_, ⟨_, _, _, rfl⟩⟩
    refine (fFor_of (c1 := c) (FI_rg (x1 := .int n) h.wn.w3 rfl)).trans ?_
    exact e2)
  obtain ⟨x, y, z, rfl⟩ := hi
  unfold agr
  have hfor : fFor (fIt (fCall m__law_all (aCons (fVar 0) (aCons (fVar 1) aNil)))) (gSet 3) (fFor (fRg1 (aCons (fVarQ 0) aNil)) (gSet 4) lgI) (lgE w n cells none none none) c = some (if (tups w n).any (fun r => badL w r (cellV w cells r)) then .rt (.bl false) else .nx, lgE w n cells x y z, c) :=
    (fFor_of (it_lst ((call_of (aC rfl (aC rfl aN))).trans (s_lall w n h.wn.w3 hn4 c)))).trans e
  cases hp : (tups w n).any fun r => badL w r (cellV w cells r) with
  | true =>
    rw [hp, if_pos rfl] at hfor
    exact mOf_rt rfl (fSeq_rt hfor)
  | false =>
    rw [hp, if_neg Bool.false_ne_true] at hfor
    refine mOf_rt rfl ((fSeq_nx hfor).trans (fRet_of ((op_of (x := .int n) (y := .int 3) (c1 := c) (c2 := c) rfl rfl).trans ?_)))
    show some (D.bl (decide ((n : Int) ≥ 3)), c) = _
    rw [decide_eq_true (by omega)]; rfl
/-! ### drawn rows -/
theorem s_takeN (c : Cs) (k m : Nat) (hc : Fd k c) (hm : 0 < m) (hm2 : m ≤ 1000) : ∃ (r : Nat) (c' : Cs), r < m ∧ m__law_take [.cell k, .int m] c = some (.int r, c') ∧ FdTo k c c' := by
  obtain ⟨r, c', h0, h1, e, f⟩ := s_take c k m hc (by omega) (by omega)
  obtain ⟨j, rfl⟩ := Int.eq_ofNat_of_zero_le h0
  exact ⟨j, c', by omega, e, f⟩
theorem ints_of {w : Nat} : ∀ {ys : List D}, (∀ y ∈ ys, ∃ v : Int, y = .int v ∧ 0 ≤ v ∧ v < (w : Int)) → ∃ r : List Int, ys = r.map D.int ∧ ∀ x ∈ r, 0 ≤ x ∧ x < (w : Int)
  | [], _ => ⟨[], rfl, fun x hx => by cases hx⟩
  | y :: ys, h => by
    obtain ⟨v, rfl, hv⟩ := h y (List.mem_cons_self ..)
    obtain ⟨r, rfl, hr⟩ := ints_of fun z hz => h z (List.mem_cons_of_mem _ hz)
    refine ⟨v :: r, rfl, fun x hx => ?_⟩
    rcases List.mem_cons.mp hx with rfl | hx
    · exact hv
    · exact hr x hx
theorem s_drow (c : Cs) (k w a : Nat) (hc : Fd k c) (hw : 1 ≤ w) (hw3 : w ≤ 3) (ha : a ≤ 3) : ∃ (r : List Int) (c' : Cs), m__law_drawn_row [.cell k, .int w, .int a] c = some (tupI r, c') ∧ GRow w a r ∧ FdTo k c c' := by
  obtain ⟨ys, c', e, f, hl, hR⟩ := compD_st (g := gSet 3) (ft := fYes) (fe := fCall m__law_take (aCons (fVar 0) (aCons (fVar 1) aNil))) (h := fun i : Nat => D.int ((0 : Int) + (i : Nat))) (env := [some (.f (.cell k)), some (.f (.int w)), some (.f (.int a)), none]) (P := fun c1 => FdTo k c c1) (R := fun _ d => ∃ v : Int, d = .int v ∧ 0 ≤ v ∧ v < (w : Int)) (xs := List.range a) (c := c) (.refl hc) (by
    intro x hx c1 p1
    obtain ⟨r, c2, h1, e1, f1⟩ := s_takeN c1 k w p1.fd hw (by omega)
    exact ⟨[some (.f (.cell k)), some (.f (.int w)), some (.f (.int a)), some (.f (.int ((0 : Int) + (x : Nat))))], .int r, c2, rfl, rfl, (call_of (aC rfl (aC rfl aN))).trans e1, p1.trans f1, r, rfl, by omega, by omega⟩)
  obtain ⟨r, rfl, hr⟩ := ints_of (w := w) fun y hy => let ⟨_, _, h⟩ := hR y hy; h
  rw [List.length_map, List.length_range] at hl
  refine ⟨r, c', mOf_rt (env1 := [some (.f (.cell k)), some (.f (.int w)), some (.f (.int a)), none]) rfl (fRet_of ((call_of (aC (comp_of (c1 := c) (fRg1_of (aC rfl aN) (by rw [small62_of] <;> omega) (Int.toNat_natCast a)) e (by rw [List.length_map, hl]; exact lim_le (by omega))) aN)).trans rfl)), ⟨hl, hr⟩, f⟩
theorem rows_of {w a : Nat} : ∀ {ys : List D}, (∀ y ∈ ys, ∃ r : List Int, y = tupI r ∧ GRow w a r) → ∃ rs : List (List Int), ys = rs.map tupI ∧ ∀ r ∈ rs, GRow w a r
  | [], _ => ⟨[], rfl, fun x hx => by cases hx⟩
  | y :: ys, h => by
    obtain ⟨v, rfl, hv⟩ := h y (List.mem_cons_self ..)
    obtain ⟨r, rfl, hr⟩ := rows_of fun z hz => h z (List.mem_cons_of_mem _ hz)
    refine ⟨v :: r, rfl, fun x hx => ?_⟩
    rcases List.mem_cons.mp hx with rfl | hx
    · exact hv
    · exact hr x hx
theorem s_drows (c : Cs) (k w a : Nat) (hc : Fd k c) (hw : 1 ≤ w) (hw3 : w ≤ 3) (ha : a ≤ 3) : ∃ (rs : List (List Int)) (c' : Cs), m__law_drawn_rows [.cell k, .int w, .int a, .int (4 : Nat)] c = some (.lst (rs.map tupI), c') ∧ (∀ r ∈ rs, GRow w a r) ∧ rs.length ≤ 4 ∧ FdTo k c c' := by
  obtain ⟨m, c1, hm, e1, f1⟩ := s_takeN c k 5 hc (by decide) (by decide)
  obtain ⟨ys, c', e, f, hl, hR⟩ := compD_st (g := gSet 4) (ft := fYes) (fe := fCall m__law_drawn_row (aCons (fVar 0) (aCons (fVar 1) (aCons (fVar 2) aNil)))) (h := fun i : Nat => D.int ((0 : Int) + (i : Nat))) (env := [some (.f (.cell k)), some (.f (.int w)), some (.f (.int a)), some (.f (.int (4 : Nat))), none]) (P := fun c2 => FdTo k c1 c2) (R := fun _ d => ∃ r : List Int, d = tupI r ∧ GRow w a r) (xs := List.range m) (c := c1) (.refl f1.fd) (by
    intro x hx c2 p1
    obtain ⟨r, c3, e1, g, f2⟩ := s_drow c2 k w a p1.fd hw hw3 ha
    exact ⟨[some (.f (.cell k)), some (.f (.int w)), some (.f (.int a)), some (.f (.int (4 : Nat))), some (.f (.int ((0 : Int) + (x : Nat))))], tupI r, c3, rfl, rfl, (call_of (aC rfl (aC rfl (aC rfl aN)))).trans e1, p1.trans f2, r, rfl, g⟩)
  obtain ⟨rs, rfl, hr⟩ := rows_of (w := w) (a := a) fun y hy => let ⟨_, _, h⟩ := hR y hy; h
  rw [List.length_map, List.length_range] at hl
  refine ⟨rs, c', mOf_rt (env1 := [some (.f (.cell k)), some (.f (.int w)), some (.f (.int a)), some (.f (.int (4 : Nat))), none]) rfl (fRet_of (comp_of (c1 := c1) (fRg1_of (j := (m : Nat)) (c1 := c1) (aC ((call_of (aC rfl (aC ((op_of (x := .int (4 : Nat)) (y := .int 1) (c1 := c) (c2 := c) rfl rfl).trans rfl) aN))).trans e1) aN) (by rw [small62_of] <;> omega) (Int.toNat_natCast m)) e (by rw [List.length_map, hl]; exact lim_le (by omega)))), hr, by omega, f1.trans f⟩
end M39
set_option Elab.async false
set_option linter.all false
set_option maxRecDepth 100000
set_option maxHeartbeats 0
namespace M39
open PySem PySem.Spec PyProof.Rows L2 Pd L39 Ma
/-- rows that a set may hold -/
def RW (w a : Nat) (rs : List (List Int)) : Prop := ∀ r ∈ rs, GRow w a r
theorem sortL_gt {w a : Nat} (h3 : w ≤ 3) (a1 : 1 ≤ a) (a3 : a ≤ 3) {rs : List (List Int)} (h : RW w a rs) : GT w a (sortL rs) := by
  refine ⟨a1, a3, fun r hr => h r (mem_sortL.mp hr), str_sortL rs, ?_⟩
  have hn : (sortL rs).Nodup := (str_sortL rs).imp fun {x y} hxy e => by subst e; exact ltI_irrefl _ hxy
  have h1 := L2.nodup_len (D := tups w a) hn fun r hr => tups_mem.mpr (h r (mem_sortL.mp hr))
  rw [tups_len] at h1
  have h2 : w ^ a ≤ 3 ^ 3 := Nat.le_trans (Nat.pow_le_pow_left h3 a) (Nat.pow_le_pow_right (by decide) a3)
  exact Nat.le_trans h1 (Nat.le_trans h2 (by decide))
theorem sortL_len27 {w a : Nat} (h3 : w ≤ 3) (a3 : a ≤ 3) {rs : List (List Int)} (h : RW w a rs) : (sortL rs).length < 63 := by
  have hn : (sortL rs).Nodup := (str_sortL rs).imp fun {x y} hxy e => by subst e; exact ltI_irrefl _ hxy
  have h1 := L2.nodup_len (D := tups w a) hn fun r hr => tups_mem.mpr (h r (mem_sortL.mp hr))
  rw [tups_len] at h1
  have h2 : w ^ a ≤ 3 ^ 3 := Nat.le_trans (Nat.pow_le_pow_left h3 a) (Nat.pow_le_pow_right (by decide) a3)
  exact Nat.lt_of_le_of_lt (Nat.le_trans h1 h2) (by decide)
theorem sset_of {w a : Nat} (h3 : w ≤ 3) (a1 : 1 ≤ a) (a3 : a ≤ 3) {rs : List (List Int)} (h : RW w a rs) {f : FE} {env : En} {c c1 : Cs} (e : f env c = some (.lst (rs.map tupI), c1)) : fSortSetB f env c = some (.lst ((sortL rs).map tupI), c1) := by
  have hok : rowsOkB rs = true := by
    unfold rowsOkB
    rw [Bool.and_eq_true, decide_eq_true_eq, List.all_eq_true]
    refine ⟨sortL_len27 h3 a3 h, fun r hr => ?_⟩
    simp only [Bool.and_eq_true, decide_eq_true_eq, List.all_eq_true]
    refine ⟨⟨by rw [(h r hr).1]; exact a1, fun s hs => by rw [(h s hs).1, (h r hr).1]⟩, fun x hx => ?_⟩
    have := (h r hr).2 x hx
    omega
  simp only [fSortSetB, e, tupsI?_of, hok, if_true]
def mostN (n : Nat) : Nat := if n < 4 then 9 else 6
abbrev clE (w n a : Nat) (cells : List Int) (rs F : List (List Int)) (x y z : Option Sl) : En := [some (.f (.int w)), some (.f (.lst [.int n, intsD cells])), some (.f (.int a)), some (.f (.lst (rs.map tupI))), some (.f (.lst (F.map tupI))), some (.f (.int (mostN n : Nat))), x, y, z]
abbrev clB : FS := fSeq (fIte (asB (fOp oGt (fLenQ (fVarQ 4)) (fVarQ 5))) (fRet (fCall m__law_all (aCons (fVar 0) (aCons (fVar 2) aNil)))) fNx)
  (fSeq (fSet 7 (fComp (fIt (fCall m__law_together (aCons (fVar 4) (aCons (fOp oIx (fVarQ 1) (fC (.int 0))) aNil)))) (gSet 8) fYes (fCall m__law_given (aCons (fVar 0) (aCons (fOp oIx (fVarQ 1) (fC (.int 1))) (aCons (fVar 8) aNil)))) [8]))
  (fSet 4 (fSortSetB (fOp oAdd (fVarQ 4) (fVarQ 7)))))
theorem cl_turn {w n a : Nat} {cells : List Int} (h : Cl w n cells) (a1 : 1 ≤ a) (a3 : a ≤ 3) (rs F : List (List Int)) (hF : GT w a F) (x y z : Option Sl) (c : Cs) :
    (∃ env', clB (clE w n a cells rs F x y z) c = some (.rt (.lst ((tups w a).map tupI)), env', c)) ∨ ∃ F' y', GT w a F' ∧ clB (clE w n a cells rs F x y z) c = some (.nx, clE w n a cells rs F' x y' z, c) := by
  have hgt : asB (fOp oGt (fLenQ (fVarQ 4)) (fVarQ 5)) (clE w n a cells rs F x y z) c = some (decide ((F.length : Int) > (mostN n : Nat)), c) := by
    refine asB_of ((op_of (x := .int (F.length : Nat)) (y := .int (mostN n : Nat)) (c1 := c) (c2 := c) (lenQ_of (x := .lst (F.map tupI)) rfl ?_) rfl).trans rfl)
    simp only [lenD, deref, List.length_map]
  by_cases hm : F.length > mostN n
  · left
    rw [decide_eq_true (by omega)] at hgt
    exact ⟨_, fSeq_rt ((fIte_t hgt).trans (fRet_of ((call_of (aC rfl (aC rfl aN))).trans (s_lall w a h.wn.w3 (by omega) c))))⟩
  · right
    rw [decide_eq_false (by omega)] at hgt
    have hn3 := h.wn.n3
    have hn4 := h.wn.n4
    have few : Few F n := few_of (by
      unfold mostN at hm
      split at hm
      · exact .inl ⟨by omega, by omega⟩
      · exact .inr ⟨by omega, by omega⟩)
    let more := (grow F n).map (givV w cells a)
    have hmore : RW w a more := fun r hr => by
      obtain ⟨S, hS, rfl⟩ := List.mem_map.mp hr
      obtain ⟨h1, h2⟩ := (grow_mem F n S).mp hS
      exact giv_row h h1 fun r hr' => hF.row r (h2 r hr')
    have hall : RW w a (F ++ more) := fun r hr => (List.mem_append.mp hr).elim (hF.row r) (hmore r)
    have hml : more.length ≤ 2000 := by
      show ((grow F n).map _).length ≤ 2000
      rw [List.length_map, grow_len]; exact few.2.1 n (Nat.le_refl n)
    have hFl := few.len
    refine ⟨sortL (F ++ more), some (.f (.lst (more.map tupI))), sortL_gt h.wn.w3 a1 a3 hall, ?_⟩
    refine (fSeq_nx (env1 := clE w n a cells rs F x y z) (c1 := c) ((fIte_f hgt).trans rfl)).trans ?_
    have i0 : fOp oIx (fVarQ 1) (fC (.int 0)) (clE w n a cells rs F x y z) c = some (.int n, c) := (op_of rfl rfl).trans (by simp only [oIx, ixD, deref, atI0])
    refine (fSeq_nx (env1 := clE w n a cells rs F x (some (.f (.lst (more.map tupI)))) z) (c1 := c) (set_of (comp_of (c1 := c) (it_lst ((call_of (aC rfl (aC i0 aN))).trans (s_ltog few c))) ?_ ?_))).trans ?_
    · show compD _ _ _ ((grow F n).map (lstH tupI)) _ c = some (((grow F n).map (givV w cells a)).map tupI, c)
      rw [List.map_map]
      refine compD_map fun S hS => ?_
      obtain ⟨h1, h2⟩ := (grow_mem F n S).mp hS
      refine ⟨[some (.f (.int w)), some (.f (.lst [.int n, intsD cells])), some (.f (.int a)), some (.f (.lst (rs.map tupI))), some (.f (.lst (F.map tupI))), some (.f (.int (mostN n : Nat))), x, y, some (.f (lstH tupI S))], rfl, rfl, ?_⟩
      refine (call_of (aC rfl (aC (d := intsD cells) (c1 := c) ((op_of rfl rfl).trans (by simp only [oIx, ixD, deref, atI1])) (aC rfl aN)))).trans (s_lgiven h a3 h1 (fun r hr' => hF.row r (h2 r hr')) c)
    · rw [List.length_map]; exact Nat.le_trans hml (by decide)
    · refine (set_of (sset_of h.wn.w3 a1 a3 hall ((op_of (x := .lst (F.map tupI)) (y := .lst (more.map tupI)) (c1 := c) (c2 := c) rfl rfl).trans ?_))).trans rfl
      have hL : lim = 1000000 := rfl
      simp only [oAdd, List.length_map, show F.length + more.length ≤ lim by omega, if_true, List.map_append]
end M39
set_option Elab.async false
set_option linter.all false
set_option maxRecDepth 100000
set_option maxHeartbeats 0
namespace M39
open PySem PySem.Spec PyProof.Rows L2 Pd L39 Ma
theorem cl_loop {w n a : Nat} {cells : List Int} (h : Cl w n cells) (a1 : 1 ≤ a) (a3 : a ≤ 3) (rs : List (List Int)) (c : Cs) : ∀ (t : Nat) (i : Int) (F : List (List Int)) (x y z : Option Sl), GT w a F →
    (∃ env', forD (gSet 6) clB (rangeD i t) (clE w n a cells rs F x y z) c = some (.rt (.lst ((tups w a).map tupI)), env', c)) ∨ ∃ F' x' y', GT w a F' ∧ forD (gSet 6) clB (rangeD i t) (clE w n a cells rs F x y z) c = some (.nx, clE w n a cells rs F' x' y' z, c)
  | 0, i, F, x, y, z, hF => .inr ⟨F, x, y, hF, rfl⟩
  | t + 1, i, F, x, y, z, hF => by
    rw [rangeD_succ]
    rcases cl_turn h a1 a3 rs F hF (some (.f (.int i))) y z c with ⟨env', e⟩ | ⟨F', y', g, e⟩
    · exact .inl ⟨env', forD_rt (env1 := clE w n a cells rs F (some (.f (.int i))) y z) rfl e⟩
    · rw [forD_step (env1 := clE w n a cells rs F (some (.f (.int i))) y z) rfl e]
      exact cl_loop h a1 a3 rs c t (i + 1) F' _ y' z g
theorem s_closed {w n a : Nat} {cells : List Int} (h : Cl w n cells) (a1 : 1 ≤ a) (a3 : a ≤ 3) {rs : List (List Int)} (hr : RW w a rs) (c : Cs) : ∃ F, GT w a F ∧ m__law_closed [.int w, .lst [.int n, intsD cells], .int a, .lst (rs.map tupI)] c = some (.lst (F.map tupI), c) := by
  have n3 := h.wn.n3
  have n4 := h.wn.n4
  let E0 : En := [some (.f (.int w)), some (.f (.lst [.int n, intsD cells])), some (.f (.int a)), some (.f (.lst (rs.map tupI))), none, none, none, none, none]
  have i0 : fOp oIx (fVarQ 1) (fC (.int 0)) E0 c = some (.int n, c) := (op_of rfl rfl).trans (by simp only [oIx, ixD, deref, atI0])
  have hlt : asB (fOp oLt (fOp oIx (fVarQ 1) (fC (.int 0))) (fC (.int 4))) E0 c = some (decide ((n : Int) < 4), c) := asB_of ((op_of i0 rfl).trans rfl)
  have hif : fIf (asB (fOp oLt (fOp oIx (fVarQ 1) (fC (.int 0))) (fC (.int 4)))) (fC (.int 9)) (fC (.int 6)) E0 c = some (.int (mostN n : Nat), c) := by
    unfold mostN
    by_cases hn : n < 4
    · rw [decide_eq_true (by omega)] at hlt
      rw [if_pos hn]; exact (if_t hlt).trans rfl
    · rw [decide_eq_false (by omega)] at hlt
      rw [if_neg hn]; exact (if_f hlt).trans rfl
  have start : fPar 4 5 (xF (fSortSetB (fVarQ 3))) (xF (fIf (asB (fOp oLt (fOp oIx (fVarQ 1) (fC (.int 0))) (fC (.int 4)))) (fC (.int 9)) (fC (.int 6)))) E0 c = some (.nx, clE w n a cells rs (sortL rs) none none none, c) :=
    (par_of (xF_of (sset_of h.wn.w3 a1 a3 hr rfl)) (xF_of hif)).trans rfl
  rcases cl_loop h a1 a3 rs c 10 0 (sortL rs) none none none (sortL_gt h.wn.w3 a1 a3 hr) with ⟨env', e⟩ | ⟨F', x', y', g, e⟩
  · exact ⟨tups w a, tups_gt h.wn.w1 h.wn.w3 a1 a3, mOf_rt rfl ((fSeq_nx start).trans (fSeq_rt ((fFor_of (fRg1_of (j := 10) (aC rfl aN) (by decide) rfl)).trans e)))⟩
  · exact ⟨F', g, mOf_rt rfl ((fSeq_nx start).trans ((fSeq_nx ((fFor_of (fRg1_of (j := 10) (aC rfl aN) (by decide) rfl)).trans e)).trans (fRet_of rfl)))⟩
/-! ### the cells of a drawn agreement -/
abbrev agE (k w n : Nat) (L : List Int) (x4 x5 x6 x7 : Option Sl) : En := [some (.f (.cell k)), some (.f (.int w)), some (.f (.int n)), some (.o (intsD L)), x4, x5, x6, x7]
abbrev agM : FE := fComp (fRg1 (aCons (fVarQ 1) aNil)) (gSet 6) (asB (fOp oGe (fLenQ (fComp (fIt (fVar 4)) (gSet 7) (asB (fOp oEq (fVarQ 7) (fVarQ 6))) (fVar 7) [7])) (fOp oSub (fVarQ 2) (fC (.int 1))))) (fVar 6) [6]
abbrev agB : FS := fSeq (fSet 5 agM) (fMutO "list" uApp 3 (aCons (fIf (asB (fOp oNe (fVarQ 5) (fLst aNil))) (fOp oIx (fVarQ 5) (fC (.int 0))) (fCall m__law_take (aCons (fVar 0) (aCons (fVar 1) aNil)))) aNil))
def manyP (n : Nat) (r : List Int) (v : Int) : Bool := decide (((r.filter fun x => decide (x = v)).length : Int) ≥ (n : Int) - 1)
def mostL (w n : Nat) (r : List Int) : List Int := (rgI w).filter (manyP n r)
theorem ag_most {k w n : Nat} (hw3 : w ≤ 3) (hn : n ≤ 4) (L : List Int) (r : List Int) (hr : r.length = n) (x5 x6 x7 : Option Sl) (c : Cs) : agM (agE k w n L (some (.f (tupI r))) x5 x6 x7) c = some (intsD (mostL w n r), c) := by
  have hrg : fRg1 (aCons (fVarQ 1) aNil) (agE k w n L (some (.f (tupI r))) x5 x6 x7) c = some ((rgI w).map D.int, c) := by
    rw [← rangeD_ints]
    exact fRg1_of (j := (w : Nat)) (aC rfl aN) (by rw [small62_of] <;> omega) (Int.toNat_natCast w)
  refine comp_of (c1 := c) hrg (compD_filter (h := D.int) (p := manyP n r) fun v hv => ?_) ?_
  · refine ⟨agE k w n L (some (.f (tupI r))) x5 (some (.f (.int v))) x7, rfl, ?_, rfl⟩
    refine asB_of ((op_of (x := .int ((r.filter fun x => decide (x = v)).length : Nat)) (y := .int ((n : Int) - 1)) (c1 := c) (c2 := c) (lenQ_of (x := .lst ((r.filter fun x => decide (x = v)).map D.int)) (c1 := c) (comp_of (c1 := c) (it_tup rfl) (compD_filter (p := fun x => decide (x = v)) fun x hx => ?_) ?_) ?_) ((op_of (x := .int n) (y := .int 1) (c1 := c) (c2 := c) rfl rfl).trans rfl)).trans rfl)
    · exact ⟨agE k w n L (some (.f (tupI r))) x5 (some (.f (.int v))) (some (.f (.int x))), rfl, asB_of ((op_of (x := .int x) (y := .int v) (c1 := c) (c2 := c) rfl rfl).trans (oEq_int _ _ c)), rfl⟩
    · rw [List.length_map]
      exact Nat.le_trans (List.length_filter_le ..) (lim_le (by omega))
    · simp only [lenD, deref, List.length_map]
  · rw [List.length_map]
    exact Nat.le_trans (List.length_filter_le ..) (lim_le (by rw [rgI_len]; omega))
theorem s_agreement0 {w n : Nat} (hw1 : 1 ≤ w) (hw3 : w ≤ 3) (hn4 : n ≤ 4) (c : Cs) (k : Nat) (hc : Fd k c) : ∃ (cells : List Int) (c' : Cs), m__law_agreement [.cell k, .int w, .int n] c = some (intsD cells, c') ∧ (cells.length = w ^ n ∧ ∀ x ∈ cells, 0 ≤ x ∧ x < (w : Int)) ∧ FdTo k c c' := by
  obtain ⟨env', c', e, L, x4, x5, x6, x7, he, hl, hv, hf⟩ := forD_st (g := gSet 4) (fb := agB) (h := tupI) (fun pre env c1 => ∃ L x4 x5 x6 x7, env = agE k w n L x4 x5 x6 x7 ∧ L.length = pre.length ∧ (∀ x ∈ L, 0 ≤ x ∧ x < (w : Int)) ∧ FdTo k c c1) (xs := tups w n) (env := agE k w n [] none none none none) (c := c) ⟨[], _, _, _, _, rfl, rfl, (fun x hx => by cases hx), FdTo.refl hc⟩ (by
    rintro pre r post hsp env c1 ⟨L, x4, x5, x6, x7, rfl, hl, hv, hf⟩
    have hr : r.length = n := (tups_mem.mp (by rw [hsp]; simp)).1
    have hlen : L.length < lim := by
      have h1 := congrArg List.length hsp
      rw [tups_len] at h1
      simp only [List.length_append, List.length_cons] at h1
      have := pow_small hw3 hn4 (Nat.le_refl n)
      exact Nat.lt_of_lt_of_le (show L.length < 1000 by omega) (lim_le (Nat.le_refl 1000))
    have e1 : fSet 5 agM (agE k w n L (some (.f (tupI r))) x5 x6 x7) c1 = some (.nx, agE k w n L (some (.f (tupI r))) (some (.f (intsD (mostL w n r)))) x6 x7, c1) := (set_of (ag_most hw3 hn4 L r hr x5 x6 x7 c1)).trans rfl
    have e2 : asB (fOp oNe (fVarQ 5) (fLst aNil)) (agE k w n L (some (.f (tupI r))) (some (.f (intsD (mostL w n r)))) x6 x7) c1 = some (!(mostL w n r).isEmpty, c1) := by
      refine asB_of ((op_of (x := intsD (mostL w n r)) (y := .lst []) (c1 := c1) (c2 := c1) rfl (lst_of aN (by decide))).trans ?_)
      have e3 := oEq_nil (f := D.int) (g := .int) (fun x => rfl) (mostL w n r) c1
      have : oNe (intsD (mostL w n r)) (.lst []) c1 = (oEq (intsD (mostL w n r)) (.lst []) c1).map fun p => (match p.1 with | .bl b => D.bl (!b) | d => d, p.2) := by
        unfold oNe oEq
        split <;> rfl
      rw [this, show oEq (intsD (mostL w n r)) (.lst []) c1 = _ from e3]; rfl
    have e4 : ∃ v c2, 0 ≤ v ∧ v < (w : Int) ∧ FdTo k c1 c2 ∧ fIf (asB (fOp oNe (fVarQ 5) (fLst aNil))) (fOp oIx (fVarQ 5) (fC (.int 0))) (fCall m__law_take (aCons (fVar 0) (aCons (fVar 1) aNil))) (agE k w n L (some (.f (tupI r))) (some (.f (intsD (mostL w n r)))) x6 x7) c1 = some (.int v, c2) := by
      cases hm : mostL w n r with
      | nil =>
        rw [hm] at e2
        obtain ⟨v, c2, h1, e3, f3⟩ := s_takeN c1 k w hf.fd hw1 (by omega)
        exact ⟨v, c2, by omega, by omega, f3, (if_f e2).trans ((call_of (aC rfl (aC rfl aN))).trans e3)⟩
      | cons v vs =>
        rw [hm] at e2
        have hvm : v ∈ rgI w := (List.mem_filter.mp (show v ∈ mostL w n r by rw [hm]; exact List.mem_cons_self ..)).1
        obtain ⟨b1, b2⟩ := rgI_mem.mp hvm
        exact ⟨v, c1, b1, b2, .refl hf.fd, (if_t e2).trans ((op_of rfl rfl).trans (by simp only [oIx, ixD, deref, intsD, List.map_cons, atI0]))⟩
    obtain ⟨v, c2, b1, b2, f2, e5⟩ := e4
    refine ⟨agE k w n L (some (.f (tupI r))) x5 x6 x7, agE k w n (L ++ [v]) (some (.f (tupI r))) (some (.f (intsD (mostL w n r)))) x6 x7, c2, rfl, ?_, L ++ [v], _, _, _, _, rfl, by simp [hl], fun x hx => ?_, hf.trans f2⟩
    · refine (fSeq_nx e1).trans ?_
      refine (mutO_of (d := intsD L) (ds := [.int v]) (c1 := c2) (r := .non) (d' := intsD (L ++ [v])) rfl rfl (aC e5 aN) ?_).trans rfl
      show uApp (.lst (L.map D.int)) [.int v] = some (.non, .lst ((L ++ [v]).map D.int))
      rw [app_of (by rw [List.length_map]; exact hlen), List.map_append]; rfl
    · rcases List.mem_append.mp hx with hx | hx
      · exact hv x hx
      · rw [List.mem_singleton.mp hx]; exact ⟨b1, b2⟩)
  subst he
  have fin : fFz 3 (fRet (fVar 3)) (agE k w n L x4 x5 x6 x7) c' = some (.rt (intsD L), [some (.f (.cell k)), some (.f (.int w)), some (.f (.int n)), some (.f (intsD L)), x4, x5, x6, x7], c') := rfl
  have hfor : fFor (fIt (fCall m__law_all (aCons (fVar 1) (aCons (fVar 2) aNil)))) (gSet 4) agB (agE k w n [] none none none none) c = some (.nx, agE k w n L x4 x5 x6 x7, c') := (fFor_of (it_lst ((call_of (aC rfl (aC rfl aN))).trans (s_lall w n hw3 hn4 c)))).trans e
  have st : fSetO 3 (fLst aNil) [some (.f (.cell k)), some (.f (.int w)), some (.f (.int n)), none, none, none, none, none] c = some (.nx, agE k w n [] none none none none, c) := setO_of (lst_of aN (by decide))
  exact ⟨L, c', mOf_rt rfl ((fSeq_nx st).trans ((fSeq_nx hfor).trans fin)), ⟨by rw [hl, tups_len], hv⟩, hf⟩
theorem s_agreement {w n : Nat} (h : WN w n) (c : Cs) (k : Nat) (hc : Fd k c) : ∃ (cells : List Int) (c' : Cs), m__law_agreement [.cell k, .int w, .int n] c = some (intsD cells, c') ∧ Cl w n cells ∧ FdTo k c c' :=
  let ⟨cells, c', e, ⟨hl, hv⟩, f⟩ := s_agreement0 h.w1 h.w3 h.n4 c k hc
  ⟨cells, c', e, ⟨h, hl, hv⟩, f⟩
end M39
set_option Elab.async false
set_option linter.all false
set_option maxRecDepth 100000
set_option maxHeartbeats 0
namespace M39
open PySem PySem.Spec PyProof.Rows L2 Pd L39 Ma
abbrev anE (k w m q : Nat) (cells : List Int) (ts : List Tbl) (x6 x7 x8 : Option Sl) : En := [some (.f (.cell k)), some (.f (.int w)), some (.f (.int m)), some (.f (.int q)), some (.f (intsD cells)), some (.o (.lst (ts.map tabD))), x6, x7, x8]
abbrev anB : FS := (fSeq (fSet 7 (fOp oAdd (fC (.int 1)) (fCall m__law_take (aCons (fVar 0) (aCons (fC (.int 3)) aNil)))))
  (fSeq (fSet 8 (fCall m__law_closed (aCons (fVar 1) (aCons (fLst (aCons (fOp oAdd (fVarQ 2) (fC (.int 1))) (aCons (fVar 4) aNil))) (aCons (fVar 7) (aCons (fCall m__law_drawn_rows (aCons (fVar 0) (aCons (fVar 1) (aCons (fVar 7) (aCons (fC (.int 4)) aNil))))) aNil))))))
  (fMutO "list" uApp 5 (aCons (fLst (aCons (fVar 7) (aCons (fVar 8) aNil))) aNil))))
theorem s_agreeing {w m : Nat} (h : NR w m) (q : Nat) (hq : q ≤ 3) (c : Cs) (k : Nat) (hc : Fd k c) : ∃ (cells : List Int) (ts : List Tbl) (c' : Cs), m__law_agreeing [.cell k, .int w, .int m, .int q] c = some (.lst [intsD cells, .lst (ts.map tabD)], c') ∧ Cl w (m + 1) cells ∧ ts.length ≤ q ∧ (∀ t ∈ ts, GT w t.1 t.2) ∧ FdTo k c c' := by
  have hwn := h.wn
  have hw1 := hwn.w1
  have hw3 := hwn.w3
  obtain ⟨cells, c1, e1, hcl, f1⟩ := s_agreement hwn c k hc
  obtain ⟨t, c2, ht, e2, f2⟩ := s_takeN c1 k (q + 1) f1.fd (by omega) (by omega)
  obtain ⟨env', c', e, ts, x6, x7, x8, rfl, hl, hg, hf⟩ := forD_st (g := gSet 6) (fb := anB) (h := fun i : Nat => D.int ((0 : Int) + (i : Nat))) (fun pre env c3 => ∃ ts x6 x7 x8, env = anE k w m q cells ts x6 x7 x8 ∧ ts.length = pre.length ∧ (∀ t ∈ ts, GT w t.1 t.2) ∧ FdTo k c2 c3) (xs := List.range t) (env := anE k w m q cells [] none none none) (c := c2) ⟨[], _, _, _, rfl, rfl, (fun t ht => by cases ht), FdTo.refl f2.fd⟩ (by
    rintro pre x post hsp env c3 ⟨ts, x6, x7, x8, rfl, hl, hg, hf⟩
    obtain ⟨v, c4, hv, e3, f3⟩ := s_takeN c3 k 3 hf.fd (by decide) (by decide)
    obtain ⟨rs, c5, e4, hrs, _, f4⟩ := s_drows c4 k w (1 + v) f3.fd hw1 hw3 (by omega)
    obtain ⟨F, gF, e5⟩ := s_closed hcl (a := 1 + v) (by omega) (by omega) hrs c5
    have hlen : ts.length < lim := by
      have h1 := congrArg List.length hsp
      simp only [List.length_range, List.length_append, List.length_cons] at h1
      exact Nat.lt_of_lt_of_le (show ts.length < 1000 by omega) (lim_le (Nat.le_refl 1000))
    refine ⟨anE k w m q cells ts (some (.f (.int ((0 : Int) + (x : Nat))))) x7 x8, anE k w m q cells (ts ++ [(1 + v, F)]) (some (.f (.int ((0 : Int) + (x : Nat))))) (some (.f (.int ((1 + v : Nat) : Int)))) (some (.f (.lst (F.map tupI)))), c5, rfl, ?_, ts ++ [(1 + v, F)], _, _, _, rfl, by simp [hl], fun t ht => ?_, hf.trans (f3.trans f4)⟩
    · have a1 : fSet 7 (fOp oAdd (fC (.int 1)) (fCall m__law_take (aCons (fVar 0) (aCons (fC (.int 3)) aNil)))) (anE k w m q cells ts (some (.f (.int ((0 : Int) + (x : Nat))))) x7 x8) c3 = some (.nx, anE k w m q cells ts (some (.f (.int ((0 : Int) + (x : Nat))))) (some (.f (.int ((1 + v : Nat) : Int)))) x8, c4) := by
        have e0 : fOp oAdd (fC (.int 1)) (fCall m__law_take (aCons (fVar 0) (aCons (fC (.int 3)) aNil))) (anE k w m q cells ts (some (.f (.int ((0 : Int) + (x : Nat))))) x7 x8) c3 = some (.int ((1 + v : Nat) : Int), c4) := by
          refine (op_of (x := .int 1) (y := .int v) (c1 := c3) (c2 := c4) rfl ((call_of (aC rfl (aC rfl aN))).trans e3)).trans ?_
          show some (D.int (1 + (v : Int)), c4) = some (D.int ((1 + v : Nat) : Int), c4)
          rw [show (1 + (v : Int)) = ((1 + v : Nat) : Int) by omega]
        exact (set_of e0).trans rfl
      have hop : (.lst [.int ((m : Int) + 1), intsD cells] : D) = .lst [.int ((m + 1 : Nat) : Int), intsD cells] := rfl
      have a2 : fSet 8 (fCall m__law_closed (aCons (fVar 1) (aCons (fLst (aCons (fOp oAdd (fVarQ 2) (fC (.int 1))) (aCons (fVar 4) aNil))) (aCons (fVar 7) (aCons (fCall m__law_drawn_rows (aCons (fVar 0) (aCons (fVar 1) (aCons (fVar 7) (aCons (fC (.int 4)) aNil))))) aNil))))) (anE k w m q cells ts (some (.f (.int ((0 : Int) + (x : Nat))))) (some (.f (.int ((1 + v : Nat) : Int)))) x8) c4 = some (.nx, anE k w m q cells ts (some (.f (.int ((0 : Int) + (x : Nat))))) (some (.f (.int ((1 + v : Nat) : Int)))) (some (.f (.lst (F.map tupI)))), c5) :=
        (set_of ((call_of (aC rfl (aC (d := .lst [.int ((m + 1 : Nat) : Int), intsD cells]) (c1 := c4) (lst_of (aC ((op_of (x := .int m) (y := .int 1) (c1 := c4) (c2 := c4) rfl rfl).trans rfl) (aC rfl aN)) (by show 2 ≤ lim; decide)) (aC rfl (aC ((call_of (aC rfl (aC rfl (aC rfl (aC rfl aN))))).trans e4) aN))))).trans e5)).trans rfl
      refine (fSeq_nx a1).trans ((fSeq_nx a2).trans ?_)
      refine (mutO_of (d := .lst (ts.map tabD)) (ds := [tabD (1 + v, F)]) (c1 := c5) (r := .non) (d' := .lst ((ts ++ [(1 + v, F)]).map tabD)) rfl rfl (aC (lst_of (aC rfl (aC rfl aN)) (by show 2 ≤ lim; decide)) aN) ?_).trans rfl
      rw [app_of (by rw [List.length_map]; exact hlen), List.map_append]; rfl
    · rcases List.mem_append.mp ht with ht | ht
      · exact hg t ht
      · rw [List.mem_singleton.mp ht]; exact gF)
  rw [List.length_range] at hl
  have st : fPar 4 5 (xF (fCall m__law_agreement (aCons (fVar 0) (aCons (fVar 1) (aCons (fOp oAdd (fVarQ 2) (fC (.int 1))) aNil))))) (xO (fLst aNil)) [some (.f (.cell k)), some (.f (.int w)), some (.f (.int m)), some (.f (.int q)), none, none, none, none, none] c = some (.nx, anE k w m q cells [] none none none, c1) :=
    (par_of (xF_of ((call_of (aC rfl (aC rfl (aC ((op_of (x := .int m) (y := .int 1) (c1 := c) (c2 := c) rfl rfl).trans rfl) aN)))).trans e1)) (xO_of (lst_of aN (by decide)))).trans rfl
  have hfor : fFor (fRg1 (aCons (fCall m__law_take (aCons (fVar 0) (aCons (fOp oAdd (fVarQ 3) (fC (.int 1))) aNil))) aNil)) (gSet 6) anB (anE k w m q cells [] none none none) c1 = some (.nx, anE k w m q cells ts x6 x7 x8, c') :=
    (fFor_of (fRg1_of (j := (t : Nat)) (c1 := c2) (aC ((call_of (aC rfl (aC ((op_of (x := .int q) (y := .int 1) (c1 := c1) (c2 := c1) rfl rfl).trans rfl) aN))).trans e2) aN) (by rw [small62_of] <;> omega) (Int.toNat_natCast t))).trans e
  have fin : fFz 5 (fRet (fLst (aCons (fVar 4) (aCons (fVar 5) aNil)))) (anE k w m q cells ts x6 x7 x8) c' = some (.rt (.lst [intsD cells, .lst (ts.map tabD)]), [some (.f (.cell k)), some (.f (.int w)), some (.f (.int m)), some (.f (.int q)), some (.f (intsD cells)), some (.f (.lst (ts.map tabD))), x6, x7, x8], c') :=
    fRet_of (lst_of (aC rfl (aC rfl aN)) (by show 2 ≤ lim; decide))
  exact ⟨cells, ts, c', mOf_rt rfl ((fSeq_nx st).trans ((fSeq_nx hfor).trans fin)), hcl, by omega, hg, f1.trans (f2.trans hf)⟩
end M39
set_option Elab.async false
set_option linter.all false
set_option maxRecDepth 100000
set_option maxHeartbeats 0
namespace M39
open PySem PySem.Spec PyProof.Rows L2 Pd L39 Ma
/-- the law's names: x0 the script, x2 the feed .. -/
abbrev lwE (ns : List Int) (x1 : Option Sl) (F w m : Nat) (cells : List Int) (x6 x7 x8 x9 x10 x11 x12 x13 x14 x15 x16 x17 x18 x19 x20 : Option Sl) : En :=
  [some (.f (.scr ns)), x1, some (.f (.cell F)), some (.f (.int w)), some (.f (.int m)), some (.f (intsD cells)), x6, x7, x8, x9, x10, x11, x12, x13, x14, x15, x16, x17, x18, x19, x20]
theorem oNe_bl (a b : Bool) (c : Cs) : oNe (.bl a) (.bl b) c = some (.bl (a != b), c) := by cases a <;> cases b <;> rfl
theorem pdn_rowsL (t : Tbl) : pdn 59 (.lst (t.2.map tupI)) = some (.list (t.2.map fun r => .tuple (r.map .int))) := pdn_rows 57 t.2
abbrev juB : FS := (fSeq (fSet 13 (fCall m__law_agrees (aCons (fVar 3) (aCons (fOp oAdd (fVarQ 4) (fC (.int 1))) (aCons (fVar 12) aNil)))))
  (fSeq (fSet 14 (fComp (fIt (fVarQ 6)) (gSeq 2 (gsCons (gSet 7) (gsCons (gSet 8) gsNil))) (fNot (asB (fCall m__law_keeps (aCons (fVar 3) (aCons (fLst (aCons (fOp oAdd (fVarQ 4) (fC (.int 1))) (aCons (fVar 12) aNil))) (aCons (fVar 8) aNil)))))) (fVar 8) [7, 8]))
  (fSeq (fSet 15 (fCall m_shows_agreement (aCons (fVar 10) (aCons (fVar 4) (aCons (fCall m_Operation_init (aCons (fVar 3) (aCons (fOp oAdd (fVarQ 4) (fC (.int 1))) (aCons (fCall bList (aCons (fVarQ 12) aNil)) aNil)))) aNil)))))
  (fIte (fOr (fNot (asB (fIsi (fun s => isaB s "bool") (tc_none 4) (fVarQ 15)))) (asB (fOp oNe (fVarQ 15) (fAndV (fVar 13) (fOp oEq (fVarQ 14) (fLst aNil))))))
  (fRet (fC (.bl false)))
  fNx))))
/-- tables over which the law judges -/
structure Gt (w m : Nat) (ts : List Tbl) : Prop where
  nr : NR w m
  few : ts.length ≤ 12
  gt : ∀ t ∈ ts, GT w t.1 t.2 ∧ Few t.2 (m + 1)
theorem s_judge (ns : List Int) (x1 : Option Sl) (F w m : Nat) (cells : List Int) (ts : List Tbl) (G : Gt w m ts) (x7 x8 x9 x11 x13 x14 x15 x16 x17 x18 x19 x20 : Option Sl) (one : List Int) (hc : Cl w (m + 1) one) (c : Cs) :
    juB (lwE ns x1 F w m cells (some (.f (.lst (ts.map tabD)))) x7 x8 x9 (some (.f (bobj w ts))) x11 (some (.f (intsD one))) x13 x14 x15 x16 x17 x18 x19 x20) c =
      some (.nx, lwE ns x1 F w m cells (some (.f (.lst (ts.map tabD)))) x7 x8 x9 (some (.f (bobj w ts))) x11 (some (.f (intsD one))) (some (.f (.bl (agr w (m + 1) one)))) (some (.f (.lst ((ts.filter fun t => !keepsB w one (m + 1) t.1 t.2).map fun t => D.lst (t.2.map tupI))))) (some (.f (.bl (showsB w m ts one)))) x16 x17 x18 x19 x20, c) := by
  let E := lwE ns x1 F w m cells (some (.f (.lst (ts.map tabD)))) x7 x8 x9 (some (.f (bobj w ts))) x11 (some (.f (intsD one)))
  have m1 : ∀ (env : En), env[4]? = some (some (.f (.int (m : Int)))) → fOp oAdd (fVarQ 4) (fC (.int 1)) env c = some (.int ((m + 1 : Nat) : Int), c) := fun env he => by
    refine (op_of (x := .int m) (y := .int 1) (c1 := c) (c2 := c) ?_ rfl).trans rfl
    simp only [fVarQ, he]
  have a1 : fSet 13 (fCall m__law_agrees (aCons (fVar 3) (aCons (fOp oAdd (fVarQ 4) (fC (.int 1))) (aCons (fVar 12) aNil)))) (E x13 x14 x15 x16 x17 x18 x19 x20) c = some (.nx, E (some (.f (.bl (agr w (m + 1) one)))) x14 x15 x16 x17 x18 x19 x20, c) :=
    (set_of ((call_of (aC rfl (aC (m1 _ rfl) (aC rfl aN)))).trans (s_lagrees hc c))).trans rfl
  have a2 : fSet 14 (fComp (fIt (fVarQ 6)) (gSeq 2 (gsCons (gSet 7) (gsCons (gSet 8) gsNil))) (fNot (asB (fCall m__law_keeps (aCons (fVar 3) (aCons (fLst (aCons (fOp oAdd (fVarQ 4) (fC (.int 1))) (aCons (fVar 12) aNil))) (aCons (fVar 8) aNil)))))) (fVar 8) [7, 8]) (E (some (.f (.bl (agr w (m + 1) one)))) x14 x15 x16 x17 x18 x19 x20) c
      = some (.nx, E (some (.f (.bl (agr w (m + 1) one)))) (some (.f (.lst ((ts.filter fun t => !keepsB w one (m + 1) t.1 t.2).map fun t => D.lst (t.2.map tupI))))) x15 x16 x17 x18 x19 x20, c) := by
    refine (set_of (comp_of (c1 := c) (it_lst rfl) (compD_filter (h := tabD) (r := fun t => D.lst (t.2.map tupI)) (p := fun t => !keepsB w one (m + 1) t.1 t.2) fun t ht => ?_) ?_)).trans rfl
    · obtain ⟨g, f⟩ := G.gt t ht
      refine ⟨lwE ns x1 F w m cells (some (.f (.lst (ts.map tabD)))) (some (.f (.int t.1))) (some (.f (.lst (t.2.map tupI)))) x9 (some (.f (bobj w ts))) x11 (some (.f (intsD one))) (some (.f (.bl (agr w (m + 1) one)))) x14 x15 x16 x17 x18 x19 x20, rfl, ?_, rfl⟩
      exact not_of (asB_of ((call_of (aC rfl (aC (d := .lst [.int ((m + 1 : Nat) : Int), intsD one]) (c1 := c) (lst_of (aC (m1 _ rfl) (aC rfl aN)) (by show 2 ≤ lim; decide)) (aC rfl aN)))).trans (s_lkeeps hc g.a3 f g.row c)))
    · rw [List.length_map]
      exact Nat.le_trans (List.length_filter_le ..) (lim_le (by have := G.few; omega))
  have a3 : fSet 15 (fCall m_shows_agreement (aCons (fVar 10) (aCons (fVar 4) (aCons (fCall m_Operation_init (aCons (fVar 3) (aCons (fOp oAdd (fVarQ 4) (fC (.int 1))) (aCons (fCall bList (aCons (fVarQ 12) aNil)) aNil)))) aNil)))) (E (some (.f (.bl (agr w (m + 1) one)))) (some (.f (.lst ((ts.filter fun t => !keepsB w one (m + 1) t.1 t.2).map fun t => D.lst (t.2.map tupI))))) x15 x16 x17 x18 x19 x20) c
      = some (.nx, E (some (.f (.bl (agr w (m + 1) one)))) (some (.f (.lst ((ts.filter fun t => !keepsB w one (m + 1) t.1 t.2).map fun t => D.lst (t.2.map tupI))))) (some (.f (.bl (showsB w m ts one)))) x16 x17 x18 x19 x20, c) :=
    (set_of ((call_of (aC rfl (aC rfl (aC ((call_of (aC rfl (aC (m1 _ rfl) (aC ((call_of (aC rfl aN)).trans rfl) aN)))).trans (s_Operation hc.co c)) aN)))).trans (s_sa G.nr ts (by have := G.few; omega) G.gt hc c))).trans rfl
  refine (fSeq_nx a1).trans ((fSeq_nx a2).trans ((fSeq_nx a3).trans ((fIte_f ((or_f (c1 := c) (not_of (b := true) (asB_of (isi_of (x := .bl (showsB w m ts one)) (c1 := c) rfl rfl)))).trans (asB_of ((op_of (x := .bl (showsB w m ts one)) (y := .bl (showsB w m ts one)) (c1 := c) (c2 := c) rfl ?_).trans ((oNe_bl _ _ c).trans ?_))))).trans rfl)))
  · have e1 := oEq_nil (f := fun t : Tbl => D.lst (t.2.map tupI)) pdn_rowsL (ts.filter fun t => !keepsB w one (m + 1) t.1 t.2) c
    rw [filter_empty (fun t : Tbl => keepsB w one (m + 1) t.1 t.2)] at e1
    unfold showsB
    cases ha : agr w (m + 1) one with
    | false => exact andV_f rfl
    | true => exact (andV_t (c1 := c) rfl).trans ((op_of rfl (lst_of aN (by decide))).trans e1)
  · simp
end M39
set_option Elab.async false
set_option linter.all false
set_option maxRecDepth 100000
set_option maxHeartbeats 0
namespace M39
open PySem PySem.Spec PyProof.Rows L2 Pd L39 Ma
def eqRows (w : Nat) : List (List Int) := (rgI w).map fun v => [v, v]
theorem eq_str : [1, 2, 3].all (fun w => gtB.strB (eqRows w)) = true := by decide +kernel
theorem eq_gt {w : Nat} (h1 : 1 ≤ w) (h3 : w ≤ 3) : GT w 2 (eqRows w) := by
  refine ⟨by decide, by decide, fun r hr => ?_, strB_ok ?_, by unfold eqRows; rw [List.length_map, rgI_len]; omega⟩
  · obtain ⟨v, hv, rfl⟩ := List.mem_map.mp hr
    have := rgI_mem.mp hv
    exact ⟨rfl, fun x hx => by simp at hx; subst hx; exact this⟩
  · have hm : w ∈ [1, 2, 3] := by rcases (show w = 1 ∨ w = 2 ∨ w = 3 by omega) with rfl | rfl | rfl <;> simp
    exact List.all_eq_true.mp eq_str _ hm
def sameT (w : Nat) : List Tbl := [(1, tups w 1), (2, eqRows w)]
theorem same_gt {w : Nat} (h1 : 1 ≤ w) (h3 : w ≤ 3) : ∀ t ∈ sameT w, GT w t.1 t.2 := fun t ht => by
  simp only [sameT, List.mem_cons, List.not_mem_nil, or_false] at ht
  rcases ht with rfl | rfl
  · exact tups_gt (a := 1) h1 h3 (by decide) (by decide)
  · exact eq_gt h1 h3
abbrev onE (F w m q : Nat) (cells : List Int) (x6 x7 : Option Sl) : En := [some (.f (.cell F)), some (.f (.int w)), some (.f (.int m)), some (.f (.int q)), some (.f (oobj w q cells)), some (.f (.lst ((sameT w).map tabD))), x6, x7]
theorem s_refused {w m : Nat} (h : NR w m) (c : Cs) (F : Nat) (hc : Fd F c) : ∃ c', m__law_other_number_refused [.cell F, .int w, .int m] c = some (.bl true, c') ∧ FdTo F c c' := by
  have hw1 := h.wn.w1
  have hw3 := h.wn.w3
  obtain ⟨q, hq1, hq4, hqm, hq⟩ : ∃ q : Nat, 1 ≤ q ∧ q ≤ 4 ∧ q ≠ m + 1 ∧ fIf (asB (fOp oEq (fVarQ 2) (fC (.int 2)))) (fC (.int 4)) (fC (.int 3)) [some (.f (.cell F)), some (.f (.int w)), some (.f (.int m)), none, none, none, none, none] c = some (.int (q : Nat), c) := by
    have e := oEq_int m 2 c
    rcases h with ⟨_, ⟨rfl, _⟩ | ⟨rfl, _⟩⟩
    · exact ⟨4, by decide, by decide, by decide, (if_t (asB_of ((op_of rfl rfl).trans e))).trans rfl⟩
    · exact ⟨3, by decide, by decide, by decide, (if_f (asB_of ((op_of rfl rfl).trans e))).trans rfl⟩
  obtain ⟨cells, c1, e1, ⟨hl, hv⟩, f1⟩ := s_agreement0 hw1 hw3 hq4 c F hc
  have hco : CO w q cells := ⟨hw1, hw3, hq1, hq4, hl, hv⟩
  have a1 : fSet 3 (fIf (asB (fOp oEq (fVarQ 2) (fC (.int 2)))) (fC (.int 4)) (fC (.int 3))) [some (.f (.cell F)), some (.f (.int w)), some (.f (.int m)), none, none, none, none, none] c = some (.nx, [some (.f (.cell F)), some (.f (.int w)), some (.f (.int m)), some (.f (.int q)), none, none, none, none], c) := (set_of hq).trans rfl
  have a2 : fSet 4 (fCall m_Operation_init (aCons (fVar 1) (aCons (fVar 3) (aCons (fCall m__law_agreement (aCons (fVar 0) (aCons (fVar 1) (aCons (fVar 3) aNil)))) aNil)))) [some (.f (.cell F)), some (.f (.int w)), some (.f (.int m)), some (.f (.int q)), none, none, none, none] c = some (.nx, [some (.f (.cell F)), some (.f (.int w)), some (.f (.int m)), some (.f (.int q)), some (.f (oobj w q cells)), none, none, none], c1) :=
    (set_of ((call_of (aC rfl (aC rfl (aC ((call_of (aC rfl (aC rfl (aC rfl aN)))).trans e1) aN)))).trans (s_Operation hco c1))).trans rfl
  have a3 : fSet 5 (fLst (aCons (fLst (aCons (fC (.int 1)) (aCons (fCall m__law_all (aCons (fVar 1) (aCons (fC (.int 1)) aNil))) aNil))) (aCons (fLst (aCons (fC (.int 2)) (aCons (fComp (fRg1 (aCons (fVarQ 1) aNil)) (gSet 7) fYes (fTup (aCons (fVar 7) (aCons (fVar 7) aNil))) [7]) aNil))) aNil))) [some (.f (.cell F)), some (.f (.int w)), some (.f (.int m)), some (.f (.int q)), some (.f (oobj w q cells)), none, none, none] c1 = some (.nx, onE F w m q cells none none, c1) := by
    have ec : fComp (fRg1 (aCons (fVarQ 1) aNil)) (gSet 7) fYes (fTup (aCons (fVar 7) (aCons (fVar 7) aNil))) [7] [some (.f (.cell F)), some (.f (.int w)), some (.f (.int m)), some (.f (.int q)), some (.f (oobj w q cells)), none, none, none] c1 = some (.lst ((eqRows w).map tupI), c1) := by
      have hrg : fRg1 (aCons (fVarQ 1) aNil) [some (.f (.cell F)), some (.f (.int w)), some (.f (.int m)), some (.f (.int q)), some (.f (oobj w q cells)), none, none, none] c1 = some ((rgI w).map D.int, c1) := by
        rw [← rangeD_ints]
        exact fRg1_of (j := (w : Nat)) (aC rfl aN) (by rw [small62_of] <;> omega) (Int.toNat_natCast w)
      have : (eqRows w).map tupI = (rgI w).map fun v => D.tup [.int v, .int v] := by unfold eqRows; rw [List.map_map]; rfl
      rw [this]
      refine comp_of (c1 := c1) hrg (compD_map (h := D.int) fun v hv => ⟨[some (.f (.cell F)), some (.f (.int w)), some (.f (.int m)), some (.f (.int q)), some (.f (oobj w q cells)), none, none, some (.f (.int v))], rfl, rfl, tup_of (aC rfl (aC rfl aN)) (by show 2 ≤ lim; decide)⟩) (by rw [List.length_map, rgI_len]; exact lim_le (by omega))
    exact (set_of (lst_of (aC (lst_of (aC rfl (aC ((call_of (aC rfl (aC (d := .int (1 : Nat)) rfl aN))).trans (s_lall w 1 hw3 (by decide) c1)) aN)) (by show 2 ≤ lim; decide)) (aC (lst_of (aC rfl (aC ec aN)) (by show 2 ≤ lim; decide)) aN)) (by show 2 ≤ lim; decide))).trans rfl
  have turn : ∀ (ts : List Tbl) (x6 x7 : Option Sl), ts.length ≤ 12 → (∀ t ∈ ts, GT w t.1 t.2) → fIte (asB (fOp oIsNot (fCall m_shows_agreement (aCons (fCall m__law_program_book (aCons (fVar 1) (aCons (fVar 6) aNil))) (aCons (fVar 2) (aCons (fVar 4) aNil)))) (fC (.bl false)))) (fRet (fC (.bl false))) fNx (onE F w m q cells (some (.f (.lst (ts.map tabD)))) x7) c1 = some (.nx, onE F w m q cells (some (.f (.lst (ts.map tabD)))) x7, c1) := fun ts x6 x7 hl hg =>
    (fIte_f (asB_of ((op_of (x := .bl false) (y := .bl false) (c1 := c1) (c2 := c1) ((call_of (aC ((call_of (aC rfl (aC rfl aN))).trans (s_program_book w ts (by omega) (by omega) hg hl c1)) (aC rfl (aC rfl aN)))).trans (s_sa_unlike h ts w q cells c1 (.inr hqm))) rfl).trans rfl))).trans rfl
  have a4 : fFor (fIt (fTup (aCons (fLst aNil) (aCons (fVar 5) aNil)))) (gSet 6) (fIte (asB (fOp oIsNot (fCall m_shows_agreement (aCons (fCall m__law_program_book (aCons (fVar 1) (aCons (fVar 6) aNil))) (aCons (fVar 2) (aCons (fVar 4) aNil)))) (fC (.bl false)))) (fRet (fC (.bl false))) fNx) (onE F w m q cells none none) c1 = some (.nx, onE F w m q cells (some (.f (.lst ((sameT w).map tabD)))) none, c1) := by
    refine (fFor_of (c1 := c1) (it_tup (tup_of (aC (lst_of aN (by decide)) (aC rfl aN)) (by show 2 ≤ lim; decide)))).trans ?_
    refine (forD_step (env1 := onE F w m q cells (some (.f (.lst []))) none) rfl (turn [] none none (by decide) (fun t ht => by cases ht))).trans ?_
    exact (forD_step (env1 := onE F w m q cells (some (.f (.lst ((sameT w).map tabD)))) none) rfl (turn (sameT w) none none (show 2 ≤ 12 by decide) (same_gt hw1 hw3))).trans rfl
  exact ⟨c1, mOf_rt rfl ((fSeq_nx a1).trans ((fSeq_nx a2).trans ((fSeq_nx a3).trans ((fSeq_nx a4).trans (fRet_of rfl))))), f1⟩
end M39
set_option Elab.async false
set_option linter.all false
set_option maxRecDepth 100000
set_option maxHeartbeats 0
namespace M39
open PySem PySem.Spec PyProof.Rows L2 Pd L39 Ma
theorem agr_1 : [3, 4].all (fun n => agr 1 n (takC 1 n 1)) = true := by decide +kernel
theorem agr_2 : [(2, 3), (3, 3), (2, 4)].all (fun p => !agr p.1 p.2 (takC p.1 p.2 1)) = true := by decide +kernel
theorem one_row {a : Nat} {g r : List Int} (hg : GRow (1 : Nat) a g) (hr : GRow (1 : Nat) a r) : g = r := by
  refine List.ext_getElem (by rw [hg.1, hr.1]) fun i h1 h2 => ?_
  have e1 := hg.2 _ (List.getElem_mem h1)
  have e2 := hr.2 _ (List.getElem_mem h2)
  omega
theorem keeps_1 {n a : Nat} {cells : List Int} (hc : Cl 1 n cells) {rs : List (List Int)} (hr : ∀ r ∈ rs, GRow (1 : Nat) a r) : keepsB 1 cells n a rs = true := by
  refine List.all_eq_true.mpr fun S hS => decide_eq_true ?_
  obtain ⟨h1, h2⟩ := (grow_mem rs n S).mp hS
  have n3 := hc.wn.n3
  obtain ⟨r0, S', rfl⟩ : ∃ r0 S', S = r0 :: S' := by
    cases S with
    | nil => rw [List.length_nil] at h1; omega
    | cons r0 S' => exact ⟨r0, S', rfl⟩
  have hg := giv_row (a := a) hc h1 fun r h => hr r (h2 r h)
  have h0 := h2 r0 (List.mem_cons_self ..)
  rw [one_row hg (hr r0 h0)]; exact h0
theorem takC_cl {w m : Nat} (h : NR w m) : Cl w (m + 1) (takC w (m + 1) 1) := by
  have hw := h.wn
  have n3 := hw.n3
  have k := takC_co (at_ := 1) hw.w1 hw.w3 (by omega) hw.n4 (by omega)
  exact ⟨hw, k.len, k.val⟩
theorem shows_tak {w m : Nat} {ts : List Tbl} (G : Gt w m ts) : showsB w m ts (takC w (m + 1) 1) = decide (w = 1) := by
  have hw := G.nr.wn
  unfold showsB
  by_cases h1 : w = 1
  · subst h1
    have e1 : agr 1 (m + 1) (takC 1 (m + 1) 1) = true := by
      have : m + 1 ∈ [3, 4] := by have := hw.n3; have := hw.n4; rcases (show m + 1 = 3 ∨ m + 1 = 4 by omega) with e | e <;> rw [e] <;> simp
      exact List.all_eq_true.mp agr_1 _ this
    have e2 : (ts.all fun t => keepsB 1 (takC 1 (m + 1) 1) (m + 1) t.1 t.2) = true := List.all_eq_true.mpr fun t ht => keeps_1 (takC_cl G.nr) (G.gt t ht).1.row
    rw [e1, e2, decide_eq_true rfl]; rfl
  · have e1 : agr w (m + 1) (takC w (m + 1) 1) = false := by
      have hm : (w, m + 1) ∈ [(2, 3), (3, 3), (2, 4)] := by
        rcases G.nr with ⟨h0, ⟨rfl, h3⟩ | ⟨rfl, h3⟩⟩
        · rcases (show w = 2 ∨ w = 3 by omega) with rfl | rfl <;> simp
        · rw [show w = 2 by omega]; simp
      have := List.all_eq_true.mp agr_2 _ hm
      simpa using this
    rw [e1, decide_eq_false h1, Bool.false_and]
/-! ### odd values -/
abbrev duE : FE := fAndV (fOp oEq (fVarQ 3) (fC (.int 1))) (fAndV (fIsi (fun _ => false) (tc_cls 4 3) (fVarQ 18)) (fAndV (fOp oEq (fFld [(0, 0), (1, 0), (3, 0)] (fVarQ 18)) (fC (.int 1))) (fOp oEq (fFld [(0, 1), (3, 1)] (fVarQ 18)) (fOp oAdd (fVarQ 4) (fC (.int 1))))))
abbrev odB : FS := (fSeq (fSet 13 duE) (fIte (asB (fOp oNe (fCall m_shows_agreement (aCons (fVar 10) (aCons (fVar 4) (aCons (fVar 18) aNil)))) (fVarQ 13))) (fRet (fC (.bl false))) fNx))
section
variable {ns : List Int} {x1 : Option Sl} {F w m : Nat} {cells : List Int} {ts : List Tbl} {x6 x7 x8 x9 x11 x12 x13 x14 x15 x16 x17 x18 x19 x20 : Option Sl} {c : Cs} {v : D}
theorem du_w (h : w ≠ 1) : duE (lwE ns x1 F w m cells x6 x7 x8 x9 (some (.f (bobj w ts))) x11 x12 x13 x14 x15 x16 x17 (some (.f v)) x19 x20) c = some (.bl false, c) := by
  have e := oEq_int (w : Int) 1 c
  rw [decide_eq_false (by omega)] at e
  exact andV_f ((op_of rfl rfl).trans e)
theorem du_isi (hv : isiD (fun _ => false) (tc_cls 4 3) c v = some false) : duE (lwE ns x1 F w m cells x6 x7 x8 x9 (some (.f (bobj w ts))) x11 x12 x13 x14 x15 x16 x17 (some (.f v)) x19 x20) c = some (.bl false, c) := by
  by_cases h : w = 1
  · have e := oEq_int (w : Int) 1 c
    rw [decide_eq_true (by omega)] at e
    exact (andV_t ((op_of rfl rfl).trans e)).trans (andV_f (isi_of (x := v) (c1 := c) rfl hv))
  · exact du_w h
theorem du_op (w' n' : Nat) (cl : List Int) : duE (lwE ns x1 F w m cells x6 x7 x8 x9 (some (.f (bobj w ts))) x11 x12 x13 x14 x15 x16 x17 (some (.f (oobj w' n' cl))) x19 x20) c = some (.bl (decide (w = 1) && (decide (w' = 1) && decide (n' = m + 1))), c) := by
  by_cases h : w = 1
  · have e := oEq_int (w : Int) 1 c
    rw [decide_eq_true (by omega)] at e
    rw [decide_eq_true h, Bool.true_and]
    refine (andV_t ((op_of rfl rfl).trans e)).trans ((andV_t (isi_of (x := oobj w' n' cl) (c1 := c) rfl (isi_op w' n' cl c))).trans ?_)
    have e2 := oEq_int (w' : Int) 1 c
    by_cases h2 : w' = 1
    · rw [decide_eq_true (by omega)] at e2
      rw [decide_eq_true h2, Bool.true_and]
      refine (andV_t ((op_of (f_width w' n' cl rfl) rfl).trans e2)).trans ((op_of (x := .int n') (y := .int ((m : Int) + 1)) (c1 := c) (c2 := c) (f_arity w' n' cl rfl) ((op_of (x := .int m) (y := .int 1) (c1 := c) (c2 := c) rfl rfl).trans rfl)).trans ((oEq_int _ _ c).trans ?_))
      have : decide ((n' : Int) = (m : Int) + 1) = decide (n' = m + 1) := by
        by_cases h3 : n' = m + 1
        · rw [decide_eq_true h3, decide_eq_true (by omega)]
        · rw [decide_eq_false h3, decide_eq_false (by omega)]
      rw [this]
    · rw [decide_eq_false (by omega)] at e2
      rw [decide_eq_false h2, Bool.false_and]
      exact andV_f ((op_of (f_width w' n' cl rfl) rfl).trans e2)
  · rw [decide_eq_false h, Bool.false_and]; exact du_w h
theorem od_turn {b : Bool} (hs : m_shows_agreement [bobj w ts, .int m, v] c = some (.bl b, c)) (hd : duE (lwE ns x1 F w m cells x6 x7 x8 x9 (some (.f (bobj w ts))) x11 x12 x13 x14 x15 x16 x17 (some (.f v)) x19 x20) c = some (.bl b, c)) :
    odB (lwE ns x1 F w m cells x6 x7 x8 x9 (some (.f (bobj w ts))) x11 x12 x13 x14 x15 x16 x17 (some (.f v)) x19 x20) c = some (.nx, lwE ns x1 F w m cells x6 x7 x8 x9 (some (.f (bobj w ts))) x11 x12 (some (.f (.bl b))) x14 x15 x16 x17 (some (.f v)) x19 x20, c) := by
  refine (fSeq_nx (env1 := lwE ns x1 F w m cells x6 x7 x8 x9 (some (.f (bobj w ts))) x11 x12 (some (.f (.bl b))) x14 x15 x16 x17 (some (.f v)) x19 x20) (c1 := c) ((set_of hd).trans rfl)).trans ?_
  exact (fIte_f (asB_of ((op_of (x := .bl b) (y := .bl b) (c1 := c) (c2 := c) ((call_of (aC rfl (aC rfl (aC rfl aN)))).trans hs) rfl).trans ((oNe_bl _ _ c).trans (by simp))))).trans rfl
/-- what the law looks at, one after the other -/
theorem od_all : ∀ (vs : List D), (∀ v ∈ vs, ∃ b, m_shows_agreement [bobj w ts, .int m, v] c = some (.bl b, c) ∧ ∀ (x13 x18 : Option Sl), duE (lwE ns x1 F w m cells x6 x7 x8 x9 (some (.f (bobj w ts))) x11 x12 x13 x14 x15 x16 x17 (some (.f v)) x19 x20) c = some (.bl b, c)) → ∀ (x13 x18 : Option Sl),
    ∃ y13 y18, forD (gSet 18) odB vs (lwE ns x1 F w m cells x6 x7 x8 x9 (some (.f (bobj w ts))) x11 x12 x13 x14 x15 x16 x17 x18 x19 x20) c = some (.nx, lwE ns x1 F w m cells x6 x7 x8 x9 (some (.f (bobj w ts))) x11 x12 y13 x14 x15 x16 x17 y18 x19 x20, c)
  | [], _, x13, x18 => ⟨x13, x18, rfl⟩
  | v :: vs, H, x13, x18 => by
    obtain ⟨b, hs, hd⟩ := H v (List.mem_cons_self ..)
    obtain ⟨y13, y18, e⟩ := od_all vs (fun u hu => H u (List.mem_cons_of_mem _ hu)) (some (.f (.bl b))) (some (.f v))
    exact ⟨y13, y18, (forD_step (env1 := lwE ns x1 F w m cells x6 x7 x8 x9 (some (.f (bobj w ts))) x11 x12 x13 x14 x15 x16 x17 (some (.f v)) x19 x20) rfl (od_turn hs (hd x13 x18))).trans e⟩
end
end M39
set_option Elab.async false
set_option linter.all false
set_option maxRecDepth 100000
set_option maxHeartbeats 0
namespace M39
open PySem PySem.Spec PyProof.Rows L2 Pd L39 Ma
/-! ### the odd values -/
def wdN (w : Nat) : Nat := w % 3 + 1
def zer (w : Nat) : List Int := (tups (wdN w) 3).map fun _ => 0
theorem zer_co (w : Nat) : CO (wdN w) 3 (zer w) := by
  have : wdN w ≤ 3 := by unfold wdN; omega
  refine ⟨by unfold wdN; omega, this, by decide, by decide, by unfold zer; rw [List.length_map, tups_len], fun x hx => ?_⟩
  obtain ⟨r, _, rfl⟩ := List.mem_map.mp hx
  unfold wdN; omega
def oddVs (w m : Nat) (cells : List Int) : List D :=
  [.non, intsD cells, .str "agreement", .int 0, .lst [oobj w (m + 1) cells], oobj w 2 (takC w 2 0), oobj (wdN w) 3 (zer w), oobj w (m + 1) (takC w (m + 1) 1), oobj w 1 (takC w 1 0)]
theorem odd_ok' {ns : List Int} {x1 : Option Sl} {F w m : Nat} {cells : List Int} {ts : List Tbl} (G : Gt w m ts) {x6 x7 x8 x9 x11 x12 x14 x15 x16 x17 x19 x20 : Option Sl} {c : Cs} :
    ∀ v ∈ oddVs w m cells, ∃ b, m_shows_agreement [bobj w ts, .int m, v] c = some (.bl b, c) ∧ ∀ (x13 x18 : Option Sl), duE (lwE ns x1 F w m cells x6 x7 x8 x9 (some (.f (bobj w ts))) x11 x12 x13 x14 x15 x16 x17 (some (.f v)) x19 x20) c = some (.bl b, c) := by
  have hm2 : 2 ≤ m := by rcases G.nr with ⟨_, ⟨h, _⟩ | ⟨h, _⟩⟩ <;> omega
  have hw1 := G.nr.wn.w1
  have hw3 := G.nr.wn.w3
  have other : ∀ v, isiD (fun _ => false) (tc_cls 4 3) c v = some false → ∃ b, m_shows_agreement [bobj w ts, .int m, v] c = some (.bl b, c) ∧ ∀ (x13 x18 : Option Sl), duE (lwE ns x1 F w m cells x6 x7 x8 x9 (some (.f (bobj w ts))) x11 x12 x13 x14 x15 x16 x17 (some (.f v)) x19 x20) c = some (.bl b, c) :=
    fun v hv => ⟨false, s_sa_other G.nr ts v c hv, fun _ _ => du_isi hv⟩
  have unl : ∀ w' n' cl, (w' ≠ w ∨ n' ≠ m + 1) → (decide (w = 1) && (decide (w' = 1) && decide (n' = m + 1))) = false → ∃ b, m_shows_agreement [bobj w ts, .int m, oobj w' n' cl] c = some (.bl b, c) ∧ ∀ (x13 x18 : Option Sl), duE (lwE ns x1 F w m cells x6 x7 x8 x9 (some (.f (bobj w ts))) x11 x12 x13 x14 x15 x16 x17 (some (.f (oobj w' n' cl))) x19 x20) c = some (.bl b, c) :=
    fun w' n' cl h1 h2 => ⟨false, s_sa_unlike G.nr ts w' n' cl c h1, fun _ _ => by rw [← h2]; exact du_op w' n' cl⟩
  intro v hv
  simp only [oddVs, List.mem_cons, List.not_mem_nil, or_false] at hv
  rcases hv with rfl | rfl | rfl | rfl | rfl | rfl | rfl | rfl | rfl
  · exact other _ rfl
  · exact other _ rfl
  · exact other _ rfl
  · exact other _ rfl
  · exact other _ rfl
  · exact unl _ _ _ (.inr (by omega)) (by rw [decide_eq_false (show ¬ 2 = m + 1 by omega), Bool.and_false, Bool.and_false])
  · refine unl _ _ _ (.inl (by unfold wdN; omega)) ?_
    by_cases h : w = 1
    · subst h; rfl
    · rw [decide_eq_false h, Bool.false_and]
  · refine ⟨showsB w m ts (takC w (m + 1) 1), s_sa G.nr ts (by have := G.few; omega) G.gt (takC_cl G.nr) c, fun _ _ => ?_⟩
    rw [shows_tak G, du_op]
    rw [show decide (m + 1 = m + 1) = true from decide_eq_true rfl, Bool.and_true, Bool.and_self]
  · exact unl _ _ _ (.inr (by omega)) (by rw [decide_eq_false (show ¬ 1 = m + 1 by omega), Bool.and_false, Bool.and_false])
end M39
set_option Elab.async false
set_option linter.all false
set_option maxRecDepth 100000
set_option maxHeartbeats 0
namespace M39
open PySem PySem.Spec PyProof.Rows L2 Pd L39 Ma
section
variable {ns : List Int} {x1 : Option Sl} {F w m : Nat} {cells : List Int} {x6 x7 x8 x9 x10 x11 x12 x13 x14 x15 x16 x17 x18 x19 x20 : Option Sl} {c : Cs}
theorem od_wide : fSet 16 (fOp oAdd (fOp oMod (fCall bIntS (aCons (fVarQ 3) aNil)) (fC (.int 3))) (fC (.int 1))) (lwE ns x1 F w m cells x6 x7 x8 x9 x10 x11 x12 x13 x14 x15 x16 x17 x18 x19 x20) c = some (.nx, lwE ns x1 F w m cells x6 x7 x8 x9 x10 x11 x12 x13 x14 x15 (some (.f (.int (wdN w : Nat)))) x17 x18 x19 x20, c) := by
  have e0 : fOp oAdd (fOp oMod (fCall bIntS (aCons (fVarQ 3) aNil)) (fC (.int 3))) (fC (.int 1)) (lwE ns x1 F w m cells x6 x7 x8 x9 x10 x11 x12 x13 x14 x15 x16 x17 x18 x19 x20) c = some (.int (wdN w : Nat), c) := by
    refine (op_of (x := .int ((w : Int) % 3)) (y := .int 1) (c1 := c) (c2 := c) ((op_of (x := .int w) (y := .int 3) (c1 := c) (c2 := c) ((call_of (aC rfl aN)).trans rfl) rfl).trans (mod_p (by decide))) rfl).trans ?_
    show some (D.int ((w : Int) % 3 + 1), c) = some (D.int (wdN w : Nat), c)
    rw [show ((w : Int) % 3 + 1) = (wdN w : Nat) by unfold wdN; omega]
  exact (set_of e0).trans rfl
theorem one_more {A B : List D} {f g : FE} {env : En} (hf : f env c = some (.lst A, c)) (hg : g env c = some (.lst B, c)) (h : A.length + B.length ≤ 1000) : fOp oAdd f g env c = some (.lst (A ++ B), c) := by
  refine (op_of hf hg).trans ?_
  simp only [oAdd, show A.length + B.length ≤ lim from lim_le h, if_true]
theorem m1_of : fOp oAdd (fVarQ 4) (fC (.int 1)) (lwE ns x1 F w m cells x6 x7 x8 x9 x10 x11 x12 x13 x14 x15 x16 x17 x18 x19 x20) c = some (.int ((m + 1 : Nat) : Int), c) := (op_of (x := .int m) (y := .int 1) (c1 := c) (c2 := c) rfl rfl).trans rfl
theorem od_l1 (h : NR w m) (hc : Cl w (m + 1) cells) : fSet 17 (fLst (aCons (fC .non) (aCons (fVar 5) (aCons (fC (.str "agreement")) (aCons (fC (.int 0)) (aCons (fLst (aCons (fCall m_Operation_init (aCons (fVar 3) (aCons (fOp oAdd (fVarQ 4) (fC (.int 1))) (aCons (fVar 5) aNil)))) aNil)) (aCons (fCall m_Operation_taking (aCons (fVar 3) (aCons (fC (.int 2)) (aCons (fC (.int 0)) aNil)))) aNil)))))))
    (lwE ns x1 F w m cells x6 x7 x8 x9 x10 x11 x12 x13 x14 x15 x16 x17 x18 x19 x20) c = some (.nx, lwE ns x1 F w m cells x6 x7 x8 x9 x10 x11 x12 x13 x14 x15 x16 (some (.f (.lst [.non, intsD cells, .str "agreement", .int 0, .lst [oobj w (m + 1) cells], oobj w 2 (takC w 2 0)]))) x18 x19 x20, c) :=
  (set_of (lst_of (aC rfl (aC rfl (aC rfl (aC rfl (aC (lst_of (aC ((call_of (aC rfl (aC m1_of (aC rfl aN)))).trans (s_Operation hc.co c)) aN) (by show 1 ≤ lim; decide)) (aC ((call_of (aC rfl (aC rfl (aC rfl aN)))).trans (s_taking (n := 2) (at_ := 0) h.wn.w1 h.wn.w3 (by decide) (by decide) (by decide) c)) aN)))))) (by show 6 ≤ lim; decide))).trans rfl
theorem od_l2 {L : List D} (hl : L.length ≤ 100) : fSet 17 (fOp oAdd (fVarQ 17) (fLst (aCons (fCall m_Operation_init (aCons (fVar 16) (aCons (fC (.int 3)) (aCons (fComp (fIt (fCall m__law_all (aCons (fVar 16) (aCons (fC (.int 3)) aNil)))) (gSet 20) fYes (fC (.int 0)) [20]) aNil)))) aNil)))
    (lwE ns x1 F w m cells x6 x7 x8 x9 x10 x11 x12 x13 x14 x15 (some (.f (.int (wdN w : Nat)))) (some (.f (.lst L))) x18 x19 x20) c = some (.nx, lwE ns x1 F w m cells x6 x7 x8 x9 x10 x11 x12 x13 x14 x15 (some (.f (.int (wdN w : Nat)))) (some (.f (.lst (L ++ [oobj (wdN w) 3 (zer w)])))) x18 x19 x20, c) := by
  have hz : fComp (fIt (fCall m__law_all (aCons (fVar 16) (aCons (fC (.int 3)) aNil)))) (gSet 20) fYes (fC (.int 0)) [20] (lwE ns x1 F w m cells x6 x7 x8 x9 x10 x11 x12 x13 x14 x15 (some (.f (.int (wdN w : Nat)))) (some (.f (.lst L))) x18 x19 x20) c = some (intsD (zer w), c) := by
    have : (zer w).map D.int = (tups (wdN w) 3).map fun _ => D.int 0 := by unfold zer; rw [List.map_map]; rfl
    unfold intsD
    rw [this]
    refine comp_of (c1 := c) (it_lst ((call_of (aC rfl (aC rfl aN))).trans (s_lall (wdN w) 3 (by unfold wdN; omega) (by decide) c))) (compD_map (h := tupI) fun r hr => ⟨_, rfl, rfl, rfl⟩) ?_
    rw [List.length_map, tups_len]
    exact Nat.le_trans (pow_small (w := wdN w) (n := 3) (by unfold wdN; omega) (by decide) (Nat.le_refl 3)) (by decide)
  exact (set_of (one_more rfl (lst_of (aC ((call_of (aC rfl (aC rfl (aC hz aN)))).trans (s_Operation (zer_co w) c)) aN) (by show 1 ≤ lim; decide)) (by show L.length + 1 ≤ 1000; omega))).trans rfl
theorem od_l3 (h : NR w m) {L : List D} (hl : L.length ≤ 100) : fSet 17 (fOp oAdd (fVarQ 17) (fLst (aCons (fCall m_Operation_taking (aCons (fVar 3) (aCons (fOp oAdd (fVarQ 4) (fC (.int 1))) (aCons (fC (.int 1)) aNil)))) (aCons (fCall m_Operation_taking (aCons (fVar 3) (aCons (fC (.int 1)) (aCons (fC (.int 0)) aNil)))) aNil))))
    (lwE ns x1 F w m cells x6 x7 x8 x9 x10 x11 x12 x13 x14 x15 x16 (some (.f (.lst L))) x18 x19 x20) c = some (.nx, lwE ns x1 F w m cells x6 x7 x8 x9 x10 x11 x12 x13 x14 x15 x16 (some (.f (.lst (L ++ [oobj w (m + 1) (takC w (m + 1) 1), oobj w 1 (takC w 1 0)])))) x18 x19 x20, c) := by
  have n3 := h.wn.n3
  exact (set_of (one_more rfl (lst_of (aC ((call_of (aC rfl (aC m1_of (aC rfl aN)))).trans (s_taking (at_ := 1) h.wn.w1 h.wn.w3 (by omega) h.wn.n4 (by omega) c)) (aC ((call_of (aC rfl (aC rfl (aC rfl aN)))).trans (s_taking (n := 1) (at_ := 0) h.wn.w1 h.wn.w3 (by decide) (by decide) (by decide) c)) aN)) (by show 2 ≤ lim; decide)) (by show L.length + 2 ≤ 1000; omega))).trans rfl
end
end M39
set_option Elab.async false
set_option linter.all false
set_option maxRecDepth 100000
set_option maxHeartbeats 0
namespace M39
open PySem PySem.Spec PyProof.Rows L2 Pd L39 Ma
/-- a table of few rows -/
def TP (w N : Nat) (t : Tbl) : Prop := GT w t.1 t.2 ∧ t.2.length ≤ N
theorem tp_sub {w N : Nat} {t : Tbl} (h : TP w N t) (j : Nat) : TP w N (t.1, t.2.take j ++ t.2.drop (j + 1)) := by
  obtain ⟨g, hl⟩ := h
  have hs : (t.2.take j ++ t.2.drop (j + 1)).Sublist t.2 := by
    have h1 : (t.2.take j ++ t.2.drop (j + 1)).Sublist (t.2.take j ++ t.2.drop j) := (List.Sublist.refl _).append (by rw [← List.drop_drop (i := 1) (j := j)]; exact List.drop_sublist _ _)
    rw [List.take_append_drop] at h1
    exact h1
  exact ⟨⟨g.a1, g.a3, fun r hr => g.row r (hs.subset hr), g.str.sublist hs, Nat.le_trans hs.length_le g.len⟩, Nat.le_trans hs.length_le hl⟩
theorem map_erase {α β : Type} (f : α → β) : ∀ (xs : List α) (j : Nat), (xs.map f).eraseIdx j = (xs.eraseIdx j).map f
  | [], _ => by simp
  | x :: xs, 0 => by simp
  | x :: xs, j + 1 => by simp [map_erase f xs j]
theorem pop_of {xs : List D} {j : Nat} {y : D} (hj : j < xs.length) (hl : xs.length ≤ 1000) (hy : xs[j]? = some y) : uPop (.lst xs) [.int (j : Nat)] = some (y, .lst (xs.eraseIdx j)) := by
  have h1 : small62 ((j : Nat) : Int) = true := small62_of (by omega) (by omega)
  have h2 : seqIndex? ((j : Nat) : Int) xs.length = some j := by
    unfold seqIndex?
    simp only [show ¬ ((j : Nat) : Int) < 0 by omega, if_false]
    rw [if_pos (by rw [Bool.and_eq_true, decide_eq_true_eq, decide_eq_true_eq]; omega), Int.toNat_natCast]
  simp only [uPop, h1, h2, hy, if_true]
theorem asgO_of {tn : String} {up : Up} {i : Nat} {fa : FA} {gg : FG} {env env1 : En} {c c1 : Cs} {ds : List D} {d d' r : D} (h0 : env[i]? = some (some (.o d))) (h1 : isTy tn d = true) (h2 : fa env c = some (ds, c1)) (h3 : up d ds = some (r, d')) (h4 : gg r (env.set i (some (.o d'))) = some env1) : fAsgO tn up i fa gg env c = some (.nx, env1, c1) := by
  simp only [fAsgO, h0, h1, h2, h3, h4, if_true]
abbrev shI : FS := (fSeq (fAsgO "list" uPop 6 (aCons (fCall m__law_take (aCons (fVar 2) (aCons (fLenQ (fVarQ 6)) aNil))) aNil) (gSeq 2 (gsCons (gSet 7) (gsCons (gSet 8) gsNil))))
  (fSeq (fSet 9 (fCall m__law_take (aCons (fVar 2) (aCons (fOp oAdd (fLenQ (fVarQ 8)) (fC (.int 1))) aNil))))
  (fMutO "list" uApp 6 (aCons (fLst (aCons (fVar 7) (aCons (fOp oAdd (fSl (fVarQ 8) oNone (oSome (fVar 9))) (fSl (fVarQ 8) (oSome (fOp oAdd (fVarQ 9) (fC (.int 1)))) oNone)) aNil))) aNil))))
section
variable {ns : List Int} {x1 : Option Sl} {F w m N : Nat} {cells : List Int} {x7 x8 x9 x10 x11 x12 x13 x14 x15 x16 x17 x18 x19 x20 : Option Sl} {c : Cs}
theorem s_short (ts : List Tbl) (hne : ts ≠ []) (hl : ts.length ≤ 12) (hp : ∀ t ∈ ts, TP w N t) (hc : Fd F c) : ∃ (ts' : List Tbl) (y7 y8 y9 : Option Sl) (c' : Cs), shI (lwE ns x1 F w m cells (some (.o (.lst (ts.map tabD)))) x7 x8 x9 x10 x11 x12 x13 x14 x15 x16 x17 x18 x19 x20) c = some (.nx, lwE ns x1 F w m cells (some (.o (.lst (ts'.map tabD)))) y7 y8 y9 x10 x11 x12 x13 x14 x15 x16 x17 x18 x19 x20, c') ∧ ts'.length ≤ 12 ∧ (∀ t ∈ ts', TP w N t) ∧ FdTo F c c' := by
  have hpos : 0 < ts.length := List.length_pos_iff.mpr hne
  obtain ⟨j, c1, hj, e1, f1⟩ := s_takeN c F ts.length hc hpos (by omega)
  let t := ts[j]
  have ht : t ∈ ts := List.getElem_mem hj
  have hpt := hp t ht
  obtain ⟨q, c2, hq, e2, f2⟩ := s_takeN c1 F (t.2.length + 1) f1.fd (by omega) (by have := hpt.1.len; omega)
  let t' : Tbl := (t.1, t.2.take q ++ t.2.drop (q + 1))
  refine ⟨ts.eraseIdx j ++ [t'], some (.f (.int t.1)), some (.f (.lst (t.2.map tupI))), some (.f (.int q)), c2, ?_, ?_, fun u hu => ?_, f1.trans f2⟩
  · have a1 : fAsgO "list" uPop 6 (aCons (fCall m__law_take (aCons (fVar 2) (aCons (fLenQ (fVarQ 6)) aNil))) aNil) (gSeq 2 (gsCons (gSet 7) (gsCons (gSet 8) gsNil))) (lwE ns x1 F w m cells (some (.o (.lst (ts.map tabD)))) x7 x8 x9 x10 x11 x12 x13 x14 x15 x16 x17 x18 x19 x20) c
        = some (.nx, lwE ns x1 F w m cells (some (.o (.lst ((ts.eraseIdx j).map tabD)))) (some (.f (.int t.1))) (some (.f (.lst (t.2.map tupI)))) x9 x10 x11 x12 x13 x14 x15 x16 x17 x18 x19 x20, c1) := by
      refine asgO_of (d := .lst (ts.map tabD)) (ds := [.int (j : Nat)]) (d' := .lst ((ts.eraseIdx j).map tabD)) (r := tabD t) rfl rfl (aC ((call_of (aC rfl (aC (lenQ_of (x := .lst (ts.map tabD)) (n := (ts.length : Nat)) (c1 := c) rfl ?_) aN))).trans e1) aN) ?_ rfl
      · simp only [lenD, deref, List.length_map]
      · rw [pop_of (y := tabD t) (by rw [List.length_map]; exact hj) (by rw [List.length_map]; omega) (by rw [List.getElem?_map, List.getElem?_eq_getElem hj]; rfl), map_erase]
    have a2 : fSet 9 (fCall m__law_take (aCons (fVar 2) (aCons (fOp oAdd (fLenQ (fVarQ 8)) (fC (.int 1))) aNil))) (lwE ns x1 F w m cells (some (.o (.lst ((ts.eraseIdx j).map tabD)))) (some (.f (.int t.1))) (some (.f (.lst (t.2.map tupI)))) x9 x10 x11 x12 x13 x14 x15 x16 x17 x18 x19 x20) c1
        = some (.nx, lwE ns x1 F w m cells (some (.o (.lst ((ts.eraseIdx j).map tabD)))) (some (.f (.int t.1))) (some (.f (.lst (t.2.map tupI)))) (some (.f (.int q))) x10 x11 x12 x13 x14 x15 x16 x17 x18 x19 x20, c2) := by
      refine (set_of ((call_of (aC rfl (aC ((op_of (x := .int (t.2.length : Nat)) (y := .int 1) (c1 := c1) (c2 := c1) (lenQ_of (x := .lst (t.2.map tupI)) rfl ?_) rfl).trans rfl) aN))).trans e2)).trans rfl
      simp only [lenD, deref, List.length_map]
    refine (fSeq_nx a1).trans ((fSeq_nx a2).trans ?_)
    have e3 : fOp oAdd (fSl (fVarQ 8) oNone (oSome (fVar 9))) (fSl (fVarQ 8) (oSome (fOp oAdd (fVarQ 9) (fC (.int 1)))) oNone) (lwE ns x1 F w m cells (some (.o (.lst ((ts.eraseIdx j).map tabD)))) (some (.f (.int t.1))) (some (.f (.lst (t.2.map tupI)))) (some (.f (.int q))) x10 x11 x12 x13 x14 x15 x16 x17 x18 x19 x20) c2 = some (.lst ((t.2.take q ++ t.2.drop (q + 1)).map tupI), c2) := by
      have hlen := hpt.1.len
      have z1 : cutD (t.2.map tupI) none (some ((q : Nat) : Int)) = (t.2.take q).map tupI := by rw [cut_to, List.map_take]
      have z2 : cutD (t.2.map tupI) (some ((q + 1 : Nat) : Int)) none = (t.2.drop (q + 1)).map tupI := by rw [cut_from, List.map_drop]
      refine (one_more (A := (t.2.take q).map tupI) (B := (t.2.drop (q + 1)).map tupI) ?_ ?_ ?_).trans (by rw [← List.map_append])
      · rw [← z1]; exact sl_lst (c1 := c2) (c2 := c2) rfl rfl (oS_of rfl)
      · rw [← z2]; exact sl_lst (c1 := c2) (c2 := c2) rfl (oS_of ((op_of (x := .int q) (y := .int 1) (c1 := c2) (c2 := c2) rfl rfl).trans rfl)) rfl
      · rw [List.length_map, List.length_map, List.length_take, List.length_drop]; omega
    refine (mutO_of (d := .lst ((ts.eraseIdx j).map tabD)) (ds := [tabD t']) (c1 := c2) (r := .non) (d' := .lst ((ts.eraseIdx j ++ [t']).map tabD)) rfl rfl (aC (lst_of (aC rfl (aC e3 aN)) (by show 2 ≤ lim; decide)) aN) ?_).trans rfl
    rw [app_of (by rw [List.length_map]; have := (List.eraseIdx_sublist ts j).length_le; exact Nat.lt_of_lt_of_le (show _ < 1000 by omega) (lim_le (Nat.le_refl 1000))), List.map_append]; rfl
  · rw [List.length_append, List.length_eraseIdx_of_lt hj, List.length_singleton]; omega
  · rcases List.mem_append.mp hu with hu | hu
    · exact hp u ((List.eraseIdx_sublist ts j).subset hu)
    · rw [List.mem_singleton.mp hu]; exact tp_sub hpt q
end
end M39
set_option Elab.async false
set_option linter.all false
set_option maxRecDepth 100000
set_option maxHeartbeats 0
namespace M39
open PySem PySem.Spec PyProof.Rows L2 Pd L39 Ma
section
variable {ns : List Int} {x1 : Option Sl} {F w m : Nat} {cells : List Int} {x6 x7 x8 x9 x10 x11 x12 x13 x14 x15 x16 x17 x18 x19 x20 : Option Sl} {c : Cs}
def mostR (m : Nat) : Nat := if m = 2 then 9 else 6
theorem few_tp {m w : Nat} (h : NR w m) {t : Tbl} (ht : TP w (mostR m) t) : GT w t.1 t.2 ∧ Few t.2 (m + 1) := by
  refine ⟨ht.1, few_of ?_⟩
  have hl := ht.2
  unfold mostR at hl
  rcases h with ⟨_, ⟨rfl, _⟩ | ⟨rfl, _⟩⟩
  · exact .inl ⟨rfl, hl⟩
  · exact .inr ⟨rfl, hl⟩
abbrev fiS : FS := fSetO 6 (fComp (fIt (fVarQ 6)) (gSet 19) (asB (fOp oLe (fLenQ (fOp oIx (fVarQ 19) (fC (.int 1)))) (fIf (asB (fOp oEq (fVarQ 4) (fC (.int 2)))) (fC (.int 9)) (fC (.int 6))))) (fVar 19) [19])
theorem s_filter (h : NR w m) (ts : List Tbl) (hl : ts.length ≤ 12) (hg : ∀ t ∈ ts, GT w t.1 t.2) : ∃ ts' : List Tbl, fiS (lwE ns x1 F w m cells (some (.f (.lst (ts.map tabD)))) x7 x8 x9 x10 x11 x12 x13 x14 x15 x16 x17 x18 x19 x20) c = some (.nx, lwE ns x1 F w m cells (some (.o (.lst (ts'.map tabD)))) x7 x8 x9 x10 x11 x12 x13 x14 x15 x16 x17 x18 x19 x20, c) ∧ ts'.length ≤ 12 ∧ ∀ t ∈ ts', TP w (mostR m) t := by
  refine ⟨ts.filter fun t => decide ((t.2.length : Int) ≤ (mostR m : Nat)), ?_, Nat.le_trans (List.length_filter_le ..) hl, fun t ht => ?_⟩
  · refine (setO_of (comp_of (c1 := c) (it_lst rfl) (compD_filter (h := tabD) (r := tabD) (p := fun t => decide ((t.2.length : Int) ≤ (mostR m : Nat))) fun t ht => ?_) (by rw [List.length_map]; exact Nat.le_trans (List.length_filter_le ..) (lim_le (by omega))))).trans rfl
    refine ⟨lwE ns x1 F w m cells (some (.f (.lst (ts.map tabD)))) x7 x8 x9 x10 x11 x12 x13 x14 x15 x16 x17 x18 (some (.f (tabD t))) x20, rfl, asB_of ((op_of (x := .int (t.2.length : Nat)) (y := .int (mostR m : Nat)) (c1 := c) (c2 := c) (lenQ_of (x := .lst (t.2.map tupI)) (c1 := c) ((op_of (x := tabD t) (y := .int 1) (c1 := c) (c2 := c) rfl rfl).trans ?_) ?_) ?_).trans rfl), rfl⟩
    · simp only [tabD, gD, oIx, ixD, deref, atI1]
    · simp only [lenD, deref, List.length_map]
    · have e := oEq_int (m : Int) 2 c
      unfold mostR
      by_cases hm : m = 2
      · rw [decide_eq_true (by omega)] at e
        rw [if_pos hm]; exact (if_t (asB_of ((op_of rfl rfl).trans e))).trans rfl
      · rw [decide_eq_false (by omega)] at e
        rw [if_neg hm]; exact (if_f (asB_of ((op_of rfl rfl).trans e))).trans rfl
  · obtain ⟨h1, h2⟩ := List.mem_filter.mp ht
    exact ⟨hg t h1, by have := of_decide_eq_true h2; omega⟩
end
end M39
set_option Elab.async false
set_option linter.all false
set_option maxRecDepth 100000
set_option maxHeartbeats 0
namespace M39
open PySem PySem.Spec PyProof.Rows L2 Pd L39 Ma
def bodyL : FS := (fSeq (fSet 2 (fCall m__law_feed (aCons (fVar 0) (aCons (fVar 1) aNil))))
  (fSeq (fSet 3 (fCall m__law_width (aCons (fVar 2) aNil)))
  (fSeq (fSet 4 (fIf (asB (fOp oLt (fVarQ 3) (fC (.int 3)))) (fCall m__law_pick (aCons (fVar 2) (aCons (fLst (aCons (fC (.int 2)) (aCons (fC (.int 2)) (aCons (fC (.int 3)) aNil)))) aNil))) (fC (.int 2))))
  (fSeq (fAsg (fCall m__law_agreeing (aCons (fVar 2) (aCons (fVar 3) (aCons (fVar 4) (aCons (fIf (asB (fOp oEq (fVarQ 4) (fC (.int 2)))) (fC (.int 3)) (fC (.int 2))) aNil))))) (gSeq 2 (gsCons (gSet 5) (gsCons (gSet 6) gsNil))))
  (fSeq (fSetO 6 (fComp (fIt (fVarQ 6)) (gSet 19) (asB (fOp oLe (fLenQ (fOp oIx (fVarQ 19) (fC (.int 1)))) (fIf (asB (fOp oEq (fVarQ 4) (fC (.int 2)))) (fC (.int 9)) (fC (.int 6))))) (fVar 19) [19]))
  (fSeq (fIte (fAnd (asB (fOp oNe (fVarQ 6) (fLst aNil))) (asB (fOp oEq (fCall m__law_take (aCons (fVar 2) (aCons (fC (.int 3)) aNil))) (fC (.int 0)))))
  (fSeq (fAsgO "list" uPop 6 (aCons (fCall m__law_take (aCons (fVar 2) (aCons (fLenQ (fVarQ 6)) aNil))) aNil) (gSeq 2 (gsCons (gSet 7) (gsCons (gSet 8) gsNil))))
  (fSeq (fSet 9 (fCall m__law_take (aCons (fVar 2) (aCons (fOp oAdd (fLenQ (fVarQ 8)) (fC (.int 1))) aNil))))
  (fMutO "list" uApp 6 (aCons (fLst (aCons (fVar 7) (aCons (fOp oAdd (fSl (fVarQ 8) oNone (oSome (fVar 9))) (fSl (fVarQ 8) (oSome (fOp oAdd (fVarQ 9) (fC (.int 1)))) oNone)) aNil))) aNil))))
  fNx)
  (fSeq (fFz 6 (fPar 10 11 (xF (fCall m__law_program_book (aCons (fVar 3) (aCons (fVar 6) aNil)))) (xO (fCall bList (aCons (fVarQ 5) aNil)))))
  (fSeq (fStO uSetL 11 (fCall m__law_take (aCons (fVar 2) (aCons (fVar 3) aNil))) (fCall m__law_take (aCons (fVar 2) (aCons (fLenQ (fVarQ 5)) aNil))))
  (fSeq (fFz 11 (fFor (fIt (fTup (aCons (fVar 5) (aCons (fVar 11) (aCons (fCall m__law_agreement (aCons (fVar 2) (aCons (fVar 3) (aCons (fOp oAdd (fVarQ 4) (fC (.int 1))) aNil)))) aNil))))) (gSet 12)
  (fSeq (fSet 13 (fCall m__law_agrees (aCons (fVar 3) (aCons (fOp oAdd (fVarQ 4) (fC (.int 1))) (aCons (fVar 12) aNil)))))
  (fSeq (fSet 14 (fComp (fIt (fVarQ 6)) (gSeq 2 (gsCons (gSet 7) (gsCons (gSet 8) gsNil))) (fNot (asB (fCall m__law_keeps (aCons (fVar 3) (aCons (fLst (aCons (fOp oAdd (fVarQ 4) (fC (.int 1))) (aCons (fVar 12) aNil))) (aCons (fVar 8) aNil)))))) (fVar 8) [7, 8]))
  (fSeq (fSet 15 (fCall m_shows_agreement (aCons (fVar 10) (aCons (fVar 4) (aCons (fCall m_Operation_init (aCons (fVar 3) (aCons (fOp oAdd (fVarQ 4) (fC (.int 1))) (aCons (fCall bList (aCons (fVarQ 12) aNil)) aNil)))) aNil)))))
  (fIte (fOr (fNot (asB (fIsi (fun s => isaB s "bool") (tc_none 4) (fVarQ 15)))) (asB (fOp oNe (fVarQ 15) (fAndV (fVar 13) (fOp oEq (fVarQ 14) (fLst aNil))))))
  (fRet (fC (.bl false)))
  fNx))))))
  (fSeq (fFz 6 (fIte (asB (fOp (oNeM ms_eq_Book) (fVar 10) (fCall m__law_program_book (aCons (fVar 3) (aCons (fVar 6) aNil)))))
  (fRet (fC (.bl false)))
  fNx))
  (fSeq (fSet 16 (fOp oAdd (fOp oMod (fCall bIntS (aCons (fVarQ 3) aNil)) (fC (.int 3))) (fC (.int 1))))
  (fSeq (fSet 17 (fLst (aCons (fC .non) (aCons (fVar 5) (aCons (fC (.str "agreement")) (aCons (fC (.int 0)) (aCons (fLst (aCons (fCall m_Operation_init (aCons (fVar 3) (aCons (fOp oAdd (fVarQ 4) (fC (.int 1))) (aCons (fVar 5) aNil)))) aNil)) (aCons (fCall m_Operation_taking (aCons (fVar 3) (aCons (fC (.int 2)) (aCons (fC (.int 0)) aNil)))) aNil))))))))
  (fSeq (fSet 17 (fOp oAdd (fVarQ 17) (fLst (aCons (fCall m_Operation_init (aCons (fVar 16) (aCons (fC (.int 3)) (aCons (fComp (fIt (fCall m__law_all (aCons (fVar 16) (aCons (fC (.int 3)) aNil)))) (gSet 20) fYes (fC (.int 0)) [20]) aNil)))) aNil))))
  (fSeq (fSet 17 (fOp oAdd (fVarQ 17) (fLst (aCons (fCall m_Operation_taking (aCons (fVar 3) (aCons (fOp oAdd (fVarQ 4) (fC (.int 1))) (aCons (fC (.int 1)) aNil)))) (aCons (fCall m_Operation_taking (aCons (fVar 3) (aCons (fC (.int 1)) (aCons (fC (.int 0)) aNil)))) aNil)))))
  (fSeq (fFor (fIt (fVar 17)) (gSet 18)
  (fSeq (fSet 13 (fAndV (fOp oEq (fVarQ 3) (fC (.int 1))) (fAndV (fIsi (fun _ => false) (tc_cls 4 3) (fVarQ 18)) (fAndV (fOp oEq (fFld [(0, 0), (1, 0), (3, 0)] (fVarQ 18)) (fC (.int 1))) (fOp oEq (fFld [(0, 1), (3, 1)] (fVarQ 18)) (fOp oAdd (fVarQ 4) (fC (.int 1))))))))
  (fIte (asB (fOp oNe (fCall m_shows_agreement (aCons (fVar 10) (aCons (fVar 4) (aCons (fVar 18) aNil)))) (fVarQ 13)))
  (fRet (fC (.bl false)))
  fNx)))
  (fSeq (fIte (fNot (asB (fCall m__law_other_number_refused (aCons (fVar 2) (aCons (fVar 3) (aCons (fVar 4) aNil))))))
  (fRet (fC (.bl false)))
  fNx)
  (fFor (fIt (fTup (aCons (fVar 10) (aCons (fCall m_Table_full (aCons (fVar 3) (aCons (fC (.int 1)) aNil))) (aCons (fTup (aCons (fC (.int 1)) aNil)) (aCons (fLst (aCons (fCall m_Table_full (aCons (fVar 3) (aCons (fC (.int 1)) aNil))) aNil)) aNil)))))) (gSet 18)
  (fIte (asB (fOp oIsNot (fCall m_shows_agreement (aCons (fVar 10) (aCons (fVar 4) (aCons (fVar 18) aNil)))) (fC (.bl false))))
  (fRet (fC (.bl false)))
  fNx))))))))))))))))))
theorem f_law_is : f_law = fSeq (fFor (fRg1 (aCons (fCall bMax (aCons (fC (.int 1)) (aCons (fCall bMin (aCons (fC (.int 2)) (aCons (fLenQ (fVarQ 0)) aNil))) aNil))) aNil)) (gSet 1) bodyL) (fRet (fC (.bl true))) := rfl
end M39
set_option Elab.async false
set_option linter.all false
set_option maxRecDepth 100000
set_option maxHeartbeats 0
namespace M39
open PySem PySem.Spec PyProof.Rows L2 Pd L39 Ma
abbrev rwE (ns : List Int) (x1 x2 x3 x4 x5 x6 x7 x8 x9 x10 x11 x12 x13 x14 x15 x16 x17 x18 x19 x20 : Option Sl) : En := [some (.f (.scr ns)), x1, x2, x3, x4, x5, x6, x7, x8, x9, x10, x11, x12, x13, x14, x15, x16, x17, x18, x19, x20]
/-- how many places are looked at: drawn -/
theorem s_near {ns : List Int} {x1 x4 x5 x6 x7 x8 x9 x10 x11 x12 x13 x14 x15 x16 x17 x18 x19 x20 : Option Sl} {F w : Nat} (h1 : 1 ≤ w) (h3 : w ≤ 3) (c : Cs) (hc : Fd F c) : ∃ (m : Nat) (c' : Cs), NR w m ∧ FdTo F c c' ∧
    fSet 4 (fIf (asB (fOp oLt (fVarQ 3) (fC (.int 3)))) (fCall m__law_pick (aCons (fVar 2) (aCons (fLst (aCons (fC (.int 2)) (aCons (fC (.int 2)) (aCons (fC (.int 3)) aNil)))) aNil))) (fC (.int 2))) (rwE ns x1 (some (.f (.cell F))) (some (.f (.int w))) x4 x5 x6 x7 x8 x9 x10 x11 x12 x13 x14 x15 x16 x17 x18 x19 x20) c
      = some (.nx, rwE ns x1 (some (.f (.cell F))) (some (.f (.int w))) (some (.f (.int m))) x5 x6 x7 x8 x9 x10 x11 x12 x13 x14 x15 x16 x17 x18 x19 x20, c') := by
  have hlt : asB (fOp oLt (fVarQ 3) (fC (.int 3))) (rwE ns x1 (some (.f (.cell F))) (some (.f (.int w))) x4 x5 x6 x7 x8 x9 x10 x11 x12 x13 x14 x15 x16 x17 x18 x19 x20) c = some (decide ((w : Int) < 3), c) := asB_of ((op_of (x := .int w) (y := .int 3) (c1 := c) (c2 := c) rfl rfl).trans rfl)
  by_cases hw : w < 3
  · rw [decide_eq_true (by omega)] at hlt
    obtain ⟨x, c', hx, e, f⟩ := s_pick c F [.int 2, .int 2, .int 3] hc (by simp) (by simp)
    have go : ∀ m : Nat, x = .int (m : Nat) → NR w m → _ := fun m hm hn => (⟨m, c', hn, f, (set_of ((if_t hlt).trans ((call_of (aC rfl (aC (lst_of (aC rfl (aC rfl (aC rfl aN))) (by decide)) aN))).trans (hm ▸ e)))).trans rfl⟩ : ∃ (m : Nat) (c' : Cs), NR w m ∧ FdTo F c c' ∧ fSet 4 (fIf (asB (fOp oLt (fVarQ 3) (fC (.int 3)))) (fCall m__law_pick (aCons (fVar 2) (aCons (fLst (aCons (fC (.int 2)) (aCons (fC (.int 2)) (aCons (fC (.int 3)) aNil)))) aNil))) (fC (.int 2))) (rwE ns x1 (some (.f (.cell F))) (some (.f (.int w))) x4 x5 x6 x7 x8 x9 x10 x11 x12 x13 x14 x15 x16 x17 x18 x19 x20) c = some (.nx, rwE ns x1 (some (.f (.cell F))) (some (.f (.int w))) (some (.f (.int m))) x5 x6 x7 x8 x9 x10 x11 x12 x13 x14 x15 x16 x17 x18 x19 x20, c'))
    simp only [List.mem_cons, List.not_mem_nil, or_false] at hx
    rcases hx with hx | hx | hx
    · exact go 2 hx ⟨h1, .inl ⟨rfl, h3⟩⟩
    · exact go 2 hx ⟨h1, .inl ⟨rfl, h3⟩⟩
    · exact go 3 hx ⟨h1, .inr ⟨rfl, by omega⟩⟩
  · rw [decide_eq_false (by omega)] at hlt
    exact ⟨2, c, ⟨h1, .inl ⟨rfl, h3⟩⟩, .refl hc, (set_of ((if_f hlt).trans rfl)).trans rfl⟩
end M39
set_option Elab.async false
set_option linter.all false
set_option maxRecDepth 100000
set_option maxHeartbeats 0
namespace M39
open PySem PySem.Spec PyProof.Rows L2 Pd L39 Ma
abbrev shS : FS := (fIte (fAnd (asB (fOp oNe (fVarQ 6) (fLst aNil))) (asB (fOp oEq (fCall m__law_take (aCons (fVar 2) (aCons (fC (.int 3)) aNil))) (fC (.int 0))))) shI fNx)
section
variable {ns : List Int} {x1 : Option Sl} {F w m N : Nat} {cells : List Int} {x6 x7 x8 x9 x10 x11 x12 x13 x14 x15 x16 x17 x18 x19 x20 : Option Sl}
theorem pdn_tabD (t : Tbl) : pdn 59 (tabD t) = some (.list [.int t.1, .list (t.2.map fun r => .tuple (r.map .int))]) := by
  have := pdns_tupI 56 t.2
  show pdn (58 + 1) (.lst [.int t.1, .lst (t.2.map tupI)]) = _
  simp only [pdn, pdns, this]
theorem oNe_of_eq {x y : D} {c : Cs} {b : Bool} (h : oEq x y c = some (.bl b, c)) : oNe x y c = some (.bl (!b), c) := by
  have : oNe x y c = (oEq x y c).map fun p => (match p.1 with | .bl b => D.bl (!b) | d => d, p.2) := by
    unfold oNe oEq
    split <;> rfl
  rw [this, h]; rfl
/-- a row of one table left out, now and then -/
theorem s_maybe (ts : List Tbl) (hl : ts.length ≤ 12) (hp : ∀ t ∈ ts, TP w N t) (c : Cs) (hc : Fd F c) : ∃ (ts' : List Tbl) (y7 y8 y9 : Option Sl) (c' : Cs), shS (lwE ns x1 F w m cells (some (.o (.lst (ts.map tabD)))) x7 x8 x9 x10 x11 x12 x13 x14 x15 x16 x17 x18 x19 x20) c = some (.nx, lwE ns x1 F w m cells (some (.o (.lst (ts'.map tabD)))) y7 y8 y9 x10 x11 x12 x13 x14 x15 x16 x17 x18 x19 x20, c') ∧ ts'.length ≤ 12 ∧ (∀ t ∈ ts', TP w N t) ∧ FdTo F c c' := by
  have e0 : asB (fOp oNe (fVarQ 6) (fLst aNil)) (lwE ns x1 F w m cells (some (.o (.lst (ts.map tabD)))) x7 x8 x9 x10 x11 x12 x13 x14 x15 x16 x17 x18 x19 x20) c = some (!ts.isEmpty, c) :=
    asB_of ((op_of (x := .lst (ts.map tabD)) (y := .lst []) (c1 := c) (c2 := c) rfl (lst_of aN (by decide))).trans (oNe_of_eq (oEq_nil pdn_tabD ts c)))
  cases hts : ts with
  | nil =>
    rw [hts] at e0
    exact ⟨[], x7, x8, x9, c, (fIte_f (and_f e0)).trans rfl, by simp, (fun t ht => by cases ht), .refl hc⟩
  | cons t0 tr =>
    rw [← hts]
    have hne : ts ≠ [] := by rw [hts]; simp
    have e1 : (!ts.isEmpty) = true := by rw [hts]; rfl
    rw [e1] at e0
    obtain ⟨v, c1, hv, e2, f2⟩ := s_takeN c F 3 hc (by decide) (by decide)
    have e3 : asB (fOp oEq (fCall m__law_take (aCons (fVar 2) (aCons (fC (.int 3)) aNil))) (fC (.int 0))) (lwE ns x1 F w m cells (some (.o (.lst (ts.map tabD)))) x7 x8 x9 x10 x11 x12 x13 x14 x15 x16 x17 x18 x19 x20) c = some (decide ((v : Int) = 0), c1) :=
      asB_of ((op_of (x := .int v) (y := .int 0) (c1 := c1) (c2 := c1) ((call_of (aC rfl (aC rfl aN))).trans e2) rfl).trans (oEq_int _ _ c1))
    by_cases h0 : (v : Int) = 0
    · rw [decide_eq_true h0] at e3
      obtain ⟨ts', y7, y8, y9, c', e4, h1, h2, f4⟩ := s_short (ns := ns) (x1 := x1) (m := m) (cells := cells) (x7 := x7) (x8 := x8) (x9 := x9) (x10 := x10) (x11 := x11) (x12 := x12) (x13 := x13) (x14 := x14) (x15 := x15) (x16 := x16) (x17 := x17) (x18 := x18) (x19 := x19) (x20 := x20) ts hne hl hp f2.fd
      exact ⟨ts', y7, y8, y9, c', (fIte_t ((and_t e0).trans e3)).trans e4, h1, h2, f2.trans f4⟩
    · rw [decide_eq_false h0] at e3
      exact ⟨ts, x7, x8, x9, c1, (fIte_f ((and_t e0).trans e3)).trans rfl, hl, hp, f2⟩
end
end M39
set_option Elab.async false
set_option linter.all false
set_option maxRecDepth 100000
set_option maxHeartbeats 0
namespace M39
open PySem PySem.Spec PyProof.Rows L2 Pd L39 Ma
theorem ixN_nat {n i : Nat} (h : i < n) : ixN n (i : Int) = some i := by
  unfold ixN
  rw [if_pos (by omega), if_pos (by omega)]; rfl
section
variable {ns : List Int} {x1 : Option Sl} {F w m : Nat} {cells : List Int} {x6 x7 x8 x9 x10 x11 x12 x13 x14 x15 x16 x17 x18 x19 x20 : Option Sl}
theorem tp_gt {ts : List Tbl} (h : NR w m) (hl : ts.length ≤ 12) (hp : ∀ t ∈ ts, TP w (mostR m) t) : Gt w m ts := ⟨h, hl, fun t ht => few_tp h (hp t ht)⟩
/-- the book, and the other cells -/
theorem s_par {ts : List Tbl} (G : Gt w m ts) (c : Cs) : fFz 6 (fPar 10 11 (xF (fCall m__law_program_book (aCons (fVar 3) (aCons (fVar 6) aNil)))) (xO (fCall bList (aCons (fVarQ 5) aNil)))) (lwE ns x1 F w m cells (some (.o (.lst (ts.map tabD)))) x7 x8 x9 x10 x11 x12 x13 x14 x15 x16 x17 x18 x19 x20) c
    = some (.nx, lwE ns x1 F w m cells (some (.f (.lst (ts.map tabD)))) x7 x8 x9 (some (.f (bobj w ts))) (some (.o (intsD cells))) x12 x13 x14 x15 x16 x17 x18 x19 x20, c) := by
  show fPar 10 11 _ _ (lwE ns x1 F w m cells (some (.f (.lst (ts.map tabD)))) x7 x8 x9 x10 x11 x12 x13 x14 x15 x16 x17 x18 x19 x20) c = _
  exact (par_of (xF_of ((call_of (aC rfl (aC rfl aN))).trans (s_program_book w ts (by have := G.nr.wn.w1; omega) (by have := G.nr.wn.w3; omega) (fun t ht => (G.gt t ht).1) G.few c))) (xO_of ((call_of (aC rfl aN)).trans rfl))).trans rfl
theorem s_other (h : NR w m) (hc : Cl w (m + 1) cells) (c : Cs) (hf : Fd F c) : ∃ (oth : List Int) (c' : Cs), Cl w (m + 1) oth ∧ FdTo F c c' ∧ fStO uSetL 11 (fCall m__law_take (aCons (fVar 2) (aCons (fVar 3) aNil))) (fCall m__law_take (aCons (fVar 2) (aCons (fLenQ (fVarQ 5)) aNil))) (lwE ns x1 F w m cells x6 x7 x8 x9 x10 (some (.o (intsD cells))) x12 x13 x14 x15 x16 x17 x18 x19 x20) c
    = some (.nx, lwE ns x1 F w m cells x6 x7 x8 x9 x10 (some (.o (intsD oth))) x12 x13 x14 x15 x16 x17 x18 x19 x20, c') := by
  have hw1 := h.wn.w1
  have hw3 := h.wn.w3
  have hpow := pow_small hw3 h.wn.n4 (Nat.le_refl (m + 1))
  have hpos : 0 < w ^ (m + 1) := Nat.pow_pos (by omega)
  obtain ⟨v, c1, hv, e1, f1⟩ := s_takeN c F w hf hw1 (by omega)
  obtain ⟨j, c2, hj, e2, f2⟩ := s_takeN c1 F cells.length f1.fd (by rw [hc.len]; exact hpos) (by rw [hc.len]; omega)
  refine ⟨cells.set j v, c2, ⟨hc.wn, by rw [List.length_set, hc.len], fun x hx => ?_⟩, f1.trans f2, ?_⟩
  · rcases List.mem_or_eq_of_mem_set hx with hx | rfl
    · exact hc.val x hx
    · omega
  · have e3 : fCall m__law_take (aCons (fVar 2) (aCons (fVar 3) aNil)) (lwE ns x1 F w m cells x6 x7 x8 x9 x10 (some (.o (intsD cells))) x12 x13 x14 x15 x16 x17 x18 x19 x20) c = some (.int v, c1) := (call_of (aC rfl (aC rfl aN))).trans e1
    have e4 : fCall m__law_take (aCons (fVar 2) (aCons (fLenQ (fVarQ 5)) aNil)) (lwE ns x1 F w m cells x6 x7 x8 x9 x10 (some (.o (intsD cells))) x12 x13 x14 x15 x16 x17 x18 x19 x20) c1 = some (.int j, c2) := by
      refine (call_of (aC rfl (aC (lenQ_of (x := intsD cells) (n := (cells.length : Nat)) rfl ?_) aN))).trans e2
      simp only [lenD, deref, intsD, List.length_map]
    have e5 : uSetL (intsD cells) (.int (j : Nat)) (.int v) = some (intsD (cells.set j v)) := by
      have : ixN cells.length ((j : Nat) : Int) = some j := ixN_nat hj
      simp only [uSetL, intsD, List.length_map, this, List.map_set]
    have e6 : (lwE ns x1 F w m cells x6 x7 x8 x9 x10 (some (.o (intsD cells))) x12 x13 x14 x15 x16 x17 x18 x19 x20)[11]? = some (some (.o (intsD cells))) := rfl
    unfold fStO
    rw [e3]
    dsimp only
    rw [e6]
    dsimp only
    rw [e4]
    dsimp only
    rw [e5]
    rfl
end
end M39
set_option Elab.async false
set_option linter.all false
set_option maxRecDepth 100000
set_option maxHeartbeats 0
namespace M39
open PySem PySem.Spec PyProof.Rows L2 Pd L39 Ma
abbrev enB : FS := (fIte (asB (fOp oIsNot (fCall m_shows_agreement (aCons (fVar 10) (aCons (fVar 4) (aCons (fVar 18) aNil)))) (fC (.bl false)))) (fRet (fC (.bl false))) fNx)
section
variable {ns : List Int} {x1 : Option Sl} {F w m : Nat} {cells : List Int} {ts : List Tbl} {x6 x7 x8 x9 x11 x12 x13 x14 x15 x16 x17 x18 x19 x20 : Option Sl} {c : Cs}
theorem en_all (h : NR w m) : ∀ (vs : List D), (∀ v ∈ vs, isiD (fun _ => false) (tc_cls 4 3) c v = some false) → ∀ (x18 : Option Sl),
    ∃ y18, forD (gSet 18) enB vs (lwE ns x1 F w m cells x6 x7 x8 x9 (some (.f (bobj w ts))) x11 x12 x13 x14 x15 x16 x17 x18 x19 x20) c = some (.nx, lwE ns x1 F w m cells x6 x7 x8 x9 (some (.f (bobj w ts))) x11 x12 x13 x14 x15 x16 x17 y18 x19 x20, c)
  | [], _, x18 => ⟨x18, rfl⟩
  | v :: vs, H, x18 => by
    obtain ⟨y18, e⟩ := en_all h vs (fun u hu => H u (List.mem_cons_of_mem _ hu)) (some (.f v))
    refine ⟨y18, (forD_step (env1 := lwE ns x1 F w m cells x6 x7 x8 x9 (some (.f (bobj w ts))) x11 x12 x13 x14 x15 x16 x17 (some (.f v)) x19 x20) rfl ?_).trans e⟩
    exact (fIte_f (asB_of ((op_of (x := .bl false) (y := .bl false) (c1 := c) (c2 := c) ((call_of (aC rfl (aC rfl (aC rfl aN)))).trans (s_sa_other h ts v c (H v (List.mem_cons_self ..)))) rfl).trans rfl))).trans rfl
/-- behind the tables -/
theorem ju_all (G : Gt w m ts) (oth ag : List Int) (hc : Cl w (m + 1) cells) (ho : Cl w (m + 1) oth) (ha : Cl w (m + 1) ag) (x12 x13 x14 x15 : Option Sl) : ∃ y12 y13 y14 y15, forD (gSet 12) juB [intsD cells, intsD oth, intsD ag] (lwE ns x1 F w m cells (some (.f (.lst (ts.map tabD)))) x7 x8 x9 (some (.f (bobj w ts))) x11 x12 x13 x14 x15 x16 x17 x18 x19 x20) c = some (.nx, lwE ns x1 F w m cells (some (.f (.lst (ts.map tabD)))) x7 x8 x9 (some (.f (bobj w ts))) x11 y12 y13 y14 y15 x16 x17 x18 x19 x20, c) := by
  refine ⟨_, _, _, _, (forD_step rfl (s_judge ns x1 F w m cells ts G x7 x8 x9 x11 _ _ _ x16 x17 x18 x19 x20 cells hc c)).trans ((forD_step rfl (s_judge ns x1 F w m cells ts G x7 x8 x9 x11 _ _ _ x16 x17 x18 x19 x20 oth ho c)).trans ((forD_step rfl (s_judge ns x1 F w m cells ts G x7 x8 x9 x11 _ _ _ x16 x17 x18 x19 x20 ag ha c)).trans rfl))⟩
end
end M39
set_option Elab.async false
set_option linter.all false
set_option maxRecDepth 100000
set_option maxHeartbeats 0
namespace M39
open PySem PySem.Spec PyProof.Rows L2 Pd L39 Ma
theorem s_turn (ns : List Int) (k : Nat) (c : Cs) (x2 x3 x4 x5 x6 x7 x8 x9 x10 x11 x12 x13 x14 x15 x16 x17 x18 x19 x20 : Option Sl) : ∃ (y2 y3 y4 y5 y6 y7 y8 y9 y10 y11 y12 y13 y14 y15 y16 y17 y18 y19 y20 : Option Sl) (c' : Cs),
    bodyL (rwE ns (some (.f (.int (0 + (k : Nat))))) x2 x3 x4 x5 x6 x7 x8 x9 x10 x11 x12 x13 x14 x15 x16 x17 x18 x19 x20) c = some (.nx, rwE ns (some (.f (.int (0 + (k : Nat))))) y2 y3 y4 y5 y6 y7 y8 y9 y10 y11 y12 y13 y14 y15 y16 y17 y18 y19 y20, c') := by
  obtain ⟨dg, st, e1⟩ := s_feed ns k c
  have e1' : m__law_feed [.scr ns, .int (0 + (k : Nat))] c = some (.cell c.length, c ++ [.lst [.int dg, .int st]]) := by rw [Int.zero_add]; exact e1
  let F := c.length
  have f0 : Fd F (c ++ [.lst [.int dg, .int st]]) := ⟨dg, st, by simp [F]⟩
  obtain ⟨wi, c1, hw1, hw3, e2, f1⟩ := s_width (c ++ [.lst [.int dg, .int st]]) F f0
  obtain ⟨w, rfl⟩ := Int.eq_ofNat_of_zero_le (show 0 ≤ wi by omega)
  have hw1 : 1 ≤ w := by omega
  have hw3 : w ≤ 3 := by omega
  let X1 : Option Sl := some (.f (.int (0 + (k : Nat))))
  obtain ⟨m, c2, hn, f2, e3⟩ := s_near (ns := ns) (x1 := X1) (x4 := x4) (x5 := x5) (x6 := x6) (x7 := x7) (x8 := x8) (x9 := x9) (x10 := x10) (x11 := x11) (x12 := x12) (x13 := x13) (x14 := x14) (x15 := x15) (x16 := x16) (x17 := x17) (x18 := x18) (x19 := x19) (x20 := x20) hw1 hw3 c1 f1.fd
  obtain ⟨q, hq, eq⟩ : ∃ q : Nat, q ≤ 3 ∧ fIf (asB (fOp oEq (fVarQ 4) (fC (.int 2)))) (fC (.int 3)) (fC (.int 2)) (rwE ns X1 (some (.f (.cell F))) (some (.f (.int w))) (some (.f (.int m))) x5 x6 x7 x8 x9 x10 x11 x12 x13 x14 x15 x16 x17 x18 x19 x20) c2 = some (.int (q : Nat), c2) := by
    have e := oEq_int (m : Int) 2 c2
    by_cases hm : (m : Int) = 2
    · rw [decide_eq_true hm] at e
      exact ⟨3, by decide, (if_t (asB_of ((op_of rfl rfl).trans e))).trans rfl⟩
    · rw [decide_eq_false hm] at e
      exact ⟨2, by decide, (if_f (asB_of ((op_of rfl rfl).trans e))).trans rfl⟩
  obtain ⟨cells, ts0, c3, e4, hcl, hl0, hg0, f3⟩ := s_agreeing hn q hq c2 F f2.fd
  obtain ⟨ts1, e5, hl1, hp1⟩ := s_filter (ns := ns) (x1 := X1) (F := F) (cells := cells) (x7 := x7) (x8 := x8) (x9 := x9) (x10 := x10) (x11 := x11) (x12 := x12) (x13 := x13) (x14 := x14) (x15 := x15) (x16 := x16) (x17 := x17) (x18 := x18) (x19 := x19) (x20 := x20) (c := c3) hn ts0 (by omega) hg0
  obtain ⟨ts, y7, y8, y9, c4, e6, hl, hp, f4⟩ := s_maybe (ns := ns) (x1 := X1) (m := m) (cells := cells) (x7 := x7) (x8 := x8) (x9 := x9) (x10 := x10) (x11 := x11) (x12 := x12) (x13 := x13) (x14 := x14) (x15 := x15) (x16 := x16) (x17 := x17) (x18 := x18) (x19 := x19) (x20 := x20) ts1 hl1 hp1 c3 f3.fd
  have G : Gt w m ts := tp_gt hn hl hp
  have e7 := s_par (ns := ns) (x1 := X1) (F := F) (cells := cells) (x7 := y7) (x8 := y8) (x9 := y9) (x10 := x10) (x11 := x11) (x12 := x12) (x13 := x13) (x14 := x14) (x15 := x15) (x16 := x16) (x17 := x17) (x18 := x18) (x19 := x19) (x20 := x20) G c4
  obtain ⟨oth, c5, ho, f5, e8⟩ := s_other (ns := ns) (x1 := X1) (x6 := some (.f (.lst (ts.map tabD)))) (x7 := y7) (x8 := y8) (x9 := y9) (x10 := some (.f (bobj w ts))) (x12 := x12) (x13 := x13) (x14 := x14) (x15 := x15) (x16 := x16) (x17 := x17) (x18 := x18) (x19 := x19) (x20 := x20) hn hcl c4 f4.fd
  obtain ⟨ag, c6, e9, ha, f6⟩ := s_agreement hn.wn c5 F f5.fd
  obtain ⟨y12, y13, y14, y15, e10⟩ := ju_all (ns := ns) (x1 := X1) (F := F) (x7 := y7) (x8 := y8) (x9 := y9) (x11 := some (.f (intsD oth))) (x16 := x16) (x17 := x17) (x18 := x18) (x19 := x19) (x20 := x20) (c := c6) G oth ag hcl ho ha x12 x13 x14 x15
  obtain ⟨z13, z18, e11⟩ := od_all (ns := ns) (x1 := X1) (F := F) (w := w) (m := m) (cells := cells) (ts := ts) (x6 := some (.f (.lst (ts.map tabD)))) (x7 := y7) (x8 := y8) (x9 := y9) (x11 := some (.f (intsD oth))) (x12 := y12) (x14 := y14) (x15 := y15) (x16 := some (.f (.int (wdN w : Nat)))) (x17 := some (.f (.lst (oddVs w m cells)))) (x19 := x19) (x20 := x20) (c := c6) (oddVs w m cells) (odd_ok' G) y13 x18
  obtain ⟨c7, e12, f7⟩ := s_refused hn c6 F f6.fd
  obtain ⟨u18, e13⟩ := en_all (ns := ns) (x1 := X1) (F := F) (cells := cells) (ts := ts) (x6 := some (.f (.lst (ts.map tabD)))) (x7 := y7) (x8 := y8) (x9 := y9) (x11 := some (.f (intsD oth))) (x12 := y12) (x13 := z13) (x14 := y14) (x15 := y15) (x16 := some (.f (.int (wdN w : Nat)))) (x17 := some (.f (.lst (oddVs w m cells)))) (x19 := x19) (x20 := x20) (c := c7) hn [bobj w ts, tobj w 1 (tups w 1), .tup [.int 1], .lst [tobj w 1 (tups w 1)]] (fun v hv => by
    simp only [List.mem_cons, List.not_mem_nil, or_false] at hv
    rcases hv with rfl | rfl | rfl | rfl <;> rfl) z18
  refine ⟨some (.f (.cell F)), some (.f (.int w)), some (.f (.int m)), some (.f (intsD cells)), some (.f (.lst (ts.map tabD))), y7, y8, y9, some (.f (bobj w ts)), some (.f (intsD oth)), y12, z13, y14, y15, some (.f (.int (wdN w : Nat))), some (.f (.lst (oddVs w m cells))), u18, x19, x20, c7, ?_⟩
  refine (fSeq_nx (env1 := rwE ns X1 (some (.f (.cell F))) x3 x4 x5 x6 x7 x8 x9 x10 x11 x12 x13 x14 x15 x16 x17 x18 x19 x20) ((set_of ((call_of (aC rfl (aC rfl aN))).trans e1')).trans rfl)).trans ?_
  refine (fSeq_nx (env1 := rwE ns X1 (some (.f (.cell F))) (some (.f (.int w))) x4 x5 x6 x7 x8 x9 x10 x11 x12 x13 x14 x15 x16 x17 x18 x19 x20) ((set_of ((call_of (aC rfl aN)).trans e2)).trans rfl)).trans ?_
  refine (fSeq_nx e3).trans ?_
  refine (fSeq_nx (env1 := lwE ns X1 F w m cells (some (.f (.lst (ts0.map tabD)))) x7 x8 x9 x10 x11 x12 x13 x14 x15 x16 x17 x18 x19 x20) (c1 := c3) (asg_of ((call_of (aC rfl (aC rfl (aC rfl (aC eq aN))))).trans e4) rfl)).trans ?_
  refine (fSeq_nx e5).trans ?_
  refine (fSeq_nx e6).trans ?_
  refine (fSeq_nx e7).trans ?_
  refine (fSeq_nx e8).trans ?_
  refine (fSeq_nx (env1 := lwE ns X1 F w m cells (some (.f (.lst (ts.map tabD)))) y7 y8 y9 (some (.f (bobj w ts))) (some (.f (intsD oth))) y12 y13 y14 y15 x16 x17 x18 x19 x20) (c1 := c6) ?_).trans ?_
  · refine (show fFor _ _ _ (lwE ns X1 F w m cells (some (.f (.lst (ts.map tabD)))) y7 y8 y9 (some (.f (bobj w ts))) (some (.f (intsD oth))) x12 x13 x14 x15 x16 x17 x18 x19 x20) c5 = _ from (fFor_of (c1 := c6) (it_tup (tup_of (aC rfl (aC rfl (aC ((call_of (aC rfl (aC rfl (aC m1_of aN)))).trans e9) aN))) (by show 3 ≤ lim; decide)))).trans e10)
  refine (fSeq_nx (env1 := lwE ns X1 F w m cells (some (.f (.lst (ts.map tabD)))) y7 y8 y9 (some (.f (bobj w ts))) (some (.f (intsD oth))) y12 y13 y14 y15 x16 x17 x18 x19 x20) (c1 := c6) ?_).trans ?_
  · exact (fIte_f (env := lwE ns X1 F w m cells (some (.f (.lst (ts.map tabD)))) y7 y8 y9 (some (.f (bobj w ts))) (some (.f (intsD oth))) y12 y13 y14 y15 x16 x17 x18 x19 x20) (asB_of ((op_of rfl ((call_of (aC rfl (aC rfl aN))).trans (s_program_book w ts (by omega) (by omega) (fun t ht => (G.gt t ht).1) hl c6))).trans (ne_book w ts c6)))).trans rfl
  refine (fSeq_nx od_wide).trans ((fSeq_nx (od_l1 hn hcl)).trans ((fSeq_nx (od_l2 (by show 6 ≤ 100; decide))).trans ((fSeq_nx (od_l3 hn (by show 7 ≤ 100; decide))).trans ?_)))
  refine (fSeq_nx ((fFor_of (c1 := c6) (it_lst rfl)).trans e11)).trans ?_
  refine (fSeq_nx (env1 := lwE ns X1 F w m cells (some (.f (.lst (ts.map tabD)))) y7 y8 y9 (some (.f (bobj w ts))) (some (.f (intsD oth))) y12 z13 y14 y15 (some (.f (.int (wdN w : Nat)))) (some (.f (.lst (oddVs w m cells)))) z18 x19 x20) (c1 := c7) ((fIte_f (not_of (b := true) (asB_of ((call_of (aC rfl (aC rfl (aC rfl aN)))).trans e12)))).trans rfl)).trans ?_
  exact (fFor_of (c1 := c7) (it_tup (tup_of (aC rfl (aC ((call_of (aC rfl (aC rfl aN))).trans (s_full hw1 hw3 c7)) (aC (tup_of (aC rfl aN) (by show 1 ≤ lim; decide)) (aC (lst_of (aC ((call_of (aC rfl (aC rfl aN))).trans (s_full hw1 hw3 c7)) aN) (by show 1 ≤ lim; decide)) aN)))) (by show 4 ≤ lim; decide)))).trans e13
end M39
set_option Elab.async false
set_option linter.all false
set_option maxRecDepth 100000
set_option maxHeartbeats 0
namespace M39
open PySem PySem.Spec PyProof.Rows L2 Pd L39 Ma
theorem law_says (ns : List Int) (hn : ns.length ≤ 63) : ∃ c', m_law [.scr ns] [] = some (.bl true, c') := by
  have m1 : bMin [.int 2, .int (ns.length : Nat)] [] = some (.int (if ((ns.length : Nat) : Int) < 2 then (ns.length : Nat) else 2), []) := rfl
  obtain ⟨K, hK, hK2⟩ : ∃ K : Nat, (if (if ((ns.length : Nat) : Int) < 2 then ((ns.length : Nat) : Int) else 2) > 1 then (if ((ns.length : Nat) : Int) < 2 then ((ns.length : Nat) : Int) else 2) else 1) = (K : Int) ∧ K ≤ 3 := by
    obtain ⟨q, hq, hq0, hq1⟩ : ∃ q : Int, (if ((ns.length : Nat) : Int) < 2 then ((ns.length : Nat) : Int) else 2) = q ∧ 0 ≤ q ∧ q ≤ 2 := ⟨_, rfl, by split <;> omega, by split <;> omega⟩
    rw [hq]
    refine ⟨(if q > 1 then q else 1).toNat, ?_, ?_⟩
    · split <;> omega
    · split <;> omega
  have m2 : bMax [.int 1, .int (if ((ns.length : Nat) : Int) < 2 then ((ns.length : Nat) : Int) else 2)] [] = some (.int K, []) := by
    rw [← hK]; rfl
  have s1 : small62 ((K : Nat) : Int) = true := small62_of (by omega) (by omega)
  have s2 : ((K : Nat) : Int).toNat = K := by omega
  have key := forD_st (g := gSet 1) (fb := bodyL) (h := fun i : Nat => D.int (0 + (i : Nat)))
    (fun pre env c1 => ∃ x1 x2 x3 x4 x5 x6 x7 x8 x9 x10 x11 x12 x13 x14 x15 x16 x17 x18 x19 x20 : Option Sl, env = rwE ns x1 x2 x3 x4 x5 x6 x7 x8 x9 x10 x11 x12 x13 x14 x15 x16 x17 x18 x19 x20)
    (xs := List.range K) (env := rwE ns none none none none none none none none none none none none none none none none none none none none) (c := []) ⟨_, _, _, _, _, _, _, _, _, _, _, _, _, _, _, _, _, _, _, _, rfl⟩
  have fin := key (by
    intro pre i post e env c1 ⟨x1, x2, x3, x4, x5, x6, x7, x8, x9, x10, x11, x12, x13, x14, x15, x16, x17, x18, x19, x20, he⟩
    subst he
    obtain ⟨y2, y3, y4, y5, y6, y7, y8, y9, y10, y11, y12, y13, y14, y15, y16, y17, y18, y19, y20, c2, e2⟩ := s_turn ns i c1 x2 x3 x4 x5 x6 x7 x8 x9 x10 x11 x12 x13 x14 x15 x16 x17 x18 x19 x20
    exact ⟨_, _, c2, rfl, e2, _, _, _, _, _, _, _, _, _, _, _, _, _, _, _, _, _, _, _, _, rfl⟩)
  obtain ⟨env', c', e, _⟩ := fin
  refine ⟨c', mOf_rt (env1 := env') rfl ?_⟩
  rw [f_law_is]
  refine (fSeq_nx ((fFor_of (fRg1_of (k := K) (c1 := []) (aC ((call_of (aC rfl (aC ((call_of (aC rfl (aC (lenQ_of rfl rfl) aN))).trans m1) aN))).trans m2) aN) s1 s2)).trans e)).trans ?_
  rfl
end M39
set_option Elab.async false
set_option linter.all false
set_option maxRecDepth 100000
set_option maxHeartbeats 0
open PySem PySem.Spec PyProof.Rows L2 Pd L39 H39 in
theorem FinH39_ok {K : PySem.W.Frag} {P : Program} {w : World} {mg : Str → Option Value} {base : Heap} {f : Addr} {fd : FuncData} (A : FnAt (tb K P w mg base) 8 f fd ps_law m_law) : FnOk P w K mg base CX0 8 f fd ["script"] (spLaw K) :=
  A.ok.imp fun vs H Q E h => by
    obtain ⟨a, ns, rfl, hl, hs, q⟩ := h
    obtain ⟨c', e⟩ := M39.law_says ns hl
    refine ⟨rfl, H, [], [], [.scr ns], .bl true, c', ⟨fun _ _ h => h, rfl, .nil, fun k a d h => ?_⟩, .cons (.scr hs) .nil, e, fun G' al' H' v _ _ r => ?_⟩
    · simp at h
    · rw [r.bl_inv]; exact q H'
open PySem PySem.W PySem.Calls PyProof.Rows
set_option maxRecDepth 100000 in
set_option maxHeartbeats 0 in
theorem PySem.Challenge.cw_nearsettled_k39_agreements_judged_holds : PySem.Challenge.rw_nearsettled_k39_agreements_judged.Holds := by
  w_on; o_law
  refine HandSHeadRun.head_any (r := OpenLaw.row PySem.Challenge.rw_nearsettled_k39_agreements_judged) (q := view (OpenLaw.row PySem.Challenge.rw_nearsettled_k39_agreements_judged).prog [62]) (H := H39.hk) (ob := H39.ob) (M := 20000) (loose := H39.names) (d := HandSHeadRun.topDef (OpenLaw.row PySem.Challenge.rw_nearsettled_k39_agreements_judged).prog 62) (kwd := []) H39.ob_eq
    (by kernel_rfl) (fun s => by kernel_rfl) H39.run (by kernel_rfl) (by kernel_rfl) (by kernel_rfl) (by rfl) (by first | assumption | decide +kernel) (by decide +kernel) ⟨rfl, rfl, rfl, rfl, rfl, by decide +kernel⟩ ?hw ?hc
  case hw => w_witness2
  case hc =>
    refine L2.walk_ofE (l := PySem.Challenge.rw_nearsettled_k39_agreements_judged) (n := 63) (k := 8) (x := "script") (CX := L2.CX0) rfl (by decide) (by kernel_rfl) ⟨rfl, by decide, by decide⟩ ?F (fun _ _ _ _ z => z)
    intro w mg fa h Y G hmg0
    obtain ⟨K, KX, c⟩ := Y
    have hmg : mg ("law" : PySem.Str) = some (.ref fa) := by
      have e : (HandSHeadRun.topDef (OpenLaw.row PySem.Challenge.rw_nearsettled_k39_agreements_judged).prog 62).name = ("law" : PySem.Str) := by kernel_rfl
      rw [← e]
      exact hmg0
    obtain ⟨fd, hb, hF⟩ := H39.A_lawS K (PySem.Challenge.rw_nearsettled_k39_agreements_judged).prog w mg ⟨⟨_, KX, G⟩, c⟩ hmg
    exact ⟨K, fd, H39.spLaw K, KX, hb, fun H a ns hl _ hS => ⟨a, ns, rfl, hl, hS, fun _ => rfl⟩, fun base _ _ => FinH39_ok (hF base)⟩
