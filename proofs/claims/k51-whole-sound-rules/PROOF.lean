import PyProof.Rows.All
import Wide.All
import OpenK.AllK
import Wide.FinOn
import KE.KStateDown
import KE.KOpsOwn
import KE.KSuper
import KE.KDictKeyed
import HandS.ForMost
import HandS.Star
import HandS.MethStar
import HandS.MakeKwOnly
import HandS.Property
import HandS.ClsMeth
import HandS.Zip
import HandS.SetFor
import HandS.SortInts
import HandS.IsInst
import HandS.DictComp
import HandS.DictTup
import HandS.Flow
import HandS.Walk
import HandS.Style
import HandS.Conv
import HandS.TupAny
import HandS.TupLe
import HandS.More
import HandS.Small
import HandS.SlotsOwn
import HandS.Strs
import HandS.SetTxt0
import KE.GoesMore
import KE.GoesEnumKw
import HandS.SortKw
import HandS.OwnEq
import PyProof.ListStr
import HandS.HeadHook1
import HandS.HeadHook2
import PySem.Challenge.RW_linestrikes_k51_whole_sound_rules
import HandS.Replace
import HandS.TupLen
import HandS.Deep
import HandS.NoneIn
import Lean
import HandS.Head0
import HandS.Head1
import HandS.Head2
import HandS.HeadEnd
set_option Elab.async false
set_option linter.all false
set_option maxRecDepth 100000
set_option maxHeartbeats 2000000
namespace L2
end L2
namespace K5
open PySem PySem.Spec PyProof.Rows L2
abbrev clN : Str := "__class__"
def prA (K : PySem.W.Frag) (C : Addr) (f : Str) : Addr := match PySem.W.findIn K (.ref C) f with
  | some (some (.ref p)) => p
  | _ => 0
def recG (K : PySem.W.Frag) (p : Addr) (T : String) : Addr := match PySem.W.recIn K p T with
  | some (.ref g :: _) => g
  | _ => 0
def prG (K : PySem.W.Frag) (x f : Str) : Addr := recG K (prA K (He.ga K x) f) "property"
def cmG (K : PySem.W.Frag) (x m : Str) : Addr := recG K (prA K (He.ga K x) m) "classmethod"
structure Df where
  at_ : PySem.W.Frag → Addr
  name : Str
  qual : Str
  params : Arguments
  body : List Stmt
  scope : Scope
  kwd : List (Str × He.Dv) := []
  clo : Bool := false
def Df.kws (K : PySem.W.Frag) (d : Df) : List (Str × V) := d.kwd.map fun q => (q.1, q.2.v K)
abbrev FnX : Type := Option (Str × Str × Arguments × FuncBody × Scope × Addr × Addr)
def fnX (K : PySem.W.Frag) (a : Addr) : FnX := match K.lookup a with
  | some ⟨_, _, .func fd, _⟩ => some (fd.name, fd.qualname, fd.params, fd.body, fd.scope, fd.globals, fd.builtins)
  | _ => none
def Df.val (d : Df) : FnX := some (d.name, d.qual, d.params, .stmts d.body, d.scope, mainGlobals, builtinsNs)
def cloB (fd : FuncData) : Bool := match fd.code, fd.closure with
  | .ref _, [(n, _)] => decide (n = clN)
  | _, _ => false
def Df.ok (K : PySem.W.Frag) (d : Df) : Bool := PySem.W.keepIn K (.ref (d.at_ K)) && (match K.lookup (d.at_ K) with
  | some ⟨_, _, .func fd, _⟩ => PySem.W.codeIn K fd.code d.qual && (He.dflB K fd.defaults [] && (He.kwdB K fd.kwdefaults (d.kws K) && (if d.clo then cloB fd else fd.closure.isEmpty)))
  | _ => false)
def supB (file : Str) (K : PySem.W.Frag) (f D g : Addr) (slf : Str) : Bool := match K.lookup f with
  | some ⟨_, _, .func fd, _⟩ => (match fd.code, fd.closure, (fd.params.posonlyargs ++ fd.params.args).head? with
    | .ref cda, [(n, cc)], some ar => decide (n = clN) && (decide (ar.arg = slf) && ((match K.lookup cda with
      | some ⟨_, _, .fields vs, _⟩ => (match (vs : Array Value)[2]? with
        | some (Value.str fl _) => file == fl
        | _ => false)
      | _ => false) && ((match K.lookup cc with
        | some ⟨_, _, .cell (some (.ref D')), _⟩ => decide (D' = D)
        | _ => false) && (PySem.W.isClsIn K D && (He.eqO (PySem.W.nsIn K mainGlobals "super") (some none) && (He.eqO (PySem.W.nsIn K cStatics "thirdparty.any") (some none) && (decide (PySem.W.typeIn K (.ref g) = some (.type "function")) &&
          (PySem.W.fnIn K g && (decide (PySem.W.mroIn K D (.ref D) = some true) && He.eqO (PySem.W.ks_superIn K D D "__init__") (some (some (.ref g))))))))))))
    | _, _, _ => false)
  | _ => false
def insB (K : PySem.W.Frag) (C : Addr) : Bool := He.eqO (PySem.W.findIn K (.ref C) "__class__") (some (some (.builtin "object.__class__"))) && (He.eqO (PySem.W.specialIn K (.builtin "object.__class__") "__get__") (some (some (.builtin "getset_descriptor.__get__"))) &&
  (decide (PySem.W.takesIn K (.builtin "object.__class__") = some true) && decide (PySem.W.mroIn K C (.type "object") = some true)))
def propB (K : PySem.W.Frag) (x f : Str) : Bool := He.eqO (PySem.W.findIn K (.ref (He.ga K x)) f) (some (some (.ref (prA K (He.ga K x) f)))) && (He.eqO (PySem.W.specialIn K (.ref (prA K (He.ga K x) f)) "__get__") (some (some (.builtin "property.__get__"))) &&
  (decide (PySem.W.takesIn K (.ref (prA K (He.ga K x) f)) = some true) && (match PySem.W.recIn K (prA K (He.ga K x) f) "property" with
  | some (.ref g' :: _) => decide (g' = prG K x f)
  | _ => false)))
def creadB (K : PySem.W.Frag) (x : Str) : Bool := PySem.W.readsIn K (He.ga K x) (.type "type") && He.eqO (PySem.W.specialIn K (.ref (He.ga K x)) "__getattribute__") (some (some (.builtin "type.__getattribute__")))
def cmetB (K : PySem.W.Frag) (x m : Str) : Bool := (match PySem.W.findCls K (.ref (He.ga K x)) (.type "type") m with
  | some (.get (.builtin g) (.ref p) .none (.ref C)) => g == "classmethod.__get__" && (decide (p = prA K (He.ga K x) m) && decide (C = He.ga K x))
  | _ => false) && ((match PySem.W.recIn K (prA K (He.ga K x) m) "classmethod" with
  | some (.ref g' :: _) => decide (g' = cmG K x m)
  | _ => false) && PySem.W.fnIn K (cmG K x m))
def cvalB (K : PySem.W.Frag) (x f : Str) (i : Int) : Bool := match PySem.W.findCls K (.ref (He.ga K x)) (.type "type") f with
  | some (.val (.int j _)) => decide (j = i)
  | _ => false
def conB (K : PySem.W.Frag) (x f z : Str) : Bool := (match PySem.W.findIn K (.ref (He.ga K x)) f with
  | some (some (.str y t)) => decide (y = z) && He.eqO (PySem.W.specialIn K (.str y t) "__get__") (some none)
  | _ => false) && !PySem.W.copiedNames.contains f
def nsG (g : Addr → Option Obj) (d : Addr) (x : Str) : Option Addr := match PySem.W.nsIn (He.frG g [d]) d x with
  | some (some (.ref a)) => some a
  | _ => none
def fnAs (g : Addr → Option Obj) (a : Addr) : List Addr := a :: match g a with
  | some ⟨_, _, .func fd, _⟩ => He.refV fd.code ++ He.refV fd.kwdefaults ++ fd.closure.map (·.2)
  | some ⟨_, _, .fields vs, _⟩ => (match vs.toList with
    | .ref c :: _ => c :: (match g c with
      | some ⟨_, _, .func fd, _⟩ => He.refV fd.code
      | _ => [])
    | _ => [])
  | _ => []
def clAs (g : Addr → Option Obj) (a : Addr) (ms : List Str) : List Addr := a :: match g a with
  | some ⟨_, _, .cls cd, _⟩ => cd.ns :: ms.flatMap fun m => match nsG g cd.ns m with
    | some b => fnAs g b
    | none => []
  | _ => []
def asX (cs : List (Str × List Str)) (fs : List Str) (g : Addr → Option Obj) : List Addr := mainGlobals :: cStatics :: ((cs.flatMap fun p => match nsG g mainGlobals p.1 with
    | some a => clAs g a p.2
    | none => []) ++ fs.flatMap fun x => match nsG g mainGlobals x with
    | some a => fnAs g a
    | none => [])
abbrev AlX : Type := Bool × List FnX
def obsX (fa : List (PySem.W.Frag → Bool)) (fn : List Df) (K : PySem.W.Frag) : AlX := ((fa.all fun f => f K) && fn.all fun d => d.ok K, fn.map fun d => fnX K (d.at_ K))
def valX (fn : List Df) : AlX := (true, fn.map Df.val)
def SaysX (fa : List (PySem.W.Frag → Bool)) (fn : List Df) (K : PySem.W.Frag) : Prop := obsX fa fn K = valX fn
def obsXG (n : (Addr → Option Obj) → List Addr) (fa : List (PySem.W.Frag → Bool)) (fn : List Df) (g : Addr → Option Obj) : AlX := obsX fa fn (He.frG g (n g))
def hookX (n : (Addr → Option Obj) → List Addr) (fa : List (PySem.W.Frag → Bool)) (fn : List Df) : PySem.W.Hook where
  α := AlX
  obs := fun s => obsXG n fa fn s.heap.get?
  val := fun _ => valX fn
  says := fun _ h => ∃ K : PySem.W.Frag, K.In h ∧ SaysX fa fn K
  of := fun _ _ e => ⟨_, He.frG_in, e⟩
  keeps := fun _ _ _ ⟨K, hK, c⟩ k => ⟨K, PySem.W.Frag.In.keeps hK k, c⟩
abbrev Pg : Program := PySem.Challenge.pw_linestrikes_k51_whole_sound_rules
def top (i : Nat) : Stmt := PySem.Challenge.pw_linestrikes_k51_whole_sound_rules.main.body.getD i (.Pass ⟨0, 0, 0, 0⟩)
abbrev s_is_whole : Stmt := top 22
abbrev n_is_whole : List Str := ["thing", "least", "most"]
abbrev p_is_whole : List Str := ["thing", "least", "most"]
abbrev a_is_whole (K : PySem.W.Frag) : Addr := He.ga K "is_whole"
def d_is_whole : Df := { at_ := a_is_whole, name := "is_whole", qual := "is_whole", params := defArgs s_is_whole, body := defBody s_is_whole, scope := defScope s_is_whole }
abbrev s_is_letters : Stmt := top 23
abbrev n_is_letters : List Str := ["thing", "least", "most", "letter"]
abbrev p_is_letters : List Str := ["thing", "least", "most"]
abbrev a_is_letters (K : PySem.W.Frag) : Addr := He.ga K "is_letters"
def d_is_letters : Df := { at_ := a_is_letters, name := "is_letters", qual := "is_letters", params := defArgs s_is_letters, body := defBody s_is_letters, scope := defScope s_is_letters }
abbrev s_is_cell_string : Stmt := top 24
abbrev n_is_cell_string : List Str := ["letters", "thing", "letter"]
abbrev p_is_cell_string : List Str := ["letters", "thing"]
abbrev a_is_cell_string (K : PySem.W.Frag) : Addr := He.ga K "is_cell_string"
def d_is_cell_string : Df := { at_ := a_is_cell_string, name := "is_cell_string", qual := "is_cell_string", params := defArgs s_is_cell_string, body := defBody s_is_cell_string, scope := defScope s_is_cell_string }
abbrev s_Cell_init : Stmt := inClass (top 27) 0
abbrev n_Cell_init : List Str := ["self", "values", "number", "at", "letter"]
abbrev p_Cell_init : List Str := ["self", "values", "number"]
abbrev a_Cell_init (K : PySem.W.Frag) : Addr := He.ma K (He.ga K "Cell") "__init__"
def d_Cell_init : Df := { at_ := a_Cell_init, name := "__init__", qual := "Cell.__init__", params := defArgs s_Cell_init, body := defBody s_Cell_init, scope := defScope s_Cell_init }
abbrev s_Cell_contains : Stmt := inClass (top 27) 10
abbrev n_Cell_contains : List Str := ["self", "letter"]
abbrev p_Cell_contains : List Str := ["self", "letter"]
abbrev a_Cell_contains (K : PySem.W.Frag) : Addr := He.ma K (He.ga K "Cell") "__contains__"
def d_Cell_contains : Df := { at_ := a_Cell_contains, name := "__contains__", qual := "Cell.__contains__", params := defArgs s_Cell_contains, body := defBody s_Cell_contains, scope := defScope s_Cell_contains }
abbrev s_Cell_bool : Stmt := inClass (top 27) 12
abbrev n_Cell_bool : List Str := ["self"]
abbrev p_Cell_bool : List Str := ["self"]
abbrev a_Cell_bool (K : PySem.W.Frag) : Addr := He.ma K (He.ga K "Cell") "__bool__"
def d_Cell_bool : Df := { at_ := a_Cell_bool, name := "__bool__", qual := "Cell.__bool__", params := defArgs s_Cell_bool, body := defBody s_Cell_bool, scope := defScope s_Cell_bool }
abbrev s_Values_init : Stmt := inClass (top 28) 1
abbrev n_Values_init : List Str := ["self", "letters"]
abbrev p_Values_init : List Str := ["self", "letters"]
abbrev a_Values_init (K : PySem.W.Frag) : Addr := He.ma K (He.ga K "Values") "__init__"
def d_Values_init : Df := { at_ := a_Values_init, name := "__init__", qual := "Values.__init__", params := defArgs s_Values_init, body := defBody s_Values_init, scope := defScope s_Values_init }
abbrev s_Values_cell : Stmt := inClass (top 28) 3
abbrev n_Values_cell : List Str := ["self", "letters", "letter"]
abbrev p_Values_cell : List Str := ["self", "letters"]
abbrev a_Values_cell (K : PySem.W.Frag) : Addr := He.ma K (He.ga K "Values") "cell"
def d_Values_cell : Df := { at_ := a_Values_cell, name := "cell", qual := "Values.cell", params := defArgs s_Values_cell, body := defBody s_Values_cell, scope := defScope s_Values_cell }
abbrev s_Values_contains : Stmt := inClass (top 28) 9
abbrev n_Values_contains : List Str := ["self", "letter"]
abbrev p_Values_contains : List Str := ["self", "letter"]
abbrev a_Values_contains (K : PySem.W.Frag) : Addr := He.ma K (He.ga K "Values") "__contains__"
def d_Values_contains : Df := { at_ := a_Values_contains, name := "__contains__", qual := "Values.__contains__", params := defArgs s_Values_contains, body := defBody s_Values_contains, scope := defScope s_Values_contains }
abbrev s_Values_len : Stmt := inClass (top 28) 10
abbrev n_Values_len : List Str := ["self"]
abbrev p_Values_len : List Str := ["self"]
abbrev a_Values_len (K : PySem.W.Frag) : Addr := He.ma K (He.ga K "Values") "__len__"
def d_Values_len : Df := { at_ := a_Values_len, name := "__len__", qual := "Values.__len__", params := defArgs s_Values_len, body := defBody s_Values_len, scope := defScope s_Values_len }
abbrev s_Values_eq : Stmt := inClass (top 28) 11
abbrev n_Values_eq : List Str := ["self", "other"]
abbrev p_Values_eq : List Str := ["self", "other"]
abbrev a_Values_eq (K : PySem.W.Frag) : Addr := He.ma K (He.ga K "Values") "__eq__"
def d_Values_eq : Df := { at_ := a_Values_eq, name := "__eq__", qual := "Values.__eq__", params := defArgs s_Values_eq, body := defBody s_Values_eq, scope := defScope s_Values_eq }
abbrev s_cell_told : Stmt := top 29
abbrev n_cell_told : List Str := ["values", "thing"]
abbrev p_cell_told : List Str := ["values", "thing"]
abbrev a_cell_told (K : PySem.W.Frag) : Addr := He.ga K "cell_told"
def d_cell_told : Df := { at_ := a_cell_told, name := "cell_told", qual := "cell_told", params := defArgs s_cell_told, body := defBody s_cell_told, scope := defScope s_cell_told }
abbrev s_item_of : Stmt := top 31
abbrev n_item_of : List Str := ["values", "thing", "at", "cell"]
abbrev p_item_of : List Str := ["values", "thing", "at"]
abbrev a_item_of (K : PySem.W.Frag) : Addr := He.ga K "item_of"
def d_item_of : Df := { at_ := a_item_of, name := "item_of", qual := "item_of", params := defArgs s_item_of, body := defBody s_item_of, scope := defScope s_item_of }
abbrev s_need_word_lines : Stmt := top 32
abbrev n_need_word_lines : List Str := ["values", "word", "most", "at", "letter"]
abbrev p_need_word_lines : List Str := ["values", "word", "most"]
abbrev a_need_word_lines (K : PySem.W.Frag) : Addr := He.ga K "need_word_lines"
def d_need_word_lines : Df := { at_ := a_need_word_lines, name := "need_word", qual := "need_word", params := defArgs s_need_word_lines, body := defBody s_need_word_lines, scope := defScope s_need_word_lines }
abbrev s_Line_init : Stmt := inClass (top 37) 1
abbrev n_Line_init : List Str := ["self", "values", "cells", "at", "thing"]
abbrev p_Line_init : List Str := ["self", "values", "cells"]
abbrev a_Line_init (K : PySem.W.Frag) : Addr := He.ma K (He.ga K "Line") "__init__"
def d_Line_init : Df := { at_ := a_Line_init, name := "__init__", qual := "Line.__init__", params := defArgs s_Line_init, body := defBody s_Line_init, scope := defScope s_Line_init }
abbrev s_Line_sure : Stmt := inClass (top 37) 3
abbrev n_Line_sure : List Str := ["cls", "values", "word"]
abbrev p_Line_sure : List Str := ["cls", "values", "word"]
abbrev a_Line_sure (K : PySem.W.Frag) : Addr := cmG K "Line" "sure"
def d_Line_sure : Df := { at_ := a_Line_sure, name := "sure", qual := "Line.sure", params := defArgs s_Line_sure, body := defBody s_Line_sure, scope := defScope s_Line_sure }
abbrev s_Line_cells : Stmt := inClass (top 37) 5
abbrev n_Line_cells : List Str := ["self"]
abbrev p_Line_cells : List Str := ["self"]
abbrev a_Line_cells (K : PySem.W.Frag) : Addr := prG K "Line" "cells"
def d_Line_cells : Df := { at_ := a_Line_cells, name := "cells", qual := "Line.cells", params := defArgs s_Line_cells, body := defBody s_Line_cells, scope := defScope s_Line_cells }
abbrev s_Line_len : Stmt := inClass (top 37) 18
abbrev n_Line_len : List Str := ["self"]
abbrev p_Line_len : List Str := ["self"]
abbrev a_Line_len (K : PySem.W.Frag) : Addr := He.ma K (He.ga K "Line") "__len__"
def d_Line_len : Df := { at_ := a_Line_len, name := "__len__", qual := "Line.__len__", params := defArgs s_Line_len, body := defBody s_Line_len, scope := defScope s_Line_len }
abbrev s_need_values_sound : Stmt := top 39
abbrev n_need_values_sound : List Str := ["one", "other"]
abbrev p_need_values_sound : List Str := ["one", "other"]
abbrev a_need_values_sound (K : PySem.W.Frag) : Addr := He.ga K "need_values_sound"
def d_need_values_sound : Df := { at_ := a_need_values_sound, name := "need_values", qual := "need_values", params := defArgs s_need_values_sound, body := defBody s_need_values_sound, scope := defScope s_need_values_sound }
abbrev s_bits_of : Stmt := top 41
abbrev n_bits_of : List Str := ["number", "many", "k"]
abbrev p_bits_of : List Str := ["number", "many"]
abbrev a_bits_of (K : PySem.W.Frag) : Addr := He.ga K "bits_of"
def d_bits_of : Df := { at_ := a_bits_of, name := "bits_of", qual := "bits_of", params := defArgs s_bits_of, body := defBody s_bits_of, scope := defScope s_bits_of }
abbrev s_steps_by : Stmt := top 42
abbrev n_steps_by : List Str := ["clue", "states", "number", "kinds", "state", "kind"]
abbrev p_steps_by : List Str := ["clue", "states", "number"]
abbrev a_steps_by (K : PySem.W.Frag) : Addr := He.ga K "steps_by"
def d_steps_by : Df := { at_ := a_steps_by, name := "steps_by", qual := "steps_by", params := defArgs s_steps_by, body := defBody s_steps_by, scope := defScope s_steps_by }
abbrev s_closed : Stmt := top 43
abbrev n_closed : List Str := ["clue", "states", "full", "found", "more"]
abbrev p_closed : List Str := ["clue", "states"]
abbrev a_closed (K : PySem.W.Frag) : Addr := He.ga K "closed"
def d_closed : Df := { at_ := a_closed, name := "closed", qual := "closed", params := defArgs s_closed, body := defBody s_closed, scope := defScope s_closed }
abbrev s_is_told : Stmt := top 44
abbrev n_is_told : List Str := ["clue", "states", "state"]
abbrev p_is_told : List Str := ["clue", "states"]
abbrev a_is_told (K : PySem.W.Frag) : Addr := He.ga K "is_told"
def d_is_told : Df := { at_ := a_is_told, name := "is_told", qual := "is_told", params := defArgs s_is_told, body := defBody s_is_told, scope := defScope s_is_told }
abbrev s_lost_states : Stmt := top 45
abbrev n_lost_states : List Str := ["clue", "state"]
abbrev p_lost_states : List Str := ["clue"]
abbrev a_lost_states (K : PySem.W.Frag) : Addr := He.ga K "lost_states"
def d_lost_states : Df := { at_ := a_lost_states, name := "lost_states", qual := "lost_states", params := defArgs s_lost_states, body := defBody s_lost_states, scope := defScope s_lost_states }
abbrev s_numbers_of_sound : Stmt := top 46
abbrev n_numbers_of_sound : List Str := ["rule", "numbers", "cell"]
abbrev p_numbers_of_sound : List Str := ["rule"]
abbrev a_numbers_of_sound (K : PySem.W.Frag) : Addr := He.ga K "numbers_of_sound"
def d_numbers_of_sound : Df := { at_ := a_numbers_of_sound, name := "numbers_of", qual := "numbers_of", params := defArgs s_numbers_of_sound, body := defBody s_numbers_of_sound, scope := defScope s_numbers_of_sound }
abbrev s_rows_of : Stmt := top 48
abbrev n_rows_of : List Str := ["rule", "clue", "found", "number"]
abbrev p_rows_of : List Str := ["rule", "clue"]
abbrev a_rows_of (K : PySem.W.Frag) : Addr := He.ga K "rows_of"
def d_rows_of : Df := { at_ := a_rows_of, name := "rows_of", qual := "rows_of", params := defArgs s_rows_of, body := defBody s_rows_of, scope := defScope s_rows_of }
abbrev s_is_sound_row : Stmt := top 49
abbrev n_is_sound_row : List Str := ["rule", "clue", "states", "lost", "state"]
abbrev p_is_sound_row : List Str := ["rule", "clue", "states", "lost"]
abbrev a_is_sound_row (K : PySem.W.Frag) : Addr := He.ga K "is_sound_row"
def d_is_sound_row : Df := { at_ := a_is_sound_row, name := "is_sound_row", qual := "is_sound_row", params := defArgs s_is_sound_row, body := defBody s_is_sound_row, scope := defScope s_is_sound_row }
abbrev s_Judgement_init : Stmt := inClass (top 50) 1
abbrev n_Judgement_init : List Str := ["self", "facts"]
abbrev p_Judgement_init : List Str := ["self", "facts"]
abbrev a_Judgement_init (K : PySem.W.Frag) : Addr := He.ma K (He.ga K "Judgement") "__init__"
def d_Judgement_init : Df := { at_ := a_Judgement_init, name := "__init__", qual := "Judgement.__init__", params := defArgs s_Judgement_init, body := defBody s_Judgement_init, scope := defScope s_Judgement_init }
abbrev s_Judgement_bool : Stmt := inClass (top 50) 3
abbrev n_Judgement_bool : List Str := ["self"]
abbrev p_Judgement_bool : List Str := ["self"]
abbrev a_Judgement_bool (K : PySem.W.Frag) : Addr := He.ma K (He.ga K "Sound") "__bool__"
def d_Judgement_bool : Df := { at_ := a_Judgement_bool, name := "__bool__", qual := "Judgement.__bool__", params := defArgs s_Judgement_bool, body := defBody s_Judgement_bool, scope := defScope s_Judgement_bool }
abbrev s_Shown_bool : Stmt := inClass (top 51) 1
abbrev n_Shown_bool : List Str := ["self"]
abbrev p_Shown_bool : List Str := ["self"]
abbrev a_Shown_bool (K : PySem.W.Frag) : Addr := He.ma K (He.ga K "Unsound") "__bool__"
def d_Shown_bool : Df := { at_ := a_Shown_bool, name := "__bool__", qual := "Shown.__bool__", params := defArgs s_Shown_bool, body := defBody s_Shown_bool, scope := defScope s_Shown_bool }
abbrev s_Sound_init : Stmt := inClass (top 52) 1
abbrev n_Sound_init : List Str := ["self", "lost", "rows"]
abbrev p_Sound_init : List Str := ["self", "lost", "rows"]
abbrev a_Sound_init (K : PySem.W.Frag) : Addr := He.ma K (He.ga K "Sound") "__init__"
def d_Sound_init : Df := { at_ := a_Sound_init, name := "__init__", qual := "Sound.__init__", params := defArgs s_Sound_init, body := defBody s_Sound_init, scope := defScope s_Sound_init, clo := true }
abbrev s_Unsound_init : Stmt := inClass (top 53) 1
abbrev n_Unsound_init : List Str := ["self", "spoiled", "place", "number"]
abbrev p_Unsound_init : List Str := ["self", "spoiled", "place", "number"]
abbrev a_Unsound_init (K : PySem.W.Frag) : Addr := He.ma K (He.ga K "Unsound") "__init__"
def d_Unsound_init : Df := { at_ := a_Unsound_init, name := "__init__", qual := "Unsound.__init__", params := defArgs s_Unsound_init, body := defBody s_Unsound_init, scope := defScope s_Unsound_init, clo := true }
abbrev s_is_sound_rule : Stmt := top 54
abbrev n_is_sound_rule : List Str := ["rule", "clue", "rows"]
abbrev p_is_sound_rule : List Str := ["rule", "clue"]
abbrev a_is_sound_rule (K : PySem.W.Frag) : Addr := He.ga K "is_sound_rule"
def d_is_sound_rule : Df := { at_ := a_is_sound_rule, name := "is_sound_rule", qual := "is_sound_rule", params := defArgs s_is_sound_rule, body := defBody s_is_sound_rule, scope := defScope s_is_sound_rule }
abbrev s_spoiled_word : Stmt := top 55
abbrev n_spoiled_word : List Str := (["book", "clue", "layer", "seen", "later", "word", "node", "kind", "letter", "state", "is_start", "tail"] : List Str) ++ (["is_struck", "step", "fresh"] : List Str)
abbrev p_spoiled_word : List Str := ["book", "clue"]
abbrev a_spoiled_word (K : PySem.W.Frag) : Addr := He.ga K "spoiled_word"
def d_spoiled_word : Df := { at_ := a_spoiled_word, name := "spoiled_word", qual := "spoiled_word", params := defArgs s_spoiled_word, body := defBody s_spoiled_word, scope := defScope s_spoiled_word }
abbrev s_first_strike : Stmt := top 56
abbrev n_first_strike : List Str := ["book", "line", "place", "number", "rule"]
abbrev p_first_strike : List Str := ["book", "line"]
abbrev a_first_strike (K : PySem.W.Frag) : Addr := He.ga K "first_strike"
def d_first_strike : Df := { at_ := a_first_strike, name := "first_strike", qual := "first_strike", params := defArgs s_first_strike, body := defBody s_first_strike, scope := defScope s_first_strike }
abbrev s_judge_sound : Stmt := top 57
abbrev n_judge_sound : List Str := ["book", "clue", "lost", "rows", "word", "place", "number", "rule", "row"]
abbrev p_judge_sound : List Str := ["book", "clue"]
abbrev a_judge_sound (K : PySem.W.Frag) : Addr := He.ga K "judge_sound"
def d_judge_sound : Df := { at_ := a_judge_sound, name := "judge_sound", qual := "judge_sound", params := defArgs s_judge_sound, body := defBody s_judge_sound, scope := defScope s_judge_sound }
abbrev s_is_index : Stmt := top 60
abbrev n_is_index : List Str := ["thing", "many"]
abbrev p_is_index : List Str := ["thing", "many"]
abbrev a_is_index (K : PySem.W.Frag) : Addr := He.ga K "is_index"
def d_is_index : Df := { at_ := a_is_index, name := "is_index", qual := "is_index", params := defArgs s_is_index, body := defBody s_is_index, scope := defScope s_is_index }
abbrev s_pattern_of : Stmt := top 66
abbrev n_pattern_of : List Str := ["values", "pattern", "found", "thing", "cell"]
abbrev p_pattern_of : List Str := ["values", "pattern"]
abbrev a_pattern_of (K : PySem.W.Frag) : Addr := He.ga K "pattern_of"
def d_pattern_of : Df := { at_ := a_pattern_of, name := "pattern_of", qual := "pattern_of", params := defArgs s_pattern_of, body := defBody s_pattern_of, scope := defScope s_pattern_of }
abbrev s_Rule_init : Stmt := inClass (top 67) 1
abbrev n_Rule_init : List Str := ["self", "values", "pattern", "at", "value", "left", "right", "cell"]
abbrev p_Rule_init : List Str := ["self", "values", "pattern", "at", "value", "left", "right"]
abbrev a_Rule_init (K : PySem.W.Frag) : Addr := He.ma K (He.ga K "Rule") "__init__"
def d_Rule_init : Df := { at_ := a_Rule_init, name := "__init__", qual := "Rule.__init__", params := defArgs s_Rule_init, body := defBody s_Rule_init, scope := defScope s_Rule_init, kwd := [("left", .bl false), ("right", .bl false)] }
abbrev s_Rule_need_values : Stmt := inClass (top 67) 3
abbrev n_Rule_need_values : List Str := ["self", "line"]
abbrev p_Rule_need_values : List Str := ["self", "line"]
abbrev a_Rule_need_values (K : PySem.W.Frag) : Addr := He.ma K (He.ga K "Rule") "need_values"
def d_Rule_need_values : Df := { at_ := a_Rule_need_values, name := "need_values", qual := "Rule.need_values", params := defArgs s_Rule_need_values, body := defBody s_Rule_need_values, scope := defScope s_Rule_need_values }
abbrev s_Rule_holds : Stmt := inClass (top 67) 4
abbrev n_Rule_holds : List Str := ["self", "numbers", "begin", "k", "own"]
abbrev p_Rule_holds : List Str := ["self", "numbers", "begin"]
abbrev a_Rule_holds (K : PySem.W.Frag) : Addr := He.ma K (He.ga K "Rule") "holds"
def d_Rule_holds : Df := { at_ := a_Rule_holds, name := "holds", qual := "Rule.holds", params := defArgs s_Rule_holds, body := defBody s_Rule_holds, scope := defScope s_Rule_holds }
abbrev s_Rule_strikes_in : Stmt := inClass (top 67) 5
abbrev n_Rule_strikes_in : List Str := ["self", "numbers", "begin"]
abbrev p_Rule_strikes_in : List Str := ["self", "numbers", "begin"]
abbrev a_Rule_strikes_in (K : PySem.W.Frag) : Addr := He.ma K (He.ga K "Rule") "strikes_in"
def d_Rule_strikes_in : Df := { at_ := a_Rule_strikes_in, name := "strikes_in", qual := "Rule.strikes_in", params := defArgs s_Rule_strikes_in, body := defBody s_Rule_strikes_in, scope := defScope s_Rule_strikes_in }
abbrev s_Rule_spans : Stmt := inClass (top 67) 6
abbrev n_Rule_spans : List Str := ["self", "many", "place", "end"]
abbrev p_Rule_spans : List Str := ["self", "many", "place"]
abbrev a_Rule_spans (K : PySem.W.Frag) : Addr := He.ma K (He.ga K "Rule") "spans"
def d_Rule_spans : Df := { at_ := a_Rule_spans, name := "spans", qual := "Rule.spans", params := defArgs s_Rule_spans, body := defBody s_Rule_spans, scope := defScope s_Rule_spans }
abbrev s_Rule_hits : Stmt := inClass (top 67) 8
abbrev n_Rule_hits : List Str := ["self", "line", "place"]
abbrev p_Rule_hits : List Str := ["self", "line", "place"]
abbrev a_Rule_hits (K : PySem.W.Frag) : Addr := He.ma K (He.ga K "Rule") "hits"
def d_Rule_hits : Df := { at_ := a_Rule_hits, name := "hits", qual := "Rule.hits", params := defArgs s_Rule_hits, body := defBody s_Rule_hits, scope := defScope s_Rule_hits }
abbrev s_Rule_neg : Stmt := inClass (top 67) 11
abbrev n_Rule_neg : List Str := ["self", "at"]
abbrev p_Rule_neg : List Str := ["self"]
abbrev a_Rule_neg (K : PySem.W.Frag) : Addr := He.ma K (He.ga K "Rule") "__neg__"
def d_Rule_neg : Df := { at_ := a_Rule_neg, name := "__neg__", qual := "Rule.__neg__", params := defArgs s_Rule_neg, body := defBody s_Rule_neg, scope := defScope s_Rule_neg }
abbrev s_Rule_len : Stmt := inClass (top 67) 12
abbrev n_Rule_len : List Str := ["self"]
abbrev p_Rule_len : List Str := ["self"]
abbrev a_Rule_len (K : PySem.W.Frag) : Addr := He.ma K (He.ga K "Rule") "__len__"
def d_Rule_len : Df := { at_ := a_Rule_len, name := "__len__", qual := "Rule.__len__", params := defArgs s_Rule_len, body := defBody s_Rule_len, scope := defScope s_Rule_len }
abbrev s_Rule_eq : Stmt := inClass (top 67) 14
abbrev n_Rule_eq : List Str := ["self", "other"]
abbrev p_Rule_eq : List Str := ["self", "other"]
abbrev a_Rule_eq (K : PySem.W.Frag) : Addr := He.ma K (He.ga K "Rule") "__eq__"
def d_Rule_eq : Df := { at_ := a_Rule_eq, name := "__eq__", qual := "Rule.__eq__", params := defArgs s_Rule_eq, body := defBody s_Rule_eq, scope := defScope s_Rule_eq }
abbrev s_numbers_of_rules : Stmt := top 68
abbrev n_numbers_of_rules : List Str := ["line", "cell"]
abbrev p_numbers_of_rules : List Str := ["line"]
abbrev a_numbers_of_rules (K : PySem.W.Frag) : Addr := He.ga K "numbers_of_rules"
def d_numbers_of_rules : Df := { at_ := a_numbers_of_rules, name := "numbers_of", qual := "numbers_of", params := defArgs s_numbers_of_rules, body := defBody s_numbers_of_rules, scope := defScope s_numbers_of_rules }
abbrev s_Striker_init : Stmt := inClass (top 72) 0
abbrev n_Striker_init : List Str := ["self", "values"]
abbrev p_Striker_init : List Str := ["self", "values"]
abbrev a_Striker_init (K : PySem.W.Frag) : Addr := He.ma K (He.ga K "Striker") "__init__"
def d_Striker_init : Df := { at_ := a_Striker_init, name := "__init__", qual := "Striker.__init__", params := defArgs s_Striker_init, body := defBody s_Striker_init, scope := defScope s_Striker_init }
abbrev s_Striker_reach : Stmt := inClass (top 72) 2
abbrev n_Striker_reach : List Str := ["self"]
abbrev p_Striker_reach : List Str := ["self"]
abbrev a_Striker_reach (K : PySem.W.Frag) : Addr := prG K "Book" "reach"
def d_Striker_reach : Df := { at_ := a_Striker_reach, name := "reach", qual := "Striker.reach", params := defArgs s_Striker_reach, body := defBody s_Striker_reach, scope := defScope s_Striker_reach }
abbrev s_Striker_stepped : Stmt := inClass (top 72) 9
abbrev n_Striker_stepped : List Str := ["self", "tail", "number", "is_start", "numbers", "may_end", "is_all"]
abbrev p_Striker_stepped : List Str := ["self", "tail", "number", "is_start"]
abbrev a_Striker_stepped (K : PySem.W.Frag) : Addr := He.ma K (He.ga K "Book") "stepped"
def d_Striker_stepped : Df := { at_ := a_Striker_stepped, name := "stepped", qual := "Striker.stepped", params := defArgs s_Striker_stepped, body := defBody s_Striker_stepped, scope := defScope s_Striker_stepped }
abbrev s_Book_init : Stmt := inClass (top 75) 1
abbrev n_Book_init : List Str := ["self", "values", "rules", "at", "rule"]
abbrev p_Book_init : List Str := ["self", "values", "rules"]
abbrev a_Book_init (K : PySem.W.Frag) : Addr := He.ma K (He.ga K "Book") "__init__"
def d_Book_init : Df := { at_ := a_Book_init, name := "__init__", qual := "Book.__init__", params := defArgs s_Book_init, body := defBody s_Book_init, scope := defScope s_Book_init, clo := true }
abbrev s_Book_of : Stmt := inClass (top 75) 2
abbrev n_Book_of : List Str := ["cls", "values", "rules"]
abbrev p_Book_of : List Str := ["cls", "values", "rules"]
abbrev a_Book_of (K : PySem.W.Frag) : Addr := cmG K "Book" "of"
def d_Book_of : Df := { at_ := a_Book_of, name := "of", qual := "Book.of", params := defArgs s_Book_of, body := defBody s_Book_of, scope := defScope s_Book_of }
abbrev s_Book_rules : Stmt := inClass (top 75) 3
abbrev n_Book_rules : List Str := ["self"]
abbrev p_Book_rules : List Str := ["self"]
abbrev a_Book_rules (K : PySem.W.Frag) : Addr := prG K "Book" "rules"
def d_Book_rules : Df := { at_ := a_Book_rules, name := "rules", qual := "Book.rules", params := defArgs s_Book_rules, body := defBody s_Book_rules, scope := defScope s_Book_rules }
abbrev s_Book_width : Stmt := inClass (top 75) 4
abbrev n_Book_width : List Str := ["self", "rule"]
abbrev p_Book_width : List Str := ["self"]
abbrev a_Book_width (K : PySem.W.Frag) : Addr := prG K "Book" "width"
def d_Book_width : Df := { at_ := a_Book_width, name := "width", qual := "Book.width", params := defArgs s_Book_width, body := defBody s_Book_width, scope := defScope s_Book_width }
abbrev s_Book_strikes_last : Stmt := inClass (top 75) 6
abbrev n_Book_strikes_last : List Str := ["self", "numbers", "is_start", "right", "rule", "begin"]
abbrev p_Book_strikes_last : List Str := ["self", "numbers", "is_start", "right"]
abbrev a_Book_strikes_last (K : PySem.W.Frag) : Addr := He.ma K (He.ga K "Book") "strikes_last"
def d_Book_strikes_last : Df := { at_ := a_Book_strikes_last, name := "strikes_last", qual := "Book.strikes_last", params := defArgs s_Book_strikes_last, body := defBody s_Book_strikes_last, scope := defScope s_Book_strikes_last }
abbrev s_Book_strikes_at : Stmt := inClass (top 75) 7
abbrev n_Book_strikes_at : List Str := ["self", "numbers", "is_start"]
abbrev p_Book_strikes_at : List Str := ["self", "numbers", "is_start"]
abbrev a_Book_strikes_at (K : PySem.W.Frag) : Addr := He.ma K (He.ga K "Book") "strikes_at"
def d_Book_strikes_at : Df := { at_ := a_Book_strikes_at, name := "strikes_at", qual := "Book.strikes_at", params := defArgs s_Book_strikes_at, body := defBody s_Book_strikes_at, scope := defScope s_Book_strikes_at }
abbrev s_Book_strikes_end : Stmt := inClass (top 75) 8
abbrev n_Book_strikes_end : List Str := ["self", "numbers", "is_start"]
abbrev p_Book_strikes_end : List Str := ["self", "numbers", "is_start"]
abbrev a_Book_strikes_end (K : PySem.W.Frag) : Addr := He.ma K (He.ga K "Book") "strikes_end"
def d_Book_strikes_end : Df := { at_ := a_Book_strikes_end, name := "strikes_end", qual := "Book.strikes_end", params := defArgs s_Book_strikes_end, body := defBody s_Book_strikes_end, scope := defScope s_Book_strikes_end }
abbrev s_reached : Stmt := top 77
abbrev n_reached : List Str := ["steps", "order", "seen", "at", "later"]
abbrev p_reached : List Str := ["steps"]
abbrev a_reached (K : PySem.W.Frag) : Addr := He.ga K "reached"
def d_reached : Df := { at_ := a_reached, name := "reached", qual := "reached", params := defArgs s_reached, body := defBody s_reached, scope := defScope s_reached }
abbrev s_numbered : Stmt := top 78
abbrev n_numbered : List Str := ["steps", "told", "order", "number", "rows", "at", "state", "later"]
abbrev p_numbered : List Str := ["steps", "told"]
abbrev a_numbered (K : PySem.W.Frag) : Addr := He.ga K "numbered"
def d_numbered : Df := { at_ := a_numbered, name := "numbered", qual := "numbered", params := defArgs s_numbered, body := defBody s_numbered, scope := defScope s_numbered }
abbrev s_parts : Stmt := top 79
abbrev n_parts : List Str := ["steps", "told", "marks", "many", "known", "fresh", "state", "row", "key", "is_told", "later"]
abbrev p_parts : List Str := ["steps", "told"]
abbrev a_parts (K : PySem.W.Frag) : Addr := He.ga K "parts"
def d_parts : Df := { at_ := a_parts, name := "parts", qual := "parts", params := defArgs s_parts, body := defBody s_parts, scope := defScope s_parts }
abbrev s_least_table : Stmt := top 80
abbrev n_least_table : List Str := ["steps", "told", "marks", "first", "mark", "state", "later"]
abbrev p_least_table : List Str := ["steps", "told"]
abbrev a_least_table (K : PySem.W.Frag) : Addr := He.ga K "least_table"
def d_least_table : Df := { at_ := a_least_table, name := "least_table", qual := "least_table", params := defArgs s_least_table, body := defBody s_least_table, scope := defScope s_least_table }
abbrev s_both_told : Stmt := top 81
abbrev n_both_told : List Str := ["rule", "one", "other"]
abbrev p_both_told : List Str := ["rule", "one", "other"]
abbrev a_both_told (K : PySem.W.Frag) : Addr := He.ga K "both_told"
def d_both_told : Df := { at_ := a_both_told, name := "both_told", qual := "both_told", params := defArgs s_both_told, body := defBody s_both_told, scope := defScope s_both_told }
abbrev s_paired : Stmt := top 82
abbrev n_paired : List Str := ["one", "other", "rule", "pairs", "number", "steps", "mine", "others", "row", "pair"]
abbrev p_paired : List Str := ["one", "other", "rule"]
abbrev a_paired (K : PySem.W.Frag) : Addr := He.ga K "paired"
def d_paired : Df := { at_ := a_paired, name := "paired", qual := "paired", params := defArgs s_paired, body := defBody s_paired, scope := defScope s_paired }
abbrev s_mirrored : Stmt := top 83
abbrev n_mirrored : List Str := ["steps", "told", "most", "some", "number", "rows", "row", "at", "ahead", "state", "ends"]
abbrev p_mirrored : List Str := ["steps", "told", "most"]
abbrev a_mirrored (K : PySem.W.Frag) : Addr := He.ga K "mirrored"
def d_mirrored : Df := { at_ := a_mirrored, name := "mirrored", qual := "mirrored", params := defArgs s_mirrored, body := defBody s_mirrored, scope := defScope s_mirrored }
abbrev s_need_values_clues : Stmt := top 89
abbrev n_need_values_clues : List Str := ["values"]
abbrev p_need_values_clues : List Str := ["values"]
abbrev a_need_values_clues (K : PySem.W.Frag) : Addr := He.ga K "need_values_clues"
def d_need_values_clues : Df := { at_ := a_need_values_clues, name := "need_values", qual := "need_values", params := defArgs s_need_values_clues, body := defBody s_need_values_clues, scope := defScope s_need_values_clues }
abbrev s_need_room : Stmt := top 94
abbrev n_need_room : List Str := ["table"]
abbrev p_need_room : List Str := ["table"]
abbrev a_need_room (K : PySem.W.Frag) : Addr := He.ga K "need_room"
def d_need_room : Df := { at_ := a_need_room, name := "need_room", qual := "need_room", params := defArgs s_need_room, body := defBody s_need_room, scope := defScope s_need_room }
abbrev s_is_row : Stmt := top 95
abbrev n_is_row : List Str := ["thing", "wide", "many", "state"]
abbrev p_is_row : List Str := ["thing", "wide", "many"]
abbrev a_is_row (K : PySem.W.Frag) : Addr := He.ga K "is_row"
def d_is_row : Df := { at_ := a_is_row, name := "is_row", qual := "is_row", params := defArgs s_is_row, body := defBody s_is_row, scope := defScope s_is_row }
abbrev s_Clue_init : Stmt := inClass (top 96) 1
abbrev n_Clue_init : List Str := ["self", "values", "table"]
abbrev p_Clue_init : List Str := ["self", "values", "table"]
abbrev a_Clue_init (K : PySem.W.Frag) : Addr := He.ma K (He.ga K "Clue") "__init__"
def d_Clue_init : Df := { at_ := a_Clue_init, name := "__init__", qual := "Clue.__init__", params := defArgs s_Clue_init, body := defBody s_Clue_init, scope := defScope s_Clue_init }
abbrev s_Clue_beside : Stmt := inClass (top 96) 8
abbrev n_Clue_beside : List Str := ["self", "other", "rule"]
abbrev p_Clue_beside : List Str := ["self", "other", "rule"]
abbrev a_Clue_beside (K : PySem.W.Frag) : Addr := He.ma K (He.ga K "Machine") "beside"
def d_Clue_beside : Df := { at_ := a_Clue_beside, name := "beside", qual := "Clue.beside", params := defArgs s_Clue_beside, body := defBody s_Clue_beside, scope := defScope s_Clue_beside }
abbrev s_Clue_and : Stmt := inClass (top 96) 14
abbrev n_Clue_and : List Str := ["self", "other"]
abbrev p_Clue_and : List Str := ["self", "other"]
abbrev a_Clue_and (K : PySem.W.Frag) : Addr := He.ma K (He.ga K "Machine") "__and__"
def d_Clue_and : Df := { at_ := a_Clue_and, name := "__and__", qual := "Clue.__and__", params := defArgs s_Clue_and, body := defBody s_Clue_and, scope := defScope s_Clue_and }
abbrev s_Clue_or : Stmt := inClass (top 96) 15
abbrev n_Clue_or : List Str := ["self", "other"]
abbrev p_Clue_or : List Str := ["self", "other"]
abbrev a_Clue_or (K : PySem.W.Frag) : Addr := He.ma K (He.ga K "Machine") "__or__"
def d_Clue_or : Df := { at_ := a_Clue_or, name := "__or__", qual := "Clue.__or__", params := defArgs s_Clue_or, body := defBody s_Clue_or, scope := defScope s_Clue_or }
abbrev s_Clue_neg : Stmt := inClass (top 96) 19
abbrev n_Clue_neg : List Str := ["self"]
abbrev p_Clue_neg : List Str := ["self"]
abbrev a_Clue_neg (K : PySem.W.Frag) : Addr := He.ma K (He.ga K "Machine") "__neg__"
def d_Clue_neg : Df := { at_ := a_Clue_neg, name := "__neg__", qual := "Clue.__neg__", params := defArgs s_Clue_neg, body := defBody s_Clue_neg, scope := defScope s_Clue_neg }
abbrev s_Machine_init : Stmt := inClass (top 97) 1
abbrev n_Machine_init : List Str := ["self", "values", "steps", "told", "row", "is_told"]
abbrev p_Machine_init : List Str := ["self", "values", "steps", "told"]
abbrev a_Machine_init (K : PySem.W.Frag) : Addr := He.ma K (He.ga K "Machine") "__init__"
def d_Machine_init : Df := { at_ := a_Machine_init, name := "__init__", qual := "Machine.__init__", params := defArgs s_Machine_init, body := defBody s_Machine_init, scope := defScope s_Machine_init, clo := true }
abbrev s_law_pen : Stmt := top 99
abbrev n_law_pen : List Str := ["_law_script"]
abbrev p_law_pen : List Str := ["_law_script"]
abbrev a_law_pen (K : PySem.W.Frag) : Addr := He.ga K "_law_pen"
def d_law_pen : Df := { at_ := a_law_pen, name := "_law_pen", qual := "_law_pen", params := defArgs s_law_pen, body := defBody s_law_pen, scope := defScope s_law_pen }
abbrev s_law_draw : Stmt := top 100
abbrev n_law_draw : List Str := ["_law_pen_here", "_law_many", "_law_digit", "_law_at", "_law_cell_here", "_law_great", "_law_blent"]
abbrev p_law_draw : List Str := ["_law_pen_here", "_law_many"]
abbrev a_law_draw (K : PySem.W.Frag) : Addr := He.ga K "_law_draw"
def d_law_draw : Df := { at_ := a_law_draw, name := "_law_draw", qual := "_law_draw", params := defArgs s_law_draw, body := defBody s_law_draw, scope := defScope s_law_draw }
abbrev s_law_pick : Stmt := top 101
abbrev n_law_pick : List Str := ["_law_pen_here", "_law_some"]
abbrev p_law_pick : List Str := ["_law_pen_here", "_law_some"]
abbrev a_law_pick (K : PySem.W.Frag) : Addr := He.ga K "_law_pick"
def d_law_pick : Df := { at_ := a_law_pick, name := "_law_pick", qual := "_law_pick", params := defArgs s_law_pick, body := defBody s_law_pick, scope := defScope s_law_pick }
abbrev s_law_two : Stmt := top 102
abbrev n_law_two : List Str := ["_law_k"]
abbrev p_law_two : List Str := ["_law_k"]
abbrev a_law_two (K : PySem.W.Frag) : Addr := He.ga K "_law_two"
def d_law_two : Df := { at_ := a_law_two, name := "_law_two", qual := "_law_two", params := defArgs s_law_two, body := defBody s_law_two, scope := defScope s_law_two }
abbrev s_law_letters : Stmt := top 103
abbrev n_law_letters : List Str := ["_law_pen_here", "_law_spare", "_law_many", "_law_k"]
abbrev p_law_letters : List Str := ["_law_pen_here"]
abbrev a_law_letters (K : PySem.W.Frag) : Addr := He.ga K "_law_letters"
def d_law_letters : Df := { at_ := a_law_letters, name := "_law_letters", qual := "_law_letters", params := defArgs s_law_letters, body := defBody s_law_letters, scope := defScope s_law_letters }
abbrev s_law_cell : Stmt := top 104
abbrev n_law_cell : List Str := ["_law_pen_here", "_law_letters_here", "_law_number", "_law_k", "_law_letter"]
abbrev p_law_cell : List Str := ["_law_pen_here", "_law_letters_here"]
abbrev a_law_cell (K : PySem.W.Frag) : Addr := He.ga K "_law_cell"
def d_law_cell : Df := { at_ := a_law_cell, name := "_law_cell", qual := "_law_cell", params := defArgs s_law_cell, body := defBody s_law_cell, scope := defScope s_law_cell }
abbrev s_law_row : Stmt := top 105
abbrev n_law_row : List Str := ["_law_pen_here", "_law_letters_here", "_law_top", "_law_cells", "_law_at", "_law_k"]
abbrev p_law_row : List Str := ["_law_pen_here", "_law_letters_here", "_law_top"]
abbrev a_law_row (K : PySem.W.Frag) : Addr := He.ga K "_law_row"
def d_law_row : Df := { at_ := a_law_row, name := "_law_row", qual := "_law_row", params := defArgs s_law_row, body := defBody s_law_row, scope := defScope s_law_row }
abbrev s_law_rows : Stmt := top 106
abbrev n_law_rows : List Str := ["_law_pen_here", "_law_letters_here", "_law_many", "_law_top", "_law_found", "_law_k", "_law_row_here"]
abbrev p_law_rows : List Str := ["_law_pen_here", "_law_letters_here", "_law_many", "_law_top"]
abbrev a_law_rows (K : PySem.W.Frag) : Addr := He.ga K "_law_rows"
def d_law_rows : Df := { at_ := a_law_rows, name := "_law_rows", qual := "_law_rows", params := defArgs s_law_rows, body := defBody s_law_rows, scope := defScope s_law_rows }
abbrev s_law_rule : Stmt := top 107
abbrev n_law_rule : List Str := ["_law_values", "_law_row_here"]
abbrev p_law_rule : List Str := ["_law_values", "_law_row_here"]
abbrev a_law_rule (K : PySem.W.Frag) : Addr := He.ga K "_law_rule"
def d_law_rule : Df := { at_ := a_law_rule, name := "_law_rule", qual := "_law_rule", params := defArgs s_law_rule, body := defBody s_law_rule, scope := defScope s_law_rule }
abbrev s_law_book : Stmt := top 108
abbrev n_law_book : List Str := ["_law_values", "_law_rows_here", "_law_row_here"]
abbrev p_law_book : List Str := ["_law_values", "_law_rows_here"]
abbrev a_law_book (K : PySem.W.Frag) : Addr := He.ga K "_law_book"
def d_law_book : Df := { at_ := a_law_book, name := "_law_book", qual := "_law_book", params := defArgs s_law_book, body := defBody s_law_book, scope := defScope s_law_book }
abbrev s_law_machine : Stmt := top 109
abbrev n_law_machine : List Str := ["_law_pen_here", "_law_letters_here", "_law_top", "_law_many", "_law_rows_here", "_law_k", "_law_letter"]
abbrev p_law_machine : List Str := ["_law_pen_here", "_law_letters_here", "_law_top"]
abbrev a_law_machine (K : PySem.W.Frag) : Addr := He.ga K "_law_machine"
def d_law_machine : Df := { at_ := a_law_machine, name := "_law_machine", qual := "_law_machine", params := defArgs s_law_machine, body := defBody s_law_machine, scope := defScope s_law_machine }
abbrev s_law_clue : Stmt := top 110
abbrev n_law_clue : List Str := ["_law_pen_here", "_law_values", "_law_letters_here", "_law_top", "_law_rows_here", "_law_truths"]
abbrev p_law_clue : List Str := ["_law_pen_here", "_law_values", "_law_letters_here", "_law_top"]
abbrev a_law_clue (K : PySem.W.Frag) : Addr := He.ga K "_law_clue"
def d_law_clue : Df := { at_ := a_law_clue, name := "_law_clue", qual := "_law_clue", params := defArgs s_law_clue, body := defBody s_law_clue, scope := defScope s_law_clue }
abbrev s_law_less : Stmt := top 111
abbrev n_law_less : List Str := ["_law_pen_here", "_law_row_here", "_law_cells", "_law_k", "_law_cell_here", "_law_kept", "_law_letter"]
abbrev p_law_less : List Str := ["_law_pen_here", "_law_row_here"]
abbrev a_law_less (K : PySem.W.Frag) : Addr := He.ga K "_law_less"
def d_law_less : Df := { at_ := a_law_less, name := "_law_less", qual := "_law_less", params := defArgs s_law_less, body := defBody s_law_less, scope := defScope s_law_less }
abbrev s_law_right : Stmt := top 112
abbrev n_law_right : List Str := ["_law_pen_here", "_law_values", "_law_letters_here", "_law_clues", "_law_row_here", "_law_rule_so", "_law_truths", "_law_k", "_law_clue_so", "_law_one", "_law_two_here"]
abbrev p_law_right : List Str := ["_law_pen_here", "_law_values", "_law_letters_here", "_law_clues"]
abbrev a_law_right (K : PySem.W.Frag) : Addr := He.ga K "_law_right"
def d_law_right : Df := { at_ := a_law_right, name := "_law_right", qual := "_law_right", params := defArgs s_law_right, body := defBody s_law_right, scope := defScope s_law_right }
abbrev s_law : Stmt := top 113
abbrev n_law : List Str := ["_law_script", "_law_pen_here", "_law_turn", "_law_letters_here", "_law_values", "_law_clues", "_law_again", "_law_rows_here", "_law_truths", "_law_row_here"]
abbrev p_law : List Str := ["_law_script"]
abbrev a_law (K : PySem.W.Frag) : Addr := He.ga K "law"
def d_law : Df := { at_ := a_law, name := "law", qual := "law", params := defArgs s_law, body := defBody s_law, scope := defScope s_law }
def fnL : List Df := [d_is_whole, d_is_letters, d_is_cell_string, d_Cell_init, d_Cell_contains, d_Cell_bool, d_Values_init, d_Values_cell, d_Values_contains, d_Values_len, d_Values_eq, d_cell_told, d_item_of, d_need_word_lines, d_Line_init, d_Line_sure, d_Line_cells, d_Line_len, d_need_values_sound, d_bits_of, d_steps_by, d_closed, d_is_told, d_lost_states, d_numbers_of_sound, d_rows_of, d_is_sound_row, d_Judgement_init, d_Judgement_bool, d_Shown_bool, d_Sound_init, d_Unsound_init, d_is_sound_rule, d_spoiled_word, d_first_strike, d_judge_sound, d_is_index, d_pattern_of, d_Rule_init, d_Rule_need_values, d_Rule_holds, d_Rule_strikes_in, d_Rule_spans, d_Rule_hits, d_Rule_neg, d_Rule_len, d_Rule_eq, d_numbers_of_rules, d_Striker_init, d_Striker_reach, d_Striker_stepped, d_Book_init, d_Book_of, d_Book_rules, d_Book_width, d_Book_strikes_last, d_Book_strikes_at, d_Book_strikes_end, d_reached, d_numbered, d_parts, d_least_table, d_both_told, d_paired, d_mirrored, d_need_values_clues, d_need_room, d_is_row, d_Clue_init, d_Clue_beside, d_Clue_and, d_Clue_or, d_Clue_neg, d_Machine_init, d_law_pen, d_law_draw, d_law_pick, d_law_two, d_law_letters, d_law_cell, d_law_row, d_law_rows, d_law_rule, d_law_book, d_law_machine, d_law_clue, d_law_less, d_law_right, d_law]
abbrev freeL : List Str := (["isinstance", "int", "bool", "str", "list", "tuple", "len", "set", "all", "any", "enumerate", "sum"] : List Str) ++ (["sorted", "range", "zip", "max", "abs", "super"] : List Str)
abbrev gloL : List Str := (["_law_book", "_law_cell", "_law_clue", "_law_draw", "_law_less", "_law_letters", "_law_machine", "_law_pen", "_law_pick", "_law_right", "_law_row", "_law_rows"] : List Str) ++ (["_law_rule", "_law_two", "bits_of", "both_told", "cell_told", "closed", "first_strike", "is_cell_string", "is_index", "is_letters", "is_row", "is_sound_row"] : List Str) ++ (["is_sound_rule", "is_told", "is_whole", "item_of", "judge_sound", "law", "least_table", "lost_states", "mirrored", "need_room", "need_values_clues", "need_values_sound"] : List Str) ++ (["need_word_lines", "numbered", "numbers_of_rules", "numbers_of_sound", "paired", "parts", "pattern_of", "reached", "rows_of", "spoiled_word", "steps_by", "Cell"] : List Str) ++ (["Values", "Line", "Rule", "Book", "Sound", "Unsound", "Clue", "Machine"] : List Str)
abbrev clsL : List Str := ["Cell", "Values", "Line", "Rule", "Book", "Sound", "Unsound", "Clue", "Machine"]
abbrev noatL : List (Str × Str) := ([("Cell", "alphabet"), ("Cell", "number"), ("Cell", "letters"), ("Values", "letters"), ("Line", "alphabet"), ("Line", "row"), ("Rule", "alphabet"), ("Rule", "pattern"), ("Rule", "at"), ("Rule", "value"), ("Rule", "left"), ("Rule", "right")] : List (Str × Str)) ++ ([("Rule", "numbers"), ("Rule", "bit"), ("Book", "alphabet"), ("Book", "own_rules"), ("Sound", "facts"), ("Sound", "kind"), ("Sound", "lost"), ("Sound", "rows"), ("Unsound", "facts"), ("Unsound", "kind"), ("Unsound", "spoiled"), ("Unsound", "place")] : List (Str × Str)) ++ ([("Unsound", "number"), ("Clue", "alphabet"), ("Clue", "steps"), ("Clue", "told"), ("Machine", "alphabet"), ("Machine", "steps"), ("Machine", "told")] : List (Str × Str))
abbrev methL : List (Str × Str) := ([("Values", "cell"), ("Values", "__contains__"), ("Values", "__len__"), ("Values", "__eq__"), ("Cell", "__contains__"), ("Cell", "__bool__"), ("Line", "__len__"), ("Rule", "need_values"), ("Rule", "holds"), ("Rule", "strikes_in"), ("Rule", "spans"), ("Rule", "hits")] : List (Str × Str)) ++ ([("Rule", "__neg__"), ("Rule", "__len__"), ("Rule", "__eq__"), ("Book", "stepped"), ("Book", "strikes_last"), ("Book", "strikes_at"), ("Book", "strikes_end"), ("Machine", "beside"), ("Machine", "__and__"), ("Machine", "__or__"), ("Machine", "__neg__"), ("Sound", "__bool__")] : List (Str × Str)) ++ ([("Unsound", "__bool__")] : List (Str × Str))
abbrev propL : List (Str × Str) := [("Line", "cells"), ("Book", "reach"), ("Book", "rules"), ("Book", "width")]
abbrev cmetL : List (Str × Str) := [("Line", "sure"), ("Book", "of")]
abbrev intL : List (Str × Int) := [("MOST_CELLS", 4), ("MOST_RULES", 40), ("MOST_STATES", 64), ("MOST_WRITTEN", 12)]
abbrev cvalL : List (Str × Str × Int) := [("Values", "MOST", 4), ("Line", "LONGEST", 4001)]
abbrev conL : List (Str × Str × Str) := [("Sound", "WORD", "sound"), ("Unsound", "WORD", "unsound")]
def asL : (Addr → Option Obj) → List Addr := asX [("Cell", ["__init__", "__contains__", "__bool__"]), ("Values", ["__init__", "cell", "__contains__", "__len__", "__eq__"]), ("Line", ["__init__", "sure", "cells", "__len__"]), ("Rule", ["__init__", "need_values", "holds", "strikes_in", "spans", "hits", "__neg__", "__len__", "__eq__"]), ("Book", ["__init__", "of", "rules", "width", "strikes_last", "strikes_at", "strikes_end"]), ("Sound", ["__init__"]), ("Unsound", ["__init__"]), ("Clue", ["__init__", "beside", "__and__", "__or__", "__neg__"]), ("Machine", ["__init__"]), ("Narrower", []), ("Judgement", ["__init__", "__bool__"]), ("Shown", ["__bool__"]), ("Striker", ["__init__", "reach", "stepped"])] ((["_law_book", "_law_cell", "_law_clue", "_law_draw", "_law_less", "_law_letters", "_law_machine", "_law_pen", "_law_pick", "_law_right", "_law_row", "_law_rows"] : List Str) ++ (["_law_rule", "_law_two", "bits_of", "both_told", "cell_told", "closed", "first_strike", "is_cell_string", "is_index", "is_letters", "is_row", "is_sound_row"] : List Str) ++ (["is_sound_rule", "is_told", "is_whole", "item_of", "judge_sound", "law", "least_table", "lost_states", "mirrored", "need_room", "need_values_clues", "need_values_sound"] : List Str) ++ (["need_word_lines", "numbered", "numbers_of_rules", "numbers_of_sound", "paired", "parts", "pattern_of", "reached", "rows_of", "spoiled_word", "steps_by"] : List Str))
abbrev alphS : Str := "abcdefghijklmnopqrstuvwxyz"
abbrev insL : List Str := ["Values", "Cell", "Rule"]
abbrev creadL : List Str := ["Values", "Line", "Book"]
def faL : List (PySem.W.Frag → Bool) := [
  fun K => freeL.all fun x => (He.Fa.free x).ok K,
  fun K => gloL.all fun x => (He.Fa.glo x).ok K,
  fun K => intL.all fun p => (He.Fa.int p.1 p.2).ok K,
  fun K => (He.Fa.str "ALPHABET" alphS).ok K,
  fun K => clsL.all fun x => (He.Fa.cls x).ok K,
  fun K => noatL.all fun p => (He.Fa.noat p.1 p.2).ok K,
  fun K => methL.all fun p => (He.Fa.meth p.1 p.2).ok K,
  fun K => clsL.all fun x => (He.Fa.mkr x).ok K,
  fun K => propL.all fun p => propB K p.1 p.2,
  fun K => creadL.all fun x => creadB K x,
  fun K => cmetL.all fun p => cmetB K p.1 p.2,
  fun K => cvalL.all fun p => cvalB K p.1 p.2.1 p.2.2,
  fun K => conL.all fun p => conB K p.1 p.2.1 p.2.2,
  fun K => decide (PySem.W.kitOne K (.type "str") (.ref (He.ga K "Cell")) = some false),
  fun K => PySem.W.selfFirst K (He.ga K "Machine"),
  fun K => insL.all fun x => insB K (He.ga K x),
  fun K => supB Pg.main.file K (a_Sound_init K) (He.ga K "Sound") (He.ma K (He.ga K "Judgement") "__init__") "self",
  fun K => supB Pg.main.file K (a_Unsound_init K) (He.ga K "Unsound") (He.ma K (He.ga K "Judgement") "__init__") "self",
  fun K => supB Pg.main.file K (a_Book_init K) (He.ga K "Book") (He.ma K (He.ga K "Striker") "__init__") "self",
  fun K => supB Pg.main.file K (a_Machine_init K) (He.ga K "Machine") (He.ma K (He.ga K "Clue") "__init__") "self"]
end K5
section
set_option maxRecDepth 100000
set_option maxHeartbeats 0
namespace Hd
open PySem PySem.W PySem.Calls PyProof.Rows HandSHeadRun
abbrev R : OpenRow := OpenLaw.row PySem.Challenge.rw_linestrikes_k51_whole_sound_rules
abbrev qv : Program := view R.prog [113]
def names0 : List PySem.Str := ["_wall", "__name__", "LineError", "BadInput", "NoAnswer", "Struck", "BadValues", "BadCell", "BadLine", "BadWord", "BadMachine", "BadRule", "BadBook", "BadNumber", "NoCell", "Unlike", "BadText", "Clash", "TooMany", "NoRule"]
def names1 : List PySem.Str := ["ALPHABET", "is_whole", "is_letters", "is_cell_string", "is_cell_text", "is_number_text", "Cell", "Values", "cell_told", "item_of", "need_word", "need_word_lines", "texts_of_cells", "later_spots", "Narrower", "Line", "need_values", "need_values_sound", "bits_of", "steps_by"]
def names2 : List PySem.Str := ["closed", "is_told", "lost_states", "numbers_of", "numbers_of_sound", "rows_of", "is_sound_row", "Judgement", "Shown", "Sound", "Unsound", "is_sound_rule", "spoiled_word", "first_strike", "judge_sound", "MOST_CELLS", "is_index", "need_word_rules", "word_at", "cells_from"]
def names3 : List PySem.Str := ["rule_parts", "pattern_of", "Rule", "numbers_of_rules", "line_of", "Striker", "MOST_RULES", "Book", "reached", "numbered", "parts", "least_table", "both_told", "paired", "mirrored", "shortest", "MOST_STATES", "MOST_WRITTEN", "MOST_LENGTH", "need_values_clues"]
def names4 : List PySem.Str := ["need_word_clues", "is_word", "need_room", "is_row", "Clue", "Machine", "_law_pen", "_law_draw", "_law_pick", "_law_two", "_law_letters", "_law_cell", "_law_row", "_law_rows", "_law_rule", "_law_book", "_law_machine", "_law_clue", "_law_less", "_law_right"]
def names : List PySem.Str := names0 ++ names1 ++ names2 ++ names3 ++ names4
def kk (s : PySem.W.SharedT) : PySem.W.Frag := He.frG (HandSHeadRun.getT s) (K5.asL (HandSHeadRun.getT s))
abbrev Seen {α : Type} (w : World) (f : PySem.W.SharedT → α) (v : α) : Prop := ∀ os : OsState, (endF (stepQ (denQ tabQ) R.prog w) 20000 R.prog w os).map f = some v
def obd (s : PySem.W.SharedT) : Bool := K5.faL.all fun f => f (kk s)
theorem run_d (w : World) : Seen w obd true := by
  intro os
  kernel_rfl
def oba (s : PySem.W.SharedT) : List K5.FnX := K5.fnL.map fun d => K5.fnX (kk s) (d.at_ (kk s))
theorem run_a (w : World) : Seen w oba (K5.fnL.map K5.Df.val) := by
  intro os
  kernel_rfl
theorem run_y (w : World) : Seen w (fun s => seenQ qv names (importedModules R.prog.main.body) (fun s => xlAt qv [] s && recOk R.toRowW.records s) s.abs) (openGood qv names) := by
  intro os
  kernel_rfl
def obb (s : PySem.W.SharedT) : Bool := (K5.fnL.take 32).all fun d => d.ok (kk s)
theorem run_b (w : World) : Seen w obb true := by
  intro os
  kernel_rfl
def obe (s : PySem.W.SharedT) : Bool := (K5.fnL.drop 32).all fun d => d.ok (kk s)
theorem run_e (w : World) : Seen w obe true := by
  intro os
  kernel_rfl
theorem run_x (w : World) : Seen w (fun s => looksF R.prog (boot_heap w.params) s.abs) true := by
  intro os
  kernel_rfl
end Hd
end
section
set_option maxRecDepth 100000
set_option maxHeartbeats 1000000
/-! Own rules over the hand layer: fields by one fact, own dunders by values, global callables as one notion. -/
namespace K5
open PySem PySem.Spec PyProof.Rows L2
/-- the instance at a has the attribute f with the value v -/
def Fld (K : PySem.W.Frag) (H : Hp) (a : Addr) (f : Str) (v : V) : Prop :=
  ∃ C dx fs, H a = some (.ins C dx fs) ∧ Cls K C ∧ NoAttr K C f ∧ fs.lookup f = some v
/-- the class of the instance at a has the special method m at g -/
def Dun (K : PySem.W.Frag) (H : Hp) (a : Addr) (m : Str) (g : Addr) : Prop :=
  ∃ C dx fs, H a = some (.ins C dx fs) ∧ PySem.W.findIn K (.ref C) m = some (some (.ref g)) ∧ PySem.W.isFn K (.ref g) = true
/-- the method m of the instance at a is the def at g -/
def Mth (K : PySem.W.Frag) (H : Hp) (a : Addr) (m : Str) (g : Addr) : Prop :=
  ∃ C dx fs, H a = some (.ins C dx fs) ∧ Cls K C ∧ Meth K C m g ∧ fs.lookup m = none
/-- the instances at a and b are of one class whose == is at g -/
def DunEq (K : PySem.W.Frag) (H : Hp) (a b : Addr) (g : Addr) : Prop :=
  ∃ C dx fs dy ws, H a = some (.ins C dx fs) ∧ H b = some (.ins C dy ws) ∧ PySem.W.findIn K (.ref C) "__eq__" = some (some (.ref g)) ∧ PySem.W.isFn K (.ref g) = true
/-- the property f of the instance at a, its getter at g -/
def Prp (K : PySem.W.Frag) (H : Hp) (a : Addr) (f : Str) (g : Addr) : Prop :=
  ∃ C dx fs p, H a = some (.ins C dx fs) ∧ Cls K C ∧ PropOf K C f p g
section
variable {K : PySem.W.Frag} {H H' : Hp} {a b g : Addr} {f m : Str} {v : V}
theorem Fld.mono (s : Same H H') (h : Fld K H a f v) : Fld K H' a f v := let ⟨C, dx, fs, e, r⟩ := h; ⟨C, dx, fs, s _ _ e, r⟩
theorem Dun.mono (s : Same H H') (h : Dun K H a m g) : Dun K H' a m g := let ⟨C, dx, fs, e, r⟩ := h; ⟨C, dx, fs, s _ _ e, r⟩
theorem Mth.mono (s : Same H H') (h : Mth K H a m g) : Mth K H' a m g := let ⟨C, dx, fs, e, r⟩ := h; ⟨C, dx, fs, s _ _ e, r⟩
theorem Prp.mono (s : Same H H') (h : Prp K H a f g) : Prp K H' a f g := let ⟨C, dx, fs, p, e, r⟩ := h; ⟨C, dx, fs, p, s _ _ e, r⟩
theorem DunEq.mono (s : Same H H') (h : DunEq K H a b g) : DunEq K H' a b g := let ⟨C, dx, fs, dy, ws, e, e', r⟩ := h; ⟨C, dx, fs, dy, ws, s _ _ e, s _ _ e', r⟩
end
theorem Same.new {H : Hp} {p : Addr} {o : HO} (h : H p = none) : Same H (upd H p o) := fun a u e => by
  rw [upd_ne (ne_of_none e h)]
  exact e
/-- an object that H does not know may change -/
theorem Same.mut {H H' : Hp} {p : Addr} {o : HO} (e : Same H H') (h : H p = none) : Same H (upd H' p o) := fun a u ha => by
  rw [upd_ne (ne_of_none ha h)]
  exact e a u ha
theorem Same.sqt {K : PySem.W.Frag} {H H' : Hp} {a : Addr} {xs : List V} (e : Same H H') (h : SqT K H a xs) : SqT K H' a xs := by
  rcases h with (h | ⟨o, h⟩) | h
  · exact .inl (.inl (e _ _ h))
  · exact .inl (.inr ⟨o, e _ _ h⟩)
  · exact .inr h
section
variable {X : Cx} {pins : List (Addr × Obj)} {σ : L2.St} {H : Hp} {s : Shared} {a b C dx g : Addr} {fs : List (Str × V)} {n : Nat} {sp : Sp} {pos : Pos} {e : Expr} {ta tb : TE} {m f : Str}
theorem inst_of (I : Inv X pins σ H s) (h : H a = some (.ins C dx fs)) : ∃ od, PySem.W.InstAt s.heap a (PySem.W.instObj C dx) C (some od) :=
  let ⟨_, O, _⟩ := ins_get I.hok h
  let ⟨od, J, _⟩ := O.look
  ⟨od, J⟩
/-! ### fields -/
def tF (K : PySem.W.Frag) (ta : TE) (f : Str) : TE := fun σ H Q => ta σ H fun x H1 => ∃ a v, x = .ref a ∧ Fld K H1 a f v ∧ Q v H1
theorem pe_f (he : PE X e ta) (hb : attributeBase e f X.env (eval e X.env) = eval e X.env := by rfl) : PE X (.Attribute e f pos) (tF X.K ta f) := by
  refine ⟨fun pins s σ H Q I h => ?_⟩
  refine attr_of hb (thn (he.run pins s σ H _ I h) fun u s1 ⟨x, H1, I1, rx, a, v, ex, ⟨C, dx, fs, ea, c, n, l⟩, q⟩ => ?_)
  subst ex
  obtain rfl : u = Value.ref a := rx
  exact getattr_ok I1 ea c n l fun u' s2 I2 ru => ⟨v, H1, I2, ru, q⟩
/-! ### own dunders -/
def rLenOwn (K : PySem.W.Frag) (g : Addr) (sp : Sp) : List V → Hp → VK → Prop := fun xs H Q => ∃ a, xs = [V.ref a] ∧ Dun K H a "__len__" g ∧ sp [.ref a] H (fun z H' => ∃ k : Nat, z = .int k ∧ k ≤ sizeLine ∧ Q z H') E0
theorem call_lenOwn (F : FnR X.prog X.w X.K X.mg X.base CX0 n g sp) (hr : Room (n + 1) X.A) : CallR X (.builtin "len") (rLenOwn X.K g sp) := by
  intro pins s σ H xs us Q I r h
  obtain ⟨a, rfl, ⟨C, dx, fs, ea, hs, hf⟩, q⟩ := h
  obtain ⟨u, rfl, ru⟩ := vals1 r
  cases (show u = Value.ref a from ru)
  obtain ⟨od, J⟩ := inst_of I ea
  obtain ⟨m, hF⟩ := I.fr
  refine PySem.W.len_K hF I.ok.mod.kin J hs hf (wpAny_mono (wpAny_call (SlX.run_at (us := [.ref a]) (ws := [.ref a]) F hr.in1 I.env0.in1 pass0 I (.cons rfl .nil) q)) (fun w s' z => ?_) fun _ _ x => x)
  obtain ⟨z', H', I', rz, k, ez, hk, qz⟩ := z
  subst ez
  obtain ⟨t, e⟩ := (show ∃ t, w = Value.int k t from rz)
  subst e
  have hl := line63
  exact ⟨⟨by omega, by omega⟩, .int k, H', I'.tok _, ⟨_, rfl⟩, qz⟩
def rTruOwn (K : PySem.W.Frag) (g : Addr) (sp : Sp) : V → Hp → (Bool → Hp → Prop) → Prop := fun x H Q => ∃ a, x = .ref a ∧ Dun K H a "__bool__" g ∧ sp [.ref a] H (fun z H' => ∃ k, z = .bl k ∧ Q k H') E0
theorem tru_own (F : FnR X.prog X.w X.K X.mg X.base CX0 n g sp) (hr : Room n X.A) : TruR X (rTruOwn X.K g sp) := by
  intro pins s σ H x v Q I rx h
  obtain ⟨a, rfl, ⟨C, dx, fs, ea, hs, hf⟩, q⟩ := h
  cases (show v = Value.ref a from rx)
  obtain ⟨od, J⟩ := inst_of I ea
  obtain ⟨m, hF⟩ := I.fr
  refine PySem.W.truthy_K hF I.ok.mod.kin J hs hf (wpAny_mono (wpAny_call (run_fnR (us := [.ref a]) (vs := [.ref a]) F hr pass0 I (.cons rfl .nil) q)) (fun w s' z => ?_) fun _ _ x => x)
  obtain ⟨z', H', I', rz, k, ez, qz⟩ := z
  subst ez
  cases (show w = Value.bool k from rz)
  exact ⟨H', I', qz⟩
theorem TruR.or {r r' : V → Hp → (Bool → Hp → Prop) → Prop} (h : TruR X r) (h' : TruR X r') : TruR X (fun x H Q => r x H Q ∨ r' x H Q) := by
  intro pins s σ H x v Q I rx q
  rcases q with q | q
  · exact h pins s σ H x v Q I rx q
  · exact h' pins s σ H x v Q I rx q
theorem pt_tru {r : V → Hp → (Bool → Hp → Prop) → Prop} (hr : TruR X r) (ha : PE X e ta) (he : ∀ whole, isTrue e X.env whole = (do let v ← whole; standAt e.pos; holding [v] (truthy v)) := by intro _; rfl) :
    PT X e (fun σ H Q => ta σ H fun x H' => r x H' Q) := by
  refine ⟨fun pins s σ H Q I h => ?_⟩
  exact isTrue_plain (thn (ha.run pins s σ H _ I h) fun v s1 ⟨x, H1, I1, r1, q1⟩ => hr pins s1 σ H1 x v Q I1 r1 q1) (he _)
/-- not a, as a value, by a truth rule -/
theorem pe_notR {r : V → Hp → (Bool → Hp → Prop) → Prop} (hr : TruR X r) (ha : PE X e ta) : PE X (.UnaryOp .Not e pos) (fun σ H Q => ta σ H fun x H' => r x H' fun b H2 => Q (.bl (!b)) H2) := by
  refine ⟨fun pins s σ H Q I h => ?_⟩
  refine UnaryOp_ (thn (ha.run pins s σ H _ I h) fun v s1 ⟨x, H1, I1, r1, q1⟩ => ?_)
  exact not_of (thn (hr pins s1 σ H1 x v (fun c H2 => Q (.bl (!c)) H2) I1 r1 q1) fun c s2 ⟨H2, I2, q2⟩ => ⟨.bl (!c), H2, I2, rfl, q2⟩)
/-- x == y of two instances of one class -/
def rEqOwn (K : PySem.W.Frag) (g : Addr) (sp : Sp) : R2 := fun x y H Q => ∃ a b, x = .ref a ∧ y = .ref b ∧ DunEq K H a b g ∧ sp [x, y] H Q E0
theorem op_eqOwn (F : FnR X.prog X.w X.K X.mg X.base CX0 n g sp) (hr : Room n X.A) : OpR X (compareOp .Eq) (rEqOwn X.K g sp) := by
  intro pins s σ H x y v u Q I rx ry h
  obtain ⟨a, b, rfl, rfl, ⟨C, dx, fs, dy, ws, ha, hb, hs, hf⟩, q⟩ := h
  cases (show v = Value.ref a from rx)
  cases (show u = Value.ref b from ry)
  obtain ⟨od, J⟩ := inst_of I ha
  obtain ⟨od', J'⟩ := inst_of I hb
  obtain ⟨m, hF⟩ := I.fr
  have hn : PySem.W.notFirst X.K C (.ref C) = true := by
    unfold PySem.W.notFirst
    simp
  show wpAny _ _ (richCompare .Eq (.ref a) (.ref b)) _ _ _
  refine PySem.W.cmp_K (op := .Eq) (tb := .ref C) hr.units0 hF I.ok.mod.kin J J'.type hn hs hf ?_
  refine wpAny_mono (wpAny_call (run_fnR (us := [.ref a, .ref b]) (vs := [.ref a, .ref b]) F hr pass0 I (.cons rfl (.cons rfl .nil)) q)) (fun w s' z => ?_) fun _ _ x => x
  obtain ⟨z', H', I', rz, qz⟩ := z
  exact SlX.cmpback rz ⟨z', H', I', rz, qz⟩
/-- x in y, y an instance with an own __contains__ that answers a bool -/
def rInOwn (K : PySem.W.Frag) (g : Addr) (sp : Sp) (neg : Bool) : R2 := fun x y H Q => ∃ b, y = .ref b ∧ Dun K H b "__contains__" g ∧ sp [y, x] H (fun z H' => ∃ k : Bool, z = .bl k ∧ Q (.bl (if neg then !k else k)) H') E0
theorem op_inOwn (F : FnR X.prog X.w X.K X.mg X.base CX0 n g sp) (hr : Room n X.A) : OpR X (compareOp .In) (rInOwn X.K g sp false) := by
  intro pins s σ H x y v u Q I rx ry h
  obtain ⟨b, rfl, ⟨C, dx, fs, ea, hs, hf⟩, q⟩ := h
  cases (show u = Value.ref b from ry)
  obtain ⟨od, J⟩ := inst_of I ea
  obtain ⟨m, hF⟩ := I.fr
  refine PySem.W.in_K hF I.ok.mod.kin J hs hf (wpAny_mono (wpAny_call (run_fnR (us := [.ref b, v]) (vs := [.ref b, x]) F hr pass0 I (.cons rfl (.cons rx .nil)) q)) (fun w s' z => ?_) fun _ _ x => x)
  obtain ⟨z', H', I', rz, k, ez, qz⟩ := z
  subst ez
  cases (show w = Value.bool k from rz)
  exact wpAny_truthy_bool ⟨.bl k, H', I', rfl, qz⟩
theorem op_notInOwn (F : FnR X.prog X.w X.K X.mg X.base CX0 n g sp) (hr : Room n X.A) : OpR X (compareOp .NotIn) (rInOwn X.K g sp true) := by
  intro pins s σ H x y v u Q I rx ry h
  obtain ⟨b, rfl, ⟨C, dx, fs, ea, hs, hf⟩, q⟩ := h
  cases (show u = Value.ref b from ry)
  obtain ⟨od, J⟩ := inst_of I ea
  obtain ⟨m, hF⟩ := I.fr
  refine PySem.W.notIn_K hF I.ok.mod.kin J hs hf (wpAny_mono (wpAny_call (run_fnR (us := [.ref b, v]) (vs := [.ref b, x]) F hr pass0 I (.cons rfl (.cons rx .nil)) q)) (fun w s' z => ?_) fun _ _ x => x)
  obtain ⟨z', H', I', rz, k, ez, qz⟩ := z
  subst ez
  cases (show w = Value.bool k from rz)
  exact wpAny_truthy_bool ⟨.bl (!k), H', I', rfl, qz⟩
/-- -x -/
def rNegOwn (K : PySem.W.Frag) (g : Addr) (sp : Sp) : V → Hp → VK → Prop := fun x H Q => ∃ a, x = .ref a ∧ Dun K H a "__neg__" g ∧ sp [x] H Q E0
theorem un_negOwn (F : FnR X.prog X.w X.K X.mg X.base CX0 n g sp) (hr : Room n X.A) : UnR X (unaryOp .USub) (rNegOwn X.K g sp) := by
  intro pins s σ H x v Q I rx h
  obtain ⟨a, rfl, ⟨C, dx, fs, ea, hs, hf⟩, q⟩ := h
  cases (show v = Value.ref a from rx)
  obtain ⟨od, J⟩ := inst_of I ea
  obtain ⟨m, hF⟩ := I.fr
  exact PySem.W.ksp_neg hF I.ok.mod.kin J hs hf (wpAny_call (run_fnR (us := [.ref a]) (vs := [.ref a]) F hr pass0 I (.cons rfl .nil) q))
/-- x op y of two instances of one class -/
def rBinOwn (K : PySem.W.Frag) (m : Str) (g : Addr) (sp : Sp) : R2 := fun x y H Q => ∃ a b C dx fs dy ws, x = .ref a ∧ y = .ref b ∧ H a = some (.ins C dx fs) ∧ H b = some (.ins C dy ws) ∧ PySem.W.selfFirst K C = true ∧
  PySem.W.findIn K (.ref C) m = some (some (.ref g)) ∧ PySem.W.isFn K (.ref g) = true ∧ sp [x, y] H Q E0
theorem op_binOwn {op : Operator} (F : FnR X.prog X.w X.K X.mg X.base CX0 n g sp) (hr : Room n X.A) : OpR X (binaryOp op) (rBinOwn X.K (PySem.dunder op.info.2) g sp) := by
  intro pins s σ H x y v u Q I rx ry h
  obtain ⟨a, b, C, dx, fs, dy, ws, rfl, rfl, ha, hb, hc, hs, hf, q⟩ := h
  cases (show v = Value.ref a from rx)
  cases (show u = Value.ref b from ry)
  obtain ⟨od, J⟩ := inst_of I ha
  obtain ⟨od', J'⟩ := inst_of I hb
  obtain ⟨m, hF⟩ := I.fr
  refine PySem.W.binop_K hF I.ok.mod.kin J J'.type hc hs hf ?_
  refine wpAny_mono (wpAny_call (run_fnR (us := [.ref a, .ref b]) (vs := [.ref a, .ref b]) F hr pass0 I (.cons rfl (.cons rfl .nil)) q)) (fun w s' z => ?_) fun _ _ x => x
  obtain ⟨z', H', I', rz, qz⟩ := z
  exact SlX.cmpback rz ⟨z', H', I', rz, qz⟩
/-! ### methods and properties by one fact -/
def tM (K : PySem.W.Frag) (m : Str) (g : Addr) (sp : Sp) (ta : TE) (t : TA) : TE := fun σ H Q => ta σ H fun x H1 => ∃ a, x = .ref a ∧ Mth K H1 a m g ∧ t σ H1 fun vs H2 => sp (x :: vs) H2 Q E0
theorem pe_m {o : Expr} {es : List Expr} {t : TA} {apos : Pos} {pl : Sem Bool} (he : PE X o ta) (F : FnR X.prog X.w X.K X.mg X.base CX0 n g sp) (hr : Room n X.A) (ha : PA X (e :: es) t)
    (hst : starEach (e :: es) X.env = (false, eval e X.env) :: starEach es X.env := by rfl) (hpl : (backTo pos (starEach es X.env)).any (·.1) = false := by rfl)
    (ht : eval (.Call (.Attribute o m apos) (e :: es) [] pos) X.env = (do
      let ov ← eval o X.env
      standAt apos.atName
      let (f, first) ← holding [ov] (getMethod ov m pl)
      callWith pos f first (backTo pos (starEach (e :: es) X.env)) (backToKw pos (keywordEach [] X.env))) := by rfl) :
    PE X (.Call (.Attribute o m apos) (e :: es) [] pos) (tM X.K m g sp ta t) := by
  refine ⟨fun pins s σ H Q I h => ?_⟩
  refine PySem.W.methodCall_KW (pl := pl) (thn (he.run pins s σ H _ I h) fun u s1 ⟨x, H1, I1, rx, a, ex, ⟨C, dx, fs, ea, c, hm, l⟩, q⟩ => ?_) ht
  subst ex
  obtain rfl : u = Value.ref a := rx
  refine getmeth_ok I1 ea c hm l ?_
  refine PySem.W.callWith_K (first := [.ref a]) (h₀ := X.base) I.ok.mod.kin hm.kp (thn (ha.run pos pins s1 σ H1 _ I1 q) fun us s2 ⟨vs, H2, I2, r, q2⟩ => ⟨I2.kIn, ?_⟩) hst hpl
  exact wpAny_call (run_fnR (us := .ref a :: us) (vs := .ref a :: vs) F hr pass0 I2 (.cons rfl r) q2)
def tP (K : PySem.W.Frag) (f : Str) (g : Addr) (sp : Sp) (ta : TE) : TE := fun σ H Q => ta σ H fun x H1 => ∃ a, x = .ref a ∧ Prp K H1 a f g ∧ sp [x] H1 Q E0
theorem getprp_ok {p : Addr} {b : Bool} {Q : VK} {E' : Value → Shared → Prop} (I : Inv X pins σ H s) (ea : H a = some (.ins C dx fs)) (c : Cls X.K C) (hp : PropOf X.K C f p g) (F : FnR X.prog X.w X.K X.mg X.base CX0 n g sp) (hr : Room (n + 1) X.A)
    (h : sp [.ref a] H Q E0) : wpAny (model X.prog X.w) X.A (getAttr (.ref a) f b) (EP X pins σ Q) E' s := by
  obtain ⟨mA, O, _, _, _, _⟩ := ins_get I.hok ea
  obtain ⟨od, J, _⟩ := O.look
  obtain ⟨rest, hrec⟩ := hp.rec_
  have I1 := I.tok (s.toks + 1)
  have hc : (PySem.W.clsIn X.K C).isSome = true := by
    obtain ⟨cd, hc, _⟩ := PySem.W.any_some c.hd
    rw [hc]
    rfl
  refine PySem.W.get_bind I.kIn J (PySem.W.plainGet_of (c.get f)).1 (PySem.W.findObj_data hc hp.at_ hp.get hp.tak) (PySem.W.plainGet_of (c.get f)).2 (wpAny_call (PySem.W.prop_get (s := { s with toks := s.toks + 1 }) I.kIn hrec ?_))
  refine codeAny_mono (F X.A.in1 X.stack { s with toks := s.toks + 1 } H [.ref a] [.ref a] Q E0 hr.in1 I1.env0.in1 (.cons rfl .nil) h) fun r s' hq => ?_
  cases r with
  | error er => exact False.elim hq
  | ok fl =>
    cases fl with
    | ret u =>
      obtain ⟨v, H', I3, rv, q3⟩ := I1.after hq
      show wpAny _ _ (handedOut u) _ _ _
      rw [PySem.W.handedOut_of (handed_of rv)]
      exact wpAny_pure ⟨v, H', I3, rv, q3⟩
    | next => exact False.elim hq
    | brk => exact False.elim hq
    | cont => exact False.elim hq
theorem pe_p (he : PE X e ta) (F : FnR X.prog X.w X.K X.mg X.base CX0 n g sp) (hr : Room (n + 1) X.A) (hab : attributeBase e f X.env (eval e X.env) = eval e X.env := by rfl) : PE X (.Attribute e f pos) (tP X.K f g sp ta) := by
  refine ⟨fun pins s σ H Q I h => ?_⟩
  refine attr_of hab (thn (he.run pins s σ H _ I h) fun u s1 ⟨x, H1, I1, rx, a, ex, ⟨C, dx, fs, p, ea, c, hp⟩, q⟩ => ?_)
  subst ex
  obtain rfl : u = Value.ref a := rx
  exact getprp_ok I1 ea c hp F hr q
end
/-! ### a global name that may be called -/
structure Cg (P : Program) (w : World) (K : PySem.W.Frag) (mg : Str → Option Value) (base : Heap) (k : Nat) (x : Str) (sp : Sp) : Prop where
  ex : ∃ f, mg x = some (.ref f) ∧ PySem.W.keepIn K (.ref f) = true ∧ ∀ X : Cx, X.prog = P → X.w = w → X.K = K → X.mg = mg → X.base = base → Room k X.A → CallR X (.ref f) (fun vs H Q => sp vs H Q E0)
section
variable {P : Program} {w : World} {K : PySem.W.Frag} {mg : Str → Option Value} {base : Heap} {j k : Nat} {x : Str} {sp sp' : Sp} {f C : Addr}
theorem Cg.imp (c : Cg P w K mg base k x sp) (h : ∀ vs H Q E, sp' vs H Q E → sp vs H Q E) : Cg P w K mg base k x sp' :=
  let ⟨f, a, b, r⟩ := c.ex
  ⟨f, a, b, fun X e1 e2 e3 e4 e5 hr pins s σ H xs us Q I rv q => r X e1 e2 e3 e4 e5 hr pins s σ H xs us Q I rv (h _ _ _ _ q)⟩
theorem Cg.fn (hm : mg x = some (.ref f)) (kp : PySem.W.keepIn K (.ref f) = true) (F : FnR P w K mg base CX0 k f sp) : Cg P w K mg base k x sp :=
  ⟨f, hm, kp, fun X e1 e2 e3 e4 e5 hr => by
    subst e1 e2 e3 e4 e5
    exact fun pins s σ H xs us Q I rv q => wpAny_call (run_fnR F hr pass0 I rv q)⟩
/-- a class: a new instance and its dict, then __init__ -/
def mkSp (C : Addr) (sp : Sp) : Sp := fun vs H Q E => ∀ x dx, H x = none → H dx = none → dx ≠ x → sp (V.ref x :: vs) (upd (upd H dx (.own x)) x (.ins C dx [])) (fun v H2 => v = .non ∧ Q (.ref x) H2) E
theorem Cg.cls (hm : mg x = some (.ref C)) (M : Mk K C f) (F : FnR P w K mg base CX0 k f sp) : Cg P w K mg base (k + 1) x (mkSp C sp) :=
  ⟨C, hm, M.kp, fun X e1 e2 e3 e4 e5 hr => by
    subst e1 e2 e3 e4 e5
    exact fun pins s σ H xs us Q I rv q => StX.run_makeR M F hr pass0 I rv q⟩
end
section
variable {X : Cx} {k : Nat} {x : Str} {sp : Sp} {p pos : Pos} {e : Expr} {es : List Expr} {t : TA}
def tG (sp : Sp) (t : TA) : TE := fun σ H Q => t σ H fun vs H1 => sp vs H1 Q E0
theorem pe_g (c : Cg X.prog X.w X.K X.mg X.base k x sp) (hr : Room k X.A) (ha : PA X (e :: es) t) (hg : Gl X x := by rfl)
    (hdb : (x == ("__debug__" : Str)) = false := by decide) (he : starEach (e :: es) X.env = (false, eval e X.env) :: starEach es X.env := by rfl) (hpl : (backTo pos (starEach es X.env)).any (·.1) = false := by rfl) :
    PE X (.Call (.Name x p) (e :: es) [] pos) (tG sp t) := by
  obtain ⟨f, hm, hk, run⟩ := c.ex
  refine ⟨fun pins s σ H Q I h => ?_⟩
  refine wpAny_Call_Name_kw (ld_glob I hg hm ?_ hdb)
  refine PySem.W.callWith_K (h₀ := X.base) I.ok.mod.kin hk (thn (ha.run pos pins s σ H _ I h) fun us s1 ⟨vs, H1, I1, r, q⟩ => ⟨I1.kIn, ?_⟩) he hpl
  exact run X rfl rfl rfl rfl rfl hr pins s1 σ H1 vs us Q I1 r q
end
end K5
end
section
set_option maxRecDepth 100000
set_option maxHeartbeats 4000000
/-! Own rules: set(list of ints), set(tuple of ints), set(text of unlike signs), len of a set. -/
namespace K5
open PySem PySem.Spec PyProof.Rows L2
abbrev freshSet (w : World) : Obj := { cls := .type "set", dict := none, data := .set #[] 0 (.fresh 0 0 (!w.params.followText "set-order")) }
section
variable {P : Program} {w : World} {A : Around} {E : Value → Shared → Prop} {s : Shared}
/-- set(v): the fresh set, then what its __init__ does to it (at whatever depth) -/
theorem set_shell {v : Value} {Q : Value → Shared → Prop} {G : Shared → Prop} (hh : A.handled = none)
    (hi : ∀ A' : Around, A'.handled = none → ∀ s1 : Shared, s1 = { s with heap := s.heap.push (freshSet w) } →
      wpAny (model P w) A' (Builtin.«set.__init__» ⟨[.ref s.heap.objs.size, v], []⟩) (fun f s2 => f = .done (.ret .none) ∧ G s2) E s1)
    (h : ∀ s2, G s2 → Q (.ref s.heap.objs.size) s2) (hT : ∀ s2, G s2 → s2.TypeIs (.ref s.heap.objs.size) "set") :
    wpAny (model P w) A (call (.type "set") [v]) Q E s := by
  obtain ⟨c, tl, hmro⟩ := F.called_set.mro
  have hmade := F.called_set.made
  have hsub := F.called_set.sub
  refine wpAny_call (codeAny_of_tree ?_)
  show wpAny _ _ (callAny (.type "set") _) _ _ _
  refine wpAny_pure ⟨Code.quiet_builtin _ (by decide +kernel), codeAny_builtin F.entry_type_call ?_⟩
  rw [Around.under_plain (weight_type_call_type "set" [v] []) rfl]
  have n1 := F.called_set.notType
  have n2 := F.called_set.canCreate
  have n3 := F.typeCall_set_1 v
  repeat (any_goals (first | assumption | wp_step))
  refine codeAny_mono (code_set_led1 v (E := E) (Q₁ := fun obj t => obj = .ref s.heap.objs.size ∧ t = { s with heap := s.heap.push (freshSet w) }) ⟨rfl, rfl⟩) fun r s1 hr => ?_
  cases r with
  | error e => exact hr
  | ok fl =>
    cases fl with
    | ret obj =>
      obtain ⟨rfl, rfl⟩ := hr
      have hS : (s.heap.push (freshSet w)).get? s.heap.objs.size = some (freshSet w) := Heap.get?_push_size _ rfl
      have hT1 : Shared.TypeIs { s with heap := s.heap.push (freshSet w) } (.ref s.heap.objs.size) "set" := ⟨_, hS, rfl⟩
      have hl1 := F.called_set.init.lookup
      have hb1 := F.called_set.init.bind (.ref s.heap.objs.size)
      repeat (any_goals (first | assumption | wp_step))
      refine codeAny_mono (codeAny_call_builtin (R := wants (fun r s2 => r = .none ∧ G s2) E) F.called_set.init.plain F.entry_set_init (check_set_init_1 hT1 ?_)) fun r2 s2 hr2 => ?_
      · refine wpAny_mono (hi _ (by simp [hh]) _ rfl) (fun f s2 hf => ?_) fun _ _ z => z
        obtain ⟨rfl, g⟩ := hf
        exact ⟨rfl, g⟩
      · cases r2 with
        | error e => exact hr2
        | ok fl2 =>
          cases fl2 with
          | ret r =>
            obtain ⟨rfl, g⟩ := hr2
            have hT2 := hT s2 g
            repeat (any_goals (first | assumption | wp_step))
            exact h s2 g
          | _ => exact hr2.elim
    | _ => exact hr.elim
/-- what stands behind set(..) of ints -/
def SetMade (w : World) (ns : List Int) (s s2 : Shared) : Prop :=
  ∃ (h' : Heap) (tk c : Nat), s2 = { s with heap := h', toks := tk } ∧ SetR w h' s.heap.objs.size (fun j => decide (j ∈ ns)) c ∧ ∀ b o, s.heap.get? b = some o → h'.get? b = some o
theorem SetMade.type {w : World} {ns : List Int} {s s2 : Shared} (g : SetMade w ns s s2) : s2.TypeIs (.ref s.heap.objs.size) "set" := by
  obtain ⟨h', tk, c, rfl, ⟨o, es, ep, t, ho, hex, _⟩, _⟩ := g
  exact ⟨o, ho, hex.1⟩
set_option hygiene false in
local macro_rules | `(tactic| walk_at "set init ints") => `(tactic| (
  have hdS : items.size = ns.length := by
    have q := IntsAre.length hit
    rw [Array.length_toList] at q
    exact q
  have hlt : l < s.heap.objs.size := Heap.lt_size hol
  have hlne : l ≠ (s.heap.push (freshSet w)).objs.size := by
    rw [Heap.size_push]
    exact Nat.ne_of_lt (Nat.lt_succ_of_lt hlt)
  have hnin : s.heap.objs.size ∉ [(s.heap.push (freshSet w)).objs.size, l] := by
    rw [Heap.size_push]
    simp only [List.mem_cons, List.mem_singleton, List.not_mem_nil, or_false, not_or]
    exact ⟨Nat.ne_of_lt (Nat.lt_succ_self _), Nat.ne_of_gt hlt⟩
  have hvals : ∀ (i : Nat) (v : Value), items[i]? = some v → ∃ k t, ns[i]? = some k ∧ v = .int k t := fun i v hv => by
    have hin : i < ns.length := by rw [← hdS]; exact (Array.getElem?_eq_some_iff.mp hv).1
    obtain ⟨t, e⟩ := PyProof.Rows.IntsAre.int_at hit i v (by rw [Array.getElem?_toList]; exact hv)
    exact ⟨ns[i], t, List.getElem?_eq_getElem hin, by rw [e, List.getD_eq_getElem?_getD, List.getElem?_eq_getElem hin] <;> rfl⟩))
theorem init_list {l : Addr} {items : Array Value} {ns : List Int} (hl : s.heap.IsList l items) (hit : IntsAre items.toList ns) (hb : ns.length + 1 < scanBound) (hh : A.handled = none) :
    wpAny (model P w) A (Builtin.«set.__init__» ⟨[.ref s.heap.objs.size, .ref l], []⟩) (fun f s2 => f = .done (.ret .none) ∧ SetMade w ns s s2) E { s with heap := s.heap.push (freshSet w) } := by
  obtain ⟨ol, hol, hcl, nl, hdl⟩ := hl
  obtain ⟨c0, d0, t0, o0⟩ := ol
  simp only at hcl hdl
  subst hcl hdl
  walk_at "set init ints"
  have hS : (s.heap.push (freshSet w)).get? s.heap.objs.size = some (freshSet w) := Heap.get?_push_size _ rfl
  have hol' : (s.heap.push (freshSet w)).get? l = some { cls := .type "list", dict := d0, data := .seq items nl, slots := o0 } := Heap.get?_push_of_some _ hol
  have u1 := F.sub_list_set
  have u2 := F.sub_list_frozenset
  have u3 : (Value.type "list" == Value.type "dict") = false := by decide
  have hl1 : (s.heap.push (freshSet w)).IsList l items := ⟨_, hol', rfl, nl, rfl⟩
  unfold Builtin.«set.__init__» noKeywords Builtin.Frozenset.updateFrom
  generalize hPI : pyIter = PI
  wp_walk
  subst hPI
  refine wpAny_pyIter_list hl1 (wpAny_bind (wpAny_runValue ?_))
  refine set_update_ints ((Walks.list (by simp [hh]) _ l hlne items).toS) s.heap.objs.size hnin ns hdS hb hvals (items.size - 0) 0 _ (by omega) (Nat.zero_le _) ⟨⟨_, Heap.get?_push_size _ rfl, rfl, rfl⟩, hl1.push _⟩ ?_ ?_
  · exact ⟨0, Nat.le_refl 0, setR_new_at (Heap.get?_push_of_some _ hS)⟩
  · intro s' c' hm hc' hS'
    obtain ⟨h', g2, d', tk', os'⟩ := s'
    obtain rfl : g2 = s.gens := hm.gens
    obtain rfl : d' = s.drawn := hm.drawn
    obtain rfl : os' = s.os := hm.os
    refine wpAny_pure (show wpAny _ _ (ret Value.none) _ _ _ from wpAny_pure ⟨rfl, h', tk', c', rfl, hS', fun b o e => ?_⟩)
    have hb0 : b < s.heap.objs.size := Heap.lt_size e
    have hb2 : b ≠ (s.heap.push (freshSet w)).objs.size := by
      rw [Heap.size_push]
      exact Nat.ne_of_lt (Nat.lt_succ_of_lt hb0)
    exact hm.heap b o (by simp only [List.mem_cons, List.mem_singleton, List.not_mem_nil, or_false, not_or]; exact ⟨Nat.ne_of_lt hb0, hb2⟩) (Heap.get?_push_of_some _ (Heap.get?_push_of_some _ e))
theorem init_tup {l : Addr} {items : Array Value} {ns : List Int} (hl : s.heap.IsTuple l items) (hit : IntsAre items.toList ns) (hb : ns.length + 1 < scanBound) (hh : A.handled = none) :
    wpAny (model P w) A (Builtin.«set.__init__» ⟨[.ref s.heap.objs.size, .ref l], []⟩) (fun f s2 => f = .done (.ret .none) ∧ SetMade w ns s s2) E { s with heap := s.heap.push (freshSet w) } := by
  obtain ⟨ol, hol, hcl, nl, hdl⟩ := hl
  obtain ⟨c0, d0, t0, o0⟩ := ol
  simp only at hcl hdl
  subst hcl hdl
  walk_at "set init ints"
  have hS : (s.heap.push (freshSet w)).get? s.heap.objs.size = some (freshSet w) := Heap.get?_push_size _ rfl
  have hol' : (s.heap.push (freshSet w)).get? l = some { cls := .type "tuple", dict := d0, data := .seq items nl, slots := o0 } := Heap.get?_push_of_some _ hol
  have u1 := F.sub_tuple_set
  have u2 := F.sub_tuple_frozenset
  have u3 : (Value.type "tuple" == Value.type "dict") = false := by decide
  have hl1 : (s.heap.push (freshSet w)).IsTuple l items := ⟨_, hol', rfl, nl, rfl⟩
  unfold Builtin.«set.__init__» noKeywords Builtin.Frozenset.updateFrom
  generalize hPI : pyIter = PI
  wp_walk
  subst hPI
  refine wpAny_pyIter_tuple hl1 (wpAny_bind (wpAny_runValue ?_))
  refine set_update_ints ((Walks.tuple (by simp [hh]) _ l hlne items).toS) s.heap.objs.size hnin ns hdS hb hvals (items.size - 0) 0 _ (by omega) (Nat.zero_le _) ⟨⟨_, Heap.get?_push_size _ rfl, rfl, rfl⟩, hl1.push _⟩ ?_ ?_
  · exact ⟨0, Nat.le_refl 0, setR_new_at (Heap.get?_push_of_some _ hS)⟩
  · intro s' c' hm hc' hS'
    obtain ⟨h', g2, d', tk', os'⟩ := s'
    obtain rfl : g2 = s.gens := hm.gens
    obtain rfl : d' = s.drawn := hm.drawn
    obtain rfl : os' = s.os := hm.os
    refine wpAny_pure (show wpAny _ _ (ret Value.none) _ _ _ from wpAny_pure ⟨rfl, h', tk', c', rfl, hS', fun b o e => ?_⟩)
    have hb0 : b < s.heap.objs.size := Heap.lt_size e
    have hb2 : b ≠ (s.heap.push (freshSet w)).objs.size := by
      rw [Heap.size_push]
      exact Nat.ne_of_lt (Nat.lt_succ_of_lt hb0)
    exact hm.heap b o (by simp only [List.mem_cons, List.mem_singleton, List.not_mem_nil, or_false, not_or]; exact ⟨Nat.ne_of_lt hb0, hb2⟩) (Heap.get?_push_of_some _ (Heap.get?_push_of_some _ e))
/-- what stands behind set(text): a set of so many texts -/
def TxMade (n : Nat) (s s2 : Shared) : Prop :=
  ∃ (h' : Heap) (tk : Nat) (D : PySem.Froz.SD), s2 = { s with heap := h', toks := tk } ∧ h'.get? s.heap.objs.size = some (PySem.Froz.sObj "set" D) ∧ D.1.size = n ∧ D.2.2.fits n = true ∧ ∀ b o, s.heap.get? b = some o → h'.get? b = some o
end
end K5
end
section
set_option maxRecDepth 100000
set_option maxHeartbeats 4000000
namespace K5
open PySem PySem.Spec PyProof.Rows L2
section
variable {P : Program} {w : World} {A : Around} {E : Value → Shared → Prop} {s : Shared}
theorem runD_ok : ∀ (cs : List Nat) (tk : Tok) (D : Froz.SD) (l : List Str), Froz.TxOk P w D l → ∃ l', Froz.TxOk P w (Froz.runD w cs tk D) l' ∧ l'.length = l.length + cs.length
  | [], _, D, l, F => ⟨l, F, rfl⟩
  | c :: r, tk, D, l, F => by
    obtain ⟨l', F', e⟩ := runD_ok r (tk + 2) _ _ (Froz.add_ok (k := Froz.sing c) tk F)
    exact ⟨l', F', by rw [e, List.length_cons, List.length_cons]; omega⟩
theorem init_txt {x : Str} {t : Tok} (ha : x.cps.all (· < 128) = true) (hd : x.cps.toList.Nodup) (hb : x.length + 1 < scanBound) (hh : A.handled = none) :
    wpAny (model P w) A (Builtin.«set.__init__» ⟨[.ref s.heap.objs.size, .str x t], []⟩) (fun f s2 => f = .done (.ret .none) ∧ TxMade x.length s s2) E { s with heap := s.heap.push (freshSet w) } := by
  have hS : (s.heap.push (freshSet w)).get? s.heap.objs.size = some (freshSet w) := Heap.get?_push_size _ rfl
  unfold Builtin.«set.__init__» noKeywords Builtin.Frozenset.updateFrom
  have u1 : isSubtype (.type "str") (.type "set") = pure false := by rw [isSubtype_type]; kernel_rfl
  have u2 : isSubtype (.type "str") (.type "frozenset") = pure false := by rw [isSubtype_type]; kernel_rfl
  have u3 : (Value.type "str" == Value.type "dict") = false := by decide
  generalize hPI : pyIter = PI
  wp_walk
  subst hPI
  refine wpAny_pyIter_ascii ha ?_
  refine wpAny_bind (wpAny_runValue ?_)
  have hz : (s.heap.push (freshSet w)).objs.size = s.heap.objs.size + 1 := Heap.size_push ..
  have hne : s.heap.objs.size ≠ (s.heap.push (freshSet w)).objs.size := by rw [hz]; exact Nat.ne_of_lt (Nat.lt_succ_self _)
  have F0 : Froz.TxOk P w (#[], 0, .fresh 0 0 (!w.params.followText "set-order")) [] := Froz.TxOk.nil rfl
  refine Froz.code_update (P := P) (T := "set") (x := x) (u := t) (D := (#[], 0, .fresh 0 0 (!w.params.followText "set-order"))) (l := []) hne (by simp [hh]) x.cps.toList 0 _ rfl (Heap.get?_push_of_some _ hS) ?_ F0 (fun c _ hm => by simp at hm) hd ?_ ?_
  · exact Heap.get?_push_size _ rfl
  · show 0 + x.cps.toList.length < scanBound
    have : x.cps.toList.length = x.length := by simp [Str.length]
    omega
  · obtain ⟨l', F1, e1⟩ := runD_ok (P := P) x.cps.toList s.toks _ _ F0
    refine wpAny_pure (show wpAny _ _ (ret Value.none) _ _ _ from wpAny_pure ⟨rfl, _, _, Froz.runD w x.cps.toList s.toks (#[], 0, .fresh 0 0 (!w.params.followText "set-order")), rfl, ?_, ?_, ?_, ?_⟩)
    · refine Heap.get?_push_of_some _ (Heap.get?_push_of_some _ ?_)
      unfold Froz.two
      exact PySem.Heap.get?_update_of_ne _ hne.symm (Froz.get_upd _ (Heap.get?_push_of_some _ hS) rfl)
    · rw [F1.sz, e1]
      simp [Str.length]
    · have q := F1.fit
      rw [F1.sz, e1] at q
      have e2 : ([] : List Str).length + x.cps.toList.length = x.length := by simp [Str.length]
      rw [e2] at q
      exact q
    · intro b o e
      have hb0 : b < s.heap.objs.size := Heap.lt_size e
      refine Heap.get?_push_of_some _ (Heap.get?_push_of_some _ ?_)
      unfold Froz.two
      refine PySem.Heap.get?_update_of_ne _ (by rw [hz]; exact Nat.ne_of_gt (Nat.lt_succ_of_lt hb0)) (PySem.Heap.get?_update_of_ne _ (Nat.ne_of_gt hb0) ?_)
      exact Heap.get?_push_of_some _ (Heap.get?_push_of_some _ e)
end
/-! ### over the layer -/
/-- a set of n texts at a -/
def TxO (a : Addr) (n : Nat) : HO := .ext fun h => ∃ D : Froz.SD, h.get? a = some (Froz.sObj "set" D) ∧ D.1.size = n ∧ D.2.2.fits n = true
section
variable {X : Cx}
theorem setR_keys {w : World} {h : Heap} {a : Addr} {S : Int → Bool} {n : Nat} (R : SetR w h a S n) : ∃ ks : List Int, ks.Nodup ∧ (∀ k, S k = true ↔ k ∈ ks) ∧ ks.length = n := by
  obtain ⟨o, es, ep, t, ho, hex, hd, g, nd, hm, hb, hf, hn, _⟩ := R
  exact ⟨es.toList.map keyOf, nd, hm, by rw [List.length_map, Array.length_toList]; exact hn⟩
theorem setR_mem {w : World} {h : Heap} {a : Addr} {ns : List Int} {c : Nat} (R : SetR w h a (fun j => decide (j ∈ ns)) c) :
    ∃ ks : List Int, ks.Nodup ∧ (∀ k, k ∈ ks ↔ k ∈ ns) ∧ SetR w h a (fun j => decide (j ∈ ks)) ks.length := by
  obtain ⟨ks, nd, hm, hl⟩ := setR_keys R
  have e : ∀ k, k ∈ ks ↔ k ∈ ns := fun k => by rw [← hm k, decide_eq_true_eq]
  refine ⟨ks, nd, e, ?_⟩
  rw [hl]
  refine SetR.congr R fun k => ?_
  rw [Bool.eq_iff_iff, decide_eq_true_eq, decide_eq_true_eq]
  exact e k
/-- set(xs), a list or a tuple of ints -/
def rSetOf (K : PySem.W.Frag) (w : World) : List V → Hp → VK → Prop := fun xs H Q => ∃ (l : Addr) (ns : List Int), xs = [V.ref l] ∧ (SqL K H l (ns.map V.int) ∨ SqT K H l (ns.map V.int)) ∧ ns.length ≤ 4000 ∧
  ∀ (ks : List Int) (p : Addr), ks.Nodup → (∀ k, k ∈ ks ↔ k ∈ ns) → H p = none → Q (.ref p) (upd H p (SetO w p (fun j => decide (j ∈ ks)) ks.length))
theorem cr_setOf (hc : X.calm = true) : CallR X (.type "set") (rSetOf X.K X.w) := by
  intro pins s σ H xs us Q I r h
  obtain ⟨l, ns, rfl, hq, hz, q⟩ := h
  rw [Vals.ref1 r]
  have hb : ns.length + 1 < scanBound := by unfold scanBound; omega
  have fin : ∀ s2 : Shared, SetMade X.w ns s s2 → EP X pins σ Q (.ref s.heap.objs.size) s2 := fun s2 g => by
    obtain ⟨h', tk, c, rfl, R, kp⟩ := g
    obtain ⟨ks, nd, hm, R2⟩ := setR_mem R
    exact ⟨.ref s.heap.objs.size, _, I.laid (t' := tk) kp (Nat.le_refl _) (setO_new R2), rfl, q ks _ nd hm (I.hok.fresh (Nat.le_refl _))⟩
  rcases hq with hq | hq
  · obtain ⟨its, rv, p, _⟩ := I.list hq
    exact set_shell (I.ok.hd hc) (fun A' hh s1 e => by subst e; exact init_list p.isList (by simpa using intsAre_of rv) hb hh) fin fun s2 g => g.type
  · obtain ⟨its, rv, p, _⟩ := I.tuple hq
    exact set_shell (I.ok.hd hc) (fun A' hh s1 e => by subst e; exact init_tup p (by simpa using intsAre_of rv) hb hh) fin fun s2 g => g.type
/-- set(text), its signs plain and unlike -/
def rSetTx : List V → Hp → VK → Prop := fun xs H Q => ∃ x : Str, xs = [V.str x] ∧ x.cps.all (· < 128) = true ∧ x.cps.toList.Nodup ∧ x.length ≤ 4000 ∧ ∀ p, H p = none → Q (.ref p) (upd H p (TxO p x.length))
theorem cr_setTx (hc : X.calm = true) : CallR X (.type "set") rSetTx := by
  intro pins s σ H xs us Q I r h
  obtain ⟨x, rfl, ha, hd, hz, q⟩ := h
  obtain ⟨u, rfl, t, rfl⟩ := vals1 r
  have hb : x.length + 1 < scanBound := by unfold scanBound; omega
  refine set_shell (G := TxMade x.length s) (I.ok.hd hc) (fun A' hh s1 e => by subst e; exact init_txt ha hd hb hh) (fun s2 g => ?_) fun s2 g => ?_
  · obtain ⟨h', tk, D, rfl, ho, hn, hf, kp⟩ := g
    have new : ObjOk X.prog X.w (upd H s.heap.objs.size (TxO s.heap.objs.size x.length)) h' s.heap.objs.size (TxO s.heap.objs.size x.length) :=
      ⟨⟨D, ho, hn, hf⟩, ⟨_, ho⟩, fun h1 h2 p k => let ⟨D', a, b, c⟩ := p; ⟨D', k _ a, b, c⟩⟩
    exact ⟨.ref s.heap.objs.size, _, I.laid (t' := tk) kp (Nat.le_refl _) new, rfl, q _ (I.hok.fresh (Nat.le_refl _))⟩
  · obtain ⟨h', tk, D, rfl, ho, _⟩ := g
    exact ⟨_, ho, rfl⟩
/-- len of such sets -/
def rLenSet (w : World) : List V → Hp → VK → Prop := fun xs H Q => ∃ (a : Addr) (n : Nat), xs = [V.ref a] ∧ n ≤ 4000 ∧ ((∃ S, H a = some (SetO w a S n)) ∨ H a = some (TxO a n)) ∧ Q (.int n) H
theorem call_lenSet : CallR X (.builtin "len") (rLenSet X.w) := by
  intro pins s σ H xs us Q I r h
  obtain ⟨a, n, rfl, hn, ha, q⟩ := h
  rw [Vals.ref1 r]
  rcases ha with ⟨S, ha⟩ | ha
  · obtain ⟨o, es, ep, t, ho, hex, hd, _, _, _, _, hf, en, _⟩ := setO_get I ha
    exact call_len_set ho hex hd hf (by rw [en]; omega) ⟨.int n, H, I.tok _, ⟨_, by rw [en]⟩, q⟩
  · obtain ⟨⟨D, ho, en, hf⟩, _⟩ := (show ObjOk X.prog X.w H s.heap a (TxO a n) from I.hok a _ ha)
    exact call_len_set ho ⟨rfl, rfl, rfl⟩ rfl (by rw [en]; exact hf) (by rw [en]; omega) ⟨.int n, H, I.tok _, ⟨_, by rw [en]⟩, q⟩
end
end K5
end
section
set_option maxRecDepth 100000
set_option maxHeartbeats 2000000
/-! own rules: enumerate of a tuple, of a text -/
namespace K5
open PySem PySem.Spec PyProof.Rows L2
section
variable {P : Program} {w : World} {A : Around} {E : Value → Shared → Prop} {s : Shared}
theorem enum_newT (l : Addr) (items : Array Value) (n : Nat) (dct : Option Addr) (sl : Array (Option Value)) :
    Meets (Builtin.«enumerate.__new__» ⟨[.type "enumerate", .ref l], []⟩) (fun _ R s => s.heap.get? l = some { cls := .type "tuple", dict := dct, data := .seq items n, slots := sl } ∧
      R (.ok (.ret (.ref (s.heap.push { cls := .type "tuple_iterator", data := .fields #[.ref l, .int 0 0] }).objs.size)))
        { s with heap := (s.heap.push { cls := .type "tuple_iterator", data := .fields #[.ref l, .int 0 0] }).push { cls := .type "enumerate", data := .fields #[.none, .bool false, .ref s.heap.objs.size, rawInt 0, .none, .none] } }) :=
  .of_wp fun prog w A R s h => by
    obtain ⟨hp, g, d, tk, os⟩ := s; obtain ⟨hl, h⟩ := h
    have hsub := sub_enumerate
    have hL : Heap.IsTuple (Shared.heap ⟨hp, g, d, tk, os⟩) l items := ⟨_, hl, rfl, n, rfl⟩
    wp_walk using AutoSeq1.wpAny_loadPart' hl
    refine wpAny_stack_any fun st => wpAny_pure ?_
    split
    · rename_i c _ _ _ _ _
      cases (c == Value.type "enumerate")
      · wp_walk using AutoSeq1.wpAny_loadPart' hl, wpAny_pyIter_tuple hL
        exact ⟨_, rfl, h⟩
      · wp_walk using AutoSeq1.wpAny_loadPart' hl, wpAny_pyIter_tuple hL
        exact ⟨_, rfl, h⟩
    · wp_walk using AutoSeq1.wpAny_loadPart' hl, wpAny_pyIter_tuple hL
      exact ⟨_, rfl, h⟩
theorem call_enumT {l : Addr} {items : Array Value} {Q : Value → Shared → Prop} (hL : s.heap.IsTuple l items)
    (h : ∀ h', IsEnum h' (s.heap.objs.size + 1) s.heap.objs.size 0 .none → h'.IsTupleIter s.heap.objs.size l 0 →
      (∀ b o, s.heap.get? b = some o → h'.get? b = some o) → Q (.ref (s.heap.objs.size + 1)) { s with heap := h' }) :
    wpAny (model P w) A (call (.type "enumerate") [.ref l]) Q E s := by
  obtain ⟨⟨c, dct, dt, sl⟩, hl, hc, n, hd⟩ := hL
  replace hc : c = .type "tuple" := hc
  replace hd : dt = .seq items n := hd
  subst hc hd
  refine callType_new F.called_enumerate (by decide) (F.typeCall_enumerate_1 _) (F.newCall_enumerate_1 _) (fun obj => F.args_object_init_2 obj _) F.entry_enumerate_new
    (enum_newT l items n dct sl) ⟨hl, ?_⟩
  have hz : (s.heap.push { cls := .type "tuple_iterator", data := .fields #[.ref l, .int 0 0] }).objs.size = s.heap.objs.size + 1 := Heap.size_push ..
  show _ ∧ _
  rw [hz]
  have he : IsEnum ((s.heap.push { cls := .type "tuple_iterator", data := .fields #[.ref l, .int 0 0] }).push
      { cls := .type "enumerate", data := .fields #[.none, .bool false, .ref s.heap.objs.size, rawInt 0, .none, .none] }) (s.heap.objs.size + 1) s.heap.objs.size 0 .none := by
    have := Heap.get?_push_size (s.heap.push { cls := .type "tuple_iterator", data := .fields #[.ref l, .int 0 0] })
      (o := { cls := .type "enumerate", data := .fields #[.none, .bool false, .ref s.heap.objs.size, rawInt 0, .none, .none] }) rfl
    rw [hz] at this; exact this
  refine ⟨⟨_, he, rfl⟩, h _ he ⟨_, Heap.get?_push_of_some _ (Heap.get?_push_size _ rfl), rfl, rfl⟩ fun b o x => Heap.get?_push_of_some _ (Heap.get?_push_of_some _ x)⟩
end
/-- n turns, each a new pair of the count and a thing that f tells -/
def ItE (n : Nat) (G : Hp → Prop) (f : Nat → V → Prop) : It :=
  ⟨fun i H => i < n ∧ G H, fun i H v H' => ∃ T x, v = .ref T ∧ H T = none ∧ H' = upd H T (.tup [.int (i : Nat), x]) ∧ f i x, fun i H => i = n ∧ G H⟩
theorem walk_enumE {n : Nat} {G : Hp → Prop} {f : Nat → V → Prop} : Walk (ItE n G f) n G (fun i H v H' => ∃ T x, v = .ref T ∧ H T = none ∧ H' = upd H T (.tup [.int (i : Nat), x]) ∧ f i x) :=
  ⟨fun _ _ hi g => ⟨hi, g⟩, fun _ g => ⟨rfl, g⟩, fun _ _ _ _ _ _ y => y⟩
/-- the turn of an enumerate whose inner iterator draws -/
theorem turn_enumE {P : Program} {w : World} {K : PySem.W.Frag} {elts : List Expr} {kk : Nat} {tpos : Pos} {e it : Addr} {n : Nat} {G : Hp → Prop} {f : Nat → V → Prop} {tn : Nat → Heap → Prop}
    (hne : e ≠ it)
    (hob : ∀ i h, tn i h → ∃ o, h.get? it = some o ∧ ∀ v, o.data ≠ .cell v) (hkeep : ∀ i h h', tn i h → (∀ o, h.get? it = some o → h'.get? it = some o) → tn i h')
    (hst : ∀ (X : Cx) pins σ H s i old, X.prog = P → X.w = w → X.K = K → Inv X pins σ H s → G H → tn i s.heap → IsEnum s.heap e it ((i : Nat) : Int) old → ∃ (fp : List Addr) (St : Nat → Heap → Prop) (Pv : Nat → Value → Prop),
      (∀ A : Around, A.handled = none → Draws P w A it fp n Pv St) ∧ e ∉ fp ∧ St i s.heap ∧ (∀ h', St (i + 1) h' → tn (i + 1) h') ∧ ∀ u, Pv i u → ∃ x, RelV x u ∧ f i x) :
    Turn P w K (.Tuple elts kk tpos) (ItE n G f) [e, it] e (fun i h => (∃ old, IsEnum h e it ((i : Nat) : Int) old) ∧ tn i h) where
  mem := by simp
  obj := fun i h st b hb => by
    obtain ⟨⟨old, he⟩, ht⟩ := st
    have e' : b = e ∨ b = it := by simpa using hb
    rcases e' with z | z
    · rw [z]; exact ⟨_, he, fun v q => nomatch q⟩
    · rw [z]; exact hob i h ht
  keep := fun i h h' st k => let ⟨⟨old, he⟩, ht⟩ := st; ⟨⟨old, k e (by simp) _ he⟩, hkeep i h h' ht fun o q => k it (by simp) o q⟩
  item := by
    intro X hP hw hK hc i pins s σ H E I hf st hg
    obtain ⟨⟨old, he⟩, ht⟩ := st
    obtain ⟨hi, hG⟩ := hg
    obtain ⟨fp, St, Pv, D, hef, S, hts, val⟩ := hst X pins σ H s i old hP hw hK I hG ht he
    have hel : e < s.heap.objs.size := Heap.lt_size he
    have hil : it < s.heap.objs.size := by obtain ⟨_, q, _⟩ := hob i _ ht; exact Heap.lt_size q
    subst hP hw hK
    refine wpAny_pyNext_enum_itemD (D X.A.in1 (I.ok.hd hc)) he S hi hne hef fun u h' tk hp ho S' hT hsz hk => ?_
    obtain ⟨x, ru, fx⟩ := val u hp
    refine ⟨_, rfl, wpAny_letOwnedTupleGo_enum (s := { s with heap := h', toks := tk + 1 }) ho fun h'' he' sb => ?_⟩
    have hT2 : h''.get? s.heap.objs.size = some { cls := .type "tuple", data := .seq #[.int i tk, u] } := (sb.2 _ (Nat.ne_of_gt hel)).trans hT
    have new : ObjOk X.prog X.w (upd H s.heap.objs.size (.tup [.int (i : Nat), x])) h'' s.heap.objs.size (.tup [.int (i : Nat), x]) :=
      ⟨by show 2 ≤ sizeLine; decide, [.int i tk, u], .cons ⟨_, rfl⟩ (.cons ru .nil), ⟨_, hT2, rfl, _, rfl⟩⟩
    have I1 : Inv X pins σ (upd H s.heap.objs.size (.tup [.int (i : Nat), x])) { s with heap := h'', toks := tk + 1 } :=
      I.turnedNew (ch := [e, it]) (fun b ob hb q => (sb.2 b (fun z => hb (by simp [z]))).trans (hk b ob (fun z => hb (by simp [z])) (fun z => hb (by simp [z])) q)) hf (Nat.le_refl _) new
    refine ⟨.ref s.heap.objs.size, _, I1, rfl, ⟨_, x, rfl, I.hok.fresh (Nat.le_refl _), rfl, fx⟩, ⟨⟨u, ?_⟩, hkeep _ _ _ (hts _ S') fun o q => (sb.2 it (Ne.symm hne)).trans q⟩, fun b hb => ?_⟩
    · have e1 : ((i + 1 : Nat) : Int) = (i : Int) + 1 := by omega
      rw [e1]; exact he'
    · have hb' : b < s.heap.objs.size := by
        have e' : b = e ∨ b = it := by simpa using hb
        rcases e' with z | z
        · rw [z]; exact hel
        · rw [z]; exact hil
      rw [upd_ne (Nat.ne_of_lt hb')]
      exact (hf b hb).1
  done := by
    intro X hP hw hK hc i pins s σ H E I hf st hg
    obtain ⟨⟨old, he⟩, ht⟩ := st
    obtain ⟨rfl, hG⟩ := hg
    obtain ⟨fp, St, Pv, D, hef, S, hts, val⟩ := hst X pins σ H s i old hP hw hK I hG ht he
    subst hP hw hK
    obtain ⟨f0, f1, f2, f3, f4, f5⟩ := hf it (by simp)
    exact wpAny_pyNext_enum_endD (D X.A.in1 (I.ok.hd hc)) he S fun h' eb => ⟨rfl, I.turned (t' := s.toks) (fun b o hb q => eb b o hb q) f0 f1 f3 f4 f5⟩
  self := fun A i s Q E st h => let ⟨⟨_, he⟩, _⟩ := st; wpAny_pyIter_enum he h
/-- enumerate of a tuple -/
def iEnumT (K : PySem.W.Frag) (ta : TA) : TI := fun σ H R => ta σ H fun vs H1 => ∃ a xs, vs = [.ref a] ∧ SqT K H1 a xs ∧ R (ItE xs.length (fun H => SqT K H a xs) fun i x => xs[i]? = some x) H1
theorem pi_enumT {X : Cx} {e : Expr} {ta : TA} {p pos tpos : Pos} {elts : List Expr} {kk : Nat} (hg : Gl X "enumerate") (hm : X.mg "enumerate" = none) (ha : PA X [e] ta) (hs : starEach [e] X.env = [(false, eval e X.env)] := by rfl) :
    PI X (.Tuple elts kk tpos) (.Call (.Name "enumerate" p) [e] [] pos) (iEnumT X.K ta) := by
  refine ⟨fun pins s σ H R I h => ?_⟩
  refine Call_ (ld_blt I hg hm boot_enumerate (PyProof.Rows.callWith_type1 (thn (ha.run pos pins s σ H _ I h) fun us s1 ⟨vs, H1, I1, r1, q1⟩ => ?_) hs rfl))
  obtain ⟨a, xs, ex, hq, q⟩ := q1
  subst ex
  rw [Vals.ref1 r1]
  obtain ⟨its, rv, p', hz⟩ := I1.tuple hq
  have hal : a < s1.heap.objs.size := by obtain ⟨o, ho, _⟩ := p'; exact Heap.lt_size ho
  refine call_enumT (show s1.heap.IsTuple a its.toArray from p') fun h' he hit hk => wpAny_pyIter_enum he ?_
  have I2 : Inv X pins σ H1 { s1 with heap := h' } := I1.kept (t' := s1.toks) hk
  have hai : a ≠ s1.heap.objs.size := Nat.ne_of_lt hal
  have T : Turn X.prog X.w X.K (.Tuple elts kk tpos) (ItE xs.length (fun H => SqT X.K H a xs) fun i x => xs[i]? = some x) [s1.heap.objs.size + 1, s1.heap.objs.size] (s1.heap.objs.size + 1)
      (fun i h => (∃ old, IsEnum h (s1.heap.objs.size + 1) s1.heap.objs.size ((i : Nat) : Int) old) ∧ h.IsTupleIter s1.heap.objs.size a i) := by
    refine turn_enumE (Nat.succ_ne_self _) ?_ ?_ ?_
    · rintro i h ⟨o, ho, _, hd⟩
      exact ⟨o, ho, fun v q => by rw [hd] at q; cases q⟩
    · intro i h h1 t k
      exact t.at fun o q => k o q
    · intro X' pins' σ' H' s' i old hP hw hK I' g t he'
      rw [← hK] at g
      obtain ⟨its', rv', p2, _⟩ := I'.tuple g
      refine ⟨[s1.heap.objs.size, a], fun i h => h.IsTupleIter s1.heap.objs.size a i ∧ h.IsTuple a its'.toArray, fun i v => its'.toArray[i]? = some v, fun A hh => ?_, ?_, ⟨t, p2⟩, fun h' q => q.1, fun u hu => ?_⟩
      · have lz : its'.toArray.size = xs.length := by rw [List.size_toArray, ← rv'.length]
        have D := Draws.tuple (prog := X.prog) (w := X.w) hh s1.heap.objs.size a hai its'.toArray
        rw [lz] at D
        exact D
      · intro hb
        have e' : s1.heap.objs.size + 1 = s1.heap.objs.size ∨ s1.heap.objs.size + 1 = a := by simpa using hb
        rcases e' with z | z
        · exact Nat.succ_ne_self _ z
        · exact absurd (z ▸ hal) (Nat.not_lt.mpr (Nat.le_succ _))
      · by_cases hi : i < xs.length
        · obtain ⟨u', hu', ru⟩ := rv'.get (List.getElem?_eq_getElem hi)
          have hu2 : its'[i]? = some u := by simpa using hu
          rw [hu'] at hu2
          cases hu2
          exact ⟨xs[i], ru, List.getElem?_eq_getElem hi⟩
        · have hu2 : its'[i]? = some u := by simpa using hu
          rw [rv'.none_of (List.getElem?_eq_none_iff.mpr (Nat.le_of_not_lt hi))] at hu2
          cases hu2
  refine ⟨s1.heap.objs.size + 1, [s1.heap.objs.size + 1, s1.heap.objs.size], _, _, H1, rfl, I2, T, ⟨⟨.none, he⟩, hit⟩, fun b hb => ?_, q⟩
  have e' : b = s1.heap.objs.size + 1 ∨ b = s1.heap.objs.size := by simpa using hb
  have hle : s1.heap.objs.size ≤ b := by
    rcases e' with z | z
    · rw [z]; exact Nat.le_add_right _ _
    · rw [z]; exact Nat.le_refl _
  exact I1.fpOk hle (I1.hok.fresh hle)
/-- enumerate of a text -/
def iEnumS (ta : TA) : TI := fun σ H R => ta σ H fun vs H1 => ∃ z : Str, vs = [.str z] ∧ R (ItE z.cps.size (fun _ => True) fun i x => ∃ c, z.cps[i]? = some c ∧ x = .str ⟨#[c]⟩) H1
theorem pi_enumS {X : Cx} {e : Expr} {ta : TA} {p pos tpos : Pos} {elts : List Expr} {kk : Nat} (hg : Gl X "enumerate") (hm : X.mg "enumerate" = none) (ha : PA X [e] ta) (hs : starEach [e] X.env = [(false, eval e X.env)] := by rfl) :
    PI X (.Tuple elts kk tpos) (.Call (.Name "enumerate" p) [e] [] pos) (iEnumS ta) := by
  refine ⟨fun pins s σ H R I h => ?_⟩
  refine Call_ (ld_blt I hg hm boot_enumerate (PyProof.Rows.callWith_type1 (thn (ha.run pos pins s σ H _ I h) fun us s1 ⟨vs, H1, I1, r1, q1⟩ => ?_) hs rfl))
  obtain ⟨z, ex, q⟩ := q1
  subst ex
  obtain ⟨u, rfl, t, rfl⟩ := vals1 r1
  refine call_enumerate_str fun h' he hit hsz hk => wpAny_pyIter_enum he ?_
  have I2 : Inv X pins σ H1 { s1 with heap := h' } := I1.kept (t' := s1.toks) hk
  have T : Turn X.prog X.w X.K (.Tuple elts kk tpos) (ItE z.cps.size (fun _ => True) fun i x => ∃ c, z.cps[i]? = some c ∧ x = .str ⟨#[c]⟩) [s1.heap.objs.size + 1, s1.heap.objs.size] (s1.heap.objs.size + 1)
      (fun i h => (∃ old, IsEnum h (s1.heap.objs.size + 1) s1.heap.objs.size ((i : Nat) : Int) old) ∧ h.IsStrIter s1.heap.objs.size (strIterType z) z t i) := by
    refine turn_enumE (Nat.succ_ne_self _) ?_ ?_ ?_
    · rintro i h ⟨o, ho, _, hd⟩
      exact ⟨o, ho, fun v q => by rw [hd] at q; cases q⟩
    · rintro i h h1 ⟨o, ho, hc, hd⟩ k
      exact ⟨o, k o ho, hc, hd⟩
    · intro X' pins' σ' H' s' i old hP hw hK I' g t' he'
      refine ⟨[s1.heap.objs.size], _, _, fun A hh => Draws.text hh s1.heap.objs.size z t, ?_, t', fun h' q => q, fun u hu => ?_⟩
      · intro hb
        have e' : s1.heap.objs.size + 1 = s1.heap.objs.size := by simpa using hb
        omega
      · obtain ⟨c, k, hc, rfl⟩ := hu
        exact ⟨.str ⟨#[c]⟩, ⟨k, rfl⟩, c, hc, rfl⟩
  refine ⟨s1.heap.objs.size + 1, [s1.heap.objs.size + 1, s1.heap.objs.size], _, _, H1, rfl, I2, T, ⟨⟨.none, he⟩, hit⟩, fun b hb => ?_, q⟩
  have e' : b = s1.heap.objs.size + 1 ∨ b = s1.heap.objs.size := by simpa using hb
  have hle : s1.heap.objs.size ≤ b := by
    rcases e' with z | z
    · rw [z]; exact Nat.le_add_right _ _
    · rw [z]; exact Nat.le_refl _
  exact I1.fpOk hle (I1.hok.fresh hle)
end K5
end
section
set_option maxRecDepth 100000
set_option maxHeartbeats 2000000
/-! own rules: zip of two tuples of one length, the pair by one name; zip with strict -/
namespace K5
open PySem PySem.Spec PyProof.Rows L2
theorem wpAny_alive {M : Model} {A : Around} {E : Value → Shared → Prop} {s : Shared} {a : Addr} {Q : Option Obj → Shared → Prop} (h : Q (s.heap.get? a) s) : wpAny M A (loadIfAlive a) Q E s := fun Γ p _ => by
  unfold loadIfAlive
  rw [Sem.wp_loadIfAlive, Sem.wp_pure]
  exact h
/-- a zip's record -/
abbrev ZipR (h : Heap) (z TI TO : Addr) (f0 : Value) (f1 st : Bool) : Prop :=
  h.get? z = some { cls := .type "zip", dict := none, data := .fields #[f0, .bool f1, .bool st, .ref TI, .ref TO], slots := #[] }
def F0 (f0 : Value) : Prop := f0 = .none ∨ ∃ a t, f0 = .int a t
section
variable {prog : Program} {w : World} {A : Around} {E : Value → Shared → Prop} {s : Shared}
theorem zipN_item {z TI TO i1 i2 l1 l2 : Addr} {k1 k2 : Nat} {xs ys : Array Value} {x y a b f0 : Value} {f1 : Bool} {Q : Value → Shared → Prop} (D : ZipApart z TI TO i1 i2 l1 l2)
    (hz : ZipR s.heap z TI TO f0 f1 false) (hf0 : F0 f0) (hTI : IsPair s.heap TI (.ref i1) (.ref i2)) (hTO : IsPair s.heap TO a b)
    (h1 : s.heap.IsTupleIter i1 l1 k1) (h2 : s.heap.IsTupleIter i2 l2 k2) (hl1 : s.heap.IsTuple l1 xs) (hl2 : s.heap.IsTuple l2 ys) (hx : xs[k1]? = some x) (hy : ys[k2]? = some y)
    (hQ : ∀ h' f0' f1' a' b', ZipR h' z TI TO f0' f1' false → F0 f0' → IsPair h' TO a' b' → h'.IsTupleIter i1 l1 (k1 + 1) → h'.IsTupleIter i2 l2 (k2 + 1) → IsPair h' s.heap.objs.size x y → h'.objs.size = s.heap.objs.size + 1 →
      (∀ c o, c ≠ z → c ≠ TO → c ≠ i1 → c ≠ i2 → s.heap.get? c = some o → h'.get? c = some o) → Q (.ref s.heap.objs.size) { s with heap := h' }) :
    wpAny (model prog w) A (Builtin.«zip.__next__» ⟨[.ref z], []⟩) (fun fin s' => ∃ v, fin = .done (.ret v) ∧ Q v s') E s := by
  show wpAny _ _ (field (.ref z) 2 >>= _) _ _ _
  refine wpAny_bind (wpAny_field hz rfl (x := .bool false) rfl ?_)
  show wpAny _ _ (field (.ref z) 3 >>= _) _ _ _
  refine wpAny_bind (wpAny_field hz rfl (x := .ref TI) rfl ?_)
  refine wpAny_bind (wpAny_seqItems hTI rfl ?_)
  show wpAny _ _ (Builtin.SmallTypes.ownedTupleIsFree (.ref z) >>= _) _ _ _
  refine wpAny_bind ?_
  unfold Builtin.SmallTypes.ownedTupleIsFree
  refine wpAny_bind (wpAny_field hz rfl (x := f0) rfl ?_)
  refine wpAny_mono (Q := fun r s' => r = true ∧ s' = s ∨ r = false ∧ (∃ a t, f0 = .int a t) ∧ ∃ h', s' = { s with heap := h' } ∧ ZipR h' z TI TO f0 true false ∧ Heap.SameBut z s.heap h') ?_ (fun r s' hr => ?_) fun _ _ x => x
  · rcases hf0 with rfl | ⟨n, t, rfl⟩
    · exact wpAny_pure (.inl ⟨rfl, rfl⟩)
    · refine wpAny_bind (wpAny_alive ?_)
      cases hg : s.heap.get? n.toNat with
      | none => exact wpAny_pure (.inl ⟨rfl, rfl⟩)
      | some o =>
        refine wpAny_bind (wpAny_field hz rfl (x := .bool f1) rfl ?_)
        cases f1 with
        | false =>
          refine wpAny_bind (wpAny_setField_rec hz (by simp) fun h' hz' hs' => wpAny_pure ?_)
          exact .inr ⟨rfl, ⟨n, t, rfl⟩, h', rfl, hz', hs'⟩
        | true => exact wpAny_pure (.inr ⟨rfl, ⟨n, t, rfl⟩, s.heap, rfl, hz, rfl, fun _ _ => rfl⟩)
  · rcases hr with ⟨rfl, e0⟩ | ⟨rfl, hf0', h0, rfl, hz0, hs0⟩
    · rw [e0]
      simp only [if_true]
      refine wpAny_bind (wpAny_rule ?_)
      refine wpAny_bind (wpAny_field hz rfl (x := .ref TO) rfl ?_)
      refine wpAny_bind (wpAny_setField_rec hz (by simp) fun h₁ hz₁ hs₁ => ?_)
      replace hz₁ : ZipR h₁ z TI TO .ellipsis f1 false := hz₁
      refine wpAny_bind ?_
      simp only [List.zipIdx_cons, List.zipIdx_nil, List.forIn_cons, List.forIn_nil]
      refine wpAny_bind (wpAny_bind (wpAny_onRaise ?_))
      show wpAny _ _ (Builtin.SmallTypes.nextOf (.ref i1) >>= _) _ _ _
      refine wpAny_bind (RZ.nextOf_tuple_item (h1.extBut hs₁.extBut D.i1z) (hl1.extBut hs₁.extBut D.l1z) hx fun h₂ h1₂ hs₂ => wpAny_pure ?_)
      have hTO₂ : IsPair h₂ TO a b := hs₂.extBut _ _ D.TOi1 (hs₁.extBut _ _ D.TOz hTO)
      refine wpAny_bind (wpAny_seqItems hTO₂ rfl ?_)
      refine wpAny_bind (wpAny_updateSeq_pair hTO₂ fun h₃ hTO₃ hs₃ => ?_)
      replace hTO₃ : IsPair h₃ TO x b := hTO₃
      refine wpAny_bind (wpAny_letGo (wpAny_pure ?_))
      refine wpAny_bind (wpAny_bind (wpAny_onRaise ?_))
      show wpAny _ _ (Builtin.SmallTypes.nextOf (.ref i2) >>= _) _ _ _
      refine wpAny_bind (RZ.nextOf_tuple_item (((h2.extBut hs₁.extBut D.i2z).extBut hs₂.extBut D.i12.symm).extBut hs₃.extBut D.TOi2.symm)
        (((hl2.extBut hs₁.extBut D.l2z).extBut hs₂.extBut D.l2i1).extBut hs₃.extBut D.l2TO) hy fun h₄ h2₄ hs₄ => wpAny_pure ?_)
      have hTO₄ : IsPair h₄ TO x b := hs₄.extBut _ _ D.TOi2 hTO₃
      refine wpAny_bind (wpAny_seqItems hTO₄ rfl ?_)
      refine wpAny_bind (wpAny_updateSeq_pair hTO₄ fun h₅ hTO₅ hs₅ => ?_)
      replace hTO₅ : IsPair h₅ TO x y := hTO₅
      refine wpAny_bind (wpAny_letGo (wpAny_pure (wpAny_pure ?_)))
      refine wpAny_bind (wpAny_seqItems hTO₅ rfl ?_)
      refine wpAny_bind (wpAny_newTuple ?_)
      have hsz : h₅.objs.size = s.heap.objs.size := by rw [hs₅.1, hs₄.1, hs₃.1, hs₂.1, hs₁.1]
      have hz₅ : ZipR h₅ z TI TO .ellipsis f1 false := hs₅.extBut _ _ D.TOz.symm (hs₄.extBut _ _ D.i2z.symm (hs₃.extBut _ _ D.TOz.symm (hs₂.extBut _ _ D.i1z.symm hz₁)))
      have hk₅ : ∀ c o, c ≠ z → c ≠ TO → c ≠ i1 → c ≠ i2 → s.heap.get? c = some o → h₅.get? c = some o := fun c o c1 c2 c3 c4 e =>
        hs₅.extBut _ _ c2 (hs₄.extBut _ _ c4 (hs₃.extBut _ _ c2 (hs₂.extBut _ _ c3 (hs₁.extBut _ _ c1 e))))
      have h1₅ : h₅.IsTupleIter i1 l1 (k1 + 1) := ((h1₂.extBut hs₃.extBut D.TOi1.symm).extBut hs₄.extBut D.i12).extBut hs₅.extBut D.TOi1.symm
      have h2₅ : h₅.IsTupleIter i2 l2 (k2 + 1) := h2₄.extBut hs₅.extBut D.TOi2.symm
      have hzlt : z < h₅.objs.size := Heap.lt_size hz₅
      have hTOlt : TO < h₅.objs.size := Heap.lt_size hTO₅
      have hi1lt : i1 < h₅.objs.size := by obtain ⟨_, e, _⟩ := h1₅; exact Heap.lt_size e
      have hi2lt : i2 < h₅.objs.size := by obtain ⟨_, e, _⟩ := h2₅; exact Heap.lt_size e
      show wpAny _ _ (Builtin.SmallTypes.ownedTupleHandOut (.ref z) (.ref h₅.objs.size) >>= _) _ _ _
      refine wpAny_bind ?_
      unfold Builtin.SmallTypes.ownedTupleHandOut
      have hz₆ : ZipR (h₅.push { cls := .type "tuple", data := .seq #[x, y] }) z TI TO .ellipsis f1 false := Heap.get?_push_of_some _ hz₅
      refine wpAny_bind (wpAny_setField_rec hz₆ (by simp) fun h₇ hz₇ hs₇ => ?_)
      replace hz₇ : ZipR h₇ z TI TO (rawInt h₅.objs.size) f1 false := hz₇
      refine wpAny_setField_rec hz₇ (by simp) fun h₈ hz₈ hs₈ => ?_
      replace hz₈ : ZipR h₈ z TI TO (rawInt h₅.objs.size) false false := hz₈
      have up : ∀ c o, c ≠ z → h₅.get? c = some o → h₈.get? c = some o := fun c o c1 e => hs₈.extBut _ _ c1 (hs₇.extBut _ _ c1 (Heap.get?_push_of_some _ e))
      have hT₈ : IsPair h₈ h₅.objs.size x y := hs₈.extBut _ _ (Nat.ne_of_gt hzlt) (hs₇.extBut _ _ (Nat.ne_of_gt hzlt) (Heap.get?_push_size _ rfl))
      have hz8 : h₈.objs.size = h₅.objs.size + 1 := by rw [hs₈.1, hs₇.1, Heap.size_push]
      rw [hsz] at hz₈ hT₈ hz8
      refine wpAny_pure ⟨_, rfl, ?_⟩
      show Q (.ref h₅.objs.size) _
      rw [hsz]
      exact hQ h₈ _ _ _ _ hz₈ (.inr ⟨_, _, rfl⟩) (up _ _ D.TOz hTO₅) (h1₅.at fun o e => up _ o D.i1z e) (h2₅.at fun o e => up _ o D.i2z e) hT₈ hz8 fun c o c1 c2 c3 c4 e => up c o c1 (hk₅ c o c1 c2 c3 c4 e)
    · simp only [Bool.false_eq_true, if_false]
      rw [← Array.forIn_toList]
      refine wpAny_bind ?_
      simp only [List.forIn_cons, List.forIn_nil]
      refine wpAny_bind (wpAny_bind (wpAny_holding ?_))
      show wpAny _ _ (Builtin.SmallTypes.nextOf (.ref i1) >>= _) _ _ _
      refine wpAny_bind (RZ.nextOf_tuple_item (h1.extBut hs0.extBut D.i1z) (hl1.extBut hs0.extBut D.l1z) hx fun h₂ h1₂ hs₂ => wpAny_pure ?_)
      refine wpAny_pure ?_
      refine wpAny_bind (wpAny_bind (wpAny_holding ?_))
      show wpAny _ _ (Builtin.SmallTypes.nextOf (.ref i2) >>= _) _ _ _
      refine wpAny_bind (RZ.nextOf_tuple_item ((h2.extBut hs0.extBut D.i2z).extBut hs₂.extBut D.i12.symm)
        ((hl2.extBut hs0.extBut D.l2z).extBut hs₂.extBut D.l2i1) hy fun h₄ h2₄ hs₄ => wpAny_pure ?_)
      refine wpAny_pure (wpAny_pure ?_)
      refine wpAny_bind (wpAny_newTuple ?_ (by show 2 ≤ sizeLine; decide))
      have hsz : h₄.objs.size = s.heap.objs.size := by rw [hs₄.1, hs₂.1, hs0.1]
      have k4 : ∀ c o, c ≠ z → c ≠ i1 → c ≠ i2 → s.heap.get? c = some o → h₄.get? c = some o := fun c o c1 c3 c4 e => hs₄.extBut _ _ c4 (hs₂.extBut _ _ c3 (hs0.extBut _ _ c1 e))
      refine wpAny_pure ⟨_, rfl, ?_⟩
      show Q (.ref h₄.objs.size) _
      rw [hsz]
      have hT : IsPair (h₄.push { cls := .type "tuple", data := .seq #[x, y] }) h₄.objs.size x y := Heap.get?_push_size _ rfl
      rw [hsz] at hT
      exact hQ _ _ _ _ _ (Heap.get?_push_of_some _ (hs₄.extBut _ _ D.i2z.symm (hs₂.extBut _ _ D.i1z.symm hz0))) (.inr hf0') (Heap.get?_push_of_some _ (k4 _ _ D.TOz D.TOi1 D.TOi2 hTO))
        ((h1₂.extBut hs₄.extBut D.i12).at fun o e => Heap.get?_push_of_some _ e) (h2₄.at fun o e => Heap.get?_push_of_some _ e) hT (by rw [Heap.size_push, hsz]) fun c o c1 c2 c3 c4 e => Heap.get?_push_of_some _ (k4 c o c1 c3 c4 e)
theorem zipN_end {z TI TO i1 i2 l1 l2 : Addr} {k1 k2 : Nat} {xs ys : Array Value} {a b f0 : Value} {f1 : Bool} {Q : Fin → Shared → Prop} (hh : A.handled = none) (D : ZipApart z TI TO i1 i2 l1 l2)
    (hz : ZipR s.heap z TI TO f0 f1 false) (hf0 : F0 f0) (hTI : IsPair s.heap TI (.ref i1) (.ref i2)) (hTO : IsPair s.heap TO a b)
    (h1 : s.heap.IsTupleIter i1 l1 k1) (h2 : s.heap.IsTupleIter i2 l2 k2) (hl1 : s.heap.IsTuple l1 xs) (hl2 : s.heap.IsTuple l2 ys) (hx : xs[k1]? = none)
    (hE : ∀ h' e, (∀ c o, c ≠ z → c ≠ TO → c ≠ i1 → c ≠ i2 → s.heap.get? c = some o → h'.get? c = some o) → (∃ o, h'.get? e = some o ∧ o.cls = .type "StopIteration") → E (.ref e) { s with heap := h' }) :
    wpAny (model prog w) A (Builtin.«zip.__next__» ⟨[.ref z], []⟩) Q E s := by
  show wpAny _ _ (field (.ref z) 2 >>= _) _ _ _
  refine wpAny_bind (wpAny_field hz rfl (x := .bool false) rfl ?_)
  show wpAny _ _ (field (.ref z) 3 >>= _) _ _ _
  refine wpAny_bind (wpAny_field hz rfl (x := .ref TI) rfl ?_)
  refine wpAny_bind (wpAny_seqItems hTI rfl ?_)
  show wpAny _ _ (Builtin.SmallTypes.ownedTupleIsFree (.ref z) >>= _) _ _ _
  refine wpAny_bind ?_
  unfold Builtin.SmallTypes.ownedTupleIsFree
  refine wpAny_bind (wpAny_field hz rfl (x := f0) rfl ?_)
  refine wpAny_mono (Q := fun r s' => r = true ∧ s' = s ∨ r = false ∧ (∃ a t, f0 = .int a t) ∧ ∃ h', s' = { s with heap := h' } ∧ ZipR h' z TI TO f0 true false ∧ Heap.SameBut z s.heap h') ?_ (fun r s' hr => ?_) fun _ _ x => x
  · rcases hf0 with rfl | ⟨n, t, rfl⟩
    · exact wpAny_pure (.inl ⟨rfl, rfl⟩)
    · refine wpAny_bind (wpAny_alive ?_)
      cases hg : s.heap.get? n.toNat with
      | none => exact wpAny_pure (.inl ⟨rfl, rfl⟩)
      | some o =>
        refine wpAny_bind (wpAny_field hz rfl (x := .bool f1) rfl ?_)
        cases f1 with
        | false =>
          refine wpAny_bind (wpAny_setField_rec hz (by simp) fun h' hz' hs' => wpAny_pure ?_)
          exact .inr ⟨rfl, ⟨n, t, rfl⟩, h', rfl, hz', hs'⟩
        | true => exact wpAny_pure (.inr ⟨rfl, ⟨n, t, rfl⟩, s.heap, rfl, hz, rfl, fun _ _ => rfl⟩)
  · rcases hr with ⟨rfl, e0⟩ | ⟨rfl, hf0', h0, rfl, hz0, hs0⟩
    · rw [e0]
      simp only [if_true]
      refine wpAny_bind (wpAny_rule ?_)
      refine wpAny_bind (wpAny_field hz rfl (x := .ref TO) rfl ?_)
      refine wpAny_bind (wpAny_setField_rec hz (by simp) fun h₁ hz₁ hs₁ => ?_)
      replace hz₁ : ZipR h₁ z TI TO .ellipsis f1 false := hz₁
      refine wpAny_bind ?_
      simp only [List.zipIdx_cons, List.zipIdx_nil, List.forIn_cons, List.forIn_nil]
      refine wpAny_bind (wpAny_bind (wpAny_onRaise ?_))
      show wpAny _ _ (Builtin.SmallTypes.nextOf (.ref i1) >>= _) _ _ _
      refine wpAny_bind (RZ.nextOf_tuple_end hh (h1.extBut hs₁.extBut D.i1z) (hl1.extBut hs₁.extBut D.l1z) hx fun h₂ e hs₂ he => ?_)
      obtain ⟨oe, hoe, hce⟩ := he
      have hz₂ : ZipR h₂ z TI TO .ellipsis f1 false := hs₂ _ _ D.i1z.symm hz₁
      have hez : e ≠ z := fun x => by subst x; rw [hz₂] at hoe; cases hoe; simp at hce
      refine wpAny_setField_rec hz₂ (by simp) fun h₃ _ hs₃ => hE h₃ e (fun c o c1 _ c3 _ x => hs₃.extBut _ _ c1 (hs₂ _ _ c3 (hs₁.extBut _ _ c1 x))) ⟨oe, hs₃.extBut _ _ hez hoe, hce⟩
    · simp only [Bool.false_eq_true, if_false]
      rw [← Array.forIn_toList]
      refine wpAny_bind ?_
      simp only [List.forIn_cons, List.forIn_nil]
      refine wpAny_bind (wpAny_bind (wpAny_holding ?_))
      show wpAny _ _ (Builtin.SmallTypes.nextOf (.ref i1) >>= _) _ _ _
      exact wpAny_bind (RZ.nextOf_tuple_end hh (h1.extBut hs0.extBut D.i1z) (hl1.extBut hs0.extBut D.l1z) hx fun h₂ e hs₂ he => hE h₂ e (fun c o c1 _ c3 _ x => hs₂ _ _ c3 (hs0.extBut _ _ c1 x)) he)
theorem nextOrEnd_item {it l : Addr} {i : Nat} {items} {x : Value} {Q : Option Value → Shared → Prop} (hit : s.heap.IsTupleIter it l i)
    (hl : s.heap.IsTuple l items) (hx : items[i]? = some x) (hQ : ∀ h', h'.IsTupleIter it l (i + 1) → Heap.SameBut it s.heap h' → Q (some x) { s with heap := h' }) :
    wpAny (model prog w) A (Builtin.SmallTypes.nextOrEnd (.ref it)) Q E s := by
  unfold Builtin.SmallTypes.nextOrEnd
  exact wpAny_bind (wpAny_attempt (RZ.nextOf_tuple_item hit hl hx fun h' a b => wpAny_pure (hQ h' a b)))
theorem nextOrEnd_end {it l : Addr} {i : Nat} {items} {Q : Option Value → Shared → Prop} (hh : A.handled = none) (hit : s.heap.IsTupleIter it l i)
    (hl : s.heap.IsTuple l items) (hx : items[i]? = none) (hQ : ∀ h', Heap.ExtBut it s.heap h' → Q none { s with heap := h' }) :
    wpAny (model prog w) A (Builtin.SmallTypes.nextOrEnd (.ref it)) Q E s := by
  unfold Builtin.SmallTypes.nextOrEnd
  refine wpAny_bind (wpAny_attempt (RZ.nextOf_tuple_end hh hit hl hx fun h' e he ⟨o, ho, hc⟩ => ?_))
  refine wpAny_bind (wpAny_isInstance (T := "StopIteration") (b := true) ⟨o, ho, hc⟩ isSubtype_stop ?_)
  exact wpAny_pure (hQ _ he)
theorem zipS_item {z TI TO i1 i2 l1 l2 : Addr} {k1 k2 : Nat} {xs ys : Array Value} {x y a b : Value} {Q : Value → Shared → Prop} (D : ZipApart z TI TO i1 i2 l1 l2)
    (hz : ZipR s.heap z TI TO .none false true) (hTI : IsPair s.heap TI (.ref i1) (.ref i2)) (hTO : IsPair s.heap TO a b)
    (h1 : s.heap.IsTupleIter i1 l1 k1) (h2 : s.heap.IsTupleIter i2 l2 k2) (hl1 : s.heap.IsTuple l1 xs) (hl2 : s.heap.IsTuple l2 ys) (hx : xs[k1]? = some x) (hy : ys[k2]? = some y)
    (hQ : ∀ h', ZipR h' z TI TO (rawInt s.heap.objs.size) false true → IsPair h' TO x y → h'.IsTupleIter i1 l1 (k1 + 1) → h'.IsTupleIter i2 l2 (k2 + 1) → IsPair h' s.heap.objs.size x y → h'.objs.size = s.heap.objs.size + 1 →
      (∀ c o, c ≠ z → c ≠ TO → c ≠ i1 → c ≠ i2 → s.heap.get? c = some o → h'.get? c = some o) → Q (.ref s.heap.objs.size) { s with heap := h' }) :
    wpAny (model prog w) A (Builtin.«zip.__next__» ⟨[.ref z], []⟩) (fun fin s' => ∃ v, fin = .done (.ret v) ∧ Q v s') E s := by
  show wpAny _ _ (field (.ref z) 2 >>= _) _ _ _
  refine wpAny_bind (wpAny_field hz rfl (x := .bool true) rfl ?_)
  show wpAny _ _ (field (.ref z) 3 >>= _) _ _ _
  refine wpAny_bind (wpAny_field hz rfl (x := .ref TI) rfl ?_)
  refine wpAny_bind (wpAny_seqItems hTI rfl ?_)
  show wpAny _ _ (Builtin.SmallTypes.ownedTupleIsFree (.ref z) >>= _) _ _ _
  refine wpAny_bind ?_
  unfold Builtin.SmallTypes.ownedTupleIsFree
  refine wpAny_bind (wpAny_field hz rfl (x := .none) rfl (wpAny_pure ?_))
  simp only [if_true]
  refine wpAny_bind (wpAny_rule ?_)
  refine wpAny_bind (wpAny_field hz rfl (x := .ref TO) rfl ?_)
  refine wpAny_bind (wpAny_setField_rec hz (by simp) fun h₁ hz₁ hs₁ => ?_)
  replace hz₁ : ZipR h₁ z TI TO .ellipsis false true := hz₁
  refine wpAny_bind ?_
  simp only [List.zipIdx_cons, List.zipIdx_nil, List.forIn_cons, List.forIn_nil]
  refine wpAny_bind (wpAny_bind (wpAny_onRaise ?_))
  show wpAny _ _ (Builtin.SmallTypes.nextOrEnd (.ref i1)) _ _ _
  refine nextOrEnd_item (h1.extBut hs₁.extBut D.i1z) (hl1.extBut hs₁.extBut D.l1z) hx fun h₂ h1₂ hs₂ => ?_
  have hTO₂ : IsPair h₂ TO a b := hs₂.extBut _ _ D.TOi1 (hs₁.extBut _ _ D.TOz hTO)
  refine wpAny_bind (wpAny_seqItems hTO₂ rfl ?_)
  refine wpAny_bind (wpAny_updateSeq_pair hTO₂ fun h₃ hTO₃ hs₃ => ?_)
  replace hTO₃ : IsPair h₃ TO x b := hTO₃
  refine wpAny_bind (wpAny_letGo (wpAny_pure ?_))
  refine wpAny_bind (wpAny_bind (wpAny_onRaise ?_))
  show wpAny _ _ (Builtin.SmallTypes.nextOrEnd (.ref i2)) _ _ _
  refine nextOrEnd_item (((h2.extBut hs₁.extBut D.i2z).extBut hs₂.extBut D.i12.symm).extBut hs₃.extBut D.TOi2.symm)
    (((hl2.extBut hs₁.extBut D.l2z).extBut hs₂.extBut D.l2i1).extBut hs₃.extBut D.l2TO) hy fun h₄ h2₄ hs₄ => ?_
  have hTO₄ : IsPair h₄ TO x b := hs₄.extBut _ _ D.TOi2 hTO₃
  refine wpAny_bind (wpAny_seqItems hTO₄ rfl ?_)
  refine wpAny_bind (wpAny_updateSeq_pair hTO₄ fun h₅ hTO₅ hs₅ => ?_)
  replace hTO₅ : IsPair h₅ TO x y := hTO₅
  refine wpAny_bind (wpAny_letGo (wpAny_pure (wpAny_pure ?_)))
  refine wpAny_bind (wpAny_seqItems hTO₅ rfl ?_)
  refine wpAny_bind (wpAny_newTuple ?_)
  have hsz : h₅.objs.size = s.heap.objs.size := by rw [hs₅.1, hs₄.1, hs₃.1, hs₂.1, hs₁.1]
  have hz₅ : ZipR h₅ z TI TO .ellipsis false true := hs₅.extBut _ _ D.TOz.symm (hs₄.extBut _ _ D.i2z.symm (hs₃.extBut _ _ D.TOz.symm (hs₂.extBut _ _ D.i1z.symm hz₁)))
  have hk₅ : ∀ c o, c ≠ z → c ≠ TO → c ≠ i1 → c ≠ i2 → s.heap.get? c = some o → h₅.get? c = some o := fun c o c1 c2 c3 c4 e =>
    hs₅.extBut _ _ c2 (hs₄.extBut _ _ c4 (hs₃.extBut _ _ c2 (hs₂.extBut _ _ c3 (hs₁.extBut _ _ c1 e))))
  have h1₅ : h₅.IsTupleIter i1 l1 (k1 + 1) := ((h1₂.extBut hs₃.extBut D.TOi1.symm).extBut hs₄.extBut D.i12).extBut hs₅.extBut D.TOi1.symm
  have h2₅ : h₅.IsTupleIter i2 l2 (k2 + 1) := h2₄.extBut hs₅.extBut D.TOi2.symm
  have hzlt : z < h₅.objs.size := Heap.lt_size hz₅
  show wpAny _ _ (Builtin.SmallTypes.ownedTupleHandOut (.ref z) (.ref h₅.objs.size) >>= _) _ _ _
  refine wpAny_bind ?_
  unfold Builtin.SmallTypes.ownedTupleHandOut
  have hz₆ : ZipR (h₅.push { cls := .type "tuple", data := .seq #[x, y] }) z TI TO .ellipsis false true := Heap.get?_push_of_some _ hz₅
  refine wpAny_bind (wpAny_setField_rec hz₆ (by simp) fun h₇ hz₇ hs₇ => ?_)
  replace hz₇ : ZipR h₇ z TI TO (rawInt h₅.objs.size) false true := hz₇
  refine wpAny_setField_rec hz₇ (by simp) fun h₈ hz₈ hs₈ => ?_
  replace hz₈ : ZipR h₈ z TI TO (rawInt h₅.objs.size) false true := hz₈
  have up : ∀ c o, c ≠ z → h₅.get? c = some o → h₈.get? c = some o := fun c o c1 e => hs₈.extBut _ _ c1 (hs₇.extBut _ _ c1 (Heap.get?_push_of_some _ e))
  have hT₈ : IsPair h₈ h₅.objs.size x y := hs₈.extBut _ _ (Nat.ne_of_gt hzlt) (hs₇.extBut _ _ (Nat.ne_of_gt hzlt) (Heap.get?_push_size _ rfl))
  have hz8 : h₈.objs.size = h₅.objs.size + 1 := by rw [hs₈.1, hs₇.1, Heap.size_push]
  rw [hsz] at hz₈ hT₈ hz8
  refine wpAny_pure ⟨_, rfl, ?_⟩
  show Q (.ref h₅.objs.size) _
  rw [hsz]
  exact hQ h₈ hz₈ (up _ _ D.TOz hTO₅) (h1₅.at fun o e => up _ o D.i1z e) (h2₅.at fun o e => up _ o D.i2z e) hT₈ hz8 fun c o c1 c2 c3 c4 e => up c o c1 (hk₅ c o c1 c2 c3 c4 e)
theorem zipS_end {z TI TO i1 i2 l1 l2 : Addr} {k1 k2 : Nat} {xs ys : Array Value} {a b : Value} {Q : Fin → Shared → Prop} (hh : A.handled = none) (D : ZipApart z TI TO i1 i2 l1 l2)
    (hz : ZipR s.heap z TI TO .none false true) (hTI : IsPair s.heap TI (.ref i1) (.ref i2)) (hTO : IsPair s.heap TO a b)
    (h1 : s.heap.IsTupleIter i1 l1 k1) (h2 : s.heap.IsTupleIter i2 l2 k2) (hl1 : s.heap.IsTuple l1 xs) (hl2 : s.heap.IsTuple l2 ys) (hx : xs[k1]? = none) (hy : ys[k2]? = none)
    (hE : ∀ h' e, (∀ c o, c ≠ z → c ≠ TO → c ≠ i1 → c ≠ i2 → s.heap.get? c = some o → h'.get? c = some o) → (∃ o, h'.get? e = some o ∧ o.cls = .type "StopIteration") → E (.ref e) { s with heap := h' }) :
    wpAny (model prog w) A (Builtin.«zip.__next__» ⟨[.ref z], []⟩) Q E s := by
  show wpAny _ _ (field (.ref z) 2 >>= _) _ _ _
  refine wpAny_bind (wpAny_field hz rfl (x := .bool true) rfl ?_)
  show wpAny _ _ (field (.ref z) 3 >>= _) _ _ _
  refine wpAny_bind (wpAny_field hz rfl (x := .ref TI) rfl ?_)
  refine wpAny_bind (wpAny_seqItems hTI rfl ?_)
  show wpAny _ _ (Builtin.SmallTypes.ownedTupleIsFree (.ref z) >>= _) _ _ _
  refine wpAny_bind ?_
  unfold Builtin.SmallTypes.ownedTupleIsFree
  refine wpAny_bind (wpAny_field hz rfl (x := .none) rfl (wpAny_pure ?_))
  simp only [if_true]
  refine wpAny_bind (wpAny_rule ?_)
  refine wpAny_bind (wpAny_field hz rfl (x := .ref TO) rfl ?_)
  refine wpAny_bind (wpAny_setField_rec hz (by simp) fun h₁ hz₁ hs₁ => ?_)
  replace hz₁ : ZipR h₁ z TI TO .ellipsis false true := hz₁
  refine wpAny_bind ?_
  simp only [List.zipIdx_cons, List.zipIdx_nil, List.forIn_cons, List.forIn_nil]
  refine wpAny_bind (wpAny_bind (wpAny_onRaise ?_))
  show wpAny _ _ (Builtin.SmallTypes.nextOrEnd (.ref i1)) _ _ _
  refine nextOrEnd_end hh (h1.extBut hs₁.extBut D.i1z) (hl1.extBut hs₁.extBut D.l1z) hx fun h₂ hs₂ => ?_
  have hz₂ : ZipR h₂ z TI TO .ellipsis false true := hs₂ _ _ D.i1z.symm hz₁
  refine wpAny_bind (wpAny_setField_rec hz₂ (by simp) fun h₃ hz₃ hs₃ => ?_)
  refine wpAny_bind ?_
  show wpAny _ _ (forIn [((Value.ref i2 : Value), 1)] _ _ >>= _) _ _ _
  refine wpAny_bind ?_
  simp only [List.forIn_cons, List.forIn_nil]
  refine wpAny_bind (wpAny_bind ?_)
  refine nextOrEnd_end hh (((h2.extBut hs₁.extBut D.i2z).extBut hs₂ D.i12.symm).extBut hs₃.extBut D.i2z)
    (((hl2.extBut hs₁.extBut D.l2z).extBut hs₂ D.l2i1).extBut hs₃.extBut D.l2z) hy fun h₄ hs₄ => ?_
  refine wpAny_pure (wpAny_pure (wpAny_bind (wpAny_rule ?_)))
  unfold Builtin.SmallTypes.stopIteration
  show wpAny _ _ (newExc (.type "StopIteration") [] >>= _) _ _ _
  refine wpAny_bind ?_
  simp only [newExc, newTuple]
  refine wpAny_bind (wpAny_newObj_type ?_ (by size_fits))
  refine wpAny_bind (m := firstArgMember _ _) (wpAny_of_eq (a := Value.none) (by first | rfl | (simp only [firstArgMember]; rfl)) ?_)
  refine wpAny_newObj_type ?_ (by size_fits)
  simp only [raiseNew]
  refine wpAny_bind (wpAny_handled ?_)
  rw [hh]
  refine wpAny_bind (wpAny_pure (wpAny_throw ?_))
  exact hE _ _ (fun c o c1 c2 c3 c4 e => Heap.get?_push_of_some _ (Heap.get?_push_of_some _ (hs₄ _ _ c4 (hs₃.extBut _ _ c1 (hs₂ _ _ c3 (hs₁.extBut _ _ c1 e)))))) ⟨_, Heap.get?_push_size _ rfl, rfl⟩
end
end K5
end
section
set_option maxRecDepth 100000
set_option maxHeartbeats 2000000
/-! own rules: the two zips, walked -/
namespace K5
open PySem PySem.Spec PyProof.Rows L2
section
variable {prog : Program} {w : World} {A : Around} {E : Value → Shared → Prop} {s : Shared}
theorem pyIter_zipR {z TI TO : Addr} {f0 : Value} {f1 st : Bool} {Q : Value → Shared → Prop} (hz : ZipR s.heap z TI TO f0 f1 st) (h : Q (.ref z) s) : wpAny (model prog w) A (pyIter (.ref z)) Q E s := by
  have hT : s.TypeIs (.ref z) "zip" := ⟨_, hz, rfl⟩
  refine wpAny_pyIter_slot hT F.slot_zip_iter (wpAny_call_entry F.slot_zip_iter hT F.entry_zip_iter ?_ (F.args_zip_iter_1 _))
  show wpAny _ _ (ret (.ref z)) _ _ s
  exact wpAny_pure ⟨_, rfl, "zip", _, hT, F.slot_zip_next.lookup, h⟩
theorem letGo_zipR {elts : List Expr} {x1} {pos : Pos} {z TI TO T : Addr} {f1 st : Bool} {Q : Unit → Shared → Prop} (hz : ZipR s.heap z TI TO (rawInt T) f1 st)
    (hQ : ∀ h', ZipR h' z TI TO .none f1 st → Heap.SameBut z s.heap h' → Q () { s with heap := h' }) :
    wpAny (model prog w) A (letOwnedTupleGo (.Tuple elts x1 pos) (.ref z) (.ref T)) Q E s := by
  unfold letOwnedTupleGo
  refine wpAny_bind (wpAny_load hz ?_)
  show wpAny _ _ (if (["enumerate", "zip", "dict_itemiterator", "dict_reverseitemiterator", "odict_iterator", "itertools.zip_longest", "itertools.pairwise"].contains "zip" &&
      (#[rawInt T, .bool f1, .bool st, .ref TI, .ref TO] : Array Value)[0]? == some (rawInt T)) = true then _ else _) Q E s
  rw [if_pos (by simp)]
  refine wpAny_bind (wpAny_rule ?_)
  show wpAny _ _ (setField (.ref z) 0 .none) Q E s
  exact wpAny_setField_rec hz (by simp) fun h' hz' hs' => hQ h' hz' hs'
theorem pyNext_zipN {z TI TO i1 i2 l1 l2 : Addr} {k1 k2 : Nat} {xs ys : Array Value} {x y a b f0 : Value} {f1 : Bool} {Q : Option Value → Shared → Prop} (D : ZipApart z TI TO i1 i2 l1 l2)
    (hz : ZipR s.heap z TI TO f0 f1 false) (hf0 : F0 f0) (hTI : IsPair s.heap TI (.ref i1) (.ref i2)) (hTO : IsPair s.heap TO a b)
    (h1 : s.heap.IsTupleIter i1 l1 k1) (h2 : s.heap.IsTupleIter i2 l2 k2) (hl1 : s.heap.IsTuple l1 xs) (hl2 : s.heap.IsTuple l2 ys) (hx : xs[k1]? = some x) (hy : ys[k2]? = some y)
    (hQ : ∀ h' f0' f1' a' b', ZipR h' z TI TO f0' f1' false → F0 f0' → IsPair h' TO a' b' → h'.IsTupleIter i1 l1 (k1 + 1) → h'.IsTupleIter i2 l2 (k2 + 1) → IsPair h' s.heap.objs.size x y → h'.objs.size = s.heap.objs.size + 1 →
      (∀ c o, c ≠ z → c ≠ TO → c ≠ i1 → c ≠ i2 → s.heap.get? c = some o → h'.get? c = some o) → Q (some (.ref s.heap.objs.size)) { s with heap := h' }) :
    wpAny (model prog w) A (pyNext (.ref z)) Q E s := by
  have hT : s.TypeIs (.ref z) "zip" := ⟨_, hz, rfl⟩
  unfold pyNext
  exact wpAny_bind (wpAny_attempt (wpAny_callSpecial?_slot (name := Str.ofString "__next__") hT F.slot_zip_next
    (wpAny_call_entry F.slot_zip_next hT F.entry_zip_next
      (zipN_item D hz hf0 hTI hTO h1 h2 hl1 hl2 hx hy fun h' c1 c2 c3 c4 a1 a2 a3 a4 a5 a6 a7 a8 => wpAny_pure (hQ h' c1 c2 c3 c4 a1 a2 a3 a4 a5 a6 a7 a8)) (F.args_zip_next_1 _))))
theorem pyNext_zipN_end {z TI TO i1 i2 l1 l2 : Addr} {k1 k2 : Nat} {xs ys : Array Value} {a b f0 : Value} {f1 : Bool} {Q : Option Value → Shared → Prop} (hh : A.handled = none) (D : ZipApart z TI TO i1 i2 l1 l2)
    (hz : ZipR s.heap z TI TO f0 f1 false) (hf0 : F0 f0) (hTI : IsPair s.heap TI (.ref i1) (.ref i2)) (hTO : IsPair s.heap TO a b)
    (h1 : s.heap.IsTupleIter i1 l1 k1) (h2 : s.heap.IsTupleIter i2 l2 k2) (hl1 : s.heap.IsTuple l1 xs) (hl2 : s.heap.IsTuple l2 ys) (hx : xs[k1]? = none)
    (hQ : ∀ h', (∀ c o, c ≠ z → c ≠ TO → c ≠ i1 → c ≠ i2 → s.heap.get? c = some o → h'.get? c = some o) → Q none { s with heap := h' }) : wpAny (model prog w) A (pyNext (.ref z)) Q E s := by
  have hT : s.TypeIs (.ref z) "zip" := ⟨_, hz, rfl⟩
  unfold pyNext
  refine wpAny_bind (wpAny_attempt (wpAny_callSpecial?_slot (name := Str.ofString "__next__") hT F.slot_zip_next
    (wpAny_call_entry F.slot_zip_next hT F.entry_zip_next (zipN_end hh D hz hf0 hTI hTO h1 h2 hl1 hl2 hx fun h' e hk he => ?_) (F.args_zip_next_1 _))))
  obtain ⟨o, ho, hc⟩ := he
  refine wpAny_bind (wpAny_isInstance (T := "StopIteration") (b := true) ⟨o, ho, hc⟩ isSubtype_stop ?_)
  exact wpAny_pure (hQ _ hk)
theorem pyNext_zipS {z TI TO i1 i2 l1 l2 : Addr} {k1 k2 : Nat} {xs ys : Array Value} {x y a b : Value} {Q : Option Value → Shared → Prop} (D : ZipApart z TI TO i1 i2 l1 l2)
    (hz : ZipR s.heap z TI TO .none false true) (hTI : IsPair s.heap TI (.ref i1) (.ref i2)) (hTO : IsPair s.heap TO a b)
    (h1 : s.heap.IsTupleIter i1 l1 k1) (h2 : s.heap.IsTupleIter i2 l2 k2) (hl1 : s.heap.IsTuple l1 xs) (hl2 : s.heap.IsTuple l2 ys) (hx : xs[k1]? = some x) (hy : ys[k2]? = some y)
    (hQ : ∀ h', ZipR h' z TI TO (rawInt s.heap.objs.size) false true → IsPair h' TO x y → h'.IsTupleIter i1 l1 (k1 + 1) → h'.IsTupleIter i2 l2 (k2 + 1) → IsPair h' s.heap.objs.size x y → h'.objs.size = s.heap.objs.size + 1 →
      (∀ c o, c ≠ z → c ≠ TO → c ≠ i1 → c ≠ i2 → s.heap.get? c = some o → h'.get? c = some o) → Q (some (.ref s.heap.objs.size)) { s with heap := h' }) :
    wpAny (model prog w) A (pyNext (.ref z)) Q E s := by
  have hT : s.TypeIs (.ref z) "zip" := ⟨_, hz, rfl⟩
  unfold pyNext
  exact wpAny_bind (wpAny_attempt (wpAny_callSpecial?_slot (name := Str.ofString "__next__") hT F.slot_zip_next
    (wpAny_call_entry F.slot_zip_next hT F.entry_zip_next
      (zipS_item D hz hTI hTO h1 h2 hl1 hl2 hx hy fun h' a1 a2 a3 a4 a5 a6 a7 => wpAny_pure (hQ h' a1 a2 a3 a4 a5 a6 a7)) (F.args_zip_next_1 _))))
theorem pyNext_zipS_end {z TI TO i1 i2 l1 l2 : Addr} {k1 k2 : Nat} {xs ys : Array Value} {a b : Value} {Q : Option Value → Shared → Prop} (hh : A.handled = none) (D : ZipApart z TI TO i1 i2 l1 l2)
    (hz : ZipR s.heap z TI TO .none false true) (hTI : IsPair s.heap TI (.ref i1) (.ref i2)) (hTO : IsPair s.heap TO a b)
    (h1 : s.heap.IsTupleIter i1 l1 k1) (h2 : s.heap.IsTupleIter i2 l2 k2) (hl1 : s.heap.IsTuple l1 xs) (hl2 : s.heap.IsTuple l2 ys) (hx : xs[k1]? = none) (hy : ys[k2]? = none)
    (hQ : ∀ h', (∀ c o, c ≠ z → c ≠ TO → c ≠ i1 → c ≠ i2 → s.heap.get? c = some o → h'.get? c = some o) → Q none { s with heap := h' }) : wpAny (model prog w) A (pyNext (.ref z)) Q E s := by
  have hT : s.TypeIs (.ref z) "zip" := ⟨_, hz, rfl⟩
  unfold pyNext
  refine wpAny_bind (wpAny_attempt (wpAny_callSpecial?_slot (name := Str.ofString "__next__") hT F.slot_zip_next
    (wpAny_call_entry F.slot_zip_next hT F.entry_zip_next (zipS_end hh D hz hTI hTO h1 h2 hl1 hl2 hx hy fun h' e hk he => ?_) (F.args_zip_next_1 _))))
  obtain ⟨o, ho, hc⟩ := he
  refine wpAny_bind (wpAny_isInstance (T := "StopIteration") (b := true) ⟨o, ho, hc⟩ isSubtype_stop ?_)
  exact wpAny_pure (hQ _ hk)
/-! ### making a strict zip -/
theorem args_init_strict (obj a b c : Value) : argsOk "object.__init__" ⟨[obj, a, b], [(Str.ofString "strict", c)]⟩ := by unfold argsOk; kernel_rfl
theorem tc_strict (a b c : Value) : checkTypeCall "zip" ⟨[a, b], [(Str.ofString "strict", c)]⟩ = pure () := by kernel_rfl
theorem nc_strict (a b c : Value) : checkBuiltinCall "zip.__new__" ⟨[.type "zip", a, b], [(Str.ofString "strict", c)]⟩ = pure () := by kernel_rfl
abbrev zS5 (h : Heap) (l1 l2 : Addr) : Heap := (RZ.zipTH4 h l1 l2).push { cls := .type "zip", data := .fields #[.none, .bool false, .bool true, .ref (RZ.zipTH2 h l1 l2).objs.size, .ref (RZ.zipTH3 h l1 l2).objs.size] }
theorem zipS_new (l1 l2 : Addr) (xs ys : Array Value) :
    Meets (Builtin.«zip.__new__» ⟨[.type "zip", .ref l1, .ref l2], [(Str.ofString "strict", .bool true)]⟩) (fun _ R s => s.heap.IsTuple l1 xs ∧ s.heap.IsTuple l2 ys ∧
      R (.ok (.ret (.ref (RZ.zipTH4 s.heap l1 l2).objs.size))) { s with heap := zS5 s.heap l1 l2 }) :=
  .of_wp fun prog w A R s h => by
    obtain ⟨hp, g, d, tk, os⟩ := s; obtain ⟨hl1, hl2, h⟩ := h
    have hsub := sub_zip
    have e1 : (Str.ofString "strict" != ("strict" : Str)) = false := by decide +kernel
    have hL1 : Heap.IsTuple (Shared.heap ⟨hp, g, d, tk, os⟩) l1 xs := hl1
    have hL2 : Heap.IsTuple (Shared.heap ⟨hp.push { cls := .type "tuple_iterator", data := .fields #[.ref l1, .int 0 0] }, g, d, tk, os⟩) l2 ys := Heap.IsTuple.push hl2 _
    wp_walk using wpAny_pyIter_tuple hL1, wpAny_pyIter_tuple hL2, wpAny_truthy_bool
    exact ⟨_, rfl, h⟩
theorem call_zipS {l1 l2 : Addr} {xs ys : Array Value} {Q : Value → Shared → Prop} (hl1 : s.heap.IsTuple l1 xs) (hl2 : s.heap.IsTuple l2 ys)
    (h : ∀ h', ZipR h' (s.heap.objs.size + 4) (s.heap.objs.size + 2) (s.heap.objs.size + 3) .none false true → IsPair h' (s.heap.objs.size + 2) (.ref s.heap.objs.size) (.ref (s.heap.objs.size + 1)) →
      IsPair h' (s.heap.objs.size + 3) .none .none → h'.IsTupleIter s.heap.objs.size l1 0 → h'.IsTupleIter (s.heap.objs.size + 1) l2 0 → h'.objs.size = s.heap.objs.size + 5 →
      (∀ c o, s.heap.get? c = some o → h'.get? c = some o) → Q (.ref (s.heap.objs.size + 4)) { s with heap := h' }) :
    wpAny (model prog w) A (call (.type "zip") [.ref l1, .ref l2] [(Str.ofString "strict", .bool true)]) Q E s := by
  refine callType_newKw F.called_zip (by decide) (tc_strict _ _ _) (nc_strict _ _ _) (fun obj => args_init_strict obj _ _ _) F.entry_zip_new
    (zipS_new l1 l2 xs ys) ⟨hl1, hl2, ?_⟩
  have z1 : (RZ.zipTH1 s.heap l1).objs.size = s.heap.objs.size + 1 := Heap.size_push ..
  have z2 : (RZ.zipTH2 s.heap l1 l2).objs.size = s.heap.objs.size + 2 := by rw [Heap.size_push, z1]
  have z3 : (RZ.zipTH3 s.heap l1 l2).objs.size = s.heap.objs.size + 3 := by rw [Heap.size_push, z2]
  have z4 : (RZ.zipTH4 s.heap l1 l2).objs.size = s.heap.objs.size + 4 := by rw [Heap.size_push, z3]
  have z5 : (zS5 s.heap l1 l2).objs.size = s.heap.objs.size + 5 := by rw [Heap.size_push, z4]
  have g5 : (zS5 s.heap l1 l2).get? (RZ.zipTH4 s.heap l1 l2).objs.size = some _ := Heap.get?_push_size _ rfl
  have g4 : (zS5 s.heap l1 l2).get? (RZ.zipTH3 s.heap l1 l2).objs.size = some _ := Heap.get?_push_of_some _ (Heap.get?_push_size _ rfl)
  have g3 : (zS5 s.heap l1 l2).get? (RZ.zipTH2 s.heap l1 l2).objs.size = some _ := Heap.get?_push_of_some _ (Heap.get?_push_of_some _ (Heap.get?_push_size _ rfl))
  have g2 : (zS5 s.heap l1 l2).get? (RZ.zipTH1 s.heap l1).objs.size = some _ := Heap.get?_push_of_some _ (Heap.get?_push_of_some _ (Heap.get?_push_of_some _ (Heap.get?_push_size _ rfl)))
  have g1 : (zS5 s.heap l1 l2).get? s.heap.objs.size = some _ := Heap.get?_push_of_some _ (Heap.get?_push_of_some _ (Heap.get?_push_of_some _ (Heap.get?_push_of_some _ (Heap.get?_push_size _ rfl))))
  show _ ∧ _
  rw [z2, z3, z4] at g5
  rw [z1, z2] at g3
  rw [z3] at g4
  rw [z1] at g2
  rw [z4]
  exact ⟨⟨_, g5, rfl⟩, h _ g5 g3 g4 ⟨_, g1, rfl, rfl⟩ ⟨_, g2, rfl, rfl⟩ z5 fun c o x =>
    Heap.get?_push_of_some _ (Heap.get?_push_of_some _ (Heap.get?_push_of_some _ (Heap.get?_push_of_some _ (Heap.get?_push_of_some _ x))))⟩
theorem callWith_typeKw {T : String} {env : Env} {pos : Pos} {e : Expr} {rest : List Expr} {kws : List Keyword} {Q : Value → Shared → Prop}
    (h : wpAny (model prog w) A (spliced (backTo pos (starEach (e :: rest) env))) (fun vs s₁ => wpAny (model prog w) A (evalAll ((backToKw pos (keywordEach kws env)).map (·.2)))
      (fun kvs s₂ => wpAny (model prog w) A (call (.type T) vs (((backToKw pos (keywordEach kws env)).filterMap (·.1)).zip kvs)) Q E s₂) E s₁) E s)
    (he : backTo pos (starEach (e :: rest) env) = (false, eval e env) :: backTo pos (starEach rest env) := by rfl)
    (hplain : (backTo pos (starEach (e :: rest) env)).any (·.1) = false := by rfl)
    (hall : (backToKw pos (keywordEach kws env)).all (·.1.isSome) = true := by rfl)
    (hkw : (backToKw pos (keywordEach kws env)).any (·.1.isNone) = false := by rfl) :
    wpAny (model prog w) A (callWith pos (.type T) [] (backTo pos (starEach (e :: rest) env)) (backToKw pos (keywordEach kws env))) Q E s := by
  unfold callWith
  refine wpAny_bind (wpAny_holding ?_)
  refine wpAny_mono (Q := fun (a : Args) s₁ => wpAny (model prog w) A (call (.type T) ([] ++ a.pos) a.kw) Q E s₁) ?_ (fun a s₁ h₁ => wpAny_bind (wpAny_standAt ?_)) fun _ _ x => x
  · rw [he] at h ⊢
    exact evalArgs_kwB hall h
  · simp only [hplain, hkw, Bool.or_false]
    refine wpAny_bind (wpAny_pure ?_)
    exact wpAny_bind (wpAny_mono h₁ (fun r s₂ hr => wpAny_bind (wpAny_holding (wpAny_point (wpAny_pure hr)))) fun _ _ x => x)
end
/-- n turns, each a new pair of the i-th of xs and of ys -/
def ItP (G : Hp → Prop) (xs ys : List V) : It :=
  ⟨fun i H => (i < xs.length ∧ i < ys.length) ∧ G H, fun i H v H' => ∃ T x y, v = .ref T ∧ H T = none ∧ H' = upd H T (.tup [x, y]) ∧ xs[i]? = some x ∧ ys[i]? = some y, fun i H => (xs.length = i ∧ ys.length = i) ∧ G H⟩
theorem walk_pairs {G : Hp → Prop} {xs ys : List V} (h : xs.length = ys.length) : Walk (ItP G xs ys) xs.length G (YPair (fun i => xs[i]?) (fun i => ys[i]?)) :=
  ⟨fun _ _ hi g => ⟨⟨hi, by omega⟩, g⟩, fun _ g => ⟨⟨rfl, h.symm⟩, g⟩, fun _ _ _ _ _ _ y => y⟩
theorem fresh5 {X : Cx} {pins : List (Addr × Obj)} {σ : L2.St} {H1 : Hp} {s1 : Shared} (I1 : Inv X pins σ H1 s1) : ∀ c, c ∈ [s1.heap.objs.size + 4, s1.heap.objs.size + 2, s1.heap.objs.size + 3, s1.heap.objs.size, s1.heap.objs.size + 1] → FpOk X pins H1 c := fun c hcm => by
  have e' : c = s1.heap.objs.size + 4 ∨ c = s1.heap.objs.size + 2 ∨ c = s1.heap.objs.size + 3 ∨ c = s1.heap.objs.size ∨ c = s1.heap.objs.size + 1 := by simpa using hcm
  have hle : s1.heap.objs.size ≤ c := by
    rcases e' with z | z | z | z | z
    · rw [z]; exact Nat.le_add_right _ _
    · rw [z]; exact Nat.le_add_right _ _
    · rw [z]; exact Nat.le_add_right _ _
    · rw [z]; exact Nat.le_refl _
    · rw [z]; exact Nat.le_add_right _ _
  exact I1.fpOk hle (I1.hok.fresh hle)
theorem zip_lt {h : Heap} {z TI TO i1 i2 a b c : Addr} {f0 u v : Value} {f1 st : Bool} {k k' : Nat} (hz : ZipR h z TI TO f0 f1 st) (hTI : IsPair h TI (.ref i1) (.ref i2)) (hTO : IsPair h TO u v) (h1 : h.IsTupleIter i1 a k) (h2 : h.IsTupleIter i2 b k')
    (hc : c ∈ [z, TI, TO, i1, i2]) : c < h.objs.size := by
  have e' : c = z ∨ c = TI ∨ c = TO ∨ c = i1 ∨ c = i2 := by simpa using hc
  rcases e' with q | q | q | q | q
  · rw [q]; exact Heap.lt_size hz
  · rw [q]; exact Heap.lt_size hTI
  · rw [q]; exact Heap.lt_size hTO
  · rw [q]; obtain ⟨_, e1, _⟩ := h1; exact Heap.lt_size e1
  · rw [q]; obtain ⟨_, e2, _⟩ := h2; exact Heap.lt_size e2
theorem zip_obj {h : Heap} {z TI TO i1 i2 a b c : Addr} {f0 u v : Value} {f1 st : Bool} {k k' : Nat} (hz : ZipR h z TI TO f0 f1 st) (hTI : IsPair h TI (.ref i1) (.ref i2)) (hTO : IsPair h TO u v) (h1 : h.IsTupleIter i1 a k) (h2 : h.IsTupleIter i2 b k')
    (hc : c ∈ [z, TI, TO, i1, i2]) : ∃ o, h.get? c = some o ∧ ∀ v, o.data ≠ .cell v := by
  obtain ⟨o1, e1, _, d1⟩ := h1
  obtain ⟨o2, e2, _, d2⟩ := h2
  have e' : c = z ∨ c = TI ∨ c = TO ∨ c = i1 ∨ c = i2 := by simpa using hc
  rcases e' with q | q | q | q | q
  · rw [q]; exact ⟨_, hz, fun v q => nomatch q⟩
  · rw [q]; exact ⟨_, hTI, fun v q => nomatch q⟩
  · rw [q]; exact ⟨_, hTO, fun v q => nomatch q⟩
  · rw [q]; exact ⟨o1, e1, fun v q => by rw [d1] at q; cases q⟩
  · rw [q]; exact ⟨o2, e2, fun v q => by rw [d2] at q; cases q⟩
theorem get_at {K : PySem.W.Frag} {X : Cx} {pins : List (Addr × Obj)} {σ : L2.St} {H : Hp} {s : Shared} {a : Addr} {xs : List V} {i : Nat} {its : List Value} (rv : Vals xs its) (hi : i < xs.length) :
    ∃ u, its.toArray[i]? = some u ∧ RelV xs[i] u := by
  obtain ⟨u, hu, ru⟩ := rv.get (List.getElem?_eq_getElem hi)
  exact ⟨u, by simpa using hu, ru⟩
section
variable {P : Program} {w : World} {K : PySem.W.Frag} {a b z TI TO i1 i2 : Addr} {xs ys : List V}
theorem turn_zipN {x : Str} {tpos : Pos} (D : ZipApart z TI TO i1 i2 a b) :
    Turn P w K (.Name x tpos) (ItP (fun H => SqT K H a xs ∧ SqT K H b ys) xs ys) [z, TI, TO, i1, i2] z
      (fun i h => (∃ f0 f1, ZipR h z TI TO f0 f1 false ∧ F0 f0) ∧ IsPair h TI (.ref i1) (.ref i2) ∧ (∃ x y, IsPair h TO x y) ∧ h.IsTupleIter i1 a i ∧ h.IsTupleIter i2 b i) where
  mem := by simp
  obj := fun i h st c hc => by
    obtain ⟨⟨f0, f1, hz, _⟩, hTI, ⟨x, y, hTO⟩, h1, h2⟩ := st
    exact zip_obj hz hTI hTO h1 h2 hc
  keep := fun i h h' st k => by
    obtain ⟨⟨f0, f1, hz, hf⟩, hTI, ⟨x, y, hTO⟩, h1, h2⟩ := st
    exact ⟨⟨f0, f1, k z (by simp) _ hz, hf⟩, k TI (by simp) _ hTI, ⟨x, y, k TO (by simp) _ hTO⟩, h1.at fun o q => k i1 (by simp) o q, h2.at fun o q => k i2 (by simp) o q⟩
  item := by
    intro X hP hw hK hc i pins s σ H E I hf st hg
    subst hP hw hK
    obtain ⟨⟨f0, f1, hz, hf0⟩, hTI, ⟨x0, y0, hTO⟩, h1, h2⟩ := st
    obtain ⟨⟨li, lj⟩, hqx, hqy⟩ := hg
    obtain ⟨its, rv, p, _⟩ := I.tuple hqx
    obtain ⟨its2, rv2, p2, _⟩ := I.tuple hqy
    obtain ⟨u, hu, ru⟩ := rv.get (List.getElem?_eq_getElem li)
    obtain ⟨u2, hu2, ru2⟩ := rv2.get (List.getElem?_eq_getElem lj)
    refine pyNext_zipN D hz hf0 hTI hTO h1 h2 p p2 (x := u) (y := u2) (by simpa using hu) (by simpa using hu2) fun h' f0' f1' a' b' z' hf' TO' h1' h2' hT hsz hk => ?_
    refine ⟨_, rfl, wpAny_pure ?_⟩
    have new : ObjOk X.prog X.w (upd H s.heap.objs.size (.tup [xs[i], ys[i]])) h' s.heap.objs.size (.tup [xs[i], ys[i]]) :=
      ⟨by show 2 ≤ sizeLine; decide, [u, u2], .cons ru (.cons ru2 .nil), ⟨_, hT, rfl, _, rfl⟩⟩
    have I1 : Inv X pins σ (upd H s.heap.objs.size (.tup [xs[i], ys[i]])) { s with heap := h' } :=
      I.turnedNew (t' := s.toks) (ch := [z, TI, TO, i1, i2]) (fun c o hb q => hk c o (fun q' => hb (by simp [q'])) (fun q' => hb (by simp [q'])) (fun q' => hb (by simp [q'])) (fun q' => hb (by simp [q'])) q) hf (Nat.le_refl _) new
    refine ⟨.ref s.heap.objs.size, _, I1, rfl, ⟨_, _, _, rfl, I.hok.fresh (Nat.le_refl _), rfl, List.getElem?_eq_getElem li, List.getElem?_eq_getElem lj⟩, ⟨⟨f0', f1', z', hf'⟩, hk _ _ D.TIz D.TITO D.TIi1 D.TIi2 hTI, ⟨a', b', TO'⟩, h1', h2'⟩, fun c hcm => ?_⟩
    rw [upd_ne (Nat.ne_of_lt (zip_lt hz hTI hTO h1 h2 hcm))]
    exact (hf c hcm).1
  done := by
    intro X hP hw hK hc i pins s σ H E I hf st hg
    subst hP hw hK
    obtain ⟨⟨f0, f1, hz, hf0⟩, hTI, ⟨x0, y0, hTO⟩, h1, h2⟩ := st
    obtain ⟨⟨li, lj⟩, hqx, hqy⟩ := hg
    obtain ⟨its, rv, p, _⟩ := I.tuple hqx
    obtain ⟨its2, rv2, p2, _⟩ := I.tuple hqy
    have l1 := rv.length
    exact pyNext_zipN_end (I.ok.hd hc) D hz hf0 hTI hTO h1 h2 p p2 (by simp; omega) fun h' hk => ⟨rfl, I.turnedL (t' := s.toks) (ch := [z, TI, TO, i1, i2]) (fun c o hb q =>
      hk c o (fun q' => hb (by simp [q'])) (fun q' => hb (by simp [q'])) (fun q' => hb (by simp [q'])) (fun q' => hb (by simp [q'])) q) hf⟩
  self := fun A i s Q E st h => let ⟨⟨_, _, hz, _⟩, _⟩ := st; pyIter_zipR hz h
theorem turn_zipS {elts : List Expr} {kk : Nat} {tpos : Pos} (D : ZipApart z TI TO i1 i2 a b) :
    Turn P w K (.Tuple elts kk tpos) (ItP (fun H => SqT K H a xs ∧ SqT K H b ys) xs ys) [z, TI, TO, i1, i2] z
      (fun i h => ZipR h z TI TO .none false true ∧ IsPair h TI (.ref i1) (.ref i2) ∧ (∃ x y, IsPair h TO x y) ∧ h.IsTupleIter i1 a i ∧ h.IsTupleIter i2 b i) where
  mem := by simp
  obj := fun i h st c hc => by
    obtain ⟨hz, hTI, ⟨x, y, hTO⟩, h1, h2⟩ := st
    exact zip_obj hz hTI hTO h1 h2 hc
  keep := fun i h h' st k => by
    obtain ⟨hz, hTI, ⟨x, y, hTO⟩, h1, h2⟩ := st
    exact ⟨k z (by simp) _ hz, k TI (by simp) _ hTI, ⟨x, y, k TO (by simp) _ hTO⟩, h1.at fun o q => k i1 (by simp) o q, h2.at fun o q => k i2 (by simp) o q⟩
  item := by
    intro X hP hw hK hc i pins s σ H E I hf st hg
    subst hP hw hK
    obtain ⟨hz, hTI, ⟨x0, y0, hTO⟩, h1, h2⟩ := st
    obtain ⟨⟨li, lj⟩, hqx, hqy⟩ := hg
    obtain ⟨its, rv, p, _⟩ := I.tuple hqx
    obtain ⟨its2, rv2, p2, _⟩ := I.tuple hqy
    obtain ⟨u, hu, ru⟩ := rv.get (List.getElem?_eq_getElem li)
    obtain ⟨u2, hu2, ru2⟩ := rv2.get (List.getElem?_eq_getElem lj)
    have hzl : z < s.heap.objs.size := Heap.lt_size hz
    refine pyNext_zipS D hz hTI hTO h1 h2 p p2 (x := u) (y := u2) (by simpa using hu) (by simpa using hu2) fun h' z' TO' h1' h2' hT hsz hk => ?_
    refine ⟨_, rfl, letGo_zipR (s := { s with heap := h' }) z' fun h'' z'' sb => ?_⟩
    have hT2 : h''.get? s.heap.objs.size = some { cls := .type "tuple", data := .seq #[u, u2] } := (sb.2 _ (Nat.ne_of_gt hzl)).trans hT
    have new : ObjOk X.prog X.w (upd H s.heap.objs.size (.tup [xs[i], ys[i]])) h'' s.heap.objs.size (.tup [xs[i], ys[i]]) :=
      ⟨by show 2 ≤ sizeLine; decide, [u, u2], .cons ru (.cons ru2 .nil), ⟨_, hT2, rfl, _, rfl⟩⟩
    have I1 : Inv X pins σ (upd H s.heap.objs.size (.tup [xs[i], ys[i]])) { s with heap := h'' } :=
      I.turnedNew (t' := s.toks) (ch := [z, TI, TO, i1, i2]) (fun c o hb q => (sb.2 c (fun q' => hb (by simp [q']))).trans (hk c o (fun q' => hb (by simp [q'])) (fun q' => hb (by simp [q'])) (fun q' => hb (by simp [q'])) (fun q' => hb (by simp [q'])) q)) hf (Nat.le_refl _) new
    refine ⟨.ref s.heap.objs.size, _, I1, rfl, ⟨_, _, _, rfl, I.hok.fresh (Nat.le_refl _), rfl, List.getElem?_eq_getElem li, List.getElem?_eq_getElem lj⟩, ⟨z'', ?_, ⟨u, u2, ?_⟩, ?_, ?_⟩, fun c hcm => ?_⟩
    · exact (sb.2 _ D.TIz).trans (hk _ _ D.TIz D.TITO D.TIi1 D.TIi2 hTI)
    · exact (sb.2 _ D.TOz).trans TO'
    · exact h1'.at fun o q => (sb.2 _ D.i1z).trans q
    · exact h2'.at fun o q => (sb.2 _ D.i2z).trans q
    · rw [upd_ne (Nat.ne_of_lt (zip_lt hz hTI hTO h1 h2 hcm))]
      exact (hf c hcm).1
  done := by
    intro X hP hw hK hc i pins s σ H E I hf st hg
    subst hP hw hK
    obtain ⟨hz, hTI, ⟨x0, y0, hTO⟩, h1, h2⟩ := st
    obtain ⟨⟨li, lj⟩, hqx, hqy⟩ := hg
    obtain ⟨its, rv, p, _⟩ := I.tuple hqx
    obtain ⟨its2, rv2, p2, _⟩ := I.tuple hqy
    have l1 := rv.length
    have l2 := rv2.length
    exact pyNext_zipS_end (I.ok.hd hc) D hz hTI hTO h1 h2 p p2 (by simp; omega) (by simp; omega) fun h' hk => ⟨rfl, I.turnedL (t' := s.toks) (ch := [z, TI, TO, i1, i2]) (fun c o hb q =>
      hk c o (fun q' => hb (by simp [q'])) (fun q' => hb (by simp [q'])) (fun q' => hb (by simp [q'])) (fun q' => hb (by simp [q'])) q) hf⟩
  self := fun A i s Q E st h => pyIter_zipR st.1 h
end
def iZipP (K : PySem.W.Frag) (ta : TA) : TI := fun σ H R => ta σ H fun vs H1 => ∃ a b xs ys, vs = [.ref a, .ref b] ∧ SqT K H1 a xs ∧ SqT K H1 b ys ∧ R (ItP (fun H => SqT K H a xs ∧ SqT K H b ys) xs ys) H1
/-- for p in zip(t, u), two tuples -/
theorem pi_zipN {X : Cx} {e e2 : Expr} {ta : TA} {p pos tpos : Pos} {x : Str} (hg : Gl X "zip") (hm : X.mg "zip" = none) (ha : PA X [e, e2] ta)
    (hs : starEach [e, e2] X.env = (false, eval e X.env) :: starEach [e2] X.env := by rfl) (hpl : (backTo pos (starEach [e2] X.env)).any (·.1) = false := by rfl) :
    PI X (.Name x tpos) (.Call (.Name "zip" p) [e, e2] [] pos) (iZipP X.K ta) := by
  refine ⟨fun pins s σ H R I h => ?_⟩
  refine Call_ (ld_blt I hg hm PyProof.Rows.boot_zip (PyProof.Rows.callWith_type1 (thn (ha.run pos pins s σ H _ I h) fun us s1 ⟨vs, H1, I1, r1, q1⟩ => ?_) hs hpl))
  obtain ⟨a, b, xs, ys, ex, hqx, hqy, q⟩ := q1
  subst ex
  obtain rfl : us = [.ref a, .ref b] := by
    cases r1 with
    | cons r rr => cases rr with
      | cons r' rr => cases rr; cases r; cases r'; rfl
  obtain ⟨its, rv, p1, _⟩ := I1.tuple hqx
  obtain ⟨its2, rv2, p2, _⟩ := I1.tuple hqy
  obtain ⟨o1, ho1, _⟩ := id p1
  obtain ⟨o2, ho2, _⟩ := id p2
  refine RZ.call_zipT (show s1.heap.IsTuple a its.toArray from p1) (show s1.heap.IsTuple b its2.toArray from p2) fun h' hz hTI hTO h1 h2 hsz hk => pyIter_zipR hz ?_
  have I2 : Inv X pins σ H1 { s1 with heap := h' } := I1.kept (t' := s1.toks) hk
  exact ⟨s1.heap.objs.size + 4, [s1.heap.objs.size + 4, s1.heap.objs.size + 2, s1.heap.objs.size + 3, s1.heap.objs.size, s1.heap.objs.size + 1], _, _, H1, rfl, I2, turn_zipN (PySem.W.ktu_apart s1.heap.objs.size a b (Heap.lt_size ho1) (Heap.lt_size ho2)), ⟨⟨_, _, hz, .inl rfl⟩, hTI, ⟨_, _, hTO⟩, h1, h2⟩, fresh5 I1, q⟩
/-- for a, b in zip(t, u, strict=True), two tuples -/
theorem pi_zipS {X : Cx} {e e2 : Expr} {ta : TA} {p pos tpos kp cp : Pos} {elts : List Expr} {kk j : Nat} (hg : Gl X "zip") (hm : X.mg "zip" = none) (ha : PA X [e, e2] ta)
    (hs : backTo pos (starEach [e, e2] X.env) = (false, eval e X.env) :: backTo pos (starEach [e2] X.env) := by rfl) (hpl : (backTo pos (starEach [e, e2] X.env)).any (·.1) = false := by rfl) :
    PI X (.Tuple elts kk tpos) (.Call (.Name "zip" p) [e, e2] [⟨some "strict", .Constant (.bool true) j cp, kp⟩] pos) (iZipP X.K ta) := by
  refine ⟨fun pins s σ H R I h => ?_⟩
  refine wpAny_Call_Name_kw (ld_blt I hg hm PyProof.Rows.boot_zip ?_)
  refine callWith_typeKw (thn (ha.run pos pins s σ H _ I h) fun us s1 ⟨vs, H1, I1, r1, q1⟩ => ?_) hs hpl
  refine kws_cons (Constant_bool (kws_nil ?_))
  obtain ⟨a, b, xs, ys, ex, hqx, hqy, q⟩ := q1
  subst ex
  obtain rfl : us = [.ref a, .ref b] := by
    cases r1 with
    | cons r rr => cases rr with
      | cons r' rr => cases rr; cases r; cases r'; rfl
  obtain ⟨its, rv, p1, _⟩ := I1.tuple hqx
  obtain ⟨its2, rv2, p2, _⟩ := I1.tuple hqy
  obtain ⟨o1, ho1, _⟩ := id p1
  obtain ⟨o2, ho2, _⟩ := id p2
  refine call_zipS (show s1.heap.IsTuple a its.toArray from p1) (show s1.heap.IsTuple b its2.toArray from p2) fun h' hz hTI hTO h1 h2 hsz hk => pyIter_zipR hz ?_
  have I2 : Inv X pins σ H1 { s1 with heap := h' } := I1.kept (t' := s1.toks) hk
  exact ⟨s1.heap.objs.size + 4, [s1.heap.objs.size + 4, s1.heap.objs.size + 2, s1.heap.objs.size + 3, s1.heap.objs.size, s1.heap.objs.size + 1], _, _, H1, rfl, I2, turn_zipS (PySem.W.ktu_apart s1.heap.objs.size a b (Heap.lt_size ho1) (Heap.lt_size ho2)), ⟨hz, hTI, ⟨_, _, hTO⟩, h1, h2⟩, fresh5 I1, q⟩
end K5
end
section
set_option maxRecDepth 100000
set_option maxHeartbeats 2000000
/-! own rules: dicts whose keys are tuples of any depth -/
namespace K5
open PySem PySem.Spec PyProof.Rows L2
mutual
/-- the value is the key, by the abstract heap -/
inductive KeyH (H : Hp) : NestedKey → V → Prop
  | non : KeyH H .none .non
  | bool (b : Bool) : KeyH H (.num (if b = true then 1 else 0)) (.bl b)
  | int (i : Int) : KeyH H (.num i) (.int i)
  | str (x : Str) : KeyH H (.text x) (.str x)
  | tup {a : Addr} {ks : List NestedKey} {vs : List V} : H a = some (.tup vs) → KeysH H ks vs → KeyH H (.tup ks) (.ref a)
inductive KeysH (H : Hp) : List NestedKey → List V → Prop
  | nil : KeysH H [] []
  | cons {k : NestedKey} {v : V} {ks : List NestedKey} {vs : List V} : KeyH H k v → KeysH H ks vs → KeysH H (k :: ks) (v :: vs)
end
section
variable {P : Program} {w : World} {H H' : Hp} {h : Heap}
mutual
theorem KeyH.is (ok : HOk P w H h) : ∀ (k : NestedKey) (x : V) (u : Value), KeyH H k x → RelV x u → NestedIs h k u
  | .none, _, _, hx, r => by
    cases hx
    cases (show _ = _ from r)
    exact .none
  | .num i, _, _, hx, r => by
    cases hx with
    | bool b =>
      cases (show _ = _ from r)
      exact .bool rfl
    | int =>
      obtain ⟨t, rfl⟩ := r
      exact .int i t
  | .text x, _, _, hx, r => by
    cases hx
    obtain ⟨t, rfl⟩ := r
    exact .text x t
  | .tup ks, _, _, hx, r => by
    cases hx with
    | tup h1 h2 =>
      cases (show _ = _ from r)
      obtain ⟨_, its, rv, o, e1, e2, n, e3⟩ := (show ObjOk P w H h _ _ from ok _ _ h1)
      exact .tup e1 e2 e3 (KeysH.is ok ks _ _ h2 (by simpa using rv))
theorem KeysH.is (ok : HOk P w H h) : ∀ (ks : List NestedKey) (xs : List V) (us : List Value), KeysH H ks xs → Vals xs us → NestedAll h ks us
  | [], _, _, hx, r => by
    cases hx
    cases r
    exact .nil
  | k :: ks, _, _, hx, r => by
    cases hx with
    | cons h1 h2 =>
      cases r with
      | cons r1 r2 => exact .cons (KeyH.is ok k _ _ h1 r1) (KeysH.is ok ks _ _ h2 r2)
end
mutual
theorem KeyH.mono (s : ∀ a xs, H a = some (.tup xs) → H' a = some (.tup xs)) : ∀ (k : NestedKey) (x : V), KeyH H k x → KeyH H' k x
  | .none, _, hx => by cases hx; exact .non
  | .num i, _, hx => by
    cases hx with
    | bool b => exact .bool b
    | int => exact .int i
  | .text x, _, hx => by cases hx; exact .str x
  | .tup ks, _, hx => by
    cases hx with
    | tup h1 h2 => exact .tup (s _ _ h1) (KeysH.mono s ks _ h2)
theorem KeysH.mono (s : ∀ a xs, H a = some (.tup xs) → H' a = some (.tup xs)) : ∀ (ks : List NestedKey) (xs : List V), KeysH H ks xs → KeysH H' ks xs
  | [], _, hx => by cases hx; exact .nil
  | k :: ks, _, hx => by
    cases hx with
    | cons h1 h2 => exact .cons (KeyH.mono s k _ h1) (KeysH.mono s ks _ h2)
end
theorem keysH_ints : ∀ (ns : List Int), KeysH H (ns.map .num) (ns.map V.int)
  | [] => .nil
  | n :: ns => .cons (.int n) (keysH_ints ns)
theorem depth_ints : ∀ (ns : List Int), NestedKey.depthAll (ns.map .num) = 0
  | [] => by rw [List.map_nil, NestedKey.depthAll]
  | n :: ns => by
    rw [List.map_cons, NestedKey.depthAll, depth_ints ns, NestedKey.depth]
    rfl
end
abbrev EP3 : NestedKey × Addr × V → NestedKey × Addr × Value → Prop := fun p q => p.1 = q.1 ∧ p.2.1 = q.2.1 ∧ RelV p.2.2 q.2.2
theorem pr_keys : ∀ {es : List (NestedKey × Addr × V)} {xs : List (NestedKey × Addr × Value)}, Paired EP3 es xs → xs.map (·.1) = es.map (·.1)
  | _, _, .nil => rfl
  | _, _, .cons h t => by rw [List.map_cons, List.map_cons, pr_keys t, h.1]
theorem pr_app : ∀ {es es2 : List (NestedKey × Addr × V)} {xs xs2 : List (NestedKey × Addr × Value)}, Paired EP3 es xs → Paired EP3 es2 xs2 → Paired EP3 (es ++ es2) (xs ++ xs2)
  | _, _, _, _, .nil, r => r
  | _, _, _, _, .cons h t, r => .cons h (pr_app t r)
theorem pr_is {P : Program} {w : World} {H : Hp} {h : Heap} (ok : HOk P w H h) : ∀ {es : List (NestedKey × Addr × V)} {xs : List (NestedKey × Addr × Value)}, Paired EP3 es xs → (∀ e ∈ es, KeyH H e.1 (.ref e.2.1) ∧ e.1.depth ≤ 8) →
    ∀ x ∈ xs, (nestedKind P w).is h x.1 x.2.1
  | _, _, .nil, _, x, hx => nomatch hx
  | p :: ps, q :: qs, .cons hq t, e2, x, hx => by
    rcases List.mem_cons.mp hx with e | hx
    · subst e
      have k := e2 p List.mem_cons_self
      refine ⟨?_, by rw [← hq.1]; exact k.2⟩
      rw [← hq.1]
      exact KeyH.is ok _ _ _ k.1 (by rw [hq.2.1]; rfl)
    · exact pr_is ok t (fun e he => e2 e (List.mem_cons_of_mem _ he)) x hx
/-- a dict's object whose entries are these: key, the key's tuple, value -/
def DnO (w : World) (d : Addr) (es : List (NestedKey × Addr × V)) : HO := .ext fun h => ((d == sysModules) = false ∧ es.length ≤ sizeLine) ∧
  ∃ xs : List (NestedKey × Addr × Value), Paired (fun p q => p.1 = q.1 ∧ p.2.1 = q.2.1 ∧ RelV p.2.2 q.2.2) es xs ∧
  ∃ o ents ep, h.get? d = some o ∧ o.ExactDict ∧ o.data = .dict ents ep ∧ ents.toList = xs.map (fun x => (⟨x.1.hash w, .ref x.2.1, x.2.2⟩ : DictEntry)) ∧ (xs.map (·.1)).Nodup
/-- at d stands a dict with these keys and values, in their order -/
def DN (w : World) (H : Hp) (d : Addr) (m : List (NestedKey × V)) : Prop :=
  ∃ es : List (NestedKey × Addr × V), H d = some (DnO w d es) ∧ (∀ e ∈ es, KeyH H e.1 (.ref e.2.1) ∧ e.1.depth ≤ 8) ∧ m = es.map fun e => (e.1, e.2.2)
def getN (m : List (NestedKey × V)) (k : NestedKey) : Option V := (m.find? fun p => decide (p.1 = k)).map (·.2)
theorem DnO.ne_tup {w : World} {d : Addr} {es : List (NestedKey × Addr × V)} {xs : List V} : HO.tup xs ≠ DnO w d es := fun z => nomatch z
/-- what does not touch d and keeps the tuples keeps the dict -/
theorem DN.mono {w : World} {H H' : Hp} {d : Addr} {m : List (NestedKey × V)} (h : DN w H d m) (hd : H' d = H d) (s : ∀ a xs, H a = some (.tup xs) → H' a = some (.tup xs)) : DN w H' d m := by
  obtain ⟨es, e1, e2, e3⟩ := h
  exact ⟨es, hd.trans e1, fun e he => ⟨KeyH.mono s _ _ (e2 e he).1, (e2 e he).2⟩, e3⟩
theorem DN.same {w : World} {H H' : Hp} {d : Addr} {m : List (NestedKey × V)} (h : DN w H d m) (s : Same H H') : DN w H' d m := by
  obtain ⟨es, e1, e2, e3⟩ := h
  exact ⟨es, s _ _ e1, fun e he => ⟨KeyH.mono (fun a xs q => s _ _ q) _ _ (e2 e he).1, (e2 e he).2⟩, e3⟩
section
variable {P : Program} {w : World} {H : Hp} {h : Heap} {d : Addr} {m : List (NestedKey × V)} {es : List (NestedKey × Addr × V)}
theorem getN_pair {xs : List (NestedKey × Addr × Value)} (r : Paired (fun (p : NestedKey × Addr × V) (q : NestedKey × Addr × Value) => p.1 = q.1 ∧ p.2.1 = q.2.1 ∧ RelV p.2.2 q.2.2) es xs) (k : NestedKey) :
    RelO (getN (es.map fun e => (e.1, e.2.2)) k) (valueAt (pairsH xs) k) := by
  induction r with
  | nil => exact True.intro
  | @cons p q ps qs hq t ih =>
    unfold getN valueAt pairsH at *
    simp only [List.map_cons, List.find?_cons]
    by_cases e : p.1 = k
    · have e' : q.1 = k := hq.1 ▸ e
      simp only [e, e', decide_true, Option.map_some]
      exact hq.2.2
    · have e' : q.1 ≠ k := fun z => e (hq.1 ▸ z)
      simp only [decide_eq_false e, decide_eq_false e']
      exact ih
theorem DN.keyed (ok : HOk P w H h) (x : DN w H d m) : (d == sysModules) = false ∧ m.length ≤ sizeLine ∧ ∃ kvs, h.DictKeyed (nestedKind P w) d kvs ∧ kvs.length = m.length ∧ ∀ k, RelO (getN m k) (valueAt kvs k) := by
  obtain ⟨es, e1, e2, rfl⟩ := x
  obtain ⟨⟨⟨hd, hz⟩, xs, r, o, ents, ep, h1, h2, h3, h4, h5⟩, _⟩ := (show ObjOk P w H h d (DnO w d es) from ok d _ e1)
  exact ⟨hd, by rw [List.length_map]; exact hz, pairsH xs, ⟨xs, ⟨o, ents, ep, h1, h2, h3, h4, pr_is ok r e2, h5⟩, rfl⟩, by rw [pairsH_length, List.length_map, Paired.length r], getN_pair r⟩
theorem relO_isSome {o : Option V} {u : Option Value} (r : RelO o u) : o.isSome = u.isSome := by
  cases o <;> cases u <;> first | rfl | exact False.elim r
end
theorem nest_room {A : Around} {P : Program} {w : World} (hu : A.units + 64 < cLine) : (nestedKind P w).room A.in1 := by
  show A.in1.units + 8 < cLine
  have e : A.in1.units = A.units + 1 := rfl
  omega
section
variable {X : Cx}
/-- k in d -/
def rInN (w : World) (neg : Bool) : R2 := fun x y H Q => ∃ d m k, y = .ref d ∧ DN w H d m ∧ (∃ a, x = .ref a) ∧ KeyH H k x ∧ k.depth ≤ 8 ∧ Q (.bl (if neg then !(getN m k).isSome else (getN m k).isSome)) H
theorem op_inN (hu : X.A.units + 64 < cLine) : OpR X (compareOp .In) (rInN X.w false) := by
  intro pins s σ H x y v u Q I rx ry h
  obtain ⟨d, m, k, rfl, D, ⟨a, rfl⟩, kh, dp, q⟩ := h
  cases (show v = Value.ref a from rx)
  cases (show u = Value.ref d from ry)
  obtain ⟨hd, hz, kvs, dk, _, ev⟩ := D.keyed I.hok
  refine in_keyed (nest_room hu) ⟨KeyH.is I.hok _ _ _ kh rfl, dp⟩ hd dk ?_
  rw [← relO_isSome (ev k)]
  exact ⟨.bl _, H, I.tok _, rfl, q⟩
theorem op_notInN (hu : X.A.units + 64 < cLine) : OpR X (compareOp .NotIn) (rInN X.w true) := by
  intro pins s σ H x y v u Q I rx ry h
  obtain ⟨d, m, k, rfl, D, ⟨a, rfl⟩, kh, dp, q⟩ := h
  cases (show v = Value.ref a from rx)
  cases (show u = Value.ref d from ry)
  obtain ⟨hd, hz, kvs, dk, _, ev⟩ := D.keyed I.hok
  refine notIn_keyed (nest_room hu) ⟨KeyH.is I.hok _ _ _ kh rfl, dp⟩ hd dk ?_
  rw [← relO_isSome (ev k)]
  exact ⟨.bl _, H, I.tok _, rfl, q⟩
/-- d[k], there -/
def rIxN (w : World) : R2 := fun x y H Q => ∃ d m k v, x = .ref d ∧ DN w H d m ∧ (∃ a, y = .ref a) ∧ KeyH H k y ∧ k.depth ≤ 8 ∧ getN m k = some v ∧ Q v H
theorem ix_dn (hu : X.A.units + 64 < cLine) : IxR X (rIxN X.w) := by
  intro value slice pins s σ H x y v u Q I rx ry h hs
  obtain ⟨d, m, k, z, rfl, D, ⟨a, rfl⟩, kh, dp, hg, q⟩ := h
  cases (show v = Value.ref d from rx)
  cases (show u = Value.ref a from ry)
  obtain ⟨hd, hz, kvs, dk, _, ev⟩ := D.keyed I.hok
  have e := ev k
  rw [hg] at e
  cases hv : valueAt kvs k with
  | none => rw [hv] at e; exact e.elim
  | some w' =>
    rw [hv] at e
    exact tail_any dk.typeIs slot_dict_getitem.lookup (getItem_keyed (nest_room hu) ⟨KeyH.is I.hok _ _ _ kh rfl, dp⟩ dk hv ⟨z, H, I.tok _, e, q⟩) hs
theorem getN_none {es : List (NestedKey × Addr × V)} {k : NestedKey} (h : getN (es.map fun e => (e.1, e.2.2)) k = none) : k ∉ es.map (·.1) := by
  intro hm
  obtain ⟨e, he, rfl⟩ := List.mem_map.mp hm
  unfold getN at h
  rw [Option.map_eq_none_iff, List.find?_eq_none] at h
  have := h (e.1, e.2.2) (List.mem_map.mpr ⟨e, he, rfl⟩)
  simp at this
theorem storedH_new {xs : List (NestedKey × Addr × Value)} {k : NestedKey} {a : Addr} {v : Value} (h : k ∉ xs.map (·.1)) : storedH xs k a v = xs ++ [(k, a, v)] := by
  have e : (atKey xs k).isSome = false := by
    unfold atKey
    cases hf : xs.find? (fun x => decide (x.1 = k)) with
    | none => rfl
    | some y =>
      have h1 := List.mem_of_find?_eq_some hf
      have h2 := List.find?_some hf
      exact absurd (List.mem_map.mpr ⟨y, h1, of_decide_eq_true h2⟩) h
  unfold storedH
  rw [e]
  rfl
/-- a new key is stored -/
theorem dn_store {A : Around} {E : Value → Shared → Prop} {pins : List (Addr × Obj)} {σ : L2.St} {H : Hp} {s : Shared} {d a : Addr} {es : List (NestedKey × Addr × V)} {k : NestedKey} {v : V} {u : Value}
    (I : Inv X pins σ H s) (e1 : H d = some (DnO X.w d es)) (kh : KeyH H k (.ref a)) (dp : k.depth ≤ 8) (hz : es.length < sizeLine) (rv : RelV v u) {h' : Heap} {tk : Nat} {xs : List (NestedKey × Addr × Value)}
    (r : Paired (fun (p : NestedKey × Addr × V) (q : NestedKey × Addr × Value) => p.1 = q.1 ∧ p.2.1 = q.2.1 ∧ RelV p.2.2 q.2.2) es xs) (hd : (d == sysModules) = false)
    (hn : k ∉ xs.map (·.1)) (hm : h'.DictOfH (nestedKind X.prog X.w) d (storedH xs k a u)) (hs : Heap.SameBut d s.heap h') :
    Inv X pins σ (upd H d (DnO X.w d (es ++ [(k, a, v)]))) { s with heap := h', toks := tk } := by
  rw [storedH_new hn] at hm
  obtain ⟨o, ents, ep, h1, h2, h3, h4, _, h5⟩ := hm
  refine d_write I (by rw [e1]; exact True.intro) hs ⟨o, h1⟩ ?_
  have hl : (es ++ [(k, a, v)]).length ≤ sizeLine := by rw [List.length_append]; exact hz
  have key : ∀ h2' : Heap, h2'.get? d = some o → ((d == sysModules) = false ∧ (es ++ [(k, a, v)]).length ≤ sizeLine) ∧ ∃ xs : List (NestedKey × Addr × Value), Paired (fun (p : NestedKey × Addr × V) (q : NestedKey × Addr × Value) => p.1 = q.1 ∧ p.2.1 = q.2.1 ∧ RelV p.2.2 q.2.2) (es ++ [(k, a, v)]) xs ∧
      ∃ o ents ep, h2'.get? d = some o ∧ o.ExactDict ∧ o.data = .dict ents ep ∧ ents.toList = xs.map (fun x => (⟨x.1.hash X.w, .ref x.2.1, x.2.2⟩ : DictEntry)) ∧ (xs.map (·.1)).Nodup := fun h2' e =>
    ⟨⟨hd, hl⟩, xs ++ [(k, a, u)], pr_app r (.cons ⟨rfl, rfl, rv⟩ .nil), o, ents, ep, e, h2, h3, h4, h5⟩
  refine ⟨key h' h1, ⟨o, h1⟩, fun g1 g2 p q => ?_⟩
  obtain ⟨c, xs2, r2, o2, en2, ep2, f1, f2⟩ := p
  exact ⟨c, xs2, r2, o2, en2, ep2, q _ f1, f2⟩
/-- the dict after it -/
theorem DN.put {w : World} {H : Hp} {d a : Addr} {es : List (NestedKey × Addr × V)} {k : NestedKey} {v : V} (e1 : H d = some (DnO w d es)) (e2 : ∀ e ∈ es, KeyH H e.1 (.ref e.2.1) ∧ e.1.depth ≤ 8) (kh : KeyH H k (.ref a)) (dp : k.depth ≤ 8) :
    DN w (upd H d (DnO w d (es ++ [(k, a, v)]))) d ((es.map fun e => (e.1, e.2.2)) ++ [(k, v)]) := by
  have mn : ∀ b xs, H b = some (.tup xs) → upd H d (DnO w d (es ++ [(k, a, v)])) b = some (.tup xs) := fun b xs q => by
    rw [upd_ne (ne_of q e1 DnO.ne_tup)]
    exact q
  refine ⟨es ++ [(k, a, v)], upd_same, fun e he => ?_, by rw [List.map_append]; rfl⟩
  rcases List.mem_append.mp he with he | he
  · exact ⟨KeyH.mono mn _ _ (e2 e he).1, (e2 e he).2⟩
  · have e' : e = (k, a, v) := by simpa using he
    subst e'
    exact ⟨KeyH.mono mn _ _ kh, dp⟩
/-- d[k] = v, k a new key -/
def rSetN (w : World) : TSet := fun o i v H Q => ∃ d m k, o = .ref d ∧ DN w H d m ∧ (∃ a, i = .ref a) ∧ KeyH H k i ∧ k.depth ≤ 8 ∧ getN m k = none ∧ m.length < sizeLine ∧
  ∀ es, DN w (upd H d (DnO w d es)) d (m ++ [(k, v)]) → Q (upd H d (DnO w d es))
theorem set_dn (hu : X.A.units + 64 < cLine) : PSet X (rSetN X.w) := by
  intro pins s σ H o i v ov iv u Q I ro ri rv h
  obtain ⟨d, m, k, rfl, D, ⟨a, rfl⟩, kh, dp, hg, hz, q⟩ := h
  cases (show ov = Value.ref d from ro)
  cases (show iv = Value.ref a from ri)
  obtain ⟨hd, _, _, _, _, _⟩ := D.keyed I.hok
  obtain ⟨es, e1, e2, rfl⟩ := D
  obtain ⟨⟨_, xs, r, o, ents, ep, h1, h2, h3, h4, h5⟩, _⟩ := (show ObjOk X.prog X.w H s.heap d (DnO X.w d es) from I.hok d _ e1)
  have D2 : DN X.w H d (es.map fun e => (e.1, e.2.2)) := ⟨es, e1, e2, rfl⟩
  rw [List.length_map] at hz
  have hx : s.heap.DictOfH (nestedKind X.prog X.w) d xs := ⟨o, ents, ep, h1, h2, h3, h4, pr_is I.hok r e2, h5⟩
  have hn : k ∉ xs.map (·.1) := by
    have e := pr_keys r
    rw [e]
    exact getN_none hg
  refine wpAny_setItem_heap (hsz := by rw [← Paired.length r]; exact Nat.le_of_lt hz) (nest_room hu) ⟨KeyH.is I.hok _ _ _ kh rfl, dp⟩ hx fun h' hm hs => ?_
  exact ⟨_, dn_store (A := X.A) (E := X.xe) I e1 kh dp hz rv r hd hn hm hs, q _ (DN.put e1 e2 kh dp)⟩
/-- d.setdefault(k, v) -/
def rSetDefN (w : World) : V → List V → Hp → VK → Prop := fun x xs H Q => ∃ d m k i v, x = .ref d ∧ xs = [i, v] ∧ DN w H d m ∧ (∃ a, i = .ref a) ∧ KeyH H k i ∧ k.depth ≤ 8 ∧ m.length < sizeLine ∧
  (∀ z, getN m k = some z → Q z H) ∧ (getN m k = none → ∀ es, DN w (upd H d (DnO w d es)) d (m ++ [(k, v)]) → Q v (upd H d (DnO w d es)))
theorem mt_setDefN (hu : X.A.units + 64 < cLine) : MtR X "dict.setdefault" (rSetDefN X.w) := by
  intro pins s σ H x xs v us Q I rx r h
  obtain ⟨d, m, k, i, z, rfl, rfl, D, ⟨a, rfl⟩, kh, dp, hz, q1, q2⟩ := h
  cases (show v = Value.ref d from rx)
  obtain ⟨u, rfl, rz⟩ : ∃ u, us = [.ref a, u] ∧ RelV z u := by
    cases r with
    | cons r1 rr => cases rr with
      | cons r2 rr =>
        cases rr
        cases (show _ = _ from r1)
        exact ⟨_, rfl, r2⟩
  obtain ⟨hd, _, kvs, dk, _, ev⟩ := D.keyed I.hok
  obtain ⟨es, e1, e2, rfl⟩ := D
  obtain ⟨⟨_, xs, r, o, ents, ep, h1, h2, h3, h4, h5⟩, _⟩ := (show ObjOk X.prog X.w H s.heap d (DnO X.w d es) from I.hok d _ e1)
  rw [List.length_map] at hz
  have hx : s.heap.DictOfH (nestedKind X.prog X.w) d xs := ⟨o, ents, ep, h1, h2, h3, h4, pr_is I.hok r e2, h5⟩
  have ev2 := getN_pair r
  have e := pr_keys r
  refine call_setdefault_heap (hsz := by rw [← Paired.length r]; exact Nat.le_of_lt hz) (nest_room hu) ⟨KeyH.is I.hok _ _ _ kh rfl, dp⟩ hd hx (fun p hp => ?_) fun hp h' hm hs => ?_
  · have e2 := ev2 k
    rw [valueAt_pairsH, hp] at e2
    cases hg : getN (es.map fun e => (e.1, e.2.2)) k with
    | none => rw [hg] at e2; exact e2.elim
    | some y =>
      rw [hg] at e2
      exact ⟨y, H, I.tok _, e2, q1 y hg⟩
  · have e3 := ev2 k
    rw [valueAt_pairsH, hp] at e3
    have hg : getN (es.map fun e => (e.1, e.2.2)) k = none := by
      cases hg : getN (es.map fun e => (e.1, e.2.2)) k with
      | none => rfl
      | some y => rw [hg] at e3; exact e3.elim
    have hn : k ∉ xs.map (·.1) := by rw [e]; exact getN_none hg
    exact ⟨z, _, dn_store (A := X.A) (E := X.xe) I e1 kh dp hz rz r hd hn hm hs, rz, q2 hg _ (DN.put e1 e2 kh dp)⟩
/-- {} to have such keys -/
theorem dn_empty {w : World} {h : Heap} {d : Addr} {ents : Array DictEntry} {ep : Nat} {o : Obj} (hd : (d == sysModules) = false) (h1 : h.get? d = some o) (h2 : o.ExactDict) (h3 : o.data = .dict ents ep) (h4 : ents.toList = []) (P : Program) (H : Hp) : ObjOk P w H h d (DnO w d []) := by
  refine ⟨⟨⟨hd, Nat.zero_le _⟩, [], .nil, o, ents, ep, h1, h2, h3, h4, List.nodup_nil⟩, ⟨o, h1⟩, fun g1 g2 p q => ?_⟩
  obtain ⟨c, xs2, r2, o2, en2, ep2, f1, f2⟩ := p
  exact ⟨c, xs2, r2, o2, en2, ep2, q _ f1, f2⟩
def tDNewN (w : World) : TE := fun _ H Q => ∀ p, H p = none → DN w (upd H p (DnO w p [])) p [] → Q (.ref p) (upd H p (DnO w p []))
theorem pe_dnewN {pos : Pos} : PE X (.Dict [] [] pos) (tDNewN X.w) := ⟨fun pins s σ H Q I h =>
  wpAny_Dict_empty ⟨.ref s.heap.objs.size, _, I.laid (a := s.heap.objs.size) (o := DnO X.w s.heap.objs.size []) (t' := s.toks) (fun _ _ q => Heap.get?_push_of_some _ q) (Nat.le_refl _)
    (dn_empty (beq_eq_false_iff_ne.mpr (Ne.symm (Nat.ne_of_lt I.big))) (Heap.get?_push_size _ rfl) ⟨rfl, rfl, rfl⟩ rfl rfl _ _), rfl, h _ (I.hok.fresh (Nat.le_refl _)) ⟨[], upd_same, (fun e he => nomatch he), rfl⟩⟩⟩
/-- {k: v}; the new dict stands empty while the pair is made -/
def tDisp1N (w : World) (tk tv : TE) : TE := fun σ H Q => ∀ p, H p = none → tk σ (upd H p (DnO w p [])) fun x H1 => tv σ H1 fun y H2 => H2 p = some (DnO w p []) ∧ (∃ a, x = .ref a) ∧ ∃ k, KeyH H2 k x ∧ k.depth ≤ 8 ∧
  ∀ es, DN w (upd H2 p (DnO w p es)) p [(k, y)] → Q (.ref p) (upd H2 p (DnO w p es))
theorem pe_disp1N {pos : Pos} {k v : Expr} {tk tv : TE} (hu : X.A.units + 64 < cLine) (hk : PE X k tk) (hv : PE X v tv) : PE X (.Dict [some k] [v] pos) (tDisp1N X.w tk tv) := by
  refine ⟨fun pins s σ H Q I h => ?_⟩
  have hn := I.hok.fresh (Nat.le_refl s.heap.objs.size)
  have hds : (s.heap.objs.size == sysModules) = false := beq_eq_false_iff_ne.mpr (Ne.symm (Nat.ne_of_lt I.big))
  have I1 := I.laid (a := s.heap.objs.size) (o := DnO X.w s.heap.objs.size []) (h' := s.heap.push { cls := .type "dict", data := .dict #[] }) (t' := s.toks) (fun _ _ q => Heap.get?_push_of_some _ q) (Nat.le_refl _)
    (dn_empty hds (Heap.get?_push_size _ rfl) ⟨rfl, rfl, rfl⟩ rfl rfl _ _)
  refine wpAny_Dict_any rfl rfl (fun z => by cases z) (by show 1 ≤ 15; decide) (pairTrees_cons_walk (thn (hk.run pins _ σ _ _ I1 (h _ hn)) fun u s1 ⟨x, H1, I2, rx, q1⟩ => thn (hv.run pins s1 σ H1 _ I2 q1) fun w2 s2 ⟨y, H2, I3, ry, q2⟩ => pairTrees_nil_walk ?_))
  obtain ⟨e1, ⟨a, rfl⟩, k, kh, dp, q⟩ := q2
  cases (show u = Value.ref a from rx)
  obtain ⟨⟨_, xs, r, o, ents, ep, h1, h2, h3, h4, h5⟩, _⟩ := (show ObjOk X.prog X.w H2 s2.heap _ (DnO X.w _ []) from I3.hok _ _ e1)
  cases r
  unfold storeAll
  simp only [List.forIn_cons, List.forIn_nil]
  have hx : s2.heap.DictOfH (nestedKind X.prog X.w) s.heap.objs.size [] := ⟨o, ents, ep, h1, h2, h3, h4, fun x hx => (nomatch hx), h5⟩
  refine wpAny_bind (wpAny_bind (wpAny_dictSet_heap (hsz := Nat.zero_le _) (knd := nestedKind X.prog X.w) (k := k) (show X.A.units + 8 < cLine by omega) ⟨KeyH.is I3.hok _ _ _ kh rfl, dp⟩ hx fun h' hm hs => ?_))
  refine wpAny_pure (wpAny_pure ?_)
  exact ⟨.ref _, _, dn_store (A := X.A) (E := X.xe) (es := []) I3 e1 kh dp (by show 0 < sizeLine; decide) ry .nil hds (by simp) hm hs, rfl, q _ (DN.put (es := []) e1 (fun e he => nomatch he) kh dp)⟩
end
end K5
end
section
set_option maxRecDepth 100000
set_option maxHeartbeats 2000000
/-! own rules: attribute targets, calls of what a local holds, x in a tuple of instances, a turned tuple, list(text), bool(instance) -/
namespace K5
open PySem PySem.Spec PyProof.Rows L2
section
variable {X : Cx} {pos : Pos} {o : Expr} {f : Str}
/-- o.f as a target -/
def gFld (K : PySem.W.Frag) (ta : TE) (f : Str) : TG := fun v σ H Q => ta σ H fun x H1 => ∃ a C dx fs, x = .ref a ∧ H1 a = some (.ins C dx fs) ∧ Cls K C ∧ NoAttr K C f ∧ fs.length < 1000 ∧ Q σ (upd H1 a (.ins C dx (putF f v fs)))
theorem pg_fld {ta : TE} (ho : PE X o ta) : PG X (.Attribute o f pos) (gFld X.K ta f) := by
  refine ⟨fun pins s σ H v u Q I r h => ?_⟩
  rw [assign_Attribute]
  refine wpAny_bind (wpAny_holding (thn (ho.run pins s σ H _ I h) fun ov s1 ⟨x, H1, I1, rx, a, C, dx, fs, ex, ea, c, n, l, q⟩ => ?_))
  subst ex
  obtain rfl : ov = Value.ref a := rx
  refine wpAny_bind (wpAny_standAt (wpAny_bind (wpAny_holding (setattr_ok I1 ea c n l r fun s2 I2 => ?_))))
  exact wpAny_release ⟨σ, _, I2, q⟩
/-! ### a call of what the slot i holds -/
def tL (i : Nat) (f : Addr) (sp : Sp) (t : TA) : TE := fun σ H Q => σ[i]? = some (some (.ref f)) ∧ t σ H fun vs H1 => sp vs H1 Q E0
variable {x : Str} {i : Nat} {sp : Sp} {p : Pos} {e : Expr} {es : List Expr} {t : TA} {g : Addr}
theorem pe_l (run : CallR X (.ref g) (fun vs H Q => sp vs H Q E0)) (hk : PySem.W.keepIn X.K (.ref g) = true) (hN : X.N[i]? = some x) (hv : Vis X.env.scope x) (ha : PA X (e :: es) t)
    (hd : (x == ("__debug__" : Str)) = false := by decide) (hcd : (x == ("__classdict__" : Str)) = false := by decide)
    (he : starEach (e :: es) X.env = (false, eval e X.env) :: starEach es X.env := by rfl) (hpl : (backTo pos (starEach es X.env)).any (·.1) = false := by rfl) : PE X (.Call (.Name x p) (e :: es) [] pos) (tL i g sp t) := by
  refine ⟨fun pins s σ H Q I h => ?_⟩
  obtain ⟨hs, h⟩ := h
  refine wpAny_Call_Name_kw (thn ((pe_var (pos := p) (i := i) hN hv hd hcd).run pins s σ H (fun v H1 => v = .ref g ∧ H1 = H) I ⟨.ref g, hs, rfl, rfl⟩) fun u s1 ⟨v, H1, I1, r1, ev, eH⟩ => ?_)
  subst ev
  rw [eH] at I1
  obtain rfl : u = Value.ref g := r1
  refine PySem.W.callWith_K (h₀ := X.base) I.ok.mod.kin hk (thn (ha.run pos pins s1 σ H _ I1 h) fun us s2 ⟨vs, H2, I2, r, q⟩ => ⟨I2.kIn, ?_⟩) he hpl
  exact run pins s2 σ H2 vs us Q I2 r q
/-- .. with a star behind the first argument -/
theorem pe_lS (run : CallR X (.ref g) (fun vs H Q => sp vs H Q E0)) (hk : PySem.W.keepIn X.K (.ref g) = true) (hN : X.N[i]? = some x) (hv : Vis X.env.scope x) (ha : PA X (e :: es) t)
    (hd : (x == ("__debug__" : Str)) = false := by decide) (hcd : (x == ("__classdict__" : Str)) = false := by decide)
    (he : starEach (e :: es) X.env = (false, eval e X.env) :: starEach es X.env := by rfl) (hst : (backTo pos (starEach es X.env)).any (·.1) = true := by rfl) : PE X (.Call (.Name x p) (e :: es) [] pos) (tL i g sp t) := by
  refine ⟨fun pins s σ H Q I h => ?_⟩
  obtain ⟨hs, h⟩ := h
  refine wpAny_Call_Name_kw (thn ((pe_var (pos := p) (i := i) hN hv hd hcd).run pins s σ H (fun v H1 => v = .ref g ∧ H1 = H) I ⟨.ref g, hs, rfl, rfl⟩) fun u s1 ⟨v, H1, I1, r1, ev, eH⟩ => ?_)
  subst ev
  rw [eH] at I1
  obtain rfl : u = Value.ref g := r1
  refine PySem.W.callWith_S2 (h₀ := X.base) I.ok.mod.kin hk (thn (ha.run pos pins s1 σ H _ I1 h) fun us s2 ⟨vs, H2, I2, r, q⟩ => ⟨I2.kIn, ?_⟩) he hst
  exact run pins s2 σ H2 vs us Q I2 r q
/-- a class as such a callee -/
theorem run_cls {n : Nat} {C f : Addr} (M : Mk X.K C f) (F : FnR X.prog X.w X.K X.mg X.base CX0 n f sp) (hr : Room (n + 1) X.A) : CallR X (.ref C) (fun vs H Q => mkSp C sp vs H Q E0) :=
  fun pins s σ H xs us Q I rv q => StX.run_makeR M F hr pass0 I rv q
end
/-! ### x in a tuple of instances, none of which is x -/
section
variable {prog : Program} {w : World} {A : Around} {R : Result → Shared → Prop}
theorem tup_containsG (l : Addr) (items : Array Value) (n : Nat) (dd : Option Addr) (sl : Array (Option Value)) (x : Value) (J : Nat → Shared → Prop)
    (turn : ∀ i (h1 : i < items.size) s, J i s → wpAny (model prog w) A.in1 (eqBool items[i] x) (fun r s' => r = false ∧ J (i + 1) s') (fun e s' => R (.error e) s') s)
    (fin : ∀ s, J items.size s → R (.ok (.ret (.bool false))) s) {s : Shared} (hl1 : s.heap.get? l = some { cls := .type "tuple", dict := dd, data := .seq items n, slots := sl }) (h : J 0 s) :
    wpAny (model prog w) A.in1 (Builtin.«tuple.__contains__» ⟨[.ref l, x], []⟩) (GQ.FinOf prog w A R) (fun e s' => R (.error e) s') s := by
  have h0 := h
  obtain ⟨hp, g, d, tk, os⟩ := s
  wp_walk using AutoSeq1.wpAny_loadPart' hl1, MeetsSeq2.wpAny_forIn_array _ (fun rest b s' => b.1 = none ∧ ∃ i, rest = items.toList.drop i ∧ i ≤ items.size ∧ J i s') _
  case turn =>
    rintro y rest b s' ⟨hb', i, hz, hi, hI⟩
    have hlt : i < items.toList.length := by
      rcases Nat.lt_or_ge i items.toList.length with h' | h'
      · exact h'
      · rw [List.drop_of_length_le h'] at hz; cases hz
    have h1 : i < items.size := by simpa using hlt
    rw [List.drop_eq_getElem_cons hlt] at hz
    injection hz with hy hrest
    have hy : y = items[i] := by simpa using hy
    subst hy
    refine wpAny_bind (wpAny_mono (turn i h1 s' hI) (fun r s2 q2 => ?_) fun _ _ x => x)
    obtain ⟨hr, q2⟩ := q2
    subst hr
    wp_walk
    exact ⟨rfl, i + 1, hrest, h1, q2⟩
  case fin =>
    rintro ⟨b1, b2⟩ s' ⟨hb', i, hz, hi, hI⟩
    simp only at hb'
    subst hb'
    have hge : items.size ≤ i := by
      rcases Nat.lt_or_ge i items.toList.length with h' | h'
      · rw [List.drop_eq_getElem_cons h'] at hz; cases hz
      · simpa using h'
    have hi' : i = items.size := by omega
    have hR := fin s' (hi' ▸ hI)
    wp_walk
    exact hR
  case h => exact ⟨rfl, 0, rfl, Nat.zero_le _, h0⟩
end
/-- a promise used below the running def -/
theorem run_fnA {X : Cx} {pins : List (Addr × Obj)} {σ : L2.St} {H : Hp} {s : Shared} {Q : VK} {us : List Value} {vs : List V} {n : Nat} {g : Addr} {sp : Sp} {A : Around} (F : FnR X.prog X.w X.K X.mg X.base CX0 n g sp) (hr : Room n A) (hf : A.frames = X.A.frames)
    (I : Inv X pins σ H s) (r : Vals vs us) (h : sp vs H Q E0) : wpAny (model X.prog X.w) A (call (.ref g) us) (EP X pins σ Q) X.xe s := by
  have e0 : Env0 X.prog X.w X.K X.mg X.base A X.stack s H := by
    have e := I.env0
    exact ⟨by rw [hf]; exact e.frames, e.mod, e.bs, e.bsz, e.funs, e.frf, e.hok, e.bare⟩
  refine wpAny_call (codeAny_mono (F A X.stack s H us vs Q E0 hr e0 r h) fun r s' hq => ?_)
  cases r with
  | error e => exact False.elim hq
  | ok fl =>
    cases fl with
    | ret w => exact I.after hq
    | next => exact False.elim hq
    | brk => exact False.elim hq
    | cont => exact False.elim hq
section
variable {X : Cx} {n : Nat} {g : Addr} {sp : Sp}
/-- x in t, t a tuple of instances of x's class, x none of them and like none -/
def rInInst (K : PySem.W.Frag) (g : Addr) (sp : Sp) : R2 := fun x y H Q => ∃ p xs b C dx fs, y = .ref p ∧ x = .ref b ∧ H b = some (.ins C dx fs) ∧ SqT K H p xs ∧ PySem.W.findIn K (.ref C) "__eq__" = some (some (.ref g)) ∧ PySem.W.isFn K (.ref g) = true ∧
  (∀ (i : Nat) z, xs[i]? = some z → ∃ a dy ws, z = .ref a ∧ a ≠ b ∧ H a = some (.ins C dy ws) ∧ ∀ H1, Same H H1 → sp [.ref a, .ref b] H1 (fun r H2 => r = .bl false ∧ Same H1 H2) E0) ∧ ∀ H', Same H H' → Q (.bl false) H'
theorem op_inInst (F : FnR X.prog X.w X.K X.mg X.base CX0 n g sp) (hr : Room (n + 1) X.A) : OpR X (compareOp .In) (rInInst X.K g sp) := by
  intro pins s σ H x y v u Q I rx ry h
  obtain ⟨p, xs, b, C, dx, fs, rfl, rfl, hb, hx, hs, hf, each, q⟩ := h
  cases (show v = Value.ref b from rx)
  cases (show u = Value.ref p from ry)
  obtain ⟨its, rv, ⟨o, ho, hc, m, hd⟩, _⟩ := I.tuple hx
  obtain ⟨c0, d0, t0, o0⟩ := o
  simp only at hc hd
  subst hc hd
  show wpAny _ _ (do return Value.bool (← contains (.ref p) (.ref b))) _ _ s
  refine wpAny_bind (wpAny_contains_slot ⟨_, ho, rfl⟩ PySem.F.slot_tuple_contains (GQ.call_here PySem.F.slot_tuple_contains ⟨_, ho, rfl⟩ PySem.F.entry_tuple_contains (PySem.F.args_tuple_contains_2 _ _) ?_))
  refine tup_containsG (R := wants _ X.xe) p its.toArray m d0 o0 (.ref b) (fun _ s' => LoopI X pins σ H s') (fun i h1 s' l => ?_) (fun s' l => ?_) ho ⟨H, I, fun _ _ z => z⟩
  · obtain ⟨H1, I1, e1⟩ := l
    have e1 : Same H H1 := e1
    have li : i < xs.length := by rw [rv.length]; simpa using h1
    obtain ⟨w, hw, rw'⟩ := rv.get (List.getElem?_eq_getElem li)
    obtain ⟨a, dy, ws, ez, hne, ha, hsp⟩ := each i _ (List.getElem?_eq_getElem li)
    rw [ez] at rw'
    have ew : its.toArray[i] = Value.ref a := by
      have h2 : i < its.length := by simpa using h1
      rw [List.getElem?_eq_getElem h2] at hw
      have : its.toArray[i] = its[i] := by simp
      rw [this, Option.some.inj hw]
      exact rw'
    rw [ew]
    obtain ⟨od, J⟩ := inst_of I1 (e1 _ _ ha)
    obtain ⟨od', J'⟩ := inst_of I1 (e1 _ _ hb)
    obtain ⟨m', hF⟩ := I1.fr
    have hn : PySem.W.notFirst X.K C (.ref C) = true := by
      unfold PySem.W.notFirst
      simp
    refine GQ.eqBool_refG hne ?_
    refine PySem.W.cmp_K (op := .Eq) (tb := .ref C) hr.in1.units0 hF I1.ok.mod.kin J J'.type hn hs hf ?_
    refine wpAny_mono (run_fnA (us := [.ref a, .ref b]) (vs := [.ref a, .ref b]) F hr.in1 rfl I1 (.cons rfl (.cons rfl .nil)) (hsp H1 e1)) (fun w s2 z => ?_) fun _ _ x => x
    obtain ⟨z', H', I', rz, ⟨ez, ex⟩⟩ := z
    subst ez
    cases (show w = Value.bool false from rz)
    have rz2 : RelV (.bl false) (Value.bool false) := rfl
    refine SlX.cmpback rz2 ?_
    exact ⟨false, rfl, rfl, H', I', e1.trans ex⟩
  · obtain ⟨H1, I1, e1⟩ := l
    exact wpAny_truthy_bool (wpAny_pure ⟨.bl false, H1, I1, rfl, q H1 e1⟩)
/-- list(text) -/
def rListTx : List V → Hp → VK → Prop := fun xs H Q => ∃ z : Str, xs = [.str z] ∧ z.cps.size ≤ sizeLine ∧ ∀ l, H l = none → Q (.ref l) (upd H l (.lst (z.cps.toList.map fun c => V.str ⟨#[c]⟩)))
theorem vals_ix : ∀ {xs : List V} {us : List Value}, xs.length = us.length → (∀ (i : Nat) x, xs[i]? = some x → ∃ u, us[i]? = some u ∧ RelV x u) → Vals xs us
  | [], [], _, _ => .nil
  | [], _ :: _, h, _ => by simp at h
  | _ :: _, [], h, _ => by simp at h
  | x :: xs, u :: us, h, f => by
    obtain ⟨u', hu, r⟩ := f 0 x rfl
    have hu : some u = some u' := hu
    cases hu
    exact .cons r (vals_ix (by simpa using h) fun i y hy => f (i + 1) y hy)
theorem signs_vals {z : Str} {acc : Array Value} (h : ItemsOf (SignAt z) acc z.cps.size) : Vals (z.cps.toList.map fun c => V.str ⟨#[c]⟩) acc.toList := by
  refine vals_ix (by rw [List.length_map, Array.length_toList, Array.length_toList, h.1]) fun i x hx => ?_
  rw [List.getElem?_map] at hx
  cases hc : z.cps.toList[i]? with
  | none => rw [hc] at hx; cases hx
  | some c =>
    rw [hc] at hx
    cases hx
    have hi : i < acc.size := by
      rw [h.1]
      have := (List.getElem?_eq_some_iff.mp hc).1
      simpa using this
    obtain ⟨c', u, hc', hv⟩ := h.2 i acc[i] (by simp [hi])
    have e : c' = c := by
      rw [Array.getElem?_toList] at hc
      rw [hc] at hc'
      exact (Option.some.inj hc').symm
    subst e
    exact ⟨acc[i], by simp [hi], u, hv⟩
theorem cr_listTx (hc : X.calm = true) : CallR X (.type "list") rListTx := by
  intro pins s σ H xs us Q I r h
  obtain ⟨z, rfl, hz, q⟩ := h
  obtain ⟨u, rfl, t, rfl⟩ := vals1 r
  refine call_list_str (hn := hz) (I.ok.hd hc) z t fun h' tk acc c hk ho hacc => ?_
  refine ⟨.ref s.heap.objs.size, _, I.laid (t' := tk) hk (Nat.le_refl _) ?_, rfl, q _ (I.hok.fresh (Nat.le_refl _))⟩
  refine ⟨by rw [List.length_map, Array.length_toList]; exact hz, acc.toList, c, signs_vals hacc, ?_⟩
  rw [ho]
end
end K5
end
section
set_option maxRecDepth 100000
set_option maxHeartbeats 2000000
/-! own rules: a turned tuple, bool(instance) -/
namespace K5
open PySem PySem.Spec PyProof.Rows L2
section
variable {prog : Program} {w : World} {A : Around} {E : Value → Shared → Prop} {s : Shared}
theorem applied_rev {sl : Addr} {u : Tok} {n : Nat} {Q : Int × Int × Nat → Shared → Prop} (hs : s.heap.IsSliceOf sl .none .none (.int (-1) u)) (h : Q ((n : Int) - 1, -1, n) s) :
    wpAny (model prog w) A (Builtin.Slice.sliceApplied (.ref sl) (pure (n : Int))) Q E s := by
  obtain ⟨os, hos, hcs, hds⟩ := id hs
  unfold Builtin.Slice.sliceApplied Builtin.Slice.sliceFields
  refine wpAny_bind (wpAny_bind (wpAny_field hos hds (x := .none) rfl (wpAny_bind (wpAny_field hos hds (x := .none) rfl (wpAny_bind (wpAny_field hos hds (x := .int (-1) u) rfl (wpAny_pure ?_)))))))
  refine wpAny_bind (HT.slicePart_ (.int (-1) u) ?_)
  show wpAny _ _ (if ((-1 : Int) == 0) = true then _ else _) _ _ s
  rw [if_neg (by decide)]
  refine wpAny_bind (HT.slicePart_ .none (wpAny_bind (HT.slicePart_ .none (wpAny_bind (wpAny_pure ?_)))))
  show wpAny _ _ (match Builtin.Slice.sliceAdjust none none (-1) (n : Int) with | (lo, hi) => pure (lo, (-1 : Int), Builtin.Slice.slicePlaces lo hi (-1))) _ _ s
  have e : Builtin.Slice.sliceAdjust none none (-1) (n : Int) = ((n : Int) - 1, -1) := by
    unfold Builtin.Slice.sliceAdjust
    simp
  rw [e]
  have e2 : Builtin.Slice.slicePlaces ((n : Int) - 1) (-1) (-1) = n := by
    unfold Builtin.Slice.slicePlaces
    have h1 : ¬ ((-1 : Int) > 0) := by omega
    simp only [h1, if_false, Int.neg_neg, Int.ediv_one]
    split <;> omega
  show wpAny _ _ (pure ((n : Int) - 1, (-1 : Int), Builtin.Slice.slicePlaces ((n : Int) - 1) (-1) (-1))) _ _ s
  rw [e2]
  exact wpAny_pure h
theorem pick_rev (xs : Array Value) : ((List.range xs.size).filterMap fun (k : Nat) => xs[(((xs.size : Int) - 1) + (k : Int) * (-1)).toNat]?).toArray = xs.toList.reverse.toArray := by
  congr 1
  have e : ∀ k, k < xs.size → xs[(((xs.size : Int) - 1) + (k : Int) * (-1)).toNat]? = xs.toList.reverse[k]? := fun k hk => by
    rw [List.getElem?_reverse (by simpa using hk), ← Array.getElem?_toList]
    have : (((xs.size : Int) - 1) + (k : Int) * (-1)).toNat = xs.toList.length - 1 - k := by
      rw [Array.length_toList]
      omega
    rw [this]
  have fm : ∀ (l : List Nat) (f g : Nat → Option Value), (∀ k ∈ l, f k = g k) → l.filterMap f = l.filterMap g := fun l f g h => by
    induction l with
    | nil => rfl
    | cons k r ih => rw [List.filterMap_cons, List.filterMap_cons, h k List.mem_cons_self, ih fun j hj => h j (List.mem_cons_of_mem _ hj)]
  rw [fm _ _ (fun k => (xs.toList.reverse.toArray)[k]?) fun k hk => by rw [e k (List.mem_range.mp hk)]; simp]
  have h4 := PySem.W.krv_all xs.toList.reverse.toArray
  have hz : xs.toList.reverse.toArray.size = xs.size := by simp
  rw [hz] at h4
  exact h4
theorem getItem_tup_rev {t sl : Addr} {items : Array Value} {u : Tok} {Q : Value → Shared → Prop} (ht : IsTup s.heap t items) (hs : s.heap.IsSliceOf sl .none .none (.int (-1) u))
    (h : Q (.ref s.heap.objs.size) { s with heap := s.heap.push { cls := .type "tuple", data := .seq items.toList.reverse.toArray } }) (hsz : items.size ≤ sizeLine) : wpAny (model prog w) A (getItem (.ref t) (.ref sl)) Q E s := by
  have hso : sizeOk (.seq items.toList.reverse.toArray) := by
    show items.toList.reverse.toArray.size ≤ sizeLine
    rw [List.size_toArray, List.length_reverse, Array.length_toList]
    exact hsz
  obtain ⟨os, hos, hcs, hds⟩ := id hs
  have hTs : s.TypeIs (.ref sl) "slice" := ⟨os, hos, hcs⟩
  unfold getItem
  try with_reducible refine wpAny_holding ?_
  first | refine wpAny_bind (wpAny_pure ?_) | skip
  refine wpAny_bind (wpAny_sequenceKey ht.typeIs (by decide) ?_)
  refine wpAny_bind (wpAny_callSpecial?_slot (name := Str.ofString "__getitem__") ht.typeIs PyProof.Rows.slot_tuple_getitem
    (wpAny_call_entry PyProof.Rows.slot_tuple_getitem ht.typeIs entry_tuple_getitem ?_ (args_tuple_getitem _ _)))
  show wpAny _ _ (Builtin.Tuple.tupleItemsOf (.ref t) >>= _) _ _ s
  refine wpAny_bind (tupleItemsOf_ ht ?_)
  refine wpAny_bind (wpAny_typeOf hTs ?_)
  rw [if_pos (by decide)]
  refine wpAny_bind (applied_rev hs ?_)
  show wpAny _ _ (if (((items.size : Int) - 1) == 0 && (-1 : Int) == 1 && items.size == items.size) = true then _ else _) _ _ s
  rw [if_neg (by simp)]
  rw [pick_rev]
  first
    | exact wpAny_bind (m := Builtin.Tuple.tupleExact _) (wpAny_newObj_type (wpAny_pure ⟨_, rfl, wpAny_pure h⟩) hso)
    | exact wpAny_bind (m := Builtin.Tuple.tupleExact _) (wpAny_newObj_type (wpAny_bind (wpAny_pure (wpAny_pure ⟨_, rfl, wpAny_pure h⟩))) hso)
    | exact wpAny_bind (wpAny_bind (m := Builtin.Tuple.tupleExact _) (wpAny_newObj_type (wpAny_pure (wpAny_pure ⟨_, rfl, wpAny_pure h⟩)) hso))
    | exact wpAny_bind (wpAny_bind (m := Builtin.Tuple.tupleExact _) (wpAny_newObj_type (wpAny_pure ⟨_, rfl, wpAny_pure h⟩) hso))
/-- bool(v), by the truth of v wherever it is asked -/
theorem call_bool_of {v : Value} {Q : Value → Shared → Prop} (h : ∀ A' : Around, A' = A.in1 ∨ A' = A.in1.in1 → wpAny (model prog w) A' (truthy v) (fun b s' => Q (.bool b) s') E s) : wpAny (model prog w) A (call (.type "bool") [v]) Q E s := by
  obtain ⟨c, tl, hmro⟩ := PySem.F.called_bool.mro
  have hmade := PySem.F.called_bool.made
  have hsub := PySem.F.called_bool.sub
  refine wpAny_call (codeAny_of_tree ?_)
  show wpAny _ _ (callAny (.type "bool") _) _ _ _
  refine wpAny_pure ⟨Code.quiet_builtin _ (by decide +kernel), codeAny_builtin PySem.F.entry_type_call ?_⟩
  rw [Around.under_plain (weight_type_call_type "bool" [v] []) rfl]
  have n1 := PySem.F.called_bool.notType
  have n2 := PySem.F.called_bool.canCreate
  have n3 := PySem.F.typeCall_bool_1 v
  repeat (any_goals (first | assumption | wp_step))
  refine codeAny_mono (codeAny_call_builtin (R := wants (fun obj s₁ => s₁.TypeIs obj "bool" ∧ Q obj s₁) E) PySem.F.called_bool.plain PySem.F.entry_bool_new (wpAny_of_eq (PySem.F.newCall_bool_1 v) ?_)) fun r s₁ hr => ?_
  · obtain ⟨hp, g, d, tk, os⟩ := s
    have f1 := PySem.F.conv_sub_bool
    have fin : ∀ A' : Around, A' = A.in1 ∨ A' = A.in1.in1 → wpAny (model prog w) A' (truthy v) (fun b s' => s'.TypeIs (.bool b) "bool" ∧ Q (.bool b) s') E ⟨hp, g, d, tk, os⟩ := fun A' hA => wpAny_mono (h A' hA) (fun b s' q => ⟨rfl, q⟩) fun _ _ z => z
    repeat (any_goals (first | assumption | (with_reducible refine wpAny_mono (fin _ ?_) ?_ fun _ _ z => z) | wp_step))
    all_goals first | exact .inl rfl | exact .inr rfl | skip
    exact fun b s' q => wpAny_pure ⟨q.1, q.2⟩
  · cases r with
    | error e => exact hr
    | ok fl =>
      cases fl with
      | ret obj =>
        obtain ⟨hT, hq⟩ := hr
        have hli := PySem.F.called_bool.init.lookup
        have hbi := PySem.F.called_bool.init.bind obj
        repeat (any_goals (first | assumption | wp_step))
        refine codeAny_mono (codeAny_call_builtin PySem.F.called_bool.init.plain F.entry_object_init (PySem.F.called_bool.init.check _ _ _ _ _ _ _ _ hT (PySem.F.args_object_init_2 obj v)
          (object_init_meets (rest := [v]) PySem.F.called_bool.init.lookup hmade PySem.F.newNe_bool prog w A.in1 (wants (fun r s₂ => r = .none ∧ Q obj s₂) E) s₁ ⟨hT, rfl, hq⟩))) fun r₂ s₂ hr₂ => ?_
        cases r₂ with
        | error e => exact hr₂
        | ok fl₂ =>
          cases fl₂ with
          | ret r =>
            obtain ⟨rfl, hq⟩ := hr₂
            repeat (any_goals (first | assumption | wp_step))
          | _ => exact hr₂.elim
      | _ => exact hr.elim
end
section
variable {X : Cx} {n : Nat} {g : Addr} {sp : Sp}
/-- bool(x) of an instance with its own __bool__ -/
def rBoolOwn (K : PySem.W.Frag) (g : Addr) (sp : Sp) : List V → Hp → VK → Prop := fun xs H Q => ∃ a, xs = [V.ref a] ∧ Dun K H a "__bool__" g ∧ sp [.ref a] H (fun z H' => ∃ k, z = .bl k ∧ Q (.bl k) H') E0
theorem call_boolOwn (F : FnR X.prog X.w X.K X.mg X.base CX0 n g sp) (hr : Room (n + 2) X.A) : CallR X (.type "bool") (rBoolOwn X.K g sp) := by
  intro pins s σ H xs us Q I r h
  obtain ⟨a, rfl, ⟨C, dx, fs, ea, hs, hf⟩, q⟩ := h
  rw [Vals.ref1 r]
  obtain ⟨od, J⟩ := inst_of I ea
  obtain ⟨m, hF⟩ := I.fr
  refine call_bool_of fun A' hA => ?_
  have hr' : Room n A' ∧ A'.frames = X.A.frames := by
    rcases hA with rfl | rfl
    · exact ⟨hr.in1.mono (Nat.le_succ _), rfl⟩
    · exact ⟨hr.in1.in1, rfl⟩
  refine PySem.W.truthy_K hF I.ok.mod.kin J hs hf (wpAny_mono (run_fnA (us := [.ref a]) (vs := [.ref a]) F hr'.1 hr'.2 I (.cons rfl .nil) q) (fun w s' z => ?_) fun _ _ x => x)
  obtain ⟨z', H', I', rz, k, ez, qz⟩ := z
  subst ez
  cases (show w = Value.bool k from rz)
  exact ⟨.bl k, H', I', rfl, qz⟩
/-- t[::-1] -/
def tRevT (K : PySem.W.Frag) (te : TE) : TE := fun σ H Q => te σ H fun x H1 => ∃ a xs, x = .ref a ∧ SqT K H1 a xs ∧ ∀ p, H1 p = none → Q (.ref p) (upd H1 p (.tup xs.reverse))
theorem pe_revT {e : Expr} {te : TE} {k : Nat} {p1 p2 p3 pos : Pos} (he : PE X e te) : PE X (.Subscript e (.Slice none none (some (.UnaryOp .USub (.Constant (.int 1) k p1) p2)) p3) pos) (tRevT X.K te) := by
  refine ⟨fun pins s σ H Q I h => ?_⟩
  refine Subscript_ (thn (he.run pins s σ H _ I h) fun v s1 ⟨x, H1, I1, r1, q1⟩ => ?_)
  obtain ⟨a, xs, ex, hx, q⟩ := q1
  subst ex
  cases r1
  have hst : PO X (some (.UnaryOp .USub (.Constant (.int 1) k p1) p2)) (tPart (tUn (rU fun i => .int (-i)) (tC (.int 1)))) := po_some (pe_un un_neg pe_int)
  refine wpAny_Slice (thn (po_none.run pins s1 σ H1 (fun o H2 => o = none ∧ H2 = H1) I1 ⟨rfl, rfl⟩) fun vl s2 ⟨l, H2, I2, pl, el, e2⟩ => ?_)
  subst el e2
  refine thn (po_none.run pins s2 σ H2 (fun o H3 => o = none ∧ H3 = H2) I2 ⟨rfl, rfl⟩) fun vu s3 ⟨u, H3, I3, pu, eu, e3⟩ => ?_
  subst eu e3
  refine thn (hst.run pins s3 σ H3 (fun o H4 => o = some (-1) ∧ H4 = H3) I3 ⟨1, rfl, -1, rfl, rfl, rfl⟩) fun vs s4 ⟨o, H4, I4, ps, eo, e4⟩ => ?_
  subst eo e4
  cases pl
  cases pu
  cases ps with
  | int _ tk =>
  have I5 : Inv X pins σ H4 { s4 with heap := s4.heap.push { cls := .type "slice", data := .fields #[.none, .none, .int (-1) tk] } } := I4.kept (t' := s4.toks) fun b ob q => Heap.get?_push_of_some _ q
  obtain ⟨its, r, ht, hz⟩ := I5.tuple hx
  have hlen := r.length
  show wpAny (model X.prog X.w) X.A (subscriptTail e (.Slice none none (some (.UnaryOp .USub (.Constant (.int 1) k p1) p2)) p3) (.ref a) (.ref s4.heap.objs.size)) (EP X pins σ Q) X.xe { s4 with heap := s4.heap.push { cls := .type "slice", data := .fields #[.none, .none, .int (-1) tk] } }
  refine tail_any (ops := [.ref a, .ref s4.heap.objs.size]) (IsTup.typeIs ht) (PyProof.Rows.slot_tuple_getitem.lookup) ?_ (by with_unfolding_all rfl)
  refine getItem_tup_rev ht (Heap.IsSliceOf.new _ _ _ _) ?_ (by rw [List.size_toArray]; omega)
  refine ⟨.ref _, _, I5.laid (t' := s4.toks) (o := .tup xs.reverse) (fun b ob q => Heap.get?_push_of_some _ q) (Nat.le_refl _) ?_, rfl, q _ (I5.hok.fresh (Nat.le_refl _))⟩
  exact ⟨by rw [List.length_reverse]; exact hz, _, r.reverse, ⟨_, Heap.get?_push_size _ rfl, rfl, _, rfl⟩⟩
end
end K5
end
section
set_option maxRecDepth 100000
set_option maxHeartbeats 2000000
/-! own rules: a method of a class that says super(): its frame bears the cell of its class -/
namespace K5
open PySem PySem.Spec PyProof.Rows L2
/-! ### the frame -/
theorem cellsFrom_acc : ∀ (names : List (Str × NameKind)) (n : Nat) (acc : List (Str × Addr)), cellsFrom n names acc = cellsFrom n names [] ++ acc
  | [], n, acc => rfl
  | (x, k) :: r, n, acc => by
    unfold cellsFrom
    by_cases h : (k == NameKind.cell) = true
    · rw [if_pos h, if_pos h, cellsFrom_acc r (n + 1) ((x, n) :: acc), cellsFrom_acc r (n + 1) [(x, n)], List.append_assoc]
      rfl
    · rw [if_neg h, if_neg h]
      exact cellsFrom_acc r n acc
theorem cellsFrom_kind : ∀ (names : List (Str × NameKind)) (n : Nat) (acc : List (Str × Addr)) {x : Str} {c : Addr}, (x, c) ∈ cellsFrom n names acc → (x, NameKind.cell) ∈ names ∨ (x, c) ∈ acc
  | [], n, acc, x, c, h => .inr h
  | (y, k) :: r, n, acc, x, c, h => by
    unfold cellsFrom at h
    by_cases hk : (k == NameKind.cell) = true
    · rw [if_pos hk] at h
      rcases cellsFrom_kind r _ _ h with q | q
      · exact .inl (List.mem_cons_of_mem _ q)
      · rcases List.mem_cons.mp q with q | q
        · cases q
          rw [beq_iff_eq.mp hk]
          exact .inl List.mem_cons_self
        · exact .inr q
    · rw [if_neg hk] at h
      rcases cellsFrom_kind r _ _ h with q | q
      · exact .inl (List.mem_cons_of_mem _ q)
      · exact .inr q
abbrev envS (qual : Str) (scope : Scope) (L f : Addr) (cd : Value) (cc : Addr) : Env := PySem.W.envX qual scope L f cd (cellsFrom (L + 1) scope.names [(clN, cc)])
/-- names: the parameters first; its one free name is the class's cell -/
structure SScope (N P : List Str) (sc : Scope) : Prop where
  kind : sc.kind = .function
  co : sc.isCoroutine = false
  gen : sc.isGenerator = false
  nd : N.Nodup
  pre : N.take P.length = P
  par : ∀ x ∈ P, sc.names.lookup x = some .local ∨ sc.names.lookup x = some .cell
  free : ∀ y ∈ sc.names, y.2 = .free → y.1 = clN
  clk : ∀ y ∈ sc.names, y.1 = clN → y.2 = .free
  notP : clN ∉ P
theorem SScope.look {N P : List Str} {sc : Scope} (S : SScope N P sc) (n : Nat) (cc : Addr) {x : Str} (h : x ≠ clN) : (cellsFrom n sc.names [(clN, cc)]).lookup x = (cellsFrom n sc.names []).lookup x := by
  rw [cellsFrom_acc, List.lookup_append]
  have e : ([(clN, cc)] : List (Str × Addr)).lookup x = none := by
    rw [List.lookup_cons]
    have : (x == clN) = false := beq_eq_false_iff_ne.mpr h
    rw [this]
    rfl
  rw [e]
  cases (cellsFrom n sc.names []).lookup x <;> rfl
theorem SScope.none {N P : List Str} {sc : Scope} (S : SScope N P sc) (n : Nat) : (cellsFrom n sc.names []).lookup clN = none := by
  cases e : (cellsFrom n sc.names []).lookup clN with
  | none => rfl
  | some c =>
    rcases cellsFrom_kind _ _ _ (PySem.mem_of_lookup e) with q | q
    · exact nomatch (show NameKind.cell = NameKind.free from S.clk _ q rfl)
    · exact nomatch q
theorem SScope.look2 {N P : List Str} {sc : Scope} (S : SScope N P sc) (n : Nat) (cc : Addr) : (cellsFrom n sc.names [(clN, cc)]).lookup clN = some cc := by
  rw [cellsFrom_acc, List.lookup_append, S.none]
  rw [List.lookup_cons]
  simp
section
variable {M : Model} {A : Around} {E : Value → Shared → Prop} {s : Shared}
theorem store_cl {env env' : Env} {x : Str} {v : Value} (h1 : env'.scope = env.scope) (h2 : env'.locals = env.locals) (h3 : env'.globals = env.globals) (h4 : env'.cells.lookup x = env.cells.lookup x) : storeName env' x v = storeName env x v := by
  obtain ⟨sc, lo, gl, ce, qu, fu, co, fr, bu⟩ := env
  obtain ⟨sc', lo', gl', ce', qu', fu', co', fr', bu'⟩ := env'
  simp only at h1 h2 h3 h4
  subst h1 h2 h3
  unfold storeName PySem.cellOf localSet
  simp only [h4]
  rfl
theorem newEnvS {N P : List Str} {scope : Scope} {binds : List (Str × Value)} {qual : Str} {f cc : Addr} {code : Value} {Q : Env → Shared → Prop} (S : SScope N P scope)
    (hp : ∀ x ∈ binds, x.1 ∈ P)
    (hQ : ∀ s', InCallC s s.heap.objs.size (bindL (envOfC qual scope s.heap.objs.size f code).kindOf binds fun _ => none) (cellsFrom (s.heap.objs.size + 1) scope.names []) (bindC (envOfC qual scope s.heap.objs.size f code).kindOf binds fun _ => none) s' → Q (envS qual scope s.heap.objs.size f code cc) s') :
    wpAny M A (newFunctionEnv scope mainGlobals [(clN, cc)] binds (qual ++ ".<locals>.") (some f) code none builtinsNs) Q E s := by
  have hk := S.kind
  have hkind : ∀ x ∈ binds, (envOfC qual scope s.heap.objs.size f code).kindOf x.1 = some .local ∨ ((envOfC qual scope s.heap.objs.size f code).kindOf x.1 = some .cell ∧ ((envOfC qual scope s.heap.objs.size f code).cells.lookup x.1).isSome = true) := fun x hx => by
    rcases S.par x.1 (hp x hx) with q | q
    · exact .inl q
    · exact .inr ⟨q, PySem.W.cellsFrom_some _ _ _ (.inl q)⟩
  simp only [newFunctionEnv, Option.isSome_none, Bool.false_eq_true, if_false]
  refine wpAny_bind (wpAny_alloc ?_)
  refine wpAny_bind (wpAny_layCells _ (fun name kind cells => by cases hkc : kind == NameKind.cell <;> simp [hkc]) _ _ _ _ ?_)
  have ok := cellsFrom_ok scope.names (s.heap.push { cls := .type "frame", data := .dict #[] }) (s.heap.objs.size + 1) [] ⟨fun _ _ hm => (nomatch hm), List.Pairwise.nil⟩ (by rw [Heap.size_push]; exact Nat.le_refl _)
  rw [Heap.size_push] at ok
  rw [show ({ s with heap := s.heap.push { cls := .type "frame", data := .dict #[] } } : Shared).heap.objs.size = s.heap.objs.size + 1 from Heap.size_push ..]
  have body : ∀ (u : PUnit), (forIn binds u fun (x : Str × Value) (_ : PUnit) => (do storeName (envS qual scope s.heap.objs.size f code cc) x.1 x.2; pure (ForInStep.yield PUnit.unit) : Sem (ForInStep PUnit))) =
      (forIn binds u fun (x : Str × Value) (_ : PUnit) => (do storeName (envOfC qual scope s.heap.objs.size f code) x.1 x.2; pure (ForInStep.yield PUnit.unit) : Sem (ForInStep PUnit))) := by
    intro u
    clear hQ hkind
    induction binds with
    | nil => rfl
    | cons b r ih =>
      have hb : b.1 ≠ clN := fun e => S.notP (e ▸ hp b List.mem_cons_self)
      rw [List.forIn_cons, List.forIn_cons, store_cl (env := envOfC qual scope s.heap.objs.size f code) (env' := envS qual scope s.heap.objs.size f code cc) rfl rfl rfl (S.look _ _ hb)]
      have e := ih fun x hx => hp x (List.mem_cons_of_mem _ hx)
      congr 1
      funext q
      cases q with
      | done b => rfl
      | yield b => cases b; exact e
  refine wpAny_bind ?_
  show wpAny _ _ (forIn binds PUnit.unit fun (x : Str × Value) (_ : PUnit) => (do storeName (envS qual scope s.heap.objs.size f code cc) x.1 x.2; pure (ForInStep.yield PUnit.unit) : Sem (ForInStep PUnit))) _ _ _
  rw [body]
  refine wpAny_bindParams (s₀ := s) (env := envOfC qual scope s.heap.objs.size f code)
    _ (fun _ _ _ => rfl) hk binds (fun _ => none) (fun _ => none) _ _
    ⟨⟨⟨_, _, rfl⟩, (Heap.Ns.new s.heap (.type "frame")).keeps (pushCells_keeps _ _), fun b o e => pushCells_keeps _ _ b o (Heap.get?_push_of_some _ e), Nat.le_refl _⟩,
      fun n c hc => (ok.empty n c (mem_of_lookup hc)).1, ok.apart, fun n c hm => (ok.empty n c hm).2⟩
    hkind fun s' x => wpAny_pure (hQ s' x)
end
/-- the context of such a body -/
def cxS (P : Program) (w : World) (K : PySem.W.Frag) (mg : Str → Option Value) (base : Heap) (N : List Str) (qual : Str) (scope : Scope) (f : Addr) (cd : Value) (cc : Addr) (A : Around) (outer : List Env) (s : Shared) (H : Hp) (E : XK) : Cx where
  prog := P
  w := w
  K := K
  mg := mg
  base := base
  A := A.deeper (envS qual scope s.heap.objs.size f cd cc)
  N := N
  s_0 := s
  H_0 := H
  env := envS qual scope s.heap.objs.size f cd cc
  outer := outer
  stack := envS qual scope s.heap.objs.size f cd cc :: outer
  ex := []
  calm := true
  fn := fun x => !(x == clN)
  pn := []
  xe := fun e s' => wpAny (model P w) (A.deeper (envS qual scope s.heap.objs.size f cd cc)) (leaving (envS qual scope s.heap.objs.size f cd cc) e) (fun _ s'' => CX0 outer H s E e s'') (fun e' s'' => CX0 outer H s E e' s'') s'
theorem inv_startS {P : Program} {w : World} {K : PySem.W.Frag} {mg : Str → Option Value} {base : Heap} {N ps : List Str} {qual : Str} {scope : Scope} {f : Addr} {cd : Value} {cc : Addr} {A : Around} {outer : List Env} {s s1 : Shared} {H : Hp} {E : XK} {us : List Value} {vs : List V} {oc : Obj} {vc : Option Value}
    (S : SScope N ps scope) (hd : A.handled = none) (e0 : Env0 P w K mg base A outer s H) (hl : vs.length = ps.length) (r : Vals vs us) (hcell : K.lookup cc = some oc) (hcd : oc.data = .cell vc)
    (x : InCallC s s.heap.objs.size (bindL (envOfC qual scope s.heap.objs.size f cd).kindOf (ps.zip us) fun _ => none) (cellsFrom (s.heap.objs.size + 1) scope.names []) (bindC (envOfC qual scope s.heap.objs.size f cd).kindOf (ps.zip us) fun _ => none) s1) :
    Inv (cxS P w K mg base N qual scope f cd cc A outer s H E) [] (L2.start N vs) H s1 := by
  have hpl : ps.length ≤ N.length := by have := congrArg List.length S.pre; rw [List.length_take] at this; omega
  obtain ⟨h1, tk, rfl, hk⟩ := x.done
  have noA : ∀ b : Addr, b ∉ (cxS P w K mg base N qual scope f cd cc A outer s H E).ex := fun b z => absurd (show b ∈ ([] : List Addr) from z) (by simp)
  have hb : base.get? cc = some oc := e0.mod.kin _ _ hcell
  have hs : s.heap.get? cc = some oc := (e0.bs _ _ hb).1
  have ccL : cc < s.heap.objs.size := Heap.lt_size hs
  have sp : ∀ {y : Str} {c : Addr}, (cellsFrom (s.heap.objs.size + 1) scope.names [(clN, cc)]).lookup y = some c → (y = clN ∧ c = cc) ∨ (y ≠ clN ∧ (cellsFrom (s.heap.objs.size + 1) scope.names []).lookup y = some c) := fun {y c} h => by
    by_cases hy : y = clN
    · subst hy
      rw [S.look2] at h
      exact .inl ⟨rfl, (Option.some.inj h).symm⟩
    · rw [S.look _ _ hy] at h
      exact .inr ⟨hy, h⟩
  refine ⟨⟨e0.mod, S.kind, rfl, rfl, Nat.le_refl _, fun y z c h1 h2 => ?_, fun y hy => ?_, fun y c hf h => ?_, fun _ => hd, Around.frames_deeper e0.frames, .inr ⟨rfl, rfl⟩, fun b z => absurd z (noA b), e0.bs, e0.bsz, fun b _ _ => noA b, fun b z => absurd z (noA b), e0.funs, e0.frf⟩,
    rfl, e0.bare, Un.kept hk, ⟨_, x.toInCall.ns, fun i y v h1 h2 h3 => ?_⟩, fun y c h => ?_, e0.hok.fresh (Nat.le_refl _), fun y c h => ?_, fun p hp => absurd (show p ∈ ([] : List (Addr × Obj)) from hp) (by simp), e0.hok.kept hk, ?_⟩
  · rcases sp h1 with ⟨a1, a2⟩ | ⟨a1, a2⟩ <;> rcases sp h2 with ⟨b1, b2⟩ | ⟨b1, b2⟩
    · rw [a1, b1]
    · exact absurd (x.above z c (PySem.mem_of_lookup b2)) (by rw [a2]; exact Nat.not_lt.mpr (Nat.le_of_lt ccL))
    · exact absurd (x.above y c (PySem.mem_of_lookup a2)) (by rw [b2]; exact Nat.not_lt.mpr (Nat.le_of_lt ccL))
    · exact name_of_addr x.apart (PySem.mem_of_lookup a2) (PySem.mem_of_lookup b2)
  · have hy : scope.names.lookup y = some .cell ∨ scope.names.lookup y = some .free := hy
    rcases hy with hy | hy
    · obtain ⟨c, hc⟩ := cell_has (n := s.heap.objs.size + 1) hy
      have ne : y ≠ clN := fun e => nomatch (show NameKind.cell = NameKind.free from S.clk _ (PySem.mem_of_lookup hy) e)
      exact ⟨c, by show (cellsFrom _ _ _).lookup y = _; rw [S.look _ _ ne]; exact hc⟩
    · have e := S.free _ (PySem.mem_of_lookup hy) rfl
      have e : y = clN := e
      subst e
      exact ⟨cc, S.look2 _ _⟩
  · rcases sp h with ⟨a1, a2⟩ | ⟨a1, a2⟩
    · rw [a1] at hf
      exact absurd hf (by show ¬ (!(clN == clN)) = true; simp)
    · exact Nat.le_of_lt (x.above y c (PySem.mem_of_lookup a2))
  · have hi : i < vs.length := by
      unfold L2.start at h2
      by_cases hi : i < vs.length
      · exact hi
      · rw [List.getElem?_append_right (by simpa using hi)] at h2
        rw [List.getElem?_replicate] at h2
        split at h2 <;> cases h2
    have ha : vs[i]? = some v := by
      unfold L2.start at h2
      rw [List.getElem?_append_left (by simpa using hi), List.getElem?_map] at h2
      cases e : vs[i]? with
      | none => rw [e] at h2; cases h2
      | some a => rw [e] at h2; cases h2; rfl
    obtain ⟨u, hu, rv⟩ := r.get ha
    have hp : ps[i]? = some y := by
      rw [← S.pre, List.getElem?_take_of_lt (by omega)]; exact h1
    have ndP : ps.Nodup := by rw [← S.pre]; exact S.nd.sublist (List.take_sublist _ _)
    refine ⟨u, rv, ?_⟩
    rcases S.par y (List.mem_of_getElem? hp) with k | k
    · exact .inl ⟨k, bindL_get ndP hp hu k⟩
    · obtain ⟨c, e⟩ := cell_has (n := s.heap.objs.size + 1) k
      have ne : y ≠ clN := fun e => nomatch (show NameKind.cell = NameKind.free from S.clk _ (PySem.mem_of_lookup k) e)
      refine .inr ⟨.inl k, c, by show (cellsFrom _ _ _).lookup y = _; rw [S.look _ _ ne]; exact e, ?_⟩
      have q := x.cell y c e
      rw [bindC_get ndP hp hu (by show scope.names.lookup y ≠ _; rw [k]; decide)] at q
      exact q
  · rcases sp h with ⟨a1, a2⟩ | ⟨a1, a2⟩
    · rw [a2]
      exact ⟨vc, oc, hk _ _ hs, hcd⟩
    · exact ⟨_, x.cell y c a2⟩
  · rcases sp h with ⟨a1, a2⟩ | ⟨a1, a2⟩
    · rw [a2]
      exact (e0.bs _ _ hb).2
    · exact e0.hok.fresh (Nat.le_of_lt (x.above y c (PySem.mem_of_lookup a2)))
  · unfold L2.start
    show _ = N.length
    rw [List.length_append, List.length_map, List.length_replicate]
    omega
/-! ### statements where the running code is known -/
structure PSt (X : Cx) (c : Code) (st : Stmt) (t : TS) : Prop where
  run : ∀ (pins : List (Addr × Obj)) (s : Shared) (σ : L2.St) (H : Hp) (D : Ends), Inv X pins σ H s → t D σ H → _root_.PySem.wpAt (model X.prog X.w) X.A c (exec st X.env) (SP X pins D) X.xe s
structure PSts (X : Cx) (c : Code) (st : List Stmt) (t : TS) : Prop where
  run : ∀ (pins : List (Addr × Obj)) (s : Shared) (σ : L2.St) (H : Hp) (D : Ends), Inv X pins σ H s → t D σ H → _root_.PySem.wpAt (model X.prog X.w) X.A c (execs st X.env) (SP X pins D) X.xe s
section
variable {X : Cx} {c : Code} {st : Stmt} {rest : List Stmt} {t u : TS}
theorem PSt.of (h : PS X st t) : PSt X c st t := ⟨fun pins s σ H D I q => _root_.PySem.wpAt_of_wpAny (h.run pins s σ H D I q)⟩
theorem PSts.of (h : PSs X rest t) : PSts X c rest t := ⟨fun pins s σ H D I q => _root_.PySem.wpAt_of_wpAny (h.run pins s σ H D I q)⟩
theorem psts_cons (h1 : PSt X c st t) (h2 : PSts X c rest u) : PSts X c (st :: rest) (tSeq t u) := by
  refine ⟨fun pins s σ H D I h => ?_⟩
  refine ks_wpAt_execs_cons (ks_wpAt_mono (h1.run pins s σ H { D with nx := u D } I h) (fun f s1 q => ?_) fun _ _ z => z)
  cases f with
  | next =>
    obtain ⟨σ', H', I', q⟩ := q
    exact h2.run pins s1 σ' H' D I' q
  | ret v => exact q
  | brk => exact q
  | cont => exact q
/-- super().m(e, ..), self in the slot 0; g: what the classes above D have as m -/
def tSup (K : PySem.W.Frag) (D g : Addr) (m : Str) (sp : Sp) (t : TA) : TS := fun Dn σ H => ∃ x C dx fs, σ[0]? = some (some (.ref x)) ∧ H x = some (.ins C dx fs) ∧ PySem.W.mroIn K C (.ref D) = some true ∧ PySem.W.ks_superIn K C D m = some (some (.ref g)) ∧
  t σ H fun vs H1 => sp (.ref x :: vs) H1 (fun _ H2 => Dn.nx σ H2) E0
/-- what of the text such a call needs -/
structure SupK (P : Program) (K : PySem.W.Frag) (f cda cc D g : Addr) (slf : Str) : Prop where
  def_ : ∃ oc od fd osl ar, K.lookup f = some ⟨oc, od, .func fd, osl⟩ ∧ (fd.params.posonlyargs ++ fd.params.args).head? = some ar ∧ ar.arg = slf
  code : ∃ ccl cdd vs ccs file tf, K.lookup cda = some ⟨ccl, cdd, .fields vs, ccs⟩ ∧ vs[2]? = some (.str file tf) ∧ ((P.main.file : Str) == file) = true
  cell : ∃ cl cld csl, K.lookup cc = some ⟨cl, cld, .cell (some (.ref D)), csl⟩
  isC : PySem.W.isClsIn K D = true
  free : PySem.W.nsIn K mainGlobals "super" = some none
  top : (P.main.scope.names.lookup ("super" : Str)).isSome = false
  stat : PySem.W.nsIn K cStatics "thirdparty.any" = some none
  ty : PySem.W.typeIn K (.ref g) = some (.type "function")
  fi : PySem.W.fnIn K g = true
theorem pst_super {P0 : Program} {body : List Stmt} {f cda cc D g : Addr} {slf m qual : Str} {scope : Scope} {L : Addr} {p0 p1 apos pos pos' : Pos} {e : Expr} {es : List Expr} {n : Nat} {sp : Sp} {ta : TA} {pl : Sem Bool} (k : SupK X.prog X.K f cda cc D g slf)
    (hen : X.env = envS qual scope L f (.ref cda) cc) (hks : scope.names.lookup ("super" : Str) = some .globalImplicit) (hkc : scope.names.lookup clN = some .free) (hka : scope.names.lookup slf = some .local) (hcells : (cellsFrom (L + 1) scope.names [(clN, cc)]).lookup clN = some cc)
    (hN : X.N[0]? = some slf) (hm : (m == ("__class__" : Str)) = false) (F : FnR X.prog X.w X.K X.mg X.base CX0 n g sp) (hr : Room n X.A) (ha : PA X (e :: es) ta) (hbt : bootBuiltins "super" = some (.type "super") := by decide +kernel)
    (hst : starEach (e :: es) X.env = (false, eval e X.env) :: starEach es X.env := by rfl) (hpl : (backTo pos (starEach es X.env)).any (·.1) = false := by rfl)
    (ht : eval (.Call (.Attribute (.Call (.Name "super" p0) [] [] p1) m apos) (e :: es) [] pos) X.env = (do
      let ov ← attributeBase (.Call (.Name "super" p0) [] [] p1) m X.env (eval (.Call (.Name "super" p0) [] [] p1) X.env)
      standAt apos.atName
      let (f, first) ← holding [ov] (getMethod ov m pl)
      callWith pos f first (backTo pos (starEach (e :: es) X.env)) []) := by rfl) (hsw : swapsWith (.Call (.Attribute (.Call (.Name "super" p0) [] [] p1) m apos) (e :: es) [] pos) none pos'.line X.env = pure false := by rfl) :
    PSt X (.func body X.env) (.Expr (.Call (.Attribute (.Call (.Name "super" p0) [] [] p1) m apos) (e :: es) [] pos) pos') (tSup X.K D g m sp ta) := by
  refine ⟨fun pins s σ H Dn I h => ?_⟩
  obtain ⟨x, C, dx, fs, h0, hx, hsub, hsup, q⟩ := h
  obtain ⟨oc, od, fd, osl, ar, hdef, hhead, rfl⟩ := k.def_
  obtain ⟨ccl, cdd, vs, ccs, file, tf, hcode, hvs, hfile⟩ := k.code
  obtain ⟨cl, cld, csl, hcell⟩ := k.cell
  obtain ⟨cdD, hD⟩ := Option.isSome_iff_exists.mp (show (PySem.W.clsIn X.K D).isSome = true from k.isC)
  have hkind : X.env.scope.kind = .function := I.ok.kind
  have XK : X.K.In s.heap := I.kIn
  obtain ⟨odx, J⟩ := inst_of I hx
  obtain ⟨mm, hn, hl⟩ := I.loc
  have hloc : X.env.kindOf ar.arg = some .local := by rw [hen]; exact hka
  obtain ⟨u, ru, lk⟩ := hl 0 ar.arg (.ref x) hN h0 (.inl (by rw [hen]; exact hka))
  cases (show u = Value.ref x from ru)
  have hv : mm ar.arg = some (.ref x) := by
    rcases lk with ⟨_, z⟩ | ⟨z, _⟩
    · exact z
    · rw [hloc] at z
      rcases z with z | z <;> cases z
  refine ks_wpAt_Expr_any ?_ I.quiet hsw
  refine ks_wpAt_MethodCall (pl := pl) ?_ ht
  have hD2 : ∃ oD, s.heap.get? D = some oD ∧ oD.data = .cls cdD := by
    unfold PySem.W.clsIn at hD
    split at hD
    · rename_i c d cd' sl ho
      cases hD
      exact ⟨_, XK _ _ ho, rfl⟩
    · cases hD
  obtain ⟨oD, hD1, hDd⟩ := hD2
  have eKs : X.env.kindOf "super" = some .globalImplicit := by rw [hen]; exact hks
  have eKc : X.env.kindOf "__class__" = some .free := by rw [hen]; exact hkc
  obtain ⟨mb, hb1, hb2⟩ := I.mod.blt
  refine PySem.ks_wpAt_super_base eKs eKc hm (f := f) (by rw [hen]) (XK _ _ hdef) rfl hhead (cc := cda) (by rw [hen]) (XK _ _ hcode) rfl hvs hfile k.top ?_
  refine PySem.W.ks_loadName_global hkind eKs (Calls.loadGlobal_builtin (by rw [I.ok.glob]; exact I.mod.glob.keeps I.bk) (PySem.W.mg_none_of I.ok.mod.kin I.mod.glob k.free) (by rw [I.ok.blt]; exact hb1.keeps I.bk) ((hb2 _ (by decide +kernel)).trans hbt) ⟨rfl, ?_⟩)
  refine wpAny_loadName_free hkind eKc (c := cc) (by rw [hen]; exact hcells) ⟨_, XK _ _ hcell, rfl⟩ ?_
  refine wpAny_loadName_local hkind hloc hn hv ?_
  obtain ⟨hh, gg, dd, tt, oo⟩ := s
  refine ks_wpAny_isType_cls hD1 hDd ⟨rfl, ?_⟩
  refine ks_wpAny_call_super hD1 hDd J.at_ J.cls (fun c e => ?_) (PySem.W.looks_mroIn XK hsub) (fun h' e kk => ?_)
  · have := J.no
    unfold PySem.W.notCls at this
    rw [e] at this
    exact Bool.noConfusion this
  have I1 : Inv X ((hh.objs.size, PySem.W.ks_superObj D x C) :: pins) σ H ⟨h', gg, dd, tt, oo⟩ := ClX.pin_new (t' := tt) I kk (Nat.le_refl _) e (fun v z => nomatch z)
  cases hc : PySem.W.clsIn X.K C with
  | none =>
    unfold PySem.W.ks_superIn at hsup
    rw [hc] at hsup
    cases hsup
  | some cd =>
  unfold PySem.W.ks_superIn at hsup
  rw [hc] at hsup
  have XK' : X.K.In h' := I1.kIn
  obtain ⟨of, hof, hofc⟩ : ∃ of, h'.get? g = some of ∧ of.cls = .type "function" := by
    have ht' : (X.K.lookup g).map (·.cls) = some (.type "function") := k.ty
    cases z : X.K.lookup g with
    | none => rw [z] at ht'; cases ht'
    | some of => rw [z] at ht'; exact ⟨of, XK' _ _ z, Option.some.inj ht'⟩
  refine PySem.ks_wpAny_getMethod_super (l₀ := cd.mro) e (PySem.W.looks_opaque XK' k.stat) ?_ rfl XK' hsup hof hofc (PySem.W.ks_ne XK J hc) hm ?_
  · exact fun A Q E s k q => wpAny_bind ((PySem.W.looks_clsIn XK' hc) A _ E s k (wpAny_pure q))
  have I2 := ClX.met_new (g := g) (C := x) I1
  refine ClX.callwith_cm I2 (ClX.base_none I1 (Nat.le_refl _)) k.fi (thn (ha.run pos _ _ σ H _ I2 q) fun us s3 ⟨ws, H3, I3, r3, q3⟩ => ?_) hst hpl
  refine ⟨⟨ClX.pin_at I3, I3.kIn⟩, ?_⟩
  refine thn (ClX.run_cm F hr pass0 I3 r3 q3) fun u s4 ⟨v, H4, I4, _, q4⟩ => ?_
  exact ⟨σ, H4, ClX.unpin I4, q4⟩
end
/-! ### such defs -/
section
variable {P : Program} {w : World} {K : PySem.W.Frag} {mg : Str → Option Value} {base : Heap} {k : Nat} {f cc cda : Addr} {name qual : Str} {params : Arguments} {body : List Stmt} {scope : Scope} {dV kV doc pm ct oc : Value} {an od : Option Addr}
  {osl : Array (Option Value)} {N ps : List Str} {sp : Sp} {occ : Obj} {vc : Option Value}
theorem run_bndS {A : Around} {outer : List Env} {s : Shared} {H : Hp} {args : Args} {Q : VK} {E : XK} {G : List V → Hp → Prop} (lk : K.lookup f = some ⟨oc, od, .func (PySem.W.ksFn name qual params body scope dV kV doc pm an (.ref cda) ct cc), osl⟩) (hcd : PySem.W.codeIn K (.ref cda) qual = true)
    (S : SScope N ps scope) (hcell : K.lookup cc = some occ) (hcd2 : occ.data = .cell vc) (hr : Room (k + 1) A) (e0 : Env0 P w K mg base A outer s H) (hb : StX.Bnd CX0 P w K mg base (PySem.W.ksFn name qual params body scope dV kV doc pm an (.ref cda) ct cc) args ps A outer s H E G)
    (hbody : ∀ (s2 : Shared) (H2 : Hp) (vs : List V), G vs H2 → Room k (A.deeper (envS qual scope s2.heap.objs.size f (.ref cda) cc)) →
      ∃ t, PSts (cxS P w K mg base N qual scope f (.ref cda) cc A outer s2 H2 E).nox (.func body (envS qual scope s2.heap.objs.size f (.ref cda) cc)) body t ∧ t { nx := fun _ H' => Q .non H', rt := Q } (L2.start N vs) H2) : codeAny (model P w) A (.call (.ref f) args) (CR CX0 outer P w H s Q E) s := by
  have KX : K.In s.heap := e0.mod.kin.keeps fun b o e => (e0.bs b o e).1
  refine codeAny_call_function hr.depth (KX _ _ lk) rfl S.co S.gen rfl (PySem.W.codeRec_of KX hcd) ?_
  refine hb _ _ _ fun s2 H2 vs us e2 un ho hx r hl g => ?_
  have lim : s2.heap.NoLimit := e0.mod.nolimit.keeps fun b o e => (e2.bs b o e).1
  refine newEnvS S (fun y hy => (List.of_mem_zip (show (y.1, y.2) ∈ ps.zip us from hy)).1) fun s1 x => ?_
  refine ⟨lim.keeps x.toInCall.keep, ks_codeAny_funcAt ?_⟩
  obtain ⟨t, ht, hq⟩ := hbody s2 H2 vs g (hr.deeper _)
  have I : Inv (cxS P w K mg base N qual scope f (.ref cda) cc A outer s2 H2 E) [] (L2.start N vs) H2 s1 := inv_startS S hr.hd e2 hl r hcell hcd2 x
  refine ks_wpAt_mono (ht.run [] s1 _ _ _ (I.wish _) hq) (fun fl s' hs => ?_) fun e s' hs => False.elim hs
  have fin : ∀ {σ' : L2.St} {H' : Hp} {v' : V} {u' : Value}, Inv (cxS P w K mg base N qual scope f (.ref cda) cc A outer s2 H2 E).nox [] σ' H' s' → RelV v' u' → Q v' H' → CE outer P w H s Q u' s' :=
    fun {σ' H' v' u'} J rv' q => ⟨v', H', J.os.trans ho, J.bare, un.trans J.base, J.hok, rv', q⟩
  cases fl with
  | ret u' =>
    obtain ⟨v', σ', H', J, rv', q⟩ := hs
    exact fin J rv' q
  | next =>
    obtain ⟨σ', H', J, q⟩ := hs
    exact fin (v' := V.non) (u' := Value.none) J rfl q
  | brk =>
    obtain ⟨_, _, _, q⟩ := hs
    exact False.elim q
  | cont =>
    obtain ⟨_, _, _, q⟩ := hs
    exact False.elim q
/-- positional parameters -/
theorem fn_sup (lk : K.lookup f = some ⟨oc, od, .func (PySem.W.ksFn name qual params body scope dV kV doc pm an (.ref cda) ct cc), osl⟩) (hcd : PySem.W.codeIn K (.ref cda) qual = true)
    (S : SScope N ps scope) (hcell : K.lookup cc = some occ) (hcd2 : occ.data = .cell vc) (len : ∀ vs H Q E, sp vs H Q E → vs.length = ps.length)
    (hb : ∀ us : List Value, us.length = ps.length → bindArgs (PySem.W.ksFn name qual params body scope dV kV doc pm an (.ref cda) ct cc) ⟨us, []⟩ = pure (ps.zip us))
    (hbody : ∀ (A : Around) (outer : List Env) (s : Shared) (H : Hp) (vs : List V) (Q : VK) (E : XK), Room k (A.deeper (envS qual scope s.heap.objs.size f (.ref cda) cc)) → sp vs H Q E →
      ∃ t, PSts (cxS P w K mg base N qual scope f (.ref cda) cc A outer s H E).nox (.func body (envS qual scope s.heap.objs.size f (.ref cda) cc)) body t ∧ t { nx := fun _ H' => Q .non H', rt := Q } (L2.start N vs) H) :
    FnR P w K mg base CX0 (k + 1) f sp := by
  intro A outer s H us vs Q E hr e0 r hsp
  have hl := len _ _ _ _ hsp
  refine run_bndS lk hcd S hcell hcd2 hr e0 (G := fun xs H2 => xs = vs ∧ H2 = H) (fun A' Ex Q' h => ?_) fun s2 H2 xs ⟨ex, eH⟩ hr' => ?_
  · rw [hb us (by rw [← r.length]; exact hl)]
    exact wpAny_pure (h s H vs us e0 (Un.refl ..) rfl (fun e s' z => z) r hl ⟨rfl, rfl⟩)
  · subst ex eH
    exact hbody A outer s2 _ _ Q E hr' hsp
/-- a last parameter with a star -/
theorem fn_supStar {pv : Str} (lk : K.lookup f = some ⟨oc, od, .func (PySem.W.ksFn name qual params body scope dV kV doc pm an (.ref cda) ct cc), osl⟩) (hcd : PySem.W.codeIn K (.ref cda) qual = true)
    (S : SScope N (ps ++ [pv]) scope) (hcell : K.lookup cc = some occ) (hcd2 : occ.data = .cell vc)
    (hb : ∀ us rest : List Value, us.length = ps.length → bindArgs (PySem.W.ksFn name qual params body scope dV kV doc pm an (.ref cda) ct cc) ⟨us ++ rest, []⟩ = (newTuple rest >>= fun t => pure (ps.zip us ++ [(pv, t)])))
    (hbody : ∀ (A : Around) (outer : List Env) (s : Shared) (H : Hp) (vs : List V) (Q : VK) (E : XK), Room k (A.deeper (envS qual scope s.heap.objs.size f (.ref cda) cc)) → sp vs H Q E →
      ∃ t, PSts (cxS P w K mg base N qual scope f (.ref cda) cc A outer s H E).nox (.func body (envS qual scope s.heap.objs.size f (.ref cda) cc)) body t ∧ t { nx := fun _ H' => Q .non H', rt := Q } (L2.start N vs) H) :
    FnR P w K mg base CX0 (k + 1) f (fun vs H Q E => ∃ ws rest, vs = ws ++ rest ∧ ws.length = ps.length ∧ rest.length ≤ sizeLine ∧ ∀ p, H p = Option.none → sp (ws ++ [V.ref p]) (upd H p (.tup rest)) Q E) := by
  intro A outer s H us vs Q E hr e0 r hsp
  obtain ⟨ws, rest, ev, hl, hz, hq⟩ := hsp
  subst ev
  obtain ⟨u1, u2, eu, r1, r2⟩ := StX.vals_split r
  subst eu
  have hn : H s.heap.objs.size = Option.none := e0.hok.fresh (Nat.le_refl _)
  have hl1 : u1.length = ps.length := by rw [← r1.length]; exact hl
  have hl2 : u2.length ≤ sizeLine := by rw [← r2.length]; exact hz
  refine run_bndS lk hcd S hcell hcd2 hr e0 (G := fun xs H2 => ∃ p, H p = Option.none ∧ xs = ws ++ [V.ref p] ∧ H2 = upd H p (.tup rest)) (fun A' Ex Q' h => ?_) fun s2 H2 xs ⟨p, hp, ex, eH⟩ hr' => ?_
  · rw [hb u1 u2 hl1]
    refine wpAny_bind (wpAny_newTuple (wpAny_pure ?_) hl2)
    have new : ObjOk P w (upd H s.heap.objs.size (.tup rest)) (s.heap.push ({ cls := .type "tuple", data := .seq u2.toArray } : Obj)) s.heap.objs.size (.tup rest) := ⟨hz, u2, r2, ⟨_, Heap.get?_push_size _ rfl, rfl, _, rfl⟩⟩
    have un := StX.un_laid (fs := frs outer) (s := s) (o := ({ cls := .type "tuple", data := .seq u2.toArray } : Obj)) (u := .tup rest) hn
    have z := h _ _ (ws ++ [V.ref s.heap.objs.size]) (u1 ++ [Value.ref s.heap.objs.size]) (StX.env0_laid e0 new) un rfl (fun e s' z => z) (r1.append (.cons rfl .nil))
      (by rw [List.length_append, List.length_append, hl] <;> rfl) ⟨_, hn, rfl, rfl⟩
    rw [List.zip_append hl1.symm] at z
    exact z
  · subst ex eH
    exact hbody A outer s2 _ _ Q E hr' (hq p hp)
end
end K5
end
section
set_option maxRecDepth 100000
set_option maxHeartbeats 2000000
/-! the head's facts, read by a Hook of our own: defs by any path, closures, properties, class methods -/
namespace K5
open PySem PySem.Spec PyProof.Rows L2
/-! ### addresses by names -/
theorem recG_ok {K : PySem.W.Frag} {p : Addr} {T : String} {g : Addr} (h : (match PySem.W.recIn K p T with
  | some (.ref g' :: _) => decide (g' = g)
  | _ => false) = true) : ∃ rest, PySem.W.recIn K p T = some (.ref g :: rest) := by
  split at h
  · rename_i g' r e
    rw [of_decide_eq_true h] at e
    exact ⟨r, e⟩
  · cases h
/-! ### the defs -/
theorem Df.funD {K : PySem.W.Frag} {d : Df} (e : fnX K (d.at_ K) = d.val) (c : d.ok K = true) (hc : d.clo = false) : ∃ fd, FunD K d.name d.qual d.params d.body d.scope [] (d.kws K) (d.at_ K) fd := by
  obtain ⟨kp, c2⟩ := He.ba c
  unfold fnX at e
  cases q : K.lookup (d.at_ K) with
  | none =>
    rw [q] at c2
    cases c2
  | some o =>
    obtain ⟨oc, od, dt, osl⟩ := o
    rw [q] at c2 e
    cases dt with
    | func fd =>
      obtain ⟨n1, n2, n3, n4, n5, n6, n7, n8, n9, n10, n11, n12, n13, n14, n15⟩ := fd
      have e2 : (some (n1, n2, n3, n4, n5, n6, n15) : FnX) = some (d.name, d.qual, d.params, .stmts d.body, d.scope, mainGlobals, builtinsNs) := e
      simp only [Option.some.injEq, Prod.mk.injEq] at e2
      obtain ⟨h1, h2, h3, h4, h5, h6, h8⟩ := e2
      subst h1 h2 h3 h4 h5 h6 h8
      have c3 : (PySem.W.codeIn K n13 d.qual && (He.dflB K n8 [] && (He.kwdB K n9 (d.kws K) && (if d.clo then _ else n7.isEmpty)))) = true := c2
      rw [hc] at c3
      obtain ⟨k1, k2⟩ := He.ba c3
      obtain ⟨k3, k4⟩ := He.ba k2
      obtain ⟨k5, k6⟩ := He.ba k4
      have k7 : n7 = [] := List.isEmpty_iff.mp k6
      subst k7
      exact ⟨_, ⟨oc, od, n8, n9, n10, n11, n12, n13, n14, osl, rfl, q, k1, He.dflB_ok k3, He.kwdB_ok k5⟩, kp⟩
    | _ => cases c2
structure Sup (P : Program) (K : PySem.W.Frag) (d : Df) (D g : Addr) (slf : Str) : Prop where
  ex : ∃ oc od osl kV doc pm an ct cda cc, K.lookup (d.at_ K) = some ⟨oc, od, .func (PySem.W.ksFn d.name d.qual d.params d.body d.scope .none kV doc pm an (.ref cda) ct cc), osl⟩ ∧ PySem.W.codeIn K (.ref cda) d.qual = true ∧ SupK P K (d.at_ K) cda cc D g slf
  own : PySem.W.mroIn K D (.ref D) = some true
  up : PySem.W.ks_superIn K D D "__init__" = some (some (.ref g))
theorem Df.sup {P : Program} {K : PySem.W.Frag} {d : Df} {D g : Addr} {slf : Str} (e : fnX K (d.at_ K) = d.val) (c : d.ok K = true) (hc : d.clo = true) (hs : supB P.main.file K (d.at_ K) D g slf = true) (htop : (P.main.scope.names.lookup ("super" : Str)).isSome = false) : Sup P K d D g slf := by
  obtain ⟨kp, c2⟩ := He.ba c
  unfold fnX at e
  unfold supB at hs
  cases q : K.lookup (d.at_ K) with
  | none =>
    rw [q] at c2
    cases c2
  | some o =>
    obtain ⟨oc, od, dt, osl⟩ := o
    rw [q] at c2 e hs
    cases dt with
    | func fd =>
      obtain ⟨n1, n2, n3, n4, n5, n6, n7, n8, n9, n10, n11, n12, n13, n14, n15⟩ := fd
      have e2 : (some (n1, n2, n3, n4, n5, n6, n15) : FnX) = some (d.name, d.qual, d.params, .stmts d.body, d.scope, mainGlobals, builtinsNs) := e
      simp only [Option.some.injEq, Prod.mk.injEq] at e2
      obtain ⟨h1, h2, h3, h4, h5, h6, h8⟩ := e2
      subst h1 h2 h3 h4 h5 h6 h8
      have c3 : (PySem.W.codeIn K n13 d.qual && (He.dflB K n8 [] && (He.kwdB K n9 (d.kws K) && (if d.clo then _ else n7.isEmpty)))) = true := c2
      obtain ⟨k1, k2⟩ := He.ba c3
      obtain ⟨k3, k4⟩ := He.ba k2
      have k5 : n8 = .none := by
        rcases He.dflB_ok k3 with ⟨_, z⟩ | ⟨z, _⟩
        · exact z
        · exact absurd rfl z
      subst k5
      cases n13 with
      | ref cda =>
        match n7, hs with
        | [], hs => cases hs
        | _ :: _ :: _, hs => cases hs
        | [(n, cc)], hs =>
        cases e4 : (d.params.posonlyargs ++ d.params.args).head? with
        | none =>
          simp only [e4] at hs
          cases hs
        | some ar =>
        simp only [e4] at hs
        obtain ⟨b1, hs⟩ := He.ba hs
        obtain ⟨b2, hs⟩ := He.ba hs
        obtain ⟨b3, hs⟩ := He.ba hs
        obtain ⟨b4, hs⟩ := He.ba hs
        obtain ⟨b5, hs⟩ := He.ba hs
        obtain ⟨b6, hs⟩ := He.ba hs
        obtain ⟨b7, hs⟩ := He.ba hs
        obtain ⟨b8, hs⟩ := He.ba hs
        obtain ⟨b9, hs⟩ := He.ba hs
        obtain ⟨b10, b11⟩ := He.ba hs
        have b1 : n = clN := of_decide_eq_true b1
        subst b1
        refine ⟨⟨oc, od, osl, n9, n10, n11, n12, n14, cda, cc, q, k1, ?_⟩, of_decide_eq_true b10, He.eqO_ok b11⟩
        refine ⟨⟨oc, od, _, osl, ar, q, e4, of_decide_eq_true b2⟩, ?_, ?_, b5, He.eqO_ok b6, htop, He.eqO_ok b7, of_decide_eq_true b8, b9⟩
        · split at b3
          · rename_i x1 x2 vs x3 el
            split at b3
            · rename_i fl tf ev
              exact ⟨_, _, vs, _, fl, tf, el, ev, b3⟩
            · cases b3
          · cases b3
        · split at b4
          · rename_i x1 x2 D' x3 el
            rw [of_decide_eq_true b4] at el
            exact ⟨_, _, _, el⟩
          · cases b4
      | _ => cases hs
    | _ => cases c2
/-! ### checks -/
structure InsOk (K : PySem.W.Frag) (C : Addr) : Prop where
  ha : PySem.W.findIn K (.ref C) "__class__" = some (some (.builtin "object.__class__"))
  hn : PySem.W.specialIn K (.builtin "object.__class__") "__get__" = some (some (.builtin "getset_descriptor.__get__"))
  htk : PySem.W.takesIn K (.builtin "object.__class__") = some true
  hm : PySem.W.mroIn K C (.type "object") = some true
theorem insB_ok {K : PySem.W.Frag} {C : Addr} (h : insB K C = true) : InsOk K C := by
  obtain ⟨h1, h⟩ := He.ba h
  obtain ⟨h2, h⟩ := He.ba h
  obtain ⟨h3, h4⟩ := He.ba h
  exact ⟨He.eqO_ok h1, He.eqO_ok h2, of_decide_eq_true h3, of_decide_eq_true h4⟩
theorem propB_ok {K : PySem.W.Frag} {x f : Str} (h : propB K x f = true) : PropOf K (He.ga K x) f (prA K (He.ga K x) f) (prG K x f) := by
  obtain ⟨h1, h⟩ := He.ba h
  obtain ⟨h2, h⟩ := He.ba h
  obtain ⟨h3, h4⟩ := He.ba h
  exact ⟨He.eqO_ok h1, He.eqO_ok h2, of_decide_eq_true h3, recG_ok h4⟩
theorem creadB_ok {K : PySem.W.Frag} {x : Str} (h : creadB K x = true) : ClX.CRead K (He.ga K x) (.type "type") := by
  obtain ⟨h1, h2⟩ := He.ba h
  exact ⟨h1, He.eqO_ok h2⟩
theorem cmetB_ok {K : PySem.W.Frag} {x m : Str} (h : cmetB K x m = true) : ClX.CMet K (He.ga K x) (.type "type") m (prA K (He.ga K x) m) (cmG K x m) := by
  obtain ⟨h1, h⟩ := He.ba h
  obtain ⟨h2, h3⟩ := He.ba h
  refine ⟨?_, recG_ok h2, h3⟩
  split at h1
  · rename_i g p C e
    obtain ⟨a1, h1⟩ := He.ba h1
    obtain ⟨a2, a3⟩ := He.ba h1
    rw [e, eq_of_beq a1, of_decide_eq_true a2, of_decide_eq_true a3]
  · cases h1
theorem cvalB_ok {K : PySem.W.Frag} {x f : Str} {i : Int} (h : cvalB K x f i = true) : ∃ u, ClX.CVal K (He.ga K x) (.type "type") f (.int i) u := by
  unfold cvalB at h
  split at h
  · rename_i j t e
    have ej : j = i := of_decide_eq_true h
    exact ⟨_, e, ⟨t, by rw [ej]⟩⟩
  · cases h
theorem conB_ok {K : PySem.W.Frag} {x f z : Str} (h : conB K x f z = true) : ∃ u, Con K (He.ga K x) f (.str z) u := by
  obtain ⟨h1, h2⟩ := He.ba h
  split at h1
  · rename_i y t e
    obtain ⟨a1, a2⟩ := He.ba h1
    have ey : y = z := of_decide_eq_true a1
    exact ⟨_, e, ⟨t, by rw [ey]⟩, He.eqO_ok a2, by simpa using h2⟩
  · cases h1
/-! ### the addresses that the facts read, by paths -/
/-! ### the Hook -/
theorem obsXG_eq {n : (Addr → Option Obj) → List Addr} {fa : List (PySem.W.Frag → Bool)} {fn : List Df} {g : Addr → Option Obj} {s : Shared} (h : ∀ a, g a = s.heap.get? a) : obsXG n fa fn g = (hookX n fa fn).obs s := by
  have e : g = s.heap.get? := funext h
  rw [e] <;> rfl
section
variable {fa : List (PySem.W.Frag → Bool)} {fn : List Df} {K : PySem.W.Frag}
theorem SaysX.fact (c : SaysX fa fn K) {f : PySem.W.Frag → Bool} (h : f ∈ fa) : f K = true := by
  have c1 := (He.ba (show ((fa.all fun f => f K) && fn.all fun d => d.ok K) = true from congrArg (fun z : AlX => z.1) c)).1
  exact List.all_eq_true.mp c1 f h
theorem SaysX.def_ (c : SaysX fa fn K) {d : Df} (h : d ∈ fn) : fnX K (d.at_ K) = d.val ∧ d.ok K = true := by
  have c2 := (He.ba (show ((fa.all fun f => f K) && fn.all fun d => d.ok K) = true from congrArg (fun z : AlX => z.1) c)).2
  have e : fn.map (fun d => fnX K (d.at_ K)) = fn.map Df.val := congrArg (fun z : AlX => z.2) c
  refine ⟨?_, List.all_eq_true.mp c2 d h⟩
  obtain ⟨i, hi⟩ := List.mem_iff_getElem?.mp h
  have e2 : (fn.map fun d => fnX K (d.at_ K))[i]? = (fn.map Df.val)[i]? := by rw [e]
  rw [List.getElem?_map, List.getElem?_map, hi] at e2
  exact Option.some.inj e2
end
/-! ### a def keeps its promise -/
theorem fnr {P : Program} {w : World} {K : PySem.W.Frag} {mg : Str → Option Value} {base : Heap} {x qual : Str} {st : Stmt} {f : Addr} {N ps : List Str} {k : Nat} {sp : Sp} (F : ∃ fd, FunD K x qual (defArgs st) (defBody st) (defScope st) [] [] f fd) (S : FnScope N ps (defScope st))
    (len : ∀ vs H Q E, sp vs H Q E → vs.length = ps.length)
    (hb : ∀ (kV doc pm : Value) (an : Option Addr) (cdv ct : Value) (us : List Value), us.length = ps.length → bindArgs (PySem.W.fnOf x qual (defArgs st) (defBody st) (defScope st) .none kV doc pm an cdv ct) ⟨us, []⟩ = pure (ps.zip us))
    (hbody : ∀ (cdv : Value) (A : Around) (outer : List Env) (s : Shared) (H : Hp) (vs : List V) (Q : VK) (E : XK), Room k (A.deeper (envOfC qual (defScope st) s.heap.objs.size f cdv)) → sp vs H Q E →
      ∃ t, PSs (cxOf CX0 P w K mg base N qual (defScope st) f cdv A outer s H E).nox (defBody st) t ∧ t { nx := fun _ H' => Q .non H', rt := Q } (L2.start N vs) H) : FnR P w K mg base CX0 (k + 1) f sp := by
  obtain ⟨fd, F⟩ := F
  have O := F.ok (P := P) (w := w) (mg := mg) (base := base) (CX := CX0) S len fun cdv A outer s H vs Q E hr hsp => by
    obtain ⟨t, h, q⟩ := hbody cdv A outer s H vs Q E hr hsp
    exact ⟨t, h.nox, q⟩
  refine (O.raw (F.bindsN hb) .nil).imp fun vs H Q E h => ?_
  rw [List.append_nil]
  exact h
end K5
end
section
set_option maxRecDepth 100000
set_option maxHeartbeats 2000000
/-! the text: the reached defs by place, their scopes, the facts of the head. Printed by gen.py -/
namespace K5
open PySem PySem.Spec PyProof.Rows L2
theorem sc_is_whole : FnScope n_is_whole p_is_whole (defScope s_is_whole) := ⟨rfl, rfl, rfl, by decide +kernel, rfl, by decide +kernel, by decide +kernel⟩
-- is_whole: 0:thing 1:least 2:most
theorem sc_is_letters : FnScope n_is_letters p_is_letters (defScope s_is_letters) := ⟨rfl, rfl, rfl, by decide +kernel, rfl, by decide +kernel, by decide +kernel⟩
-- is_letters: 0:thing 1:least 2:most 3:letter
theorem sc_is_cell_string : FnScope n_is_cell_string p_is_cell_string (defScope s_is_cell_string) := ⟨rfl, rfl, rfl, by decide +kernel, rfl, by decide +kernel, by decide +kernel⟩
-- is_cell_string: 0:letters* 1:thing 2:letter
theorem sc_Cell_init : FnScope n_Cell_init p_Cell_init (defScope s_Cell_init) := ⟨rfl, rfl, rfl, by decide +kernel, rfl, by decide +kernel, by decide +kernel⟩
-- Cell_init: 0:self 1:values 2:number* 3:at 4:letter
theorem sc_Cell_contains : FnScope n_Cell_contains p_Cell_contains (defScope s_Cell_contains) := ⟨rfl, rfl, rfl, by decide +kernel, rfl, by decide +kernel, by decide +kernel⟩
-- Cell_contains: 0:self 1:letter
theorem sc_Cell_bool : FnScope n_Cell_bool p_Cell_bool (defScope s_Cell_bool) := ⟨rfl, rfl, rfl, by decide +kernel, rfl, by decide +kernel, by decide +kernel⟩
-- Cell_bool: 0:self
theorem sc_Values_init : FnScope n_Values_init p_Values_init (defScope s_Values_init) := ⟨rfl, rfl, rfl, by decide +kernel, rfl, by decide +kernel, by decide +kernel⟩
-- Values_init: 0:self 1:letters
theorem sc_Values_cell : FnScope n_Values_cell p_Values_cell (defScope s_Values_cell) := ⟨rfl, rfl, rfl, by decide +kernel, rfl, by decide +kernel, by decide +kernel⟩
-- Values_cell: 0:self* 1:letters 2:letter
theorem sc_Values_contains : FnScope n_Values_contains p_Values_contains (defScope s_Values_contains) := ⟨rfl, rfl, rfl, by decide +kernel, rfl, by decide +kernel, by decide +kernel⟩
-- Values_contains: 0:self 1:letter
theorem sc_Values_len : FnScope n_Values_len p_Values_len (defScope s_Values_len) := ⟨rfl, rfl, rfl, by decide +kernel, rfl, by decide +kernel, by decide +kernel⟩
-- Values_len: 0:self
theorem sc_Values_eq : FnScope n_Values_eq p_Values_eq (defScope s_Values_eq) := ⟨rfl, rfl, rfl, by decide +kernel, rfl, by decide +kernel, by decide +kernel⟩
-- Values_eq: 0:self 1:other
theorem sc_cell_told : FnScope n_cell_told p_cell_told (defScope s_cell_told) := ⟨rfl, rfl, rfl, by decide +kernel, rfl, by decide +kernel, by decide +kernel⟩
-- cell_told: 0:values 1:thing
theorem sc_item_of : FnScope n_item_of p_item_of (defScope s_item_of) := ⟨rfl, rfl, rfl, by decide +kernel, rfl, by decide +kernel, by decide +kernel⟩
-- item_of: 0:values 1:thing 2:at 3:cell
theorem sc_need_word_lines : FnScope n_need_word_lines p_need_word_lines (defScope s_need_word_lines) := ⟨rfl, rfl, rfl, by decide +kernel, rfl, by decide +kernel, by decide +kernel⟩
-- need_word_lines: 0:values 1:word 2:most 3:at 4:letter
theorem sc_Line_init : FnScope n_Line_init p_Line_init (defScope s_Line_init) := ⟨rfl, rfl, rfl, by decide +kernel, rfl, by decide +kernel, by decide +kernel⟩
-- Line_init: 0:self 1:values* 2:cells 3:at 4:thing
theorem sc_Line_sure : FnScope n_Line_sure p_Line_sure (defScope s_Line_sure) := ⟨rfl, rfl, rfl, by decide +kernel, rfl, by decide +kernel, by decide +kernel⟩
-- Line_sure: 0:cls 1:values 2:word
theorem sc_Line_cells : FnScope n_Line_cells p_Line_cells (defScope s_Line_cells) := ⟨rfl, rfl, rfl, by decide +kernel, rfl, by decide +kernel, by decide +kernel⟩
-- Line_cells: 0:self
theorem sc_Line_len : FnScope n_Line_len p_Line_len (defScope s_Line_len) := ⟨rfl, rfl, rfl, by decide +kernel, rfl, by decide +kernel, by decide +kernel⟩
-- Line_len: 0:self
theorem sc_need_values_sound : FnScope n_need_values_sound p_need_values_sound (defScope s_need_values_sound) := ⟨rfl, rfl, rfl, by decide +kernel, rfl, by decide +kernel, by decide +kernel⟩
-- need_values_sound: 0:one 1:other
theorem sc_bits_of : FnScope n_bits_of p_bits_of (defScope s_bits_of) := ⟨rfl, rfl, rfl, by decide +kernel, rfl, by decide +kernel, by decide +kernel⟩
-- bits_of: 0:number* 1:many 2:k
theorem sc_steps_by : FnScope n_steps_by p_steps_by (defScope s_steps_by) := ⟨rfl, rfl, rfl, by decide +kernel, rfl, by decide +kernel, by decide +kernel⟩
-- steps_by: 0:clue* 1:states 2:number 3:kinds* 4:state 5:kind
theorem sc_closed : FnScope n_closed p_closed (defScope s_closed) := ⟨rfl, rfl, rfl, by decide +kernel, rfl, by decide +kernel, by decide +kernel⟩
-- closed: 0:clue 1:states 2:full 3:found 4:more
theorem sc_is_told : FnScope n_is_told p_is_told (defScope s_is_told) := ⟨rfl, rfl, rfl, by decide +kernel, rfl, by decide +kernel, by decide +kernel⟩
-- is_told: 0:clue* 1:states 2:state
theorem sc_lost_states : FnScope n_lost_states p_lost_states (defScope s_lost_states) := ⟨rfl, rfl, rfl, by decide +kernel, rfl, by decide +kernel, by decide +kernel⟩
-- lost_states: 0:clue* 1:state
theorem sc_numbers_of_sound : FnScope n_numbers_of_sound p_numbers_of_sound (defScope s_numbers_of_sound) := ⟨rfl, rfl, rfl, by decide +kernel, rfl, by decide +kernel, by decide +kernel⟩
-- numbers_of_sound: 0:rule 1:numbers 2:cell
theorem sc_rows_of : FnScope n_rows_of p_rows_of (defScope s_rows_of) := ⟨rfl, rfl, rfl, by decide +kernel, rfl, by decide +kernel, by decide +kernel⟩
-- rows_of: 0:rule 1:clue 2:found 3:number
theorem sc_is_sound_row : FnScope n_is_sound_row p_is_sound_row (defScope s_is_sound_row) := ⟨rfl, rfl, rfl, by decide +kernel, rfl, by decide +kernel, by decide +kernel⟩
-- is_sound_row: 0:rule 1:clue 2:states 3:lost* 4:state
theorem sc_Judgement_init : FnScope n_Judgement_init p_Judgement_init (defScope s_Judgement_init) := ⟨rfl, rfl, rfl, by decide +kernel, rfl, by decide +kernel, by decide +kernel⟩
-- Judgement_init: 0:self 1:facts
theorem sc_Judgement_bool : FnScope n_Judgement_bool p_Judgement_bool (defScope s_Judgement_bool) := ⟨rfl, rfl, rfl, by decide +kernel, rfl, by decide +kernel, by decide +kernel⟩
-- Judgement_bool: 0:self
theorem sc_Shown_bool : FnScope n_Shown_bool p_Shown_bool (defScope s_Shown_bool) := ⟨rfl, rfl, rfl, by decide +kernel, rfl, by decide +kernel, by decide +kernel⟩
-- Shown_bool: 0:self
theorem sc_Sound_init : SScope n_Sound_init p_Sound_init (defScope s_Sound_init) := ⟨rfl, rfl, rfl, by decide +kernel, rfl, by decide +kernel, by decide +kernel, by decide +kernel, by decide +kernel⟩
-- Sound_init: 0:self 1:lost 2:rows
theorem sc_Unsound_init : SScope n_Unsound_init p_Unsound_init (defScope s_Unsound_init) := ⟨rfl, rfl, rfl, by decide +kernel, rfl, by decide +kernel, by decide +kernel, by decide +kernel, by decide +kernel⟩
-- Unsound_init: 0:self 1:spoiled 2:place 3:number
theorem sc_is_sound_rule : FnScope n_is_sound_rule p_is_sound_rule (defScope s_is_sound_rule) := ⟨rfl, rfl, rfl, by decide +kernel, rfl, by decide +kernel, by decide +kernel⟩
-- is_sound_rule: 0:rule 1:clue 2:rows
theorem sc_spoiled_word : FnScope n_spoiled_word p_spoiled_word (defScope s_spoiled_word) := ⟨rfl, rfl, rfl, by decide +kernel, rfl, by decide +kernel, by decide +kernel⟩
-- spoiled_word: 0:book 1:clue 2:layer 3:seen 4:later 5:word 6:node 7:kind 8:letter 9:state 10:is_start 11:tail 12:is_struck 13:step 14:fresh
theorem sc_first_strike : FnScope n_first_strike p_first_strike (defScope s_first_strike) := ⟨rfl, rfl, rfl, by decide +kernel, rfl, by decide +kernel, by decide +kernel⟩
-- first_strike: 0:book 1:line 2:place 3:number 4:rule
theorem sc_judge_sound : FnScope n_judge_sound p_judge_sound (defScope s_judge_sound) := ⟨rfl, rfl, rfl, by decide +kernel, rfl, by decide +kernel, by decide +kernel⟩
-- judge_sound: 0:book 1:clue* 2:lost* 3:rows 4:word 5:place 6:number 7:rule 8:row
theorem sc_is_index : FnScope n_is_index p_is_index (defScope s_is_index) := ⟨rfl, rfl, rfl, by decide +kernel, rfl, by decide +kernel, by decide +kernel⟩
-- is_index: 0:thing 1:many
theorem sc_pattern_of : FnScope n_pattern_of p_pattern_of (defScope s_pattern_of) := ⟨rfl, rfl, rfl, by decide +kernel, rfl, by decide +kernel, by decide +kernel⟩
-- pattern_of: 0:values* 1:pattern 2:found 3:thing 4:cell
theorem sc_Rule_init : FnScope n_Rule_init p_Rule_init (defScope s_Rule_init) := ⟨rfl, rfl, rfl, by decide +kernel, rfl, by decide +kernel, by decide +kernel⟩
-- Rule_init: 0:self 1:values 2:pattern 3:at 4:value 5:left 6:right 7:cell
theorem sc_Rule_need_values : FnScope n_Rule_need_values p_Rule_need_values (defScope s_Rule_need_values) := ⟨rfl, rfl, rfl, by decide +kernel, rfl, by decide +kernel, by decide +kernel⟩
-- Rule_need_values: 0:self 1:line
theorem sc_Rule_holds : FnScope n_Rule_holds p_Rule_holds (defScope s_Rule_holds) := ⟨rfl, rfl, rfl, by decide +kernel, rfl, by decide +kernel, by decide +kernel⟩
-- Rule_holds: 0:self 1:numbers* 2:begin* 3:k 4:own
theorem sc_Rule_strikes_in : FnScope n_Rule_strikes_in p_Rule_strikes_in (defScope s_Rule_strikes_in) := ⟨rfl, rfl, rfl, by decide +kernel, rfl, by decide +kernel, by decide +kernel⟩
-- Rule_strikes_in: 0:self 1:numbers 2:begin
theorem sc_Rule_spans : FnScope n_Rule_spans p_Rule_spans (defScope s_Rule_spans) := ⟨rfl, rfl, rfl, by decide +kernel, rfl, by decide +kernel, by decide +kernel⟩
-- Rule_spans: 0:self 1:many 2:place 3:end
theorem sc_Rule_hits : FnScope n_Rule_hits p_Rule_hits (defScope s_Rule_hits) := ⟨rfl, rfl, rfl, by decide +kernel, rfl, by decide +kernel, by decide +kernel⟩
-- Rule_hits: 0:self 1:line 2:place
theorem sc_Rule_neg : FnScope n_Rule_neg p_Rule_neg (defScope s_Rule_neg) := ⟨rfl, rfl, rfl, by decide +kernel, rfl, by decide +kernel, by decide +kernel⟩
-- Rule_neg: 0:self 1:at
theorem sc_Rule_len : FnScope n_Rule_len p_Rule_len (defScope s_Rule_len) := ⟨rfl, rfl, rfl, by decide +kernel, rfl, by decide +kernel, by decide +kernel⟩
-- Rule_len: 0:self
theorem sc_Rule_eq : FnScope n_Rule_eq p_Rule_eq (defScope s_Rule_eq) := ⟨rfl, rfl, rfl, by decide +kernel, rfl, by decide +kernel, by decide +kernel⟩
-- Rule_eq: 0:self 1:other
theorem sc_numbers_of_rules : FnScope n_numbers_of_rules p_numbers_of_rules (defScope s_numbers_of_rules) := ⟨rfl, rfl, rfl, by decide +kernel, rfl, by decide +kernel, by decide +kernel⟩
-- numbers_of_rules: 0:line 1:cell
theorem sc_Striker_init : FnScope n_Striker_init p_Striker_init (defScope s_Striker_init) := ⟨rfl, rfl, rfl, by decide +kernel, rfl, by decide +kernel, by decide +kernel⟩
-- Striker_init: 0:self 1:values
theorem sc_Striker_reach : FnScope n_Striker_reach p_Striker_reach (defScope s_Striker_reach) := ⟨rfl, rfl, rfl, by decide +kernel, rfl, by decide +kernel, by decide +kernel⟩
-- Striker_reach: 0:self
theorem sc_Striker_stepped : FnScope n_Striker_stepped p_Striker_stepped (defScope s_Striker_stepped) := ⟨rfl, rfl, rfl, by decide +kernel, rfl, by decide +kernel, by decide +kernel⟩
-- Striker_stepped: 0:self 1:tail 2:number 3:is_start 4:numbers 5:may_end 6:is_all
theorem sc_Book_init : SScope n_Book_init p_Book_init (defScope s_Book_init) := ⟨rfl, rfl, rfl, by decide +kernel, rfl, by decide +kernel, by decide +kernel, by decide +kernel, by decide +kernel⟩
-- Book_init: 0:self 1:values 2:rules 3:at 4:rule
theorem sc_Book_of : FnScope n_Book_of p_Book_of (defScope s_Book_of) := ⟨rfl, rfl, rfl, by decide +kernel, rfl, by decide +kernel, by decide +kernel⟩
-- Book_of: 0:cls 1:values 2:rules
theorem sc_Book_rules : FnScope n_Book_rules p_Book_rules (defScope s_Book_rules) := ⟨rfl, rfl, rfl, by decide +kernel, rfl, by decide +kernel, by decide +kernel⟩
-- Book_rules: 0:self
theorem sc_Book_width : FnScope n_Book_width p_Book_width (defScope s_Book_width) := ⟨rfl, rfl, rfl, by decide +kernel, rfl, by decide +kernel, by decide +kernel⟩
-- Book_width: 0:self 1:rule
theorem sc_Book_strikes_last : FnScope n_Book_strikes_last p_Book_strikes_last (defScope s_Book_strikes_last) := ⟨rfl, rfl, rfl, by decide +kernel, rfl, by decide +kernel, by decide +kernel⟩
-- Book_strikes_last: 0:self 1:numbers 2:is_start 3:right 4:rule 5:begin
theorem sc_Book_strikes_at : FnScope n_Book_strikes_at p_Book_strikes_at (defScope s_Book_strikes_at) := ⟨rfl, rfl, rfl, by decide +kernel, rfl, by decide +kernel, by decide +kernel⟩
-- Book_strikes_at: 0:self 1:numbers 2:is_start
theorem sc_Book_strikes_end : FnScope n_Book_strikes_end p_Book_strikes_end (defScope s_Book_strikes_end) := ⟨rfl, rfl, rfl, by decide +kernel, rfl, by decide +kernel, by decide +kernel⟩
-- Book_strikes_end: 0:self 1:numbers 2:is_start
theorem sc_reached : FnScope n_reached p_reached (defScope s_reached) := ⟨rfl, rfl, rfl, by decide +kernel, rfl, by decide +kernel, by decide +kernel⟩
-- reached: 0:steps 1:order 2:seen 3:at 4:later
theorem sc_numbered : FnScope n_numbered p_numbered (defScope s_numbered) := ⟨rfl, rfl, rfl, by decide +kernel, rfl, by decide +kernel, by decide +kernel⟩
-- numbered: 0:steps* 1:told* 2:order 3:number* 4:rows 5:at 6:state 7:later
theorem sc_parts : FnScope n_parts p_parts (defScope s_parts) := ⟨rfl, rfl, rfl, by decide +kernel, rfl, by decide +kernel, by decide +kernel⟩
-- parts: 0:steps 1:told 2:marks* 3:many 4:known 5:fresh 6:state 7:row 8:key 9:is_told 10:later
theorem sc_least_table : FnScope n_least_table p_least_table (defScope s_least_table) := ⟨rfl, rfl, rfl, by decide +kernel, rfl, by decide +kernel, by decide +kernel⟩
-- least_table: 0:steps* 1:told* 2:marks* 3:first 4:mark 5:state 6:later
theorem sc_both_told : FnScope n_both_told p_both_told (defScope s_both_told) := ⟨rfl, rfl, rfl, by decide +kernel, rfl, by decide +kernel, by decide +kernel⟩
-- both_told: 0:rule 1:one 2:other
theorem sc_paired : FnScope n_paired p_paired (defScope s_paired) := ⟨rfl, rfl, rfl, by decide +kernel, rfl, by decide +kernel, by decide +kernel⟩
-- paired: 0:one* 1:other* 2:rule* 3:pairs 4:number 5:steps 6:mine 7:others 8:row 9:pair
theorem sc_mirrored : FnScope n_mirrored p_mirrored (defScope s_mirrored) := ⟨rfl, rfl, rfl, by decide +kernel, rfl, by decide +kernel, by decide +kernel⟩
-- mirrored: 0:steps* 1:told* 2:most 3:some* 4:number 5:rows* 6:row 7:at* 8:ahead 9:state 10:ends
theorem sc_need_values_clues : FnScope n_need_values_clues p_need_values_clues (defScope s_need_values_clues) := ⟨rfl, rfl, rfl, by decide +kernel, rfl, by decide +kernel, by decide +kernel⟩
-- need_values_clues: 0:values
theorem sc_need_room : FnScope n_need_room p_need_room (defScope s_need_room) := ⟨rfl, rfl, rfl, by decide +kernel, rfl, by decide +kernel, by decide +kernel⟩
-- need_room: 0:table
theorem sc_is_row : FnScope n_is_row p_is_row (defScope s_is_row) := ⟨rfl, rfl, rfl, by decide +kernel, rfl, by decide +kernel, by decide +kernel⟩
-- is_row: 0:thing 1:wide 2:many* 3:state
theorem sc_Clue_init : FnScope n_Clue_init p_Clue_init (defScope s_Clue_init) := ⟨rfl, rfl, rfl, by decide +kernel, rfl, by decide +kernel, by decide +kernel⟩
-- Clue_init: 0:self 1:values 2:table
theorem sc_Clue_beside : FnScope n_Clue_beside p_Clue_beside (defScope s_Clue_beside) := ⟨rfl, rfl, rfl, by decide +kernel, rfl, by decide +kernel, by decide +kernel⟩
-- Clue_beside: 0:self 1:other 2:rule
theorem sc_Clue_and : FnScope n_Clue_and p_Clue_and (defScope s_Clue_and) := ⟨rfl, rfl, rfl, by decide +kernel, rfl, by decide +kernel, by decide +kernel⟩
-- Clue_and: 0:self 1:other
theorem sc_Clue_or : FnScope n_Clue_or p_Clue_or (defScope s_Clue_or) := ⟨rfl, rfl, rfl, by decide +kernel, rfl, by decide +kernel, by decide +kernel⟩
-- Clue_or: 0:self 1:other
theorem sc_Clue_neg : FnScope n_Clue_neg p_Clue_neg (defScope s_Clue_neg) := ⟨rfl, rfl, rfl, by decide +kernel, rfl, by decide +kernel, by decide +kernel⟩
-- Clue_neg: 0:self
theorem sc_Machine_init : SScope n_Machine_init p_Machine_init (defScope s_Machine_init) := ⟨rfl, rfl, rfl, by decide +kernel, rfl, by decide +kernel, by decide +kernel, by decide +kernel, by decide +kernel⟩
-- Machine_init: 0:self 1:values* 2:steps* 3:told 4:row 5:is_told
theorem sc_law_pen : FnScope n_law_pen p_law_pen (defScope s_law_pen) := ⟨rfl, rfl, rfl, by decide +kernel, rfl, by decide +kernel, by decide +kernel⟩
-- law_pen: 0:_law_script
theorem sc_law_draw : FnScope n_law_draw p_law_draw (defScope s_law_draw) := ⟨rfl, rfl, rfl, by decide +kernel, rfl, by decide +kernel, by decide +kernel⟩
-- law_draw: 0:_law_pen_here 1:_law_many 2:_law_digit 3:_law_at 4:_law_cell_here 5:_law_great 6:_law_blent
theorem sc_law_pick : FnScope n_law_pick p_law_pick (defScope s_law_pick) := ⟨rfl, rfl, rfl, by decide +kernel, rfl, by decide +kernel, by decide +kernel⟩
-- law_pick: 0:_law_pen_here 1:_law_some
theorem sc_law_two : FnScope n_law_two p_law_two (defScope s_law_two) := ⟨rfl, rfl, rfl, by decide +kernel, rfl, by decide +kernel, by decide +kernel⟩
-- law_two: 0:_law_k
theorem sc_law_letters : FnScope n_law_letters p_law_letters (defScope s_law_letters) := ⟨rfl, rfl, rfl, by decide +kernel, rfl, by decide +kernel, by decide +kernel⟩
-- law_letters: 0:_law_pen_here* 1:_law_spare* 2:_law_many 3:_law_k
theorem sc_law_cell : FnScope n_law_cell p_law_cell (defScope s_law_cell) := ⟨rfl, rfl, rfl, by decide +kernel, rfl, by decide +kernel, by decide +kernel⟩
-- law_cell: 0:_law_pen_here 1:_law_letters_here 2:_law_number* 3:_law_k 4:_law_letter
theorem sc_law_row : FnScope n_law_row p_law_row (defScope s_law_row) := ⟨rfl, rfl, rfl, by decide +kernel, rfl, by decide +kernel, by decide +kernel⟩
-- law_row: 0:_law_pen_here* 1:_law_letters_here* 2:_law_top 3:_law_cells 4:_law_at 5:_law_k
theorem sc_law_rows : FnScope n_law_rows p_law_rows (defScope s_law_rows) := ⟨rfl, rfl, rfl, by decide +kernel, rfl, by decide +kernel, by decide +kernel⟩
-- law_rows: 0:_law_pen_here 1:_law_letters_here 2:_law_many 3:_law_top 4:_law_found 5:_law_k 6:_law_row_here
theorem sc_law_rule : FnScope n_law_rule p_law_rule (defScope s_law_rule) := ⟨rfl, rfl, rfl, by decide +kernel, rfl, by decide +kernel, by decide +kernel⟩
-- law_rule: 0:_law_values 1:_law_row_here
theorem sc_law_book : FnScope n_law_book p_law_book (defScope s_law_book) := ⟨rfl, rfl, rfl, by decide +kernel, rfl, by decide +kernel, by decide +kernel⟩
-- law_book: 0:_law_values* 1:_law_rows_here 2:_law_row_here
theorem sc_law_machine : FnScope n_law_machine p_law_machine (defScope s_law_machine) := ⟨rfl, rfl, rfl, by decide +kernel, rfl, by decide +kernel, by decide +kernel⟩
-- law_machine: 0:_law_pen_here* 1:_law_letters_here* 2:_law_top 3:_law_many* 4:_law_rows_here 5:_law_k 6:_law_letter
theorem sc_law_clue : FnScope n_law_clue p_law_clue (defScope s_law_clue) := ⟨rfl, rfl, rfl, by decide +kernel, rfl, by decide +kernel, by decide +kernel⟩
-- law_clue: 0:_law_pen_here 1:_law_values 2:_law_letters_here 3:_law_top 4:_law_rows_here 5:_law_truths
theorem sc_law_less : FnScope n_law_less p_law_less (defScope s_law_less) := ⟨rfl, rfl, rfl, by decide +kernel, rfl, by decide +kernel, by decide +kernel⟩
-- law_less: 0:_law_pen_here* 1:_law_row_here* 2:_law_cells 3:_law_k* 4:_law_cell_here 5:_law_kept 6:_law_letter
theorem sc_law_right : FnScope n_law_right p_law_right (defScope s_law_right) := ⟨rfl, rfl, rfl, by decide +kernel, rfl, by decide +kernel, by decide +kernel⟩
-- law_right: 0:_law_pen_here 1:_law_values 2:_law_letters_here 3:_law_clues 4:_law_row_here 5:_law_rule_so* 6:_law_truths 7:_law_k 8:_law_clue_so 9:_law_one 10:_law_two_here
theorem sc_law : FnScope n_law p_law (defScope s_law) := ⟨rfl, rfl, rfl, by decide +kernel, rfl, by decide +kernel, by decide +kernel⟩
-- law: 0:_law_script 1:_law_pen_here 2:_law_turn 3:_law_letters_here 4:_law_values* 5:_law_clues* 6:_law_again 7:_law_rows_here 8:_law_truths 9:_law_row_here
structure Tx (P : Program) (K : PySem.W.Frag) (mg : Str → Option Value) : Prop where
  free : ∀ x ∈ freeL, mg x = none
  glo : ∀ x ∈ gloL, mg x = some (.ref (He.ga K x))
  int : ∀ p ∈ intL, ∃ t, mg p.1 = some (.int p.2 t)
  alph : ∃ t, mg "ALPHABET" = some (.str alphS t)
  cls : ∀ x ∈ clsL, Cls K (He.ga K x)
  noat : ∀ p ∈ noatL, NoAttr K (He.ga K p.1) p.2
  meth : ∀ p ∈ methL, Meth K (He.ga K p.1) p.2 (He.ma K (He.ga K p.1) p.2)
  mkr : ∀ x ∈ clsL, Mk K (He.ga K x) (He.ma K (He.ga K x) "__init__")
  prop : ∀ p ∈ propL, PropOf K (He.ga K p.1) p.2 (prA K (He.ga K p.1) p.2) (prG K p.1 p.2)
  cread : ∀ x ∈ creadL, ClX.CRead K (He.ga K x) (.type "type")
  cmet : ∀ p ∈ cmetL, ClX.CMet K (He.ga K p.1) (.type "type") p.2 (prA K (He.ga K p.1) p.2) (cmG K p.1 p.2)
  cval : ∀ p ∈ cvalL, ∃ u, ClX.CVal K (He.ga K p.1) (.type "type") p.2.1 (.int p.2.2) u
  con : ∀ p ∈ conL, ∃ u, Con K (He.ga K p.1) p.2.1 (.str p.2.2) u
  kit : PySem.W.kitOne K (.type "str") (.ref (He.ga K "Cell")) = some false
  first : PySem.W.selfFirst K (He.ga K "Machine") = true
  ins : ∀ x ∈ insL, InsOk K (He.ga K x)
  fn : ∀ d ∈ fnL, d.clo = false → ∃ fd, FunD K d.name d.qual d.params d.body d.scope [] (d.kws K) (d.at_ K) fd
  keep : ∀ d ∈ fnL, PySem.W.keepIn K (.ref (d.at_ K)) = true
  sup_Sound_init : Sup P K d_Sound_init (He.ga K "Sound") (He.ma K (He.ga K "Judgement") "__init__") "self"
  sup_Unsound_init : Sup P K d_Unsound_init (He.ga K "Unsound") (He.ma K (He.ga K "Judgement") "__init__") "self"
  sup_Book_init : Sup P K d_Book_init (He.ga K "Book") (He.ma K (He.ga K "Striker") "__init__") "self"
  sup_Machine_init : Sup P K d_Machine_init (He.ga K "Machine") (He.ma K (He.ga K "Clue") "__init__") "self"
theorem tx_of {P : Program} {K : PySem.W.Frag} {mg : Str → Option Value} {h : Heap} (hP : P = Pg) (c : SaysX faL fnL K) (X : K.In h) (G : h.Ns mainGlobals mg) : Tx P K mg := by
  subst hP
  have fa : ∀ (i : Nat) (f : PySem.W.Frag → Bool), faL[i]? = some f → f K = true := fun i f e => c.fact (List.mem_of_getElem? e)
  have al : ∀ {α : Type} {l : List α} {p : α → Bool}, l.all p = true → ∀ x ∈ l, p x = true := fun h x hx => List.all_eq_true.mp h x hx
  have sup : ∀ {d : Df} {D g : Addr}, d ∈ fnL → d.clo = true → supB Pg.main.file K (d.at_ K) D g "self" = true → Sup Pg K d D g "self" := fun {d D g} hm hc hs => Df.sup (c.def_ hm).1 (c.def_ hm).2 hc hs (by decide +kernel)
  exact {
    free := fun x hx => He.free_ok X G (al (fa 0 _ rfl) x hx)
    glo := fun x hx => He.glo_ok X G (al (fa 1 _ rfl) x hx)
    int := fun p hp => He.int_ok X G (al (fa 2 _ rfl) p hp)
    alph := He.str_ok X G (fa 3 _ rfl)
    cls := fun x hx => He.cls_ok (al (fa 4 _ rfl) x hx)
    noat := fun p hp => He.noat_ok (al (fa 5 _ rfl) p hp)
    meth := fun p hp => He.meth_ok (al (fa 6 _ rfl) p hp)
    mkr := fun x hx => He.mkr_ok (al (fa 7 _ rfl) x hx)
    prop := fun p hp => propB_ok (al (fa 8 _ rfl) p hp)
    cread := fun x hx => creadB_ok (al (fa 9 _ rfl) x hx)
    cmet := fun p hp => cmetB_ok (al (fa 10 _ rfl) p hp)
    cval := fun p hp => cvalB_ok (al (fa 11 _ rfl) p hp)
    con := fun p hp => conB_ok (al (fa 12 _ rfl) p hp)
    kit := of_decide_eq_true (fa 13 _ rfl)
    first := fa 14 _ rfl
    ins := fun x hx => insB_ok (al (fa 15 _ rfl) x hx)
    fn := fun d hd hc => Df.funD (c.def_ hd).1 (c.def_ hd).2 hc
    keep := fun d hd => (He.ba (c.def_ hd).2).1
    sup_Sound_init := sup (List.mem_of_getElem? (i := 30) rfl) rfl (fa 16 _ rfl)
    sup_Unsound_init := sup (List.mem_of_getElem? (i := 31) rfl) rfl (fa 17 _ rfl)
    sup_Book_init := sup (List.mem_of_getElem? (i := 51) rfl) rfl (fa 18 _ rfl)
    sup_Machine_init := sup (List.mem_of_getElem? (i := 73) rfl) rfl (fa 19 _ rfl) }
section
variable {P : Program} {K : PySem.W.Frag} {mg : Str → Option Value} (T : Tx P K mg)
include T
theorem f_is_whole : ∃ fd, FunD K "is_whole" "is_whole" (defArgs s_is_whole) (defBody s_is_whole) (defScope s_is_whole) [] [] (a_is_whole K) fd := T.fn d_is_whole (List.mem_of_getElem? (i := 0) rfl) rfl
theorem f_is_letters : ∃ fd, FunD K "is_letters" "is_letters" (defArgs s_is_letters) (defBody s_is_letters) (defScope s_is_letters) [] [] (a_is_letters K) fd := T.fn d_is_letters (List.mem_of_getElem? (i := 1) rfl) rfl
theorem f_is_cell_string : ∃ fd, FunD K "is_cell_string" "is_cell_string" (defArgs s_is_cell_string) (defBody s_is_cell_string) (defScope s_is_cell_string) [] [] (a_is_cell_string K) fd := T.fn d_is_cell_string (List.mem_of_getElem? (i := 2) rfl) rfl
theorem f_Cell_init : ∃ fd, FunD K "__init__" "Cell.__init__" (defArgs s_Cell_init) (defBody s_Cell_init) (defScope s_Cell_init) [] [] (a_Cell_init K) fd := T.fn d_Cell_init (List.mem_of_getElem? (i := 3) rfl) rfl
theorem f_Cell_contains : ∃ fd, FunD K "__contains__" "Cell.__contains__" (defArgs s_Cell_contains) (defBody s_Cell_contains) (defScope s_Cell_contains) [] [] (a_Cell_contains K) fd := T.fn d_Cell_contains (List.mem_of_getElem? (i := 4) rfl) rfl
theorem f_Cell_bool : ∃ fd, FunD K "__bool__" "Cell.__bool__" (defArgs s_Cell_bool) (defBody s_Cell_bool) (defScope s_Cell_bool) [] [] (a_Cell_bool K) fd := T.fn d_Cell_bool (List.mem_of_getElem? (i := 5) rfl) rfl
theorem f_Values_init : ∃ fd, FunD K "__init__" "Values.__init__" (defArgs s_Values_init) (defBody s_Values_init) (defScope s_Values_init) [] [] (a_Values_init K) fd := T.fn d_Values_init (List.mem_of_getElem? (i := 6) rfl) rfl
theorem f_Values_cell : ∃ fd, FunD K "cell" "Values.cell" (defArgs s_Values_cell) (defBody s_Values_cell) (defScope s_Values_cell) [] [] (a_Values_cell K) fd := T.fn d_Values_cell (List.mem_of_getElem? (i := 7) rfl) rfl
theorem f_Values_contains : ∃ fd, FunD K "__contains__" "Values.__contains__" (defArgs s_Values_contains) (defBody s_Values_contains) (defScope s_Values_contains) [] [] (a_Values_contains K) fd := T.fn d_Values_contains (List.mem_of_getElem? (i := 8) rfl) rfl
theorem f_Values_len : ∃ fd, FunD K "__len__" "Values.__len__" (defArgs s_Values_len) (defBody s_Values_len) (defScope s_Values_len) [] [] (a_Values_len K) fd := T.fn d_Values_len (List.mem_of_getElem? (i := 9) rfl) rfl
theorem f_Values_eq : ∃ fd, FunD K "__eq__" "Values.__eq__" (defArgs s_Values_eq) (defBody s_Values_eq) (defScope s_Values_eq) [] [] (a_Values_eq K) fd := T.fn d_Values_eq (List.mem_of_getElem? (i := 10) rfl) rfl
theorem f_cell_told : ∃ fd, FunD K "cell_told" "cell_told" (defArgs s_cell_told) (defBody s_cell_told) (defScope s_cell_told) [] [] (a_cell_told K) fd := T.fn d_cell_told (List.mem_of_getElem? (i := 11) rfl) rfl
theorem f_item_of : ∃ fd, FunD K "item_of" "item_of" (defArgs s_item_of) (defBody s_item_of) (defScope s_item_of) [] [] (a_item_of K) fd := T.fn d_item_of (List.mem_of_getElem? (i := 12) rfl) rfl
theorem f_need_word_lines : ∃ fd, FunD K "need_word" "need_word" (defArgs s_need_word_lines) (defBody s_need_word_lines) (defScope s_need_word_lines) [] [] (a_need_word_lines K) fd := T.fn d_need_word_lines (List.mem_of_getElem? (i := 13) rfl) rfl
theorem f_Line_init : ∃ fd, FunD K "__init__" "Line.__init__" (defArgs s_Line_init) (defBody s_Line_init) (defScope s_Line_init) [] [] (a_Line_init K) fd := T.fn d_Line_init (List.mem_of_getElem? (i := 14) rfl) rfl
theorem f_Line_sure : ∃ fd, FunD K "sure" "Line.sure" (defArgs s_Line_sure) (defBody s_Line_sure) (defScope s_Line_sure) [] [] (a_Line_sure K) fd := T.fn d_Line_sure (List.mem_of_getElem? (i := 15) rfl) rfl
theorem f_Line_cells : ∃ fd, FunD K "cells" "Line.cells" (defArgs s_Line_cells) (defBody s_Line_cells) (defScope s_Line_cells) [] [] (a_Line_cells K) fd := T.fn d_Line_cells (List.mem_of_getElem? (i := 16) rfl) rfl
theorem f_Line_len : ∃ fd, FunD K "__len__" "Line.__len__" (defArgs s_Line_len) (defBody s_Line_len) (defScope s_Line_len) [] [] (a_Line_len K) fd := T.fn d_Line_len (List.mem_of_getElem? (i := 17) rfl) rfl
theorem f_need_values_sound : ∃ fd, FunD K "need_values" "need_values" (defArgs s_need_values_sound) (defBody s_need_values_sound) (defScope s_need_values_sound) [] [] (a_need_values_sound K) fd := T.fn d_need_values_sound (List.mem_of_getElem? (i := 18) rfl) rfl
theorem f_bits_of : ∃ fd, FunD K "bits_of" "bits_of" (defArgs s_bits_of) (defBody s_bits_of) (defScope s_bits_of) [] [] (a_bits_of K) fd := T.fn d_bits_of (List.mem_of_getElem? (i := 19) rfl) rfl
theorem f_steps_by : ∃ fd, FunD K "steps_by" "steps_by" (defArgs s_steps_by) (defBody s_steps_by) (defScope s_steps_by) [] [] (a_steps_by K) fd := T.fn d_steps_by (List.mem_of_getElem? (i := 20) rfl) rfl
theorem f_closed : ∃ fd, FunD K "closed" "closed" (defArgs s_closed) (defBody s_closed) (defScope s_closed) [] [] (a_closed K) fd := T.fn d_closed (List.mem_of_getElem? (i := 21) rfl) rfl
theorem f_is_told : ∃ fd, FunD K "is_told" "is_told" (defArgs s_is_told) (defBody s_is_told) (defScope s_is_told) [] [] (a_is_told K) fd := T.fn d_is_told (List.mem_of_getElem? (i := 22) rfl) rfl
theorem f_lost_states : ∃ fd, FunD K "lost_states" "lost_states" (defArgs s_lost_states) (defBody s_lost_states) (defScope s_lost_states) [] [] (a_lost_states K) fd := T.fn d_lost_states (List.mem_of_getElem? (i := 23) rfl) rfl
theorem f_numbers_of_sound : ∃ fd, FunD K "numbers_of" "numbers_of" (defArgs s_numbers_of_sound) (defBody s_numbers_of_sound) (defScope s_numbers_of_sound) [] [] (a_numbers_of_sound K) fd := T.fn d_numbers_of_sound (List.mem_of_getElem? (i := 24) rfl) rfl
theorem f_rows_of : ∃ fd, FunD K "rows_of" "rows_of" (defArgs s_rows_of) (defBody s_rows_of) (defScope s_rows_of) [] [] (a_rows_of K) fd := T.fn d_rows_of (List.mem_of_getElem? (i := 25) rfl) rfl
theorem f_is_sound_row : ∃ fd, FunD K "is_sound_row" "is_sound_row" (defArgs s_is_sound_row) (defBody s_is_sound_row) (defScope s_is_sound_row) [] [] (a_is_sound_row K) fd := T.fn d_is_sound_row (List.mem_of_getElem? (i := 26) rfl) rfl
theorem f_Judgement_init : ∃ fd, FunD K "__init__" "Judgement.__init__" (defArgs s_Judgement_init) (defBody s_Judgement_init) (defScope s_Judgement_init) [] [] (a_Judgement_init K) fd := T.fn d_Judgement_init (List.mem_of_getElem? (i := 27) rfl) rfl
theorem f_Judgement_bool : ∃ fd, FunD K "__bool__" "Judgement.__bool__" (defArgs s_Judgement_bool) (defBody s_Judgement_bool) (defScope s_Judgement_bool) [] [] (a_Judgement_bool K) fd := T.fn d_Judgement_bool (List.mem_of_getElem? (i := 28) rfl) rfl
theorem f_Shown_bool : ∃ fd, FunD K "__bool__" "Shown.__bool__" (defArgs s_Shown_bool) (defBody s_Shown_bool) (defScope s_Shown_bool) [] [] (a_Shown_bool K) fd := T.fn d_Shown_bool (List.mem_of_getElem? (i := 29) rfl) rfl
theorem f_is_sound_rule : ∃ fd, FunD K "is_sound_rule" "is_sound_rule" (defArgs s_is_sound_rule) (defBody s_is_sound_rule) (defScope s_is_sound_rule) [] [] (a_is_sound_rule K) fd := T.fn d_is_sound_rule (List.mem_of_getElem? (i := 32) rfl) rfl
theorem f_spoiled_word : ∃ fd, FunD K "spoiled_word" "spoiled_word" (defArgs s_spoiled_word) (defBody s_spoiled_word) (defScope s_spoiled_word) [] [] (a_spoiled_word K) fd := T.fn d_spoiled_word (List.mem_of_getElem? (i := 33) rfl) rfl
theorem f_first_strike : ∃ fd, FunD K "first_strike" "first_strike" (defArgs s_first_strike) (defBody s_first_strike) (defScope s_first_strike) [] [] (a_first_strike K) fd := T.fn d_first_strike (List.mem_of_getElem? (i := 34) rfl) rfl
theorem f_judge_sound : ∃ fd, FunD K "judge_sound" "judge_sound" (defArgs s_judge_sound) (defBody s_judge_sound) (defScope s_judge_sound) [] [] (a_judge_sound K) fd := T.fn d_judge_sound (List.mem_of_getElem? (i := 35) rfl) rfl
theorem f_is_index : ∃ fd, FunD K "is_index" "is_index" (defArgs s_is_index) (defBody s_is_index) (defScope s_is_index) [] [] (a_is_index K) fd := T.fn d_is_index (List.mem_of_getElem? (i := 36) rfl) rfl
theorem f_pattern_of : ∃ fd, FunD K "pattern_of" "pattern_of" (defArgs s_pattern_of) (defBody s_pattern_of) (defScope s_pattern_of) [] [] (a_pattern_of K) fd := T.fn d_pattern_of (List.mem_of_getElem? (i := 37) rfl) rfl
theorem f_Rule_need_values : ∃ fd, FunD K "need_values" "Rule.need_values" (defArgs s_Rule_need_values) (defBody s_Rule_need_values) (defScope s_Rule_need_values) [] [] (a_Rule_need_values K) fd := T.fn d_Rule_need_values (List.mem_of_getElem? (i := 39) rfl) rfl
theorem f_Rule_holds : ∃ fd, FunD K "holds" "Rule.holds" (defArgs s_Rule_holds) (defBody s_Rule_holds) (defScope s_Rule_holds) [] [] (a_Rule_holds K) fd := T.fn d_Rule_holds (List.mem_of_getElem? (i := 40) rfl) rfl
theorem f_Rule_strikes_in : ∃ fd, FunD K "strikes_in" "Rule.strikes_in" (defArgs s_Rule_strikes_in) (defBody s_Rule_strikes_in) (defScope s_Rule_strikes_in) [] [] (a_Rule_strikes_in K) fd := T.fn d_Rule_strikes_in (List.mem_of_getElem? (i := 41) rfl) rfl
theorem f_Rule_spans : ∃ fd, FunD K "spans" "Rule.spans" (defArgs s_Rule_spans) (defBody s_Rule_spans) (defScope s_Rule_spans) [] [] (a_Rule_spans K) fd := T.fn d_Rule_spans (List.mem_of_getElem? (i := 42) rfl) rfl
theorem f_Rule_hits : ∃ fd, FunD K "hits" "Rule.hits" (defArgs s_Rule_hits) (defBody s_Rule_hits) (defScope s_Rule_hits) [] [] (a_Rule_hits K) fd := T.fn d_Rule_hits (List.mem_of_getElem? (i := 43) rfl) rfl
theorem f_Rule_neg : ∃ fd, FunD K "__neg__" "Rule.__neg__" (defArgs s_Rule_neg) (defBody s_Rule_neg) (defScope s_Rule_neg) [] [] (a_Rule_neg K) fd := T.fn d_Rule_neg (List.mem_of_getElem? (i := 44) rfl) rfl
theorem f_Rule_len : ∃ fd, FunD K "__len__" "Rule.__len__" (defArgs s_Rule_len) (defBody s_Rule_len) (defScope s_Rule_len) [] [] (a_Rule_len K) fd := T.fn d_Rule_len (List.mem_of_getElem? (i := 45) rfl) rfl
theorem f_Rule_eq : ∃ fd, FunD K "__eq__" "Rule.__eq__" (defArgs s_Rule_eq) (defBody s_Rule_eq) (defScope s_Rule_eq) [] [] (a_Rule_eq K) fd := T.fn d_Rule_eq (List.mem_of_getElem? (i := 46) rfl) rfl
theorem f_numbers_of_rules : ∃ fd, FunD K "numbers_of" "numbers_of" (defArgs s_numbers_of_rules) (defBody s_numbers_of_rules) (defScope s_numbers_of_rules) [] [] (a_numbers_of_rules K) fd := T.fn d_numbers_of_rules (List.mem_of_getElem? (i := 47) rfl) rfl
theorem f_Striker_init : ∃ fd, FunD K "__init__" "Striker.__init__" (defArgs s_Striker_init) (defBody s_Striker_init) (defScope s_Striker_init) [] [] (a_Striker_init K) fd := T.fn d_Striker_init (List.mem_of_getElem? (i := 48) rfl) rfl
theorem f_Striker_reach : ∃ fd, FunD K "reach" "Striker.reach" (defArgs s_Striker_reach) (defBody s_Striker_reach) (defScope s_Striker_reach) [] [] (a_Striker_reach K) fd := T.fn d_Striker_reach (List.mem_of_getElem? (i := 49) rfl) rfl
theorem f_Striker_stepped : ∃ fd, FunD K "stepped" "Striker.stepped" (defArgs s_Striker_stepped) (defBody s_Striker_stepped) (defScope s_Striker_stepped) [] [] (a_Striker_stepped K) fd := T.fn d_Striker_stepped (List.mem_of_getElem? (i := 50) rfl) rfl
theorem f_Book_of : ∃ fd, FunD K "of" "Book.of" (defArgs s_Book_of) (defBody s_Book_of) (defScope s_Book_of) [] [] (a_Book_of K) fd := T.fn d_Book_of (List.mem_of_getElem? (i := 52) rfl) rfl
theorem f_Book_rules : ∃ fd, FunD K "rules" "Book.rules" (defArgs s_Book_rules) (defBody s_Book_rules) (defScope s_Book_rules) [] [] (a_Book_rules K) fd := T.fn d_Book_rules (List.mem_of_getElem? (i := 53) rfl) rfl
theorem f_Book_width : ∃ fd, FunD K "width" "Book.width" (defArgs s_Book_width) (defBody s_Book_width) (defScope s_Book_width) [] [] (a_Book_width K) fd := T.fn d_Book_width (List.mem_of_getElem? (i := 54) rfl) rfl
theorem f_Book_strikes_last : ∃ fd, FunD K "strikes_last" "Book.strikes_last" (defArgs s_Book_strikes_last) (defBody s_Book_strikes_last) (defScope s_Book_strikes_last) [] [] (a_Book_strikes_last K) fd := T.fn d_Book_strikes_last (List.mem_of_getElem? (i := 55) rfl) rfl
theorem f_Book_strikes_at : ∃ fd, FunD K "strikes_at" "Book.strikes_at" (defArgs s_Book_strikes_at) (defBody s_Book_strikes_at) (defScope s_Book_strikes_at) [] [] (a_Book_strikes_at K) fd := T.fn d_Book_strikes_at (List.mem_of_getElem? (i := 56) rfl) rfl
theorem f_Book_strikes_end : ∃ fd, FunD K "strikes_end" "Book.strikes_end" (defArgs s_Book_strikes_end) (defBody s_Book_strikes_end) (defScope s_Book_strikes_end) [] [] (a_Book_strikes_end K) fd := T.fn d_Book_strikes_end (List.mem_of_getElem? (i := 57) rfl) rfl
theorem f_reached : ∃ fd, FunD K "reached" "reached" (defArgs s_reached) (defBody s_reached) (defScope s_reached) [] [] (a_reached K) fd := T.fn d_reached (List.mem_of_getElem? (i := 58) rfl) rfl
theorem f_numbered : ∃ fd, FunD K "numbered" "numbered" (defArgs s_numbered) (defBody s_numbered) (defScope s_numbered) [] [] (a_numbered K) fd := T.fn d_numbered (List.mem_of_getElem? (i := 59) rfl) rfl
theorem f_parts : ∃ fd, FunD K "parts" "parts" (defArgs s_parts) (defBody s_parts) (defScope s_parts) [] [] (a_parts K) fd := T.fn d_parts (List.mem_of_getElem? (i := 60) rfl) rfl
theorem f_least_table : ∃ fd, FunD K "least_table" "least_table" (defArgs s_least_table) (defBody s_least_table) (defScope s_least_table) [] [] (a_least_table K) fd := T.fn d_least_table (List.mem_of_getElem? (i := 61) rfl) rfl
theorem f_both_told : ∃ fd, FunD K "both_told" "both_told" (defArgs s_both_told) (defBody s_both_told) (defScope s_both_told) [] [] (a_both_told K) fd := T.fn d_both_told (List.mem_of_getElem? (i := 62) rfl) rfl
theorem f_paired : ∃ fd, FunD K "paired" "paired" (defArgs s_paired) (defBody s_paired) (defScope s_paired) [] [] (a_paired K) fd := T.fn d_paired (List.mem_of_getElem? (i := 63) rfl) rfl
theorem f_mirrored : ∃ fd, FunD K "mirrored" "mirrored" (defArgs s_mirrored) (defBody s_mirrored) (defScope s_mirrored) [] [] (a_mirrored K) fd := T.fn d_mirrored (List.mem_of_getElem? (i := 64) rfl) rfl
theorem f_need_values_clues : ∃ fd, FunD K "need_values" "need_values" (defArgs s_need_values_clues) (defBody s_need_values_clues) (defScope s_need_values_clues) [] [] (a_need_values_clues K) fd := T.fn d_need_values_clues (List.mem_of_getElem? (i := 65) rfl) rfl
theorem f_need_room : ∃ fd, FunD K "need_room" "need_room" (defArgs s_need_room) (defBody s_need_room) (defScope s_need_room) [] [] (a_need_room K) fd := T.fn d_need_room (List.mem_of_getElem? (i := 66) rfl) rfl
theorem f_is_row : ∃ fd, FunD K "is_row" "is_row" (defArgs s_is_row) (defBody s_is_row) (defScope s_is_row) [] [] (a_is_row K) fd := T.fn d_is_row (List.mem_of_getElem? (i := 67) rfl) rfl
theorem f_Clue_init : ∃ fd, FunD K "__init__" "Clue.__init__" (defArgs s_Clue_init) (defBody s_Clue_init) (defScope s_Clue_init) [] [] (a_Clue_init K) fd := T.fn d_Clue_init (List.mem_of_getElem? (i := 68) rfl) rfl
theorem f_Clue_beside : ∃ fd, FunD K "beside" "Clue.beside" (defArgs s_Clue_beside) (defBody s_Clue_beside) (defScope s_Clue_beside) [] [] (a_Clue_beside K) fd := T.fn d_Clue_beside (List.mem_of_getElem? (i := 69) rfl) rfl
theorem f_Clue_and : ∃ fd, FunD K "__and__" "Clue.__and__" (defArgs s_Clue_and) (defBody s_Clue_and) (defScope s_Clue_and) [] [] (a_Clue_and K) fd := T.fn d_Clue_and (List.mem_of_getElem? (i := 70) rfl) rfl
theorem f_Clue_or : ∃ fd, FunD K "__or__" "Clue.__or__" (defArgs s_Clue_or) (defBody s_Clue_or) (defScope s_Clue_or) [] [] (a_Clue_or K) fd := T.fn d_Clue_or (List.mem_of_getElem? (i := 71) rfl) rfl
theorem f_Clue_neg : ∃ fd, FunD K "__neg__" "Clue.__neg__" (defArgs s_Clue_neg) (defBody s_Clue_neg) (defScope s_Clue_neg) [] [] (a_Clue_neg K) fd := T.fn d_Clue_neg (List.mem_of_getElem? (i := 72) rfl) rfl
theorem f_law_pen : ∃ fd, FunD K "_law_pen" "_law_pen" (defArgs s_law_pen) (defBody s_law_pen) (defScope s_law_pen) [] [] (a_law_pen K) fd := T.fn d_law_pen (List.mem_of_getElem? (i := 74) rfl) rfl
theorem f_law_draw : ∃ fd, FunD K "_law_draw" "_law_draw" (defArgs s_law_draw) (defBody s_law_draw) (defScope s_law_draw) [] [] (a_law_draw K) fd := T.fn d_law_draw (List.mem_of_getElem? (i := 75) rfl) rfl
theorem f_law_pick : ∃ fd, FunD K "_law_pick" "_law_pick" (defArgs s_law_pick) (defBody s_law_pick) (defScope s_law_pick) [] [] (a_law_pick K) fd := T.fn d_law_pick (List.mem_of_getElem? (i := 76) rfl) rfl
theorem f_law_two : ∃ fd, FunD K "_law_two" "_law_two" (defArgs s_law_two) (defBody s_law_two) (defScope s_law_two) [] [] (a_law_two K) fd := T.fn d_law_two (List.mem_of_getElem? (i := 77) rfl) rfl
theorem f_law_letters : ∃ fd, FunD K "_law_letters" "_law_letters" (defArgs s_law_letters) (defBody s_law_letters) (defScope s_law_letters) [] [] (a_law_letters K) fd := T.fn d_law_letters (List.mem_of_getElem? (i := 78) rfl) rfl
theorem f_law_cell : ∃ fd, FunD K "_law_cell" "_law_cell" (defArgs s_law_cell) (defBody s_law_cell) (defScope s_law_cell) [] [] (a_law_cell K) fd := T.fn d_law_cell (List.mem_of_getElem? (i := 79) rfl) rfl
theorem f_law_row : ∃ fd, FunD K "_law_row" "_law_row" (defArgs s_law_row) (defBody s_law_row) (defScope s_law_row) [] [] (a_law_row K) fd := T.fn d_law_row (List.mem_of_getElem? (i := 80) rfl) rfl
theorem f_law_rows : ∃ fd, FunD K "_law_rows" "_law_rows" (defArgs s_law_rows) (defBody s_law_rows) (defScope s_law_rows) [] [] (a_law_rows K) fd := T.fn d_law_rows (List.mem_of_getElem? (i := 81) rfl) rfl
theorem f_law_rule : ∃ fd, FunD K "_law_rule" "_law_rule" (defArgs s_law_rule) (defBody s_law_rule) (defScope s_law_rule) [] [] (a_law_rule K) fd := T.fn d_law_rule (List.mem_of_getElem? (i := 82) rfl) rfl
theorem f_law_book : ∃ fd, FunD K "_law_book" "_law_book" (defArgs s_law_book) (defBody s_law_book) (defScope s_law_book) [] [] (a_law_book K) fd := T.fn d_law_book (List.mem_of_getElem? (i := 83) rfl) rfl
theorem f_law_machine : ∃ fd, FunD K "_law_machine" "_law_machine" (defArgs s_law_machine) (defBody s_law_machine) (defScope s_law_machine) [] [] (a_law_machine K) fd := T.fn d_law_machine (List.mem_of_getElem? (i := 84) rfl) rfl
theorem f_law_clue : ∃ fd, FunD K "_law_clue" "_law_clue" (defArgs s_law_clue) (defBody s_law_clue) (defScope s_law_clue) [] [] (a_law_clue K) fd := T.fn d_law_clue (List.mem_of_getElem? (i := 85) rfl) rfl
theorem f_law_less : ∃ fd, FunD K "_law_less" "_law_less" (defArgs s_law_less) (defBody s_law_less) (defScope s_law_less) [] [] (a_law_less K) fd := T.fn d_law_less (List.mem_of_getElem? (i := 86) rfl) rfl
theorem f_law_right : ∃ fd, FunD K "_law_right" "_law_right" (defArgs s_law_right) (defBody s_law_right) (defScope s_law_right) [] [] (a_law_right K) fd := T.fn d_law_right (List.mem_of_getElem? (i := 87) rfl) rfl
theorem f_law : ∃ fd, FunD K "law" "law" (defArgs s_law) (defBody s_law) (defScope s_law) [] [] (a_law K) fd := T.fn d_law (List.mem_of_getElem? (i := 88) rfl) rfl
theorem f_Rule_init : ∃ fd, FunD K "__init__" "Rule.__init__" (defArgs s_Rule_init) (defBody s_Rule_init) (defScope s_Rule_init) [] [("left", .bl false), ("right", .bl false)] (a_Rule_init K) fd := T.fn d_Rule_init (List.mem_of_getElem? (i := 38) rfl) rfl
theorem k_is_whole : PySem.W.keepIn K (.ref (a_is_whole K)) = true := T.keep d_is_whole (List.mem_of_getElem? (i := 0) rfl)
theorem k_is_letters : PySem.W.keepIn K (.ref (a_is_letters K)) = true := T.keep d_is_letters (List.mem_of_getElem? (i := 1) rfl)
theorem k_is_cell_string : PySem.W.keepIn K (.ref (a_is_cell_string K)) = true := T.keep d_is_cell_string (List.mem_of_getElem? (i := 2) rfl)
theorem k_Cell_init : PySem.W.keepIn K (.ref (a_Cell_init K)) = true := T.keep d_Cell_init (List.mem_of_getElem? (i := 3) rfl)
theorem k_Cell_contains : PySem.W.keepIn K (.ref (a_Cell_contains K)) = true := T.keep d_Cell_contains (List.mem_of_getElem? (i := 4) rfl)
theorem k_Cell_bool : PySem.W.keepIn K (.ref (a_Cell_bool K)) = true := T.keep d_Cell_bool (List.mem_of_getElem? (i := 5) rfl)
theorem k_Values_init : PySem.W.keepIn K (.ref (a_Values_init K)) = true := T.keep d_Values_init (List.mem_of_getElem? (i := 6) rfl)
theorem k_Values_cell : PySem.W.keepIn K (.ref (a_Values_cell K)) = true := T.keep d_Values_cell (List.mem_of_getElem? (i := 7) rfl)
theorem k_Values_contains : PySem.W.keepIn K (.ref (a_Values_contains K)) = true := T.keep d_Values_contains (List.mem_of_getElem? (i := 8) rfl)
theorem k_Values_len : PySem.W.keepIn K (.ref (a_Values_len K)) = true := T.keep d_Values_len (List.mem_of_getElem? (i := 9) rfl)
theorem k_Values_eq : PySem.W.keepIn K (.ref (a_Values_eq K)) = true := T.keep d_Values_eq (List.mem_of_getElem? (i := 10) rfl)
theorem k_cell_told : PySem.W.keepIn K (.ref (a_cell_told K)) = true := T.keep d_cell_told (List.mem_of_getElem? (i := 11) rfl)
theorem k_item_of : PySem.W.keepIn K (.ref (a_item_of K)) = true := T.keep d_item_of (List.mem_of_getElem? (i := 12) rfl)
theorem k_need_word_lines : PySem.W.keepIn K (.ref (a_need_word_lines K)) = true := T.keep d_need_word_lines (List.mem_of_getElem? (i := 13) rfl)
theorem k_Line_init : PySem.W.keepIn K (.ref (a_Line_init K)) = true := T.keep d_Line_init (List.mem_of_getElem? (i := 14) rfl)
theorem k_Line_sure : PySem.W.keepIn K (.ref (a_Line_sure K)) = true := T.keep d_Line_sure (List.mem_of_getElem? (i := 15) rfl)
theorem k_Line_cells : PySem.W.keepIn K (.ref (a_Line_cells K)) = true := T.keep d_Line_cells (List.mem_of_getElem? (i := 16) rfl)
theorem k_Line_len : PySem.W.keepIn K (.ref (a_Line_len K)) = true := T.keep d_Line_len (List.mem_of_getElem? (i := 17) rfl)
theorem k_need_values_sound : PySem.W.keepIn K (.ref (a_need_values_sound K)) = true := T.keep d_need_values_sound (List.mem_of_getElem? (i := 18) rfl)
theorem k_bits_of : PySem.W.keepIn K (.ref (a_bits_of K)) = true := T.keep d_bits_of (List.mem_of_getElem? (i := 19) rfl)
theorem k_steps_by : PySem.W.keepIn K (.ref (a_steps_by K)) = true := T.keep d_steps_by (List.mem_of_getElem? (i := 20) rfl)
theorem k_closed : PySem.W.keepIn K (.ref (a_closed K)) = true := T.keep d_closed (List.mem_of_getElem? (i := 21) rfl)
theorem k_is_told : PySem.W.keepIn K (.ref (a_is_told K)) = true := T.keep d_is_told (List.mem_of_getElem? (i := 22) rfl)
theorem k_lost_states : PySem.W.keepIn K (.ref (a_lost_states K)) = true := T.keep d_lost_states (List.mem_of_getElem? (i := 23) rfl)
theorem k_numbers_of_sound : PySem.W.keepIn K (.ref (a_numbers_of_sound K)) = true := T.keep d_numbers_of_sound (List.mem_of_getElem? (i := 24) rfl)
theorem k_rows_of : PySem.W.keepIn K (.ref (a_rows_of K)) = true := T.keep d_rows_of (List.mem_of_getElem? (i := 25) rfl)
theorem k_is_sound_row : PySem.W.keepIn K (.ref (a_is_sound_row K)) = true := T.keep d_is_sound_row (List.mem_of_getElem? (i := 26) rfl)
theorem k_Judgement_init : PySem.W.keepIn K (.ref (a_Judgement_init K)) = true := T.keep d_Judgement_init (List.mem_of_getElem? (i := 27) rfl)
theorem k_Judgement_bool : PySem.W.keepIn K (.ref (a_Judgement_bool K)) = true := T.keep d_Judgement_bool (List.mem_of_getElem? (i := 28) rfl)
theorem k_Shown_bool : PySem.W.keepIn K (.ref (a_Shown_bool K)) = true := T.keep d_Shown_bool (List.mem_of_getElem? (i := 29) rfl)
theorem k_Sound_init : PySem.W.keepIn K (.ref (a_Sound_init K)) = true := T.keep d_Sound_init (List.mem_of_getElem? (i := 30) rfl)
theorem k_Unsound_init : PySem.W.keepIn K (.ref (a_Unsound_init K)) = true := T.keep d_Unsound_init (List.mem_of_getElem? (i := 31) rfl)
theorem k_is_sound_rule : PySem.W.keepIn K (.ref (a_is_sound_rule K)) = true := T.keep d_is_sound_rule (List.mem_of_getElem? (i := 32) rfl)
theorem k_spoiled_word : PySem.W.keepIn K (.ref (a_spoiled_word K)) = true := T.keep d_spoiled_word (List.mem_of_getElem? (i := 33) rfl)
theorem k_first_strike : PySem.W.keepIn K (.ref (a_first_strike K)) = true := T.keep d_first_strike (List.mem_of_getElem? (i := 34) rfl)
theorem k_judge_sound : PySem.W.keepIn K (.ref (a_judge_sound K)) = true := T.keep d_judge_sound (List.mem_of_getElem? (i := 35) rfl)
theorem k_is_index : PySem.W.keepIn K (.ref (a_is_index K)) = true := T.keep d_is_index (List.mem_of_getElem? (i := 36) rfl)
theorem k_pattern_of : PySem.W.keepIn K (.ref (a_pattern_of K)) = true := T.keep d_pattern_of (List.mem_of_getElem? (i := 37) rfl)
theorem k_Rule_init : PySem.W.keepIn K (.ref (a_Rule_init K)) = true := T.keep d_Rule_init (List.mem_of_getElem? (i := 38) rfl)
theorem k_Rule_need_values : PySem.W.keepIn K (.ref (a_Rule_need_values K)) = true := T.keep d_Rule_need_values (List.mem_of_getElem? (i := 39) rfl)
theorem k_Rule_holds : PySem.W.keepIn K (.ref (a_Rule_holds K)) = true := T.keep d_Rule_holds (List.mem_of_getElem? (i := 40) rfl)
theorem k_Rule_strikes_in : PySem.W.keepIn K (.ref (a_Rule_strikes_in K)) = true := T.keep d_Rule_strikes_in (List.mem_of_getElem? (i := 41) rfl)
theorem k_Rule_spans : PySem.W.keepIn K (.ref (a_Rule_spans K)) = true := T.keep d_Rule_spans (List.mem_of_getElem? (i := 42) rfl)
theorem k_Rule_hits : PySem.W.keepIn K (.ref (a_Rule_hits K)) = true := T.keep d_Rule_hits (List.mem_of_getElem? (i := 43) rfl)
theorem k_Rule_neg : PySem.W.keepIn K (.ref (a_Rule_neg K)) = true := T.keep d_Rule_neg (List.mem_of_getElem? (i := 44) rfl)
theorem k_Rule_len : PySem.W.keepIn K (.ref (a_Rule_len K)) = true := T.keep d_Rule_len (List.mem_of_getElem? (i := 45) rfl)
theorem k_Rule_eq : PySem.W.keepIn K (.ref (a_Rule_eq K)) = true := T.keep d_Rule_eq (List.mem_of_getElem? (i := 46) rfl)
theorem k_numbers_of_rules : PySem.W.keepIn K (.ref (a_numbers_of_rules K)) = true := T.keep d_numbers_of_rules (List.mem_of_getElem? (i := 47) rfl)
theorem k_Striker_init : PySem.W.keepIn K (.ref (a_Striker_init K)) = true := T.keep d_Striker_init (List.mem_of_getElem? (i := 48) rfl)
theorem k_Striker_reach : PySem.W.keepIn K (.ref (a_Striker_reach K)) = true := T.keep d_Striker_reach (List.mem_of_getElem? (i := 49) rfl)
theorem k_Striker_stepped : PySem.W.keepIn K (.ref (a_Striker_stepped K)) = true := T.keep d_Striker_stepped (List.mem_of_getElem? (i := 50) rfl)
theorem k_Book_init : PySem.W.keepIn K (.ref (a_Book_init K)) = true := T.keep d_Book_init (List.mem_of_getElem? (i := 51) rfl)
theorem k_Book_of : PySem.W.keepIn K (.ref (a_Book_of K)) = true := T.keep d_Book_of (List.mem_of_getElem? (i := 52) rfl)
theorem k_Book_rules : PySem.W.keepIn K (.ref (a_Book_rules K)) = true := T.keep d_Book_rules (List.mem_of_getElem? (i := 53) rfl)
theorem k_Book_width : PySem.W.keepIn K (.ref (a_Book_width K)) = true := T.keep d_Book_width (List.mem_of_getElem? (i := 54) rfl)
theorem k_Book_strikes_last : PySem.W.keepIn K (.ref (a_Book_strikes_last K)) = true := T.keep d_Book_strikes_last (List.mem_of_getElem? (i := 55) rfl)
theorem k_Book_strikes_at : PySem.W.keepIn K (.ref (a_Book_strikes_at K)) = true := T.keep d_Book_strikes_at (List.mem_of_getElem? (i := 56) rfl)
theorem k_Book_strikes_end : PySem.W.keepIn K (.ref (a_Book_strikes_end K)) = true := T.keep d_Book_strikes_end (List.mem_of_getElem? (i := 57) rfl)
theorem k_reached : PySem.W.keepIn K (.ref (a_reached K)) = true := T.keep d_reached (List.mem_of_getElem? (i := 58) rfl)
theorem k_numbered : PySem.W.keepIn K (.ref (a_numbered K)) = true := T.keep d_numbered (List.mem_of_getElem? (i := 59) rfl)
theorem k_parts : PySem.W.keepIn K (.ref (a_parts K)) = true := T.keep d_parts (List.mem_of_getElem? (i := 60) rfl)
theorem k_least_table : PySem.W.keepIn K (.ref (a_least_table K)) = true := T.keep d_least_table (List.mem_of_getElem? (i := 61) rfl)
theorem k_both_told : PySem.W.keepIn K (.ref (a_both_told K)) = true := T.keep d_both_told (List.mem_of_getElem? (i := 62) rfl)
theorem k_paired : PySem.W.keepIn K (.ref (a_paired K)) = true := T.keep d_paired (List.mem_of_getElem? (i := 63) rfl)
theorem k_mirrored : PySem.W.keepIn K (.ref (a_mirrored K)) = true := T.keep d_mirrored (List.mem_of_getElem? (i := 64) rfl)
theorem k_need_values_clues : PySem.W.keepIn K (.ref (a_need_values_clues K)) = true := T.keep d_need_values_clues (List.mem_of_getElem? (i := 65) rfl)
theorem k_need_room : PySem.W.keepIn K (.ref (a_need_room K)) = true := T.keep d_need_room (List.mem_of_getElem? (i := 66) rfl)
theorem k_is_row : PySem.W.keepIn K (.ref (a_is_row K)) = true := T.keep d_is_row (List.mem_of_getElem? (i := 67) rfl)
theorem k_Clue_init : PySem.W.keepIn K (.ref (a_Clue_init K)) = true := T.keep d_Clue_init (List.mem_of_getElem? (i := 68) rfl)
theorem k_Clue_beside : PySem.W.keepIn K (.ref (a_Clue_beside K)) = true := T.keep d_Clue_beside (List.mem_of_getElem? (i := 69) rfl)
theorem k_Clue_and : PySem.W.keepIn K (.ref (a_Clue_and K)) = true := T.keep d_Clue_and (List.mem_of_getElem? (i := 70) rfl)
theorem k_Clue_or : PySem.W.keepIn K (.ref (a_Clue_or K)) = true := T.keep d_Clue_or (List.mem_of_getElem? (i := 71) rfl)
theorem k_Clue_neg : PySem.W.keepIn K (.ref (a_Clue_neg K)) = true := T.keep d_Clue_neg (List.mem_of_getElem? (i := 72) rfl)
theorem k_Machine_init : PySem.W.keepIn K (.ref (a_Machine_init K)) = true := T.keep d_Machine_init (List.mem_of_getElem? (i := 73) rfl)
theorem k_law_pen : PySem.W.keepIn K (.ref (a_law_pen K)) = true := T.keep d_law_pen (List.mem_of_getElem? (i := 74) rfl)
theorem k_law_draw : PySem.W.keepIn K (.ref (a_law_draw K)) = true := T.keep d_law_draw (List.mem_of_getElem? (i := 75) rfl)
theorem k_law_pick : PySem.W.keepIn K (.ref (a_law_pick K)) = true := T.keep d_law_pick (List.mem_of_getElem? (i := 76) rfl)
theorem k_law_two : PySem.W.keepIn K (.ref (a_law_two K)) = true := T.keep d_law_two (List.mem_of_getElem? (i := 77) rfl)
theorem k_law_letters : PySem.W.keepIn K (.ref (a_law_letters K)) = true := T.keep d_law_letters (List.mem_of_getElem? (i := 78) rfl)
theorem k_law_cell : PySem.W.keepIn K (.ref (a_law_cell K)) = true := T.keep d_law_cell (List.mem_of_getElem? (i := 79) rfl)
theorem k_law_row : PySem.W.keepIn K (.ref (a_law_row K)) = true := T.keep d_law_row (List.mem_of_getElem? (i := 80) rfl)
theorem k_law_rows : PySem.W.keepIn K (.ref (a_law_rows K)) = true := T.keep d_law_rows (List.mem_of_getElem? (i := 81) rfl)
theorem k_law_rule : PySem.W.keepIn K (.ref (a_law_rule K)) = true := T.keep d_law_rule (List.mem_of_getElem? (i := 82) rfl)
theorem k_law_book : PySem.W.keepIn K (.ref (a_law_book K)) = true := T.keep d_law_book (List.mem_of_getElem? (i := 83) rfl)
theorem k_law_machine : PySem.W.keepIn K (.ref (a_law_machine K)) = true := T.keep d_law_machine (List.mem_of_getElem? (i := 84) rfl)
theorem k_law_clue : PySem.W.keepIn K (.ref (a_law_clue K)) = true := T.keep d_law_clue (List.mem_of_getElem? (i := 85) rfl)
theorem k_law_less : PySem.W.keepIn K (.ref (a_law_less K)) = true := T.keep d_law_less (List.mem_of_getElem? (i := 86) rfl)
theorem k_law_right : PySem.W.keepIn K (.ref (a_law_right K)) = true := T.keep d_law_right (List.mem_of_getElem? (i := 87) rfl)
theorem k_law : PySem.W.keepIn K (.ref (a_law K)) = true := T.keep d_law (List.mem_of_getElem? (i := 88) rfl)
theorem g_law_book : mg "_law_book" = some (.ref (He.ga K "_law_book")) := T.glo _ (List.mem_of_getElem? (i := 0) rfl)
theorem g_law_cell : mg "_law_cell" = some (.ref (He.ga K "_law_cell")) := T.glo _ (List.mem_of_getElem? (i := 1) rfl)
theorem g_law_clue : mg "_law_clue" = some (.ref (He.ga K "_law_clue")) := T.glo _ (List.mem_of_getElem? (i := 2) rfl)
theorem g_law_draw : mg "_law_draw" = some (.ref (He.ga K "_law_draw")) := T.glo _ (List.mem_of_getElem? (i := 3) rfl)
theorem g_law_less : mg "_law_less" = some (.ref (He.ga K "_law_less")) := T.glo _ (List.mem_of_getElem? (i := 4) rfl)
theorem g_law_letters : mg "_law_letters" = some (.ref (He.ga K "_law_letters")) := T.glo _ (List.mem_of_getElem? (i := 5) rfl)
theorem g_law_machine : mg "_law_machine" = some (.ref (He.ga K "_law_machine")) := T.glo _ (List.mem_of_getElem? (i := 6) rfl)
theorem g_law_pen : mg "_law_pen" = some (.ref (He.ga K "_law_pen")) := T.glo _ (List.mem_of_getElem? (i := 7) rfl)
theorem g_law_pick : mg "_law_pick" = some (.ref (He.ga K "_law_pick")) := T.glo _ (List.mem_of_getElem? (i := 8) rfl)
theorem g_law_right : mg "_law_right" = some (.ref (He.ga K "_law_right")) := T.glo _ (List.mem_of_getElem? (i := 9) rfl)
theorem g_law_row : mg "_law_row" = some (.ref (He.ga K "_law_row")) := T.glo _ (List.mem_of_getElem? (i := 10) rfl)
theorem g_law_rows : mg "_law_rows" = some (.ref (He.ga K "_law_rows")) := T.glo _ (List.mem_of_getElem? (i := 11) rfl)
theorem g_law_rule : mg "_law_rule" = some (.ref (He.ga K "_law_rule")) := T.glo _ (List.mem_of_getElem? (i := 12) rfl)
theorem g_law_two : mg "_law_two" = some (.ref (He.ga K "_law_two")) := T.glo _ (List.mem_of_getElem? (i := 13) rfl)
theorem g_bits_of : mg "bits_of" = some (.ref (He.ga K "bits_of")) := T.glo _ (List.mem_of_getElem? (i := 14) rfl)
theorem g_both_told : mg "both_told" = some (.ref (He.ga K "both_told")) := T.glo _ (List.mem_of_getElem? (i := 15) rfl)
theorem g_cell_told : mg "cell_told" = some (.ref (He.ga K "cell_told")) := T.glo _ (List.mem_of_getElem? (i := 16) rfl)
theorem g_closed : mg "closed" = some (.ref (He.ga K "closed")) := T.glo _ (List.mem_of_getElem? (i := 17) rfl)
theorem g_first_strike : mg "first_strike" = some (.ref (He.ga K "first_strike")) := T.glo _ (List.mem_of_getElem? (i := 18) rfl)
theorem g_is_cell_string : mg "is_cell_string" = some (.ref (He.ga K "is_cell_string")) := T.glo _ (List.mem_of_getElem? (i := 19) rfl)
theorem g_is_index : mg "is_index" = some (.ref (He.ga K "is_index")) := T.glo _ (List.mem_of_getElem? (i := 20) rfl)
theorem g_is_letters : mg "is_letters" = some (.ref (He.ga K "is_letters")) := T.glo _ (List.mem_of_getElem? (i := 21) rfl)
theorem g_is_row : mg "is_row" = some (.ref (He.ga K "is_row")) := T.glo _ (List.mem_of_getElem? (i := 22) rfl)
theorem g_is_sound_row : mg "is_sound_row" = some (.ref (He.ga K "is_sound_row")) := T.glo _ (List.mem_of_getElem? (i := 23) rfl)
theorem g_is_sound_rule : mg "is_sound_rule" = some (.ref (He.ga K "is_sound_rule")) := T.glo _ (List.mem_of_getElem? (i := 24) rfl)
theorem g_is_told : mg "is_told" = some (.ref (He.ga K "is_told")) := T.glo _ (List.mem_of_getElem? (i := 25) rfl)
theorem g_is_whole : mg "is_whole" = some (.ref (He.ga K "is_whole")) := T.glo _ (List.mem_of_getElem? (i := 26) rfl)
theorem g_item_of : mg "item_of" = some (.ref (He.ga K "item_of")) := T.glo _ (List.mem_of_getElem? (i := 27) rfl)
theorem g_judge_sound : mg "judge_sound" = some (.ref (He.ga K "judge_sound")) := T.glo _ (List.mem_of_getElem? (i := 28) rfl)
theorem g_law : mg "law" = some (.ref (He.ga K "law")) := T.glo _ (List.mem_of_getElem? (i := 29) rfl)
theorem g_least_table : mg "least_table" = some (.ref (He.ga K "least_table")) := T.glo _ (List.mem_of_getElem? (i := 30) rfl)
theorem g_lost_states : mg "lost_states" = some (.ref (He.ga K "lost_states")) := T.glo _ (List.mem_of_getElem? (i := 31) rfl)
theorem g_mirrored : mg "mirrored" = some (.ref (He.ga K "mirrored")) := T.glo _ (List.mem_of_getElem? (i := 32) rfl)
theorem g_need_room : mg "need_room" = some (.ref (He.ga K "need_room")) := T.glo _ (List.mem_of_getElem? (i := 33) rfl)
theorem g_need_values_clues : mg "need_values_clues" = some (.ref (He.ga K "need_values_clues")) := T.glo _ (List.mem_of_getElem? (i := 34) rfl)
theorem g_need_values_sound : mg "need_values_sound" = some (.ref (He.ga K "need_values_sound")) := T.glo _ (List.mem_of_getElem? (i := 35) rfl)
theorem g_need_word_lines : mg "need_word_lines" = some (.ref (He.ga K "need_word_lines")) := T.glo _ (List.mem_of_getElem? (i := 36) rfl)
theorem g_numbered : mg "numbered" = some (.ref (He.ga K "numbered")) := T.glo _ (List.mem_of_getElem? (i := 37) rfl)
theorem g_numbers_of_rules : mg "numbers_of_rules" = some (.ref (He.ga K "numbers_of_rules")) := T.glo _ (List.mem_of_getElem? (i := 38) rfl)
theorem g_numbers_of_sound : mg "numbers_of_sound" = some (.ref (He.ga K "numbers_of_sound")) := T.glo _ (List.mem_of_getElem? (i := 39) rfl)
theorem g_paired : mg "paired" = some (.ref (He.ga K "paired")) := T.glo _ (List.mem_of_getElem? (i := 40) rfl)
theorem g_parts : mg "parts" = some (.ref (He.ga K "parts")) := T.glo _ (List.mem_of_getElem? (i := 41) rfl)
theorem g_pattern_of : mg "pattern_of" = some (.ref (He.ga K "pattern_of")) := T.glo _ (List.mem_of_getElem? (i := 42) rfl)
theorem g_reached : mg "reached" = some (.ref (He.ga K "reached")) := T.glo _ (List.mem_of_getElem? (i := 43) rfl)
theorem g_rows_of : mg "rows_of" = some (.ref (He.ga K "rows_of")) := T.glo _ (List.mem_of_getElem? (i := 44) rfl)
theorem g_spoiled_word : mg "spoiled_word" = some (.ref (He.ga K "spoiled_word")) := T.glo _ (List.mem_of_getElem? (i := 45) rfl)
theorem g_steps_by : mg "steps_by" = some (.ref (He.ga K "steps_by")) := T.glo _ (List.mem_of_getElem? (i := 46) rfl)
theorem g_Cell : mg "Cell" = some (.ref (He.ga K "Cell")) := T.glo _ (List.mem_of_getElem? (i := 47) rfl)
theorem g_Values : mg "Values" = some (.ref (He.ga K "Values")) := T.glo _ (List.mem_of_getElem? (i := 48) rfl)
theorem g_Line : mg "Line" = some (.ref (He.ga K "Line")) := T.glo _ (List.mem_of_getElem? (i := 49) rfl)
theorem g_Rule : mg "Rule" = some (.ref (He.ga K "Rule")) := T.glo _ (List.mem_of_getElem? (i := 50) rfl)
theorem g_Book : mg "Book" = some (.ref (He.ga K "Book")) := T.glo _ (List.mem_of_getElem? (i := 51) rfl)
theorem g_Sound : mg "Sound" = some (.ref (He.ga K "Sound")) := T.glo _ (List.mem_of_getElem? (i := 52) rfl)
theorem g_Unsound : mg "Unsound" = some (.ref (He.ga K "Unsound")) := T.glo _ (List.mem_of_getElem? (i := 53) rfl)
theorem g_Clue : mg "Clue" = some (.ref (He.ga K "Clue")) := T.glo _ (List.mem_of_getElem? (i := 54) rfl)
theorem g_Machine : mg "Machine" = some (.ref (He.ga K "Machine")) := T.glo _ (List.mem_of_getElem? (i := 55) rfl)
theorem e_isinstance : mg "isinstance" = none := T.free _ (List.mem_of_getElem? (i := 0) rfl)
theorem e_int : mg "int" = none := T.free _ (List.mem_of_getElem? (i := 1) rfl)
theorem e_bool : mg "bool" = none := T.free _ (List.mem_of_getElem? (i := 2) rfl)
theorem e_str : mg "str" = none := T.free _ (List.mem_of_getElem? (i := 3) rfl)
theorem e_list : mg "list" = none := T.free _ (List.mem_of_getElem? (i := 4) rfl)
theorem e_tuple : mg "tuple" = none := T.free _ (List.mem_of_getElem? (i := 5) rfl)
theorem e_len : mg "len" = none := T.free _ (List.mem_of_getElem? (i := 6) rfl)
theorem e_set : mg "set" = none := T.free _ (List.mem_of_getElem? (i := 7) rfl)
theorem e_all : mg "all" = none := T.free _ (List.mem_of_getElem? (i := 8) rfl)
theorem e_any : mg "any" = none := T.free _ (List.mem_of_getElem? (i := 9) rfl)
theorem e_enumerate : mg "enumerate" = none := T.free _ (List.mem_of_getElem? (i := 10) rfl)
theorem e_sum : mg "sum" = none := T.free _ (List.mem_of_getElem? (i := 11) rfl)
theorem e_sorted : mg "sorted" = none := T.free _ (List.mem_of_getElem? (i := 12) rfl)
theorem e_range : mg "range" = none := T.free _ (List.mem_of_getElem? (i := 13) rfl)
theorem e_zip : mg "zip" = none := T.free _ (List.mem_of_getElem? (i := 14) rfl)
theorem e_max : mg "max" = none := T.free _ (List.mem_of_getElem? (i := 15) rfl)
theorem e_abs : mg "abs" = none := T.free _ (List.mem_of_getElem? (i := 16) rfl)
theorem e_super : mg "super" = none := T.free _ (List.mem_of_getElem? (i := 17) rfl)
theorem c_Cell : Cls K (He.ga K "Cell") := T.cls _ (List.mem_of_getElem? (i := 0) rfl)
theorem c_Values : Cls K (He.ga K "Values") := T.cls _ (List.mem_of_getElem? (i := 1) rfl)
theorem c_Line : Cls K (He.ga K "Line") := T.cls _ (List.mem_of_getElem? (i := 2) rfl)
theorem c_Rule : Cls K (He.ga K "Rule") := T.cls _ (List.mem_of_getElem? (i := 3) rfl)
theorem c_Book : Cls K (He.ga K "Book") := T.cls _ (List.mem_of_getElem? (i := 4) rfl)
theorem c_Sound : Cls K (He.ga K "Sound") := T.cls _ (List.mem_of_getElem? (i := 5) rfl)
theorem c_Unsound : Cls K (He.ga K "Unsound") := T.cls _ (List.mem_of_getElem? (i := 6) rfl)
theorem c_Clue : Cls K (He.ga K "Clue") := T.cls _ (List.mem_of_getElem? (i := 7) rfl)
theorem c_Machine : Cls K (He.ga K "Machine") := T.cls _ (List.mem_of_getElem? (i := 8) rfl)
theorem m_Cell : Mk K (He.ga K "Cell") (He.ma K (He.ga K "Cell") "__init__") := T.mkr _ (List.mem_of_getElem? (i := 0) rfl)
theorem m_Values : Mk K (He.ga K "Values") (He.ma K (He.ga K "Values") "__init__") := T.mkr _ (List.mem_of_getElem? (i := 1) rfl)
theorem m_Line : Mk K (He.ga K "Line") (He.ma K (He.ga K "Line") "__init__") := T.mkr _ (List.mem_of_getElem? (i := 2) rfl)
theorem m_Rule : Mk K (He.ga K "Rule") (He.ma K (He.ga K "Rule") "__init__") := T.mkr _ (List.mem_of_getElem? (i := 3) rfl)
theorem m_Book : Mk K (He.ga K "Book") (He.ma K (He.ga K "Book") "__init__") := T.mkr _ (List.mem_of_getElem? (i := 4) rfl)
theorem m_Sound : Mk K (He.ga K "Sound") (He.ma K (He.ga K "Sound") "__init__") := T.mkr _ (List.mem_of_getElem? (i := 5) rfl)
theorem m_Unsound : Mk K (He.ga K "Unsound") (He.ma K (He.ga K "Unsound") "__init__") := T.mkr _ (List.mem_of_getElem? (i := 6) rfl)
theorem m_Clue : Mk K (He.ga K "Clue") (He.ma K (He.ga K "Clue") "__init__") := T.mkr _ (List.mem_of_getElem? (i := 7) rfl)
theorem m_Machine : Mk K (He.ga K "Machine") (He.ma K (He.ga K "Machine") "__init__") := T.mkr _ (List.mem_of_getElem? (i := 8) rfl)
theorem o_Cell_alphabet : NoAttr K (He.ga K "Cell") "alphabet" := T.noat _ (List.mem_of_getElem? (i := 0) rfl)
theorem o_Cell_number : NoAttr K (He.ga K "Cell") "number" := T.noat _ (List.mem_of_getElem? (i := 1) rfl)
theorem o_Cell_letters : NoAttr K (He.ga K "Cell") "letters" := T.noat _ (List.mem_of_getElem? (i := 2) rfl)
theorem o_Values_letters : NoAttr K (He.ga K "Values") "letters" := T.noat _ (List.mem_of_getElem? (i := 3) rfl)
theorem o_Line_alphabet : NoAttr K (He.ga K "Line") "alphabet" := T.noat _ (List.mem_of_getElem? (i := 4) rfl)
theorem o_Line_row : NoAttr K (He.ga K "Line") "row" := T.noat _ (List.mem_of_getElem? (i := 5) rfl)
theorem o_Rule_alphabet : NoAttr K (He.ga K "Rule") "alphabet" := T.noat _ (List.mem_of_getElem? (i := 6) rfl)
theorem o_Rule_pattern : NoAttr K (He.ga K "Rule") "pattern" := T.noat _ (List.mem_of_getElem? (i := 7) rfl)
theorem o_Rule_at : NoAttr K (He.ga K "Rule") "at" := T.noat _ (List.mem_of_getElem? (i := 8) rfl)
theorem o_Rule_value : NoAttr K (He.ga K "Rule") "value" := T.noat _ (List.mem_of_getElem? (i := 9) rfl)
theorem o_Rule_left : NoAttr K (He.ga K "Rule") "left" := T.noat _ (List.mem_of_getElem? (i := 10) rfl)
theorem o_Rule_right : NoAttr K (He.ga K "Rule") "right" := T.noat _ (List.mem_of_getElem? (i := 11) rfl)
theorem o_Rule_numbers : NoAttr K (He.ga K "Rule") "numbers" := T.noat _ (List.mem_of_getElem? (i := 12) rfl)
theorem o_Rule_bit : NoAttr K (He.ga K "Rule") "bit" := T.noat _ (List.mem_of_getElem? (i := 13) rfl)
theorem o_Book_alphabet : NoAttr K (He.ga K "Book") "alphabet" := T.noat _ (List.mem_of_getElem? (i := 14) rfl)
theorem o_Book_own_rules : NoAttr K (He.ga K "Book") "own_rules" := T.noat _ (List.mem_of_getElem? (i := 15) rfl)
theorem o_Sound_facts : NoAttr K (He.ga K "Sound") "facts" := T.noat _ (List.mem_of_getElem? (i := 16) rfl)
theorem o_Sound_kind : NoAttr K (He.ga K "Sound") "kind" := T.noat _ (List.mem_of_getElem? (i := 17) rfl)
theorem o_Sound_lost : NoAttr K (He.ga K "Sound") "lost" := T.noat _ (List.mem_of_getElem? (i := 18) rfl)
theorem o_Sound_rows : NoAttr K (He.ga K "Sound") "rows" := T.noat _ (List.mem_of_getElem? (i := 19) rfl)
theorem o_Unsound_facts : NoAttr K (He.ga K "Unsound") "facts" := T.noat _ (List.mem_of_getElem? (i := 20) rfl)
theorem o_Unsound_kind : NoAttr K (He.ga K "Unsound") "kind" := T.noat _ (List.mem_of_getElem? (i := 21) rfl)
theorem o_Unsound_spoiled : NoAttr K (He.ga K "Unsound") "spoiled" := T.noat _ (List.mem_of_getElem? (i := 22) rfl)
theorem o_Unsound_place : NoAttr K (He.ga K "Unsound") "place" := T.noat _ (List.mem_of_getElem? (i := 23) rfl)
theorem o_Unsound_number : NoAttr K (He.ga K "Unsound") "number" := T.noat _ (List.mem_of_getElem? (i := 24) rfl)
theorem o_Clue_alphabet : NoAttr K (He.ga K "Clue") "alphabet" := T.noat _ (List.mem_of_getElem? (i := 25) rfl)
theorem o_Clue_steps : NoAttr K (He.ga K "Clue") "steps" := T.noat _ (List.mem_of_getElem? (i := 26) rfl)
theorem o_Clue_told : NoAttr K (He.ga K "Clue") "told" := T.noat _ (List.mem_of_getElem? (i := 27) rfl)
theorem o_Machine_alphabet : NoAttr K (He.ga K "Machine") "alphabet" := T.noat _ (List.mem_of_getElem? (i := 28) rfl)
theorem o_Machine_steps : NoAttr K (He.ga K "Machine") "steps" := T.noat _ (List.mem_of_getElem? (i := 29) rfl)
theorem o_Machine_told : NoAttr K (He.ga K "Machine") "told" := T.noat _ (List.mem_of_getElem? (i := 30) rfl)
theorem h_Values_cell : Meth K (He.ga K "Values") "cell" (He.ma K (He.ga K "Values") "cell") := T.meth _ (List.mem_of_getElem? (i := 0) rfl)
theorem h_Values_contains : Meth K (He.ga K "Values") "__contains__" (He.ma K (He.ga K "Values") "__contains__") := T.meth _ (List.mem_of_getElem? (i := 1) rfl)
theorem h_Values_len : Meth K (He.ga K "Values") "__len__" (He.ma K (He.ga K "Values") "__len__") := T.meth _ (List.mem_of_getElem? (i := 2) rfl)
theorem h_Values_eq : Meth K (He.ga K "Values") "__eq__" (He.ma K (He.ga K "Values") "__eq__") := T.meth _ (List.mem_of_getElem? (i := 3) rfl)
theorem h_Cell_contains : Meth K (He.ga K "Cell") "__contains__" (He.ma K (He.ga K "Cell") "__contains__") := T.meth _ (List.mem_of_getElem? (i := 4) rfl)
theorem h_Cell_bool : Meth K (He.ga K "Cell") "__bool__" (He.ma K (He.ga K "Cell") "__bool__") := T.meth _ (List.mem_of_getElem? (i := 5) rfl)
theorem h_Line_len : Meth K (He.ga K "Line") "__len__" (He.ma K (He.ga K "Line") "__len__") := T.meth _ (List.mem_of_getElem? (i := 6) rfl)
theorem h_Rule_need_values : Meth K (He.ga K "Rule") "need_values" (He.ma K (He.ga K "Rule") "need_values") := T.meth _ (List.mem_of_getElem? (i := 7) rfl)
theorem h_Rule_holds : Meth K (He.ga K "Rule") "holds" (He.ma K (He.ga K "Rule") "holds") := T.meth _ (List.mem_of_getElem? (i := 8) rfl)
theorem h_Rule_strikes_in : Meth K (He.ga K "Rule") "strikes_in" (He.ma K (He.ga K "Rule") "strikes_in") := T.meth _ (List.mem_of_getElem? (i := 9) rfl)
theorem h_Rule_spans : Meth K (He.ga K "Rule") "spans" (He.ma K (He.ga K "Rule") "spans") := T.meth _ (List.mem_of_getElem? (i := 10) rfl)
theorem h_Rule_hits : Meth K (He.ga K "Rule") "hits" (He.ma K (He.ga K "Rule") "hits") := T.meth _ (List.mem_of_getElem? (i := 11) rfl)
theorem h_Rule_neg : Meth K (He.ga K "Rule") "__neg__" (He.ma K (He.ga K "Rule") "__neg__") := T.meth _ (List.mem_of_getElem? (i := 12) rfl)
theorem h_Rule_len : Meth K (He.ga K "Rule") "__len__" (He.ma K (He.ga K "Rule") "__len__") := T.meth _ (List.mem_of_getElem? (i := 13) rfl)
theorem h_Rule_eq : Meth K (He.ga K "Rule") "__eq__" (He.ma K (He.ga K "Rule") "__eq__") := T.meth _ (List.mem_of_getElem? (i := 14) rfl)
theorem h_Book_stepped : Meth K (He.ga K "Book") "stepped" (He.ma K (He.ga K "Book") "stepped") := T.meth _ (List.mem_of_getElem? (i := 15) rfl)
theorem h_Book_strikes_last : Meth K (He.ga K "Book") "strikes_last" (He.ma K (He.ga K "Book") "strikes_last") := T.meth _ (List.mem_of_getElem? (i := 16) rfl)
theorem h_Book_strikes_at : Meth K (He.ga K "Book") "strikes_at" (He.ma K (He.ga K "Book") "strikes_at") := T.meth _ (List.mem_of_getElem? (i := 17) rfl)
theorem h_Book_strikes_end : Meth K (He.ga K "Book") "strikes_end" (He.ma K (He.ga K "Book") "strikes_end") := T.meth _ (List.mem_of_getElem? (i := 18) rfl)
theorem h_Machine_beside : Meth K (He.ga K "Machine") "beside" (He.ma K (He.ga K "Machine") "beside") := T.meth _ (List.mem_of_getElem? (i := 19) rfl)
theorem h_Machine_and : Meth K (He.ga K "Machine") "__and__" (He.ma K (He.ga K "Machine") "__and__") := T.meth _ (List.mem_of_getElem? (i := 20) rfl)
theorem h_Machine_or : Meth K (He.ga K "Machine") "__or__" (He.ma K (He.ga K "Machine") "__or__") := T.meth _ (List.mem_of_getElem? (i := 21) rfl)
theorem h_Machine_neg : Meth K (He.ga K "Machine") "__neg__" (He.ma K (He.ga K "Machine") "__neg__") := T.meth _ (List.mem_of_getElem? (i := 22) rfl)
theorem h_Sound_bool : Meth K (He.ga K "Sound") "__bool__" (He.ma K (He.ga K "Sound") "__bool__") := T.meth _ (List.mem_of_getElem? (i := 23) rfl)
theorem h_Unsound_bool : Meth K (He.ga K "Unsound") "__bool__" (He.ma K (He.ga K "Unsound") "__bool__") := T.meth _ (List.mem_of_getElem? (i := 24) rfl)
theorem p_Line_cells_ : PropOf K (He.ga K "Line") "cells" (prA K (He.ga K "Line") "cells") (prG K "Line" "cells") := T.prop _ (List.mem_of_getElem? (i := 0) rfl)
theorem p_Book_reach_ : PropOf K (He.ga K "Book") "reach" (prA K (He.ga K "Book") "reach") (prG K "Book" "reach") := T.prop _ (List.mem_of_getElem? (i := 1) rfl)
theorem p_Book_rules_ : PropOf K (He.ga K "Book") "rules" (prA K (He.ga K "Book") "rules") (prG K "Book" "rules") := T.prop _ (List.mem_of_getElem? (i := 2) rfl)
theorem p_Book_width_ : PropOf K (He.ga K "Book") "width" (prA K (He.ga K "Book") "width") (prG K "Book" "width") := T.prop _ (List.mem_of_getElem? (i := 3) rfl)
end
end K5
end
section
set_option maxRecDepth 100000
set_option maxHeartbeats 2000000
/-! plain facts of letters, masks, texts -/
namespace K5
open PySem PySem.Builtin PySem.StrLaws PyProof.Rows PySem.Spec
abbrev Sx (ls : List Nat) : PySem.Str := ⟨ls.toArray⟩
/-- the letters of ls whose bit is in n -/
def sel (ls : List Nat) (n : Nat) : List Nat := ((List.range ls.length).filter n.testBit).map fun i => ls.getD i 0
structure LetOk (ls : List Nat) : Prop where
  two : 2 ≤ ls.length
  four : ls.length ≤ 4
  nd : ls.Nodup
  low : ∀ c ∈ ls, 97 ≤ c ∧ c ≤ 122
section
variable {ls : List Nat} {n i c : Nat}
theorem nd_inj {l : List Nat} (nd : l.Nodup) {i j c : Nat} (h : l[i]? = some c) (h' : l[j]? = some c) : i = j := by
  obtain ⟨hi, e⟩ := List.getElem?_eq_some_iff.mp h
  obtain ⟨hj, e'⟩ := List.getElem?_eq_some_iff.mp h'
  have p := List.pairwise_iff_getElem.mp nd
  rcases Nat.lt_trichotomy i j with q | q | q
  · exact absurd (e.trans e'.symm) (p i j hi hj q)
  · exact q
  · exact absurd (e'.trans e.symm) (p j i hj hi q)
theorem sel_mem (nd : ls.Nodup) (h : ls[i]? = some c) : c ∈ sel ls n ↔ n.testBit i = true := by
  unfold sel
  rw [List.mem_map]
  obtain ⟨hi, e⟩ := List.getElem?_eq_some_iff.mp h
  constructor
  · rintro ⟨j, hj, ej⟩
    rw [List.mem_filter, List.mem_range] at hj
    rw [List.getD_eq_getElem?_getD, List.getElem?_eq_getElem hj.1] at ej
    have : j = i := nd_inj nd (by rw [List.getElem?_eq_getElem hj.1]; exact congrArg some ej) h
    rw [← this]
    exact hj.2
  · intro hb
    refine ⟨i, List.mem_filter.mpr ⟨List.mem_range.mpr hi, hb⟩, ?_⟩
    rw [List.getD_eq_getElem?_getD, h]
    rfl
theorem sel_sub (h : c ∈ sel ls n) : c ∈ ls := by
  unfold sel at h
  obtain ⟨j, hj, rfl⟩ := List.mem_map.mp h
  rw [List.mem_filter, List.mem_range] at hj
  rw [List.getD_eq_getElem?_getD, List.getElem?_eq_getElem hj.1]
  exact List.getElem_mem hj.1
theorem sel_nodup (nd : ls.Nodup) : (sel ls n).Nodup := by
  unfold sel
  refine List.Pairwise.map _ ?_ (List.Pairwise.and_mem.mp (List.Pairwise.filter n.testBit List.nodup_range))
  rintro a b ⟨ha, hb, ne⟩ e
  rw [List.mem_filter, List.mem_range] at ha hb
  rw [List.getD_eq_getElem?_getD, List.getD_eq_getElem?_getD, List.getElem?_eq_getElem ha.1, List.getElem?_eq_getElem hb.1] at e
  exact ne (nd_inj nd (List.getElem?_eq_getElem ha.1) (by rw [List.getElem?_eq_getElem hb.1]; exact congrArg some e.symm))
theorem sel_len : (sel ls n).length ≤ ls.length := by
  unfold sel
  rw [List.length_map]
  exact Nat.le_trans (List.length_filter_le _ _) (Nat.le_of_eq List.length_range)
theorem sum_bits_ : ∀ k, k < 5 → ∀ n, n < 16 → n < 2 ^ k → (((List.range k).filter n.testBit).map fun i => 2 ^ i).sum = n := by decide
theorem sum_bits {k : Nat} (hk : k ≤ 4) (hn : n < 2 ^ k) : (((List.range k).filter n.testBit).map fun i => 2 ^ i).sum = n :=
  sum_bits_ k (by omega) n (Nat.lt_of_lt_of_le hn (Nat.pow_le_pow_right (by decide) hk : 2 ^ k ≤ 2 ^ 4)) hn
theorem filt_pow_ : ∀ k, k < 5 → ∀ j, j < k → (List.range k).filter (2 ^ j).testBit = [j] := by decide
theorem sel_pow (hl : ls.length ≤ 4) (h : ls[i]? = some c) : sel ls (2 ^ i) = [c] := by
  unfold sel
  obtain ⟨hi, e⟩ := List.getElem?_eq_some_iff.mp h
  rw [filt_pow_ _ (by omega) _ hi, List.map_singleton, List.getD_eq_getElem?_getD, h]
  rfl
theorem sel_ne_ : ∀ k, k < 5 → ∀ n, n < 16 → 0 < n → n < 2 ^ k → (List.range k).filter n.testBit ≠ [] := by decide
theorem sel_ne (hl : ls.length ≤ 4) (h0 : 0 < n) (hn : n < 2 ^ ls.length) : sel ls n ≠ [] := by
  unfold sel
  intro h
  exact sel_ne_ _ (by omega) n (Nat.lt_of_lt_of_le hn (Nat.pow_le_pow_right (by decide) hl : 2 ^ ls.length ≤ 2 ^ 4)) h0 hn (List.map_eq_nil_iff.mp h)
/-- which letter of ls: the j-th that was taken -/
theorem sel_get {j : Nat} (h : (sel ls n)[j]? = some c) : ∃ i, ((List.range ls.length).filter n.testBit)[j]? = some i ∧ ls[i]? = some c := by
  unfold sel at h
  rw [List.getElem?_map] at h
  cases e : ((List.range ls.length).filter n.testBit)[j]? with
  | none => rw [e] at h; cases h
  | some i =>
    rw [e] at h
    refine ⟨i, rfl, ?_⟩
    have hi := List.mem_of_getElem? e
    rw [List.mem_filter, List.mem_range] at hi
    have h : ls.getD i 0 = c := Option.some.inj h
    rw [List.getD_eq_getElem?_getD, List.getElem?_eq_getElem hi.1] at h
    rw [List.getElem?_eq_getElem hi.1]
    exact congrArg some h
/-! ### where a letter stands -/
theorem occ_one (s sub : PySem.Str) (hi : Nat) : ∀ (l : List Nat) (free j : Nat), (∀ i ∈ l, free ≤ i) → j ∈ l → l.Pairwise (· < ·) → (j + sub.length ≤ hi ∧ Str.subAt s sub j = true) → (∀ i ∈ l, i + sub.length ≤ hi ∧ Str.subAt s sub i = true → i = j) →
    (forIn l ((#[] : Array Nat), free) (occBody s sub hi 1)).run.fst = #[j]
  | [], _, _, _, h, _, _, _ => nomatch h
  | a :: l, free, j, hf, hj, hp, hc, hu => by
    rw [List.forIn_cons]
    by_cases ha : a = j
    · subst ha
      have c1 : (((#[] : Array Nat), free).fst.size < 1 ∧ ((#[] : Array Nat), free).snd ≤ a) ∧ a + sub.length ≤ hi := ⟨⟨by simp, hf a List.mem_cons_self⟩, hc.1⟩
      have e1 : occBody s sub hi 1 a ((#[] : Array Nat), free) = pure (ForInStep.yield (#[a], a + sub.length)) := by
        unfold occBody
        rw [if_pos ⟨c1, hc.2⟩]
        rfl
      rw [e1]
      have stay : ∀ (l : List Nat) (fr : Nat), (forIn l ((#[a] : Array Nat), fr) (occBody s sub hi 1)).run.fst = #[a] := by
        intro l
        induction l with
        | nil => intro fr; rfl
        | cons b l ih =>
          intro fr
          rw [List.forIn_cons]
          have : occBody s sub hi 1 b ((#[a] : Array Nat), fr) = pure (ForInStep.yield (#[a], fr)) := by
            unfold occBody
            rw [if_neg]
            intro h
            have := h.1.1.1
            simp at this
          rw [this]
          exact ih fr
      exact stay l _
    · have e1 : occBody s sub hi 1 a ((#[] : Array Nat), free) = pure (ForInStep.yield (#[], free)) := by
        unfold occBody
        rw [if_neg]
        intro h
        exact ha (hu a List.mem_cons_self ⟨h.1.2, h.2⟩)
      rw [e1]
      refine occ_one s sub hi l free j (fun i hi' => hf i (List.mem_cons_of_mem _ hi')) ?_ (List.Pairwise.of_cons hp) hc fun i hi' => hu i (List.mem_cons_of_mem _ hi')
      rcases List.mem_cons.mp hj with h | h
      · exact absurd h.symm ha
      · exact h
theorem occ_at (nd : ls.Nodup) (h : ls[i]? = some c) : Str.occurrences (Sx ls) ⟨#[c]⟩ 0 (Sx ls).length 1 = [i] := by
  rw [occ_eq]
  have k : ∀ j, (j + (⟨#[c]⟩ : PySem.Str).length ≤ (Sx ls).length ∧ Str.subAt (Sx ls) ⟨#[c]⟩ j = true) ↔ ls[j]? = some c := fun j => by
    rw [subAt_one]
  obtain ⟨hi, e⟩ := List.getElem?_eq_some_iff.mp h
  rw [occ_one (Sx ls) ⟨#[c]⟩ (Sx ls).length _ 0 i (fun _ _ => Nat.zero_le _) ?_ ?_ ((k i).mpr h) fun j _ hj => ?_]
  · rw [List.mem_range']
    refine ⟨i, ?_, by omega⟩
    show i < ls.toArray.size + 1 - 0
    simp
    omega
  · exact List.pairwise_lt_range'
  · exact nd_inj nd ((k j).mp hj) h
/-! ### texts -/
theorem sx_len : (Sx ls).length = ls.length := by
  show ls.toArray.size = _
  simp
theorem sx_size : (Sx ls).cps.size = ls.length := by simp
theorem sx_list : (Sx ls).cps.toList = ls := by simp
theorem sx_get : (Sx ls).cps[i]? = ls[i]? := by simp
theorem sx_inj {ms : List Nat} (h : Sx ls = Sx ms) : ls = ms := by
  have := congrArg (fun z : PySem.Str => z.cps.toList) h
  simpa using this
theorem fold_join (b : Array Nat) : ∀ (cs : List Nat), (cs.map fun c => (⟨#[c]⟩ : PySem.Str)).foldl (fun acc p => acc ++ (#[] : Array Nat) ++ p.cps) b = b ++ cs.toArray
  | [] => by simp
  | c :: r => by
    rw [List.map_cons, List.foldl_cons, fold_join _ r]
    simp
theorem sx_join (cs : List Nat) : Txt.join "" (cs.map fun c => (⟨#[c]⟩ : PySem.Str)) = Sx cs := by
  show (⟨((cs.map fun c => (⟨#[c]⟩ : PySem.Str)).drop 1).foldl (fun acc p => acc ++ (#[] : Array Nat) ++ p.cps) ((cs.map fun c => (⟨#[c]⟩ : PySem.Str)).headD PySem.Str.empty).cps⟩ : PySem.Str) = _
  cases cs with
  | nil => rfl
  | cons c r =>
    rw [List.map_cons, List.drop_one, List.tail_cons, List.headD_cons, fold_join]
    simp
theorem sx_ascii (h : ∀ c ∈ ls, 97 ≤ c ∧ c ≤ 122) : (Sx ls).cps.all (· < 128) = true := by
  rw [Array.all_eq_true']
  intro c hc
  have := h c (by simpa using hc)
  simp
  omega
end
/-! ### bits -/
theorem and_one (x : Nat) : Builtin.bitAnd (x : Int) 1 = ((x % 2 : Nat) : Int) := by
  rw [bitAnd_pp (Int.natCast_nonneg _) (by decide)]
  show ((x &&& 1 : Nat) : Int) = _
  rw [Nat.and_one_is_mod]
theorem shr_nat (n i : Nat) : (n : Int) / 2 ^ ((i : Int).toNat) = ((n / 2 ^ i : Nat) : Int) := by
  rw [Int.toNat_natCast]
  norm_cast
theorem bit_is (n i : Nat) : Builtin.bitAnd ((n : Int) / 2 ^ ((i : Int).toNat)) 1 = (if n.testBit i = true then 1 else 0) := by
  rw [shr_nat, and_one, Nat.testBit_eq_decide_div_mod_eq]
  have := Nat.mod_two_eq_zero_or_one (n / 2 ^ i)
  rcases this with h | h <;> simp [h]
theorem and_pow (m a : Nat) : 2 ^ a &&& m = if m.testBit a = true then 2 ^ a else 0 := by
  refine Nat.eq_of_testBit_eq fun j => ?_
  rw [Nat.testBit_and, Nat.testBit_two_pow]
  by_cases e : a = j
  · subst e
    cases h : m.testBit a <;> simp [h]
  · cases h : m.testBit a <;> simp [e, Nat.testBit_two_pow]
theorem bit_sub (m a : Nat) : Builtin.bitAnd ((2 ^ a : Nat) : Int) (Builtin.bitNot (m : Int)) = if m.testBit a = true then 0 else ((2 ^ a : Nat) : Int) := by
  have h : ¬ 0 ≤ Builtin.bitNot (m : Int) := by unfold Builtin.bitNot; omega
  rw [bitAnd_pn (Int.natCast_nonneg _) h, bitNot_bitNot, Int.toNat_natCast, Int.toNat_natCast, and_pow]
  split <;> simp
theorem bit_same (a b : Nat) : Builtin.bitAnd ((2 ^ a : Nat) : Int) ((2 ^ b : Nat) : Int) = if a = b then ((2 ^ a : Nat) : Int) else 0 := by
  rw [bitAnd_pp (Int.natCast_nonneg _) (Int.natCast_nonneg _), Int.toNat_natCast, Int.toNat_natCast, and_pow, Nat.testBit_two_pow]
  by_cases e : a = b
  · subst e
    simp
  · rw [if_neg e, if_neg (by simp; omega)]
    rfl
/-! ### counting -/
theorem nodup_len : ∀ (n : Nat) (l : List Nat), l.Nodup → (∀ a ∈ l, a < n) → l.length ≤ n
  | 0, [], _, _ => Nat.le_refl _
  | 0, a :: l, _, h => absurd (h a List.mem_cons_self) (Nat.not_lt_zero _)
  | n + 1, l, nd, h => by
    have h1 : ∀ a ∈ l.erase n, a < n := fun a ha => by
      have ⟨h2, h3⟩ := (List.Nodup.mem_erase_iff nd).mp ha
      have := h a h3
      omega
    have h2 := nodup_len n (l.erase n) (List.Nodup.erase n nd) h1
    rw [List.length_erase] at h2
    split at h2 <;> omega
theorem nodup_sub {l m : List Nat} (nd : l.Nodup) (h : ∀ a ∈ l, a ∈ m) : l.length ≤ m.length := by
  induction l generalizing m with
  | nil => exact Nat.zero_le _
  | cons a l ih =>
    have ha := h a List.mem_cons_self
    have nd' := List.nodup_cons.mp nd
    have := ih nd'.2 (m := m.erase a) fun b hb => (List.mem_erase_of_ne (fun z : b = a => nd'.1 (by rw [← z]; exact hb))).mpr (h b (List.mem_cons_of_mem _ hb))
    rw [List.length_erase_of_mem ha] at this
    have hp : 0 < m.length := List.length_pos_of_mem ha
    rw [List.length_cons]
    omega
theorem sorted_nodup {l : List Nat} (h : l.Pairwise (· < ·)) : l.Nodup := h.imp fun h => Nat.ne_of_lt h
/-- sorted lists of the same members are the same -/
theorem sorted_ext : ∀ {l m : List Nat}, l.Pairwise (· < ·) → m.Pairwise (· < ·) → (∀ t, t ∈ l ↔ t ∈ m) → l = m
  | [], [], _, _, _ => rfl
  | [], b :: m, _, _, h => nomatch (h b).mpr List.mem_cons_self
  | a :: l, [], _, _, h => nomatch (h a).mp List.mem_cons_self
  | a :: l, b :: m, hl, hm, h => by
    have ⟨ha, hl'⟩ := List.pairwise_cons.mp hl
    have ⟨hb, hm'⟩ := List.pairwise_cons.mp hm
    have e : a = b := by
      rcases List.mem_cons.mp ((h a).mp List.mem_cons_self) with e | h1
      · exact e
      · rcases List.mem_cons.mp ((h b).mpr List.mem_cons_self) with e | h2
        · exact e.symm
        · have := ha b h2
          have := hb a h1
          omega
    subst e
    rw [sorted_ext hl' hm' fun t => ?_]
    constructor
    · intro ht
      rcases List.mem_cons.mp ((h t).mp (List.mem_cons_of_mem _ ht)) with e | h1
      · exact absurd (ha t ht) (by omega)
      · exact h1
    · intro ht
      rcases List.mem_cons.mp ((h t).mpr (List.mem_cons_of_mem _ ht)) with e | h1
      · exact absurd (hb t ht) (by omega)
      · exact h1
end K5
end
section
set_option maxRecDepth 100000
/-! The plain law: tables, their languages, rules, soundness. No program here. -/
namespace K5
/-- a table: each state's row (the state behind each kind), who is told -/
structure Tab where
  rows : List (List Nat)
  told : List Bool
def Tab.n (T : Tab) : Nat := T.rows.length
def Tab.st (T : Tab) (s a : Nat) : Nat := (T.rows.getD s []).getD a 0
def Tab.run (T : Tab) (s : Nat) (w : List Nat) : Nat := w.foldl T.st s
def Tab.at_ (T : Tab) (s : Nat) : Bool := T.told.getD s false
def Tab.acc (T : Tab) (w : List Nat) : Bool := T.at_ (T.run 0 w)
structure TabOk (k : Nat) (T : Tab) : Prop where
  pos : 0 < T.n
  told : T.told.length = T.n
  wide : ∀ r ∈ T.rows, r.length = k
  low : ∀ r ∈ T.rows, ∀ s ∈ r, s < T.n
/-- a word over k kinds -/
def Wd (k : Nat) (w : List Nat) : Prop := ∀ a ∈ w, a < k
def AllIn (k : Nat) (T : Tab) : Prop := ∀ s, s < T.n → ∃ w, Wd k w ∧ T.run 0 w = s
section
variable {k : Nat} {T : Tab}
theorem Tab.run_app (T : Tab) (s : Nat) (u v : List Nat) : T.run s (u ++ v) = T.run (T.run s u) v := List.foldl_append
theorem getD_mem {α : Type} {l : List α} {i : Nat} {d : α} (h : i < l.length) : l.getD i d ∈ l := by
  rw [List.getD_eq_getElem?_getD, List.getElem?_eq_getElem h]
  exact List.getElem_mem h
theorem TabOk.st_lt (ok : TabOk k T) {s a : Nat} (hs : s < T.n) (ha : a < k) : T.st s a < T.n := by
  have hr : T.rows.getD s [] ∈ T.rows := getD_mem hs
  exact ok.low _ hr _ (getD_mem (by rw [ok.wide _ hr]; exact ha))
theorem TabOk.run_lt (ok : TabOk k T) : ∀ {w : List Nat} {s : Nat}, s < T.n → Wd k w → T.run s w < T.n
  | [], s, hs, _ => hs
  | a :: w, s, hs, hw => ok.run_lt (w := w) (ok.st_lt hs (hw a List.mem_cons_self)) fun b hb => hw b (List.mem_cons_of_mem _ hb)
theorem Wd.app {u v : List Nat} (hu : Wd k u) (hv : Wd k v) : Wd k (u ++ v) := fun a ha => (List.mem_append.mp ha).elim (hu a) (hv a)
theorem Wd.left {u v : List Nat} (h : Wd k (u ++ v)) : Wd k u := fun a ha => h a (List.mem_append_left _ ha)
theorem Wd.right {u v : List Nat} (h : Wd k (u ++ v)) : Wd k v := fun a ha => h a (List.mem_append_right _ ha)
theorem Wd.rev {u : List Nat} (h : Wd k u) : Wd k u.reverse := fun a ha => h a (List.mem_reverse.mp ha)
end
/-! ### rules -/
structure Rl where
  pat : List Nat
  at_ : Nat
  kd : Nat
  left : Bool
  right : Bool
structure RlOk (k : Nat) (R : Rl) : Prop where
  pos : 1 ≤ R.pat.length
  few : R.pat.length ≤ 4
  mask : ∀ m ∈ R.pat, 0 < m ∧ m < 2 ^ k
  at_ : R.at_ < R.pat.length
  kd : R.kd < k
  has : (R.pat.getD R.at_ 0).testBit R.kd = true
/-- the word's letters fit the masks -/
def FitN : List Nat → List Nat → Prop
  | [], [] => True
  | m :: ms, a :: p => m.testBit a = true ∧ FitN ms p
  | _, _ => False
theorem FitN.length : ∀ {ms p : List Nat}, FitN ms p → p.length = ms.length
  | [], [], _ => rfl
  | m :: ms, a :: p, h => by
    rw [List.length_cons, List.length_cons, FitN.length h.2]
  | [], _ :: _, h => h.elim
  | _ :: _, [], h => h.elim
theorem FitN.app : ∀ {ms p ns q : List Nat}, FitN ms p → FitN ns q → FitN (ms ++ ns) (p ++ q)
  | [], [], _, _, _, h => h
  | m :: ms, a :: p, _, _, h, h' => ⟨h.1, FitN.app h.2 h'⟩
  | [], _ :: _, _, _, h, _ => h.elim
  | _ :: _, [], _, _, h, _ => h.elim
theorem FitN.rev : ∀ {ms p : List Nat}, FitN ms p → FitN ms.reverse p.reverse
  | [], [], _ => trivial
  | m :: ms, a :: p, h => by
    rw [List.reverse_cons, List.reverse_cons]
    exact FitN.app (FitN.rev h.2) ⟨h.1, trivial⟩
  | [], _ :: _, h => h.elim
  | _ :: _, [], h => h.elim
theorem FitN.get : ∀ {ms p : List Nat}, FitN ms p → ∀ (i : Nat) m, ms[i]? = some m → ∃ a, p[i]? = some a ∧ m.testBit a = true
  | [], [], _, i, m, e => by simp at e
  | m :: ms, a :: p, h, 0, m', e => by
    simp at e
    subst e
    exact ⟨a, by simp, h.1⟩
  | m :: ms, a :: p, h, i + 1, m', e => by
    obtain ⟨b, hb, hm⟩ := FitN.get h.2 i m' (by simpa using e)
    exact ⟨b, by simpa using hb, hm⟩
  | [], _ :: _, h, _, _, _ => h.elim
  | _ :: _, [], h, _, _, _ => h.elim
theorem FitN.of : ∀ {ms p : List Nat}, p.length = ms.length → (∀ (i : Nat) m a, ms[i]? = some m → p[i]? = some a → m.testBit a = true) → FitN ms p
  | [], [], _, _ => trivial
  | m :: ms, a :: p, hl, h => ⟨h 0 m a rfl rfl, FitN.of (by simpa using hl) fun i m' b h1 h2 => h (i + 1) m' b (by simpa using h1) (by simpa using h2)⟩
  | [], _ :: _, hl, _ => by simp at hl
  | _ :: _, [], hl, _ => by simp at hl
/-- the masks, the struck letter alone at its place -/
def Rl.nums (R : Rl) : List Nat := R.pat.set R.at_ (2 ^ R.kd)
theorem Rl.nums_length (R : Rl) : R.nums.length = R.pat.length := List.length_set
theorem testBit_pow (j a : Nat) : (2 ^ j).testBit a = decide (j = a) := Nat.testBit_two_pow
/-- L has no word that the rule strikes -/
def Snd (k : Nat) (R : Rl) (L : List Nat → Prop) : Prop :=
  ∀ u p v, Wd k u → Wd k p → Wd k v → FitN R.nums p → (R.left = true → u = []) → (R.right = true → v = []) → ¬ L (u ++ (p ++ v))
section
variable {k : Nat} {R R' : Rl} {L L' L1 L2 : List Nat → Prop}
theorem Snd.sub (h : Snd k R L) (s : ∀ w, Wd k w → L' w → L w) : Snd k R L' := fun u p v hu hp hv f l r z => h u p v hu hp hv f l r (s _ (hu.app (hp.app hv)) z)
theorem Snd.congr (s : ∀ w, Wd k w → (L w ↔ L' w)) : Snd k R L ↔ Snd k R L' := ⟨fun h => h.sub fun w hw z => (s w hw).mpr z, fun h => h.sub fun w hw z => (s w hw).mp z⟩
theorem Snd.or : Snd k R (fun w => L1 w ∨ L2 w) ↔ Snd k R L1 ∧ Snd k R L2 :=
  ⟨fun h => ⟨h.sub fun _ _ z => .inl z, h.sub fun _ _ z => .inr z⟩, fun h u p v hu hp hv f l r z => z.elim (h.1 u p v hu hp hv f l r) (h.2 u p v hu hp hv f l r)⟩
theorem Snd.and (h : Snd k R L1 ∨ Snd k R L2) : Snd k R fun w => L1 w ∧ L2 w := fun u p v hu hp hv f l r z => h.elim (fun h => h u p v hu hp hv f l r z.1) fun h => h u p v hu hp hv f l r z.2
/-- fewer values, more ends -/
theorem Snd.less (h : Snd k R L) (hl : R'.pat.length = R.pat.length) (hn : ∀ p, FitN R'.nums p → FitN R.nums p) (left : R.left = true → R'.left = true) (right : R.right = true → R'.right = true) : Snd k R' L :=
  fun u p v hu hp hv f l r => h u p v hu hp hv (hn p f) (fun e => l (left e)) fun e => r (right e)
theorem FitN.mono {ms ns : List Nat} (hl : ns.length = ms.length) (h : ∀ (i : Nat) m n a, ms[i]? = some m → ns[i]? = some n → n.testBit a = true → m.testBit a = true) {p : List Nat} (f : FitN ns p) : FitN ms p := by
  refine FitN.of (f.length.trans hl) fun i m a h1 h2 => ?_
  have hi : i < ns.length := by
    have := (List.getElem?_eq_some_iff.mp h1).1
    omega
  obtain ⟨b, hb, hn⟩ := f.get i ns[i] (List.getElem?_eq_getElem hi)
  rw [h2] at hb
  cases hb
  exact h i m _ a h1 (List.getElem?_eq_getElem hi) hn
/-- the mirror -/
def Rl.neg (R : Rl) : Rl := ⟨R.pat.reverse, R.pat.length - 1 - R.at_, R.kd, R.right, R.left⟩
theorem Rl.neg_nums (R : Rl) (h : R.at_ < R.pat.length) : R.neg.nums = R.nums.reverse := by
  show R.pat.reverse.set (R.pat.length - 1 - R.at_) (2 ^ R.kd) = (R.pat.set R.at_ (2 ^ R.kd)).reverse
  refine List.ext_getElem? fun i => ?_
  by_cases hi : i < R.pat.length
  · rw [List.getElem?_reverse (by rw [List.length_set]; exact hi), List.length_set, List.getElem?_set, List.getElem?_set]
    rw [List.length_reverse, List.getElem?_reverse hi]
    by_cases e : R.pat.length - 1 - R.at_ = i
    · have e' : R.at_ = R.pat.length - 1 - i := by omega
      rw [if_pos e, if_pos e', if_pos (by omega), if_pos h]
    · have e' : ¬ R.at_ = R.pat.length - 1 - i := by omega
      rw [if_neg e, if_neg e']
  · rw [List.getElem?_eq_none (by rw [List.length_set, List.length_reverse]; omega), List.getElem?_eq_none (by rw [List.length_reverse, List.length_set]; omega)]
theorem Snd.neg (h : R.at_ < R.pat.length) (s : ∀ w, Wd k w → (L' w ↔ L w.reverse)) : Snd k R.neg L' ↔ Snd k R L := by
  have one : ∀ {R : Rl} {L L' : List Nat → Prop}, R.at_ < R.pat.length → (∀ w, Wd k w → (L' w ↔ L w.reverse)) → Snd k R.neg L' → Snd k R L := fun {R L L'} h s hn u p v hu hp hv f l r z => by
    refine hn v.reverse p.reverse u.reverse hv.rev hp.rev hu.rev (by rw [Rl.neg_nums _ h]; exact f.rev) (fun e => by rw [r e]; rfl) (fun e => by rw [l e]; rfl) ((s _ ?_).mpr ?_)
    · exact hv.rev.app (hp.rev.app hu.rev)
    · rw [List.reverse_append, List.reverse_append, List.reverse_reverse, List.reverse_reverse, List.reverse_reverse, List.append_assoc]
      exact z
  refine ⟨one h s, fun hs => ?_⟩
  have hn : R.neg.at_ < R.neg.pat.length := by
    show R.pat.length - 1 - R.at_ < R.pat.reverse.length
    rw [List.length_reverse]
    omega
  have e : R.neg.neg = R := by
    obtain ⟨pat, at_, kd, l, r⟩ := R
    show Rl.mk pat.reverse.reverse (pat.reverse.length - 1 - (pat.length - 1 - at_)) kd l r = _
    have h : at_ < pat.length := h
    rw [List.reverse_reverse, List.length_reverse]
    have : pat.length - 1 - (pat.length - 1 - at_) = at_ := by omega
    rw [this]
  refine one hn (fun w hw => ?_) (L' := L) (by rw [e]; exact hs)
  have q := s w.reverse hw.rev
  rw [List.reverse_reverse] at q
  exact q.symm
end
theorem RlOk.neg {k : Nat} {R : Rl} (h : RlOk k R) : RlOk k R.neg := by
  have hat := h.at_
  refine ⟨by show 1 ≤ R.pat.reverse.length; rw [List.length_reverse]; exact h.pos, by show R.pat.reverse.length ≤ 4; rw [List.length_reverse]; exact h.few, fun m hm => h.mask m (List.mem_reverse.mp hm), ?_, h.kd, ?_⟩
  · show R.pat.length - 1 - R.at_ < R.pat.reverse.length
    rw [List.length_reverse]
    omega
  · show (R.pat.reverse.getD (R.pat.length - 1 - R.at_) 0).testBit R.kd = true
    rw [List.getD_eq_getElem?_getD, List.getElem?_reverse (by omega)]
    have : R.pat.length - 1 - (R.pat.length - 1 - R.at_) = R.at_ := by omega
    rw [this, ← List.getD_eq_getElem?_getD]
    exact h.has
/-! ### rows of states -/
section
variable {k : Nat} {T : Tab} {R : Rl}
/-- t stands behind a word of the masks from one of S -/
def Behind (k : Nat) (T : Tab) (S : List Nat) (ms : List Nat) (t : Nat) : Prop := ∃ s ∈ S, ∃ p, Wd k p ∧ FitN ms p ∧ T.run s p = t
theorem behind_nil {S : List Nat} {t : Nat} : Behind k T S [] t ↔ t ∈ S := by
  refine ⟨fun ⟨s, hs, p, _, f, e⟩ => ?_, fun h => ⟨t, h, [], fun a ha => (nomatch ha), trivial, rfl⟩⟩
  cases p with
  | nil => exact e ▸ hs
  | cons => exact f.elim
/-- one more mask: the row behind it -/
theorem behind_snoc {S S' : List Nat} {ms : List Nat} {m : Nat} (hS : ∀ t, t ∈ S' ↔ Behind k T S ms t) {t : Nat} : Behind k T S (ms ++ [m]) t ↔ ∃ s ∈ S', ∃ a, a < k ∧ m.testBit a = true ∧ T.st s a = t := by
  constructor
  · rintro ⟨s, hs, p, hp, f, e⟩
    have hl := f.length
    rw [List.length_append, List.length_singleton] at hl
    have hp0 : p ≠ [] := by
      intro z
      rw [z] at hl
      simp at hl
    have ep : p = p.dropLast ++ [p.getLast hp0] := (List.dropLast_concat_getLast hp0).symm
    have hld : p.dropLast.length = ms.length := by
      rw [List.length_dropLast, hl]
      omega
    have f1 : FitN ms p.dropLast := by
      refine FitN.of hld fun i m' a h1 h2 => ?_
      have hi := (List.getElem?_eq_some_iff.mp h1).1
      obtain ⟨b, hb, hm⟩ := f.get i m' (by rw [List.getElem?_append_left hi]; exact h1)
      rw [ep, List.getElem?_append_left (by omega)] at hb
      rw [h2] at hb
      cases hb
      exact hm
    obtain ⟨b, hb, hm⟩ := f.get ms.length m (by simp)
    rw [ep, List.getElem?_append_right (by omega), hld] at hb
    have eb : b = p.getLast hp0 := by simpa using hb.symm
    have hpw : Wd k (p.dropLast ++ [p.getLast hp0]) := ep ▸ hp
    refine ⟨T.run s p.dropLast, (hS _).mpr ⟨s, hs, _, hpw.left, f1, rfl⟩, p.getLast hp0, hp _ (List.getLast_mem hp0), eb ▸ hm, ?_⟩
    rw [← e]
    conv => rhs; rw [ep, Tab.run_app]
    rfl
  · rintro ⟨s, hs, a, ha, hm, e⟩
    obtain ⟨s0, h0, p, hp, f, e0⟩ := (hS s).mp hs
    refine ⟨s0, h0, p ++ [a], hp.app fun b hb => ?_, f.app ⟨hm, trivial⟩, ?_⟩
    · rw [List.mem_singleton] at hb
      exact hb ▸ ha
    · rw [Tab.run_app, e0]
      exact e
/-- no told state is reached from s -/
def Lost (k : Nat) (T : Tab) (s : Nat) : Prop := ∀ v, Wd k v → T.at_ (T.run s v) = false
/-- what is_sound_row says -/
theorem sound_row {S last lost : List Nat} (ok : TabOk k T) (all : AllIn k T) (hS : S = if R.left = true then [0] else List.range T.n) (hl : ∀ t, t ∈ last ↔ Behind k T S R.nums t) (hlost : ∀ s, s ∈ lost ↔ s < T.n ∧ Lost k T s) :
    Snd k R (fun w => T.acc w = true) ↔ if R.right = true then (∀ t ∈ last, T.at_ t = false) else ∀ t ∈ last, t ∈ lost := by
  have acc : ∀ u p v : List Nat, T.acc (u ++ (p ++ v)) = T.at_ (T.run (T.run (T.run 0 u) p) v) := fun u p v => by
    unfold Tab.acc
    rw [Tab.run_app, Tab.run_app]
  have start : ∀ s, s ∈ S ↔ ∃ u, Wd k u ∧ (R.left = true → u = []) ∧ T.run 0 u = s := fun s => by
    rw [hS]
    by_cases e : R.left = true
    · rw [if_pos e, List.mem_singleton]
      refine ⟨fun h => ⟨[], fun a ha => (nomatch ha), fun _ => rfl, h.symm⟩, fun ⟨u, _, hu, z⟩ => ?_⟩
      rw [hu e] at z
      exact z.symm
    · rw [if_neg e, List.mem_range]
      refine ⟨fun h => ?_, fun ⟨u, hw, _, z⟩ => z ▸ ok.run_lt ok.pos hw⟩
      obtain ⟨u, hu, z⟩ := all s h
      exact ⟨u, hu, fun h => absurd h e, z⟩
  by_cases er : R.right = true
  · rw [if_pos er]
    constructor
    · intro h t ht
      obtain ⟨s, hs, p, hp, f, e⟩ := (hl t).mp ht
      obtain ⟨u, hu, hL, eu⟩ := (start s).mp hs
      have : ¬ T.acc (u ++ (p ++ [])) = true := h u p [] hu hp (fun a ha => (nomatch ha)) f hL fun _ => rfl
      rw [acc, eu, e] at this
      exact Bool.eq_false_iff.mpr this
    · intro h u p v hu hp hv f hL hR
      rw [hR er]
      show ¬ T.acc (u ++ (p ++ [])) = true
      rw [acc]
      have := h (T.run (T.run 0 u) p) ((hl _).mpr ⟨_, (start _).mpr ⟨u, hu, hL, rfl⟩, p, hp, f, rfl⟩)
      show ¬ T.at_ (T.run (T.run 0 u) p) = true
      rw [this]
      exact Bool.false_ne_true
  · rw [if_neg er]
    constructor
    · intro h t ht
      obtain ⟨s, hs, p, hp, f, e⟩ := (hl t).mp ht
      obtain ⟨u, hu, hL, eu⟩ := (start s).mp hs
      refine (hlost t).mpr ⟨?_, fun v hv => ?_⟩
      · rw [← e, ← eu]
        exact ok.run_lt (ok.run_lt ok.pos hu) hp
      · have : ¬ T.acc (u ++ (p ++ v)) = true := h u p v hu hp hv f hL fun z => absurd z er
        rw [acc, eu, e] at this
        exact Bool.eq_false_iff.mpr this
    · intro h u p v hu hp hv f hL hR
      show ¬ T.acc (u ++ (p ++ v)) = true
      rw [acc]
      have := ((hlost _).mp (h (T.run (T.run 0 u) p) ((hl _).mpr ⟨_, (start _).mpr ⟨u, hu, hL, rfl⟩, p, hp, f, rfl⟩))).2 v hv
      rw [this]
      exact Bool.false_ne_true
end
/-! ### what is reached -/
def Reach (k : Nat) (B : Tab) (S : List Nat) (t : Nat) : Prop := ∃ s ∈ S, ∃ w, Wd k w ∧ B.run s w = t
theorem nodup_in {l m : List Nat} (nl : l.Nodup) (h : ∀ a ∈ l, a ∈ m) (hl : m.length ≤ l.length) : ∀ a ∈ m, a ∈ l := fun a ha => by
  refine Classical.byContradiction fun hn => ?_
  have := nodup_sub (l := a :: l) (m := m) (List.nodup_cons.mpr ⟨hn, nl⟩) fun b hb => by
    rcases List.mem_cons.mp hb with rfl | hb
    · exact ha
    · exact h b hb
  rw [List.length_cons] at this
  omega
section
variable {k : Nat} {B : Tab} {S F M : List Nat}
/-- one step more -/
structure Step (k : Nat) (B : Tab) (F M : List Nat) : Prop where
  srt : M.Pairwise (· < ·)
  mem : ∀ t, t ∈ M ↔ t ∈ F ∨ ∃ s ∈ F, ∃ c, c < k ∧ B.st s c = t
structure ClosedI (k : Nat) (B : Tab) (S F : List Nat) : Prop where
  srt : F.Pairwise (· < ·)
  sub : ∀ s ∈ S, s ∈ F
  re : ∀ t ∈ F, Reach k B S t
theorem ClosedI.next (h : ClosedI k B S F) (m : Step k B F M) : ClosedI k B S M where
  srt := m.srt
  sub := fun s hs => (m.mem s).mpr (.inl (h.sub s hs))
  re := fun t ht => by
    rcases (m.mem t).mp ht with h1 | ⟨s, hs, c, hc, e⟩
    · exact h.re t h1
    · obtain ⟨u, hu, w, hw, e2⟩ := h.re s hs
      refine ⟨u, hu, w ++ [c], hw.app fun a ha => by rw [List.mem_singleton] at ha; exact ha ▸ hc, ?_⟩
      rw [Tab.run_app, e2]
      exact e
theorem ClosedI.low (ok : TabOk k B) (hS : ∀ s ∈ S, s < B.n) (h : ClosedI k B S F) : ∀ t ∈ F, t < B.n := fun t ht => by
  obtain ⟨s, hs, w, hw, e⟩ := h.re t ht
  exact e ▸ ok.run_lt (hS s hs) hw
theorem ClosedI.len (ok : TabOk k B) (hS : ∀ s ∈ S, s < B.n) (h : ClosedI k B S F) : F.length ≤ B.n := nodup_len _ _ (sorted_nodup h.srt) (h.low ok hS)
theorem ClosedI.grow (h : ClosedI k B S F) (m : Step k B F M) (ne : M ≠ F) : F.length < M.length := by
  refine Nat.lt_of_not_le fun hl => ne ?_
  have := nodup_in (sorted_nodup h.srt) (fun a ha => (m.mem a).mpr (.inl ha)) hl
  exact sorted_ext m.srt h.srt fun t => ⟨this t, fun ht => (m.mem t).mpr (.inl ht)⟩
theorem ClosedI.fin (h : ClosedI k B S F) (m : Step k B F F) : ∀ t, t ∈ F ↔ Reach k B S t := fun t => by
  refine ⟨h.re t, ?_⟩
  rintro ⟨s, hs, w, hw, rfl⟩
  have : ∀ (w : List Nat) (s : Nat), s ∈ F → Wd k w → B.run s w ∈ F := fun w => by
    induction w with
    | nil => exact fun s h _ => h
    | cons c w ih => exact fun s h hw => ih _ ((m.mem _).mpr (.inr ⟨s, h, c, hw c List.mem_cons_self, rfl⟩)) fun a ha => hw a (List.mem_cons_of_mem _ ha)
  exact this w s (h.sub s hs) hw
/-- a state is lost, told by what is reached from it -/
theorem lost_of {s : Nat} (h : ∀ t, t ∈ F ↔ Reach k B [s] t) : F.any B.at_ = false ↔ Lost k B s := by
  constructor
  · intro e v hv
    cases e2 : B.at_ (B.run s v) with
    | false => rfl
    | true =>
      have := (h (B.run s v)).mpr ⟨s, List.mem_singleton.mpr rfl, v, hv, rfl⟩
      rw [List.any_eq_false] at e
      exact absurd e2 (e _ this)
  · intro l
    rw [List.any_eq_false]
    intro t ht
    obtain ⟨u, hu, w, hw, e⟩ := (h t).mp ht
    rw [List.mem_singleton] at hu
    subst hu
    rw [← e, l w hw]
    exact Bool.false_ne_true
end
/-! ### a rule at a place of a word -/
def cut (ks : List Nat) (b n : Nat) : List Nat := (ks.drop b).take n
theorem cut_get {ks : List Nat} {b n i : Nat} (h : i < n) : (cut ks b n)[i]? = ks[b + i]? := by
  unfold cut
  rw [List.getElem?_take, if_pos h, List.getElem?_drop]
theorem cut_len {ks : List Nat} {b n : Nat} (h : b + n ≤ ks.length) : (cut ks b n).length = n := by
  unfold cut
  rw [List.length_take, List.length_drop]
  omega
structure Hit (R : Rl) (ks : List Nat) (p : Nat) : Prop where
  fits : p + R.pat.length ≤ ks.length
  left : R.left = true → p = 0
  right : R.right = true → p + R.pat.length = ks.length
  fit : FitN R.nums (cut ks p R.pat.length)
theorem fit_nums {k : Nat} {R : Rl} (rk : RlOk k R) {p : List Nat} : FitN R.nums p ↔ p[R.at_]? = some R.kd ∧ FitN R.pat p := by
  have hat := rk.at_
  have hget : R.nums[R.at_]? = some (2 ^ R.kd) := by
    unfold Rl.nums
    rw [List.getElem?_set_self hat]
  constructor
  · intro f
    obtain ⟨a, ha, hb⟩ := f.get R.at_ _ hget
    rw [testBit_pow, decide_eq_true_eq] at hb
    subst hb
    refine ⟨ha, FitN.of (by rw [f.length, Rl.nums_length]) fun i m a h1 h2 => ?_⟩
    by_cases e : i = R.at_
    · subst e
      rw [ha] at h2
      cases h2
      have := rk.has
      rw [List.getD_eq_getElem?_getD, h1] at this
      exact this
    · obtain ⟨b, hb1, hb2⟩ := f.get i m (by unfold Rl.nums; rw [List.getElem?_set_ne (fun z => e z.symm)]; exact h1)
      rw [h2] at hb1
      cases hb1
      exact hb2
  · rintro ⟨ha, f⟩
    refine FitN.of (by rw [f.length, Rl.nums_length]) fun i m a h1 h2 => ?_
    by_cases e : i = R.at_
    · subst e
      rw [hget] at h1
      cases h1
      rw [ha] at h2
      cases h2
      rw [testBit_pow]
      simp
    · obtain ⟨b, hb1, hb2⟩ := f.get i m (by unfold Rl.nums at h1; rw [List.getElem?_set_ne (fun z => e z.symm)] at h1; exact h1)
      rw [h2] at hb1
      cases hb1
      exact hb2
/-- a word that a rule strikes: the two ways to say it -/
theorem hit_split {k : Nat} {R : Rl} {ks : List Nat} {p : Nat} (hw : Wd k ks) (h : Hit R ks p) : ∃ u q v, Wd k u ∧ Wd k q ∧ Wd k v ∧ FitN R.nums q ∧ (R.left = true → u = []) ∧ (R.right = true → v = []) ∧ ks = u ++ (q ++ v) := by
  have e : ks = ks.take p ++ (cut ks p R.pat.length ++ ks.drop (p + R.pat.length)) := by
    unfold cut
    rw [← List.drop_drop, List.take_append_drop, List.take_append_drop]
  have hw2 := hw
  rw [e] at hw2
  refine ⟨_, _, _, hw2.left, hw2.right.left, hw2.right.right, h.fit, fun l => ?_, fun r => ?_, e⟩
  · rw [h.left l]
    rfl
  · rw [h.right r]
    exact List.drop_length
theorem hit_of {R : Rl} {u q v : List Nat} (f : FitN R.nums q) (l : R.left = true → u = []) (r : R.right = true → v = []) : Hit R (u ++ (q ++ v)) u.length := by
  have hl : q.length = R.pat.length := by rw [f.length, Rl.nums_length]
  refine ⟨by rw [List.length_append, List.length_append]; omega, fun h => by rw [l h]; rfl, fun h => by rw [r h]; simp [hl], ?_⟩
  unfold cut
  rw [List.drop_left, ← hl, List.take_left]
  exact f
theorem snd_iff {k : Nat} {R : Rl} {L : List Nat → Prop} : Snd k R L ↔ ∀ ks p, Wd k ks → Hit R ks p → ¬ L ks := by
  constructor
  · intro h ks p hw hh
    obtain ⟨u, q, v, h1, h2, h3, f, l, r, e⟩ := hit_split hw hh
    rw [e]
    exact h u q v h1 h2 h3 f l r
  · intro h u q v h1 h2 h3 f l r
    exact h _ _ (h1.app (h2.app h3)) (hit_of f l r)
end K5
end
section
set_option maxRecDepth 100000
/-! The plain law: the search for a spoiled word. No program here. -/
namespace K5
/-- a book strikes behind ts -/
def StrikeR (R : Rl) (ts : List Nat) (st right : Bool) : Prop := R.right = right ∧ R.pat.length ≤ ts.length ∧ (R.left = true → st = true ∧ R.pat.length = ts.length) ∧ FitN R.nums (cut ts (ts.length - R.pat.length) R.pat.length)
def StrikeL (Rs : List Rl) (ts : List Nat) (st right : Bool) : Prop := ∃ R ∈ Rs, StrikeR R ts st right
structure Nd where
  q : Nat
  st : Bool
  tail : List Nat
  dead : Bool
section
open Classical
variable (Rs : List Rl) (B : Tab) (r : Nat)
/-- the node behind one letter more; r: the reach -/
noncomputable def Nd.step (d : Nd) (c : Nat) : Nd :=
  if d.dead = true ∨ StrikeL Rs (d.tail ++ [c]) d.st false then ⟨B.st d.q c, false, [], true⟩
  else ⟨B.st d.q c, d.st && decide (d.tail.length + 1 ≤ r), (d.tail ++ [c]).drop (d.tail.length + 1 - r), false⟩
def nd0 : Nd := ⟨0, true, [], false⟩
noncomputable def Nd.of (u : List Nat) : Nd := u.foldl (Nd.step Rs B r) nd0
/-- what spoiled_word returns at -/
def Stop (d : Nd) (c : Nat) : Prop := B.at_ (B.st d.q c) = true ∧ (d.dead = true ∨ StrikeL Rs (d.tail ++ [c]) d.st false ∨ StrikeL Rs (d.tail ++ [c]) d.st true)
end
section
variable {Rs : List Rl} {B : Tab} {r k : Nat}
theorem Nd.of_snoc (u : List Nat) (c : Nat) : Nd.of Rs B r (u ++ [c]) = (Nd.of Rs B r u).step Rs B r c := by
  unfold Nd.of
  rw [List.foldl_append]
  rfl
/-- R ends at the end of w -/
def EndsR (R : Rl) (w : List Nat) : Prop := R.pat.length ≤ w.length ∧ (R.left = true → R.pat.length = w.length) ∧ FitN R.nums (cut w (w.length - R.pat.length) R.pat.length)
theorem EndsR.hit {R : Rl} {w : List Nat} (h : EndsR R w) : Hit R w (w.length - R.pat.length) := ⟨by have := h.1; omega, fun l => by rw [h.2.1 l]; omega, fun _ => by have := h.1; omega, h.2.2⟩
theorem ends_of {R : Rl} {w : List Nat} {p : Nat} (h : Hit R w p) (e : p + R.pat.length = w.length) : EndsR R w := by
  have e2 : w.length - R.pat.length = p := by omega
  exact ⟨by omega, fun l => by have := h.left l; omega, by rw [e2]; exact h.fit⟩
theorem cut_app {u v : List Nat} {p n : Nat} (h : p + n ≤ u.length) : cut (u ++ v) p n = cut u p n := by
  unfold cut
  rw [List.drop_append_of_le_length (by omega), List.take_append_of_le_length (by rw [List.length_drop]; omega)]
theorem hit_app {R : Rl} {u v : List Nat} {p : Nat} (hr : R.right = false) (h : Hit R u p) : Hit R (u ++ v) p :=
  ⟨by have := h.fits; rw [List.length_append]; omega, h.left, (fun z => by rw [hr] at z; cases z), by rw [cut_app h.fits]; exact h.fit⟩
theorem hit_back {R : Rl} {u v : List Nat} {p : Nat} (hr : R.right = false) (h : Hit R (u ++ v) p) (hp : p + R.pat.length ≤ u.length) : Hit R u p :=
  ⟨hp, h.left, (fun z => by rw [hr] at z; cases z), by rw [← cut_app (v := v) hp]; exact h.fit⟩
/-- what a node tells of its word -/
structure NdOk (Rs : List Rl) (B : Tab) (r : Nat) (u : List Nat) (d : Nd) : Prop where
  q : d.q = B.run 0 u
  dead : d.dead = true → ∃ R ∈ Rs, R.right = false ∧ ∃ p, Hit R u p
  live : d.dead = false → d.tail = u.drop (u.length - r) ∧ (d.st = true ↔ u.length ≤ r) ∧ ∀ R ∈ Rs, R.right = false → ∀ p, ¬ Hit R u p
theorem strike_iff {R : Rl} {u : List Nat} {c : Nat} {d : Nd} {rt : Bool} (hw : R.pat.length ≤ r + 1) (ht : d.tail = u.drop (u.length - r)) (hs : d.st = true ↔ u.length ≤ r) : StrikeR R (d.tail ++ [c]) d.st rt ↔ R.right = rt ∧ EndsR R (u ++ [c]) := by
  have et : d.tail ++ [c] = (u ++ [c]).drop (u.length - r) := by rw [ht, List.drop_append_of_le_length (by omega)]
  have hl : (d.tail ++ [c]).length = min (u.length + 1) (r + 1) := by
    rw [et, List.length_drop, List.length_append, List.length_singleton]
    omega
  have hw1 : (u ++ [c]).length = u.length + 1 := by rw [List.length_append]; rfl
  have ec : R.pat.length ≤ u.length + 1 → cut (d.tail ++ [c]) ((d.tail ++ [c]).length - R.pat.length) R.pat.length = cut (u ++ [c]) ((u ++ [c]).length - R.pat.length) R.pat.length := fun hle => by
    unfold cut
    rw [hl, hw1, et, List.drop_drop]
    congr 2
    omega
  unfold StrikeR EndsR
  rw [hl, hw1]
  rw [hl, hw1] at ec
  constructor
  · rintro ⟨h1, h2, h3, h4⟩
    have hle : R.pat.length ≤ u.length + 1 := by omega
    refine ⟨h1, hle, fun l => ?_, ?_⟩
    · obtain ⟨h5, h6⟩ := h3 l
      have := hs.mp h5
      omega
    · rw [← ec hle]
      exact h4
  · rintro ⟨h1, h2, h3, h4⟩
    refine ⟨h1, by omega, fun l => ?_, ?_⟩
    · have := h3 l
      exact ⟨hs.mpr (by omega), by omega⟩
    · rw [ec h2]
      exact h4
theorem strikeL_iff {u : List Nat} {c : Nat} {d : Nd} {rt : Bool} (hw : ∀ R ∈ Rs, R.pat.length ≤ r + 1) (ht : d.tail = u.drop (u.length - r)) (hs : d.st = true ↔ u.length ≤ r) : StrikeL Rs (d.tail ++ [c]) d.st rt ↔ ∃ R ∈ Rs, R.right = rt ∧ EndsR R (u ++ [c]) :=
  ⟨fun ⟨R, hR, h⟩ => ⟨R, hR, (strike_iff (hw R hR) ht hs).mp h⟩, fun ⟨R, hR, h⟩ => ⟨R, hR, (strike_iff (hw R hR) ht hs).mpr h⟩⟩
theorem nd0_ok : NdOk Rs B r [] nd0 → True := fun _ => trivial
theorem NdOk.zero (hp : ∀ R ∈ Rs, 1 ≤ R.pat.length) : NdOk Rs B r [] nd0 :=
  ⟨rfl, fun h => (nomatch h), fun _ => ⟨(List.drop_nil).symm, ⟨fun _ => Nat.zero_le _, fun _ => rfl⟩, fun R hR _ p h => by
    have h1 : p + R.pat.length ≤ 0 := h.fits
    have := hp R hR
    omega⟩⟩
theorem NdOk.step {u : List Nat} {c : Nat} {d : Nd} (hw : ∀ R ∈ Rs, R.pat.length ≤ r + 1) (h : NdOk Rs B r u d) : NdOk Rs B r (u ++ [c]) (d.step Rs B r c) := by
  have eq : B.st d.q c = B.run 0 (u ++ [c]) := by rw [Tab.run_app, h.q]; rfl
  unfold Nd.step
  split
  · rename_i hd
    refine ⟨eq, fun _ => ?_, fun z => nomatch z⟩
    cases hdd : d.dead with
    | true =>
      obtain ⟨R, hR, h1, p, h2⟩ := h.dead hdd
      exact ⟨R, hR, h1, p, hit_app h1 h2⟩
    | false =>
      obtain ⟨h1, h2, _⟩ := h.live hdd
      rcases hd with hd | hd
      · rw [hdd] at hd; cases hd
      · obtain ⟨R, hR, h3, h4⟩ := (strikeL_iff hw h1 h2).mp hd
        exact ⟨R, hR, h3, _, h4.hit⟩
  · rename_i hd
    have hdd : d.dead = false := Bool.eq_false_iff.mpr fun z => hd (.inl z)
    obtain ⟨h1, h2, h3⟩ := h.live hdd
    have ht : d.tail.length = min u.length r := by rw [h1, List.length_drop]; omega
    refine ⟨eq, fun z => (nomatch z), fun _ => ⟨?_, ?_, fun R hR hr p hh => ?_⟩⟩
    · show (d.tail ++ [c]).drop (d.tail.length + 1 - r) = (u ++ [c]).drop ((u ++ [c]).length - r)
      have et : d.tail ++ [c] = (u ++ [c]).drop (u.length - r) := by rw [h1, List.drop_append_of_le_length (by omega)]
      rw [et, List.drop_drop, ht, List.length_append, List.length_singleton]
      congr 1
      omega
    · show (d.st && decide (d.tail.length + 1 ≤ r)) = true ↔ _
      rw [Bool.and_eq_true, h2, decide_eq_true_iff, ht, List.length_append, List.length_singleton]
      omega
    · by_cases e : p + R.pat.length ≤ u.length
      · exact h3 R hR hr p (hit_back hr hh e)
      · refine hd (.inr ((strikeL_iff hw h1 h2).mpr ⟨R, hR, hr, ends_of hh ?_⟩))
        have := hh.fits
        rw [List.length_append, List.length_singleton] at this ⊢
        omega
theorem NdOk.of (hp : ∀ R ∈ Rs, 1 ≤ R.pat.length) (hw : ∀ R ∈ Rs, R.pat.length ≤ r + 1) (u : List Nat) : NdOk Rs B r u (Nd.of Rs B r u) := by
  have : ∀ n (u : List Nat), u.length = n → NdOk Rs B r u (Nd.of Rs B r u) := fun n => by
    induction n with
    | zero => intro u hu; rw [List.length_eq_zero_iff] at hu; subst hu; exact NdOk.zero hp
    | succ n ih =>
      intro u hu
      have hne : u ≠ [] := fun z => by rw [z] at hu; cases hu
      have e : u = u.dropLast ++ [u.getLast hne] := (List.dropLast_concat_getLast hne).symm
      rw [e, Nd.of_snoc]
      exact (ih _ (by rw [List.length_dropLast]; omega)).step hw
  exact this _ u rfl
/-- a stop gives a word of the language that is struck -/
theorem stop_hit {u : List Nat} {c : Nat} {d : Nd} (hw : ∀ R ∈ Rs, R.pat.length ≤ r + 1) (h : NdOk Rs B r u d) (s : Stop Rs B d c) : B.acc (u ++ [c]) = true ∧ ∃ R ∈ Rs, ∃ p, Hit R (u ++ [c]) p := by
  refine ⟨?_, ?_⟩
  · unfold Tab.acc
    rw [Tab.run_app, ← h.q]
    exact s.1
  · cases hdd : d.dead with
    | true =>
      obtain ⟨R, hR, h1, p, h2⟩ := h.dead hdd
      exact ⟨R, hR, p, hit_app h1 h2⟩
    | false =>
      obtain ⟨h1, h2, _⟩ := h.live hdd
      rcases s.2 with z | z | z
      · rw [hdd] at z; cases z
      · obtain ⟨R, hR, _, h4⟩ := (strikeL_iff hw h1 h2).mp z
        exact ⟨R, hR, _, h4.hit⟩
      · obtain ⟨R, hR, _, h4⟩ := (strikeL_iff hw h1 h2).mp z
        exact ⟨R, hR, _, h4.hit⟩
/-- a word of the language that is struck gives a stop -/
theorem hit_stop {u : List Nat} {c p : Nat} {d : Nd} {R : Rl} (hw : ∀ R ∈ Rs, R.pat.length ≤ r + 1) (h : NdOk Rs B r u d) (ha : B.acc (u ++ [c]) = true) (hR : R ∈ Rs) (hh : Hit R (u ++ [c]) p) : Stop Rs B d c := by
  refine ⟨?_, ?_⟩
  · unfold Tab.acc at ha
    rw [Tab.run_app, ← h.q] at ha
    exact ha
  · cases hdd : d.dead with
    | true => exact .inl rfl
    | false =>
      obtain ⟨h1, h2, h3⟩ := h.live hdd
      have hf := hh.fits
      rw [List.length_append, List.length_singleton] at hf
      by_cases e : p + R.pat.length = (u ++ [c]).length
      · cases hr : R.right with
        | true => exact .inr (.inr ((strikeL_iff hw h1 h2).mpr ⟨R, hR, hr, ends_of hh e⟩))
        | false => exact .inr (.inl ((strikeL_iff hw h1 h2).mpr ⟨R, hR, hr, ends_of hh e⟩))
      · cases hr : R.right with
        | true => exact absurd (hh.right hr) e
        | false =>
          rw [List.length_append, List.length_singleton] at e
          exact absurd (hit_back hr hh (by omega)) (h3 R hR hr p)
/-! ### few nodes -/
def encT (l : List Nat) : Nat := l.foldl (fun x c => x * 5 + (c + 1)) 0
def Nd.enc (d : Nd) : Nat := ((d.q * 2 + d.st.toNat) * 2 + d.dead.toNat) * 125 + encT d.tail
structure Nd.Low (d : Nd) : Prop where
  q : d.q < 8
  len : d.tail.length ≤ 3
  kd : ∀ c ∈ d.tail, c < 4
theorem encT_lt : ∀ {l : List Nat}, l.length ≤ 3 → (∀ c ∈ l, c < 4) → encT l < 125
  | [], _, _ => by decide
  | [a], _, h => by have := h a (by simp); simp [encT]; omega
  | [a, b], _, h => by have := h a (by simp); have := h b (by simp); simp [encT]; omega
  | [a, b, c], _, h => by have := h a (by simp); have := h b (by simp); have := h c (by simp); simp [encT]; omega
  | _ :: _ :: _ :: _ :: _, hl, _ => by simp at hl
theorem encT_inj : ∀ {l m : List Nat}, l.length ≤ 3 → m.length ≤ 3 → (∀ c ∈ l, c < 4) → (∀ c ∈ m, c < 4) → encT l = encT m → l = m := by
  have few : ∀ l : List Nat, l.length ≤ 3 → l = [] ∨ (∃ a, l = [a]) ∨ (∃ a b, l = [a, b]) ∨ ∃ a b c, l = [a, b, c] := fun l h => match l, h with
    | [], _ => .inl rfl
    | [a], _ => .inr (.inl ⟨a, rfl⟩)
    | [a, b], _ => .inr (.inr (.inl ⟨a, b, rfl⟩))
    | [a, b, c], _ => .inr (.inr (.inr ⟨a, b, c, rfl⟩))
    | _ :: _ :: _ :: _ :: _, h => by simp at h
  intro l m hl hm h1 h2 e
  rcases few l hl with rfl | ⟨a, rfl⟩ | ⟨a, b, rfl⟩ | ⟨a, b, c, rfl⟩ <;> rcases few m hm with rfl | ⟨a', rfl⟩ | ⟨a', b', rfl⟩ | ⟨a', b', c', rfl⟩ <;> simp [encT] at * <;> omega
theorem Nd.enc_lt {d : Nd} (h : d.Low) : d.enc < 4000 := by
  have h1 := encT_lt h.len h.kd
  have h2 := h.q
  have h3 : d.st.toNat ≤ 1 := Bool.toNat_le d.st
  have h4 : d.dead.toNat ≤ 1 := Bool.toNat_le d.dead
  unfold Nd.enc
  omega
theorem Nd.enc_inj {d e : Nd} (hd : d.Low) (he : e.Low) (h : d.enc = e.enc) : d = e := by
  have h1 := encT_lt hd.len hd.kd
  have h2 := encT_lt he.len he.kd
  have h3 : d.st.toNat ≤ 1 := Bool.toNat_le d.st
  have h4 : d.dead.toNat ≤ 1 := Bool.toNat_le d.dead
  have h5 : e.st.toNat ≤ 1 := Bool.toNat_le e.st
  have h6 : e.dead.toNat ≤ 1 := Bool.toNat_le e.dead
  unfold Nd.enc at h
  have ht := encT_inj hd.len he.len hd.kd he.kd (by omega)
  have hq : d.q = e.q := by omega
  have hs : d.st.toNat = e.st.toNat := by omega
  have hdd : d.dead.toNat = e.dead.toNat := by omega
  obtain ⟨q, s, t, x⟩ := d
  obtain ⟨q', s', t', x'⟩ := e
  have hq : q = q' := hq
  have ht : t = t' := ht
  have hs : s = s' := by cases s <;> cases s' <;> first | rfl | cases hs
  have hx : x = x' := by cases x <;> cases x' <;> first | rfl | cases hdd
  rw [hq, ht, hs, hx]
theorem low_len {S : List Nd} (nd : S.Nodup) (low : ∀ d ∈ S, d.Low) : S.length ≤ 4000 := by
  have := nodup_len 4000 (S.map Nd.enc) (by
    refine List.Pairwise.map _ ?_ (List.Pairwise.and_mem.mp nd)
    rintro a b ⟨ha, hb, ne⟩ e
    exact ne (Nd.enc_inj (low a ha) (low b hb) e)) fun a ha => by
      obtain ⟨d, hd, rfl⟩ := List.mem_map.mp ha
      exact Nd.enc_lt (low d hd)
  rwa [List.length_map] at this
/-- the nodes that words reach are low -/
theorem Nd.step_low {k c : Nat} {d : Nd} (ok : TabOk k B) (hn : B.n ≤ 8) (hk : k ≤ 4) (hr : r ≤ 3) (hc : c < k) (h : d.Low) (hq : d.q < B.n) : (d.step Rs B r c).Low ∧ (d.step Rs B r c).q < B.n := by
  have h1 : B.st d.q c < B.n := ok.st_lt hq hc
  unfold Nd.step
  split
  · exact ⟨⟨by show B.st d.q c < 8; omega, by show 0 ≤ 3; omega, fun c hc => (nomatch hc)⟩, h1⟩
  · refine ⟨⟨by show B.st d.q c < 8; omega, ?_, fun x hx => ?_⟩, h1⟩
    · show ((d.tail ++ [c]).drop (d.tail.length + 1 - r)).length ≤ 3
      rw [List.length_drop, List.length_append, List.length_singleton]
      omega
    · rcases List.mem_append.mp (List.mem_of_mem_drop hx) with hx | hx
      · exact h.kd x hx
      · rw [List.mem_singleton] at hx
        omega
theorem Nd.of_low {k : Nat} (ok : TabOk k B) (hn : B.n ≤ 8) (hk : k ≤ 4) (hr : r ≤ 3) : ∀ u, Wd k u → (Nd.of Rs B r u).Low ∧ (Nd.of Rs B r u).q < B.n := by
  have : ∀ n (u : List Nat), u.length = n → Wd k u → (Nd.of Rs B r u).Low ∧ (Nd.of Rs B r u).q < B.n := fun n => by
    induction n with
    | zero =>
      intro u hu _
      rw [List.length_eq_zero_iff] at hu
      subst hu
      have hp := ok.pos
      exact ⟨⟨by show 0 < 8; omega, by show 0 ≤ 3; omega, fun c hc => (nomatch hc)⟩, hp⟩
    | succ n ih =>
      intro u hu hw
      have hne : u ≠ [] := fun z => by rw [z] at hu; cases hu
      have e : u = u.dropLast ++ [u.getLast hne] := (List.dropLast_concat_getLast hne).symm
      rw [e] at hw ⊢
      rw [Nd.of_snoc]
      have ⟨h1, h2⟩ := ih _ (by rw [List.length_dropLast]; omega) hw.left
      exact Nd.step_low ok hn hk hr (hw.right _ (List.mem_singleton.mpr rfl)) h1 h2
  exact fun u hw => this _ u rfl hw
/-! ### the search, layer by layer -/
structure Bfs (Rs : List Rl) (B : Tab) (r k : Nat) (S : List Nd) (lay : List (List Nat × Nd)) (dep : Nat) : Prop where
  nd : S.Nodup
  re : ∀ d ∈ S, ∃ u, Wd k u ∧ Nd.of Rs B r u = d
  root : nd0 ∈ S
  lays : ∀ e ∈ lay, e.2 ∈ S ∧ e.1.length = dep ∧ Wd k e.1 ∧ Nd.of Rs B r e.1 = e.2
  done : ∀ d ∈ S, d ∉ lay.map (·.2) → ∀ c, c < k → ¬ Stop Rs B d c ∧ d.step Rs B r c ∈ S
  cnt : lay ≠ [] → dep + 1 ≤ S.length
structure Mid (Rs : List Rl) (B : Tab) (r k : Nat) (S : List Nd) (lay : List (List Nat × Nd)) (dep i j : Nat) (S' : List Nd) (later : List (List Nat × Nd)) : Prop where
  nd : S'.Nodup
  sub : ∀ d ∈ S, d ∈ S'
  re : ∀ d ∈ S', ∃ u, Wd k u ∧ Nd.of Rs B r u = d
  new : ∀ d ∈ S', d ∈ S ∨ d ∈ later.map (·.2)
  lats : ∀ e ∈ later, e.2 ∈ S' ∧ e.1.length = dep + 1 ∧ Wd k e.1 ∧ Nd.of Rs B r e.1 = e.2
  len : S'.length = S.length + later.length
  past : ∀ e ∈ lay.take i, ∀ c, c < k → ¬ Stop Rs B e.2 c ∧ e.2.step Rs B r c ∈ S'
  now : ∀ e, lay[i]? = some e → ∀ c, c < j → ¬ Stop Rs B e.2 c ∧ e.2.step Rs B r c ∈ S'
section
variable {S S' : List Nd} {lay later : List (List Nat × Nd)} {dep i j : Nat}
theorem Bfs.start : Bfs Rs B r k [nd0] [([], nd0)] 0 :=
  ⟨List.pairwise_singleton _ _, fun d hd => ⟨[], fun a ha => (nomatch ha), (List.mem_singleton.mp hd).symm⟩, List.mem_singleton.mpr rfl,
    fun e he => by rw [List.mem_singleton] at he; subst he; exact ⟨List.mem_singleton.mpr rfl, rfl, fun a ha => (nomatch ha), rfl⟩, fun d hd hn => absurd hd hn, fun _ => Nat.le_refl _⟩
theorem Bfs.mid (b : Bfs Rs B r k S lay dep) : Mid Rs B r k S lay dep 0 0 S [] :=
  ⟨b.nd, fun _ h => h, b.re, fun _ h => .inl h, fun _ h => (nomatch h), rfl, fun _ h => by simp at h, fun _ _ c h => absurd h (Nat.not_lt_zero _)⟩
theorem Mid.row (m : Mid Rs B r k S lay dep i k S' later) : Mid Rs B r k S lay dep (i + 1) 0 S' later :=
  ⟨m.nd, m.sub, m.re, m.new, m.lats, m.len, fun e he c hc => by
    rw [List.take_succ] at he
    rcases List.mem_append.mp he with he | he
    · exact m.past e he c hc
    · cases e2 : lay[i]? with
      | none => rw [e2] at he; simp at he
      | some x =>
        rw [e2] at he
        simp at he
        subst he
        exact m.now _ e2 c hc, fun _ _ c h => absurd h (Nat.not_lt_zero _)⟩
theorem Mid.old {e : List Nat × Nd} (he : lay[i]? = some e) (ns : ¬ Stop Rs B e.2 j) (hm : e.2.step Rs B r j ∈ S') (m : Mid Rs B r k S lay dep i j S' later) : Mid Rs B r k S lay dep i (j + 1) S' later :=
  ⟨m.nd, m.sub, m.re, m.new, m.lats, m.len, m.past, fun x hx c hc => by
    rcases Nat.lt_or_ge c j with h | h
    · exact m.now x hx c h
    · obtain rfl : c = j := by omega
      rw [he] at hx
      cases hx
      exact ⟨ns, hm⟩⟩
theorem Mid.fresh {e : List Nat × Nd} (b : Bfs Rs B r k S lay dep) (he : lay[i]? = some e) (hj : j < k) (ns : ¬ Stop Rs B e.2 j) (hm : e.2.step Rs B r j ∉ S') (m : Mid Rs B r k S lay dep i j S' later) :
    Mid Rs B r k S lay dep i (j + 1) (S' ++ [e.2.step Rs B r j]) (later ++ [(e.1 ++ [j], e.2.step Rs B r j)]) := by
  obtain ⟨h1, h2, h3, h4⟩ := b.lays e (List.mem_of_getElem? he)
  have hw : Wd k (e.1 ++ [j]) := h3.app fun a ha => by rw [List.mem_singleton] at ha; exact ha ▸ hj
  have ho : Nd.of Rs B r (e.1 ++ [j]) = e.2.step Rs B r j := by rw [Nd.of_snoc, h4]
  refine ⟨?_, fun d hd => List.mem_append_left _ (m.sub d hd), fun d hd => ?_, fun d hd => ?_, fun x hx => ?_, ?_, fun x hx c hc => ⟨(m.past x hx c hc).1, List.mem_append_left _ (m.past x hx c hc).2⟩, fun x hx c hc => ?_⟩
  · refine List.nodup_append.mpr ⟨m.nd, List.pairwise_singleton _ _, fun a ha b hb => ?_⟩
    rw [List.mem_singleton] at hb
    exact fun z => hm (hb ▸ z ▸ ha)
  · rcases List.mem_append.mp hd with hd | hd
    · exact m.re d hd
    · rw [List.mem_singleton] at hd
      exact ⟨_, hw, ho.trans hd.symm⟩
  · rw [List.map_append]
    rcases List.mem_append.mp hd with hd | hd
    · exact (m.new d hd).imp id fun h => List.mem_append_left _ h
    · exact .inr (List.mem_append_right _ (by simpa using hd))
  · rcases List.mem_append.mp hx with hx | hx
    · obtain ⟨g1, g2⟩ := m.lats x hx
      exact ⟨List.mem_append_left _ g1, g2⟩
    · rw [List.mem_singleton] at hx
      subst hx
      exact ⟨List.mem_append_right _ (List.mem_singleton.mpr rfl), by rw [List.length_append, h2]; rfl, hw, ho⟩
  · rw [List.length_append, List.length_append, m.len]
    simp
    omega
  · rcases Nat.lt_or_ge c j with h | h
    · exact ⟨(m.now x hx c h).1, List.mem_append_left _ (m.now x hx c h).2⟩
    · obtain rfl : c = j := by omega
      rw [he] at hx
      cases hx
      exact ⟨ns, List.mem_append_right _ (List.mem_singleton.mpr rfl)⟩
theorem Mid.next (b : Bfs Rs B r k S lay dep) (hne : lay ≠ []) (m : Mid Rs B r k S lay dep lay.length 0 S' later) : Bfs Rs B r k S' later (dep + 1) := by
  refine ⟨m.nd, m.re, m.sub _ b.root, m.lats, fun d hd hn c hc => ?_, fun hl => ?_⟩
  · rcases m.new d hd with h | h
    · by_cases hl : d ∈ lay.map (·.2)
      · obtain ⟨e, he, rfl⟩ := List.mem_map.mp hl
        exact m.past e (by rw [List.take_length]; exact he) c hc
      · obtain ⟨h1, h2⟩ := b.done d h hl c hc
        exact ⟨h1, m.sub _ h2⟩
    · exact absurd h hn
  · have := b.cnt hne
    have := m.len
    have := List.length_pos_iff.mpr hl
    omega
/-- the search ends without a stop: no word is struck -/
theorem Bfs.clean (hp : ∀ R ∈ Rs, 1 ≤ R.pat.length) (hw : ∀ R ∈ Rs, R.pat.length ≤ r + 1) (b : Bfs Rs B r k S [] dep) : ∀ R ∈ Rs, Snd k R fun w => B.acc w = true := by
  have all : ∀ n (u : List Nat), u.length = n → Wd k u → Nd.of Rs B r u ∈ S := fun n => by
    induction n with
    | zero =>
      intro u hu _
      rw [List.length_eq_zero_iff] at hu
      subst hu
      exact b.root
    | succ n ih =>
      intro u hu hwu
      have hne : u ≠ [] := fun z => by rw [z] at hu; cases hu
      have e : u = u.dropLast ++ [u.getLast hne] := (List.dropLast_concat_getLast hne).symm
      rw [e] at hwu ⊢
      rw [Nd.of_snoc]
      exact (b.done _ (ih _ (by rw [List.length_dropLast]; omega) hwu.left) (by simp) _ (hwu.right _ (List.mem_singleton.mpr rfl))).2
  intro R hR
  rw [snd_iff]
  intro w p hww hh ha
  have hne : w ≠ [] := fun z => by
    have h1 := hh.fits
    have h2 := hp R hR
    rw [z, List.length_nil] at h1
    omega
  have e : w = w.dropLast ++ [w.getLast hne] := (List.dropLast_concat_getLast hne).symm
  rw [e] at hww hh ha
  exact (b.done _ (all _ _ rfl hww.left) (by simp) _ (hww.right _ (List.mem_singleton.mpr rfl))).1 (hit_stop hw (NdOk.of hp hw _) ha hR hh)
end
end
end K5
end
section
set_option maxRecDepth 100000
/-! The plain law: tables made of tables. No program here. -/
namespace K5
section
variable {k : Nat} {B : Tab}
/-! ### what a table must keep -/
/-- B' is a table of the words of B, all its states are reached -/
structure Least (k : Nat) (B B' : Tab) : Prop where
  ok : TabOk k B'
  all : AllIn k B'
  few : B'.n ≤ B.n
  acc : ∀ w, Wd k w → B'.acc w = B.acc w
/-! ### the states in an order -/
structure Ordr (k : Nat) (B : Tab) (o : List Nat) : Prop where
  nd : o.Nodup
  head : o[0]? = some 0
  clo : ∀ s ∈ o, ∀ c, c < k → B.st s c ∈ o
  re : ∀ s ∈ o, ∃ w, Wd k w ∧ B.run 0 w = s
def Tab.sel (B : Tab) (o : List Nat) : Tab := ⟨o.map fun s => (B.rows.getD s []).map fun t => o.idxOf t, o.map B.at_⟩
theorem idx_get {o : List Nat} {s : Nat} (h : s ∈ o) : o[o.idxOf s]? = some s := by
  have hl := List.idxOf_lt_length_iff.mpr h
  rw [List.getElem?_eq_getElem hl]
  exact congrArg some (List.getElem_idxOf hl)
theorem idx_of {o : List Nat} {i s : Nat} (nd : o.Nodup) (h : o[i]? = some s) : o.idxOf s = i := nd_inj nd (idx_get (List.mem_of_getElem? h)) h
theorem getD_of {α : Type} {l : List α} {i : Nat} {a d : α} (h : l[i]? = some a) : l.getD i d = a := by
  rw [List.getD_eq_getElem?_getD, h]
  rfl
theorem row_get {B : Tab} {s c : Nat} (ok : TabOk k B) (hs : s < B.n) (hc : c < k) : (B.rows.getD s [])[c]? = some (B.st s c) := by
  have hr : B.rows.getD s [] ∈ B.rows := getD_mem hs
  have hl : c < (B.rows.getD s []).length := by rw [ok.wide _ hr]; exact hc
  rw [List.getElem?_eq_getElem hl]
  exact congrArg some (getD_of (List.getElem?_eq_getElem hl)).symm
theorem Wd.run_mem {B : Tab} {o : List Nat} (h : ∀ s ∈ o, ∀ c, c < k → B.st s c ∈ o) : ∀ {w : List Nat} {s : Nat}, s ∈ o → Wd k w → B.run s w ∈ o
  | [], s, hs, _ => hs
  | c :: w, s, hs, hw => Wd.run_mem h (w := w) (h s hs c (hw c List.mem_cons_self)) fun b hb => hw b (List.mem_cons_of_mem _ hb)
theorem Ordr.low {o : List Nat} (ok : TabOk k B) (h : Ordr k B o) : ∀ s ∈ o, s < B.n := fun s hs => by
  obtain ⟨w, hw, e⟩ := h.re s hs
  exact e ▸ ok.run_lt ok.pos hw
theorem Ordr.sel_st {o : List Nat} {s c : Nat} (ok : TabOk k B) (h : Ordr k B o) (hs : s ∈ o) (hc : c < k) : (B.sel o).st (o.idxOf s) c = o.idxOf (B.st s c) := by
  have h1 := row_get ok (h.low ok s hs) hc
  show ((o.map fun s => (B.rows.getD s []).map fun t => o.idxOf t).getD (o.idxOf s) []).getD c 0 = _
  rw [getD_of (l := o.map _) (a := (B.rows.getD s []).map fun t => o.idxOf t) (by rw [List.getElem?_map, idx_get hs]; rfl)]
  exact getD_of (by rw [List.getElem?_map, h1]; rfl)
theorem Ordr.sel_run {o : List Nat} (ok : TabOk k B) (h : Ordr k B o) : ∀ {w : List Nat} {s : Nat}, s ∈ o → Wd k w → (B.sel o).run (o.idxOf s) w = o.idxOf (B.run s w)
  | [], s, _, _ => rfl
  | c :: w, s, hs, hw => by
    have hc := hw c List.mem_cons_self
    show (B.sel o).run ((B.sel o).st (o.idxOf s) c) w = o.idxOf (B.run (B.st s c) w)
    rw [h.sel_st ok hs hc]
    exact h.sel_run ok (h.clo s hs c hc) fun b hb => hw b (List.mem_cons_of_mem _ hb)
theorem Ordr.sel_n {o : List Nat} : (B.sel o).n = o.length := List.length_map _
theorem Ordr.least {o : List Nat} (ok : TabOk k B) (h : Ordr k B o) : Least k B (B.sel o) := by
  have h0 : 0 ∈ o := List.mem_of_getElem? h.head
  have i0 : o.idxOf 0 = 0 := idx_of h.nd h.head
  have hat : ∀ s, s ∈ o → (B.sel o).at_ (o.idxOf s) = B.at_ s := fun s hs => getD_of (by
    show (o.map B.at_)[_]? = _
    rw [List.getElem?_map, idx_get hs]
    rfl)
  refine ⟨⟨?_, ?_, ?_, ?_⟩, ?_, ?_, fun w hw => ?_⟩
  · rw [Ordr.sel_n]
    exact List.length_pos_of_mem h0
  · rw [Ordr.sel_n]
    exact List.length_map _
  · intro r hr
    obtain ⟨s, hs, rfl⟩ := List.mem_map.mp hr
    rw [List.length_map]
    exact ok.wide _ (getD_mem (h.low ok s hs))
  · intro r hr t ht
    obtain ⟨s, hs, rfl⟩ := List.mem_map.mp hr
    obtain ⟨u, hu, rfl⟩ := List.mem_map.mp ht
    rw [Ordr.sel_n]
    refine List.idxOf_lt_length_iff.mpr ?_
    obtain ⟨c, hc⟩ := List.mem_iff_getElem?.mp hu
    have hl := (List.getElem?_eq_some_iff.mp hc).1
    rw [ok.wide _ (getD_mem (h.low ok s hs))] at hl
    rw [row_get ok (h.low ok s hs) hl] at hc
    cases hc
    exact h.clo s hs c hl
  · intro i hi
    rw [Ordr.sel_n] at hi
    have hm : o[i] ∈ o := List.getElem_mem hi
    obtain ⟨w, hw, e⟩ := h.re _ hm
    refine ⟨w, hw, ?_⟩
    have := h.sel_run ok h0 hw
    rw [i0, e, idx_of h.nd (List.getElem?_eq_getElem hi)] at this
    exact this
  · rw [Ordr.sel_n]
    exact nodup_len _ _ h.nd (h.low ok)
  · unfold Tab.acc
    have := h.sel_run ok h0 hw
    rw [i0] at this
    rw [this]
    exact hat _ (Wd.run_mem h.clo h0 hw)
/-! ### the walk that finds the order -/
structure Found (k : Nat) (B : Tab) (o : List Nat) (i j : Nat) : Prop where
  nd : o.Nodup
  head : o[0]? = some 0
  re : ∀ s ∈ o, ∃ w, Wd k w ∧ B.run 0 w = s
  past : ∀ s ∈ o.take i, ∀ c, c < k → B.st s c ∈ o
  now : ∀ s, o[i]? = some s → ∀ c, c < j → B.st s c ∈ o
theorem Found.start : Found k B [0] 0 0 := ⟨List.pairwise_singleton _ _, rfl, fun s hs => ⟨[], fun a ha => (nomatch ha), (List.mem_singleton.mp hs).symm⟩, fun s hs => by simp at hs, fun s _ c hc => absurd hc (Nat.not_lt_zero _)⟩
theorem Found.row {o : List Nat} {i : Nat} (f : Found k B o i k) : Found k B o (i + 1) 0 := ⟨f.nd, f.head, f.re, fun s hs c hc => by
  rw [List.take_succ] at hs
  rcases List.mem_append.mp hs with hs | hs
  · exact f.past s hs c hc
  · cases e : o[i]? with
    | none => rw [e] at hs; simp at hs
    | some x =>
      rw [e] at hs
      simp at hs
      subst hs
      exact f.now _ e c hc, fun s _ c hc => absurd hc (Nat.not_lt_zero _)⟩
theorem Found.old {o : List Nat} {i j s : Nat} (hs : o[i]? = some s) (f : Found k B o i j) (h : B.st s j ∈ o) : Found k B o i (j + 1) := ⟨f.nd, f.head, f.re, f.past, fun t ht c hc => by
  rcases Nat.lt_or_ge c j with h1 | h1
  · exact f.now t ht c h1
  · obtain rfl : c = j := by omega
    rw [hs] at ht
    cases ht
    exact h⟩
theorem Found.fresh {o : List Nat} {i j s : Nat} (hj : j < k) (hs : o[i]? = some s) (f : Found k B o i j) (h : B.st s j ∉ o) : Found k B (o ++ [B.st s j]) i (j + 1) := by
  have hi := (List.getElem?_eq_some_iff.mp hs).1
  refine ⟨?_, ?_, fun t ht => ?_, fun t ht c hc => ?_, fun t ht c hc => ?_⟩
  · refine List.nodup_append.mpr ⟨f.nd, List.pairwise_singleton _ _, fun a ha b hb => ?_⟩
    rw [List.mem_singleton] at hb
    exact fun z => h (hb ▸ z ▸ ha)
  · rw [List.getElem?_append_left (by omega)]
    exact f.head
  · rcases List.mem_append.mp ht with ht | ht
    · exact f.re t ht
    · rw [List.mem_singleton] at ht
      obtain ⟨w, hw, e⟩ := f.re s (List.mem_of_getElem? hs)
      refine ⟨w ++ [j], hw.app fun a ha => by rw [List.mem_singleton] at ha; exact ha ▸ hj, ?_⟩
      rw [Tab.run_app, e, ht]
      rfl
  · rw [List.take_append_of_le_length (by omega)] at ht
    exact List.mem_append_left _ (f.past t ht c hc)
  · rw [List.getElem?_append_left hi] at ht
    rcases Nat.lt_or_ge c j with h1 | h1
    · exact List.mem_append_left _ (f.now t ht c h1)
    · obtain rfl : c = j := by omega
      rw [hs] at ht
      cases ht
      exact List.mem_append_right _ (List.mem_singleton.mpr rfl)
theorem Found.low {o : List Nat} {i j : Nat} (ok : TabOk k B) (f : Found k B o i j) : ∀ s ∈ o, s < B.n := fun s hs => by
  obtain ⟨w, hw, e⟩ := f.re s hs
  exact e ▸ ok.run_lt ok.pos hw
theorem Found.len {o : List Nat} {i j : Nat} (ok : TabOk k B) (f : Found k B o i j) : o.length ≤ B.n := nodup_len _ _ f.nd (f.low ok)
theorem Found.fin {o : List Nat} {i j : Nat} (f : Found k B o i j) (h : o.length ≤ i) : Ordr k B o := ⟨f.nd, f.head, fun s hs c hc => f.past s (by rw [List.take_of_length_le h]; exact hs) c hc, f.re⟩
/-! ### states that tell the same words -/
structure Marks (k : Nat) (B : Tab) (ms : List Nat) (m : Nat) : Prop where
  len : ms.length = B.n
  set : ∀ x, x ∈ ms ↔ x < m
  zero : ms[0]? = some 0
  told : ∀ s t x, ms[s]? = some x → ms[t]? = some x → B.at_ s = B.at_ t
  st : ∀ s t x, ms[s]? = some x → ms[t]? = some x → ∀ c, c < k → ms.getD (B.st s c) 0 = ms.getD (B.st t c) 0
def Tab.quo (B : Tab) (ms : List Nat) (m : Nat) : Tab :=
  ⟨((List.range m).map fun x => ms.idxOf x).map fun s => (B.rows.getD s []).map fun t => ms.getD t 0, ((List.range m).map fun x => ms.idxOf x).map B.at_⟩
theorem Marks.le {ms : List Nat} {m : Nat} (h : Marks k B ms m) : m ≤ B.n := by
  have := nodup_sub (l := List.range m) (m := ms) List.nodup_range fun a ha => (h.set a).mpr (List.mem_range.mp ha)
  rw [List.length_range, h.len] at this
  exact this
theorem Marks.quo {ms : List Nat} {m : Nat} (ok : TabOk k B) (h : Marks k B ms m) : TabOk k (B.quo ms m) ∧ (B.quo ms m).n = m ∧ ∀ w, Wd k w → (B.quo ms m).acc w = B.acc w := by
  have hn : (B.quo ms m).n = m := by
    show (List.map _ _).length = m
    rw [List.length_map, List.length_map, List.length_range]
  have low : ∀ s, s < B.n → ∃ x, ms[s]? = some x ∧ x < m := fun s hs => by
    have hs' : s < ms.length := by rw [h.len]; exact hs
    exact ⟨_, List.getElem?_eq_getElem hs', (h.set _).mp (List.getElem_mem hs')⟩
  have rep : ∀ x, x < m → ms[ms.idxOf x]? = some x ∧ ms.idxOf x < B.n := fun x hx => by
    have hm := (h.set x).mpr hx
    refine ⟨idx_get hm, ?_⟩
    rw [← h.len]
    exact List.idxOf_lt_length_iff.mpr hm
  have hrow : ∀ x, x < m → (B.quo ms m).rows[x]? = some ((B.rows.getD (ms.idxOf x) []).map fun t => ms.getD t 0) := fun x hx => by
    show (List.map _ _)[x]? = _
    rw [List.getElem?_map, List.getElem?_map, List.getElem?_range hx]
    rfl
  have hst : ∀ s x, s < B.n → ms[s]? = some x → ∀ c, c < k → (B.quo ms m).st x c = ms.getD (B.st s c) 0 := fun s x hs hx c hc => by
    have hxm : x < m := (h.set x).mp (List.mem_of_getElem? hx)
    obtain ⟨r1, r2⟩ := rep x hxm
    unfold Tab.st
    rw [getD_of (hrow x hxm)]
    refine (getD_of (a := ms.getD (B.st (ms.idxOf x) c) 0) (by rw [List.getElem?_map, row_get ok r2 hc]; rfl)).trans ?_
    exact h.st _ _ x r1 hx c hc
  have hat : ∀ s x, ms[s]? = some x → (B.quo ms m).at_ x = B.at_ s := fun s x hx => by
    have hxm : x < m := (h.set x).mp (List.mem_of_getElem? hx)
    obtain ⟨r1, r2⟩ := rep x hxm
    refine (getD_of (a := B.at_ (ms.idxOf x)) ?_).trans (h.told _ _ x r1 hx)
    show (List.map _ _)[x]? = _
    rw [List.getElem?_map, List.getElem?_map, List.getElem?_range hxm]
    rfl
  have hrun : ∀ (w : List Nat) s x, s < B.n → ms[s]? = some x → Wd k w → ms[B.run s w]? = some ((B.quo ms m).run x w) := fun w => by
    induction w with
    | nil => exact fun s x _ hx _ => hx
    | cons c w ih =>
      intro s x hs hx hw
      have hc := hw c List.mem_cons_self
      have h1 := ok.st_lt hs hc
      obtain ⟨y, hy, _⟩ := low _ h1
      have := ih (B.st s c) y h1 hy fun b hb => hw b (List.mem_cons_of_mem _ hb)
      show ms[B.run (B.st s c) w]? = some ((B.quo ms m).run ((B.quo ms m).st x c) w)
      rw [hst s x hs hx c hc, getD_of hy]
      exact this
  refine ⟨⟨?_, ?_, ?_, ?_⟩, hn, fun w hw => ?_⟩
  · rw [hn]
    exact (h.set 0).mp (List.mem_of_getElem? h.zero) |> Nat.lt_of_le_of_lt (Nat.zero_le _)
  · rw [hn]
    show (List.map _ _).length = m
    rw [List.length_map, List.length_map, List.length_range]
  · intro r hr
    obtain ⟨x, hx⟩ := List.mem_iff_getElem?.mp hr
    have hxm : x < m := by rw [← hn]; exact (List.getElem?_eq_some_iff.mp hx).1
    rw [hrow x hxm] at hx
    cases hx
    rw [List.length_map]
    exact ok.wide _ (getD_mem (rep x hxm).2)
  · intro r hr t ht
    obtain ⟨x, hx⟩ := List.mem_iff_getElem?.mp hr
    have hxm : x < m := by rw [← hn]; exact (List.getElem?_eq_some_iff.mp hx).1
    rw [hrow x hxm] at hx
    cases hx
    obtain ⟨u, hu, rfl⟩ := List.mem_map.mp ht
    obtain ⟨y, hy, hym⟩ := low u (ok.low _ (getD_mem (rep x hxm).2) u hu)
    rw [hn, getD_of hy]
    exact hym
  · unfold Tab.acc
    exact hat _ _ (hrun w 0 0 ok.pos h.zero hw)
/-! ### how the marks are found -/
/-- what a mark stands for: the state's own mark and those of its row -/
def mkey (B : Tab) (ms : List Nat) (s : Nat) : Nat × List Nat := (ms.getD s 0, (B.rows.getD s []).map fun t => ms.getD t 0)
/-- the marks so far: kn the keys known, fr the fresh marks of the first i states -/
structure Fresh (B : Tab) (ms : List Nat) (i : Nat) (kn : List (Nat × List Nat)) (fr : List Nat) : Prop where
  nd : kn.Nodup
  len : fr.length = i
  key : ∀ (s x : Nat), fr[s]? = some x → kn[x]? = some (mkey B ms s)
  set : ∀ x, x < kn.length → x ∈ fr
  zero : 0 < i → fr[0]? = some 0
theorem Fresh.start {ms : List Nat} : Fresh B ms 0 [] [] := ⟨List.Pairwise.nil, rfl, fun s x h => by simp at h, fun x h => absurd h (Nat.not_lt_zero _), fun h => absurd h (Nat.not_lt_zero _)⟩
theorem Fresh.old {ms : List Nat} {i x : Nat} {kn : List (Nat × List Nat)} {fr : List Nat} (f : Fresh B ms i kn fr) (h : kn[x]? = some (mkey B ms i)) : Fresh B ms (i + 1) kn (fr ++ [x]) := by
  have hl := f.len
  refine ⟨f.nd, by rw [List.length_append, hl]; rfl, fun s y hs => ?_, fun y hy => List.mem_append_left _ (f.set y hy), fun _ => ?_⟩
  · rcases Nat.lt_or_ge s i with h1 | h1
    · rw [List.getElem?_append_left (by omega)] at hs
      exact f.key s y hs
    · rw [List.getElem?_append_right (by omega)] at hs
      obtain ⟨hz, e⟩ := List.getElem?_eq_some_iff.mp hs
      simp at hz e
      obtain rfl : s = i := by omega
      subst e
      exact h
  · rcases Nat.eq_zero_or_pos i with e | e
    · subst e
      have : kn = [] := by
        cases kn with
        | nil => rfl
        | cons a l =>
          have := f.set 0 (Nat.succ_pos _)
          rw [List.length_eq_zero_iff.mp hl] at this
          exact nomatch this
      rw [this] at h
      simp at h
    · rw [List.getElem?_append_left (by omega)]
      exact f.zero e
theorem Fresh.new {ms : List Nat} {i : Nat} {kn : List (Nat × List Nat)} {fr : List Nat} (f : Fresh B ms i kn fr) (h : mkey B ms i ∉ kn) : Fresh B ms (i + 1) (kn ++ [mkey B ms i]) (fr ++ [kn.length]) := by
  have hl := f.len
  refine ⟨?_, by rw [List.length_append, hl]; rfl, fun s y hs => ?_, fun y hy => ?_, fun _ => ?_⟩
  · refine List.nodup_append.mpr ⟨f.nd, List.pairwise_singleton _ _, fun a ha b hb => ?_⟩
    rw [List.mem_singleton] at hb
    exact fun z => h (hb ▸ z ▸ ha)
  · rcases Nat.lt_or_ge s i with h1 | h1
    · rw [List.getElem?_append_left (by omega)] at hs
      have := f.key s y hs
      rw [List.getElem?_append_left (List.getElem?_eq_some_iff.mp this).1]
      exact this
    · rw [List.getElem?_append_right (by omega)] at hs
      obtain ⟨hz, e⟩ := List.getElem?_eq_some_iff.mp hs
      simp at hz e
      obtain rfl : s = i := by omega
      subst e
      simp
  · rw [List.length_append, List.length_singleton] at hy
    rcases Nat.lt_or_ge y kn.length with h1 | h1
    · exact List.mem_append_left _ (f.set y h1)
    · obtain rfl : y = kn.length := by omega
      exact List.mem_append_right _ (List.mem_singleton.mpr rfl)
  · rcases Nat.eq_zero_or_pos i with e | e
    · subst e
      have h0 : fr = [] := List.length_eq_zero_iff.mp hl
      have : kn = [] := by
        cases kn with
        | nil => rfl
        | cons a l =>
          have := f.set 0 (Nat.succ_pos _)
          rw [h0] at this
          exact nomatch this
      rw [h0, this]
      rfl
    · rw [List.getElem?_append_left (by omega)]
      exact f.zero e
theorem nd_inj' {α : Type} {l : List α} (nd : l.Nodup) {i j : Nat} {c : α} (h : l[i]? = some c) (h' : l[j]? = some c) : i = j := by
  obtain ⟨hi, e⟩ := List.getElem?_eq_some_iff.mp h
  obtain ⟨hj, e'⟩ := List.getElem?_eq_some_iff.mp h'
  have p := List.pairwise_iff_getElem.mp nd
  rcases Nat.lt_trichotomy i j with q | q | q
  · exact absurd (e.trans e'.symm) (p i j hi hj q)
  · exact q
  · exact absurd (e'.trans e.symm) (p j i hj hi q)
/-- one turn: fr splits ms -/
structure Split (B : Tab) (ms fr : List Nat) (m : Nat) : Prop where
  len : fr.length = B.n
  set : ∀ x, x ∈ fr ↔ x < m
  zero : fr[0]? = some 0
  key : ∀ s t x y, fr[s]? = some x → fr[t]? = some y → (x = y ↔ mkey B ms s = mkey B ms t)
theorem Fresh.split {ms : List Nat} {kn : List (Nat × List Nat)} {fr : List Nat} (hp : 0 < B.n) (f : Fresh B ms B.n kn fr) : Split B ms fr kn.length := by
  refine ⟨f.len, fun x => ⟨fun hx => ?_, f.set x⟩, f.zero hp, fun s t x y hs ht => ⟨fun e => ?_, fun e => ?_⟩⟩
  · obtain ⟨s, hs⟩ := List.mem_iff_getElem?.mp hx
    exact (List.getElem?_eq_some_iff.mp (f.key s x hs)).1
  · subst e
    have h1 := f.key s x hs
    rw [f.key t x ht] at h1
    exact (Option.some.inj h1).symm
  · have h1 := f.key s x hs
    have h2 := f.key t y ht
    rw [← e] at h2
    exact nd_inj' f.nd h1 h2
/-- marks that keep told states apart -/
structure MkI (B : Tab) (ms : List Nat) : Prop where
  len : ms.length = B.n
  told : ∀ s t x, ms[s]? = some x → ms[t]? = some x → B.at_ s = B.at_ t
theorem MkI.start (ok : TabOk k B) : MkI B (B.told.map fun b => if b = true then 1 else 0) := by
  refine ⟨by rw [List.length_map]; exact ok.told, fun s t x hs ht => ?_⟩
  rw [List.getElem?_map] at hs ht
  unfold Tab.at_
  rw [List.getD_eq_getElem?_getD, List.getD_eq_getElem?_getD]
  cases e1 : B.told[s]? with
  | none => rw [e1] at hs; cases hs
  | some a =>
    cases e2 : B.told[t]? with
    | none => rw [e2] at ht; cases ht
    | some b =>
      rw [e1] at hs
      rw [e2] at ht
      cases a <;> cases b <;> first | rfl | (simp at hs ht; omega)
theorem Split.next {ms fr : List Nat} {m : Nat} (h : MkI B ms) (f : Split B ms fr m) : MkI B fr := by
  refine ⟨f.len, fun s t x hs ht => ?_⟩
  have e := (f.key s t x x hs ht).mp rfl
  have hs' : s < ms.length := by rw [h.len, ← f.len]; exact (List.getElem?_eq_some_iff.mp hs).1
  have ht' : t < ms.length := by rw [h.len, ← f.len]; exact (List.getElem?_eq_some_iff.mp ht).1
  have e1 : ms.getD s 0 = ms.getD t 0 := congrArg Prod.fst e
  rw [getD_of (List.getElem?_eq_getElem hs'), getD_of (List.getElem?_eq_getElem ht')] at e1
  exact h.told s t _ (List.getElem?_eq_getElem hs') (by rw [e1]; exact List.getElem?_eq_getElem ht')
/-- the parts no more split: they are the marks wanted -/
theorem Split.marks {ms fr ks os : List Nat} {m : Nat} (ok : TabOk k B) (h : MkI B ms) (f : Split B ms fr m) (hos : os.Nodup) (hom : ∀ x, x ∈ os ↔ x ∈ ms) (hks : ks.Nodup) (hkm : ∀ x, x ∈ ks ↔ x ∈ fr) (hle : ks.length ≤ os.length) : Marks k B fr m ∧ ks.length = m := by
  have hkl : ks.length = m := by
    have h1 := nodup_sub hks (m := List.range m) fun a ha => List.mem_range.mpr ((f.set a).mp ((hkm a).mp ha))
    have h2 := nodup_sub (List.nodup_range (n := m)) (m := ks) fun a ha => (hkm a).mpr ((f.set a).mpr (List.mem_range.mp ha))
    rw [List.length_range] at h1 h2
    omega
  have hms : ∀ s, s < B.n → ms[s]? = some (ms.getD s 0) := fun s hs => by
    rw [List.getD_eq_getElem?_getD, List.getElem?_eq_getElem (by rw [h.len]; exact hs)]
    rfl
  have hfr : ∀ s, s < B.n → fr[s]? = some (fr.getD s 0) := fun s hs => by
    rw [List.getD_eq_getElem?_getD, List.getElem?_eq_getElem (by rw [f.len]; exact hs)]
    rfl
  have same : ∀ s t, s < B.n → t < B.n → fr.getD s 0 = fr.getD t 0 → ms.getD s 0 = ms.getD t 0 := fun s t hs ht e => congrArg Prod.fst ((f.key s t _ _ (hfr s hs) (hfr t ht)).mp e)
  have lowi : ∀ {l : List Nat} {x : Nat}, l.length = B.n → x ∈ l → l.idxOf x < B.n := fun {l x} hl hx => by
    rw [← hl]
    exact List.idxOf_lt_length_iff.mpr hx
  have back : ∀ s t, s < B.n → t < B.n → ms.getD s 0 = ms.getD t 0 → fr.getD s 0 = fr.getD t 0 := fun s t hs ht e => by
    refine Classical.byContradiction fun ne => ?_
    have ht' : fr.getD t 0 ∈ ks := (hkm _).mpr (List.mem_of_getElem? (hfr t ht))
    have cov : ∀ a ∈ os, a ∈ (ks.erase (fr.getD t 0)).map fun x => ms.getD (fr.idxOf x) 0 := fun a ha => by
      obtain ⟨u, hu⟩ := List.mem_iff_getElem?.mp ((hom a).mp ha)
      have hun : u < B.n := by rw [← h.len]; exact (List.getElem?_eq_some_iff.mp hu).1
      have key : ∀ v, v < B.n → ms.getD v 0 = a → fr.getD v 0 ≠ fr.getD t 0 → a ∈ (ks.erase (fr.getD t 0)).map fun x => ms.getD (fr.idxOf x) 0 := fun v hv e2 n2 => by
        have hm := List.mem_of_getElem? (hfr v hv)
        refine List.mem_map.mpr ⟨fr.getD v 0, (List.mem_erase_of_ne n2).mpr ((hkm _).mpr hm), ?_⟩
        rw [← e2]
        have hi := lowi f.len hm
        exact same _ _ hi hv (getD_of (idx_get hm))
      by_cases z : fr.getD u 0 = fr.getD t 0
      · refine key s hs ?_ ne
        rw [e, ← same u t hun ht z]
        exact getD_of hu
      · exact key u hun (getD_of hu) z
    have h1 := nodup_sub hos cov
    rw [List.length_map, List.length_erase_of_mem ht'] at h1
    have := List.length_pos_of_mem ht'
    omega
  refine ⟨⟨f.len, f.set, f.zero, (f.next h).told, fun s t x hs ht c hc => ?_⟩, hkl⟩
  have hsn : s < B.n := by rw [← f.len]; exact (List.getElem?_eq_some_iff.mp hs).1
  have htn : t < B.n := by rw [← f.len]; exact (List.getElem?_eq_some_iff.mp ht).1
  have e := congrArg Prod.snd ((f.key s t x x hs ht).mp rfl)
  refine back _ _ (ok.st_lt hsn hc) (ok.st_lt htn hc) ?_
  have h1 : ((B.rows.getD s []).map fun t => ms.getD t 0)[c]? = some (ms.getD (B.st s c) 0) := by rw [List.getElem?_map, row_get ok hsn hc]; rfl
  have h2 : ((B.rows.getD t []).map fun t => ms.getD t 0)[c]? = some (ms.getD (B.st t c) 0) := by rw [List.getElem?_map, row_get ok htn hc]; rfl
  have e : (B.rows.getD s []).map (fun t => ms.getD t 0) = (B.rows.getD t []).map fun t => ms.getD t 0 := e
  rw [e, h2] at h1
  exact (Option.some.inj h1).symm
theorem Least.trans {B1 B2 B3 : Tab} (h : Least k B1 B2) (h' : Least k B2 B3) : Least k B1 B3 := ⟨h'.ok, h'.all, Nat.le_trans h'.few h.few, fun w hw => (h'.acc w hw).trans (h.acc w hw)⟩
theorem Least.of_quo {B1 B2 B3 : Tab} {ms o : List Nat} {m : Nat} (h : Least k B1 B2) (hm : Marks k B2 ms m) (ho : Ordr k (B2.quo ms m) o) : Least k B1 ((B2.quo ms m).sel o) := by
  obtain ⟨q1, q2, q3⟩ := hm.quo h.ok
  have l := ho.least q1
  exact ⟨l.ok, l.all, Nat.le_trans l.few (by rw [q2]; exact Nat.le_trans hm.le h.few), fun w hw => (l.acc w hw).trans ((q3 w hw).trans (h.acc w hw))⟩
end
end K5
end
section
set_option maxRecDepth 100000
/-! The plain law: two tables side by side, the mirrored table. No program here. -/
namespace K5
section
variable {k : Nat} {B C : Tab}
/-! ### side by side -/
/-- the pairs so far: rows the finished ones, row the one at work -/
structure Pair (k : Nat) (B C : Tab) (ps : List (Nat × Nat)) (rows : List (List Nat)) (row : List Nat) : Prop where
  nd : ps.Nodup
  head : ps[0]? = some (0, 0)
  low : ∀ p ∈ ps, p.1 < B.n ∧ p.2 < C.n
  wide : ∀ r ∈ rows, r.length = k
  st : ∀ (i : Nat) r p, rows[i]? = some r → ps[i]? = some p → ∀ c q, r[c]? = some q → ps[q]? = some (B.st p.1 c, C.st p.2 c)
  now : ∀ p, ps[rows.length]? = some p → ∀ c q, row[c]? = some q → ps[q]? = some (B.st p.1 c, C.st p.2 c)
theorem Pair.start (hB : 0 < B.n) (hC : 0 < C.n) : Pair k B C [(0, 0)] [] [] :=
  ⟨List.pairwise_singleton _ _, rfl, fun p hp => by rw [List.mem_singleton] at hp; subst hp; exact ⟨hB, hC⟩, fun r hr => (nomatch hr), fun i r p h => by simp at h, fun p _ c q h => by simp at h⟩
theorem Pair.row {ps : List (Nat × Nat)} {rows : List (List Nat)} {row : List Nat} (h : Pair k B C ps rows row) (hl : row.length = k) : Pair k B C ps (rows ++ [row]) [] := by
  refine ⟨h.nd, h.head, h.low, fun r hr => ?_, fun i r p hr hp c q hq => ?_, fun p _ c q hq => by simp at hq⟩
  · rcases List.mem_append.mp hr with hr | hr
    · exact h.wide r hr
    · rw [List.mem_singleton] at hr
      exact hr ▸ hl
  · rcases Nat.lt_or_ge i rows.length with hi | hi
    · rw [List.getElem?_append_left hi] at hr
      exact h.st i r p hr hp c q hq
    · rw [List.getElem?_append_right hi] at hr
      obtain ⟨hz, e⟩ := List.getElem?_eq_some_iff.mp hr
      simp at hz e
      obtain rfl : i = rows.length := by omega
      subst e
      exact h.now p hp c q hq
theorem Pair.old {ps : List (Nat × Nat)} {rows : List (List Nat)} {row : List Nat} {p : Nat × Nat} {q : Nat} (h : Pair k B C ps rows row) (hp : ps[rows.length]? = some p) (hq : ps[q]? = some (B.st p.1 row.length, C.st p.2 row.length)) : Pair k B C ps rows (row ++ [q]) := by
  refine ⟨h.nd, h.head, h.low, h.wide, h.st, fun p' hp' c x hx => ?_⟩
  rw [hp] at hp'
  cases hp'
  rcases Nat.lt_or_ge c row.length with hc | hc
  · rw [List.getElem?_append_left hc] at hx
    exact h.now p hp c x hx
  · rw [List.getElem?_append_right hc] at hx
    obtain ⟨hz, e⟩ := List.getElem?_eq_some_iff.mp hx
    simp at hz e
    obtain rfl : c = row.length := by omega
    subst e
    exact hq
theorem Pair.new {ps : List (Nat × Nat)} {rows : List (List Nat)} {row : List Nat} {p : Nat × Nat} (h : Pair k B C ps rows row) (hp : ps[rows.length]? = some p) (hn : (B.st p.1 row.length, C.st p.2 row.length) ∉ ps) (l1 : B.st p.1 row.length < B.n) (l2 : C.st p.2 row.length < C.n) :
    Pair k B C (ps ++ [(B.st p.1 row.length, C.st p.2 row.length)]) rows row := by
  have up : ∀ {i : Nat} {x}, ps[i]? = some x → (ps ++ [(B.st p.1 row.length, C.st p.2 row.length)])[i]? = some x := fun {i x} e => by
    rw [List.getElem?_append_left (List.getElem?_eq_some_iff.mp e).1]
    exact e
  refine ⟨?_, up h.head, fun x hx => ?_, h.wide, fun i r x hr hx c q hq => ?_, fun x hx c q hq => ?_⟩
  · refine List.nodup_append.mpr ⟨h.nd, List.pairwise_singleton _ _, fun a ha b hb => ?_⟩
    rw [List.mem_singleton] at hb
    exact fun z => hn (hb ▸ z ▸ ha)
  · rcases List.mem_append.mp hx with hx | hx
    · exact h.low x hx
    · rw [List.mem_singleton] at hx
      subst hx
      exact ⟨l1, l2⟩
  · rcases Nat.lt_or_ge i ps.length with hi | hi
    · rw [List.getElem?_append_left hi] at hx
      exact up (h.st i r x hr hx c q hq)
    · have h1 := (List.getElem?_eq_some_iff.mp hr).1
      have h2 := (List.getElem?_eq_some_iff.mp hp).1
      omega
  · have h2 := (List.getElem?_eq_some_iff.mp hp).1
    rw [List.getElem?_append_left h2] at hx
    exact up (h.now x hx c q hq)
theorem nodup_lenP {n m : Nat} {l : List (Nat × Nat)} (nd : l.Nodup) (h : ∀ p ∈ l, p.1 < n ∧ p.2 < m) : l.length ≤ n * m := by
  have := nodup_len (n * m) (l.map fun p => p.1 * m + p.2) (by
    refine List.Pairwise.map _ ?_ (List.Pairwise.and_mem.mp nd)
    rintro ⟨a1, a2⟩ ⟨b1, b2⟩ ⟨ha, hb, ne⟩ e
    have h1 := (h _ ha).2
    have h2 := (h _ hb).2
    have e : a1 * m + a2 = b1 * m + b2 := e
    have h1 : a2 < m := h1
    have h2 : b2 < m := h2
    have e1 : a1 = b1 := by
      have d1 : (a1 * m + a2) / m = a1 := by rw [Nat.mul_comm, Nat.mul_add_div (by omega), Nat.div_eq_of_lt h1]; omega
      have d2 : (b1 * m + b2) / m = b1 := by rw [Nat.mul_comm, Nat.mul_add_div (by omega), Nat.div_eq_of_lt h2]; omega
      rw [← d1, e, d2]
    subst e1
    have e2 : a2 = b2 := by omega
    exact ne (by rw [e2])) fun a ha => by
      obtain ⟨p, hp, rfl⟩ := List.mem_map.mp ha
      obtain ⟨h1, h2⟩ := h p hp
      have : (p.1 + 1) * m ≤ n * m := Nat.mul_le_mul_right _ h1
      rw [Nat.succ_mul] at this
      omega
  rwa [List.length_map] at this
theorem Pair.len {ps : List (Nat × Nat)} {rows : List (List Nat)} {row : List Nat} (h : Pair k B C ps rows row) : ps.length ≤ B.n * C.n := nodup_lenP h.nd h.low
/-- the table of the pairs -/
def Tab.both (f : Bool → Bool → Bool) (B C : Tab) (ps : List (Nat × Nat)) (rows : List (List Nat)) : Tab := ⟨rows, ps.map fun p => f (B.at_ p.1) (C.at_ p.2)⟩
theorem Pair.both {ps : List (Nat × Nat)} {rows : List (List Nat)} {f : Bool → Bool → Bool} (h : Pair k B C ps rows []) (hl : rows.length = ps.length) :
    TabOk k (Tab.both f B C ps rows) ∧ ∀ w, Wd k w → (Tab.both f B C ps rows).acc w = f (B.acc w) (C.acc w) := by
  have hget : ∀ (i : Nat) p, ps[i]? = some p → ∃ r, rows[i]? = some r := fun i p hp => by
    have := (List.getElem?_eq_some_iff.mp hp).1
    exact ⟨_, List.getElem?_eq_getElem (by omega)⟩
  have hst : ∀ (i : Nat) p c, ps[i]? = some p → c < k → ps[(Tab.both f B C ps rows).st i c]? = some (B.st p.1 c, C.st p.2 c) := fun i p c hp hc => by
    obtain ⟨r, hr⟩ := hget i p hp
    have hw := h.wide r (List.mem_of_getElem? hr)
    have e : (Tab.both f B C ps rows).st i c = r[c]'(by omega) := by
      show (rows.getD i []).getD c 0 = _
      rw [getD_of hr]
      exact getD_of (List.getElem?_eq_getElem _)
    rw [e]
    exact h.st i r p hr hp c _ (List.getElem?_eq_getElem _)
  have hrun : ∀ (w : List Nat) (i : Nat) p, ps[i]? = some p → Wd k w → ps[(Tab.both f B C ps rows).run i w]? = some (B.run p.1 w, C.run p.2 w) := fun w => by
    induction w with
    | nil => exact fun i p hp _ => hp
    | cons c w ih => exact fun i p hp hw => ih _ _ (hst i p c hp (hw c List.mem_cons_self)) fun b hb => hw b (List.mem_cons_of_mem _ hb)
  refine ⟨⟨?_, ?_, h.wide, fun r hr s hs => ?_⟩, fun w hw => ?_⟩
  · show 0 < rows.length
    rw [hl]
    exact (List.getElem?_eq_some_iff.mp h.head).1
  · show (ps.map _).length = rows.length
    rw [List.length_map, hl]
  · obtain ⟨i, hi⟩ := List.mem_iff_getElem?.mp hr
    obtain ⟨c, hc⟩ := List.mem_iff_getElem?.mp hs
    have hil : i < rows.length := (List.getElem?_eq_some_iff.mp hi).1
    have := (List.getElem?_eq_some_iff.mp (h.st i r _ hi (List.getElem?_eq_getElem (by omega)) c s hc)).1
    show s < rows.length
    omega
  · unfold Tab.acc
    exact getD_of (by
      show (ps.map _)[_]? = _
      rw [List.getElem?_map, hrun w 0 _ h.head hw]
      rfl)
/-! ### from behind -/
/-- the states that lead by c into S -/
def pre (B : Tab) (S : List Nat) (c : Nat) : List Nat := (List.range B.n).filter fun s => decide (B.st s c ∈ S)
def subs (n : Nat) (S : List Nat) : Prop := S = (List.range n).filter fun s => decide (s ∈ S)
structure Mir (k : Nat) (B : Tab) (ss : List (List Nat)) (rows : List (List Nat)) (row : List Nat) : Prop where
  nd : ss.Nodup
  head : ss[0]? = some ((List.range B.n).filter B.at_)
  sub : ∀ S ∈ ss, subs B.n S
  wide : ∀ r ∈ rows, r.length = k
  st : ∀ (i : Nat) r S, rows[i]? = some r → ss[i]? = some S → ∀ c q, r[c]? = some q → ss[q]? = some (pre B S c)
  now : ∀ S, ss[rows.length]? = some S → ∀ c q, row[c]? = some q → ss[q]? = some (pre B S c)
theorem subs_filter {n : Nat} {p : Nat → Bool} : subs n ((List.range n).filter p) := by
  show _ = _
  refine List.filter_congr fun s hs => ?_
  rw [List.mem_range] at hs
  cases e : p s with
  | true => exact (decide_eq_true (List.mem_filter.mpr ⟨List.mem_range.mpr hs, e⟩)).symm
  | false => exact (decide_eq_false fun z => by rw [(List.mem_filter.mp z).2] at e; cases e).symm
theorem Mir.start : Mir k B [(List.range B.n).filter B.at_] [] [] :=
  ⟨List.pairwise_singleton _ _, rfl, fun p hp => by rw [List.mem_singleton] at hp; subst hp; exact subs_filter, fun r hr => (nomatch hr), fun i r p h => by simp at h, fun p _ c q h => by simp at h⟩
theorem Mir.row {ss rows : List (List Nat)} {row : List Nat} (h : Mir k B ss rows row) (hl : row.length = k) : Mir k B ss (rows ++ [row]) [] := by
  refine ⟨h.nd, h.head, h.sub, fun r hr => ?_, fun i r p hr hp c q hq => ?_, fun p _ c q hq => by simp at hq⟩
  · rcases List.mem_append.mp hr with hr | hr
    · exact h.wide r hr
    · rw [List.mem_singleton] at hr
      exact hr ▸ hl
  · rcases Nat.lt_or_ge i rows.length with hi | hi
    · rw [List.getElem?_append_left hi] at hr
      exact h.st i r p hr hp c q hq
    · rw [List.getElem?_append_right hi] at hr
      obtain ⟨hz, e⟩ := List.getElem?_eq_some_iff.mp hr
      simp at hz e
      obtain rfl : i = rows.length := by omega
      subst e
      exact h.now p hp c q hq
theorem Mir.old {ss rows : List (List Nat)} {row S : List Nat} {q : Nat} (h : Mir k B ss rows row) (hp : ss[rows.length]? = some S) (hq : ss[q]? = some (pre B S row.length)) : Mir k B ss rows (row ++ [q]) := by
  refine ⟨h.nd, h.head, h.sub, h.wide, h.st, fun p' hp' c x hx => ?_⟩
  rw [hp] at hp'
  cases hp'
  rcases Nat.lt_or_ge c row.length with hc | hc
  · rw [List.getElem?_append_left hc] at hx
    exact h.now S hp c x hx
  · rw [List.getElem?_append_right hc] at hx
    obtain ⟨hz, e⟩ := List.getElem?_eq_some_iff.mp hx
    simp at hz e
    obtain rfl : c = row.length := by omega
    subst e
    exact hq
theorem Mir.new {ss rows : List (List Nat)} {row S : List Nat} (h : Mir k B ss rows row) (hp : ss[rows.length]? = some S) (hn : pre B S row.length ∉ ss) : Mir k B (ss ++ [pre B S row.length]) rows row := by
  have up : ∀ {i : Nat} {x}, ss[i]? = some x → (ss ++ [pre B S row.length])[i]? = some x := fun {i x} e => by
    rw [List.getElem?_append_left (List.getElem?_eq_some_iff.mp e).1]
    exact e
  refine ⟨?_, up h.head, fun x hx => ?_, h.wide, fun i r x hr hx c q hq => ?_, fun x hx c q hq => ?_⟩
  · refine List.nodup_append.mpr ⟨h.nd, List.pairwise_singleton _ _, fun a ha b hb => ?_⟩
    rw [List.mem_singleton] at hb
    exact fun z => hn (hb ▸ z ▸ ha)
  · rcases List.mem_append.mp hx with hx | hx
    · exact h.sub x hx
    · rw [List.mem_singleton] at hx
      subst hx
      exact subs_filter
  · rcases Nat.lt_or_ge i ss.length with hi | hi
    · rw [List.getElem?_append_left hi] at hx
      exact up (h.st i r x hr hx c q hq)
    · have h1 := (List.getElem?_eq_some_iff.mp hr).1
      have h2 := (List.getElem?_eq_some_iff.mp hp).1
      omega
  · have h2 := (List.getElem?_eq_some_iff.mp hp).1
    rw [List.getElem?_append_left h2] at hx
    exact up (h.now x hx c q hq)
def enc4 (S : List Nat) : Nat := (decide (0 ∈ S)).toNat + 2 * (decide (1 ∈ S)).toNat + 4 * (decide (2 ∈ S)).toNat + 8 * (decide (3 ∈ S)).toNat
theorem enc4_lt (S : List Nat) : enc4 S < 16 := by
  unfold enc4
  have h0 := Bool.toNat_le (decide (0 ∈ S))
  have h1 := Bool.toNat_le (decide (1 ∈ S))
  have h2 := Bool.toNat_le (decide (2 ∈ S))
  have h3 := Bool.toNat_le (decide (3 ∈ S))
  omega
theorem toNat_inj {a b : Bool} (h : a.toNat = b.toNat) : a = b := by cases a <;> cases b <;> first | rfl | cases h
theorem enc4_inj {n : Nat} {S S' : List Nat} (hn : n ≤ 4) (h : subs n S) (h' : subs n S') (e : enc4 S = enc4 S') : S = S' := by
  unfold enc4 at e
  have h0 := Bool.toNat_le (decide (0 ∈ S))
  have h1 := Bool.toNat_le (decide (1 ∈ S))
  have h2 := Bool.toNat_le (decide (2 ∈ S))
  have h3 := Bool.toNat_le (decide (3 ∈ S))
  have g0 := Bool.toNat_le (decide (0 ∈ S'))
  have g1 := Bool.toNat_le (decide (1 ∈ S'))
  have g2 := Bool.toNat_le (decide (2 ∈ S'))
  have g3 := Bool.toNat_le (decide (3 ∈ S'))
  have e0 := toNat_inj (show (decide (0 ∈ S)).toNat = (decide (0 ∈ S')).toNat by omega)
  have e1 := toNat_inj (show (decide (1 ∈ S)).toNat = (decide (1 ∈ S')).toNat by omega)
  have e2 := toNat_inj (show (decide (2 ∈ S)).toNat = (decide (2 ∈ S')).toNat by omega)
  have e3 := toNat_inj (show (decide (3 ∈ S)).toNat = (decide (3 ∈ S')).toNat by omega)
  rw [h, h']
  refine List.filter_congr fun s hs => ?_
  rw [List.mem_range] at hs
  have : s = 0 ∨ s = 1 ∨ s = 2 ∨ s = 3 := by omega
  rcases this with rfl | rfl | rfl | rfl
  · exact e0
  · exact e1
  · exact e2
  · exact e3
theorem Mir.len {ss rows : List (List Nat)} {row : List Nat} (hn : B.n ≤ 4) (h : Mir k B ss rows row) : ss.length ≤ 16 := by
  have := nodup_len 16 (ss.map enc4) (by
    refine List.Pairwise.map _ ?_ (List.Pairwise.and_mem.mp h.nd)
    rintro a b ⟨ha, hb, ne⟩ e
    exact ne (enc4_inj hn (h.sub a ha) (h.sub b hb) e)) fun a ha => by
      obtain ⟨p, hp, rfl⟩ := List.mem_map.mp ha
      exact enc4_lt p
  rwa [List.length_map] at this
/-- the mirrored table -/
def Tab.mir (ss rows : List (List Nat)) : Tab := ⟨rows, ss.map fun S => decide (0 ∈ S)⟩
theorem Mir.mir {ss rows : List (List Nat)} (ok : TabOk k B) (h : Mir k B ss rows []) (hl : rows.length = ss.length) :
    TabOk k (Tab.mir ss rows) ∧ ∀ w, Wd k w → (Tab.mir ss rows).acc w = B.acc w.reverse := by
  have hget : ∀ (i : Nat) p, ss[i]? = some p → ∃ r, rows[i]? = some r := fun i p hp => by
    have := (List.getElem?_eq_some_iff.mp hp).1
    exact ⟨_, List.getElem?_eq_getElem (by omega)⟩
  have hst : ∀ (i : Nat) S c, ss[i]? = some S → c < k → ss[(Tab.mir ss rows).st i c]? = some (pre B S c) := fun i p c hp hc => by
    obtain ⟨r, hr⟩ := hget i p hp
    have hw := h.wide r (List.mem_of_getElem? hr)
    have e : (Tab.mir ss rows).st i c = r[c]'(by omega) := by
      show (rows.getD i []).getD c 0 = _
      rw [getD_of hr]
      exact getD_of (List.getElem?_eq_getElem _)
    rw [e]
    exact h.st i r p hr hp c _ (List.getElem?_eq_getElem _)
  have hrun : ∀ n (w : List Nat), w.length = n → Wd k w → ss[(Tab.mir ss rows).run 0 w]? = some ((List.range B.n).filter fun s => B.at_ (B.run s w.reverse)) := fun n => by
    induction n with
    | zero =>
      intro w hw _
      rw [List.length_eq_zero_iff] at hw
      subst hw
      exact h.head
    | succ n ih =>
      intro w hl hw
      have hne : w ≠ [] := fun z => by rw [z] at hl; cases hl
      have e : w = w.dropLast ++ [w.getLast hne] := (List.dropLast_concat_getLast hne).symm
      rw [e] at hw ⊢
      rw [Tab.run_app]
      have hc := hw.right _ (List.mem_singleton.mpr rfl)
      have := hst _ _ _ (ih _ (by rw [List.length_dropLast]; omega) hw.left) hc
      refine this.trans ?_
      congr 1
      refine List.filter_congr fun s hs => ?_
      rw [List.mem_range] at hs
      rw [List.reverse_append]
      show decide (B.st s (w.getLast hne) ∈ _) = B.at_ (B.run (B.st s (w.getLast hne)) w.dropLast.reverse)
      have := ok.st_lt hs hc
      cases e2 : B.at_ (B.run (B.st s (w.getLast hne)) w.dropLast.reverse) with
      | true => exact decide_eq_true (List.mem_filter.mpr ⟨List.mem_range.mpr this, e2⟩)
      | false => exact decide_eq_false fun z => by rw [(List.mem_filter.mp z).2] at e2; cases e2
  refine ⟨⟨?_, ?_, h.wide, fun r hr s hs => ?_⟩, fun w hw => ?_⟩
  · show 0 < rows.length
    rw [hl]
    exact (List.getElem?_eq_some_iff.mp h.head).1
  · show (ss.map _).length = rows.length
    rw [List.length_map, hl]
  · obtain ⟨i, hi⟩ := List.mem_iff_getElem?.mp hr
    obtain ⟨c, hc⟩ := List.mem_iff_getElem?.mp hs
    have hil : i < rows.length := (List.getElem?_eq_some_iff.mp hi).1
    have := (List.getElem?_eq_some_iff.mp (h.st i r _ hi (List.getElem?_eq_getElem (by omega)) c s hc)).1
    show s < rows.length
    omega
  · unfold Tab.acc
    refine (getD_of (l := ss.map _) (by
      rw [List.getElem?_map, hrun _ w rfl hw]
      rfl)).trans ?_
    cases e2 : B.at_ (B.run 0 w.reverse) with
    | true => exact decide_eq_true (List.mem_filter.mpr ⟨List.mem_range.mpr ok.pos, e2⟩)
    | false => exact decide_eq_false fun z => by rw [(List.mem_filter.mp z).2] at e2; cases e2
end
end K5
end
section
set_option maxRecDepth 100000
set_option maxHeartbeats 2000000
/-! small rules for what follows; the objects of the program by what they mean -/
namespace K5
open PySem PySem.Spec PyProof.Rows L2
/-! ### rooms -/
theorem hu64 {A : Around} {k : Nat} (hr : Room k A) : A.units + 64 < cLine := hr.units
section
variable {P : Program} {K : PySem.W.Frag} {mg : Str → Option Value} (T : Tx P K mg)
include T
theorem Tx.iMOST_CELLS : ∃ t, mg "MOST_CELLS" = some (.int 4 t) := T.int _ (List.mem_of_getElem? (i := 0) rfl)
theorem Tx.iMOST_RULES : ∃ t, mg "MOST_RULES" = some (.int 40 t) := T.int _ (List.mem_of_getElem? (i := 1) rfl)
theorem Tx.iMOST_STATES : ∃ t, mg "MOST_STATES" = some (.int 64 t) := T.int _ (List.mem_of_getElem? (i := 2) rfl)
theorem Tx.iMOST_WRITTEN : ∃ t, mg "MOST_WRITTEN" = some (.int 12 t) := T.int _ (List.mem_of_getElem? (i := 3) rfl)
theorem r_Values : ClX.CRead K (He.ga K "Values") (.type "type") := T.cread _ (List.mem_of_getElem? (i := 0) rfl)
theorem r_Line : ClX.CRead K (He.ga K "Line") (.type "type") := T.cread _ (List.mem_of_getElem? (i := 1) rfl)
theorem r_Book : ClX.CRead K (He.ga K "Book") (.type "type") := T.cread _ (List.mem_of_getElem? (i := 2) rfl)
theorem cm_Line_sure : ClX.CMet K (He.ga K "Line") (.type "type") "sure" (prA K (He.ga K "Line") "sure") (cmG K "Line" "sure") := T.cmet _ (List.mem_of_getElem? (i := 0) rfl)
theorem cm_Book_of : ClX.CMet K (He.ga K "Book") (.type "type") "of" (prA K (He.ga K "Book") "of") (cmG K "Book" "of") := T.cmet _ (List.mem_of_getElem? (i := 1) rfl)
theorem v_Values_MOST : ∃ u, ClX.CVal K (He.ga K "Values") (.type "type") "MOST" (.int 4) u := T.cval _ (List.mem_of_getElem? (i := 0) rfl)
theorem v_Line_LONGEST : ∃ u, ClX.CVal K (He.ga K "Line") (.type "type") "LONGEST" (.int 4001) u := T.cval _ (List.mem_of_getElem? (i := 1) rfl)
end
/-! ### comprehensions whose parts' readings name the written part -/
section
variable {X : Cx} {elt tg iter tg1 iter1 : Expr} {ifs ifs1 : List Expr} {scope : Scope} {own : List (Str × Nat)} {pos : Pos} {wi : TI}
abbrev Blk5 (α : Type) : Type := Shared → Hp → Addr → List (Str × Addr) → List Addr → α
theorem pe_lcD {g : Blk5 TG} {tt : Blk5 TT} {te : Blk5 TE} (s0 : Shared) (H0 : Hp) (hc : X.calm = true) (hN : X.N.Nodup) (hi : PI X tg iter wi) (ok : BlkOk X.N X.env.scope scope own)
    (hg : ∀ (s : Shared) (H : Hp) (C : Addr) (cl : List (Str × Addr)) (fp : List Addr), PG (X.blk s H scope (compEnvC scope cl C X.env) fp) tg (g s H C cl fp)) (ht : ∀ (s : Shared) (H : Hp) (C : Addr) (cl : List (Str × Addr)) (fp : List Addr), PTs (X.blk s H scope (compEnvC scope cl C X.env) fp) ifs (tt s H C cl fp))
    (he : ∀ (s : Shared) (H : Hp) (C : Addr) (cl : List (Str × Addr)) (fp : List Addr), PE (X.blk s H scope (compEnvC scope cl C X.env) fp) elt (te s H C cl fp)) (eg : ∀ s H C cl fp, g s H C cl fp = g s0 H0 0 [] [] := by intros; rfl) (et : ∀ s H C cl fp, tt s H C cl fp = tt s0 H0 0 [] [] := by intros; rfl)
    (ee : ∀ s H C cl fp, te s H C cl fp = te s0 H0 0 [] [] := by intros; rfl) (hs : ∀ x, foldedSetIterable iter X.env x = pure x := by intro _; rfl) :
    PE X (.ListComp elt [⟨tg, iter, ifs, 0⟩] scope pos) (tLc wi (g s0 H0 0 [] []) (tt s0 H0 0 [] []) (te s0 H0 0 [] []) (own.map (·.2))) :=
  pe_lc hc hN hi ok (fun s H C cl fp => eg s H C cl fp ▸ hg s H C cl fp) (fun s H C cl fp => et s H C cl fp ▸ ht s H C cl fp) (fun s H C cl fp => ee s H C cl fp ▸ he s H C cl fp) hs
theorem ps_setLcD {i : Nat} {y : Str} {py spos : Pos} {g : Blk5 TG} {tt : Blk5 TT} {te : Blk5 TE} (s0 : Shared) (H0 : Hp) (hc : X.calm = true) (hN : X.N.Nodup) (hy : X.N[i]? = some y) (hyl : X.env.scope.names.lookup y = some .local)
    (hsw : swapsWith (.ListComp elt [⟨tg, iter, ifs, 0⟩] scope pos) (some (.Name y py)) spos.line X.env = pure true) (hi : PI X tg iter wi) (ok : BlkOk X.N X.env.scope scope own)
    (hg : ∀ (s : Shared) (H : Hp) (C : Addr) (cl : List (Str × Addr)) (fp : List Addr), PG (X.blk s H scope (compEnvC scope cl C X.env) fp) tg (g s H C cl fp)) (ht : ∀ (s : Shared) (H : Hp) (C : Addr) (cl : List (Str × Addr)) (fp : List Addr), PTs (X.blk s H scope (compEnvC scope cl C X.env) fp) ifs (tt s H C cl fp))
    (he : ∀ (s : Shared) (H : Hp) (C : Addr) (cl : List (Str × Addr)) (fp : List Addr), PE (X.blk s H scope (compEnvC scope cl C X.env) fp) elt (te s H C cl fp)) (eg : ∀ s H C cl fp, g s H C cl fp = g s0 H0 0 [] [] := by intros; rfl) (et : ∀ s H C cl fp, tt s H C cl fp = tt s0 H0 0 [] [] := by intros; rfl)
    (ee : ∀ s H C cl fp, te s H C cl fp = te s0 H0 0 [] [] := by intros; rfl) (hs : ∀ x, foldedSetIterable iter X.env x = pure x := by intro _; rfl) :
    PS X (.Assign [.Name y py] (.ListComp elt [⟨tg, iter, ifs, 0⟩] scope pos) spos) (tAsg (tLc wi (g s0 H0 0 [] []) (tt s0 H0 0 [] []) (te s0 H0 0 [] []) (own.map (·.2))) (gName i)) :=
  ps_setLc hc hN hy hyl hsw hi ok (fun s H C cl fp => eg s H C cl fp ▸ hg s H C cl fp) (fun s H C cl fp => et s H C cl fp ▸ ht s H C cl fp) (fun s H C cl fp => ee s H C cl fp ▸ he s H C cl fp) hs
theorem pe_lc2D {vs1 : List Nat} {g g1 : Blk5 TG} {tt tt1 : Blk5 TT} {wi1 : Blk5 TI} {te : Blk5 TE} (s0 : Shared) (H0 : Hp) (hc : X.calm = true) (hN : X.N.Nodup) (hi : PI X tg iter wi) (ok : BlkOk X.N X.env.scope scope own) (hv : ∀ i ∈ vs1, i ∈ own.map (·.2))
    (hg : ∀ (s : Shared) (H : Hp) (C : Addr) (cl : List (Str × Addr)) (fp : List Addr), PG (X.blk s H scope (compEnvC scope cl C X.env) fp) tg (g s H C cl fp)) (ht : ∀ (s : Shared) (H : Hp) (C : Addr) (cl : List (Str × Addr)) (fp : List Addr), PTs (X.blk s H scope (compEnvC scope cl C X.env) fp) ifs (tt s H C cl fp))
    (hi1 : ∀ (s : Shared) (H : Hp) (C : Addr) (cl : List (Str × Addr)) (fp : List Addr), PI (X.blk s H scope (compEnvC scope cl C X.env) fp) tg1 iter1 (wi1 s H C cl fp))
    (hg1 : ∀ (s : Shared) (H : Hp) (C : Addr) (cl : List (Str × Addr)) (fp : List Addr), PG (X.blk s H scope (compEnvC scope cl C X.env) fp) tg1 (g1 s H C cl fp)) (ht1 : ∀ (s : Shared) (H : Hp) (C : Addr) (cl : List (Str × Addr)) (fp : List Addr), PTs (X.blk s H scope (compEnvC scope cl C X.env) fp) ifs1 (tt1 s H C cl fp))
    (he : ∀ (s : Shared) (H : Hp) (C : Addr) (cl : List (Str × Addr)) (fp : List Addr), PE (X.blk s H scope (compEnvC scope cl C X.env) fp) elt (te s H C cl fp)) (eg : ∀ s H C cl fp, g s H C cl fp = g s0 H0 0 [] [] := by intros; rfl) (et : ∀ s H C cl fp, tt s H C cl fp = tt s0 H0 0 [] [] := by intros; rfl)
    (ei1 : ∀ s H C cl fp, wi1 s H C cl fp = wi1 s0 H0 0 [] [] := by intros; rfl) (eg1 : ∀ s H C cl fp, g1 s H C cl fp = g1 s0 H0 0 [] [] := by intros; rfl) (et1 : ∀ s H C cl fp, tt1 s H C cl fp = tt1 s0 H0 0 [] [] := by intros; rfl)
    (ee : ∀ s H C cl fp, te s H C cl fp = te s0 H0 0 [] [] := by intros; rfl) (hs : ∀ x, foldedSetIterable iter X.env x = pure x := by intro _; rfl) (hs1 : ∀ env x, foldedSetIterable iter1 env x = pure x := by intro _ _; rfl) :
    PE X (.ListComp elt [⟨tg, iter, ifs, 0⟩, ⟨tg1, iter1, ifs1, 0⟩] scope pos) (tLc2 wi (g s0 H0 0 [] []) (tt s0 H0 0 [] []) (wi1 s0 H0 0 [] []) (g1 s0 H0 0 [] []) (tt1 s0 H0 0 [] []) (te s0 H0 0 [] []) (own.map (·.2)) vs1) :=
  pe_lc2 hc hN hi ok hv (fun s H C cl fp => eg s H C cl fp ▸ hg s H C cl fp) (fun s H C cl fp => et s H C cl fp ▸ ht s H C cl fp) (fun s H C cl fp => ei1 s H C cl fp ▸ hi1 s H C cl fp) (fun s H C cl fp => eg1 s H C cl fp ▸ hg1 s H C cl fp) (fun s H C cl fp => et1 s H C cl fp ▸ ht1 s H C cl fp) (fun s H C cl fp => ee s H C cl fp ▸ he s H C cl fp) hs hs1
end
/-! ### what holds of a read-only walk: lists made in a comprehension -/
section
variable {J : It} {n : Nat} {G : Hp → Prop} {Y : Nat → Hp → V → Hp → Prop} {g : TG} {tt : TT} {te : TE} {vs : List Nat} {σ : L2.St} {H1 : Hp} {D : Addr} {Qd : Hp → Prop}
abbrev LcGoal (J : It) (g : TG) (tt : TT) (te : TE) (vs : List Nat) (σ : L2.St) (H1 : Hp) (D : Addr) (Qd : Hp → Prop) : Prop :=
  ∃ W : Nat → Nat → Hp → Prop, (∃ m, W 0 m (upd H1 D (.lst []))) ∧ ∀ i m H, W i m H →
      (J.stop i H ∧ Qd H) ∨ (J.go i H ∧ ∃ Nx : Hp → Prop, (∀ H', Nx H' → ∃ m', m' < m ∧ W (i + 1) m' H') ∧ ∀ x H', J.yld i H x H' → g x (wipe σ vs) H' fun σ2 H2 => wipe σ2 vs = wipe σ vs ∧ tt σ2 H2 fun b H3 =>
        if b = true then te σ2 H3 fun y H4 => ∃ acc, H4 D = some (.lst acc) ∧ acc.length < sizeLine ∧ Nx (upd H4 D (.lst (acc ++ [y]))) else Nx H3)
/-- instances and tuples stand -/
def fixO : HO → Bool
  | .ins _ _ _ => true
  | .tup _ => true
  | _ => false
def SameN (H H' : Hp) : Prop := ∀ a o, H a = some o → fixO o = true → H' a = some o
/-- all but p stands -/
def SameP (p : Addr) (H H' : Hp) : Prop := ∀ a o, a ≠ p → H a = some o → H' a = some o
theorem srf (H : Hp) : Same H H := fun _ _ e => e
theorem str {H H' H'' : Hp} (h : Same H H') (h' : Same H' H'') : Same H H'' := fun a u e => h' a u (h a u e)
theorem sup {H H' : Hp} {p : Addr} {o : HO} (s : Same H H') (h : H' p = none) : Same H (upd H' p o) := str s (Same.new h)
theorem uo {H : Hp} {a p : Addr} {o u : HO} (e : H a = some o) (h : H p = none) : upd H p u a = some o := by rw [upd_ne (ne_of_none e h)]; exact e
theorem un' {H : Hp} {a p : Addr} {o : Option HO} {u : HO} (n : a ≠ p) (e : H a = o) : upd H p u a = o := by rw [upd_ne n]; exact e
theorem refs_of : ∀ {acc : List V} {R : Nat → Addr → Prop}, (∀ (i : Nat) v, acc[i]? = some v → ∃ c, v = V.ref c ∧ R i c) → ∃ cs : List Addr, acc = cs.map V.ref ∧ ∀ (i : Nat) c, cs[i]? = some c → R i c
  | [], R, _ => ⟨[], rfl, fun i c e => by simp at e⟩
  | v :: acc, R, h => by
    obtain ⟨c, rfl, hc⟩ := h 0 v rfl
    obtain ⟨cs, rfl, hr⟩ := refs_of (acc := acc) (R := fun i => R (i + 1)) fun i v e => h (i + 1) v e
    refine ⟨c :: cs, rfl, fun i d e => ?_⟩
    cases i with
    | zero => cases e; exact hc
    | succ i => exact hr i d e
theorem ins_len {H : Hp} {a C D dx dy : Addr} {fs gs : List (Str × V)} (e : H a = some (.ins C dx fs)) (e' : H a = some (.ins D dy gs)) : fs.length = gs.length := by
  rw [e] at e'
  injection e' with e'
  injection e' with _ _ e'
  rw [e']
theorem snone {H H' : Hp} {r : Addr} (s : Same H H') (h : H' r = none) : H r = none := by
  cases e : H r with
  | none => rfl
  | some o => rw [s _ _ e] at h; cases h
theorem snr (H : Hp) : SameN H H := fun _ _ e _ => e
theorem snt {H H' H'' : Hp} (h : SameN H H') (h' : SameN H' H'') : SameN H H'' := fun a u e f => h' a u (h a u e f) f
theorem sn {H H' : Hp} (h : Same H H') : SameN H H' := fun a u e _ => h a u e
theorem snp {p : Addr} {H H' : Hp} (h : SameP p H H') (f : ∀ o, H p = some o → fixO o = false) : SameN H H' := fun a u e fx => h a u (fun z => by rw [z] at e; rw [f _ e] at fx; cases fx) e
theorem spr (p : Addr) (H : Hp) : SameP p H H := fun _ _ _ e => e
theorem spt {p : Addr} {H H' H'' : Hp} (h : SameP p H H') (h' : SameP p H' H'') : SameP p H H'' := fun a u n e => h' a u n (h a u n e)
theorem sps {p : Addr} {H H' : Hp} (h : Same H H') : SameP p H H' := fun a u _ e => h a u e
theorem spu {p : Addr} {H : Hp} {o : HO} : SameP p H (upd H p o) := fun a u n e => by rw [upd_ne n]; exact e
theorem snu {H H' : Hp} {p : Addr} {o : HO} (s : SameN H H') (h : ∀ o, H' p = some o → fixO o = false) : SameN H (upd H' p o) := fun a u e f => by
  have e' := s a u e f
  rw [upd_ne fun z => by rw [z] at e'; rw [h _ e'] at f; cases f]
  exact e'
theorem sn_new {H H' : Hp} {p : Addr} {o : HO} (s : SameN H H') (h : H' p = none) : SameN H (upd H' p o) := snu s fun o e => by rw [h] at e; cases e
/-- each item gives one value, what stood stands -/
theorem lc_each (w : Walk J n G Y) (R : Nat → V → Hp → Prop) (mono : ∀ i v H H', SameN H H' → R i v H → R i v H') (h0 : H1 D = none) (hn : n < sizeLine) (hG : ∀ H, Same H1 H → G H) (hY : ∀ i x H H', Y i H x H' → Same H H')
    (hs : ∀ i x H H', i < n → Same H1 H → Same H1 H' → Y i H x H' → ∀ k : Hp → Prop, (∀ H4 y, Same H' H4 → R i y H4 → ∃ acc, H4 D = some (.lst acc) ∧ acc.length < sizeLine ∧ k (upd H4 D (.lst (acc ++ [y])))) →
      g x (wipe σ vs) H' fun σ2 H2 => wipe σ2 vs = wipe σ vs ∧ te σ2 H2 fun y H4 => ∃ acc, H4 D = some (.lst acc) ∧ acc.length < sizeLine ∧ k (upd H4 D (.lst (acc ++ [y]))))
    (hd : ∀ H acc, Same H1 H → H D = some (.lst acc) → acc.length = n → (∀ i v, acc[i]? = some v → R i v H) → Qd H) : LcGoal J g tYes te vs σ H1 D Qd := by
  have sD : ∀ {H H' : Hp} {o}, Same H1 H → Same H H' → Same H1 (upd H' D o) := fun {H H' o} s s' a u e => by
    rw [upd_ne (ne_of_none e h0)]
    exact s' _ _ (s _ _ e)
  refine lc_it w (fun i H => ∃ acc, H D = some (.lst acc) ∧ Same H1 H ∧ acc.length = i ∧ ∀ j v, acc[j]? = some v → R j v H) ⟨[], upd_same, Same.new h0, rfl, fun j v e => by simp at e⟩ ?_ ?_ ?_
  · rintro i H _ ⟨acc, hD, s, _⟩
    exact hG _ s
  · rintro i x H H' hi ⟨acc, hD, s, hl, hR⟩ y
    have sY := hY _ _ _ _ y
    simp only [tYes, ↓reduceIte]
    refine hs i x _ _ hi s (str s sY) y (fun H => ∃ acc, H D = some (.lst acc) ∧ Same H1 H ∧ acc.length = i + 1 ∧ ∀ j v, acc[j]? = some v → R j v H) fun H4 v s4 r4 => ?_
    have hD4 : H4 D = some (.lst acc) := s4 _ _ (sY _ _ hD)
    refine ⟨acc, hD4, by omega, acc ++ [v], upd_same, sD s (str sY s4), by simp [hl], fun j u e => ?_⟩
    have m : SameN H4 (upd H4 D (.lst (acc ++ [v]))) := snu (snr _) fun o e => by rw [hD4] at e; cases e; rfl
    rcases Nat.lt_or_ge j acc.length with hj | hj
    · rw [List.getElem?_append_left hj] at e
      exact mono _ _ _ _ (snt (sn (str sY s4)) m) (hR j u e)
    · rw [List.getElem?_append_right hj] at e
      obtain ⟨z, e⟩ := List.getElem?_eq_some_iff.mp e
      simp at e z
      have ej : j = i := by omega
      subst e ej
      exact mono _ _ _ _ m r4
  · rintro H ⟨acc, hD, s, hl, hR⟩
    exact hd _ acc s hD hl hR
/-- each item is taken or left, what stood stands -/
theorem lc_filt (w : Walk J n G Y) (f : Nat → V) (c : Nat → Bool) (h0 : H1 D = none) (hn : n < sizeLine) (hG : ∀ H, Same H1 H → G H) (hY : ∀ i x H H', Y i H x H' → Same H H')
    (hs : ∀ i x H H', i < n → Same H1 H → Same H1 H' → Y i H x H' → ∀ k : Hp → Prop, (∀ H4, c i = true → Same H' H4 → ∃ acc, H4 D = some (.lst acc) ∧ acc.length < sizeLine ∧ k (upd H4 D (.lst (acc ++ [f i])))) → (∀ H4, c i = false → Same H' H4 → k H4) →
      g x (wipe σ vs) H' fun σ2 H2 => wipe σ2 vs = wipe σ vs ∧ tt σ2 H2 fun b H3 => if b = true then te σ2 H3 fun y H4 => ∃ acc, H4 D = some (.lst acc) ∧ acc.length < sizeLine ∧ k (upd H4 D (.lst (acc ++ [y]))) else k H3)
    (hd : ∀ H, Same H1 H → H D = some (.lst (((List.range n).filter c).map f)) → Qd H) : LcGoal J g tt te vs σ H1 D Qd := by
  have sD : ∀ {H H' : Hp} {o}, Same H1 H → Same H H' → Same H1 (upd H' D o) := fun {H H' o} s s' a u e => by
    rw [upd_ne (ne_of_none e h0)]
    exact s' _ _ (s _ _ e)
  have step : ∀ i, ((List.range (i + 1)).filter c).map f = ((List.range i).filter c).map f ++ (if c i = true then [f i] else []) := fun i => by
    rw [List.range_succ, List.filter_append, List.map_append]
    congr 1
    by_cases h : c i = true
    · simp [h]
    · simp [h]
  have small : ∀ i, (((List.range i).filter c).map f).length ≤ i := fun i => by
    rw [List.length_map]
    exact Nat.le_trans (List.length_filter_le _ _) (Nat.le_of_eq List.length_range)
  refine lc_it w (fun i H => H D = some (.lst (((List.range i).filter c).map f)) ∧ Same H1 H) ⟨upd_same, Same.new h0⟩ ?_ ?_ ?_
  · rintro i H _ ⟨hD, s⟩
    exact hG _ s
  · rintro i x H H' hi ⟨hD, s⟩ y
    have sY := hY _ _ _ _ y
    refine hs i x _ _ hi s (str s sY) y _ (fun H4 hc s4 => ?_) fun H4 hc s4 => ?_
    · have hD4 := s4 _ _ (sY _ _ hD)
      have := small i
      refine ⟨_, hD4, by omega, ?_, sD s (str sY s4)⟩
      rw [upd_same, step, if_pos hc]
    · refine ⟨?_, str s (str sY s4)⟩
      rw [step, if_neg (by rw [hc]; decide), List.append_nil]
      exact s4 _ _ (sY _ _ hD)
  · rintro H ⟨hD, s⟩
    exact hd _ s hD
end
section
variable {J : It} {n : Nat} {G : Hp → Prop} {Y : Nat → Hp → V → Hp → Prop} {g g1 : TG} {te : TE} {wi1 : TI} {vs vs1 : List Nat} {σ σ2 : L2.St} {H1 : Hp} {D : Addr} {Qd : Hp → Prop}
/-- two for .. in one comprehension: the outer walk -/
theorem lc2_out (w : Walk J n G Y) (F : Nat → List V) (m : Nat) (h0 : H1 D = none) (hn : n * m < sizeLine) (hF : ∀ i, i < n → (F i).length ≤ m) (hG : ∀ H, Same H1 H → G H) (hY : ∀ i x H H', Y i H x H' → Same H H')
    (hs : ∀ i x H H', i < n → Same H1 H → Same H1 H' → Y i H x H' → ∀ (Nx : Hp → Prop) (accs : List V), H' D = some (.lst accs) → accs.length + m < sizeLine → (∀ H5, SameP D H' H5 → H5 D = some (.lst (accs ++ F i)) → Nx H5) →
      g x (wipe σ vs) H' fun σ2 H2 => wipe σ2 vs = wipe σ vs ∧ wi1 σ2 H2 fun J1 H4 => ∃ W1 : Nat → Nat → Hp → Prop, (∃ m, W1 0 m H4) ∧ ∀ j k H, W1 j k H →
        (J1.stop j H ∧ Nx H) ∨ (J1.go j H ∧ ∃ Nx1 : Hp → Prop, (∀ H', Nx1 H' → ∃ k', k' < k ∧ W1 (j + 1) k' H') ∧ ∀ x H', J1.yld j H x H' → g1 x (wipe σ2 vs1) H' fun σ3 H5 => wipe σ3 vs1 = wipe σ2 vs1 ∧ tYes σ3 H5 fun b H6 =>
          if b = true then te σ3 H6 fun y H7 => ∃ acc, H7 D = some (.lst acc) ∧ acc.length < sizeLine ∧ Nx1 (upd H7 D (.lst (acc ++ [y]))) else Nx1 H6))
    (hd : ∀ H, Same H1 H → H D = some (.lst ((List.range n).flatMap F)) → Qd H) :
    ∃ W : Nat → Nat → Hp → Prop, (∃ m, W 0 m (upd H1 D (.lst []))) ∧ ∀ i m H, W i m H →
      (J.stop i H ∧ Qd H) ∨ (J.go i H ∧ ∃ Nx : Hp → Prop, (∀ H', Nx H' → ∃ m', m' < m ∧ W (i + 1) m' H') ∧ ∀ x H', J.yld i H x H' → g x (wipe σ vs) H' fun σ2 H2 => wipe σ2 vs = wipe σ vs ∧ tYes σ2 H2 fun b H3 =>
        if b = true then wi1 σ2 H3 fun J1 H4 => ∃ W1 : Nat → Nat → Hp → Prop, (∃ m, W1 0 m H4) ∧ ∀ j k H, W1 j k H →
          (J1.stop j H ∧ Nx H) ∨ (J1.go j H ∧ ∃ Nx1 : Hp → Prop, (∀ H', Nx1 H' → ∃ k', k' < k ∧ W1 (j + 1) k' H') ∧ ∀ x H', J1.yld j H x H' → g1 x (wipe σ2 vs1) H' fun σ3 H5 => wipe σ3 vs1 = wipe σ2 vs1 ∧ tYes σ3 H5 fun b H6 =>
            if b = true then te σ3 H6 fun y H7 => ∃ acc, H7 D = some (.lst acc) ∧ acc.length < sizeLine ∧ Nx1 (upd H7 D (.lst (acc ++ [y]))) else Nx1 H6)
        else Nx H3) := by
  have len : ∀ i, i ≤ n → ((List.range i).flatMap F).length ≤ i * m := fun i => by
    induction i with
    | zero => intro _; simp
    | succ i ih =>
      intro hi
      rw [List.range_succ, List.flatMap_append, List.length_append, Nat.succ_mul]
      have := ih (by omega)
      have h2 := hF i (by omega)
      have e3 : (List.flatMap F [i]) = F i := by simp
      rw [e3]
      omega
  refine ⟨fun i k H => i ≤ n ∧ k = n - i ∧ H D = some (.lst ((List.range i).flatMap F)) ∧ Same H1 H, ⟨n, Nat.zero_le _, rfl, upd_same, Same.new h0⟩, ?_⟩
  rintro i k H ⟨hi, rfl, hD, s⟩
  rcases Nat.lt_or_ge i n with h | h
  · refine .inr ⟨w.goes i H h (hG _ s), fun H' => H' D = some (.lst ((List.range (i + 1)).flatMap F)) ∧ Same H1 H', fun H' ⟨a, b⟩ => ⟨n - (i + 1), by omega, by omega, rfl, a, b⟩, fun x H' y => ?_⟩
    have y' := w.yields i H x H' h (hG _ s) y
    have sY := hY _ _ _ _ y'
    simp only [tYes, ↓reduceIte]
    have hl := len i hi
    have hnm : i * m + m ≤ n * m := by rw [← Nat.succ_mul]; exact Nat.mul_le_mul_right _ h
    have := hs i x H H' h s (str s sY) y' (fun H' => H' D = some (.lst ((List.range (i + 1)).flatMap F)) ∧ Same H1 H') _ (sY _ _ hD) (by omega) fun H5 s5 e5 => ⟨by rw [e5, List.range_succ, List.flatMap_append]; simp, fun a u e => s5 _ _ (ne_of_none e h0) (str s sY _ _ e)⟩
    simp only [tYes, ↓reduceIte] at this
    exact this
  · obtain rfl : i = n := by omega
    exact .inl ⟨w.stops H (hG _ s), hd H s hD⟩
/-- the inner walk -/
theorem lc2_in {J1 : It} {m : Nat} {G1 : Hp → Prop} {Y1 : Nat → Hp → V → Hp → Prop} {Nx : Hp → Prop} {H4 : Hp} {accs : List V} (w : Walk J1 m G1 Y1) (f : Nat → V) (hD : H4 D = some (.lst accs)) (hl : accs.length + m < sizeLine)
    (hG : ∀ H, SameP D H4 H → G1 H) (hY : ∀ i x H H', Y1 i H x H' → Same H H')
    (hs : ∀ j x H H', j < m → SameP D H4 H → SameP D H4 H' → Y1 j H x H' → ∀ k : Hp → Prop, (∀ H7, Same H' H7 → ∃ acc, H7 D = some (.lst acc) ∧ acc.length < sizeLine ∧ k (upd H7 D (.lst (acc ++ [f j])))) →
      g1 x (wipe σ2 vs1) H' fun σ3 H5 => wipe σ3 vs1 = wipe σ2 vs1 ∧ te σ3 H5 fun y H7 => ∃ acc, H7 D = some (.lst acc) ∧ acc.length < sizeLine ∧ k (upd H7 D (.lst (acc ++ [y]))))
    (hd : ∀ H5, SameP D H4 H5 → H5 D = some (.lst (accs ++ (List.range m).map f)) → Nx H5) :
    ∃ W1 : Nat → Nat → Hp → Prop, (∃ m, W1 0 m H4) ∧ ∀ j k H, W1 j k H →
        (J1.stop j H ∧ Nx H) ∨ (J1.go j H ∧ ∃ Nx1 : Hp → Prop, (∀ H', Nx1 H' → ∃ k', k' < k ∧ W1 (j + 1) k' H') ∧ ∀ x H', J1.yld j H x H' → g1 x (wipe σ2 vs1) H' fun σ3 H5 => wipe σ3 vs1 = wipe σ2 vs1 ∧ tYes σ3 H5 fun b H6 =>
          if b = true then te σ3 H6 fun y H7 => ∃ acc, H7 D = some (.lst acc) ∧ acc.length < sizeLine ∧ Nx1 (upd H7 D (.lst (acc ++ [y]))) else Nx1 H6) := by
  refine ⟨fun j k H => j ≤ m ∧ k = m - j ∧ H D = some (.lst (accs ++ (List.range j).map f)) ∧ SameP D H4 H, ⟨m, Nat.zero_le _, rfl, by simpa using hD, spr _ _⟩, ?_⟩
  rintro j k H ⟨hj, rfl, hD', s⟩
  rcases Nat.lt_or_ge j m with h | h
  · refine .inr ⟨w.goes j H h (hG _ s), fun H' => H' D = some (.lst (accs ++ (List.range (j + 1)).map f)) ∧ SameP D H4 H', fun H' ⟨a, b⟩ => ⟨m - (j + 1), by omega, by omega, rfl, a, b⟩, fun x H' y => ?_⟩
    have y' := w.yields j H x H' h (hG _ s) y
    have sY := hY _ _ _ _ y'
    simp only [tYes, ↓reduceIte]
    refine hs j x H H' h s (spt s (sps sY)) y' (fun H' => H' D = some (.lst (accs ++ (List.range (j + 1)).map f)) ∧ SameP D H4 H') fun H7 s7 => ⟨_, s7 _ _ (sY _ _ hD'), by simp; omega, ?_, spt (spt s (sps (str sY s7))) spu⟩
    rw [upd_same, List.range_succ, List.map_append, List.append_assoc]
    rfl
  · obtain rfl : j = m := by omega
    exact .inl ⟨w.stops H (hG _ s), hd H s hD'⟩
end
theorem yat_same {xs : List V} : ∀ i x H H', YAt xs i H x H' → Same H H' := fun _ _ _ _ y => by
  rw [y.1]
  exact srf _
theorem yfn_same {f : Nat → V} : ∀ i x H H', YFn f i H x H' → Same H H' := fun _ _ _ _ y => by
  rw [y.1]
  exact srf _
theorem ystr_same {z : Str} : ∀ (i : Nat) (v : V) (H H' : Hp), (H' = H ∧ ∃ c, z.cps[i]? = some c ∧ v = V.str ⟨#[c]⟩) → Same H H' := fun _ _ _ _ y => by
  rw [y.1]
  exact srf _
theorem ypair_same {xs ys : Nat → Option V} : ∀ i x H H', YPair xs ys i H x H' → Same H H' := fun _ _ _ _ ⟨T, _, _, _, h, e, _⟩ => by
  rw [e]
  exact Same.new h
theorem yenum_same {f : Nat → V → Prop} : ∀ (i : Nat) (v : V) (H H' : Hp), (∃ T x, v = V.ref T ∧ H T = none ∧ H' = upd H T (.tup [.int (i : Nat), x]) ∧ f i x) → Same H H' := fun _ _ _ _ ⟨T, _, _, h, e, _⟩ => by
  rw [e]
  exact Same.new h
/-! ### kinds of values -/
section
variable {K : PySem.W.Frag} {H : Hp} {P : Program} {mg : Str → Option Value}
theorem kit_self {t : Value} : PySem.W.kitOne K t t = some true := by
  unfold PySem.W.kitOne
  rw [if_pos (by simp)]
theorem ty_int {i : Int} : TyX K H (.int i) (.type "int") := .base (.int i)
theorem ty_str {z : Str} : TyX K H (.str z) (.type "str") := .base (.str z)
theorem ty_bl {b : Bool} : TyX K H (.bl b) (.type "bool") := .base (.bl b)
theorem ty_lst {a : Addr} {xs : List V} (h : H a = some (.lst xs)) : TyX K H (.ref a) (.type "list") := .base (.lst h)
theorem ty_tup {a : Addr} {xs : List V} (h : H a = some (.tup xs)) : TyX K H (.ref a) (.type "tuple") := .base (.tup h)
theorem ty_ins {a C dx : Addr} {fs : List (Str × V)} (h : H a = some (.ins C dx fs)) (c : Cls K C) (i : InsOk K C) : TyX K H (.ref a) (.ref C) := .base (.ins h c i.ha i.hn i.htk i.hm)
end
theorem few {α : Type} {l : List α} {n : Nat} (h : Nat.ble (l.length + 1) n = true := by rfl) : l.length < n := Nat.le_of_ble_eq_true h
theorem ifb {b c : Bool} {A B : Prop} (e : b = c) (ht : c = true → A) (hf : c = false → B) : if b = true then A else B := by
  subst e
  cases h : b with
  | true => exact iteT (ht h)
  | false => exact iteF (hf h)
theorem ifp {b : Bool} {p : Prop} {A B : Prop} (e : b = true ↔ p) (ht : p → A) (hf : ¬ p → B) : if b = true then A else B := by
  cases h : b with
  | true => exact iteT (ht (e.mp h))
  | false => exact iteF (hf fun z => by rw [e.mpr z] at h; cases h)
theorem dec_iff {p : Prop} [Decidable p] : decide p = true ↔ p := decide_eq_true_iff
/-- bool(text) -/
theorem call_boolTx {X : Cx} : CallR X (.type "bool") (fun xs H Q => ∃ z : Str, xs = [.str z] ∧ z.length ≤ sizeLine ∧ Q (.bl ((z.length : Int) != 0)) H) := by
  intro pins s σ H xs us Q I r h
  obtain ⟨z, rfl, hz, q⟩ := h
  obtain ⟨u, rfl, ru⟩ := vals1 r
  obtain ⟨t, e⟩ := (show ∃ t, u = Value.str z t from ru)
  subst e
  refine call_bool_of fun A' _ => PySem.P.truthy_str (by have := line63; omega) ⟨.bl _, H, I.tok _, rfl, q⟩
/-! ### objects -/
section
variable {K : PySem.W.Frag} {H H' : Hp} {P : Program} {mg : Str → Option Value} {a va : Addr} {ls : List Nat} {n : Nat}
def VaO (K : PySem.W.Frag) (H : Hp) (a : Addr) (ls : List Nat) : Prop := ∃ dx, H a = some (.ins (He.ga K "Values") dx [("letters", .str (Sx ls))])
def CeO (K : PySem.W.Frag) (H : Hp) (a va : Addr) (ls : List Nat) (n : Nat) : Prop := ∃ dx, H a = some (.ins (He.ga K "Cell") dx [("alphabet", .ref va), ("number", .int (n : Int)), ("letters", .str (Sx (sel ls n)))])
theorem VaO.mono (s : SameN H H') (h : VaO K H a ls) : VaO K H' a ls := let ⟨dx, e⟩ := h; ⟨dx, s _ _ e rfl⟩
theorem CeO.mono (s : SameN H H') (h : CeO K H a va ls n) : CeO K H' a va ls n := let ⟨dx, e⟩ := h; ⟨dx, s _ _ e rfl⟩
theorem VaO.ne {x : Addr} {o : HO} (h : VaO K H a ls) (n : a ≠ x) : VaO K (upd H x o) a ls := let ⟨dx, e⟩ := h; ⟨dx, by rw [upd_ne n]; exact e⟩
theorem VaO.sp {x : Addr} (h : VaO K H a ls) (s : SameP x H H') (n : a ≠ x) : VaO K H' a ls := let ⟨dx, e⟩ := h; ⟨dx, s _ _ n e⟩
theorem CeO.sp {x : Addr} (h : CeO K H a va ls n) (s : SameP x H H') (e : a ≠ x) : CeO K H' a va ls n := let ⟨dx, e'⟩ := h; ⟨dx, s _ _ e e'⟩
theorem VaO.letters (T : Tx P K mg) (h : VaO K H a ls) : Fld K H a "letters" (.str (Sx ls)) := let ⟨dx, e⟩ := h; ⟨_, dx, _, e, c_Values T, o_Values_letters T, rfl⟩
theorem CeO.alphabet (T : Tx P K mg) (h : CeO K H a va ls n) : Fld K H a "alphabet" (.ref va) := let ⟨dx, e⟩ := h; ⟨_, dx, _, e, c_Cell T, o_Cell_alphabet T, rfl⟩
theorem CeO.number (T : Tx P K mg) (h : CeO K H a va ls n) : Fld K H a "number" (.int (n : Int)) := let ⟨dx, e⟩ := h; ⟨_, dx, _, e, c_Cell T, o_Cell_number T, rfl⟩
theorem CeO.letters (T : Tx P K mg) (h : CeO K H a va ls n) : Fld K H a "letters" (.str (Sx (sel ls n))) := let ⟨dx, e⟩ := h; ⟨_, dx, _, e, c_Cell T, o_Cell_letters T, rfl⟩
theorem dun_of {C dx g : Addr} {fs : List (Str × V)} {m : Str} (e : H a = some (.ins C dx fs)) (h : Meth K C m g) : Dun K H a m g := ⟨C, dx, fs, e, h.at_, h.fn⟩
theorem mth_of {C dx g : Addr} {fs : List (Str × V)} {m : Str} (e : H a = some (.ins C dx fs)) (c : Cls K C) (h : Meth K C m g) (l : fs.lookup m = none) : Mth K H a m g := ⟨C, dx, fs, e, c, h, l⟩
theorem CeO.bool (T : Tx P K mg) (h : CeO K H a va ls n) : Dun K H a "__bool__" (a_Cell_bool K) := let ⟨dx, e⟩ := h; dun_of e (h_Cell_bool T)
theorem CeO.cont (T : Tx P K mg) (h : CeO K H a va ls n) : Dun K H a "__contains__" (a_Cell_contains K) := let ⟨dx, e⟩ := h; dun_of e (h_Cell_contains T)
theorem VaO.cont (T : Tx P K mg) (h : VaO K H a ls) : Dun K H a "__contains__" (a_Values_contains K) := let ⟨dx, e⟩ := h; dun_of e (h_Values_contains T)
theorem VaO.len (T : Tx P K mg) (h : VaO K H a ls) : Dun K H a "__len__" (a_Values_len K) := let ⟨dx, e⟩ := h; dun_of e (h_Values_len T)
theorem VaO.eq {b : Addr} {ms : List Nat} (T : Tx P K mg) (h : VaO K H a ls) (h' : VaO K H b ms) : DunEq K H a b (a_Values_eq K) := let ⟨dx, e⟩ := h; let ⟨dy, e'⟩ := h'; ⟨_, dx, _, dy, _, e, e', (h_Values_eq T).at_, (h_Values_eq T).fn⟩
theorem VaO.ty (T : Tx P K mg) (h : VaO K H a ls) : TyX K H (.ref a) (.ref (He.ga K "Values")) := let ⟨dx, e⟩ := h; ty_ins e (c_Values T) (T.ins _ (List.mem_of_getElem? (i := 0) rfl))
theorem CeO.ty (T : Tx P K mg) (h : CeO K H a va ls n) : TyX K H (.ref a) (.ref (He.ga K "Cell")) := let ⟨dx, e⟩ := h; ty_ins e (c_Cell T) (T.ins _ (List.mem_of_getElem? (i := 1) rfl))
theorem kit_cell_str (T : Tx P K mg) : PySem.W.kitOne K (.type "str") (.ref (He.ga K "Cell")) = some false := T.kit
theorem VaO.mcell (T : Tx P K mg) (h : VaO K H a ls) : Mth K H a "cell" (a_Values_cell K) := let ⟨dx, e⟩ := h; mth_of e (c_Values T) (h_Values_cell T) rfl
end
end K5
end
section
set_option maxRecDepth 100000
set_option maxHeartbeats 2000000
/-! the values: promises and walks -/
namespace K5
open PySem PySem.Spec PyProof.Rows L2
section
variable {P : Program} {K : PySem.W.Frag} {mg : Str → Option Value}
def sp_is_whole (K : PySem.W.Frag) : Sp := fun vs H Q E => ∃ a l m : Int, vs = [.int a, .int l, .int m] ∧ Q (.bl (decide (l ≤ a ∧ a ≤ m))) H
theorem F_is_whole {w : World} {base : Heap} (T : Tx P K mg) : FnR P w K mg base CX0 1 (a_is_whole K) (sp_is_whole K) := by
  refine fnr (f_is_whole T) sc_is_whole (fun vs H Q E h => by obtain ⟨_, _, _, rfl, _⟩ := h; rfl) (fun _ _ _ _ _ _ us hl => match us, hl with | [_, _, _], _ => rfl) fun cdv A outer s H vs Q E hr h => ?_
  refine ⟨_, (pss_one (ps_ret (pe_and (pe_callB call_isi rfl (e_isinstance T) boot_isinstance (pa_cons (pv 0) (pa_cons (pe_bltn (v := .ty "int") rfl (e_int T) boot_int rfl) pa_nil))) (pe_and (pe_not (pe_callB call_isi rfl (e_isinstance T) boot_isinstance (pa_cons (pv 0) (pa_cons (pe_bltn (v := .ty "bool") rfl (e_bool T) boot_bool rfl) pa_nil)))) (pe_one (pe_chain op_le op_le (pv 1) (pv 0) (pv 2))))))), ?_⟩
  obtain ⟨a, l, m, rfl, q⟩ := h
  refine ⟨_, rfl, _, _, _, _, _, rfl, .ty _, ty_int, kit_self, ⟨true, rfl, iteT ⟨_, rfl, _, _, _, _, _, rfl, .ty _, ty_int, kit_ty (by decide +kernel), ⟨false, rfl, true, rfl, iteT ⟨_, rfl, _, rfl, _, _, rfl, rfl, _, rfl, ?_⟩⟩⟩⟩⟩
  by_cases h1 : l ≤ a
  · rw [decide_eq_true h1]
    refine iteT ⟨_, rfl, _, _, rfl, rfl, ?_⟩
    have e : decide (a ≤ m) = decide (l ≤ a ∧ a ≤ m) := by simp [h1]
    have q' : Q (.bl (decide (a ≤ m))) H := by rw [e]; exact q
    exact q'
  · rw [decide_eq_false h1]
    refine iteF ?_
    have e : false = decide (l ≤ a ∧ a ≤ m) := by simp [h1]
    have q' : Q (.bl false) H := by rw [e]; exact q
    exact q'
theorem cg_is_whole {w : World} {base : Heap} (T : Tx P K mg) : Cg P w K mg base 1 "is_whole" (sp_is_whole K) := .fn (g_is_whole T) (k_is_whole T) (F_is_whole T)
theorem alph_has : ∀ c, 97 ≤ c → c ≤ 122 → decide (c ∈ alphS.cps.toList) = true := by
  intro c h1 h2
  have : ∀ d, d < 26 → decide (d + 97 ∈ alphS.cps.toList) = true := by decide +kernel
  have h := this (c - 97) (by omega)
  rwa [show c - 97 + 97 = c by omega] at h
theorem all_true {xs : List V} {n : Nat} (h : ∀ (i : Nat) v, xs[i]? = some v → v = V.bl true) (hl : xs.length = n) : xs = (List.replicate n true).map V.bl := by
  refine List.ext_getElem? fun i => ?_
  rw [List.getElem?_map, List.getElem?_replicate]
  by_cases hi : i < n
  · rw [if_pos hi, List.getElem?_eq_getElem (by omega)]
    exact congrArg some (h i _ (List.getElem?_eq_getElem (by omega)))
  · rw [if_neg hi, List.getElem?_eq_none (by omega)]
    rfl
theorem all_rep (n : Nat) : (List.replicate n true).all id = true := by simp
def sp_is_letters (K : PySem.W.Frag) : Sp := fun vs H Q E => ∃ ls : List Nat, vs = [.str (Sx ls), .int 2, .int 4] ∧ LetOk ls ∧ ∀ H', Same H H' → Q (.bl true) H'
theorem F_is_letters {w : World} {base : Heap} (T : Tx P K mg) : FnR P w K mg base CX0 1 (a_is_letters K) (sp_is_letters K) := by
  refine fnr (f_is_letters T) sc_is_letters (fun vs H Q E h => by obtain ⟨_, rfl, _⟩ := h; rfl) (fun _ _ _ _ _ _ us hl => match us, hl with | [_, _, _], _ => rfl) fun cdv A outer s H vs Q E hr h => ?_
  obtain ⟨_, iALPHABET⟩ := T.alph
  refine ⟨_, (pss_cons (ps_if (PW.pt (pw_or (pt_not (pt_val (pe_callB call_isi rfl (e_isinstance T) boot_isinstance (pa_cons (pv 0) (pa_cons (pe_bltn (v := .ty "str") rfl (e_str T) boot_str rfl) pa_nil))))) (pw_or (pt_not (pt_chain op_le op_le (pv 1) (pe_callB call_len_str rfl (e_len T) boot_len (pa_cons (pv 0) pa_nil)) (pv 2))) (pw_or1 (pt_cmpR op_lt (pe_callB call_lenSet rfl (e_len T) boot_len (pa_cons (pe_callTy (cr_setTx rfl) rfl (e_set T) boot_set (pa_cons (pv 0) pa_nil)) pa_nil)) (pe_callB call_len_str rfl (e_len T) boot_len (pa_cons (pv 0) pa_nil)) (by first | rfl | exact nomark _ | exact nobehind _ (by decide) (by decide))))))) (pss_one (ps_ret pe_bl)) pss_nil)
  (pss_one (ps_ret (pe_callB (cr_all rfl) rfl (e_all T) boot_all (pa_cons (pe_lcD (own := [("letter", 3)]) s H rfl sc_is_letters.nd (pi_str (pv 0)) (blkOk_by (N := n_is_letters) (sc := defScope s_is_letters) (by decide +kernel)) (fun _ _ _ _ _ => (pg_name (i := 3) sc_is_letters.nd rfl (Or.inl rfl))) (fun _ _ _ _ _ => pts_nil) (fun _ _ _ _ _ => (pe_cmpR op_in_sign (pv 3) (pe_glob (v := .str alphS) rfl iALPHABET ⟨_, rfl⟩) (by first | rfl | exact nomark _ | exact nobehind _ (by decide) (by decide))))) pa_nil))))), ?_⟩
  obtain ⟨ls, rfl, ok, q⟩ := h
  have h2 := ok.two
  have h4 := ok.four
  have sz : (4 : Nat) ≤ sizeLine := by decide
  refine ⟨_, rfl, _, _, _, _, _, rfl, .ty _, ty_str, kit_self, true, rfl, iteF ⟨_, rfl, _, rfl, _, rfl, by rw [sx_len]; omega, _, _, rfl, rfl, _, rfl, ?_⟩⟩
  rw [sx_len, decide_eq_true (by omega)]
  refine iteT ⟨_, rfl, _, _, rfl, rfl, _, rfl, ?_⟩
  rw [decide_eq_true (by omega)]
  refine iteF ⟨_, rfl, _, rfl, sx_ascii ok.low, by rw [sx_list]; exact ok.nd, by rw [sx_len]; omega, fun p hp => ⟨_, _, rfl, by rw [sx_len]; omega, .inr upd_same, _, rfl, _, rfl, by rw [sx_len]; omega, _, _, rfl, rfl, _, rfl, ?_⟩⟩
  rw [sx_len, decide_eq_false (by omega)]
  refine iteF ⟨_, rfl, _, rfl, fun D hD => lc_each walk_str (fun _ v _ => v = .bl true) (fun _ _ _ _ _ h => h) hD (by rw [sx_size]; exact small1000 (by omega)) (fun _ _ => trivial) ystr_same (fun i x H1 H2 hi s1 s2 y k kk => ?_) fun H2 acc s hD2 hl hR => ?_⟩
  · obtain ⟨rfl, c, hc, rfl⟩ := y
    refine ⟨rfl, ⟨_, rfl, _, _, rfl, rfl, ?_⟩⟩
    refine kk _ _ (srf _) ?_
    rw [sx_get] at hc
    have := ok.low c (List.mem_of_getElem? hc)
    rw [alph_has c this.1 this.2]
  · rw [sx_size] at hl
    refine ⟨_, List.replicate ls.length true, rfl, SqL.of ?_, ?_⟩
    · rw [hD2, all_true hR hl]
    · rw [all_rep]
      exact q _ (str (Same.new hp) s)
theorem cg_is_letters {w : World} {base : Heap} (T : Tx P K mg) : Cg P w K mg base 1 "is_letters" (sp_is_letters K) := .fn (g_is_letters T) (k_is_letters T) (F_is_letters T)
def sp_is_cell_string (K : PySem.W.Frag) : Sp := fun vs H Q E => ∃ (ls : List Nat) (n : Nat), vs = [.str (Sx ls), .str (Sx (sel ls n))] ∧ LetOk ls ∧ ∀ H', Same H H' → Q (.bl true) H'
theorem F_is_cell_string {w : World} {base : Heap} (T : Tx P K mg) : FnR P w K mg base CX0 1 (a_is_cell_string K) (sp_is_cell_string K) := by
  refine fnr (f_is_cell_string T) sc_is_cell_string (fun vs H Q E h => by obtain ⟨_, _, rfl, _⟩ := h; rfl) (fun _ _ _ _ _ _ us hl => match us, hl with | [_, _], _ => rfl) fun cdv A outer s H vs Q E hr h => ?_
  refine ⟨_, (pss_cons (ps_if (PW.pt (pw_or (pt_not (pt_val (pe_callB call_isi rfl (e_isinstance T) boot_isinstance (pa_cons (pv 1) (pa_cons (pe_bltn (v := .ty "str") rfl (e_str T) boot_str rfl) pa_nil))))) (pw_or1 (pt_cmpR op_lt (pe_callB call_lenSet rfl (e_len T) boot_len (pa_cons (pe_callTy (cr_setTx rfl) rfl (e_set T) boot_set (pa_cons (pv 1) pa_nil)) pa_nil)) (pe_callB call_len_str rfl (e_len T) boot_len (pa_cons (pv 1) pa_nil)) (by first | rfl | exact nomark _ | exact nobehind _ (by decide) (by decide)))))) (pss_one (ps_ret pe_bl)) pss_nil)
  (pss_one (ps_ret (pe_callB (cr_all rfl) rfl (e_all T) boot_all (pa_cons (pe_lcD (own := [("letter", 2)]) s H rfl sc_is_cell_string.nd (pi_str (pv 1)) (blkOk_by (N := n_is_cell_string) (sc := defScope s_is_cell_string) (by decide +kernel)) (fun _ _ _ _ _ => (pg_name (i := 2) sc_is_cell_string.nd rfl (Or.inl rfl))) (fun _ _ _ _ _ => pts_nil) (fun _ _ _ _ _ => (pe_cmpR op_in_sign (pv 2) (pv 0) (by first | rfl | exact nomark _ | exact nobehind _ (by decide) (by decide))))) pa_nil))))), ?_⟩
  obtain ⟨ls, n, rfl, ok, q⟩ := h
  have h2 := ok.two
  have h4 := ok.four
  have hl := sel_len (ls := ls) (n := n)
  have sz : (4 : Nat) ≤ sizeLine := by decide
  refine ⟨_, rfl, _, _, _, _, _, rfl, .ty _, ty_str, kit_self, true, rfl, iteF ⟨_, rfl, _, rfl, sx_ascii fun c hc => ok.low c (sel_sub hc), by rw [sx_list]; exact sel_nodup ok.nd, by rw [sx_len]; omega, fun p hp => ⟨_, _, rfl, by rw [sx_len]; omega, .inr upd_same, _, rfl, _, rfl, by rw [sx_len]; omega, _, _, rfl, rfl, _, rfl, ?_⟩⟩⟩
  rw [sx_len, decide_eq_false (by omega)]
  refine iteF ⟨_, rfl, _, rfl, fun D hD => lc_each walk_str (fun _ v _ => v = .bl true) (fun _ _ _ _ _ h => h) hD (by rw [sx_size]; exact small1000 (by omega)) (fun _ _ => trivial) ystr_same (fun i x H1 H2 hi s1 s2 y k kk => ?_) fun H2 acc s hD2 hl hR => ?_⟩
  · obtain ⟨rfl, c, hc, rfl⟩ := y
    refine ⟨rfl, ⟨_, rfl, _, rfl, _, _, rfl, rfl, ?_⟩⟩
    refine kk _ _ (srf _) ?_
    rw [sx_get] at hc
    rw [sx_list, decide_eq_true (sel_sub (List.mem_of_getElem? hc))]
  · refine ⟨_, List.replicate (Sx (sel ls n)).cps.size true, rfl, SqL.of ?_, ?_⟩
    · rw [hD2, all_true hR hl]
    · rw [all_rep]
      exact q _ (str (Same.new hp) s)
theorem cg_is_cell_string {w : World} {base : Heap} (T : Tx P K mg) : Cg P w K mg base 1 "is_cell_string" (sp_is_cell_string K) := .fn (g_is_cell_string T) (k_is_cell_string T) (F_is_cell_string T)
def sp_Cell_init (K : PySem.W.Frag) : Sp := fun vs H Q E => ∃ (x va dx : Addr) (ls : List Nat) (n : Nat), vs = [.ref x, .ref va, .int (n : Int)] ∧ VaO K H va ls ∧ ls.length ≤ 4 ∧ va ≠ x ∧ H x = some (.ins (He.ga K "Cell") dx []) ∧
  ∀ H', SameP x H H' → H' x = some (.ins (He.ga K "Cell") dx [("alphabet", .ref va), ("number", .int (n : Int)), ("letters", .str (Sx (sel ls n)))]) → Q .non H'
theorem F_Cell_init {w : World} {base : Heap} (T : Tx P K mg) : FnR P w K mg base CX0 1 (a_Cell_init K) (sp_Cell_init K) := by
  refine fnr (f_Cell_init T) sc_Cell_init (fun vs H Q E h => by obtain ⟨_, _, _, _, _, rfl, _⟩ := h; rfl) (fun _ _ _ _ _ _ us hl => match us, hl with | [_, _, _], _ => rfl) fun cdv A outer s H vs Q E hr h => ?_
  refine ⟨_, (pss_cons (ps_fld (pv 0) (pv 1) rfl)
  (pss_cons (ps_fld (pv 0) (pv 2) rfl)
  (pss_one (ps_fld (pv 0) (pe_join pe_str (pe_lcD (own := [("at", 3), ("letter", 4)]) s H rfl sc_Cell_init.nd (pi_enumS rfl (e_enumerate T) (pa_cons (pe_f (pv 1)) pa_nil)) (blkOk_by (N := n_Cell_init) (sc := defScope s_Cell_init) (by decide +kernel)) (fun _ _ _ _ _ => (pg_tup rfl (pgs_cons (pg_name (i := 3) sc_Cell_init.nd rfl (Or.inl rfl)) (pgs_cons (pg_name (i := 4) sc_Cell_init.nd rfl (Or.inl rfl)) pgs_nil)))) (fun _ _ _ _ _ => (pts_one (pt_cmpR op_eq (pe_op op_and (pe_op op_shr (pv 2) (pv 3)) pe_int) pe_int (by first | rfl | exact nomark _ | exact nobehind _ (by decide) (by decide))))) (fun _ _ _ _ _ => (pv 4)))) rfl)))), ?_⟩
  obtain ⟨x, va, dx, ls, n, rfl, hv, h4, hne, hx, q⟩ := h
  have hc := c_Cell T
  refine ⟨_, rfl, _, rfl, _, _, _, _, rfl, hx, hc, o_Cell_alphabet T, few, _, rfl, _, rfl, _, _, _, _, rfl, upd_same, hc, o_Cell_number T, few, ⟨_, rfl⟩, ?_⟩
  refine ⟨_, rfl, va, _, rfl, ((hv.ne hne).ne hne).letters T, _, rfl, ?_⟩
  refine fun D hD => lc_filt walk_enumE (fun i => .str ⟨#[ls.getD i 0]⟩) n.testBit hD (by rw [sx_size]; exact small1000 (by omega)) (fun _ _ => trivial) yenum_same (fun i v H1 H2 hi s1 s2 y k ky kn => ?_) fun H2 s hD2 => ?_
  · obtain ⟨t, x1, rfl, ht, rfl, c, hc, rfl⟩ := y
    have e : ls.getD i 0 = c := by
      rw [sx_get] at hc
      rw [List.getD_eq_getElem?_getD, hc]
      rfl
    refine ⟨_, _, rfl, SqT.of upd_same, rfl, _, _, rfl, _, _, rfl, rfl, rfl, _, rfl, _, rfl, _, _, rfl, rfl, Int.natCast_nonneg _, _, _, rfl, rfl, rfl, _, rfl, ?_⟩
    refine ifb (c := n.testBit i) ?_ (fun hb => ?_) fun hb => kn _ hb (srf _)
    · show decide (V.int (Builtin.bitAnd ((n : Int) / 2 ^ ((i : Int).toNat)) 1) = V.int 1) = _
      rw [bit_is]
      cases n.testBit i <;> rfl
    · obtain ⟨acc, hd, hl, hk⟩ := ky _ hb (srf _)
      refine ⟨_, rfl, acc, hd, hl, ?_⟩
      rw [e] at hk
      exact hk
  · have e : ((List.range (Sx ls).cps.size).filter n.testBit).map (fun i => V.str ⟨#[ls.getD i 0]⟩) = ((sel ls n).map fun c => (⟨#[c]⟩ : Str)).map V.str := by
      rw [sx_size]
      unfold sel
      rw [List.map_map, List.map_map]
      rfl
    refine ⟨_, D, (sel ls n).map fun c => (⟨#[c]⟩ : Str), rfl, rfl, .inl (SqL.of (by rw [hD2, e])), ?_, ?_⟩
    · rw [List.map_map, List.length_map]
      have h0 : ((⟨#[]⟩ : Str)).length = 0 := rfl
      have : ((sel ls n).map ((fun z : Str => z.length) ∘ fun c => (⟨#[c]⟩ : Str))).sum = (sel ls n).length := by
        have : ((fun z : Str => z.length) ∘ fun c => (⟨#[c]⟩ : Str)) = fun _ => 1 := rfl
        rw [this, List.map_const']
        generalize (sel ls n).length = q
        induction q with
        | zero => rfl
        | succ q ih => rw [List.replicate_succ, List.sum_cons, ih]; omega
      rw [this]
      have h := sel_len (ls := ls) (n := n)
      show _ + _ * 0 ≤ _
      omega
    · rw [sx_join]
      refine ⟨_, rfl, _, _, _, _, rfl, s _ _ upd_same, hc, o_Cell_letters T, few, q _ (fun a o n e => ?_) upd_same⟩
      rw [upd_ne n]
      exact s _ _ (by rw [upd_ne n, upd_ne n]; exact e)
/-- a new cell -/
def sp_Cell (K : PySem.W.Frag) : Sp := fun vs H Q E => ∃ (va : Addr) (ls : List Nat) (n : Nat), vs = [.ref va, .int (n : Int)] ∧ VaO K H va ls ∧ ls.length ≤ 4 ∧ ∀ r H', H r = none → Same H H' → CeO K H' r va ls n → Q (.ref r) H'
theorem made {H H' : Hp} {x dx : Addr} {o o' : HO} (h1 : H x = none) (h2 : H dx = none) (s : SameP x (upd (upd H dx o) x o') H') : Same H H' := fun a u e => s a u (ne_of_none e h1) (by rw [upd_ne (ne_of_none e h1), upd_ne (ne_of_none e h2)]; exact e)
theorem VaO.made {H : Hp} {x dx a : Addr} {ls : List Nat} {o o' : HO} (h : VaO K H a ls) (h1 : H x = none) (h2 : H dx = none) : VaO K (upd (upd H dx o) x o') a ls ∧ a ≠ x := by
  have n1 : a ≠ x := fun z => by obtain ⟨_, e⟩ := h; rw [z, h1] at e; cases e
  have n2 : a ≠ dx := fun z => by obtain ⟨_, e⟩ := h; rw [z, h2] at e; cases e
  exact ⟨(h.ne n2).ne n1, n1⟩
theorem cg_Cell {w : World} {base : Heap} (T : Tx P K mg) : Cg P w K mg base 2 "Cell" (sp_Cell K) := (Cg.cls (g_Cell T) (m_Cell T) (F_Cell_init T)).imp fun vs H Q E ⟨va, ls, n, e, hv, h4, q⟩ => by
  subst e
  intro x dx hx hdx hne
  obtain ⟨hv', n1⟩ := hv.made (o := .own x) (o' := .ins (He.ga K "Cell") dx []) hx hdx
  exact ⟨x, va, dx, ls, n, rfl, hv', h4, n1, upd_same, fun H' s e => ⟨rfl, q _ _ hx (made hx hdx s) ⟨dx, e⟩⟩⟩
def sp_Cell_contains (K : PySem.W.Frag) : Sp := fun vs H Q E => ∃ (a va c : Nat) (ls : List Nat) (n : Nat), vs = [.ref a, .str (Sx [c])] ∧ CeO K H a va ls n ∧ Q (.bl (decide (c ∈ sel ls n))) H
theorem F_Cell_contains {w : World} {base : Heap} (T : Tx P K mg) : FnR P w K mg base CX0 1 (a_Cell_contains K) (sp_Cell_contains K) := by
  refine fnr (f_Cell_contains T) sc_Cell_contains (fun vs H Q E h => by obtain ⟨_, _, _, _, _, rfl, _⟩ := h; rfl) (fun _ _ _ _ _ _ us hl => match us, hl with | [_, _], _ => rfl) fun cdv A outer s H vs Q E hr h => ?_
  refine ⟨_, (pss_one (ps_ret (pe_and (pe_callB call_isi rfl (e_isinstance T) boot_isinstance (pa_cons (pv 1) (pa_cons (pe_bltn (v := .ty "str") rfl (e_str T) boot_str rfl) pa_nil))) (pe_and (pe_cmpR op_eq (pe_callB call_len_str rfl (e_len T) boot_len (pa_cons (pv 1) pa_nil)) pe_int (by first | rfl | exact nomark _ | exact nobehind _ (by decide) (by decide))) (pe_one (pe_cmpR op_in_sign (pv 1) (pe_f (pv 0)) (by first | rfl | exact nomark _ | exact nobehind _ (by decide) (by decide)))))))), ?_⟩
  obtain ⟨a, va, c, ls, n, rfl, hc, q⟩ := h
  refine ⟨_, rfl, _, _, _, _, _, rfl, .ty _, ty_str, kit_self, true, rfl, iteT ⟨_, rfl, _, rfl, Nat.le_of_ble_eq_true rfl, rfl, true, rfl, iteT ⟨_, rfl, _, rfl, a, _, rfl, hc.letters T, _, _, rfl, rfl, ?_⟩⟩⟩
  have q' : Q (.bl (decide (c ∈ (Sx (sel ls n)).cps.toList))) H := by rw [sx_list]; exact q
  exact q'
def sp_Cell_bool (K : PySem.W.Frag) : Sp := fun vs H Q E => ∃ (a va : Nat) (ls : List Nat) (n : Nat), vs = [.ref a] ∧ CeO K H a va ls n ∧ ls.length ≤ 4 ∧ Q (.bl (decide (sel ls n ≠ []))) H
theorem F_Cell_bool {w : World} {base : Heap} (T : Tx P K mg) : FnR P w K mg base CX0 1 (a_Cell_bool K) (sp_Cell_bool K) := by
  refine fnr (f_Cell_bool T) sc_Cell_bool (fun vs H Q E h => by obtain ⟨_, _, _, _, rfl, _⟩ := h; rfl) (fun _ _ _ _ _ _ us hl => match us, hl with | [_], _ => rfl) fun cdv A outer s H vs Q E hr h => ?_
  refine ⟨_, (pss_one (ps_ret (pe_callTy call_boolTx rfl (e_bool T) boot_bool (pa_cons (pe_f (pv 0)) pa_nil)))), ?_⟩
  obtain ⟨a, va, ls, n, rfl, hc, h4, q⟩ := h
  have hl := sel_len (ls := ls) (n := n)
  refine ⟨_, rfl, a, _, rfl, hc.letters T, _, rfl, ?_, ?_⟩
  · rw [sx_len]; exact Nat.le_of_lt (small1000 (by omega))
  · have e : (((Sx (sel ls n)).length : Int) != 0) = decide (sel ls n ≠ []) := by
      rw [sx_len]
      cases sel ls n with
      | nil => rfl
      | cons a l => simp; omega
    have q' : Q (.bl (((Sx (sel ls n)).length : Int) != 0)) H := by rw [e]; exact q
    exact q'
def sp_Values_init (K : PySem.W.Frag) : Sp := fun vs H Q E => ∃ (x dx : Addr) (ls : List Nat), vs = [.ref x, .str (Sx ls)] ∧ LetOk ls ∧ H x = some (.ins (He.ga K "Values") dx []) ∧
  ∀ H', SameP x H H' → H' x = some (.ins (He.ga K "Values") dx [("letters", .str (Sx ls))]) → Q .non H'
theorem F_Values_init {w : World} {base : Heap} (T : Tx P K mg) : FnR P w K mg base CX0 2 (a_Values_init K) (sp_Values_init K) := by
  refine fnr (f_Values_init T) sc_Values_init (fun vs H Q E h => by obtain ⟨_, _, _, rfl, _⟩ := h; rfl) (fun _ _ _ _ _ _ us hl => match us, hl with | [_, _], _ => rfl) fun cdv A outer s H vs Q E hr h => ?_
  refine ⟨_, (pss_cons (ps_if (pt_not (pt_val (pe_g (cg_is_letters T) (hr.mono (by decide)) (pa_cons (pv 1) (pa_cons pe_int (pa_cons (ClX.pe_cval (pe_glob (v := .ref _) rfl (g_Values T) rfl)) pa_nil)))))) (pss_one ps_never) pss_nil)
  (pss_one (ps_fld (pv 0) (pv 1) rfl))), ?_⟩
  obtain ⟨x, dx, ls, rfl, ok, hx, q⟩ := h
  obtain ⟨u, hv⟩ := v_Values_MOST T
  refine ⟨_, rfl, _, _, _, _, rfl, r_Values T, hv, ls, rfl, ok, fun H' s => ⟨_, rfl, iteF ⟨_, rfl, _, rfl, _, _, _, _, rfl, s _ _ hx, c_Values T, o_Values_letters T, few, q _ (fun a o n e => ?_) upd_same⟩⟩⟩
  rw [upd_ne n]
  exact s _ _ e
def sp_Values (K : PySem.W.Frag) : Sp := fun vs H Q E => ∃ (ls : List Nat), vs = [.str (Sx ls)] ∧ LetOk ls ∧ ∀ r H', H r = none → Same H H' → VaO K H' r ls → Q (.ref r) H'
theorem cg_Values {w : World} {base : Heap} (T : Tx P K mg) : Cg P w K mg base 3 "Values" (sp_Values K) := (Cg.cls (g_Values T) (m_Values T) (F_Values_init T)).imp fun vs H Q E ⟨ls, e, ok, q⟩ => by
  subst e
  exact fun x dx hx hdx hne => ⟨x, dx, ls, rfl, ok, upd_same, fun H' s e => ⟨rfl, q _ _ hx (made hx hdx s) ⟨dx, e⟩⟩⟩
def sp_Values_cell (K : PySem.W.Frag) : Sp := fun vs H Q E => ∃ (va : Addr) (ls : List Nat) (n : Nat), vs = [.ref va, .str (Sx (sel ls n))] ∧ VaO K H va ls ∧ LetOk ls ∧ n < 2 ^ ls.length ∧ ∀ r H', H r = none → Same H H' → CeO K H' r va ls n → Q (.ref r) H'
theorem F_Values_cell {w : World} {base : Heap} (T : Tx P K mg) : FnR P w K mg base CX0 3 (a_Values_cell K) (sp_Values_cell K) := by
  refine fnr (f_Values_cell T) sc_Values_cell (fun vs H Q E h => by obtain ⟨_, _, _, rfl, _⟩ := h; rfl) (fun _ _ _ _ _ _ us hl => match us, hl with | [_, _], _ => rfl) fun cdv A outer s H vs Q E hr h => ?_
  refine ⟨_, (pss_cons (ps_if (pt_not (pt_val (pe_g (cg_is_cell_string T) (hr.mono (by decide)) (pa_cons (pe_f (pv 0)) (pa_cons (pv 1) pa_nil))))) (pss_one ps_never) pss_nil)
  (pss_one (ps_ret (pe_g (cg_Cell T) (hr.mono (by decide)) (pa_cons (pv 0) (pa_cons (pe_callB (cr_sum rfl) rfl (e_sum T) boot_sum (pa_cons (pe_lcD (own := [("letter", 2)]) s H rfl sc_Values_cell.nd (pi_str (pv 1)) (blkOk_by (N := n_Values_cell) (sc := defScope s_Values_cell) (by decide +kernel)) (fun _ _ _ _ _ => (pg_name (i := 2) sc_Values_cell.nd rfl (Or.inl rfl))) (fun _ _ _ _ _ => pts_nil) (fun _ _ _ _ _ => (pe_op op_shl pe_int (pe_bm PySem.F.plainAttrs_str PySem.F.slot_str_index PySem.F.type_str_index mt_sindex (pe_f (pv 0)) (pa_cons (pv 2) pa_nil))))) pa_nil)) pa_nil)))))), ?_⟩
  obtain ⟨va, ls, n, rfl, hv, ok, hn, q⟩ := h
  have h4 := ok.four
  have hl := sel_len (ls := ls) (n := n)
  refine ⟨_, rfl, va, _, rfl, hv.letters T, _, rfl, ls, n, rfl, ok, fun H1 s1 => ⟨true, rfl, iteF ⟨_, rfl, _, rfl, _, rfl, fun D hD => lc_each walk_str (fun j v _ => ∃ i, ((List.range ls.length).filter n.testBit)[j]? = some i ∧ v = .int (2 ^ i : Int)) (fun _ _ _ _ _ h => h) hD (by rw [sx_size]; exact small1000 (by omega)) (fun _ _ => trivial) ystr_same (fun i x H1 H2 hi s1 s2 y k kk => ?_) fun H2 acc s hD2 hl hR => ?_⟩⟩⟩
  · obtain ⟨rfl, c, hc, rfl⟩ := y
    rw [sx_get] at hc
    obtain ⟨j, hj, hjc⟩ := sel_get hc
    have hj4 : j < ls.length := (List.getElem?_eq_some_iff.mp hjc).1
    refine ⟨rfl, _, rfl, va, _, rfl, (hv.mono (sn (str ‹_› s2))).letters T, rfl, _, rfl, _, _, j, [], rfl, rfl, occ_at ok.nd hjc, _, _, rfl, rfl, ⟨by omega, by omega, by decide⟩, ?_⟩
    refine kk _ _ (srf _) ⟨j, hj, ?_⟩
    show V.int (1 * 2 ^ ((j : Int).toNat)) = _
    rw [Int.toNat_natCast, Int.one_mul]
  · have hl' : acc = (((List.range ls.length).filter n.testBit).map fun i => (2 ^ i : Int)).map V.int := by
      refine List.ext_getElem? fun i => ?_
      rw [sx_size] at hl
      have e : (sel ls n).length = ((List.range ls.length).filter n.testBit).length := by unfold sel; rw [List.length_map]
      rw [List.map_map, List.getElem?_map]
      rcases Nat.lt_or_ge i acc.length with h | h
      · obtain ⟨k, hk, e2⟩ := hR i _ (List.getElem?_eq_getElem h)
        rw [hk, List.getElem?_eq_getElem h, e2]
        rfl
      · rw [List.getElem?_eq_none h, List.getElem?_eq_none (by omega)]
        rfl
    have hs : (((List.range ls.length).filter n.testBit).map fun i => (2 ^ i : Int)).sum = (n : Int) := by
      have := sum_bits h4 hn
      conv => rhs; rw [← this]
      generalize (List.range ls.length).filter n.testBit = l
      induction l with
      | nil => rfl
      | cons a l ih => rw [List.map_cons, List.map_cons, List.sum_cons, List.sum_cons, ih]; push_cast; rfl
    refine ⟨_, _, rfl, SqL.of (by rw [hD2, hl']), va, ls, n, ?_, hv.mono (sn (str s1 (str (srf _) s))), h4, fun r H3 hr s3 hc => q r H3 ?_ (str s1 (str s s3)) hc⟩
    · rw [hs]
    · exact snone (str s1 s) hr
def sp_Values_contains (K : PySem.W.Frag) : Sp := fun vs H Q E => ∃ (a c : Nat) (ls : List Nat), vs = [.ref a, .str (Sx [c])] ∧ VaO K H a ls ∧ Q (.bl (decide (c ∈ ls))) H
theorem F_Values_contains {w : World} {base : Heap} (T : Tx P K mg) : FnR P w K mg base CX0 1 (a_Values_contains K) (sp_Values_contains K) := by
  refine fnr (f_Values_contains T) sc_Values_contains (fun vs H Q E h => by obtain ⟨_, _, _, rfl, _⟩ := h; rfl) (fun _ _ _ _ _ _ us hl => match us, hl with | [_, _], _ => rfl) fun cdv A outer s H vs Q E hr h => ?_
  refine ⟨_, (pss_one (ps_ret (pe_and (pe_callB call_isi rfl (e_isinstance T) boot_isinstance (pa_cons (pv 1) (pa_cons (pe_bltn (v := .ty "str") rfl (e_str T) boot_str rfl) pa_nil))) (pe_and (pe_cmpR op_eq (pe_callB call_len_str rfl (e_len T) boot_len (pa_cons (pv 1) pa_nil)) pe_int (by first | rfl | exact nomark _ | exact nobehind _ (by decide) (by decide))) (pe_one (pe_cmpR op_in_sign (pv 1) (pe_f (pv 0)) (by first | rfl | exact nomark _ | exact nobehind _ (by decide) (by decide)))))))), ?_⟩
  obtain ⟨a, c, ls, rfl, hv, q⟩ := h
  refine ⟨_, rfl, _, _, _, _, _, rfl, .ty _, ty_str, kit_self, true, rfl, iteT ⟨_, rfl, _, rfl, Nat.le_of_ble_eq_true rfl, rfl, true, rfl, iteT ⟨_, rfl, _, rfl, a, _, rfl, hv.letters T, _, _, rfl, rfl, ?_⟩⟩⟩
  have q' : Q (.bl (decide (c ∈ (Sx ls).cps.toList))) H := by rw [sx_list]; exact q
  exact q'
def sp_Values_len (K : PySem.W.Frag) : Sp := fun vs H Q E => ∃ (a : Nat) (ls : List Nat), vs = [.ref a] ∧ VaO K H a ls ∧ ls.length ≤ 4 ∧ Q (.int (ls.length : Int)) H
theorem F_Values_len {w : World} {base : Heap} (T : Tx P K mg) : FnR P w K mg base CX0 1 (a_Values_len K) (sp_Values_len K) := by
  refine fnr (f_Values_len T) sc_Values_len (fun vs H Q E h => by obtain ⟨_, _, rfl, _⟩ := h; rfl) (fun _ _ _ _ _ _ us hl => match us, hl with | [_], _ => rfl) fun cdv A outer s H vs Q E hr h => ?_
  refine ⟨_, (pss_one (ps_ret (pe_callB call_len_str rfl (e_len T) boot_len (pa_cons (pe_f (pv 0)) pa_nil)))), ?_⟩
  obtain ⟨a, ls, rfl, hv, h4, q⟩ := h
  refine ⟨_, rfl, a, _, rfl, hv.letters T, _, rfl, ?_, ?_⟩
  · rw [sx_len]; exact Nat.le_of_lt (small1000 (by omega))
  · have q' : Q (.int ((Sx ls).length : Int)) H := by rw [sx_len]; exact q
    exact q'
def sp_Values_eq (K : PySem.W.Frag) : Sp := fun vs H Q E => ∃ (a b : Nat) (ls : List Nat), vs = [.ref a, .ref b] ∧ VaO K H a ls ∧ VaO K H b ls ∧ Q (.bl true) H
theorem F_Values_eq {w : World} {base : Heap} (T : Tx P K mg) : FnR P w K mg base CX0 1 (a_Values_eq K) (sp_Values_eq K) := by
  refine fnr (f_Values_eq T) sc_Values_eq (fun vs H Q E h => by obtain ⟨_, _, _, rfl, _⟩ := h; rfl) (fun _ _ _ _ _ _ us hl => match us, hl with | [_, _], _ => rfl) fun cdv A outer s H vs Q E hr h => ?_
  refine ⟨_, (pss_one (ps_ret (pe_and (pe_callB call_isi rfl (e_isinstance T) boot_isinstance (pa_cons (pv 1) (pa_cons (pe_glob (v := .ref _) rfl (g_Values T) rfl) pa_nil))) (pe_one (pe_cmpR op_eq (pe_f (pv 0)) (pe_f (pv 1)) (by first | rfl | exact nomark _ | exact nobehind _ (by decide) (by decide))))))), ?_⟩
  obtain ⟨a, b, ls, rfl, hv, hw, q⟩ := h
  refine ⟨_, rfl, _, _, _, _, _, rfl, .own _, hw.ty T, kit_self, true, rfl, iteT ⟨_, rfl, a, _, rfl, hv.letters T, _, rfl, b, _, rfl, hw.letters T, rfl, ?_⟩⟩
  have q' : Q (.bl (decide (V.str (Sx ls) = V.str (Sx ls)))) H := by rw [decide_eq_true rfl]; exact q
  exact q'
def sp_cell_told (K : PySem.W.Frag) : Sp := fun vs H Q E => ∃ (va : Addr) (x : V) (ls : List Nat) (n : Nat), vs = [.ref va, x] ∧ VaO K H va ls ∧ LetOk ls ∧ n < 2 ^ ls.length ∧ (x = .str (Sx (sel ls n)) ∨ ∃ c, x = .ref c ∧ CeO K H c va ls n) ∧
  ∀ r H', Same H H' → CeO K H' r va ls n → Q (.ref r) H'
theorem F_cell_told {w : World} {base : Heap} (T : Tx P K mg) : FnR P w K mg base CX0 4 (a_cell_told K) (sp_cell_told K) := by
  refine fnr (f_cell_told T) sc_cell_told (fun vs H Q E h => by obtain ⟨_, _, _, _, rfl, _⟩ := h; rfl) (fun _ _ _ _ _ _ us hl => match us, hl with | [_, _], _ => rfl) fun cdv A outer s H vs Q E hr h => ?_
  refine ⟨_, (pss_cons (ps_if (pt_val (pe_callB call_isi rfl (e_isinstance T) boot_isinstance (pa_cons (pv 1) (pa_cons (pe_glob (v := .ref _) rfl (g_Cell T) rfl) pa_nil)))) (pss_one (ps_ret (pe_ifExp (pt_cmpR (op_eqOwn (F_Values_eq T) (hr.mono (by decide))) (pe_f (pv 1)) (pv 0) (by first | rfl | exact nomark _ | exact nobehind _ (by decide) (by decide))) (pv 1) pe_non))) pss_nil)
  (pss_one (ps_ret (pe_ifExp (pt_val (pe_g (cg_is_cell_string T) (hr.mono (by decide)) (pa_cons (pe_f (pv 0)) (pa_cons (pv 1) pa_nil)))) (pe_m (pv 0) (F_Values_cell T) (hr.mono (by decide)) (pa_cons (pv 1) pa_nil)) pe_non)))), ?_⟩
  obtain ⟨va, x, ls, n, rfl, hv, ok, hn, hx, q⟩ := h
  rcases hx with rfl | ⟨c, rfl, hc⟩
  · refine ⟨_, rfl, _, _, _, _, _, rfl, .own _, ty_str, T.kit, false, rfl, iteF ⟨_, rfl, va, _, rfl, hv.letters T, _, rfl, ls, n, rfl, ok, fun H' s => ⟨true, rfl, iteT ⟨_, rfl, va, rfl, (hv.mono (sn s)).mcell T, _, rfl, va, ls, n, rfl, hv.mono (sn s), ok, hn, fun r H2 hr s2 hc => q r H2 (str s s2) hc⟩⟩⟩⟩
  · refine ⟨_, rfl, _, _, _, _, _, rfl, .own _, hc.ty T, kit_self, true, rfl, iteT ⟨_, rfl, c, _, rfl, hc.alphabet T, _, rfl, va, va, rfl, rfl, hv.eq T hv, va, va, ls, rfl, hv, hv, true, rfl, iteT ⟨_, rfl, q c H (srf _) hc⟩⟩⟩
theorem cg_cell_told {w : World} {base : Heap} (T : Tx P K mg) : Cg P w K mg base 4 "cell_told" (sp_cell_told K) := .fn (g_cell_told T) (k_cell_told T) (F_cell_told T)
end
end K5
end
section
set_option maxRecDepth 100000
set_option maxHeartbeats 2000000
/-! the lines: promises and walks -/
namespace K5
open PySem PySem.Spec PyProof.Rows L2
theorem kit_lt {K : PySem.W.Frag} : PySem.W.kitAny K (.type "list") [.type "list", .type "tuple"] = some true := kitAny_cons kit_self (fun h => nomatch h) fun _ => rfl
theorem kit_tl {K : PySem.W.Frag} : PySem.W.kitOne K (.type "tuple") (.type "list") = some false := kit_ty (by decide +kernel)
theorem kit_tt {K : PySem.W.Frag} : PySem.W.kitAny K (.type "tuple") [.type "list", .type "tuple"] = some true := kitAny_cons kit_tl (fun _ => kitAny_cons kit_self (fun h => nomatch h) fun _ => rfl) fun _ => rfl
section
variable {P : Program} {K : PySem.W.Frag} {mg : Str → Option Value}
def LiO (K : PySem.W.Frag) (H : Hp) (a va : Addr) (ls ks : List Nat) : Prop := ∃ dx l, ∃ cs : List Addr, H a = some (.ins (He.ga K "Line") dx [("alphabet", .ref va), ("row", .ref l)]) ∧ H l = some (.lst (cs.map V.ref)) ∧ cs.length = ks.length ∧
  ∀ (i : Nat) c k, cs[i]? = some c → ks[i]? = some k → CeO K H c va ls (2 ^ k)
def sp_item_of (K : PySem.W.Frag) : Sp := fun vs H Q E => ∃ (va : Addr) (ls : List Nat) (c i : Nat) (at_ : Int), vs = [.ref va, .str (Sx [c]), .int at_] ∧ VaO K H va ls ∧ LetOk ls ∧ ls[i]? = some c ∧ ∀ r H', Same H H' → CeO K H' r va ls (2 ^ i) → Q (.ref r) H'
theorem F_item_of {w : World} {base : Heap} (T : Tx P K mg) : FnR P w K mg base CX0 5 (a_item_of K) (sp_item_of K) := by
  refine fnr (f_item_of T) sc_item_of (fun vs H Q E h => by obtain ⟨_, _, _, _, _, rfl, _⟩ := h; rfl) (fun _ _ _ _ _ _ us hl => match us, hl with | [_, _, _], _ => rfl) fun cdv A outer s H vs Q E hr h => ?_
  refine ⟨_, (pss_cons (ps_set (i := 3) sc_item_of.nd rfl (Or.inl rfl) (pe_g (cg_cell_told T) (hr.mono (by decide)) (pa_cons (pv 0) (pa_cons (pv 1) pa_nil))))
  (pss_cons (ps_if (PW.pt (pw_or (pt_cmp (pc_isN (pv 3))) (pw_or1 (pt_not (pt_tru (tru_own (F_Cell_bool T) (hr.mono (by decide))) (pv 3)))))) (pss_one ps_never) pss_nil)
  (pss_one (ps_ret (pv 3))))), ?_⟩
  obtain ⟨va, ls, c, i, at_, rfl, hv, ok, hi, q⟩ := h
  have e := sel_pow ok.four hi
  have hl : i < ls.length := (List.getElem?_eq_some_iff.mp hi).1
  refine ⟨_, rfl, _, rfl, va, _, ls, 2 ^ i, rfl, hv, ok, Nat.pow_lt_pow_right (by decide) hl, .inl (by rw [e]), fun r H' s hc => ⟨_, rfl, _, rfl, iteF ⟨_, rfl, r, rfl, hc.bool T, r, va, ls, _, rfl, hc, ok.four, _, rfl, ?_⟩⟩⟩
  refine ifb (c := false) ?_ (fun h => nomatch h) fun _ => ⟨_, rfl, q r H' s hc⟩
  rw [e]
  rfl
theorem cg_item_of {w : World} {base : Heap} (T : Tx P K mg) : Cg P w K mg base 5 "item_of" (sp_item_of K) := .fn (g_item_of T) (k_item_of T) (F_item_of T)
def sp_need_word_lines (K : PySem.W.Frag) : Sp := fun vs H Q E => ∃ (va : Addr) (ls ws : List Nat), vs = [.ref va, .str (Sx ws), .int 4001] ∧ VaO K H va ls ∧ (∀ c ∈ ws, c ∈ ls) ∧ ws ≠ [] ∧ ws.length ≤ 4001 ∧ ∀ H', Same H H' → Q .non H'
theorem F_need_word_lines {w : World} {base : Heap} (T : Tx P K mg) : FnR P w K mg base CX0 2 (a_need_word_lines K) (sp_need_word_lines K) := by
  refine fnr (f_need_word_lines T) sc_need_word_lines (fun vs H Q E h => by obtain ⟨_, _, _, rfl, _⟩ := h; rfl) (fun _ _ _ _ _ _ us hl => match us, hl with | [_, _, _], _ => rfl) fun cdv A outer s H vs Q E hr h => ?_
  refine ⟨_, (pss_cons (ps_if (PW.pt (pw_or (pt_not (pt_val (pe_callB call_isi rfl (e_isinstance T) boot_isinstance (pa_cons (pv 1) (pa_cons (pe_bltn (v := .ty "str") rfl (e_str T) boot_str rfl) pa_nil))))) (pw_or1 (pt_cmpR op_eq (pv 1) pe_str (by first | rfl | exact nomark _ | exact nobehind _ (by decide) (by decide)))))) (pss_one ps_never) pss_nil)
  (pss_one (ps_for PassesOwn.never rfl (pi_enumS rfl (e_enumerate T) (pa_cons (pv 1) pa_nil)) (pg_tup rfl (pgs_cons (pg_name (i := 3) sc_need_word_lines.nd rfl (Or.inl rfl)) (pgs_cons (pg_name (i := 4) sc_need_word_lines.nd rfl (Or.inl rfl)) pgs_nil)))
  (pss_one (ps_if (PW.pt (pw_or (pt_cmpR op_eq (pv 3) (pv 2) (by first | rfl | exact nomark _ | exact nobehind _ (by decide) (by decide))) (pw_or1 (pt_cmpR (op_notInOwn (F_Values_contains T) (hr.mono (by decide))) (pv 4) (pv 0) (by first | rfl | exact nomark _ | exact nobehind _ (by decide) (by decide)))))) (pss_one ps_never) pss_nil))))), ?_⟩
  obtain ⟨va, ls, ws, rfl, hv, hin, hne, hl, q⟩ := h
  refine ⟨_, rfl, _, _, _, _, _, rfl, .ty _, ty_str, kit_self, true, rfl, iteF ⟨_, rfl, rfl, _, rfl, ?_⟩⟩
  refine ifb (c := false) ?_ (fun h => nomatch h) fun _ => ⟨_, rfl, _, rfl, for_it walk_enumE (fun i σ H' => Same H H' ∧ (∃ u v, σ = [.some (V.ref va), .some (.str (Sx ws)), .some (.int 4001), u, v])) ⟨srf _, _, _, rfl⟩ (fun _ _ _ _ _ => trivial) ?_ ?_⟩
  · exact decide_eq_false fun z => hne (sx_inj (V.str.inj z))
  · rintro i v σ H1 H2 hi ⟨s, u, v, rfl⟩ ⟨t, x, rfl, ht, rfl, c, hc, rfl⟩
    rw [sx_size] at hi
    rw [sx_get] at hc
    have s2 := str s (Same.new (o := .tup [.int (i : Nat), .str ⟨#[c]⟩]) ht)
    have hv2 := hv.mono (sn s2)
    have hm := hin c (List.mem_of_getElem? hc)
    refine ⟨_, _, rfl, SqT.of upd_same, rfl, _, _, rfl, _, _, rfl, rfl, _, rfl, _, rfl, rfl, _, rfl, ?_⟩
    refine ifb (c := false) (decide_eq_false fun z => by have := V.int.inj z; omega) (fun h => nomatch h) fun _ => ⟨_, rfl, _, rfl, va, rfl, hv2.cont T, va, c, ls, rfl, hv2, _, rfl, _, rfl, ?_⟩
    exact ifb (c := false) (by rw [decide_eq_true hm]; rfl) (fun h => nomatch h) fun _ => ⟨s2, _, _, rfl⟩
  · rintro σ H1 ⟨s, _⟩
    exact q _ s
theorem cg_need_word_lines {w : World} {base : Heap} (T : Tx P K mg) : Cg P w K mg base 2 "need_word_lines" (sp_need_word_lines K) := .fn (g_need_word_lines T) (k_need_word_lines T) (F_need_word_lines T)
def sp_Line_init (K : PySem.W.Frag) : Sp := fun vs H Q E => ∃ (x dx va l : Addr) (ls ks : List Nat), vs = [.ref x, .ref va, .ref l] ∧ VaO K H va ls ∧ LetOk ls ∧ (∀ k ∈ ks, k < ls.length) ∧ ks ≠ [] ∧ ks.length ≤ 4001 ∧ va ≠ x ∧ H x = some (.ins (He.ga K "Line") dx []) ∧
  H l = some (.lst (ks.map fun k => .str (Sx [ls.getD k 0]))) ∧ ∀ H', SameP x H H' → LiO K H' x va ls ks → Q .non H'
theorem F_Line_init {w : World} {base : Heap} (T : Tx P K mg) : FnR P w K mg base CX0 6 (a_Line_init K) (sp_Line_init K) := by
  refine fnr (f_Line_init T) sc_Line_init (fun vs H Q E h => by obtain ⟨_, _, _, _, _, _, rfl, _⟩ := h; rfl) (fun _ _ _ _ _ _ us hl => match us, hl with | [_, _, _], _ => rfl) fun cdv A outer s H vs Q E hr h => ?_
  refine ⟨_, (pss_cons (ps_if (PW.pt (pw_or (pt_not (pt_val (pe_callB call_isiT rfl (e_isinstance T) boot_isinstance (pa_cons (pv 2) (pa_cons (pe_tup (pa_cons (pe_bltn (v := .ty "list") rfl (e_list T) boot_list rfl) (pa_cons (pe_bltn (v := .ty "tuple") rfl (e_tuple T) boot_tuple rfl) pa_nil))) pa_nil))))) (pw_or1 (pt_not (pt_chain op_le op_le pe_int (pe_callB call_len_seq rfl (e_len T) boot_len (pa_cons (pv 2) pa_nil)) (ClX.pe_cval (pe_glob (v := .ref _) rfl (g_Line T) rfl))))))) (pss_one ps_never) pss_nil)
  (pss_cons (ps_fld (pv 0) (pv 1) rfl)
  (pss_one (ps_fld (pv 0) (pe_lcD (own := [("at", 3), ("thing", 4)]) s H rfl sc_Line_init.nd (pi_enum rfl (e_enumerate T) (pa_cons (pv 2) pa_nil)) (blkOk_by (N := n_Line_init) (sc := defScope s_Line_init) (by decide +kernel)) (fun _ _ _ _ _ => (pg_tup rfl (pgs_cons (pg_name (i := 3) sc_Line_init.nd rfl (Or.inl rfl)) (pgs_cons (pg_name (i := 4) sc_Line_init.nd rfl (Or.inl rfl)) pgs_nil)))) (fun _ _ _ _ _ => pts_nil) (fun _ _ _ _ _ => (pe_g (cg_item_of T) (hr.mono (by decide)) (pa_cons (pv 1) (pa_cons (pv 4) (pa_cons (pv 3) pa_nil)))))) rfl)))), ?_⟩
  obtain ⟨x, dx, va, l, ls, ks, rfl, hv, ok, hk, hne, hl, hvx, hx, hll, q⟩ := h
  obtain ⟨u, hlo⟩ := v_Line_LONGEST T
  have hlen : ((ks.map fun k => V.str (Sx [ls.getD k 0])).length) = ks.length := List.length_map _
  have h1 : 1 ≤ ks.length := List.length_pos_iff.mpr hne
  refine ⟨_, rfl, Nat.le_of_ble_eq_true rfl, fun p hp => ?_⟩
  have nlp : l ≠ p := ne_of_none hll hp
  have hll' := uo (u := .tup [.ty "list", .ty "tuple"]) hll hp
  refine ⟨_, _, _, _, _, _, rfl, upd_same, .cons (.ty _) (.cons (.ty _) .nil), ty_lst hll', kit_lt, true, rfl, iteF ⟨_, rfl, _, _, rfl, .inl (SqL.of hll'), _, _, rfl, rfl, _, rfl, ?_⟩⟩
  refine ifb (c := true) (decide_eq_true (by rw [hlen]; omega)) (fun _ => ?_) (fun h => nomatch h)
  refine ⟨_, _, _, _, rfl, r_Line T, hlo, _, _, rfl, rfl, _, rfl, ?_⟩
  refine ifb (c := false) (by show (!decide _) = false; rw [hlen, decide_eq_true (by omega)]; rfl) (fun h => nomatch h) fun _ => ?_
  have hx' := uo (u := .tup [.ty "list", .ty "tuple"]) hx hp
  refine ⟨_, rfl, _, rfl, _, _, _, _, rfl, hx', c_Line T, o_Line_alphabet T, few, ?_⟩
  have nlx : l ≠ x := fun z => by rw [z, hx] at hll; cases hll
  have hv1 := (hv.mono (sn (Same.new (o := .tup [.ty "list", .ty "tuple"]) hp))).ne (o := .ins (He.ga K "Line") dx (putF "alphabet" (.ref va) [])) hvx
  refine ⟨_, rfl, l, _, rfl, SqL.of (by rw [upd_ne nlx]; exact hll'), fun D hD => lc_each walk_enum (fun i v H' => ∃ c k, v = .ref c ∧ ks[i]? = some k ∧ CeO K H' c va ls (2 ^ k)) ?_ hD ?_ (fun H1 s => SqL.of (s _ _ (by rw [upd_ne nlx]; exact hll'))) ypair_same ?_ ?_⟩
  · rintro i v H1 H2 s ⟨c, k, e, e2, hc⟩
    exact ⟨c, k, e, e2, hc.mono s⟩
  · rw [hlen]
    have : 5000 ≤ sizeLine := by decide
    omega
  · rintro i v H1 H2 hi s1 s2 ⟨t, y, z, rfl, ht, rfl, ey, ez⟩ k kk
    have ez : (ks.map fun k => V.str (Sx [ls.getD k 0]))[i]? = some z := ez
    rw [List.getElem?_map] at ez
    cases ek : ks[i]? with
    | none => rw [ek] at ez; cases ez
    | some j =>
      rw [ek] at ez
      cases ez
      cases ey
      have hj : j < ls.length := hk j (List.mem_of_getElem? ek)
      have ej : ls[j]? = some (ls.getD j 0) := by rw [List.getD_eq_getElem?_getD, List.getElem?_eq_getElem hj]; rfl
      refine ⟨_, _, rfl, SqT.of upd_same, rfl, _, _, rfl, _, _, rfl, rfl, rfl, _, rfl, _, rfl, _, rfl, va, ls, _, j, _, rfl, hv1.mono (sn s2), ok, ej, fun r H3 s3 hc => kk _ _ s3 ⟨r, j, rfl, ek, hc⟩⟩
  · intro H2 acc s hD2 hla hR
    obtain ⟨cs, rfl, hcs⟩ := refs_of (R := fun i c => ∃ k, ks[i]? = some k ∧ CeO K H2 c va ls (2 ^ k)) fun i v e => let ⟨c, k, e1, e2, e3⟩ := hR i v e; ⟨c, e1, k, e2, e3⟩
    rw [List.length_map, hlen] at hla
    have nD : D ≠ x := fun z => by rw [z, upd_same] at hD; cases hD
    refine ⟨_, rfl, _, _, _, _, rfl, s _ _ upd_same, c_Line T, o_Line_row T, few, q _ (fun a o n e => ?_) ⟨dx, D, cs, upd_same, un' nD hD2, hla, fun i c k h1 h2 => ?_⟩⟩
    · rw [upd_ne n]
      exact s _ _ (by rw [upd_ne n]; exact uo e hp)
    · obtain ⟨j, ej, hc⟩ := hcs i c h1
      rw [h2] at ej
      cases ej
      obtain ⟨dc, ec⟩ := hc
      refine ⟨dc, un' ?_ ec⟩
      intro z
      have e1 := s _ _ (upd_same (H := upd H p (.tup [.ty "list", .ty "tuple"])) (a := x) (o := .ins (He.ga K "Line") dx (putF "alphabet" (.ref va) [])))
      rw [← z] at e1
      exact absurd (ins_len e1 ec) (by show ¬ (1 : Nat) = 3; decide)
def sp_Line_sure (K : PySem.W.Frag) : Sp := fun vs H Q E => ∃ (va : Addr) (ls ks : List Nat), vs = [.ref (He.ga K "Line"), .ref va, .str (Sx (ks.map fun k => ls.getD k 0))] ∧ VaO K H va ls ∧ LetOk ls ∧ (∀ k ∈ ks, k < ls.length) ∧ ks ≠ [] ∧ ks.length ≤ 4001 ∧
  ∀ r H', H r = none → Same H H' → LiO K H' r va ls ks → Q (.ref r) H'
theorem F_Line_sure {w : World} {base : Heap} (T : Tx P K mg) : FnR P w K mg base CX0 8 (a_Line_sure K) (sp_Line_sure K) := by
  refine fnr (f_Line_sure T) sc_Line_sure (fun vs H Q E h => by obtain ⟨_, _, _, rfl, _⟩ := h; rfl) (fun _ _ _ _ _ _ us hl => match us, hl with | [_, _, _], _ => rfl) fun cdv A outer s H vs Q E hr h => ?_
  refine ⟨_, (pss_cons (ps_expr (pe_g (cg_need_word_lines T) (hr.mono (by decide)) (pa_cons (pv 1) (pa_cons (pv 2) (pa_cons (ClX.pe_cval (pe_glob (v := .ref _) rfl (g_Line T) rfl)) pa_nil)))))
  (pss_one (ps_ret (pe_l (run_cls (m_Line T) (F_Line_init T) (hr.mono (by decide))) (m_Line T).kp (i := 0) rfl (Or.inl rfl) (pa_cons (pv 1) (pa_cons (pe_callTy (cr_listTx rfl) rfl (e_list T) boot_list (pa_cons (pv 2) pa_nil)) pa_nil)))))), ?_⟩
  obtain ⟨va, ls, ks, rfl, hv, ok, hk, hne, hl, q⟩ := h
  obtain ⟨u, hlo⟩ := v_Line_LONGEST T
  have hlen : ((ks.map fun k => ls.getD k 0).length) = ks.length := List.length_map _
  refine ⟨_, rfl, _, rfl, _, _, _, _, rfl, r_Line T, hlo, va, ls, _, rfl, hv, ?_, ?_, by rw [hlen]; exact hl, fun H1 s1 => ⟨rfl, _, rfl, _, rfl, _, rfl, ?_, fun l hll x dx hx hdx hne2 => ?_⟩⟩
  · intro c hc
    obtain ⟨k, hk', rfl⟩ := List.mem_map.mp hc
    exact getD_mem (hk k hk')
  · intro z
    exact hne (List.map_eq_nil_iff.mp z)
  · rw [sx_size, hlen]
    have : 5000 ≤ sizeLine := by decide
    omega
  · have hv2 := hv.mono (sn (str s1 (Same.new (o := .lst ((Sx (ks.map fun k => ls.getD k 0)).cps.toList.map fun c => V.str ⟨#[c]⟩)) hll)))
    obtain ⟨hv3, n1⟩ := hv2.made (o := .own x) (o' := .ins (He.ga K "Line") dx []) hx hdx
    refine ⟨x, dx, va, l, ls, ks, rfl, hv3, ok, hk, hne, hl, n1, upd_same, ?_, fun H2 s2 hli => ⟨rfl, q x H2 (snone s1 (snone (Same.new hll) hx)) (str s1 (str (Same.new hll) (made hx hdx s2))) hli⟩⟩
    rw [upd_ne (ne_of_none upd_same hx), upd_ne (ne_of_none upd_same hdx), upd_same, sx_list, List.map_map]
    rfl
def sp_Line_cells (K : PySem.W.Frag) : Sp := fun vs H Q E => ∃ (a va : Addr) (ls ks : List Nat), vs = [.ref a] ∧ LiO K H a va ls ks ∧ ∀ (t : Addr) (cs : List Addr) H', Same H H' → H' t = some (.tup (cs.map V.ref)) → cs.length = ks.length → (∀ (i : Nat) c k, cs[i]? = some c → ks[i]? = some k → CeO K H' c va ls (2 ^ k)) → Q (.ref t) H'
theorem F_Line_cells {w : World} {base : Heap} (T : Tx P K mg) : FnR P w K mg base CX0 1 (a_Line_cells K) (sp_Line_cells K) := by
  refine fnr (f_Line_cells T) sc_Line_cells (fun vs H Q E h => by obtain ⟨_, _, _, _, rfl, _⟩ := h; rfl) (fun _ _ _ _ _ _ us hl => match us, hl with | [_], _ => rfl) fun cdv A outer s H vs Q E hr h => ?_
  refine ⟨_, (pss_one (ps_ret (pe_callTy call_tuple_of rfl (e_tuple T) boot_tuple (pa_cons (pe_f (pv 0)) pa_nil)))), ?_⟩
  obtain ⟨a, va, ls, ks, rfl, ⟨dx, l, cs, ha, hl, hk, hc⟩, q⟩ := h
  refine ⟨_, rfl, a, _, rfl, ⟨_, _, _, ha, c_Line T, o_Line_row T, rfl⟩, l, _, rfl, .inl ⟨SqL.of hl, fun t ht => q t cs _ (Same.new ht) upd_same hk fun i c k h1 h2 => (hc i c k h1 h2).mono (sn_new (snr _) ht)⟩⟩
def sp_Line_len (K : PySem.W.Frag) : Sp := fun vs H Q E => ∃ (a va : Addr) (ls ks : List Nat), vs = [.ref a] ∧ LiO K H a va ls ks ∧ Q (.int (ks.length : Int)) H
theorem F_Line_len {w : World} {base : Heap} (T : Tx P K mg) : FnR P w K mg base CX0 1 (a_Line_len K) (sp_Line_len K) := by
  refine fnr (f_Line_len T) sc_Line_len (fun vs H Q E h => by obtain ⟨_, _, _, _, rfl, _⟩ := h; rfl) (fun _ _ _ _ _ _ us hl => match us, hl with | [_], _ => rfl) fun cdv A outer s H vs Q E hr h => ?_
  refine ⟨_, (pss_one (ps_ret (pe_callB call_len_seq rfl (e_len T) boot_len (pa_cons (pe_f (pv 0)) pa_nil)))), ?_⟩
  obtain ⟨a, va, ls, ks, rfl, ⟨dx, l, cs, ha, hl, hk, hc⟩, q⟩ := h
  refine ⟨_, rfl, a, _, rfl, ⟨_, _, _, ha, c_Line T, o_Line_row T, rfl⟩, l, _, rfl, .inl (SqL.of hl), ?_⟩
  rw [List.length_map, hk]
  exact q
end
end K5
end
section
set_option maxRecDepth 100000
set_option maxHeartbeats 2000000
/-! soundness: promises and walks -/
namespace K5
open PySem PySem.Spec PyProof.Rows L2
def ni (l : List Nat) : List V := l.map fun n : Nat => V.int (n : Int)
theorem ni_get {l : List Nat} {i n : Nat} (h : l[i]? = some n) : (ni l)[i]? = some (.int (n : Int)) := by
  unfold ni
  rw [List.getElem?_map, h]
  rfl
theorem ni_len {l : List Nat} : (ni l).length = l.length := List.length_map _
theorem ni_int {l : List Nat} : ni l = (l.map fun n : Nat => (n : Int)).map V.int := by
  unfold ni
  rw [List.map_map]
  rfl
theorem ni_of {l : List Nat} {i : Nat} {v : V} (h : (ni l)[i]? = some v) : ∃ n, l[i]? = some n ∧ v = .int (n : Int) := by
  unfold ni at h
  rw [List.getElem?_map] at h
  cases e : l[i]? with
  | none => rw [e] at h; cases h
  | some n => rw [e] at h; exact ⟨n, rfl, (Option.some.inj h).symm⟩
theorem map_getD {α : Type} (f : Nat → α) (l : List Nat) : (List.range l.length).map (fun j => f (l.getD j 0)) = l.map f := by
  refine List.ext_getElem? fun j => ?_
  rw [List.getElem?_map, List.getElem?_map]
  rcases Nat.lt_or_ge j l.length with h | h
  · rw [List.getElem?_range h, List.getElem?_eq_getElem h]
    show some (f (l.getD j 0)) = some (f l[j])
    rw [List.getD_eq_getElem?_getD, List.getElem?_eq_getElem h]
    rfl
  · rw [List.getElem?_eq_none (by rw [List.length_range]; exact h), List.getElem?_eq_none h]
    rfl
theorem fmap_getD {α : Type} (F : Nat → List α) (l : List Nat) : (List.range l.length).flatMap (fun j => F (l.getD j 0)) = l.flatMap F := by
  rw [List.flatMap_def, List.flatMap_def, map_getD]
theorem getD_some {l : List Nat} {i : Nat} (h : i < l.length) : l[i]? = some (l.getD i 0) := by
  rw [List.getD_eq_getElem?_getD, List.getElem?_eq_getElem h]
  rfl
section
variable {P : Program} {K : PySem.W.Frag} {mg : Str → Option Value} {H H' : Hp} {a va : Addr} {ls : List Nat}
def RuO (K : PySem.W.Frag) (H : Hp) (a va : Addr) (ls : List Nat) (R : Rl) : Prop := ∃ dx tp tn, ∃ cs : List Addr,
  H a = some (.ins (He.ga K "Rule") dx [("alphabet", .ref va), ("pattern", .ref tp), ("at", .int (R.at_ : Int)), ("value", .str (Sx [ls.getD R.kd 0])), ("left", .bl R.left), ("right", .bl R.right), ("numbers", .ref tn), ("bit", .int ((2 ^ R.kd : Nat) : Int))]) ∧
  H tp = some (.tup (cs.map V.ref)) ∧ cs.length = R.pat.length ∧ (∀ (i : Nat) c m, cs[i]? = some c → R.pat[i]? = some m → CeO K H c va ls m) ∧ H tn = some (.tup (ni R.pat))
theorem RuO.mono {R : Rl} (s : SameN H H') (h : RuO K H a va ls R) : RuO K H' a va ls R := let ⟨dx, tp, tn, cs, e1, e2, e3, e4, e5⟩ := h
  ⟨dx, tp, tn, cs, s _ _ e1 rfl, s _ _ e2 rfl, e3, fun i c m h1 h2 => (e4 i c m h1 h2).mono s, s _ _ e5 rfl⟩
def ClO (K : PySem.W.Frag) (H : Hp) (a va : Addr) (B : Tab) : Prop := ∃ C dx ps pt, ∃ rs : List Addr, (C = He.ga K "Clue" ∨ C = He.ga K "Machine") ∧ H a = some (.ins C dx [("alphabet", .ref va), ("steps", .ref ps), ("told", .ref pt)]) ∧
  H ps = some (.tup (rs.map V.ref)) ∧ rs.length = B.rows.length ∧ (∀ (i : Nat) r row, rs[i]? = some r → B.rows[i]? = some row → H r = some (.tup (ni row))) ∧ H pt = some (.tup (B.told.map V.bl))
theorem ClO.mono {B : Tab} (s : SameN H H') (h : ClO K H a va B) : ClO K H' a va B := let ⟨C, dx, ps, pt, rs, e0, e1, e2, e3, e4, e5⟩ := h
  ⟨C, dx, ps, pt, rs, e0, s _ _ e1 rfl, s _ _ e2 rfl, e3, fun i r row h1 h2 => s _ _ (e4 i r row h1 h2) rfl, s _ _ e5 rfl⟩
theorem RuO.alphabet {R : Rl} (T : Tx P K mg) (h : RuO K H a va ls R) : Fld K H a "alphabet" (.ref va) := let ⟨dx, tp, tn, cs, e, _⟩ := h; ⟨_, dx, _, e, c_Rule T, o_Rule_alphabet T, rfl⟩
theorem RuO.at_ {R : Rl} (T : Tx P K mg) (h : RuO K H a va ls R) : Fld K H a "at" (.int (R.at_ : Int)) := let ⟨dx, tp, tn, cs, e, _⟩ := h; ⟨_, dx, _, e, c_Rule T, o_Rule_at T, rfl⟩
theorem RuO.value {R : Rl} (T : Tx P K mg) (h : RuO K H a va ls R) : Fld K H a "value" (.str (Sx [ls.getD R.kd 0])) := let ⟨dx, tp, tn, cs, e, _⟩ := h; ⟨_, dx, _, e, c_Rule T, o_Rule_value T, rfl⟩
theorem RuO.left {R : Rl} (T : Tx P K mg) (h : RuO K H a va ls R) : Fld K H a "left" (.bl R.left) := let ⟨dx, tp, tn, cs, e, _⟩ := h; ⟨_, dx, _, e, c_Rule T, o_Rule_left T, rfl⟩
theorem RuO.right {R : Rl} (T : Tx P K mg) (h : RuO K H a va ls R) : Fld K H a "right" (.bl R.right) := let ⟨dx, tp, tn, cs, e, _⟩ := h; ⟨_, dx, _, e, c_Rule T, o_Rule_right T, rfl⟩
theorem RuO.bit {R : Rl} (T : Tx P K mg) (h : RuO K H a va ls R) : Fld K H a "bit" (.int ((2 ^ R.kd : Nat) : Int)) := let ⟨dx, tp, tn, cs, e, _⟩ := h; ⟨_, dx, _, e, c_Rule T, o_Rule_bit T, rfl⟩
theorem RuO.numbers {R : Rl} (T : Tx P K mg) (h : RuO K H a va ls R) : ∃ tn, Fld K H a "numbers" (.ref tn) ∧ H tn = some (.tup (ni R.pat)) := let ⟨dx, tp, tn, cs, e, _, _, _, e5⟩ := h; ⟨tn, ⟨_, dx, _, e, c_Rule T, o_Rule_numbers T, rfl⟩, e5⟩
theorem RuO.pattern {R : Rl} (T : Tx P K mg) (h : RuO K H a va ls R) : ∃ tp, ∃ cs : List Addr, Fld K H a "pattern" (.ref tp) ∧ H tp = some (.tup (cs.map V.ref)) ∧ cs.length = R.pat.length ∧ (∀ (i : Nat) c m, cs[i]? = some c → R.pat[i]? = some m → CeO K H c va ls m) :=
  let ⟨dx, tp, tn, cs, e, e2, e3, e4, e5⟩ := h; ⟨tp, cs, ⟨_, dx, _, e, c_Rule T, o_Rule_pattern T, rfl⟩, e2, e3, e4⟩
theorem ClO.alphabet {B : Tab} (T : Tx P K mg) (h : ClO K H a va B) : Fld K H a "alphabet" (.ref va) := by
  obtain ⟨C, dx, ps, pt, rs, e0, e1, e2, e3, e4, e5⟩ := h
  rcases e0 with rfl | rfl
  · exact ⟨_, dx, _, e1, c_Clue T, o_Clue_alphabet T, rfl⟩
  · exact ⟨_, dx, _, e1, c_Machine T, o_Machine_alphabet T, rfl⟩
theorem ClO.steps {B : Tab} (T : Tx P K mg) (h : ClO K H a va B) : ∃ ps, ∃ rs : List Addr, Fld K H a "steps" (.ref ps) ∧ H ps = some (.tup (rs.map V.ref)) ∧ rs.length = B.rows.length ∧ (∀ (i : Nat) r row, rs[i]? = some r → B.rows[i]? = some row → H r = some (.tup (ni row))) := by
  obtain ⟨C, dx, ps, pt, rs, e0, e1, e2, e3, e4, e5⟩ := h
  rcases e0 with rfl | rfl
  · exact ⟨ps, rs, ⟨_, dx, _, e1, c_Clue T, o_Clue_steps T, rfl⟩, e2, e3, e4⟩
  · exact ⟨ps, rs, ⟨_, dx, _, e1, c_Machine T, o_Machine_steps T, rfl⟩, e2, e3, e4⟩
theorem ClO.told {B : Tab} (T : Tx P K mg) (h : ClO K H a va B) : ∃ pt, Fld K H a "told" (.ref pt) ∧ H pt = some (.tup (B.told.map V.bl)) := by
  obtain ⟨C, dx, ps, pt, rs, e0, e1, e2, e3, e4, e5⟩ := h
  rcases e0 with rfl | rfl
  · exact ⟨pt, ⟨_, dx, _, e1, c_Clue T, o_Clue_told T, rfl⟩, e5⟩
  · exact ⟨pt, ⟨_, dx, _, e1, c_Machine T, o_Machine_told T, rfl⟩, e5⟩
end
section
variable {P : Program} {K : PySem.W.Frag} {mg : Str → Option Value}
def sp_need_values_sound (K : PySem.W.Frag) : Sp := fun vs H Q E => ∃ (a b va : Addr) (ls : List Nat), vs = [.ref a, .ref b] ∧ Fld K H a "alphabet" (.ref va) ∧ Fld K H b "alphabet" (.ref va) ∧ VaO K H va ls ∧ Q .non H
theorem F_need_values_sound {w : World} {base : Heap} (T : Tx P K mg) : FnR P w K mg base CX0 2 (a_need_values_sound K) (sp_need_values_sound K) := by
  refine fnr (f_need_values_sound T) sc_need_values_sound (fun vs H Q E h => by obtain ⟨_, _, _, _, rfl, _⟩ := h; rfl) (fun _ _ _ _ _ _ us hl => match us, hl with | [_, _], _ => rfl) fun cdv A outer s H vs Q E hr h => ?_
  refine ⟨_, (pss_one (ps_if (pt_not (pt_cmpR (op_eqOwn (F_Values_eq T) (hr.mono (by decide))) (pe_f (pv 0)) (pe_f (pv 1)) (by first | rfl | exact nomark _ | exact nobehind _ (by decide) (by decide)))) (pss_one ps_never) pss_nil)), ?_⟩
  obtain ⟨a, b, va, ls, rfl, fa, fb, hv, q⟩ := h
  exact ⟨_, rfl, a, _, rfl, fa, _, rfl, b, _, rfl, fb, va, va, rfl, rfl, hv.eq T hv, va, va, ls, rfl, hv, hv, true, rfl, iteF q⟩
theorem cg_need_values_sound {w : World} {base : Heap} (T : Tx P K mg) : Cg P w K mg base 2 "need_values_sound" (sp_need_values_sound K) := .fn (g_need_values_sound T) (k_need_values_sound T) (F_need_values_sound T)
def sp_bits_of (K : PySem.W.Frag) : Sp := fun vs H Q E => ∃ (n k : Nat), vs = [.int (n : Int), .int (k : Int)] ∧ k ≤ 4 ∧ ∀ p H', H p = none → Same H H' → H' p = some (.lst (ni ((List.range k).filter n.testBit))) → Q (.ref p) H'
theorem F_bits_of {w : World} {base : Heap} (T : Tx P K mg) : FnR P w K mg base CX0 1 (a_bits_of K) (sp_bits_of K) := by
  refine fnr (f_bits_of T) sc_bits_of (fun vs H Q E h => by obtain ⟨_, _, rfl, _⟩ := h; rfl) (fun _ _ _ _ _ _ us hl => match us, hl with | [_, _], _ => rfl) fun cdv A outer s H vs Q E hr h => ?_
  refine ⟨_, (pss_one (ps_ret (pe_lcD (own := [("k", 2)]) s H rfl sc_bits_of.nd (pi_range1 rfl (e_range T) (pa_cons (pv 1) pa_nil)) (blkOk_by (N := n_bits_of) (sc := defScope s_bits_of) (by decide +kernel)) (fun _ _ _ _ _ => (pg_name (i := 2) sc_bits_of.nd rfl (Or.inl rfl))) (fun _ _ _ _ _ => (pts_one (pt_cmpR op_eq (pe_op op_and (pe_op op_shr (pv 0) (pv 2)) pe_int) pe_int (by first | rfl | exact nomark _ | exact nobehind _ (by decide) (by decide))))) (fun _ _ _ _ _ => (pv 2))))), ?_⟩
  obtain ⟨n, k, rfl, hk, q⟩ := h
  refine ⟨_, rfl, _, rfl, by omega, by omega, fun D hD => lc_filt walk_range (fun i => .int (i : Int)) n.testBit hD (by rw [Int.toNat_natCast]; exact small1000 (by omega)) (fun _ _ => trivial) yfn_same (fun i x H1 H2 hi s1 s2 y k ky kn => ?_) fun H2 s hD2 => ?_⟩
  · obtain ⟨rfl, rfl⟩ := y
    refine ⟨rfl, _, rfl, _, rfl, _, _, rfl, rfl, by omega, _, _, rfl, rfl, rfl, _, rfl, ?_⟩
    refine ifb (c := n.testBit i) ?_ (fun hb => ?_) fun hb => kn _ hb (srf _)
    · show decide (V.int (Builtin.bitAnd ((n : Int) / 2 ^ ((0 + (i : Int)).toNat)) 1) = V.int 1) = _
      rw [Int.zero_add, bit_is]
      cases n.testBit i <;> rfl
    · obtain ⟨acc, hd, hl, hk⟩ := ky _ hb (srf _)
      refine ⟨_, rfl, acc, hd, hl, ?_⟩
      show k (upd H2 D (.lst (acc ++ [V.int (0 + (i : Int))])))
      rw [Int.zero_add]
      exact hk
  · rw [Int.toNat_natCast] at hD2
    exact q D H2 hD s hD2
theorem cg_bits_of {w : World} {base : Heap} (T : Tx P K mg) : Cg P w K mg base 1 "bits_of" (sp_bits_of K) := .fn (g_bits_of T) (k_bits_of T) (F_bits_of T)
theorem ClO.row {H : Hp} {a va : Addr} {B : Tab} {k s c : Nat} (T : Tx P K mg) (h : ClO K H a va B) (ok : TabOk k B) (hs : s < B.n) (hc : c < k) : ∃ ps r, ∃ rs : List Addr, Fld K H a "steps" (.ref ps) ∧ H ps = some (.tup (rs.map V.ref)) ∧ (rs.map V.ref)[s]? = some (.ref r) ∧
    H r = some (.tup (ni (B.rows.getD s []))) ∧ (ni (B.rows.getD s []))[c]? = some (.int (B.st s c : Nat)) := by
  obtain ⟨ps, rs, f, h1, h2, h3⟩ := h.steps T
  have e1 : rs[s]? = some (rs[s]'(by rw [h2]; exact hs)) := List.getElem?_eq_getElem _
  have e2 : B.rows[s]? = some (B.rows.getD s []) := by rw [List.getD_eq_getElem?_getD, List.getElem?_eq_getElem (show s < B.rows.length from hs)]; rfl
  refine ⟨ps, _, rs, f, h1, by rw [List.getElem?_map, e1]; rfl, h3 s _ _ e1 e2, ?_⟩
  refine ni_get ?_
  have hw : (B.rows.getD s []).length = k := ok.wide _ (List.mem_of_getElem? e2)
  exact getD_some (by rw [hw]; exact hc)
def sp_is_told (K : PySem.W.Frag) : Sp := fun vs H Q E => ∃ (a ts va : Addr) (B : Tab) (k : Nat) (S : List Nat), vs = [.ref a, .ref ts] ∧ ClO K H a va B ∧ TabOk k B ∧ H ts = some (.tup (ni S)) ∧ S.length ≤ 1000 ∧ (∀ s ∈ S, s < B.n) ∧ ∀ H', Same H H' → Q (.bl (S.any B.at_)) H'
theorem at_of {B : Tab} {k s : Nat} (ok : TabOk k B) (h : s < B.n) : (B.told.map V.bl)[s]? = some (.bl (B.at_ s)) := by
  rw [List.getElem?_map]
  unfold Tab.at_
  rw [List.getD_eq_getElem?_getD, List.getElem?_eq_getElem (by rw [ok.told]; exact h)]
  rfl
theorem map_range {xs : List V} {α : Type} {l : List α} {f : α → V} (h : ∀ (i : Nat) v, xs[i]? = some v → ∃ y, l[i]? = some y ∧ v = f y) (hl : xs.length = l.length) : xs = l.map f := by
  refine List.ext_getElem? fun i => ?_
  rw [List.getElem?_map]
  rcases Nat.lt_or_ge i xs.length with hi | hi
  · obtain ⟨y, e, e2⟩ := h i _ (List.getElem?_eq_getElem hi)
    rw [List.getElem?_eq_getElem hi, e, e2]
    rfl
  · rw [List.getElem?_eq_none hi, List.getElem?_eq_none (by omega)]
    rfl
theorem F_is_told {w : World} {base : Heap} (T : Tx P K mg) : FnR P w K mg base CX0 1 (a_is_told K) (sp_is_told K) := by
  refine fnr (f_is_told T) sc_is_told (fun vs H Q E h => by obtain ⟨_, _, _, _, _, _, rfl, _⟩ := h; rfl) (fun _ _ _ _ _ _ us hl => match us, hl with | [_, _], _ => rfl) fun cdv A outer s H vs Q E hr h => ?_
  refine ⟨_, (pss_one (ps_ret (pe_callB (cr_any rfl) rfl (e_any T) boot_any (pa_cons (pe_lcD (own := [("state", 2)]) s H rfl sc_is_told.nd (pi_tup (pv 1)) (blkOk_by (N := n_is_told) (sc := defScope s_is_told) (by decide +kernel)) (fun _ _ _ _ _ => (pg_name (i := 2) sc_is_told.nd rfl (Or.inl rfl))) (fun _ _ _ _ _ => pts_nil) (fun _ _ _ _ _ => (pe_ix ix_tup (pe_f (pv 0)) (pv 2) (fun _ _ => rfl)))) pa_nil)))), ?_⟩
  obtain ⟨a, ts, va, B, k, S, rfl, hc, ok, hts, hl, hS, q⟩ := h
  have h10 : (ni S).length ≤ 1000 := by rw [ni_len]; exact hl
  refine ⟨_, rfl, ts, rfl, ⟨_, SqT.of hts⟩, fun D hD => lc_each (walk_tup (xs := ni S)) (fun i v _ => ∃ s, S[i]? = some s ∧ v = .bl (B.at_ s)) (fun _ _ _ _ _ h => h) hD (small1000 h10) (fun H s => SqT.of (s _ _ hts)) yat_same (fun i x H1 H2 hi s1 s2 y kk kn => ?_) fun H2 acc s hD2 hla hR => ?_⟩
  · obtain ⟨rfl, hx⟩ := y
    obtain ⟨n, hn, rfl⟩ := ni_of hx
    obtain ⟨pt, f, hpt⟩ := (hc.mono (sn s2)).told T
    refine ⟨rfl, _, rfl, a, _, rfl, f, _, rfl, pt, _, _, _, rfl, rfl, SqT.of hpt, atI_nat (at_of ok (hS n (List.mem_of_getElem? hn))), kn _ _ (srf _) ⟨n, hn, rfl⟩⟩
  · refine ⟨D, S.map B.at_, rfl, SqL.of ?_, ?_⟩
    · rw [hD2, List.map_map, map_range (f := V.bl ∘ B.at_) hR (by rw [hla, ni_len])]
    · have e : (S.map B.at_).any id = S.any B.at_ := by rw [List.any_map]; rfl
      have q' := q H2 s
      rw [← e] at q'
      exact q'
theorem cg_is_told {w : World} {base : Heap} (T : Tx P K mg) : Cg P w K mg base 1 "is_told" (sp_is_told K) := .fn (g_is_told T) (k_is_told T) (F_is_told T)
/-- sorted(set(xs)) -/
theorem setsort {w : World} {H : Hp} {l : Addr} {L : List Nat} {k : VK} (hl : SqL K H l (ni L) ∨ SqT K H l (ni L)) (hlen : L.length ≤ 4000) (h60 : ∀ t ∈ L, t < 60)
    (q : ∀ (p : Addr) (S' : List Nat) H', H p = none → Same H H' → H' p = some (.lst (ni S')) → S'.Pairwise (· < ·) → (∀ t, t ∈ S' ↔ t ∈ L) → k (.ref p) H') :
    rSetOf K w [.ref l] H fun x H2 => rSortedSet w [x] H2 k := by
  refine ⟨l, L.map fun n : Nat => (n : Int), rfl, by rw [← ni_int]; exact hl, by rw [List.length_map]; exact hlen, fun ks p nd hk hp => ⟨p, _, _, rfl, upd_same, ?_, fun ns r hs hn hnl hr => ?_⟩⟩
  · have e : (ks.map Int.toNat).length = ks.length := List.length_map _
    have hk' : ∀ k ∈ ks, ∃ t : Nat, t ∈ L ∧ (t : Int) = k := fun k h => by
      obtain ⟨t, ht, e⟩ := List.mem_map.mp ((hk k).mp h)
      exact ⟨t, ht, e⟩
    have := nodup_len 60 (ks.map Int.toNat) (by
      refine List.Pairwise.map _ ?_ (List.Pairwise.and_mem.mp nd)
      rintro a b ⟨ha, hb, ne⟩ z
      obtain ⟨t, _, rfl⟩ := hk' a ha
      obtain ⟨u, _, rfl⟩ := hk' b hb
      simp at z
      exact ne (by rw [z])) fun a ha => by
        obtain ⟨b, hb, rfl⟩ := List.mem_map.mp ha
        obtain ⟨t, ht, rfl⟩ := hk' b hb
        simp
        exact h60 t ht
    omega
  · have hn' : ∀ k ∈ ns, ∃ t : Nat, t ∈ L ∧ (t : Int) = k := fun k h => by
      have h1 := (hn k).mp h
      obtain ⟨t, ht, e⟩ := List.mem_map.mp ((hk k).mp (by simpa using h1))
      exact ⟨t, ht, e⟩
    have e : ns.map V.int = ni (ns.map Int.toNat) := by
      unfold ni
      rw [List.map_map]
      refine List.map_congr_left fun k hk => ?_
      obtain ⟨t, _, rfl⟩ := hn' k hk
      rfl
    refine q r (ns.map Int.toNat) _ (snone (Same.new hp) hr) (str (Same.new hp) (Same.new hr)) (by rw [upd_same, e]) ?_ fun u => ?_
    · refine List.Pairwise.map _ ?_ (List.Pairwise.and_mem.mp hs)
      rintro a b ⟨ha, hb, lt⟩
      obtain ⟨t, _, rfl⟩ := hn' a ha
      obtain ⟨u, _, rfl⟩ := hn' b hb
      simp
      omega
    · rw [List.mem_map]
      constructor
      · rintro ⟨k, hk1, rfl⟩
        obtain ⟨t, ht, rfl⟩ := hn' k hk1
        simpa using ht
      · intro hu
        refine ⟨u, (hn u).mpr ?_, by simp⟩
        have := (hk u).mpr (List.mem_map.mpr ⟨u, hu, rfl⟩)
        simpa using this
/-- tuple(sorted(set(xs))) -/
theorem sset {w : World} {H : Hp} {l : Addr} {L : List Nat} {Q : VK} (hl : SqL K H l (ni L) ∨ SqT K H l (ni L)) (hlen : L.length ≤ 4000) (h60 : ∀ t ∈ L, t < 60)
    (q : ∀ (p : Addr) (S' : List Nat) H', H p = none → Same H H' → H' p = some (.tup (ni S')) → S'.Pairwise (· < ·) → (∀ t, t ∈ S' ↔ t ∈ L) → Q (.ref p) H') :
    rSetOf K w [.ref l] H fun x H2 => rSortedSet w [x] H2 fun y H3 => ∃ p ys, [y] = [V.ref p] ∧ ((SqL K H3 p ys ∧ ∀ l, H3 l = none → Q (.ref l) (upd H3 l (.tup ys))) ∨ (SqT K H3 p ys ∧ Q (.ref p) H3)) :=
  setsort hl hlen h60 fun p S' H' h1 h2 h3 h4 h5 => ⟨p, _, rfl, .inl ⟨SqL.of h3, fun t ht => q t S' _ (snone h2 ht) (str h2 (Same.new ht)) upd_same h4 h5⟩⟩
def sp_steps_by (K : PySem.W.Frag) : Sp := fun vs H Q E => ∃ (a ts va : Addr) (ls : List Nat) (B : Tab) (S : List Nat) (n : Nat), vs = [.ref a, .ref ts, .int (n : Int)] ∧ VaO K H va ls ∧ ls.length ≤ 4 ∧ ClO K H a va B ∧ TabOk ls.length B ∧ B.n ≤ 60 ∧ H ts = some (.tup (ni S)) ∧ S.length ≤ 60 ∧ (∀ s ∈ S, s < B.n) ∧
  ∀ (p : Addr) (S' : List Nat) H', H p = none → Same H H' → H' p = some (.tup (ni S')) → S'.Pairwise (· < ·) → (∀ t, t ∈ S' ↔ ∃ s ∈ S, ∃ c, c < ls.length ∧ n.testBit c = true ∧ B.st s c = t) → Q (.ref p) H'
theorem F_steps_by {w : World} {base : Heap} (T : Tx P K mg) : FnR P w K mg base CX0 3 (a_steps_by K) (sp_steps_by K) := by
  refine fnr (f_steps_by T) sc_steps_by (fun vs H Q E h => by obtain ⟨_, _, _, _, _, _, _, rfl, _⟩ := h; rfl) (fun _ _ _ _ _ _ us hl => match us, hl with | [_, _, _], _ => rfl) fun cdv A outer s H vs Q E hr h => ?_
  refine ⟨_, (pss_cons (ps_set (i := 3) sc_steps_by.nd rfl (Or.inr rfl) (pe_g (cg_bits_of T) (hr.mono (by decide)) (pa_cons (pv 2) (pa_cons (pe_callB (call_lenOwn (F_Values_len T) (hr.mono (by decide))) rfl (e_len T) boot_len (pa_cons (pe_f (pv 0)) pa_nil)) pa_nil))))
  (pss_one (ps_ret (pe_callTy call_tuple_of rfl (e_tuple T) boot_tuple (pa_cons (pe_callB (cr_sortedSet rfl) rfl (e_sorted T) boot_sorted (pa_cons (pe_callTy (cr_setOf rfl) rfl (e_set T) boot_set (pa_cons (pe_lc2D (own := [("state", 4), ("kind", 5)]) (vs1 := [5]) s H rfl sc_steps_by.nd (pi_tup (pv 1)) (blkOk_by (N := n_steps_by) (sc := defScope s_steps_by) (by decide +kernel)) (by decide) (fun _ _ _ _ _ => (pg_name (i := 4) sc_steps_by.nd rfl (Or.inl rfl))) (fun _ _ _ _ _ => pts_nil) (fun _ _ _ _ _ => (pi_list (pv 3))) (fun _ _ _ _ _ => (pg_name (i := 5) sc_steps_by.nd rfl (Or.inl rfl))) (fun _ _ _ _ _ => pts_nil) (fun _ _ _ _ _ => (pe_ix ix_tup (pe_ix ix_tup (pe_f (pv 0)) (pv 4) (fun _ _ => rfl)) (pv 5) (fun _ _ => rfl)))) pa_nil)) pa_nil)) pa_nil))))), ?_⟩
  obtain ⟨a, ts, va, ls, B, S, n, rfl, hv, h4, hc, ok, h60, hts, hl, hS, q⟩ := h
  refine ⟨_, rfl, _, rfl, a, _, rfl, hc.alphabet T, va, rfl, hv.len T, va, ls, rfl, hv, h4, _, rfl, Nat.le_of_lt (small1000 (by omega)), n, ls.length, rfl, h4, fun kp H1 hkp s1 hks => ?_⟩
  have hkl : ((List.range ls.length).filter n.testBit).length ≤ 4 := Nat.le_trans (List.length_filter_le _ _) (by rw [List.length_range]; exact h4)
  have hb : S.length * ((List.range ls.length).filter n.testBit).length ≤ 60 * 4 := Nat.mul_le_mul hl hkl
  refine ⟨_, rfl, ts, rfl, ⟨_, SqT.of (s1 _ _ hts)⟩, fun D hD => lc2_out (walk_tup (xs := ni S)) (fun i => ((List.range ls.length).filter n.testBit).map fun c => V.int (B.st (S.getD i 0) c : Nat)) ((List.range ls.length).filter n.testBit).length hD ?_ (fun i _ => by rw [List.length_map]; exact Nat.le_refl _) (fun H s => SqT.of (s _ _ (s1 _ _ hts))) yat_same (fun i x H2 H3 hi s2 s3 y Nx accs hDa hla hnx => ?_) fun H2 s hD2 => ?_⟩
  · rw [ni_len]
    have : 1000 ≤ sizeLine := by decide
    omega
  · obtain ⟨rfl, hx⟩ := y
    obtain ⟨u, hu, rfl⟩ := ni_of hx
    have hDl : ∀ o, H3 D = some o → fixO o = false := fun o e => by rw [hDa] at e; cases e; rfl
    have eu : S.getD i 0 = u := by rw [List.getD_eq_getElem?_getD, hu]; rfl
    refine ⟨rfl, _, rfl, kp, rfl, ⟨_, SqL.of (s3 _ _ hks)⟩, lc2_in (walk_list (xs := ni ((List.range ls.length).filter n.testBit))) (fun j => V.int (B.st (S.getD i 0) (((List.range ls.length).filter n.testBit).getD j 0) : Nat)) hDa (by rw [ni_len]; exact hla) (fun H s => SqL.of (s _ _ (ne_of_none hks hD) (s3 _ _ hks))) yat_same (fun j x H4 H5 hj s4 s5 y k kk => ?_) fun H5 s5 hD5 => hnx H5 s5 ?_⟩
    · obtain ⟨rfl, hx⟩ := y
      obtain ⟨c, hcc, rfl⟩ := ni_of hx
      have hck : c < ls.length := by
        have := List.mem_of_getElem? hcc
        rw [List.mem_filter, List.mem_range] at this
        exact this.1
      obtain ⟨ps, r, rs, f, h1, h2, h3, h5⟩ := (hc.mono (snt (sn (str s1 s3)) (snp s4 hDl))).row T ok (hS u (List.mem_of_getElem? hu)) hck
      have ec : ((List.range ls.length).filter n.testBit).getD j 0 = c := by rw [List.getD_eq_getElem?_getD, hcc]; rfl
      rw [eu, ec] at kk
      exact ⟨rfl, _, rfl, a, _, rfl, f, _, rfl, ps, _, _, _, rfl, rfl, SqT.of h1, atI_nat h2, _, rfl, r, _, _, _, rfl, rfl, SqT.of h3, atI_nat h5, kk _ (srf _)⟩
    · rw [hD5, ni_len, map_getD (fun c => V.int (B.st (S.getD i 0) c : Nat))]
  · have e : H2 D = some (.lst (ni (S.flatMap fun t => ((List.range ls.length).filter n.testBit).map fun c => B.st t c))) := by
      rw [hD2, ni_len, fmap_getD (fun t => ((List.range ls.length).filter n.testBit).map fun c => V.int (B.st t c : Nat))]
      unfold ni
      rw [List.map_flatMap]
      simp only [List.map_map]
      rfl
    have hlen : (S.flatMap fun t => ((List.range ls.length).filter n.testBit).map fun c => B.st t c).length ≤ 240 := by
      have : ∀ l : List Nat, (l.flatMap fun t => ((List.range ls.length).filter n.testBit).map fun c => B.st t c).length = l.length * ((List.range ls.length).filter n.testBit).length := fun l => by
        induction l with
        | nil => simp
        | cons a l ih => rw [List.flatMap_cons, List.length_append, ih, List.length_map, List.length_cons, Nat.succ_mul, Nat.add_comm]
      rw [this]
      exact hb
    have hmem : ∀ t, t ∈ (S.flatMap fun t => ((List.range ls.length).filter n.testBit).map fun c => B.st t c) ↔ ∃ s ∈ S, ∃ c, c < ls.length ∧ n.testBit c = true ∧ B.st s c = t := fun t => by
      simp only [List.mem_flatMap, List.mem_map, List.mem_filter, List.mem_range]
      constructor
      · rintro ⟨s, hs, c, ⟨h1, h2⟩, h3⟩
        exact ⟨s, hs, c, h1, h2, h3⟩
      · rintro ⟨s, hs, c, h1, h2, h3⟩
        exact ⟨s, hs, c, ⟨h1, h2⟩, h3⟩
    generalize (S.flatMap fun t => ((List.range ls.length).filter n.testBit).map fun c => B.st t c) = L at e hlen hmem
    refine sset (.inl (SqL.of e)) (by omega) (fun t ht => ?_) fun p S' H3 hp s3 e3 hs hm => ?_
    · obtain ⟨u, hu, c, hc1, _, rfl⟩ := (hmem t).mp ht
      have := ok.st_lt (hS u hu) hc1
      omega
    · exact q p S' H3 (snone (str s1 s) hp) (str s1 (str s s3)) e3 hs fun t => (hm t).trans (hmem t)
theorem cg_steps_by {w : World} {base : Heap} (T : Tx P K mg) : Cg P w K mg base 3 "steps_by" (sp_steps_by K) := .fn (g_steps_by T) (k_steps_by T) (F_steps_by T)
/-! ### tuples of ints as data -/
def dpi (l : List Nat) : List PyData := l.map fun n : Nat => PyData.int (n : Int)
theorem dp_all {H : Hp} : ∀ (l : List Nat), DpAll K H (ni l) (dpi l)
  | [] => .nil
  | n :: l => .cons (.int n) (dp_all l)
theorem dpi_lay : ∀ l : List Nat, PyData.canLayAll0 (dpi l) = true
  | [] => rfl
  | n :: l => by
    show (PyData.canLay0 (.int n) && PyData.canLayAll0 (dpi l)) = true
    rw [dpi_lay l]
    rfl
theorem dpi_depth : ∀ l : List Nat, PyData.depthAll (dpi l) = 0
  | [] => rfl
  | n :: l => by
    show max (PyData.depth (.int n)) (PyData.depthAll (dpi l)) = 0
    rw [dpi_depth l]
    rfl
theorem dpi_shaped (l : List Nat) : SeqAt.shaped (.tuple (dpi l)) = true := by
  show ((PyData.canLayAll0 (dpi l)) && decide (PyData.depthAll (dpi l) + 1 ≤ 64)) = true
  rw [dpi_lay, dpi_depth]
  rfl
theorem dpi_eqv : ∀ l m : List Nat, PyData.eqvAll (dpi l) (dpi m) = decide (l = m)
  | [], [] => rfl
  | [], _ :: _ => rfl
  | _ :: _, [] => rfl
  | a :: l, b :: m => by
    show ((a : Int) == (b : Int) && PyData.eqvAll (dpi l) (dpi m)) = _
    rw [dpi_eqv l m, Bool.eq_iff_iff]
    simp
    intro _
    omega
theorem dp_tup {H : Hp} {p : Addr} {l : List Nat} (h : H p = some (.tup (ni l))) : Dp K H (.ref p) (.tuple (dpi l)) := .tup (SqT.of h) (dp_all l)
/-- xs + ys, tuples of ints -/
theorem cat_ni {H : Hp} {f p : Addr} {F M : List Nat} {k : VK} (hf : H f = some (.tup (ni F))) (hp : H p = some (.tup (ni M))) (hl : F.length + M.length ≤ 1000)
    (q : ∀ (r : Addr) (L : List Nat) H', Same H H' → H' r = some (.tup (ni L)) → L.length ≤ 1000 → (∀ t, t ∈ L ↔ t ∈ F ∨ t ∈ M) → k (.ref r) H') : rCatA K (.ref f) (.ref p) H k := by
  have sz : 1000 ≤ sizeLine := by decide
  refine ⟨f, p, _, _, rfl, rfl, SqT.of hf, SqT.of hp, by rw [ni_len, ni_len]; omega, fun e => ?_, fun _ e => ?_, fun _ _ r hr => ?_⟩
  · have e : F = [] := List.map_eq_nil_iff.mp e
    subst e
    exact q p M H (srf _) hp (by omega) fun t => by simp
  · have e : M = [] := List.map_eq_nil_iff.mp e
    subst e
    exact q f F H (srf _) hf (by omega) fun t => by simp
  · have e : ni F ++ ni M = ni (F ++ M) := by unfold ni; rw [List.map_append]
    rw [e]
    exact q r (F ++ M) _ (Same.new hr) upd_same (by rw [List.length_append]; omega) fun t => List.mem_append
theorem full_bit {k c : Nat} (h : c < k) : (2 ^ k - 1).testBit c = true := by
  rw [Nat.testBit_two_pow_sub_one, decide_eq_true h]
/-- how long the tuple in slot i is -/
def lenAt (σ : L2.St) (i : Nat) (H : Hp) : Nat := match σ[i]? with
  | some (some (.ref p)) => (match H p with
    | some (.tup xs) => xs.length
    | _ => 0)
  | _ => 0
def sp_closed (K : PySem.W.Frag) : Sp := fun vs H Q E => ∃ (a ts va : Addr) (ls : List Nat) (B : Tab) (s : Nat), vs = [.ref a, .ref ts] ∧ VaO K H va ls ∧ ls.length ≤ 4 ∧ ClO K H a va B ∧ TabOk ls.length B ∧ B.n ≤ 60 ∧ H ts = some (.tup (ni [s])) ∧ s < B.n ∧
  ∀ (p : Addr) (S' : List Nat) H', Same H H' → H' p = some (.tup (ni S')) → S'.length ≤ 60 → (∀ t, t ∈ S' ↔ Reach ls.length B [s] t) → Q (.ref p) H'
theorem F_closed {w : World} {base : Heap} (T : Tx P K mg) : FnR P w K mg base CX0 4 (a_closed K) (sp_closed K) := by
  refine fnr (f_closed T) sc_closed (fun vs H Q E h => by obtain ⟨_, _, _, _, _, _, rfl, _⟩ := h; rfl) (fun _ _ _ _ _ _ us hl => match us, hl with | [_, _], _ => rfl) fun cdv A outer s H vs Q E hr h => ?_
  refine ⟨_, (pss_cons (ps_set (i := 2) sc_closed.nd rfl (Or.inl rfl) (pe_op op_sub (pe_op op_shl pe_int (pe_callB (call_lenOwn (F_Values_len T) (hr.mono (by decide))) rfl (e_len T) boot_len (pa_cons (pe_f (pv 0)) pa_nil))) pe_int))
  (pss_cons (ps_set (i := 3) sc_closed.nd rfl (Or.inl rfl) (pe_callTy call_tuple_of rfl (e_tuple T) boot_tuple (pa_cons (pv 1) pa_nil)))
  (pss_cons (ps_set (i := 4) sc_closed.nd rfl (Or.inl rfl) (pe_callTy call_tuple_of rfl (e_tuple T) boot_tuple (pa_cons (pe_callB (cr_sortedSet rfl) rfl (e_sorted T) boot_sorted (pa_cons (pe_callTy (cr_setOf rfl) rfl (e_set T) boot_set (pa_cons (pe_op op_catA (pv 3) (pe_g (cg_steps_by T) (hr.mono (by decide)) (pa_cons (pv 0) (pa_cons (pv 3) (pa_cons (pv 2) pa_nil))))) pa_nil)) pa_nil)) pa_nil)))
  (pss_cons (ps_while PassesOwn.never (pt_cmpR (op_neD (hu64 hr)) (pv 4) (pv 3) (by first | rfl | exact nomark _ | exact nobehind _ (by decide) (by decide)))
  (pss_cons (ps_set (i := 3) sc_closed.nd rfl (Or.inl rfl) (pv 4))
  (pss_one (ps_set (i := 4) sc_closed.nd rfl (Or.inl rfl) (pe_callTy call_tuple_of rfl (e_tuple T) boot_tuple (pa_cons (pe_callB (cr_sortedSet rfl) rfl (e_sorted T) boot_sorted (pa_cons (pe_callTy (cr_setOf rfl) rfl (e_set T) boot_set (pa_cons (pe_op op_catA (pv 3) (pe_g (cg_steps_by T) (hr.mono (by decide)) (pa_cons (pv 0) (pa_cons (pv 3) (pa_cons (pv 2) pa_nil))))) pa_nil)) pa_nil)) pa_nil))))))
  (pss_one (ps_ret (pv 3))))))), ?_⟩
  obtain ⟨a, ts, va, ls, B, s0, rfl, hv, h4, hc, ok, h60, hts, hs0, q⟩ := h
  have hS : ∀ u ∈ [s0], u < B.n := fun u hu => by rw [List.mem_singleton] at hu; exact hu ▸ hs0
  have efull : ((1 : Int) * 2 ^ ((ls.length : Int).toNat) - 1) = ((2 ^ ls.length - 1 : Nat) : Int) := by
    rw [Int.toNat_natCast, Int.one_mul, Int.natCast_sub (Nat.one_le_two_pow)]
    push_cast
    rfl
  have h0 : ClosedI ls.length B [s0] [s0] := ⟨List.pairwise_singleton _ _, fun _ h => h, fun t ht => ⟨t, ht, [], fun a ha => (nomatch ha), rfl⟩⟩
  refine ⟨_, rfl, a, _, rfl, hc.alphabet T, va, rfl, hv.len T, va, ls, rfl, hv, h4, _, rfl, Nat.le_of_lt (small1000 (by omega)), _, _, rfl, rfl, ⟨Int.natCast_nonneg _, by omega, by decide⟩, _, _, rfl, rfl, ?_⟩
  refine ⟨_, rfl, ts, _, rfl, .inr ⟨SqT.of hts, ?_⟩⟩
  have low1 : ∀ {F S1 : List Nat}, ClosedI ls.length B [s0] F → (∀ t, t ∈ S1 ↔ ∃ s ∈ F, ∃ c, c < ls.length ∧ (2 ^ ls.length - 1).testBit c = true ∧ B.st s c = t) → ∀ t ∈ S1, t < B.n := fun hF hm t ht => by
    obtain ⟨u, hu, c, hc, _, e⟩ := (hm t).mp ht
    exact e ▸ ok.st_lt (hF.low ok hS u hu) hc
  have stp : ∀ {F S1 L M : List Nat}, (∀ t, t ∈ S1 ↔ ∃ s ∈ F, ∃ c, c < ls.length ∧ (2 ^ ls.length - 1).testBit c = true ∧ B.st s c = t) → (∀ t, t ∈ L ↔ t ∈ F ∨ t ∈ S1) → M.Pairwise (· < ·) → (∀ t, t ∈ M ↔ t ∈ L) → Step ls.length B F M := fun h1 h2 h3 h4 => ⟨h3, fun t => by
    rw [h4, h2, h1]
    constructor
    · rintro (h | ⟨s, hs, c, hc, _, e⟩)
      · exact .inl h
      · exact .inr ⟨s, hs, c, hc, e⟩
    · rintro (h | ⟨s, hs, c, hc, e⟩)
      · exact .inl h
      · exact .inr ⟨s, hs, c, hc, full_bit hc, e⟩⟩
  have l60 : ∀ {F S1 L : List Nat}, ClosedI ls.length B [s0] F → (∀ t, t ∈ S1 ↔ ∃ s ∈ F, ∃ c, c < ls.length ∧ (2 ^ ls.length - 1).testBit c = true ∧ B.st s c = t) → (∀ t, t ∈ L ↔ t ∈ F ∨ t ∈ S1) → ∀ t ∈ L, t < 60 := fun hF h1 h2 t ht => by
    rcases (h2 t).mp ht with h | h
    · have := hF.low ok hS t h
      omega
    · have := low1 hF h1 t h
      omega
  have cl : ∀ {F S1 : List Nat}, ClosedI ls.length B [s0] F → S1.Pairwise (· < ·) → (∀ t, t ∈ S1 ↔ ∃ s ∈ F, ∃ c, c < ls.length ∧ (2 ^ ls.length - 1).testBit c = true ∧ B.st s c = t) → F.length + S1.length ≤ 1000 := fun hF hs hm => by
    have := hF.len ok hS
    have := nodup_len B.n _ (sorted_nodup hs) (low1 hF hm)
    omega
  have wh : ∀ (fu : V), fu = .int ((2 ^ ls.length - 1 : Nat) : Int) → V.int (1 * 2 ^ ((ls.length : Int).toNat) - 1) = fu := fun fu e => by rw [efull, e]
  refine ⟨_, rfl, _, rfl, _, rfl, _, rfl, a, ts, va, ls, B, [s0], 2 ^ ls.length - 1, ?_, hv, h4, hc, ok, h60, hts, by show 1 ≤ 60; decide, hS, fun p S1 H1 hp s1 e1 hs1 hm1 => ?_⟩
  · show [V.ref a, V.ref ts, V.int (1 * 2 ^ ((ls.length : Int).toNat) - 1)] = _
    rw [efull]
  refine cat_ni (s1 _ _ hts) e1 (cl h0 hs1 hm1) fun r L H2 s2 e2 hl hm2 => ?_
  dsimp only [tNil]
  refine setsort (.inr (SqT.of e2)) (by omega) (l60 h0 hm1 hm2) fun sp M H3 _ s3 e3 hs3 hm3 => ⟨sp, _, rfl, .inl ⟨SqL.of e3, fun t ht => ?_⟩⟩
  have st := stp hm1 hm2 hs3 hm3
  have sA := str (str s1 s2) (str s3 (Same.new (o := .tup (ni M)) ht))
  refine while_by (fun σ H' => ∃ (fu : V) (fp mp : Addr) (F M : List Nat), fu = .int ((2 ^ ls.length - 1 : Nat) : Int) ∧ σ = [.some (.ref a), .some (.ref ts), .some fu, .some (.ref fp), .some (.ref mp)] ∧ Same H H' ∧ H' fp = some (.tup (ni F)) ∧ H' mp = some (.tup (ni M)) ∧ ClosedI ls.length B [s0] F ∧ Step ls.length B F M)
    (fun σ H' => B.n - lenAt σ 3 H') ⟨_, ts, t, [s0], M, wh _ rfl, rfl, sA, sA _ _ hts, upd_same, h0, st⟩ ?_ ?_
  · rintro σ H4 ⟨fu, fp, mp, F, M, rfl, rfl, s4, e4, e5, hF, st⟩
    refine ⟨_, rfl, _, rfl, _, _, dp_tup e5, dp_tup e4, dpi_shaped M, dpi_shaped F, _, rfl, ?_⟩
    refine ifb (c := !decide (M = F)) (by show (!PyData.eqvAll (dpi M) (dpi F)) = _; rw [dpi_eqv]) (fun hne => ?_) fun he => ⟨_, rfl, q fp F H4 s4 e4 (by have := hF.len ok hS; omega) ?_⟩
    · have ne : M ≠ F := by simpa using hne
      have hM := hF.next st
      refine ⟨_, rfl, _, rfl, _, rfl, _, rfl, _, rfl, a, mp, va, ls, B, M, 2 ^ ls.length - 1, rfl, hv.mono (sn s4), h4, hc.mono (sn s4), ok, h60, e5, by have := hM.len ok hS; omega, hM.low ok hS, fun p S1 H5 hp s5 e6 hs1 hm1 => ?_⟩
      refine cat_ni (s5 _ _ e5) e6 (cl hM hs1 hm1) fun r L H6 s6 e7 hl hm2 => ?_
      dsimp only [tNil]
      refine setsort (.inr (SqT.of e7)) (by omega) (l60 hM hm1 hm2) fun sp M2 H7 _ s7 e8 hs3 hm3 => ⟨sp, _, rfl, .inl ⟨SqL.of e8, fun t ht => ?_⟩⟩
      have st2 := stp hm1 hm2 hs3 hm3
      have sB := str (str s5 s6) (str s7 (Same.new (o := .tup (ni M2)) ht))
      refine ⟨⟨_, mp, t, M, M2, rfl, rfl, str s4 sB, sB _ _ e5, upd_same, hM, st2⟩, ?_⟩
      have g := hF.grow st ne
      have g2 := hM.len ok hS
      have l1 : lenAt [.some (.ref a), .some (.ref ts), .some (.int ((2 ^ ls.length - 1 : Nat) : Int)), .some (.ref fp), .some (.ref mp)] 3 H4 = F.length := by
        show (match H4 fp with | some (.tup xs) => xs.length | _ => 0) = _
        rw [e4]
        exact ni_len
      have l2 : lenAt [.some (.ref a), .some (.ref ts), .some (.int ((2 ^ ls.length - 1 : Nat) : Int)), .some (.ref mp), .some (.ref t)] 3 (upd H7 t (.tup (ni M2))) = M.length := by
        show (match upd H7 t (.tup (ni M2)) mp with | some (.tup xs) => xs.length | _ => 0) = _
        rw [sB _ _ e5]
        exact ni_len
      have goal : B.n - lenAt [.some (.ref a), .some (.ref ts), .some (.int ((2 ^ ls.length - 1 : Nat) : Int)), .some (.ref mp), .some (.ref t)] 3 (upd H7 t (.tup (ni M2))) < B.n - lenAt [.some (.ref a), .some (.ref ts), .some (.int ((2 ^ ls.length - 1 : Nat) : Int)), .some (.ref fp), .some (.ref mp)] 3 H4 := by
        rw [l1, l2]
        omega
      exact goal
    · have e : M = F := by simpa using he
      subst e
      exact hF.fin st
  · rintro σ H Q Q' hq ⟨v, hv, u, hu, d, e, h1, h2, h3, h4, k, ek, qq⟩
    exact ⟨v, hv, u, hu, d, e, h1, h2, h3, h4, k, ek, hq _ _ qq⟩
theorem cg_closed {w : World} {base : Heap} (T : Tx P K mg) : Cg P w K mg base 4 "closed" (sp_closed K) := .fn (g_closed T) (k_closed T) (F_closed T)
open Classical in
def sp_lost_states (K : PySem.W.Frag) : Sp := fun vs H Q E => ∃ (a va : Addr) (ls : List Nat) (B : Tab), vs = [.ref a] ∧ VaO K H va ls ∧ ls.length ≤ 4 ∧ ClO K H a va B ∧ TabOk ls.length B ∧ B.n ≤ 60 ∧
  ∀ (p : Addr) (S' : List Nat) H', Same H H' → H' p = some (.tup (ni S')) → S'.length ≤ 60 → (∀ t, t ∈ S' ↔ t < B.n ∧ Lost ls.length B t) → Q (.ref p) H'
theorem F_lost_states {w : World} {base : Heap} (T : Tx P K mg) : FnR P w K mg base CX0 5 (a_lost_states K) (sp_lost_states K) := by
  refine fnr (f_lost_states T) sc_lost_states (fun vs H Q E h => by obtain ⟨_, _, _, _, rfl, _⟩ := h; rfl) (fun _ _ _ _ _ _ us hl => match us, hl with | [_], _ => rfl) fun cdv A outer s H vs Q E hr h => ?_
  refine ⟨_, (pss_one (ps_ret (pe_callTy call_tuple_of rfl (e_tuple T) boot_tuple (pa_cons (pe_lcD (own := [("state", 1)]) s H rfl sc_lost_states.nd (pi_range1 rfl (e_range T) (pa_cons (pe_callB call_len_seq rfl (e_len T) boot_len (pa_cons (pe_f (pv 0)) pa_nil)) pa_nil)) (blkOk_by (N := n_lost_states) (sc := defScope s_lost_states) (by decide +kernel)) (fun _ _ _ _ _ => (pg_name (i := 1) sc_lost_states.nd rfl (Or.inl rfl))) (fun _ _ _ _ _ => (pts_one (pt_not (pt_val (pe_g (cg_is_told T) (hr.mono (by decide)) (pa_cons (pv 0) (pa_cons (pe_g (cg_closed T) (hr.mono (by decide)) (pa_cons (pv 0) (pa_cons (pe_tup (pa_cons (pv 1) pa_nil)) pa_nil))) pa_nil))))))) (fun _ _ _ _ _ => (pv 1))) pa_nil)))), ?_⟩
  obtain ⟨a, va, ls, B, rfl, hv, h4, hc, ok, h60, q⟩ := h
  obtain ⟨ps, rs, fs, hps, hrl, hrow⟩ := hc.steps T
  have hlen : ((rs.map V.ref).length : Int).toNat = B.n := by rw [Int.toNat_natCast, List.length_map, hrl]; rfl
  have hlen2 : (rs.map V.ref).length = B.n := by rw [List.length_map, hrl]; rfl
  refine ⟨_, rfl, a, _, rfl, fs, ps, _, rfl, .inr (SqT.of hps), _, rfl, by omega, by omega, fun D hD => lc_filt walk_range (fun i => .int (i : Int)) (fun i => @decide (Lost ls.length B i) (Classical.propDecidable _)) hD (by rw [hlen]; exact small1000 (by omega)) (fun _ _ => trivial) yfn_same (fun i x H1 H2 hi s1 s2 y k ky kn => ?_) fun H2 s hD2 => ?_⟩
  · obtain ⟨rfl, rfl⟩ := y
    rw [hlen] at hi
    refine ⟨rfl, _, rfl, _, rfl, _, rfl, Nat.le_of_ble_eq_true rfl, fun t ht => ?_⟩
    have sT := str s2 (Same.new (o := .tup [.int (0 + (i : Int))]) ht)
    have et : (upd H2 t (.tup [.int (0 + (i : Int))])) t = some (.tup (ni [i])) := by rw [upd_same, Int.zero_add]; rfl
    refine ⟨a, t, va, ls, B, i, rfl, hv.mono (sn sT), h4, hc.mono (sn sT), ok, h60, et, hi, fun p F H3 s3 e3 hF60 hF => ?_⟩
    have sF := str sT s3
    have lowF : ∀ u ∈ F, u < B.n := fun u hu => by
      obtain ⟨v, hv, w, hw, e⟩ := (hF u).mp hu
      rw [List.mem_singleton] at hv
      exact e ▸ ok.run_lt (hv ▸ hi) hw
    refine ⟨a, p, va, B, ls.length, F, rfl, hc.mono (sn sF), ok, e3, by omega, lowF, fun H4 s4 => ⟨_, rfl, ?_⟩⟩
    refine ifb (c := @decide (Lost ls.length B i) (Classical.propDecidable _)) ?_ (fun hb => ?_) fun hb => kn _ hb (str (Same.new ht) (str s3 s4))
    · refine Bool.eq_iff_iff.mpr (Iff.trans ?_ (@decide_eq_true_iff _ (Classical.propDecidable _)).symm)
      rw [← lost_of hF]
      simp
    · obtain ⟨acc, hd, hl, hk⟩ := ky _ hb (str (Same.new ht) (str s3 s4))
      refine ⟨_, rfl, acc, hd, hl, ?_⟩
      show k (upd H4 D (.lst (acc ++ [V.int (0 + (i : Int))])))
      rw [Int.zero_add]
      exact hk
  · rw [hlen] at hD2
    refine ⟨D, _, rfl, .inl ⟨SqL.of hD2, fun t ht => q t _ _ (str s (Same.new ht)) upd_same (by have := List.length_filter_le (fun i => @decide (Lost ls.length B i) (Classical.propDecidable _)) (List.range B.n); rw [List.length_range] at this; omega) fun u => ?_⟩⟩
    rw [List.mem_filter, List.mem_range]
    exact and_congr Iff.rfl (@decide_eq_true_iff _ (Classical.propDecidable _))
theorem cg_lost_states {w : World} {base : Heap} (T : Tx P K mg) : Cg P w K mg base 5 "lost_states" (sp_lost_states K) := .fn (g_lost_states T) (k_lost_states T) (F_lost_states T)
def sp_numbers_of_sound (K : PySem.W.Frag) : Sp := fun vs H Q E => ∃ (a va : Addr) (ls : List Nat) (R : Rl), vs = [.ref a] ∧ VaO K H va ls ∧ LetOk ls ∧ RuO K H a va ls R ∧ RlOk ls.length R ∧ ∀ p H', H p = none → Same H H' → H' p = some (.lst (ni R.nums)) → Q (.ref p) H'
theorem F_numbers_of_sound {w : World} {base : Heap} (T : Tx P K mg) : FnR P w K mg base CX0 4 (a_numbers_of_sound K) (sp_numbers_of_sound K) := by
  refine fnr (f_numbers_of_sound T) sc_numbers_of_sound (fun vs H Q E h => by obtain ⟨_, _, _, _, rfl, _⟩ := h; rfl) (fun _ _ _ _ _ _ us hl => match us, hl with | [_], _ => rfl) fun cdv A outer s H vs Q E hr h => ?_
  refine ⟨_, (pss_cons (ps_setLcD (i := 1) (own := [("cell", 2)]) s H rfl sc_numbers_of_sound.nd rfl rfl (sw_true rfl rfl rfl (by decide +kernel)) (pi_tup (pe_f (pv 0))) (blkOk_by (N := n_numbers_of_sound) (sc := defScope s_numbers_of_sound) (by decide +kernel)) (fun _ _ _ _ _ => (pg_name (i := 2) sc_numbers_of_sound.nd rfl (Or.inl rfl))) (fun _ _ _ _ _ => pts_nil) (fun _ _ _ _ _ => (pe_f (pv 2))))
  (pss_cons (ps_asg (pe_f (pe_m (pe_f (pv 0)) (F_Values_cell T) (hr.mono (by decide)) (pa_cons (pe_f (pv 0)) pa_nil))) (pg_sub (pv 1) (pe_f (pv 0)) set_list))
  (pss_one (ps_ret (pv 1))))), ?_⟩
  obtain ⟨a, va, ls, R, rfl, hv, ok, hr, rk, q⟩ := h
  obtain ⟨tp, cs, fp, htp, hcl, hcs⟩ := hr.pattern T
  have h4 := rk.few
  have hlc : (cs.map V.ref).length = R.pat.length := by rw [List.length_map, hcl]
  have ekd : ls[R.kd]? = some (ls.getD R.kd 0) := getD_some rk.kd
  refine ⟨_, rfl, a, _, rfl, fp, tp, rfl, ⟨_, SqT.of htp⟩, fun D hD => lc_each (walk_tup (xs := cs.map V.ref)) (fun i v _ => ∃ m : Nat, R.pat[i]? = some m ∧ v = .int (m : Int)) (fun _ _ _ _ _ h => h) hD (by rw [hlc]; exact small1000 (by omega)) (fun H s => SqT.of (s _ _ htp)) yat_same (fun i x H1 H2 hi s1 s2 y k kk => ?_) fun H2 acc s hD2 hla hR => ?_⟩
  · obtain ⟨rfl, hx⟩ := y
    rw [List.getElem?_map] at hx
    cases ec : cs[i]? with
    | none => rw [ec] at hx; cases hx
    | some c =>
      rw [ec] at hx
      cases hx
      have hip : i < R.pat.length := by rw [← hcl]; exact (List.getElem?_eq_some_iff.mp ec).1
      have hc := (hcs i c _ ec (List.getElem?_eq_getElem hip)).mono (sn s2)
      exact ⟨rfl, _, rfl, c, _, rfl, hc.number T, kk _ _ (srf _) ⟨_, List.getElem?_eq_getElem hip, rfl⟩⟩
  · have ea : acc = ni R.pat := map_range (f := fun n : Nat => V.int (n : Int)) hR (by rw [hla, hlc])
    subst ea
    have hv2 := hv.mono (sn s)
    have hr2 := hr.mono (sn s)
    refine ⟨_, rfl, a, _, rfl, hr2.alphabet T, va, rfl, hv2.mcell T, _, rfl, a, _, rfl, hr2.value T, va, ls, 2 ^ R.kd, ?_, hv2, ok, Nat.pow_lt_pow_right (by decide) rk.kd, fun r H3 hr3 s3 hc3 => ⟨r, _, rfl, hc3.number T, _, rfl, _, rfl, a, _, rfl, (hr2.mono (sn s3)).at_ T, D, _, _, R.at_, rfl, rfl, s3 _ _ hD2, ?_, _, rfl, q D _ hD (fun p o e => ?_) ?_⟩⟩
    · rw [sel_pow ok.four ekd]
    · unfold ixN
      have := rk.at_
      rw [if_pos (by omega), if_pos (by rw [ni_len]; omega), Int.toNat_natCast]
    · rw [upd_ne (ne_of_none e hD)]
      exact s3 _ _ (s _ _ e)
    · rw [upd_same]
      unfold Rl.nums ni
      rw [List.map_set]
theorem cg_numbers_of_sound {w : World} {base : Heap} (T : Tx P K mg) : Cg P w K mg base 4 "numbers_of_sound" (sp_numbers_of_sound K) := .fn (g_numbers_of_sound T) (k_numbers_of_sound T) (F_numbers_of_sound T)
theorem ni_flat : ∀ l : List Nat, (ni l).all flatV = true
  | [] => rfl
  | n :: l => by
    show (flatV (.int n) && (ni l).all flatV) = true
    rw [ni_flat l]
    rfl
theorem inV_ni {n : Nat} : ∀ {l : List Nat}, inV (.int (n : Int)) (ni l) = decide (n ∈ l)
  | [] => rfl
  | m :: l => by
    show (eqV (.int (m : Int)) (.int (n : Int)) || inV (.int (n : Int)) (ni l)) = _
    rw [inV_ni]
    show ((m : Int) == (n : Int) || decide (n ∈ l)) = _
    by_cases h : n = m
    · subst h
      simp
    · have e : ((m : Int) == (n : Int)) = false := by simp; omega
      rw [e]
      simp [h]
def sp_is_sound_row (K : PySem.W.Frag) : Sp := fun vs H Q E => ∃ (a b ts lo va : Addr) (ls : List Nat) (R : Rl) (k : Nat) (B : Tab) (S Lo : List Nat), vs = [.ref a, .ref b, .ref ts, .ref lo] ∧ RuO K H a va ls R ∧ ClO K H b va B ∧ TabOk k B ∧ H ts = some (.tup (ni S)) ∧ H lo = some (.tup (ni Lo)) ∧ S.length ≤ 1000 ∧ (∀ s ∈ S, s < B.n) ∧
  ∀ H', Same H H' → Q (.bl (if R.right = true then !S.any B.at_ else S.all fun t => decide (t ∈ Lo))) H'
theorem F_is_sound_row {w : World} {base : Heap} (T : Tx P K mg) : FnR P w K mg base CX0 2 (a_is_sound_row K) (sp_is_sound_row K) := by
  refine fnr (f_is_sound_row T) sc_is_sound_row (fun vs H Q E h => by obtain ⟨_, _, _, _, _, _, _, _, _, _, _, rfl, _⟩ := h; rfl) (fun _ _ _ _ _ _ us hl => match us, hl with | [_, _, _, _], _ => rfl) fun cdv A outer s H vs Q E hr h => ?_
  refine ⟨_, (pss_cons (ps_if (pt_val (pe_f (pv 0))) (pss_one (ps_ret (pe_not (pe_g (cg_is_told T) (hr.mono (by decide)) (pa_cons (pv 1) (pa_cons (pv 2) pa_nil)))))) pss_nil)
  (pss_one (ps_ret (pe_callB (cr_all rfl) rfl (e_all T) boot_all (pa_cons (pe_lcD (own := [("state", 4)]) s H rfl sc_is_sound_row.nd (pi_tup (pv 2)) (blkOk_by (N := n_is_sound_row) (sc := defScope s_is_sound_row) (by decide +kernel)) (fun _ _ _ _ _ => (pg_name (i := 4) sc_is_sound_row.nd rfl (Or.inl rfl))) (fun _ _ _ _ _ => pts_nil) (fun _ _ _ _ _ => (pe_cmpR op_in_seq (pv 4) (pv 3) (by first | rfl | exact nomark _ | exact nobehind _ (by decide) (by decide))))) pa_nil))))), ?_⟩
  obtain ⟨a, b, ts, lo, va, ls, R, k, B, S, Lo, rfl, hr, hc, ok, hts, hlo, hl, hS, q⟩ := h
  have h10 : (ni S).length ≤ 1000 := by rw [ni_len]; exact hl
  refine ⟨_, rfl, a, _, rfl, hr.right T, _, rfl, ifb (c := R.right) rfl (fun hb => ?_) fun hb => ?_⟩
  · refine ⟨_, rfl, _, rfl, b, ts, va, B, k, S, rfl, hc, ok, hts, hl, hS, fun H' s => ⟨_, rfl, ?_⟩⟩
    have q' := q H' s
    rw [if_pos hb] at q'
    exact q'
  · refine ⟨_, rfl, ts, rfl, ⟨_, SqT.of hts⟩, fun D hD => lc_each (walk_tup (xs := ni S)) (fun i v _ => ∃ s, S[i]? = some s ∧ v = .bl (decide (s ∈ Lo))) (fun _ _ _ _ _ h => h) hD (small1000 h10) (fun H s => SqT.of (s _ _ hts)) yat_same (fun i x H1 H2 hi s1 s2 y k kn => ?_) fun H2 acc s hD2 hla hR => ?_⟩
    · obtain ⟨rfl, hx⟩ := y
      obtain ⟨n, hn, rfl⟩ := ni_of hx
      exact ⟨rfl, _, rfl, _, rfl, lo, _, rfl, .inr (SqT.of (s2 _ _ hlo)), rfl, ni_flat Lo, kn _ _ (srf _) ⟨n, hn, by rw [← inV_ni]; rfl⟩⟩
    · refine ⟨D, S.map fun t => decide (t ∈ Lo), rfl, SqL.of ?_, ?_⟩
      · rw [hD2, List.map_map, map_range (f := V.bl ∘ fun t => decide (t ∈ Lo)) hR (by rw [hla, ni_len])]
      · have q' := q H2 s
        have e : (S.map fun t => decide (t ∈ Lo)).all id = S.all fun t => decide (t ∈ Lo) := by rw [List.all_map]; rfl
        rw [if_neg (by rw [hb]; decide), ← e] at q'
        exact q'
theorem cg_is_sound_row {w : World} {base : Heap} (T : Tx P K mg) : Cg P w K mg base 2 "is_sound_row" (sp_is_sound_row K) := .fn (g_is_sound_row T) (k_is_sound_row T) (F_is_sound_row T)
theorem at_last {α : Type} {xs : List α} {x : α} (h : xs.getLast? = some x) : atI xs (-1) = some x := by
  have hne : xs ≠ [] := fun z => by rw [z] at h; cases h
  have hl : 0 < xs.length := List.length_pos_iff.mpr hne
  unfold atI ixN
  rw [if_neg (by omega), if_pos (by omega)]
  show xs[((-1 : Int) + (xs.length : Int)).toNat]? = some x
  rw [List.getLast?_eq_getElem?] at h
  have e : ((-1 : Int) + (xs.length : Int)).toNat = xs.length - 1 := by omega
  rw [e]
  exact h
/-- the two ways of an if .. else as one -/
theorem if_join {b c : Bool} {A B : VK → Prop} {Q : VK} (F : V → Hp → Prop) (e : b = c) (ha : c = true → ∀ Q' : VK, (∀ v H, F v H → Q' v H) → A Q') (hb : c = false → ∀ Q' : VK, (∀ v H, F v H → Q' v H) → B Q') (hq : ∀ v H, F v H → Q v H) : if b = true then A Q else B Q :=
  ifb e (fun h => ha h Q hq) fun h => hb h Q hq
/-- the rows: the last one holds what stands behind the rule's masks -/
def RowsO (H : Hp) (p : Addr) (k : Nat) (B : Tab) (R : Rl) (last : List Nat) : Prop := ∃ (rs : List Addr) (r : Addr), H p = some (.tup (rs.map V.ref)) ∧ rs.getLast? = some r ∧ H r = some (.tup (ni last)) ∧ last.length ≤ 60 ∧ (∀ t ∈ last, t < B.n) ∧
  ∀ t, t ∈ last ↔ Behind k B (if R.left = true then [0] else List.range B.n) R.nums t
theorem RowsO.mono {H H' : Hp} {p : Addr} {k : Nat} {B : Tab} {R : Rl} {last : List Nat} (s : SameN H H') (h : RowsO H p k B R last) : RowsO H' p k B R last := let ⟨rs, r, e1, e2, e3, e4⟩ := h; ⟨rs, r, s _ _ e1 rfl, e2, s _ _ e3 rfl, e4⟩
def sp_rows_of (K : PySem.W.Frag) : Sp := fun vs H Q E => ∃ (a b va : Addr) (ls : List Nat) (R : Rl) (B : Tab), vs = [.ref a, .ref b] ∧ VaO K H va ls ∧ LetOk ls ∧ RuO K H a va ls R ∧ RlOk ls.length R ∧ ClO K H b va B ∧ TabOk ls.length B ∧ B.n ≤ 60 ∧
  ∀ (p : Addr) (last : List Nat) H', Same H H' → RowsO H' p ls.length B R last → Q (.ref p) H'
theorem F_rows_of {w : World} {base : Heap} (T : Tx P K mg) : FnR P w K mg base CX0 5 (a_rows_of K) (sp_rows_of K) := by
  refine fnr (f_rows_of T) sc_rows_of (fun vs H Q E h => by obtain ⟨_, _, _, _, _, _, rfl, _⟩ := h; rfl) (fun _ _ _ _ _ _ us hl => match us, hl with | [_, _], _ => rfl) fun cdv A outer s H vs Q E hr h => ?_
  refine ⟨_, (pss_cons (ps_set (i := 2) sc_rows_of.nd rfl (Or.inl rfl) (pe_lst (pa_cons (pe_ifExp (pt_val (pe_f (pv 0))) (pe_tup (pa_cons pe_int pa_nil)) (pe_tupRg rfl rfl (e_tuple T) (prg_1 rfl (e_range T) (pe_callB call_len_seq rfl (e_len T) boot_len (pa_cons (pe_f (pv 1)) pa_nil))))) pa_nil)))
  (pss_cons (ps_for PassesOwn.never rfl (pi_list (pe_g (cg_numbers_of_sound T) (hr.mono (by decide)) (pa_cons (pv 0) pa_nil))) (pg_name (i := 3) sc_rows_of.nd rfl (Or.inl rfl))
  (pss_one (ps_expr (pe_bm PySem.F.plainAttrs_list PySem.F.slot_list_append PySem.F.type_list_append mt_append (pv 2) (pa_cons (pe_g (cg_steps_by T) (hr.mono (by decide)) (pa_cons (pv 1) (pa_cons (pe_ix ix_list (pv 2) (pe_un un_neg pe_int) (fun _ _ => rfl)) (pa_cons (pv 3) pa_nil)))) pa_nil)))))
  (pss_one (ps_ret (pe_callTy call_tuple_of rfl (e_tuple T) boot_tuple (pa_cons (pv 2) pa_nil)))))), ?_⟩
  obtain ⟨a, b, va, ls, R, B, rfl, hv, ok, hr, rk, hc, bk, h60, q⟩ := h
  obtain ⟨ps, rs, fs, hps, hrl, hrow⟩ := hc.steps T
  have hlen : ((rs.map V.ref).length : Int) = (B.n : Int) := by rw [List.length_map, hrl]; rfl
  have hpos := bk.pos
  have sz : 1000 ≤ sizeLine := by decide
  let S0 : List Nat := if R.left = true then [0] else List.range B.n
  have hS0 : ∀ t ∈ S0, t < B.n := fun t ht => by
    show t < B.n
    have ht : t ∈ (if R.left = true then [0] else List.range B.n) := ht
    split at ht
    · rw [List.mem_singleton] at ht
      omega
    · exact List.mem_range.mp ht
  have hS0l : S0.length ≤ 60 := by
    show (if R.left = true then [0] else List.range B.n).length ≤ 60
    split
    · exact Nat.le_of_ble_eq_true rfl
    · rw [List.length_range]
      exact h60
  refine ⟨_, rfl, a, _, rfl, hr.left T, _, rfl, if_join (c := R.left) (fun v H' => ∃ t0, v = .ref t0 ∧ H' t0 = some (.tup (ni S0)) ∧ Same H H') rfl (fun hb Q' hq => ⟨Nat.le_of_ble_eq_true rfl, fun t ht => hq _ _ ⟨t, rfl, ?_, Same.new ht⟩⟩) (fun hb Q' hq => ⟨_, rfl, b, _, rfl, fs, ps, _, rfl, .inr (SqT.of hps), _, rfl, ?_, fun t ht => hq _ _ ⟨t, rfl, ?_, Same.new ht⟩⟩) ?_⟩
  · rw [upd_same]
    show _ = some (HO.tup (ni (if R.left = true then [0] else List.range B.n)))
    rw [if_pos hb]
    rfl
  · rw [hlen]
    exact RgOk.of_le (by omega) (by omega) (by omega) (by omega)
  · rw [upd_same]
    show _ = some (HO.tup (ni (if R.left = true then [0] else List.range B.n)))
    rw [if_neg (by rw [hb]; decide), hlen]
    have e : rgV 0 (B.n : Int) = ni (List.range B.n) := by
      unfold rgV ni
      rw [Int.sub_zero, Int.toNat_natCast]
      refine List.map_congr_left fun i _ => ?_
      rw [Int.zero_add]
    rw [e]
  rintro v H1 ⟨t0, rfl, e0, s0⟩
  refine ⟨Nat.le_of_ble_eq_true rfl, fun fp hfp => ?_⟩
  have s1 := str s0 (Same.new (o := .lst [.ref t0]) hfp)
  refine ⟨_, rfl, a, va, ls, R, rfl, hv.mono (sn s1), ok, hr.mono (sn s1), rk, fun np H2 hnp s2 e2 => ⟨np, rfl, ⟨_, SqL.of e2⟩, ?_⟩⟩
  have hnl : R.nums.length ≤ 4 := by rw [Rl.nums_length]; exact rk.few
  refine for_list (xs := ni R.nums) (fun i σ H' => (∃ v, σ = [.some (.ref a), .some (.ref b), .some (.ref fp), v]) ∧ Same H H' ∧ H' np = some (.lst (ni R.nums)) ∧ ∃ (trs : List Addr) (r : Addr) (S : List Nat), H' fp = some (.lst (trs.map V.ref)) ∧ trs.length ≤ i + 1 ∧ trs.getLast? = some r ∧ H' r = some (.tup (ni S)) ∧ S.length ≤ 60 ∧
    (∀ t ∈ S, t < B.n) ∧ ∀ t, t ∈ S ↔ Behind ls.length B S0 (R.nums.take i) t) ⟨⟨_, rfl⟩, str s1 s2, e2, [t0], t0, S0, s2 _ _ upd_same, Nat.le_refl _, rfl, s2 _ _ (uo e0 hfp), hS0l, hS0, fun t => by rw [List.take_zero, behind_nil]⟩ (fun i σ H' _ h => SqL.of h.2.2.1) ?_ ?_
  · rintro i x σ H3 hx ⟨⟨v, rfl⟩, s3, e3, trs, r, S, e4, hl, e5, e6, h6, hlow, hmem⟩
    obtain ⟨m, hm, rfl⟩ := ni_of hx
    have him : i < 4 := by have := (List.getElem?_eq_some_iff.mp hm).1; omega
    refine ⟨_, rfl, .inl ⟨rfl, _, SqL.of e4⟩, _, rfl, _, rfl, _, rfl, fp, _, _, _, rfl, rfl, SqL.of e4, at_last (by rw [List.getLast?_map, e5]; rfl), _, rfl, b, r, va, ls, B, S, m, rfl, hv.mono (sn s3), ok.four, hc.mono (sn s3), bk, h60, e6, h6, hlow, fun p S' H4 hp s4 e7 hs hm2 => ?_⟩
    have hfp4 := s4 _ _ e4
    refine ⟨fp, _, _, rfl, rfl, hfp4, by rw [List.length_map]; omega, ?_⟩
    have n1 : np ≠ fp := fun z => by rw [z, upd_same] at hnp; cases hnp
    have n2 : p ≠ fp := fun z => by rw [z, e4] at hp; cases hp
    have low' : ∀ t ∈ S', t < B.n := fun t ht => by
      obtain ⟨u, hu, c, hc, _, e⟩ := (hm2 t).mp ht
      exact e ▸ bk.st_lt (hlow u hu) hc
    refine ⟨⟨_, rfl⟩, Same.mut (str s3 s4) (snone s0 hfp), un' n1 (s4 _ _ e3), trs ++ [p], p, S', ?_, by rw [List.length_append, List.length_singleton]; omega, by simp, un' n2 e7, ?_, low', fun t => ?_⟩
    · rw [upd_same, List.map_append]
      rfl
    · have := nodup_len B.n S' (sorted_nodup hs) low'
      omega
    · rw [hm2 t, List.take_succ, hm]
      exact (behind_snoc hmem).symm
  · rintro σ H3 ⟨⟨v, rfl⟩, s3, e3, trs, r, S, e4, hl, e5, e6, h6, hlow, hmem⟩
    rw [List.take_of_length_le (by rw [ni_len]; exact Nat.le_refl _)] at hmem
    exact ⟨_, rfl, fp, _, rfl, .inl ⟨SqL.of e4, fun t ht => q t S _ (str s3 (Same.new ht)) ⟨trs, r, upd_same, e5, uo e6 ht, h6, hlow, hmem⟩⟩⟩
theorem cg_rows_of {w : World} {base : Heap} (T : Tx P K mg) : Cg P w K mg base 5 "rows_of" (sp_rows_of K) := .fn (g_rows_of T) (k_rows_of T) (F_rows_of T)
def sp_is_sound_rule (K : PySem.W.Frag) : Sp := fun vs H Q E => ∃ (a b va : Addr) (ls : List Nat) (R : Rl) (B : Tab), vs = [.ref a, .ref b] ∧ VaO K H va ls ∧ LetOk ls ∧ RuO K H a va ls R ∧ RlOk ls.length R ∧ ClO K H b va B ∧ TabOk ls.length B ∧ AllIn ls.length B ∧ B.n ≤ 60 ∧
  ∀ (t : Bool) H', Same H H' → (t = true ↔ Snd ls.length R fun w => B.acc w = true) → Q (.bl t) H'
theorem F_is_sound_rule {w : World} {base : Heap} (T : Tx P K mg) : FnR P w K mg base CX0 6 (a_is_sound_rule K) (sp_is_sound_rule K) := by
  refine fnr (f_is_sound_rule T) sc_is_sound_rule (fun vs H Q E h => by obtain ⟨_, _, _, _, _, _, rfl, _⟩ := h; rfl) (fun _ _ _ _ _ _ us hl => match us, hl with | [_, _], _ => rfl) fun cdv A outer s H vs Q E hr h => ?_
  refine ⟨_, (pss_cons (ps_expr (pe_g (cg_need_values_sound T) (hr.mono (by decide)) (pa_cons (pv 0) (pa_cons (pv 1) pa_nil))))
  (pss_cons (ps_set (i := 2) sc_is_sound_rule.nd rfl (Or.inl rfl) (pe_g (cg_rows_of T) (hr.mono (by decide)) (pa_cons (pv 0) (pa_cons (pv 1) pa_nil))))
  (pss_one (ps_ret (pe_g (cg_is_sound_row T) (hr.mono (by decide)) (pa_cons (pv 0) (pa_cons (pv 1) (pa_cons (pe_ix ix_tup (pv 2) (pe_un un_neg pe_int) (fun _ _ => rfl)) (pa_cons (pe_g (cg_lost_states T) (hr.mono (by decide)) (pa_cons (pv 1) pa_nil)) pa_nil))))))))), ?_⟩
  obtain ⟨a, b, va, ls, R, B, rfl, hv, ok, hr, rk, hc, bk, all, h60, q⟩ := h
  refine ⟨_, rfl, _, rfl, a, b, va, ls, rfl, hr.alphabet T, hc.alphabet T, hv, ?_⟩
  refine ⟨_, rfl, _, rfl, a, b, va, ls, R, B, rfl, hv, ok, hr, rk, hc, bk, h60, fun p last H1 s1 ⟨rs, r, e1, e2, e3, e4, e5, e6⟩ => ?_⟩
  refine ⟨_, rfl, _, rfl, _, rfl, _, rfl, p, _, _, _, rfl, rfl, SqT.of e1, at_last (by rw [List.getLast?_map, e2]; rfl), _, rfl, b, va, ls, B, rfl, hv.mono (sn s1), ok.four, hc.mono (sn s1), bk, h60, fun lp Lo H2 s2 e7 l60 hLo => ?_⟩
  have s12 := str s1 s2
  refine ⟨a, b, r, lp, va, ls, R, ls.length, B, last, Lo, rfl, hr.mono (sn s12), hc.mono (sn s12), bk, s2 _ _ e3, e7, by omega, e5, fun H3 s3 => q _ H3 (str s12 s3) ?_⟩
  rw [sound_row bk all rfl e6 hLo]
  cases R.right <;> simp
theorem cg_is_sound_rule {w : World} {base : Heap} (T : Tx P K mg) : Cg P w K mg base 6 "is_sound_rule" (sp_is_sound_rule K) := .fn (g_is_sound_rule T) (k_is_sound_rule T) (F_is_sound_rule T)
end
end K5
end
section
set_option maxRecDepth 100000
set_option maxHeartbeats 2000000
/-! the rules: promises and walks -/
namespace K5
open PySem PySem.Spec PyProof.Rows L2
section
variable {P : Program} {K : PySem.W.Frag} {mg : Str → Option Value}
def sp_is_index (K : PySem.W.Frag) : Sp := fun vs H Q E => ∃ (i m : Nat), vs = [.int (i : Int), .int (m : Int)] ∧ i < m ∧ Q (.bl true) H
theorem F_is_index {w : World} {base : Heap} (T : Tx P K mg) : FnR P w K mg base CX0 1 (a_is_index K) (sp_is_index K) := by
  refine fnr (f_is_index T) sc_is_index (fun vs H Q E h => by obtain ⟨_, _, rfl, _⟩ := h; rfl) (fun _ _ _ _ _ _ us hl => match us, hl with | [_, _], _ => rfl) fun cdv A outer s H vs Q E hr h => ?_
  refine ⟨_, (pss_one (ps_ret (pe_and (pe_callB call_isi rfl (e_isinstance T) boot_isinstance (pa_cons (pv 0) (pa_cons (pe_bltn (v := .ty "int") rfl (e_int T) boot_int rfl) pa_nil))) (pe_and (pe_not (pe_callB call_isi rfl (e_isinstance T) boot_isinstance (pa_cons (pv 0) (pa_cons (pe_bltn (v := .ty "bool") rfl (e_bool T) boot_bool rfl) pa_nil)))) (pe_one (pe_chain op_le op_lt pe_int (pv 0) (pv 1))))))), ?_⟩
  obtain ⟨i, m, rfl, hi, q⟩ := h
  refine ⟨_, rfl, _, _, _, _, _, rfl, .ty _, ty_int, kit_self, true, rfl, iteT ⟨_, rfl, _, _, _, _, _, rfl, .ty _, ty_int, kit_ty (by decide +kernel), false, rfl, true, rfl, iteT ⟨_, rfl, _, _, rfl, rfl, _, rfl, ?_⟩⟩⟩
  refine ifb (c := true) (decide_eq_true (Int.natCast_nonneg i)) (fun _ => ⟨_, rfl, _, _, rfl, rfl, ?_⟩) fun h => nomatch h
  have q' : Q (.bl (decide ((i : Int) < (m : Int)))) H := by rw [decide_eq_true (by omega)]; exact q
  exact q'
theorem cg_is_index {w : World} {base : Heap} (T : Tx P K mg) : Cg P w K mg base 1 "is_index" (sp_is_index K) := .fn (g_is_index T) (k_is_index T) (F_is_index T)
theorem all_false {xs : List V} {n : Nat} (h : ∀ (i : Nat) v, xs[i]? = some v → v = V.bl false) (hl : xs.length = n) : xs = (List.replicate n false).map V.bl := by
  refine List.ext_getElem? fun i => ?_
  rw [List.getElem?_map, List.getElem?_replicate]
  by_cases hi : i < n
  · rw [if_pos hi, List.getElem?_eq_getElem (by omega)]
    exact congrArg some (h i _ (List.getElem?_eq_getElem (by omega)))
  · rw [if_neg hi, List.getElem?_eq_none (by omega)]
    rfl
/-- what may stand for the mask m -/
def CellV (K : PySem.W.Frag) (H : Hp) (va : Addr) (ls : List Nat) (x : V) (m : Nat) : Prop := x = .str (Sx (sel ls m)) ∨ ∃ c, x = .ref c ∧ CeO K H c va ls m
def CellsO (K : PySem.W.Frag) (H : Hp) (va : Addr) (ls : List Nat) (p : Addr) (ms : List Nat) : Prop := ∃ cs : List Addr, H p = some (.tup (cs.map V.ref)) ∧ cs.length = ms.length ∧ ∀ (i : Nat) c m, cs[i]? = some c → ms[i]? = some m → CeO K H c va ls m
theorem CellV.mono {H H' : Hp} {va : Addr} {ls : List Nat} {x : V} {m : Nat} (s : SameN H H') (h : CellV K H va ls x m) : CellV K H' va ls x m := h.imp id fun ⟨c, e, hc⟩ => ⟨c, e, hc.mono s⟩
def sp_pattern_of (K : PySem.W.Frag) : Sp := fun vs H Q E => ∃ (va tp : Addr) (ls ms : List Nat) (xs : List V), vs = [.ref va, .ref tp] ∧ VaO K H va ls ∧ LetOk ls ∧ (H tp = some (.lst xs) ∨ H tp = some (.tup xs)) ∧ xs.length = ms.length ∧ 1 ≤ ms.length ∧ ms.length ≤ 4 ∧
  (∀ m ∈ ms, 0 < m ∧ m < 2 ^ ls.length) ∧ (∀ (i : Nat) x m, xs[i]? = some x → ms[i]? = some m → CellV K H va ls x m) ∧ ∀ (p : Addr) H', Same H H' → CellsO K H' va ls p ms → Q (.ref p) H'
theorem F_pattern_of {w : World} {base : Heap} (T : Tx P K mg) : FnR P w K mg base CX0 5 (a_pattern_of K) (sp_pattern_of K) := by
  refine fnr (f_pattern_of T) sc_pattern_of (fun vs H Q E h => by obtain ⟨_, _, _, _, _, rfl, _⟩ := h; rfl) (fun _ _ _ _ _ _ us hl => match us, hl with | [_, _], _ => rfl) fun cdv A outer s H vs Q E hr h => ?_
  obtain ⟨_, iMOST_CELLS⟩ := T.iMOST_CELLS
  obtain ⟨va, tp, ls, ms, xs, rfl, hv, ok, htp, hl, h1, h4, hms, hx, q⟩ := h
  rcases htp with htp | htp
  · skip
    refine ⟨_, (pss_cons (ps_if (PW.pt (pw_or (pt_not (pt_val (pe_callB call_isiT rfl (e_isinstance T) boot_isinstance (pa_cons (pv 1) (pa_cons (pe_tup (pa_cons (pe_bltn (v := .ty "list") rfl (e_list T) boot_list rfl) (pa_cons (pe_bltn (v := .ty "tuple") rfl (e_tuple T) boot_tuple rfl) pa_nil))) pa_nil))))) (pw_or1 (pt_not (pt_chain op_le op_le pe_int (pe_callB call_len_seq rfl (e_len T) boot_len (pa_cons (pv 1) pa_nil)) (pe_glob (v := .int 4) rfl iMOST_CELLS ⟨_, rfl⟩)))))) (pss_one ps_never) pss_nil) (pss_cons (ps_setLcD (i := 2) (own := [("thing", 3)]) s H rfl sc_pattern_of.nd rfl rfl (sw_true rfl rfl rfl (by decide +kernel)) (pi_list (pv 1)) (blkOk_by (N := n_pattern_of) (sc := defScope s_pattern_of) (by decide +kernel)) (fun _ _ _ _ _ => (pg_name (i := 3) sc_pattern_of.nd rfl (Or.inl rfl))) (fun _ _ _ _ _ => pts_nil) (fun _ _ _ _ _ => (pe_g (cg_cell_told T) (hr.mono (by decide)) (pa_cons (pv 0) (pa_cons (pv 3) pa_nil))))) (pss_cons (ps_if (pt_val (pe_callB (cr_any rfl) rfl (e_any T) boot_any (pa_cons (pe_lcD (own := [("cell", 4)]) s H rfl sc_pattern_of.nd (pi_list (pv 2)) (blkOk_by (N := n_pattern_of) (sc := defScope s_pattern_of) (by decide +kernel)) (fun _ _ _ _ _ => (pg_name (i := 4) sc_pattern_of.nd rfl (Or.inl rfl))) (fun _ _ _ _ _ => pts_nil) (fun _ _ _ _ _ => (pe_or (pe_cmp (pc_isN (pv 4))) (pe_one (pe_notR (tru_own (F_Cell_bool T) (hr.mono (by decide))) (pv 4)))))) pa_nil))) (pss_one ps_never) pss_nil) (pss_one (ps_ret (pe_callTy call_tuple_of rfl (e_tuple T) boot_tuple (pa_cons (pv 2) pa_nil))))))), ?_⟩
    refine ⟨_, rfl, Nat.le_of_ble_eq_true rfl, fun t ht => ?_⟩
    have htp' := uo (u := .tup [.ty "list", .ty "tuple"]) htp ht
    have st := Same.new (o := .tup [.ty "list", .ty "tuple"]) ht
    refine ⟨_, _, _, _, _, _, rfl, upd_same, .cons (.ty _) (.cons (.ty _) .nil), ty_lst htp', kit_lt, true, rfl, iteF ⟨_, rfl, _, _, rfl, .inl (SqL.of htp'), _, _, rfl, rfl, _, rfl, ?_⟩⟩
    refine ifb (c := true) (decide_eq_true (by rw [hl]; omega)) (fun _ => ⟨_, _, rfl, rfl, _, rfl, ?_⟩) fun h => nomatch h
    refine ifb (c := false) (by show (!decide _) = false; rw [hl, decide_eq_true (by omega)]; rfl) (fun h => nomatch h) fun _ => ?_
    refine ⟨_, rfl, tp, rfl, ⟨_, SqL.of htp'⟩, fun D hD => lc_each (walk_list (xs := xs)) (fun i v H' => ∃ c m, v = .ref c ∧ ms[i]? = some m ∧ CeO K H' c va ls m) (fun i v H H' s ⟨c, m, e, e2, h⟩ => ⟨c, m, e, e2, h.mono s⟩) hD (small1000 (by omega)) (fun H s => SqL.of (s _ _ htp')) yat_same (fun i x H1 H2 hi s1 s2 y k kk => ?_) fun H2 acc s hD2 hla hR => ?_⟩
    · obtain ⟨rfl, ex⟩ := y
      have hi' : i < ms.length := by rw [← hl]; exact hi
      have em : ms[i]? = some (ms[i]) := List.getElem?_eq_getElem hi'
      have sA := sn (str st s2)
      exact ⟨rfl, _, rfl, _, rfl, va, x, ls, ms[i], rfl, hv.mono sA, ok, (hms _ (List.mem_of_getElem? em)).2, (hx i x _ ex em).mono sA, fun r H3 s3 hc => kk _ _ s3 ⟨r, _, rfl, em, hc⟩⟩
    · obtain ⟨cs, rfl, hcs⟩ := refs_of (R := fun i c => ∃ m, ms[i]? = some m ∧ CeO K H2 c va ls m) fun i v e => let ⟨c, k, e1, e2, e3⟩ := hR i v e; ⟨c, e1, k, e2, e3⟩
      rw [List.length_map] at hla
      refine ⟨_, rfl, D, rfl, ⟨_, SqL.of hD2⟩, fun D2 hn2 => lc_each (walk_list (xs := cs.map V.ref)) (fun i v H' => v = .bl false) (fun _ _ _ _ _ h => h) hn2 (small1000 (by rw [List.length_map]; omega)) (fun H s => SqL.of (s _ _ hD2)) yat_same (fun i x H1 H3 hi s1 s2 y k kk => ?_) fun H3 acc s3 hD3 hla3 hR3 => ?_⟩
      · obtain ⟨rfl, hx⟩ := y
        rw [List.getElem?_map] at hx
        cases ec : cs[i]? with
        | none => rw [ec] at hx; cases hx
        | some c =>
          rw [ec] at hx
          cases hx
          obtain ⟨m, em, hc⟩ := hcs i c ec
          have hc := hc.mono (sn s2)
          have hm := hms _ (List.mem_of_getElem? em)
          refine ⟨rfl, _, rfl, _, rfl, iteF ⟨_, rfl, c, rfl, hc.bool T, c, va, ls, m, rfl, hc, ok.four, _, rfl, kk _ _ (srf _) ?_⟩⟩
          rw [decide_eq_true (sel_ne ok.four hm.1 hm.2)]
          rfl
      · rw [List.length_map] at hla3
        refine ⟨D2, List.replicate cs.length false, rfl, SqL.of (by rw [hD3, all_false hR3 hla3]), _, rfl, ?_⟩
        refine ifb (c := false) (by simp) (fun h => nomatch h) fun _ => ⟨_, rfl, D, _, rfl, .inl ⟨SqL.of (s3 _ _ hD2), fun p hp => q p _ (str st (str s (str s3 (Same.new hp)))) ⟨cs, upd_same, by rw [hla]; exact hl, fun i c m h1 h2 => ?_⟩⟩⟩
        obtain ⟨m', em, hc⟩ := hcs i c h1
        rw [em] at h2
        cases h2
        exact hc.mono (sn (str s3 (Same.new hp)))
  · skip
    refine ⟨_, (pss_cons (ps_if (PW.pt (pw_or (pt_not (pt_val (pe_callB call_isiT rfl (e_isinstance T) boot_isinstance (pa_cons (pv 1) (pa_cons (pe_tup (pa_cons (pe_bltn (v := .ty "list") rfl (e_list T) boot_list rfl) (pa_cons (pe_bltn (v := .ty "tuple") rfl (e_tuple T) boot_tuple rfl) pa_nil))) pa_nil))))) (pw_or1 (pt_not (pt_chain op_le op_le pe_int (pe_callB call_len_seq rfl (e_len T) boot_len (pa_cons (pv 1) pa_nil)) (pe_glob (v := .int 4) rfl iMOST_CELLS ⟨_, rfl⟩)))))) (pss_one ps_never) pss_nil) (pss_cons (ps_setLcD (i := 2) (own := [("thing", 3)]) s H rfl sc_pattern_of.nd rfl rfl (sw_true rfl rfl rfl (by decide +kernel)) (pi_tup (pv 1)) (blkOk_by (N := n_pattern_of) (sc := defScope s_pattern_of) (by decide +kernel)) (fun _ _ _ _ _ => (pg_name (i := 3) sc_pattern_of.nd rfl (Or.inl rfl))) (fun _ _ _ _ _ => pts_nil) (fun _ _ _ _ _ => (pe_g (cg_cell_told T) (hr.mono (by decide)) (pa_cons (pv 0) (pa_cons (pv 3) pa_nil))))) (pss_cons (ps_if (pt_val (pe_callB (cr_any rfl) rfl (e_any T) boot_any (pa_cons (pe_lcD (own := [("cell", 4)]) s H rfl sc_pattern_of.nd (pi_list (pv 2)) (blkOk_by (N := n_pattern_of) (sc := defScope s_pattern_of) (by decide +kernel)) (fun _ _ _ _ _ => (pg_name (i := 4) sc_pattern_of.nd rfl (Or.inl rfl))) (fun _ _ _ _ _ => pts_nil) (fun _ _ _ _ _ => (pe_or (pe_cmp (pc_isN (pv 4))) (pe_one (pe_notR (tru_own (F_Cell_bool T) (hr.mono (by decide))) (pv 4)))))) pa_nil))) (pss_one ps_never) pss_nil) (pss_one (ps_ret (pe_callTy call_tuple_of rfl (e_tuple T) boot_tuple (pa_cons (pv 2) pa_nil))))))), ?_⟩
    refine ⟨_, rfl, Nat.le_of_ble_eq_true rfl, fun t ht => ?_⟩
    have htp' := uo (u := .tup [.ty "list", .ty "tuple"]) htp ht
    have st := Same.new (o := .tup [.ty "list", .ty "tuple"]) ht
    refine ⟨_, _, _, _, _, _, rfl, upd_same, .cons (.ty _) (.cons (.ty _) .nil), ty_tup htp', kit_tt, true, rfl, iteF ⟨_, rfl, _, _, rfl, .inr (SqT.of htp'), _, _, rfl, rfl, _, rfl, ?_⟩⟩
    refine ifb (c := true) (decide_eq_true (by rw [hl]; omega)) (fun _ => ⟨_, _, rfl, rfl, _, rfl, ?_⟩) fun h => nomatch h
    refine ifb (c := false) (by show (!decide _) = false; rw [hl, decide_eq_true (by omega)]; rfl) (fun h => nomatch h) fun _ => ?_
    refine ⟨_, rfl, tp, rfl, ⟨_, SqT.of htp'⟩, fun D hD => lc_each (walk_tup (xs := xs)) (fun i v H' => ∃ c m, v = .ref c ∧ ms[i]? = some m ∧ CeO K H' c va ls m) (fun i v H H' s ⟨c, m, e, e2, h⟩ => ⟨c, m, e, e2, h.mono s⟩) hD (small1000 (by omega)) (fun H s => SqT.of (s _ _ htp')) yat_same (fun i x H1 H2 hi s1 s2 y k kk => ?_) fun H2 acc s hD2 hla hR => ?_⟩
    · obtain ⟨rfl, ex⟩ := y
      have hi' : i < ms.length := by rw [← hl]; exact hi
      have em : ms[i]? = some (ms[i]) := List.getElem?_eq_getElem hi'
      have sA := sn (str st s2)
      exact ⟨rfl, _, rfl, _, rfl, va, x, ls, ms[i], rfl, hv.mono sA, ok, (hms _ (List.mem_of_getElem? em)).2, (hx i x _ ex em).mono sA, fun r H3 s3 hc => kk _ _ s3 ⟨r, _, rfl, em, hc⟩⟩
    · obtain ⟨cs, rfl, hcs⟩ := refs_of (R := fun i c => ∃ m, ms[i]? = some m ∧ CeO K H2 c va ls m) fun i v e => let ⟨c, k, e1, e2, e3⟩ := hR i v e; ⟨c, e1, k, e2, e3⟩
      rw [List.length_map] at hla
      refine ⟨_, rfl, D, rfl, ⟨_, SqL.of hD2⟩, fun D2 hn2 => lc_each (walk_list (xs := cs.map V.ref)) (fun i v H' => v = .bl false) (fun _ _ _ _ _ h => h) hn2 (small1000 (by rw [List.length_map]; omega)) (fun H s => SqL.of (s _ _ hD2)) yat_same (fun i x H1 H3 hi s1 s2 y k kk => ?_) fun H3 acc s3 hD3 hla3 hR3 => ?_⟩
      · obtain ⟨rfl, hx⟩ := y
        rw [List.getElem?_map] at hx
        cases ec : cs[i]? with
        | none => rw [ec] at hx; cases hx
        | some c =>
          rw [ec] at hx
          cases hx
          obtain ⟨m, em, hc⟩ := hcs i c ec
          have hc := hc.mono (sn s2)
          have hm := hms _ (List.mem_of_getElem? em)
          refine ⟨rfl, _, rfl, _, rfl, iteF ⟨_, rfl, c, rfl, hc.bool T, c, va, ls, m, rfl, hc, ok.four, _, rfl, kk _ _ (srf _) ?_⟩⟩
          rw [decide_eq_true (sel_ne ok.four hm.1 hm.2)]
          rfl
      · rw [List.length_map] at hla3
        refine ⟨D2, List.replicate cs.length false, rfl, SqL.of (by rw [hD3, all_false hR3 hla3]), _, rfl, ?_⟩
        refine ifb (c := false) (by simp) (fun h => nomatch h) fun _ => ⟨_, rfl, D, _, rfl, .inl ⟨SqL.of (s3 _ _ hD2), fun p hp => q p _ (str st (str s (str s3 (Same.new hp)))) ⟨cs, upd_same, by rw [hla]; exact hl, fun i c m h1 h2 => ?_⟩⟩⟩
        obtain ⟨m', em, hc⟩ := hcs i c h1
        rw [em] at h2
        cases h2
        exact hc.mono (sn (str s3 (Same.new hp)))
theorem cg_pattern_of {w : World} {base : Heap} (T : Tx P K mg) : Cg P w K mg base 5 "pattern_of" (sp_pattern_of K) := .fn (g_pattern_of T) (k_pattern_of T) (F_pattern_of T)
def sp_Rule_init (K : PySem.W.Frag) : Sp := fun vs H Q E => ∃ (x dx va tp : Addr) (ls : List Nat) (R : Rl) (xs : List V), vs = [.ref x, .ref va, .ref tp, .int (R.at_ : Int), .str (Sx [ls.getD R.kd 0]), .bl R.left, .bl R.right] ∧ VaO K H va ls ∧ LetOk ls ∧ RlOk ls.length R ∧ va ≠ x ∧ tp ≠ x ∧ (H tp = some (.lst xs) ∨ H tp = some (.tup xs)) ∧ xs.length = R.pat.length ∧
  (∀ (i : Nat) y m, xs[i]? = some y → R.pat[i]? = some m → CellV K H va ls y m) ∧ H x = some (.ins (He.ga K "Rule") dx []) ∧ ∀ H', SameP x H H' → RuO K H' x va ls R → Q .non H'
theorem rule_ok {w : World} {base : Heap} (T : Tx P K mg) {fd : FuncData} (F : FunD K "__init__" "Rule.__init__" (defArgs s_Rule_init) (defBody s_Rule_init) (defScope s_Rule_init) [] [("left", .bl false), ("right", .bl false)] (a_Rule_init K) fd) : FnOk P w K mg base CX0 6 (a_Rule_init K) fd p_Rule_init (sp_Rule_init K) := by
  refine F.ok sc_Rule_init (fun vs H Q E h => by obtain ⟨_, _, _, _, _, _, _, rfl, _⟩ := h; rfl) fun cdv A outer s H vs Q E hr h => ?_
  suffices hh : ∃ t, PSs (cxOf CX0 P w K mg base n_Rule_init "Rule.__init__" (defScope s_Rule_init) (a_Rule_init K) cdv A outer s H E).nox (defBody s_Rule_init) t ∧ t { nx := fun _ H' => Q .non H', rt := Q } (L2.start n_Rule_init vs) H from let ⟨t, h1, h2⟩ := hh; ⟨t, h1.nox, h2⟩
  obtain ⟨x, dx, va, tp, ls, R, xs, rfl, hv, ok, rk, nva, ntp, htp, hl, hcv, hx, q⟩ := h
  have hC := c_Rule T
  refine ⟨_, (pss_cons (ps_if (pt_not (pt_val (pe_callB call_isi rfl (e_isinstance T) boot_isinstance (pa_cons (pv 1) (pa_cons (pe_glob (v := .ref _) rfl (g_Values T) rfl) pa_nil))))) (pss_one ps_never) pss_nil) (pss_cons (ps_fld (pv 0) (pv 1) rfl) (pss_cons (ps_fld (pv 0) (pe_g (cg_pattern_of T) (hr.mono (by decide)) (pa_cons (pv 1) (pa_cons (pv 2) pa_nil))) rfl) (pss_cons (ps_if (pt_not (pt_val (pe_g (cg_is_index T) (hr.mono (by decide)) (pa_cons (pv 3) (pa_cons (pe_callB call_len_seq rfl (e_len T) boot_len (pa_cons (pe_f (pv 0)) pa_nil)) pa_nil))))) (pss_one ps_never) pss_nil) (pss_cons (ps_if (PW.pt (pw_or (pt_not (pt_val (pe_callB call_isi rfl (e_isinstance T) boot_isinstance (pa_cons (pv 4) (pa_cons (pe_bltn (v := .ty "str") rfl (e_str T) boot_str rfl) pa_nil))))) (pw_or1 (pt_cmpR (op_notInOwn (F_Cell_contains T) (hr.mono (by decide))) (pv 4) (pe_ix ix_tup (pe_f (pv 0)) (pv 3) (fun _ _ => rfl)) (by first | rfl | exact nomark _ | exact nobehind _ (by decide) (by decide)))))) (pss_one ps_never) pss_nil) (pss_cons (ps_if (pt_not (pt_val (pe_callB call_isi rfl (e_isinstance T) boot_isinstance (pa_cons (pv 5) (pa_cons (pe_bltn (v := .ty "bool") rfl (e_bool T) boot_bool rfl) pa_nil))))) (pss_one ps_never) pss_nil) (pss_cons (ps_if (pt_not (pt_val (pe_callB call_isi rfl (e_isinstance T) boot_isinstance (pa_cons (pv 6) (pa_cons (pe_bltn (v := .ty "bool") rfl (e_bool T) boot_bool rfl) pa_nil))))) (pss_one ps_never) pss_nil) (pss_cons (ps_fld (pv 0) (pv 3) rfl) (pss_cons (ps_fld (pv 0) (pv 4) rfl) (pss_cons (ps_fld (pv 0) (pv 5) rfl) (pss_cons (ps_fld (pv 0) (pv 6) rfl) (pss_cons (ps_fld (pv 0) (pe_callTy call_tuple_of rfl (e_tuple T) boot_tuple (pa_cons (pe_lcD (own := [("cell", 7)]) s H rfl sc_Rule_init.nd (pi_tup (pe_f (pv 0))) (blkOk_by (N := n_Rule_init) (sc := defScope s_Rule_init) (by decide +kernel)) (fun _ _ _ _ _ => (pg_name (i := 7) sc_Rule_init.nd rfl (Or.inl rfl))) (fun _ _ _ _ _ => pts_nil) (fun _ _ _ _ _ => (pe_f (pv 7)))) pa_nil)) rfl) (pss_one (ps_fld (pv 0) (pe_f (pe_m (pv 1) (F_Values_cell T) (hr.mono (by decide)) (pa_cons (pv 4) pa_nil))) rfl)))))))))))))), ?_⟩
  have sz : 1000 ≤ sizeLine := by decide
  refine ⟨_, rfl, _, _, _, _, _, rfl, .own _, hv.ty T, kit_self, true, rfl, iteF ⟨_, rfl, _, rfl, _, _, _, _, rfl, hx, hC, o_Rule_alphabet T, few, ?_⟩⟩
  have s1 : SameP x H (upd H x (.ins (He.ga K "Rule") dx [("alphabet", .ref va)])) := spu
  have htp1 : upd H x (.ins (He.ga K "Rule") dx [("alphabet", .ref va)]) tp = some (.lst xs) ∨ upd H x (.ins (He.ga K "Rule") dx [("alphabet", .ref va)]) tp = some (.tup xs) := htp.imp (fun e => s1 _ _ ntp e) fun e => s1 _ _ ntp e
  have hcv1 : ∀ (i : Nat) y m, xs[i]? = some y → R.pat[i]? = some m → CellV K (upd H x (.ins (He.ga K "Rule") dx [("alphabet", .ref va)])) va ls y m := fun i y m h1 h2 => (hcv i y m h1 h2).imp id fun ⟨c, e, hc⟩ => ⟨c, e, hc.sp s1 fun z => by
    obtain ⟨dc, ec⟩ := hc
    rw [z] at ec
    exact absurd (ins_len hx ec) (by show ¬ (0 : Nat) = 3; decide)⟩
  refine ⟨_, rfl, _, rfl, va, tp, ls, R.pat, xs, rfl, hv.sp s1 nva, ok, htp1, hl, rk.pos, rk.few, rk.mask, hcv1, fun p H2 s2 ⟨cs, e2, hcl, hcs⟩ => ?_⟩
  have ex2 : H2 x = _ := s2 _ _ upd_same
  have npx : p ≠ x := fun z => by rw [z, ex2] at e2; cases e2
  have ncx : ∀ (i : Nat) c, cs[i]? = some c → c ≠ x := fun i c h z => by
    have hi : i < R.pat.length := by rw [← hcl]; exact (List.getElem?_eq_some_iff.mp h).1
    obtain ⟨dc, ec⟩ := hcs i c _ h (List.getElem?_eq_getElem hi)
    rw [z] at ec
    exact absurd (ins_len ex2 ec) (by show ¬ (1 : Nat) = 3; decide)
  have sH2 : SameP x H H2 := spt s1 (sps s2)
  refine ⟨_, rfl, _, _, _, _, rfl, ex2, hC, o_Rule_pattern T, few, ?_⟩
  have rat := rk.at_
  have ecs : cs[R.at_]? = some (cs[R.at_]'(by omega)) := List.getElem?_eq_getElem _
  have epm : R.pat[R.at_]? = some (R.pat.getD R.at_ 0) := getD_some rat
  have ekd : ls[R.kd]? = some (ls.getD R.kd 0) := getD_some rk.kd
  refine ⟨_, rfl, _, rfl, x, _, rfl, ⟨_, _, _, upd_same, hC, o_Rule_pattern T, rfl⟩, p, _, rfl, .inr (SqT.of (un' npx e2)), R.at_, R.pat.length, ?_, rat, _, rfl, iteF ?_⟩
  · show [V.int _, V.int _] = _
    rw [List.length_map, hcl]
  have hcx : ∀ {H' : Hp}, SameP x H2 H' → CeO K H' (cs[R.at_]'(by omega)) va ls (R.pat.getD R.at_ 0) := fun s => (hcs _ _ _ ecs epm).sp s (ncx _ _ ecs)
  refine ⟨_, rfl, _, _, _, _, _, rfl, .ty _, ty_str, kit_self, true, rfl, iteF ⟨_, rfl, _, rfl, x, _, rfl, ⟨_, _, _, upd_same, hC, o_Rule_pattern T, rfl⟩, _, rfl, p, _, _, _, rfl, rfl, SqT.of (un' npx e2), atI_nat (by rw [List.getElem?_map, ecs]; rfl), _, rfl, (hcx spu).cont T, _, va, ls.getD R.kd 0, ls, _, rfl, hcx spu, _, rfl, _, rfl, ?_⟩⟩
  refine ifb (c := false) (by show (!decide _) = false; rw [decide_eq_true ((sel_mem ok.nd ekd).mpr rk.has)]; rfl) (fun h => nomatch h) fun _ => ?_
  refine ⟨_, rfl, _, _, _, _, _, rfl, .ty _, ty_bl, kit_self, true, rfl, iteF ⟨_, rfl, _, _, _, _, _, rfl, .ty _, ty_bl, kit_self, true, rfl, iteF ?_⟩⟩
  refine ⟨_, rfl, _, rfl, _, _, _, _, rfl, upd_same, hC, o_Rule_at T, few, _, rfl, _, rfl, _, _, _, _, rfl, upd_same, hC, o_Rule_value T, few, _, rfl, _, rfl, _, _, _, _, rfl, upd_same, hC, o_Rule_left T, few, _, rfl, _, rfl, _, _, _, _, rfl, upd_same, hC, o_Rule_right T, few, ?_⟩
  have hcu : ∀ {H' : Hp}, SameP x H2 H' → ∀ (i : Nat) c m, cs[i]? = some c → R.pat[i]? = some m → CeO K H' c va ls m := fun s i c m h1 h2 => (hcs i c m h1 h2).sp s (ncx _ _ h1)
  have s6 : SameP x H2 (upd (upd (upd (upd (upd H2 x (.ins (He.ga K "Rule") dx (putF "pattern" (.ref p) (putF "alphabet" (.ref va) [])))) x (.ins (He.ga K "Rule") dx (putF "at" (.int (R.at_ : Int)) (putF "pattern" (.ref p) (putF "alphabet" (.ref va) []))))) x (.ins (He.ga K "Rule") dx (putF "value" (.str (Sx [ls.getD R.kd 0])) (putF "at" (.int (R.at_ : Int)) (putF "pattern" (.ref p) (putF "alphabet" (.ref va) [])))))) x (.ins (He.ga K "Rule") dx (putF "left" (.bl R.left) (putF "value" (.str (Sx [ls.getD R.kd 0])) (putF "at" (.int (R.at_ : Int)) (putF "pattern" (.ref p) (putF "alphabet" (.ref va) []))))))) x (.ins (He.ga K "Rule") dx (putF "right" (.bl R.right) (putF "left" (.bl R.left) (putF "value" (.str (Sx [ls.getD R.kd 0])) (putF "at" (.int (R.at_ : Int)) (putF "pattern" (.ref p) (putF "alphabet" (.ref va) [])))))))) := spt (spt (spt (spt spu spu) spu) spu) spu
  refine ⟨_, rfl, x, _, rfl, ⟨_, _, _, upd_same, hC, o_Rule_pattern T, rfl⟩, p, rfl, ⟨_, SqT.of (s6 _ _ npx e2)⟩, fun D hD => lc_each (walk_tup (xs := cs.map V.ref)) (fun i v _ => ∃ m : Nat, R.pat[i]? = some m ∧ v = .int (m : Int)) (fun _ _ _ _ _ h => h) hD (small1000 (by have := rk.few; rw [List.length_map]; omega)) (fun H s => SqT.of (s _ _ (s6 _ _ npx e2))) yat_same (fun i y H3 H4 hi s3 s4 yy k kk => ?_) fun H4 acc s4 hD4 hla hR => ?_⟩
  · obtain ⟨rfl, hy⟩ := yy
    rw [List.getElem?_map] at hy
    cases ec : cs[i]? with
    | none => rw [ec] at hy; cases hy
    | some c =>
      rw [ec] at hy
      cases hy
      have hip : i < R.pat.length := by rw [← hcl]; exact (List.getElem?_eq_some_iff.mp ec).1
      have hc := (hcu s6 i c _ ec (List.getElem?_eq_getElem hip)).mono (sn s4)
      exact ⟨rfl, _, rfl, c, _, rfl, hc.number T, kk _ _ (srf _) ⟨_, List.getElem?_eq_getElem hip, rfl⟩⟩
  · have ea : acc = ni R.pat := map_range (f := fun n : Nat => V.int (n : Int)) hR (by rw [hla, List.length_map, hcl])
    subst ea
    have eD : D ≠ x := fun z => by rw [z, upd_same] at hD; cases hD
    refine ⟨D, _, rfl, .inl ⟨SqL.of hD4, fun t ht => ?_⟩⟩
    have hx4 := s4 _ _ upd_same
    have ntx : t ≠ x := fun z => by rw [z, hx4] at ht; cases ht
    refine ⟨_, rfl, _, _, _, _, rfl, uo hx4 ht, hC, o_Rule_numbers T, few, ?_⟩
    have s7 : SameP x H (upd (upd H4 t (.tup (ni R.pat))) x (.ins (He.ga K "Rule") dx (putF "numbers" (.ref t) (putF "right" (.bl R.right) (putF "left" (.bl R.left) (putF "value" (.str (Sx [ls.getD R.kd 0])) (putF "at" (.int (R.at_ : Int)) (putF "pattern" (.ref p) (putF "alphabet" (.ref va) []))))))))) := spt (spt sH2 s6) (spt (sps (str s4 (Same.new ht))) spu)
    have s27 : SameP x H2 (upd (upd H4 t (.tup (ni R.pat))) x (.ins (He.ga K "Rule") dx (putF "numbers" (.ref t) (putF "right" (.bl R.right) (putF "left" (.bl R.left) (putF "value" (.str (Sx [ls.getD R.kd 0])) (putF "at" (.int (R.at_ : Int)) (putF "pattern" (.ref p) (putF "alphabet" (.ref va) []))))))))) := spt s6 (spt (sps (str s4 (Same.new ht))) spu)
    have hv7 := hv.sp s7 nva
    refine ⟨_, rfl, va, rfl, hv7.mcell T, _, rfl, va, ls, 2 ^ R.kd, ?_, hv7, ok, Nat.pow_lt_pow_right (by decide) rk.kd, fun r H5 hr5 s5 hc5 => ⟨r, _, rfl, hc5.number T, _, rfl, _, _, _, _, rfl, s5 _ _ upd_same, hC, o_Rule_bit T, few, q _ (spt s7 (spt (sps s5) spu)) ?_⟩⟩
    · rw [sel_pow ok.four ekd]
    · have s8 := spt s27 (spt (sps s5) (spu (p := x) (o := .ins (He.ga K "Rule") dx (putF "bit" (.int ((2 ^ R.kd : Nat) : Int)) (putF "numbers" (.ref t) (putF "right" (.bl R.right) (putF "left" (.bl R.left) (putF "value" (.str (Sx [ls.getD R.kd 0])) (putF "at" (.int (R.at_ : Int)) (putF "pattern" (.ref p) (putF "alphabet" (.ref va) [])))))))))))
      exact ⟨dx, p, t, cs, upd_same, s8 _ _ npx e2, hcl, hcu s8, un' ntx (s5 _ _ (un' ntx upd_same))⟩
/-! ### a rule, made -/
def sp_Rule (K : PySem.W.Frag) : Sp := fun vs H Q E => ∃ (va tp : Addr) (ls : List Nat) (R : Rl) (xs : List V), vs = [.ref va, .ref tp, .int (R.at_ : Int), .str (Sx [ls.getD R.kd 0]), .bl R.left, .bl R.right] ∧ VaO K H va ls ∧ LetOk ls ∧ RlOk ls.length R ∧ (H tp = some (.lst xs) ∨ H tp = some (.tup xs)) ∧ xs.length = R.pat.length ∧
  (∀ (i : Nat) y m, xs[i]? = some y → R.pat[i]? = some m → CellV K H va ls y m) ∧ ∀ r H', H r = none → Same H H' → RuO K H' r va ls R → Q (.ref r) H'
theorem rule_made {vs : List V} {H : Hp} {Q : VK} {E : XK} (h : sp_Rule K vs H Q E) : ∀ x dx, H x = none → H dx = none → dx ≠ x → sp_Rule_init K (.ref x :: vs) (upd (upd H dx (.own x)) x (.ins (He.ga K "Rule") dx [])) (fun v H3 => v = .non ∧ Q (.ref x) H3) E := by
  obtain ⟨va, tp, ls, R, xs, rfl, hv, ok, rk, htp, hl, hc, q⟩ := h
  intro x dx hx hdx hne
  obtain ⟨hv', n1⟩ := hv.made (o := .own x) (o' := .ins (He.ga K "Rule") dx []) hx hdx
  have ntp : tp ≠ x ∧ tp ≠ dx := by
    rcases htp with h | h
    · exact ⟨ne_of_none h hx, ne_of_none h hdx⟩
    · exact ⟨ne_of_none h hx, ne_of_none h hdx⟩
  have sN : SameN H (upd (upd H dx (.own x)) x (.ins (He.ga K "Rule") dx [])) := fun a o e _ => un' (ne_of_none e hx) (un' (ne_of_none e hdx) e)
  exact ⟨x, dx, va, tp, ls, R, xs, rfl, hv', ok, rk, n1, ntp.1, htp.imp (fun e => un' ntp.1 (un' ntp.2 e)) (fun e => un' ntp.1 (un' ntp.2 e)), hl, fun i y m h1 h2 => (hc i y m h1 h2).mono sN, upd_same, fun H' s hr => ⟨rfl, q x H' hx (made hx hdx s) hr⟩⟩
theorem mk_Rule {w : World} {base : Heap} (T : Tx P K mg) : ∃ fd, FnOk P w K mg base CX0 6 (a_Rule_init K) fd p_Rule_init (sp_Rule_init K) ∧ KBn K fd p_Rule_init 5 ["left", "right"] (fun us ws => us ++ ws) (fun vs zs => vs ++ zs) := by
  obtain ⟨fd, F⟩ := f_Rule_init T
  obtain ⟨mv, kb⟩ := F.kbinds0 (ps := p_Rule_init) 5 ["left", "right"] [] (fun us _ ws => us ++ ws) (by simp) (fun q hq => nomatch hq) (fun h1 _ h3 => h1.append h3) fun D doc pm an cdv ct us mv ws h1 h2 h3 => match us, mv, ws, h1, h2, h3 with
    | [_, _, _, _, _], [], [_, _], _, _, _ => rfl
  exact ⟨fd, rule_ok T F, kb⟩
/-! ### what a rule is asked -/
def sp_Rule_need_values (K : PySem.W.Frag) : Sp := fun vs H Q E => ∃ (a b va : Addr) (ls ks : List Nat) (R : Rl), vs = [.ref a, .ref b] ∧ RuO K H a va ls R ∧ LiO K H b va ls ks ∧ VaO K H va ls ∧ Q .non H
theorem LiO.alphabet {H : Hp} {a va : Addr} {ls ks : List Nat} (T : Tx P K mg) (h : LiO K H a va ls ks) : Fld K H a "alphabet" (.ref va) := let ⟨dx, l, cs, e, _⟩ := h; ⟨_, dx, _, e, c_Line T, o_Line_alphabet T, rfl⟩
theorem F_Rule_need_values {w : World} {base : Heap} (T : Tx P K mg) : FnR P w K mg base CX0 2 (a_Rule_need_values K) (sp_Rule_need_values K) := by
  refine fnr (f_Rule_need_values T) sc_Rule_need_values (fun vs H Q E h => by obtain ⟨_, _, _, _, _, _, rfl, _⟩ := h; rfl) (fun _ _ _ _ _ _ us hl => match us, hl with | [_, _], _ => rfl) fun cdv A outer s H vs Q E hr h => ?_
  refine ⟨_, (pss_one (ps_if (pt_not (pt_cmpR (op_eqOwn (F_Values_eq T) (hr.mono (by decide))) (pe_f (pv 1)) (pe_f (pv 0)) (by first | rfl | exact nomark _ | exact nobehind _ (by decide) (by decide)))) (pss_one ps_never) pss_nil)), ?_⟩
  obtain ⟨a, b, va, ls, ks, R, rfl, hr, hl, hv, q⟩ := h
  exact ⟨_, rfl, b, _, rfl, hl.alphabet T, _, rfl, a, _, rfl, hr.alphabet T, va, va, rfl, rfl, hv.eq T hv, va, va, ls, rfl, hv, hv, true, rfl, iteF q⟩
def pws (ks : List Nat) : List Nat := ks.map fun a => 2 ^ a
def sp_Rule_holds (K : PySem.W.Frag) : Sp := fun vs H Q E => ∃ (a tn va b : Nat) (ls ks : List Nat) (R : Rl), vs = [.ref a, .ref tn, .int (b : Int)] ∧ RuO K H a va ls R ∧ R.pat.length ≤ 4 ∧ H tn = some (.tup (ni (pws ks))) ∧ b + R.pat.length ≤ ks.length ∧
  ∀ (t : Bool) H', Same H H' → (t = true ↔ FitN R.pat (cut ks b R.pat.length)) → Q (.bl t) H'
theorem F_Rule_holds {w : World} {base : Heap} (T : Tx P K mg) : FnR P w K mg base CX0 1 (a_Rule_holds K) (sp_Rule_holds K) := by
  refine fnr (f_Rule_holds T) sc_Rule_holds (fun vs H Q E h => by obtain ⟨_, _, _, _, _, _, _, rfl, _⟩ := h; rfl) (fun _ _ _ _ _ _ us hl => match us, hl with | [_, _, _], _ => rfl) fun cdv A outer s H vs Q E hr h => ?_
  refine ⟨_, (pss_one (ps_ret (pe_callB (cr_all rfl) rfl (e_all T) boot_all (pa_cons (pe_lcD (own := [("k", 3), ("own", 4)]) s H rfl sc_Rule_holds.nd (pi_enumT rfl (e_enumerate T) (pa_cons (pe_f (pv 0)) pa_nil)) (blkOk_by (N := n_Rule_holds) (sc := defScope s_Rule_holds) (by decide +kernel)) (fun _ _ _ _ _ => (pg_tup rfl (pgs_cons (pg_name (i := 3) sc_Rule_holds.nd rfl (Or.inl rfl)) (pgs_cons (pg_name (i := 4) sc_Rule_holds.nd rfl (Or.inl rfl)) pgs_nil)))) (fun _ _ _ _ _ => pts_nil) (fun _ _ _ _ _ => (pe_cmpR op_eq (pe_op op_and (pe_ix ix_tup (pv 1) (pe_op op_add (pv 2) (pv 3)) (fun _ _ => rfl)) (pe_un un_inv (pv 4))) pe_int (by first | rfl | exact nomark _ | exact nobehind _ (by decide) (by decide))))) pa_nil)))), ?_⟩
  obtain ⟨a, tn, va, b, ls, ks, R, rfl, hr, h4, htn, hb, q⟩ := h
  obtain ⟨tp, fp, htp⟩ := hr.numbers T
  have hpl : (ni R.pat).length ≤ 4 := by rw [ni_len]; exact h4
  refine ⟨_, rfl, a, _, rfl, fp, tp, _, rfl, SqT.of htp, fun D hD => lc_each walk_enumE (fun i v _ => ∃ m c, R.pat[i]? = some m ∧ ks[b + i]? = some c ∧ v = .bl (m.testBit c)) (fun _ _ _ _ _ h => h) hD (small1000 (by omega)) (fun H s => SqT.of (s _ _ htp)) yenum_same (fun i x H1 H2 hi s1 s2 y k kk => ?_) fun H2 acc s hD2 hla hR => ?_⟩
  · obtain ⟨t, z, rfl, ht, rfl, hz⟩ := y
    obtain ⟨m, hm, rfl⟩ := ni_of hz
    have hbi : b + i < ks.length := by have := (List.getElem?_eq_some_iff.mp hm).1; omega
    have hc := getD_some hbi
    have e2 : (pws ks)[b + i]? = some (2 ^ ks.getD (b + i) 0) := by unfold pws; rw [List.getElem?_map, hc]; rfl
    refine ⟨_, _, rfl, SqT.of upd_same, rfl, _, _, rfl, _, _, rfl, rfl, rfl, _, rfl, _, rfl, _, rfl, _, _, rfl, rfl, tn, _, _, .int ((2 ^ ks.getD (b + i) 0 : Nat) : Int), rfl, rfl, SqT.of (s2 _ _ htn), ?_, _, rfl, _, rfl, _, _, rfl, rfl, rfl, kk _ _ (srf _) ⟨m, _, hm, hc, ?_⟩⟩
    · have := atI_nat (ni_get e2)
      rw [Int.natCast_add] at this
      exact this
    · show V.bl (decide (V.int (Builtin.bitAnd ((2 ^ ks.getD (b + i) 0 : Nat) : Int) (Builtin.bitNot (m : Int))) = V.int 0)) = _
      rw [bit_sub]
      cases m.testBit (ks.getD (b + i) 0)
      · rw [if_neg (by decide), decide_eq_false]
        intro z
        have := V.int.inj z
        have h2 : 0 < 2 ^ ks.getD (b + i) 0 := Nat.two_pow_pos _
        omega
      · rw [if_pos rfl]
        rfl
  · rw [ni_len] at hla
    have ea : acc = ((List.range R.pat.length).map fun i => (R.pat.getD i 0).testBit (ks.getD (b + i) 0)).map V.bl := by
      rw [List.map_map]
      refine map_range (fun i v e => ?_) (by rw [hla, List.length_range])
      obtain ⟨m, c, h1, h2, rfl⟩ := hR i v e
      have hi : i < R.pat.length := (List.getElem?_eq_some_iff.mp h1).1
      refine ⟨i, List.getElem?_range hi, ?_⟩
      show _ = V.bl ((R.pat.getD i 0).testBit (ks.getD (b + i) 0))
      rw [List.getD_eq_getElem?_getD, h1, List.getD_eq_getElem?_getD, h2]
      rfl
    refine ⟨D, _, rfl, SqL.of (by rw [hD2, ea]), q _ H2 s ?_⟩
    rw [List.all_eq_true]
    constructor
    · intro h
      refine FitN.of (cut_len hb) fun i m c h1 h2 => ?_
      have hi : i < R.pat.length := (List.getElem?_eq_some_iff.mp h1).1
      rw [cut_get hi] at h2
      have := h _ (List.mem_map.mpr ⟨i, List.mem_range.mpr hi, rfl⟩)
      rw [List.getD_eq_getElem?_getD, h1, List.getD_eq_getElem?_getD, h2] at this
      exact this
    · intro f x hx
      obtain ⟨i, hi, rfl⟩ := List.mem_map.mp hx
      rw [List.mem_range] at hi
      obtain ⟨c, h1, h2⟩ := f.get i _ (getD_some hi)
      rw [cut_get hi] at h1
      show (R.pat.getD i 0).testBit (ks.getD (b + i) 0) = true
      rw [List.getD_eq_getElem?_getD (l := ks), h1]
      exact h2
def sp_Rule_strikes_in (K : PySem.W.Frag) : Sp := fun vs H Q E => ∃ (a tn va b : Nat) (ls ks : List Nat) (R : Rl), vs = [.ref a, .ref tn, .int (b : Int)] ∧ RuO K H a va ls R ∧ RlOk ls.length R ∧ H tn = some (.tup (ni (pws ks))) ∧ b + R.pat.length ≤ ks.length ∧
  ∀ (t : Bool) H', Same H H' → (t = true ↔ FitN R.nums (cut ks b R.pat.length)) → Q (.bl t) H'
theorem F_Rule_strikes_in {w : World} {base : Heap} (T : Tx P K mg) : FnR P w K mg base CX0 2 (a_Rule_strikes_in K) (sp_Rule_strikes_in K) := by
  refine fnr (f_Rule_strikes_in T) sc_Rule_strikes_in (fun vs H Q E h => by obtain ⟨_, _, _, _, _, _, _, rfl, _⟩ := h; rfl) (fun _ _ _ _ _ _ us hl => match us, hl with | [_, _, _], _ => rfl) fun cdv A outer s H vs Q E hr h => ?_
  refine ⟨_, (pss_one (ps_ret (pe_and (pe_cmpR op_gt (pe_op op_and (pe_ix ix_tup (pv 1) (pe_op op_add (pv 2) (pe_f (pv 0))) (fun _ _ => rfl)) (pe_f (pv 0))) pe_int (by first | rfl | exact nomark _ | exact nobehind _ (by decide) (by decide))) (pe_one (pe_m (pv 0) (F_Rule_holds T) (hr.mono (by decide)) (pa_cons (pv 1) (pa_cons (pv 2) pa_nil))))))), ?_⟩
  obtain ⟨a, tn, va, b, ls, ks, R, rfl, hr, rk, htn, hb, q⟩ := h
  have hat := rk.at_
  have hba : b + R.at_ < ks.length := by omega
  have hc := getD_some hba
  have e2 : (pws ks)[b + R.at_]? = some (2 ^ ks.getD (b + R.at_) 0) := by unfold pws; rw [List.getElem?_map, hc]; rfl
  refine ⟨_, rfl, _, rfl, _, rfl, a, _, rfl, hr.at_ T, _, _, rfl, rfl, tn, _, _, .int ((2 ^ ks.getD (b + R.at_) 0 : Nat) : Int), rfl, rfl, SqT.of htn, ?_, _, rfl, a, _, rfl, hr.bit T, _, _, rfl, rfl, _, _, rfl, rfl, _, rfl, ?_⟩
  · have := atI_nat (ni_get e2)
    rw [Int.natCast_add] at this
    exact this
  · refine ifp (p := ks.getD (b + R.at_) 0 = R.kd) ?_ (fun he => ⟨_, rfl, a, rfl, ?_⟩) fun hne => ?_
    · show decide ((0 : Int) < Builtin.bitAnd ((2 ^ ks.getD (b + R.at_) 0 : Nat) : Int) ((2 ^ R.kd : Nat) : Int)) = true ↔ _
      rw [bit_same, decide_eq_true_iff]
      have h2 : 0 < 2 ^ ks.getD (b + R.at_) 0 := Nat.two_pow_pos _
      split
      · exact ⟨fun _ => ‹_›, fun _ => by omega⟩
      · exact ⟨fun h => absurd h (by omega), fun h => absurd h ‹_›⟩
    · refine ⟨?_, _, rfl, _, rfl, a, tn, va, b, ls, ks, R, rfl, hr, rk.few, htn, hb, fun t H' s ht => q t H' s (ht.trans ?_)⟩
      · obtain ⟨dx, tp, t2, cs, e, _⟩ := hr
        exact mth_of e (c_Rule T) (h_Rule_holds T) rfl
      · rw [fit_nums rk, cut_get hat, hc, he]
        simp
    · refine q false H (srf _) ⟨fun h => (nomatch h), fun h => absurd ((fit_nums rk).mp h).1 ?_⟩
      rw [cut_get hat, hc]
      intro z
      exact hne (Option.some.inj z)
def sp_Rule_spans (K : PySem.W.Frag) : Sp := fun vs H Q E => ∃ (a va n p : Nat) (ls : List Nat) (R : Rl), vs = [.ref a, .int (n : Int), .int (p : Int)] ∧ RuO K H a va ls R ∧
  ∀ t : Bool, (t = true ↔ p + R.pat.length ≤ n ∧ (R.left = true → p = 0) ∧ (R.right = true → p + R.pat.length = n)) → Q (.bl t) H
theorem F_Rule_spans {w : World} {base : Heap} (T : Tx P K mg) : FnR P w K mg base CX0 1 (a_Rule_spans K) (sp_Rule_spans K) := by
  refine fnr (f_Rule_spans T) sc_Rule_spans (fun vs H Q E h => by obtain ⟨_, _, _, _, _, _, rfl, _⟩ := h; rfl) (fun _ _ _ _ _ _ us hl => match us, hl with | [_, _, _], _ => rfl) fun cdv A outer s H vs Q E hr h => ?_
  refine ⟨_, (pss_cons (ps_set (i := 3) sc_Rule_spans.nd rfl (Or.inl rfl) (pe_op op_add (pv 2) (pe_callB call_len_seq rfl (e_len T) boot_len (pa_cons (pe_f (pv 0)) pa_nil))))
  (pss_cons (ps_if (PW.pt (pw_or (pt_cmpR op_lt (pv 2) pe_int (by first | rfl | exact nomark _ | exact nobehind _ (by decide) (by decide))) (pw_or (pt_cmpR op_gt (pv 3) (pv 1) (by first | rfl | exact nomark _ | exact nobehind _ (by decide) (by decide))) (pw_or1 (PW.pt (pw_and (pt_val (pe_f (pv 0))) (pw_and1 (pt_cmpR op_gt (pv 2) pe_int (by first | rfl | exact nomark _ | exact nobehind _ (by decide) (by decide)))))))))) (pss_one (ps_ret pe_bl)) pss_nil)
  (pss_one (ps_ret (pe_or (pe_cmpR op_eq (pv 3) (pv 1) (by first | rfl | exact nomark _ | exact nobehind _ (by decide) (by decide))) (pe_one (pe_not (pe_f (pv 0))))))))), ?_⟩
  obtain ⟨a, va, n, p, ls, R, rfl, hr, q⟩ := h
  obtain ⟨tp, fp, htp⟩ := hr.numbers T
  refine ⟨_, rfl, _, rfl, a, _, rfl, fp, tp, _, rfl, .inr (SqT.of htp), _, _, rfl, rfl, _, rfl, _, _, rfl, rfl, _, rfl, ?_⟩
  refine ifb (c := false) (decide_eq_false (by omega)) (fun h => nomatch h) fun _ => ⟨_, rfl, _, rfl, _, _, rfl, rfl, _, rfl, ?_⟩
  refine ifp (p := ¬ p + R.pat.length ≤ n) ?_ (fun hn => ?_) fun hn => ?_
  · rw [ni_len, decide_eq_true_iff]
    omega
  · exact q false ⟨fun h => (nomatch h), fun h => absurd h.1 hn⟩
  · have hle : p + R.pat.length ≤ n := by omega
    refine ⟨_, rfl, a, _, rfl, hr.left T, _, rfl, ifb (c := R.left) rfl (fun hL => ?_) fun hL => ?_⟩
    · refine ⟨_, rfl, _, _, rfl, rfl, _, rfl, ifp (p := 0 < p) (by rw [decide_eq_true_iff]; omega) (fun hp => q false ⟨fun h => (nomatch h), fun h => absurd (h.2.1 hL) (by omega)⟩) fun hp => ?_⟩
      refine ⟨_, rfl, _, rfl, rfl, _, rfl, ifp (p := p + R.pat.length = n) ?_ (fun he => q true ⟨fun _ => ⟨hle, fun _ => by omega, fun _ => he⟩, fun _ => rfl⟩) fun he => ⟨_, rfl, a, _, rfl, hr.right T, _, rfl, q _ ?_⟩⟩
      · show decide (V.int ((p : Int) + ((ni R.pat).length : Int)) = V.int (n : Int)) = true ↔ _
        rw [ni_len, decide_eq_true_iff]
        exact ⟨fun z => by have := V.int.inj z; omega, fun z => by rw [← z]; rfl⟩
      · cases hR : R.right
        · exact ⟨fun _ => ⟨hle, fun _ => by omega, fun z => (nomatch z)⟩, fun _ => rfl⟩
        · exact ⟨fun z => (nomatch z), fun z => absurd (z.2.2 rfl) he⟩
    · refine ⟨_, rfl, _, rfl, rfl, _, rfl, ifp (p := p + R.pat.length = n) ?_ (fun he => q true ⟨fun _ => ⟨hle, (fun h => by rw [hL] at h; cases h), fun _ => he⟩, fun _ => rfl⟩) fun he => ⟨_, rfl, a, _, rfl, hr.right T, _, rfl, q _ ?_⟩⟩
      · show decide (V.int ((p : Int) + ((ni R.pat).length : Int)) = V.int (n : Int)) = true ↔ _
        rw [ni_len, decide_eq_true_iff]
        exact ⟨fun z => by have := V.int.inj z; omega, fun z => by rw [← z]; rfl⟩
      · cases hR : R.right
        · exact ⟨fun _ => ⟨hle, (fun h => by rw [hL] at h; cases h), fun z => (nomatch z)⟩, fun _ => rfl⟩
        · exact ⟨fun z => (nomatch z), fun z => absurd (z.2.2 rfl) he⟩
def sp_numbers_of_rules (K : PySem.W.Frag) : Sp := fun vs H Q E => ∃ (a va : Nat) (ls ks : List Nat), vs = [.ref a] ∧ LiO K H a va ls ks ∧ ks.length ≤ 4001 ∧ ∀ p H', Same H H' → H' p = some (.tup (ni (pws ks))) → Q (.ref p) H'
theorem F_numbers_of_rules {w : World} {base : Heap} (T : Tx P K mg) : FnR P w K mg base CX0 3 (a_numbers_of_rules K) (sp_numbers_of_rules K) := by
  refine fnr (f_numbers_of_rules T) sc_numbers_of_rules (fun vs H Q E h => by obtain ⟨_, _, _, _, rfl, _⟩ := h; rfl) (fun _ _ _ _ _ _ us hl => match us, hl with | [_], _ => rfl) fun cdv A outer s H vs Q E hr h => ?_
  refine ⟨_, (pss_one (ps_ret (pe_callTy call_tuple_of rfl (e_tuple T) boot_tuple (pa_cons (pe_lcD (own := [("cell", 1)]) s H rfl sc_numbers_of_rules.nd (pi_tup (pe_p (pv 0) (F_Line_cells T) (hr.mono (by decide)))) (blkOk_by (N := n_numbers_of_rules) (sc := defScope s_numbers_of_rules) (by decide +kernel)) (fun _ _ _ _ _ => (pg_name (i := 1) sc_numbers_of_rules.nd rfl (Or.inl rfl))) (fun _ _ _ _ _ => pts_nil) (fun _ _ _ _ _ => (pe_f (pv 1)))) pa_nil)))), ?_⟩
  obtain ⟨a, va, ls, ks, rfl, hl, hk, q⟩ := h
  have sz : 5000 ≤ sizeLine := by decide
  have hprp : Prp K H a "cells" (a_Line_cells K) := by
    obtain ⟨dx, l, cs, e, _⟩ := hl
    exact ⟨_, dx, _, _, e, c_Line T, p_Line_cells_ T⟩
  refine ⟨_, rfl, a, rfl, hprp, a, va, ls, ks, rfl, hl, fun t cs H1 s1 ht hcl hcs => ⟨t, rfl, ⟨_, SqT.of ht⟩, fun D hD => lc_each (walk_tup (xs := cs.map V.ref)) (fun i v _ => ∃ m, (pws ks)[i]? = some m ∧ v = .int (m : Int)) (fun _ _ _ _ _ h => h) hD (by rw [List.length_map]; omega) (fun H s => SqT.of (s _ _ ht)) yat_same (fun i x H2 H3 hi s2 s3 y k kk => ?_) fun H2 acc s hD2 hla hR => ?_⟩⟩
  · obtain ⟨rfl, hx⟩ := y
    rw [List.getElem?_map] at hx
    cases ec : cs[i]? with
    | none => rw [ec] at hx; cases hx
    | some c =>
      rw [ec] at hx
      cases hx
      have hip : i < ks.length := by rw [← hcl]; exact (List.getElem?_eq_some_iff.mp ec).1
      have hc := (hcs i c _ ec (getD_some hip)).mono (sn s3)
      exact ⟨rfl, _, rfl, c, _, rfl, hc.number T, kk _ _ (srf _) ⟨_, by unfold pws; rw [List.getElem?_map, getD_some hip]; rfl, rfl⟩⟩
  · have ea : acc = ni (pws ks) := map_range (f := fun n : Nat => V.int (n : Int)) hR (by rw [hla, List.length_map, hcl]; unfold pws; rw [List.length_map])
    refine ⟨D, _, rfl, .inl ⟨SqL.of hD2, fun u hu => q u _ (str s1 (str s (Same.new hu))) (by rw [upd_same, ea])⟩⟩
theorem cg_numbers_of_rules {w : World} {base : Heap} (T : Tx P K mg) : Cg P w K mg base 3 "numbers_of_rules" (sp_numbers_of_rules K) := .fn (g_numbers_of_rules T) (k_numbers_of_rules T) (F_numbers_of_rules T)
def sp_Rule_hits (K : PySem.W.Frag) : Sp := fun vs H Q E => ∃ (a b va p : Nat) (ls ks : List Nat) (R : Rl), vs = [.ref a, .ref b, .int (p : Int)] ∧ RuO K H a va ls R ∧ RlOk ls.length R ∧ LiO K H b va ls ks ∧ VaO K H va ls ∧ ks.length ≤ 4001 ∧
  ∀ (t : Bool) H', Same H H' → (t = true ↔ Hit R ks p) → Q (.bl t) H'
theorem LiO.mono {H H' : Hp} {a va : Addr} {ls ks : List Nat} (s : Same H H') (h : LiO K H a va ls ks) : LiO K H' a va ls ks := let ⟨dx, l, cs, e1, e2, e3, e4⟩ := h
  ⟨dx, l, cs, s _ _ e1, s _ _ e2, e3, fun i c k h1 h2 => (e4 i c k h1 h2).mono (sn s)⟩
theorem LiO.len {H : Hp} {a va : Addr} {ls ks : List Nat} (T : Tx P K mg) (h : LiO K H a va ls ks) : Dun K H a "__len__" (a_Line_len K) := let ⟨dx, l, cs, e, _⟩ := h; dun_of e (h_Line_len T)
theorem RuO.mth {H : Hp} {a va g : Addr} {ls : List Nat} {R : Rl} {m : Str} (T : Tx P K mg) (h : RuO K H a va ls R) (hm : Meth K (He.ga K "Rule") m g)
    (l : ∀ v1 v2 v3 v4 v5 v6 v7 v8 : V, ([("alphabet", v1), ("pattern", v2), ("at", v3), ("value", v4), ("left", v5), ("right", v6), ("numbers", v7), ("bit", v8)] : List (Str × V)).lookup m = none := by intros; rfl) : Mth K H a m g := by
  obtain ⟨dx, tp, tn, cs, e, _⟩ := h
  exact mth_of e (c_Rule T) hm (l _ _ _ _ _ _ _ _)
theorem F_Rule_hits {w : World} {base : Heap} (T : Tx P K mg) : FnR P w K mg base CX0 4 (a_Rule_hits K) (sp_Rule_hits K) := by
  refine fnr (f_Rule_hits T) sc_Rule_hits (fun vs H Q E h => by obtain ⟨_, _, _, _, _, _, _, rfl, _⟩ := h; rfl) (fun _ _ _ _ _ _ us hl => match us, hl with | [_, _, _], _ => rfl) fun cdv A outer s H vs Q E hr h => ?_
  refine ⟨_, (pss_cons (ps_expr (pe_m (pv 0) (F_Rule_need_values T) (hr.mono (by decide)) (pa_cons (pv 1) pa_nil)))
  (pss_one (ps_ret (pe_and (pe_m (pv 0) (F_Rule_spans T) (hr.mono (by decide)) (pa_cons (pe_callB (call_lenOwn (F_Line_len T) (hr.mono (by decide))) rfl (e_len T) boot_len (pa_cons (pv 1) pa_nil)) (pa_cons (pv 2) pa_nil))) (pe_one (pe_m (pv 0) (F_Rule_strikes_in T) (hr.mono (by decide)) (pa_cons (pe_g (cg_numbers_of_rules T) (hr.mono (by decide)) (pa_cons (pv 1) pa_nil)) (pa_cons (pv 2) pa_nil)))))))), ?_⟩
  obtain ⟨a, b, va, p, ls, ks, R, rfl, hr, rk, hl, hv, hk, q⟩ := h
  have sz : 5000 ≤ sizeLine := by decide
  refine ⟨_, rfl, a, rfl, hr.mth T (h_Rule_need_values T), _, rfl, a, b, va, ls, ks, R, rfl, hr, hl, hv, ?_⟩
  refine ⟨_, rfl, a, rfl, hr.mth T (h_Rule_spans T), _, rfl, b, rfl, hl.len T, b, va, ls, ks, rfl, hl, _, rfl, by omega, _, rfl, a, va, ks.length, p, ls, R, rfl, hr, fun t ht => ⟨t, rfl, ifb (c := t) rfl (fun h1 => ?_) fun h1 => q false H (srf _) ⟨fun z => (nomatch z), fun z => ?_⟩⟩⟩
  · obtain ⟨f1, f2, f3⟩ := ht.mp h1
    refine ⟨_, rfl, a, rfl, hr.mth T (h_Rule_strikes_in T), _, rfl, b, va, ls, ks, rfl, hl, hk, fun np H1 s1 e1 => ⟨_, rfl, a, np, va, p, ls, ks, R, rfl, hr.mono (sn s1), rk, e1, f1, fun t2 H2 s2 ht2 => q t2 H2 (str s1 s2) (ht2.trans ⟨fun f => ⟨f1, f2, f3, f⟩, fun h => h.fit⟩)⟩⟩
  · rw [ht.mpr ⟨z.fits, z.left, z.right⟩] at h1
    cases h1
def sp_Rule_neg (K : PySem.W.Frag) : Sp := fun vs H Q E => ∃ (a va : Nat) (ls : List Nat) (R : Rl), vs = [.ref a] ∧ RuO K H a va ls R ∧ RlOk ls.length R ∧ VaO K H va ls ∧ LetOk ls ∧ ∀ r H', H r = none → Same H H' → RuO K H' r va ls R.neg → Q (.ref r) H'
theorem F_Rule_neg {w : World} {base : Heap} (T : Tx P K mg) : FnR P w K mg base CX0 8 (a_Rule_neg K) (sp_Rule_neg K) := by
  refine fnr (f_Rule_neg T) sc_Rule_neg (fun vs H Q E h => by obtain ⟨_, _, _, _, rfl, _⟩ := h; rfl) (fun _ _ _ _ _ _ us hl => match us, hl with | [_], _ => rfl) fun cdv A outer s H vs Q E hr h => ?_
  obtain ⟨a, va, ls, R, rfl, hru, rk, hv, ok, q⟩ := h
  obtain ⟨fd, FR, KB⟩ := mk_Rule (w := w) (base := base) T
  obtain ⟨tp, cs, fp, htp, hcl, hcs⟩ := hru.pattern T
  have hat := rk.at_
  refine ⟨_, (pss_cons (ps_set (i := 1) sc_Rule_neg.nd rfl (Or.inl rfl) (pe_op op_sub (pe_op op_sub (pe_callB call_len_seq rfl (e_len T) boot_len (pa_cons (pe_f (pv 0)) pa_nil)) pe_int) (pe_f (pv 0)))) (pss_one (ps_ret (pe_makeK (m_Rule T) FR (hr.mono (by decide)) rfl (g_Rule T) KB pass0 (pa_cons (pe_f (pv 0)) (pa_cons (pe_revT (pe_f (pv 0))) (pa_cons (pv 1) (pa_cons (pe_f (pv 0)) pa_nil)))) (pk_cons (pe_f (pv 0)) (pk_cons (pe_f (pv 0)) pk_nil)))))), ?_⟩
  refine ⟨_, rfl, a, _, rfl, fp, tp, _, rfl, .inr (SqT.of htp), _, _, rfl, rfl, _, rfl, a, _, rfl, hru.at_ T, _, _, rfl, rfl, ?_⟩
  refine ⟨_, rfl, a, _, rfl, hru.alphabet T, _, rfl, a, _, rfl, fp, tp, _, rfl, SqT.of htp, fun t ht => ?_⟩
  have s1 := Same.new (o := .tup (cs.map V.ref).reverse) ht
  have hr1 := hru.mono (sn s1)
  refine ⟨_, rfl, _, rfl, a, _, rfl, hr1.value T, _, rfl, a, _, rfl, hr1.right T, _, rfl, a, _, rfl, hr1.left T, rfl, rfl, rule_made ⟨va, t, ls, R.neg, (cs.map V.ref).reverse, ?_, hv.mono (sn s1), ok, rk.neg, .inr upd_same, ?_, ?_, fun r H' hr' s' hr2 => q r H' (snone s1 hr') (str s1 s') hr2⟩⟩
  · show [V.ref va, V.ref t, V.int (((cs.map V.ref).length : Int) - 1 - (R.at_ : Int)), V.str _, V.bl R.right, V.bl R.left] = _
    rw [List.length_map, hcl]
    have e : ((R.pat.length : Int) - 1 - (R.at_ : Int)) = ((R.pat.length - 1 - R.at_ : Nat) : Int) := by omega
    rw [e]
    rfl
  · rw [List.length_reverse, List.length_map, hcl]
    show _ = R.pat.reverse.length
    rw [List.length_reverse]
  · intro i y m h1 h2
    have h2 : R.pat.reverse[i]? = some m := h2
    have hi : i < R.pat.length := by have := (List.getElem?_eq_some_iff.mp h2).1; rwa [List.length_reverse] at this
    rw [List.getElem?_reverse hi] at h2
    rw [List.getElem?_reverse (by rw [List.length_map, hcl]; exact hi), List.length_map, hcl, List.getElem?_map] at h1
    cases ec : cs[R.pat.length - 1 - i]? with
    | none => rw [ec] at h1; cases h1
    | some c =>
      rw [ec] at h1
      cases h1
      exact .inr ⟨c, rfl, (hcs _ _ _ ec h2).mono (sn s1)⟩
def sp_Rule_len (K : PySem.W.Frag) : Sp := fun vs H Q E => ∃ (a va : Nat) (ls : List Nat) (R : Rl), vs = [.ref a] ∧ RuO K H a va ls R ∧ Q (.int (R.pat.length : Int)) H
theorem F_Rule_len {w : World} {base : Heap} (T : Tx P K mg) : FnR P w K mg base CX0 1 (a_Rule_len K) (sp_Rule_len K) := by
  refine fnr (f_Rule_len T) sc_Rule_len (fun vs H Q E h => by obtain ⟨_, _, _, _, rfl, _⟩ := h; rfl) (fun _ _ _ _ _ _ us hl => match us, hl with | [_], _ => rfl) fun cdv A outer s H vs Q E hr h => ?_
  refine ⟨_, (pss_one (ps_ret (pe_callB call_len_seq rfl (e_len T) boot_len (pa_cons (pe_f (pv 0)) pa_nil)))), ?_⟩
  obtain ⟨a, va, ls, R, rfl, hr, q⟩ := h
  obtain ⟨tp, cs, fp, htp, hcl, hcs⟩ := hr.pattern T
  refine ⟨_, rfl, a, _, rfl, fp, tp, _, rfl, .inr (SqT.of htp), ?_⟩
  rw [List.length_map, hcl]
  exact q
theorem RuO.ty {H : Hp} {a va : Addr} {ls : List Nat} {R : Rl} (T : Tx P K mg) (h : RuO K H a va ls R) : TyX K H (.ref a) (.ref (He.ga K "Rule")) := let ⟨dx, tp, tn, cs, e, _⟩ := h; ty_ins e (c_Rule T) (T.ins _ (List.mem_of_getElem? (i := 2) rfl))
/-- what the second comparison looks at -/
def rd (ls : List Nat) (R : Rl) : PyData := .tuple [.int (R.at_ : Int), .str (Sx [ls.getD R.kd 0]), .bool R.left, .bool R.right]
theorem rd_shaped {ls : List Nat} {R : Rl} (ok : LetOk ls) (hk : R.kd < ls.length) : SeqAt.shaped (rd ls R) = true := by
  have hc := (ok.low _ (getD_mem (d := 0) hk)).2
  have e : (Sx [ls.getD R.kd 0]).cps.all (· < 0x110000) = true := by
    simp
    have h2 := hc
    rw [List.getD_eq_getElem?_getD] at h2
    omega
  show ((true && ((Sx [ls.getD R.kd 0]).cps.all (· < 0x110000) && true)) && true) = true
  rw [e]
  rfl
theorem rd_eqv {ls : List Nat} {R R' : Rl} (ok : LetOk ls) (hk : R.kd < ls.length) (hk' : R'.kd < ls.length) (hp : R.pat = R'.pat) (ne : R ≠ R') : PyData.eqv (rd ls R) (rd ls R') = false := by
  refine Bool.eq_false_iff.mpr fun h => ne ?_
  have h : ((R.at_ : Int) == (R'.at_ : Int) && (Sx [ls.getD R.kd 0] == Sx [ls.getD R'.kd 0] && (R.left == R'.left && (R.right == R'.right && true)))) = true := h
  rw [Bool.and_eq_true, Bool.and_eq_true, Bool.and_eq_true, Bool.and_eq_true] at h
  obtain ⟨h1, h2, h3, h4, _⟩ := h
  have e1 := eq_of_beq h1
  have e2 := sx_inj (eq_of_beq h2)
  have e3 := eq_of_beq h3
  have e4 := eq_of_beq h4
  have ek : R.kd = R'.kd := nd_inj ok.nd (getD_some hk) (by rw [getD_some hk', (List.cons.inj e2).1])
  obtain ⟨p, a, k, l, r⟩ := R
  obtain ⟨p', a', k', l', r'⟩ := R'
  have ea : a = a' := by have : (a : Int) = (a' : Int) := e1; omega
  have hp : p = p' := hp
  have ek : k = k' := ek
  have e3 : l = l' := e3
  have e4 : r = r' := e4
  rw [hp, ea, ek, e3, e4]
def sp_Rule_eq (K : PySem.W.Frag) : Sp := fun vs H Q E => ∃ (a b va : Nat) (ls : List Nat) (R R' : Rl), vs = [.ref a, .ref b] ∧ RuO K H a va ls R ∧ RuO K H b va ls R' ∧ VaO K H va ls ∧ LetOk ls ∧ R.kd < ls.length ∧ R'.kd < ls.length ∧ R ≠ R' ∧ ∀ H', Same H H' → Q (.bl false) H'
theorem F_Rule_eq {w : World} {base : Heap} (T : Tx P K mg) : FnR P w K mg base CX0 2 (a_Rule_eq K) (sp_Rule_eq K) := by
  refine fnr (f_Rule_eq T) sc_Rule_eq (fun vs H Q E h => by obtain ⟨_, _, _, _, _, _, rfl, _⟩ := h; rfl) (fun _ _ _ _ _ _ us hl => match us, hl with | [_, _], _ => rfl) fun cdv A outer s H vs Q E hr h => ?_
  refine ⟨_, (pss_cons (ps_if (PW.pt (pw_or (pt_not (pt_val (pe_callB call_isi rfl (e_isinstance T) boot_isinstance (pa_cons (pv 1) (pa_cons (pe_glob (v := .ref _) rfl (g_Rule T) rfl) pa_nil))))) (pw_or (pt_not (pt_cmpR (op_eqOwn (F_Values_eq T) (hr.mono (by decide))) (pe_f (pv 0)) (pe_f (pv 1)) (by first | rfl | exact nomark _ | exact nobehind _ (by decide) (by decide)))) (pw_or1 (pt_cmpR (op_neD (hu64 hr)) (pe_f (pv 0)) (pe_f (pv 1)) (by first | rfl | exact nomark _ | exact nobehind _ (by decide) (by decide))))))) (pss_one (ps_ret pe_bl)) pss_nil)
  (pss_one (ps_ret (pe_cmpR (op_eqD (hu64 hr)) (pe_tup (pa_cons (pe_f (pv 0)) (pa_cons (pe_f (pv 0)) (pa_cons (pe_f (pv 0)) (pa_cons (pe_f (pv 0)) pa_nil))))) (pe_tup (pa_cons (pe_f (pv 1)) (pa_cons (pe_f (pv 1)) (pa_cons (pe_f (pv 1)) (pa_cons (pe_f (pv 1)) pa_nil))))) (by first | rfl | exact nomark _ | exact nobehind _ (by decide) (by decide)))))), ?_⟩
  obtain ⟨a, b, va, ls, R, R', rfl, hr, hr', hv, ok, hk, hk', ne, q⟩ := h
  obtain ⟨tp, fp, htp⟩ := hr.numbers T
  obtain ⟨tp', fp', htp'⟩ := hr'.numbers T
  refine ⟨_, rfl, _, _, _, _, _, rfl, .own _, hr'.ty T, kit_self, true, rfl, iteF ⟨_, rfl, a, _, rfl, hr.alphabet T, _, rfl, b, _, rfl, hr'.alphabet T, va, va, rfl, rfl, hv.eq T hv, va, va, ls, rfl, hv, hv, true, rfl, iteF ?_⟩⟩
  refine ⟨_, rfl, a, _, rfl, fp, _, rfl, b, _, rfl, fp', _, _, dp_tup htp, dp_tup htp', dpi_shaped _, dpi_shaped _, _, rfl, ?_⟩
  refine ifb (c := !decide (R.pat = R'.pat)) (by show (!PyData.eqvAll (dpi R.pat) (dpi R'.pat)) = _; rw [dpi_eqv]) (fun _ => q H (srf _)) fun he => ?_
  have hp : R.pat = R'.pat := by simpa using he
  refine ⟨_, rfl, a, _, rfl, hr.at_ T, _, rfl, a, _, rfl, hr.value T, _, rfl, a, _, rfl, hr.left T, _, rfl, a, _, rfl, hr.right T, Nat.le_of_ble_eq_true rfl, fun t ht => ?_⟩
  have s1 := Same.new (o := .tup [.int (R.at_ : Int), .str (Sx [ls.getD R.kd 0]), .bl R.left, .bl R.right]) ht
  have hr1 := hr'.mono (sn s1)
  refine ⟨_, rfl, b, _, rfl, hr1.at_ T, _, rfl, b, _, rfl, hr1.value T, _, rfl, b, _, rfl, hr1.left T, _, rfl, b, _, rfl, hr1.right T, Nat.le_of_ble_eq_true rfl, fun u hu => ?_⟩
  refine ⟨rd ls R, rd ls R', .tup (SqT.of (uo upd_same hu)) (.cons (.int _) (.cons (.str _) (.cons (.bl _) (.cons (.bl _) .nil)))), .tup (SqT.of upd_same) (.cons (.int _) (.cons (.str _) (.cons (.bl _) (.cons (.bl _) .nil)))), rd_shaped ok hk, rd_shaped ok hk', ?_⟩
  have q' := q _ (str s1 (Same.new (o := .tup [.int (R'.at_ : Int), .str (Sx [ls.getD R'.kd 0]), .bl R'.left, .bl R'.right]) hu))
  rw [← rd_eqv ok hk hk' hp ne] at q'
  exact q'
end
end K5
end
section
set_option maxRecDepth 100000
set_option maxHeartbeats 2000000
/-! strikers and books: promises and walks -/
namespace K5
open PySem PySem.Spec PyProof.Rows L2
section
variable {P : Program} {K : PySem.W.Frag} {mg : Str → Option Value} {H H' : Hp} {a va : Addr} {ls : List Nat} {Rs : List Rl}
def BoO (K : PySem.W.Frag) (H : Hp) (a va : Addr) (ls : List Nat) (Rs : List Rl) : Prop := ∃ dx tr, ∃ rs : List Addr, H a = some (.ins (He.ga K "Book") dx [("alphabet", .ref va), ("own_rules", .ref tr)]) ∧ H tr = some (.tup (rs.map V.ref)) ∧ rs.length = Rs.length ∧
  (∀ (i : Nat) r R, rs[i]? = some r → Rs[i]? = some R → RuO K H r va ls R) ∧ (∀ R ∈ Rs, RlOk ls.length R) ∧ Rs.length ≤ 40
theorem BoO.mono (s : SameN H H') (h : BoO K H a va ls Rs) : BoO K H' a va ls Rs := let ⟨dx, tr, rs, e1, e2, e3, e4, e5⟩ := h
  ⟨dx, tr, rs, s _ _ e1 rfl, s _ _ e2 rfl, e3, fun i r R h1 h2 => (e4 i r R h1 h2).mono s, e5⟩
theorem BoO.alphabet (T : Tx P K mg) (h : BoO K H a va ls Rs) : Fld K H a "alphabet" (.ref va) := let ⟨dx, tr, rs, e, _⟩ := h; ⟨_, dx, _, e, c_Book T, o_Book_alphabet T, rfl⟩
theorem BoO.own (T : Tx P K mg) (h : BoO K H a va ls Rs) : ∃ tr, ∃ rs : List Addr, Fld K H a "own_rules" (.ref tr) ∧ H tr = some (.tup (rs.map V.ref)) ∧ rs.length = Rs.length ∧ ∀ (i : Nat) r R, rs[i]? = some r → Rs[i]? = some R → RuO K H r va ls R :=
  let ⟨dx, tr, rs, e, e2, e3, e4, _⟩ := h; ⟨tr, rs, ⟨_, dx, _, e, c_Book T, o_Book_own_rules T, rfl⟩, e2, e3, e4⟩
theorem BoO.ok (h : BoO K H a va ls Rs) : ∀ R ∈ Rs, RlOk ls.length R := let ⟨dx, tr, rs, e, e2, e3, e4, e5, _⟩ := h; e5
theorem BoO.few (h : BoO K H a va ls Rs) : Rs.length ≤ 40 := let ⟨dx, tr, rs, e, e2, e3, e4, e5, e6⟩ := h; e6
theorem BoO.mth {g : Addr} {m : Str} (T : Tx P K mg) (h : BoO K H a va ls Rs) (hm : Meth K (He.ga K "Book") m g) (l : ∀ v1 v2 : V, ([("alphabet", v1), ("own_rules", v2)] : List (Str × V)).lookup m = none := by intros; rfl) : Mth K H a m g := by
  obtain ⟨dx, tr, rs, e, _⟩ := h
  exact mth_of e (c_Book T) hm (l _ _)
theorem BoO.prp {f : Str} {p g : Addr} (T : Tx P K mg) (h : BoO K H a va ls Rs) (hp : PropOf K (He.ga K "Book") f p g) : Prp K H a f g := by
  obtain ⟨dx, tr, rs, e, _⟩ := h
  exact ⟨_, dx, _, _, e, c_Book T, hp⟩
theorem RuO.len (T : Tx P K mg) {R : Rl} (h : RuO K H a va ls R) : Dun K H a "__len__" (a_Rule_len K) := let ⟨dx, tp, tn, cs, e, _⟩ := h; dun_of e (h_Rule_len T)
theorem fold_max : ∀ (l : List Nat) (b : Nat), b ≤ l.foldl max b ∧ (∀ x ∈ l, x ≤ l.foldl max b) ∧ (l.foldl max b = b ∨ l.foldl max b ∈ l)
  | [], b => ⟨Nat.le_refl _, fun x h => (nomatch h), .inl rfl⟩
  | c :: l, b => by
    obtain ⟨h1, h2, h3⟩ := fold_max l (max b c)
    refine ⟨Nat.le_trans (Nat.le_max_left _ _) h1, fun x hx => ?_, ?_⟩
    · rcases List.mem_cons.mp hx with rfl | hx
      · exact Nat.le_trans (Nat.le_max_right _ _) h1
      · exact h2 x hx
    · rcases h3 with h3 | h3
      · show l.foldl max (max b c) = b ∨ l.foldl max (max b c) ∈ c :: l
        rw [h3]
        rcases Nat.le_total b c with h | h
        · rw [Nat.max_eq_right h]
          exact .inr List.mem_cons_self
        · rw [Nat.max_eq_left h]
          exact .inl rfl
      · exact .inr (List.mem_cons_of_mem _ h3)
def wid (Rs : List Rl) : Nat := (Rs.map fun R => R.pat.length).foldl max 0
theorem wid_ge {R : Rl} (h : R ∈ Rs) : R.pat.length ≤ wid Rs := (fold_max _ 0).2.1 _ (List.mem_map.mpr ⟨R, h, rfl⟩)
theorem wid_max {m : Int} (h : m ∈ (0 : Int) :: Rs.map fun R => (R.pat.length : Int)) (hx : ∀ y, y ∈ ((0 : Int) :: Rs.map fun R => (R.pat.length : Int)) → y ≤ m) : m = (wid Rs : Nat) := by
  refine Int.le_antisymm ?_ ?_
  · rcases List.mem_cons.mp h with rfl | h
    · exact Int.natCast_nonneg _
    · obtain ⟨R, hR, rfl⟩ := List.mem_map.mp h
      have := wid_ge hR
      omega
  · rcases (fold_max (Rs.map fun R => R.pat.length) 0).2.2 with e | e
    · show ((List.foldl max 0 (Rs.map fun R => R.pat.length) : Nat) : Int) ≤ m
      rw [e]
      exact hx 0 List.mem_cons_self
    · obtain ⟨R, hR, e⟩ := List.mem_map.mp e
      show ((List.foldl max 0 (Rs.map fun R => R.pat.length) : Nat) : Int) ≤ m
      rw [← e]
      exact hx _ (List.mem_cons_of_mem _ (List.mem_map.mpr ⟨R, hR, rfl⟩))
end
section
variable {P : Program} {K : PySem.W.Frag} {mg : Str → Option Value}
def sp_Book_rules (K : PySem.W.Frag) : Sp := fun vs H Q E => ∃ (a tr : Nat), vs = [.ref a] ∧ Fld K H a "own_rules" (.ref tr) ∧ Q (.ref tr) H
theorem F_Book_rules {w : World} {base : Heap} (T : Tx P K mg) : FnR P w K mg base CX0 1 (a_Book_rules K) (sp_Book_rules K) := by
  refine fnr (f_Book_rules T) sc_Book_rules (fun vs H Q E h => by obtain ⟨_, _, rfl, _⟩ := h; rfl) (fun _ _ _ _ _ _ us hl => match us, hl with | [_], _ => rfl) fun cdv A outer s H vs Q E hr h => ?_
  refine ⟨_, (pss_one (ps_ret (pe_f (pv 0)))), ?_⟩
  obtain ⟨a, tr, rfl, f, q⟩ := h
  exact ⟨_, rfl, a, _, rfl, f, q⟩
def sp_Book_width (K : PySem.W.Frag) : Sp := fun vs H Q E => ∃ (a va : Nat) (ls : List Nat) (Rs : List Rl), vs = [.ref a] ∧ BoO K H a va ls Rs ∧ ∀ H', Same H H' → Q (.int (wid Rs : Nat)) H'
theorem F_Book_width {w : World} {base : Heap} (T : Tx P K mg) : FnR P w K mg base CX0 3 (a_Book_width K) (sp_Book_width K) := by
  refine fnr (f_Book_width T) sc_Book_width (fun vs H Q E h => by obtain ⟨_, _, _, _, rfl, _⟩ := h; rfl) (fun _ _ _ _ _ _ us hl => match us, hl with | [_], _ => rfl) fun cdv A outer s H vs Q E hr h => ?_
  refine ⟨_, (pss_one (ps_ret (pe_callB (cr_max rfl) rfl (e_max T) boot_max (pa_cons (pe_lst (pa_cons pe_int (StX.pa_star (pe_lcD (own := [("rule", 1)]) s H rfl sc_Book_width.nd (pi_tup (pe_f (pv 0))) (blkOk_by (N := n_Book_width) (sc := defScope s_Book_width) (by decide +kernel)) (fun _ _ _ _ _ => (pg_name (i := 1) sc_Book_width.nd rfl (Or.inl rfl))) (fun _ _ _ _ _ => pts_nil) (fun _ _ _ _ _ => (pe_callB (call_lenOwn (F_Rule_len T) (hr.mono (by decide))) rfl (e_len T) boot_len (pa_cons (pv 1) pa_nil)))) pa_nil))) pa_nil)))), ?_⟩
  obtain ⟨a, va, ls, Rs, rfl, hb, q⟩ := h
  obtain ⟨tr, rs, f, htr, hrl, hrs⟩ := hb.own T
  have h40 := hb.few
  have hlr : (rs.map V.ref).length = Rs.length := by rw [List.length_map, hrl]
  have sz : 1000 ≤ sizeLine := by decide
  refine ⟨_, rfl, a, _, rfl, f, tr, rfl, ⟨_, SqT.of htr⟩, fun D hD => lc_each (walk_tup (xs := rs.map V.ref)) (fun i v _ => ∃ R, Rs[i]? = some R ∧ v = .int (R.pat.length : Int)) (fun _ _ _ _ _ h => h) hD (small1000 (by omega)) (fun H s => SqT.of (s _ _ htr)) yat_same (fun i x H1 H2 hi s1 s2 y k kk => ?_) fun H2 acc s hD2 hla hR => ?_⟩
  · obtain ⟨rfl, hx⟩ := y
    rw [List.getElem?_map] at hx
    cases ec : rs[i]? with
    | none => rw [ec] at hx; cases hx
    | some r =>
      rw [ec] at hx
      cases hx
      have hi' : i < Rs.length := by rw [← hrl]; exact (List.getElem?_eq_some_iff.mp ec).1
      have eR : Rs[i]? = some Rs[i] := List.getElem?_eq_getElem hi'
      have hr' := (hrs i r _ ec eR).mono (sn s2)
      have rk := hb.ok _ (List.mem_of_getElem? eR)
      exact ⟨rfl, _, rfl, r, rfl, hr'.len T, r, va, ls, Rs[i], rfl, hr', _, rfl, by have := rk.few; omega, kk _ _ (srf _) ⟨_, eR, rfl⟩⟩
  · rw [hlr] at hla
    have ea : acc = (Rs.map fun R => (R.pat.length : Int)).map V.int := by
      rw [List.map_map]
      exact map_range (f := fun R : Rl => V.int (R.pat.length : Int)) hR hla
    refine ⟨D, acc, rfl, .inr (SqL.of hD2), by show (_ :: (acc ++ [])).length ≤ _; rw [List.append_nil, List.length_cons]; omega, fun p hp => ⟨p, 0 :: Rs.map fun R => (R.pat.length : Int), rfl, SqL.of ?_, Nat.succ_pos _, fun m hm hmx => ?_⟩⟩
    · rw [upd_same, List.append_nil, ea]
      rfl
    · rw [wid_max hm hmx]
      exact q _ (str s (Same.new hp))
def sp_Striker_reach (K : PySem.W.Frag) : Sp := fun vs H Q E => ∃ (a va : Nat) (ls : List Nat) (Rs : List Rl), vs = [.ref a] ∧ BoO K H a va ls Rs ∧ ∀ H', Same H H' → Q (.int ((wid Rs - 1 : Nat) : Int)) H'
theorem F_Striker_reach {w : World} {base : Heap} (T : Tx P K mg) : FnR P w K mg base CX0 5 (a_Striker_reach K) (sp_Striker_reach K) := by
  refine fnr (f_Striker_reach T) sc_Striker_reach (fun vs H Q E h => by obtain ⟨_, _, _, _, rfl, _⟩ := h; rfl) (fun _ _ _ _ _ _ us hl => match us, hl with | [_], _ => rfl) fun cdv A outer s H vs Q E hr h => ?_
  refine ⟨_, (pss_one (ps_ret (pe_callB (call_max2 rfl) rfl (e_max T) boot_max (pa_cons pe_int (pa_cons (pe_callTy call_int1 rfl (e_int T) boot_int (pa_cons (pe_op op_sub (pe_p (pv 0) (F_Book_width T) (hr.mono (by decide))) pe_int) pa_nil)) pa_nil))))), ?_⟩
  obtain ⟨a, va, ls, Rs, rfl, hb, q⟩ := h
  refine ⟨_, rfl, a, rfl, hb.prp T (p_Book_width_ T), a, va, ls, Rs, rfl, hb, fun H1 s1 => ⟨_, _, rfl, rfl, .inl ⟨_, rfl, _, _, rfl, ?_⟩⟩⟩
  have e : (if ((wid Rs : Nat) : Int) - 1 > 0 then ((wid Rs : Nat) : Int) - 1 else 0) = ((wid Rs - 1 : Nat) : Int) := by
    split <;> omega
  have q' := q H1 s1
  rw [← e] at q'
  exact q'
theorem strike_snoc {Rs : List Rl} {i : Nat} {R : Rl} {ts : List Nat} {st rt : Bool} (h : Rs[i]? = some R) (n : ¬ StrikeL (Rs.take i) ts st rt) (hR : ¬ StrikeR R ts st rt) : ¬ StrikeL (Rs.take (i + 1)) ts st rt := by
  rintro ⟨R', hm, z⟩
  rw [List.take_succ, h] at hm
  rcases List.mem_append.mp hm with hm | hm
  · exact n ⟨R', hm, z⟩
  · simp at hm
    subst hm
    exact hR z
def sp_Book_strikes_last (K : PySem.W.Frag) : Sp := fun vs H Q E => ∃ (a va tn : Nat) (ls ts : List Nat) (Rs : List Rl) (st rt : Bool), vs = [.ref a, .ref tn, .bl st, .bl rt] ∧ BoO K H a va ls Rs ∧ H tn = some (.tup (ni (pws ts))) ∧ ∀ (t : Bool) H', Same H H' → (t = true ↔ StrikeL Rs ts st rt) → Q (.bl t) H'
theorem F_Book_strikes_last {w : World} {base : Heap} (T : Tx P K mg) : FnR P w K mg base CX0 4 (a_Book_strikes_last K) (sp_Book_strikes_last K) := by
  refine fnr (f_Book_strikes_last T) sc_Book_strikes_last (fun vs H Q E h => by obtain ⟨_, _, _, _, _, _, _, _, rfl, _⟩ := h; rfl) (fun _ _ _ _ _ _ us hl => match us, hl with | [_, _, _, _], _ => rfl) fun cdv A outer s H vs Q E hr h => ?_
  refine ⟨_, (pss_cons (ps_for PassesOwn.never rfl (pi_tup (pe_f (pv 0))) (pg_name (i := 4) sc_Book_strikes_last.nd rfl (Or.inl rfl))
  (pss_cons (ps_set (i := 5) sc_Book_strikes_last.nd rfl (Or.inl rfl) (pe_op op_sub (pe_callB call_len_seq rfl (e_len T) boot_len (pa_cons (pv 1) pa_nil)) (pe_callB (call_lenOwn (F_Rule_len T) (hr.mono (by decide))) rfl (e_len T) boot_len (pa_cons (pv 4) pa_nil))))
  (pss_one (ps_if (PW.pt (pw_and (pt_cmpR op_eq (pe_f (pv 4)) (pv 3) (by first | rfl | exact nomark _ | exact nobehind _ (by decide) (by decide))) (pw_and (pt_cmpR op_ge (pv 5) pe_int (by first | rfl | exact nomark _ | exact nobehind _ (by decide) (by decide))) (pw_and1 (PW.pt (pw_or (pt_not (pt_val (pe_f (pv 4)))) (pw_or1 (PW.pt (pw_and (pt_val (pv 2)) (pw_and1 (pt_cmpR op_eq (pv 5) pe_int (by first | rfl | exact nomark _ | exact nobehind _ (by decide) (by decide))))))))))))) (pss_one (ps_if (pt_val (pe_m (pv 4) (F_Rule_strikes_in T) (hr.mono (by decide)) (pa_cons (pv 1) (pa_cons (pv 5) pa_nil)))) (pss_one (ps_ret pe_bl)) pss_nil)) pss_nil))))
  (pss_one (ps_ret pe_bl))), ?_⟩
  obtain ⟨a, va, tn, ls, ts, Rs, st, rt, rfl, hb, htn, q⟩ := h
  obtain ⟨tr, rs, f, htr, hrl, hrs⟩ := hb.own T
  refine ⟨_, rfl, a, _, rfl, f, tr, rfl, ⟨_, SqT.of htr⟩, for_tup (xs := rs.map V.ref) (fun i σ H' => (∃ u v, σ = [.some (.ref a), .some (.ref tn), .some (.bl st), .some (.bl rt), u, v]) ∧ Same H H' ∧ ¬ StrikeL (Rs.take i) ts st rt) ⟨⟨_, _, rfl⟩, srf _, fun ⟨R, h, _⟩ => nomatch h⟩ (fun i σ H' _ h => SqT.of (h.2.1 _ _ htr)) ?_ ?_⟩
  · rintro i x σ H1 hx ⟨⟨u, v, rfl⟩, s, hn⟩
    rw [List.getElem?_map] at hx
    cases ec : rs[i]? with
    | none => rw [ec] at hx; cases hx
    | some r =>
      rw [ec] at hx
      cases hx
      have hi' : i < Rs.length := by rw [← hrl]; exact (List.getElem?_eq_some_iff.mp ec).1
      have eR : Rs[i]? = some Rs[i] := List.getElem?_eq_getElem hi'
      have hr' := (hrs i r _ ec eR).mono (sn s)
      have rk := hb.ok _ (List.mem_of_getElem? eR)
      generalize Rs[i] = R at eR hr' rk
      have sz : 1000 ≤ sizeLine := by decide
      have hlen : (ni (pws ts)).length = ts.length := by rw [ni_len]; unfold pws; rw [List.length_map]
      have no : ¬ StrikeR R ts st rt → ∀ u v, (∃ u' v', [some (V.ref a), some (V.ref tn), some (V.bl st), some (V.bl rt), (u : Option V), (v : Option V)] = [some (V.ref a), some (V.ref tn), some (V.bl st), some (V.bl rt), u', v']) ∧ Same H H1 ∧ ¬ StrikeL (Rs.take (i + 1)) ts st rt := fun h u v => ⟨⟨_, _, rfl⟩, s, strike_snoc eR hn h⟩
      refine ⟨_, rfl, tn, _, rfl, .inr (SqT.of (s _ _ htn)), _, rfl, r, rfl, hr'.len T, r, va, ls, R, rfl, hr', _, rfl, by have := rk.few; omega, _, _, rfl, rfl, ?_⟩
      refine ⟨_, rfl, r, _, rfl, hr'.right T, _, rfl, rfl, _, rfl, ifp (p := R.right = rt) ?_ (fun h1 => ?_) fun h1 => no (fun z => h1 z.1) _ _⟩
      · rw [decide_eq_true_iff]
        exact ⟨fun z => V.bl.inj z, fun z => by rw [z]⟩
      refine ⟨_, rfl, _, _, rfl, rfl, _, rfl, ifp (p := R.pat.length ≤ ts.length) ?_ (fun h2 => ?_) fun h2 => no (fun z => h2 z.2.1) _ _⟩
      · rw [decide_eq_true_iff, hlen]
        omega
      have eb : ((ni (pws ts)).length : Int) - (R.pat.length : Int) = ((ts.length - R.pat.length : Nat) : Int) := by rw [hlen]; omega
      have fin : (R.left = true → st = true ∧ R.pat.length = ts.length) → ∀ (u : V), u = V.int (((ni (pws ts)).length : Int) - (R.pat.length : Int)) → sp_Rule_strikes_in K [V.ref r, V.ref tn, u] H1 (fun x H2 => ∃ c, x = V.bl c ∧ if c = true then Q (.bl true) H2 else (∃ u' v', [some (V.ref a), some (V.ref tn), some (V.bl st), some (V.bl rt), some (V.ref r), some u] = [some (V.ref a), some (V.ref tn), some (V.bl st), some (V.bl rt), u', v']) ∧ Same H H2 ∧ ¬ StrikeL (Rs.take (i + 1)) ts st rt) E0 := fun h3 u hu => by
        subst hu
        refine ⟨r, tn, va, ts.length - R.pat.length, ls, ts, R, by rw [eb], hr', rk, s _ _ htn, by omega, fun t H2 s2 ht => ⟨t, rfl, ifb (c := t) rfl (fun h => q true H2 (str s s2) ⟨fun _ => ⟨R, List.mem_of_getElem? eR, h1, h2, h3, ht.mp h⟩, fun _ => rfl⟩) fun h => ⟨⟨_, _, rfl⟩, str s s2, strike_snoc eR hn fun z => ?_⟩⟩⟩
        rw [ht.mpr z.2.2.2] at h
        cases h
      refine ⟨_, rfl, r, _, rfl, hr'.left T, _, rfl, ?_⟩
      refine ifb (c := !R.left) rfl (fun h3 => ⟨_, rfl, r, rfl, hr'.mth T (h_Rule_strikes_in T), _, rfl, _, rfl, fin (fun h => by rw [h] at h3; cases h3) _ rfl⟩) fun h3 => ?_
      have hL : R.left = true := by simpa using h3
      refine ⟨_, rfl, _, rfl, ifb (c := st) rfl (fun h4 => ?_) fun h4 => no (fun z => by have := (z.2.2.1 hL).1; rw [h4] at this; cases this) _ _⟩
      refine ⟨_, rfl, rfl, _, rfl, ifp (p := R.pat.length = ts.length) ?_ (fun h5 => ⟨_, rfl, r, rfl, hr'.mth T (h_Rule_strikes_in T), _, rfl, _, rfl, fin (fun _ => ⟨h4, h5⟩) _ rfl⟩) fun h5 => no (fun z => h5 (z.2.2.1 hL).2) _ _⟩
      rw [decide_eq_true_iff]
      show V.int (((ni (pws ts)).length : Int) - (R.pat.length : Int)) = V.int 0 ↔ _
      rw [hlen]
      exact ⟨fun z => by have := V.int.inj z; omega, fun z => by rw [z]; simp⟩
  · rintro σ H1 ⟨⟨u, v, rfl⟩, s, hn⟩
    rw [List.take_of_length_le (by rw [List.length_map, hrl]; exact Nat.le_refl _)] at hn
    exact q false H1 s ⟨fun z => (nomatch z), fun z => absurd z hn⟩
def sp_Book_strikes_at (K : PySem.W.Frag) : Sp := fun vs H Q E => ∃ (a va tn : Nat) (ls ts : List Nat) (Rs : List Rl) (st : Bool), vs = [.ref a, .ref tn, .bl st] ∧ BoO K H a va ls Rs ∧ H tn = some (.tup (ni (pws ts))) ∧ ∀ (t : Bool) H', Same H H' → (t = true ↔ StrikeL Rs ts st false) → Q (.bl t) H'
theorem F_Book_strikes_at {w : World} {base : Heap} (T : Tx P K mg) : FnR P w K mg base CX0 5 (a_Book_strikes_at K) (sp_Book_strikes_at K) := by
  refine fnr (f_Book_strikes_at T) sc_Book_strikes_at (fun vs H Q E h => by obtain ⟨_, _, _, _, _, _, _, rfl, _⟩ := h; rfl) (fun _ _ _ _ _ _ us hl => match us, hl with | [_, _, _], _ => rfl) fun cdv A outer s H vs Q E hr h => ?_
  refine ⟨_, (pss_one (ps_ret (pe_m (pv 0) (F_Book_strikes_last T) (hr.mono (by decide)) (pa_cons (pv 1) (pa_cons (pv 2) (pa_cons pe_bl pa_nil)))))), ?_⟩
  obtain ⟨a, va, tn, ls, ts, Rs, st, rfl, hb, htn, q⟩ := h
  exact ⟨_, rfl, a, rfl, hb.mth T (h_Book_strikes_last T), _, rfl, _, rfl, a, va, tn, ls, ts, Rs, st, false, rfl, hb, htn, q⟩
def sp_Book_strikes_end (K : PySem.W.Frag) : Sp := fun vs H Q E => ∃ (a va tn : Nat) (ls ts : List Nat) (Rs : List Rl) (st : Bool), vs = [.ref a, .ref tn, .bl st] ∧ BoO K H a va ls Rs ∧ H tn = some (.tup (ni (pws ts))) ∧ ∀ (t : Bool) H', Same H H' → (t = true ↔ StrikeL Rs ts st true) → Q (.bl t) H'
theorem F_Book_strikes_end {w : World} {base : Heap} (T : Tx P K mg) : FnR P w K mg base CX0 5 (a_Book_strikes_end K) (sp_Book_strikes_end K) := by
  refine fnr (f_Book_strikes_end T) sc_Book_strikes_end (fun vs H Q E h => by obtain ⟨_, _, _, _, _, _, _, rfl, _⟩ := h; rfl) (fun _ _ _ _ _ _ us hl => match us, hl with | [_, _, _], _ => rfl) fun cdv A outer s H vs Q E hr h => ?_
  refine ⟨_, (pss_one (ps_ret (pe_m (pv 0) (F_Book_strikes_last T) (hr.mono (by decide)) (pa_cons (pv 1) (pa_cons (pv 2) (pa_cons pe_bl pa_nil)))))), ?_⟩
  obtain ⟨a, va, tn, ls, ts, Rs, st, rfl, hb, htn, q⟩ := h
  exact ⟨_, rfl, a, rfl, hb.mth T (h_Book_strikes_last T), _, rfl, _, rfl, a, va, tn, ls, ts, Rs, st, true, rfl, hb, htn, q⟩
theorem slice_from {H : Hp} {a : Addr} {xs : List V} {k : Nat} {Q : VK} (h : H a = some (.tup xs)) (hk : k ≤ xs.length) (q : ∀ (r : Addr) H', Same H H' → H' r = some (.tup (xs.drop k)) → Q (.ref r) H') : rSlA K (.ref a) (some (k : Int)) none H Q := by
  have e1 : HT.sIx xs.length 0 (some (k : Int)) = k := by rw [HT.sIx_nat]; exact Nat.min_eq_left hk
  have e2 : HT.sIx xs.length xs.length none = xs.length := rfl
  refine ⟨a, xs, rfl, SqT.of h, fun z => ?_, fun _ p hp => q p _ (Same.new hp) ?_⟩
  · rw [e1] at z
    exact q a H (srf _) (by rw [z.1]; exact h)
  · rw [upd_same]
    unfold cutV
    rw [e1, e2, List.take_of_length_le (by rw [List.length_drop]; exact Nat.le_refl _)]
theorem slice_to {H : Hp} {a : Addr} {xs : List V} {k : Nat} {Q : VK} (h : H a = some (.tup xs)) (hk : k ≤ xs.length) (q : ∀ (r : Addr) H', Same H H' → H' r = some (.tup (xs.take k)) → Q (.ref r) H') : rSlA K (.ref a) none (some (k : Int)) H Q := by
  have e1 : HT.sIx xs.length xs.length (some (k : Int)) = k := by rw [HT.sIx_nat]; exact Nat.min_eq_left hk
  have e2 : HT.sIx xs.length 0 none = 0 := rfl
  refine ⟨a, xs, rfl, SqT.of h, fun z => ?_, fun _ p hp => q p _ (Same.new hp) ?_⟩
  · rw [e1] at z
    exact q a H (srf _) (by rw [z.2, List.take_length]; exact h)
  · rw [upd_same]
    unfold cutV
    rw [e1, e2, List.drop_zero]
    rfl
def sp_Striker_stepped (K : PySem.W.Frag) : Sp := fun vs H Q E => ∃ (a va tt : Nat) (ls ts : List Nat) (c : Nat) (Rs : List Rl) (st : Bool), vs = [.ref a, .ref tt, .int ((2 ^ c : Nat) : Int), .bl st] ∧ BoO K H a va ls Rs ∧ H tt = some (.tup (ni (pws ts))) ∧ ts.length ≤ 4 ∧
  (StrikeL Rs (ts ++ [c]) st false → ∀ H', Same H H' → Q .non H') ∧
  (¬ StrikeL Rs (ts ++ [c]) st false → ∀ (p q : Addr) (me : Bool) H', Same H H' → (me = true ↔ ¬ StrikeL Rs (ts ++ [c]) st true) → H' q = some (.tup (ni (pws ((ts ++ [c]).drop (ts.length + 1 - (wid Rs - 1)))))) → H' p = some (.tup [.ref q, .bl (st && decide (ts.length + 1 ≤ wid Rs - 1)), .bl me]) → Q (.ref p) H')
theorem F_Striker_stepped {w : World} {base : Heap} (T : Tx P K mg) : FnR P w K mg base CX0 7 (a_Striker_stepped K) (sp_Striker_stepped K) := by
  refine fnr (f_Striker_stepped T) sc_Striker_stepped (fun vs H Q E h => by obtain ⟨_, _, _, _, _, _, _, _, rfl, _⟩ := h; rfl) (fun _ _ _ _ _ _ us hl => match us, hl with | [_, _, _, _], _ => rfl) fun cdv A outer s H vs Q E hr h => ?_
  refine ⟨_, (pss_cons (ps_set (i := 4) sc_Striker_stepped.nd rfl (Or.inl rfl) (pe_tup (StX.pa_star (pv 1) (pa_cons (pv 2) pa_nil))))
  (pss_cons (ps_if (pt_val (pe_m (pv 0) (F_Book_strikes_at T) (hr.mono (by decide)) (pa_cons (pv 4) (pa_cons (pv 3) pa_nil)))) (pss_one (ps_ret pe_non)) pss_nil)
  (pss_cons (ps_set (i := 5) sc_Striker_stepped.nd rfl (Or.inl rfl) (pe_not (pe_m (pv 0) (F_Book_strikes_end T) (hr.mono (by decide)) (pa_cons (pv 4) (pa_cons (pv 3) pa_nil)))))
  (pss_cons (ps_set (i := 6) sc_Striker_stepped.nd rfl (Or.inl rfl) (pe_and (pv 3) (pe_one (pe_cmpR op_le (pe_callB call_len_seq rfl (e_len T) boot_len (pa_cons (pv 4) pa_nil)) (pe_p (pv 0) (F_Striker_reach T) (hr.mono (by decide))) (by first | rfl | exact nomark _ | exact nobehind _ (by decide) (by decide))))))
  (pss_one (ps_ret (pe_tup (pa_cons (pe_slice sl_tupA (pv 4) (po_some (pe_callB (call_max2 rfl) rfl (e_max T) boot_max (pa_cons pe_int (pa_cons (pe_callTy call_int1 rfl (e_int T) boot_int (pa_cons (pe_op op_sub (pe_callB call_len_seq rfl (e_len T) boot_len (pa_cons (pv 4) pa_nil)) (pe_p (pv 0) (F_Striker_reach T) (hr.mono (by decide)))) pa_nil)) pa_nil)))) po_none) (pa_cons (pv 6) (pa_cons (pv 5) pa_nil)))))))))), ?_⟩
  obtain ⟨a, va, tt, ls, ts, c, Rs, st, rfl, hb, htt, h4, qn, qs⟩ := h
  have sz : 1000 ≤ sizeLine := by decide
  have hlt : (ni (pws ts)).length = ts.length := by rw [ni_len]; unfold pws; rw [List.length_map]
  have hl2 : (ni (pws (ts ++ [c]))).length = ts.length + 1 := by rw [ni_len]; unfold pws; rw [List.length_map, List.length_append]; rfl
  refine ⟨_, rfl, tt, _, rfl, .inl (SqT.of htt), _, rfl, by show ((ni (pws ts)) ++ [V.int _]).length ≤ _; rw [List.length_append, hlt]; show ts.length + 1 ≤ _; omega, fun p hp => ?_⟩
  have e0 : (ni (pws ts)) ++ [V.int ((2 ^ c : Nat) : Int)] = ni (pws (ts ++ [c])) := by
    unfold ni pws
    rw [List.map_append, List.map_append]
    rfl
  have s1 := Same.new (o := .tup ((ni (pws ts)) ++ [V.int ((2 ^ c : Nat) : Int)])) hp
  have e1 : (upd H p (.tup ((ni (pws ts)) ++ [V.int ((2 ^ c : Nat) : Int)]))) p = some (.tup (ni (pws (ts ++ [c])))) := by rw [upd_same, e0]
  have hb1 := hb.mono (sn s1)
  refine ⟨_, rfl, a, rfl, hb1.mth T (h_Book_strikes_at T), _, rfl, _, rfl, a, va, p, ls, ts ++ [c], Rs, st, rfl, hb1, e1, fun t H2 s2 ht => ⟨t, rfl, ifb (c := t) rfl (fun h => qn (ht.mp h) _ (str s1 s2)) fun h => ?_⟩⟩
  have hns : ¬ StrikeL Rs (ts ++ [c]) st false := fun z => by rw [ht.mpr z] at h; cases h
  have hb2 := hb1.mono (sn s2)
  refine ⟨_, rfl, a, rfl, hb2.mth T (h_Book_strikes_end T), _, rfl, _, rfl, a, va, p, ls, ts ++ [c], Rs, st, rfl, hb2, s2 _ _ e1, fun t2 H3 s3 ht2 => ⟨t2, rfl, ?_⟩⟩
  have hb3 := hb2.mono (sn s3)
  have e3 := s3 _ _ (s2 _ _ e1)
  have s13 := str s1 (str s2 s3)
  refine ⟨_, rfl, st, rfl, if_join (B := fun Q => Q (.bl false) H3) (c := st) (fun v H' => v = .bl (st && decide (ts.length + 1 ≤ wid Rs - 1)) ∧ Same H3 H') rfl (fun h Q' hq => ⟨_, rfl, p, _, rfl, .inr (SqT.of e3), _, rfl, a, rfl, hb3.prp T (p_Book_reach_ T), a, va, ls, Rs, rfl, hb3, fun H4 s4 => ⟨_, _, rfl, rfl, hq _ _ ⟨?_, s4⟩⟩⟩) (fun h Q' hq => hq _ _ ⟨by rw [h]; rfl, srf _⟩) ?_⟩
  · rw [h, hl2]
    show V.bl (decide (((ts.length + 1 : Nat) : Int) ≤ ((wid Rs - 1 : Nat) : Int))) = _
    rw [Bool.true_and]
    congr 1
    exact decide_eq_decide.mpr (by omega)
  rintro v H4 ⟨rfl, s4⟩
  have hb4 := hb3.mono (sn s4)
  have e4 := s4 _ _ e3
  refine ⟨_, rfl, _, rfl, p, _, rfl, .inr (SqT.of e4), _, rfl, a, rfl, hb4.prp T (p_Book_reach_ T), a, va, ls, Rs, rfl, hb4, fun H5 s5 => ⟨_, _, rfl, rfl, .inl ⟨_, rfl, _, _, rfl, ?_⟩⟩⟩
  have e5 := s5 _ _ e4
  have ek : (if (((ni (pws (ts ++ [c]))).length : Int) - ((wid Rs - 1 : Nat) : Int)) > 0 then (((ni (pws (ts ++ [c]))).length : Int) - ((wid Rs - 1 : Nat) : Int)) else 0) = ((ts.length + 1 - (wid Rs - 1) : Nat) : Int) := by
    rw [hl2]
    split <;> omega
  refine ⟨((ts.length + 1 - (wid Rs - 1) : Nat) : Int), congrArg V.int ek, ?_⟩
  dsimp only [tNoPart]
  refine slice_from e5 (by rw [hl2]; omega) fun q H6 s6 e6 => ?_
  refine ⟨_, rfl, _, rfl, Nat.le_of_ble_eq_true rfl, fun r hr => qs hns r q (!t2) _ (str s13 (str s4 (str s5 (str s6 (Same.new hr))))) ?_ ?_ upd_same⟩
  · rw [← ht2]
    cases t2 <;> simp
  · rw [upd_ne (ne_of_none e6 hr), e6]
    unfold ni pws
    rw [List.map_drop, List.map_drop]
def sp_Striker_init (K : PySem.W.Frag) : Sp := fun vs H Q E => ∃ (x dx va : Addr), vs = [.ref x, .ref va] ∧ H x = some (.ins (He.ga K "Book") dx []) ∧ ∀ H', SameP x H H' → H' x = some (.ins (He.ga K "Book") dx [("alphabet", .ref va)]) → Q .non H'
theorem F_Striker_init {w : World} {base : Heap} (T : Tx P K mg) : FnR P w K mg base CX0 1 (a_Striker_init K) (sp_Striker_init K) := by
  refine fnr (f_Striker_init T) sc_Striker_init (fun vs H Q E h => by obtain ⟨_, _, _, rfl, _⟩ := h; rfl) (fun _ _ _ _ _ _ us hl => match us, hl with | [_, _], _ => rfl) fun cdv A outer s H vs Q E hr h => ?_
  refine ⟨_, (pss_one (ps_fld (pv 0) (pv 1) rfl)), ?_⟩
  obtain ⟨x, dx, va, rfl, hx, q⟩ := h
  exact ⟨_, rfl, _, rfl, _, _, _, _, rfl, hx, c_Book T, o_Book_alphabet T, few, q _ spu upd_same⟩
theorem ni_inj {l m : List Nat} (h : ni l = ni m) : l = m := by
  refine List.ext_getElem? fun i => ?_
  cases e : l[i]? with
  | none =>
    have h1 : (ni l)[i]? = none := by unfold ni; rw [List.getElem?_map, e]; rfl
    rw [h] at h1
    cases e2 : m[i]? with
    | none => rfl
    | some b => rw [ni_get e2] at h1; cases h1
  | some a =>
    have h1 := ni_get e
    rw [h] at h1
    obtain ⟨b, hb, e3⟩ := ni_of h1
    have := V.int.inj e3
    rw [hb]
    congr 1
    omega
theorem RuO.inj {H : Hp} {a va : Addr} {ls : List Nat} {R R' : Rl} (ok : LetOk ls) (hk : R.kd < ls.length) (hk' : R'.kd < ls.length) (h : RuO K H a va ls R) (h' : RuO K H a va ls R') : R = R' := by
  obtain ⟨dx, tp, tn, cs, e, _, _, _, e5⟩ := h
  obtain ⟨dx', tp', tn', cs', e', _, _, _, e5'⟩ := h'
  rw [e] at e'
  simp only [Option.some.injEq, HO.ins.injEq, List.cons.injEq, Prod.mk.injEq, V.int.injEq, V.str.injEq, V.bl.injEq, V.ref.injEq, true_and, and_true] at e'
  obtain ⟨_, _, h1, h2, h3, h4, h5, _⟩ := e'
  subst h5
  rw [e5] at e5'
  have hp : R.pat = R'.pat := ni_inj (by injection e5' with e5'; injection e5')
  have ek : R.kd = R'.kd := nd_inj ok.nd (getD_some hk) (by rw [getD_some hk', (List.cons.inj (sx_inj h2)).1])
  obtain ⟨p, a, k, l, r⟩ := R
  obtain ⟨p', a', k', l', r'⟩ := R'
  have ea : a = a' := by have : (a : Int) = (a' : Int) := h1; omega
  have hp : p = p' := hp
  have ek : k = k' := ek
  have h3 : l = l' := h3
  have h4 : r = r' := h4
  rw [hp, ea, ek, h3, h4]
theorem RuO.sp0 {H H' : Hp} {a va x C dx : Addr} {ls : List Nat} {R : Rl} (hx : H x = some (.ins C dx [])) (s : SameP x H H') (h : RuO K H a va ls R) : RuO K H' a va ls R := by
  obtain ⟨dr, tp, tn, cs, e1, e2, e3, e4, e5⟩ := h
  have nt : ∀ {t : Addr} {xs : List V}, H t = some (.tup xs) → t ≠ x := fun e z => by rw [z, hx] at e; cases e
  have n1 : a ≠ x := fun z => by rw [z] at e1; exact absurd (ins_len hx e1) (by show ¬ (0 : Nat) = 8; decide)
  exact ⟨dr, tp, tn, cs, s _ _ n1 e1, s _ _ (nt e2) e2, e3, fun i c m h1 h2 => (e4 i c m h1 h2).sp s fun z => by
    obtain ⟨dc, ec⟩ := e4 i c m h1 h2
    rw [z] at ec
    exact absurd (ins_len hx ec) (by show ¬ (0 : Nat) = 3; decide), s _ _ (nt e5) e5⟩
/-- the rules at the addresses, no two alike -/
def RulesO (K : PySem.W.Frag) (H : Hp) (va : Addr) (ls : List Nat) (rs : List Addr) (Rs : List Rl) : Prop := rs.length = Rs.length ∧ (∀ (i : Nat) r R, rs[i]? = some r → Rs[i]? = some R → RuO K H r va ls R) ∧ (∀ R ∈ Rs, RlOk ls.length R) ∧ Rs.Nodup ∧ Rs.length ≤ 40
def sp_Book_init (K : PySem.W.Frag) : Sp := fun vs H Q E => ∃ (x dx va : Addr) (tr : Addr) (ls : List Nat) (rs : List Addr) (Rs : List Rl), vs = [.ref x, .ref va, .ref tr] ∧ VaO K H va ls ∧ LetOk ls ∧ RulesO K H va ls rs Rs ∧ H x = some (.ins (He.ga K "Book") dx []) ∧ va ≠ x ∧ H tr = some (.tup (rs.map V.ref)) ∧
  ∀ H', SameP x H H' → BoO K H' x va ls Rs → Q .non H'
theorem F_Book_init {w : World} {base : Heap} (T : Tx P K mg) : FnR P w K mg base CX0 4 (a_Book_init K) (fun vs H Q E => ∃ ws rest, vs = ws ++ rest ∧ ws.length = 2 ∧ rest.length ≤ sizeLine ∧ ∀ p, H p = none → sp_Book_init K (ws ++ [V.ref p]) (upd H p (.tup rest)) Q E) := by
  obtain ⟨⟨oc, od, osl, kV, doc, pm, an, ct, cda, cc, lk, hcd, SK⟩, own, up⟩ := T.sup_Book_init
  obtain ⟨cl, cld, csl, hcell⟩ := SK.cell
  refine fn_supStar (ps := ["self", "values"]) (pv := "rules") lk hcd sc_Book_init hcell rfl (fun us rest hl => match us, hl, rest with
    | [_, _], _, [] => rfl
    | [_, _], _, _ :: _ => rfl) fun A outer s H vs Q E hr h => ?_
  obtain ⟨_, iMOST_RULES⟩ := T.iMOST_RULES
  obtain ⟨x, dx, va, tr, ls, rs, Rs, rfl, hv, ok, hR, hx, nva, htr, q⟩ := h
  refine ⟨_, (psts_cons (PSt.of (ps_if (PW.pt (pw_or (pt_not (pt_val (pe_callB call_isi rfl (e_isinstance T) boot_isinstance (pa_cons (pv 1) (pa_cons (pe_glob (v := .ref _) rfl (g_Values T) rfl) pa_nil))))) (pw_or1 (pt_cmpR op_gt (pe_callB call_len_seq rfl (e_len T) boot_len (pa_cons (pv 2) pa_nil)) (pe_glob (v := .int 40) rfl iMOST_RULES ⟨_, rfl⟩) (by first | rfl | exact nomark _ | exact nobehind _ (by decide) (by decide)))))) (pss_one ps_never) pss_nil)) (psts_cons (PSt.of (ps_for PassesOwn.never rfl (pi_enumT rfl (e_enumerate T) (pa_cons (pv 2) pa_nil)) (pg_tup rfl (pgs_cons (pg_name (i := 3) sc_Book_init.nd rfl (Or.inl rfl)) (pgs_cons (pg_name (i := 4) sc_Book_init.nd rfl (Or.inl rfl)) pgs_nil))) (pss_one (ps_if (PW.pt (pw_or (pt_not (pt_val (pe_callB call_isi rfl (e_isinstance T) boot_isinstance (pa_cons (pv 4) (pa_cons (pe_glob (v := .ref _) rfl (g_Rule T) rfl) pa_nil))))) (pw_or (pt_not (pt_cmpR (op_eqOwn (F_Values_eq T) (hr.mono (by decide))) (pe_f (pv 4)) (pv 1) (by first | rfl | exact nomark _ | exact nobehind _ (by decide) (by decide)))) (pw_or1 (pt_cmpR (op_inInst (F_Rule_eq T) (hr.mono (by decide))) (pv 4) (pe_slice sl_tupA (pv 2) po_none (po_some (pv 3))) (by first | rfl | exact nomark _ | exact nobehind _ (by decide) (by decide))))))) (pss_one ps_never) pss_nil)))) (psts_cons (pst_super (P0 := P) SK rfl rfl rfl rfl (sc_Book_init.look2 _ _) rfl rfl (F_Striker_init T) (hr.mono (by decide)) (pa_cons (pv 1) pa_nil)) (psts_cons (PSt.of (ps_fld (pv 0) (pv 2) rfl)) (PSts.of pss_nil))))), ?_⟩
  obtain ⟨hrl, hru, hrk, hnd, h40⟩ := hR
  have hlr : (rs.map V.ref).length = Rs.length := by rw [List.length_map, hrl]
  refine ⟨_, rfl, _, _, _, _, _, rfl, .own _, hv.ty T, kit_self, true, rfl, iteF ⟨_, rfl, tr, _, rfl, .inr (SqT.of htr), _, _, rfl, rfl, _, rfl, ?_⟩⟩
  refine ifb (c := false) (decide_eq_false (by rw [hlr]; omega)) (fun h => nomatch h) fun _ => ?_
  refine ⟨_, rfl, tr, _, rfl, SqT.of htr, for_it walk_enumE (fun i σ H' => (∃ u v, σ = [some (V.ref x), some (V.ref va), some (V.ref tr), u, v]) ∧ Same H H') ⟨⟨_, _, rfl⟩, srf _⟩ (fun i σ H' _ h => SqT.of (h.2 _ _ htr)) ?_ ?_⟩
  · rintro i y σ H1 H2 hi ⟨⟨u, v, rfl⟩, s1⟩ ⟨t, z, rfl, ht, rfl, hz⟩
    rw [List.getElem?_map] at hz
    cases ec : rs[i]? with
    | none => rw [ec] at hz; cases hz
    | some r =>
      rw [ec] at hz
      cases hz
      have hi' : i < Rs.length := by rw [← hrl]; exact (List.getElem?_eq_some_iff.mp ec).1
      have eR : Rs[i]? = some Rs[i] := List.getElem?_eq_getElem hi'
      have s2 := str s1 (Same.new (o := .tup [.int (i : Nat), .ref r]) ht)
      have hr2 := (hru i r _ ec eR).mono (sn s2)
      have hv2 := hv.mono (sn s2)
      refine ⟨_, _, rfl, SqT.of upd_same, rfl, _, _, rfl, _, _, rfl, rfl, ?_⟩
      refine ⟨_, rfl, _, _, _, _, _, rfl, .own _, hr2.ty T, kit_self, true, rfl, iteF ⟨_, rfl, r, _, rfl, hr2.alphabet T, _, rfl, va, va, rfl, rfl, hv2.eq T hv2, va, va, ls, rfl, hv2, hv2, true, rfl, iteF ⟨_, rfl, _, rfl, ?_⟩⟩⟩
      dsimp only [tNoPart]
      refine ⟨_, rfl, _, rfl, ?_⟩
      refine slice_to (s2 _ _ htr) (by omega) fun p H3 s3 e3 => ?_
      have s23 := str s2 s3
      obtain ⟨dr, tp, tn, cs, er, _⟩ := hr2.mono (sn s3)
      refine ⟨p, _, r, _, _, _, rfl, rfl, er, SqT.of e3, (h_Rule_eq T).at_, (h_Rule_eq T).fn, fun j z hz => ?_, fun H4 s4 => ⟨_, rfl, iteF ⟨⟨_, _, rfl⟩, str s1 (str (Same.new ht) (str s3 s4))⟩⟩⟩
      rw [List.getElem?_take] at hz
      split at hz
      · rename_i hj
        rw [List.getElem?_map] at hz
        cases ecj : rs[j]? with
        | none => rw [ecj] at hz; cases hz
        | some b =>
          rw [ecj] at hz
          cases hz
          have hj' : j < Rs.length := by rw [← hrl]; exact (List.getElem?_eq_some_iff.mp ecj).1
          have eRj : Rs[j]? = some Rs[j] := List.getElem?_eq_getElem hj'
          have hb := (hru j b _ ecj eRj).mono (sn s23)
          have ne : Rs[j] ≠ Rs[i] := List.pairwise_iff_getElem.mp hnd j i hj' hi' hj
          have kj := (hrk _ (List.mem_of_getElem? eRj)).kd
          have ki := (hrk _ (List.mem_of_getElem? eR)).kd
          have nb : b ≠ r := fun z => ne (RuO.inj ok kj ki hb (z ▸ hr2.mono (sn s3)))
          obtain ⟨db, tpb, tnb, csb, eb, _⟩ := id hb
          exact ⟨b, _, _, rfl, nb, eb, fun H5 s5 => ⟨b, r, va, ls, Rs[j], Rs[i], rfl, hb.mono (sn s5), hr2.mono (sn (str s3 s5)), hv2.mono (sn (str s3 s5)), ok, kj, ki, ne, fun H6 s6 => ⟨rfl, s6⟩⟩⟩
      · cases hz
  · rintro σ H1 ⟨⟨u, v, rfl⟩, s1⟩
    have n1 : tr ≠ x := fun z => by rw [z, hx] at htr; cases htr
    refine ⟨x, _, dx, [], rfl, s1 _ _ hx, own, up, _, rfl, x, dx, va, rfl, s1 _ _ hx, fun H2 s2 e2 => ?_⟩
    refine ⟨_, rfl, _, rfl, _, _, _, _, rfl, e2, c_Book T, o_Book_own_rules T, few, ?_⟩
    have s3 := spt (sps s1) (spt s2 (spu (p := x) (o := .ins (He.ga K "Book") dx (putF "own_rules" (.ref tr) [("alphabet", .ref va)]))))
    refine q _ s3 ⟨dx, tr, rs, upd_same, s3 _ _ n1 htr, hrl, fun i r R h1 h2 => ?_, hrk, h40⟩
    exact (hru i r R h1 h2).sp0 hx s3
theorem RulesO.mono {H H' : Hp} {va : Addr} {ls : List Nat} {rs : List Addr} {Rs : List Rl} (s : SameN H H') (h : RulesO K H va ls rs Rs) : RulesO K H' va ls rs Rs := ⟨h.1, fun i r R h1 h2 => (h.2.1 i r R h1 h2).mono s, h.2.2⟩
def sp_Book (K : PySem.W.Frag) : Sp := fun vs H Q E => ∃ (va : Addr) (ls : List Nat) (rs : List Addr) (Rs : List Rl), vs = .ref va :: rs.map V.ref ∧ VaO K H va ls ∧ LetOk ls ∧ RulesO K H va ls rs Rs ∧ ∀ r H', H r = none → Same H H' → BoO K H' r va ls Rs → Q (.ref r) H'
theorem book_made {vs : List V} {H : Hp} {Q : VK} {E : XK} (h : sp_Book K vs H Q E) : mkSp (He.ga K "Book") (fun vs H Q E => ∃ ws rest, vs = ws ++ rest ∧ ws.length = 2 ∧ rest.length ≤ sizeLine ∧ ∀ p, H p = none → sp_Book_init K (ws ++ [V.ref p]) (upd H p (.tup rest)) Q E) vs H Q E := by
  obtain ⟨va, ls, rs, Rs, rfl, hv, ok, hR, q⟩ := h
  intro x dx hx hdx hne
  obtain ⟨hv', n1⟩ := hv.made (o := .own x) (o' := .ins (He.ga K "Book") dx []) hx hdx
  have sN : SameN H (upd (upd H dx (.own x)) x (.ins (He.ga K "Book") dx [])) := fun a o e _ => un' (ne_of_none e hx) (un' (ne_of_none e hdx) e)
  have sz : 1000 ≤ sizeLine := by decide
  refine ⟨[.ref x, .ref va], rs.map V.ref, rfl, rfl, by have := hR.1; have := hR.2.2.2.2; rw [List.length_map]; omega, fun p hp => ?_⟩
  have sp := Same.new (o := .tup (rs.map V.ref)) hp
  refine ⟨x, dx, va, p, ls, rs, Rs, rfl, hv'.mono (sn sp), ok, hR.mono (snt sN (sn sp)), uo upd_same hp, n1, upd_same, fun H' s hb => ⟨rfl, q x H' hx (made hx hdx (spt (sps sp) s)) hb⟩⟩
theorem cg_Book {w : World} {base : Heap} (T : Tx P K mg) : Cg P w K mg base 5 "Book" (sp_Book K) := (Cg.cls (g_Book T) (m_Book T) (F_Book_init T)).imp fun vs H Q E h => book_made h
def sp_Book_of (K : PySem.W.Frag) : Sp := fun vs H Q E => ∃ (va l : Addr) (ls : List Nat) (rs : List Addr) (Rs : List Rl), vs = [.ref (He.ga K "Book"), .ref va, .ref l] ∧ VaO K H va ls ∧ LetOk ls ∧ RulesO K H va ls rs Rs ∧ H l = some (.lst (rs.map V.ref)) ∧ ∀ r H', H r = none → Same H H' → BoO K H' r va ls Rs → Q (.ref r) H'
theorem F_Book_of {w : World} {base : Heap} (T : Tx P K mg) : FnR P w K mg base CX0 6 (a_Book_of K) (sp_Book_of K) := by
  refine fnr (f_Book_of T) sc_Book_of (fun vs H Q E h => by obtain ⟨_, _, _, _, _, rfl, _⟩ := h; rfl) (fun _ _ _ _ _ _ us hl => match us, hl with | [_, _, _], _ => rfl) fun cdv A outer s H vs Q E hr h => ?_
  refine ⟨_, (pss_one (ps_ret (pe_lS (run_cls (m_Book T) (F_Book_init T) (hr.mono (by decide))) (m_Book T).kp (i := 0) rfl (Or.inl rfl) (pa_cons (pv 1) (StX.pa_star (pv 2) pa_nil))))), ?_⟩
  obtain ⟨va, l, ls, rs, Rs, rfl, hv, ok, hR, hl, q⟩ := h
  exact ⟨rfl, _, rfl, _, rfl, l, _, rfl, .inr (SqL.of hl), book_made ⟨va, ls, rs, Rs, by show _ :: (rs.map V.ref ++ []) = _; rw [List.append_nil], hv, ok, hR, q⟩⟩
end
end K5
end
section
set_option maxRecDepth 100000
set_option maxHeartbeats 2000000
/-! judgements: promises and walks -/
namespace K5
open PySem PySem.Spec PyProof.Rows L2
theorem CallR.or {X : Cx} {f : Value} {r r' : List V → Hp → VK → Prop} (h : CallR X f r) (h' : CallR X f r') : CallR X f (fun xs H Q => r xs H Q ∨ r' xs H Q) := by
  intro pins s σ H xs us Q I rv q
  rcases q with q | q
  · exact h pins s σ H xs us Q I rv q
  · exact h' pins s σ H xs us Q I rv q
section
variable {P : Program} {K : PySem.W.Frag} {mg : Str → Option Value}
def sp_Judgement_init (K : PySem.W.Frag) : Sp := fun vs H Q E => ∃ (x f C dx : Addr), vs = [.ref x, .ref f] ∧ (C = He.ga K "Sound" ∨ C = He.ga K "Unsound") ∧ H x = some (.ins C dx []) ∧ ∀ H' (w : Str), SameP x H H' → H' x = some (.ins C dx [("facts", .ref f), ("kind", .str w)]) → Q .non H'
theorem F_Judgement_init {w : World} {base : Heap} (T : Tx P K mg) : FnR P w K mg base CX0 1 (a_Judgement_init K) (fun vs H Q E => ∃ ws rest, vs = ws ++ rest ∧ ws.length = 1 ∧ rest.length ≤ sizeLine ∧ ∀ p, H p = none → sp_Judgement_init K (ws ++ [V.ref p]) (upd H p (.tup rest)) Q E) := by
  obtain ⟨fd, F⟩ := f_Judgement_init T
  obtain ⟨oc, od, dV, kV, doc, pm, an, cdv, ct, osl, rfl, lk, hcd, hD, hK⟩ := F.ex
  have eD : dV = .none := by
    rcases hD with ⟨_, e⟩ | ⟨e, _⟩
    · exact e
    · exact absurd rfl e
  subst eD
  refine (StX.fn_star (ps := ["self"]) (pv := "facts") (sp := sp_Judgement_init K) lk hcd sc_Judgement_init StX.cxUp_none (fun us rest hl => match us, hl, rest with
        | [_], _, [] => rfl
        | [_], _, _ :: _ => rfl) fun A outer s H vs Q E hr h => ?_)
  suffices hh : ∃ t, PSs (cxOf CX0 P w K mg base n_Judgement_init "Judgement.__init__" (defScope s_Judgement_init) (a_Judgement_init K) cdv A outer s H E).nox (defBody s_Judgement_init) t ∧ t { nx := fun _ H' => Q .non H', rt := Q } (L2.start n_Judgement_init vs) H from let ⟨t, h1, h2⟩ := hh; ⟨t, h1.nox, h2⟩
  obtain ⟨x, f, C, dx, rfl, hC, hx, q⟩ := h
  refine ⟨_, (pss_cons (ps_fld (pv 0) (pv 1) rfl) (pss_one (ps_fld (pv 0) (pe_con (pv 0) rfl) rfl))), ?_⟩
  rcases hC with rfl | rfl
  · obtain ⟨u, hw⟩ := T.con ("Sound", "WORD", "sound") (List.mem_of_getElem? (i := 0) rfl)
    exact ⟨_, rfl, _, rfl, _, _, _, _, rfl, hx, c_Sound T, o_Sound_facts T, few, _, rfl, x, _, dx, _, _, _, rfl, upd_same, c_Sound T, hw, rfl, _, rfl, _, _, _, _, rfl, upd_same, c_Sound T, o_Sound_kind T, few, q _ _ (spt spu spu) upd_same⟩
  · obtain ⟨u, hw⟩ := T.con ("Unsound", "WORD", "unsound") (List.mem_of_getElem? (i := 1) rfl)
    exact ⟨_, rfl, _, rfl, _, _, _, _, rfl, hx, c_Unsound T, o_Unsound_facts T, few, _, rfl, x, _, dx, _, _, _, rfl, upd_same, c_Unsound T, hw, rfl, _, rfl, _, _, _, _, rfl, upd_same, c_Unsound T, o_Unsound_kind T, few, q _ _ (spt spu spu) upd_same⟩
def sp_Judgement_bool (K : PySem.W.Frag) : Sp := fun vs H Q E => ∃ a : Addr, vs = [.ref a] ∧ Q (.bl true) H
theorem F_Judgement_bool {w : World} {base : Heap} (T : Tx P K mg) : FnR P w K mg base CX0 1 (a_Judgement_bool K) (sp_Judgement_bool K) := by
  refine fnr (f_Judgement_bool T) sc_Judgement_bool (fun vs H Q E h => by obtain ⟨_, rfl, _⟩ := h; rfl) (fun _ _ _ _ _ _ us hl => match us, hl with | [_], _ => rfl) fun cdv A outer s H vs Q E hr h => ?_
  refine ⟨_, (pss_one (ps_ret pe_bl)), ?_⟩
  obtain ⟨a, rfl, q⟩ := h
  exact q
def sp_Shown_bool (K : PySem.W.Frag) : Sp := fun vs H Q E => ∃ a : Addr, vs = [.ref a] ∧ Q (.bl false) H
theorem F_Shown_bool {w : World} {base : Heap} (T : Tx P K mg) : FnR P w K mg base CX0 1 (a_Shown_bool K) (sp_Shown_bool K) := by
  refine fnr (f_Shown_bool T) sc_Shown_bool (fun vs H Q E h => by obtain ⟨_, rfl, _⟩ := h; rfl) (fun _ _ _ _ _ _ us hl => match us, hl with | [_], _ => rfl) fun cdv A outer s H vs Q E hr h => ?_
  refine ⟨_, (pss_one (ps_ret pe_bl)), ?_⟩
  obtain ⟨a, rfl, q⟩ := h
  exact q
/-- a judgement: sound or not -/
def JuO (K : PySem.W.Frag) (H : Hp) (a : Addr) (b : Bool) : Prop := ∃ dx fs, H a = some (.ins (if b = true then He.ga K "Sound" else He.ga K "Unsound") dx fs)
def sp_Sound_init (K : PySem.W.Frag) : Sp := fun vs H Q E => ∃ (x dx : Addr) (l r : V), vs = [.ref x, l, r] ∧ H x = some (.ins (He.ga K "Sound") dx []) ∧ ∀ H', SameP x H H' → JuO K H' x true → Q .non H'
theorem F_Sound_init {w : World} {base : Heap} (T : Tx P K mg) : FnR P w K mg base CX0 2 (a_Sound_init K) (sp_Sound_init K) := by
  obtain ⟨⟨oc, od, osl, kV, doc, pm, an, ct, cda, cc, lk, hcd, SK⟩, own, up⟩ := T.sup_Sound_init
  obtain ⟨cl, cld, csl, hcell⟩ := SK.cell
  refine fn_sup lk hcd sc_Sound_init hcell rfl (fun vs H Q E h => by obtain ⟨_, _, _, _, rfl, _⟩ := h; rfl) (fun us hl => match us, hl with | [_, _, _], _ => rfl) fun A outer s H vs Q E hr h => ?_
  obtain ⟨x, dx, l, r, rfl, hx, q⟩ := h
  refine ⟨_, (psts_cons (pst_super (P0 := P) SK rfl rfl rfl rfl (sc_Sound_init.look2 _ _) rfl rfl (F_Judgement_init T) (hr.mono (by decide)) (pa_cons (pv 1) (pa_cons (pv 2) pa_nil))) (psts_cons (PSt.of (ps_fld (pv 0) (pv 1) rfl)) (psts_cons (PSt.of (ps_fld (pv 0) (pv 2) rfl)) (PSts.of pss_nil)))), ?_⟩
  refine ⟨x, _, dx, [], rfl, hx, own, up, _, rfl, _, rfl, [.ref x], [l, r], rfl, rfl, Nat.le_of_ble_eq_true rfl, fun p hp => ⟨x, p, _, dx, rfl, .inl rfl, uo hx hp, fun H1 w1 s1 e1 => ?_⟩⟩
  refine ⟨_, rfl, _, rfl, _, _, _, _, rfl, e1, c_Sound T, o_Sound_lost T, few, _, rfl, _, rfl, _, _, _, _, rfl, upd_same, c_Sound T, o_Sound_rows T, few, q _ (spt (sps (Same.new hp)) (spt s1 (spt spu spu))) ⟨_, _, upd_same⟩⟩
def sp_Unsound_init (K : PySem.W.Frag) : Sp := fun vs H Q E => ∃ (x dx : Addr) (l r n : V), vs = [.ref x, l, r, n] ∧ H x = some (.ins (He.ga K "Unsound") dx []) ∧ ∀ H', SameP x H H' → JuO K H' x false → Q .non H'
theorem F_Unsound_init {w : World} {base : Heap} (T : Tx P K mg) : FnR P w K mg base CX0 2 (a_Unsound_init K) (sp_Unsound_init K) := by
  obtain ⟨⟨oc, od, osl, kV, doc, pm, an, ct, cda, cc, lk, hcd, SK⟩, own, up⟩ := T.sup_Unsound_init
  obtain ⟨cl, cld, csl, hcell⟩ := SK.cell
  refine fn_sup lk hcd sc_Unsound_init hcell rfl (fun vs H Q E h => by obtain ⟨_, _, _, _, _, rfl, _⟩ := h; rfl) (fun us hl => match us, hl with | [_, _, _, _], _ => rfl) fun A outer s H vs Q E hr h => ?_
  obtain ⟨x, dx, l, r, n, rfl, hx, q⟩ := h
  refine ⟨_, (psts_cons (pst_super (P0 := P) SK rfl rfl rfl rfl (sc_Unsound_init.look2 _ _) rfl rfl (F_Judgement_init T) (hr.mono (by decide)) (pa_cons (pv 1) (pa_cons (pv 2) (pa_cons (pv 3) pa_nil)))) (psts_cons (PSt.of (ps_fld (pv 0) (pv 1) rfl)) (psts_cons (PSt.of (ps_fld (pv 0) (pv 2) rfl)) (psts_cons (PSt.of (ps_fld (pv 0) (pv 3) rfl)) (PSts.of pss_nil))))), ?_⟩
  refine ⟨x, _, dx, [], rfl, hx, own, up, _, rfl, _, rfl, _, rfl, [.ref x], [l, r, n], rfl, rfl, Nat.le_of_ble_eq_true rfl, fun p hp => ⟨x, p, _, dx, rfl, .inr rfl, uo hx hp, fun H1 w1 s1 e1 => ?_⟩⟩
  refine ⟨_, rfl, _, rfl, _, _, _, _, rfl, e1, c_Unsound T, o_Unsound_spoiled T, few, _, rfl, _, rfl, _, _, _, _, rfl, upd_same, c_Unsound T, o_Unsound_place T, few, _, rfl, _, rfl, _, _, _, _, rfl, upd_same, c_Unsound T, o_Unsound_number T, few, q _ (spt (sps (Same.new hp)) (spt s1 (spt spu (spt spu spu)))) ⟨_, _, upd_same⟩⟩
def sp_Sound (K : PySem.W.Frag) : Sp := fun vs H Q E => ∃ l r : V, vs = [l, r] ∧ ∀ a H', Same H H' → JuO K H' a true → Q (.ref a) H'
theorem cg_Sound {w : World} {base : Heap} (T : Tx P K mg) : Cg P w K mg base 3 "Sound" (sp_Sound K) := (Cg.cls (g_Sound T) (m_Sound T) (F_Sound_init T)).imp fun vs H Q E ⟨l, r, e, q⟩ => by
  subst e
  exact fun x dx hx hdx hne => ⟨x, dx, l, r, rfl, upd_same, fun H' s e => ⟨rfl, q _ _ (made hx hdx s) e⟩⟩
def sp_Unsound (K : PySem.W.Frag) : Sp := fun vs H Q E => ∃ l r n : V, vs = [l, r, n] ∧ ∀ a H', Same H H' → JuO K H' a false → Q (.ref a) H'
theorem cg_Unsound {w : World} {base : Heap} (T : Tx P K mg) : Cg P w K mg base 3 "Unsound" (sp_Unsound K) := (Cg.cls (g_Unsound T) (m_Unsound T) (F_Unsound_init T)).imp fun vs H Q E ⟨l, r, n, e, q⟩ => by
  subst e
  exact fun x dx hx hdx hne => ⟨x, dx, l, r, n, rfl, upd_same, fun H' s e => ⟨rfl, q _ _ (made hx hdx s) e⟩⟩
/-- bool(judgement) -/
theorem call_boolJu {X : Cx} {w : World} {base : Heap} (T : Tx X.prog X.K X.mg) (hr : Room 3 X.A) : CallR X (.type "bool") (fun xs H Q => ∃ a b, xs = [.ref a] ∧ JuO X.K H a b ∧ Q (.bl b) H) := by
  intro pins s σ H xs us Q I rv h
  obtain ⟨a, b, rfl, ⟨dx, fs, e⟩, q⟩ := h
  cases b with
  | true => exact call_boolOwn (F_Judgement_bool T) hr pins s σ H _ us Q I rv ⟨a, rfl, dun_of e (h_Sound_bool T), a, rfl, _, rfl, q⟩
  | false => exact call_boolOwn (F_Shown_bool T) hr pins s σ H _ us Q I rv ⟨a, rfl, dun_of e (h_Unsound_bool T), a, rfl, _, rfl, q⟩
def sp_first_strike (K : PySem.W.Frag) : Sp := fun vs H Q E => ∃ (a b va : Addr) (ls ks : List Nat) (Rs : List Rl), vs = [.ref a, .ref b] ∧ VaO K H va ls ∧ BoO K H a va ls Rs ∧ LiO K H b va ls ks ∧ ks.length ≤ 4001 ∧ (∃ R ∈ Rs, ∃ p, Hit R ks p) ∧ ∀ (t : Addr) (i j : Nat) H', Same H H' → H' t = some (.tup [.int (i : Int), .int (j : Int)]) → Q (.ref t) H'
theorem F_first_strike {w : World} {base : Heap} (T : Tx P K mg) : FnR P w K mg base CX0 5 (a_first_strike K) (sp_first_strike K) := by
  refine fnr (f_first_strike T) sc_first_strike (fun vs H Q E h => by obtain ⟨_, _, _, _, _, _, rfl, _⟩ := h; rfl) (fun _ _ _ _ _ _ us hl => match us, hl with | [_, _], _ => rfl) fun cdv A outer s H vs Q E hr h => ?_
  refine ⟨_, (pss_cons (ps_for PassesOwn.never rfl (pi_range1 rfl (e_range T) (pa_cons (pe_callB (call_lenOwn (F_Line_len T) (hr.mono (by decide))) rfl (e_len T) boot_len (pa_cons (pv 1) pa_nil)) pa_nil)) (pg_name (i := 2) sc_first_strike.nd rfl (Or.inl rfl))
  (pss_one (ps_for PassesOwn.never rfl (pi_enumT rfl (e_enumerate T) (pa_cons (pe_p (pv 0) (F_Book_rules T) (hr.mono (by decide))) pa_nil)) (pg_tup rfl (pgs_cons (pg_name (i := 3) sc_first_strike.nd rfl (Or.inl rfl)) (pgs_cons (pg_name (i := 4) sc_first_strike.nd rfl (Or.inl rfl)) pgs_nil)))
  (pss_one (ps_if (pt_val (pe_m (pv 4) (F_Rule_hits T) (hr.mono (by decide)) (pa_cons (pv 1) (pa_cons (pv 2) pa_nil)))) (pss_one (ps_ret (pe_tup (pa_cons (pv 2) (pa_cons (pv 3) pa_nil))))) pss_nil)))))
  (pss_one (ps_ret pe_non))), ?_⟩
  obtain ⟨a, b, va, ls, ks, Rs, rfl, hv, hb, hl, hk, hh, q⟩ := h
  obtain ⟨tr, rs, f, htr, hrl, hrs⟩ := hb.own T
  have sz : 5000 ≤ sizeLine := by decide
  have hlr : (rs.map V.ref).length = Rs.length := by rw [List.length_map, hrl]
  refine ⟨_, rfl, b, rfl, hl.len T, b, va, ls, ks, rfl, hl, _, rfl, by omega, _, rfl, by omega, by omega, for_range (fun i σ H' => (∃ u v w, σ = [some (V.ref a), some (V.ref b), u, v, w]) ∧ Same H H' ∧ ∀ p, p < i → ∀ R ∈ Rs, ¬ Hit R ks p) ⟨⟨_, _, _, rfl⟩, srf _, fun p hp => absurd hp (Nat.not_lt_zero _)⟩ ?_ ?_⟩
  · rintro i σ H1 hi ⟨⟨u, v, w', rfl⟩, s1, hno⟩
    have hb1 := hb.mono (sn s1)
    rw [Int.toNat_natCast] at hi
    refine ⟨_, rfl, a, rfl, hb1.prp T (p_Book_rules_ T), a, tr, rfl, ?_, tr, _, rfl, SqT.of (s1 _ _ htr), ?_⟩
    · obtain ⟨tr', rs', f', _⟩ := hb1.own T
      obtain ⟨C, dx, fs, e, c, n, l⟩ := f
      exact ⟨C, dx, fs, s1 _ _ e, c, n, l⟩
    refine for_it walk_enumE (fun j σ H' => (∃ v w, σ = [some (V.ref a), some (V.ref b), some (.int ((0 : Int) + i)), v, w]) ∧ Same H H' ∧ ∀ (j' : Nat) R, j' < j → Rs[j']? = some R → ¬ Hit R ks i) ⟨⟨_, _, rfl⟩, s1, fun j' R h => absurd h (Nat.not_lt_zero _)⟩ (fun j σ H' _ h => SqT.of (h.2.1 _ _ htr)) ?_ ?_
    · rintro j x σ H2 H3 hj ⟨⟨v, w', rfl⟩, s2, hno2⟩ ⟨t, z, rfl, ht, rfl, hz⟩
      rw [List.getElem?_map] at hz
      cases ec : rs[j]? with
      | none => rw [ec] at hz; cases hz
      | some r =>
        rw [ec] at hz
        cases hz
        have hj' : j < Rs.length := by rw [← hrl]; exact (List.getElem?_eq_some_iff.mp ec).1
        have eR : Rs[j]? = some Rs[j] := List.getElem?_eq_getElem hj'
        have s3 := str s2 (Same.new (o := .tup [.int (j : Nat), .ref r]) ht)
        have hr' := (hrs j r _ ec eR).mono (sn s3)
        have rk := hb.ok _ (List.mem_of_getElem? eR)
        generalize Rs[j] = R at eR hr' rk
        refine ⟨_, _, rfl, SqT.of upd_same, rfl, _, _, rfl, _, _, rfl, rfl, _, rfl, r, rfl, hr'.mth T (h_Rule_hits T), _, rfl, _, rfl, r, b, va, i, ls, ks, R, ?_, hr', rk, hl.mono s3, hv.mono (sn s3), hk, fun t2 H4 s4 ht2 => ⟨_, rfl, ifb (c := t2) rfl (fun h => ?_) fun h => ⟨⟨_, _, rfl⟩, str s3 s4, fun j' R' hjj e' => ?_⟩⟩⟩
        · rw [Int.zero_add]
        · refine ⟨_, rfl, _, rfl, Nat.le_of_ble_eq_true rfl, fun p hp => q p i j _ (str s3 (str s4 (Same.new hp))) ?_⟩
          rw [upd_same, Int.zero_add]
        · rcases Nat.lt_or_ge j' j with hlt | hge
          · exact hno2 j' R' hlt e'
          · obtain rfl : j' = j := by omega
            rw [eR] at e'
            cases e'
            intro z
            rw [ht2.mpr z] at h
            cases h
    · rintro σ H2 ⟨⟨v, w', rfl⟩, s2, hno2⟩
      refine ⟨⟨_, _, _, rfl⟩, s2, fun p hp R hR => ?_⟩
      rcases Nat.lt_or_ge p i with hlt | hge
      · exact hno p hlt R hR
      · obtain rfl : p = i := by omega
        obtain ⟨j', hj'⟩ := List.mem_iff_getElem?.mp hR
        exact hno2 j' R (by rw [hlr]; exact (List.getElem?_eq_some_iff.mp hj').1) hj'
  · rintro σ H1 ⟨⟨u, v, w', rfl⟩, s1, hno⟩
    obtain ⟨R, hR, p, hp⟩ := hh
    rw [Int.toNat_natCast] at hno
    refine absurd hp (hno p ?_ R hR)
    have := hp.fits
    have := (hb.ok R hR).pos
    omega
theorem cg_first_strike {w : World} {base : Heap} (T : Tx P K mg) : Cg P w K mg base 5 "first_strike" (sp_first_strike K) := .fn (g_first_strike T) (k_first_strike T) (F_first_strike T)
end
end K5
end
section
set_option maxRecDepth 100000
set_option maxHeartbeats 2000000
/-! the search for a spoiled word: promise and walk -/
namespace K5
open PySem PySem.Spec PyProof.Rows L2
section
variable {P : Program} {K : PySem.W.Frag} {mg : Str → Option Value}
def txt (ls ks : List Nat) : Str := Sx (ks.map fun k => ls.getD k 0)
theorem txt_snoc {ls ks : List Nat} {c : Nat} : txt ls ks ++ (⟨#[ls.getD c 0]⟩ : Str) = txt ls (ks ++ [c]) := by
  unfold txt
  rw [List.map_append]
  show (⟨(ks.map fun k => ls.getD k 0).toArray ++ #[ls.getD c 0]⟩ : Str) = _
  simp
theorem txt_len {ls ks : List Nat} : (txt ls ks).length = ks.length := by
  unfold txt
  rw [sx_len, List.length_map]
/-- a node as a key -/
def nkey (d : Nd) : NestedKey := .tup [.num (d.q : Int), .num (if d.st = true then 1 else 0), .tup ((pws d.tail).map fun n : Nat => .num (n : Int)), .num (if d.dead = true then 1 else 0)]
theorem pws_inj {l m : List Nat} (h : pws l = pws m) : l = m := by
  unfold pws at h
  induction l generalizing m with
  | nil => cases m with
    | nil => rfl
    | cons b m => cases h
  | cons a l ih => cases m with
    | nil => cases h
    | cons b m =>
      rw [List.map_cons, List.map_cons] at h
      injection h with h1 h2
      rw [ih h2, (Nat.pow_right_inj (by decide : 1 < 2)).mp h1]
theorem nkey_inj {d e : Nd} (h : nkey d = nkey e) : d = e := by
  unfold nkey at h
  simp only [NestedKey.tup.injEq, List.cons.injEq, NestedKey.num.injEq, and_true] at h
  obtain ⟨h1, h2, h3, h4⟩ := h
  obtain ⟨q, s, t, x⟩ := d
  obtain ⟨q', s', t', x'⟩ := e
  have hq : q = q' := by have : (q : Int) = (q' : Int) := h1; omega
  have h2 : (if s = true then (1 : Int) else 0) = if s' = true then 1 else 0 := h2
  have h4 : (if x = true then (1 : Int) else 0) = if x' = true then 1 else 0 := h4
  have hs : s = s' := by cases s <;> cases s' <;> first | rfl | (simp at h2)
  have hx : x = x' := by cases x <;> cases x' <;> first | rfl | (simp at h4)
  have ht : t = t' := by
    refine pws_inj ?_
    have h3 : ((pws t).map fun n : Nat => NestedKey.num (n : Int)) = (pws t').map fun n : Nat => NestedKey.num (n : Int) := h3
    generalize pws t = l at h3
    generalize pws t' = m at h3
    induction l generalizing m with
    | nil => cases m with
      | nil => rfl
      | cons b m => cases h3
    | cons a l ih => cases m with
      | nil => cases h3
      | cons b m =>
        rw [List.map_cons, List.map_cons] at h3
        injection h3 with g1 g2
        injection g1 with g1
        rw [ih m g2, show a = b by omega]
  rw [hq, hs, hx, ht]
def NdH (H : Hp) (e : Addr) (d : Nd) : Prop := ∃ tl, H e = some (.tup [.int (d.q : Int), .bl d.st, .ref tl, .bl d.dead]) ∧ H tl = some (.tup (ni (pws d.tail)))
theorem NdH.mono {H H' : Hp} {e : Addr} {d : Nd} (s : SameN H H') (h : NdH H e d) : NdH H' e d := let ⟨tl, h1, h2⟩ := h; ⟨tl, s _ _ h1 rfl, s _ _ h2 rfl⟩
theorem NdH.key {H : Hp} {e : Addr} {d : Nd} (h : NdH H e d) : KeyH H (nkey d) (.ref e) := by
  obtain ⟨tl, h1, h2⟩ := h
  refine .tup h1 (.cons (.int _) (.cons (.bool _) (.cons (.tup h2 ?_) (.cons (.bool _) .nil))))
  have := keysH_ints (H := H) ((pws d.tail).map fun n : Nat => (n : Int))
  rw [List.map_map] at this
  rw [ni_int]
  exact this
theorem nkey_depth (d : Nd) : (nkey d).depth ≤ 8 := by
  have h : NestedKey.depthAll ((pws d.tail).map fun n : Nat => NestedKey.num (n : Int)) = 0 := by
    have := depth_ints ((pws d.tail).map fun n : Nat => (n : Int))
    rw [List.map_map] at this
    exact this
  unfold nkey
  simp only [NestedKey.depth, NestedKey.depthAll, h]
  decide
/-- an entry of a layer -/
def EnH (H : Hp) (ls : List Nat) (e : Addr) (u : List Nat × Nd) : Prop := ∃ nd, H e = some (.tup [.str (txt ls u.1), .ref nd]) ∧ NdH H nd u.2
theorem EnH.mono {H H' : Hp} {ls : List Nat} {e : Addr} {u : List Nat × Nd} (s : SameN H H') (h : EnH H ls e u) : EnH H' ls e u := let ⟨nd, h1, h2⟩ := h; ⟨nd, s _ _ h1 rfl, h2.mono s⟩
def EnsH (H : Hp) (ls : List Nat) (es : List Addr) (us : List (List Nat × Nd)) : Prop := es.length = us.length ∧ ∀ (i : Nat) e u, es[i]? = some e → us[i]? = some u → EnH H ls e u
theorem EnsH.mono {H H' : Hp} {ls : List Nat} {es : List Addr} {us : List (List Nat × Nd)} (s : SameN H H') (h : EnsH H ls es us) : EnsH H' ls es us := ⟨h.1, fun i e u h1 h2 => (h.2 i e u h1 h2).mono s⟩
theorem EnsH.snoc {H : Hp} {ls : List Nat} {es : List Addr} {us : List (List Nat × Nd)} {e : Addr} {u : List Nat × Nd} (h : EnsH H ls es us) (h2 : EnH H ls e u) : EnsH H ls (es ++ [e]) (us ++ [u]) := by
  refine ⟨by rw [List.length_append, List.length_append, h.1]; rfl, fun i e' u' g1 g2 => ?_⟩
  rcases Nat.lt_or_ge i es.length with hi | hi
  · rw [List.getElem?_append_left hi] at g1
    rw [List.getElem?_append_left (by rw [← h.1]; exact hi)] at g2
    exact h.2 i e' u' g1 g2
  · rw [List.getElem?_append_right hi] at g1
    rw [List.getElem?_append_right (by rw [← h.1]; exact hi), ← h.1] at g2
    obtain ⟨hz, g1⟩ := List.getElem?_eq_some_iff.mp g1
    obtain ⟨_, g2⟩ := List.getElem?_eq_some_iff.mp g2
    simp at g1 g2
    subst g1 g2
    exact h2
def seenL (S : List Nd) : List (NestedKey × V) := S.map fun d => (nkey d, .bl true)
theorem seen_get {S : List Nd} {d : Nd} : (getN (seenL S) (nkey d)).isSome = true ↔ d ∈ S := by
  unfold getN seenL
  rw [Option.isSome_map, List.find?_isSome]
  constructor
  · rintro ⟨x, hx, e⟩
    obtain ⟨y, hy, rfl⟩ := List.mem_map.mp hx
    rw [nkey_inj (of_decide_eq_true e)] at hy
    exact hy
  · intro h
    exact ⟨_, List.mem_map.mpr ⟨d, h, rfl⟩, decide_eq_true rfl⟩
/-- a layer as data -/
def enD (ls : List Nat) (u : List Nat × Nd) : PyData := .tuple [.str (txt ls u.1), .tuple [.int (u.2.q : Int), .bool u.2.st, .tuple (dpi (pws u.2.tail)), .bool u.2.dead]]
theorem enD_dp {H : Hp} {ls : List Nat} {e : Addr} {u : List Nat × Nd} (h : EnH H ls e u) : Dp K H (.ref e) (enD ls u) := by
  obtain ⟨nd, h1, tl, h2, h3⟩ := h
  exact .tup (SqT.of h1) (.cons (.str _) (.cons (.tup (SqT.of h2) (.cons (.int _) (.cons (.bl _) (.cons (dp_tup h3) (.cons (.bl _) .nil))))) .nil))
theorem ensD_dp {H : Hp} {ls : List Nat} : ∀ {es : List Addr} {us : List (List Nat × Nd)}, EnsH H ls es us → DpAll K H (es.map V.ref) (us.map (enD ls))
  | [], [], _ => .nil
  | [], _ :: _, h => by have := h.1; simp at this
  | _ :: _, [], h => by have := h.1; simp at this
  | e :: es, u :: us, h => .cons (enD_dp (h.2 0 e u rfl rfl)) (ensD_dp ⟨by have := h.1; simp at this; exact this, fun i e u h1 h2 => h.2 (i + 1) e u h1 h2⟩)
theorem txt_ok {ls ks : List Nat} (ok : LetOk ls) : PyData.strOk (txt ls ks) = true := by
  unfold PyData.strOk txt
  rw [Array.all_eq_true']
  intro c hc
  have hc : c ∈ ks.map fun k => ls.getD k 0 := by simpa using hc
  obtain ⟨k, _, rfl⟩ := List.mem_map.mp hc
  rw [decide_eq_true_iff, List.getD_eq_getElem?_getD]
  cases e : ls[k]? with
  | none => show 0 < _; omega
  | some d =>
    have := (ok.low d (List.mem_of_getElem? e)).2
    show d < _
    omega
theorem ensD_lay {ls : List Nat} (ok : LetOk ls) : ∀ us : List (List Nat × Nd), PyData.canLayAll0 (us.map (enD ls)) = true ∧ PyData.depthAll (us.map (enD ls)) ≤ 3
  | [] => ⟨rfl, Nat.zero_le _⟩
  | u :: us => by
    obtain ⟨h1, h2⟩ := ensD_lay ok us
    refine ⟨?_, ?_⟩
    · show ((PyData.strOk (txt ls u.1) && ((true && (true && (PyData.canLayAll0 (dpi (pws u.2.tail)) && (true && true)))) && true)) && PyData.canLayAll0 (us.map (enD ls))) = true
      rw [txt_ok ok, dpi_lay, h1]
      rfl
    · show max (max 0 (max (max 0 (max 0 (max (PyData.depthAll (dpi (pws u.2.tail)) + 1) (max 0 0))) + 1) 0) + 1) (PyData.depthAll (us.map (enD ls))) ≤ 3
      rw [dpi_depth]
      omega
theorem ensD_shaped {ls : List Nat} (ok : LetOk ls) (us : List (List Nat × Nd)) : SeqAt.shaped (.list (us.map (enD ls))) = true := by
  obtain ⟨h1, h2⟩ := ensD_lay ok us
  show (PyData.canLayAll0 (us.map (enD ls)) && decide (PyData.depthAll (us.map (enD ls)) + 1 ≤ 64)) = true
  rw [h1, decide_eq_true (by omega)]
  rfl
theorem ensD_eqv {ls : List Nat} : ∀ us : List (List Nat × Nd), PyData.eqv (.list (us.map (enD ls))) (.list []) = decide (us = [])
  | [] => rfl
  | _ :: _ => rfl
def sp_spoiled_word (K : PySem.W.Frag) : Sp := fun vs H Q E => ∃ (a b va : Addr) (ls : List Nat) (Rs : List Rl) (B : Tab), vs = [.ref a, .ref b] ∧ VaO K H va ls ∧ LetOk ls ∧ BoO K H a va ls Rs ∧ ClO K H b va B ∧ TabOk ls.length B ∧ B.n ≤ 8 ∧ (¬ ∀ R ∈ Rs, Snd ls.length R fun w => B.acc w = true) ∧
  ∀ (ks : List Nat) H', Same H H' → ks ≠ [] → Wd ls.length ks → ks.length ≤ 4001 → B.acc ks = true → (∃ R ∈ Rs, ∃ p, Hit R ks p) → Q (.str (txt ls ks)) H'
theorem F_spoiled_word {w : World} {base : Heap} (T : Tx P K mg) : FnR P w K mg base CX0 8 (a_spoiled_word K) (sp_spoiled_word K) := by
  refine fnr (f_spoiled_word T) sc_spoiled_word (fun vs H Q E h => by obtain ⟨_, _, _, _, _, _, rfl, _⟩ := h; rfl) (fun _ _ _ _ _ _ us hl => match us, hl with | [_, _], _ => rfl) fun cdv A outer s H vs Q E hr h => ?_
  refine ⟨_, (pss_cons (ps_set (i := 2) sc_spoiled_word.nd rfl (Or.inl rfl) (pe_lst (pa_cons (pe_tup (pa_cons pe_str (pa_cons (pe_tup (pa_cons pe_int (pa_cons pe_bl (pa_cons (pe_tup pa_nil) (pa_cons pe_bl pa_nil))))) pa_nil))) pa_nil)))
  (pss_cons (ps_set (i := 3) sc_spoiled_word.nd rfl (Or.inl rfl) (pe_disp1N (hu64 hr) (pe_tup (pa_cons pe_int (pa_cons pe_bl (pa_cons (pe_tup pa_nil) (pa_cons pe_bl pa_nil))))) pe_bl))
  (pss_cons (ps_while PassesOwn.never (pt_cmpR (op_neD (hu64 hr)) (pv 2) (pe_lst pa_nil) (by first | rfl | exact nomark _ | exact nobehind _ (by decide) (by decide)))
  (pss_cons (ps_set (i := 4) sc_spoiled_word.nd rfl (Or.inl rfl) (pe_lst pa_nil))
  (pss_cons (ps_for PassesOwn.never rfl (pi_list (pe_callTy call_list_of rfl (e_list T) boot_list (pa_cons (pv 2) pa_nil))) (pg_tup rfl (pgs_cons (pg_name (i := 5) sc_spoiled_word.nd rfl (Or.inl rfl)) (pgs_cons (pg_name (i := 6) sc_spoiled_word.nd rfl (Or.inl rfl)) pgs_nil)))
  (pss_one (ps_for PassesOwn.never rfl (pi_enumS rfl (e_enumerate T) (pa_cons (pe_f (pe_f (pv 1))) pa_nil)) (pg_tup rfl (pgs_cons (pg_name (i := 7) sc_spoiled_word.nd rfl (Or.inl rfl)) (pgs_cons (pg_name (i := 8) sc_spoiled_word.nd rfl (Or.inl rfl)) pgs_nil)))
  (pss_cons (ps_asg (pv 6) (pg_tup rfl (pgs_cons (pg_name (i := 9) sc_spoiled_word.nd rfl (Or.inl rfl)) (pgs_cons (pg_name (i := 10) sc_spoiled_word.nd rfl (Or.inl rfl)) (pgs_cons (pg_name (i := 11) sc_spoiled_word.nd rfl (Or.inl rfl)) (pgs_cons (pg_name (i := 12) sc_spoiled_word.nd rfl (Or.inl rfl)) pgs_nil))))))
  (pss_cons (ps_set (i := 9) sc_spoiled_word.nd rfl (Or.inl rfl) (pe_ix ix_tup (pe_ix ix_tup (pe_f (pv 1)) (pv 9) (fun _ _ => rfl)) (pv 7) (fun _ _ => rfl)))
  (pss_cons (ps_set (i := 13) sc_spoiled_word.nd rfl (Or.inl rfl) (pe_ifExp (pt_val (pv 12)) pe_non (pe_m (pv 0) (F_Striker_stepped T) (hr.mono (by decide)) (pa_cons (pv 11) (pa_cons (pe_op op_shl pe_int (pv 7)) (pa_cons (pv 10) pa_nil))))))
  (pss_cons (ps_if (PW.pt (pw_and (pt_val (pe_ix ix_tup (pe_f (pv 1)) (pv 9) (fun _ _ => rfl))) (pw_and1 (PW.pt (pw_or (pt_cmp (pc_isN (pv 13))) (pw_or1 (pt_not (pt_val (pe_ix ix_tup (pv 13) pe_int (fun _ _ => rfl)))))))))) (pss_one (ps_ret (pe_op op_add_str (pv 5) (pv 8)))) pss_nil)
  (pss_cons (ps_set (i := 14) sc_spoiled_word.nd rfl (Or.inl rfl) (pe_ifExp (pt_cmp (pc_isN (pv 13))) (pe_tup (pa_cons (pv 9) (pa_cons pe_bl (pa_cons (pe_tup pa_nil) (pa_cons pe_bl pa_nil))))) (pe_tup (pa_cons (pv 9) (pa_cons (pe_ix ix_tup (pv 13) pe_int (fun _ _ => rfl)) (pa_cons (pe_ix ix_tup (pv 13) pe_int (fun _ _ => rfl)) (pa_cons pe_bl pa_nil)))))))
  (pss_one (ps_if (pt_cmpR (op_notInN (hu64 hr)) (pv 14) (pv 3) (by first | rfl | exact nomark _ | exact nobehind _ (by decide) (by decide))) (pss_cons (ps_asg pe_bl (pg_sub (pv 3) (pv 14) (set_dn (hu64 hr))))
  (pss_one (ps_expr (pe_bm PySem.F.plainAttrs_list PySem.F.slot_list_append PySem.F.type_list_append mt_append (pv 4) (pa_cons (pe_tup (pa_cons (pe_op op_add_str (pv 5) (pv 8)) (pa_cons (pv 14) pa_nil))) pa_nil))))) pss_nil))))))))))
  (pss_one (ps_set (i := 2) sc_spoiled_word.nd rfl (Or.inl rfl) (pv 4))))))
  (pss_one (ps_ret pe_non))))), ?_⟩
  obtain ⟨a, b, va, ls, Rs, B, rfl, hv, ok, hb, hc, bk, h8, hun, q⟩ := h
  have hpos : ∀ R ∈ Rs, 1 ≤ R.pat.length := fun R hR => (hb.ok R hR).pos
  have hwid : ∀ R ∈ Rs, R.pat.length ≤ (wid Rs - 1) + 1 := fun R hR => by have := wid_ge hR; omega
  have hr3 : wid Rs - 1 ≤ 3 := by
    rcases (fold_max (Rs.map fun R => R.pat.length) 0).2.2 with e | e
    · unfold wid; omega
    · obtain ⟨R, hR, e⟩ := List.mem_map.mp e
      have := (hb.ok R hR).few
      unfold wid
      omega
  refine ⟨Nat.le_of_ble_eq_true rfl, fun t0 ht0 => ⟨Nat.le_of_ble_eq_true rfl, fun n0 hn0 => ⟨Nat.le_of_ble_eq_true rfl, fun e0 he0 => ⟨Nat.le_of_ble_eq_true rfl, fun l hl => ?_⟩⟩⟩⟩
  have sl := Same.new (o := .tup []) ht0
  have s0 : Same H (upd (upd (upd (upd H t0 (.tup [])) n0 (.tup [.int 0, .bl true, .ref t0, .bl false])) e0 (.tup [.str "", .ref n0])) l (.lst [.ref e0])) := str (str (str sl (Same.new hn0)) (Same.new he0)) (Same.new hl)
  have hn : NdH (upd (upd (upd (upd H t0 (.tup [])) n0 (.tup [.int 0, .bl true, .ref t0, .bl false])) e0 (.tup [.str "", .ref n0])) l (.lst [.ref e0])) n0 nd0 := ⟨t0, uo (uo upd_same he0) hl, uo (uo (uo upd_same hn0) he0) hl⟩
  have he : EnH (upd (upd (upd (upd H t0 (.tup [])) n0 (.tup [.int 0, .bl true, .ref t0, .bl false])) e0 (.tup [.str "", .ref n0])) l (.lst [.ref e0])) ls e0 ([], nd0) := ⟨n0, uo upd_same hl, hn⟩
  have hll : upd (upd (upd (upd H t0 (.tup [])) n0 (.tup [.int 0, .bl true, .ref t0, .bl false])) e0 (.tup [.str "", .ref n0])) l (.lst [.ref e0]) l = some (.lst [.ref e0]) := upd_same
  generalize upd (upd (upd (upd H t0 (.tup [])) n0 (.tup [.int 0, .bl true, .ref t0, .bl false])) e0 (.tup [.str "", .ref n0])) l (.lst [.ref e0]) = Ha at s0 hn he hll
  refine fun sd hsd => ⟨Nat.le_of_ble_eq_true rfl, fun t1 ht1 => ⟨Nat.le_of_ble_eq_true rfl, fun n1 hn1 => ⟨uo (uo upd_same ht1) hn1, ⟨_, rfl⟩, nkey nd0, NdH.key ⟨t1, upd_same, uo upd_same hn1⟩, nkey_depth _, fun ents hDN => ?_⟩⟩⟩
  have s1 : Same Ha (upd (upd (upd (upd Ha sd (DnO w sd [])) t1 (.tup [])) n1 (.tup [.int 0, .bl true, .ref t1, .bl false])) sd (DnO w sd ents)) := Same.mut (str (Same.new hsd) (str (Same.new ht1) (Same.new hn1))) hsd
  refine ⟨fun m σ H' => ∃ (S : List Nd) (lay : List (List Nat × Nd)) (dep : Nat) (l sd : Addr) (es : List Addr), (∃ u4 u5 u6 u7 u8 u9 u10 u11 u12 u13 u14 : Option V, σ = [some (V.ref a), some (V.ref b), some (V.ref l), some (V.ref sd), u4, u5, u6, u7, u8, u9, u10, u11, u12, u13, u14]) ∧ Same H H' ∧ H' l = some (.lst (es.map V.ref)) ∧ EnsH H' ls es lay ∧ DN w H' sd (seenL S) ∧ H sd = none ∧ Bfs Rs B (wid Rs - 1) ls.length S lay dep ∧ m = (4001 - S.length) * 2 + (if lay = [] then 0 else 1), ⟨_, [nd0], [([], nd0)], 0, l, sd, [e0], ⟨_, _, _, _, _, _, _, _, _, _, _, rfl⟩, str s0 s1, s1 _ _ hll, ?_, hDN, snone s0 hsd, Bfs.start, rfl⟩, ?_⟩
  · refine ⟨rfl, fun i e u h1 h2 => ?_⟩
    cases i with
    | zero => cases h1; cases h2; exact he.mono (sn s1)
    | succ i => simp at h1
  rintro m σ H1 ⟨S, lay, dep, l, sd, es, ⟨u4, u5, u6, u7, u8, u9, u10, u11, u12, u13, u14, rfl⟩, sH, hl, hes, hD, hsd, bf, rfl⟩
  refine ⟨_, rfl, Nat.le_of_ble_eq_true rfl, fun z hz => ⟨_, _, .lst (SqL.of (uo hl hz)) (ensD_dp (hes.mono (sn (Same.new hz)))), .lst (SqL.of upd_same) .nil, ensD_shaped ok lay, rfl, _, rfl, ifp (p := lay ≠ []) ?_ (fun hne => ?_) fun hne => ?_⟩⟩
  · rw [ensD_eqv]
    simp
  · have hH1 := sH
    refine ⟨fun σ' H' => ∃ (S' : List Nd) (later : List (List Nat × Nd)) (lt : Addr) (es' : List Addr), (∃ u4 u5 u6 u7 u8 u9 u10 u11 u12 u13 u14 : Option V, σ' = [some (V.ref a), some (V.ref b), some (V.ref lt), some (V.ref sd), u4, u5, u6, u7, u8, u9, u10, u11, u12, u13, u14]) ∧ Same H H' ∧ H' lt = some (.lst (es'.map V.ref)) ∧ EnsH H' ls es' later ∧ DN w H' sd (seenL S') ∧ Bfs Rs B (wid Rs - 1) ls.length S' later (dep + 1) ∧ S'.length = S.length + later.length, ?_, ?_⟩
    · rintro σ' H' ⟨S', later, lt, es', hσ, h1, h2, h3, h4, h5, h6⟩
      refine ⟨_, ?_, S', later, dep + 1, lt, sd, es', hσ, h1, h2, h3, h4, hsd, h5, rfl⟩
      have hS := low_len h5.nd fun d hd => let ⟨u, hu, e⟩ := h5.re d hd; e ▸ (Nd.of_low bk h8 ok.four hr3 u hu).1
      rw [if_neg hne]
      by_cases hl0 : later = []
      · rw [if_pos hl0, h6, hl0]
        show (4001 - (S.length + 0)) * 2 + 0 < _
        omega
      · have := List.length_pos_iff.mpr hl0
        rw [if_neg hl0]
        omega
    refine ⟨Nat.le_of_ble_eq_true rfl, fun lt hlt => ?_⟩
    have sz1 := Same.new (o := .lst []) hz
    have sz2 := Same.new (o := .lst []) hlt
    have s12 := str sz1 sz2
    refine ⟨_, rfl, l, _, rfl, .inl (SqL.of (s12 _ _ hl)), fun lp hlp => ⟨lp, rfl, ⟨_, SqL.of upd_same⟩, ?_⟩⟩
    have nlp : lt ≠ lp := ne_of_none upd_same hlp
    have s13 := str s12 (Same.new (o := .lst (es.map V.ref)) hlp)
    refine for_list (xs := es.map V.ref) (fun i σ' H' => ∃ (S' : List Nd) (later : List (List Nat × Nd)) (es' : List Addr), (∃ u5 u6 u7 u8 u9 u10 u11 u12 u13 u14 : Option V, σ' = [some (V.ref a), some (V.ref b), some (V.ref l), some (V.ref sd), some (V.ref lt), u5, u6, u7, u8, u9, u10, u11, u12, u13, u14]) ∧ Same H H' ∧ H' lp = some (.lst (es.map V.ref)) ∧ EnsH H' ls es lay ∧ H' lt = some (.lst (es'.map V.ref)) ∧ EnsH H' ls es' later ∧ DN w H' sd (seenL S') ∧ Mid Rs B (wid Rs - 1) ls.length S lay dep i 0 S' later) ⟨S, [], [], ⟨_, _, _, _, _, _, _, _, _, _, rfl⟩, str sH s13, upd_same, hes.mono (sn s13), un' nlp upd_same, ⟨rfl, fun i e u h => by simp at h⟩, hD.same s13, bf.mid⟩ (fun i σ H' _ ⟨_, _, _, _, _, h, _⟩ => SqL.of h) ?_ ?_
    · rintro i x σ' H2 hx ⟨S', later, es', ⟨u5, u6, u7, u8, u9, u10, u11, u12, u13, u14, rfl⟩, h1, h2, h2e, h3, h4, h5, h6⟩
      rw [List.getElem?_map] at hx
      cases ee : es[i]? with
      | none => rw [ee] at hx; cases hx
      | some e =>
        rw [ee] at hx
        cases hx
        have hi : i < lay.length := by rw [← hes.1]; exact (List.getElem?_eq_some_iff.mp ee).1
        have eu : lay[i]? = some lay[i] := List.getElem?_eq_getElem hi
        generalize lay[i] = ud at eu
        obtain ⟨u, d⟩ := ud
        obtain ⟨nd, hen, hnd⟩ := h2e.2 i e _ ee eu
        have hw : Wd ls.length u := (bf.lays _ (List.mem_of_getElem? eu)).2.2.1
        have hof : Nd.of Rs B (wid Rs - 1) u = d := (bf.lays _ (List.mem_of_getElem? eu)).2.2.2
        have hdep : u.length = dep := (bf.lays _ (List.mem_of_getElem? eu)).2.1
        refine ⟨_, _, rfl, SqT.of hen, rfl, _, _, rfl, _, _, rfl, rfl, ?_⟩
        have hc2 := hc.mono (sn h1)
        have hv2 := hv.mono (sn h1)
        refine ⟨_, rfl, b, _, rfl, hc2.alphabet T, va, _, rfl, hv2.letters T, _, rfl, for_it walk_enumE (fun j σ'' H' => ∃ (S' : List Nd) (later : List (List Nat × Nd)) (es' : List Addr), (∃ u7 u8 u9 u10 u11 u12 u13 u14 : Option V, σ'' = [some (V.ref a), some (V.ref b), some (V.ref l), some (V.ref sd), some (V.ref lt), some (V.str (txt ls u)), some (V.ref nd), u7, u8, u9, u10, u11, u12, u13, u14]) ∧ Same H H' ∧ H' lp = some (.lst (es.map V.ref)) ∧ EnsH H' ls es lay ∧ NdH H' nd d ∧ H' lt = some (.lst (es'.map V.ref)) ∧ EnsH H' ls es' later ∧ DN w H' sd (seenL S') ∧ Mid Rs B (wid Rs - 1) ls.length S lay dep i j S' later) ⟨S', later, es', ⟨_, _, _, _, _, _, _, _, rfl⟩, h1, h2, h2e, hnd, h3, h4, h5, h6⟩ (fun _ _ _ _ _ => trivial) ?_ ?_⟩
        · rintro j x σ'' H3 H4 hj ⟨S', later, es', ⟨u7, u8, u9, u10, u11, u12, u13, u14, rfl⟩, g1, g2, g3, gn, g4, g5, g6, g7⟩ ⟨tt, x', rfl, htt, rfl, c, hcx, rfl⟩
          rw [sx_size] at hj
          rw [sx_get, getD_some hj] at hcx
          cases hcx
          have st := Same.new (o := .tup [.int (j : Nat), .str ⟨#[ls.getD j 0]⟩]) htt
          have k1 := str g1 st
          refine ⟨_, _, rfl, SqT.of upd_same, rfl, _, _, rfl, _, _, rfl, rfl, ?_⟩
          have gn1 := gn.mono (sn st)
          obtain ⟨tl, en1, en2⟩ := gn1
          have hqn : d.q < B.n := hof ▸ (Nd.of_low bk h8 ok.four hr3 u hw).2
          have hlow : d.Low := hof ▸ (Nd.of_low bk h8 ok.four hr3 u hw).1
          have hc3 := hc.mono (sn k1)
          obtain ⟨ps, rr, rs, f1, f2, f3, f4, f5⟩ := hc3.row T bk hqn hj
          obtain ⟨pt, ft, hpt⟩ := hc3.told T
          have hq' : B.st d.q j < B.n := bk.st_lt hqn hj
          refine ⟨_, rfl, nd, _, rfl, SqT.of en1, rfl, _, _, rfl, _, _, rfl, _, _, rfl, _, _, rfl, rfl, ?_⟩
          refine ⟨_, rfl, b, _, rfl, f1, _, rfl, ps, _, _, _, rfl, rfl, SqT.of f2, atI_nat f3, _, rfl, rr, _, _, _, rfl, rfl, SqT.of f4, atI_nat f5, ?_⟩
          have hb3 := hb.mono (sn k1)
          generalize upd H3 tt (.tup [.int (j : Nat), .str ⟨#[ls.getD j 0]⟩]) = Hc at st k1 en1 en2 hc3 f1 f2 f4 ft hpt hb3
          have e2j : V.int (1 * 2 ^ ((j : Int).toNat)) = V.int ((2 ^ j : Nat) : Int) := by
            rw [Int.toNat_natCast, Int.one_mul]
            push_cast
            rfl
          refine ⟨_, rfl, d.dead, rfl, if_join (A := fun Q => Q .non Hc) (c := d.dead) (fun v H' => Same Hc H' ∧ ((v = .non ∧ (d.dead = true ∨ StrikeL Rs (d.tail ++ [j]) d.st false)) ∨ (¬ (d.dead = true ∨ StrikeL Rs (d.tail ++ [j]) d.st false) ∧ ∃ (p q : Addr) (me : Bool), v = .ref p ∧ (me = true ↔ ¬ StrikeL Rs (d.tail ++ [j]) d.st true) ∧ H' q = some (.tup (ni (pws ((d.tail ++ [j]).drop (d.tail.length + 1 - (wid Rs - 1)))))) ∧ H' p = some (.tup [.ref q, .bl (d.st && decide (d.tail.length + 1 ≤ wid Rs - 1)), .bl me])))) rfl (fun h Q' hq => hq _ _ ⟨srf _, .inl ⟨rfl, .inl h⟩⟩) (fun h Q' hq => ?_) ?_⟩
          · refine ⟨_, rfl, a, rfl, hb3.mth T (h_Book_stepped T), _, rfl, _, rfl, _, _, rfl, rfl, ⟨by omega, by have := ok.four; omega, by decide⟩, _, rfl, a, va, tl, ls, d.tail, j, Rs, d.st, ?_, hb3, en2, by have := hlow.len; omega, fun hs H' s5 => hq _ _ ⟨s5, .inl ⟨rfl, .inr hs⟩⟩, fun hns p q' me H' s5 hme e1 e2 => hq _ _ ⟨s5, .inr ⟨fun z => z.elim (fun z => by rw [h] at z; cases z) hns, p, q', me, rfl, hme, e1, e2⟩⟩⟩
            show [V.ref a, V.ref tl, V.int (1 * 2 ^ ((j : Int).toNat)), V.bl d.st] = _
            rw [e2j]
          rintro v H5 ⟨s5, hF⟩
          have hc5 := hc3.mono (sn s5)
          have ft5 := ft.mono s5
          have hpt5 := s5 _ _ hpt
          have k5 := str k1 s5
          have hdep4 : dep + 1 ≤ 4000 := Nat.le_trans (bf.cnt hne) (low_len bf.nd fun d hd => let ⟨u, hu, e⟩ := bf.re d hd; e ▸ (Nd.of_low bk h8 ok.four hr3 u hu).1)
          have hndok : NdOk Rs B (wid Rs - 1) u d := hof ▸ NdOk.of hpos hwid u
          have ret : Stop Rs B d j → Q (.str (txt ls u ++ (⟨#[ls.getD j 0]⟩ : Str))) H5 := fun hs => by
            obtain ⟨r1, r2⟩ := stop_hit hwid hndok hs
            rw [txt_snoc]
            exact q (u ++ [j]) H5 k5 (by simp) (hw.app fun a ha => by rw [List.mem_singleton] at ha; exact ha ▸ hj) (by rw [List.length_append, hdep]; show dep + 1 ≤ _; omega) r1 r2
          have hlen : (txt ls u).length + (⟨#[ls.getD j 0]⟩ : Str).length ≤ sizeLine := by
            have sz : 5000 ≤ sizeLine := by decide
            rw [txt_len, hdep]
            show dep + 1 ≤ _
            omega
          rcases hF with ⟨rfl, hk⟩ | ⟨hk, p, q', me, rfl, hme, hq1, hp1⟩
          · refine ⟨_, rfl, b, _, rfl, ft5, _, rfl, pt, _, _, _, rfl, rfl, SqT.of hpt5, atI_nat (at_of bk hq'), _, rfl, ifb (c := B.at_ (B.st d.q j)) rfl (fun ht => ⟨_, rfl, _, rfl, ifb (c := true) rfl (fun _ => ⟨_, rfl, _, rfl, _, _, rfl, rfl, hlen, ret ⟨ht, hk.elim .inl fun z => .inr (.inl z)⟩⟩) fun h => nomatch h⟩) fun ht => ?_⟩
            refine ⟨_, rfl, _, rfl, ifb (c := true) rfl (fun _ => ⟨_, rfl, Nat.zero_le _, fun p0 hp0 => ⟨Nat.le_of_ble_eq_true rfl, fun pf hpf => ?_⟩⟩) fun h => nomatch h⟩
            have hns : ¬ Stop Rs B d j := fun z => by rw [z.1] at ht; cases ht
            have s36 := str st (str s5 (str (Same.new (o := .tup []) hp0) (Same.new (o := .tup [.int (B.st d.q j : Nat), .bl false, .ref p0, .bl true]) hpf)))
            have hnew : NdH (upd (upd H5 p0 (.tup [])) pf (.tup [.int (B.st d.q j : Nat), .bl false, .ref p0, .bl true])) pf (d.step Rs B (wid Rs - 1) j) := by
              unfold Nd.step
              rw [if_pos hk]
              exact ⟨p0, upd_same, uo upd_same hpf⟩
            generalize upd (upd H5 p0 (.tup [])) pf (.tup [.int (B.st d.q j : Nat), .bl false, .ref p0, .bl true]) = H6 at s36 hnew
            have hD6 : DN w H6 sd (seenL S') := g6.same s36
            have hkey := hnew.key
            refine ⟨_, rfl, _, rfl, sd, seenL S', nkey (d.step Rs B (wid Rs - 1) j), rfl, hD6, ⟨_, rfl⟩, hkey, nkey_depth _, _, rfl, ifp (p := d.step Rs B (wid Rs - 1) j ∉ S') ?_ (fun hf => ?_) fun hf => ?_⟩
            · show (!(getN (seenL S') (nkey (d.step Rs B (wid Rs - 1) j))).isSome) = true ↔ _
              rw [← seen_get (S := S')]
              simp
            · have hS4 := low_len g7.nd fun d hd => let ⟨u, hu, e⟩ := g7.re d hd; e ▸ (Nd.of_low bk h8 ok.four hr3 u hu).1
              have sz : 5000 ≤ sizeLine := by decide
              have hLs : es'.length ≤ 4000 := by rw [g5.1]; have := g7.len; omega
              obtain ⟨en6, hsd6, _⟩ := id hD6
              have hltH : H lt = none := snone (str sH sz1) hlt
              refine ⟨_, rfl, _, rfl, sd, seenL S', nkey (d.step Rs B (wid Rs - 1) j), rfl, hD6, ⟨_, rfl⟩, hkey, nkey_depth _, ?_, by unfold seenL; rw [List.length_map]; omega, fun ents hDN2 => ?_⟩
              · have := mt (seen_get (S := S') (d := d.step Rs B (wid Rs - 1) j)).mp hf
                simpa using this
              have sN7 : SameN H6 (upd H6 sd (DnO w sd ents)) := snu (snr _) fun o e => by rw [hsd6] at e; cases e; rfl
              have sP7 : SameP sd H6 (upd H6 sd (DnO w sd ents)) := spu
              have nl : ∀ {a : Addr} {xs : List V}, H6 a = some (.lst xs) → a ≠ sd := fun e z => by rw [z, hsd6] at e; cases e
              have lt6 := s36 _ _ g4
              have lp6 := s36 _ _ g2
              refine ⟨_, rfl, .inl ⟨rfl, _, SqL.of (sP7 _ _ (nl lt6) lt6)⟩, _, rfl, _, rfl, _, _, rfl, rfl, hlen, _, rfl, Nat.le_of_ble_eq_true rfl, fun pe hpe => ⟨lt, _, _, rfl, rfl, uo (sP7 _ _ (nl lt6) lt6) hpe, by rw [List.length_map]; omega, ?_⟩⟩
              have nE : ∀ {a : Addr} {o : HO}, upd H6 sd (DnO w sd ents) a = some o → a ≠ pe := fun e => ne_of_none e hpe
              have sN9 : SameN H6 (upd (upd (upd H6 sd (DnO w sd ents)) pe (.tup [.str (txt ls u ++ (⟨#[ls.getD j 0]⟩ : Str)), .ref pf])) lt (.lst (es'.map V.ref ++ [.ref pe]))) := snu (sn_new sN7 hpe) fun o e => by rw [uo (sP7 _ _ (nl lt6) lt6) hpe] at e; cases e; rfl
              have nlt : pe ≠ lt := (ne_of_none (sP7 _ _ (nl lt6) lt6) hpe).symm
              refine ⟨S' ++ [d.step Rs B (wid Rs - 1) j], later ++ [(u ++ [j], d.step Rs B (wid Rs - 1) j)], es' ++ [pe], ⟨_, _, _, _, _, _, _, _, rfl⟩, Same.mut (str (Same.mut (str g1 s36) hsd) (Same.new hpe)) hltH, un' (fun z => nlp z.symm) (uo (sP7 _ _ (nl lp6) lp6) hpe), g3.mono (snt (sn s36) sN9), gn.mono (snt (sn s36) sN9), ?_, EnsH.snoc (g5.mono (snt (sn s36) sN9)) ⟨pf, ?_, hnew.mono sN9⟩, ?_, g7.fresh bf eu hj hns hf⟩
              · rw [upd_same, List.map_append]
                rfl
              · rw [upd_ne nlt, upd_same, txt_snoc]
              · have e : seenL (S' ++ [d.step Rs B (wid Rs - 1) j]) = seenL S' ++ [(nkey (d.step Rs B (wid Rs - 1) j), .bl true)] := by unfold seenL; rw [List.map_append]; rfl
                rw [e]
                refine hDN2.mono ?_ fun a xs ea => ?_
                · rw [upd_ne (nl lt6).symm, upd_ne (nE upd_same)]
                · rw [upd_ne fun z => ?_, upd_ne (nE ea)]
                  · exact ea
                  · rw [z] at ea
                    have e7 := sP7 _ _ (nl lt6) lt6
                    cases ea.symm.trans e7
            · exact ⟨S', later, es', ⟨_, _, _, _, _, _, _, _, rfl⟩, str g1 s36, s36 _ _ g2, g3.mono (sn s36), gn.mono (sn s36), s36 _ _ g4, g5.mono (sn s36), hD6, g7.old eu hns (Classical.not_not.mp hf)⟩
          · refine ⟨_, rfl, b, _, rfl, ft5, _, rfl, pt, _, _, _, rfl, rfl, SqT.of hpt5, atI_nat (at_of bk hq'), _, rfl, ifb (c := B.at_ (B.st d.q j)) rfl (fun ht => ⟨_, rfl, _, rfl, ifb (c := false) rfl (fun h => nomatch h) fun _ => ⟨_, rfl, p, _, _, _, rfl, rfl, SqT.of hp1, rfl, _, rfl, ifb (c := !me) rfl (fun hm => ⟨_, rfl, _, rfl, _, _, rfl, rfl, hlen, ret ⟨ht, ?_⟩⟩) fun hm => ?_⟩⟩) fun ht => ?_⟩
            · refine .inr (.inr (Classical.byContradiction fun z => ?_))
              rw [hme.mpr z] at hm
              cases hm
            · skip
              refine ⟨_, rfl, _, rfl, ifb (c := false) rfl (fun h => nomatch h) fun _ => ⟨_, rfl, _, rfl, p, _, _, _, rfl, rfl, SqT.of hp1, rfl, _, rfl, p, _, _, _, rfl, rfl, SqT.of hp1, rfl, Nat.le_of_ble_eq_true rfl, fun pf hpf => ?_⟩⟩
              have hns : ¬ Stop Rs B d j := fun z => z.2.elim (fun h => hk (.inl h)) fun h => h.elim (fun h => hk (.inr h)) (hme.mp (by simpa using hm))
              have s36 := str st (str s5 (Same.new (o := .tup [.int (B.st d.q j : Nat), .bl (d.st && decide (d.tail.length + 1 ≤ wid Rs - 1)), .ref q', .bl false]) hpf))
              have hnew : NdH (upd H5 pf (.tup [.int (B.st d.q j : Nat), .bl (d.st && decide (d.tail.length + 1 ≤ wid Rs - 1)), .ref q', .bl false])) pf (d.step Rs B (wid Rs - 1) j) := by
                unfold Nd.step
                rw [if_neg hk]
                exact ⟨q', upd_same, uo hq1 hpf⟩
              generalize upd H5 pf (.tup [.int (B.st d.q j : Nat), .bl (d.st && decide (d.tail.length + 1 ≤ wid Rs - 1)), .ref q', .bl false]) = H6 at s36 hnew
              have hD6 : DN w H6 sd (seenL S') := g6.same s36
              have hkey := hnew.key
              refine ⟨_, rfl, _, rfl, sd, seenL S', nkey (d.step Rs B (wid Rs - 1) j), rfl, hD6, ⟨_, rfl⟩, hkey, nkey_depth _, _, rfl, ifp (p := d.step Rs B (wid Rs - 1) j ∉ S') ?_ (fun hf => ?_) fun hf => ?_⟩
              · show (!(getN (seenL S') (nkey (d.step Rs B (wid Rs - 1) j))).isSome) = true ↔ _
                rw [← seen_get (S := S')]
                simp
              · have hS4 := low_len g7.nd fun d hd => let ⟨u, hu, e⟩ := g7.re d hd; e ▸ (Nd.of_low bk h8 ok.four hr3 u hu).1
                have sz : 5000 ≤ sizeLine := by decide
                have hLs : es'.length ≤ 4000 := by rw [g5.1]; have := g7.len; omega
                obtain ⟨en6, hsd6, _⟩ := id hD6
                have hltH : H lt = none := snone (str sH sz1) hlt
                refine ⟨_, rfl, _, rfl, sd, seenL S', nkey (d.step Rs B (wid Rs - 1) j), rfl, hD6, ⟨_, rfl⟩, hkey, nkey_depth _, ?_, by unfold seenL; rw [List.length_map]; omega, fun ents hDN2 => ?_⟩
                · have := mt (seen_get (S := S') (d := d.step Rs B (wid Rs - 1) j)).mp hf
                  simpa using this
                have sN7 : SameN H6 (upd H6 sd (DnO w sd ents)) := snu (snr _) fun o e => by rw [hsd6] at e; cases e; rfl
                have sP7 : SameP sd H6 (upd H6 sd (DnO w sd ents)) := spu
                have nl : ∀ {a : Addr} {xs : List V}, H6 a = some (.lst xs) → a ≠ sd := fun e z => by rw [z, hsd6] at e; cases e
                have lt6 := s36 _ _ g4
                have lp6 := s36 _ _ g2
                refine ⟨_, rfl, .inl ⟨rfl, _, SqL.of (sP7 _ _ (nl lt6) lt6)⟩, _, rfl, _, rfl, _, _, rfl, rfl, hlen, _, rfl, Nat.le_of_ble_eq_true rfl, fun pe hpe => ⟨lt, _, _, rfl, rfl, uo (sP7 _ _ (nl lt6) lt6) hpe, by rw [List.length_map]; omega, ?_⟩⟩
                have nE : ∀ {a : Addr} {o : HO}, upd H6 sd (DnO w sd ents) a = some o → a ≠ pe := fun e => ne_of_none e hpe
                have sN9 : SameN H6 (upd (upd (upd H6 sd (DnO w sd ents)) pe (.tup [.str (txt ls u ++ (⟨#[ls.getD j 0]⟩ : Str)), .ref pf])) lt (.lst (es'.map V.ref ++ [.ref pe]))) := snu (sn_new sN7 hpe) fun o e => by rw [uo (sP7 _ _ (nl lt6) lt6) hpe] at e; cases e; rfl
                have nlt : pe ≠ lt := (ne_of_none (sP7 _ _ (nl lt6) lt6) hpe).symm
                refine ⟨S' ++ [d.step Rs B (wid Rs - 1) j], later ++ [(u ++ [j], d.step Rs B (wid Rs - 1) j)], es' ++ [pe], ⟨_, _, _, _, _, _, _, _, rfl⟩, Same.mut (str (Same.mut (str g1 s36) hsd) (Same.new hpe)) hltH, un' (fun z => nlp z.symm) (uo (sP7 _ _ (nl lp6) lp6) hpe), g3.mono (snt (sn s36) sN9), gn.mono (snt (sn s36) sN9), ?_, EnsH.snoc (g5.mono (snt (sn s36) sN9)) ⟨pf, ?_, hnew.mono sN9⟩, ?_, g7.fresh bf eu hj hns hf⟩
                · rw [upd_same, List.map_append]
                  rfl
                · rw [upd_ne nlt, upd_same, txt_snoc]
                · have e : seenL (S' ++ [d.step Rs B (wid Rs - 1) j]) = seenL S' ++ [(nkey (d.step Rs B (wid Rs - 1) j), .bl true)] := by unfold seenL; rw [List.map_append]; rfl
                  rw [e]
                  refine hDN2.mono ?_ fun a xs ea => ?_
                  · rw [upd_ne (nl lt6).symm, upd_ne (nE upd_same)]
                  · rw [upd_ne fun z => ?_, upd_ne (nE ea)]
                    · exact ea
                    · rw [z] at ea
                      have e7 := sP7 _ _ (nl lt6) lt6
                      cases ea.symm.trans e7
              · exact ⟨S', later, es', ⟨_, _, _, _, _, _, _, _, rfl⟩, str g1 s36, s36 _ _ g2, g3.mono (sn s36), gn.mono (sn s36), s36 _ _ g4, g5.mono (sn s36), hD6, g7.old eu hns (Classical.not_not.mp hf)⟩
            · skip
              refine ⟨_, rfl, _, rfl, ifb (c := false) rfl (fun h => nomatch h) fun _ => ⟨_, rfl, _, rfl, p, _, _, _, rfl, rfl, SqT.of hp1, rfl, _, rfl, p, _, _, _, rfl, rfl, SqT.of hp1, rfl, Nat.le_of_ble_eq_true rfl, fun pf hpf => ?_⟩⟩
              have hns : ¬ Stop Rs B d j := fun z => by rw [z.1] at ht; cases ht
              have s36 := str st (str s5 (Same.new (o := .tup [.int (B.st d.q j : Nat), .bl (d.st && decide (d.tail.length + 1 ≤ wid Rs - 1)), .ref q', .bl false]) hpf))
              have hnew : NdH (upd H5 pf (.tup [.int (B.st d.q j : Nat), .bl (d.st && decide (d.tail.length + 1 ≤ wid Rs - 1)), .ref q', .bl false])) pf (d.step Rs B (wid Rs - 1) j) := by
                unfold Nd.step
                rw [if_neg hk]
                exact ⟨q', upd_same, uo hq1 hpf⟩
              generalize upd H5 pf (.tup [.int (B.st d.q j : Nat), .bl (d.st && decide (d.tail.length + 1 ≤ wid Rs - 1)), .ref q', .bl false]) = H6 at s36 hnew
              have hD6 : DN w H6 sd (seenL S') := g6.same s36
              have hkey := hnew.key
              refine ⟨_, rfl, _, rfl, sd, seenL S', nkey (d.step Rs B (wid Rs - 1) j), rfl, hD6, ⟨_, rfl⟩, hkey, nkey_depth _, _, rfl, ifp (p := d.step Rs B (wid Rs - 1) j ∉ S') ?_ (fun hf => ?_) fun hf => ?_⟩
              · show (!(getN (seenL S') (nkey (d.step Rs B (wid Rs - 1) j))).isSome) = true ↔ _
                rw [← seen_get (S := S')]
                simp
              · have hS4 := low_len g7.nd fun d hd => let ⟨u, hu, e⟩ := g7.re d hd; e ▸ (Nd.of_low bk h8 ok.four hr3 u hu).1
                have sz : 5000 ≤ sizeLine := by decide
                have hLs : es'.length ≤ 4000 := by rw [g5.1]; have := g7.len; omega
                obtain ⟨en6, hsd6, _⟩ := id hD6
                have hltH : H lt = none := snone (str sH sz1) hlt
                refine ⟨_, rfl, _, rfl, sd, seenL S', nkey (d.step Rs B (wid Rs - 1) j), rfl, hD6, ⟨_, rfl⟩, hkey, nkey_depth _, ?_, by unfold seenL; rw [List.length_map]; omega, fun ents hDN2 => ?_⟩
                · have := mt (seen_get (S := S') (d := d.step Rs B (wid Rs - 1) j)).mp hf
                  simpa using this
                have sN7 : SameN H6 (upd H6 sd (DnO w sd ents)) := snu (snr _) fun o e => by rw [hsd6] at e; cases e; rfl
                have sP7 : SameP sd H6 (upd H6 sd (DnO w sd ents)) := spu
                have nl : ∀ {a : Addr} {xs : List V}, H6 a = some (.lst xs) → a ≠ sd := fun e z => by rw [z, hsd6] at e; cases e
                have lt6 := s36 _ _ g4
                have lp6 := s36 _ _ g2
                refine ⟨_, rfl, .inl ⟨rfl, _, SqL.of (sP7 _ _ (nl lt6) lt6)⟩, _, rfl, _, rfl, _, _, rfl, rfl, hlen, _, rfl, Nat.le_of_ble_eq_true rfl, fun pe hpe => ⟨lt, _, _, rfl, rfl, uo (sP7 _ _ (nl lt6) lt6) hpe, by rw [List.length_map]; omega, ?_⟩⟩
                have nE : ∀ {a : Addr} {o : HO}, upd H6 sd (DnO w sd ents) a = some o → a ≠ pe := fun e => ne_of_none e hpe
                have sN9 : SameN H6 (upd (upd (upd H6 sd (DnO w sd ents)) pe (.tup [.str (txt ls u ++ (⟨#[ls.getD j 0]⟩ : Str)), .ref pf])) lt (.lst (es'.map V.ref ++ [.ref pe]))) := snu (sn_new sN7 hpe) fun o e => by rw [uo (sP7 _ _ (nl lt6) lt6) hpe] at e; cases e; rfl
                have nlt : pe ≠ lt := (ne_of_none (sP7 _ _ (nl lt6) lt6) hpe).symm
                refine ⟨S' ++ [d.step Rs B (wid Rs - 1) j], later ++ [(u ++ [j], d.step Rs B (wid Rs - 1) j)], es' ++ [pe], ⟨_, _, _, _, _, _, _, _, rfl⟩, Same.mut (str (Same.mut (str g1 s36) hsd) (Same.new hpe)) hltH, un' (fun z => nlp z.symm) (uo (sP7 _ _ (nl lp6) lp6) hpe), g3.mono (snt (sn s36) sN9), gn.mono (snt (sn s36) sN9), ?_, EnsH.snoc (g5.mono (snt (sn s36) sN9)) ⟨pf, ?_, hnew.mono sN9⟩, ?_, g7.fresh bf eu hj hns hf⟩
                · rw [upd_same, List.map_append]
                  rfl
                · rw [upd_ne nlt, upd_same, txt_snoc]
                · have e : seenL (S' ++ [d.step Rs B (wid Rs - 1) j]) = seenL S' ++ [(nkey (d.step Rs B (wid Rs - 1) j), .bl true)] := by unfold seenL; rw [List.map_append]; rfl
                  rw [e]
                  refine hDN2.mono ?_ fun a xs ea => ?_
                  · rw [upd_ne (nl lt6).symm, upd_ne (nE upd_same)]
                  · rw [upd_ne fun z => ?_, upd_ne (nE ea)]
                    · exact ea
                    · rw [z] at ea
                      have e7 := sP7 _ _ (nl lt6) lt6
                      cases ea.symm.trans e7
              · exact ⟨S', later, es', ⟨_, _, _, _, _, _, _, _, rfl⟩, str g1 s36, s36 _ _ g2, g3.mono (sn s36), gn.mono (sn s36), s36 _ _ g4, g5.mono (sn s36), hD6, g7.old eu hns (Classical.not_not.mp hf)⟩
        · rintro σ'' H3 ⟨S', later, es', ⟨u7, u8, u9, u10, u11, u12, u13, u14, rfl⟩, g1, g2, g3, gn, g4, g5, g6, g7⟩
          rw [sx_size] at g7
          exact ⟨S', later, es', ⟨_, _, _, _, _, _, _, _, _, _, rfl⟩, g1, g2, g3, g4, g5, g6, g7.row⟩
    · rintro σ' H2 ⟨S', later, es', ⟨u5, u6, u7, u8, u9, u10, u11, u12, u13, u14, rfl⟩, h1, h2, h3, h4, h5, h6, h7⟩
      rw [List.length_map, hes.1] at h7
      exact ⟨_, rfl, S', later, lt, es', ⟨_, _, _, _, _, _, _, _, _, _, _, rfl⟩, h1, h4, h5, h6, h7.next bf hne, h7.len⟩
  · have e : lay = [] := Classical.byContradiction hne
    subst e
    exact absurd (bf.clean hpos hwid) hun
theorem cg_spoiled_word {w : World} {base : Heap} (T : Tx P K mg) : Cg P w K mg base 8 "spoiled_word" (sp_spoiled_word K) := .fn (g_spoiled_word T) (k_spoiled_word T) (F_spoiled_word T)
end
end K5
end
section
set_option maxRecDepth 100000
set_option maxHeartbeats 2000000
/-! more rules: int dicts, dict comprehensions, len of a dict of tuples, tables as lists and tuples -/
namespace K5
open PySem PySem.Spec PyProof.Rows L2
theorem hu1 {A : Around} {k : Nat} (hr : Room k A) : A.units + 1 < cLine := by have := hu64 hr; omega
section
variable {X : Cx}
/-- len(d), d a dict whose keys are tuples -/
def rLenN (w : World) : List V → Hp → VK → Prop := fun xs H Q => ∃ d m, xs = [.ref d] ∧ DN w H d m ∧ Q (.int ((m.length : Nat) : Int)) H
theorem call_lenN : CallR X (.builtin "len") (rLenN X.w) := by
  intro pins s σ H xs us Q I r h
  obtain ⟨d, m, rfl, D, q⟩ := h
  obtain ⟨u, rfl, rx⟩ := vals1 r
  cases (show u = Value.ref d from rx)
  obtain ⟨es, e1, e2, rfl⟩ := D
  obtain ⟨⟨⟨hd, hz⟩, xs, r, o, ents, ep, h1, h2, h3, h4, h5⟩, _⟩ := (show ObjOk X.prog X.w H s.heap d (DnO X.w d es) from I.hok d _ e1)
  have hx : s.heap.DictOfH (nestedKind X.prog X.w) d xs := ⟨o, ents, ep, h1, h2, h3, h4, pr_is I.hok r e2, h5⟩
  have hl := Paired.length r
  refine call_len_dictH hd hx (by have := line63; omega) ?_
  rw [← hl]
  rw [List.length_map] at q
  exact ⟨.int _, H, I.tok _, ⟨_, rfl⟩, q⟩
/-- d.m(..), d a dict whose keys are tuples -/
def tBMN (w : World) (r : V → List V → Hp → VK → Prop) (to : TE) (t : TA) : TE := fun σ H Q => to σ H fun x H1 => (∃ d m, x = .ref d ∧ DN w H1 d m) ∧ t σ H1 fun xs H2 => r x xs H2 Q
theorem pe_bmN {o e : Expr} {es : List Expr} {to : TE} {t : TA} {name : Str} {apos cpos : Pos} {id : String} {r : V → List V → Hp → VK → Prop} (pa : PlainAttrs "dict") (slot : Slot "dict" name id) (hty : typeOf (.builtin id) = pure (.type "method_descriptor")) (hm : MtR X id r) (ho : PE X o to) (ha : PA X (e :: es) t)
    (hbase : attributeBase o name X.env (eval o X.env) = eval o X.env := by rfl)
    (hfew : ((backTo cpos (starEach (e :: es) X.env)).all (fun x => !x.1) && (backToKw cpos (keywordEach [] X.env)).all (fun x => x.1.isSome)
      && decide ((e :: es).length + ([] : List Keyword).length + (if ([] : List Keyword).isEmpty then 0 else 1) < 30)) = true := by rfl)
    (hline : (apos.endLine == cpos.line) = true := by rfl) (hs : starEach (e :: es) X.env = (false, eval e X.env) :: starEach es X.env := by rfl) (hplain : (backTo cpos (starEach es X.env)).any (·.1) = false := by rfl) :
    PE X (.Call (.Attribute o name apos) (e :: es) [] cpos) (tBMN X.w r to t) := by
  refine ⟨fun pins s σ H Q I h => ?_⟩
  refine wpAny_Call_method_late hbase hfew hline rfl (thn (ho.run pins s σ H _ I h) fun v s1 ⟨x, H1, I1, r1, ⟨d, m, ex, D⟩, q1⟩ => ?_)
  subst ex
  cases (show v = Value.ref d from r1)
  obtain ⟨ens, e1, e2, _⟩ := D
  obtain ⟨⟨_, xs, _, ob, ents, ep, h1, h2, h3, h4, h5⟩, _⟩ := (show ObjOk X.prog X.w H1 s1.heap d (DnO X.w d ens) from I1.hok d _ e1)
  refine ⟨"dict", id, pa, slot, hty, ⟨ob, h1, h2.1⟩, fun a e => ?_, ?_⟩
  · cases e
    exact ⟨ob, h1, h2.2.1⟩
  have hA := ha.run cpos pins s1 σ H1 _ I1 q1
  rw [hs] at hA ⊢
  refine Calls.callWith_builtin (by show (false || (backTo cpos (starEach es X.env)).any (·.1)) = false; rw [hplain] <;> rfl) (Calls.evalArgs_plain ?_)
  exact thn hA fun us s2 ⟨vs, H2, I2, r2, q2⟩ => hm pins s2 σ H2 (.ref d) vs _ us Q I2 rfl r2 q2
/-- dict comprehensions whose parts' readings name the written part -/
theorem pe_dcD {kx vx tg iter : Expr} {scope : Scope} {own : List (Str × Nat)} {pos : Pos} {wi : TI} {g : Blk5 TG} {tt : Blk5 TT} {tk tv : Blk5 TE} {ifs : List Expr} (s0 : Shared) (H0 : Hp) (hc : X.calm = true) (hN : X.N.Nodup) (hi : PI X tg iter wi) (ok : BlkOk X.N X.env.scope scope own)
    (hg : ∀ (s : Shared) (H : Hp) (C : Addr) (cl : List (Str × Addr)) (fp : List Addr), PG (X.blk s H scope (compEnvC scope cl C X.env) fp) tg (g s H C cl fp)) (ht : ∀ (s : Shared) (H : Hp) (C : Addr) (cl : List (Str × Addr)) (fp : List Addr), PTs (X.blk s H scope (compEnvC scope cl C X.env) fp) ifs (tt s H C cl fp))
    (hk : ∀ (s : Shared) (H : Hp) (C : Addr) (cl : List (Str × Addr)) (fp : List Addr), PE (X.blk s H scope (compEnvC scope cl C X.env) fp) kx (tk s H C cl fp))
    (hv : ∀ (s : Shared) (H : Hp) (C : Addr) (cl : List (Str × Addr)) (fp : List Addr), PE (X.blk s H scope (compEnvC scope cl C X.env) fp) vx (tv s H C cl fp))
    (eg : ∀ s H C cl fp, g s H C cl fp = g s0 H0 0 [] [] := by intros; rfl) (et : ∀ s H C cl fp, tt s H C cl fp = tt s0 H0 0 [] [] := by intros; rfl)
    (ek : ∀ s H C cl fp, tk s H C cl fp = tk s0 H0 0 [] [] := by intros; rfl) (ev : ∀ s H C cl fp, tv s H C cl fp = tv s0 H0 0 [] [] := by intros; rfl) (hs : ∀ x, foldedSetIterable iter X.env x = pure x := by intro _; rfl) :
    PE X (.DictComp kx vx [⟨tg, iter, ifs, 0⟩] scope pos) (tDc wi (g s0 H0 0 [] []) (tt s0 H0 0 [] []) (tk s0 H0 0 [] []) (tv s0 H0 0 [] []) (own.map (·.2))) :=
  pe_dc hc hN hi ok (fun s H C cl fp => eg s H C cl fp ▸ hg s H C cl fp) (fun s H C cl fp => et s H C cl fp ▸ ht s H C cl fp) (fun s H C cl fp => ek s H C cl fp ▸ hk s H C cl fp) (fun s H C cl fp => ev s H C cl fp ▸ hv s H C cl fp) hs
end
/-! ### dicts of ints -/
abbrev KI (n : Nat) : Key := .inl (n : Int)
theorem kiv (n : Nat) : kV (KI n) = V.int (n : Int) := rfl
/-- a dict of the numbers of the items of o -/
def numD (o : List Nat) (n : Nat) : List (Key × V) := (List.range n).map fun i => (KI (o.getD i 0), V.int (i : Nat))
theorem put_new {kvs : List (Key × V)} {k : Key} {v : V} (h : ∀ p ∈ kvs, p.1 ≠ k) : putK kvs k v = kvs ++ [(k, v)] := by
  unfold putK
  rw [if_neg]
  intro z
  obtain ⟨p, hp, e⟩ := List.any_eq_true.mp z
  exact h p hp (of_decide_eq_true e)
theorem ki_inj {a b : Nat} (h : KI a = KI b) : a = b := by
  have : (a : Int) = (b : Int) := Sum.inl.inj h
  omega
theorem numD_get {o : List Nat} {s n : Nat} (nd : o.Nodup) (hn : n = o.length) (h : s ∈ o) : valV (numD o n) (KI s) = some (.int (o.idxOf s : Nat)) := by
  subst hn
  unfold valV
  have hl := List.idxOf_lt_length_iff.mpr h
  have hm : (KI s, V.int (o.idxOf s : Nat)) ∈ numD o o.length := List.mem_map.mpr ⟨o.idxOf s, List.mem_range.mpr hl, by rw [getD_of (idx_get h)]⟩
  cases e : (numD o o.length).find? (fun kv => decide (kv.1 = KI s)) with
  | none =>
    have := List.find?_eq_none.mp e _ hm
    simp at this
  | some p =>
    have h1 := List.mem_of_find?_eq_some e
    have h2 := List.find?_some e
    obtain ⟨i, hi, rfl⟩ := List.mem_map.mp h1
    rw [List.mem_range] at hi
    have e3 : o.getD i 0 = s := ki_inj (of_decide_eq_true h2)
    have := idx_of nd ((getD_some hi).trans (congrArg some e3))
    rw [← this]
    rfl
theorem numD_put {o : List Nat} {s i : Nat} (nd : o.Nodup) (h : o[i]? = some s) : putK (numD o i) (KI s) (.int (i : Nat)) = numD o (i + 1) := by
  have hi := (List.getElem?_eq_some_iff.mp h).1
  rw [put_new fun p hp => ?_]
  · unfold numD
    rw [List.range_succ, List.map_append, List.map_singleton, getD_of h]
  · obtain ⟨j, hj, rfl⟩ := List.mem_map.mp hp
    rw [List.mem_range] at hj
    intro z
    have e := ki_inj z
    have := nd_inj nd ((getD_some (show j < o.length by omega)).trans (congrArg some e)) h
    omega
/-- a dict that tells what was seen -/
def seenD (o : List Nat) : List (Key × V) := o.map fun s => (KI s, V.bl true)
theorem seenD_get {o : List Nat} {s : Nat} : (valV (seenD o) (KI s)).isSome = decide (s ∈ o) := by
  rw [Bool.eq_iff_iff, decide_eq_true_iff]
  unfold valV seenD
  rw [Option.isSome_map, List.find?_isSome]
  constructor
  · rintro ⟨x, hx, e⟩
    obtain ⟨y, hy, rfl⟩ := List.mem_map.mp hx
    rw [← ki_inj (of_decide_eq_true e)]
    exact hy
  · intro h
    exact ⟨_, List.mem_map.mpr ⟨s, h, rfl⟩, decide_eq_true rfl⟩
theorem seenD_put {o : List Nat} {s : Nat} (h : s ∉ o) : putK (seenD o) (KI s) (.bl true) = seenD (o ++ [s]) := by
  rw [put_new fun p hp => ?_]
  · unfold seenD
    rw [List.map_append]
    rfl
  · obtain ⟨t, ht, rfl⟩ := List.mem_map.mp hp
    exact fun z => h (ki_inj z ▸ ht)
section
variable {J : It} {n : Nat} {G : Hp → Prop} {Y : Nat → Hp → V → Hp → Prop} {g : TG} {tt : TT} {tk tv : TE} {vs : List Nat} {σ : L2.St} {H1 : Hp} {D : Addr} {Qd : Hp → Prop}
/-- a dict comprehension over it: Pv by the turn and the heap -/
theorem dc_it (w : Walk J n G Y) (Pv : Nat → Hp → Prop) (h0 : Pv 0 (upd H1 D (.dK []))) (hG : ∀ i H, i ≤ n → Pv i H → G H)
    (hs : ∀ i x H H', i < n → Pv i H → Y i H x H' → g x (wipe σ vs) H' fun σ2 H2 => wipe σ2 vs = wipe σ vs ∧ tk σ2 H2 fun y H4 => tv σ2 H4 fun z H5 => ∃ kvs k, y = kV k ∧ H5 D = some (.dK kvs) ∧ kvs.length < sizeLine ∧ Pv (i + 1) (upd H5 D (.dK (putK kvs k z)))) (hd : ∀ H, Pv n H → Qd H) :
    ∃ W : Nat → Nat → Hp → Prop, (∃ m, W 0 m (upd H1 D (.dK []))) ∧ ∀ i m H, W i m H →
      (J.stop i H ∧ Qd H) ∨ (J.go i H ∧ ∃ Nx : Hp → Prop, (∀ H', Nx H' → ∃ m', m' < m ∧ W (i + 1) m' H') ∧ ∀ x H', J.yld i H x H' → g x (wipe σ vs) H' fun σ2 H2 => wipe σ2 vs = wipe σ vs ∧ tYes σ2 H2 fun b H3 =>
        if b = true then tk σ2 H3 fun y H4 => tv σ2 H4 fun z H5 => ∃ kvs k, y = kV k ∧ H5 D = some (.dK kvs) ∧ kvs.length < sizeLine ∧ Nx (upd H5 D (.dK (putK kvs k z))) else Nx H3) := by
  refine ⟨fun i m H => m = n - i ∧ i ≤ n ∧ Pv i H, ⟨n, by simp, Nat.zero_le _, h0⟩, ?_⟩
  rintro i m H ⟨rfl, hi, p⟩
  have q := hG i H hi p
  by_cases hlt : i < n
  · refine .inr ⟨w.goes i H hlt q, Pv (i + 1), fun H' p' => ⟨n - (i + 1), by omega, rfl, hlt, p'⟩, fun x H' y => ?_⟩
    simp only [tYes, ↓reduceIte]
    exact hs i x H H' hlt p (w.yields i H x H' hlt q y)
  · have e : i = n := by omega
    subst e
    exact .inl ⟨w.stops H q, hd H p⟩
end
section
variable {J : It} {n : Nat} {G : Hp → Prop} {Y : Nat → Hp → V → Hp → Prop} {g : TG} {tt : TT} {te : TE} {vs : List Nat} {σ : L2.St} {H1 : Hp} {D : Addr} {Qd : Hp → Prop}
/-- each item gives one value, what stood stands; the values may be lists -/
theorem lc_eachP (w : Walk J n G Y) (R : Nat → V → Hp → Prop) (mono : ∀ i v H H', SameP D H H' → R i v H → R i v H') (h0 : H1 D = none) (hn : n < sizeLine) (hG : ∀ H, Same H1 H → G H) (hY : ∀ i x H H', Y i H x H' → Same H H')
    (hs : ∀ i x H H', i < n → Same H1 H → Same H1 H' → Y i H x H' → (∃ acc, H' D = some (.lst acc)) → ∀ k : Hp → Prop, (∀ H4 y, Same H' H4 → R i y H4 → ∃ acc, H4 D = some (.lst acc) ∧ acc.length < sizeLine ∧ k (upd H4 D (.lst (acc ++ [y])))) →
      g x (wipe σ vs) H' fun σ2 H2 => wipe σ2 vs = wipe σ vs ∧ te σ2 H2 fun y H4 => ∃ acc, H4 D = some (.lst acc) ∧ acc.length < sizeLine ∧ k (upd H4 D (.lst (acc ++ [y]))))
    (hd : ∀ H acc, Same H1 H → H D = some (.lst acc) → acc.length = n → (∀ i v, acc[i]? = some v → R i v H) → Qd H) : LcGoal J g tYes te vs σ H1 D Qd := by
  have sD : ∀ {H H' : Hp} {o}, Same H1 H → Same H H' → Same H1 (upd H' D o) := fun {H H' o} s s' a u e => by
    rw [upd_ne (ne_of_none e h0)]
    exact s' _ _ (s _ _ e)
  refine lc_it w (fun i H => ∃ acc, H D = some (.lst acc) ∧ Same H1 H ∧ acc.length = i ∧ ∀ j v, acc[j]? = some v → R j v H) ⟨[], upd_same, Same.new h0, rfl, fun j v e => by simp at e⟩ ?_ ?_ ?_
  · rintro i H _ ⟨acc, hD, s, _⟩
    exact hG _ s
  · rintro i x H H' hi ⟨acc, hD, s, hl, hR⟩ y
    have sY := hY _ _ _ _ y
    simp only [tYes, ↓reduceIte]
    refine hs i x _ _ hi s (str s sY) y ⟨acc, sY _ _ hD⟩ (fun H => ∃ acc, H D = some (.lst acc) ∧ Same H1 H ∧ acc.length = i + 1 ∧ ∀ j v, acc[j]? = some v → R j v H) fun H4 v s4 r4 => ?_
    have hD4 : H4 D = some (.lst acc) := s4 _ _ (sY _ _ hD)
    refine ⟨acc, hD4, by omega, acc ++ [v], upd_same, sD s (str sY s4), by simp [hl], fun j u e => ?_⟩
    rcases Nat.lt_or_ge j acc.length with hj | hj
    · rw [List.getElem?_append_left hj] at e
      exact mono _ _ _ _ (spt (sps (str sY s4)) spu) (hR j u e)
    · rw [List.getElem?_append_right hj] at e
      obtain ⟨z, e⟩ := List.getElem?_eq_some_iff.mp e
      simp at e z
      have ej : j = i := by omega
      subst e ej
      exact mono _ _ _ _ spu r4
  · rintro H ⟨acc, hD, s, hl, hR⟩
    exact hd _ acc s hD hl hR
end
/-! ### the scopes of comprehensions -/
def lcSc (d : Scope) : Expr → Scope
  | .ListComp _ _ sc _ => sc
  | _ => d
def argE : Expr → Expr
  | .Call _ (a :: _) _ _ => a
  | e => e
def tupE (i : Nat) : Expr → Expr
  | .Tuple es _ _ => es.getD i (.Constant .none 0 ⟨0, 0, 0, 0⟩)
  | e => e
def valE : Stmt → Expr
  | .Assign _ v _ => v
  | .Return (some v) _ => v
  | _ => .Constant .none 0 ⟨0, 0, 0, 0⟩
/-! ### tables in the heap -/
section
variable {H H' : Hp} {a t : Addr} {B : Tab}
/-- the rows: a list of lists -/
def RwL (H : Hp) (a : Addr) (rows : List (List Nat)) : Prop := ∃ rs : List Addr, H a = some (.lst (rs.map V.ref)) ∧ rs.length = rows.length ∧ ∀ (i : Nat) r row, rs[i]? = some r → rows[i]? = some row → H r = some (.lst (ni row))
/-- the rows: a tuple of tuples -/
def RwT (H : Hp) (a : Addr) (rows : List (List Nat)) : Prop := ∃ rs : List Addr, H a = some (.tup (rs.map V.ref)) ∧ rs.length = rows.length ∧ ∀ (i : Nat) r row, rs[i]? = some r → rows[i]? = some row → H r = some (.tup (ni row))
theorem RwL.mono {rows : List (List Nat)} (s : Same H H') (h : RwL H a rows) : RwL H' a rows := let ⟨rs, e1, e2, e3⟩ := h; ⟨rs, s _ _ e1, e2, fun i r row h1 h2 => s _ _ (e3 i r row h1 h2)⟩
theorem RwT.mono {rows : List (List Nat)} (s : SameN H H') (h : RwT H a rows) : RwT H' a rows := let ⟨rs, e1, e2, e3⟩ := h; ⟨rs, s _ _ e1 rfl, e2, fun i r row h1 h2 => s _ _ (e3 i r row h1 h2) rfl⟩
theorem RwL.row {s : Nat} (h : RwL H a B.rows) (hs : s < B.n) : ∃ (rs : List Addr) (r : Addr), H a = some (.lst (rs.map V.ref)) ∧ (rs.map V.ref)[s]? = some (.ref r) ∧ H r = some (.lst (ni (B.rows.getD s []))) := by
  obtain ⟨rs, e1, e2, e3⟩ := h
  have h1 : rs[s]? = some (rs[s]'(by rw [e2]; exact hs)) := List.getElem?_eq_getElem _
  have h2 : B.rows[s]? = some (B.rows.getD s []) := by rw [List.getD_eq_getElem?_getD, List.getElem?_eq_getElem (show s < B.rows.length from hs)]; rfl
  exact ⟨rs, _, e1, by rw [List.getElem?_map, h1]; rfl, e3 s _ _ h1 h2⟩
theorem RwT.row {s : Nat} (h : RwT H a B.rows) (hs : s < B.n) : ∃ (rs : List Addr) (r : Addr), H a = some (.tup (rs.map V.ref)) ∧ (rs.map V.ref)[s]? = some (.ref r) ∧ H r = some (.tup (ni (B.rows.getD s []))) := by
  obtain ⟨rs, e1, e2, e3⟩ := h
  have h1 : rs[s]? = some (rs[s]'(by rw [e2]; exact hs)) := List.getElem?_eq_getElem _
  have h2 : B.rows[s]? = some (B.rows.getD s []) := by rw [List.getD_eq_getElem?_getD, List.getElem?_eq_getElem (show s < B.rows.length from hs)]; rfl
  exact ⟨rs, _, e1, by rw [List.getElem?_map, h1]; rfl, e3 s _ _ h1 h2⟩
end
end K5
end
section
set_option maxRecDepth 100000
set_option maxHeartbeats 2000000
/-! automata: promises and walks -/
namespace K5
open PySem PySem.Spec PyProof.Rows L2
section
variable {P : Program} {K : PySem.W.Frag} {mg : Str → Option Value}
def sp_reached (K : PySem.W.Frag) : Sp := fun vs H Q E => ∃ (a : Addr) (k : Nat) (B : Tab), vs = [.ref a] ∧ RwL H a B.rows ∧ TabOk k B ∧ B.n ≤ 60 ∧ ∀ (p : Addr) (o : List Nat) H', H p = none → Same H H' → H' p = some (.lst (ni o)) → Ordr k B o → Q (.ref p) H'
theorem F_reached {w : World} {base : Heap} (T : Tx P K mg) : FnR P w K mg base CX0 1 (a_reached K) (sp_reached K) := by
  refine fnr (f_reached T) sc_reached (fun vs H Q E h => by obtain ⟨_, _, _, rfl, _⟩ := h; rfl) (fun _ _ _ _ _ _ us hl => match us, hl with | [_], _ => rfl) fun cdv A outer s H vs Q E hr h => ?_
  refine ⟨_, (pss_cons (ps_set (i := 1) sc_reached.nd rfl (Or.inl rfl) (pe_lst (pa_cons pe_int pa_nil)))
  (pss_cons (ps_set (i := 2) sc_reached.nd rfl (Or.inl rfl) (pe_disp (trs := [(_, _)]) (pps_cons pe_int pe_bl pps_nil) rfl rfl (by decide) (by decide)))
  (pss_cons (ps_set (i := 3) sc_reached.nd rfl (Or.inl rfl) pe_int)
  (pss_cons (ps_while PassesOwn.never (pt_cmpR op_lt (pv 3) (pe_callB call_len_seq rfl (e_len T) boot_len (pa_cons (pv 1) pa_nil)) (by first | rfl | exact nomark _ | exact nobehind _ (by decide) (by decide)))
  (pss_cons (ps_for PassesOwn.never rfl (pi_list (pe_ix ix_list (pv 0) (pe_ix ix_list (pv 1) (pv 3) (fun _ _ => rfl)) (fun _ _ => rfl))) (pg_name (i := 4) sc_reached.nd rfl (Or.inl rfl))
  (pss_one (ps_if (pt_cmp (pc_dnotin (hu1 hr) (pv 4) (pv 2))) (pss_cons (ps_dput (hu1 hr) (pv 2) (pv 4) pe_bl rfl)
  (pss_one (ps_expr (pe_bm PySem.F.plainAttrs_list PySem.F.slot_list_append PySem.F.type_list_append mt_append (pv 1) (pa_cons (pv 4) pa_nil))))) pss_nil)))
  (pss_one (ps_aug (i := 3) sc_reached.nd rfl (Or.inl rfl) pe_int ip_add))))
  (pss_one (ps_ret (pv 1))))))), ?_⟩
  obtain ⟨a, k, B, rfl, hw, ok, h60, q⟩ := h
  have sz : 1000 ≤ sizeLine := by decide
  refine ⟨Nat.le_of_ble_eq_true rfl, fun op hop => fun sp hsp => ⟨upd_same, [(KI 0, .bl true)], rfl, by decide, ?_⟩⟩
  have hsp0 : H sp = none := snone (Same.new hop) hsp
  have hop1 := uo (u := .dK []) (upd_same (H := H) (a := op) (o := .lst [.int 0])) hsp
  have nos : op ≠ sp := ne_of_none upd_same hsp
  refine ⟨fun m σ H' => ∃ (o : List Nat) (i : Nat) (u : Option V), σ = [some (.ref a), some (.ref op), some (.ref sp), some (.int (i : Nat)), u] ∧ Same H H' ∧ H' op = some (.lst (ni o)) ∧ H' sp = some (.dK (seenD o)) ∧ Found k B o i 0 ∧ m = 61 - i, ⟨_, [0], 0, _, rfl, Same.mut (str (Same.new hop) (Same.new hsp)) hsp0, un' nos hop1, upd_same, Found.start, rfl⟩, ?_⟩
  rintro m σ H1 ⟨o, i, u, rfl, s1, e1, e2, hf, rfl⟩
  have hl := hf.len ok
  refine ⟨_, rfl, _, rfl, op, _, rfl, .inl (SqL.of e1), _, _, rfl, rfl, _, rfl, ifp (p := i < o.length) ?_ (fun hi => ?_) fun hi => ?_⟩
  · rw [decide_eq_true_iff, ni_len]
    omega
  · have hs : o[i]? = some o[i] := List.getElem?_eq_getElem hi
    have hsl : o[i] < B.n := hf.low ok _ (List.getElem_mem hi)
    generalize o[i] = s at hs hsl
    obtain ⟨rs, r, f1, f2, f3⟩ := hw.row hsl
    refine ⟨fun σ' H' => ∃ (o : List Nat) (u : Option V), σ' = [some (.ref a), some (.ref op), some (.ref sp), some (.int ((i + 1 : Nat) : Int)), u] ∧ Same H H' ∧ H' op = some (.lst (ni o)) ∧ H' sp = some (.dK (seenD o)) ∧ Found k B o (i + 1) 0, fun σ' H' ⟨o', u', h1, h2, h3, h4, h5⟩ => ⟨_, by omega, o', i + 1, u', h1, h2, h3, h4, h5, rfl⟩, ?_⟩
    refine ⟨_, rfl, _, rfl, _, rfl, op, _, _, _, rfl, rfl, SqL.of e1, atI_nat (ni_get hs), a, _, _, _, rfl, rfl, SqL.of (s1 _ _ f1), atI_nat f2, r, rfl, ⟨_, SqL.of (s1 _ _ f3)⟩, for_list (xs := ni (B.rows.getD s [])) (fun j σ' H' => ∃ (o : List Nat) (u : Option V), σ' = [some (.ref a), some (.ref op), some (.ref sp), some (.int (i : Nat)), u] ∧ Same H H' ∧ H' op = some (.lst (ni o)) ∧ H' sp = some (.dK (seenD o)) ∧ Found k B o i j ∧ o[i]? = some s) ⟨o, _, rfl, s1, e1, e2, hf, hs⟩ (fun j σ' H' _ ⟨_, _, _, h, _⟩ => SqL.of (h _ _ f3)) ?_ ?_⟩
    · rintro j x σ' H2 hx ⟨o', u', rfl, s2, g1, g2, hf', hs'⟩
      obtain ⟨n, hn, rfl⟩ := ni_of hx
      have hr : B.rows.getD s [] ∈ B.rows := getD_mem hsl
      have hj : j < k := by rw [← ok.wide _ hr]; exact (List.getElem?_eq_some_iff.mp hn).1
      have en : B.st s j = n := by have := row_get ok hsl hj; rw [hn] at this; exact (Option.some.inj this).symm
      subst en
      have hl' := hf'.len ok
      refine ⟨_, rfl, _, rfl, sp, _, rfl, DGet.k (k := KI (B.st s j)) g2, _, rfl, ifp (p := B.st s j ∉ o') ?_ (fun hn => ?_) fun hn => ?_⟩
      · rw [seenD_get]
        simp
      · refine ⟨_, rfl, _, rfl, sp, _, rfl, DPut.k (k := KI (B.st s j)) g2 (by unfold seenD; rw [List.length_map]; omega), ?_⟩
        have g1' := un' (u := .dK (putK (seenD o') (KI (B.st s j)) (.bl true))) nos g1
        refine ⟨_, rfl, .inl ⟨rfl, _, SqL.of g1'⟩, _, rfl, op, _, _, rfl, rfl, g1', by rw [ni_len]; omega, ?_⟩
        refine ⟨o' ++ [B.st s j], _, rfl, Same.mut (Same.mut s2 hsp0) hop, ?_, ?_, hf'.fresh hj hs' hn, by rw [List.getElem?_append_left (List.getElem?_eq_some_iff.mp hs').1]; exact hs'⟩
        · rw [upd_same]
          unfold ni
          rw [List.map_append]
          rfl
        · rw [upd_ne nos.symm, upd_same, seenD_put hn]
      · exact ⟨o', _, rfl, s2, g1, g2, hf'.old hs' (Classical.not_not.mp hn), hs'⟩
    · rintro σ' H2 ⟨o', u', rfl, s2, g1, g2, hf', hs'⟩
      have hr : B.rows.getD s [] ∈ B.rows := getD_mem hsl
      rw [ni_len, ok.wide _ hr] at hf'
      exact ⟨_, rfl, _, _, rfl, rfl, o', _, rfl, s2, g1, g2, hf'.row⟩
  · exact ⟨_, rfl, q op o H1 hop s1 e1 (hf.fin (by omega))⟩
theorem cg_reached {w : World} {base : Heap} (T : Tx P K mg) : Cg P w K mg base 1 "reached" (sp_reached K) := .fn (g_reached T) (k_reached T) (F_reached T)
abbrev csc_numbered : Scope := { kind := .function, names := [(".0", .local), ("state", .local), ("tuple", .globalImplicit), ("number", .cell), ("steps", .cell)], isGenerator := false, isCoroutine := false }
def sp_numbered (K : PySem.W.Frag) : Sp := fun vs H Q E => ∃ (a t : Addr) (k : Nat) (B : Tab), vs = [.ref a, .ref t] ∧ RwL H a B.rows ∧ H t = some (.lst (B.told.map V.bl)) ∧ TabOk k B ∧ k ≤ 4 ∧ B.n ≤ 60 ∧
  ∀ (p pr pt : Addr) (o : List Nat) H', Same H H' → Ordr k B o → H' p = some (.tup [.ref pr, .ref pt]) → RwT H' pr (B.sel o).rows → H' pt = some (.tup ((B.sel o).told.map V.bl)) → Q (.ref p) H'
theorem F_numbered {w : World} {base : Heap} (T : Tx P K mg) : FnR P w K mg base CX0 2 (a_numbered K) (sp_numbered K) := by
  refine fnr (f_numbered T) sc_numbered (fun vs H Q E h => by obtain ⟨_, _, _, _, rfl, _⟩ := h; rfl) (fun _ _ _ _ _ _ us hl => match us, hl with | [_, _], _ => rfl) fun cdv A outer s H vs Q E hr h => ?_
  refine ⟨_, (pss_cons (ps_set (i := 2) sc_numbered.nd rfl (Or.inl rfl) (pe_g (cg_reached T) (hr.mono (by decide)) (pa_cons (pv 0) pa_nil)))
  (pss_cons (ps_set (i := 3) sc_numbered.nd rfl (Or.inr rfl) (pe_dcD (own := [("at", 5), ("state", 6)]) s H rfl sc_numbered.nd (pi_enum rfl (e_enumerate T) (pa_cons (pv 2) pa_nil)) (blkOk_by (N := n_numbered) (sc := defScope s_numbered) (by decide +kernel)) (fun _ _ _ _ _ => (pg_tup rfl (pgs_cons (pg_name (i := 5) sc_numbered.nd rfl (Or.inl rfl)) (pgs_cons (pg_name (i := 6) sc_numbered.nd rfl (Or.inl rfl)) pgs_nil)))) (fun _ _ _ _ _ => pts_nil) (fun _ _ _ _ _ => (pv 6)) (fun _ _ _ _ _ => (pv 5))))
  (pss_cons (ps_set (i := 4) sc_numbered.nd rfl (Or.inl rfl) (pe_callTy call_tuple_of rfl (e_tuple T) boot_tuple (pa_cons (pe_lcD (own := [("state", 6)]) s H rfl sc_numbered.nd (pi_list (pv 2)) (blkOk_by (N := n_numbered) (sc := defScope s_numbered) (by decide +kernel)) (fun _ _ _ _ _ => (pg_name (i := 6) sc_numbered.nd rfl (Or.inl rfl))) (fun _ _ _ _ _ => pts_nil) (fun _ _ _ _ _ => (pe_callTy call_tuple_of rfl (e_tuple T) boot_tuple (pa_cons (pe_lcD (own := [("later", 7)]) s H rfl sc_numbered.nd (pi_list (pe_ix ix_list (pv 0) (pv 6) (fun _ _ => rfl))) (blkOk_by (N := n_numbered) (sc := csc_numbered) (by decide +kernel)) (fun _ _ _ _ _ => (pg_name (i := 7) sc_numbered.nd rfl (Or.inl rfl))) (fun _ _ _ _ _ => pts_nil) (fun _ _ _ _ _ => (pe_dget (hu1 hr) (pv 3) (pv 7) (fun _ _ => rfl)))) pa_nil)))) pa_nil)))
  (pss_one (ps_ret (pe_tup (pa_cons (pv 4) (pa_cons (pe_callTy call_tuple_of rfl (e_tuple T) boot_tuple (pa_cons (pe_lcD (own := [("state", 6)]) s H rfl sc_numbered.nd (pi_list (pv 2)) (blkOk_by (N := n_numbered) (sc := defScope s_numbered) (by decide +kernel)) (fun _ _ _ _ _ => (pg_name (i := 6) sc_numbered.nd rfl (Or.inl rfl))) (fun _ _ _ _ _ => pts_nil) (fun _ _ _ _ _ => (pe_ix ix_list (pv 1) (pv 6) (fun _ _ => rfl)))) pa_nil)) pa_nil)))))))), ?_⟩
  obtain ⟨a, t, k, B, rfl, hw, ht, ok, k4, h60, q⟩ := h
  have sz : 1000 ≤ sizeLine := by decide
  refine ⟨_, rfl, a, k, B, rfl, hw, ok, h60, fun op o H1 hop s1 e1 ho => ?_⟩
  have hol : o.length ≤ 60 := Nat.le_trans (nodup_len _ _ ho.nd (ho.low ok)) h60
  refine ⟨_, rfl, op, _, rfl, SqL.of e1, fun D hD => dc_it walk_enum (fun i H' => Same H1 H' ∧ H' D = some (.dK (numD o i))) ⟨Same.new hD, upd_same⟩ (fun i H' _ h => SqL.of (h.1 _ _ e1)) (fun i x H2 H3 hi h y => ?_) fun H2 ⟨s2, e2⟩ => ?_⟩
  · obtain ⟨s2, e2⟩ := h
    obtain ⟨T2, y1, y2, rfl, hT2, rfl, e1', e2'⟩ := y
    obtain ⟨s, hs, rfl⟩ := ni_of e2'
    cases e1'
    have s3 := str s2 (Same.new (o := .tup [.int (i : Nat), .int (s : Int)]) hT2)
    refine ⟨_, _, rfl, SqT.of upd_same, rfl, _, _, rfl, _, _, rfl, rfl, rfl, _, rfl, _, rfl, numD o i, KI s, rfl, uo e2 hT2, by unfold numD; rw [List.length_map, List.length_range]; rw [ni_len] at hi; omega, Same.mut s3 hD, ?_⟩
    rw [upd_same, numD_put ho.nd hs]
  rw [ni_len] at e2
  have sA := str s1 s2
  have eo := s2 _ _ e1
  refine ⟨_, rfl, op, rfl, ⟨_, SqL.of eo⟩, fun D1 hD1 => lc_each (walk_list (xs := ni o)) (fun i v H' => ∃ r s, v = .ref r ∧ o[i]? = some s ∧ H' r = some (.tup (ni ((B.rows.getD s []).map fun t => o.idxOf t)))) (fun i v H H' s ⟨r, u, h1, h2, h3⟩ => ⟨r, u, h1, h2, s _ _ h3 rfl⟩) hD1 (small1000 (by rw [ni_len]; omega)) (fun H s => SqL.of (s _ _ eo)) yat_same (fun i x H3 H4 hi s3 s4 y kn kk => ?_) fun H3 acc s3 hD3 hla hR => ?_⟩
  · obtain ⟨rfl, hx⟩ := y
    obtain ⟨s, hs, rfl⟩ := ni_of hx
    have hsl := ho.low ok s (List.mem_of_getElem? hs)
    obtain ⟨rs, r, f1, f2, f3⟩ := hw.row hsl
    have sB := str sA s4
    have hr : B.rows.getD s [] ∈ B.rows := getD_mem hsl
    refine ⟨rfl, _, rfl, _, rfl, a, _, _, _, rfl, rfl, SqL.of (sB _ _ f1), atI_nat f2, r, rfl, ⟨_, SqL.of (sB _ _ f3)⟩, fun D2 hD2 => lc_each (walk_list (xs := ni (B.rows.getD s []))) (fun j v _ => ∃ n, ((B.rows.getD s []).map fun t => o.idxOf t)[j]? = some n ∧ v = .int (n : Nat)) (fun _ _ _ _ _ h => h) hD2 ?_ (fun H s => SqL.of (s _ _ (sB _ _ f3))) yat_same (fun j x H5 H6 hj s5 s6 y k2 kk2 => ?_) fun H5 acc2 s5 hD5 hla2 hR2 => ?_⟩
    · rw [ni_len, ok.wide _ hr]
      exact small1000 (by omega)
    · obtain ⟨rfl, hx⟩ := y
      obtain ⟨n, hn, rfl⟩ := ni_of hx
      have hj2 := (List.getElem?_eq_some_iff.mp hn).1
      rw [ok.wide _ hr] at hj2
      have en : B.st s j = n := by have := row_get ok hsl hj2; rw [hn] at this; exact (Option.some.inj this).symm
      have hm : n ∈ o := en ▸ ho.clo s (List.mem_of_getElem? hs) j hj2
      exact ⟨rfl, _, rfl, _, rfl, D, _, rfl, numD_get ho.nd rfl hm ▸ DGet.k (k := KI n) (s6 _ _ (s4 _ _ e2)), kk2 _ _ (srf _) ⟨_, by rw [List.getElem?_map, hn]; rfl, rfl⟩⟩
    · refine ⟨D2, _, rfl, .inl ⟨SqL.of hD5, fun tt htt => kk _ _ (str s5 (Same.new htt)) ⟨tt, s, rfl, hs, ?_⟩⟩⟩
      rw [upd_same, map_range (f := fun n : Nat => V.int (n : Int)) hR2 (by rw [hla2, ni_len, List.length_map])]
      rfl
  obtain ⟨cs, rfl, hcs⟩ := refs_of (R := fun i r => ∃ s, o[i]? = some s ∧ H3 r = some (.tup (ni ((B.rows.getD s []).map fun t => o.idxOf t)))) fun i v e => let ⟨r, s, h1, h2, h3⟩ := hR i v e; ⟨r, h1, s, h2, h3⟩
  rw [List.length_map, ni_len] at hla
  refine ⟨D1, _, rfl, .inl ⟨SqL.of hD3, fun pr hpr => ?_⟩⟩
  have sB := str sA (str s3 (Same.new (o := .tup (cs.map V.ref)) hpr))
  have s13 := str s2 (str s3 (Same.new (o := .tup (cs.map V.ref)) hpr))
  have hrw : RwT (upd H3 pr (.tup (cs.map V.ref))) pr (B.sel o).rows := by
    refine ⟨cs, upd_same, by rw [hla]; exact (List.length_map _).symm, fun i r row h1 h2 => ?_⟩
    obtain ⟨s, hs, e⟩ := hcs i r h1
    have h2 : (o.map fun s => (B.rows.getD s []).map fun t => o.idxOf t)[i]? = some row := h2
    rw [List.getElem?_map, hs] at h2
    cases h2
    exact uo e hpr
  generalize upd H3 pr (.tup (cs.map V.ref)) = H4 at sB s13 hrw
  have eo4 := s13 _ _ e1
  refine ⟨_, rfl, _, rfl, op, rfl, ⟨_, SqL.of eo4⟩, fun D3 hD3' => lc_each (walk_list (xs := ni o)) (fun i v H' => ∃ s, o[i]? = some s ∧ v = .bl (B.at_ s)) (fun _ _ _ _ _ h => h) hD3' (small1000 (by rw [ni_len]; omega)) (fun H s => SqL.of (s _ _ eo4)) yat_same (fun i x H5 H6 hi s5 s6 y k2 kk => ?_) fun H5 acc s5 hD5 hla5 hR5 => ?_⟩
  · obtain ⟨rfl, hx⟩ := y
    obtain ⟨s, hs, rfl⟩ := ni_of hx
    exact ⟨rfl, _, rfl, _, rfl, t, _, _, _, rfl, rfl, SqL.of (s6 _ _ (sB _ _ ht)), atI_nat (at_of ok (ho.low ok s (List.mem_of_getElem? hs))), kk _ _ (srf _) ⟨s, hs, rfl⟩⟩
  · have ea : acc = (o.map B.at_).map V.bl := by
      rw [List.map_map]
      exact map_range (f := V.bl ∘ B.at_) hR5 (by rw [hla5, ni_len])
    refine ⟨D3, _, rfl, .inl ⟨SqL.of hD5, fun pt hpt => ⟨Nat.le_of_ble_eq_true rfl, fun p hp => ?_⟩⟩⟩
    have s6 := str s5 (str (Same.new (o := .tup acc) hpt) (Same.new (o := .tup [.ref pr, .ref pt]) hp))
    exact q p pr pt o _ (str sB s6) ho upd_same (hrw.mono (sn s6)) (uo (by rw [upd_same, ea]; rfl) hp)
theorem cg_numbered {w : World} {base : Heap} (T : Tx P K mg) : Cg P w K mg base 2 "numbered" (sp_numbered K) := .fn (g_numbered T) (k_numbered T) (F_numbered T)
/-- len(set(xs)) -/
theorem setlen {w : World} {H : Hp} {l : Addr} {L : List Nat} {k : VK} (hl : SqL K H l (ni L)) (hlen : L.length ≤ 4000)
    (q : ∀ (ks : List Nat) H', ks.Nodup → (∀ x, x ∈ ks ↔ x ∈ L) → Same H H' → k (.int (ks.length : Nat)) H') : rSetOf K w [.ref l] H fun x H2 => rLenSet w [x] H2 k := by
  refine ⟨l, L.map fun n : Nat => (n : Int), rfl, by rw [← ni_int]; exact .inl hl, by rw [List.length_map]; exact hlen, fun ks p nd hk hp => ?_⟩
  have hk' : ∀ k ∈ ks, ∃ t : Nat, t ∈ L ∧ (t : Int) = k := fun k h => by
    obtain ⟨t, ht, e⟩ := List.mem_map.mp ((hk k).mp h)
    exact ⟨t, ht, e⟩
  have e : (ks.map Int.toNat).length = ks.length := List.length_map _
  have hmem : ∀ x, x ∈ ks.map Int.toNat ↔ x ∈ L := fun x => by
    constructor
    · intro h
      obtain ⟨b, hb, rfl⟩ := List.mem_map.mp h
      obtain ⟨t, ht, rfl⟩ := hk' b hb
      simpa using ht
    · intro h
      exact List.mem_map.mpr ⟨(x : Int), (hk _).mpr (List.mem_map.mpr ⟨x, h, rfl⟩), by simp⟩
  have hnd : (ks.map Int.toNat).Nodup := by
    refine List.Pairwise.map _ ?_ (List.Pairwise.and_mem.mp nd)
    rintro a b ⟨ha, hb, ne⟩ z
    obtain ⟨t, _, rfl⟩ := hk' a ha
    obtain ⟨u, _, rfl⟩ := hk' b hb
    simp at z
    exact ne (by rw [z])
  have h4 := nodup_sub hnd fun a ha => (hmem a).mp ha
  have qq := q (ks.map Int.toNat) _ hnd hmem (Same.new (o := SetO w p (fun j => decide (j ∈ ks)) ks.length) hp)
  rw [e] at qq
  exact ⟨p, ks.length, rfl, by omega, .inl ⟨_, upd_same⟩, qq⟩
/-- the keys known, each with its number -/
def kkey (x : Nat × List Nat) : NestedKey := .tup [.num (x.1 : Int), .tup (x.2.map fun n : Nat => .num (n : Int))]
theorem numk_inj : ∀ {l m : List Nat}, (l.map fun n : Nat => NestedKey.num (n : Int)) = m.map (fun n : Nat => NestedKey.num (n : Int)) → l = m
  | [], [], _ => rfl
  | [], _ :: _, h => nomatch h
  | _ :: _, [], h => nomatch h
  | a :: l, b :: m, h => by
    rw [List.map_cons, List.map_cons] at h
    injection h with g1 g2
    injection g1 with g1
    rw [numk_inj g2, show a = b by omega]
theorem kkey_inj {x y : Nat × List Nat} (h : kkey x = kkey y) : x = y := by
  unfold kkey at h
  simp only [NestedKey.tup.injEq, List.cons.injEq, NestedKey.num.injEq, and_true] at h
  obtain ⟨h1, h2⟩ := h
  obtain ⟨a, l⟩ := x
  obtain ⟨b, m⟩ := y
  have e1 : a = b := by have : (a : Int) = (b : Int) := h1; omega
  have e2 : l = m := numk_inj h2
  rw [e1, e2]
theorem kkey_depth (x : Nat × List Nat) : (kkey x).depth ≤ 8 := by
  have h : NestedKey.depthAll (x.2.map fun n : Nat => NestedKey.num (n : Int)) = 0 := by
    have := depth_ints (x.2.map fun n : Nat => (n : Int))
    rw [List.map_map] at this
    exact this
  unfold kkey
  simp only [NestedKey.depth, NestedKey.depthAll, h]
  decide
theorem kkey_h {H : Hp} {e tl : Addr} {x : Nat × List Nat} (h1 : H e = some (.tup [.int (x.1 : Int), .ref tl])) (h2 : H tl = some (.tup (ni x.2))) : KeyH H (kkey x) (.ref e) := by
  refine .tup h1 (.cons (.int _) (.cons (.tup h2 ?_) .nil))
  have := keysH_ints (H := H) (x.2.map fun n : Nat => (n : Int))
  rw [List.map_map] at this
  rw [ni_int]
  exact this
def knD (kn : List (Nat × List Nat)) : List (NestedKey × V) := (List.range kn.length).map fun j => (kkey (kn.getD j (0, [])), V.int (j : Nat))
theorem knD_len {kn : List (Nat × List Nat)} : (knD kn).length = kn.length := by unfold knD; rw [List.length_map, List.length_range]
theorem knD_some {kn : List (Nat × List Nat)} {x : Nat × List Nat} {z : V} (h : getN (knD kn) (kkey x) = some z) : ∃ j : Nat, kn[j]? = some x ∧ z = V.int (j : Nat) := by
  unfold getN at h
  obtain ⟨p, hp, rfl⟩ := Option.map_eq_some_iff.mp h
  have h1 := List.mem_of_find?_eq_some hp
  have h2 := List.find?_some hp
  obtain ⟨j, hj, rfl⟩ := List.mem_map.mp h1
  rw [List.mem_range] at hj
  have e := kkey_inj (of_decide_eq_true h2)
  refine ⟨j, ?_, rfl⟩
  rw [← e, List.getD_eq_getElem?_getD, List.getElem?_eq_getElem hj]
  rfl
theorem knD_none {kn : List (Nat × List Nat)} {x : Nat × List Nat} (h : getN (knD kn) (kkey x) = none) : x ∉ kn := by
  intro hx
  obtain ⟨j, hj⟩ := List.mem_iff_getElem?.mp hx
  unfold getN at h
  have := List.find?_eq_none.mp (Option.map_eq_none_iff.mp h) (kkey x, V.int (j : Nat)) (List.mem_map.mpr ⟨j, List.mem_range.mpr (List.getElem?_eq_some_iff.mp hj).1, by rw [getD_of hj]⟩)
  simp at this
theorem knD_put {kn : List (Nat × List Nat)} {x : Nat × List Nat} : knD (kn ++ [x]) = knD kn ++ [(kkey x, V.int (kn.length : Nat))] := by
  unfold knD
  rw [List.length_append, List.length_singleton, List.range_succ, List.map_append, List.map_singleton]
  congr 1
  · refine List.map_congr_left fun j hj => ?_
    rw [List.mem_range] at hj
    rw [List.getD_eq_getElem?_getD, List.getD_eq_getElem?_getD, List.getElem?_append_left hj]
  · rw [getD_of (l := kn ++ [x]) (a := x) (by simp)]
theorem getD_some' {α : Type} {l : List α} {d : α} {i : Nat} (h : i < l.length) : l[i]? = some (l.getD i d) := by
  rw [List.getD_eq_getElem?_getD, List.getElem?_eq_getElem h]
  rfl
def sp_parts (K : PySem.W.Frag) : Sp := fun vs H Q E => ∃ (a t : Addr) (k : Nat) (B : Tab), vs = [.ref a, .ref t] ∧ RwT H a B.rows ∧ H t = some (.tup (B.told.map V.bl)) ∧ TabOk k B ∧ k ≤ 4 ∧ B.n ≤ 60 ∧
  ∀ (p : Addr) (ms : List Nat) (m : Nat) H', Same H H' → H' p = some (.lst (ni ms)) → Marks k B ms m → Q (.ref p) H'
theorem F_parts {w : World} {base : Heap} (T : Tx P K mg) : FnR P w K mg base CX0 1 (a_parts K) (sp_parts K) := by
  refine fnr (f_parts T) sc_parts (fun vs H Q E h => by obtain ⟨_, _, _, _, rfl, _⟩ := h; rfl) (fun _ _ _ _ _ _ us hl => match us, hl with | [_, _], _ => rfl) fun cdv A outer s H vs Q E hr h => ?_
  refine ⟨_, (pss_cons (ps_set (i := 2) sc_parts.nd rfl (Or.inr rfl) (pe_lcD (own := [("is_told", 9)]) s H rfl sc_parts.nd (pi_tup (pv 1)) (blkOk_by (N := n_parts) (sc := defScope s_parts) (by decide +kernel)) (fun _ _ _ _ _ => (pg_name (i := 9) sc_parts.nd rfl (Or.inl rfl))) (fun _ _ _ _ _ => pts_nil) (fun _ _ _ _ _ => (pe_callTy call_int1 rfl (e_int T) boot_int (pa_cons (pv 9) pa_nil)))))
  (pss_cons (ps_set (i := 3) sc_parts.nd rfl (Or.inl rfl) pe_int)
  (pss_cons (ps_while PassesOwn.never (pt_cmpR op_lt (pv 3) (pe_callB call_lenSet rfl (e_len T) boot_len (pa_cons (pe_callTy (cr_setOf rfl) rfl (e_set T) boot_set (pa_cons (pv 2) pa_nil)) pa_nil)) (by first | rfl | exact nomark _ | exact nobehind _ (by decide) (by decide)))
  (pss_cons (ps_set (i := 3) sc_parts.nd rfl (Or.inl rfl) (pe_callB call_lenSet rfl (e_len T) boot_len (pa_cons (pe_callTy (cr_setOf rfl) rfl (e_set T) boot_set (pa_cons (pv 2) pa_nil)) pa_nil)))
  (pss_cons (ps_set (i := 4) sc_parts.nd rfl (Or.inl rfl) pe_dnewN)
  (pss_cons (ps_set (i := 5) sc_parts.nd rfl (Or.inl rfl) (pe_lst pa_nil))
  (pss_cons (ps_for PassesOwn.never rfl (pi_enumT rfl (e_enumerate T) (pa_cons (pv 0) pa_nil)) (pg_tup rfl (pgs_cons (pg_name (i := 6) sc_parts.nd rfl (Or.inl rfl)) (pgs_cons (pg_name (i := 7) sc_parts.nd rfl (Or.inl rfl)) pgs_nil)))
  (pss_cons (ps_set (i := 8) sc_parts.nd rfl (Or.inl rfl) (pe_tup (pa_cons (pe_ix ix_list (pv 2) (pv 6) (fun _ _ => rfl)) (pa_cons (pe_callTy call_tuple_of rfl (e_tuple T) boot_tuple (pa_cons (pe_lcD (own := [("later", 10)]) s H rfl sc_parts.nd (pi_tup (pv 7)) (blkOk_by (N := n_parts) (sc := defScope s_parts) (by decide +kernel)) (fun _ _ _ _ _ => (pg_name (i := 10) sc_parts.nd rfl (Or.inl rfl))) (fun _ _ _ _ _ => pts_nil) (fun _ _ _ _ _ => (pe_ix ix_list (pv 2) (pv 10) (fun _ _ => rfl)))) pa_nil)) pa_nil))))
  (pss_one (ps_expr (pe_bm PySem.F.plainAttrs_list PySem.F.slot_list_append PySem.F.type_list_append mt_append (pv 5) (pa_cons (pe_bmN PySem.F.plainAttrs_dict PySem.F.slot_dict_setdefault PySem.F.type_dict_setdefault (mt_setDefN (hu64 hr)) (pv 4) (pa_cons (pv 8) (pa_cons (pe_callB call_lenN rfl (e_len T) boot_len (pa_cons (pv 4) pa_nil)) pa_nil))) pa_nil))))))
  (pss_one (ps_set (i := 2) sc_parts.nd rfl (Or.inr rfl) (pv 5))))))))
  (pss_one (ps_ret (pv 2)))))), ?_⟩
  obtain ⟨a, t, k, B, rfl, hw, ht, ok, k4, h60, q⟩ := h
  have sz : 1000 ≤ sizeLine := by decide
  have htl : B.told.length ≤ 60 := by rw [ok.told]; exact h60
  refine ⟨_, rfl, t, rfl, ⟨_, SqT.of ht⟩, fun mp hmp => lc_each (walk_tup (xs := B.told.map V.bl)) (fun i v _ => ∃ n, (B.told.map fun b => if b = true then 1 else 0)[i]? = some n ∧ v = .int (n : Nat)) (fun _ _ _ _ _ h => h) hmp (small1000 (by rw [List.length_map]; omega)) (fun H s => SqT.of (s _ _ ht)) yat_same (fun i x H1 H2 hi s1 s2 y k kk => ?_) fun H1 acc s1 e1 hla hR => ?_⟩
  · obtain ⟨rfl, hx⟩ := y
    rw [List.getElem?_map] at hx
    cases eb : B.told[i]? with
    | none => rw [eb] at hx; cases hx
    | some b =>
      rw [eb] at hx
      cases hx
      refine ⟨rfl, _, rfl, .inr ⟨b, rfl, kk _ _ (srf _) ⟨if b = true then 1 else 0, by rw [List.getElem?_map, eb]; rfl, ?_⟩⟩⟩
      cases b <;> rfl
  have ea : acc = ni (B.told.map fun b => if b = true then 1 else 0) := map_range (f := fun n : Nat => V.int (n : Int)) hR (by rw [hla, List.length_map, List.length_map])
  subst ea
  have hm0 := MkI.start ok
  generalize (B.told.map fun b => if b = true then 1 else 0) = ms0 at e1 hm0
  refine ⟨fun m σ H' => ∃ (mp : Addr) (ms : List Nat) (many : Nat) (u4 u5 u6 u7 u8 u9 u10 : Option V), σ = [some (.ref a), some (.ref t), some (.ref mp), some (.int (many : Nat)), u4, u5, u6, u7, u8, u9, u10] ∧ Same H H' ∧ H mp = none ∧ H' mp = some (.lst (ni ms)) ∧ MkI B ms ∧ (many = 0 ∨ ∃ (m' : Nat) (old os : List Nat), MkI B old ∧ Split B old ms m' ∧ os.Nodup ∧ (∀ x, x ∈ os ↔ x ∈ old) ∧ os.length = many) ∧ m = 61 - many, ⟨_, mp, ms0, 0, _, _, _, _, _, _, _, rfl, s1, hmp, e1, hm0, .inl rfl, rfl⟩, ?_⟩
  rintro m σ H2 ⟨mp, ms, many, u4, u5, u6, u7, u8, u9, u10, rfl, s2, hmp, e2, hms, hmany, rfl⟩
  have hl := hms.len
  refine ⟨_, rfl, _, rfl, ?_⟩
  dsimp only [tNil]
  refine setlen (SqL.of e2) (by omega) fun ks H3 nd hkm s3 => ⟨_, _, rfl, rfl, _, rfl, ifp (p := many < ks.length) ?_ (fun hlt => ?_) fun hge => ?_⟩
  · rw [decide_eq_true_iff]
    omega
  · have hkl : ks.length ≤ 60 := by have := nodup_sub nd fun a ha => (hkm a).mp ha; omega
    have e3 := s3 _ _ e2
    refine ⟨fun σ' H' => ∃ (fp : Addr) (fr ks' : List Nat) (m' : Nat) (u4 u5 u6 u7 u8 u9 u10 : Option V), σ' = [some (.ref a), some (.ref t), some (.ref fp), some (.int (ks'.length : Nat)), u4, u5, u6, u7, u8, u9, u10] ∧ Same H H' ∧ H fp = none ∧ H' fp = some (.lst (ni fr)) ∧ Split B ms fr m' ∧ ks'.Nodup ∧ (∀ x, x ∈ ks' ↔ x ∈ ms), ?_, ?_⟩
    · rintro σ' H' ⟨fp, fr, ks', m', v4, v5, v6, v7, v8, v9, v10, rfl, g1, g2, g3, g4, g5, g6⟩
      have h1 := nodup_sub nd fun a ha => (g6 a).mpr ((hkm a).mp ha)
      exact ⟨_, by omega, fp, fr, ks'.length, _, _, _, _, _, _, _, rfl, g1, g2, g3, g4.next hms, .inr ⟨m', ms, ks', hms, g4, g5, g6, rfl⟩, rfl⟩
    refine ⟨_, rfl, ?_⟩
    dsimp only [tNil]
    refine setlen (SqL.of e3) (by omega) fun ks' H4 nd' hkm' s4 => ?_
    have e4 := s4 _ _ e3
    intro kd hkd hDN
    refine ⟨Nat.le_of_ble_eq_true rfl, fun fp hfp => ?_⟩
    have s24 := str s3 s4
    have sH4 := str s2 s24
    have hkdH : H kd = none := snone sH4 hkd
    have hfpH : H fp = none := snone (str sH4 (Same.new hkd)) hfp
    have e5 := uo (u := .lst []) (uo (u := DnO w kd []) e4 hkd) hfp
    have nmf : mp ≠ fp := ne_of_none (uo (u := DnO w kd []) e4 hkd) hfp
    have sH5 := str sH4 (str (Same.new (o := DnO w kd []) hkd) (Same.new (o := .lst []) hfp))
    have hDN5 := hDN.same (Same.new (o := .lst []) hfp)
    have hf5 : upd (upd H4 kd (DnO w kd [])) fp (.lst []) fp = some (.lst []) := upd_same
    obtain ⟨rs, f1, f2, f3⟩ := id hw
    refine ⟨_, rfl, a, _, rfl, SqT.of (sH5 _ _ f1), for_it walk_enumE (fun i σ' H' => ∃ (kn : List (Nat × List Nat)) (fr : List Nat) (u6 u7 u8 u9 u10 : Option V), σ' = [some (.ref a), some (.ref t), some (.ref mp), some (.int (ks'.length : Nat)), some (.ref kd), some (.ref fp), u6, u7, u8, u9, u10] ∧ Same H H' ∧ H' mp = some (.lst (ni ms)) ∧ H' fp = some (.lst (ni fr)) ∧ DN w H' kd (knD kn) ∧ Fresh B ms i kn fr) ⟨[], [], _, _, _, _, _, rfl, sH5, e5, hf5, hDN5, Fresh.start⟩ (fun i σ' H' _ ⟨_, _, _, _, _, _, _, _, s, _⟩ => SqT.of (s _ _ f1)) ?_ ?_⟩
    · rintro i y σ' H6 H7 hi ⟨kn, fr, v6, v7, v8, v9, v10, rfl, s6, g1, g2, g3, g4⟩ ⟨tt, z, rfl, htt, rfl, hz⟩
      rw [List.length_map, f2] at hi
      rw [List.getElem?_map, show rs[i]? = some (rs[i]'(by rw [f2]; exact hi)) from List.getElem?_eq_getElem _] at hz
      cases hz
      have hrow := f3 i _ _ (List.getElem?_eq_getElem (by rw [f2]; exact hi)) (getD_some' (d := []) hi)
      generalize rs[i]'(by rw [f2]; exact hi) = r at hrow
      have s7 := Same.new (o := .tup [.int (i : Nat), .ref r]) htt
      have sH7 := str s6 s7
      have hms7 : ∀ {H' : Hp}, Same (upd H6 tt (.tup [.int (i : Nat), .ref r])) H' → H' mp = some (.lst (ni ms)) := fun s => s _ _ (s7 _ _ g1)
      have hget : ∀ s, s < B.n → (ni ms)[s]? = some (.int (ms.getD s 0 : Nat)) := fun s hs => ni_get (getD_some (by rw [hms.len]; exact hs))
      have hrB : B.rows.getD i [] ∈ B.rows := getD_mem hi
      refine ⟨_, _, rfl, SqT.of upd_same, rfl, _, _, rfl, _, _, rfl, rfl, ?_⟩
      refine ⟨_, rfl, _, rfl, mp, _, _, _, rfl, rfl, SqL.of (hms7 (srf _)), atI_nat (hget i hi), _, rfl, r, rfl, ⟨_, SqT.of (sH7 _ _ hrow)⟩, fun D hD => lc_each (walk_tup (xs := ni (B.rows.getD i []))) (fun j v _ => ∃ n, ((B.rows.getD i []).map fun t => ms.getD t 0)[j]? = some n ∧ v = .int (n : Nat)) (fun _ _ _ _ _ h => h) hD (small1000 (by rw [ni_len, ok.wide _ hrB]; omega)) (fun H s => SqT.of (s _ _ (sH7 _ _ hrow))) yat_same (fun j x H8 H9 hj s8 s9 y k2 kk => ?_) fun H8 acc s8 e8 hla hR => ?_⟩
      · obtain ⟨rfl, hx⟩ := y
        obtain ⟨n, hn, rfl⟩ := ni_of hx
        have hnl : n < B.n := ok.low _ hrB _ (List.mem_of_getElem? hn)
        exact ⟨rfl, _, rfl, _, rfl, mp, _, _, _, rfl, rfl, SqL.of (hms7 s9), atI_nat (hget n hnl), kk _ _ (srf _) ⟨_, by rw [List.getElem?_map, hn]; rfl, rfl⟩⟩
      have ea : acc = ni ((B.rows.getD i []).map fun t => ms.getD t 0) := map_range (f := fun n : Nat => V.int (n : Int)) hR (by rw [hla, ni_len, List.length_map])
      subst ea
      refine ⟨D, _, rfl, .inl ⟨SqL.of e8, fun tl htl => ⟨Nat.le_of_ble_eq_true rfl, fun kp hkp => ?_⟩⟩⟩
      have s9 := str s8 (str (Same.new (o := .tup (ni ((B.rows.getD i []).map fun t => ms.getD t 0))) htl) (Same.new (o := .tup [.int (ms.getD i 0 : Nat), .ref tl]) hkp))
      have hk1 : upd (upd H8 tl (.tup (ni ((B.rows.getD i []).map fun t => ms.getD t 0)))) kp (.tup [.int (ms.getD i 0 : Nat), .ref tl]) kp = some (.tup [.int (ms.getD i 0 : Nat), .ref tl]) := upd_same
      have hk2 := uo (u := .tup [.int (ms.getD i 0 : Nat), .ref tl]) (upd_same (H := H8) (a := tl) (o := .tup (ni ((B.rows.getD i []).map fun t => ms.getD t 0)))) hkp
      generalize upd (upd H8 tl (.tup (ni ((B.rows.getD i []).map fun t => ms.getD t 0)))) kp (.tup [.int (ms.getD i 0 : Nat), .ref tl]) = H9 at s9 hk1 hk2
      have s69 := str s7 s9
      have hD9 := g3.same s69
      have hf9 := s69 _ _ g2
      have key := kkey_h (x := mkey B ms i) hk1 hk2
      have hlen := g4.len
      have h60' : B.rows.length ≤ 60 := h60
      have hknl : kn.length ≤ 60 := by
        have := nodup_sub (l := List.range kn.length) (m := fr) List.nodup_range fun x hx => g4.set x (List.mem_range.mp hx)
        rw [List.length_range] at this
        omega
      have nfk : ∀ {H' : Hp} {es : List (NestedKey × Addr × V)}, H' kd = some (DnO w kd es) → H' fp = some (.lst (ni fr)) → fp ≠ kd := fun e1 e2 z => by rw [z, e1] at e2; cases e2
      have nmk : ∀ {H' : Hp} {es : List (NestedKey × Addr × V)}, H' kd = some (DnO w kd es) → H' mp = some (.lst (ni ms)) → mp ≠ kd := fun e1 e2 z => by rw [z, e1] at e2; cases e2
      obtain ⟨ents0, eD, _⟩ := id hD9
      have hm9 := s69 _ _ g1
      have sH9 := str s6 s69
      refine ⟨_, rfl, .inl ⟨rfl, _, SqL.of hf9⟩, _, rfl, ⟨kd, _, rfl, hD9⟩, _, rfl, _, rfl, kd, _, rfl, hD9, kd, _, kkey (mkey B ms i), _, _, rfl, rfl, hD9, ⟨kp, rfl⟩, key, kkey_depth _, by rw [knD_len]; omega, fun z hz => ?_, fun hz ents hDN2 => ?_⟩
      · obtain ⟨j, hj, rfl⟩ := knD_some hz
        have hsn : SameN _ _ := snu (snr H9) (p := fp) (o := .lst (ni fr ++ [.int (j : Nat)])) fun o e => by rw [hf9] at e; cases e; rfl
        refine ⟨fp, _, _, rfl, rfl, hf9, by rw [ni_len]; omega, kn, fr ++ [j], _, _, _, _, _, rfl, Same.mut sH9 hfpH, un' nmf hm9, ?_, ?_, g4.old hj⟩
        · rw [upd_same]
          unfold ni
          rw [List.map_append]
          rfl
        · exact hD9.mono (upd_ne (nfk eD hf9).symm) fun b xs e => hsn _ _ e rfl
      · have hf10 := un' (u := DnO w kd ents) (nfk eD hf9) hf9
        have hsn : SameN (upd H9 kd (DnO w kd ents)) (upd (upd H9 kd (DnO w kd ents)) fp (.lst (ni fr ++ [.int ((knD kn).length : Nat)]))) := snu (snr _) fun o e => by rw [hf10] at e; cases e; rfl
        refine ⟨fp, _, _, rfl, rfl, hf10, by rw [ni_len]; omega, kn ++ [mkey B ms i], fr ++ [kn.length], _, _, _, _, _, rfl, Same.mut (Same.mut sH9 hkdH) hfpH, un' nmf (un' (nmk eD hm9) hm9), ?_, ?_, g4.new (knD_none hz)⟩
        · rw [upd_same, knD_len]
          unfold ni
          rw [List.map_append]
          rfl
        · rw [knD_put]
          rw [knD_len] at hDN2 hsn ⊢
          exact hDN2.mono (upd_ne (nfk eD hf9).symm) fun b xs e => hsn _ _ e rfl
    · rintro σ' H6 ⟨kn, fr, v6, v7, v8, v9, v10, rfl, s6, g1, g2, g3, g4⟩
      rw [List.length_map, f2] at g4
      exact ⟨_, rfl, fp, fr, ks', kn.length, _, _, _, _, _, _, _, rfl, s6, hfpH, g2, Fresh.split ok.pos g4, nd', hkm'⟩
  · have hpos : 0 < ks.length := by
      have hp := ok.pos
      have h0 : 0 < ms.length := by omega
      exact List.length_pos_of_mem ((hkm _).mpr (List.getElem_mem h0))
    rcases hmany with rfl | ⟨m', old, os, h1, h2, h3, h4, h5⟩
    · omega
    · obtain ⟨hM, _⟩ := Split.marks ok h1 h2 h3 h4 nd hkm (by omega)
      exact ⟨_, rfl, q mp ms m' H3 (str s2 s3) (s3 _ _ e2) hM⟩
theorem cg_parts {w : World} {base : Heap} (T : Tx P K mg) : Cg P w K mg base 1 "parts" (sp_parts K) := .fn (g_parts T) (k_parts T) (F_parts T)
theorem idx_first : ∀ {l : List Nat} {x m : Nat}, m < l.idxOf x → l[m]? ≠ some x
  | [], x, m, h => by simp
  | a :: l, x, m, h => by
    rw [List.idxOf_cons] at h
    by_cases e : a = x
    · subst e
      simp at h
    · have e2 : (a == x) = false := beq_eq_false_iff_ne.mpr e
      rw [e2] at h
      cases m with
      | zero => intro z; exact e (Option.some.inj z)
      | succ m =>
        have h : m + 1 < l.idxOf x + 1 := h
        exact idx_first (l := l) (by omega)
theorem len_of_mem {ks : List Nat} {m : Nat} (nd : ks.Nodup) (h : ∀ x, x ∈ ks ↔ x < m) : ks.length = m := by
  have h1 := nodup_sub nd (m := List.range m) fun a ha => List.mem_range.mpr ((h a).mp ha)
  have h2 := nodup_sub (List.nodup_range (n := m)) (m := ks) fun a ha => (h a).mpr (List.mem_range.mp ha)
  rw [List.length_range] at h1 h2
  omega
abbrev csc_least_table : Scope := { kind := .function, names := [(".0", .local), ("state", .local), ("marks", .cell), ("steps", .cell)], isGenerator := false, isCoroutine := false }
def sp_least_table (K : PySem.W.Frag) : Sp := fun vs H Q E => ∃ (a t : Addr) (k : Nat) (B : Tab), vs = [.ref a, .ref t] ∧ RwL H a B.rows ∧ H t = some (.lst (B.told.map V.bl)) ∧ TabOk k B ∧ k ≤ 4 ∧ B.n ≤ 60 ∧
  ∀ (p pr pt : Addr) (B' : Tab) H', Same H H' → Least k B B' → H' p = some (.tup [.ref pr, .ref pt]) → RwT H' pr B'.rows → H' pt = some (.tup (B'.told.map V.bl)) → Q (.ref p) H'
theorem F_least_table {w : World} {base : Heap} (T : Tx P K mg) : FnR P w K mg base CX0 3 (a_least_table K) (sp_least_table K) := by
  refine fnr (f_least_table T) sc_least_table (fun vs H Q E h => by obtain ⟨_, _, _, _, rfl, _⟩ := h; rfl) (fun _ _ _ _ _ _ us hl => match us, hl with | [_, _], _ => rfl) fun cdv A outer s H vs Q E hr h => ?_
  refine ⟨_, (pss_cons (ps_asg (pe_g (cg_numbered T) (hr.mono (by decide)) (pa_cons (pv 0) (pa_cons (pv 1) pa_nil))) (pg_tup rfl (pgs_cons (pg_name (i := 0) sc_least_table.nd rfl (Or.inr rfl)) (pgs_cons (pg_name (i := 1) sc_least_table.nd rfl (Or.inr rfl)) pgs_nil))))
  (pss_cons (ps_set (i := 2) sc_least_table.nd rfl (Or.inr rfl) (pe_g (cg_parts T) (hr.mono (by decide)) (pa_cons (pv 0) (pa_cons (pv 1) pa_nil))))
  (pss_cons (ps_setLcD (i := 3) (own := [("mark", 4)]) s H rfl sc_least_table.nd rfl rfl (sw_true rfl rfl rfl (by decide +kernel)) (pi_range1 rfl (e_range T) (pa_cons (pe_callB call_lenSet rfl (e_len T) boot_len (pa_cons (pe_callTy (cr_setOf rfl) rfl (e_set T) boot_set (pa_cons (pv 2) pa_nil)) pa_nil)) pa_nil)) (blkOk_by (N := n_least_table) (sc := defScope s_least_table) (by decide +kernel)) (fun _ _ _ _ _ => (pg_name (i := 4) sc_least_table.nd rfl (Or.inl rfl))) (fun _ _ _ _ _ => pts_nil) (fun _ _ _ _ _ => (pe_bm PySem.F.plainAttrs_list PySem.F.slot_list_index PySem.F.type_list_index mt_index (pv 2) (pa_cons (pv 4) pa_nil))))
  (pss_one (ps_ret (pe_g (cg_numbered T) (hr.mono (by decide)) (pa_cons (pe_lcD (own := [("state", 5)]) s H rfl sc_least_table.nd (pi_list (pv 3)) (blkOk_by (N := n_least_table) (sc := defScope s_least_table) (by decide +kernel)) (fun _ _ _ _ _ => (pg_name (i := 5) sc_least_table.nd rfl (Or.inl rfl))) (fun _ _ _ _ _ => pts_nil) (fun _ _ _ _ _ => (pe_lcD (own := [("later", 6)]) s H rfl sc_least_table.nd (pi_tup (pe_ix ix_tup (pv 0) (pv 5) (fun _ _ => rfl))) (blkOk_by (N := n_least_table) (sc := csc_least_table) (by decide +kernel)) (fun _ _ _ _ _ => (pg_name (i := 6) sc_least_table.nd rfl (Or.inl rfl))) (fun _ _ _ _ _ => pts_nil) (fun _ _ _ _ _ => (pe_ix ix_list (pv 2) (pv 6) (fun _ _ => rfl)))))) (pa_cons (pe_lcD (own := [("state", 5)]) s H rfl sc_least_table.nd (pi_list (pv 3)) (blkOk_by (N := n_least_table) (sc := defScope s_least_table) (by decide +kernel)) (fun _ _ _ _ _ => (pg_name (i := 5) sc_least_table.nd rfl (Or.inl rfl))) (fun _ _ _ _ _ => pts_nil) (fun _ _ _ _ _ => (pe_ix ix_tup (pv 1) (pv 5) (fun _ _ => rfl)))) pa_nil)))))))), ?_⟩
  obtain ⟨a, t, k, B, rfl, hw, ht, ok, k4, h60, q⟩ := h
  have sz : 1000 ≤ sizeLine := by decide
  refine ⟨_, rfl, _, rfl, a, t, k, B, rfl, hw, ht, ok, k4, h60, fun p pr pt o H1 s1 ho e1 e2 e3 => ?_⟩
  have L1 := ho.least ok
  have hn1 : (B.sel o).n ≤ 60 := Nat.le_trans L1.few h60
  generalize B.sel o = B1 at L1 hn1 e2 e3
  refine ⟨p, _, rfl, SqT.of e1, rfl, _, _, rfl, _, _, rfl, rfl, _, rfl, _, rfl, pr, pt, k, B1, rfl, e2, e3, L1.ok, k4, hn1, fun mp ms m H2 s2 e4 hM => ?_⟩
  have hml := hM.len
  have hmn := hM.le
  refine ⟨_, rfl, ?_⟩
  dsimp only [tNil]
  refine setlen (SqL.of e4) (by omega) fun ks H3 nd hkm s3 => ?_
  have ekm : ks.length = m := len_of_mem nd fun x => (hkm x).trans (hM.set x)
  have e43 := s3 _ _ e4
  have hfl : (ni ms).all flatV = true := ni_flat ms
  refine ⟨_, rfl, by omega, by omega, fun D hD => lc_each walk_range (fun i v _ => v = .int (ms.idxOf i : Nat)) (fun _ _ _ _ _ h => h) hD (small1000 (by rw [Int.toNat_natCast]; omega)) (fun _ _ => trivial) yfn_same (fun i x H4 H5 hi s4 s5 y kn kk => ?_) fun H4 acc s4 e5 hla hR => ?_⟩
  · obtain ⟨rfl, rfl⟩ := y
    rw [Int.toNat_natCast, ekm] at hi
    have him := (hM.set i).mpr hi
    refine ⟨rfl, _, rfl, .inl ⟨rfl, _, SqL.of (s5 _ _ e43)⟩, _, rfl, mp, _, _, ms.idxOf i, .int (i : Nat), rfl, rfl, SqL.of (s5 _ _ e43), rfl, hfl, ni_get (idx_get him), ?_, fun j z hj hz => ?_, kk _ _ (srf _) rfl⟩
    · show ((i : Int) == (0 + (i : Int))) = true
      rw [Int.zero_add]
      simp
    · obtain ⟨n, hn, rfl⟩ := ni_of hz
      have : n ≠ i := fun z => idx_first hj (z ▸ hn)
      show ((n : Int) == (0 + (i : Int))) = false
      rw [Int.zero_add]
      simp
      omega
  have ea : acc = ni ((List.range m).map fun x => ms.idxOf x) := by
    refine map_range (f := fun n : Nat => V.int (n : Int)) (fun i v e => ?_) (by rw [hla, Int.toNat_natCast, ekm, List.length_map, List.length_range])
    have hi := (List.getElem?_eq_some_iff.mp e).1
    rw [hla, Int.toNat_natCast, ekm] at hi
    exact ⟨_, by rw [List.getElem?_map, List.getElem?_range hi]; rfl, hR i v e⟩
  subst ea
  clear hR
  obtain ⟨Q1, Qn, _⟩ := hM.quo L1.ok
  have hlen : ((List.range m).map fun x => ms.idxOf x).length = m := by rw [List.length_map, List.length_range]
  have hlow : ∀ s ∈ (List.range m).map fun x => ms.idxOf x, s < B1.n := fun s hs => by
    obtain ⟨x, hx, rfl⟩ := List.mem_map.mp hs
    rw [← hml]
    exact List.idxOf_lt_length_iff.mpr ((hM.set x).mpr (List.mem_range.mp hx))
  have hquo : (B1.quo ms m) = ⟨((List.range m).map fun x => ms.idxOf x).map fun s => (B1.rows.getD s []).map fun t => ms.getD t 0, ((List.range m).map fun x => ms.idxOf x).map B1.at_⟩ := rfl
  have hfin : ∀ {o : List Nat}, Ordr k (B1.quo ms m) o → Least k B ((B1.quo ms m).sel o) := fun ho => Least.of_quo (B3 := B1) L1 hM ho
  generalize (List.range m).map (fun x => ms.idxOf x) = fs at e5 hlen hlow hquo
  have s24 := str s3 s4
  refine ⟨_, rfl, D, rfl, ⟨_, SqL.of e5⟩, fun D1 hD1 => lc_eachP (walk_list (xs := ni fs)) (fun i v H' => ∃ r s, v = .ref r ∧ r ≠ D1 ∧ fs[i]? = some s ∧ H' r = some (.lst (ni ((B1.rows.getD s []).map fun t => ms.getD t 0)))) (fun i v H H' s ⟨r, u, h1, h2, h3, h4⟩ => ⟨r, u, h1, h2, h3, s _ _ h2 h4⟩) hD1 (small1000 (by rw [ni_len]; omega)) (fun H s => SqL.of (s _ _ e5)) yat_same (fun i x H5 H6 hi s5 s6 y hDD kn kk => ?_) fun H5 acc s5 e6 hla5 hR5 => ?_⟩
  · obtain ⟨rfl, hx⟩ := y
    obtain ⟨s, hs, rfl⟩ := ni_of hx
    have hsl := hlow s (List.mem_of_getElem? hs)
    obtain ⟨rs, r, f1, f2, f3⟩ := (e2.mono (sn (str s2 (str s24 s6)))).row hsl
    have hr : B1.rows.getD s [] ∈ B1.rows := getD_mem hsl
    have e46 := s6 _ _ (s24 _ _ e4)
    refine ⟨rfl, _, rfl, _, rfl, pr, _, _, _, rfl, rfl, SqT.of f1, atI_nat f2, r, rfl, ⟨_, SqT.of f3⟩, fun D2 hD2 => lc_each (walk_tup (xs := ni (B1.rows.getD s []))) (fun j v _ => ∃ n, ((B1.rows.getD s []).map fun t => ms.getD t 0)[j]? = some n ∧ v = .int (n : Nat)) (fun _ _ _ _ _ h => h) hD2 (small1000 (by rw [ni_len, L1.ok.wide _ hr]; omega)) (fun H s => SqT.of (s _ _ f3)) yat_same (fun j x H7 H8 hj s7 s8 y k2 kk2 => ?_) fun H7 acc2 s7 e7 hla2 hR2 => ?_⟩
    · obtain ⟨rfl, hx⟩ := y
      obtain ⟨n, hn, rfl⟩ := ni_of hx
      have hnl : n < ms.length := by rw [hml]; exact L1.ok.low _ hr _ (List.mem_of_getElem? hn)
      exact ⟨rfl, _, rfl, _, rfl, mp, _, _, _, rfl, rfl, SqL.of (s8 _ _ e46), atI_nat (ni_get (getD_some hnl)), kk2 _ _ (srf _) ⟨_, by rw [List.getElem?_map, hn]; rfl, rfl⟩⟩
    · obtain ⟨aD, hDD⟩ := hDD
      refine kk _ _ s7 ⟨D2, s, rfl, (ne_of_none hDD hD2).symm, hs, ?_⟩
      rw [e7, map_range (f := fun n : Nat => V.int (n : Int)) hR2 (by rw [hla2, ni_len, List.length_map])]
      rfl
  obtain ⟨cs, rfl, hcs⟩ := refs_of (R := fun i r => ∃ s, r ≠ D1 ∧ fs[i]? = some s ∧ H5 r = some (.lst (ni ((B1.rows.getD s []).map fun t => ms.getD t 0)))) fun i v e => let ⟨r, s, h1, h2, h3, h4⟩ := hR5 i v e; ⟨r, h1, s, h2, h3, h4⟩
  rw [List.length_map, ni_len] at hla5
  have hrw : RwL H5 D1 (B1.quo ms m).rows := by
    rw [hquo]
    refine ⟨cs, e6, by rw [hla5]; exact (List.length_map _).symm, fun i r row h1 h2 => ?_⟩
    obtain ⟨s, _, hs, e⟩ := hcs i r h1
    rw [List.getElem?_map, hs] at h2
    cases h2
    exact e
  have e55 := s5 _ _ e5
  refine ⟨_, rfl, D, rfl, ⟨_, SqL.of e55⟩, fun D3 hD3 => lc_each (walk_list (xs := ni fs)) (fun i v H' => ∃ s, fs[i]? = some s ∧ v = .bl (B1.at_ s)) (fun _ _ _ _ _ h => h) hD3 (small1000 (by rw [ni_len]; omega)) (fun H s => SqL.of (s _ _ e55)) yat_same (fun i x H6 H7 hi s6 s7 y k2 kk => ?_) fun H6 acc s6 e8 hla6 hR6 => ?_⟩
  · obtain ⟨rfl, hx⟩ := y
    obtain ⟨s, hs, rfl⟩ := ni_of hx
    have e37 := s7 _ _ (s5 _ _ (s24 _ _ (s2 _ _ e3)))
    exact ⟨rfl, _, rfl, _, rfl, pt, _, _, _, rfl, rfl, SqT.of e37, atI_nat (at_of L1.ok (hlow s (List.mem_of_getElem? hs))), kk _ _ (srf _) ⟨s, hs, rfl⟩⟩
  · have eb : acc = (fs.map B1.at_).map V.bl := by
      rw [List.map_map]
      exact map_range (f := V.bl ∘ B1.at_) hR6 (by rw [hla6, ni_len])
    have ht2 : H6 D3 = some (.lst ((B1.quo ms m).told.map V.bl)) := by rw [e8, eb, hquo]
    exact ⟨D1, D3, k, B1.quo ms m, rfl, hrw.mono s6, ht2, Q1, k4, by omega, fun p2 pr2 pt2 o2 H7 s7 ho2 g1 g2 g3 => q p2 pr2 pt2 _ H7 (str s1 (str s2 (str s24 (str s5 (str s6 s7))))) (hfin ho2) g1 g2 g3⟩
theorem cg_least_table {w : World} {base : Heap} (T : Tx P K mg) : Cg P w K mg base 3 "least_table" (sp_least_table K) := .fn (g_least_table T) (k_least_table T) (F_least_table T)
end
end K5
end
section
set_option maxRecDepth 100000
set_option maxHeartbeats 2000000
/-! automata: two tables side by side, the mirrored table -/
namespace K5
open PySem PySem.Spec PyProof.Rows L2
section
variable {P : Program} {K : PySem.W.Frag} {mg : Str → Option Value}
/-- all but these stand -/
def SameS (S : List Addr) (H H' : Hp) : Prop := ∀ a o, a ∉ S → H a = some o → H' a = some o
theorem ssr (S : List Addr) (H : Hp) : SameS S H H := fun _ _ _ e => e
theorem sst {S : List Addr} {H H' H'' : Hp} (h : SameS S H H') (h' : SameS S H' H'') : SameS S H H'' := fun a u n e => h' a u n (h a u n e)
theorem sss {S : List Addr} {H H' : Hp} (h : Same H H') : SameS S H H' := fun a u _ e => h a u e
theorem ssu {S : List Addr} {H : Hp} {p : Addr} {o : HO} (h : p ∈ S) : SameS S H (upd H p o) := fun a u n e => by rw [upd_ne (show a ≠ p from fun z => by rw [z] at n; exact n h)]; exact e
theorem SameS.same {S : List Addr} {H0 H H' : Hp} (h : SameS S H H') (s : Same H0 H) (n : ∀ a ∈ S, H0 a = none) : Same H0 H' := fun a u e => h a u (fun z => by rw [n a z] at e; cases e) (s _ _ e)
theorem SameS.sn {S : List Addr} {H H' : Hp} (h : SameS S H H') (n : ∀ a ∈ S, ∀ o, H a = some o → fixO o = false) : SameN H H' := fun a u e f => h a u (fun z => by rw [n a z u e] at f; cases f) e
theorem DN.lst {w : World} {H : Hp} {d p : Addr} {m : List (NestedKey × V)} {xs ys : List V} (h : DN w H d m) (hp : H p = some (.lst xs)) : DN w (upd H p (.lst ys)) d m :=
  h.mono (upd_ne fun z => by obtain ⟨es, e1, _⟩ := h; rw [z, hp] at e1; cases e1) fun a zs e => by rw [upd_ne fun z => by rw [z, hp] at e; cases e]; exact e
/-- the keys of a list, each with its number -/
def nmD {α : Type} (f : α → NestedKey) (d : α) (l : List α) : List (NestedKey × V) := (List.range l.length).map fun j => (f (l.getD j d), V.int (j : Nat))
theorem nmD_len {α : Type} {f : α → NestedKey} {d : α} {l : List α} : (nmD f d l).length = l.length := by unfold nmD; rw [List.length_map, List.length_range]
theorem nmD_some {α : Type} {f : α → NestedKey} {d x : α} {l : List α} {z : V} (inj : ∀ x y, f x = f y → x = y) (h : getN (nmD f d l) (f x) = some z) : ∃ j : Nat, l[j]? = some x ∧ z = V.int (j : Nat) := by
  unfold getN at h
  obtain ⟨p, hp, rfl⟩ := Option.map_eq_some_iff.mp h
  have h1 := List.mem_of_find?_eq_some hp
  have h2 := List.find?_some hp
  obtain ⟨j, hj, rfl⟩ := List.mem_map.mp h1
  rw [List.mem_range] at hj
  have e := inj _ _ (of_decide_eq_true h2)
  refine ⟨j, ?_, rfl⟩
  rw [← e, List.getD_eq_getElem?_getD, List.getElem?_eq_getElem hj]
  rfl
theorem nmD_none {α : Type} {f : α → NestedKey} {d x : α} {l : List α} (h : getN (nmD f d l) (f x) = none) : x ∉ l := by
  intro hx
  obtain ⟨j, hj⟩ := List.mem_iff_getElem?.mp hx
  unfold getN at h
  have := List.find?_eq_none.mp (Option.map_eq_none_iff.mp h) (f x, V.int (j : Nat)) (List.mem_map.mpr ⟨j, List.mem_range.mpr (List.getElem?_eq_some_iff.mp hj).1, by rw [getD_of hj]⟩)
  simp at this
theorem nmD_isSome {α : Type} {f : α → NestedKey} {d x : α} {l : List α} (inj : ∀ x y, f x = f y → x = y) : (getN (nmD f d l) (f x)).isSome = true ↔ x ∈ l := by
  cases e : getN (nmD f d l) (f x) with
  | none => exact ⟨fun h => (nomatch h), fun h => absurd h (nmD_none e)⟩
  | some z =>
    obtain ⟨j, hj, _⟩ := nmD_some inj e
    exact ⟨fun _ => List.mem_of_getElem? hj, fun _ => rfl⟩
theorem nmD_get {α : Type} {f : α → NestedKey} {d x : α} {l : List α} (inj : ∀ x y, f x = f y → x = y) (h : x ∈ l) : ∃ j : Nat, l[j]? = some x ∧ getN (nmD f d l) (f x) = some (V.int (j : Nat)) := by
  have := (nmD_isSome (d := d) inj).mpr h
  cases e : getN (nmD f d l) (f x) with
  | none => rw [e] at this; cases this
  | some z =>
    obtain ⟨j, hj, rfl⟩ := nmD_some inj e
    exact ⟨j, hj, rfl⟩
theorem nmD_put {α : Type} {f : α → NestedKey} {d x : α} {l : List α} : nmD f d (l ++ [x]) = nmD f d l ++ [(f x, V.int (l.length : Nat))] := by
  unfold nmD
  rw [List.length_append, List.length_singleton, List.range_succ, List.map_append, List.map_singleton]
  congr 1
  · refine List.map_congr_left fun j hj => ?_
    rw [List.mem_range] at hj
    rw [List.getD_eq_getElem?_getD, List.getD_eq_getElem?_getD, List.getElem?_append_left hj]
  · rw [getD_of (l := l ++ [x]) (a := x) (by simp)]
def pkey (p : Nat × Nat) : NestedKey := .tup [.num (p.1 : Int), .num (p.2 : Int)]
theorem pkey_inj (x y : Nat × Nat) (h : pkey x = pkey y) : x = y := by
  unfold pkey at h
  simp only [NestedKey.tup.injEq, List.cons.injEq, NestedKey.num.injEq, and_true] at h
  obtain ⟨a, b⟩ := x
  obtain ⟨c, d⟩ := y
  obtain ⟨h1, h2⟩ := h
  have h1 : (a : Int) = (c : Int) := h1
  have h2 : (b : Int) = (d : Int) := h2
  rw [show a = c by omega, show b = d by omega]
theorem pkey_depth (p : Nat × Nat) : (pkey p).depth ≤ 8 := by
  unfold pkey
  simp only [NestedKey.depth, NestedKey.depthAll]
  decide
theorem pkey_h {H : Hp} {e : Addr} {p : Nat × Nat} (h : H e = some (.tup [.int (p.1 : Int), .int (p.2 : Int)])) : KeyH H (pkey p) (.ref e) := .tup h (.cons (.int _) (.cons (.int _) .nil))
def skey (S : List Nat) : NestedKey := .tup (S.map fun n : Nat => .num (n : Int))
theorem skey_inj (x y : List Nat) (h : skey x = skey y) : x = y := by
  unfold skey at h
  exact numk_inj (by injection h)
theorem skey_depth (S : List Nat) : (skey S).depth ≤ 8 := by
  have h : NestedKey.depthAll (S.map fun n : Nat => NestedKey.num (n : Int)) = 0 := by
    have := depth_ints (S.map fun n : Nat => (n : Int))
    rw [List.map_map] at this
    exact this
  unfold skey
  simp only [NestedKey.depth, h]
  decide
theorem skey_h {H : Hp} {e : Addr} {S : List Nat} (h : H e = some (.tup (ni S))) : KeyH H (skey S) (.ref e) := by
  refine .tup h ?_
  have := keysH_ints (H := H) (S.map fun n : Nat => (n : Int))
  rw [List.map_map] at this
  rw [ni_int]
  exact this
/-- the tuples of a list -/
def TusH {α : Type} (o : α → HO) (H : Hp) (es : List Addr) (xs : List α) : Prop := es.length = xs.length ∧ ∀ (i : Nat) e x, es[i]? = some e → xs[i]? = some x → H e = some (o x)
theorem TusH.mono {α : Type} {o : α → HO} {H H' : Hp} {es : List Addr} {xs : List α} (f : ∀ x, fixO (o x) = true) (s : SameN H H') (h : TusH o H es xs) : TusH o H' es xs := ⟨h.1, fun i e x h1 h2 => s _ _ (h.2 i e x h1 h2) (f x)⟩
theorem TusH.snoc {α : Type} {o : α → HO} {H : Hp} {es : List Addr} {xs : List α} {e : Addr} {x : α} (h : TusH o H es xs) (he : H e = some (o x)) : TusH o H (es ++ [e]) (xs ++ [x]) := by
  refine ⟨by rw [List.length_append, List.length_append, h.1]; rfl, fun i e' u' g1 g2 => ?_⟩
  rcases Nat.lt_or_ge i es.length with hi | hi
  · rw [List.getElem?_append_left hi] at g1
    rw [List.getElem?_append_left (by rw [← h.1]; exact hi)] at g2
    exact h.2 i e' u' g1 g2
  · rw [List.getElem?_append_right hi] at g1
    rw [List.getElem?_append_right (by rw [← h.1]; exact hi), ← h.1] at g2
    obtain ⟨hz, g1⟩ := List.getElem?_eq_some_iff.mp g1
    obtain ⟨_, g2⟩ := List.getElem?_eq_some_iff.mp g2
    simp at g1 g2
    subst g1 g2
    exact he
def pO (p : Nat × Nat) : HO := .tup [.int (p.1 : Int), .int (p.2 : Int)]
def sO (S : List Nat) : HO := .tup (ni S)
theorem TusH.at_ {α : Type} {o : α → HO} {H : Hp} {es : List Addr} {xs : List α} {i : Nat} {x : α} (h : TusH o H es xs) (hx : xs[i]? = some x) : ∃ e, (es.map V.ref)[i]? = some (.ref e) ∧ H e = some (o x) := by
  have hi : i < es.length := by rw [h.1]; exact (List.getElem?_eq_some_iff.mp hx).1
  exact ⟨es[i], by rw [List.getElem?_map, List.getElem?_eq_getElem hi]; rfl, h.2 i _ x (List.getElem?_eq_getElem hi) hx⟩
/-- what a rule makes of two truths -/
def ruleF (r : Str) (x y : Bool) : Bool := if r = "and" then x && y else x || y
def sp_both_told (K : PySem.W.Frag) : Sp := fun vs H Q E => ∃ (r : Str) (x y : Bool), vs = [.str r, .bl x, .bl y] ∧ (r = "and" ∨ r = "or") ∧ Q (.bl (ruleF r x y)) H
theorem F_both_told {w : World} {base : Heap} (T : Tx P K mg) : FnR P w K mg base CX0 1 (a_both_told K) (sp_both_told K) := by
  refine fnr (f_both_told T) sc_both_told (fun vs H Q E h => by obtain ⟨_, _, _, rfl, _⟩ := h; rfl) (fun _ _ _ _ _ _ us hl => match us, hl with | [_, _, _], _ => rfl) fun cdv A outer s H vs Q E hr h => ?_
  refine ⟨_, (pss_cons (ps_if (pt_cmpR op_eq (pv 0) pe_str (by first | rfl | exact nomark _ | exact nobehind _ (by decide) (by decide))) (pss_one (ps_ret (pe_and (pv 1) (pe_one (pv 2))))) pss_nil)
  (pss_cons (ps_if (pt_cmpR op_eq (pv 0) pe_str (by first | rfl | exact nomark _ | exact nobehind _ (by decide) (by decide))) (pss_one (ps_ret (pe_or (pv 1) (pe_one (pv 2))))) pss_nil)
  (pss_one (ps_ret (pe_ifExp (pt_cmpR op_eq (pv 0) pe_str (by first | rfl | exact nomark _ | exact nobehind _ (by decide) (by decide))) (pe_and (pv 1) (pe_one (pe_not (pv 2)))) (pe_cmpR op_ne (pv 1) (pv 2) (by first | rfl | exact nomark _ | exact nobehind _ (by decide) (by decide)))))))), ?_⟩
  obtain ⟨r, x, y, rfl, hr2, q⟩ := h
  rcases hr2 with rfl | rfl
  · have e : ruleF "and" x y = (x && y) := if_pos rfl
    rw [e] at q
    refine ⟨_, rfl, rfl, _, rfl, ifb (c := true) (decide_eq_true rfl) (fun _ => ⟨_, rfl, x, rfl, ?_⟩) fun h => nomatch h⟩
    cases x with
    | true => exact iteT ⟨_, rfl, q⟩
    | false => exact iteF q
  · have e : ruleF "or" x y = (x || y) := if_neg (by decide)
    rw [e] at q
    refine ⟨_, rfl, rfl, _, rfl, ifb (c := false) (decide_eq_false (fun z => by have := V.str.inj z; revert this; decide)) (fun h => nomatch h) fun _ => ⟨_, rfl, rfl, _, rfl, ifb (c := true) (decide_eq_true rfl) (fun _ => ⟨_, rfl, x, rfl, ?_⟩) fun h => nomatch h⟩⟩
    cases x with
    | true => exact iteT q
    | false => exact iteF ⟨_, rfl, q⟩
theorem cg_both_told {w : World} {base : Heap} (T : Tx P K mg) : Cg P w K mg base 1 "both_told" (sp_both_told K) := .fn (g_both_told T) (k_both_told T) (F_both_told T)
def sp_paired (K : PySem.W.Frag) : Sp := fun vs H Q E => ∃ (a b pa ta pb tb : Addr) (r : Str) (k : Nat) (B C : Tab), vs = [.ref a, .ref b, .str r] ∧ H a = some (.tup [.ref pa, .ref ta]) ∧ H b = some (.tup [.ref pb, .ref tb]) ∧ RwT H pa B.rows ∧ H ta = some (.tup (B.told.map V.bl)) ∧ RwT H pb C.rows ∧ H tb = some (.tup (C.told.map V.bl)) ∧
  (r = "and" ∨ r = "or") ∧ TabOk k B ∧ TabOk k C ∧ k ≤ 4 ∧ B.n * C.n ≤ 60 ∧
  ∀ (p pr pt : Addr) (D : Tab) H', Same H H' → TabOk k D → D.n ≤ B.n * C.n → (∀ w, Wd k w → D.acc w = ruleF r (B.acc w) (C.acc w)) → H' p = some (.tup [.ref pr, .ref pt]) → RwL H' pr D.rows → H' pt = some (.lst (D.told.map V.bl)) → Q (.ref p) H'
theorem F_paired {w : World} {base : Heap} (T : Tx P K mg) : FnR P w K mg base CX0 2 (a_paired K) (sp_paired K) := by
  refine fnr (f_paired T) sc_paired (fun vs H Q E h => by obtain ⟨_, _, _, _, _, _, _, _, _, _, rfl, _⟩ := h; rfl) (fun _ _ _ _ _ _ us hl => match us, hl with | [_, _, _], _ => rfl) fun cdv A outer s H vs Q E hr h => ?_
  refine ⟨_, (pss_cons (ps_set (i := 3) sc_paired.nd rfl (Or.inl rfl) (pe_lst (pa_cons (pe_tup (pa_cons pe_int (pa_cons pe_int pa_nil))) pa_nil)))
  (pss_cons (ps_set (i := 4) sc_paired.nd rfl (Or.inl rfl) (pe_disp1N (hu64 hr) (pe_tup (pa_cons pe_int (pa_cons pe_int pa_nil))) pe_int))
  (pss_cons (ps_set (i := 5) sc_paired.nd rfl (Or.inl rfl) (pe_lst pa_nil))
  (pss_cons (ps_while PassesOwn.never (pt_cmpR op_lt (pe_callB call_len_seq rfl (e_len T) boot_len (pa_cons (pv 5) pa_nil)) (pe_callB call_len_seq rfl (e_len T) boot_len (pa_cons (pv 3) pa_nil)) (by first | rfl | exact nomark _ | exact nobehind _ (by decide) (by decide)))
  (pss_cons (ps_asg (pe_ix ix_list (pv 3) (pe_callB call_len_seq rfl (e_len T) boot_len (pa_cons (pv 5) pa_nil)) (fun _ _ => rfl)) (pg_tup rfl (pgs_cons (pg_name (i := 6) sc_paired.nd rfl (Or.inl rfl)) (pgs_cons (pg_name (i := 7) sc_paired.nd rfl (Or.inl rfl)) pgs_nil))))
  (pss_cons (ps_set (i := 8) sc_paired.nd rfl (Or.inl rfl) (pe_lst pa_nil))
  (pss_cons (ps_for PassesOwn.never rfl (pi_zipN rfl (e_zip T) (pa_cons (pe_ix ix_tup (pe_ix ix_tup (pv 0) pe_int (fun _ _ => rfl)) (pv 6) (fun _ _ => rfl)) (pa_cons (pe_ix ix_tup (pe_ix ix_tup (pv 1) pe_int (fun _ _ => rfl)) (pv 7) (fun _ _ => rfl)) pa_nil))) (pg_name (i := 9) sc_paired.nd rfl (Or.inl rfl))
  (pss_cons (ps_if (pt_cmpR (op_notInN (hu64 hr)) (pv 9) (pv 4) (by first | rfl | exact nomark _ | exact nobehind _ (by decide) (by decide))) (pss_cons (ps_asg (pe_callB call_len_seq rfl (e_len T) boot_len (pa_cons (pv 3) pa_nil)) (pg_sub (pv 4) (pv 9) (set_dn (hu64 hr))))
  (pss_one (ps_expr (pe_bm PySem.F.plainAttrs_list PySem.F.slot_list_append PySem.F.type_list_append mt_append (pv 3) (pa_cons (pv 9) pa_nil))))) pss_nil)
  (pss_one (ps_expr (pe_bm PySem.F.plainAttrs_list PySem.F.slot_list_append PySem.F.type_list_append mt_append (pv 8) (pa_cons (pe_ix (ix_dn (hu64 hr)) (pv 4) (pv 9) (fun _ _ => rfl)) pa_nil))))))
  (pss_one (ps_expr (pe_bm PySem.F.plainAttrs_list PySem.F.slot_list_append PySem.F.type_list_append mt_append (pv 5) (pa_cons (pv 8) pa_nil))))))))
  (pss_one (ps_ret (pe_tup (pa_cons (pv 5) (pa_cons (pe_lcD (own := [("mine", 6), ("others", 7)]) s H rfl sc_paired.nd (pi_list (pv 3)) (blkOk_by (N := n_paired) (sc := defScope s_paired) (by decide +kernel)) (fun _ _ _ _ _ => (pg_tup rfl (pgs_cons (pg_name (i := 6) sc_paired.nd rfl (Or.inl rfl)) (pgs_cons (pg_name (i := 7) sc_paired.nd rfl (Or.inl rfl)) pgs_nil)))) (fun _ _ _ _ _ => pts_nil) (fun _ _ _ _ _ => (pe_g (cg_both_told T) (hr.mono (by decide)) (pa_cons (pv 2) (pa_cons (pe_ix ix_tup (pe_ix ix_tup (pv 0) pe_int (fun _ _ => rfl)) (pv 6) (fun _ _ => rfl)) (pa_cons (pe_ix ix_tup (pe_ix ix_tup (pv 1) pe_int (fun _ _ => rfl)) (pv 7) (fun _ _ => rfl)) pa_nil)))))) pa_nil))))))))), ?_⟩
  obtain ⟨a, b, pa, ta, pb, tb, r, k, B, C, rfl, ha, hb, hw, ht, hw2, ht2, hr2, ok, ok2, k4, h60, q⟩ := h
  have sz : 1000 ≤ sizeLine := by decide
  refine ⟨Nat.le_of_ble_eq_true rfl, fun e0 he0 => ⟨Nat.le_of_ble_eq_true rfl, fun pl hpl => ?_⟩⟩
  have sA := str (Same.new (o := pO (0, 0)) he0) (Same.new (o := .lst [.ref e0]) hpl)
  intro nd hnd
  refine ⟨Nat.le_of_ble_eq_true rfl, fun e1 he1 => ⟨uo upd_same he1, ⟨_, rfl⟩, pkey (0, 0), pkey_h upd_same, pkey_depth _, fun ents hDN => ?_⟩⟩
  have sB := Same.mut (o := DnO w nd ents) (str (Same.new (o := DnO w nd []) hnd) (Same.new (o := pO (0, 0)) he1)) hnd
  refine ⟨Nat.le_of_ble_eq_true rfl, fun sl hsl => ?_⟩
  have sC := Same.new (o := .lst []) hsl
  have sH := str sA (str sB sC)
  have hplH : H pl = none := snone (Same.new he0) hpl
  have hndH : H nd = none := snone sA hnd
  have hslH : H sl = none := snone (str sA sB) hsl
  have npl : pl ≠ sl := ne_of_none (sB _ _ upd_same) hsl
  have pO_f : ∀ x, fixO (pO x) = true := fun _ => rfl
  have hDN0 := hDN.same sC
  refine ⟨fun m σ H' => ∃ (ps : List (Nat × Nat)) (rows : List (List Nat)) (es rs : List Addr) (u6 u7 u8 u9 : Option V), σ = [some (.ref a), some (.ref b), some (.str r), some (.ref pl), some (.ref nd), some (.ref sl), u6, u7, u8, u9] ∧ Same H H' ∧ H' pl = some (.lst (es.map V.ref)) ∧ TusH pO H' es ps ∧ DN w H' nd (nmD pkey (0, 0) ps) ∧ H' sl = some (.lst (rs.map V.ref)) ∧ rs.length = rows.length ∧ (∀ (i : Nat) r row, rs[i]? = some r → rows[i]? = some row → r ≠ pl ∧ r ≠ sl ∧ H' r = some (.lst (ni row))) ∧ Pair k B C ps rows [] ∧ rows.length ≤ ps.length ∧ m = 61 - rows.length, ⟨_, [(0, 0)], [], [e0], [], _, _, _, _, rfl, sH, sC _ _ (sB _ _ upd_same), ⟨rfl, fun i e x h1 h2 => ?_⟩, hDN0, upd_same, rfl, fun i r row h1 => by simp at h1, Pair.start ok.pos ok2.pos, Nat.zero_le _, rfl⟩, ?_⟩
  · cases i with
    | zero => cases h1; cases h2; exact sC _ _ (sB _ _ (uo upd_same hpl))
    | succ i => simp at h1
  rintro m σ H1 ⟨ps, rows, es, rs, u6, u7, u8, u9, rfl, s1, g1, g2, g3, g4, g5, g6, g7, g8, rfl⟩
  have hps := g7.len
  refine ⟨_, rfl, sl, _, rfl, .inl (SqL.of g4), _, rfl, pl, _, rfl, .inl (SqL.of g1), _, _, rfl, rfl, _, rfl, ifp (p := rows.length < ps.length) ?_ (fun hlt => ?_) fun hge => ?_⟩
  · rw [decide_eq_true_iff, List.length_map, List.length_map, g5, g2.1]
    omega
  · have hp : ps[rows.length]? = some ps[rows.length] := List.getElem?_eq_getElem hlt
    generalize ps[rows.length] = p0 at hp
    obtain ⟨e, ee, he⟩ := g2.at_ hp
    have hl0 := g7.low _ (List.mem_of_getElem? hp)
    refine ⟨fun σ' H' => ∃ (ps : List (Nat × Nat)) (rows' : List (List Nat)) (es rs : List Addr) (u6 u7 u8 u9 : Option V), σ' = [some (.ref a), some (.ref b), some (.str r), some (.ref pl), some (.ref nd), some (.ref sl), u6, u7, u8, u9] ∧ Same H H' ∧ H' pl = some (.lst (es.map V.ref)) ∧ TusH pO H' es ps ∧ DN w H' nd (nmD pkey (0, 0) ps) ∧ H' sl = some (.lst (rs.map V.ref)) ∧ rs.length = rows'.length ∧ (∀ (i : Nat) r row, rs[i]? = some r → rows'[i]? = some row → r ≠ pl ∧ r ≠ sl ∧ H' r = some (.lst (ni row))) ∧ Pair k B C ps rows' [] ∧ rows'.length ≤ ps.length ∧ rows'.length = rows.length + 1, fun σ' H' ⟨ps', rows', es', rs', v6, v7, v8, v9, h1, h2, h3, h4, h5, h6, h7, h8, h9, h10, h11⟩ => ⟨61 - rows'.length, by omega, ps', rows', es', rs', v6, v7, v8, v9, h1, h2, h3, h4, h5, h6, h7, h8, h9, h10, rfl⟩, ?_⟩
    refine ⟨_, rfl, _, rfl, sl, _, rfl, .inl (SqL.of g4), pl, _, _, _, rfl, rfl, SqL.of g1, atI_nat (by rw [List.length_map, g5]; exact ee), e, _, rfl, SqT.of (show H1 e = some (.tup [.int (p0.1 : Int), .int (p0.2 : Int)]) from he), rfl, _, _, rfl, _, _, rfl, rfl, Nat.le_of_ble_eq_true rfl, fun wl hwl => ?_⟩
    have sw := Same.new (o := .lst []) hwl
    have sHs := str s1 sw
    have hww : upd H1 wl (.lst []) wl = some (.lst []) := upd_same
    have g1s := sw _ _ g1
    have g2s := g2.mono pO_f (sn sw)
    have g3s := g3.same sw
    have g4s := sw _ _ g4
    have g6s : ∀ (i : Nat) r row, rs[i]? = some r → rows[i]? = some row → r ≠ pl ∧ r ≠ sl ∧ r ≠ wl ∧ upd H1 wl (.lst []) r = some (.lst (ni row)) := fun i r row h1 h2 => let ⟨a1, a2, a3⟩ := g6 i r row h1 h2; ⟨a1, a2, ne_of_none a3 hwl, sw _ _ a3⟩
    have hwlH : H wl = none := snone s1 hwl
    have nwl : wl ≠ pl := (ne_of_none g1 hwl).symm
    have nws : wl ≠ sl := (ne_of_none g4 hwl).symm
    obtain ⟨rsA, r1, f1, f2, f3⟩ := (hw.mono (sn sHs)).row hl0.1
    obtain ⟨rsB, r2, f4, f5, f6⟩ := (hw2.mono (sn sHs)).row hl0.2
    have haS := sHs _ _ ha
    have hbS := sHs _ _ hb
    generalize upd H1 wl (.lst []) = Hs at sHs hww g1s g2s g3s g4s g6s f1 f3 f4 f6 haS hbS
    have hS : ∀ x ∈ [pl, nd, wl], H x = none := fun x hx => by
      simp at hx
      rcases hx with rfl | rfl | rfl
      · exact hplH
      · exact hndH
      · exact hwlH
    obtain ⟨ents0, eD0, _⟩ := id g3s
    have hSn : ∀ x ∈ [pl, nd, wl], ∀ o, Hs x = some o → fixO o = false := fun x hx o e => by
      simp at hx
      rcases hx with rfl | rfl | rfl
      · rw [g1s] at e; cases e; rfl
      · rw [eD0] at e; cases e; rfl
      · rw [hww] at e; cases e; rfl
    have nwn : wl ≠ nd := fun z => by rw [z, eD0] at hww; cases hww
    have npn : pl ≠ nd := fun z => by rw [z, eD0] at g1s; cases g1s
    have hrB : B.rows.getD p0.1 [] ∈ B.rows := getD_mem hl0.1
    have hrC : C.rows.getD p0.2 [] ∈ C.rows := getD_mem hl0.2
    have hlB : (ni (B.rows.getD p0.1 [])).length = k := by rw [ni_len, ok.wide _ hrB]
    have hlC : (ni (C.rows.getD p0.2 [])).length = k := by rw [ni_len, ok2.wide _ hrC]
    refine ⟨_, rfl, a, _, _, _, rfl, rfl, SqT.of haS, rfl, _, rfl, pa, _, _, _, rfl, rfl, SqT.of f1, atI_nat f2, _, rfl, b, _, _, _, rfl, rfl, SqT.of hbS, rfl, _, rfl, pb, _, _, _, rfl, rfl, SqT.of f4, atI_nat f5, r1, r2, _, _, rfl, SqT.of f3, SqT.of f6, for_it (walk_pairs (by rw [hlB, hlC])) (fun j σ' H' => ∃ (ps : List (Nat × Nat)) (es : List Addr) (row : List Nat) (u9 : Option V), σ' = [some (.ref a), some (.ref b), some (.str r), some (.ref pl), some (.ref nd), some (.ref sl), some (.int (p0.1 : Int)), some (.int (p0.2 : Int)), some (.ref wl), u9] ∧ SameS [pl, nd, wl] Hs H' ∧ H' pl = some (.lst (es.map V.ref)) ∧ TusH pO H' es ps ∧ DN w H' nd (nmD pkey (0, 0) ps) ∧ H' wl = some (.lst (ni row)) ∧ row.length = j ∧ Pair k B C ps rows row ∧ ps[rows.length]? = some p0) ⟨ps, es, [], _, rfl, ssr _ _, g1s, g2s, g3s, hww, rfl, g7, hp⟩ (fun j σ' H' _ ⟨_, _, _, _, _, h, _⟩ => ⟨SqT.of (h.sn hSn _ _ f3 rfl), SqT.of (h.sn hSn _ _ f6 rfl)⟩) ?_ ?_⟩
    · rintro j y σ' H2 H3 hj ⟨ps', es', row, v9, rfl, q1, q2, q3, q4, q5, q6, q7, q8⟩ ⟨tt, x1, x2, rfl, htt, rfl, hx1, hx2⟩
      rw [hlB] at hj
      have hx1 : (ni (B.rows.getD p0.1 []))[j]? = some x1 := hx1
      have hx2 : (ni (C.rows.getD p0.2 []))[j]? = some x2 := hx2
      rw [ni_get (row_get ok hl0.1 hj)] at hx1
      cases hx1
      rw [ni_get (row_get ok2 hl0.2 hj)] at hx2
      cases hx2
      subst q6
      have lB := ok.st_lt hl0.1 hj
      have lC := ok2.st_lt hl0.2 hj
      have s3 := Same.new (o := .tup [.int (B.st p0.1 row.length : Nat), .int (C.st p0.2 row.length : Nat)]) htt
      have ht3 : upd H2 tt (.tup [.int (B.st p0.1 row.length : Nat), .int (C.st p0.2 row.length : Nat)]) tt = some (pO (B.st p0.1 row.length, C.st p0.2 row.length)) := upd_same
      generalize upd H2 tt (.tup [.int (B.st p0.1 row.length : Nat), .int (C.st p0.2 row.length : Nat)]) = H3 at s3 ht3
      have q1' := sst q1 (sss (S := [pl, nd, wl]) s3)
      have q2' := s3 _ _ q2
      have q3' := q3.mono pO_f (sn s3)
      have q4' := q4.same s3
      have q5' := s3 _ _ q5
      have key := pkey_h ht3
      have hpl' := q7.len
      obtain ⟨ents', eD', _⟩ := id q4'
      refine ⟨_, rfl, _, rfl, nd, _, pkey (B.st p0.1 row.length, C.st p0.2 row.length), rfl, q4', ⟨_, rfl⟩, key, pkey_depth _, _, rfl, ifp (p := (B.st p0.1 row.length, C.st p0.2 row.length) ∉ ps') ?_ (fun hnew => ?_) fun hold => ?_⟩
      · show (!(getN (nmD pkey (0, 0) ps') (pkey (B.st p0.1 row.length, C.st p0.2 row.length))).isSome) = true ↔ _
        rw [← nmD_isSome (d := ((0, 0) : Nat × Nat)) pkey_inj]
        simp
      · refine ⟨_, rfl, pl, _, rfl, .inl (SqL.of q2'), _, rfl, _, rfl, nd, _, pkey (B.st p0.1 row.length, C.st p0.2 row.length), rfl, q4', ⟨_, rfl⟩, key, pkey_depth _, ?_, by rw [nmD_len]; omega, fun ents2 hDN2 => ?_⟩
        · have := mt (nmD_isSome (d := ((0, 0) : Nat × Nat)) pkey_inj).mp hnew
          simpa using this
        rw [List.length_map, q3'.1] at hDN2
        have e4pl := un' (u := DnO w nd ents2) npn q2'
        have e4wl := un' (u := DnO w nd ents2) nwn q5'
        have s34 : SameS [pl, nd, wl] H3 (upd H3 nd (DnO w nd ents2)) := ssu (by simp)
        have n34 : SameN H3 (upd H3 nd (DnO w nd ents2)) := snu (snr _) fun o e => by rw [eD'] at e; cases e; rfl
        refine ⟨_, rfl, .inl ⟨rfl, _, SqL.of e4pl⟩, _, rfl, pl, _, _, rfl, rfl, e4pl, by rw [List.length_map, q3'.1]; omega, ?_⟩
        have hDN5 := hDN2.lst (ys := es'.map V.ref ++ [.ref tt]) e4pl
        have n45 : SameN (upd H3 nd (DnO w nd ents2)) (upd (upd H3 nd (DnO w nd ents2)) pl (.lst (es'.map V.ref ++ [.ref tt]))) := snu (snr _) fun o e => by rw [e4pl] at e; cases e; rfl
        have s45 : SameS [pl, nd, wl] (upd H3 nd (DnO w nd ents2)) (upd (upd H3 nd (DnO w nd ents2)) pl (.lst (es'.map V.ref ++ [.ref tt]))) := ssu (by simp)
        have e5wl := un' (u := .lst (es'.map V.ref ++ [.ref tt])) nwl e4wl
        have e5pl : upd (upd H3 nd (DnO w nd ents2)) pl (.lst (es'.map V.ref ++ [.ref tt])) pl = some (.lst ((es' ++ [tt]).map V.ref)) := by rw [upd_same, List.map_append]; rfl
        rw [← nmD_put] at hDN5
        obtain ⟨j', hj', hg⟩ := nmD_get (f := pkey) (d := ((0, 0) : Nat × Nat)) (l := ps' ++ [(B.st p0.1 row.length, C.st p0.2 row.length)]) pkey_inj (List.mem_append_right _ (List.mem_singleton.mpr rfl))
        have ht5 := n45 _ _ (n34 _ _ ht3 rfl) rfl
        refine ⟨_, rfl, .inl ⟨rfl, _, SqL.of e5wl⟩, _, rfl, _, rfl, nd, _, pkey (B.st p0.1 row.length, C.st p0.2 row.length), _, rfl, hDN5, ⟨_, rfl⟩, pkey_h ht5, pkey_depth _, hg, wl, _, _, rfl, rfl, e5wl, by rw [ni_len]; omega, ?_⟩
        have n56 : SameN (upd (upd H3 nd (DnO w nd ents2)) pl (.lst (es'.map V.ref ++ [.ref tt]))) (upd (upd (upd H3 nd (DnO w nd ents2)) pl (.lst (es'.map V.ref ++ [.ref tt]))) wl (.lst (ni row ++ [.int (j' : Nat)]))) := snu (snr _) fun o e => by rw [e5wl] at e; cases e; rfl
        have hp' : (ps' ++ [(B.st p0.1 row.length, C.st p0.2 row.length)])[rows.length]? = some p0 := by rw [List.getElem?_append_left (List.getElem?_eq_some_iff.mp q8).1]; exact q8
        refine ⟨_, es' ++ [tt], row ++ [j'], _, rfl, sst q1' (sst s34 (sst s45 (ssu (by simp)))), un' nwl.symm e5pl, (q3'.mono pO_f (snt n34 (snt n45 n56))).snoc (n56 _ _ ht5 rfl), hDN5.lst e5wl, ?_, by simp, (q7.new q8 hnew lB lC).old hp' hj', hp'⟩
        rw [upd_same]
        unfold ni
        rw [List.map_append]
        rfl
      · obtain ⟨j', hj', hg⟩ := nmD_get (f := pkey) (d := ((0, 0) : Nat × Nat)) pkey_inj (Classical.not_not.mp hold)
        refine ⟨_, rfl, .inl ⟨rfl, _, SqL.of q5'⟩, _, rfl, _, rfl, nd, _, pkey (B.st p0.1 row.length, C.st p0.2 row.length), _, rfl, q4', ⟨_, rfl⟩, key, pkey_depth _, hg, wl, _, _, rfl, rfl, q5', by rw [ni_len]; omega, ?_⟩
        have n56 : SameN H3 (upd H3 wl (.lst (ni row ++ [.int (j' : Nat)]))) := snu (snr _) fun o e => by rw [q5'] at e; cases e; rfl
        refine ⟨ps', es', row ++ [j'], _, rfl, sst q1' (ssu (by simp)), un' nwl.symm q2', q3'.mono pO_f n56, q4'.lst q5', ?_, by simp, q7.old q8 hj', q8⟩
        rw [upd_same]
        unfold ni
        rw [List.map_append]
        rfl
    · rintro σ' H2 ⟨ps', es', row, v9, rfl, q1, q2, q3, q4, q5, q6, q7, q8⟩
      rw [hlB] at q6
      have e2sl := q1 sl _ (by
        simp only [List.mem_cons, List.not_mem_nil, or_false, not_or]
        exact ⟨npl.symm, fun z => (by rw [z, eD0] at g4s; cases g4s), nws.symm⟩) g4s
      have hpl' := q7.len
      have hlt' := (List.getElem?_eq_some_iff.mp q8).1
      have sH2 := q1.same sHs hS
      refine ⟨_, rfl, .inl ⟨rfl, _, SqL.of e2sl⟩, _, rfl, sl, _, _, rfl, rfl, e2sl, by rw [List.length_map, g5]; omega, ?_⟩
      have n23 : SameN H2 (upd H2 sl (.lst (rs.map V.ref ++ [.ref wl]))) := snu (snr _) fun o e => by rw [e2sl] at e; cases e; rfl
      refine ⟨ps', rows ++ [row], es', rs ++ [wl], _, _, _, _, rfl, Same.mut sH2 hslH, un' npl q2, q3.mono pO_f n23, q4.lst e2sl, by rw [upd_same, List.map_append]; rfl, by rw [List.length_append, List.length_append, g5]; rfl, fun i r' row' h1 h2 => ?_, q7.row q6, by rw [List.length_append, List.length_singleton]; omega, by rw [List.length_append]; rfl⟩
      rcases Nat.lt_or_ge i rs.length with hi | hi
      · rw [List.getElem?_append_left hi] at h1
        rw [List.getElem?_append_left (by rw [← g5]; exact hi)] at h2
        obtain ⟨a1, a2, a3, a4⟩ := g6s i r' row' h1 h2
        refine ⟨a1, a2, un' a2 (q1 r' _ ?_ a4)⟩
        simp only [List.mem_cons, List.not_mem_nil, or_false, not_or]
        exact ⟨a1, fun z => (by rw [z, eD0] at a4; cases a4), a3⟩
      · rw [List.getElem?_append_right hi] at h1
        rw [List.getElem?_append_right (by rw [← g5]; exact hi), ← g5] at h2
        obtain ⟨hz, h1⟩ := List.getElem?_eq_some_iff.mp h1
        obtain ⟨_, h2⟩ := List.getElem?_eq_some_iff.mp h2
        simp at h1 h2
        subst h1 h2
        exact ⟨nwl, nws, un' nws q5⟩
  · have hrl : rows.length = ps.length := by omega
    refine ⟨_, rfl, _, rfl, pl, rfl, ⟨_, SqL.of g1⟩, fun D hD => lc_each (walk_list (xs := es.map V.ref)) (fun i v _ => ∃ z, (ps.map fun p => ruleF r (B.at_ p.1) (C.at_ p.2))[i]? = some z ∧ v = .bl z) (fun _ _ _ _ _ h => h) hD (small1000 (by rw [List.length_map, g2.1]; omega)) (fun H s => SqL.of (s _ _ g1)) yat_same (fun i x H2 H3 hi s2 s3 y k2 kk => ?_) fun H2 acc s2 e2 hla hR => ?_⟩
    · obtain ⟨rfl, hx⟩ := y
      rw [List.length_map, g2.1] at hi
      have hpi : ps[i]? = some ps[i] := List.getElem?_eq_getElem hi
      obtain ⟨e, ee, he⟩ := g2.at_ hpi
      rw [ee] at hx
      cases hx
      have hl0 := g7.low _ (List.mem_of_getElem? hpi)
      have he3 := s3 _ _ he
      have s13 := str s1 s3
      refine ⟨e, _, rfl, SqT.of (show _ = some (HO.tup [.int (ps[i].1 : Int), .int (ps[i].2 : Int)]) from he3), rfl, _, _, rfl, _, _, rfl, rfl, rfl, _, rfl, _, rfl, a, _, _, _, rfl, rfl, SqT.of (s13 _ _ ha), rfl, _, rfl, ta, _, _, _, rfl, rfl, SqT.of (s13 _ _ ht), atI_nat (at_of ok hl0.1), _, rfl, b, _, _, _, rfl, rfl, SqT.of (s13 _ _ hb), rfl, _, rfl, tb, _, _, _, rfl, rfl, SqT.of (s13 _ _ ht2), atI_nat (at_of ok2 hl0.2), r, _, _, rfl, hr2, kk _ _ (srf _) ⟨_, by rw [List.getElem?_map, hpi]; rfl, rfl⟩⟩
    · have ea : acc = (ps.map fun p => ruleF r (B.at_ p.1) (C.at_ p.2)).map V.bl := map_range hR (by rw [hla, List.length_map, List.length_map, g2.1])
      refine ⟨Nat.le_of_ble_eq_true rfl, fun p hpp => ?_⟩
      obtain ⟨d1, d2⟩ := g7.both (f := ruleF r) hrl
      have s3 := str s2 (Same.new (o := .tup [.ref sl, .ref D]) hpp)
      refine q p sl D (Tab.both (ruleF r) B C ps rows) _ (str s1 s3) d1 (by show rows.length ≤ _; omega) d2 upd_same ⟨rs, s3 _ _ g4, g5, fun i r' row h1 h2 => s3 _ _ (g6 i r' row h1 h2).2.2⟩ ?_
      rw [upd_ne (ne_of_none e2 hpp), e2, ea]
      rfl
theorem cg_paired {w : World} {base : Heap} (T : Tx P K mg) : Cg P w K mg base 2 "paired" (sp_paired K) := .fn (g_paired T) (k_paired T) (F_paired T)
def sp_mirrored (K : PySem.W.Frag) : Sp := fun vs H Q E => ∃ (a t : Addr) (k : Nat) (B : Tab), vs = [.ref a, .ref t, .int 64] ∧ RwT H a B.rows ∧ H t = some (.tup (B.told.map V.bl)) ∧ TabOk k B ∧ k ≤ 4 ∧ 1 ≤ k ∧ B.n ≤ 4 ∧
  ∀ (p pr pt : Addr) (D : Tab) H', Same H H' → TabOk k D → D.n ≤ 16 → (∀ w, Wd k w → D.acc w = B.acc w.reverse) → H' p = some (.tup [.ref pr, .ref pt]) → RwL H' pr D.rows → H' pt = some (.lst (D.told.map V.bl)) → Q (.ref p) H'
theorem F_mirrored {w : World} {base : Heap} (T : Tx P K mg) : FnR P w K mg base CX0 1 (a_mirrored K) (sp_mirrored K) := by
  refine fnr (f_mirrored T) sc_mirrored (fun vs H Q E h => by obtain ⟨_, _, _, _, rfl, _⟩ := h; rfl) (fun _ _ _ _ _ _ us hl => match us, hl with | [_, _, _], _ => rfl) fun cdv A outer s H vs Q E hr h => ?_
  refine ⟨_, (pss_cons (ps_set (i := 3) sc_mirrored.nd rfl (Or.inr rfl) (pe_lst (pa_cons (pe_callTy call_tuple_of rfl (e_tuple T) boot_tuple (pa_cons (pe_lcD (own := [("state", 9)]) s H rfl sc_mirrored.nd (pi_range1 rfl (e_range T) (pa_cons (pe_callB call_len_seq rfl (e_len T) boot_len (pa_cons (pv 0) pa_nil)) pa_nil)) (blkOk_by (N := n_mirrored) (sc := defScope s_mirrored) (by decide +kernel)) (fun _ _ _ _ _ => (pg_name (i := 9) sc_mirrored.nd rfl (Or.inl rfl))) (fun _ _ _ _ _ => (pts_one (pt_val (pe_ix ix_tup (pv 1) (pv 9) (fun _ _ => rfl))))) (fun _ _ _ _ _ => (pv 9))) pa_nil)) pa_nil)))
  (pss_cons (ps_set (i := 4) sc_mirrored.nd rfl (Or.inl rfl) (pe_disp1N (hu64 hr) (pe_ix ix_list (pv 3) pe_int (fun _ _ => rfl)) pe_int))
  (pss_cons (ps_set (i := 5) sc_mirrored.nd rfl (Or.inr rfl) (pe_lst pa_nil))
  (pss_cons (ps_while PassesOwn.never (pt_cmpR op_lt (pe_callB call_len_seq rfl (e_len T) boot_len (pa_cons (pv 5) pa_nil)) (pe_callB call_len_seq rfl (e_len T) boot_len (pa_cons (pv 3) pa_nil)) (by first | rfl | exact nomark _ | exact nobehind _ (by decide) (by decide)))
  (pss_cons (ps_set (i := 6) sc_mirrored.nd rfl (Or.inl rfl) (pe_lst pa_nil))
  (pss_cons (ps_for PassesOwn.never rfl (pi_range1 rfl (e_range T) (pa_cons (pe_callB call_len_seq rfl (e_len T) boot_len (pa_cons (pe_ix ix_tup (pv 0) pe_int (fun _ _ => rfl)) pa_nil)) pa_nil)) (pg_name (i := 7) sc_mirrored.nd rfl (Or.inr rfl))
  (pss_cons (ps_set (i := 8) sc_mirrored.nd rfl (Or.inl rfl) (pe_callTy call_tuple_of rfl (e_tuple T) boot_tuple (pa_cons (pe_lcD (own := [("state", 9)]) s H rfl sc_mirrored.nd (pi_range1 rfl (e_range T) (pa_cons (pe_callB call_len_seq rfl (e_len T) boot_len (pa_cons (pv 0) pa_nil)) pa_nil)) (blkOk_by (N := n_mirrored) (sc := defScope s_mirrored) (by decide +kernel)) (fun _ _ _ _ _ => (pg_name (i := 9) sc_mirrored.nd rfl (Or.inl rfl))) (fun _ _ _ _ _ => (pts_one (pt_cmpR op_in_seq (pe_ix ix_tup (pe_ix ix_tup (pv 0) (pv 9) (fun _ _ => rfl)) (pv 7) (fun _ _ => rfl)) (pe_ix ix_list (pv 3) (pe_callB call_len_seq rfl (e_len T) boot_len (pa_cons (pv 5) pa_nil)) (fun _ _ => rfl)) (by first | rfl | exact nomark _ | exact nobehind _ (by decide) (by decide))))) (fun _ _ _ _ _ => (pv 9))) pa_nil)))
  (pss_cons (ps_if (pt_cmpR (op_notInN (hu64 hr)) (pv 8) (pv 4) (by first | rfl | exact nomark _ | exact nobehind _ (by decide) (by decide))) (pss_cons (ps_asg (pe_callB call_len_seq rfl (e_len T) boot_len (pa_cons (pv 3) pa_nil)) (pg_sub (pv 4) (pv 8) (set_dn (hu64 hr))))
  (pss_one (ps_expr (pe_bm PySem.F.plainAttrs_list PySem.F.slot_list_append PySem.F.type_list_append mt_append (pv 3) (pa_cons (pv 8) pa_nil))))) pss_nil)
  (pss_one (ps_expr (pe_bm PySem.F.plainAttrs_list PySem.F.slot_list_append PySem.F.type_list_append mt_append (pv 6) (pa_cons (pe_ix (ix_dn (hu64 hr)) (pv 4) (pv 8) (fun _ _ => rfl)) pa_nil)))))))
  (pss_cons (ps_expr (pe_bm PySem.F.plainAttrs_list PySem.F.slot_list_append PySem.F.type_list_append mt_append (pv 5) (pa_cons (pv 6) pa_nil)))
  (pss_one (ps_if (pt_cmpR op_gt (pe_callB call_len_seq rfl (e_len T) boot_len (pa_cons (pv 3) pa_nil)) (pv 2) (by first | rfl | exact nomark _ | exact nobehind _ (by decide) (by decide))) (pss_one (ps_ret pe_non)) pss_nil))))))
  (pss_one (ps_ret (pe_tup (pa_cons (pv 5) (pa_cons (pe_lcD (own := [("ends", 10)]) s H rfl sc_mirrored.nd (pi_list (pv 3)) (blkOk_by (N := n_mirrored) (sc := defScope s_mirrored) (by decide +kernel)) (fun _ _ _ _ _ => (pg_name (i := 10) sc_mirrored.nd rfl (Or.inl rfl))) (fun _ _ _ _ _ => pts_nil) (fun _ _ _ _ _ => (pe_cmpR op_in_seq pe_int (pv 10) (by first | rfl | exact nomark _ | exact nobehind _ (by decide) (by decide))))) pa_nil))))))))), ?_⟩
  obtain ⟨a, t, k, B, rfl, hw, ht, ok, k4, k1, h4, q⟩ := h
  have sz : 1000 ≤ sizeLine := by decide
  have sO_f : ∀ x, fixO (sO x) = true := fun _ => rfl
  obtain ⟨rsa, a1, a2, a3⟩ := id hw
  have hla : ((rsa.map V.ref).length : Int).toNat = B.n := by rw [Int.toNat_natCast, List.length_map, a2]; rfl
  have hla2 : (rsa.map V.ref).length = B.n := by rw [List.length_map, a2]; rfl
  have nimap : ∀ c : Nat → Bool, ((List.range B.n).filter c).map (fun i : Nat => V.int (i : Int)) = ni ((List.range B.n).filter c) := fun c => rfl
  refine ⟨_, rfl, a, _, rfl, .inr (SqT.of a1), _, rfl, by omega, by omega, fun D hD => lc_filt walk_range (fun i => .int (i : Int)) B.at_ hD (by rw [hla]; exact small1000 (by omega)) (fun _ _ => trivial) yfn_same (fun i x H1 H2 hi s1 s2 y kk ky kn => ?_) fun H1 s1 e1 => ?_⟩
  · obtain ⟨rfl, rfl⟩ := y
    rw [hla] at hi
    refine ⟨rfl, _, rfl, _, rfl, t, _, _, _, rfl, rfl, SqT.of (s2 _ _ ht), ?_, _, rfl, ifb (c := B.at_ i) rfl (fun h => ?_) fun h => kn _ h (srf _)⟩
    · rw [Int.zero_add]
      exact atI_nat (at_of ok hi)
    · obtain ⟨acc, hd, hl, hk⟩ := ky _ h (srf _)
      refine ⟨_, rfl, acc, hd, hl, ?_⟩
      show kk (upd H2 D (.lst (acc ++ [V.int (0 + (i : Int))])))
      rw [Int.zero_add]
      exact hk
  rw [hla, nimap] at e1
  refine ⟨D, _, rfl, .inl ⟨SqL.of e1, fun e0 he0 => ⟨Nat.le_of_ble_eq_true rfl, fun sl hsl => ?_⟩⟩⟩
  have sA := str s1 (str (Same.new (o := sO ((List.range B.n).filter B.at_)) he0) (Same.new (o := .lst [.ref e0]) hsl))
  have eA0 : upd (upd H1 e0 (sO ((List.range B.n).filter B.at_))) sl (.lst [.ref e0]) e0 = some (sO ((List.range B.n).filter B.at_)) := uo upd_same hsl
  have eAs : upd (upd H1 e0 (sO ((List.range B.n).filter B.at_))) sl (.lst [.ref e0]) sl = some (.lst [.ref e0]) := upd_same
  have hslH : H sl = none := snone (str s1 (Same.new he0)) hsl
  intro nd hnd
  have hndH : H nd = none := snone sA hnd
  have e2s := uo (u := DnO w nd []) eAs hnd
  have e20 := uo (u := DnO w nd []) eA0 hnd
  refine ⟨_, rfl, sl, _, _, _, rfl, rfl, SqL.of e2s, rfl, upd_same, ⟨_, rfl⟩, skey ((List.range B.n).filter B.at_), skey_h e20, skey_depth _, fun ents hDN => ?_⟩
  have sB := Same.mut (o := DnO w nd ents) (Same.new (o := DnO w nd []) hnd) hnd
  refine ⟨Nat.le_of_ble_eq_true rfl, fun wl hwl => ?_⟩
  have sC := Same.new (o := .lst []) hwl
  have hwlH : H wl = none := snone (str sA sB) hwl
  have nsw : sl ≠ wl := ne_of_none (sB _ _ eAs) hwl
  have sH := str sA (str sB sC)
  refine ⟨fun m σ H' => ∃ (ss rows : List (List Nat)) (es rs : List Addr) (u6 u7 u8 u9 u10 : Option V), σ = [some (.ref a), some (.ref t), some (.int 64), some (.ref sl), some (.ref nd), some (.ref wl), u6, u7, u8, u9, u10] ∧ Same H H' ∧ H' sl = some (.lst (es.map V.ref)) ∧ TusH sO H' es ss ∧ DN w H' nd (nmD skey [] ss) ∧ H' wl = some (.lst (rs.map V.ref)) ∧ rs.length = rows.length ∧ (∀ (i : Nat) r row, rs[i]? = some r → rows[i]? = some row → r ≠ sl ∧ r ≠ wl ∧ H' r = some (.lst (ni row))) ∧ Mir k B ss rows [] ∧ rows.length ≤ ss.length ∧ m = 61 - rows.length, ⟨_, [(List.range B.n).filter B.at_], [], [e0], [], _, _, _, _, _, rfl, sH, sC _ _ (sB _ _ eAs), ⟨rfl, fun i e x h1 h2 => ?_⟩, hDN.same sC, upd_same, rfl, fun i r row h1 => by simp at h1, Mir.start, Nat.zero_le _, rfl⟩, ?_⟩
  · cases i with
    | zero => cases h1; cases h2; exact sC _ _ (sB _ _ eA0)
    | succ i => simp at h1
  rintro m σ H1' ⟨ss, rows, es, rs, u6, u7, u8, u9, u10, rfl, s1', g1, g2, g3, g4, g5, g6, g7, g8, rfl⟩
  have hps := g7.len h4
  refine ⟨_, rfl, wl, _, rfl, .inl (SqL.of g4), _, rfl, sl, _, rfl, .inl (SqL.of g1), _, _, rfl, rfl, _, rfl, ifp (p := rows.length < ss.length) ?_ (fun hlt => ?_) fun hge => ?_⟩
  · rw [decide_eq_true_iff, List.length_map, List.length_map, g5, g2.1]
    omega
  · have hp : ss[rows.length]? = some ss[rows.length] := List.getElem?_eq_getElem hlt
    generalize ss[rows.length] = S0 at hp
    refine ⟨fun σ' H' => ∃ (ss rows' : List (List Nat)) (es rs : List Addr) (u6 u7 u8 u9 u10 : Option V), σ' = [some (.ref a), some (.ref t), some (.int 64), some (.ref sl), some (.ref nd), some (.ref wl), u6, u7, u8, u9, u10] ∧ Same H H' ∧ H' sl = some (.lst (es.map V.ref)) ∧ TusH sO H' es ss ∧ DN w H' nd (nmD skey [] ss) ∧ H' wl = some (.lst (rs.map V.ref)) ∧ rs.length = rows'.length ∧ (∀ (i : Nat) r row, rs[i]? = some r → rows'[i]? = some row → r ≠ sl ∧ r ≠ wl ∧ H' r = some (.lst (ni row))) ∧ Mir k B ss rows' [] ∧ rows'.length ≤ ss.length ∧ rows'.length = rows.length + 1, fun σ' H' ⟨ps', rows', es', rs', v6, v7, v8, v9, v10, h1, h2, h3, h4, h5, h6, h7, h8, h9, h10, h11⟩ => ⟨61 - rows'.length, by omega, ps', rows', es', rs', v6, v7, v8, v9, v10, h1, h2, h3, h4, h5, h6, h7, h8, h9, h10, rfl⟩, ?_⟩
    refine ⟨Nat.le_of_ble_eq_true rfl, fun rl hrl => ?_⟩
    have sw := Same.new (o := .lst []) hrl
    have sHs := str s1' sw
    have hww : upd H1' rl (.lst []) rl = some (.lst []) := upd_same
    have g1s := sw _ _ g1
    have g2s := g2.mono sO_f (sn sw)
    have g3s := g3.same sw
    have g4s := sw _ _ g4
    have g6s : ∀ (i : Nat) r row, rs[i]? = some r → rows[i]? = some row → r ≠ sl ∧ r ≠ wl ∧ r ≠ rl ∧ upd H1' rl (.lst []) r = some (.lst (ni row)) := fun i r row h1 h2 => let ⟨a1, a2, a3⟩ := g6 i r row h1 h2; ⟨a1, a2, ne_of_none a3 hrl, sw _ _ a3⟩
    have hrlH : H rl = none := snone s1' hrl
    have nrs : rl ≠ sl := (ne_of_none g1 hrl).symm
    have nrw : rl ≠ wl := (ne_of_none g4 hrl).symm
    generalize upd H1' rl (.lst []) = Hs at sHs hww g1s g2s g3s g4s g6s
    have hS : ∀ x ∈ [sl, nd, rl], H x = none := fun x hx => by
      simp at hx
      rcases hx with rfl | rfl | rfl
      · exact hslH
      · exact hndH
      · exact hrlH
    obtain ⟨ents0, eD0, _⟩ := id g3s
    have hSn : ∀ x ∈ [sl, nd, rl], ∀ o, Hs x = some o → fixO o = false := fun x hx o e => by
      simp at hx
      rcases hx with rfl | rfl | rfl
      · rw [g1s] at e; cases e; rfl
      · rw [eD0] at e; cases e; rfl
      · rw [hww] at e; cases e; rfl
    have nrn : rl ≠ nd := fun z => by rw [z, eD0] at hww; cases hww
    have nsn : sl ≠ nd := fun z => by rw [z, eD0] at g1s; cases g1s
    have hwS : wl ∉ [sl, nd, rl] := by
      simp only [List.mem_cons, List.not_mem_nil, or_false, not_or]
      exact ⟨nsw.symm, fun z => (by rw [z, eD0] at g4s; cases g4s), nrw.symm⟩
    obtain ⟨rs0, r0, b1, b2, b3⟩ := (hw.mono (sn sHs)).row ok.pos
    have hr0 : B.rows.getD 0 [] ∈ B.rows := getD_mem ok.pos
    have hl0 : (ni (B.rows.getD 0 [])).length = k := by rw [ni_len, ok.wide _ hr0]
    refine ⟨_, rfl, a, _, _, _, rfl, rfl, SqT.of b1, (atI_nat b2 : atI _ ((0 : Nat) : Int) = _), r0, _, rfl, .inr (SqT.of b3), _, rfl, by omega, by omega, for_range (fun j σ' H' => ∃ (ss : List (List Nat)) (es : List Addr) (row : List Nat) (u7 u8 u9 u10 : Option V), σ' = [some (.ref a), some (.ref t), some (.int 64), some (.ref sl), some (.ref nd), some (.ref wl), some (.ref rl), u7, u8, u9, u10] ∧ SameS [sl, nd, rl] Hs H' ∧ H' sl = some (.lst (es.map V.ref)) ∧ TusH sO H' es ss ∧ DN w H' nd (nmD skey [] ss) ∧ H' rl = some (.lst (ni row)) ∧ row.length = j ∧ Mir k B ss rows row ∧ ss[rows.length]? = some S0) ⟨ss, es, [], _, _, _, _, rfl, ssr _ _, g1s, g2s, g3s, hww, rfl, g7, hp⟩ ?_ ?_⟩
    · rintro j σ' H2 hj ⟨ps', es', row, v7, v8, v9, v10, rfl, q1, q2, q3, q4, q5, q6, q7, q8⟩
      rw [hl0, Int.toNat_natCast] at hj
      subst q6
      have hpl' := q7.len h4
      have sH2 := q1.same sHs hS
      have e2wl := q1 wl _ hwS g4s
      refine ⟨_, rfl, a, _, rfl, .inr (SqT.of (sH2 _ _ a1)), _, rfl, by omega, by omega, fun D2 hD2 => lc_filt walk_range (fun i => .int (i : Int)) (fun s => decide (B.st s row.length ∈ S0)) hD2 (by rw [hla]; exact small1000 (by omega)) (fun _ _ => trivial) yfn_same (fun i x H3 H4 hi s3 s4 y kk ky kn => ?_) fun H3 s3 e3 => ?_⟩
      · obtain ⟨rfl, rfl⟩ := y
        rw [hla] at hi
        obtain ⟨rs1, r1, c1, c2, c3⟩ := (hw.mono (sn (str sH2 s4))).row hi
        obtain ⟨e, ee, he⟩ := q3.at_ q8
        have he4 := s4 _ _ he
        refine ⟨rfl, _, rfl, _, rfl, a, _, _, _, rfl, rfl, SqT.of c1, (by rw [Int.zero_add]; exact atI_nat c2), _, rfl, r1, _, _, _, rfl, rfl, SqT.of c3, (by rw [Int.zero_add]; exact atI_nat (ni_get (row_get ok hi hj))), _, rfl, _, rfl, wl, _, rfl, .inl (SqL.of (s4 _ _ e2wl)), sl, _, _, _, rfl, rfl, SqL.of (s4 _ _ q2), atI_nat (by rw [List.length_map, g5]; exact ee), e, _, rfl, .inr (SqT.of (show _ = some (HO.tup (ni S0)) from he4)), rfl, ni_flat S0, _, rfl, ifb (c := decide (B.st i row.length ∈ S0)) inV_ni (fun h => ?_) fun h => kn _ h (srf _)⟩
        obtain ⟨acc, hd, hl, hk⟩ := ky _ h (srf _)
        refine ⟨_, rfl, acc, hd, hl, ?_⟩
        show kk (upd H4 D2 (.lst (acc ++ [V.int (0 + (i : Int))])))
        rw [Int.zero_add]
        exact hk
      rw [hla, nimap] at e3
      refine ⟨D2, _, rfl, .inl ⟨SqL.of e3, fun tt htt => ?_⟩⟩
      have s3' := str s3 (Same.new (o := .tup (ni ((List.range B.n).filter fun s => decide (B.st s row.length ∈ S0)))) htt)
      have ht3 : upd H3 tt (.tup (ni ((List.range B.n).filter fun s => decide (B.st s row.length ∈ S0)))) tt = some (sO (pre B S0 row.length)) := upd_same
      generalize upd H3 tt (.tup (ni ((List.range B.n).filter fun s => decide (B.st s row.length ∈ S0)))) = H3 at s3' ht3
      have q1' := sst q1 (sss (S := [sl, nd, rl]) s3')
      have q2' := s3' _ _ q2
      have q3' := q3.mono sO_f (sn s3')
      have q4' := q4.same s3'
      have q5' := s3' _ _ q5
      have key := skey_h (S := pre B S0 row.length) ht3
      obtain ⟨ents', eD', _⟩ := id q4'
      refine ⟨_, rfl, _, rfl, nd, _, skey (pre B S0 row.length), rfl, q4', ⟨_, rfl⟩, key, skey_depth _, _, rfl, ifp (p := pre B S0 row.length ∉ ps') ?_ (fun hnew => ?_) fun hold => ?_⟩
      · show (!(getN (nmD skey [] ps') (skey (pre B S0 row.length))).isSome) = true ↔ _
        rw [← nmD_isSome (d := ([] : List Nat)) skey_inj]
        simp
      · refine ⟨_, rfl, sl, _, rfl, .inl (SqL.of q2'), _, rfl, _, rfl, nd, _, skey (pre B S0 row.length), rfl, q4', ⟨_, rfl⟩, key, skey_depth _, ?_, by rw [nmD_len]; omega, fun ents2 hDN2 => ?_⟩
        · have := mt (nmD_isSome (d := ([] : List Nat)) skey_inj).mp hnew
          simpa using this
        rw [List.length_map, q3'.1] at hDN2
        have e4pl := un' (u := DnO w nd ents2) nsn q2'
        have e4wl := un' (u := DnO w nd ents2) nrn q5'
        have s34 : SameS [sl, nd, rl] H3 (upd H3 nd (DnO w nd ents2)) := ssu (by simp)
        have n34 : SameN H3 (upd H3 nd (DnO w nd ents2)) := snu (snr _) fun o e => by rw [eD'] at e; cases e; rfl
        refine ⟨_, rfl, .inl ⟨rfl, _, SqL.of e4pl⟩, _, rfl, sl, _, _, rfl, rfl, e4pl, by rw [List.length_map, q3'.1]; omega, ?_⟩
        have hDN5 := hDN2.lst (ys := es'.map V.ref ++ [.ref tt]) e4pl
        have n45 : SameN (upd H3 nd (DnO w nd ents2)) (upd (upd H3 nd (DnO w nd ents2)) sl (.lst (es'.map V.ref ++ [.ref tt]))) := snu (snr _) fun o e => by rw [e4pl] at e; cases e; rfl
        have s45 : SameS [sl, nd, rl] (upd H3 nd (DnO w nd ents2)) (upd (upd H3 nd (DnO w nd ents2)) sl (.lst (es'.map V.ref ++ [.ref tt]))) := ssu (by simp)
        have e5wl := un' (u := .lst (es'.map V.ref ++ [.ref tt])) nrs e4wl
        have e5pl : (upd (upd H3 nd (DnO w nd ents2)) sl (.lst (es'.map V.ref ++ [.ref tt]))) sl = some (.lst ((es' ++ [tt]).map V.ref)) := by rw [upd_same, List.map_append]; rfl
        rw [← nmD_put] at hDN5
        obtain ⟨j', hj', hg⟩ := nmD_get (f := skey) (d := ([] : List Nat)) (l := ps' ++ [pre B S0 row.length]) skey_inj (List.mem_append_right _ (List.mem_singleton.mpr rfl))
        have ht5 := n45 _ _ (n34 _ _ ht3 rfl) rfl
        refine ⟨_, rfl, .inl ⟨rfl, _, SqL.of e5wl⟩, _, rfl, _, rfl, nd, _, skey (pre B S0 row.length), _, rfl, hDN5, ⟨_, rfl⟩, skey_h ht5, skey_depth _, hg, rl, _, _, rfl, rfl, e5wl, by rw [ni_len]; omega, ?_⟩
        have n56 : SameN (upd (upd H3 nd (DnO w nd ents2)) sl (.lst (es'.map V.ref ++ [.ref tt]))) (upd (upd (upd H3 nd (DnO w nd ents2)) sl (.lst (es'.map V.ref ++ [.ref tt]))) rl (.lst (ni row ++ [.int (j' : Nat)]))) := snu (snr _) fun o e => by rw [e5wl] at e; cases e; rfl
        have hp' : (ps' ++ [pre B S0 row.length])[rows.length]? = some S0 := by rw [List.getElem?_append_left (List.getElem?_eq_some_iff.mp q8).1]; exact q8
        refine ⟨_, es' ++ [tt], row ++ [j'], _, _, _, _, rfl, sst q1' (sst s34 (sst s45 (ssu (by simp)))), un' nrs.symm e5pl, (q3'.mono sO_f (snt n34 (snt n45 n56))).snoc (n56 _ _ ht5 rfl), hDN5.lst e5wl, ?_, by simp, (q7.new q8 hnew).old hp' hj', hp'⟩
        rw [upd_same]
        unfold ni
        rw [List.map_append]
        rfl
      · obtain ⟨j', hj', hg⟩ := nmD_get (f := skey) (d := ([] : List Nat)) skey_inj (Classical.not_not.mp hold)
        refine ⟨_, rfl, .inl ⟨rfl, _, SqL.of q5'⟩, _, rfl, _, rfl, nd, _, skey (pre B S0 row.length), _, rfl, q4', ⟨_, rfl⟩, key, skey_depth _, hg, rl, _, _, rfl, rfl, q5', by rw [ni_len]; omega, ?_⟩
        have n56 : SameN H3 (upd H3 rl (.lst (ni row ++ [.int (j' : Nat)]))) := snu (snr _) fun o e => by rw [q5'] at e; cases e; rfl
        refine ⟨ps', es', row ++ [j'], _, _, _, _, rfl, sst q1' (ssu (by simp)), un' nrs.symm q2', q3'.mono sO_f n56, q4'.lst q5', ?_, by simp, q7.old q8 hj', q8⟩
        rw [upd_same]
        unfold ni
        rw [List.map_append]
        rfl
    · rintro σ' H2 ⟨ps', es', row, v7, v8, v9, v10, rfl, q1, q2, q3, q4, q5, q6, q7, q8⟩
      rw [hl0, Int.toNat_natCast] at q6
      have e2wl := q1 wl _ hwS g4s
      have hpl' := q7.len h4
      have hlt' := (List.getElem?_eq_some_iff.mp q8).1
      have sH2 := q1.same sHs hS
      refine ⟨_, rfl, .inl ⟨rfl, _, SqL.of e2wl⟩, _, rfl, wl, _, _, rfl, rfl, e2wl, by rw [List.length_map, g5]; omega, ?_⟩
      have n23 : SameN H2 (upd H2 wl (.lst (rs.map V.ref ++ [.ref rl]))) := snu (snr _) fun o e => by rw [e2wl] at e; cases e; rfl
      have e3s := un' (u := .lst (rs.map V.ref ++ [.ref rl])) nsw q2
      refine ⟨_, rfl, sl, _, rfl, .inl (SqL.of e3s), _, rfl, _, _, rfl, rfl, _, rfl, ifb (c := false) (decide_eq_false (by rw [List.length_map, q3.1]; omega)) (fun h => nomatch h) fun _ => ?_⟩
      refine ⟨ps', rows ++ [row], es', rs ++ [rl], _, _, _, _, _, rfl, Same.mut sH2 hwlH, e3s, q3.mono sO_f n23, q4.lst e2wl, by rw [upd_same, List.map_append]; rfl, by rw [List.length_append, List.length_append, g5]; rfl, fun i r' row' h1 h2 => ?_, q7.row q6, by rw [List.length_append, List.length_singleton]; omega, by rw [List.length_append]; rfl⟩
      rcases Nat.lt_or_ge i rs.length with hi | hi
      · rw [List.getElem?_append_left hi] at h1
        rw [List.getElem?_append_left (by rw [← g5]; exact hi)] at h2
        obtain ⟨a1, a2, a3, a4⟩ := g6s i r' row' h1 h2
        refine ⟨a1, a2, un' a2 (q1 r' _ ?_ a4)⟩
        simp only [List.mem_cons, List.not_mem_nil, or_false, not_or]
        exact ⟨a1, fun z => (by rw [z, eD0] at a4; cases a4), a3⟩
      · rw [List.getElem?_append_right hi] at h1
        rw [List.getElem?_append_right (by rw [← g5]; exact hi), ← g5] at h2
        obtain ⟨hz, h1⟩ := List.getElem?_eq_some_iff.mp h1
        obtain ⟨_, h2⟩ := List.getElem?_eq_some_iff.mp h2
        simp at h1 h2
        subst h1 h2
        exact ⟨nrs, nrw, un' nrw q5⟩
  · have hrl : rows.length = ss.length := by omega
    refine ⟨_, rfl, _, rfl, sl, rfl, ⟨_, SqL.of g1⟩, fun D hD => lc_each (walk_list (xs := es.map V.ref)) (fun i v _ => ∃ z, (ss.map fun S => decide (0 ∈ S))[i]? = some z ∧ v = .bl z) (fun _ _ _ _ _ h => h) hD (small1000 (by rw [List.length_map, g2.1]; omega)) (fun H s => SqL.of (s _ _ g1)) yat_same (fun i x H2 H3 hi s2 s3 y k2 kk => ?_) fun H2 acc s2 e2 hla hR => ?_⟩
    · obtain ⟨rfl, hx⟩ := y
      rw [List.length_map, g2.1] at hi
      have hpi : ss[i]? = some ss[i] := List.getElem?_eq_getElem hi
      obtain ⟨e, ee, he⟩ := g2.at_ hpi
      rw [ee] at hx
      cases hx
      have he3 := s3 _ _ he
      exact ⟨rfl, _, rfl, e, _, rfl, .inr (SqT.of (show _ = some (HO.tup (ni ss[i])) from he3)), rfl, ni_flat _, kk _ _ (srf _) ⟨_, by rw [List.getElem?_map, hpi]; rfl, congrArg V.bl (inV_ni (n := 0))⟩⟩
    · have ea : acc = (ss.map fun S => decide (0 ∈ S)).map V.bl := map_range hR (by rw [hla, List.length_map, List.length_map, g2.1])
      refine ⟨Nat.le_of_ble_eq_true rfl, fun p hpp => ?_⟩
      obtain ⟨d1, d2⟩ := g7.mir ok hrl
      have s3 := str s2 (Same.new (o := .tup [.ref wl, .ref D]) hpp)
      refine q p wl D (Tab.mir ss rows) _ (str s1' s3) d1 (by show rows.length ≤ _; omega) d2 upd_same ⟨rs, s3 _ _ g4, g5, fun i r' row h1 h2 => s3 _ _ (g6 i r' row h1 h2).2.2⟩ ?_
      rw [upd_ne (ne_of_none e2 hpp), e2, ea]
      rfl
theorem cg_mirrored {w : World} {base : Heap} (T : Tx P K mg) : Cg P w K mg base 1 "mirrored" (sp_mirrored K) := .fn (g_mirrored T) (k_mirrored T) (F_mirrored T)
end
end K5
end
section
set_option maxRecDepth 100000
set_option maxHeartbeats 2000000
/-! judge_sound: promise and walk -/
namespace K5
open PySem PySem.Spec PyProof.Rows L2
section
variable {P : Program} {K : PySem.W.Frag} {mg : Str → Option Value}
def sp_judge_sound (K : PySem.W.Frag) : Sp := fun vs H Q E => ∃ (a b va : Addr) (ls : List Nat) (Rs : List Rl) (B : Tab), vs = [.ref a, .ref b] ∧ VaO K H va ls ∧ LetOk ls ∧ BoO K H a va ls Rs ∧ ClO K H b va B ∧ TabOk ls.length B ∧ AllIn ls.length B ∧ B.n ≤ 8 ∧
  ∀ (r : Addr) (t : Bool) H', Same H H' → JuO K H' r t → (t = true ↔ ∀ R ∈ Rs, Snd ls.length R fun w => B.acc w = true) → Q (.ref r) H'
theorem F_judge_sound {w : World} {base : Heap} (T : Tx P K mg) : FnR P w K mg base CX0 9 (a_judge_sound K) (sp_judge_sound K) := by
  refine fnr (f_judge_sound T) sc_judge_sound (fun vs H Q E h => by obtain ⟨_, _, _, _, _, _, rfl, _⟩ := h; rfl) (fun _ _ _ _ _ _ us hl => match us, hl with | [_, _], _ => rfl) fun cdv A outer s H vs Q E hr h => ?_
  refine ⟨_, (pss_cons (ps_expr (pe_g (cg_need_values_sound T) (hr.mono (by decide)) (pa_cons (pv 0) (pa_cons (pv 1) pa_nil))))
  (pss_cons (ps_set (i := 2) sc_judge_sound.nd rfl (Or.inr rfl) (pe_g (cg_lost_states T) (hr.mono (by decide)) (pa_cons (pv 1) pa_nil)))
  (pss_cons (ps_set (i := 3) sc_judge_sound.nd rfl (Or.inl rfl) (pe_callTy call_tuple_of rfl (e_tuple T) boot_tuple (pa_cons (pe_lcD (own := [("rule", 7)]) s H rfl sc_judge_sound.nd (pi_tup (pe_p (pv 0) (F_Book_rules T) (hr.mono (by decide)))) (blkOk_by (N := n_judge_sound) (sc := defScope s_judge_sound) (by decide +kernel)) (fun _ _ _ _ _ => (pg_name (i := 7) sc_judge_sound.nd rfl (Or.inl rfl))) (fun _ _ _ _ _ => pts_nil) (fun _ _ _ _ _ => (pe_g (cg_rows_of T) (hr.mono (by decide)) (pa_cons (pv 7) (pa_cons (pv 1) pa_nil))))) pa_nil)))
  (pss_cons (ps_if (pt_val (pe_callB (cr_all rfl) rfl (e_all T) boot_all (pa_cons (pe_lcD (own := [("rule", 7), ("row", 8)]) s H rfl sc_judge_sound.nd (pi_zipS rfl (e_zip T) (pa_cons (pe_p (pv 0) (F_Book_rules T) (hr.mono (by decide))) (pa_cons (pv 3) pa_nil))) (blkOk_by (N := n_judge_sound) (sc := defScope s_judge_sound) (by decide +kernel)) (fun _ _ _ _ _ => (pg_tup rfl (pgs_cons (pg_name (i := 7) sc_judge_sound.nd rfl (Or.inl rfl)) (pgs_cons (pg_name (i := 8) sc_judge_sound.nd rfl (Or.inl rfl)) pgs_nil)))) (fun _ _ _ _ _ => pts_nil) (fun _ _ _ _ _ => (pe_g (cg_is_sound_row T) (hr.mono (by decide)) (pa_cons (pv 7) (pa_cons (pv 1) (pa_cons (pe_ix ix_tup (pv 8) (pe_un un_neg pe_int) (fun _ _ => rfl)) (pa_cons (pv 2) pa_nil))))))) pa_nil))) (pss_one (ps_ret (pe_g (cg_Sound T) (hr.mono (by decide)) (pa_cons (pv 2) (pa_cons (pv 3) pa_nil))))) pss_nil)
  (pss_cons (ps_set (i := 4) sc_judge_sound.nd rfl (Or.inl rfl) (pe_g (cg_spoiled_word T) (hr.mono (by decide)) (pa_cons (pv 0) (pa_cons (pv 1) pa_nil))))
  (pss_cons (ps_asg (pe_g (cg_first_strike T) (hr.mono (by decide)) (pa_cons (pv 0) (pa_cons (ClX.pe_cmeth (pe_glob (v := .ref _) rfl (g_Line T) rfl) ((r_Line T)) ((cm_Line_sure T)) (F_Line_sure T) (hr.mono (by decide)) pass0 (pa_cons (pe_f (pv 0)) (pa_cons (pv 4) pa_nil))) pa_nil))) (pg_tup rfl (pgs_cons (pg_name (i := 5) sc_judge_sound.nd rfl (Or.inl rfl)) (pgs_cons (pg_name (i := 6) sc_judge_sound.nd rfl (Or.inl rfl)) pgs_nil))))
  (pss_one (ps_ret (pe_g (cg_Unsound T) (hr.mono (by decide)) (pa_cons (pv 4) (pa_cons (pv 5) (pa_cons (pv 6) pa_nil)))))))))))), ?_⟩
  obtain ⟨a, b, va, ls, Rs, B, rfl, hv, ok, hb, hc, bk, all, h8, q⟩ := h
  obtain ⟨tr, rs, f, htr, hrl, hrs⟩ := hb.own T
  have h40 := hb.few
  have hlr : (rs.map V.ref).length = Rs.length := by rw [List.length_map, hrl]
  refine ⟨_, rfl, _, rfl, a, b, va, ls, rfl, hb.alphabet T, hc.alphabet T, hv, ?_⟩
  refine ⟨_, rfl, b, va, ls, B, rfl, hv, ok.four, hc, bk, by omega, fun lp Lo H1 s1 e1 l60 hLo => ?_⟩
  have own : ∀ {H' : Hp}, Same H H' → Fld K H' a "own_rules" (.ref tr) := fun s => f.mono s
  refine ⟨_, rfl, a, rfl, (hb.mono (sn s1)).prp T (p_Book_rules_ T), a, tr, rfl, own s1, tr, rfl, ⟨_, SqT.of (s1 _ _ htr)⟩, fun D hD => lc_each (walk_tup (xs := rs.map V.ref)) (fun i v H' => ∃ p last R, v = .ref p ∧ Rs[i]? = some R ∧ RowsO H' p ls.length B R last) (fun i v H H' s ⟨p, last, R, e, e2, h⟩ => ⟨p, last, R, e, e2, h.mono s⟩) hD (small1000 (by omega)) (fun H s => SqT.of (s _ _ (s1 _ _ htr))) yat_same (fun i x H2 H3 hi s2 s3 y k kk => ?_) fun H2 acc s2 hD2 hla hR => ?_⟩
  · obtain ⟨rfl, hx⟩ := y
    rw [List.getElem?_map] at hx
    cases ec : rs[i]? with
    | none => rw [ec] at hx; cases hx
    | some r =>
      rw [ec] at hx
      cases hx
      have hi' : i < Rs.length := by rw [← hrl]; exact (List.getElem?_eq_some_iff.mp ec).1
      have eR : Rs[i]? = some Rs[i] := List.getElem?_eq_getElem hi'
      have s13 := sn (str s1 s3)
      have rk := hb.ok _ (List.mem_of_getElem? eR)
      exact ⟨rfl, _, rfl, _, rfl, r, b, va, ls, Rs[i], B, rfl, hv.mono s13, ok, (hrs i r _ ec eR).mono s13, rk, hc.mono s13, bk, by omega, fun p last H4 s4 hrw => kk _ _ s4 ⟨p, last, _, rfl, eR, hrw⟩⟩
  obtain ⟨ps, rfl, hps⟩ := refs_of (R := fun i c => ∃ last R, Rs[i]? = some R ∧ RowsO H2 c ls.length B R last) fun i v e => let ⟨p, last, R, e1, e2, e3⟩ := hR i v e; ⟨p, e1, last, R, e2, e3⟩
  refine ⟨D, _, rfl, .inl ⟨SqL.of hD2, fun t ht => ?_⟩⟩
  have s3 := str s1 (str s2 (Same.new (o := .tup (ps.map V.ref)) ht))
  have s23 := str s2 (Same.new (o := .tup (ps.map V.ref)) ht)
  have htt : (upd H2 t (.tup (ps.map V.ref))) t = some (.tup (ps.map V.ref)) := upd_same
  have hps3 : ∀ (i : Nat) c, ps[i]? = some c → ∃ last R, Rs[i]? = some R ∧ RowsO (upd H2 t (.tup (ps.map V.ref))) c ls.length B R last := fun i c e => let ⟨last, R, e1, e2⟩ := hps i c e; ⟨last, R, e1, e2.mono (sn (Same.new ht))⟩
  generalize upd H2 t (.tup (ps.map V.ref)) = H3 at s3 s23 htt hps3
  rw [List.length_map] at hla
  refine ⟨_, rfl, a, rfl, (hb.mono (sn s3)).prp T (p_Book_rules_ T), a, tr, rfl, own s3, _, rfl, tr, t, _, _, rfl, SqT.of (s3 _ _ htr), SqT.of htt, fun D2 hD2' => lc_each (walk_pairs (by rw [List.length_map, List.length_map, hla, List.length_map])) (fun i v _ => ∃ R, Rs[i]? = some R ∧ v = .bl (@decide (Snd ls.length R fun w => B.acc w = true) (Classical.propDecidable _))) (fun _ _ _ _ _ h => h) hD2' (small1000 (by omega)) (fun H s => ⟨SqT.of (s _ _ (s3 _ _ htr)), SqT.of (s _ _ htt)⟩) ypair_same (fun i x H4 H5 hi s4 s5 y k kk => ?_) fun H4 acc s4 hD4 hla4 hR4 => ?_⟩
  · obtain ⟨t2, y1, y2, rfl, ht2, rfl, e1', e2'⟩ := y
    have e1' : (rs.map V.ref)[i]? = some y1 := e1'
    have e2' : (ps.map V.ref)[i]? = some y2 := e2'
    rw [List.getElem?_map] at e1' e2'
    cases ec : rs[i]? with
    | none => rw [ec] at e1'; cases e1'
    | some r =>
      cases ed : ps[i]? with
      | none => rw [ed] at e2'; cases e2'
      | some p =>
        rw [ec] at e1'
        cases e1'
        rw [ed] at e2'
        cases e2'
        obtain ⟨last, R, eR, hrw⟩ := hps3 i p ed
        have s35 := sn (str s3 s5)
        obtain ⟨rrs, rl, f1, f2, f3, f4, f5, f6⟩ := hrw.mono (sn s5)
        refine ⟨_, _, rfl, SqT.of upd_same, rfl, _, _, rfl, _, _, rfl, rfl, rfl, _, rfl, _, rfl, _, rfl, _, rfl, p, _, _, _, rfl, rfl, SqT.of f1, at_last (by rw [List.getLast?_map, f2]; rfl), _, rfl, r, b, rl, lp, va, ls, R, ls.length, B, last, Lo, rfl, (hrs i r R ec eR).mono s35, hc.mono s35, bk, f3, s5 _ _ (s23 _ _ e1), by omega, f5, fun H6 s6 => kk _ _ s6 ⟨R, eR, ?_⟩⟩
        refine congrArg V.bl (Bool.eq_iff_iff.mpr (Iff.trans ?_ (@decide_eq_true_iff _ (Classical.propDecidable _)).symm))
        rw [sound_row bk all rfl f6 hLo]
        cases R.right <;> simp
  · rw [List.length_map, hrl] at hla4
    have ea : acc = (Rs.map fun R => @decide (Snd ls.length R fun w => B.acc w = true) (Classical.propDecidable _)).map V.bl := by
      rw [List.map_map]
      exact map_range (f := V.bl ∘ fun R => @decide (Snd ls.length R fun w => B.acc w = true) (Classical.propDecidable _)) hR4 hla4
    have s34 := str s3 s4
    refine ⟨D2, _, rfl, SqL.of (by rw [hD4, ea]), _, rfl, ifp (p := ∀ R ∈ Rs, Snd ls.length R fun w => B.acc w = true) ?_ (fun hy => ?_) fun hn => ?_⟩
    · rw [List.all_map, List.all_eq_true]
      exact ⟨fun h R hR => (@decide_eq_true_iff _ (Classical.propDecidable _)).mp (h R hR), fun h R hR => (@decide_eq_true_iff _ (Classical.propDecidable _)).mpr (h R hR)⟩
    · exact ⟨_, rfl, _, rfl, _, _, rfl, fun p H' s hj => q p true H' (str s34 s) hj ⟨fun _ => hy, fun _ => rfl⟩⟩
    · refine ⟨_, rfl, _, rfl, a, b, va, ls, Rs, B, rfl, hv.mono (sn s34), ok, hb.mono (sn s34), hc.mono (sn s34), bk, h8, hn, fun ks H5 s5 hne hwd hlen hacc hhit => ?_⟩
      have s35 := str s34 s5
      refine ⟨_, rfl, rfl, _, rfl, a, _, rfl, (hb.mono (sn s35)).alphabet T, _, rfl, va, ls, ks, rfl, hv.mono (sn s35), ok, hwd, hne, hlen, fun r H6 hr s6 hli => ?_⟩
      have s36 := str s35 s6
      exact ⟨a, r, va, ls, ks, Rs, rfl, hv.mono (sn s36), hb.mono (sn s36), hli, hlen, hhit, fun t i j H7 s7 et => ⟨t, _, rfl, SqT.of et, rfl, _, _, rfl, _, _, rfl, rfl, _, rfl, _, rfl, _, rfl, _, _, _, rfl, fun p H8 s8 hj => q p false H8 (str s36 (str s7 s8)) hj ⟨fun z => (nomatch z), fun z => absurd z hn⟩⟩⟩
theorem cg_judge_sound {w : World} {base : Heap} (T : Tx P K mg) : Cg P w K mg base 9 "judge_sound" (sp_judge_sound K) := .fn (g_judge_sound T) (k_judge_sound T) (F_judge_sound T)
end
end K5
end
section
set_option maxRecDepth 100000
set_option maxHeartbeats 2000000
/-! clues: promises and walks -/
namespace K5
open PySem PySem.Spec PyProof.Rows L2
section
variable {P : Program} {K : PySem.W.Frag} {mg : Str → Option Value}
def sp_need_values_clues (K : PySem.W.Frag) : Sp := fun vs H Q E => ∃ (va : Addr) (ls : List Nat), vs = [.ref va] ∧ VaO K H va ls ∧ Q .non H
theorem F_need_values_clues {w : World} {base : Heap} (T : Tx P K mg) : FnR P w K mg base CX0 1 (a_need_values_clues K) (sp_need_values_clues K) := by
  refine fnr (f_need_values_clues T) sc_need_values_clues (fun vs H Q E h => by obtain ⟨_, _, rfl, _⟩ := h; rfl) (fun _ _ _ _ _ _ us hl => match us, hl with | [_], _ => rfl) fun cdv A outer s H vs Q E hr h => ?_
  refine ⟨_, (pss_one (ps_if (pt_not (pt_val (pe_callB call_isi rfl (e_isinstance T) boot_isinstance (pa_cons (pv 0) (pa_cons (pe_glob (v := .ref _) rfl (g_Values T) rfl) pa_nil))))) (pss_one ps_never) pss_nil)), ?_⟩
  obtain ⟨va, ls, rfl, hv, q⟩ := h
  exact ⟨_, rfl, _, _, _, _, _, rfl, .own _, hv.ty T, kit_self, true, rfl, iteF q⟩
theorem cg_need_values_clues {w : World} {base : Heap} (T : Tx P K mg) : Cg P w K mg base 1 "need_values_clues" (sp_need_values_clues K) := .fn (g_need_values_clues T) (k_need_values_clues T) (F_need_values_clues T)
def sp_need_room (K : PySem.W.Frag) : Sp := fun vs H Q E => ∃ (p pr : Addr) (xs : List V) (y : V), vs = [.ref p] ∧ H p = some (.tup [.ref pr, y]) ∧ (H pr = some (.lst xs) ∨ H pr = some (.tup xs)) ∧ xs.length ≤ 64 ∧ Q (.ref p) H
theorem F_need_room {w : World} {base : Heap} (T : Tx P K mg) : FnR P w K mg base CX0 1 (a_need_room K) (sp_need_room K) := by
  refine fnr (f_need_room T) sc_need_room (fun vs H Q E h => by obtain ⟨_, _, _, _, rfl, _⟩ := h; rfl) (fun _ _ _ _ _ _ us hl => match us, hl with | [_], _ => rfl) fun cdv A outer s H vs Q E hr h => ?_
  obtain ⟨_, iMOST_STATES⟩ := T.iMOST_STATES
  refine ⟨_, (pss_cons (ps_if (PW.pt (pw_or (pt_cmp (pc_isN (pv 0))) (pw_or1 (pt_cmpR op_gt (pe_callB call_len_seq rfl (e_len T) boot_len (pa_cons (pe_ix ix_tup (pv 0) pe_int (fun _ _ => rfl)) pa_nil)) (pe_glob (v := .int 64) rfl iMOST_STATES ⟨_, rfl⟩) (by first | rfl | exact nomark _ | exact nobehind _ (by decide) (by decide)))))) (pss_one ps_never) pss_nil)
  (pss_one (ps_ret (pv 0)))), ?_⟩
  obtain ⟨_, iMOST_STATES⟩ := T.iMOST_STATES
  obtain ⟨p, pr, xs, y, rfl, hp, hpr, hl, q⟩ := h
  have hsq : SqL K H pr xs ∨ SqT K H pr xs := hpr.imp SqL.of SqT.of
  refine ⟨_, rfl, _, rfl, iteF ⟨_, rfl, p, _, _, _, rfl, rfl, SqT.of hp, rfl, pr, _, rfl, hsq, _, _, rfl, rfl, _, rfl, ifb (c := false) (decide_eq_false (by omega)) (fun h => nomatch h) fun _ => ⟨_, rfl, q⟩⟩⟩
theorem cg_need_room {w : World} {base : Heap} (T : Tx P K mg) : Cg P w K mg base 1 "need_room" (sp_need_room K) := .fn (g_need_room T) (k_need_room T) (F_need_room T)
def sp_is_row (K : PySem.W.Frag) : Sp := fun vs H Q E => ∃ (p : Addr) (row : List Nat) (many : Nat), vs = [.ref p, .int (row.length : Nat), .int (many : Nat)] ∧ H p = some (.lst (ni row)) ∧ row.length ≤ 4 ∧ (∀ s ∈ row, s < many) ∧ ∀ H', Same H H' → Q (.bl true) H'
theorem F_is_row {w : World} {base : Heap} (T : Tx P K mg) : FnR P w K mg base CX0 2 (a_is_row K) (sp_is_row K) := by
  refine fnr (f_is_row T) sc_is_row (fun vs H Q E h => by obtain ⟨_, _, _, rfl, _⟩ := h; rfl) (fun _ _ _ _ _ _ us hl => match us, hl with | [_, _, _], _ => rfl) fun cdv A outer s H vs Q E hr h => ?_
  refine ⟨_, (pss_cons (ps_if (PW.pt (pw_or (pt_not (pt_val (pe_callB call_isiT rfl (e_isinstance T) boot_isinstance (pa_cons (pv 0) (pa_cons (pe_tup (pa_cons (pe_bltn (v := .ty "list") rfl (e_list T) boot_list rfl) (pa_cons (pe_bltn (v := .ty "tuple") rfl (e_tuple T) boot_tuple rfl) pa_nil))) pa_nil))))) (pw_or1 (pt_cmpR op_ne (pe_callB call_len_seq rfl (e_len T) boot_len (pa_cons (pv 0) pa_nil)) (pv 1) (by first | rfl | exact nomark _ | exact nobehind _ (by decide) (by decide)))))) (pss_one (ps_ret pe_bl)) pss_nil)
  (pss_one (ps_ret (pe_callB (cr_all rfl) rfl (e_all T) boot_all (pa_cons (pe_lcD (own := [("state", 3)]) s H rfl sc_is_row.nd (pi_list (pv 0)) (blkOk_by (N := n_is_row) (sc := defScope s_is_row) (by decide +kernel)) (fun _ _ _ _ _ => (pg_name (i := 3) sc_is_row.nd rfl (Or.inl rfl))) (fun _ _ _ _ _ => pts_nil) (fun _ _ _ _ _ => (pe_g (cg_is_whole T) (hr.mono (by decide)) (pa_cons (pv 3) (pa_cons pe_int (pa_cons (pe_op op_sub (pv 2) pe_int) pa_nil)))))) pa_nil))))), ?_⟩
  obtain ⟨p, row, many, rfl, hp, h4, hlow, q⟩ := h
  have sz : 1000 ≤ sizeLine := by decide
  refine ⟨_, rfl, Nat.le_of_ble_eq_true rfl, fun tt ht => ?_⟩
  have hp' := uo (u := .tup [.ty "list", .ty "tuple"]) hp ht
  refine ⟨_, _, _, _, _, _, rfl, upd_same, .cons (.ty _) (.cons (.ty _) .nil), ty_lst hp', kit_lt, true, rfl, iteF ⟨_, rfl, p, _, rfl, .inl (SqL.of hp'), _, rfl, rfl, _, rfl, ifb (c := false) (by show (!decide _) = false; rw [ni_len, decide_eq_true rfl]; rfl) (fun h => nomatch h) fun _ => ?_⟩⟩
  refine ⟨_, rfl, p, rfl, ⟨_, SqL.of hp'⟩, fun D hD => lc_each (walk_list (xs := ni row)) (fun _ v _ => v = .bl true) (fun _ _ _ _ _ h => h) hD (small1000 (by rw [ni_len]; omega)) (fun H s => SqL.of (s _ _ hp')) yat_same (fun i x H1 H2 hi s1 s2 y k kk => ?_) fun H2 acc s e2 hl hR => ?_⟩
  · obtain ⟨rfl, hx⟩ := y
    obtain ⟨n, hn, rfl⟩ := ni_of hx
    have := hlow n (List.mem_of_getElem? hn)
    refine ⟨rfl, _, rfl, _, rfl, _, _, rfl, rfl, _, _, _, rfl, kk _ _ (srf _) (congrArg V.bl (decide_eq_true (by omega)))⟩
  · refine ⟨D, _, rfl, SqL.of (by rw [e2, all_true hR hl]), ?_⟩
    rw [all_rep]
    exact q _ (str (Same.new ht) s)
theorem cg_is_row {w : World} {base : Heap} (T : Tx P K mg) : Cg P w K mg base 2 "is_row" (sp_is_row K) := .fn (g_is_row T) (k_is_row T) (F_is_row T)
theorem RwL.sp {H H' : Hp} {a x C dx : Addr} {fs : List (Str × V)} {rows : List (List Nat)} (h : RwL H a rows) (hx : H x = some (.ins C dx fs)) (s : SameP x H H') : RwL H' a rows := by
  obtain ⟨rs, e1, e2, e3⟩ := h
  have n : ∀ {b : Addr} {xs : List V}, H b = some (.lst xs) → b ≠ x := fun e z => by rw [z, hx] at e; cases e
  exact ⟨rs, s _ _ (n e1) e1, e2, fun i r row h1 h2 => s _ _ (n (e3 i r row h1 h2)) (e3 i r row h1 h2)⟩
def sp_Clue_init (K : PySem.W.Frag) : Sp := fun vs H Q E => ∃ (x va p C dx a t : Addr) (k : Nat) (B : Tab), vs = [.ref x, .ref va, .ref p] ∧ (C = He.ga K "Clue" ∨ C = He.ga K "Machine") ∧ H x = some (.ins C dx []) ∧ H p = some (.tup [.ref a, .ref t]) ∧ RwL H a B.rows ∧ H t = some (.lst (B.told.map V.bl)) ∧ TabOk k B ∧ k ≤ 4 ∧ B.n ≤ 60 ∧
  ∀ (B' : Tab) H', SameP x H H' → Least k B B' → ClO K H' x va B' → (∃ dx' fs, H' x = some (.ins C dx' fs)) → Q .non H'
theorem F_Clue_init {w : World} {base : Heap} (T : Tx P K mg) : FnR P w K mg base CX0 4 (a_Clue_init K) (sp_Clue_init K) := by
  refine fnr (f_Clue_init T) sc_Clue_init (fun vs H Q E h => by obtain ⟨_, _, _, _, _, _, _, _, _, rfl, _⟩ := h; rfl) (fun _ _ _ _ _ _ us hl => match us, hl with | [_, _, _], _ => rfl) fun cdv A outer s H vs Q E hr h => ?_
  refine ⟨_, (pss_cons (ps_fld (pv 0) (pv 1) rfl)
  (pss_one (ps_asg (pe_g (cg_need_room T) (hr.mono (by decide)) (pa_cons (pe_g (cg_least_table T) (hr.mono (by decide)) (pa_cons (pe_ix ix_tup (pv 2) pe_int (fun _ _ => rfl)) (pa_cons (pe_ix ix_tup (pv 2) pe_int (fun _ _ => rfl)) pa_nil))) pa_nil)) (pg_tup rfl (pgs_cons (pg_fld (pv 0)) (pgs_cons (pg_fld (pv 0)) pgs_nil)))))), ?_⟩
  obtain ⟨x, va, p, C, dx, a, t, k, B, rfl, hC, hx, hp, hw, ht, ok, k4, h60, q⟩ := h
  have cC : Cls K C := by rcases hC with rfl | rfl; exact c_Clue T; exact c_Machine T
  have oA : NoAttr K C "alphabet" := by rcases hC with rfl | rfl; exact o_Clue_alphabet T; exact o_Machine_alphabet T
  have oS : NoAttr K C "steps" := by rcases hC with rfl | rfl; exact o_Clue_steps T; exact o_Machine_steps T
  have oT : NoAttr K C "told" := by rcases hC with rfl | rfl; exact o_Clue_told T; exact o_Machine_told T
  have npx : p ≠ x := fun z => by rw [z, hx] at hp; cases hp
  have ntx : t ≠ x := fun z => by rw [z, hx] at ht; cases ht
  have s1 : SameP x H (upd H x (.ins C dx [("alphabet", .ref va)])) := spu
  have ex1 : upd H x (.ins C dx [("alphabet", .ref va)]) x = some (.ins C dx [("alphabet", .ref va)]) := upd_same
  have hp1 := s1 _ _ npx hp
  refine ⟨_, rfl, _, rfl, _, _, _, _, rfl, hx, cC, oA, few, ?_⟩
  refine ⟨_, rfl, p, _, _, _, rfl, rfl, SqT.of hp1, rfl, _, rfl, p, _, _, _, rfl, rfl, SqT.of hp1, rfl, a, t, k, B, rfl, hw.sp hx s1, s1 _ _ ntx ht, ok, k4, h60, fun q1 pr pt B' H2 s2 hL e1 e2 e3 => ?_⟩
  obtain ⟨rs, r1, r2, r3⟩ := e2
  have hn := hL.few
  have ex2 := s2 _ _ ex1
  have npr : pr ≠ x := fun z => by rw [z, ex2] at r1; cases r1
  have npt : pt ≠ x := fun z => by rw [z, ex2] at e3; cases e3
  refine ⟨q1, pr, _, _, rfl, e1, .inr r1, by rw [List.length_map, r2]; show B'.n ≤ 64; omega, q1, _, rfl, SqT.of e1, rfl, _, _, rfl, ?_⟩
  refine ⟨_, rfl, _, _, _, _, rfl, ex2, cC, oS, few, _, _, rfl, _, rfl, _, _, _, _, rfl, upd_same, cC, oT, few, rfl, ?_⟩
  refine q B' _ (spt s1 (spt (sps s2) (spt spu spu))) hL ⟨C, dx, pr, pt, rs, hC, upd_same, un' npr (un' npr r1), r2, fun i r row h1 h2 => ?_, un' npt (un' npt e3)⟩ ⟨_, _, upd_same⟩
  have e := r3 i r row h1 h2
  have n : r ≠ x := fun z => by rw [z, ex2] at e; cases e
  exact un' n (un' n e)
def sp_Clue (K : PySem.W.Frag) : Sp := fun vs H Q E => ∃ (va p a t : Addr) (k : Nat) (B : Tab), vs = [.ref va, .ref p] ∧ H p = some (.tup [.ref a, .ref t]) ∧ RwL H a B.rows ∧ H t = some (.lst (B.told.map V.bl)) ∧ TabOk k B ∧ k ≤ 4 ∧ B.n ≤ 60 ∧
  ∀ (r : Addr) (B' : Tab) H', Same H H' → Least k B B' → ClO K H' r va B' → Q (.ref r) H'
theorem cg_Clue {w : World} {base : Heap} (T : Tx P K mg) : Cg P w K mg base 5 "Clue" (sp_Clue K) := (Cg.cls (g_Clue T) (m_Clue T) (F_Clue_init T)).imp fun vs H Q E ⟨va, p, a, t, k, B, e, hp, hw, ht, ok, k4, h60, q⟩ => by
  subst e
  intro x dx hx hdx hne
  have s0 : Same H (upd (upd H dx (.own x)) x (.ins (He.ga K "Clue") dx [])) := str (Same.new hdx) (Same.new (by rw [upd_ne hne.symm]; exact hx))
  exact ⟨x, va, p, _, dx, a, t, k, B, rfl, .inl rfl, upd_same, s0 _ _ hp, hw.mono s0, s0 _ _ ht, ok, k4, h60, fun B' H' s hL hc _ => ⟨rfl, q x B' H' (made hx hdx s) hL hc⟩⟩
/-- a clue that is a machine -/
def MaO (K : PySem.W.Frag) (H : Hp) (a va : Addr) (B : Tab) : Prop := ClO K H a va B ∧ ∃ dx fs, H a = some (.ins (He.ga K "Machine") dx fs)
theorem MaO.mono {H H' : Hp} {a va : Addr} {B : Tab} (s : SameN H H') (h : MaO K H a va B) : MaO K H' a va B := ⟨h.1.mono s, let ⟨dx, fs, e⟩ := h.2; ⟨dx, fs, s _ _ e rfl⟩⟩
theorem MaO.full {H : Hp} {a va : Addr} {B : Tab} (h : MaO K H a va B) : ∃ dx ps pt, H a = some (.ins (He.ga K "Machine") dx [("alphabet", .ref va), ("steps", .ref ps), ("told", .ref pt)]) := by
  obtain ⟨⟨C, dx, ps, pt, rs, _, e1, _⟩, dx', fs, e⟩ := h
  rw [e] at e1
  injection e1 with e1
  injection e1 with h1 h2 h3
  exact ⟨dx', ps, pt, by rw [e, h3]⟩
theorem ClO.tab {H : Hp} {a va : Addr} {B : Tab} (T : Tx P K mg) (h : ClO K H a va B) : ∃ ps pt, Fld K H a "steps" (.ref ps) ∧ Fld K H a "told" (.ref pt) ∧ RwT H ps B.rows ∧ H pt = some (.tup (B.told.map V.bl)) := by
  obtain ⟨ps, rs, f1, h1, h2, h3⟩ := h.steps T
  obtain ⟨pt, f2, h4⟩ := h.told T
  exact ⟨ps, pt, f1, f2, ⟨rs, h1, h2, h3⟩, h4⟩
def sp_Clue_beside (K : PySem.W.Frag) : Sp := fun vs H Q E => ∃ (a b va : Addr) (ls : List Nat) (r : Str) (B C : Tab), vs = [.ref a, .ref b, .str r] ∧ VaO K H va ls ∧ ls.length ≤ 4 ∧ ClO K H a va B ∧ ClO K H b va C ∧ (r = "and" ∨ r = "or") ∧ TabOk ls.length B ∧ TabOk ls.length C ∧ B.n * C.n ≤ 60 ∧
  ∀ (p pr pt : Addr) (D : Tab) H', Same H H' → TabOk ls.length D → D.n ≤ B.n * C.n → (∀ w, Wd ls.length w → D.acc w = ruleF r (B.acc w) (C.acc w)) → H' p = some (.tup [.ref pr, .ref pt]) → RwL H' pr D.rows → H' pt = some (.lst (D.told.map V.bl)) → Q (.ref p) H'
theorem F_Clue_beside {w : World} {base : Heap} (T : Tx P K mg) : FnR P w K mg base CX0 3 (a_Clue_beside K) (sp_Clue_beside K) := by
  refine fnr (f_Clue_beside T) sc_Clue_beside (fun vs H Q E h => by obtain ⟨_, _, _, _, _, _, _, rfl, _⟩ := h; rfl) (fun _ _ _ _ _ _ us hl => match us, hl with | [_, _, _], _ => rfl) fun cdv A outer s H vs Q E hr h => ?_
  refine ⟨_, (pss_cons (ps_if (pt_not (pt_cmpR (op_eqOwn (F_Values_eq T) (hr.mono (by decide))) (pe_f (pv 0)) (pe_f (pv 1)) (by first | rfl | exact nomark _ | exact nobehind _ (by decide) (by decide)))) (pss_one ps_never) pss_nil)
  (pss_one (ps_ret (pe_g (cg_paired T) (hr.mono (by decide)) (pa_cons (pe_tup (pa_cons (pe_f (pv 0)) (pa_cons (pe_f (pv 0)) pa_nil))) (pa_cons (pe_tup (pa_cons (pe_f (pv 1)) (pa_cons (pe_f (pv 1)) pa_nil))) (pa_cons (pv 2) pa_nil))))))), ?_⟩
  obtain ⟨a, b, va, ls, r, B, C, rfl, hv, k4, hc, hc2, hr2, ok, ok2, h60, q⟩ := h
  obtain ⟨ps, pt, f1, f2, hw, ht⟩ := hc.tab T
  refine ⟨_, rfl, a, _, rfl, hc.alphabet T, _, rfl, b, _, rfl, hc2.alphabet T, va, va, rfl, rfl, hv.eq T hv, va, va, ls, rfl, hv, hv, true, rfl, iteF ?_⟩
  refine ⟨_, rfl, a, _, rfl, f1, _, rfl, a, _, rfl, f2, Nat.le_of_ble_eq_true rfl, fun p1 hp1 => ?_⟩
  have s1 := Same.new (o := .tup [.ref ps, .ref pt]) hp1
  obtain ⟨ps2, pt2, g1, g2, hw2, ht2⟩ := (hc2.mono (sn s1)).tab T
  refine ⟨_, rfl, b, _, rfl, g1, _, rfl, b, _, rfl, g2, Nat.le_of_ble_eq_true rfl, fun p2 hp2 => ?_⟩
  have s2 := Same.new (o := .tup [.ref ps2, .ref pt2]) hp2
  refine ⟨_, rfl, p1, p2, ps, pt, ps2, pt2, r, ls.length, B, C, rfl, s2 _ _ upd_same, upd_same, (hw.mono (sn s1)).mono (sn s2), s2 _ _ (s1 _ _ ht), hw2.mono (sn s2), s2 _ _ ht2, hr2, ok, ok2, k4, h60, fun p pr pt D H' s3 => q p pr pt D H' (str s1 (str s2 s3))⟩
theorem mach_mth {H : Hp} {a va g : Addr} {B : Tab} {m : Str} (T : Tx P K mg) (h : MaO K H a va B) (hm : Meth K (He.ga K "Machine") m g) (l : ∀ v1 v2 v3 : V, ([("alphabet", v1), ("steps", v2), ("told", v3)] : List (Str × V)).lookup m = none := by intros; rfl) : Mth K H a m g := by
  obtain ⟨dx, ps, pt, e⟩ := h.full
  exact mth_of e (c_Machine T) hm (l _ _ _)
def sp_Clue_and (K : PySem.W.Frag) : Sp := fun vs H Q E => ∃ (a b va : Addr) (ls : List Nat) (B C : Tab), vs = [.ref a, .ref b] ∧ VaO K H va ls ∧ ls.length ≤ 4 ∧ MaO K H a va B ∧ ClO K H b va C ∧ TabOk ls.length B ∧ TabOk ls.length C ∧ B.n * C.n ≤ 60 ∧
  ∀ (r : Addr) (D : Tab) H', Same H H' → ClO K H' r va D → TabOk ls.length D → AllIn ls.length D → D.n ≤ 60 → (∀ w, Wd ls.length w → D.acc w = (B.acc w && C.acc w)) → Q (.ref r) H'
theorem F_Clue_and {w : World} {base : Heap} (T : Tx P K mg) : FnR P w K mg base CX0 6 (a_Clue_and K) (sp_Clue_and K) := by
  refine fnr (f_Clue_and T) sc_Clue_and (fun vs H Q E h => by obtain ⟨_, _, _, _, _, _, rfl, _⟩ := h; rfl) (fun _ _ _ _ _ _ us hl => match us, hl with | [_, _], _ => rfl) fun cdv A outer s H vs Q E hr h => ?_
  refine ⟨_, (pss_one (ps_ret (pe_g (cg_Clue T) (hr.mono (by decide)) (pa_cons (pe_f (pv 0)) (pa_cons (pe_m (pv 0) (F_Clue_beside T) (hr.mono (by decide)) (pa_cons (pv 1) (pa_cons pe_str pa_nil))) pa_nil))))), ?_⟩
  obtain ⟨a, b, va, ls, B, C, rfl, hv, k4, hc, hc2, ok, ok2, h60, q⟩ := h
  refine ⟨_, rfl, a, _, rfl, hc.1.alphabet T, _, rfl, a, rfl, mach_mth T hc (h_Machine_beside T), _, rfl, a, b, va, ls, "and", B, C, rfl, hv, k4, hc.1, hc2, .inl rfl, ok, ok2, h60, fun p pr pt D H1 s1 o1 n1 l1 e1 e2 e3 => ?_⟩
  refine ⟨va, p, pr, pt, ls.length, D, rfl, e1, e2, e3, o1, k4, by omega, fun r D' H2 s2 hL hc' => q r D' H2 (str s1 s2) hc' hL.ok hL.all (by have := hL.few; omega) fun w hw => ?_⟩
  rw [hL.acc w hw, l1 w hw]
  exact if_pos rfl
def sp_Clue_or (K : PySem.W.Frag) : Sp := fun vs H Q E => ∃ (a b va : Addr) (ls : List Nat) (B C : Tab), vs = [.ref a, .ref b] ∧ VaO K H va ls ∧ ls.length ≤ 4 ∧ MaO K H a va B ∧ ClO K H b va C ∧ TabOk ls.length B ∧ TabOk ls.length C ∧ B.n * C.n ≤ 60 ∧
  ∀ (r : Addr) (D : Tab) H', Same H H' → ClO K H' r va D → TabOk ls.length D → AllIn ls.length D → D.n ≤ 60 → (∀ w, Wd ls.length w → D.acc w = (B.acc w || C.acc w)) → Q (.ref r) H'
theorem F_Clue_or {w : World} {base : Heap} (T : Tx P K mg) : FnR P w K mg base CX0 6 (a_Clue_or K) (sp_Clue_or K) := by
  refine fnr (f_Clue_or T) sc_Clue_or (fun vs H Q E h => by obtain ⟨_, _, _, _, _, _, rfl, _⟩ := h; rfl) (fun _ _ _ _ _ _ us hl => match us, hl with | [_, _], _ => rfl) fun cdv A outer s H vs Q E hr h => ?_
  refine ⟨_, (pss_one (ps_ret (pe_g (cg_Clue T) (hr.mono (by decide)) (pa_cons (pe_f (pv 0)) (pa_cons (pe_m (pv 0) (F_Clue_beside T) (hr.mono (by decide)) (pa_cons (pv 1) (pa_cons pe_str pa_nil))) pa_nil))))), ?_⟩
  obtain ⟨a, b, va, ls, B, C, rfl, hv, k4, hc, hc2, ok, ok2, h60, q⟩ := h
  refine ⟨_, rfl, a, _, rfl, hc.1.alphabet T, _, rfl, a, rfl, mach_mth T hc (h_Machine_beside T), _, rfl, a, b, va, ls, "or", B, C, rfl, hv, k4, hc.1, hc2, .inr rfl, ok, ok2, h60, fun p pr pt D H1 s1 o1 n1 l1 e1 e2 e3 => ?_⟩
  refine ⟨va, p, pr, pt, ls.length, D, rfl, e1, e2, e3, o1, k4, by omega, fun r D' H2 s2 hL hc' => q r D' H2 (str s1 s2) hc' hL.ok hL.all (by have := hL.few; omega) fun w hw => ?_⟩
  rw [hL.acc w hw, l1 w hw]
  exact if_neg (by decide)
def sp_Clue_neg (K : PySem.W.Frag) : Sp := fun vs H Q E => ∃ (a va : Addr) (ls : List Nat) (B : Tab), vs = [.ref a] ∧ 1 ≤ ls.length ∧ ls.length ≤ 4 ∧ ClO K H a va B ∧ TabOk ls.length B ∧ B.n ≤ 4 ∧
  ∀ (r : Addr) (D : Tab) H', Same H H' → ClO K H' r va D → TabOk ls.length D → AllIn ls.length D → D.n ≤ 60 → (∀ w, Wd ls.length w → D.acc w = B.acc w.reverse) → Q (.ref r) H'
theorem F_Clue_neg {w : World} {base : Heap} (T : Tx P K mg) : FnR P w K mg base CX0 6 (a_Clue_neg K) (sp_Clue_neg K) := by
  refine fnr (f_Clue_neg T) sc_Clue_neg (fun vs H Q E h => by obtain ⟨_, _, _, _, rfl, _⟩ := h; rfl) (fun _ _ _ _ _ _ us hl => match us, hl with | [_], _ => rfl) fun cdv A outer s H vs Q E hr h => ?_
  obtain ⟨_, iMOST_STATES⟩ := T.iMOST_STATES
  refine ⟨_, (pss_one (ps_ret (pe_g (cg_Clue T) (hr.mono (by decide)) (pa_cons (pe_f (pv 0)) (pa_cons (pe_g (cg_need_room T) (hr.mono (by decide)) (pa_cons (pe_g (cg_mirrored T) (hr.mono (by decide)) (pa_cons (pe_f (pv 0)) (pa_cons (pe_f (pv 0)) (pa_cons (pe_glob (v := .int 64) rfl iMOST_STATES ⟨_, rfl⟩) pa_nil)))) pa_nil)) pa_nil))))), ?_⟩
  obtain ⟨a, va, ls, B, rfl, k1, k4, hc, ok, h4, q⟩ := h
  obtain ⟨ps, pt, f1, f2, hw, ht⟩ := hc.tab T
  refine ⟨_, rfl, a, _, rfl, hc.alphabet T, _, rfl, a, _, rfl, f1, _, rfl, a, _, rfl, f2, ps, pt, ls.length, B, rfl, hw, ht, ok, k4, k1, h4, fun p pr pt D H1 s1 o1 n1 l1 e1 e2 e3 => ?_⟩
  obtain ⟨rs, r1, r2, r3⟩ := id e2
  refine ⟨p, pr, _, _, rfl, e1, .inl r1, by rw [List.length_map, r2]; show D.n ≤ 64; omega, ?_⟩
  refine ⟨va, p, pr, pt, ls.length, D, rfl, e1, e2, e3, o1, k4, by omega, fun r D' H2 s2 hL hc' => q r D' H2 (str s1 s2) hc' hL.ok hL.all (by have := hL.few; omega) fun w hw => ?_⟩
  rw [hL.acc w hw, l1 w hw]
end
end K5
end
section
set_option maxRecDepth 100000
set_option maxHeartbeats 2000000
/-! machines: promise and walk -/
namespace K5
open PySem PySem.Spec PyProof.Rows L2
section
variable {P : Program} {K : PySem.W.Frag} {mg : Str → Option Value}
def sp_Machine_init (K : PySem.W.Frag) : Sp := fun vs H Q E => ∃ (x va dx a t : Addr) (ls : List Nat) (B : Tab), vs = [.ref x, .ref va, .ref a, .ref t] ∧ VaO K H va ls ∧ ls.length ≤ 4 ∧ H x = some (.ins (He.ga K "Machine") dx []) ∧ RwL H a B.rows ∧ H t = some (.lst (B.told.map V.bl)) ∧ TabOk ls.length B ∧ B.n ≤ 12 ∧
  ∀ (B' : Tab) H', SameP x H H' → Least ls.length B B' → MaO K H' x va B' → Q .non H'
theorem F_Machine_init {w : World} {base : Heap} (T : Tx P K mg) : FnR P w K mg base CX0 5 (a_Machine_init K) (sp_Machine_init K) := by
  obtain ⟨⟨oc, od, osl, kV, doc, pm, an, ct, cda, cc, lk, hcd, SK⟩, own, up⟩ := T.sup_Machine_init
  obtain ⟨cl, cld, csl, hcell⟩ := SK.cell
  refine fn_sup lk hcd sc_Machine_init hcell rfl (fun vs H Q E h => by obtain ⟨_, _, _, _, _, _, _, rfl, _⟩ := h; rfl) (fun us hl => match us, hl with | [_, _, _, _], _ => rfl) fun A outer s H vs Q E hr h => ?_
  obtain ⟨_, iMOST_WRITTEN⟩ := T.iMOST_WRITTEN
  obtain ⟨x, va, dx, a, t, ls, B, rfl, hv, k4, hx, hw, ht, ok, h12, q⟩ := h
  have sz : 1000 ≤ sizeLine := by decide
  have hpos := ok.pos
  obtain ⟨rs, w1, w2, w3⟩ := id hw
  have hlr : (rs.map V.ref).length = B.n := by rw [List.length_map, w2]; rfl
  have hlt : (B.told.map V.bl).length = B.n := by rw [List.length_map, ok.told]
  refine ⟨_, (psts_cons (PSt.of (ps_expr (pe_g (cg_need_values_clues T) (hr.mono (by decide)) (pa_cons (pv 1) pa_nil)))) (psts_cons (PSt.of (ps_if (PW.pt (pw_or (pt_not (pt_val (pe_callB call_isiT rfl (e_isinstance T) boot_isinstance (pa_cons (pv 2) (pa_cons (pe_tup (pa_cons (pe_bltn (v := .ty "list") rfl (e_list T) boot_list rfl) (pa_cons (pe_bltn (v := .ty "tuple") rfl (e_tuple T) boot_tuple rfl) pa_nil))) pa_nil))))) (pw_or1 (pt_not (pt_chain op_le op_le pe_int (pe_callB call_len_seq rfl (e_len T) boot_len (pa_cons (pv 2) pa_nil)) (pe_glob (v := .int 12) rfl iMOST_WRITTEN ⟨_, rfl⟩)))))) (pss_one ps_never) pss_nil)) (psts_cons (PSt.of (ps_if (pt_not (pt_val (pe_callB (cr_all rfl) rfl (e_all T) boot_all (pa_cons (pe_lcD (own := [("row", 4)]) s H rfl sc_Machine_init.nd (pi_list (pv 2)) (blkOk_by (N := n_Machine_init) (sc := defScope s_Machine_init) (by decide +kernel)) (fun _ _ _ _ _ => (pg_name (i := 4) sc_Machine_init.nd rfl (Or.inl rfl))) (fun _ _ _ _ _ => pts_nil) (fun _ _ _ _ _ => (pe_g (cg_is_row T) (hr.mono (by decide)) (pa_cons (pv 4) (pa_cons (pe_callB (call_lenOwn (F_Values_len T) (hr.mono (by decide))) rfl (e_len T) boot_len (pa_cons (pv 1) pa_nil)) (pa_cons (pe_callB call_len_seq rfl (e_len T) boot_len (pa_cons (pv 2) pa_nil)) pa_nil)))))) pa_nil)))) (pss_one ps_never) pss_nil)) (psts_cons (PSt.of (ps_if (PW.pt (pw_or (pt_not (pt_val (pe_callB call_isiT rfl (e_isinstance T) boot_isinstance (pa_cons (pv 3) (pa_cons (pe_tup (pa_cons (pe_bltn (v := .ty "list") rfl (e_list T) boot_list rfl) (pa_cons (pe_bltn (v := .ty "tuple") rfl (e_tuple T) boot_tuple rfl) pa_nil))) pa_nil))))) (pw_or1 (pt_cmpR op_ne (pe_callB call_len_seq rfl (e_len T) boot_len (pa_cons (pv 3) pa_nil)) (pe_callB call_len_seq rfl (e_len T) boot_len (pa_cons (pv 2) pa_nil)) (by first | rfl | exact nomark _ | exact nobehind _ (by decide) (by decide)))))) (pss_one ps_never) pss_nil)) (psts_cons (PSt.of (ps_if (pt_not (pt_val (pe_callB (cr_all rfl) rfl (e_all T) boot_all (pa_cons (pe_lcD (own := [("is_told", 5)]) s H rfl sc_Machine_init.nd (pi_list (pv 3)) (blkOk_by (N := n_Machine_init) (sc := defScope s_Machine_init) (by decide +kernel)) (fun _ _ _ _ _ => (pg_name (i := 5) sc_Machine_init.nd rfl (Or.inl rfl))) (fun _ _ _ _ _ => pts_nil) (fun _ _ _ _ _ => (pe_callB call_isi rfl (e_isinstance T) boot_isinstance (pa_cons (pv 5) (pa_cons (pe_bltn (v := .ty "bool") rfl (e_bool T) boot_bool rfl) pa_nil))))) pa_nil)))) (pss_one ps_never) pss_nil)) (psts_cons (pst_super (P0 := P) SK rfl rfl rfl rfl (sc_Machine_init.look2 _ _) rfl rfl (F_Clue_init T) (hr.mono (by decide)) (pa_cons (pv 1) (pa_cons (pe_tup (pa_cons (pv 2) (pa_cons (pv 3) pa_nil))) pa_nil))) (PSts.of pss_nil))))))), ?_⟩
  refine ⟨_, rfl, va, ls, rfl, hv, ?_⟩
  refine ⟨_, rfl, Nat.le_of_ble_eq_true rfl, fun t1 ht1 => ?_⟩
  have s1 := Same.new (o := .tup [.ty "list", .ty "tuple"]) ht1
  refine ⟨_, _, _, _, _, _, rfl, upd_same, .cons (.ty _) (.cons (.ty _) .nil), ty_lst (s1 _ _ w1), kit_lt, true, rfl, iteF ⟨_, rfl, _, _, rfl, .inl (SqL.of (s1 _ _ w1)), _, _, rfl, rfl, _, rfl, ?_⟩⟩
  refine ifb (c := true) (decide_eq_true (by rw [hlr]; omega)) (fun _ => ⟨_, _, rfl, rfl, _, rfl, ?_⟩) fun h => nomatch h
  refine ifb (c := false) (by show (!decide _) = false; rw [hlr, decide_eq_true (by omega)]; rfl) (fun h => nomatch h) fun _ => ?_
  refine ⟨_, rfl, a, rfl, ⟨_, SqL.of (s1 _ _ w1)⟩, fun D hD => lc_each (walk_list (xs := rs.map V.ref)) (fun _ v _ => v = .bl true) (fun _ _ _ _ _ h => h) hD (small1000 (by omega)) (fun H s => SqL.of (s _ _ (s1 _ _ w1))) yat_same (fun i y0 H1 H2 hi s2 s3 y k kk => ?_) fun H2 acc s2 e2 hl hR => ?_⟩
  · obtain ⟨rfl, hx0⟩ := y
    rw [hlr] at hi
    have hi' : i < rs.length := by rw [w2]; exact hi
    rw [List.getElem?_map, List.getElem?_eq_getElem hi'] at hx0
    cases hx0
    have sr := str s1 s3
    have hrow := w3 i _ _ (List.getElem?_eq_getElem hi') (getD_some' (d := []) hi)
    have hrB : B.rows.getD i [] ∈ B.rows := getD_mem hi
    have hwd := ok.wide _ hrB
    refine ⟨rfl, _, rfl, _, rfl, va, rfl, (hv.mono (sn sr)).len T, va, ls, rfl, hv.mono (sn sr), k4, _, rfl, by omega, _, rfl, a, _, rfl, .inl (SqL.of (sr _ _ w1)), _, B.rows.getD i [], (rs.map V.ref).length, ?_, sr _ _ hrow, by omega, fun s hs => by rw [hlr]; exact ok.low _ hrB s hs, fun H' s' => kk _ _ s' rfl⟩
    rw [hwd]
  refine ⟨D, _, rfl, SqL.of (by rw [e2, all_true hR hl]), _, rfl, ifb (c := false) (by show (!_) = false; rw [all_rep]; rfl) (fun h => nomatch h) fun _ => ?_⟩
  have s2' := str s1 s2
  refine ⟨_, rfl, Nat.le_of_ble_eq_true rfl, fun t2 ht2 => ?_⟩
  have s3 := str s2' (Same.new (o := .tup [.ty "list", .ty "tuple"]) ht2)
  refine ⟨_, _, _, _, _, _, rfl, upd_same, .cons (.ty _) (.cons (.ty _) .nil), ty_lst (s3 _ _ ht), kit_lt, true, rfl, iteF ⟨_, rfl, t, _, rfl, .inl (SqL.of (s3 _ _ ht)), _, rfl, a, _, rfl, .inl (SqL.of (s3 _ _ w1)), rfl, _, rfl, ifb (c := false) (by rw [hlr, hlt]; show (!decide _) = false; rw [decide_eq_true rfl]; rfl) (fun h => nomatch h) fun _ => ?_⟩⟩
  refine ⟨_, rfl, t, rfl, ⟨_, SqL.of (s3 _ _ ht)⟩, fun D3 hD3 => lc_each (walk_list (xs := B.told.map V.bl)) (fun _ v _ => v = .bl true) (fun _ _ _ _ _ h => h) hD3 (small1000 (by omega)) (fun H s => SqL.of (s _ _ (s3 _ _ ht))) yat_same (fun i y0 H3 H4 hi s4 s5 y k kk => ?_) fun H4 acc4 s4 e4 hl4 hR4 => ?_⟩
  · obtain ⟨rfl, hx0⟩ := y
    rw [List.getElem?_map] at hx0
    cases eb : B.told[i]? with
    | none => rw [eb] at hx0; cases hx0
    | some b =>
      rw [eb] at hx0
      cases hx0
      exact ⟨rfl, _, rfl, _, _, _, _, _, rfl, .ty _, ty_bl, kit_self, kk _ _ (srf _) rfl⟩
  refine ⟨D3, _, rfl, SqL.of (by rw [e4, all_true hR4 hl4]), _, rfl, ifb (c := false) (by show (!_) = false; rw [all_rep]; rfl) (fun h => nomatch h) fun _ => ?_⟩
  have s5 := str s3 s4
  refine ⟨x, _, dx, [], rfl, s5 _ _ hx, own, up, _, rfl, _, rfl, _, rfl, Nat.le_of_ble_eq_true rfl, fun p hp => ?_⟩
  have s6 := str s5 (Same.new (o := .tup [.ref a, .ref t]) hp)
  exact ⟨x, va, p, _, dx, a, t, ls.length, B, rfl, .inr rfl, s6 _ _ hx, upd_same, hw.mono s6, s6 _ _ ht, ok, k4, by omega, fun B' H' s hL hc hi => q B' H' (spt (sps s6) s) hL ⟨hc, hi⟩⟩
/-- a new machine -/
def sp_Machine (K : PySem.W.Frag) : Sp := fun vs H Q E => ∃ (va a t : Addr) (ls : List Nat) (B : Tab), vs = [.ref va, .ref a, .ref t] ∧ VaO K H va ls ∧ ls.length ≤ 4 ∧ RwL H a B.rows ∧ H t = some (.lst (B.told.map V.bl)) ∧ TabOk ls.length B ∧ B.n ≤ 12 ∧
  ∀ (r : Addr) (B' : Tab) H', Same H H' → Least ls.length B B' → MaO K H' r va B' → Q (.ref r) H'
theorem cg_Machine {w : World} {base : Heap} (T : Tx P K mg) : Cg P w K mg base 6 "Machine" (sp_Machine K) := (Cg.cls (g_Machine T) (m_Machine T) (F_Machine_init T)).imp fun vs H Q E ⟨va, a, t, ls, B, e, hv, k4, hw, ht, ok, h12, q⟩ => by
  subst e
  intro x dx hx hdx hne
  have s0 : Same H (upd (upd H dx (.own x)) x (.ins (He.ga K "Machine") dx [])) := str (Same.new hdx) (Same.new (by rw [upd_ne hne.symm]; exact hx))
  exact ⟨x, va, dx, a, t, ls, B, rfl, hv.mono (sn s0), k4, upd_same, hw.mono s0, s0 _ _ ht, ok, h12, fun B' H' s hL hc => ⟨rfl, q x B' H' (made hx hdx s) hL hc⟩⟩
end
end K5
end
section
set_option maxRecDepth 100000
set_option maxHeartbeats 2000000
/-! the law's own defs: the pen, letters, rows -/
namespace K5
open PySem PySem.Spec PyProof.Rows L2
theorem hu65 {A : Around} {k : Nat} (hr : Room k A) : A.units + 65 < cLine := by have := hr.un; omega
section
variable {P : Program} {K : PySem.W.Frag} {mg : Str → Option Value}
/-! ### lists of ints as data -/
def dpz (l : List Int) : List PyData := l.map PyData.int
theorem dpz_all {K : PySem.W.Frag} {H : Hp} : ∀ (l : List Int), DpAll K H (l.map V.int) (dpz l)
  | [] => .nil
  | n :: l => .cons (.int n) (dpz_all l)
theorem dpz_lay : ∀ l : List Int, PyData.canLayAll0 (dpz l) = true
  | [] => rfl
  | n :: l => by
    show (PyData.canLay0 (.int n) && PyData.canLayAll0 (dpz l)) = true
    rw [dpz_lay l]
    rfl
theorem dpz_depth : ∀ l : List Int, PyData.depthAll (dpz l) = 0
  | [] => rfl
  | n :: l => by
    show max (PyData.depth (.int n)) (PyData.depthAll (dpz l)) = 0
    rw [dpz_depth l]
    rfl
theorem dpz_shaped (l : List Int) : SeqAt.shaped (.list (dpz l)) = true := by
  show ((PyData.canLayAll0 (dpz l)) && decide (PyData.depthAll (dpz l) + 1 ≤ 64)) = true
  rw [dpz_lay, dpz_depth]
  rfl
theorem dpz_eqv : ∀ l : List Int, PyData.eqv (.list (dpz l)) (.list []) = decide (l = [])
  | [] => rfl
  | _ :: _ => rfl
theorem blend1 {f a : Int} (h : 0 ≤ f ∧ f < 2147483549) (ha : 0 ≤ a ∧ a ≤ 100000) : (f + 53267 * a + 661).natAbs < 2 ^ 64 := by omega
theorem blend2 {b a : Int} (h : 0 ≤ b ∧ b < 2147483629) (ha : 0 ≤ a ∧ a ≤ 100000) : (-(2 ^ 64) < b ∧ b < 2 ^ 64) ∧ (-(2 ^ 64) < 48029 * a ∧ 48029 * a < 2 ^ 64) ∧ (b * (2 * a + 599) + 48029 * a * a + 251).natAbs < 2 ^ 64 := by
  have hb1 : 0 ≤ b * (2 * a + 599) := Int.mul_nonneg h.1 (by omega)
  have hb2 : b * (2 * a + 599) ≤ 2147483629 * 200599 := Int.mul_le_mul (by omega) (by omega) (by omega) (by decide)
  have hb3 : 0 ≤ 48029 * a * a := Int.mul_nonneg (by omega) (by omega)
  have hb4 : 48029 * a * a ≤ 4802900000 * 100000 := Int.mul_le_mul (by omega) (by omega) (by omega) (by decide)
  generalize b * (2 * a + 599) = x at hb1 hb2
  generalize 48029 * a * a = y at hb3 hb4
  omega
/-- the pen at p, of which at most c words were drawn -/
def PenO (H : Hp) (p l : Addr) (c : Nat) : Prop := ∃ (sc : List Int) (at_ : Nat) (g : Int), l ≠ p ∧ H p = some (.lst [.ref l, .int (at_ : Int), .int g]) ∧ H l = some (.lst (sc.map V.int)) ∧ sc.length ≤ 63 ∧ at_ ≤ c
theorem PenO.same {H H' : Hp} {p l : Addr} {c : Nat} (s : Same H H') (h : PenO H p l c) : PenO H' p l c := let ⟨sc, a, g, n, e1, e2, e3⟩ := h; ⟨sc, a, g, n, s _ _ e1, s _ _ e2, e3⟩
theorem PenO.up {H : Hp} {p l : Addr} {c c' : Nat} (hc : c ≤ c') (h : PenO H p l c) : PenO H p l c' := let ⟨sc, a, g, n, e1, e2, e3, e4⟩ := h; ⟨sc, a, g, n, e1, e2, e3, Nat.le_trans e4 hc⟩
theorem PenO.upd {H : Hp} {p l x : Addr} {c : Nat} {o : HO} (h1 : x ≠ p) (h2 : x ≠ l) (h : PenO H p l c) : PenO (upd H x o) p l c := let ⟨sc, a, g, n, e1, e2, e3⟩ := h; ⟨sc, a, g, n, un' h1.symm e1, un' h2.symm e2, e3⟩
theorem PenO.none {H : Hp} {p l x : Addr} {c : Nat} (h : PenO H p l c) (hx : H x = none) : x ≠ p ∧ x ≠ l := let ⟨sc, a, g, n, e1, e2, e3⟩ := h; ⟨(ne_of_none e1 hx).symm, (ne_of_none e2 hx).symm⟩
def sp_law_pen (K : PySem.W.Frag) : Sp := fun vs H Q E => ∃ (a : Addr) (ns : List Int), vs = [.ref a] ∧ SqL K H a (ns.map V.int) ∧ ns.length ≤ 63 ∧ ∀ p l H', H p = none → Same H H' → PenO H' p l 0 → Q (.ref p) H'
theorem F_law_pen {w : World} {base : Heap} (T : Tx P K mg) : FnR P w K mg base CX0 1 (a_law_pen K) (sp_law_pen K) := by
  refine fnr (f_law_pen T) sc_law_pen (fun vs H Q E h => by obtain ⟨_, _, rfl, _⟩ := h; rfl) (fun _ _ _ _ _ _ us hl => match us, hl with | [_], _ => rfl) fun cdv A outer s H vs Q E hr h => ?_
  refine ⟨_, (pss_one (ps_ret (pe_lst (pa_cons (pe_callTy call_list_of rfl (e_list T) boot_list (pa_cons (pe_slice sl_list (pv 0) po_none (po_some pe_int)) pa_nil)) (pa_cons pe_int (pa_cons pe_int pa_nil)))))), ?_⟩
  obtain ⟨a, ns, rfl, ha, hl, q⟩ := h
  refine ⟨_, rfl, ?_⟩
  dsimp only [tNoPart]
  refine ⟨63, rfl, a, _, rfl, ha, fun p1 hp1 => ⟨p1, _, rfl, .inl (SqL.of upd_same), fun l hl2 => ⟨Nat.le_of_ble_eq_true rfl, fun p hp => ?_⟩⟩⟩
  have s2 := str (Same.new (o := .lst (cutV (ns.map V.int) none (some 63))) hp1) (Same.new (o := .lst (cutV (ns.map V.int) none (some 63))) hl2)
  have ec : cutV (ns.map V.int) none (some 63) = ns.map V.int := by
    unfold cutV
    have e1 : HT.sIx (ns.map V.int).length 0 none = 0 := rfl
    have e2 : HT.sIx (ns.map V.int).length (ns.map V.int).length (some 63) = min 63 (ns.map V.int).length := HT.sIx_nat _ _ 63
    rw [e1, e2, List.drop_zero, List.take_of_length_le (by rw [List.length_map]; omega)]
  refine q p l _ (snone s2 hp) (str s2 (Same.new hp)) ⟨ns, 0, 0, ne_of_none upd_same hp, upd_same, uo (by rw [upd_same, ec]) hp, hl, Nat.le_refl _⟩
theorem cg_law_pen {w : World} {base : Heap} (T : Tx P K mg) : Cg P w K mg base 1 "_law_pen" (sp_law_pen K) := .fn (g_law_pen T) (k_law_pen T) (F_law_pen T)
def sp_law_draw (K : PySem.W.Frag) : Sp := fun vs H Q E => ∃ (p l : Addr) (m c : Nat), vs = [.ref p, .int (m : Int)] ∧ PenO H p l c ∧ 1 ≤ m ∧ m ≤ 1000 ∧ c ≤ 100000 ∧ ∀ (d : Nat) H', d < m → SameP p H H' → PenO H' p l (c + 1) → Q (.int (d : Int)) H'
theorem F_law_draw {w : World} {base : Heap} (T : Tx P K mg) : FnR P w K mg base CX0 1 (a_law_draw K) (sp_law_draw K) := by
  refine fnr (f_law_draw T) sc_law_draw (fun vs H Q E h => by obtain ⟨_, _, _, _, rfl, _⟩ := h; rfl) (fun _ _ _ _ _ _ us hl => match us, hl with | [_, _], _ => rfl) fun cdv A outer s H vs Q E hr h => ?_
  refine ⟨_, (pss_cons (ps_if (pt_cmpR op_gt (pe_ix ix_list (pv 0) pe_int (fun _ _ => rfl)) pe_int (by first | rfl | exact nomark _ | exact nobehind _ (by decide) (by decide))) (pss_cons (ps_set (i := 2) sc_law_draw.nd rfl (Or.inl rfl) (pe_op op_modN (pe_callTy call_int1 rfl (e_int T) boot_int (pa_cons (pe_ix ix_list (pv 0) pe_int (fun _ _ => rfl)) pa_nil)) (pv 1)))
  (pss_cons (ps_asg (pe_op op_fdivN (pe_callTy call_int1 rfl (e_int T) boot_int (pa_cons (pe_ix ix_list (pv 0) pe_int (fun _ _ => rfl)) pa_nil)) (pv 1)) (pg_sub (pv 0) pe_int set_list))
  (pss_one (ps_ret (pv 2))))) pss_nil)
  (pss_cons (ps_set (i := 3) sc_law_draw.nd rfl (Or.inl rfl) (pe_ix ix_list (pv 0) pe_int (fun _ _ => rfl)))
  (pss_cons (ps_asg (pe_op op_add (pv 3) pe_int) (pg_sub (pv 0) pe_int set_list))
  (pss_cons (ps_set (i := 4) sc_law_draw.nd rfl (Or.inl rfl) (pe_op op_add (pe_op op_mul pe_int (pv 3)) pe_int))
  (pss_cons (ps_if (pt_cmpR (op_neD (hu64 hr)) (pe_ix ix_list (pv 0) pe_int (fun _ _ => rfl)) (pe_lst pa_nil) (by first | rfl | exact nomark _ | exact nobehind _ (by decide) (by decide))) (pss_one (ps_set (i := 4) sc_law_draw.nd rfl (Or.inl rfl) (pe_ix ix_list (pe_ix ix_list (pv 0) pe_int (fun _ _ => rfl)) (pe_op op_modN (pe_callTy call_int1 rfl (e_int T) boot_int (pa_cons (pv 3) pa_nil)) (pe_callB call_len_seq rfl (e_len T) boot_len (pa_cons (pe_ix ix_list (pv 0) pe_int (fun _ _ => rfl)) pa_nil))) (fun _ _ => rfl)))) pss_nil)
  (pss_cons (ps_if (PW.pt (pw_and (pt_cmpR op_lt (pv 3) (pe_callB call_len_seq rfl (e_len T) boot_len (pa_cons (pe_ix ix_list (pv 0) pe_int (fun _ _ => rfl)) pa_nil)) (by first | rfl | exact nomark _ | exact nobehind _ (by decide) (by decide))) (pw_and1 (pt_cmpR op_ge (pe_callB call_abs rfl (e_abs T) boot_abs (pa_cons (pv 4) pa_nil)) (pe_op op_pow pe_int pe_int) (by first | rfl | exact nomark _ | exact nobehind _ (by decide) (by decide)))))) (pss_cons (ps_set (i := 5) sc_law_draw.nd rfl (Or.inl rfl) (pe_op op_add (pe_op op_mul pe_int (pe_op op_sub (pe_callB call_abs rfl (e_abs T) boot_abs (pa_cons (pv 4) pa_nil)) (pe_op op_pow pe_int pe_int))) (pe_callTy call_int1 rfl (e_int T) boot_int (pa_cons (pe_cmpR op_lt (pv 4) pe_int (by first | rfl | exact nomark _ | exact nobehind _ (by decide) (by decide))) pa_nil))))
  (pss_cons (ps_asg (pe_op op_fdivN (pe_callTy call_int1 rfl (e_int T) boot_int (pa_cons (pv 5) pa_nil)) (pv 1)) (pg_sub (pv 0) pe_int set_list))
  (pss_one (ps_ret (pe_op op_modN (pe_callTy call_int1 rfl (e_int T) boot_int (pa_cons (pv 5) pa_nil)) (pv 1)))))) pss_nil)
  (pss_cons (ps_set (i := 6) sc_law_draw.nd rfl (Or.inl rfl) (pe_op op_modN (pe_callTy call_int1 rfl (e_int T) boot_int (pa_cons (pe_op op_pow (pe_op op_add (pe_op op_add (pe_op op_modN (pe_callTy call_int1 rfl (e_int T) boot_int (pa_cons (pv 4) pa_nil)) pe_int) (pe_op op_mul pe_int (pv 3))) pe_int) pe_int) pa_nil)) pe_int))
  (pss_cons (ps_set (i := 6) sc_law_draw.nd rfl (Or.inl rfl) (pe_op op_modN (pe_callTy call_int1 rfl (e_int T) boot_int (pa_cons (pe_op op_pow (pe_op op_add (pe_op op_add (pe_op op_mul (pv 6) (pe_op op_add (pe_op op_mul pe_int (pv 3)) pe_int)) (pe_op op_mul (pe_op op_mul pe_int (pv 3)) (pv 3))) pe_int) pe_int) pa_nil)) pe_int))
  (pss_one (ps_ret (pe_op op_modN (pe_callTy call_int1 rfl (e_int T) boot_int (pa_cons (pe_op op_fdivN (pv 6) pe_int) pa_nil)) (pv 1)))))))))))), ?_⟩
  obtain ⟨p, l, m, c, rfl, ⟨sc, at_, g, nlp, e1, e2, hsl, hat⟩, h1, hm, hc, q⟩ := h
  have sz : 1000 ≤ sizeLine := by decide
  have hm0 : (m : Int) ≠ 0 := by omega
  have fm : ∀ (a b : Int), 0 < b → 0 ≤ a.fmod b ∧ a.fmod b < b := fun a b h => by
    rw [Int.fmod_eq_emod_of_nonneg a (by omega)]
    exact ⟨Int.emod_nonneg a (by omega), Int.emod_lt_of_pos a h⟩
  have hat2 : 0 ≤ (at_ : Int) ∧ (at_ : Int) ≤ 100000 := by omega
  have fin : ∀ (x : Int) H', SameP p H H' → (∃ (a' : Nat) (g' : Int), a' ≤ c + 1 ∧ H' p = some (.lst [.ref l, .int (a' : Int), .int g'])) → Q (.int (x.fmod (m : Int))) H' := fun x H' s ⟨a', g', h1', h2'⟩ => by
    obtain ⟨b1, b2⟩ := fm x m (by omega)
    have e := q (x.fmod m).toNat H' (by omega) s ⟨sc, a', g', nlp, h2', s _ _ nlp e2, hsl, h1'⟩
    rwa [Int.toNat_of_nonneg b1] at e
  refine ⟨_, rfl, p, _, _, _, rfl, rfl, SqL.of e1, rfl, _, _, rfl, rfl, _, rfl, ifp (p := g > 0) decide_eq_true_iff (fun hg => ?_) fun hg => ?_⟩
  · exact ⟨_, rfl, p, _, _, _, rfl, rfl, SqL.of e1, rfl, .inl ⟨_, rfl, _, rfl, _, _, rfl, rfl, hm0, _, rfl, p, _, _, _, rfl, rfl, SqL.of e1, rfl, .inl ⟨_, rfl, _, rfl, _, _, rfl, rfl, ⟨hm0, by omega⟩, _, rfl, p, _, _, 2, rfl, rfl, e1, rfl, _, rfl, fin _ _ spu ⟨at_, _, by omega, upd_same⟩⟩⟩⟩
  refine ⟨_, rfl, p, _, _, _, rfl, rfl, SqL.of e1, rfl, _, rfl, _, _, rfl, rfl, _, rfl, p, _, _, 1, rfl, rfl, e1, rfl, _, rfl, _, _, rfl, rfl, .inl ⟨by decide, by decide⟩, _, _, rfl, rfl, ?_⟩
  have s1 : SameP p H (upd H p (.lst [.ref l, .int ((at_ + 1 : Nat) : Int), .int g])) := spu
  have e1' : upd H p (.lst [.ref l, .int ((at_ + 1 : Nat) : Int), .int g]) p = some (.lst [.ref l, .int ((at_ + 1 : Nat) : Int), .int g]) := upd_same
  have e2' := s1 _ _ nlp e2
  refine ⟨_, rfl, p, _, _, _, rfl, rfl, SqL.of e1', rfl, Nat.le_of_ble_eq_true rfl, fun z hz => ⟨_, _, .lst (SqL.of (uo e2' hz)) (dpz_all sc), .lst (SqL.of upd_same) .nil, dpz_shaped sc, rfl, _, rfl, ifp (p := sc ≠ []) ?_ (fun hne => ?_) fun hne => ?_⟩⟩
  · rw [dpz_eqv]
    simp
  · have s2 := spt s1 (sps (p := p) (Same.new (o := .lst []) hz))
    have e1z := uo (u := .lst []) e1' hz
    have e2z := uo (u := .lst []) e2' hz
    have hlen : 0 < sc.length := List.length_pos_iff.mpr hne
    have hml : (sc.map V.int).length = sc.length := List.length_map _
    have hmod : at_ % sc.length < sc.length := Nat.mod_lt _ hlen
    refine ⟨_, rfl, p, _, _, _, rfl, rfl, SqL.of e1z, rfl, _, rfl, .inl ⟨_, rfl, _, rfl, p, _, _, _, rfl, rfl, SqL.of e1z, rfl, l, _, rfl, .inl (SqL.of e2z), _, _, rfl, rfl, by rw [hml]; omega, l, _, _, .int (sc.getD (at_ % sc.length) 0), rfl, rfl, SqL.of e2z, ?_, ?_⟩⟩
    · have e : (at_ : Int).fmod ((sc.map V.int).length : Int) = ((at_ % sc.length : Nat) : Int) := by
        rw [hml, Int.fmod_eq_emod_of_nonneg _ (by omega)]
        rfl
      rw [e]
      exact atI_nat (by rw [List.getElem?_map, getD_some' (d := 0) hmod]; rfl)
    generalize sc.getD (at_ % sc.length) 0 = z
    refine ⟨_, rfl, _, rfl, p, _, _, _, rfl, rfl, SqL.of e1z, rfl, l, _, rfl, .inl (SqL.of e2z), _, _, rfl, rfl, _, rfl, ifp (p := at_ < sc.length) ?_ (fun hlt => ?_) fun hge => ?_⟩
    · rw [decide_eq_true_iff, hml]
      omega
    · refine ⟨_, rfl, _, rfl, _, _, rfl, rfl, ⟨by decide, by decide, by decide⟩, _, _, rfl, rfl, _, rfl, ifp (p := (if z < 0 then -z else z) ≥ 10 ^ Int.toNat 18) decide_eq_true_iff (fun hbig => ?_) fun hsm => ?_⟩
      · exact ⟨_, rfl, _, rfl, _, _, rfl, rfl, ⟨by decide, by decide, by decide⟩, _, _, rfl, rfl, _, _, rfl, rfl, .inl ⟨by decide, by decide⟩, _, rfl, _, _, rfl, rfl, .inr ⟨_, rfl, _, _, rfl, rfl, _, rfl, .inl ⟨_, rfl, _, rfl, _, _, rfl, rfl, ⟨hm0, by omega⟩, _, rfl, p, _, _, 2, rfl, rfl, e1z, rfl, _, rfl, .inl ⟨_, rfl, _, rfl, _, _, rfl, rfl, hm0, fin _ _ (spt s2 spu) ⟨at_ + 1, _, by omega, upd_same⟩⟩⟩⟩⟩
      · skip
        refine ⟨_, rfl, .inl ⟨_, rfl, _, _, rfl, rfl, (by show (2147483549 : Int) ≠ 0; decide), _, rfl, _, _, rfl, rfl, .inl ⟨by decide, by decide⟩, _, _, rfl, rfl, _, _, rfl, rfl, _, _, rfl, rfl, ⟨by decide, by decide, blend1 (fm _ _ (by decide)) hat2⟩, .inl ⟨_, rfl, _, _, rfl, rfl, (by show (2147483629 : Int) ≠ 0; decide), ?_⟩⟩⟩
        have fb := fm ((z.fmod 2147483549 + 53267 * (at_ : Int) + 661) ^ Int.toNat 5) 2147483629 (by decide)
        have fb2 := blend2 fb hat2
        refine ⟨_, rfl, _, rfl, _, _, rfl, rfl, .inl ⟨by decide, by decide⟩, _, _, rfl, rfl, _, _, rfl, rfl, .inl fb2.1, _, rfl, _, _, rfl, rfl, .inl ⟨by decide, by decide⟩, _, rfl, _, _, rfl, rfl, .inl fb2.2.1, _, _, rfl, rfl, _, _, rfl, rfl, _, _, rfl, rfl, ⟨by decide, by decide, fb2.2.2⟩, .inl ⟨_, rfl, _, _, rfl, rfl, (by show (2147483587 : Int) ≠ 0; decide), ?_⟩⟩
        exact ⟨_, rfl, _, _, rfl, rfl, ⟨by decide, by decide⟩, .inl ⟨_, rfl, _, rfl, _, _, rfl, rfl, hm0, fin _ _ s2 ⟨at_ + 1, g, by omega, e1z⟩⟩⟩
    · skip
      refine ⟨_, rfl, .inl ⟨_, rfl, _, _, rfl, rfl, (by show (2147483549 : Int) ≠ 0; decide), _, rfl, _, _, rfl, rfl, .inl ⟨by decide, by decide⟩, _, _, rfl, rfl, _, _, rfl, rfl, _, _, rfl, rfl, ⟨by decide, by decide, blend1 (fm _ _ (by decide)) hat2⟩, .inl ⟨_, rfl, _, _, rfl, rfl, (by show (2147483629 : Int) ≠ 0; decide), ?_⟩⟩⟩
      have fb := fm ((z.fmod 2147483549 + 53267 * (at_ : Int) + 661) ^ Int.toNat 5) 2147483629 (by decide)
      have fb2 := blend2 fb hat2
      refine ⟨_, rfl, _, rfl, _, _, rfl, rfl, .inl ⟨by decide, by decide⟩, _, _, rfl, rfl, _, _, rfl, rfl, .inl fb2.1, _, rfl, _, _, rfl, rfl, .inl ⟨by decide, by decide⟩, _, rfl, _, _, rfl, rfl, .inl fb2.2.1, _, _, rfl, rfl, _, _, rfl, rfl, _, _, rfl, rfl, ⟨by decide, by decide, fb2.2.2⟩, .inl ⟨_, rfl, _, _, rfl, rfl, (by show (2147483587 : Int) ≠ 0; decide), ?_⟩⟩
      exact ⟨_, rfl, _, _, rfl, rfl, ⟨by decide, by decide⟩, .inl ⟨_, rfl, _, rfl, _, _, rfl, rfl, hm0, fin _ _ s2 ⟨at_ + 1, g, by omega, e1z⟩⟩⟩
  · have s2 := spt s1 (sps (p := p) (Same.new (o := .lst []) hz))
    have e1z := uo (u := .lst []) e1' hz
    have e2z := uo (u := .lst []) e2' hz
    have hsc : sc = [] := Classical.not_not.mp hne
    have hml : (sc.map V.int).length = 0 := by rw [hsc]; rfl
    refine ⟨_, rfl, _, rfl, p, _, _, _, rfl, rfl, SqL.of e1z, rfl, l, _, rfl, .inl (SqL.of e2z), _, _, rfl, rfl, _, rfl, ifb (c := false) (decide_eq_false (by rw [hml]; omega)) (fun h => nomatch h) fun _ => ?_⟩
    refine ⟨_, rfl, .inl ⟨_, rfl, _, _, rfl, rfl, (by show (2147483549 : Int) ≠ 0; decide), _, rfl, _, _, rfl, rfl, .inl ⟨by decide, by decide⟩, _, _, rfl, rfl, _, _, rfl, rfl, _, _, rfl, rfl, ⟨by decide, by decide, blend1 (fm _ _ (by decide)) hat2⟩, .inl ⟨_, rfl, _, _, rfl, rfl, (by show (2147483629 : Int) ≠ 0; decide), ?_⟩⟩⟩
    have fb := fm (((60817 * (at_ : Int) + 1373).fmod 2147483549 + 53267 * (at_ : Int) + 661) ^ Int.toNat 5) 2147483629 (by decide)
    have fb2 := blend2 fb hat2
    refine ⟨_, rfl, _, rfl, _, _, rfl, rfl, .inl ⟨by decide, by decide⟩, _, _, rfl, rfl, _, _, rfl, rfl, .inl fb2.1, _, rfl, _, _, rfl, rfl, .inl ⟨by decide, by decide⟩, _, rfl, _, _, rfl, rfl, .inl fb2.2.1, _, _, rfl, rfl, _, _, rfl, rfl, _, _, rfl, rfl, ⟨by decide, by decide, fb2.2.2⟩, .inl ⟨_, rfl, _, _, rfl, rfl, (by show (2147483587 : Int) ≠ 0; decide), ?_⟩⟩
    exact ⟨_, rfl, _, _, rfl, rfl, ⟨by decide, by decide⟩, .inl ⟨_, rfl, _, rfl, _, _, rfl, rfl, hm0, fin _ _ s2 ⟨at_ + 1, g, by omega, e1z⟩⟩⟩
theorem cg_law_draw {w : World} {base : Heap} (T : Tx P K mg) : Cg P w K mg base 1 "_law_draw" (sp_law_draw K) := .fn (g_law_draw T) (k_law_draw T) (F_law_draw T)
end
end K5
end
section
set_option maxRecDepth 100000
set_option maxHeartbeats 2000000
/-! the law's own defs: letters, cells, rows -/
namespace K5
open PySem PySem.Spec PyProof.Rows L2
theorem SameS.sp {S : List Addr} {p : Addr} {H H' H'' : Hp} (h : SameS S H' H'') (s : SameP p H H') (n : ∀ a ∈ S, a = p ∨ H a = none) : SameP p H H'' := fun a u e ea => h a u (fun z => by
  rcases n a z with h1 | h1
  · exact e h1
  · rw [h1] at ea; cases ea) (s a u e ea)
theorem sp_none {p a : Addr} {H H' : Hp} (s : SameP p H H') (h : a ≠ p) (hn : H' a = none) : H a = none := by
  cases e : H a with
  | none => rfl
  | some o => rw [s _ _ h e] at hn; cases hn
section
variable {J : It} {n : Nat} {G : Hp → Prop} {Y : Nat → Hp → V → Hp → Prop} {g : TG} {te : TE} {vs : List Nat} {σ : L2.St} {H1 : Hp} {D p l : Addr} {c st : Nat} {Qd : Hp → Prop}
/-- a comprehension over it, no tests: Pv by the turn and the heap -/
theorem lc_itY (w : Walk J n G Y) (Pv : Nat → Hp → Prop) (h0 : Pv 0 (upd H1 D (.lst []))) (hG : ∀ i H, i ≤ n → Pv i H → G H)
    (hs : ∀ i x H H', i < n → Pv i H → Y i H x H' → g x (wipe σ vs) H' fun σ2 H2 => wipe σ2 vs = wipe σ vs ∧ te σ2 H2 fun y H4 => ∃ acc, H4 D = some (.lst acc) ∧ acc.length < sizeLine ∧ Pv (i + 1) (upd H4 D (.lst (acc ++ [y])))) (hd : ∀ H, Pv n H → Qd H) : LcGoal J g tYes te vs σ H1 D Qd := by
  refine lc_it w Pv h0 hG (fun i x H H' hi hp hy => ?_) hd
  simp only [tYes, ↓reduceIte]
  exact hs i x H H' hi hp hy
/-- each item gives one value by the pen -/
theorem lc_pen (w : Walk J n G Y) (st : Nat) (R : Nat → V → Hp → Prop) (mono : ∀ i v H H', SameS [p, D] H H' → R i v H → R i v H') (h0 : H1 D = none) (hp : PenO H1 p l c) (hn : n < sizeLine) (hG : ∀ H, SameP p H1 H → G H) (hY : ∀ i x H H', Y i H x H' → Same H H')
    (hs : ∀ i x H H', i < n → SameP p H1 H' → PenO H' p l (c + st * i) → Y i H x H' → (∃ acc, H' D = some (.lst acc)) → ∀ k : Hp → Prop, (∀ H4 y, SameP p H' H4 → PenO H4 p l (c + st * (i + 1)) → R i y H4 → ∃ acc, H4 D = some (.lst acc) ∧ acc.length < sizeLine ∧ k (upd H4 D (.lst (acc ++ [y])))) →
      g x (wipe σ vs) H' fun σ2 H2 => wipe σ2 vs = wipe σ vs ∧ te σ2 H2 fun y H4 => ∃ acc, H4 D = some (.lst acc) ∧ acc.length < sizeLine ∧ k (upd H4 D (.lst (acc ++ [y]))))
    (hd : ∀ H acc, SameP p H1 H → PenO H p l (c + st * n) → H D = some (.lst acc) → acc.length = n → (∀ i v, acc[i]? = some v → R i v H) → Qd H) : LcGoal J g tYes te vs σ H1 D Qd := by
  obtain ⟨n1, n2⟩ := hp.none h0
  have sD : ∀ {H H' : Hp} {o}, SameP p H1 H → SameP p H H' → SameP p H1 (upd H' D o) := fun {H H' o} s s' a u e ea => by
    rw [upd_ne (ne_of_none ea h0)]
    exact s' _ _ e (s _ _ e ea)
  refine lc_itY w (fun i H => ∃ acc, H D = some (.lst acc) ∧ SameP p H1 H ∧ PenO H p l (c + st * i) ∧ acc.length = i ∧ ∀ j v, acc[j]? = some v → R j v H) ⟨[], upd_same, sps (Same.new h0), hp.upd n1 n2, rfl, fun j v e => by simp at e⟩ ?_ ?_ ?_
  · rintro i H _ ⟨acc, hD, s, _⟩
    exact hG _ s
  · rintro i x H H' hi ⟨acc, hD, s, hpen, hl, hR⟩ y
    have sY := hY _ _ _ _ y
    refine hs i x _ _ hi (spt s (sps sY)) (hpen.same sY) y ⟨acc, sY _ _ hD⟩ (fun H => ∃ acc, H D = some (.lst acc) ∧ SameP p H1 H ∧ PenO H p l (c + st * (i + 1)) ∧ acc.length = i + 1 ∧ ∀ j v, acc[j]? = some v → R j v H) fun H4 v s4 p4 r4 => ?_
    have hD4 : H4 D = some (.lst acc) := s4 _ _ n1 (sY _ _ hD)
    have ss : SameS [p, D] H (upd H4 D (.lst (acc ++ [v]))) := fun a u e ea => by
      simp only [List.mem_cons, List.not_mem_nil, or_false, not_or] at e
      rw [upd_ne e.2]
      exact s4 _ _ e.1 (sY _ _ ea)
    have ss4 : SameS [p, D] H4 (upd H4 D (.lst (acc ++ [v]))) := ssu (by simp)
    refine ⟨acc, hD4, by omega, acc ++ [v], upd_same, sD s (spt (sps sY) s4), p4.upd n1 n2, by simp [hl], fun j u e => ?_⟩
    rcases Nat.lt_or_ge j acc.length with hj | hj
    · rw [List.getElem?_append_left hj] at e
      exact mono _ _ _ _ ss (hR j u e)
    · rw [List.getElem?_append_right hj] at e
      obtain ⟨z, e⟩ := List.getElem?_eq_some_iff.mp e
      simp at e z
      have ej : j = i := by omega
      subst e ej
      exact mono _ _ _ _ ss4 r4
  · rintro H ⟨acc, hD, s, hpen, hl, hR⟩
    exact hd _ acc s hpen hD hl hR
end
theorem sum_one {cs : List Nat} (h : cs.length ≤ 1000) : ((cs.map fun c => (⟨#[c]⟩ : Str)).map (·.length)).sum + (cs.map fun c => (⟨#[c]⟩ : Str)).length * (Str.length "") ≤ 16777216 := by
  rw [List.map_map, List.length_map]
  have : (cs.map ((fun z : Str => z.length) ∘ fun c => (⟨#[c]⟩ : Str))).sum = cs.length := by
    have : ((fun z : Str => z.length) ∘ fun c => (⟨#[c]⟩ : Str)) = fun _ => 1 := rfl
    rw [this, List.map_const']
    generalize cs.length = q
    induction q with
    | zero => rfl
    | succ q ih => rw [List.replicate_succ, List.sum_cons, ih]; omega
  rw [this]
  show _ + _ * 0 ≤ _
  omega
section
variable {P : Program} {K : PySem.W.Frag} {mg : Str → Option Value}
def sp_law_pick (K : PySem.W.Frag) : Sp := fun vs H Q E => ∃ (p l : Addr) (c : Nat) (cs : List Nat), vs = [.ref p, .str (Sx cs)] ∧ PenO H p l c ∧ c ≤ 90000 ∧ 1 ≤ cs.length ∧ cs.length ≤ 4 ∧ ∀ (d x : Nat) H', cs[d]? = some x → SameP p H H' → PenO H' p l (c + 1) → Q (.str (Sx [x])) H'
theorem F_law_pick {w : World} {base : Heap} (T : Tx P K mg) : FnR P w K mg base CX0 2 (a_law_pick K) (sp_law_pick K) := by
  refine fnr (f_law_pick T) sc_law_pick (fun vs H Q E h => by obtain ⟨_, _, _, _, rfl, _⟩ := h; rfl) (fun _ _ _ _ _ _ us hl => match us, hl with | [_, _], _ => rfl) fun cdv A outer s H vs Q E hr h => ?_
  refine ⟨_, (pss_one (ps_ret (pe_ix ix_str (pv 1) (pe_g (cg_law_draw T) (hr.mono (by decide)) (pa_cons (pv 0) (pa_cons (pe_callB call_len_str rfl (e_len T) boot_len (pa_cons (pv 1) pa_nil)) pa_nil))) (fun _ _ => rfl)))), ?_⟩
  obtain ⟨p, l, c, cs, rfl, hp, hc, h1, h4, q⟩ := h
  have sz : 1000 ≤ sizeLine := by decide
  refine ⟨_, rfl, _, rfl, _, rfl, _, rfl, by rw [sx_len]; omega, p, l, cs.length, c, by rw [sx_len], hp, h1, by omega, by omega, fun d H' hd s hp' => ⟨_, _, cs[d], rfl, rfl, by rw [sx_len]; omega, ?_, ?_⟩⟩
  · rw [sx_list]
    exact atI_nat (List.getElem?_eq_getElem hd)
  · exact q d _ H' (List.getElem?_eq_getElem hd) s hp'
theorem cg_law_pick {w : World} {base : Heap} (T : Tx P K mg) : Cg P w K mg base 2 "_law_pick" (sp_law_pick K) := .fn (g_law_pick T) (k_law_pick T) (F_law_pick T)
def sp_law_two (K : PySem.W.Frag) : Sp := fun vs H Q E => ∃ k : Nat, vs = [.int (k : Int)] ∧ k ≤ 4 ∧ ∀ H', Same H H' → Q (.int ((2 ^ k : Nat) : Int)) H'
theorem F_law_two {w : World} {base : Heap} (T : Tx P K mg) : FnR P w K mg base CX0 1 (a_law_two K) (sp_law_two K) := by
  refine fnr (f_law_two T) sc_law_two (fun vs H Q E h => by obtain ⟨_, rfl, _⟩ := h; rfl) (fun _ _ _ _ _ _ us hl => match us, hl with | [_], _ => rfl) fun cdv A outer s H vs Q E hr h => ?_
  refine ⟨_, (pss_one (ps_ret (pe_ix ix_list (pe_lst (pa_cons pe_int (pa_cons pe_int (pa_cons pe_int (pa_cons pe_int (pa_cons pe_int (pa_cons pe_int pa_nil))))))) (pv 0) (fun _ _ => rfl)))), ?_⟩
  obtain ⟨k, rfl, hk, q⟩ := h
  refine ⟨Nat.le_of_ble_eq_true rfl, fun z hz => ⟨_, rfl, z, _, _, .int ((2 ^ k : Nat) : Int), rfl, rfl, SqL.of upd_same, atI_nat ?_, q _ (Same.new hz)⟩⟩
  rcases (show k = 0 ∨ k = 1 ∨ k = 2 ∨ k = 3 ∨ k = 4 by omega) with rfl | rfl | rfl | rfl | rfl <;> rfl
theorem cg_law_two {w : World} {base : Heap} (T : Tx P K mg) : Cg P w K mg base 1 "_law_two" (sp_law_two K) := .fn (g_law_two T) (k_law_two T) (F_law_two T)
def sp_law_cell (K : PySem.W.Frag) : Sp := fun vs H Q E => ∃ (p l : Addr) (c : Nat) (ls : List Nat), vs = [.ref p, .str (Sx ls)] ∧ PenO H p l c ∧ c ≤ 90000 ∧ LetOk ls ∧ ∀ (m : Nat) H', 0 < m → m < 2 ^ ls.length → SameP p H H' → PenO H' p l (c + 1) → Q (.str (Sx (sel ls m))) H'
theorem F_law_cell {w : World} {base : Heap} (T : Tx P K mg) : FnR P w K mg base CX0 2 (a_law_cell K) (sp_law_cell K) := by
  refine fnr (f_law_cell T) sc_law_cell (fun vs H Q E h => by obtain ⟨_, _, _, _, rfl, _⟩ := h; rfl) (fun _ _ _ _ _ _ us hl => match us, hl with | [_, _], _ => rfl) fun cdv A outer s H vs Q E hr h => ?_
  refine ⟨_, (pss_cons (ps_set (i := 2) sc_law_cell.nd rfl (Or.inr rfl) (pe_op op_add pe_int (pe_g (cg_law_draw T) (hr.mono (by decide)) (pa_cons (pv 0) (pa_cons (pe_op op_sub (pe_g (cg_law_two T) (hr.mono (by decide)) (pa_cons (pe_callB call_len_str rfl (e_len T) boot_len (pa_cons (pv 1) pa_nil)) pa_nil)) pe_int) pa_nil)))))
  (pss_one (ps_ret (pe_join pe_str (pe_lcD (own := [("_law_k", 3), ("_law_letter", 4)]) s H rfl sc_law_cell.nd (pi_enumS rfl (e_enumerate T) (pa_cons (pv 1) pa_nil)) (blkOk_by (N := n_law_cell) (sc := defScope s_law_cell) (by decide +kernel)) (fun _ _ _ _ _ => (pg_tup rfl (pgs_cons (pg_name (i := 3) sc_law_cell.nd rfl (Or.inl rfl)) (pgs_cons (pg_name (i := 4) sc_law_cell.nd rfl (Or.inl rfl)) pgs_nil)))) (fun _ _ _ _ _ => (pts_one (pt_cmpR op_eq (pe_op op_and (pe_op op_shr (pv 2) (pv 3)) pe_int) pe_int (by first | rfl | exact nomark _ | exact nobehind _ (by decide) (by decide))))) (fun _ _ _ _ _ => (pv 4))))))), ?_⟩
  obtain ⟨p, l, c, ls, rfl, hp, hc, ok, q⟩ := h
  have sz : 1000 ≤ sizeLine := by decide
  have h4 := ok.four
  have h2 := ok.two
  have hpow : 2 ^ 2 ≤ 2 ^ ls.length := Nat.pow_le_pow_right (by decide) h2
  have hpow4 : 2 ^ ls.length ≤ 2 ^ 4 := Nat.pow_le_pow_right (by decide) h4
  refine ⟨_, rfl, _, rfl, _, rfl, by rw [sx_len]; omega, ls.length, by rw [sx_len], h4, fun H1 s1 => ⟨_, _, rfl, rfl, p, l, 2 ^ ls.length - 1, c, ?_, hp.same s1, by omega, by omega, by omega, fun d H2 hd s2 hp2 => ⟨_, _, rfl, rfl, ?_⟩⟩⟩
  · show [V.ref p, V.int (((2 ^ ls.length : Nat) : Int) - 1)] = _
    rw [Int.natCast_sub (by omega)]
    rfl
  have en : (1 : Int) + (d : Int) = ((1 + d : Nat) : Int) := by omega
  refine ⟨⟨_, rfl⟩, _, rfl, _, rfl, fun D hD => lc_filt walk_enumE (fun i => .str ⟨#[ls.getD i 0]⟩) (1 + d).testBit hD (by rw [sx_size]; exact small1000 (by omega)) (fun _ _ => trivial) yenum_same (fun i v H3 H4 hi s3 s4 y k ky kn => ?_) fun H3 s3 hD3 => ?_⟩
  · obtain ⟨t, x1, rfl, ht, rfl, ch, hch, rfl⟩ := y
    have e : ls.getD i 0 = ch := by
      rw [sx_get] at hch
      rw [List.getD_eq_getElem?_getD, hch]
      rfl
    refine ⟨_, _, rfl, SqT.of upd_same, rfl, _, _, rfl, _, _, rfl, rfl, rfl, _, rfl, _, rfl, _, _, rfl, rfl, Int.natCast_nonneg _, _, _, rfl, rfl, rfl, _, rfl, ?_⟩
    refine ifb (c := (1 + d).testBit i) ?_ (fun hb => ?_) fun hb => kn _ hb (srf _)
    · show decide (V.int (Builtin.bitAnd (((1 : Int) + (d : Int)) / 2 ^ ((i : Int).toNat)) 1) = V.int 1) = _
      rw [en, bit_is]
      cases (1 + d).testBit i <;> rfl
    · obtain ⟨acc, hd, hl, hk⟩ := ky _ hb (srf _)
      refine ⟨_, rfl, acc, hd, hl, ?_⟩
      rw [e] at hk
      exact hk
  · have e : ((List.range (Sx ls).cps.size).filter (1 + d).testBit).map (fun i => V.str ⟨#[ls.getD i 0]⟩) = ((sel ls (1 + d)).map fun c => (⟨#[c]⟩ : Str)).map V.str := by
      rw [sx_size]
      unfold sel
      rw [List.map_map, List.map_map]
      rfl
    refine ⟨_, D, (sel ls (1 + d)).map fun c => (⟨#[c]⟩ : Str), rfl, rfl, .inl (SqL.of (by rw [hD3, e])), ?_, ?_⟩
    · exact sum_one (by have h := sel_len (ls := ls) (n := 1 + d); omega)
    · rw [sx_join]
      exact q (1 + d) _ (by omega) (by omega) (spt (spt (sps s1) s2) (sps s3)) (hp2.same s3)
theorem cg_law_cell {w : World} {base : Heap} (T : Tx P K mg) : Cg P w K mg base 2 "_law_cell" (sp_law_cell K) := .fn (g_law_cell T) (k_law_cell T) (F_law_cell T)
def chr1 (c : Nat) : V := .str ⟨#[c]⟩
theorem map_erase {α β : Type} (f : α → β) : ∀ (l : List α) (d : Nat), (l.map f).eraseIdx d = (l.eraseIdx d).map f
  | [], _ => rfl
  | _ :: _, 0 => rfl
  | a :: l, d + 1 => by
    show f a :: (l.map f).eraseIdx d = f a :: (l.eraseIdx d).map f
    rw [map_erase f l d]
theorem erase_perm : ∀ (l : List Nat) (d x : Nat), l[d]? = some x → l.Perm (x :: l.eraseIdx d)
  | [], d, x, h => by simp at h
  | a :: l, 0, x, h => by
    have : a = x := Option.some.inj h
    subst this
    exact List.Perm.refl _
  | a :: l, d + 1, x, h => by
    have h : l[d]? = some x := by simpa using h
    exact ((erase_perm l d x h).cons a).trans (List.Perm.swap x a _)
theorem alph_list : alphS.cps.toList.Nodup ∧ alphS.cps.toList.length = 26 ∧ ∀ c ∈ alphS.cps.toList, 97 ≤ c ∧ c ≤ 122 := by decide +kernel
def sp_law_letters (K : PySem.W.Frag) : Sp := fun vs H Q E => ∃ (p l : Addr) (c : Nat), vs = [.ref p] ∧ PenO H p l c ∧ c ≤ 80000 ∧ ∀ (ls : List Nat) H', LetOk ls → SameP p H H' → PenO H' p l (c + 5) → Q (.str (Sx ls)) H'
theorem F_law_letters {w : World} {base : Heap} (T : Tx P K mg) : FnR P w K mg base CX0 2 (a_law_letters K) (sp_law_letters K) := by
  refine fnr (f_law_letters T) sc_law_letters (fun vs H Q E h => by obtain ⟨_, _, _, rfl, _⟩ := h; rfl) (fun _ _ _ _ _ _ us hl => match us, hl with | [_], _ => rfl) fun cdv A outer s H vs Q E hr h => ?_
  refine ⟨_, (pss_cons (ps_set (i := 1) sc_law_letters.nd rfl (Or.inr rfl) (pe_callTy (cr_listTx rfl) rfl (e_list T) boot_list (pa_cons pe_str pa_nil)))
  (pss_cons (ps_set (i := 2) sc_law_letters.nd rfl (Or.inl rfl) (pe_ix ix_list (pe_lst (pa_cons pe_int (pa_cons pe_int (pa_cons pe_int (pa_cons pe_int (pa_cons pe_int (pa_cons pe_int (pa_cons pe_int (pa_cons pe_int pa_nil))))))))) (pe_g (cg_law_draw T) (hr.mono (by decide)) (pa_cons (pv 0) (pa_cons pe_int pa_nil))) (fun _ _ => rfl)))
  (pss_one (ps_ret (pe_join pe_str (pe_lcD (own := [("_law_k", 3)]) s H rfl sc_law_letters.nd (pi_range1 rfl (e_range T) (pa_cons (pv 2) pa_nil)) (blkOk_by (N := n_law_letters) (sc := defScope s_law_letters) (by decide +kernel)) (fun _ _ _ _ _ => (pg_name (i := 3) sc_law_letters.nd rfl (Or.inl rfl))) (fun _ _ _ _ _ => pts_nil) (fun _ _ _ _ _ => (pe_bm PySem.F.plainAttrs_list PySem.F.slot_list_pop PySem.F.type_list_pop mt_popAt (pv 1) (pa_cons (pe_g (cg_law_draw T) (hr.mono (by decide)) (pa_cons (pv 0) (pa_cons (pe_callB call_len_seq rfl (e_len T) boot_len (pa_cons (pv 1) pa_nil)) pa_nil))) pa_nil))))))))), ?_⟩
  obtain ⟨p, l, c, rfl, hp, hc, q⟩ := h
  have sz : 1000 ≤ sizeLine := by decide
  obtain ⟨al1, al2, al3⟩ := alph_list
  refine ⟨alphS, rfl, by decide, fun sl hsl => ?_⟩
  obtain ⟨n1, n2⟩ := hp.none hsl
  have s1 := Same.new (o := .lst (alphS.cps.toList.map fun c => V.str ⟨#[c]⟩)) hsl
  have e1 : upd H sl (.lst (alphS.cps.toList.map fun c => V.str ⟨#[c]⟩)) sl = some (.lst (alphS.cps.toList.map chr1)) := upd_same
  have hp1 := hp.same s1
  refine ⟨Nat.le_of_ble_eq_true rfl, fun ll hll => ⟨_, rfl, p, l, 8, c, rfl, hp1.same (Same.new hll), by decide, by decide, by omega, fun d H2 hd s2 hp2 => ?_⟩⟩
  have nll := (hp1.none hll)
  have e2l := s2 _ _ nll.1 (upd_same (H := upd H sl (.lst (alphS.cps.toList.map fun c => V.str ⟨#[c]⟩))) (a := ll) (o := .lst [.int 2, .int 2, .int 2, .int 2, .int 2, .int 3, .int 3, .int 4]))
  have e2 := s2 _ _ n1 (uo (u := .lst [.int 2, .int 2, .int 2, .int 2, .int 2, .int 3, .int 3, .int 4]) e1 hll)
  have hmany : ∃ n : Nat, 2 ≤ n ∧ n ≤ 4 ∧ ([.int 2, .int 2, .int 2, .int 2, .int 2, .int 3, .int 3, .int 4] : List V)[d]? = some (.int (n : Int)) := by
    rcases (show d = 0 ∨ d = 1 ∨ d = 2 ∨ d = 3 ∨ d = 4 ∨ d = 5 ∨ d = 6 ∨ d = 7 by omega) with rfl | rfl | rfl | rfl | rfl | rfl | rfl | rfl
    · exact ⟨2, by decide, by decide, rfl⟩
    · exact ⟨2, by decide, by decide, rfl⟩
    · exact ⟨2, by decide, by decide, rfl⟩
    · exact ⟨2, by decide, by decide, rfl⟩
    · exact ⟨2, by decide, by decide, rfl⟩
    · exact ⟨3, by decide, by decide, rfl⟩
    · exact ⟨3, by decide, by decide, rfl⟩
    · exact ⟨4, by decide, by decide, rfl⟩
  obtain ⟨n, hn2, hn4, hn⟩ := hmany
  have s02 : SameP p H H2 := spt (sps (str s1 (Same.new hll))) s2
  refine ⟨ll, _, _, _, rfl, rfl, SqL.of e2l, atI_nat hn, ⟨_, rfl⟩, _, rfl, _, rfl, by omega, by omega, fun D hD => lc_itY walk_range (fun i H' => ∃ left ls : List Nat, H' sl = some (.lst (left.map chr1)) ∧ H' D = some (.lst (ls.map chr1)) ∧ ls.length = i ∧ (left ++ ls).Nodup ∧ left.length + i = 26 ∧ (∀ c ∈ left ++ ls, 97 ≤ c ∧ c ≤ 122) ∧ PenO H' p l (c + 1 + i) ∧ SameS [p, sl, D] H2 H') ⟨alphS.cps.toList, [], un' (ne_of_none e2 hD) e2, upd_same, rfl, by rw [List.append_nil]; exact al1, by rw [al2], by rw [List.append_nil]; exact al3, hp2.same (Same.new hD), ssu (by simp)⟩ (fun _ _ _ _ => trivial) (fun i x H3 H4 hi hP y => ?_) fun H3 hP => ?_⟩
  · obtain ⟨rfl, rfl⟩ := y
    obtain ⟨left, ls, g1, g2, g3, g4, g5, g6, g7, g8⟩ := hP
    rw [Int.toNat_natCast] at hi
    have nD := (hp2.none hD)
    have nsD : sl ≠ D := ne_of_none e2 hD
    have hlm : (left.map chr1).length = left.length := List.length_map _
    refine ⟨rfl, _, rfl, .inl ⟨rfl, _, SqL.of g1⟩, _, rfl, _, rfl, sl, _, rfl, .inl (SqL.of g1), p, l, left.length, c + 1 + i, by rw [hlm], g7, by omega, by omega, by omega, fun d2 H5 hd2 s5 hp5 => ?_⟩
    have e5s := s5 _ _ n1 g1
    have e5D := s5 _ _ nD.1 g2
    have hx : left[d2]? = some left[d2] := List.getElem?_eq_getElem hd2
    generalize left[d2] = x at hx
    refine ⟨sl, _, _, d2, chr1 x, rfl, rfl, e5s, by omega, by omega, ?_, by rw [List.getElem?_map, hx]; rfl, ?_⟩
    · unfold seqIndex?
      rw [hlm]
      simp
      omega
    refine ⟨ls.map chr1, un' nsD.symm e5D, by rw [List.length_map]; omega, left.eraseIdx d2, ls ++ [x], ?_, ?_, by rw [List.length_append, g3]; rfl, ?_, ?_, ?_, ?_, ?_⟩
    · rw [upd_ne nsD, upd_same, map_erase]
    · rw [upd_same, List.map_append]
      rfl
    · refine (List.Perm.nodup_iff ?_).mp g4
      refine ((erase_perm left d2 x hx).append_right ls).trans ?_
      refine (List.perm_middle (l₁ := left.eraseIdx d2) (a := x) (l₂ := ls)).symm.trans ?_
      refine List.Perm.append_left _ ?_
      exact (List.perm_append_singleton x ls).symm
    · rw [List.length_eraseIdx, if_pos hd2]
      omega
    · intro y hy
      refine g6 y ?_
      rcases List.mem_append.mp hy with hy | hy
      · exact List.mem_append_left _ (List.mem_of_mem_eraseIdx hy)
      · rcases List.mem_append.mp hy with hy | hy
        · exact List.mem_append_right _ hy
        · rw [List.mem_singleton] at hy
          exact List.mem_append_left _ (hy ▸ List.mem_of_getElem? hx)
    · exact (hp5.upd n1 n2).upd nD.1 nD.2
    · refine sst g8 (sst (fun a u e ea => s5 a u (fun z => e (by rw [z]; simp)) ea) (sst (ssu (by simp)) (ssu (by simp))))
  · rw [Int.toNat_natCast] at hP
    obtain ⟨left, ls, g1, g2, g3, g4, g5, g6, g7, g8⟩ := hP
    have hok : LetOk ls := ⟨by omega, by omega, (List.nodup_append.mp g4).2.1, fun c hc => g6 c (List.mem_append_right _ hc)⟩
    refine ⟨_, D, ls.map fun c => (⟨#[c]⟩ : Str), rfl, rfl, .inl (SqL.of (by rw [g2, List.map_map]; rfl)), sum_one (by omega), ?_⟩
    rw [sx_join]
    have hDH : H D = none := sp_none s02 (hp2.none hD).1 hD
    refine q ls H3 hok (g8.sp s02 fun a ha => ?_) (g7.up (by omega))
    simp at ha
    rcases ha with rfl | rfl | rfl
    · exact .inl rfl
    · exact .inr hsl
    · exact .inr hDH
theorem cg_law_letters {w : World} {base : Heap} (T : Tx P K mg) : Cg P w K mg base 2 "_law_letters" (sp_law_letters K) := .fn (g_law_letters T) (k_law_letters T) (F_law_letters T)
end
end K5
end
section
set_option maxRecDepth 100000
set_option maxHeartbeats 2000000
/-! the law's own defs: rows of rules -/
namespace K5
open PySem PySem.Spec PyProof.Rows L2
theorem vals_of {α : Type} {f : α → V} : ∀ {acc : List V} {R : Nat → α → Prop}, (∀ (i : Nat) v, acc[i]? = some v → ∃ c, v = f c ∧ R i c) → ∃ cs : List α, acc = cs.map f ∧ ∀ (i : Nat) c, cs[i]? = some c → R i c
  | [], R, _ => ⟨[], rfl, fun i c e => by simp at e⟩
  | v :: acc, R, h => by
    obtain ⟨c, rfl, hc⟩ := h 0 v rfl
    obtain ⟨cs, rfl, hr⟩ := vals_of (acc := acc) (R := fun i => R (i + 1)) fun i v e => h (i + 1) v e
    refine ⟨c :: cs, rfl, fun i d e => ?_⟩
    cases i with
    | zero => cases e; exact hc
    | succ i => exact hr i d e
/-- a cell's text -/
def celV (ls : List Nat) (m : Nat) : V := .str (Sx (sel ls m))
/-- a row that tells a rule -/
def RoO (H : Hp) (r cl p : Addr) (ls : List Nat) (R : Rl) : Prop := cl ≠ p ∧ r ≠ p ∧ H r = some (.tup [.ref cl, .int (R.at_ : Int), .str (Sx [ls.getD R.kd 0]), .bl R.left, .bl R.right]) ∧ H cl = some (.lst (R.pat.map (celV ls)))
theorem RoO.sp {H H' : Hp} {r cl p : Addr} {ls : List Nat} {R : Rl} (s : SameP p H H') (h : RoO H r cl p ls R) : RoO H' r cl p ls R := ⟨h.1, h.2.1, s _ _ h.2.1 h.2.2.1, s _ _ h.1 h.2.2.2⟩
theorem sel_has {ls : List Nat} {m x : Nat} {d : Nat} (h : (sel ls m)[d]? = some x) : ∃ i, i < ls.length ∧ ls.getD i 0 = x ∧ m.testBit i = true := by
  obtain ⟨i, hi, hx⟩ := sel_get h
  have := List.mem_of_getElem? hi
  rw [List.mem_filter, List.mem_range] at this
  exact ⟨i, this.1, getD_of hx, this.2⟩
section
variable {P : Program} {K : PySem.W.Frag} {mg : Str → Option Value}
def sp_law_row (K : PySem.W.Frag) : Sp := fun vs H Q E => ∃ (p l : Addr) (c : Nat) (ls : List Nat) (top : Nat), vs = [.ref p, .str (Sx ls), .int (top : Int)] ∧ PenO H p l c ∧ c ≤ 80000 ∧ LetOk ls ∧ 1 ≤ top ∧ top ≤ 4 ∧
  ∀ (r cl : Addr) (R : Rl) H', H r = none → H cl = none → SameP p H H' → PenO H' p l (c + 9) → RlOk ls.length R → RoO H' r cl p ls R → Q (.ref r) H'
theorem F_law_row {w : World} {base : Heap} (T : Tx P K mg) : FnR P w K mg base CX0 3 (a_law_row K) (sp_law_row K) := by
  refine fnr (f_law_row T) sc_law_row (fun vs H Q E h => by obtain ⟨_, _, _, _, _, rfl, _⟩ := h; rfl) (fun _ _ _ _ _ _ us hl => match us, hl with | [_, _, _], _ => rfl) fun cdv A outer s H vs Q E hr h => ?_
  refine ⟨_, (pss_cons (ps_setLcD (i := 3) (own := [("_law_k", 5)]) s H rfl sc_law_row.nd rfl rfl (sw_true rfl rfl rfl (by decide +kernel)) (pi_range1 rfl (e_range T) (pa_cons (pe_op op_add pe_int (pe_g (cg_law_draw T) (hr.mono (by decide)) (pa_cons (pv 0) (pa_cons (pv 2) pa_nil)))) pa_nil)) (blkOk_by (N := n_law_row) (sc := defScope s_law_row) (by decide +kernel)) (fun _ _ _ _ _ => (pg_name (i := 5) sc_law_row.nd rfl (Or.inl rfl))) (fun _ _ _ _ _ => pts_nil) (fun _ _ _ _ _ => (pe_g (cg_law_cell T) (hr.mono (by decide)) (pa_cons (pv 0) (pa_cons (pv 1) pa_nil)))))
  (pss_cons (ps_set (i := 4) sc_law_row.nd rfl (Or.inl rfl) (pe_g (cg_law_draw T) (hr.mono (by decide)) (pa_cons (pv 0) (pa_cons (pe_callB call_len_seq rfl (e_len T) boot_len (pa_cons (pv 3) pa_nil)) pa_nil))))
  (pss_one (ps_ret (pe_tup (pa_cons (pv 3) (pa_cons (pv 4) (pa_cons (pe_g (cg_law_pick T) (hr.mono (by decide)) (pa_cons (pv 0) (pa_cons (pe_ix ix_list (pv 3) (pv 4) (fun _ _ => rfl)) pa_nil))) (pa_cons (pe_cmpR op_eq (pe_g (cg_law_draw T) (hr.mono (by decide)) (pa_cons (pv 0) (pa_cons pe_int pa_nil))) pe_int (by first | rfl | exact nomark _ | exact nobehind _ (by decide) (by decide))) (pa_cons (pe_cmpR op_eq (pe_g (cg_law_draw T) (hr.mono (by decide)) (pa_cons (pv 0) (pa_cons pe_int pa_nil))) pe_int (by first | rfl | exact nomark _ | exact nobehind _ (by decide) (by decide))) pa_nil)))))))))), ?_⟩
  obtain ⟨p, l, c, ls, top, rfl, hp, hc, ok, t1, t4, q⟩ := h
  have sz : 1000 ≤ sizeLine := by decide
  have h4 := ok.four
  have h2 := ok.two
  refine ⟨_, rfl, _, rfl, p, l, top, c, rfl, hp, t1, by omega, by omega, fun d H1 hd s1 hp1 => ⟨_, _, rfl, rfl, _, rfl, by omega, by omega, fun D hD => lc_pen walk_range 1 (fun i v _ => ∃ m, v = celV ls m ∧ 0 < m ∧ m < 2 ^ ls.length) (fun _ _ _ _ _ h => h) hD hp1 (by omega) (fun _ _ => trivial) yfn_same (fun i x H2 H3 hi s2 hp2 y _ k kk => ?_) fun H2 acc s2 hp2 eD hla hR => ?_⟩⟩
  · obtain ⟨rfl, rfl⟩ := y
    refine ⟨rfl, _, rfl, _, rfl, p, l, c + 1 + 1 * i, ls, rfl, hp2, by omega, ok, fun m H4 m0 mh s3 hp3 => kk _ _ s3 (hp3.up (by omega)) ⟨m, rfl, m0, mh⟩⟩
  obtain ⟨ms, rfl, hms⟩ := vals_of hR
  have hml : (ms.map (celV ls)).length = ms.length := List.length_map _
  have hmn : ms.length = 1 + d := by rw [← hml, hla]; omega
  obtain ⟨nDp, nDl⟩ := hp1.none hD
  refine ⟨_, rfl, _, rfl, D, _, rfl, .inl (SqL.of eD), p, l, ms.length, c + 5, by rw [hml], hp2.up (by omega), by omega, by omega, by omega, fun at_ H3 hat s3 hp3 => ?_⟩
  have eD3 := s3 _ _ nDp eD
  have hm := List.getElem?_eq_getElem hat
  have hmm := hms _ _ hm
  generalize em : ms[at_] = m at hm hmm
  have hsl := sel_len (ls := ls) (n := m)
  have hsn : 1 ≤ (sel ls m).length := List.length_pos_iff.mpr (sel_ne h4 hmm.1 hmm.2)
  refine ⟨_, rfl, _, rfl, _, rfl, _, rfl, _, rfl, D, _, _, celV ls m, rfl, rfl, SqL.of eD3, atI_nat (by rw [List.getElem?_map, hm]; rfl), p, l, c + 6, sel ls m, rfl, hp3.up (by omega), by omega, hsn, by omega, fun d2 x H4 hx s4 hp4 => ?_⟩
  obtain ⟨kd, hk, hkx, hkb⟩ := sel_has hx
  refine ⟨_, rfl, p, l, 6, c + 7, rfl, hp4, by decide, by decide, by omega, fun d3 H5 _ s5 hp5 => ⟨rfl, _, rfl, p, l, 6, c + 8, rfl, hp5.up (by omega), by decide, by decide, by omega, fun d4 H6 _ s6 hp6 => ⟨rfl, Nat.le_of_ble_eq_true rfl, fun r hr => ?_⟩⟩⟩
  have s06 := spt s1 (spt s2 (spt s3 (spt s4 (spt s5 s6))))
  have sr := Same.new (o := .tup [.ref D, .int (at_ : Int), .str (Sx [x]), .bl (decide (V.int (d3 : Int) = V.int 0)), .bl (decide (V.int (d4 : Int) = V.int 0))]) hr
  obtain ⟨nrp, nrl⟩ := hp6.none hr
  have eD6 := s6 _ _ nDp (s5 _ _ nDp (s4 _ _ nDp eD3))
  refine q r D ⟨ms, at_, kd, decide (V.int (d3 : Int) = V.int 0), decide (V.int (d4 : Int) = V.int 0)⟩ _ (sp_none s06 nrp hr) (sp_none s1 nDp hD) (spt s06 (sps sr)) (hp6.same sr) ⟨by show 1 ≤ ms.length; omega, by show ms.length ≤ 4; omega, fun m' hm' => ?_, hat, hk, ?_⟩ ⟨nDp, nrp, ?_, sr _ _ eD6⟩
  · obtain ⟨j, hj⟩ := List.mem_iff_getElem?.mp hm'
    exact hms j m' hj
  · show (ms.getD at_ 0).testBit kd = true
    rw [getD_of (List.getElem?_eq_getElem hat), em]
    exact hkb
  · rw [upd_same]
    show _ = some (HO.tup [.ref D, .int (at_ : Int), .str (Sx [ls.getD kd 0]), _, _])
    rw [hkx]
theorem cg_law_row {w : World} {base : Heap} (T : Tx P K mg) : Cg P w K mg base 3 "_law_row" (sp_law_row K) := .fn (g_law_row T) (k_law_row T) (F_law_row T)
/-! ### rows as data -/
def celD (ls ms : List Nat) : List PyData := ms.map fun m => PyData.str (Sx (sel ls m))
def rowD (ls : List Nat) (R : Rl) : PyData := .tuple [.list (celD ls R.pat), .int (R.at_ : Int), .str (Sx [ls.getD R.kd 0]), .bool R.left, .bool R.right]
theorem celD_dp {H : Hp} {ls : List Nat} : ∀ ms : List Nat, DpAll K H (ms.map (celV ls)) (celD ls ms)
  | [] => .nil
  | m :: ms => .cons (.str _) (celD_dp ms)
theorem rowD_dp {H : Hp} {r cl p : Addr} {ls : List Nat} {R : Rl} (h : RoO H r cl p ls R) : Dp K H (.ref r) (rowD ls R) :=
  .tup (SqT.of h.2.2.1) (.cons (.lst (SqL.of h.2.2.2) (celD_dp _)) (.cons (.int _) (.cons (.str _) (.cons (.bl _) (.cons (.bl _) .nil)))))
theorem sx_ok {cs : List Nat} (h : ∀ c ∈ cs, c ≤ 122) : PyData.strOk (Sx cs) = true := by
  unfold PyData.strOk
  rw [Array.all_eq_true']
  intro c hc
  have := h c (by simpa using hc)
  rw [decide_eq_true_iff]
  omega
theorem celD_lay {ls : List Nat} (ok : LetOk ls) : ∀ ms : List Nat, PyData.canLayAll0 (celD ls ms) = true ∧ PyData.depthAll (celD ls ms) = 0
  | [] => ⟨rfl, rfl⟩
  | m :: ms => by
    obtain ⟨h1, h2⟩ := celD_lay ok ms
    refine ⟨?_, ?_⟩
    · show (PyData.strOk (Sx (sel ls m)) && PyData.canLayAll0 (celD ls ms)) = true
      rw [sx_ok fun c hc => (ok.low c (sel_sub hc)).2, h1]
      rfl
    · show max 0 (PyData.depthAll (celD ls ms)) = 0
      rw [h2]
      rfl
theorem letD_low {ls : List Nat} (ok : LetOk ls) {k : Nat} (hk : k < ls.length) : ∀ c ∈ [ls.getD k 0], c ≤ 122 := fun c hc => by
  rw [List.mem_singleton] at hc
  exact hc ▸ (ok.low _ (getD_mem hk)).2
theorem rowD_lay {ls : List Nat} (ok : LetOk ls) {R : Rl} (hk : R.kd < ls.length) : PyData.canLay0 (rowD ls R) = true ∧ PyData.depth (rowD ls R) ≤ 2 := by
  obtain ⟨h1, h2⟩ := celD_lay ok R.pat
  refine ⟨?_, ?_⟩
  · show (PyData.canLayAll0 (celD ls R.pat) && (true && (PyData.strOk (Sx [ls.getD R.kd 0]) && (true && (true && true))))) = true
    rw [h1, sx_ok (letD_low ok hk)]
    rfl
  · show max (PyData.depthAll (celD ls R.pat) + 1) (max 0 (max 0 (max 0 (max 0 0)))) + 1 ≤ 2
    rw [h2]
    decide
theorem rowD_shaped {ls : List Nat} (ok : LetOk ls) {R : Rl} (hk : R.kd < ls.length) : SeqAt.shaped (rowD ls R) = true := by
  obtain ⟨h1, h2⟩ := rowD_lay ok hk
  show (PyData.canLay0 (rowD ls R) && decide (PyData.depth (rowD ls R) ≤ 64)) = true
  rw [h1, decide_eq_true (by omega)]
  rfl
theorem rowsD_lay {ls : List Nat} (ok : LetOk ls) : ∀ Rs : List Rl, (∀ R ∈ Rs, R.kd < ls.length) → PyData.canLayAll0 (Rs.map (rowD ls)) = true ∧ PyData.depthAll (Rs.map (rowD ls)) ≤ 2
  | [], _ => ⟨rfl, Nat.zero_le _⟩
  | R :: Rs, h => by
    obtain ⟨h1, h2⟩ := rowsD_lay ok Rs fun R hR => h R (List.mem_cons_of_mem _ hR)
    obtain ⟨g1, g2⟩ := rowD_lay ok (h R List.mem_cons_self)
    refine ⟨?_, ?_⟩
    · show (PyData.canLay0 (rowD ls R) && PyData.canLayAll0 (Rs.map (rowD ls))) = true
      rw [g1, h1]
      rfl
    · show max (PyData.depth (rowD ls R)) (PyData.depthAll (Rs.map (rowD ls))) ≤ 2
      omega
theorem rowsD_shaped {ls : List Nat} (ok : LetOk ls) {Rs : List Rl} (h : ∀ R ∈ Rs, R.kd < ls.length) : SeqAt.shaped (.list (Rs.map (rowD ls))) = true := by
  obtain ⟨h1, h2⟩ := rowsD_lay ok Rs h
  show (PyData.canLayAll0 (Rs.map (rowD ls)) && decide (PyData.depthAll (Rs.map (rowD ls)) + 1 ≤ 64)) = true
  rw [h1, decide_eq_true (by omega)]
  rfl
theorem celD_refl {ls : List Nat} : ∀ ms : List Nat, PyData.eqvAll (celD ls ms) (celD ls ms) = true
  | [] => rfl
  | m :: ms => by
    show (PyData.eqv (.str (Sx (sel ls m))) (.str (Sx (sel ls m))) && PyData.eqvAll (celD ls ms) (celD ls ms)) = true
    rw [celD_refl ms]
    simp [PyData.eqv]
theorem rowD_refl {ls : List Nat} {R : Rl} : PyData.eqv (rowD ls R) (rowD ls R) = true := by
  show (PyData.eqvAll (celD ls R.pat) (celD ls R.pat) && (PyData.eqv (.int (R.at_ : Int)) (.int (R.at_ : Int)) && (PyData.eqv (.str (Sx [ls.getD R.kd 0])) (.str (Sx [ls.getD R.kd 0])) && (PyData.eqv (.bool R.left) (.bool R.left) && (PyData.eqv (.bool R.right) (.bool R.right) && true))))) = true
  rw [celD_refl]
  simp [PyData.eqv]
/-- the rows of a list -/
def RwsO (H : Hp) (fl : Addr) (p : Addr) (ls : List Nat) (Rs : List Rl) : Prop := ∃ rs : List Addr, H fl = some (.lst (rs.map V.ref)) ∧ rs.length = Rs.length ∧ ∀ (i : Nat) r R, rs[i]? = some r → Rs[i]? = some R → ∃ cl, cl ≠ fl ∧ RoO H r cl p ls R
theorem rowsD_dp {H : Hp} {p : Addr} {ls : List Nat} : ∀ {rs : List Addr} {Rs : List Rl}, rs.length = Rs.length → (∀ (i : Nat) r R, rs[i]? = some r → Rs[i]? = some R → ∃ cl, RoO H r cl p ls R) → DpAll K H (rs.map V.ref) (Rs.map (rowD ls))
  | [], [], _, _ => .nil
  | [], _ :: _, h, _ => by simp at h
  | _ :: _, [], h, _ => by simp at h
  | r :: rs, R :: Rs, hl, h => by
    obtain ⟨cl, hr⟩ := h 0 r R rfl rfl
    exact .cons (rowD_dp hr) (rowsD_dp (by simpa using hl) fun i r R h1 h2 => h (i + 1) r R h1 h2)
def sp_law_rows (K : PySem.W.Frag) : Sp := fun vs H Q E => ∃ (p l : Addr) (c : Nat) (ls : List Nat) (many top : Nat), vs = [.ref p, .str (Sx ls), .int (many : Int), .int (top : Int)] ∧ PenO H p l c ∧ c ≤ 70000 ∧ LetOk ls ∧ many ≤ 10 ∧ 1 ≤ top ∧ top ≤ 4 ∧
  ∀ (fl : Addr) (Rs : List Rl) H', SameP p H H' → PenO H' p l (c + 90) → (∀ R ∈ Rs, RlOk ls.length R) → Rs.Nodup → Rs.length ≤ 10 → fl ≠ p → RwsO H' fl p ls Rs → Q (.ref fl) H'
theorem F_law_rows {w : World} {base : Heap} (T : Tx P K mg) : FnR P w K mg base CX0 4 (a_law_rows K) (sp_law_rows K) := by
  refine fnr (f_law_rows T) sc_law_rows (fun vs H Q E h => by obtain ⟨_, _, _, _, _, _, rfl, _⟩ := h; rfl) (fun _ _ _ _ _ _ us hl => match us, hl with | [_, _, _, _], _ => rfl) fun cdv A outer s H vs Q E hr h => ?_
  refine ⟨_, (pss_cons (ps_set (i := 4) sc_law_rows.nd rfl (Or.inl rfl) (pe_lst pa_nil))
  (pss_cons (ps_for PassesOwn.never rfl (pi_range1 rfl (e_range T) (pa_cons (pv 2) pa_nil)) (pg_name (i := 5) sc_law_rows.nd rfl (Or.inl rfl))
  (pss_cons (ps_set (i := 6) sc_law_rows.nd rfl (Or.inl rfl) (pe_g (cg_law_row T) (hr.mono (by decide)) (pa_cons (pv 0) (pa_cons (pv 1) (pa_cons (pv 3) pa_nil)))))
  (pss_one (ps_if (pt_cmpR (op_notInD (hu65 hr)) (pv 6) (pv 4) (by first | rfl | exact nomark _ | exact nobehind _ (by decide) (by decide))) (pss_one (ps_expr (pe_bm PySem.F.plainAttrs_list PySem.F.slot_list_append PySem.F.type_list_append mt_append (pv 4) (pa_cons (pv 6) pa_nil)))) pss_nil))))
  (pss_one (ps_ret (pv 4))))), ?_⟩
  obtain ⟨p, l, c, ls, many, top, rfl, hp, hc, ok, hm, t1, t4, q⟩ := h
  have sz : 1000 ≤ sizeLine := by decide
  refine ⟨Nat.le_of_ble_eq_true rfl, fun fl hfl => ?_⟩
  obtain ⟨nfp, nfl⟩ := hp.none hfl
  refine ⟨_, rfl, _, rfl, by omega, by omega, for_range (fun i σ H' => ∃ (Rs : List Rl) (rs : List Addr) (u5 u6 : Option V), σ = [some (.ref p), some (.str (Sx ls)), some (.int (many : Int)), some (.int (top : Int)), some (.ref fl), u5, u6] ∧ SameP p H H' ∧ PenO H' p l (c + 9 * i) ∧ (∀ R ∈ Rs, RlOk ls.length R) ∧ Rs.Nodup ∧ Rs.length ≤ i ∧ H' fl = some (.lst (rs.map V.ref)) ∧ rs.length = Rs.length ∧ ∀ (i : Nat) r R, rs[i]? = some r → Rs[i]? = some R → ∃ cl, cl ≠ fl ∧ RoO H' r cl p ls R) ⟨[], [], _, _, rfl, sps (Same.new hfl), hp.same (Same.new hfl), fun R h => (nomatch h), List.Pairwise.nil, Nat.le_refl _, upd_same, rfl, fun i r R h => by simp at h⟩ ?_ ?_⟩
  · rintro i σ H1 hi ⟨Rs, rs, u5, u6, rfl, s1, g1, g2, g3, g4, g5, g6, g7⟩
    rw [Int.toNat_natCast] at hi
    refine ⟨_, rfl, _, rfl, _, rfl, p, l, c + 9 * i, ls, top, rfl, g1, by omega, ok, t1, t4, fun r cl R H2 hr hcl s2 hp2 hR hro => ?_⟩
    have e2 := s2 _ _ nfp g5
    have ncf : cl ≠ fl := (ne_of_none g5 hcl).symm
    have nrf : r ≠ fl := (ne_of_none g5 hr).symm
    have g7' : ∀ (i : Nat) r R, rs[i]? = some r → Rs[i]? = some R → ∃ cl, cl ≠ fl ∧ RoO H2 r cl p ls R := fun i r R h1 h2 => let ⟨cl, a1, a2⟩ := g7 i r R h1 h2; ⟨cl, a1, a2.sp s2⟩
    refine ⟨_, rfl, _, rfl, rowD ls R, Rs.map (rowD ls), rowD_dp hro, .lst (SqL.of e2) (rowsD_dp g6 fun i r R h1 h2 => let ⟨cl, a1, a2⟩ := g7' i r R h1 h2; ⟨cl, a2⟩), rowD_shaped ok hR.kd, rowsD_shaped ok (fun R hR => (g2 R hR).kd), _, rfl, ?_⟩
    refine ifb (c := !(Rs.map (rowD ls)).any fun z => PyData.eqv z (rowD ls R)) rfl (fun hno => ?_) fun hyes => ?_
    · have hnew : R ∉ Rs := fun z => by
        have : ((Rs.map (rowD ls)).any fun z => PyData.eqv z (rowD ls R)) = true := List.any_eq_true.mpr ⟨rowD ls R, List.mem_map.mpr ⟨R, z, rfl⟩, rowD_refl⟩
        rw [this] at hno
        cases hno
      refine ⟨_, rfl, .inl ⟨rfl, _, SqL.of e2⟩, _, rfl, fl, _, _, rfl, rfl, e2, by rw [List.length_map]; omega, ?_⟩
      have sf : SameS [fl] H2 (upd H2 fl (.lst (rs.map V.ref ++ [.ref r]))) := ssu (by simp)
      have up : ∀ {r cl : Addr} {R : Rl} {o : HO}, r ≠ fl → cl ≠ fl → RoO H2 r cl p ls R → RoO (upd H2 fl o) r cl p ls R := fun {r cl R o} n1 n2 h => ⟨h.1, h.2.1, un' n1 h.2.2.1, un' n2 h.2.2.2⟩
      refine ⟨Rs ++ [R], rs ++ [r], _, _, rfl, fun a u e ea => un' (ne_of_none ea hfl) (spt s1 s2 a u e ea), (hp2.upd nfp nfl).up (by omega), fun R' h => ?_, ?_, by rw [List.length_append, List.length_singleton]; omega, by rw [upd_same, List.map_append]; rfl, by rw [List.length_append, List.length_append, g6]; rfl, fun j r' R' h1 h2 => ?_⟩
      · rcases List.mem_append.mp h with h | h
        · exact g2 R' h
        · rw [List.mem_singleton] at h
          exact h ▸ hR
      · refine List.nodup_append.mpr ⟨g3, List.pairwise_singleton _ _, fun a ha b hb => ?_⟩
        rw [List.mem_singleton] at hb
        exact fun z => hnew (hb ▸ z ▸ ha)
      · rcases Nat.lt_or_ge j rs.length with hj | hj
        · rw [List.getElem?_append_left hj] at h1
          rw [List.getElem?_append_left (by rw [← g6]; exact hj)] at h2
          obtain ⟨cl', a1, a2⟩ := g7' j r' R' h1 h2
          exact ⟨cl', a1, up (fun z => by have := a2.2.2.1; rw [z, e2] at this; cases this) a1 a2⟩
        · rw [List.getElem?_append_right hj] at h1
          rw [List.getElem?_append_right (by rw [← g6]; exact hj), ← g6] at h2
          obtain ⟨hz, h1⟩ := List.getElem?_eq_some_iff.mp h1
          obtain ⟨_, h2⟩ := List.getElem?_eq_some_iff.mp h2
          simp at h1 h2
          subst h1 h2
          exact ⟨cl, ncf, up nrf ncf hro⟩
    · exact ⟨Rs, rs, _, _, rfl, spt s1 s2, hp2.up (by omega), g2, g3, by omega, e2, g6, g7'⟩
  · rintro σ H1 ⟨Rs, rs, u5, u6, rfl, s1, g1, g2, g3, g4, g5, g6, g7⟩
    rw [Int.toNat_natCast] at g1 g4
    exact ⟨_, rfl, q fl Rs H1 s1 (g1.up (by omega)) g2 g3 (by omega) nfp ⟨rs, g5, g6, g7⟩⟩
theorem cg_law_rows {w : World} {base : Heap} (T : Tx P K mg) : Cg P w K mg base 4 "_law_rows" (sp_law_rows K) := .fn (g_law_rows T) (k_law_rows T) (F_law_rows T)
def sp_law_rule (K : PySem.W.Frag) : Sp := fun vs H Q E => ∃ (va r cl p : Addr) (ls : List Nat) (R : Rl), vs = [.ref va, .ref r] ∧ VaO K H va ls ∧ LetOk ls ∧ RoO H r cl p ls R ∧ RlOk ls.length R ∧ ∀ (a : Addr) H', H a = none → Same H H' → RuO K H' a va ls R → Q (.ref a) H'
theorem F_law_rule {w : World} {base : Heap} (T : Tx P K mg) : FnR P w K mg base CX0 8 (a_law_rule K) (sp_law_rule K) := by
  refine fnr (f_law_rule T) sc_law_rule (fun vs H Q E h => by obtain ⟨_, _, _, _, _, _, rfl, _⟩ := h; rfl) (fun _ _ _ _ _ _ us hl => match us, hl with | [_, _], _ => rfl) fun cdv A outer s H vs Q E hr h => ?_
  obtain ⟨va, r, cl, p, ls, R, rfl, hv, ok, hro, rk, q⟩ := h
  obtain ⟨fd, FR, KB⟩ := mk_Rule (w := w) (base := base) T
  refine ⟨_, (pss_one (ps_ret (pe_makeK (m_Rule T) FR (hr.mono (by decide)) rfl (g_Rule T) KB pass0 (pa_cons (pv 0) (pa_cons (pe_ix ix_tup (pv 1) pe_int (fun _ _ => rfl)) (pa_cons (pe_ix ix_tup (pv 1) pe_int (fun _ _ => rfl)) (pa_cons (pe_ix ix_tup (pv 1) pe_int (fun _ _ => rfl)) pa_nil)))) (pk_cons (pe_ix ix_tup (pv 1) pe_int (fun _ _ => rfl)) (pk_cons (pe_ix ix_tup (pv 1) pe_int (fun _ _ => rfl)) pk_nil))))), ?_⟩
  obtain ⟨_, _, e1, e2⟩ := hro
  refine ⟨_, rfl, _, rfl, r, _, _, _, rfl, rfl, SqT.of e1, rfl, _, rfl, r, _, _, _, rfl, rfl, SqT.of e1, rfl, _, rfl, r, _, _, _, rfl, rfl, SqT.of e1, rfl, _, rfl, r, _, _, _, rfl, rfl, SqT.of e1, rfl, _, rfl, r, _, _, _, rfl, rfl, SqT.of e1, rfl, rfl, rfl, rule_made ⟨va, cl, ls, R, R.pat.map (celV ls), rfl, hv, ok, rk, .inl e2, List.length_map _, ?_, q⟩⟩
  intro i y m h1 h2
  rw [List.getElem?_map, h2] at h1
  cases h1
  exact .inl rfl
theorem cg_law_rule {w : World} {base : Heap} (T : Tx P K mg) : Cg P w K mg base 8 "_law_rule" (sp_law_rule K) := .fn (g_law_rule T) (k_law_rule T) (F_law_rule T)
def sp_law_book (K : PySem.W.Frag) : Sp := fun vs H Q E => ∃ (va fl p : Addr) (ls : List Nat) (Rs : List Rl), vs = [.ref va, .ref fl] ∧ VaO K H va ls ∧ LetOk ls ∧ RwsO H fl p ls Rs ∧ (∀ R ∈ Rs, RlOk ls.length R) ∧ Rs.Nodup ∧ Rs.length ≤ 40 ∧ ∀ (a : Addr) H', Same H H' → BoO K H' a va ls Rs → Q (.ref a) H'
theorem F_law_book {w : World} {base : Heap} (T : Tx P K mg) : FnR P w K mg base CX0 9 (a_law_book K) (sp_law_book K) := by
  refine fnr (f_law_book T) sc_law_book (fun vs H Q E h => by obtain ⟨_, _, _, _, _, rfl, _⟩ := h; rfl) (fun _ _ _ _ _ _ us hl => match us, hl with | [_, _], _ => rfl) fun cdv A outer s H vs Q E hr h => ?_
  refine ⟨_, (pss_one (ps_ret (ClX.pe_cmeth (pe_glob (v := .ref _) rfl (g_Book T) rfl) ((r_Book T)) ((cm_Book_of T)) (F_Book_of T) (hr.mono (by decide)) pass0 (pa_cons (pv 0) (pa_cons (pe_lcD (own := [("_law_row_here", 2)]) s H rfl sc_law_book.nd (pi_list (pv 1)) (blkOk_by (N := n_law_book) (sc := defScope s_law_book) (by decide +kernel)) (fun _ _ _ _ _ => (pg_name (i := 2) sc_law_book.nd rfl (Or.inl rfl))) (fun _ _ _ _ _ => pts_nil) (fun _ _ _ _ _ => (pe_g (cg_law_rule T) (hr.mono (by decide)) (pa_cons (pv 0) (pa_cons (pv 2) pa_nil))))) pa_nil))))), ?_⟩
  obtain ⟨va, fl, p, ls, Rs, rfl, hv, ok, ⟨rs, e1, hl, hrs⟩, hR, hnd, h40, q⟩ := h
  have hml : (rs.map V.ref).length = Rs.length := by rw [List.length_map, hl]
  refine ⟨rfl, _, rfl, _, rfl, fl, rfl, ⟨_, SqL.of e1⟩, fun D hD => lc_each (walk_list (xs := rs.map V.ref)) (fun i v H' => ∃ a R, v = .ref a ∧ Rs[i]? = some R ∧ RuO K H' a va ls R) (fun i v H H' s ⟨a, R, h1, h2, h3⟩ => ⟨a, R, h1, h2, h3.mono s⟩) hD (small1000 (by omega)) (fun H s => SqL.of (s _ _ e1)) yat_same (fun i x H1 H2 hi s1 s2 y k kk => ?_) fun H2 acc s2 e2 hla hRR => ?_⟩
  · obtain ⟨rfl, hx⟩ := y
    rw [hml] at hi
    have hi' : i < rs.length := by rw [hl]; exact hi
    rw [List.getElem?_map, List.getElem?_eq_getElem hi'] at hx
    cases hx
    have eR : Rs[i]? = some Rs[i] := List.getElem?_eq_getElem hi
    obtain ⟨cl, _, b1, b2, b3, b4⟩ := hrs i _ _ (List.getElem?_eq_getElem hi') eR
    exact ⟨rfl, _, rfl, _, rfl, va, _, cl, p, ls, _, rfl, hv.mono (sn s2), ok, ⟨b1, b2, s2 _ _ b3, s2 _ _ b4⟩, hR _ (List.mem_of_getElem? eR), fun a H3 ha s3 hru => kk _ _ s3 ⟨a, _, rfl, eR, hru⟩⟩
  · obtain ⟨cs, rfl, hcs⟩ := refs_of (R := fun i a => ∃ R, Rs[i]? = some R ∧ RuO K H2 a va ls R) fun i v e => let ⟨a, R, h1, h2, h3⟩ := hRR i v e; ⟨a, h1, R, h2, h3⟩
    rw [List.length_map, hml] at hla
    exact ⟨va, D, ls, cs, Rs, rfl, hv.mono (sn s2), ok, ⟨hla, fun i r R h1 h2 => by
      obtain ⟨R', h3, h4⟩ := hcs i r h1
      rw [h2] at h3
      cases h3
      exact h4, hR, hnd, h40⟩, e2, fun a H3 _ s3 hb => q a H3 (str s2 s3) hb⟩
theorem cg_law_book {w : World} {base : Heap} (T : Tx P K mg) : Cg P w K mg base 9 "_law_book" (sp_law_book K) := .fn (g_law_book T) (k_law_book T) (F_law_book T)
end
end K5
end
section
set_option maxRecDepth 100000
set_option maxHeartbeats 2000000
/-! the law's own defs: machines, clues, lesser rows -/
namespace K5
open PySem PySem.Spec PyProof.Rows L2
section
variable {P : Program} {K : PySem.W.Frag} {mg : Str → Option Value}
/-- a row of states, a new list -/
def MrO (H : Hp) (p D : Addr) (k n : Nat) (v : V) : Prop := ∃ (r : Addr) (row : List Nat), v = .ref r ∧ r ≠ p ∧ r ≠ D ∧ row.length = k ∧ (∀ s ∈ row, s < n) ∧ H r = some (.lst (ni row))
theorem MrO.mono {H H' : Hp} {p D : Addr} {k n : Nat} {v : V} (s : SameS [p, D] H H') (h : MrO H p D k n v) : MrO H' p D k n v := by
  obtain ⟨r, row, h1, h2, h3, h4, h5, h6⟩ := h
  exact ⟨r, row, h1, h2, h3, h4, h5, s _ _ (by simp; exact ⟨h2, h3⟩) h6⟩
abbrev csc_law_machine : Scope := { kind := .function, names := [(".0", .local), ("_law_k", .local), ("_law_letters_here", .cell), ("_law_many", .cell), ("_law_pen_here", .cell)], isGenerator := false, isCoroutine := false }
def sp_law_machine (K : PySem.W.Frag) : Sp := fun vs H Q E => ∃ (p l : Addr) (c : Nat) (ls : List Nat) (top : Nat), vs = [.ref p, .str (Sx ls), .int (top : Int)] ∧ PenO H p l c ∧ c ≤ 70000 ∧ LetOk ls ∧ 1 ≤ top ∧ top ≤ 4 ∧
  ∀ (t a b : Addr) (B : Tab) H', SameP p H H' → PenO H' p l (c + 21) → TabOk ls.length B → B.n ≤ top → H' t = some (.tup [.ref a, .ref b]) → RwL H' a B.rows → H' b = some (.lst (B.told.map V.bl)) → Q (.ref t) H'
theorem F_law_machine {w : World} {base : Heap} (T : Tx P K mg) : FnR P w K mg base CX0 2 (a_law_machine K) (sp_law_machine K) := by
  refine fnr (f_law_machine T) sc_law_machine (fun vs H Q E h => by obtain ⟨_, _, _, _, _, rfl, _⟩ := h; rfl) (fun _ _ _ _ _ _ us hl => match us, hl with | [_, _, _], _ => rfl) fun cdv A outer s H vs Q E hr h => ?_
  refine ⟨_, (pss_cons (ps_set (i := 3) sc_law_machine.nd rfl (Or.inr rfl) (pe_op op_add pe_int (pe_g (cg_law_draw T) (hr.mono (by decide)) (pa_cons (pv 0) (pa_cons (pv 2) pa_nil)))))
  (pss_cons (ps_setLcD (i := 4) (own := [("_law_k", 5)]) s H rfl sc_law_machine.nd rfl rfl (sw_true rfl rfl rfl (by decide +kernel)) (pi_range1 rfl (e_range T) (pa_cons (pv 3) pa_nil)) (blkOk_by (N := n_law_machine) (sc := defScope s_law_machine) (by decide +kernel)) (fun _ _ _ _ _ => (pg_name (i := 5) sc_law_machine.nd rfl (Or.inl rfl))) (fun _ _ _ _ _ => pts_nil) (fun _ _ _ _ _ => (pe_lcD (own := [("_law_letter", 6)]) s H rfl sc_law_machine.nd (pi_str (pv 1)) (blkOk_by (N := n_law_machine) (sc := csc_law_machine) (by decide +kernel)) (fun _ _ _ _ _ => (pg_name (i := 6) sc_law_machine.nd rfl (Or.inl rfl))) (fun _ _ _ _ _ => pts_nil) (fun _ _ _ _ _ => (pe_g (cg_law_draw T) (hr.mono (by decide)) (pa_cons (pv 0) (pa_cons (pv 3) pa_nil)))))))
  (pss_one (ps_ret (pe_tup (pa_cons (pv 4) (pa_cons (pe_lcD (own := [("_law_k", 5)]) s H rfl sc_law_machine.nd (pi_range1 rfl (e_range T) (pa_cons (pv 3) pa_nil)) (blkOk_by (N := n_law_machine) (sc := defScope s_law_machine) (by decide +kernel)) (fun _ _ _ _ _ => (pg_name (i := 5) sc_law_machine.nd rfl (Or.inl rfl))) (fun _ _ _ _ _ => pts_nil) (fun _ _ _ _ _ => (pe_cmpR op_eq (pe_g (cg_law_draw T) (hr.mono (by decide)) (pa_cons (pv 0) (pa_cons pe_int pa_nil))) pe_int (by first | rfl | exact nomark _ | exact nobehind _ (by decide) (by decide))))) pa_nil))))))), ?_⟩
  obtain ⟨p, l, c, ls, top, rfl, hp, hc, ok, t1, t4, q⟩ := h
  have sz : 1000 ≤ sizeLine := by decide
  have h4 := ok.four
  have h2 := ok.two
  refine ⟨_, rfl, _, rfl, p, l, top, c, rfl, hp, t1, by omega, by omega, fun d H1 hd s1 hp1 => ⟨_, _, rfl, rfl, ?_⟩⟩
  have en : (1 : Int) + (d : Int) = ((1 + d : Nat) : Int) := by omega
  have enn : ((1 : Int) + (d : Int)).toNat = 1 + d := by omega
  refine ⟨_, rfl, _, rfl, by omega, by omega, fun D hD => lc_pen walk_range 4 (fun i v H' => MrO H' p D ls.length (1 + d) v) (fun i v H H' s h => h.mono s) hD hp1 (by omega) (fun _ _ => trivial) yfn_same (fun i x H2 H3 hi s2 hp2 y hDD k kk => ?_) fun H2 acc s2 hp2 eD hla hR => ?_⟩
  · obtain ⟨rfl, rfl⟩ := y
    obtain ⟨aD, hDD⟩ := hDD
    refine ⟨rfl, _, rfl, _, rfl, fun D2 hD2 => lc_pen walk_str 1 (fun j v _ => ∃ n : Nat, v = .int (n : Int) ∧ n < 1 + d) (fun _ _ _ _ _ h => h) hD2 hp2 (by rw [sx_size]; omega) (fun _ _ => trivial) ystr_same (fun j x H4 H5 hj s4 hp4 y _ k2 kk2 => ?_) fun H4 acc2 s4 hp4 eD2 hla2 hR2 => ?_⟩
    · obtain ⟨rfl, ch, hch, rfl⟩ := y
      refine ⟨rfl, _, rfl, _, rfl, p, l, 1 + d, c + 1 + 4 * i + 1 * j, by rw [← en], hp4, by omega, by omega, by rw [enn] at hi; rw [sx_size] at hj; omega, fun d2 H6 hd2 s6 hp6 => kk2 _ _ s6 (hp6.up (by omega)) ⟨d2, rfl, hd2⟩⟩
    · obtain ⟨row, rfl, hrow⟩ := vals_of (f := fun n : Nat => V.int (n : Int)) hR2
      rw [List.length_map, sx_size] at hla2
      rw [sx_size] at hp4
      refine kk _ _ s4 (hp4.up (by omega)) ⟨D2, row, rfl, (hp2.none hD2).1, (ne_of_none hDD hD2).symm, hla2, fun s hs => ?_, eD2⟩
      obtain ⟨j, hj⟩ := List.mem_iff_getElem?.mp hs
      exact hrow j s hj
  obtain ⟨nDp, nDl⟩ := hp1.none hD
  rw [enn] at hp2 hla
  obtain ⟨xs, rfl, hxs⟩ := vals_of (f := fun x : Addr × List Nat => V.ref x.1) (R := fun _ x => x.1 ≠ p ∧ x.2.length = ls.length ∧ (∀ s ∈ x.2, s < 1 + d) ∧ H2 x.1 = some (.lst (ni x.2))) fun i v e => let ⟨r, row, h1, h2, h3, h4, h5, h6⟩ := hR i v e; ⟨(r, row), h1, h2, h4, h5, h6⟩
  rw [List.length_map] at hla
  refine ⟨_, rfl, _, rfl, _, rfl, by omega, by omega, fun D3 hD3 => lc_pen walk_range 1 (fun i v _ => ∃ b, v = V.bl b ∧ True) (fun _ _ _ _ _ h => h) hD3 hp2 (by omega) (fun _ _ => trivial) yfn_same (fun i x H3 H4 hi s3 hp3 y _ k kk => ?_) fun H3 acc s3 hp3 eD3 hla3 hR3 => ?_⟩
  · obtain ⟨rfl, rfl⟩ := y
    rw [enn] at hi
    exact ⟨rfl, _, rfl, p, l, 2, c + 1 + 4 * (1 + d) + 1 * i, rfl, hp3, by decide, by decide, by omega, fun d2 H5 _ s5 hp5 => ⟨rfl, kk _ _ s5 (hp5.up (by omega)) ⟨_, rfl, trivial⟩⟩⟩
  obtain ⟨bs, rfl, _⟩ := vals_of hR3
  rw [List.length_map, enn] at hla3
  rw [enn] at hp3
  refine ⟨Nat.le_of_ble_eq_true rfl, fun t ht => ?_⟩
  have st := Same.new (o := .tup [.ref D, .ref D3]) ht
  have hlen : (xs.map (·.2)).length = 1 + d := by rw [List.length_map, hla]
  refine q t D D3 ⟨xs.map (·.2), bs⟩ _ (spt s1 (spt s2 (spt s3 (sps st)))) ((hp3.same st).up (by omega)) ⟨?_, ?_, fun r hr => ?_, fun r hr s hs => ?_⟩ ?_ upd_same ⟨xs.map (·.1), ?_, ?_, fun i r row h1 h2 => ?_⟩ (st _ _ eD3)
  · show 0 < (xs.map (·.2)).length
    omega
  · show bs.length = (xs.map (·.2)).length
    omega
  · obtain ⟨x, hx, rfl⟩ := List.mem_map.mp hr
    obtain ⟨i, hi⟩ := List.mem_iff_getElem?.mp hx
    exact (hxs i x hi).2.1
  · obtain ⟨x, hx, rfl⟩ := List.mem_map.mp hr
    obtain ⟨i, hi⟩ := List.mem_iff_getElem?.mp hx
    show s < (xs.map (·.2)).length
    rw [hlen]
    exact (hxs i x hi).2.2.1 s hs
  · show (xs.map (·.2)).length ≤ top
    omega
  · rw [st _ _ (s3 _ _ nDp eD), List.map_map]
    rfl
  · show (xs.map (·.1)).length = (xs.map (·.2)).length
    rw [List.length_map, List.length_map]
  · have h2 : (xs.map (·.2))[i]? = some row := h2
    rw [List.getElem?_map] at h1 h2
    cases e : xs[i]? with
    | none => rw [e] at h1; cases h1
    | some x =>
      rw [e] at h1 h2
      cases h1
      cases h2
      obtain ⟨a1, a2, a3, a4⟩ := hxs i x e
      exact st _ _ (s3 _ _ a1 a4)
theorem cg_law_machine {w : World} {base : Heap} (T : Tx P K mg) : Cg P w K mg base 2 "_law_machine" (sp_law_machine K) := .fn (g_law_machine T) (k_law_machine T) (F_law_machine T)
def sp_law_clue (K : PySem.W.Frag) : Sp := fun vs H Q E => ∃ (p l va : Addr) (c : Nat) (ls : List Nat) (top : Nat), vs = [.ref p, .ref va, .str (Sx ls), .int (top : Int)] ∧ PenO H p l c ∧ c ≤ 70000 ∧ VaO K H va ls ∧ LetOk ls ∧ 1 ≤ top ∧ top ≤ 4 ∧
  ∀ (a : Addr) (B : Tab) H', SameP p H H' → PenO H' p l (c + 21) → MaO K H' a va B → TabOk ls.length B → AllIn ls.length B → B.n ≤ top → Q (.ref a) H'
theorem F_law_clue {w : World} {base : Heap} (T : Tx P K mg) : FnR P w K mg base CX0 7 (a_law_clue K) (sp_law_clue K) := by
  refine fnr (f_law_clue T) sc_law_clue (fun vs H Q E h => by obtain ⟨_, _, _, _, _, _, rfl, _⟩ := h; rfl) (fun _ _ _ _ _ _ us hl => match us, hl with | [_, _, _, _], _ => rfl) fun cdv A outer s H vs Q E hr h => ?_
  refine ⟨_, (pss_cons (ps_asg (pe_g (cg_law_machine T) (hr.mono (by decide)) (pa_cons (pv 0) (pa_cons (pv 2) (pa_cons (pv 3) pa_nil)))) (pg_tup rfl (pgs_cons (pg_name (i := 4) sc_law_clue.nd rfl (Or.inl rfl)) (pgs_cons (pg_name (i := 5) sc_law_clue.nd rfl (Or.inl rfl)) pgs_nil))))
  (pss_one (ps_ret (pe_g (cg_Machine T) (hr.mono (by decide)) (pa_cons (pv 1) (pa_cons (pv 4) (pa_cons (pv 5) pa_nil))))))), ?_⟩
  obtain ⟨p, l, va, c, ls, top, rfl, hp, hc, hv, ok, t1, t4, q⟩ := h
  refine ⟨_, rfl, _, rfl, _, rfl, p, l, c, ls, top, rfl, hp, hc, ok, t1, t4, fun t a b B H1 s1 hp1 bk hn e1 e2 e3 => ?_⟩
  have nvp : va ≠ p := by
    obtain ⟨dx, ev⟩ := hv
    obtain ⟨sc, at_, g, _, e, _⟩ := hp
    intro z
    rw [z, e] at ev
    cases ev
  refine ⟨t, _, rfl, SqT.of e1, rfl, _, _, rfl, _, _, rfl, rfl, _, rfl, _, rfl, _, rfl, va, a, b, ls, B, rfl, hv.sp s1 nvp, ok.four, e2, e3, bk, by omega, fun r B' H2 s2 hL hm => q r B' H2 (spt s1 (sps s2)) (hp1.same s2) hm hL.ok hL.all (Nat.le_trans hL.few hn)⟩
theorem cg_law_clue {w : World} {base : Heap} (T : Tx P K mg) : Cg P w K mg base 7 "_law_clue" (sp_law_clue K) := .fn (g_law_clue T) (k_law_clue T) (F_law_clue T)
def msk (ks : List Nat) : Nat := ks.foldr (fun i a => 2 ^ i ||| a) 0
theorem msk_bit : ∀ (ks : List Nat) (j : Nat), (msk ks).testBit j = decide (j ∈ ks)
  | [], j => by simp [msk]
  | k :: ks, j => by
    show (2 ^ k ||| msk ks).testBit j = _
    rw [Nat.testBit_or, msk_bit ks j, Nat.testBit_two_pow, Bool.eq_iff_iff]
    simp only [Bool.or_eq_true, decide_eq_true_eq, List.mem_cons]
    constructor
    · rintro (h | h)
      · exact .inl h.symm
      · exact .inr h
    · rintro (h | h)
      · exact .inl h.symm
      · exact .inr h
theorem msk_sel {ls ks : List Nat} (hs : ks.Pairwise (· < ·)) (hl : ∀ i ∈ ks, i < ls.length) : sel ls (msk ks) = ks.map fun i => ls.getD i 0 := by
  unfold sel
  congr 1
  refine sorted_ext (List.Pairwise.filter _ List.pairwise_lt_range) hs fun t => ?_
  rw [List.mem_filter, List.mem_range, msk_bit, decide_eq_true_iff]
  exact ⟨fun h => h.2, fun h => ⟨hl t h, h⟩⟩
theorem msk_lt {ks : List Nat} {k : Nat} (hl : ∀ i ∈ ks, i < k) : msk ks < 2 ^ k := Nat.lt_pow_two_of_testBit _ fun i hi => by
  rw [msk_bit, decide_eq_false_iff_not]
  intro h
  have := hl i h
  omega
theorem msk_pos {ks : List Nat} (h : ks ≠ []) : 0 < msk ks := by
  refine Nat.pos_of_ne_zero fun z => ?_
  cases ks with
  | nil => exact h rfl
  | cons a l =>
    have := msk_bit (a :: l) a
    rw [z] at this
    simp at this
/-- R' has fewer values and more ends -/
structure LessR (R R' : Rl) : Prop where
  len : R'.pat.length = R.pat.length
  at_ : R'.at_ = R.at_
  kd : R'.kd = R.kd
  sub : ∀ (i : Nat) m m', R.pat[i]? = some m → R'.pat[i]? = some m' → ∀ a, m'.testBit a = true → m.testBit a = true
  left : R.left = true → R'.left = true
  right : R.right = true → R'.right = true
theorem LessR.snd {k : Nat} {R R' : Rl} {L : List Nat → Prop} (h : LessR R R') (hs : Snd k R L) : Snd k R' L := by
  refine hs.less h.len (fun p => FitN.mono ?_ fun i m n a h1 h2 hb => ?_) h.left h.right
  · rw [Rl.nums_length, Rl.nums_length, h.len]
  · unfold Rl.nums at h1 h2
    rw [h.at_, h.kd] at h2
    rw [List.getElem?_set] at h1 h2
    by_cases e : R.at_ = i
    · rw [if_pos e] at h1 h2
      split at h1
      · split at h2
        · cases h1
          cases h2
          exact hb
        · cases h2
      · cases h1
    · rw [if_neg e] at h1 h2
      exact h.sub i m n h1 h2 a hb
theorem chrD_dp {H : Hp} : ∀ cs : List Nat, DpAll K H (cs.map chr1) (cs.map fun c => PyData.str ⟨#[c]⟩)
  | [] => .nil
  | c :: cs => .cons (.str _) (chrD_dp cs)
theorem chrD_shaped {cs : List Nat} (h : ∀ c ∈ cs, c ≤ 122) : SeqAt.shaped (.list (cs.map fun c => PyData.str ⟨#[c]⟩)) = true := by
  have key : ∀ cs : List Nat, (∀ c ∈ cs, c ≤ 122) → PyData.canLayAll0 (cs.map fun c => PyData.str ⟨#[c]⟩) = true ∧ PyData.depthAll (cs.map fun c => PyData.str ⟨#[c]⟩) = 0 := fun cs => by
    induction cs with
    | nil => exact fun _ => ⟨rfl, rfl⟩
    | cons c cs ih =>
      intro h
      obtain ⟨h1, h2⟩ := ih fun c hc => h c (List.mem_cons_of_mem _ hc)
      refine ⟨?_, ?_⟩
      · show (PyData.strOk (Sx [c]) && PyData.canLayAll0 (cs.map fun c => PyData.str ⟨#[c]⟩)) = true
        rw [h1, sx_ok fun x hx => by rw [List.mem_singleton] at hx; exact hx ▸ h c List.mem_cons_self]
        rfl
      · show max 0 (PyData.depthAll (cs.map fun c => PyData.str ⟨#[c]⟩)) = 0
        rw [h2]
        rfl
  obtain ⟨h1, h2⟩ := key cs h
  show (PyData.canLayAll0 (cs.map fun c => PyData.str ⟨#[c]⟩) && decide (PyData.depthAll (cs.map fun c => PyData.str ⟨#[c]⟩) + 1 ≤ 64)) = true
  rw [h1, h2]
  rfl
theorem chrD_eqv : ∀ cs : List Nat, PyData.eqv (.list (cs.map fun c => PyData.str ⟨#[c]⟩)) (.list []) = decide (cs = [])
  | [] => rfl
  | _ :: _ => rfl
def sp_law_less (K : PySem.W.Frag) : Sp := fun vs H Q E => ∃ (p l r cl : Addr) (c : Nat) (ls : List Nat) (R : Rl), vs = [.ref p, .ref r] ∧ PenO H p l c ∧ c ≤ 70000 ∧ LetOk ls ∧ RoO H r cl p ls R ∧ RlOk ls.length R ∧
  ∀ (r' cl' : Addr) (R' : Rl) H', SameP p H H' → PenO H' p l (c + 18) → RlOk ls.length R' → RoO H' r' cl' p ls R' → LessR R R' → Q (.ref r') H'
theorem F_law_less {w : World} {base : Heap} (T : Tx P K mg) : FnR P w K mg base CX0 2 (a_law_less K) (sp_law_less K) := by
  refine fnr (f_law_less T) sc_law_less (fun vs H Q E h => by obtain ⟨_, _, _, _, _, _, _, rfl, _⟩ := h; rfl) (fun _ _ _ _ _ _ us hl => match us, hl with | [_, _], _ => rfl) fun cdv A outer s H vs Q E hr h => ?_
  refine ⟨_, (pss_cons (ps_set (i := 2) sc_law_less.nd rfl (Or.inl rfl) (pe_lst pa_nil))
  (pss_cons (ps_for PassesOwn.never rfl (pi_enum rfl (e_enumerate T) (pa_cons (pe_ix ix_tup (pv 1) pe_int (fun _ _ => rfl)) pa_nil)) (pg_tup rfl (pgs_cons (pg_name (i := 3) sc_law_less.nd rfl (Or.inr rfl)) (pgs_cons (pg_name (i := 4) sc_law_less.nd rfl (Or.inl rfl)) pgs_nil)))
  (pss_cons (ps_setLcD (i := 5) (own := [("_law_letter", 6)]) s H rfl sc_law_less.nd rfl rfl (sw_true rfl rfl rfl (by decide +kernel)) (pi_str (pv 4)) (blkOk_by (N := n_law_less) (sc := defScope s_law_less) (by decide +kernel)) (fun _ _ _ _ _ => (pg_name (i := 6) sc_law_less.nd rfl (Or.inl rfl))) (fun _ _ _ _ _ => (pts_one (PW.pt (pw_or (pt_cmpR op_eq (pe_g (cg_law_draw T) (hr.mono (by decide)) (pa_cons (pv 0) (pa_cons pe_int pa_nil))) pe_int (by first | rfl | exact nomark _ | exact nobehind _ (by decide) (by decide))) (pw_or1 (PW.pt (pw_and (pt_cmpR op_eq (pv 3) (pe_ix ix_tup (pv 1) pe_int (fun _ _ => rfl)) (by first | rfl | exact nomark _ | exact nobehind _ (by decide) (by decide))) (pw_and1 (pt_cmpR op_eq (pv 6) (pe_ix ix_tup (pv 1) pe_int (fun _ _ => rfl)) (by first | rfl | exact nomark _ | exact nobehind _ (by decide) (by decide))))))))))) (fun _ _ _ _ _ => (pv 6)))
  (pss_one (ps_expr (pe_bm PySem.F.plainAttrs_list PySem.F.slot_list_append PySem.F.type_list_append mt_append (pv 2) (pa_cons (pe_ifExp (pt_cmpR (op_neD (hu64 hr)) (pv 5) (pe_lst pa_nil) (by first | rfl | exact nomark _ | exact nobehind _ (by decide) (by decide))) (pe_join pe_str (pv 5)) (pv 4)) pa_nil))))))
  (pss_one (ps_ret (pe_tup (pa_cons (pv 2) (pa_cons (pe_ix ix_tup (pv 1) pe_int (fun _ _ => rfl)) (pa_cons (pe_ix ix_tup (pv 1) pe_int (fun _ _ => rfl)) (pa_cons (pe_or (pe_ix ix_tup (pv 1) pe_int (fun _ _ => rfl)) (pe_one (pe_cmpR op_eq (pe_g (cg_law_draw T) (hr.mono (by decide)) (pa_cons (pv 0) (pa_cons pe_int pa_nil))) pe_int (by first | rfl | exact nomark _ | exact nobehind _ (by decide) (by decide))))) (pa_cons (pe_or (pe_ix ix_tup (pv 1) pe_int (fun _ _ => rfl)) (pe_one (pe_cmpR op_eq (pe_g (cg_law_draw T) (hr.mono (by decide)) (pa_cons (pv 0) (pa_cons pe_int pa_nil))) pe_int (by first | rfl | exact nomark _ | exact nobehind _ (by decide) (by decide))))) pa_nil)))))))))), ?_⟩
  obtain ⟨p, l, r, cl, c, ls, R, rfl, hp, hc, ok, hro, rk, q⟩ := h
  have sz : 1000 ≤ sizeLine := by decide
  have h4 := ok.four
  obtain ⟨b1, b2, b3, b4⟩ := id hro
  refine ⟨Nat.le_of_ble_eq_true rfl, fun fl hfl => ?_⟩
  obtain ⟨nfp, nfl⟩ := hp.none hfl
  have s0 := Same.new (o := .lst []) hfl
  have hro0 := hro.sp (sps (p := p) s0)
  refine ⟨_, rfl, r, _, _, _, rfl, rfl, SqT.of hro0.2.2.1, rfl, cl, _, rfl, SqL.of hro0.2.2.2, for_it walk_enum (fun i σ H' => ∃ (ms : List Nat) (u3 u4 u5 u6 : Option V), σ = [some (.ref p), some (.ref r), some (.ref fl), u3, u4, u5, u6] ∧ SameP p H H' ∧ PenO H' p l (c + 4 * i) ∧ H' fl = some (.lst (ms.map (celV ls))) ∧ ms.length = i ∧ ∀ (j : Nat) m', ms[j]? = some m' → 0 < m' ∧ m' < 2 ^ ls.length ∧ ∀ m, R.pat[j]? = some m → (∀ a, m'.testBit a = true → m.testBit a = true) ∧ (j = R.at_ → m'.testBit R.kd = true)) ⟨[], _, _, _, _, rfl, sps s0, hp.same s0, upd_same, rfl, fun j m' e => by simp at e⟩ (fun i σ H' _ ⟨_, _, _, _, _, _, s, _⟩ => SqL.of (hro.sp s).2.2.2) ?_ ?_⟩
  · rintro i y σ H1 H2 hi ⟨ms, u3, u4, u5, u6, rfl, s1, g1, g2, g3, g4⟩ ⟨tt, x1, x2, rfl, htt, rfl, hx1, hx2⟩
    cases hx1
    rw [List.length_map] at hi
    have hm := getD_some' (d := 0) hi
    have hx2 : (R.pat.map (celV ls))[i]? = some x2 := hx2
    rw [List.getElem?_map, hm] at hx2
    cases hx2
    have hmk := rk.mask _ (List.mem_of_getElem? hm)
    have hi4 : i < 4 := by have := rk.few; omega
    have hhas : i = R.at_ → (R.pat.getD i 0).testBit R.kd = true := fun e => by rw [e]; exact rk.has
    generalize R.pat.getD i 0 = m at hm hmk hhas
    have st := Same.new (o := .tup [.int (i : Nat), celV ls m]) htt
    have s2 := spt s1 (sps (p := p) st)
    have p2 := g1.same st
    have e2 := st _ _ g2
    have hro2 := hro.sp s2
    refine ⟨_, _, rfl, SqT.of upd_same, rfl, _, _, rfl, _, _, rfl, rfl, ?_⟩
    have e2D : ∀ {x : Addr}, upd H1 tt (.tup [.int (i : Nat), celV ls m]) x = none → x ≠ p ∧ x ≠ l := fun h => p2.none h
    have hsl4 : (sel ls m).length ≤ 4 := Nat.le_trans sel_len h4
    refine ⟨_, rfl, _, rfl, fun D hD => lc_it walk_str (fun j H' => ∃ ks : List Nat, H' D = some (.lst ((ks.map fun i => ls.getD i 0).map chr1)) ∧ ks.Sublist (((List.range ls.length).filter m.testBit).take j) ∧ (i = R.at_ → R.kd ∈ ((List.range ls.length).filter m.testBit).take j → R.kd ∈ ks) ∧ PenO H' p l (c + 4 * i + j) ∧ SameP p (upd H1 tt (.tup [.int (i : Nat), celV ls m])) H') ⟨[], upd_same, List.nil_sublist _, fun _ h => by simp at h, p2.same (Same.new hD), sps (Same.new hD)⟩ (fun _ _ _ _ => trivial) (fun j x H3 H4 hj hP y => ?_) fun H3 hP => ?_⟩
    · obtain ⟨rfl, ch, hch, rfl⟩ := y
      obtain ⟨ks, q1, q2, q3, q4, q5⟩ := hP
      rw [sx_size] at hj
      rw [sx_get] at hch
      obtain ⟨i0, hi0, hl0⟩ := sel_get hch
      have ech : ls.getD i0 0 = ch := getD_of hl0
      have ek : ((List.range ls.length).filter m.testBit).take (j + 1) = ((List.range ls.length).filter m.testBit).take j ++ [i0] := by rw [List.take_succ, hi0]; rfl
      obtain ⟨nDp, nDl⟩ := e2D hD
      have hksl : ks.length ≤ 4 := by have := q2.length_le; rw [List.length_take] at this; omega
      have q1' : ∀ {H5 : Hp}, SameP p H4 H5 → H5 D = some (.lst ((ks.map fun i => ls.getD i 0).map chr1)) := fun s => s _ _ nDp q1
      have hlen : ((ks.map fun i => ls.getD i 0).map chr1).length < sizeLine := by rw [List.length_map, List.length_map]; omega
      have tkP : ∀ {H5 : Hp}, SameP p H4 H5 → PenO H5 p l (c + 4 * i + j + 1) → ∃ ks2 : List Nat, upd H5 D (.lst ((ks.map fun i => ls.getD i 0).map chr1 ++ [.str ⟨#[ch]⟩])) D = some (.lst ((ks2.map fun i => ls.getD i 0).map chr1)) ∧ ks2.Sublist (((List.range ls.length).filter m.testBit).take (j + 1)) ∧ (i = R.at_ → R.kd ∈ ((List.range ls.length).filter m.testBit).take (j + 1) → R.kd ∈ ks2) ∧ PenO (upd H5 D (.lst ((ks.map fun i => ls.getD i 0).map chr1 ++ [.str ⟨#[ch]⟩]))) p l (c + 4 * i + (j + 1)) ∧ SameP p (upd H1 tt (.tup [.int (i : Nat), celV ls m])) (upd H5 D (.lst ((ks.map fun i => ls.getD i 0).map chr1 ++ [.str ⟨#[ch]⟩]))) := fun {H5} s hp' => by
        refine ⟨ks ++ [i0], ?_, ?_, fun h1 h2 => ?_, hp'.upd nDp nDl, fun a u e ea => un' (ne_of_none ea hD) (spt q5 s a u e ea)⟩
        · rw [upd_same, List.map_append, List.map_append, List.map_singleton, List.map_singleton, ech]
          rfl
        · rw [ek]
          exact List.Sublist.append q2 (List.Sublist.refl _)
        · rw [ek] at h2
          rcases List.mem_append.mp h2 with h2 | h2
          · exact List.mem_append_left _ (q3 h1 h2)
          · exact List.mem_append_right _ h2
      have noP : ∀ {H5 : Hp}, SameP p H4 H5 → PenO H5 p l (c + 4 * i + j + 1) → ¬ (i = R.at_ ∧ i0 = R.kd) → ∃ ks : List Nat, H5 D = some (.lst ((ks.map fun i => ls.getD i 0).map chr1)) ∧ ks.Sublist (((List.range ls.length).filter m.testBit).take (j + 1)) ∧ (i = R.at_ → R.kd ∈ ((List.range ls.length).filter m.testBit).take (j + 1) → R.kd ∈ ks) ∧ PenO H5 p l (c + 4 * i + (j + 1)) ∧ SameP p (upd H1 tt (.tup [.int (i : Nat), celV ls m])) H5 := fun {H5} s hp' hno => by
        refine ⟨ks, q1' s, ?_, fun h1 h2 => ?_, hp', spt q5 s⟩
        · rw [ek]
          exact q2.trans (List.sublist_append_left _ _)
        · rw [ek] at h2
          rcases List.mem_append.mp h2 with h2 | h2
          · exact q3 h1 h2
          · rw [List.mem_singleton] at h2
            exact absurd ⟨h1, h2.symm⟩ hno
      refine ⟨rfl, _, rfl, p, l, 2, c + 4 * i + j, rfl, q4, by decide, by decide, by omega, fun d2 H5 _ s5 hp5 => ⟨rfl, _, rfl, ifp (p := d2 = 0) ?_ (fun h => iteT ⟨_, rfl, _, q1' s5, hlen, tkP s5 hp5⟩) fun h => ?_⟩⟩
      · rw [decide_eq_true_iff]
        exact ⟨fun z => by have := V.int.inj z; omega, fun z => by rw [z]; rfl⟩
      have hro5 := (hro2.sp q5).sp s5
      refine ⟨_, rfl, _, rfl, r, _, _, _, rfl, rfl, SqT.of hro5.2.2.1, rfl, rfl, _, rfl, ifp (p := i = R.at_) ?_ (fun h2 => ?_) fun h2 => iteF (noP s5 hp5 fun z => h2 z.1)⟩
      · rw [decide_eq_true_iff]
        exact ⟨fun z => by have := V.int.inj z; omega, fun z => by rw [z]⟩
      refine ⟨_, rfl, _, rfl, r, _, _, _, rfl, rfl, SqT.of hro5.2.2.1, rfl, rfl, _, rfl, ifp (p := i0 = R.kd) ?_ (fun h3 => ⟨_, rfl, _, q1' s5, hlen, tkP s5 hp5⟩) fun h3 => noP s5 hp5 fun z => h3 z.2⟩
      rw [decide_eq_true_iff]
      constructor
      · intro z
        have e1 := (List.cons.inj (sx_inj (ls := [ch]) (V.str.inj z))).1
        exact nd_inj ok.nd hl0 (by rw [e1]; exact getD_some rk.kd)
      · intro z
        rw [← z, ech]
    · obtain ⟨ks, q1, q2, q3, q4, q5⟩ := hP
      have eS : (Sx (sel ls m)).cps.size = ((List.range ls.length).filter m.testBit).length := by
        rw [sx_size]
        unfold sel
        rw [List.length_map]
      rw [eS, List.take_length] at q2 q3
      have hSl : ((List.range ls.length).filter m.testBit).length ≤ 4 := by rw [← eS, sx_size]; exact hsl4
      have hpen3 := q4.up (c' := c + 4 * (i + 1)) (by omega)
      have e3 := q5 _ _ nfp e2
      have hksS : ∀ x ∈ ks, x < ls.length ∧ m.testBit x = true := fun x hx => by
        have := q2.mem hx
        rw [List.mem_filter, List.mem_range] at this
        exact this
      have hsort : ks.Pairwise (· < ·) := (List.Pairwise.filter m.testBit List.pairwise_lt_range).sublist q2
      have hlow : ∀ x ∈ ks.map fun i => ls.getD i 0, x ≤ 122 := fun x hx => by
        obtain ⟨y, hy, rfl⟩ := List.mem_map.mp hx
        exact (ok.low _ (getD_mem (hksS y hy).1)).2
      have hkl : (ks.map fun i => ls.getD i 0).length ≤ 1000 := by rw [List.length_map]; have := q2.length_le; omega
      refine ⟨_, rfl, .inl ⟨rfl, _, SqL.of e3⟩, _, rfl, Nat.le_of_ble_eq_true rfl, fun z hz => ⟨_, _, .lst (SqL.of (uo q1 hz)) (chrD_dp _), .lst (SqL.of upd_same) .nil, chrD_shaped hlow, rfl, _, rfl, if_join (c := !decide ((ks.map fun i => ls.getD i 0) = [])) (fun v H' => H' = upd H3 z (.lst []) ∧ ∃ m', v = celV ls m' ∧ 0 < m' ∧ m' < 2 ^ ls.length ∧ (∀ a, m'.testBit a = true → m.testBit a = true) ∧ (i = R.at_ → m'.testBit R.kd = true)) ?_ (fun h Q' hq => ?_) (fun h Q' hq => ⟨_, rfl, hq _ _ ⟨rfl, m, rfl, hmk.1, hmk.2, fun _ h => h, hhas⟩⟩) ?_⟩⟩
      · show (!PyData.eqv _ _) = _
        rw [chrD_eqv]
      · have hne : ks ≠ [] := fun z => by rw [z] at h; cases h
        refine ⟨⟨_, rfl⟩, _, rfl, _, D, (ks.map fun i => ls.getD i 0).map fun c => (⟨#[c]⟩ : Str), rfl, rfl, .inl (SqL.of (by rw [uo q1 hz, List.map_map (g := V.str)]; rfl)), sum_one hkl, ?_⟩
        rw [sx_join]
        refine hq _ _ ⟨rfl, msk ks, ?_, msk_pos hne, msk_lt fun x hx => (hksS x hx).1, fun a ha => ?_, fun e => ?_⟩
        · unfold celV
          rw [msk_sel hsort fun x hx => (hksS x hx).1]
        · rw [msk_bit, decide_eq_true_iff] at ha
          exact (hksS a ha).2
        · rw [msk_bit, decide_eq_true_iff]
          exact q3 e (List.mem_filter.mpr ⟨List.mem_range.mpr rk.kd, hhas e⟩)
      · rintro v H' ⟨rfl, m', rfl, k1, k2, k3, k4⟩
        have e3z := uo (u := .lst []) e3 hz
        have sz3 := Same.new (o := .lst []) hz
        refine ⟨fl, _, _, rfl, rfl, e3z, by rw [List.length_map]; omega, ?_⟩
        refine ⟨ms ++ [m'], _, _, _, _, rfl, fun a u e ea => un' (ne_of_none ea hfl) (spt s2 (spt q5 (sps sz3)) a u e ea), (hpen3.same sz3).upd nfp nfl, by rw [upd_same, List.map_append]; rfl, by rw [List.length_append, g3]; rfl, fun j m2 hj2 => ?_⟩
        rcases Nat.lt_or_ge j ms.length with hj | hj
        · rw [List.getElem?_append_left hj] at hj2
          exact g4 j m2 hj2
        · rw [List.getElem?_append_right hj] at hj2
          obtain ⟨hz2, h2⟩ := List.getElem?_eq_some_iff.mp hj2
          simp at h2 hz2
          subst h2
          obtain rfl : j = i := by omega
          refine ⟨k1, k2, fun m3 hm3 => ?_⟩
          rw [hm] at hm3
          cases hm3
          exact ⟨k3, k4⟩
  · rintro σ H1 ⟨ms, u3, u4, u5, u6, rfl, s1, g1, g2, g3, g4⟩
    rw [List.length_map] at g1 g3
    have hro1 := hro.sp s1
    have hfew := rk.few
    refine ⟨_, rfl, _, rfl, r, _, _, _, rfl, rfl, SqT.of hro1.2.2.1, rfl, _, rfl, r, _, _, _, rfl, rfl, SqT.of hro1.2.2.1, rfl, _, rfl, r, _, _, _, rfl, rfl, SqT.of hro1.2.2.1, rfl, R.left, rfl, if_join (A := fun Q => Q (.bl true) H1) (c := R.left) (fun v H' => ∃ b', v = .bl b' ∧ (R.left = true → b' = true) ∧ SameP p H1 H' ∧ PenO H' p l (c + 17)) rfl (fun h Q' hq => hq _ _ ⟨true, rfl, fun _ => rfl, spr _ _, g1.up (by omega)⟩) (fun h Q' hq => ⟨_, rfl, p, l, 3, c + 16, rfl, g1.up (by omega), by decide, by decide, by omega, fun d H' _ s hp' => ⟨rfl, hq _ _ ⟨_, rfl, (fun z => by rw [h] at z; cases z), s, hp'⟩⟩⟩) ?_⟩
    rintro v H2 ⟨bl', rfl, hbl, s2, hp2⟩
    have hro2 := hro1.sp s2
    refine ⟨_, rfl, r, _, _, _, rfl, rfl, SqT.of hro2.2.2.1, rfl, R.right, rfl, if_join (A := fun Q => Q (.bl true) H2) (c := R.right) (fun v H' => ∃ b', v = .bl b' ∧ (R.right = true → b' = true) ∧ SameP p H2 H' ∧ PenO H' p l (c + 18)) rfl (fun h Q' hq => hq _ _ ⟨true, rfl, fun _ => rfl, spr _ _, hp2.up (by omega)⟩) (fun h Q' hq => ⟨_, rfl, p, l, 3, c + 17, rfl, hp2, by decide, by decide, by omega, fun d H' _ s hp' => ⟨rfl, hq _ _ ⟨_, rfl, (fun z => by rw [h] at z; cases z), s, hp'⟩⟩⟩) ?_⟩
    rintro v H3 ⟨br', rfl, hbr, s3, hp3⟩
    refine ⟨Nat.le_of_ble_eq_true rfl, fun rr hrr => ?_⟩
    have sr := Same.new (o := .tup [.ref fl, .int (R.at_ : Int), .str (Sx [ls.getD R.kd 0]), .bl bl', .bl br']) hrr
    have hat := rk.at_
    refine q rr fl ⟨ms, R.at_, R.kd, bl', br'⟩ _ (spt s1 (spt s2 (spt s3 (sps sr)))) (hp3.same sr) ⟨?_, ?_, fun m' hm' => ?_, ?_, rk.kd, ?_⟩ ⟨nfp, (hp3.none hrr).1, upd_same, sr _ _ (s3 _ _ nfp (s2 _ _ nfp g2))⟩ ⟨g3, rfl, rfl, fun i m m' h1 h2 => ((g4 i m' h2).2.2 m h1).1, hbl, hbr⟩
    · show 1 ≤ ms.length
      rw [g3]
      exact rk.pos
    · show ms.length ≤ 4
      rw [g3]
      exact hfew
    · obtain ⟨j, hj⟩ := List.mem_iff_getElem?.mp hm'
      exact ⟨(g4 j m' hj).1, (g4 j m' hj).2.1⟩
    · show R.at_ < ms.length
      rw [g3]
      exact hat
    · have ha := getD_some' (d := 0) (show R.at_ < ms.length by rw [g3]; exact hat)
      exact ((g4 R.at_ _ ha).2.2 _ (getD_some' (d := 0) hat)).2 rfl
theorem cg_law_less {w : World} {base : Heap} (T : Tx P K mg) : Cg P w K mg base 2 "_law_less" (sp_law_less K) := .fn (g_law_less T) (k_law_less T) (F_law_less T)
end
end K5
end
section
set_option maxRecDepth 100000
set_option maxHeartbeats 2000000
/-! the law itself -/
namespace K5
open PySem PySem.Spec PyProof.Rows L2
theorem PenO.sn {H H' : Hp} {p l : Addr} {c : Nat} (h : PenO H p l c) (s : SameP p H H') : SameN H H' := snp s fun o e => by
  obtain ⟨sc, a, g, _, e1, _⟩ := h
  rw [e1] at e
  cases e
  rfl
section
variable {P : Program} {K : PySem.W.Frag} {mg : Str → Option Value}
/-- a clue of the law -/
structure ClLaw (K : PySem.W.Frag) (H : Hp) (va : Addr) (k : Nat) (e : Addr × Tab) : Prop where
  ma : MaO K H e.1 va e.2
  ok : TabOk k e.2
  all : AllIn k e.2
  few : e.2.n ≤ 4
theorem ClLaw.mono {H H' : Hp} {va : Addr} {k : Nat} {e : Addr × Tab} (s : SameN H H') (h : ClLaw K H va k e) : ClLaw K H' va k e := ⟨h.ma.mono s, h.ok, h.all, h.few⟩
theorem RuO.neg_ {H : Hp} {a va : Addr} {ls : List Nat} {R : Rl} (T : Tx P K mg) (h : RuO K H a va ls R) : Dun K H a "__neg__" (a_Rule_neg K) := let ⟨dx, tp, tn, cs, e, _⟩ := h; dun_of e (h_Rule_neg T)
theorem MaO.neg_ {H : Hp} {a va : Addr} {B : Tab} (T : Tx P K mg) (h : MaO K H a va B) : Dun K H a "__neg__" (a_Clue_neg K) := let ⟨dx, ps, pt, e⟩ := h.full; dun_of e (h_Machine_neg T)
theorem one_rule {H : Hp} {a va : Addr} {ls : List Nat} {R : Rl} (h : RuO K H a va ls R) (rk : RlOk ls.length R) : RulesO K H va ls [a] [R] := by
  refine ⟨rfl, fun i r R' h1 h2 => ?_, fun R' hR => ?_, List.pairwise_singleton _ _, by show 1 ≤ 40; decide⟩
  · cases i with
    | zero => cases h1; cases h2; exact h
    | succ i => simp at h1
  · rw [List.mem_singleton] at hR
    exact hR ▸ rk
theorem bool_iff {a b : Bool} {p : Prop} (h1 : a = true ↔ p) (h2 : b = true ↔ p) : a = b := Bool.eq_iff_iff.mpr (h1.trans h2.symm)
def sp_law_right (K : PySem.W.Frag) : Sp := fun vs H Q E => ∃ (p l va cl : Addr) (c : Nat) (ls : List Nat) (e1 e2 : Addr × Tab), vs = [.ref p, .ref va, .str (Sx ls), .ref cl] ∧ PenO H p l c ∧ c ≤ 60000 ∧ VaO K H va ls ∧ LetOk ls ∧ cl ≠ p ∧ H cl = some (.lst [.ref e1.1, .ref e2.1]) ∧ ClLaw K H va ls.length e1 ∧ ClLaw K H va ls.length e2 ∧
  ∀ H', SameP p H H' → PenO H' p l (c + 45) → Q (.bl true) H'
theorem F_law_right {w : World} {base : Heap} (T : Tx P K mg) : FnR P w K mg base CX0 10 (a_law_right K) (sp_law_right K) := by
  refine fnr (f_law_right T) sc_law_right (fun vs H Q E h => by obtain ⟨_, _, _, _, _, _, _, _, rfl, _⟩ := h; rfl) (fun _ _ _ _ _ _ us hl => match us, hl with | [_, _, _, _], _ => rfl) fun cdv A outer s H vs Q E hr h => ?_
  refine ⟨_, (pss_cons (ps_set (i := 4) sc_law_right.nd rfl (Or.inl rfl) (pe_g (cg_law_row T) (hr.mono (by decide)) (pa_cons (pv 0) (pa_cons (pv 2) (pa_cons pe_int pa_nil)))))
  (pss_cons (ps_set (i := 5) sc_law_right.nd rfl (Or.inr rfl) (pe_g (cg_law_rule T) (hr.mono (by decide)) (pa_cons (pv 1) (pa_cons (pv 4) pa_nil))))
  (pss_cons (ps_setLcD (i := 6) (own := [("_law_clue_so", 8)]) s H rfl sc_law_right.nd rfl rfl (sw_true rfl rfl rfl (by decide +kernel)) (pi_list (pv 3)) (blkOk_by (N := n_law_right) (sc := defScope s_law_right) (by decide +kernel)) (fun _ _ _ _ _ => (pg_name (i := 8) sc_law_right.nd rfl (Or.inl rfl))) (fun _ _ _ _ _ => pts_nil) (fun _ _ _ _ _ => (pe_g (cg_is_sound_rule T) (hr.mono (by decide)) (pa_cons (pv 5) (pa_cons (pv 8) pa_nil)))))
  (pss_cons (ps_for PassesOwn.never rfl (pi_enum rfl (e_enumerate T) (pa_cons (pv 3) pa_nil)) (pg_tup rfl (pgs_cons (pg_name (i := 7) sc_law_right.nd rfl (Or.inl rfl)) (pgs_cons (pg_name (i := 8) sc_law_right.nd rfl (Or.inl rfl)) pgs_nil)))
  (pss_cons (ps_if (pt_cmpR op_ne (pe_ix ix_list (pv 6) (pv 7) (fun _ _ => rfl)) (pe_callTy (call_boolJu (w := w) (base := base) T (hr.mono (by decide))) rfl (e_bool T) boot_bool (pa_cons (pe_g (cg_judge_sound T) (hr.mono (by decide)) (pa_cons (pe_g (cg_Book T) (hr.mono (by decide)) (pa_cons (pv 1) (pa_cons (pv 5) pa_nil))) (pa_cons (pv 8) pa_nil))) pa_nil)) (by first | rfl | exact nomark _ | exact nobehind _ (by decide) (by decide))) (pss_one (ps_ret pe_bl)) pss_nil)
  (pss_cons (ps_if (pt_cmpR op_ne (pe_g (cg_is_sound_rule T) (hr.mono (by decide)) (pa_cons (pe_un (un_negOwn (F_Rule_neg T) (hr.mono (by decide))) (pv 5)) (pa_cons (pe_un (un_negOwn (F_Clue_neg T) (hr.mono (by decide))) (pv 8)) pa_nil))) (pe_ix ix_list (pv 6) (pv 7) (fun _ _ => rfl)) (by first | rfl | exact nomark _ | exact nobehind _ (by decide) (by decide))) (pss_one (ps_ret pe_bl)) pss_nil)
  (pss_one (ps_if (PW.pt (pw_and (pt_val (pe_ix ix_list (pv 6) (pv 7) (fun _ _ => rfl))) (pw_and1 (pt_not (pt_val (pe_g (cg_is_sound_rule T) (hr.mono (by decide)) (pa_cons (pe_g (cg_law_rule T) (hr.mono (by decide)) (pa_cons (pv 1) (pa_cons (pe_g (cg_law_less T) (hr.mono (by decide)) (pa_cons (pv 0) (pa_cons (pv 4) pa_nil))) pa_nil))) (pa_cons (pv 8) pa_nil)))))))) (pss_one (ps_ret pe_bl)) pss_nil)))))
  (pss_cons (ps_asg (pv 3) (pg_unl rfl (pgs_cons (pg_name (i := 9) sc_law_right.nd rfl (Or.inl rfl)) (pgs_cons (pg_name (i := 10) sc_law_right.nd rfl (Or.inl rfl)) pgs_nil))))
  (pss_cons (ps_if (PW.pt (pw_and (PW.pt (pw_or (pt_val (pe_ix ix_list (pv 6) pe_int (fun _ _ => rfl))) (pw_or1 (pt_val (pe_ix ix_list (pv 6) pe_int (fun _ _ => rfl)))))) (pw_and1 (pt_not (pt_val (pe_g (cg_is_sound_rule T) (hr.mono (by decide)) (pa_cons (pv 5) (pa_cons (pe_op (op_binOwn (F_Clue_and T) (hr.mono (by decide))) (pv 9) (pv 10)) pa_nil)))))))) (pss_one (ps_ret pe_bl)) pss_nil)
  (pss_one (ps_ret (pe_cmpR op_eq (pe_g (cg_is_sound_rule T) (hr.mono (by decide)) (pa_cons (pv 5) (pa_cons (pe_op (op_binOwn (F_Clue_or T) (hr.mono (by decide))) (pv 9) (pv 10)) pa_nil))) (pe_and (pe_ix ix_list (pv 6) pe_int (fun _ _ => rfl)) (pe_one (pe_ix ix_list (pv 6) pe_int (fun _ _ => rfl)))) (by first | rfl | exact nomark _ | exact nobehind _ (by decide) (by decide))))))))))), ?_⟩
  obtain ⟨p, l, va, cl, c, ls, e1, e2, rfl, hp, hc, hv, ok, ncp, ecl, hc1, hc2, q⟩ := h
  have sz : 1000 ≤ sizeLine := by decide
  have h4 := ok.four
  have h2 := ok.two
  refine ⟨_, rfl, _, rfl, p, l, c, ls, 4, rfl, hp, by omega, ok, by decide, by decide, fun r cl0 R H1 hr hcl s1 hp1 rk hro => ?_⟩
  have n1 := hp.sn s1
  refine ⟨_, rfl, _, rfl, va, r, cl0, p, ls, R, rfl, hv.mono n1, ok, hro, rk, fun a H2 ha s2 hru => ?_⟩
  have hro2 := hro.sp (sps (p := p) s2)
  have s02 := spt s1 (sps (p := p) s2)
  have n02 := snt n1 (sn s2)
  have hp2 := hp1.same s2
  have ecl2 := s02 _ _ ncp ecl
  have hv2 := hv.mono n02
  have hc12 := hc1.mono n02
  have hc22 := hc2.mono n02
  have each : ∀ (i : Nat) x, ([.ref e1.1, .ref e2.1] : List V)[i]? = some x → ∃ e, x = .ref e.1 ∧ ([e1, e2] : List (Addr × Tab))[i]? = some e ∧ ClLaw K H2 va ls.length e := fun i x h => by
    match i, h with
    | 0, h => cases h; exact ⟨e1, rfl, rfl, hc12⟩
    | 1, h => cases h; exact ⟨e2, rfl, rfl, hc22⟩
    | i + 2, h => simp at h
  refine ⟨_, rfl, cl, rfl, ⟨_, SqL.of ecl2⟩, fun D hD => lc_each (walk_list (xs := [.ref e1.1, .ref e2.1])) (fun i v _ => ∃ t : Bool, v = .bl t ∧ ∃ e, ([e1, e2] : List (Addr × Tab))[i]? = some e ∧ (t = true ↔ Snd ls.length R fun w => e.2.acc w = true)) (fun _ _ _ _ _ h => h) hD (by show 2 < _; omega) (fun H s => SqL.of (s _ _ ecl2)) yat_same (fun i x H3 H4 hi s3 s4 y k kk => ?_) fun H3 acc s3 eD hla hR => ?_⟩
  · obtain ⟨rfl, hx⟩ := y
    obtain ⟨e, rfl, he, hce⟩ := each i x hx
    have hce := hce.mono (sn s4)
    exact ⟨rfl, _, rfl, _, rfl, a, e.1, va, ls, R, e.2, rfl, hv2.mono (sn s4), ok, hru.mono (sn s4), rk, hce.ma.1, hce.ok, hce.all, by have := hce.few; omega, fun t H5 s5 ht => kk _ _ s5 ⟨t, rfl, e, he, ht⟩⟩
  obtain ⟨ts, rfl, hts⟩ := vals_of hR
  rw [List.length_map] at hla
  have hla : ts.length = 2 := hla
  have nDp : D ≠ p := (hp2.none hD).1
  have n23 := sn s3
  have hp3 := hp2.same s3
  have ecl3 := s3 _ _ ecl2
  have hv3 := hv2.mono n23
  have hru3 := hru.mono n23
  have hro3 := hro2.sp (sps (p := p) s3)
  have s03 := spt s02 (sps (p := p) s3)
  have each3 : ∀ (i : Nat) x, ([.ref e1.1, .ref e2.1] : List V)[i]? = some x → ∃ e, x = .ref e.1 ∧ ([e1, e2] : List (Addr × Tab))[i]? = some e ∧ ClLaw K H3 va ls.length e := fun i x h => let ⟨e, h1, h2, h3⟩ := each i x h; ⟨e, h1, h2, h3.mono n23⟩
  have hgt : ∀ (i : Nat) e, ([e1, e2] : List (Addr × Tab))[i]? = some e → ∃ t, ts[i]? = some t ∧ (t = true ↔ Snd ls.length R fun w => e.2.acc w = true) := fun i e he => by
    have hi : i < ts.length := by rw [hla]; exact (List.getElem?_eq_some_iff.mp he).1
    obtain ⟨e', he', ht⟩ := hts i _ (List.getElem?_eq_getElem hi)
    rw [he] at he'
    cases he'
    exact ⟨_, List.getElem?_eq_getElem hi, ht⟩
  refine ⟨_, rfl, cl, _, rfl, SqL.of ecl3, for_it walk_enum (fun i σ H' => (∃ u7 u8 u9 u10 : Option V, σ = [some (.ref p), some (.ref va), some (.str (Sx ls)), some (.ref cl), some (.ref r), some (.ref a), some (.ref D), u7, u8, u9, u10]) ∧ SameP p H3 H' ∧ PenO H' p l (c + 9 + 18 * i)) ⟨⟨_, _, _, _, rfl⟩, spr _ _, hp3⟩ (fun i σ H' _ ⟨_, s, _⟩ => SqL.of (s _ _ ncp ecl3)) ?_ ?_⟩
  · rintro i y σ H4 H5 hi ⟨⟨u7, u8, u9, u10, rfl⟩, s4, g1⟩ ⟨tt, x1, x2, rfl, htt, rfl, hx1, hx2⟩
    cases hx1
    have hi : i < 2 := hi
    obtain ⟨e, rfl, he, hce3⟩ := each3 i x2 hx2
    obtain ⟨t, ht, htS⟩ := hgt i e he
    have st := Same.new (o := .tup [.int (i : Nat), .ref e.1]) htt
    have s5 := spt s4 (sps (p := p) st)
    have p5 := g1.same st
    have n35 := hp3.sn s5
    have eD5 := s5 _ _ nDp eD
    have hce := hce3.mono n35
    have hru5 := hru3.mono n35
    have hv5 := hv3.mono n35
    have hro5 := hro3.sp s5
    have hget : (ts.map V.bl)[i]? = some (.bl t) := by rw [List.getElem?_map, ht]; rfl
    refine ⟨_, _, rfl, SqT.of upd_same, rfl, _, _, rfl, _, _, rfl, rfl, ?_⟩
    refine ⟨_, rfl, _, rfl, D, _, _, _, rfl, rfl, SqL.of eD5, atI_nat hget, _, rfl, _, rfl, va, ls, [a], [R], rfl, hv5, ok, one_rule hru5 rk, fun b H6 _ s6 hbo => ⟨_, rfl, b, e.1, va, ls, [R], e.2, rfl, hv5.mono (sn s6), ok, hbo, (hce.mono (sn s6)).ma.1, hce.ok, hce.all, by have := hce.few; omega, fun j t' H7 s7 hju ht' => ⟨j, t', rfl, hju, rfl, _, rfl, ifb (c := false) ?_ (fun h => nomatch h) fun _ => ?_⟩⟩⟩
    · have : t = t' := bool_iff htS (ht'.trans ⟨fun h => h R (List.mem_singleton.mpr rfl), fun h R' hR => by rw [List.mem_singleton] at hR; exact hR ▸ h⟩)
      rw [this]
      show (!decide (V.bl t' = V.bl t')) = false
      rw [decide_eq_true rfl]
      rfl
    have s57 := str s6 s7
    have hru7 := hru5.mono (sn s57)
    have hv7 := hv5.mono (sn s57)
    have hce7 := hce.mono (sn s57)
    have eD7 := s57 _ _ eD5
    refine ⟨_, rfl, a, rfl, hru7.neg_ T, a, va, ls, R, rfl, hru7, rk, hv7, ok, fun rn H8 _ s8 hrn => ⟨_, rfl, e.1, rfl, (hce7.mono (sn s8)).ma.neg_ T, e.1, va, ls, e.2, rfl, by omega, h4, (hce7.mono (sn s8)).ma.1, hce.ok, hce.few, fun cn Dn H9 s9 hcn okn alln nn accn => ⟨rn, cn, va, ls, R.neg, Dn, rfl, hv7.mono (sn (str s8 s9)), ok, hrn.mono (sn s9), rk.neg, hcn, okn, alln, nn, fun t2 H10 s10 ht2 => ⟨_, rfl, _, rfl, D, _, _, _, rfl, rfl, SqL.of ((str (str s8 s9) s10) _ _ eD7), atI_nat hget, rfl, _, rfl, ifb (c := false) ?_ (fun h => nomatch h) fun _ => ?_⟩⟩⟩⟩
    · have : t2 = t := bool_iff (ht2.trans (Snd.neg rk.at_ fun w hw => by rw [accn w hw])) htS
      rw [this]
      show (!decide (V.bl t = V.bl t)) = false
      rw [decide_eq_true rfl]
      rfl
    have s510 := str s57 (str (str s8 s9) s10)
    have p10 := p5.same s510
    have hro10 := hro5.sp (sps (p := p) s510)
    have hv10 := hv5.mono (sn s510)
    have hce10 := hce.mono (sn s510)
    refine ⟨_, rfl, _, rfl, D, _, _, _, rfl, rfl, SqL.of (s510 _ _ eD5), atI_nat hget, t, rfl, ifb (c := t) rfl (fun htt2 => ?_) fun _ => iteF ⟨⟨_, _, _, _, rfl⟩, spt s5 (sps s510), p10.up (by omega)⟩⟩
    refine ⟨_, rfl, _, rfl, _, rfl, p, l, r, cl0, c + 9 + 18 * i, ls, R, rfl, p10, by omega, ok, hro10, rk, fun r2 cl2 R2 H11 s11 p11 rk2 hro2 hless => ?_⟩
    have n11 := p10.sn s11
    refine ⟨va, r2, cl2, p, ls, R2, rfl, hv10.mono n11, ok, hro2, rk2, fun a2 H12 _ s12 hru2 => ⟨_, rfl, a2, e.1, va, ls, R2, e.2, rfl, (hv10.mono n11).mono (sn s12), ok, hru2, rk2, ((hce10.mono n11).mono (sn s12)).ma.1, hce.ok, hce.all, by have := hce.few; omega, fun t3 H13 s13 ht3 => ⟨t3, rfl, ifb (c := false) ?_ (fun h => nomatch h) fun _ => ⟨⟨_, _, _, _, rfl⟩, spt s5 (spt (sps s510) (spt s11 (sps (str s12 s13)))), (p11.same (str s12 s13)).up (by omega)⟩⟩⟩⟩
    rw [ht3.mpr (hless.snd (htS.mp htt2))]
    rfl
  · rintro σ H4 ⟨⟨u7, u8, u9, u10, rfl⟩, s4, g1⟩
    have g1 : PenO H4 p l (c + 9 + 18 * 2) := g1
    have n34 := hp3.sn s4
    have ecl4 := s4 _ _ ncp ecl3
    have eD4 := s4 _ _ nDp eD
    have hru4 := hru3.mono n34
    have hv4 := hv3.mono n34
    have hc14 := (hc12.mono n23).mono n34
    have hc24 := (hc22.mono n23).mono n34
    obtain ⟨t1, ht1, hS1⟩ := hgt 0 e1 rfl
    obtain ⟨t2, ht2, hS2⟩ := hgt 1 e2 rfl
    have hget1 : (ts.map V.bl)[0]? = some (.bl t1) := by rw [List.getElem?_map, ht1]; rfl
    have hget2 : (ts.map V.bl)[1]? = some (.bl t2) := by rw [List.getElem?_map, ht2]; rfl
    refine ⟨_, rfl, cl, _, rfl, SqL.of ecl4, rfl, _, _, rfl, _, _, rfl, rfl, ?_⟩
    have hnn : e1.2.n * e2.2.n ≤ 60 := Nat.le_trans (Nat.mul_le_mul hc14.few hc24.few) (by decide)
    refine ⟨_, rfl, D, _, _, _, rfl, rfl, SqL.of eD4, (atI_nat hget1 : atI _ ((0 : Nat) : Int) = _), t1, rfl, ifb (c := t1) rfl (fun h1 => iteT ?_) fun h1 => ⟨_, rfl, D, _, _, _, rfl, rfl, SqL.of eD4, (atI_nat hget2 : atI _ ((1 : Nat) : Int) = _), t2, rfl, ifb (c := t2) rfl (fun h2 => ?_) fun h2 => ?_⟩⟩
    · skip
      obtain ⟨dy1, w1s, w1t, k1⟩ := hc14.ma.full
      obtain ⟨dy2, w2s, w2t, k2⟩ := hc24.ma.full
      refine ⟨_, rfl, _, rfl, _, rfl, e1.1, e2.1, _, _, _, _, _, rfl, rfl, k1, k2, T.first, (h_Machine_and T).at_, (h_Machine_and T).fn, e1.1, e2.1, va, ls, e1.2, e2.2, rfl, hv4, h4, hc14.ma, hc24.ma.1, hc14.ok, hc24.ok, hnn, fun ra Da H5 s5 hcA okA allA nA accA => ⟨a, ra, va, ls, R, Da, rfl, hv4.mono (sn s5), ok, hru4.mono (sn s5), rk, hcA, okA, allA, nA, fun tA H6 s6 htA => ⟨tA, rfl, ifb (c := false) ?_ (fun h => nomatch h) fun _ => ?_⟩⟩⟩
      · have hA : Snd ls.length R fun w => Da.acc w = true := (Snd.congr fun w hw => by rw [accA w hw, Bool.and_eq_true]).mpr (Snd.and (.inl (hS1.mp h1)))
        rw [htA.mpr hA]
        rfl
      have sL := str s5 s6
      obtain ⟨dx1, q1s, q1t, f1⟩ := (hc14.mono (sn sL)).ma.full
      obtain ⟨dx2, q2s, q2t, f2⟩ := (hc24.mono (sn sL)).ma.full
      refine ⟨_, rfl, _, rfl, _, rfl, e1.1, e2.1, _, _, _, _, _, rfl, rfl, f1, f2, T.first, (h_Machine_or T).at_, (h_Machine_or T).fn, e1.1, e2.1, va, ls, e1.2, e2.2, rfl, hv4.mono (sn sL), h4, (hc14.mono (sn sL)).ma, (hc24.mono (sn sL)).ma.1, hc14.ok, hc24.ok, hnn, fun ro Do H7 s7 hcO okO allO nO accO => ⟨a, ro, va, ls, R, Do, rfl, (hv4.mono (sn sL)).mono (sn s7), ok, (hru4.mono (sn sL)).mono (sn s7), rk, hcO, okO, allO, nO, fun tO H8 s8 htO => ?_⟩⟩
      have s48 := str sL (str s7 s8)
      have eD8 := s48 _ _ eD4
      refine ⟨_, rfl, D, _, _, _, rfl, rfl, SqL.of eD8, (atI_nat hget1 : atI _ ((0 : Nat) : Int) = _), t1, rfl, if_join (B := fun Q => Q (.bl false) H8) (c := t1) (fun v H' => v = .bl (t1 && t2) ∧ H' = H8) rfl (fun h Q' hq => ⟨_, rfl, D, _, _, _, rfl, rfl, SqL.of eD8, (atI_nat hget2 : atI _ ((1 : Nat) : Int) = _), hq _ _ ⟨by rw [h]; rfl, rfl⟩⟩) (fun h Q' hq => hq _ _ ⟨by rw [h]; rfl, rfl⟩) ?_⟩
      rintro v H9 ⟨rfl, rfl⟩
      refine ⟨rfl, ?_⟩
      have etO : tO = (t1 && t2) := Bool.eq_iff_iff.mpr (by
        rw [htO, Bool.and_eq_true, hS1, hS2, ← Snd.or]
        exact Snd.congr fun w hw => by rw [accO w hw, Bool.or_eq_true])
      have qq := q H9 (spt s03 (spt s4 (sps s48))) ((g1.same s48).up (by omega))
      have ed : decide (V.bl tO = V.bl (t1 && t2)) = true := decide_eq_true (by rw [etO])
      rw [← ed] at qq
      exact qq
    · skip
      obtain ⟨dy1, w1s, w1t, k1⟩ := hc14.ma.full
      obtain ⟨dy2, w2s, w2t, k2⟩ := hc24.ma.full
      refine ⟨_, rfl, _, rfl, _, rfl, e1.1, e2.1, _, _, _, _, _, rfl, rfl, k1, k2, T.first, (h_Machine_and T).at_, (h_Machine_and T).fn, e1.1, e2.1, va, ls, e1.2, e2.2, rfl, hv4, h4, hc14.ma, hc24.ma.1, hc14.ok, hc24.ok, hnn, fun ra Da H5 s5 hcA okA allA nA accA => ⟨a, ra, va, ls, R, Da, rfl, hv4.mono (sn s5), ok, hru4.mono (sn s5), rk, hcA, okA, allA, nA, fun tA H6 s6 htA => ⟨tA, rfl, ifb (c := false) ?_ (fun h => nomatch h) fun _ => ?_⟩⟩⟩
      · have hA : Snd ls.length R fun w => Da.acc w = true := (Snd.congr fun w hw => by rw [accA w hw, Bool.and_eq_true]).mpr (Snd.and (.inr (hS2.mp h2)))
        rw [htA.mpr hA]
        rfl
      have sL := str s5 s6
      obtain ⟨dx1, q1s, q1t, f1⟩ := (hc14.mono (sn sL)).ma.full
      obtain ⟨dx2, q2s, q2t, f2⟩ := (hc24.mono (sn sL)).ma.full
      refine ⟨_, rfl, _, rfl, _, rfl, e1.1, e2.1, _, _, _, _, _, rfl, rfl, f1, f2, T.first, (h_Machine_or T).at_, (h_Machine_or T).fn, e1.1, e2.1, va, ls, e1.2, e2.2, rfl, hv4.mono (sn sL), h4, (hc14.mono (sn sL)).ma, (hc24.mono (sn sL)).ma.1, hc14.ok, hc24.ok, hnn, fun ro Do H7 s7 hcO okO allO nO accO => ⟨a, ro, va, ls, R, Do, rfl, (hv4.mono (sn sL)).mono (sn s7), ok, (hru4.mono (sn sL)).mono (sn s7), rk, hcO, okO, allO, nO, fun tO H8 s8 htO => ?_⟩⟩
      have s48 := str sL (str s7 s8)
      have eD8 := s48 _ _ eD4
      refine ⟨_, rfl, D, _, _, _, rfl, rfl, SqL.of eD8, (atI_nat hget1 : atI _ ((0 : Nat) : Int) = _), t1, rfl, if_join (B := fun Q => Q (.bl false) H8) (c := t1) (fun v H' => v = .bl (t1 && t2) ∧ H' = H8) rfl (fun h Q' hq => ⟨_, rfl, D, _, _, _, rfl, rfl, SqL.of eD8, (atI_nat hget2 : atI _ ((1 : Nat) : Int) = _), hq _ _ ⟨by rw [h]; rfl, rfl⟩⟩) (fun h Q' hq => hq _ _ ⟨by rw [h]; rfl, rfl⟩) ?_⟩
      rintro v H9 ⟨rfl, rfl⟩
      refine ⟨rfl, ?_⟩
      have etO : tO = (t1 && t2) := Bool.eq_iff_iff.mpr (by
        rw [htO, Bool.and_eq_true, hS1, hS2, ← Snd.or]
        exact Snd.congr fun w hw => by rw [accO w hw, Bool.or_eq_true])
      have qq := q H9 (spt s03 (spt s4 (sps s48))) ((g1.same s48).up (by omega))
      have ed : decide (V.bl tO = V.bl (t1 && t2)) = true := decide_eq_true (by rw [etO])
      rw [← ed] at qq
      exact qq
    · skip
      have sL := srf H4
      obtain ⟨dx1, q1s, q1t, f1⟩ := (hc14.mono (sn sL)).ma.full
      obtain ⟨dx2, q2s, q2t, f2⟩ := (hc24.mono (sn sL)).ma.full
      refine ⟨_, rfl, _, rfl, _, rfl, e1.1, e2.1, _, _, _, _, _, rfl, rfl, f1, f2, T.first, (h_Machine_or T).at_, (h_Machine_or T).fn, e1.1, e2.1, va, ls, e1.2, e2.2, rfl, hv4.mono (sn sL), h4, (hc14.mono (sn sL)).ma, (hc24.mono (sn sL)).ma.1, hc14.ok, hc24.ok, hnn, fun ro Do H7 s7 hcO okO allO nO accO => ⟨a, ro, va, ls, R, Do, rfl, (hv4.mono (sn sL)).mono (sn s7), ok, (hru4.mono (sn sL)).mono (sn s7), rk, hcO, okO, allO, nO, fun tO H8 s8 htO => ?_⟩⟩
      have s48 := str sL (str s7 s8)
      have eD8 := s48 _ _ eD4
      refine ⟨_, rfl, D, _, _, _, rfl, rfl, SqL.of eD8, (atI_nat hget1 : atI _ ((0 : Nat) : Int) = _), t1, rfl, if_join (B := fun Q => Q (.bl false) H8) (c := t1) (fun v H' => v = .bl (t1 && t2) ∧ H' = H8) rfl (fun h Q' hq => ⟨_, rfl, D, _, _, _, rfl, rfl, SqL.of eD8, (atI_nat hget2 : atI _ ((1 : Nat) : Int) = _), hq _ _ ⟨by rw [h]; rfl, rfl⟩⟩) (fun h Q' hq => hq _ _ ⟨by rw [h]; rfl, rfl⟩) ?_⟩
      rintro v H9 ⟨rfl, rfl⟩
      refine ⟨rfl, ?_⟩
      have etO : tO = (t1 && t2) := Bool.eq_iff_iff.mpr (by
        rw [htO, Bool.and_eq_true, hS1, hS2, ← Snd.or]
        exact Snd.congr fun w hw => by rw [accO w hw, Bool.or_eq_true])
      have qq := q H9 (spt s03 (spt s4 (sps s48))) ((g1.same s48).up (by omega))
      have ed : decide (V.bl tO = V.bl (t1 && t2)) = true := decide_eq_true (by rw [etO])
      rw [← ed] at qq
      exact qq
theorem cg_law_right {w : World} {base : Heap} (T : Tx P K mg) : Cg P w K mg base 10 "_law_right" (sp_law_right K) := .fn (g_law_right T) (k_law_right T) (F_law_right T)
theorem bls_flat : ∀ ts : List Bool, (ts.map V.bl).all flatV = true
  | [] => rfl
  | t :: ts => by
    show (flatV (.bl t) && (ts.map V.bl).all flatV) = true
    rw [bls_flat ts]
    rfl
theorem inV_bl : ∀ ts : List Bool, inV (.bl false) (ts.map V.bl) = decide (false ∈ ts)
  | [] => rfl
  | t :: ts => by
    show (eqV (.bl t) (.bl false) || inV (.bl false) (ts.map V.bl)) = _
    rw [inV_bl ts]
    cases t
    · have : eqV (.bl false) (.bl false) = true := rfl
      rw [this]
      simp
    · have : eqV (.bl true) (.bl false) = false := rfl
      rw [this]
      simp
def sp_law (K : PySem.W.Frag) : Sp := fun vs H Q E => ∃ (a : Addr) (ns : List Int), vs = [.ref a] ∧ SqL K H a (ns.map V.int) ∧ ns.length ≤ 63 ∧ ∀ H', Q (.bl true) H'
theorem law_ok {w : World} {base : Heap} (T : Tx P K mg) {fd : FuncData} (F : FunD K "law" "law" (defArgs s_law) (defBody s_law) (defScope s_law) [] [] (a_law K) fd) : FnOk P w K mg base CX0 11 (a_law K) fd p_law (sp_law K) := by
  refine F.ok sc_law (fun vs H Q E h => by obtain ⟨_, _, rfl, _⟩ := h; rfl) fun cdv A outer s H vs Q E hr h => ?_
  suffices hh : ∃ t, PSs (cxOf CX0 P w K mg base n_law "law" (defScope s_law) (a_law K) cdv A outer s H E).nox (defBody s_law) t ∧ t { nx := fun _ H' => Q .non H', rt := Q } (L2.start n_law vs) H from let ⟨t, h1, h2⟩ := hh; ⟨t, h1.nox, h2⟩
  obtain ⟨a, ns, rfl, ha, hl, q⟩ := h
  refine ⟨_, (pss_cons (ps_set (i := 1) sc_law.nd rfl (Or.inl rfl) (pe_g (cg_law_pen T) (hr.mono (by decide)) (pa_cons (pv 0) pa_nil))) (pss_cons (ps_for PassesOwn.never rfl (pi_range1 rfl (e_range T) (pa_cons pe_int pa_nil)) (pg_name (i := 2) sc_law.nd rfl (Or.inl rfl)) (pss_cons (ps_set (i := 3) sc_law.nd rfl (Or.inl rfl) (pe_g (cg_law_letters T) (hr.mono (by decide)) (pa_cons (pv 1) pa_nil))) (pss_cons (ps_set (i := 4) sc_law.nd rfl (Or.inr rfl) (pe_g (cg_Values T) (hr.mono (by decide)) (pa_cons (pv 3) pa_nil))) (pss_cons (ps_set (i := 5) sc_law.nd rfl (Or.inr rfl) (pe_lst (pa_cons (pe_g (cg_law_clue T) (hr.mono (by decide)) (pa_cons (pv 1) (pa_cons (pv 4) (pa_cons (pv 3) (pa_cons pe_int pa_nil))))) (pa_cons (pe_g (cg_law_clue T) (hr.mono (by decide)) (pa_cons (pv 1) (pa_cons (pv 4) (pa_cons (pv 3) (pa_cons pe_int pa_nil))))) pa_nil)))) (pss_cons (ps_for PassesOwn.never rfl (pi_range1 rfl (e_range T) (pa_cons pe_int pa_nil)) (pg_name (i := 6) sc_law.nd rfl (Or.inl rfl)) (pss_one (ps_if (pt_not (pt_val (pe_g (cg_law_right T) (hr.mono (by decide)) (pa_cons (pv 1) (pa_cons (pv 4) (pa_cons (pv 3) (pa_cons (pv 5) pa_nil))))))) (pss_one (ps_ret pe_bl)) pss_nil))) (pss_cons (ps_set (i := 7) sc_law.nd rfl (Or.inl rfl) (pe_g (cg_law_rows T) (hr.mono (by decide)) (pa_cons (pv 1) (pa_cons (pv 3) (pa_cons (pe_g (cg_law_draw T) (hr.mono (by decide)) (pa_cons (pv 1) (pa_cons pe_int pa_nil))) (pa_cons pe_int pa_nil)))))) (pss_cons (ps_setLcD (i := 8) (own := [("_law_row_here", 9)]) s H rfl sc_law.nd rfl rfl (sw_true rfl rfl rfl (by decide +kernel)) (pi_list (pv 7)) (blkOk_by (N := n_law) (sc := defScope s_law) (by decide +kernel)) (fun _ _ _ _ _ => (pg_name (i := 9) sc_law.nd rfl (Or.inl rfl))) (fun _ _ _ _ _ => pts_nil) (fun _ _ _ _ _ => (pe_g (cg_is_sound_rule T) (hr.mono (by decide)) (pa_cons (pe_g (cg_law_rule T) (hr.mono (by decide)) (pa_cons (pv 4) (pa_cons (pv 9) pa_nil))) (pa_cons (pe_ix ix_list (pv 5) pe_int (fun _ _ => rfl)) pa_nil))))) (pss_one (ps_if (pt_cmpR op_ne (pe_callTy (call_boolJu (w := w) (base := base) T (hr.mono (by decide))) rfl (e_bool T) boot_bool (pa_cons (pe_g (cg_judge_sound T) (hr.mono (by decide)) (pa_cons (pe_g (cg_law_book T) (hr.mono (by decide)) (pa_cons (pv 4) (pa_cons (pv 7) pa_nil))) (pa_cons (pe_ix ix_list (pv 5) pe_int (fun _ _ => rfl)) pa_nil))) pa_nil)) (pe_cmpR op_notIn_seq pe_bl (pv 8) (by first | rfl | exact nomark _ | exact nobehind _ (by decide) (by decide))) (by first | rfl | exact nomark _ | exact nobehind _ (by decide) (by decide))) (pss_one (ps_ret pe_bl)) pss_nil))))))))) (pss_one (ps_ret pe_bl)))), ?_⟩
  have sz : 1000 ≤ sizeLine := by decide
  refine ⟨_, rfl, a, ns, rfl, ha, hl, fun p l H1 hp0 s1 hp1 => ?_⟩
  refine ⟨_, rfl, by omega, by omega, for_range (fun i σ H' => ∃ u2 u3 u4 u5 u6 u7 u8 u9 : Option V, σ = [some (.ref a), some (.ref p), u2, u3, u4, u5, u6, u7, u8, u9] ∧ PenO H' p l (273 * i)) ⟨_, _, _, _, _, _, _, _, rfl, hp1⟩ ?_ ?_⟩
  · rintro i σ H2 hi ⟨u2, u3, u4, u5, u6, u7, u8, u9, rfl, hp2⟩
    have hi : i < 3 := hi
    refine ⟨_, rfl, p, l, 273 * i, rfl, hp2, by omega, fun ls H3 ok s3 hp3 => ?_⟩
    have h4 := ok.four
    refine ⟨_, rfl, ls, rfl, ok, fun va H4 hva s4 hv => ?_⟩
    have hp4 := hp3.same s4
    refine ⟨_, rfl, _, rfl, _, rfl, p, l, va, 273 * i + 5, ls, 4, rfl, hp4, by omega, hv, ok, by decide, by decide, fun c1 B1 H5 s5 hp5 m1 ok1 all1 n1 => ?_⟩
    have k5 := hp4.sn s5
    refine ⟨_, rfl, _, rfl, _, rfl, p, l, va, 273 * i + 26, ls, 3, rfl, hp5, by omega, hv.mono k5, ok, by decide, by decide, fun c2 B2 H6 s6 hp6 m2 ok2 all2 n2 => ?_⟩
    have k6 := hp5.sn s6
    refine ⟨Nat.le_of_ble_eq_true rfl, fun cl hcl => ?_⟩
    obtain ⟨ncp, _⟩ := hp6.none hcl
    have sc := Same.new (o := .lst [.ref c1, .ref c2]) hcl
    have ecl : upd H6 cl (.lst [.ref c1, .ref c2]) cl = some (.lst [.ref c1, .ref c2]) := upd_same
    have hp7 := hp6.same sc
    have hv7 := (hv.mono k5).mono (snt k6 (sn sc))
    have hc1 : ClLaw K (upd H6 cl (.lst [.ref c1, .ref c2])) va ls.length (c1, B1) := ⟨m1.mono (snt k6 (sn sc)), ok1, all1, n1⟩
    have hc2 : ClLaw K (upd H6 cl (.lst [.ref c1, .ref c2])) va ls.length (c2, B2) := ⟨m2.mono (sn sc), ok2, all2, by have : B2.n ≤ 3 := n2; show B2.n ≤ 4; omega⟩
    refine ⟨_, rfl, by omega, by omega, for_range (fun j σ H' => ∃ u6 u7 u8 u9 : Option V, σ = [some (.ref a), some (.ref p), some (.int (0 + (i : Int))), some (.str (Sx ls)), some (.ref va), some (.ref cl), u6, u7, u8, u9] ∧ SameP p (upd H6 cl (.lst [.ref c1, .ref c2])) H' ∧ PenO H' p l (273 * i + 47 + 45 * j)) ⟨_, _, _, _, rfl, spr _ _, hp7⟩ ?_ ?_⟩
    · rintro j σ H8 hj ⟨u6, u7, u8, u9, rfl, s8, hp8⟩
      have hj : j < 3 := hj
      have k8 := hp7.sn s8
      exact ⟨_, rfl, _, rfl, _, rfl, _, rfl, p, l, va, cl, 273 * i + 47 + 45 * j, ls, (c1, B1), (c2, B2), rfl, hp8, by omega, hv7.mono k8, ok, ncp, s8 _ _ ncp ecl, hc1.mono k8, hc2.mono k8, fun H9 s9 hp9 => ⟨_, rfl, ifb (c := false) rfl (fun h => nomatch h) fun _ => ⟨_, _, _, _, rfl, spt s8 s9, hp9.up (by omega)⟩⟩⟩
    · rintro σ H8 ⟨u6, u7, u8, u9, rfl, s8, hp8⟩
      have hp8 : PenO H8 p l (273 * i + 47 + 45 * 3) := hp8
      refine ⟨_, rfl, _, rfl, _, rfl, p, l, 5, 273 * i + 182, rfl, hp8.up (by omega), by decide, by decide, by omega, fun d H9 hd s9 hp9 => ?_⟩
      refine ⟨p, l, 273 * i + 183, ls, d, 3, rfl, hp9.up (by omega), by omega, ok, by omega, by decide, by decide, fun fl Rs H10 s10 hp10 hRk hnd hl10 nfp hrw => ?_⟩
      have s710 := spt s8 (spt s9 s10)
      have k10 := hp7.sn s710
      have hv10 := hv7.mono k10
      have hc10 := hc1.mono k10
      have ecl10 := s710 _ _ ncp ecl
      obtain ⟨rs, e1, hrl, hrs⟩ := id hrw
      have hml : (rs.map V.ref).length = Rs.length := by rw [List.length_map, hrl]
      refine ⟨_, rfl, fl, rfl, ⟨_, SqL.of e1⟩, fun D hD => lc_each (walk_list (xs := rs.map V.ref)) (fun i v _ => ∃ t : Bool, v = .bl t ∧ ∃ R, Rs[i]? = some R ∧ (t = true ↔ Snd ls.length R fun w => B1.acc w = true)) (fun _ _ _ _ _ h => h) hD (small1000 (by omega)) (fun H s => SqL.of (s _ _ e1)) yat_same (fun k x H11 H12 hk s11 s12 y kn kk => ?_) fun H11 acc s11 eD hla hR => ?_⟩
      · obtain ⟨rfl, hx⟩ := y
        rw [hml] at hk
        have hk' : k < rs.length := by rw [hrl]; exact hk
        rw [List.getElem?_map, List.getElem?_eq_getElem hk'] at hx
        cases hx
        have eR : Rs[k]? = some Rs[k] := List.getElem?_eq_getElem hk
        obtain ⟨cl0, _, b1, b2, b3, b4⟩ := hrs k _ _ (List.getElem?_eq_getElem hk') eR
        have rk := hRk _ (List.mem_of_getElem? eR)
        refine ⟨rfl, _, rfl, _, rfl, va, _, cl0, p, ls, _, rfl, hv10.mono (sn s12), ok, ⟨b1, b2, s12 _ _ b3, s12 _ _ b4⟩, rk, fun ra H13 _ s13 hru => ⟨_, rfl, cl, _, _, _, rfl, rfl, SqL.of ((str s12 s13) _ _ ecl10), (atI_nat (j := 0) rfl : atI _ ((0 : Nat) : Int) = _), ra, c1, va, ls, _, B1, rfl, hv10.mono (sn (str s12 s13)), ok, hru, rk, (hc10.mono (sn (str s12 s13))).ma.1, ok1, all1, (by have : B1.n ≤ 4 := n1; omega), fun t H14 s14 ht => kk _ _ (str s13 s14) ⟨t, rfl, _, eR, ht⟩⟩⟩
      obtain ⟨ts, rfl, hts⟩ := vals_of hR
      rw [List.length_map, hml] at hla
      have hrw11 : RwsO H11 fl p ls Rs := ⟨rs, s11 _ _ e1, hrl, fun i r R h1 h2 => let ⟨cl, a1, a2⟩ := hrs i r R h1 h2; ⟨cl, a1, a2.sp (sps s11)⟩⟩
      have hp11 := hp10.same s11
      refine ⟨_, rfl, _, rfl, va, fl, p, ls, Rs, rfl, hv10.mono (sn s11), ok, hrw11, hRk, hnd, by omega, fun b H12 s12 hbo => ?_⟩
      have s112 := str s11 s12
      refine ⟨_, rfl, cl, _, _, _, rfl, rfl, SqL.of (s112 _ _ ecl10), (atI_nat (j := 0) rfl : atI _ ((0 : Nat) : Int) = _), b, c1, va, ls, Rs, B1, rfl, hv10.mono (sn s112), ok, hbo, (hc10.mono (sn s112)).ma.1, ok1, all1, (by have : B1.n ≤ 4 := n1; omega), fun j t H13 s13 hju ht => ⟨j, t, rfl, hju, _, rfl, D, _, rfl, .inl (SqL.of ((str s12 s13) _ _ eD)), rfl, bls_flat ts, rfl, _, rfl, ifb (c := false) ?_ (fun h => nomatch h) fun _ => ⟨_, _, _, _, _, _, _, _, rfl, (hp11.same (str s12 s13)).up (by omega)⟩⟩⟩
      have et : t = !decide (false ∈ ts) := by
        refine Bool.eq_iff_iff.mpr (ht.trans ?_)
        rw [Bool.not_eq_true', decide_eq_false_iff_not]
        constructor
        · intro h z
          obtain ⟨k, hk⟩ := List.mem_iff_getElem?.mp z
          obtain ⟨R, eR, hS⟩ := hts k false hk
          have := hS.mpr (h R (List.mem_of_getElem? eR))
          cases this
        · intro h R hR
          obtain ⟨k, hk⟩ := List.mem_iff_getElem?.mp hR
          have hkl : k < ts.length := by rw [hla]; exact (List.getElem?_eq_some_iff.mp hk).1
          obtain ⟨R', eR, hS⟩ := hts k _ (List.getElem?_eq_getElem hkl)
          rw [hk] at eR
          cases eR
          refine hS.mp ?_
          cases e : ts[k] with
          | true => rfl
          | false => exact absurd (e ▸ List.getElem_mem hkl) h
      show (!decide (V.bl t = V.bl (if true then !inV (.bl false) (ts.map V.bl) else inV (.bl false) (ts.map V.bl)))) = false
      rw [if_pos rfl, inV_bl, et, decide_eq_true rfl]
      rfl
  · rintro σ H2 _
    exact q H2
end
end K5
end
section
set_option maxRecDepth 100000
set_option maxHeartbeats 0
/-! the end: the head's facts in one, the law -/
namespace Hd
open PySem PySem.W PySem.Calls PyProof.Rows HandSHeadRun
abbrev hk : Hook := K5.hookX K5.asL K5.faL K5.fnL
def ob (s : SharedT) : K5.AlX := K5.obsXG K5.asL K5.faL K5.fnL (getT s)
theorem ob_eq (s : SharedT) : ob s = hk.obs s.abs := K5.obsXG_eq (getT_eq s)
theorem ob_val {s : SharedT} (ha : oba s = K5.fnL.map K5.Df.val) (hb : obb s = true) (he : obe s = true) (hd : obd s = true) : ob s = K5.valX K5.fnL := by
  have e1 : (K5.faL.all fun f => f (kk s)) = true := hd
  have e2 : (K5.fnL.all fun d => d.ok (kk s)) = true := by
    rw [← List.take_append_drop 32 K5.fnL, List.all_append]
    have hb : ((K5.fnL.take 32).all fun d => d.ok (kk s)) = true := hb
    have he : ((K5.fnL.drop 32).all fun d => d.ok (kk s)) = true := he
    rw [hb, he]
    rfl
  have e3 : K5.fnL.map (fun d => K5.fnX (kk s) (d.at_ (kk s))) = K5.fnL.map K5.Df.val := ha
  show (((K5.faL.all fun f => f (kk s)) && K5.fnL.all fun d => d.ok (kk s), K5.fnL.map fun d => K5.fnX (kk s) (d.at_ (kk s))) : K5.AlX) = (true, K5.fnL.map K5.Df.val)
  rw [e1, e2, e3]
  rfl
theorem runH (w : World) : RunEq R qv hk ob 20000 names w := by
  intro os
  have hx := run_x w os
  have hy := run_y w os
  have ha := run_a w os
  have hb := run_b w os
  have he := run_e w os
  have hd := run_d w os
  generalize endF (stepQ (denQ tabQ) R.prog w) 20000 R.prog w os = X at hx hy ha hb he hd ⊢
  cases X with
  | none => exact nomatch ha
  | some s =>
    have hv := ob_val (Option.some.inj ha) (Option.some.inj hb) (Option.some.inj he) (Option.some.inj hd)
    have hx := Option.some.inj hx
    have hy := Option.some.inj hy
    simp only at hx hy
    show some (_, _, ob s) = some (true, openGood qv names, K5.valX K5.fnL)
    rw [hv, hx, hy]
end Hd
namespace K5
open PySem PySem.Spec PyProof.Rows L2
theorem law_end {w : World} {K : PySem.W.Frag} {h : Heap} {mg : Str → Option Value} {f : Addr} (X : K.In h) (G : h.Ns mainGlobals mg) (hfa : mg ("law" : Str) = some (.ref f)) (c : SaysX faL fnL K) :
    ∃ fd : FuncData, (∀ (s : Shared) (v : Value), BindsTo s fd ⟨[v], []⟩ [("_law_script", v)]) ∧ ∀ base : Heap, K.In base → base.Ns mainGlobals mg → FnOk Pg w K mg base CX0 11 f fd ["_law_script"] (sp_law K) := by
  have T : Tx Pg K mg := tx_of rfl c X G
  obtain ⟨fd, F⟩ := f_law T
  have e := hfa.symm.trans (g_law T)
  cases e
  have b := FunD.bindsA (ps := ["_law_script"]) F fun _ _ _ _ _ _ us hl => match us, hl with | [_], _ => rfl
  exact ⟨fd, fun s v => b s [v] rfl, fun base _ _ => law_ok T F⟩
end K5
open PySem PySem.W PySem.Calls PyProof.Rows
theorem PySem.Challenge.cw_linestrikes_k51_whole_sound_rules_holds : PySem.Challenge.rw_linestrikes_k51_whole_sound_rules.Holds := by
  w_on; o_law
  refine HandSHeadRun.head_any (r := OpenLaw.row PySem.Challenge.rw_linestrikes_k51_whole_sound_rules) (q := Hd.qv) (H := Hd.hk) (ob := Hd.ob) (M := 20000) (loose := Hd.names) (d := HandSHeadRun.topDef Hd.R.prog 113) (kwd := []) Hd.ob_eq
    (by kernel_rfl) (fun s => by kernel_rfl) Hd.runH (by kernel_rfl) (by kernel_rfl) (by kernel_rfl) (by rfl) (by first | assumption | decide +kernel) (by decide +kernel) ⟨rfl, rfl, rfl, rfl, rfl, by decide +kernel⟩ ?hw ?hc
  case hw => w_witness2
  case hc =>
    refine L2.walk_ofE (l := PySem.Challenge.rw_linestrikes_k51_whole_sound_rules) (n := 63) (k := 11) (x := "_law_script") (CX := L2.CX0) rfl (by decide) (by kernel_rfl) ⟨rfl, by decide, by decide⟩ ?F (fun _ _ _ _ z => z)
    intro w mg fa h Y G hmg0
    obtain ⟨K, KX, c⟩ := Y
    have hmg : mg ("law" : PySem.Str) = some (.ref fa) := by
      have e : (HandSHeadRun.topDef Hd.R.prog 113).name = ("law" : PySem.Str) := by kernel_rfl
      rw [← e]
      exact hmg0
    obtain ⟨fd, hb, hF⟩ := K5.law_end (w := w) KX G hmg c
    exact ⟨K, fd, K5.sp_law K, KX, hb, fun H a ns hl _ hS => ⟨a, ns, rfl, hS, hl, fun _ => rfl⟩, hF⟩
end
