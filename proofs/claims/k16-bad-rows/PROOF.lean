import PyProof.Rows.All
import Wide.All
import OpenK.AllK
import Wide.FinOn
import HandS.ForMost
import HandS.Exc
import HandS.TryOnly
import HandS.ExcOwn
import HandS.WordsExc
import HandS.Wide
import HandS.Zip
import HandS.IsInst
import KE.KDictKeyed
import HandS.Defaults
import HandS.Head0
import HandS.Head1
import HandS.Head2
import HandS.HeadEnd
import HandS.HeadHook1
import HandS.HeadHook2
import HandS.EndBits
import HandS.ExcIs
import KE.KExcIs
import HandS.ClsMeth
import HandS.Conv
import HandS.Text
import HandS.SortKw
import PyProof.SumWalkG
import HandS.SortInts
import HandS.Rev
import HandS.Deep
import HandS.More
import PyProof.StrOps2
import PyProof.NeKinds
import PyProof.EqAt
import PyProof.Rows.FactsN_divmod
import HandS.ExcInit
import HandS.ExcField
import HandS.TryElse
import HandS.ExcCtx
import HandS.ExcInitHot
import HandS.SuiteRaise
import HandS.Codes
import PySem.Challenge.RW_beltshares_k16_bad_rows
set_option Elab.async false
set_option linter.all false
set_option maxRecDepth 100000
set_option maxHeartbeats 2000000
namespace B
open PySem L2 HandSHeadRun PySem.W PySem.Calls PyProof.Rows
/-- no list stands in the written part -/
def noList (K : PySem.W.Frag) : Bool := K.all fun q => decide (q.2.cls ≠ .type "list")
/-- no list, and what else is asked of the written part -/
def pxAll (px : List (PySem.W.Frag → Bool)) (K : PySem.W.Frag) : Bool := noList K && px.all fun f => f K
def adrB (_ : Addr → Option Obj) (n : List Addr) : List Addr := n
def hookB (n : List Addr) (fa : List He.Fa) (fn : List He.DefD) (px : List (PySem.W.Frag → Bool)) : PySem.W.Hook where
  α := He.AlD × Bool
  obs := fun s => (He.obsD fa fn (He.frG s.heap.get? (adrB s.heap.get? n)), pxAll px (He.frG s.heap.get? (adrB s.heap.get? n)))
  val := fun _ => (He.valD fn, true)
  says := fun _ h => ∃ K : PySem.W.Frag, K.In h ∧ He.SaysD fa fn K ∧ pxAll px K = true
  of := fun _ _ e => ⟨_, He.frG_in, congrArg (fun z : He.AlD × Bool => z.1) e, congrArg (fun z : He.AlD × Bool => z.2) e⟩
  keeps := fun _ _ _ ⟨K, hK, c⟩ k => ⟨K, PySem.W.Frag.In.keeps hK k, c⟩
def obB (n : List Addr) (fa : List He.Fa) (fn : List He.DefD) (px : List (PySem.W.Frag → Bool)) (g : Addr → Option Obj) : He.AlD × Bool := (He.obsD fa fn (He.frG g (adrB g n)), pxAll px (He.frG g (adrB g n)))
/-- a name among names -/
def cMem (ys : List Str) (c : Str) : Bool := ys.contains c
def oB (x : Option Bool) : Bool := decide (x = some true)
def ownB (K : PySem.W.Frag) (C : Addr) : Bool :=
  PySem.W.plainGet K C Str.empty && (PySem.W.hasDictIn K C && (PySem.W.plainOver K C && (He.eqO (PySem.W.findIn K (.ref C) "__setattr__") (some (some (.builtin "object.__setattr__"))) &&
  (He.eqO (PySem.W.findIn K (.ref C) "__class__") (some (some (.builtin "object.__class__"))) && (He.eqO (PySem.W.specialIn K (.builtin "object.__class__") "__get__") (some (some (.builtin "getset_descriptor.__get__"))) &&
  (oB (PySem.W.takesIn K (.builtin "object.__class__")) && oB (PySem.W.mroIn K C (.type "object"))))))))
def excB (K : PySem.W.Frag) (C : Addr) : Bool :=
  He.eqO (PySem.W.findIn K (.ref C) "__getattribute__") (some (some (.builtin "BaseException.__getattribute__"))) && (He.eqO (PySem.W.findIn K (.ref C) "__getattr__") (some none) &&
  (oB (PySem.W.subIn K (.ref C) (.type "BaseException")) && (PySem.W.hasDictIn K C &&
  (He.eqO (PySem.W.findIn K (.ref C) "__class__") (some (some (.builtin "object.__class__"))) && (He.eqO (PySem.W.specialIn K (.builtin "object.__class__") "__get__") (some (some (.builtin "getset_descriptor.__get__"))) &&
  (oB (PySem.W.takesIn K (.builtin "object.__class__")) && oB (PySem.W.mroIn K C (.type "object"))))))))
/-- a class by its name: the program's own, or a built-in one -/
inductive Tk where
  | own (x : Str)
  | blt (n : String)
def Tk.u (c : Str → Addr) : Tk → Value
  | .own x => .ref (c x)
  | .blt n => .type n
def bltN : List String := ["NoneType", "bool", "int", "str", "list", "tuple"]
def isB (T : List Tk) (os es ys : List Str) (K : PySem.W.Frag) : Bool :=
  os.all (fun C => ownB K (He.ga K C) && decide (PySem.W.kitAny K (.ref (He.ga K C)) (T.map (Tk.u (He.ga K))) = some (cMem ys C))) &&
  (es.all (fun C => excB K (He.ga K C) && decide (PySem.W.kitAny K (.ref (He.ga K C)) (T.map (Tk.u (He.ga K))) = some (cMem ys C))) &&
  bltN.all fun n => decide (PySem.W.kitAny K (.type n) (T.map (Tk.u (He.ga K))) = some false))
def fldB (os : List Str) (f : Str) (K : PySem.W.Frag) : Bool := os.all fun C => ownB K (He.ga K C) && He.eqO (PySem.W.findIn K (.ref (He.ga K C)) f) (some none)
def baseB (x m : Str) (K : PySem.W.Frag) : Bool :=
  PySem.W.readsIn K (He.ga K x) (.type "type") && (He.eqO (PySem.W.specialIn K (.ref (He.ga K x)) "__getattribute__") (some (some (.builtin "type.__getattribute__"))) &&
  match PySem.W.findCls K (.ref (He.ga K x)) (.type "type") m with
  | some (.val v) => decide (v = .ref (He.ma K (He.ga K x) m))
  | _ => false)
/-- the clause of the class x takes the errors ys -/
def exmB (ys : List Str) (x : Str) (K : PySem.W.Frag) : Bool := ys.all fun z => decide (PySem.W.exmOne K (.ref (He.ga K z)) (.ref (He.ga K x)) = some true)
/-- the class's object in the written part -/
def oexB (K : PySem.W.Frag) (C : Addr) : Bool := match K.lookup C with
  | some ⟨.type "type", _, .cls cd, sl⟩ => (match cd.mro, sl.toList with
    | .ref C' :: bm, [_, _, _, _, some (.builtin n), _] => C' == C && (n == "ValueError.__new__" && (!cd.hasDel && (cd.hasDict && PySem.HandSPX.refsVE bm)))
    | _, _ => false)
  | _ => false
def exlB (x wx : Str) (K : PySem.W.Frag) : Bool :=
  oexB K (He.ga K x) && (decide (PySem.W.findIn K (.ref (He.ga K x)) "__setattr__" = some (some (.builtin "object.__setattr__"))) && (decide (PySem.W.subIn K (.ref (He.ga K x)) (.type "BaseException") = some true) &&
  (decide (PySem.W.typeIn K (.ref (He.ga K x)) = some (.type "type")) && (PySem.W.keepIn K (.ref (He.ga K x)) && (xfB K (He.ga K x) && (decide (PySem.W.findIn K (.ref (He.ga K x)) "line" = some none) &&
  (decide (PySem.W.findIn K (.ref (He.ga K x)) "__init__" = some (some (.ref (He.ma K (He.ga K x) "__init__")))) && (decide (PySem.W.typeIn K (.ref (He.ma K (He.ga K x) "__init__")) = some (.type "function")) &&
  (PySem.W.readsIn K (He.ga K wx) (.type "type") && (He.eqO (PySem.W.specialIn K (.ref (He.ga K wx)) "__getattribute__") (some (some (.builtin "type.__getattribute__"))) &&
  match PySem.W.findCls K (.ref (He.ga K wx)) (.type "type") "__init__" with
  | some (.val v) => decide (v = .builtin "ValueError.__init__")
  | _ => false))))))))))
def exm2B (ys : List Str) (x1 x2 : Str) (K : PySem.W.Frag) : Bool := ys.all fun z => decide (PySem.W.exmAny K (.ref (He.ga K z)) [.ref (He.ga K x1), .ref (He.ga K x2)] = some true)
/-- what a part asks of the run's end -/
abbrev RunP {β : Type} (r : OpenRow) (M : Nat) (w : World) (f : SharedT → β) (v : β) : Prop := ∀ os : OsState, (endF (stepQ (denQ tabQ) r.prog w) M r.prog w os).map f = some v
abbrev kB (n : List Addr) (s : SharedT) : PySem.W.Frag := He.frG (getT s) (adrB (getT s) n)
theorem run_fst {β γ : Type} {r : OpenRow} {M : Nat} {w : World} {f : SharedT → β} {g : SharedT → γ} {u : β} {v : γ} (h : RunP r M w (fun s => (f s, g s)) (u, v)) : RunP r M w f u := by
  intro os
  have a := h os
  cases e : endF (stepQ (denQ tabQ) r.prog w) M r.prog w os with
  | none => rw [e] at a; cases a
  | some s => rw [e] at a; exact congrArg some (Prod.mk.inj (Option.some.inj a)).1
theorem run_snd {β γ : Type} {r : OpenRow} {M : Nat} {w : World} {f : SharedT → β} {g : SharedT → γ} {u : β} {v : γ} (h : RunP r M w (fun s => (f s, g s)) (u, v)) : RunP r M w g v := by
  intro os
  have a := h os
  cases e : endF (stepQ (denQ tabQ) r.prog w) M r.prog w os with
  | none => rw [e] at a; cases a
  | some s => rw [e] at a; exact congrArg some (Prod.mk.inj (Option.some.inj a)).2
end B
namespace K16
open PySem L2 B
def osA : List Str := ["Belt", "Knot", "Source", "Drain", "Parter", "FirstParter", "Sieve", "Joiner", "Work"]
def esA : List Str := ["WorkError", "NoRatio", "BadBelt", "BadKnot", "BadWork", "BadRow", "TooLong", "BadPaces", "TooMany", "Moving"]
def z_BadBelt_BadKnot : List Str := ["BadBelt", "BadKnot"]
def z_WorkError : List Str := ["WorkError", "NoRatio", "BadBelt", "BadKnot", "BadWork", "BadRow", "TooLong", "BadPaces", "TooMany", "Moving"]
def tk_Work : List Tk := [.own "Work"]
def y_Work : List Str := ["Work"]
def tk_WorkError : List Tk := [.own "WorkError"]
def y_WorkError : List Str := ["WorkError", "NoRatio", "BadBelt", "BadKnot", "BadWork", "BadRow", "TooLong", "BadPaces", "TooMany", "Moving"]
def tk_ValueError : List Tk := [.blt "ValueError"]
def y_ValueError : List Str := ["WorkError", "NoRatio", "BadBelt", "BadKnot", "BadWork", "BadRow", "TooLong", "BadPaces", "TooMany", "Moving"]
def tk_all_but_BadWork_BadRow : List Tk := [.own "NoRatio", .own "BadBelt", .own "BadKnot", .own "TooLong", .own "BadPaces", .own "TooMany", .own "Moving"]
def y_all_but_BadWork_BadRow : List Str := ["NoRatio", "BadBelt", "BadKnot", "TooLong", "BadPaces", "TooMany", "Moving"]
def tk_BadWork : List Tk := [.own "BadWork"]
def y_BadWork : List Str := ["BadWork"]
def tk_BadRow : List Tk := [.own "BadRow"]
def y_BadRow : List Str := ["BadRow"]
def tk_Belt : List Tk := [.own "Belt"]
def y_Belt : List Str := ["Belt"]
def topS (i : Nat) : Stmt := PySem.Challenge.pw_beltshares_k16_bad_rows.main.body.getD i (.Pass ⟨0, 0, 0, 0⟩)
def inS (s : Stmt) (j : Nat) : Stmt := match s with
  | .ClassDef _ _ _ b _ _ _ _ _ _ _ => b.getD j (.Pass ⟨0, 0, 0, 0⟩)
  | _ => .Pass ⟨0, 0, 0, 0⟩
abbrev st_law_outs_of__4 : Stmt := topS 39
abbrev n_law_outs_of__4 : List Str := ["_law_cell", "_law_many", "_law_belts", "_law_ends", "_law_loops", "_law_outs", "_law_k"]
abbrev st_law_kinds_of : Stmt := topS 38
abbrev n_law_kinds_of : List Str := ["_law_cell", "_law_kinds", "_law_k", "_law_step_here", "_law_kind"]
abbrev st_law_outs_of : Stmt := topS 39
abbrev n_law_outs_of : List Str := ["_law_cell", "_law_many", "_law_belts", "_law_ends", "_law_loops", "_law_outs", "_law_k"]
abbrev st_law_joined : Stmt := topS 40
abbrev n_law_joined : List Str := ["_law_cell", "_law_belts", "_law_knots", "_law_ends", "_law_loops", "_law_ins", "_law_k"]
abbrev st_law_step : Stmt := topS 41
abbrev n_law_step : List Str := ["_law_cell", "_law_belts", "_law_knots", "_law_ends", "_law_loops", "_law_left", "_law_room", "_law_way", "_law_many", "_law_outs", "_law_ins"]
abbrev st_law_cell_at : Stmt := topS 37
abbrev n_law_cell_at : List Str := ["_law_script", "_law_k"]
abbrev st_law_parts_of : Stmt := topS 42
abbrev n_law_parts_of : List Str := ["_law_script", "_law_belts", "_law_knots", "_law_ends", "_law_loops", "_law_cell", "_law_turn", "_law_at", "_law_many", "_law_moved", "_law_turned", "_law_cut", "_law_word", "_law_ins", "_law_outs", "_law_numbers"]
abbrev st_law_rows_of : Stmt := topS 43
abbrev n_law_rows_of : List Str := ["_law_made", "_law_rows", "_law_word", "_law_ins", "_law_outs", "_law_numbers", "_law_due", "_law_room", "_law_pace", "_law_number"]
abbrev st_law_no_work : Stmt := topS 49
abbrev n_law_no_work : List Str := ["_law_made", "_law_cell", "_law_rows", "_law_belts", "_law_at", "_law_more", "_law_word", "_law_ins", "_law_outs", "_law_numbers"]
abbrev st_law_sign_by : Stmt := topS 44
abbrev n_law_sign_by : List Str := ["_law_cell", "_law_some"]
abbrev st_law_no_number : Stmt := topS 45
abbrev n_law_no_number : List Str := ["_law_word", "_law_cell", "_law_at"]
abbrev st_law_beyond : Stmt := topS 46
abbrev n_law_beyond : List Str := ["_law_words", "_law_cell"]
abbrev st_law_spoilt : Stmt := topS 47
abbrev n_law_spoilt : List Str := ["_law_row", "_law_cell", "_law_words", "_law_least", "_law_most", "_law_way", "_law_at", "_law_k", "_law_other"]
abbrev st_law_bad_rows : Stmt := topS 48
abbrev n_law_bad_rows : List Str := ["_law_rows", "_law_belts", "_law_first", "_law_second", "_law_at", "_law_later", "_law_bad", "_law_more"]
abbrev st_law_told : Stmt := topS 51
abbrev n_law_told : List Str := ["_law_caught_here", "_law_due"]
abbrev st_number_from : Stmt := topS 26
abbrev n_number_from : List Str := ["word", "sign"]
abbrev st_numbers_of : Stmt := topS 31
abbrev n_numbers_of : List Str := ["words", "numbers", "word", "number"]
abbrev st_Belt_init : Stmt := inS (topS 13) 0
abbrev n_Belt_init : List Str := ["self", "room", "pace"]
abbrev st_belt_of : Stmt := topS 32
abbrev n_belt_of : List Str := ["numbers"]
abbrev st_is_kind : Stmt := topS 15
abbrev n_is_kind : List Str := ["kind"]
abbrev st_Knot_init : Stmt := inS (topS 16) 0
abbrev n_Knot_init : List Str := ["self", "ins", "outs"]
abbrev st_Source_init : Stmt := inS (topS 17) 0
abbrev n_Source_init : List Str := ["self", "out", "pace", "kinds", "kind"]
abbrev st_Drain_init : Stmt := inS (topS 18) 0
abbrev n_Drain_init : List Str := ["self", "into", "pace"]
abbrev st_Parter_init : Stmt := inS (topS 19) 0
abbrev n_Parter_init : List Str := ["self", "into", "outs"]
abbrev st_FirstParter_init : Stmt := inS (topS 20) 0
abbrev n_FirstParter_init : List Str := ["self", "into", "outs"]
abbrev st_Sieve_init : Stmt := inS (topS 21) 0
abbrev n_Sieve_init : List Str := ["self", "into", "outs", "kind"]
abbrev st_Joiner_init : Stmt := inS (topS 22) 0
abbrev n_Joiner_init : List Str := ["self", "ins", "out"]
abbrev st_knot_of : Stmt := topS 33
abbrev n_knot_of : List Str := ["word", "numbers", "many"]
abbrev st_part_of : Stmt := topS 34
abbrev n_part_of : List Str := ["row", "line", "behind", "words", "numbers", "part"]
abbrev st_stand_once : Stmt := topS 28
abbrev n_stand_once : List Str := ["rows", "many", "found", "row"]
abbrev st_Work_init : Stmt := inS (topS 29) 0
abbrev n_Work_init : List Str := ["self", "belts", "knots", "knot"]
abbrev st_read_work : Stmt := topS 35
abbrev n_read_work : List Str := ["text", "belts", "knots", "at", "row", "part"]
abbrev st_law_caught : Stmt := topS 50
abbrev n_law_caught : List Str := ["_law_rows", "_law_caught_here", "error"]
abbrev st_law : Stmt := topS 52
abbrev n_law : List Str := ["_law_script", "_law_made", "_law_rows", "_law_first", "_law_second", "_law_due", "_law_bad", "_law_work"]
abbrev st_BadRow_init : Stmt := inS (topS 7) 0
def d_law_outs_of__4 : He.DefD := ⟨("_law_outs_of", none), "_law_outs_of", "_law_outs_of", defArgs st_law_outs_of__4, defBody st_law_outs_of__4, defScope st_law_outs_of__4, [], []⟩
def d_law_kinds_of : He.DefD := ⟨("_law_kinds_of", none), "_law_kinds_of", "_law_kinds_of", defArgs st_law_kinds_of, defBody st_law_kinds_of, defScope st_law_kinds_of, [], []⟩
def d_law_outs_of : He.DefD := ⟨("_law_outs_of", none), "_law_outs_of", "_law_outs_of", defArgs st_law_outs_of, defBody st_law_outs_of, defScope st_law_outs_of, [], []⟩
def d_law_joined : He.DefD := ⟨("_law_joined", none), "_law_joined", "_law_joined", defArgs st_law_joined, defBody st_law_joined, defScope st_law_joined, [], []⟩
def d_law_step : He.DefD := ⟨("_law_step", none), "_law_step", "_law_step", defArgs st_law_step, defBody st_law_step, defScope st_law_step, [], []⟩
def d_law_cell_at : He.DefD := ⟨("_law_cell_at", none), "_law_cell_at", "_law_cell_at", defArgs st_law_cell_at, defBody st_law_cell_at, defScope st_law_cell_at, [], []⟩
def d_law_parts_of : He.DefD := ⟨("_law_parts_of", none), "_law_parts_of", "_law_parts_of", defArgs st_law_parts_of, defBody st_law_parts_of, defScope st_law_parts_of, [], []⟩
def d_law_rows_of : He.DefD := ⟨("_law_rows_of", none), "_law_rows_of", "_law_rows_of", defArgs st_law_rows_of, defBody st_law_rows_of, defScope st_law_rows_of, [], []⟩
def d_law_no_work : He.DefD := ⟨("_law_no_work", none), "_law_no_work", "_law_no_work", defArgs st_law_no_work, defBody st_law_no_work, defScope st_law_no_work, [], []⟩
def d_law_sign_by : He.DefD := ⟨("_law_sign_by", none), "_law_sign_by", "_law_sign_by", defArgs st_law_sign_by, defBody st_law_sign_by, defScope st_law_sign_by, [], []⟩
def d_law_no_number : He.DefD := ⟨("_law_no_number", none), "_law_no_number", "_law_no_number", defArgs st_law_no_number, defBody st_law_no_number, defScope st_law_no_number, [], []⟩
def d_law_beyond : He.DefD := ⟨("_law_beyond", none), "_law_beyond", "_law_beyond", defArgs st_law_beyond, defBody st_law_beyond, defScope st_law_beyond, [], []⟩
def d_law_spoilt : He.DefD := ⟨("_law_spoilt", none), "_law_spoilt", "_law_spoilt", defArgs st_law_spoilt, defBody st_law_spoilt, defScope st_law_spoilt, [], []⟩
def d_law_bad_rows : He.DefD := ⟨("_law_bad_rows", none), "_law_bad_rows", "_law_bad_rows", defArgs st_law_bad_rows, defBody st_law_bad_rows, defScope st_law_bad_rows, [], []⟩
def d_law_told : He.DefD := ⟨("_law_told", none), "_law_told", "_law_told", defArgs st_law_told, defBody st_law_told, defScope st_law_told, [], []⟩
def d_number_from : He.DefD := ⟨("number_from", none), "number_from", "number_from", defArgs st_number_from, defBody st_number_from, defScope st_number_from, [], []⟩
def d_numbers_of : He.DefD := ⟨("numbers_of", none), "numbers_of", "numbers_of", defArgs st_numbers_of, defBody st_numbers_of, defScope st_numbers_of, [], []⟩
def d_Belt_init : He.DefD := ⟨("Belt", some "__init__"), "__init__", "Belt.__init__", defArgs st_Belt_init, defBody st_Belt_init, defScope st_Belt_init, [], []⟩
def d_belt_of : He.DefD := ⟨("belt_of", none), "belt_of", "belt_of", defArgs st_belt_of, defBody st_belt_of, defScope st_belt_of, [], []⟩
def d_is_kind : He.DefD := ⟨("is_kind", none), "is_kind", "is_kind", defArgs st_is_kind, defBody st_is_kind, defScope st_is_kind, [], []⟩
def d_Knot_init : He.DefD := ⟨("Knot", some "__init__"), "__init__", "Knot.__init__", defArgs st_Knot_init, defBody st_Knot_init, defScope st_Knot_init, [], []⟩
def d_Source_init : He.DefD := ⟨("Source", some "__init__"), "__init__", "Source.__init__", defArgs st_Source_init, defBody st_Source_init, defScope st_Source_init, [], []⟩
def d_Drain_init : He.DefD := ⟨("Drain", some "__init__"), "__init__", "Drain.__init__", defArgs st_Drain_init, defBody st_Drain_init, defScope st_Drain_init, [], []⟩
def d_Parter_init : He.DefD := ⟨("Parter", some "__init__"), "__init__", "Parter.__init__", defArgs st_Parter_init, defBody st_Parter_init, defScope st_Parter_init, [], []⟩
def d_FirstParter_init : He.DefD := ⟨("FirstParter", some "__init__"), "__init__", "FirstParter.__init__", defArgs st_FirstParter_init, defBody st_FirstParter_init, defScope st_FirstParter_init, [], []⟩
def d_Sieve_init : He.DefD := ⟨("Sieve", some "__init__"), "__init__", "Sieve.__init__", defArgs st_Sieve_init, defBody st_Sieve_init, defScope st_Sieve_init, [], []⟩
def d_Joiner_init : He.DefD := ⟨("Joiner", some "__init__"), "__init__", "Joiner.__init__", defArgs st_Joiner_init, defBody st_Joiner_init, defScope st_Joiner_init, [], []⟩
def d_knot_of : He.DefD := ⟨("knot_of", none), "knot_of", "knot_of", defArgs st_knot_of, defBody st_knot_of, defScope st_knot_of, [], []⟩
def d_part_of : He.DefD := ⟨("part_of", none), "part_of", "part_of", defArgs st_part_of, defBody st_part_of, defScope st_part_of, [], []⟩
def d_stand_once : He.DefD := ⟨("stand_once", none), "stand_once", "stand_once", defArgs st_stand_once, defBody st_stand_once, defScope st_stand_once, [], []⟩
def d_Work_init : He.DefD := ⟨("Work", some "__init__"), "__init__", "Work.__init__", defArgs st_Work_init, defBody st_Work_init, defScope st_Work_init, [], []⟩
def d_read_work : He.DefD := ⟨("read_work", none), "read_work", "read_work", defArgs st_read_work, defBody st_read_work, defScope st_read_work, [], []⟩
def d_law_caught : He.DefD := ⟨("_law_caught", none), "_law_caught", "_law_caught", defArgs st_law_caught, defBody st_law_caught, defScope st_law_caught, [], []⟩
def d_law : He.DefD := ⟨("law", none), "law", "law", defArgs st_law, defBody st_law, defScope st_law, [], []⟩
def d_BadRow_init : He.DefD := ⟨("BadRow", some "__init__"), "__init__", "BadRow.__init__", defArgs st_BadRow_init, defBody st_BadRow_init, defScope st_BadRow_init, [], []⟩
def fn : List He.DefD := [d_law_outs_of__4, d_law_kinds_of, d_law_outs_of, d_law_joined, d_law_step, d_law_cell_at, d_law_parts_of, d_law_rows_of, d_law_no_work, d_law_sign_by, d_law_no_number, d_law_beyond, d_law_spoilt, d_law_bad_rows, d_law_told, d_number_from, d_numbers_of, d_Belt_init, d_belt_of, d_is_kind, d_Knot_init, d_Source_init, d_Drain_init, d_Parter_init, d_FirstParter_init, d_Sieve_init, d_Joiner_init, d_knot_of, d_part_of, d_stand_once, d_Work_init, d_read_work, d_law_caught, d_law, d_BadRow_init]
def fa : List He.Fa := [.glo "_law_outs_of", .glo "_law_kinds_of", .glo "_law_joined", .glo "_law_step", .glo "_law_cell_at", .glo "_law_parts_of", .glo "_law_rows_of", .glo "_law_no_work", .glo "_law_sign_by", .glo "_law_no_number", .glo "_law_beyond", .glo "_law_spoilt", .glo "_law_bad_rows", .glo "_law_told", .glo "number_from", .glo "numbers_of", .glo "belt_of", .glo "is_kind", .glo "knot_of", .glo "part_of", .glo "stand_once", .glo "read_work", .glo "_law_caught", .glo "law", .glo "BadBelt", .glo "BadKnot", .glo "BadPaces", .glo "BadRow", .glo "BadWork", .glo "Belt", .glo "Drain", .glo "FirstParter", .glo "Joiner", .glo "Knot", .glo "Moving", .glo "NoRatio", .glo "Parter", .glo "Sieve", .glo "Source", .glo "TooLong", .glo "TooMany", .glo "Work", .glo "WorkError", .free "ValueError", .free "bool", .free "enumerate", .free "int", .free "isinstance", .free "len", .free "list", .free "range", .free "sorted", .free "str", .str "FIGURES" "0123456789", .int "MOST_FIGURES" 30, .exc "BadBelt", .mkr "Belt", .exc "BadKnot", .mkr "Source", .mkr "Drain", .mkr "Parter", .mkr "FirstParter", .mkr "Sieve", .mkr "Joiner", .exc "BadWork", .mkr "Work"]
def px : List (PySem.W.Frag → Bool) := [isB tk_WorkError osA esA y_WorkError, isB tk_ValueError osA esA y_ValueError, isB tk_all_but_BadWork_BadRow osA esA y_all_but_BadWork_BadRow, isB tk_BadWork osA esA y_BadWork, isB tk_BadRow osA esA y_BadRow, exlB "BadRow" "WorkError", fldB osA "room", fldB osA "pace", fldB osA "ins", fldB osA "outs", baseB "Knot" "__init__", fldB osA "kinds", fldB osA "kind", exm2B z_BadBelt_BadKnot "BadBelt" "BadKnot", fldB osA "belts", fldB osA "knots", isB tk_Belt osA esA y_Belt, exmB z_WorkError "WorkError", isB tk_Work osA esA y_Work]
abbrev Rw : PySem.W.OpenRow := PySem.W.OpenLaw.row PySem.Challenge.rw_beltshares_k16_bad_rows
def loose : List Str := [("_wall" : Str), ("WorkError" : Str), ("NoRatio" : Str), ("BadBelt" : Str), ("BadKnot" : Str), ("BadWork" : Str), ("BadRow" : Str), ("TooLong" : Str), ("BadPaces" : Str), ("TooMany" : Str), ("Moving" : Str), ("Belt" : Str), ("is_kind" : Str), ("Knot" : Str), ("Source" : Str), ("Drain" : Str), ("Parter" : Str), ("FirstParter" : Str), ("Sieve" : Str), ("Joiner" : Str), ("FIGURES" : Str), ("MOST_FIGURES" : Str), ("number_from" : Str), ("stand_once" : Str), ("Work" : Str), ("numbers_of" : Str), ("belt_of" : Str), ("knot_of" : Str), ("part_of" : Str), ("read_work" : Str), ("_law_cell_at" : Str), ("_law_kinds_of" : Str), ("_law_outs_of" : Str), ("_law_joined" : Str), ("_law_step" : Str), ("_law_parts_of" : Str), ("_law_rows_of" : Str), ("_law_sign_by" : Str), ("_law_no_number" : Str), ("_law_beyond" : Str), ("_law_spoilt" : Str), ("_law_bad_rows" : Str), ("_law_no_work" : Str), ("_law_caught" : Str), ("_law_told" : Str)]
def ad : List Addr := [3, 6, 4, 21, 31, 44, 56, 68, 80, 99, 111, 123, 135, 147, 166, 177, 201, 229, 255, 281, 307, 333, 359, 368, 375, 423, 434, 441, 448, 455, 462, 469, 476, 483, 490, 497, 502, 507, 514, 521, 528, 535, 542, 549, 556, 563, 570, 0, 20, 30, 43, 55, 67, 79, 98, 110, 122, 134, 146, 165, 176, 200, 228, 254, 280, 306, 332, 358, 367, 374, 422, 433, 440, 447, 454, 461, 468, 475, 482, 489, 496, 501, 506, 513, 520, 527, 534, 541, 548, 555, 562, 569, 15, 16, 17, 18, 19, 29, 32, 42, 54, 66, 78, 96, 97, 109, 121, 133, 145, 163, 164, 167, 168, 171, 172, 173, 174, 175, 191, 198, 199, 202, 203, 219, 226, 227, 245, 252, 253, 271, 278, 279, 297, 304, 305, 323, 330, 331, 349, 356, 357, 362, 363, 364, 365, 366, 369, 370, 371, 372, 373, 387, 394, 401, 406, 413, 420, 421, 424, 425, 428, 429, 430, 431, 432, 435, 436, 437, 438, 439, 442, 443, 444, 445, 446, 449, 450, 451, 452, 453, 456, 457, 458, 459, 460, 463, 464, 465, 466, 467, 470, 471, 472, 473, 474, 477, 478, 479, 480, 481, 484, 485, 486, 487, 488, 491, 492, 493, 494, 495, 498, 499, 500, 503, 504, 505, 508, 509, 510, 511, 512, 515, 516, 517, 518, 519, 522, 523, 524, 525, 526, 529, 530, 531, 532, 533, 536, 537, 538, 539, 540, 543, 544, 545, 546, 547, 550, 551, 552, 553, 554, 557, 558, 559, 560, 561, 564, 565, 566, 567, 568, 95, 162, 190, 197, 218, 225, 244, 251, 270, 277, 296, 303, 322, 329, 348, 355, 386, 393, 400, 405, 412, 419, 2]
theorem run1 (w : World) : HandSHeadRun.RunEq Rw (PySem.W.view Rw.prog [52]) (hookB ad [] [] []) (fun s => obB ad [] [] [] (HandSHeadRun.getT s)) 30000 loose w := by
  intro os
  kernel_rfl
theorem run234 (w : World) : RunP Rw 30000 w (fun s => (fa.all fun f => f.ok (kB ad s), px.all fun f => f (kB ad s), He.obsD [] fn (kB ad s))) (true, true, He.valD fn) := by
  intro os
  kernel_rfl
theorem run2 (w : World) : RunP Rw 30000 w (fun s => fa.all fun f => f.ok (kB ad s)) (true) := run_fst (run234 w)
theorem run3 (w : World) : RunP Rw 30000 w (fun s => px.all fun f => f (kB ad s)) (true) := run_fst (run_snd (run234 w))
theorem run4 (w : World) : RunP Rw 30000 w (fun s => He.obsD [] fn (kB ad s)) (He.valD fn) := run_snd (run_snd (run234 w))
end K16
namespace B
open PySem L2

/-! ### data -/
inductive D where
  | non
  | bl (b : Bool)
  | int (i : Int)
  | str (s : Str)
  | lst (xs : List D)
  | tup (xs : List D)
  | obj (C : Str) (fs : List (Str × D))
  | exo (C : Str)
  | dct (ps : List (D × D))
  | dci (ks : List Int)

mutual
/-- no list and no object in it -/
def flat : D → Bool
  | .lst _ => false
  | .obj _ _ => false
  | .dct _ => false
  | .dci _ => false
  | .tup ds => flatL ds
  | _ => true
def flatL : List D → Bool
  | [] => true
  | d :: ds => flat d && flatL ds
end
@[simp] theorem flat_non : flat .non = true := by simp only [flat]
@[simp] theorem flat_bl (b : Bool) : flat (.bl b) = true := by simp only [flat]
@[simp] theorem flat_int (b : Int) : flat (.int b) = true := by simp only [flat]
@[simp] theorem flat_str (b : Str) : flat (.str b) = true := by simp only [flat]
@[simp] theorem flat_exo (b : Str) : flat (.exo b) = true := by simp only [flat]
@[simp] theorem flat_lst (ds : List D) : flat (.lst ds) = false := by simp only [flat]
@[simp] theorem flat_obj (C : Str) (fs : List (Str × D)) : flat (.obj C fs) = false := by simp only [flat]
@[simp] theorem flat_dci (ks : List Int) : flat (.dci ks) = false := by simp only [flat]
@[simp] theorem flat_dct (ps : List (D × D)) : flat (.dct ps) = false := by simp only [flat]
@[simp] theorem flat_tup (ds : List D) : flat (.tup ds) = flatL ds := by simp only [flat]
@[simp] theorem flatL_nil : flatL [] = true := by simp only [flatL]
@[simp] theorem flatL_cons (d : D) (ds : List D) : flatL (d :: ds) = (flat d && flatL ds) := by simp only [flatL]
theorem flatL_iff : ∀ {ds : List D}, flatL ds = true ↔ ∀ d ∈ ds, flat d = true
  | [] => by simp
  | d :: ds => by simp [flatL_iff (ds := ds)]
theorem flatL_get {ds : List D} (h : flatL ds = true) {i : Nat} {d : D} (e : ds[i]? = some d) : flat d = true := flatL_iff.mp h d (List.mem_of_getElem? e)
/-! an exception's name may hold a number (its field `line`) behind a mark -/
def markN : Nat := 2000000
def xK (x : Str) (n : Nat) : Str := ⟨(x.cps.push markN).push n⟩
def xF (c : Str) : Option Nat := match c.cps.toList.reverse with
  | n :: m :: _ => if m = markN then some n else none
  | _ => none
def xB (c : Str) : Str := match xF c with
  | some _ => ⟨c.cps.pop.pop⟩
  | none => c
@[simp] theorem xF_xK (x : Str) (n : Nat) : xF (xK x n) = some n := by simp [xF, xK]
@[simp] theorem xB_xK (x : Str) (n : Nat) : xB (xK x n) = x := by simp [xB, xF_xK]; simp [xK]
theorem xB_of {c : Str} (h : xF c = none) : xB c = c := by unfold xB; rw [h]
/-- where the number of an exception stands -/
def XD (c : Str) (d : Option Addr) (G : Hp) : Prop := match xF c with
  | none => d = none
  | some n => ∃ dd : Addr, d = some dd ∧ G dd = some (.xd [("line", .int (n : Int))])
theorem XD.nil {c : Str} {G : Hp} {d : Option Addr} (h : xF c = none) (x : XD c d G) : d = none := by unfold XD at x; rw [h] at x; exact x
theorem XD.num {x : Str} {n : Nat} {dd : Addr} {G : Hp} (h : G dd = some (.xd [("line", .int (n : Int))])) : XD (xK x n) (some dd) G := by unfold XD; rw [xF_xK]; exact ⟨dd, rfl, h⟩
theorem XD.mono {c : Str} {d : Option Addr} {G G' : Hp} (s : Same G G') (x : XD c d G) : XD c d G' := by
  unfold XD at x ⊢
  cases e : xF c with
  | none => rw [e] at x; exact x
  | some n =>
    rw [e] at x
    obtain ⟨dd, e1, e2⟩ := x
    exact ⟨dd, e1, s _ _ e2⟩
theorem XD.at {c : Str} {d : Option Addr} {G : Hp} (x : XD c d G) {a : Addr} (e : d = some a) : ∃ fs, G a = some (.xd fs) := by
  unfold XD at x
  cases q : xF c with
  | none => rw [q] at x; rw [x] at e; cases e
  | some n =>
    rw [q] at x
    obtain ⟨dd, e1, e2⟩ := x
    rw [e1] at e
    cases e
    exact ⟨_, e2⟩
/-- an exception at a, of the class cls, its fields at d -/
def EXO (cls : Value) (d : Option Addr) (a : Addr) : HO := .ext fun h => ∃ (oe : Obj) (vs : Array Value), h.get? a = some oe ∧ Zc cls d oe ∧ oe.data = .fields vs
/-! dicts whose keys are tuples without texts in them -/
mutual
/-- the key that data is -/
def nkOf : D → NestedKey
  | .bl b => .num (if b = true then 1 else 0)
  | .int i => .num i
  | .str x => .text x
  | .tup ds => .tup (nkL ds)
  | _ => .none
def nkL : List D → List NestedKey
  | [] => []
  | d :: ds => nkOf d :: nkL ds
end
mutual
/-- numbers, bools, None and tuples of these -/
def keyI : D → Bool
  | .non => true
  | .bl _ => true
  | .int _ => true
  | .tup ds => keyL ds
  | _ => false
def keyL : List D → Bool
  | [] => true
  | d :: ds => keyI d && keyL ds
end
def isTup : D → Bool
  | .tup _ => true
  | _ => false
/-- data that is a key of such a dict -/
def keyB (d : D) : Bool := isTup d && keyI d && decide ((nkOf d).depth ≤ 8)
/-- a dict at p: its keys, where their tuples stand, its values -/
def DctR (x : NestedKey × Addr × V) (y : NestedKey × Addr × Value) : Prop := x.1 = y.1 ∧ x.2.1 = y.2.1 ∧ RelV x.2.2 y.2.2
def DctO (p : Addr) (nks : List (NestedKey × Addr × V)) : HO := .ext fun h => (p == sysModules) = false ∧ nks.length ≤ 1000000 ∧ (nks.map (·.1)).Nodup ∧ ∃ xs : List (NestedKey × Addr × Value), Paired DctR nks xs ∧
  ∃ (o : Obj) (es : Array DictEntry) (ep : Nat), h.get? p = some o ∧ o.ExactDict ∧ o.data = .dict es ep ∧ ∀ (P : Program) (w : World), es.toList = xs.map (entryOfKey (nestedKind P w))
/-- a dict of ints, each with True -/
def DciO (ks : List Int) : HO := .dK (ks.map fun k => (.inl k, .bl true))
/-- what stands in the frozen part G as a value -/
inductive Rep (K : PySem.W.Frag) (cl : Str → Addr) (G : Hp) : V → D → Prop
  | non : Rep K cl G .non .non
  | bl (b : Bool) : Rep K cl G (.bl b) (.bl b)
  | int (i : Int) : Rep K cl G (.int i) (.int i)
  | str (x : Str) : Rep K cl G (.str x) (.str x)
  | lst {a : Addr} {vs : List V} {ds : List D} (h : Rd G a (.lst vs)) (hl : vs.length = ds.length) (hr : ∀ (i : Nat) v d, vs[i]? = some v → ds[i]? = some d → Rep K cl G v d) : Rep K cl G (.ref a) (.lst ds)
  | tup {a : Addr} {vs : List V} {ds : List D} (h : Rd G a (.tup vs)) (hl : vs.length = ds.length) (hr : ∀ (i : Nat) v d, vs[i]? = some v → ds[i]? = some d → Rep K cl G v d) : Rep K cl G (.ref a) (.tup ds)
  | obj {a dx : Addr} {C : Str} {gs : List (Str × V)} {fs : List (Str × D)} (h : G a = some (.ins (cl C) dx gs)) (hl : gs.map (·.1) = fs.map (·.1))
      (hr : ∀ (i : Nat) v d, gs[i]? = some v → fs[i]? = some d → Rep K cl G v.2 d.2) : Rep K cl G (.ref a) (.obj C fs)
  | exo {a : Addr} {d : Option Addr} {C : Str} (h : G a = some (EXO (.ref (cl (xB C))) d a)) (hd : XD C d G) : Rep K cl G (.ref a) (.exo C)
  | dct {p : Addr} {nks : List (NestedKey × Addr × V)} {ps : List (D × D)} (h : G p = some (DctO p nks)) (hl : nks.length = ps.length) (hk : ∀ (i : Nat) x y, nks[i]? = some x → ps[i]? = some y → x.1 = nkOf y.1 ∧ keyB y.1 = true)
      (h1 : ∀ (i : Nat) x y, nks[i]? = some x → ps[i]? = some y → Rep K cl G (.ref x.2.1) y.1) (h2 : ∀ (i : Nat) x y, nks[i]? = some x → ps[i]? = some y → Rep K cl G x.2.2 y.2) : Rep K cl G (.ref p) (.dct ps)
  | dci {p : Addr} {ks : List Int} (h : G p = some (DciO ks)) : Rep K cl G (.ref p) (.dci ks)

section
variable {K : PySem.W.Frag} {cl : Str → Addr} {G G' H H' : Hp} {v : V} {d : D}

theorem rdEx {a : Addr} {u : HO} (e : Same G G') (h : Rd G a u) : Rd G' a u := by
  rcases h with h | ⟨o, h⟩
  · exact .inl (e _ _ h)
  · exact .inr ⟨o, e _ _ h⟩
theorem sqlEx {a : Addr} {xs : List V} (e : Same G G') (h : SqL K G a xs) : SqL K G' a xs := by
  rcases h with h | h
  · exact .inl (rdEx e h)
  · exact .inr h
theorem sqtEx {a : Addr} {xs : List V} (e : Same G G') (h : SqT K G a xs) : SqT K G' a xs := by
  rcases h with h | h
  · exact .inl (rdEx e h)
  · exact .inr h
theorem Rep.mono (e : Same G G') (h : Rep K cl G v d) : Rep K cl G' v d := by
  induction h with
  | non => exact .non
  | bl b => exact .bl b
  | int i => exact .int i
  | str x => exact .str x
  | lst h hl _ ih => exact .lst (rdEx e h) hl fun i v d h1 h2 => ih i v d h1 h2
  | tup h hl _ ih => exact .tup (rdEx e h) hl fun i v d h1 h2 => ih i v d h1 h2
  | obj h hl _ ih => exact .obj (e _ _ h) hl fun i v d h1 h2 => ih i v d h1 h2
  | exo h hd => exact .exo (e _ _ h) (hd.mono e)
  | dct h hl hk _ _ ih1 ih2 => exact .dct (e _ _ h) hl hk (fun i x y a b => ih1 i x y a b) (fun i x y a b => ih2 i x y a b)
  | dci h => exact .dci (e _ _ h)

/-! ### what is owned: the upper k floors stand in H alone, within F -/
def Own (K : PySem.W.Frag) (cl : Str → Addr) (H G : Hp) : Nat → V → D → (Addr → Prop) → Prop
  | 0, v, d, _ => Rep K cl G v d
  | k + 1, v, .lst ds, F => ∃ (p : Addr) (vs : List V) (Fs : Nat → Addr → Prop), v = .ref p ∧ H p = some (.lst vs) ∧ F p ∧ vs.length = ds.length ∧
      (∀ i v d, vs[i]? = some v → ds[i]? = some d → Own K cl H G k v d (Fs i)) ∧ (∀ i a, Fs i a → F a ∧ a ≠ p) ∧ ∀ i j a, Fs i a → Fs j a → i = j
  | k + 1, v, .obj C fs, F => ∃ (p dx : Addr) (gs : List (Str × V)) (Fs : Nat → Addr → Prop), v = .ref p ∧ H p = some (.ins (cl C) dx gs) ∧ F p ∧ gs.map (·.1) = fs.map (·.1) ∧
      (∀ i v d, gs[i]? = some v → fs[i]? = some d → Own K cl H G k v.2 d.2 (Fs i)) ∧ (∀ i a, Fs i a → F a ∧ a ≠ p) ∧ ∀ i j a, Fs i a → Fs j a → i = j
  | k + 1, v, .tup ds, F => if flatL ds = true then Rep K cl G v (.tup ds) else ∃ (p : Addr) (vs : List V) (Fs : Nat → Addr → Prop), v = .ref p ∧ H p = some (.tup vs) ∧ F p ∧ vs.length = ds.length ∧
      (∀ i v d, vs[i]? = some v → ds[i]? = some d → Own K cl H G k v d (Fs i)) ∧ (∀ i a, Fs i a → F a ∧ a ≠ p) ∧ ∀ i j a, Fs i a → Fs j a → i = j
  | _ + 1, v, .dct ps, F => ∃ (p : Addr) (nks : List (NestedKey × Addr × V)), v = .ref p ∧ H p = some (DctO p nks) ∧ F p ∧ nks.length = ps.length ∧ (∀ (i : Nat) x y, nks[i]? = some x → ps[i]? = some y → x.1 = nkOf y.1 ∧ keyB y.1 = true) ∧
      (∀ (i : Nat) x y, nks[i]? = some x → ps[i]? = some y → Rep K cl G (.ref x.2.1) y.1) ∧ ∀ (i : Nat) x y, nks[i]? = some x → ps[i]? = some y → Rep K cl G x.2.2 y.2
  | _ + 1, v, .dci ks, F => ∃ p : Addr, v = .ref p ∧ H p = some (DciO ks) ∧ F p
  | _ + 1, v, d, _ => Rep K cl G v d

theorem Own.tupF {k : Nat} {ds : List D} {F : Addr → Prop} (h : Own K cl H G (k + 1) v (.tup ds) F) (hf : flatL ds = true) : Rep K cl G v (.tup ds) := by
  have h : (if flatL ds = true then Rep K cl G v (.tup ds) else _) := h
  rw [if_pos hf] at h
  exact h
theorem Own.tupN {k : Nat} {ds : List D} {F : Addr → Prop} (h : Own K cl H G (k + 1) v (.tup ds) F) (hf : ¬ flatL ds = true) : ∃ (p : Addr) (vs : List V) (Fs : Nat → Addr → Prop), v = .ref p ∧ H p = some (.tup vs) ∧ F p ∧ vs.length = ds.length ∧
      (∀ i v d, vs[i]? = some v → ds[i]? = some d → Own K cl H G k v d (Fs i)) ∧ (∀ i a, Fs i a → F a ∧ a ≠ p) ∧ ∀ i j a, Fs i a → Fs j a → i = j := by
  have h : (if flatL ds = true then Rep K cl G v (.tup ds) else _) := h
  rw [if_neg hf] at h
  exact h
theorem Own.mkT {k : Nat} {ds : List D} {F : Addr → Prop} (h1 : flatL ds = true → Rep K cl G v (.tup ds)) (h2 : ¬ flatL ds = true → ∃ (p : Addr) (vs : List V) (Fs : Nat → Addr → Prop), v = .ref p ∧ H p = some (.tup vs) ∧ F p ∧ vs.length = ds.length ∧
      (∀ i v d, vs[i]? = some v → ds[i]? = some d → Own K cl H G k v d (Fs i)) ∧ (∀ i a, Fs i a → F a ∧ a ≠ p) ∧ ∀ i j a, Fs i a → Fs j a → i = j) : Own K cl H G (k + 1) v (.tup ds) F := by
  show (if flatL ds = true then Rep K cl G v (.tup ds) else _)
  by_cases hf : flatL ds = true
  · rw [if_pos hf]; exact h1 hf
  · rw [if_neg hf]; exact h2 hf
theorem Own.weak {k : Nat} {F F' : Addr → Prop} (h : Own K cl H G k v d F) (w : ∀ a, F a → F' a) : Own K cl H G k v d F' := by
  cases k with
  | zero => exact h
  | succ k =>
    cases d with
    | lst ds =>
      obtain ⟨p, vs, Fs, e, hp, fp, hl, hr, hs, hd⟩ := h
      exact ⟨p, vs, Fs, e, hp, w _ fp, hl, hr, fun i a z => ⟨w _ (hs i a z).1, (hs i a z).2⟩, hd⟩
    | obj C fs =>
      obtain ⟨p, dx, vs, Fs, e, hp, fp, hl, hr, hs, hd⟩ := h
      exact ⟨p, dx, vs, Fs, e, hp, w _ fp, hl, hr, fun i a z => ⟨w _ (hs i a z).1, (hs i a z).2⟩, hd⟩
    | tup ds =>
      refine Own.mkT (fun hf => h.tupF hf) fun hf => ?_
      obtain ⟨p, vs, Fs, e, hp, fp, hl, hr, hs, hd⟩ := h.tupN hf
      exact ⟨p, vs, Fs, e, hp, w _ fp, hl, hr, fun i a z => ⟨w _ (hs i a z).1, (hs i a z).2⟩, hd⟩
    | dct ps =>
      obtain ⟨p, nks, e, hp, fp, hr⟩ := h
      exact ⟨p, nks, e, hp, w _ fp, hr⟩
    | dci ks =>
      obtain ⟨p, e, hp, fp⟩ := h
      exact ⟨p, e, hp, w _ fp⟩
    | _ => exact h
/-- H keeps what F holds, G grows -/
theorem Own.step (gg : Same G G') : ∀ {k : Nat} {v : V} {d : D} {F : Addr → Prop}, Own K cl H G k v d F → (∀ a o, F a → H a = some o → H' a = some o) → Own K cl H' G' k v d F
  | 0, v, d, F, h, _ => Rep.mono gg h
  | k + 1, v, .lst ds, F, h, hk => by
    obtain ⟨p, vs, Fs, e, hp, fp, hl, hr, hs, hd⟩ := h
    exact ⟨p, vs, Fs, e, hk _ _ fp hp, fp, hl, fun i v d h1 h2 => Own.step gg (hr i v d h1 h2) fun a o f q => hk a o (hs i a f).1 q, hs, hd⟩
  | k + 1, v, .obj C fs, F, h, hk => by
    obtain ⟨p, dx, vs, Fs, e, hp, fp, hl, hr, hs, hd⟩ := h
    exact ⟨p, dx, vs, Fs, e, hk _ _ fp hp, fp, hl, fun i v d h1 h2 => Own.step gg (hr i v d h1 h2) fun a o f q => hk a o (hs i a f).1 q, hs, hd⟩
  | k + 1, v, .non, F, h, _ => Rep.mono gg h
  | k + 1, v, .bl _, F, h, _ => Rep.mono gg h
  | k + 1, v, .int _, F, h, _ => Rep.mono gg h
  | k + 1, v, .str _, F, h, _ => Rep.mono gg h
  | k + 1, v, .tup ds, F, h, hk => by
    refine Own.mkT (fun hf => Rep.mono gg (h.tupF hf)) fun hf => ?_
    obtain ⟨p, vs, Fs, e, hp, fp, hl, hr, hs, hd⟩ := h.tupN hf
    exact ⟨p, vs, Fs, e, hk _ _ fp hp, fp, hl, fun i v d h1 h2 => Own.step gg (hr i v d h1 h2) fun a o f q => hk a o (hs i a f).1 q, hs, hd⟩
  | k + 1, v, .exo _, F, h, _ => Rep.mono gg h
  | k + 1, v, .dct ps, F, h, hk => by
    obtain ⟨p, nks, e, hp, fp, hl, h0, h1, h2⟩ := h
    exact ⟨p, nks, e, hk _ _ fp hp, fp, hl, h0, fun i x y a b => Rep.mono gg (h1 i x y a b), fun i x y a b => Rep.mono gg (h2 i x y a b)⟩
  | k + 1, v, .dci ks, F, h, hk => by
    obtain ⟨p, e, hp, fp⟩ := h
    exact ⟨p, e, hk _ _ fp hp, fp⟩
/-- freezing: what F holds joins G -/
theorem Own.rep (gg : Same G G') : ∀ {k : Nat} {v : V} {d : D} {F : Addr → Prop}, Own K cl H G k v d F → (∀ a o, F a → H a = some o → G' a = some o) → Rep K cl G' v d
  | 0, v, d, F, h, _ => Rep.mono gg h
  | k + 1, v, .lst ds, F, h, hk => by
    obtain ⟨p, vs, Fs, e, hp, fp, hl, hr, hs, hd⟩ := h
    subst e
    exact .lst (.inl (hk _ _ fp hp)) hl fun i v d h1 h2 => Own.rep gg (hr i v d h1 h2) fun a o f q => hk a o (hs i a f).1 q
  | k + 1, v, .obj C fs, F, h, hk => by
    obtain ⟨p, dx, vs, Fs, e, hp, fp, hl, hr, hs, hd⟩ := h
    subst e
    exact .obj (hk _ _ fp hp) hl fun i v d h1 h2 => Own.rep gg (hr i v d h1 h2) fun a o f q => hk a o (hs i a f).1 q
  | k + 1, v, .non, F, h, _ => Rep.mono gg h
  | k + 1, v, .bl _, F, h, _ => Rep.mono gg h
  | k + 1, v, .int _, F, h, _ => Rep.mono gg h
  | k + 1, v, .str _, F, h, _ => Rep.mono gg h
  | k + 1, v, .tup ds, F, h, hk => by
    by_cases hf : flatL ds = true
    · exact Rep.mono gg (h.tupF hf)
    · obtain ⟨p, vs, Fs, e, hp, fp, hl, hr, hs, hd⟩ := h.tupN hf
      subst e
      exact .tup (.inl (hk _ _ fp hp)) hl fun i v d h1 h2 => Own.rep gg (hr i v d h1 h2) fun a o f q => hk a o (hs i a f).1 q
  | k + 1, v, .exo _, F, h, _ => Rep.mono gg h
  | k + 1, v, .dct ps, F, h, hk => by
    obtain ⟨p, nks, e, hp, fp, hl, h0, h1, h2⟩ := h
    subst e
    exact .dct (hk _ _ fp hp) hl h0 (fun i x y a b => Rep.mono gg (h1 i x y a b)) (fun i x y a b => Rep.mono gg (h2 i x y a b))
  | k + 1, v, .dci ks, F, h, hk => by
    obtain ⟨p, e, hp, fp⟩ := h
    subst e
    exact .dci (hk _ _ fp hp)
end

/-! ### steps -/
/-- a pure step: all that stood stands; the frozen part grows by new things -/
structure Px (G H G' H' : Hp) : Prop where
  hh : Same H H'
  gg : Same G G'
  gh : Same G' H'
  gn : ∀ a o, G' a = some o → G a = some o ∨ H a = none
theorem Px.refl {G H : Hp} (h : Same G H) : Px G H G H := ⟨Same.refl _, Same.refl _, h, fun _ _ e => .inl e⟩
theorem Px.trans {G H G1 H1 G2 H2 : Hp} (a : Px G H G1 H1) (b : Px G1 H1 G2 H2) : Px G H G2 H2 :=
  ⟨a.hh.trans b.hh, a.gg.trans b.gg, b.gh, fun x o e => by
    rcases b.gn x o e with h | h
    · exact a.gn x o h
    · exact .inr (a.hh.free h)⟩
/-- a step that may change or freeze what U holds -/
structure Sx (U : Addr → Prop) (G H : Hp) (U' : Addr → Prop) (G' H' : Hp) : Prop where
  gg : Same G G'
  gh : Same G' H'
  fr : ∀ a o, H a = some o → ¬ U a → H' a = some o
  th : ∀ a o, H a = some o → ∃ o', H' a = some o'
  un : ∀ a, U' a → U a ∨ H a = none
  gn : ∀ a o, G' a = some o → G a = some o ∨ U a ∨ H a = none
theorem Sx.refl {U : Addr → Prop} {G H : Hp} (h : Same G H) : Sx U G H U G H := ⟨Same.refl _, h, fun _ _ e _ => e, fun _ o e => ⟨o, e⟩, fun _ u => .inl u, fun _ _ e => .inl e⟩
theorem Sx.trans {U U1 U2 : Addr → Prop} {G H G1 H1 G2 H2 : Hp} (a : Sx U G H U1 G1 H1) (b : Sx U1 G1 H1 U2 G2 H2) : Sx U G H U2 G2 H2 := by
  refine ⟨a.gg.trans b.gg, b.gh, fun x o e n => ?_, fun x o e => ?_, fun x u => ?_, fun x o e => ?_⟩
  · refine b.fr x o (a.fr x o e n) fun u1 => ?_
    rcases a.un x u1 with h | h
    · exact n h
    · rw [e] at h; cases h
  · obtain ⟨o1, e1⟩ := a.th x o e
    exact b.th x o1 e1
  · rcases b.un x u with h | h
    · exact a.un x h
    · refine .inr ?_
      cases q : H x with
      | none => rfl
      | some o =>
        obtain ⟨o1, e1⟩ := a.th x o q
        rw [e1] at h; cases h
  · rcases b.gn x o e with h | h | h
    · exact a.gn x o h
    · rcases a.un x h with h | h
      · exact .inr (.inl h)
      · exact .inr (.inr h)
    · refine .inr (.inr ?_)
      cases q : H x with
      | none => rfl
      | some o =>
        obtain ⟨o1, e1⟩ := a.th x o q
        rw [e1] at h; cases h
theorem Px.sx {U : Addr → Prop} {G H G' H' : Hp} (a : Px G H G' H') : Sx U G H U G' H' :=
  ⟨a.gg, a.gh, fun x o e _ => a.hh x o e, fun x o e => ⟨o, a.hh x o e⟩, fun _ u => .inl u, fun x o e => (a.gn x o e).elim .inl fun h => .inr (.inr h)⟩
theorem Sx.px {U' : Addr → Prop} {G H G' H' : Hp} {U : Addr → Prop} (a : Sx U G H U' G' H') (n : ∀ x, ¬ U x) : Px G H G' H' :=
  ⟨fun x o e => a.fr x o e (n x), a.gg, a.gh, fun x o e => (a.gn x o e).elim .inl fun h => h.elim (fun u => (n x u).elim) .inr⟩

/-! ### the names' values -/
abbrev Slot := Option (Nat × D)
abbrev Env := List Slot
abbrev Foot := Nat → Addr → Prop
/-- where the classes stand; what the names hold that stay as they are -/
structure Clx where
  c : Str → Addr
  fix : Nat → Option V
instance : CoeFun Clx (fun _ => Str → Addr) := ⟨Clx.c⟩
instance : Coe Clx (Str → Addr) := ⟨Clx.c⟩
abbrev cl0 (c : Str → Addr) : Clx := ⟨c, fun _ => none⟩
/-- the slots hold ρ: slot i owns within Fs i -/
structure EnvR (K : PySem.W.Frag) (cl : Clx) (ρ : Env) (σ : L2.St) (G H : Hp) (Fs : Foot) : Prop where
  len : ρ.length = σ.length
  gh : Same G H
  own : ∀ (i k : Nat) (d : D), ρ[i]? = some (some (k, d)) → ∃ v, σ[i]? = some (some v) ∧ Own K cl H G k v d (Fs i)
  dis : ∀ i j a, Fs i a → Fs j a → i = j
  dom : ∀ i a, Fs i a → (∃ o, H a = some o) ∧ G a = none
  fx : ∀ i v, cl.fix i = some v → σ[i]? = some (some v)
def Un (Fs : Foot) : Addr → Prop := fun a => ∃ i, Fs i a
/-- a new thing of one's own -/
def New (H H' G' : Hp) (F : Addr → Prop) : Prop := ∀ a, F a → H a = none ∧ (∃ o, H' a = some o) ∧ G' a = none
section
variable {K : PySem.W.Frag} {cl : Clx} {ρ : Env} {σ : L2.St} {G H G' H' : Hp} {Fs : Foot}
theorem EnvR.px (e : EnvR K cl ρ σ G H Fs) (x : Px G H G' H') : EnvR K cl ρ σ G' H' Fs := by
  refine ⟨e.len, x.gh, fun i k d h => ?_, e.dis, fun i a f => ?_, e.fx⟩
  · obtain ⟨v, hv, o⟩ := e.own i k d h
    exact ⟨v, hv, o.step x.gg fun a o f q => x.hh a o q⟩
  · obtain ⟨⟨o, ho⟩, g⟩ := e.dom i a f
    refine ⟨⟨o, x.hh a o ho⟩, ?_⟩
    cases q : G' a with
    | none => rfl
    | some u =>
      rcases x.gn a u q with h | h
      · rw [g] at h; cases h
      · rw [ho] at h; cases h
/-- slot i takes what F owns (new, or free of the others) -/
theorem EnvR.set (e : EnvR K cl ρ σ G H Fs) {i k : Nat} {v : V} {d : D} {F : Addr → Prop} (o : Own K cl H G k v d F) (hF : ∀ a, F a → (∃ o, H a = some o) ∧ G a = none ∧ ∀ j, j ≠ i → ¬ Fs j a) (hx : ∀ u, cl.fix i = some u → u = v) :
    EnvR K cl (ρ.set i (some (k, d))) (σ.set i (some v)) G H (fun j => if j = i then F else Fs j) := by
  refine ⟨by simp [e.len], e.gh, fun j k' d' h => ?_, fun j l a h1 h2 => ?_, fun j a h => ?_, fun j u h => ?_⟩
  · by_cases hj : j = i
    · subst hj
      have hlt : j < ρ.length := by
        have := (List.getElem?_eq_some_iff.mp h).1
        simpa using this
      rw [List.getElem?_set_self hlt] at h
      cases h
      exact ⟨v, List.getElem?_set_self (by rw [← e.len]; exact hlt), by rw [if_pos rfl]; exact o⟩
    · rw [List.getElem?_set_ne (Ne.symm hj)] at h
      obtain ⟨v', hv, o'⟩ := e.own j k' d' h
      exact ⟨v', by rw [List.getElem?_set_ne (Ne.symm hj)]; exact hv, by rw [if_neg hj]; exact o'⟩
  · by_cases hj : j = i
    · by_cases hl : l = i
      · rw [hj, hl]
      · rw [if_pos hj] at h1
        rw [if_neg hl] at h2
        exact ((hF a h1).2.2 l hl h2).elim
    · by_cases hl : l = i
      · rw [if_neg hj] at h1
        rw [if_pos hl] at h2
        exact ((hF a h2).2.2 j hj h1).elim
      · rw [if_neg hj] at h1
        rw [if_neg hl] at h2
        exact e.dis j l a h1 h2
  · by_cases hj : j = i
    · rw [if_pos hj] at h
      exact ⟨(hF a h).1, (hF a h).2.1⟩
    · rw [if_neg hj] at h
      exact e.dom j a h
  · have h0 := e.fx j u h
    by_cases hj : j = i
    · subst hj
      have hlt : j < σ.length := (List.getElem?_eq_some_iff.mp h0).1
      rw [List.getElem?_set_self hlt, hx u h]
    · rw [List.getElem?_set_ne (Ne.symm hj)]
      exact h0
/-- forgetting a slot -/
theorem EnvR.drop (e : EnvR K cl ρ σ G H Fs) (i : Nat) : EnvR K cl (ρ.set i none) σ G H Fs := by
  refine ⟨by simp [e.len], e.gh, fun j k d h => ?_, e.dis, e.dom, e.fx⟩
  by_cases hj : j = i
  · subst hj
    have hlt : j < ρ.length := by
      have := (List.getElem?_eq_some_iff.mp h).1
      simpa using this
    rw [List.getElem?_set_self hlt] at h
    cases h
  · rw [List.getElem?_set_ne (Ne.symm hj)] at h
    exact e.own j k d h
end
end B
namespace B
open PySem L2

/-! ### outcomes -/
inductive R (α : Type) where
  | ok (a : α)
  | ex (c : Str)
  | bad
def R.bind {α β : Type} (r : R α) (f : α → R β) : R β := match r with
  | .ok a => f a
  | .ex c => .ex c
  | .bad => .bad
@[simp] theorem R.bind_ok {α β : Type} (a : α) (f : α → R β) : (R.ok a).bind f = f a := rfl
@[simp] theorem R.bind_ex {α β : Type} (c : Str) (f : α → R β) : (R.ex c : R α).bind f = .ex c := rfl
@[simp] theorem R.bind_bad {α β : Type} (f : α → R β) : (R.bad : R α).bind f = .bad := rfl
/-- a value as an expression gives it: borrowed from a name or not, its owned floors, the data -/
structure Vl where
  b : Bool
  k : Nat
  d : D
abbrev sh (d : D) : Vl := ⟨false, 0, d⟩
def ofO : Option D → R Vl
  | some d => .ok (sh d)
  | none => .bad
@[simp] theorem ofO_some (d : D) : ofO (some d) = .ok (sh d) := rfl
@[simp] theorem ofO_none : ofO none = .bad := rfl
abbrev EF := Env → R Vl
abbrev TF := Env → R Bool
abbrev AF := Env → R (List D)

def RepL (K : PySem.W.Frag) (cl : Str → Addr) (G : Hp) (vs : List V) (ds : List D) : Prop := vs.length = ds.length ∧ ∀ (i : Nat) v d, vs[i]? = some v → ds[i]? = some d → Rep K cl G v d

/-- what is wished of an error -/
def WEx (cl : Str → Addr) (W : WX) (c : Str) (σ : L2.St) (G H : Hp) : Prop := ∀ d, XD c d G → W (.ref (cl (xB c))) d σ H
section
variable (K : PySem.W.Frag) (cl : Str → Addr) (W : WX)
def Foo (H G' H' : Hp) (b : Bool) (F : Addr → Prop) : Prop := ∀ a, F a → (∃ o, H' a = some o) ∧ G' a = none ∧ (b = false → H a = none)
def PostG {α : Type} (σ : L2.St) (G H : Hp) (P : α → Hp → Hp → Prop) : R α → Prop
  | .ok a => P a G H
  | .ex c => ∀ G' H', Px G H G' H' → WEx cl W c σ G' H'
  | .bad => False
def PV (Q : VK) (x : Vl) (G H : Hp) : Prop := ∀ v G' H' F, Px G H G' H' → Own K cl H' G' x.k v x.d F → Foo H G' H' x.b F → Q v H'
def PB (Q : Bool → Hp → Prop) (b : Bool) (G H : Hp) : Prop := ∀ G' H', Px G H G' H' → Q b H'
def PL (Q : List V → Hp → Prop) (ds : List D) (G H : Hp) : Prop := ∀ vs G' H', Px G H G' H' → RepL K cl G' vs ds → Q vs H'
end
section
variable (K : PySem.W.Frag) (cl : Clx) (W : WX)
def SemE (t : TE) (F : EF) : Prop := ∀ ρ σ G H Fs, EnvR K cl ρ σ G H Fs → ∀ Q, PostG cl W σ G H (PV K cl Q) (F ρ) → t σ H Q
def SemT (t : TT) (F : TF) : Prop := ∀ ρ σ G H Fs, EnvR K cl ρ σ G H Fs → ∀ Q, PostG cl W σ G H (PB Q) (F ρ) → t σ H Q
def SemA (t : TA) (F : AF) : Prop := ∀ ρ σ G H Fs, EnvR K cl ρ σ G H Fs → ∀ Q, PostG cl W σ G H (PL K cl Q) (F ρ) → t σ H Q
end
def EvE (X : Cx) (cl : Clx) (W : WX) (e : Expr) (F : EF) : Prop := ∃ t, PE X e t ∧ SemE X.K cl W t F
def EvT (X : Cx) (cl : Clx) (W : WX) (e : Expr) (F : TF) : Prop := ∃ t, PT X e t ∧ SemT X.K cl W t F
def EvW (X : Cx) (cl : Clx) (W : WX) (e : Expr) (F : TF) : Prop := ∃ t, PW X e t ∧ SemT X.K cl W t F
def EvA (X : Cx) (cl : Clx) (W : WX) (es : List Expr) (F : AF) : Prop := ∃ t, PA X es t ∧ SemA X.K cl W t F ∧ ∀ ρ ds, F ρ = .ok ds → ds.length = es.length

section
variable {K : PySem.W.Frag} {cl : Clx} {W : WX} {ρ : Env} {σ : L2.St} {G H G' H' : Hp} {Fs : Foot}
def Mono {α : Type} (P : α → Hp → Hp → Prop) : Prop := ∀ a G H G' H', Px G H G' H' → P a G H → P a G' H'
theorem PV.mono {cl : Str → Addr} {Q : VK} : Mono (PV K cl Q) := fun x G H G' H' p h v G2 H2 F p2 o f => h v G2 H2 F (p.trans p2) o fun a fa => ⟨(f a fa).1, (f a fa).2.1, fun hb => p.hh.free ((f a fa).2.2 hb)⟩
theorem PB.mono {Q : Bool → Hp → Prop} : Mono (PB Q) := fun x G H G' H' p h G2 H2 p2 => h G2 H2 (p.trans p2)
theorem PL.mono {cl : Str → Addr} {Q : List V → Hp → Prop} : Mono (PL K cl Q) := fun x G H G' H' p h v G2 H2 p2 o => h v G2 H2 (p.trans p2) o
theorem PostG.mono {α : Type} {P : α → Hp → Hp → Prop} (hm : Mono P) {r : R α} (p : Px G H G' H') (h : PostG cl W σ G H P r) : PostG cl W σ G' H' P r := by
  cases r with
  | ok a => exact hm a G H G' H' p h
  | ex c => exact fun G2 H2 p2 => h G2 H2 (p.trans p2)
  | bad => exact h
/-- an expression, then what its value is used for -/
theorem SemE.use {t : TE} {F : EF} (h : SemE K cl W t F) (env : EnvR K cl ρ σ G H Fs) {α : Type} {g : Vl → R α} {P : α → Hp → Hp → Prop} (hm : Mono P) (hq : PostG cl W σ G H P ((F ρ).bind g)) {C : VK}
    (step : ∀ x v G' H' F', F ρ = .ok x → Px G H G' H' → EnvR K cl ρ σ G' H' Fs → Own K cl H' G' x.k v x.d F' → Foo H G' H' x.b F' → PostG cl W σ G' H' P (g x) → C v H') : t σ H C := by
  refine h ρ σ G H Fs env C ?_
  cases e : F ρ with
  | ok x =>
    rw [e] at hq
    exact fun v G' H' F' p o f => step x v G' H' F' e p (env.px p) o f (PostG.mono hm p hq)
  | ex c =>
    rw [e] at hq
    exact hq
  | bad =>
    rw [e] at hq
    exact hq
theorem SemT.use {t : TT} {F : TF} (h : SemT K cl W t F) (env : EnvR K cl ρ σ G H Fs) {α : Type} {g : Bool → R α} {P : α → Hp → Hp → Prop} (hm : Mono P) (hq : PostG cl W σ G H P ((F ρ).bind g)) {C : Bool → Hp → Prop}
    (step : ∀ x G' H', F ρ = .ok x → Px G H G' H' → EnvR K cl ρ σ G' H' Fs → PostG cl W σ G' H' P (g x) → C x H') : t σ H C := by
  refine h ρ σ G H Fs env C ?_
  cases e : F ρ with
  | ok x =>
    rw [e] at hq
    exact fun G' H' p => step x G' H' e p (env.px p) (PostG.mono hm p hq)
  | ex c =>
    rw [e] at hq
    exact hq
  | bad =>
    rw [e] at hq
    exact hq
theorem SemA.use {t : TA} {F : AF} (h : SemA K cl W t F) (env : EnvR K cl ρ σ G H Fs) {α : Type} {g : List D → R α} {P : α → Hp → Hp → Prop} (hm : Mono P) (hq : PostG cl W σ G H P ((F ρ).bind g)) {C : List V → Hp → Prop}
    (step : ∀ x vs G' H', F ρ = .ok x → Px G H G' H' → EnvR K cl ρ σ G' H' Fs → RepL K cl G' vs x → PostG cl W σ G' H' P (g x) → C vs H') : t σ H C := by
  refine h ρ σ G H Fs env C ?_
  cases e : F ρ with
  | ok x =>
    rw [e] at hq
    exact fun vs G' H' p r => step x vs G' H' e p (env.px p) r (PostG.mono hm p hq)
  | ex c =>
    rw [e] at hq
    exact hq
  | bad =>
    rw [e] at hq
    exact hq
/-- a pure step leaves what is owned -/
theorem Own.px {cl : Str → Addr} {k : Nat} {v : V} {d : D} {F : Addr → Prop} (o : Own K cl H G k v d F) (p : Px G H G' H') : Own K cl H' G' k v d F := o.step p.gg fun a _ _ q => p.hh a _ q
theorem Own.scal {cl : Str → Addr} {k : Nat} {v : V} {d : D} {F : Addr → Prop} (h : Own K cl H G k v d F) (hd : flat d = true) : Rep K cl G v d := by
  cases k with
  | zero => exact h
  | succ k =>
    cases d with
    | lst _ => simp at hd
    | obj _ _ => simp at hd
    | dct _ => simp at hd
    | dci _ => simp at hd
    | tup ds => exact h.tupF (by simpa using hd)
    | _ => exact h
theorem Own.int {cl : Str → Addr} {k : Nat} {v : V} {i : Int} {F : Addr → Prop} (h : Own K cl H G k v (.int i) F) : v = .int i := by
  cases Own.scal h (by simp)
  rfl
theorem Own.bl {cl : Str → Addr} {k : Nat} {v : V} {i : Bool} {F : Addr → Prop} (h : Own K cl H G k v (.bl i) F) : v = .bl i := by
  cases Own.scal h (by simp)
  rfl
theorem Own.str {cl : Str → Addr} {k : Nat} {v : V} {i : Str} {F : Addr → Prop} (h : Own K cl H G k v (.str i) F) : v = .str i := by
  cases Own.scal h (by simp)
  rfl
theorem Own.non {cl : Str → Addr} {k : Nat} {v : V} {F : Addr → Prop} (h : Own K cl H G k v .non F) : v = .non := by
  cases Own.scal h (by simp)
  rfl
/-- a list that is read -/
theorem Own.lstR {cl : Str → Addr} {k : Nat} {v : V} {ds : List D} {F : Addr → Prop} (h : Own K cl H G k v (.lst ds) F) (gh : Same G H) : ∃ p vs, v = .ref p ∧ Rd H p (.lst vs) ∧ vs.length = ds.length ∧
    ∀ (i : Nat) v d, vs[i]? = some v → ds[i]? = some d → ∃ F', Own K cl H G (k - 1) v d F' ∧ ∀ a, F' a → F a := by
  cases k with
  | zero =>
    cases h with
    | lst h hl hr => exact ⟨_, _, rfl, rdEx gh h, hl, fun i v d h1 h2 => ⟨fun _ => False, hr i v d h1 h2, fun _ z => z.elim⟩⟩
  | succ k =>
    obtain ⟨p, vs, Fs, e, hp, fp, hl, hr, hs, hd⟩ := h
    exact ⟨p, vs, e, .inl hp, hl, fun i v d h1 h2 => ⟨_, hr i v d h1 h2, fun a z => (hs i a z).1⟩⟩
/-- a dict that is read -/
theorem Own.dctR {cl : Str → Addr} {k : Nat} {v : V} {ps : List (D × D)} {F : Addr → Prop} (h : Own K cl H G k v (.dct ps) F) (gh : Same G H) : ∃ (p : Addr) (nks : List (NestedKey × Addr × V)), v = .ref p ∧ H p = some (DctO p nks) ∧ nks.length = ps.length ∧ (∀ (i : Nat) x y, nks[i]? = some x → ps[i]? = some y → x.1 = nkOf y.1 ∧ keyB y.1 = true) ∧
      (∀ (i : Nat) x y, nks[i]? = some x → ps[i]? = some y → Rep K cl G (.ref x.2.1) y.1) ∧ ∀ (i : Nat) x y, nks[i]? = some x → ps[i]? = some y → Rep K cl G x.2.2 y.2 := by
  cases k with
  | zero =>
    cases h with
    | dct h hl h0 h1 h2 => exact ⟨_, _, rfl, gh _ _ h, hl, h0, h1, h2⟩
  | succ k =>
    obtain ⟨p, nks, e, hp, _, hl, h0, h1, h2⟩ := h
    exact ⟨p, nks, e, hp, hl, h0, h1, h2⟩
theorem Own.dciR {cl : Str → Addr} {k : Nat} {v : V} {ks : List Int} {F : Addr → Prop} (h : Own K cl H G k v (.dci ks) F) (gh : Same G H) : ∃ p : Addr, v = .ref p ∧ H p = some (DciO ks) := by
  cases k with
  | zero =>
    cases h with
    | dci h => exact ⟨_, rfl, gh _ _ h⟩
  | succ k =>
    obtain ⟨p, e, hp, _⟩ := h
    exact ⟨p, e, hp⟩
/-- a tuple's floors: none where it holds no list and no object -/
def tkF (k : Nat) (ds : List D) : Nat := if flatL ds = true then 0 else k - 1
theorem Own.tupR {cl : Str → Addr} {k : Nat} {v : V} {ds : List D} {F : Addr → Prop} (h : Own K cl H G k v (.tup ds) F) (gh : Same G H) : ∃ p vs, v = .ref p ∧ Rd H p (.tup vs) ∧ vs.length = ds.length ∧
    ∀ (i : Nat) v d, vs[i]? = some v → ds[i]? = some d → ∃ F', Own K cl H G (tkF k ds) v d F' ∧ ∀ a, F' a → F a := by
  have z : ∀ {w : V} {d : D}, Rep K cl G w d → k = 0 ∨ flatL ds = true → ∃ F', Own K cl H G (tkF k ds) w d F' ∧ ∀ a, F' a → F a := fun {w d} r hk => by
    have e : tkF k ds = 0 := by
      unfold tkF
      rcases hk with h | h
      · subst h; split <;> rfl
      · rw [if_pos h]
    rw [e]
    exact ⟨fun _ => False, r, fun _ z => z.elim⟩
  cases k with
  | zero =>
    cases h with
    | tup h hl hr => exact ⟨_, _, rfl, rdEx gh h, hl, fun i v d h1 h2 => z (hr i v d h1 h2) (.inl rfl)⟩
  | succ k =>
    by_cases hf : flatL ds = true
    · cases h.tupF hf with
      | tup h2 hl hr => exact ⟨_, _, rfl, rdEx gh h2, hl, fun i v d h1 h3 => z (hr i v d h1 h3) (.inr hf)⟩
    · obtain ⟨p, vs, Fs, e, hp, fp, hl, hr, hs, hd⟩ := h.tupN hf
      refine ⟨p, vs, e, .inl hp, hl, fun i v d h1 h2 => ⟨Fs i, ?_, fun a z => (hs i a z).1⟩⟩
      have e : tkF (k + 1) ds = k := by unfold tkF; rw [if_neg hf]; rfl
      rw [e]
      exact hr i v d h1 h2
theorem Own.objR {cl : Str → Addr} {k : Nat} {v : V} {C : Str} {fs : List (Str × D)} {F : Addr → Prop} (h : Own K cl H G k v (.obj C fs) F) (gh : Same G H) : ∃ p dx gs, v = .ref p ∧ H p = some (.ins (cl C) dx gs) ∧ gs.map (·.1) = fs.map (·.1) ∧
    ∀ (i : Nat) v d, gs[i]? = some v → fs[i]? = some d → ∃ F', Own K cl H G (k - 1) v.2 d.2 F' ∧ ∀ a, F' a → F a := by
  cases k with
  | zero =>
    cases h with
    | obj h hl hr => exact ⟨_, _, _, rfl, gh _ _ h, hl, fun i v d h1 h2 => ⟨fun _ => False, hr i v d h1 h2, fun _ z => z.elim⟩⟩
  | succ k =>
    obtain ⟨p, dx, vs, Fs, e, hp, fp, hl, hr, hs, hd⟩ := h
    exact ⟨p, dx, vs, e, hp, hl, fun i v d h1 h2 => ⟨_, hr i v d h1 h2, fun a z => (hs i a z).1⟩⟩
/-- freezing a new value -/
theorem freeze {cl : Str → Addr} (gh : Same G' H') {k : Nat} {v : V} {d : D} {F : Addr → Prop} (p : Px G H G' H') (o : Own K cl H' G' k v d F) (f : Foo H G' H' false F) : ∃ G2, Px G H G2 H' ∧ Px G' H' G' H' ∧ Same G' G2 ∧ Rep K cl G2 v d := by
  classical
  refine ⟨fun a => if F a then H' a else G' a, ⟨p.hh, fun a u e => ?_, fun a u e => ?_, fun a u e => ?_⟩, Px.refl gh, fun a u e => ?_, o.rep (fun a u e => ?_) fun a u fa e => ?_⟩
  · have e' := p.gg a u e
    by_cases fa : F a
    · rw [(f a fa).2.1] at e'; cases e'
    · simp only [if_neg fa]; exact e'
  · by_cases fa : F a
    · simp only [if_pos fa] at e; exact e
    · simp only [if_neg fa] at e; exact gh a u e
  · by_cases fa : F a
    · exact .inr ((f a fa).2.2 rfl)
    · simp only [if_neg fa] at e; exact p.gn a u e
  · by_cases fa : F a
    · rw [(f a fa).2.1] at e; cases e
    · simp only [if_neg fa]; exact e
  · by_cases fa : F a
    · rw [(f a fa).2.1] at e; cases e
    · simp only [if_neg fa]; exact e
  · simp only [if_pos fa]; exact e
end

/-! ### names, constants -/
section
variable {X : Cx} {cl : Clx} {W : WX} {pos : Pos}
def eC (d : D) : EF := fun _ => .ok (sh d)
@[simp] theorem eC_eq (d : D) (ρ : Env) : eC d ρ = .ok (sh d) := rfl
def slotV : Option Slot → R Vl
  | some (some (0, d)) => .ok (sh d)
  | some (some (k + 1, d)) => .ok ⟨true, k + 1, d⟩
  | _ => .bad
@[simp] theorem slotV_sh (d : D) : slotV (some (some (0, d))) = .ok (sh d) := rfl
@[simp] theorem slotV_own (k : Nat) (d : D) : slotV (some (some (k + 1, d))) = .ok ⟨true, k + 1, d⟩ := rfl
@[simp] theorem slotV_none : slotV (some none) = .bad := rfl
def eV (i : Nat) : EF := fun ρ => slotV ρ[i]?
@[simp] theorem eV_eq (i : Nat) (ρ : Env) : eV i ρ = slotV ρ[i]? := rfl
theorem semC {K : PySem.W.Frag} {v : V} {d : D} (h : ∀ G, Rep K cl G v d) : SemE K cl W (tC v) (eC d) := fun ρ σ G H Fs env Q hq => hq v G H (fun _ => False) (Px.refl env.gh) (h G) fun _ z => z.elim
theorem semV {K : PySem.W.Frag} (i : Nat) : SemE K cl W (tVar i) (eV i) := by
  intro ρ σ G H Fs env Q hq
  rw [eV_eq] at hq
  cases e : ρ[i]? with
  | none => rw [e] at hq; exact hq.elim
  | some s =>
    cases s with
    | none => rw [e] at hq; exact hq.elim
    | some kd =>
      obtain ⟨k, d⟩ := kd
      obtain ⟨v, hv, o⟩ := env.own i k d e
      rw [e] at hq
      refine ⟨v, hv, ?_⟩
      cases k with
      | zero => exact hq v G H (fun _ => False) (Px.refl env.gh) o fun _ z => z.elim
      | succ k => exact hq v G H (Fs i) (Px.refl env.gh) o fun a fa => ⟨(env.dom i a fa).1, (env.dom i a fa).2, fun z => nomatch z⟩
theorem ev_var (i : Nat) {x : Str} (hN : X.N[i]? = some x := by rfl) (hv : Vis X.env.scope x := by first | exact Or.inl rfl | exact Or.inr (Or.inl rfl) | exact Or.inr (Or.inr rfl)) (hd : (x == ("__debug__" : Str)) = false := by decide)
    (hcd : (x == ("__classdict__" : Str)) = false := by decide) : EvE X cl W (.Name x pos) (eV i) := ⟨_, pe_var hN hv hd hcd, semV i⟩
theorem ev_int {i : Int} {j : Nat} : EvE X cl W (.Constant (.int i) j pos) (eC (.int i)) := ⟨_, pe_int, semC fun _ => .int i⟩
theorem ev_str {i : Str} {j : Nat} : EvE X cl W (.Constant (.str i) j pos) (eC (.str i)) := ⟨_, pe_str, semC fun _ => .str i⟩
theorem ev_bl {i : Bool} {j : Nat} : EvE X cl W (.Constant (.bool i) j pos) (eC (.bl i)) := ⟨_, pe_bl, semC fun _ => .bl i⟩
theorem ev_non {j : Nat} : EvE X cl W (.Constant .none j pos) (eC .non) := ⟨_, pe_non, semC fun _ => .non⟩

/-! ### operators on values that lie in no heap -/
def OpS (K : PySem.W.Frag) (cl : Str → Addr) (r : R2) (f : D → D → Option D) : Prop := ∀ {k l : Nat} {x y : V} {dx dy d : D} {F1 F2 : Addr → Prop} {G H : Hp} {Q : VK}, Same G H → Own K cl H G k x dx F1 → Own K cl H G l y dy F2 → f dx dy = some d →
  (∀ v, Rep K cl G v d → Q v H) → r x y H Q
def eOp (f : D → D → Option D) (a b : EF) : EF := fun ρ => (a ρ).bind fun x => (b ρ).bind fun y => ofO (f x.d y.d)
@[simp] theorem eOp_eq (f : D → D → Option D) (a b : EF) (ρ : Env) : eOp f a b ρ = (a ρ).bind fun x => (b ρ).bind fun y => ofO (f x.d y.d) := rfl
theorem semOp {K : PySem.W.Frag} {r : R2} {f : D → D → Option D} (hf : OpS K cl r f) {ta tb : TE} {a b : EF} (ha : SemE K cl W ta a) (hb : SemE K cl W tb b) : SemE K cl W (tOp r ta tb) (eOp f a b) := by
  intro ρ σ G H Fs env Q hq
  refine ha.use env PV.mono hq fun x v G1 H1 F1 _ p1 env1 o1 f1 hq1 => ?_
  refine hb.use env1 PV.mono hq1 fun y u G2 H2 F2 _ p2 env2 o2 f2 hq2 => ?_
  cases e : f x.d y.d with
  | none => rw [e] at hq2; exact hq2.elim
  | some d =>
    rw [e] at hq2
    exact hf env2.gh (o1.px p2) o2 e fun v r => hq2 v G2 H2 (fun _ => False) (Px.refl env2.gh) r fun _ z => z.elim
theorem ev_op {a b : Expr} {fa fb : EF} {op : Operator} {r : R2} {f : D → D → Option D} (ho : OpR X (binaryOp op) r) (hf : OpS X.K cl r f) (ha : EvE X cl W a fa) (hb : EvE X cl W b fb) : EvE X cl W (.BinOp a op b pos) (eOp f fa fb) := by
  obtain ⟨ta, pa, sa⟩ := ha
  obtain ⟨tb, pb, sb⟩ := hb
  exact ⟨_, pe_op ho pa pb, semOp hf sa sb⟩
theorem ev_cmp {a b : Expr} {fa fb : EF} {op : CmpOp} {r : R2} {f : D → D → Option D} (ho : OpR X (compareOp op) r) (hf : OpS X.K cl r f) (ha : EvE X cl W a fa) (hb : EvE X cl W b fb) (hm : behindInMarks op b = false) : EvE X cl W (.Compare a [op] [b] pos) (eOp f fa fb) := by
  obtain ⟨ta, pa, sa⟩ := ha
  obtain ⟨tb, pb, sb⟩ := hb
  exact ⟨_, pe_cmpR ho pa pb hm, semOp hf sa sb⟩
/-- int by int -/
def iop (g : Int → Int → Option D) : D → D → Option D
  | .int i, .int j => g i j
  | _, _ => none
@[simp] theorem iop_int (g : Int → Int → Option D) (i j : Int) : iop g (.int i) (.int j) = g i j := rfl
theorem opS_int {K : PySem.W.Frag} {C : Int → Int → Prop} {g : Int → Int → V} {f : Int → Int → Option D} (h : ∀ i j d, f i j = some d → C i j ∧ ∀ G, Rep K cl G (g i j) d) : OpS K cl (rI C g) (iop f) := by
  intro k l x y dx dy d F1 F2 G H Q gh o1 o2 e q
  cases dx with
  | int i =>
    cases dy with
    | int j =>
      obtain ⟨c, r⟩ := h i j d e
      exact ⟨i, j, o1.int, o2.int, c, q _ (r G)⟩
    | _ => cases e
  | _ => cases e
theorem opS_int0 {K : PySem.W.Frag} {g : Int → Int → V} {f : Int → Int → Option D} (h : ∀ i j d, f i j = some d → ∀ G, Rep K cl G (g i j) d) : OpS K cl (rI0 g) (iop f) := by
  intro k l x y dx dy d F1 F2 G H Q gh o1 o2 e q
  cases dx with
  | int i =>
    cases dy with
    | int j => exact ⟨i, j, o1.int, o2.int, q _ (h i j d e G)⟩
    | _ => cases e
  | _ => cases e
abbrev addD := iop fun i j => some (.int (i + j))
abbrev subD := iop fun i j => some (.int (i - j))
def mulOk (i j : Int) : Prop := (i.natAbs < 2 ^ 64 ∨ j.natAbs < 2 ^ 64) ∨ i.natAbs.log2 + j.natAbs.log2 < 1000000
noncomputable instance (i j : Int) : Decidable (mulOk i j) := Classical.propDecidable _
noncomputable abbrev mulD := iop fun i j => if mulOk i j then some (.int (i * j)) else none
def divOk (j : Int) : Prop := 0 < j ∧ j.natAbs.log2 < 9000
noncomputable instance (j : Int) : Decidable (divOk j) := Classical.propDecidable _
noncomputable abbrev fdivD := iop fun i j => if divOk j then some (.int (i / j)) else none
abbrev modD := iop fun i j => if 0 < j then some (.int (i % j)) else none
def powOk (i j : Int) : Prop := 0 ≤ j ∧ j ≤ 1000000 ∧ i.natAbs < 2 ^ 64
noncomputable instance (i j : Int) : Decidable (powOk i j) := Classical.propDecidable _
noncomputable abbrev powD := iop fun i j => if powOk i j then some (.int (i ^ j.toNat)) else none
theorem os_sub {K : PySem.W.Frag} : OpS K cl (rI0 fun i j => .int (i - j)) subD := opS_int0 fun i j d e G => by cases e; exact .int _
theorem op_mulA : OpR X (binaryOp .Mult) (rI mulOk fun i j => .int (i * j)) := opI fun i j _ _ _ _ _ hc q => by
  rcases hc with hc | hc
  · have e1 : ((2 : Int) ^ 64) = 18446744073709551616 := by decide
    have e2 : ((2 : Nat) ^ 64) = 18446744073709551616 := by decide
    have this : CMul i j := by
      unfold CMul
      rw [e1]
      rw [e2] at hc
      rcases hc with hc | hc
      · left
        omega
      · right
        omega
    exact PyProof.Rows.mul_int q this.ok
  · exact PyProof.Rows.mul_int q (CMulW.ok hc)
theorem os_mul {K : PySem.W.Frag} : OpS K cl (rI mulOk fun i j => .int (i * j)) mulD := opS_int fun i j d e => by
  by_cases h : mulOk i j
  · rw [if_pos h] at e
    cases e
    exact ⟨h, fun G => .int _⟩
  · rw [if_neg h] at e
    cases e
theorem os_fdiv {K : PySem.W.Frag} : OpS K cl (rI CDivW fun i j => .int (i / j)) fdivD := opS_int fun i j d e => by
  by_cases h : divOk j
  · rw [if_pos h] at e
    cases e
    exact ⟨h, fun G => .int _⟩
  · rw [if_neg h] at e
    cases e
theorem os_mod {K : PySem.W.Frag} : OpS K cl (rI (fun _ j => 0 < j) fun i j => .int (i % j)) modD := opS_int fun i j d e => by
  by_cases h : 0 < j
  · rw [if_pos h] at e
    cases e
    exact ⟨h, fun G => .int _⟩
  · rw [if_neg h] at e
    cases e
theorem os_pow {K : PySem.W.Frag} : OpS K cl (rI CPow fun i j => .int (i ^ j.toNat)) powD := opS_int fun i j d e => by
  by_cases h : powOk i j
  · rw [if_pos h] at e
    cases e
    exact ⟨h, fun G => .int _⟩
  · rw [if_neg h] at e
    cases e
abbrev ltD := iop fun i j => some (.bl (decide (i < j)))
abbrev leD := iop fun i j => some (.bl (decide (i ≤ j)))
abbrev gtD := iop fun i j => some (.bl (decide (j < i)))
abbrev geD := iop fun i j => some (.bl (decide (j ≤ i)))
theorem os_lt {K : PySem.W.Frag} : OpS K cl (rI0 fun i j => .bl (decide (i < j))) ltD := opS_int0 fun i j d e G => by cases e; exact .bl _
theorem os_le {K : PySem.W.Frag} : OpS K cl (rI0 fun i j => .bl (decide (i ≤ j))) leD := opS_int0 fun i j d e G => by cases e; exact .bl _
theorem os_gt {K : PySem.W.Frag} : OpS K cl (rI0 fun i j => .bl (decide (j < i))) gtD := opS_int0 fun i j d e G => by cases e; exact .bl _
theorem os_ge {K : PySem.W.Frag} : OpS K cl (rI0 fun i j => .bl (decide (j ≤ i))) geD := opS_int0 fun i j d e G => by cases e; exact .bl _
/-- == and != of ints, bools, texts, None (where both lie in no heap) -/
def eqF : D → D → Option Bool
  | .int i, .int j => some (decide (i = j))
  | .str i, .str j => some (decide (i = j))
  | .bl i, .bl j => some (decide (i = j))
  | _, _ => none
def eqD (x y : D) : Option D := (eqF x y).map .bl
def neD (x y : D) : Option D := (eqF x y).map fun b => .bl (!b)
@[simp] theorem eqD_int (i j : Int) : eqD (.int i) (.int j) = some (.bl (decide (i = j))) := rfl
@[simp] theorem neD_int (i j : Int) : neD (.int i) (.int j) = some (.bl (!decide (i = j))) := rfl
@[simp] theorem eqD_str (i j : Str) : eqD (.str i) (.str j) = some (.bl (decide (i = j))) := rfl
@[simp] theorem neD_str (i j : Str) : neD (.str i) (.str j) = some (.bl (!decide (i = j))) := rfl
@[simp] theorem eqD_bl (i j : Bool) : eqD (.bl i) (.bl j) = some (.bl (decide (i = j))) := rfl
@[simp] theorem neD_bl (i j : Bool) : neD (.bl i) (.bl j) = some (.bl (!decide (i = j))) := rfl
theorem eqF_of {K : PySem.W.Frag} {k l : Nat} {x y : V} {dx dy : D} {F1 F2 : Addr → Prop} {G H : Hp} {b : Bool} (o1 : Own K cl H G k x dx F1) (o2 : Own K cl H G l y dy F2) (e : eqF dx dy = some b) : scal x y = true ∧ decide (x = y) = b := by
  cases dx with
  | int i =>
    cases dy with
    | int j =>
      cases e
      rw [o1.int, o2.int]
      refine ⟨rfl, ?_⟩
      by_cases h : i = j
      · subst h; simp
      · rw [decide_eq_false h, decide_eq_false fun q => h (V.int.inj q)]
    | _ => cases e
  | str i =>
    cases dy with
    | str j =>
      cases e
      rw [o1.str, o2.str]
      refine ⟨rfl, ?_⟩
      by_cases h : i = j
      · subst h; simp
      · rw [decide_eq_false h, decide_eq_false fun q => h (V.str.inj q)]
    | _ => cases e
  | bl i =>
    cases dy with
    | bl j =>
      cases e
      rw [o1.bl, o2.bl]
      refine ⟨rfl, ?_⟩
      by_cases h : i = j
      · subst h; simp
      · rw [decide_eq_false h, decide_eq_false fun q => h (V.bl.inj q)]
    | _ => cases e
  | _ => cases e
/-- is None, is not None -/
def isN : D → Bool
  | .non => true
  | _ => false
@[simp] theorem isN_non : isN .non = true := rfl
@[simp] theorem isN_int (i : Int) : isN (.int i) = false := rfl
@[simp] theorem isN_bl (i : Bool) : isN (.bl i) = false := rfl
@[simp] theorem isN_str (i : Str) : isN (.str i) = false := rfl
@[simp] theorem isN_lst (i : List D) : isN (.lst i) = false := rfl
@[simp] theorem isN_tup (i : List D) : isN (.tup i) = false := rfl
@[simp] theorem isN_exo (C : Str) : isN (.exo C) = false := rfl
@[simp] theorem isN_dci (ks : List Int) : isN (.dci ks) = false := rfl
@[simp] theorem isN_dct (ps : List (D × D)) : isN (.dct ps) = false := rfl
@[simp] theorem isN_obj (C : Str) (i : List (Str × D)) : isN (.obj C i) = false := rfl
def isD : D → D → Option D
  | x, .non => some (.bl (isN x))
  | _, _ => none
def isnD : D → D → Option D
  | x, .non => some (.bl (!isN x))
  | _, _ => none
@[simp] theorem isD_non (x : D) : isD x .non = some (.bl (isN x)) := rfl
@[simp] theorem isnD_non (x : D) : isnD x .non = some (.bl (!isN x)) := rfl
theorem isN_of {K : PySem.W.Frag} {k : Nat} {x : V} {dx : D} {F1 : Addr → Prop} {G H : Hp} (o1 : Own K cl H G k x dx F1) (gh : Same G H) : decide (x = .non) = isN dx := by
  cases dx with
  | non => rw [o1.non]; rfl
  | int i => rw [o1.int]; rfl
  | bl i => rw [o1.bl]; rfl
  | str i => rw [o1.str]; rfl
  | lst i =>
    obtain ⟨p, vs, e, _⟩ := o1.lstR gh
    rw [e]; rfl
  | tup i =>
    obtain ⟨p, vs, e, _⟩ := o1.tupR gh
    rw [e]; rfl
  | obj C i =>
    obtain ⟨p, dx, vs, e, _⟩ := o1.objR gh
    rw [e]; rfl
  | exo C =>
    cases Own.scal o1 (by simp)
    rfl
  | dct ps =>
    obtain ⟨p, nks, e, _⟩ := o1.dctR gh
    rw [e]; rfl
  | dci ks =>
    obtain ⟨p, e, _⟩ := o1.dciR gh
    rw [e]; rfl
theorem os_isN {K : PySem.W.Frag} : OpS K cl (fun x y H Q => y = .non ∧ Q (.bl (decide (x = .non))) H) isD := by
  intro k l x y dx dy d F1 F2 G H Q gh o1 o2 e q
  cases dy with
  | non =>
    cases e
    exact ⟨o2.non, by rw [isN_of o1 gh]; exact q _ (.bl _)⟩
  | _ => cases e
/-! ### tests -/
def asB : D → R Bool
  | .bl b => .ok b
  | _ => .bad
@[simp] theorem asB_bl (b : Bool) : asB (.bl b) = .ok b := rfl
def tV (a : EF) : TF := fun ρ => (a ρ).bind fun x => asB x.d
@[simp] theorem tV_eq (a : EF) (ρ : Env) : tV a ρ = (a ρ).bind fun x => asB x.d := rfl
theorem semTest {K : PySem.W.Frag} {t : TE} {a : EF} (h : SemE K cl W t a) : SemT K cl W (tTest t) (tV a) := by
  intro ρ σ G H Fs env Q hq
  refine h.use env PB.mono hq fun x v G1 H1 F1 _ p1 env1 o1 f1 hq1 => ?_
  obtain ⟨b, k, d⟩ := x
  cases d with
  | bl c => exact ⟨c, o1.bl, hq1 _ _ (Px.refl env1.gh)⟩
  | _ => exact hq1.elim
theorem et_cmp {a b : Expr} {fa fb : EF} {op : CmpOp} {r : R2} {f : D → D → Option D} (ho : OpR X (compareOp op) r) (hf : OpS X.K cl r f) (ha : EvE X cl W a fa) (hb : EvE X cl W b fb) (hm : behindInMarks op b = false) : EvT X cl W (.Compare a [op] [b] pos) (tV (eOp f fa fb)) := by
  obtain ⟨ta, pa, sa⟩ := ha
  obtain ⟨tb, pb, sb⟩ := hb
  exact ⟨_, pt_cmpR ho pa pb hm, semTest (semOp hf sa sb)⟩
theorem et_val {e : Expr} {f : EF} (h : EvE X cl W e f) (he : ∀ whole, isTrue e X.env whole = (do let v ← whole; standAt e.pos; holding [v] (truthy v)) := by intro _; rfl) : EvT X cl W e (tV f) := by
  obtain ⟨t, p, s⟩ := h
  exact ⟨_, pt_val p he, semTest s⟩
def tAndF (a b : TF) : TF := fun ρ => (a ρ).bind fun x => if x then b ρ else .ok false
def tOrF (a b : TF) : TF := fun ρ => (a ρ).bind fun x => if x then .ok true else b ρ
def tNotF (a : TF) : TF := fun ρ => (a ρ).bind fun x => .ok (!x)
@[simp] theorem tAndF_eq (a b : TF) (ρ : Env) : tAndF a b ρ = (a ρ).bind fun x => if x then b ρ else .ok false := rfl
@[simp] theorem tOrF_eq (a b : TF) (ρ : Env) : tOrF a b ρ = (a ρ).bind fun x => if x then .ok true else b ρ := rfl
@[simp] theorem tNotF_eq (a : TF) (ρ : Env) : tNotF a ρ = (a ρ).bind fun x => .ok (!x) := rfl
theorem EvW.t {e : Expr} {f : TF} (h : EvW X cl W e f) : EvT X cl W e f := by
  obtain ⟨t, p, s⟩ := h
  exact ⟨t, p.pt, s⟩
theorem ew_and1 {a : Expr} {f : TF} (h : EvT X cl W a f) : EvW X cl W (.BoolOp .And [a] pos) f := by
  obtain ⟨t, p, s⟩ := h
  exact ⟨t, pw_and1 p, s⟩
theorem ew_or1 {a : Expr} {f : TF} (h : EvT X cl W a f) : EvW X cl W (.BoolOp .Or [a] pos) f := by
  obtain ⟨t, p, s⟩ := h
  exact ⟨t, pw_or1 p, s⟩
theorem ew_and {a b : Expr} {rest : List Expr} {f g : TF} (h : EvT X cl W a f) (h2 : EvW X cl W (.BoolOp .And (b :: rest) pos) g) : EvW X cl W (.BoolOp .And (a :: b :: rest) pos) (tAndF f g) := by
  obtain ⟨t, p, s⟩ := h
  obtain ⟨u, q, s2⟩ := h2
  refine ⟨_, pw_and p q, fun ρ σ G H Fs env Q hq => ?_⟩
  refine s.use env PB.mono hq fun x G1 H1 _ p1 env1 hq1 => ?_
  cases x with
  | true => exact iteT (s2 ρ σ G1 H1 Fs env1 Q hq1)
  | false => exact iteF (hq1 _ _ (Px.refl env1.gh))
theorem ew_or {a b : Expr} {rest : List Expr} {f g : TF} (h : EvT X cl W a f) (h2 : EvW X cl W (.BoolOp .Or (b :: rest) pos) g) : EvW X cl W (.BoolOp .Or (a :: b :: rest) pos) (tOrF f g) := by
  obtain ⟨t, p, s⟩ := h
  obtain ⟨u, q, s2⟩ := h2
  refine ⟨_, pw_or p q, fun ρ σ G H Fs env Q hq => ?_⟩
  refine s.use env PB.mono hq fun x G1 H1 _ p1 env1 hq1 => ?_
  cases x with
  | true => exact iteT (hq1 _ _ (Px.refl env1.gh))
  | false => exact iteF (s2 ρ σ G1 H1 Fs env1 Q hq1)
theorem et_not {a : Expr} {f : TF} (h : EvT X cl W a f) : EvT X cl W (.UnaryOp .Not a pos) (tNotF f) := by
  obtain ⟨t, p, s⟩ := h
  refine ⟨_, pt_not p, fun ρ σ G H Fs env Q hq => ?_⟩
  refine s.use env PB.mono hq fun x G1 H1 _ p1 env1 hq1 => ?_
  exact hq1 _ _ (Px.refl env1.gh)
/-- and, or, not of bools as values -/
def eB (b : Bool) : R Vl := .ok (sh (.bl b))
def eAnd (a b : EF) : EF := fun ρ => (a ρ).bind fun x => (asB x.d).bind fun c => if c then b ρ else .ok (sh (.bl false))
def eOr (a b : EF) : EF := fun ρ => (a ρ).bind fun x => (asB x.d).bind fun c => if c then .ok (sh (.bl true)) else b ρ
def eNot (a : EF) : EF := fun ρ => (a ρ).bind fun x => (asB x.d).bind fun c => .ok (sh (.bl (!c)))
@[simp] theorem eAnd_eq (a b : EF) (ρ : Env) : eAnd a b ρ = (a ρ).bind fun x => (asB x.d).bind fun c => if c then b ρ else .ok (sh (.bl false)) := rfl
@[simp] theorem eOr_eq (a b : EF) (ρ : Env) : eOr a b ρ = (a ρ).bind fun x => (asB x.d).bind fun c => if c then .ok (sh (.bl true)) else b ρ := rfl
@[simp] theorem eNot_eq (a : EF) (ρ : Env) : eNot a ρ = (a ρ).bind fun x => (asB x.d).bind fun c => .ok (sh (.bl (!c))) := rfl
theorem ev_one {op : BoolOp} {a : Expr} {f : EF} (h : EvE X cl W a f) : EvE X cl W (.BoolOp op [a] pos) f := by
  obtain ⟨t, p, s⟩ := h
  exact ⟨t, pe_one p, s⟩
theorem ev_and {a b : Expr} {rest : List Expr} {f g : EF} (h : EvE X cl W a f) (h2 : EvE X cl W (.BoolOp .And (b :: rest) pos) g) : EvE X cl W (.BoolOp .And (a :: b :: rest) pos) (eAnd f g) := by
  obtain ⟨t, p, s⟩ := h
  obtain ⟨u, q, s2⟩ := h2
  refine ⟨_, pe_and p q, fun ρ σ G H Fs env Q hq => ?_⟩
  refine s.use env PV.mono hq fun x v G1 H1 F1 _ p1 env1 o1 f1 hq1 => ?_
  obtain ⟨b, k, d⟩ := x
  cases d with
  | bl c =>
    refine ⟨c, o1.bl, ?_⟩
    cases c with
    | true => exact iteT (s2 ρ σ G1 H1 Fs env1 Q hq1)
    | false => exact iteF (hq1 _ G1 H1 (fun _ => False) (Px.refl env1.gh) (Rep.bl false) fun _ z => z.elim)
  | _ => exact hq1.elim
theorem ev_not {a : Expr} {f : EF} (h : EvE X cl W a f) : EvE X cl W (.UnaryOp .Not a pos) (eNot f) := by
  obtain ⟨t, p, s⟩ := h
  refine ⟨_, pe_not p, fun ρ σ G H Fs env Q hq => ?_⟩
  refine s.use env PV.mono hq fun x v G1 H1 F1 _ p1 env1 o1 f1 hq1 => ?_
  obtain ⟨b, k, d⟩ := x
  cases d with
  | bl c => exact ⟨c, o1.bl, hq1 _ G1 H1 (fun _ => False) (Px.refl env1.gh) (Rep.bl (!c)) fun _ z => z.elim⟩
  | _ => exact hq1.elim
/-- a if t else b -/
def eIf (t : TF) (a b : EF) : EF := fun ρ => (t ρ).bind fun c => if c then a ρ else b ρ
@[simp] theorem eIf_eq (t : TF) (a b : EF) (ρ : Env) : eIf t a b ρ = (t ρ).bind fun c => if c then a ρ else b ρ := rfl
/-- -a -/
def negD : D → Option D
  | .int i => some (.int (-i))
  | _ => none
@[simp] theorem negD_int (i : Int) : negD (.int i) = some (.int (-i)) := rfl
def eUn (f : D → Option D) (a : EF) : EF := fun ρ => (a ρ).bind fun x => ofO (f x.d)
@[simp] theorem eUn_eq (f : D → Option D) (a : EF) (ρ : Env) : eUn f a ρ = (a ρ).bind fun x => ofO (f x.d) := rfl
theorem ev_neg {a : Expr} {f : EF} (h : EvE X cl W a f) : EvE X cl W (.UnaryOp .USub a pos) (eUn negD f) := by
  obtain ⟨t, p, s⟩ := h
  refine ⟨_, pe_un un_neg p, fun ρ σ G H Fs env Q hq => ?_⟩
  refine s.use env PV.mono hq fun x v G1 H1 F1 _ p1 env1 o1 f1 hq1 => ?_
  obtain ⟨b, k, d⟩ := x
  cases d with
  | int i => exact ⟨i, o1.int, hq1 _ G1 H1 (fun _ => False) (Px.refl env1.gh) (Rep.int _) fun _ z => z.elim⟩
  | _ => exact hq1.elim
end
end B
namespace B
open PySem L2

/-! ### freezing -/
abbrev scal : D → Bool := flat
def frz : Vl → R Vl
  | ⟨false, _, d⟩ => .ok (sh d)
  | ⟨true, 0, d⟩ => .ok (sh d)
  | ⟨true, _ + 1, d⟩ => if scal d then .ok (sh d) else .bad
@[simp] theorem frz_f (k : Nat) (d : D) : frz ⟨false, k, d⟩ = .ok (sh d) := by cases k <;> rfl
@[simp] theorem frz_0 (d : D) : frz ⟨true, 0, d⟩ = .ok (sh d) := rfl
@[simp] theorem frz_1 (k : Nat) (d : D) : frz ⟨true, k + 1, d⟩ = if scal d then .ok (sh d) else .bad := rfl
def eS (f : EF) : EF := fun ρ => (f ρ).bind frz
@[simp] theorem eS_eq (f : EF) (ρ : Env) : eS f ρ = (f ρ).bind frz := rfl
section
variable {K : PySem.W.Frag} {cl : Clx} {W : WX} {ρ : Env} {σ : L2.St} {G H G' H' : Hp} {Fs : Foot}
theorem Own.scal' {cl : Str → Addr} {k : Nat} {v : V} {d : D} {F : Addr → Prop} (h : Own K cl H G k v d F) (hd : B.scal d = true) : Rep K cl G v d := Own.scal h hd
theorem noFoo {b : Bool} : Foo H G' H' b (fun _ => False) := fun _ z => z.elim
theorem semS {t : TE} {f : EF} (h : SemE K cl W t f) : SemE K cl W t (eS f) := by
  intro ρ σ G H Fs env Q hq
  refine h ρ σ G H Fs env Q ?_
  rw [eS_eq] at hq
  cases e : f ρ with
  | bad => rw [e] at hq; exact hq
  | ex c => rw [e] at hq; exact hq
  | ok x =>
    rw [e, R.bind_ok] at hq
    intro v G' H' F p o fo
    obtain ⟨b, k, d⟩ := x
    cases b with
    | false =>
      rw [frz_f] at hq
      obtain ⟨G2, p2, _, _, r⟩ := freeze p.gh p o fo
      exact hq v G2 H' (fun _ => False) p2 r noFoo
    | true =>
      cases k with
      | zero => exact hq v G' H' (fun _ => False) p o noFoo
      | succ k =>
        rw [frz_1] at hq
        cases hs : B.scal d with
        | false => rw [hs] at hq; exact hq.elim
        | true =>
          rw [hs] at hq
          exact hq v G' H' (fun _ => False) p (o.scal' hs) noFoo
end
section
variable {X : Cx} {cl : Clx} {W : WX} {pos : Pos}
/-! ### argument lists: each one frozen -/
def aNil : AF := fun _ => .ok []
def aCons (f : EF) (g : AF) : AF := fun ρ => (f ρ).bind fun x => (frz x).bind fun y => (g ρ).bind fun ds => .ok (y.d :: ds)
@[simp] theorem aNil_eq (ρ : Env) : aNil ρ = .ok [] := rfl
@[simp] theorem aCons_eq (f : EF) (g : AF) (ρ : Env) : aCons f g ρ = (f ρ).bind fun x => (frz x).bind fun y => (g ρ).bind fun ds => .ok (y.d :: ds) := rfl
theorem R.bind_assoc {α β γ : Type} (r : R α) (f : α → R β) (g : β → R γ) : (r.bind f).bind g = r.bind fun a => (f a).bind g := by cases r <;> rfl
theorem frz_k {x y : Vl} (h : frz x = .ok y) : y = sh x.d := by
  obtain ⟨b, k, d⟩ := x
  cases b with
  | false => rw [frz_f] at h; cases h; rfl
  | true =>
    cases k with
    | zero => cases h; rfl
    | succ k =>
      rw [frz_1] at h
      cases hs : scal d with
      | false => rw [hs] at h; cases h
      | true => rw [hs] at h; cases h; rfl
theorem RepL.nil {cl : Str → Addr} {K : PySem.W.Frag} {G : Hp} : RepL K cl G [] [] := ⟨rfl, fun i v d h => by simp at h⟩
theorem RepL.cons {cl : Str → Addr} {K : PySem.W.Frag} {G : Hp} {v : V} {d : D} {vs : List V} {ds : List D} (h : Rep K cl G v d) (t : RepL K cl G vs ds) : RepL K cl G (v :: vs) (d :: ds) := by
  refine ⟨by simp [t.1], fun i v' d' h1 h2 => ?_⟩
  cases i with
  | zero => cases h1; cases h2; exact h
  | succ i => exact t.2 i v' d' h1 h2
theorem RepL.mono {cl : Str → Addr} {K : PySem.W.Frag} {G G' : Hp} {vs : List V} {ds : List D} (e : Same G G') (h : RepL K cl G vs ds) : RepL K cl G' vs ds := ⟨h.1, fun i v d h1 h2 => (h.2 i v d h1 h2).mono e⟩
theorem ea_nil : EvA X cl W [] aNil := ⟨_, pa_nil, fun ρ σ G H Fs env Q hq => hq [] G H (Px.refl env.gh) .nil, fun ρ ds h => by cases h; rfl⟩
theorem ea_cons {e : Expr} {es : List Expr} {f : EF} {g : AF} (h : EvE X cl W e f) (h2 : EvA X cl W es g) (hs : starEach (e :: es) X.env = (false, eval e X.env) :: starEach es X.env := by rfl) : EvA X cl W (e :: es) (aCons f g) := by
  obtain ⟨t, p, s⟩ := h
  obtain ⟨u, q, s2, hl2⟩ := h2
  refine ⟨_, pa_cons p q hs, fun ρ σ G H Fs env Q hq => ?_, fun ρ ds h => ?_⟩
  rotate_left
  · rw [aCons_eq] at h
    cases e1 : f ρ with
    | bad => rw [e1] at h; cases h
    | ex c => rw [e1] at h; cases h
    | ok x =>
      rw [e1, R.bind_ok] at h
      cases e2 : frz x with
      | bad => rw [e2] at h; cases h
      | ex c => rw [e2] at h; cases h
      | ok y =>
        rw [e2, R.bind_ok] at h
        cases e3 : g ρ with
        | bad => rw [e3] at h; cases h
        | ex c => rw [e3] at h; cases h
        | ok zs =>
          rw [e3, R.bind_ok] at h
          cases h
          simp [hl2 ρ zs e3]
  have hq' : PostG cl W σ G H (PL X.K cl Q) ((eS f ρ).bind fun y => (g ρ).bind fun ds => .ok (y.d :: ds)) := by
    rw [eS_eq, R.bind_assoc]
    exact hq
  refine (semS s).use env PL.mono hq' fun x v G1 H1 F1 e1 p1 env1 o1 f1 hq1 => ?_
  refine s2.use env1 PL.mono hq1 fun ds vs G2 H2 e2 p2 env2 r2 hq2 => ?_
  have hk : x = sh x.d := by
    rw [eS_eq] at e1
    cases q1 : f ρ with
    | ok z =>
      rw [q1] at e1
      have := frz_k e1
      rw [this]
    | ex c => rw [q1] at e1; cases e1
    | bad => rw [q1] at e1; cases e1
  have o2 : Rep X.K cl G1 v x.d := by
    rw [hk] at o1
    exact o1
  exact hq2 _ G2 H2 (Px.refl env2.gh) (.cons (o2.mono p2.gg) r2)

/-! ### tuples, lists, subscripts -/
def eTup (g : AF) : EF := fun ρ => (g ρ).bind fun ds => if ds.length ≤ 1000 then .ok (sh (.tup ds)) else .bad
def eLst (g : AF) : EF := fun ρ => (g ρ).bind fun ds => if ds.length ≤ 1000 then .ok ⟨false, 1, .lst ds⟩ else .bad
@[simp] theorem eTup_eq (g : AF) (ρ : Env) : eTup g ρ = (g ρ).bind fun ds => if ds.length ≤ 1000 then .ok (sh (.tup ds)) else .bad := rfl
@[simp] theorem eLst_eq (g : AF) (ρ : Env) : eLst g ρ = (g ρ).bind fun ds => if ds.length ≤ 1000 then .ok ⟨false, 1, .lst ds⟩ else .bad := rfl
theorem le_line {n : Nat} (h : n ≤ 1000) : n ≤ sizeLine := Nat.le_of_lt (small1000 h)
theorem same_new {H : Hp} {p : Addr} {o : HO} (h : H p = none) : Same H (upd H p o) := fun b u e => by
  rw [upd_ne (ne_of_none e h)]
  exact e
theorem px_frozen {G H : Hp} {p : Addr} {o : HO} (gh : Same G H) (h : H p = none) : Px G H (upd G p o) (upd H p o) := by
  have hg : G p = none := gh.free h
  refine ⟨same_new h, same_new hg, fun a u e => ?_, fun a u e => ?_⟩
  · by_cases hp : a = p
    · subst hp; rw [upd_same] at e ⊢; exact e
    · rw [upd_ne hp] at e ⊢; exact gh a u e
  · by_cases hp : a = p
    · subst hp; exact .inr h
    · rw [upd_ne hp] at e; exact .inl e
theorem px_new {G H : Hp} {p : Addr} {o : HO} (gh : Same G H) (h : H p = none) : Px G H G (upd H p o) :=
  ⟨same_new h, Same.refl _, gh.trans (same_new h), fun a u e => .inl e⟩
theorem semTup {K : PySem.W.Frag} {t : TA} {g : AF} (h : SemA K cl W t g) : SemE K cl W (tTup t) (eTup g) := by
  intro ρ σ G H Fs env Q hq
  refine h.use env PV.mono hq fun ds vs G1 H1 _ p1 env1 r1 hq1 => ?_
  by_cases hl : ds.length ≤ 1000
  · rw [if_pos hl] at hq1
    refine ⟨le_line (by rw [r1.1]; exact hl), fun p hp => ?_⟩
    have px : Px G1 H1 (upd G1 p (.tup vs)) (upd H1 p (.tup vs)) := px_frozen env1.gh hp
    exact hq1 _ _ _ (fun _ => False) px (Rep.tup (.inl upd_same) r1.1 (RepL.mono px.gg r1).2) noFoo
  · rw [if_neg hl] at hq1
    exact hq1.elim
theorem own1 {cl : Str → Addr} {K : PySem.W.Frag} {G H : Hp} {p : Addr} {vs : List V} {ds : List D} (hp : H p = some (.lst vs)) (r : RepL K cl G vs ds) : Own K cl H G 1 (.ref p) (.lst ds) (fun a => a = p) :=
  ⟨p, vs, fun _ _ => False, rfl, hp, rfl, r.1, fun i v d h1 h2 => r.2 i v d h1 h2, fun _ _ z => z.elim, fun _ _ _ z => z.elim⟩
theorem foo1 {G H : Hp} {p : Addr} {o : HO} (gh : Same G H) (hp : H p = none) : Foo H G (upd H p o) false (fun a => a = p) := fun a e => by
  subst e
  exact ⟨⟨_, upd_same⟩, gh.free hp, fun _ => hp⟩
theorem semLst {K : PySem.W.Frag} {t : TA} {g : AF} (h : SemA K cl W t g) : SemE K cl W (tLst t) (eLst g) := by
  intro ρ σ G H Fs env Q hq
  refine h.use env PV.mono hq fun ds vs G1 H1 _ p1 env1 r1 hq1 => ?_
  by_cases hl : ds.length ≤ 1000
  · rw [if_pos hl] at hq1
    refine ⟨le_line (by rw [r1.1]; exact hl), fun p hp => ?_⟩
    exact hq1 _ G1 _ _ (px_new env1.gh hp) (own1 upd_same r1) (foo1 env1.gh hp)
  · rw [if_neg hl] at hq1
    exact hq1.elim
theorem ev_tup {es : List Expr} {x1} {g : AF} (h : EvA X cl W es g) : EvE X cl W (.Tuple es x1 pos) (eTup g) := by
  obtain ⟨t, p, s, _⟩ := h
  exact ⟨_, pe_tup p, semTup s⟩
theorem ev_lst {es : List Expr} {g : AF} (h : EvA X cl W es g) : EvE X cl W (.List es pos) (eLst g) := by
  obtain ⟨t, p, s, _⟩ := h
  exact ⟨_, pe_lst p, semLst s⟩
/-- xs[i] -/
def elV (b : Bool) : Nat → D → Vl
  | 0, d => sh d
  | 1, d => sh d
  | k + 2, d => ⟨b, k + 1, d⟩
@[simp] theorem elV_0 (b : Bool) (d : D) : elV b 0 d = sh d := rfl
@[simp] theorem elV_1 (b : Bool) (d : D) : elV b 1 d = sh d := rfl
@[simp] theorem elV_2 (b : Bool) (k : Nat) (d : D) : elV b (k + 2) d = ⟨b, k + 1, d⟩ := rfl
def ixL (b : Bool) (k : Nat) : Option D → R Vl
  | some d => .ok (elV b k d)
  | none => .bad
@[simp] theorem ixL_some (b : Bool) (k : Nat) (d : D) : ixL b k (some d) = .ok (elV b k d) := rfl
@[simp] theorem ixL_none (b : Bool) (k : Nat) : ixL b k none = .bad := rfl
/-- the floors under those of a list or of an instance, by a part's own -/
theorem elV_own {K : PySem.W.Frag} {cl : Str → Addr} {G H G0 : Hp} {b : Bool} {k : Nat} {w : V} {d : D} {F F' : Addr → Prop} (o : Own K cl H G (k - 1) w d F') (s : ∀ a, F' a → F a) (f : Foo G0 G H b F) : ∃ F2, Own K cl H G (elV b k d).k w (elV b k d).d F2 ∧ Foo G0 G H (elV b k d).b F2 := by
  match k, o with
  | 0, o => exact ⟨fun _ => False, o, fun _ z => z.elim⟩
  | 1, o => exact ⟨fun _ => False, o, fun _ z => z.elim⟩
  | k + 2, o => exact ⟨F', o, fun a fa => f a (s a fa)⟩
theorem Foo.px {b : Bool} {F : Addr → Prop} {H0 G H G' H' : Hp} (f : Foo H0 G H b F) (p : Px G H G' H') : Foo H0 G' H' b F := fun a fa => by
  obtain ⟨⟨o, ho⟩, hg, hb⟩ := f a fa
  refine ⟨⟨o, p.hh _ _ ho⟩, ?_, hb⟩
  cases q : G' a with
  | none => rfl
  | some u =>
    rcases p.gn a u q with h | h
    · rw [hg] at h; cases h
    · rw [ho] at h; cases h
def ixD (x : Vl) : D → R Vl
  | .int i => match x.d with
    | .lst ds => ixL x.b x.k (atI ds i)
    | .tup ds => ixL x.b (tkF x.k ds + 1) (atI ds i)
    | _ => .bad
  | _ => .bad
@[simp] theorem ixD_l (b : Bool) (k : Nat) (ds : List D) (i : Int) : ixD ⟨b, k, .lst ds⟩ (.int i) = ixL b k (atI ds i) := rfl
theorem tkF_0 (ds : List D) : tkF 0 ds = 0 := by unfold tkF; split <;> rfl
theorem ixL_01 (b : Bool) (o : Option D) : ixL b 1 o = ixL b 0 o := by cases o <;> rfl
@[simp] theorem ixD_t (b : Bool) (ds : List D) (i : Int) : ixD ⟨b, 0, .tup ds⟩ (.int i) = ixL b 0 (atI ds i) := by
  show ixL b (tkF 0 ds + 1) (atI ds i) = _
  rw [tkF_0, ixL_01]
def eIx (a b : EF) : EF := fun ρ => (a ρ).bind fun x => (b ρ).bind fun y => ixD x y.d
@[simp] theorem eIx_eq (a b : EF) (ρ : Env) : eIx a b ρ = (a ρ).bind fun x => (b ρ).bind fun y => ixD x y.d := rfl
theorem atI_rel {α β : Type} {vs : List α} {ds : List β} {i : Int} {d : β} (hl : vs.length = ds.length) (h : atI ds i = some d) : ∃ (j : Nat) (v : α), ds[j]? = some d ∧ vs[j]? = some v ∧ atI vs i = some v := by
  unfold atI at h ⊢
  rw [hl]
  cases e : ixN ds.length i with
  | none => rw [e] at h; cases h
  | some j =>
    rw [e] at h
    have hj : ds[j]? = some d := h
    have hlt : j < vs.length := by rw [hl]; exact (List.getElem?_eq_some_iff.mp hj).1
    exact ⟨j, vs[j], hj, List.getElem?_eq_getElem hlt, List.getElem?_eq_getElem hlt⟩
theorem semIx {K : PySem.W.Frag} {ta tb : TE} {a b : EF} (ha : SemE K cl W ta a) (hb : SemE K cl W tb b) : SemE K cl W (tOp (fun x y H Q => rIxL K x y H Q ∨ rIxT K x y H Q) ta tb) (eIx a b) := by
  intro ρ σ G H Fs env Q hq
  refine ha.use env PV.mono hq fun x v G1 H1 F1 e1 p1 env1 o1 f1 hq1 => ?_
  refine hb.use env1 PV.mono hq1 fun y u G2 H2 F2 e2 p2 env2 o2 f2 hq2 => ?_
  have o1' := o1.px p2
  have px := p1.trans p2
  have f1' := f1.px p2
  have hq0 : PostG cl W σ G H (PV K cl Q) (ixD x y.d) := by
    rw [eIx_eq, e1, R.bind_ok, e2, R.bind_ok] at hq
    exact hq
  obtain ⟨b1, k, d⟩ := x
  obtain ⟨b2, l, e⟩ := y
  cases e with
  | int i =>
    have hu := o2.int
    cases d with
    | lst ds =>
      obtain ⟨p, vs, rfl, hS, hl, hr⟩ := o1'.lstR env2.gh
      replace hq0 : PostG cl W σ G H (PV K cl Q) (ixL b1 k (atI ds i)) := hq0
      cases z : atI ds i with
      | none =>
        rw [z] at hq0
        exact hq0.elim
      | some d =>
      obtain ⟨j, w, h1, h2, h3⟩ := atI_rel hl z
      refine .inl ⟨p, vs, i, w, rfl, hu, .inl hS, h3, ?_⟩
      obtain ⟨F', o', hF'⟩ := hr j w d h2 h1
      rw [z] at hq0
      obtain ⟨F2', o2', f2'⟩ := elV_own o' hF' f1'
      exact hq0 w G2 H2 F2' px o2' f2'
    | tup ds =>
      obtain ⟨p, vs, rfl, hS, hl, hr⟩ := o1'.tupR env2.gh
      replace hq0 : PostG cl W σ G H (PV K cl Q) (ixL b1 (tkF k ds + 1) (atI ds i)) := hq0
      cases z : atI ds i with
      | none =>
        rw [z] at hq0
        exact hq0.elim
      | some d =>
      obtain ⟨j, w, h1, h2, h3⟩ := atI_rel hl z
      refine .inr ⟨p, vs, i, w, rfl, hu, .inl hS, h3, ?_⟩
      obtain ⟨F', o', hF'⟩ := hr j w d h2 h1
      rw [z] at hq0
      obtain ⟨F2', o2', f2'⟩ := elV_own (k := tkF k ds + 1) o' hF' f1'
      exact hq0 w G2 H2 F2' px o2' f2'
    | _ => exact hq0.elim
  | _ =>
    cases d with
    | _ => exact hq0.elim
theorem ev_ix {a b : Expr} {f g : EF} (ha : EvE X cl W a f) (hb : EvE X cl W b g) (hs : PlainIx b := by exact fun _ _ => rfl) : EvE X cl W (.Subscript a b pos) (eIx f g) := by
  obtain ⟨ta, pa, sa⟩ := ha
  obtain ⟨tb, pb, sb⟩ := hb
  exact ⟨_, pe_ix (ix_list.or ix_tup) pa pb hs, semIx sa sb⟩
end
end B
namespace B
open PySem L2

/-! ### statements -/
inductive Fl where
  | nx | bk | ct
  | rt (k : Nat) (d : D)
inductive RS where
  | ok (f : Fl) (ρ : Env)
  | ex (c : Str) (ρ : Env)
  | bad
abbrev SF := Env → RS
section
variable (K : PySem.W.Frag) (cl : Clx) (W : WX)
def PE1 (U : Addr → Prop) (G H : Hp) (ρ : Env) (C : L2.St → Hp → Prop) : Prop := ∀ σ' G' H' Fs', EnvR K cl ρ σ' G' H' Fs' → Sx U G H (Un Fs') G' H' → C σ' H'
def PostS (U : Addr → Prop) (G H : Hp) (D : Ends) : RS → Prop
  | .ok .nx ρ => PE1 K cl U G H ρ D.nx
  | .ok .bk ρ => PE1 K cl U G H ρ D.bk
  | .ok .ct ρ => PE1 K cl U G H ρ D.ct
  | .ok (.rt k d) ρ => ∀ σ' v G' H' Fs' F, EnvR K cl ρ σ' G' H' Fs' → Own K cl H' G' k v d F → (∀ a, F a → (∃ o, H' a = some o) ∧ G' a = none ∧ ¬ Un Fs' a) → Sx U G H (fun a => Un Fs' a ∨ F a) G' H' → D.rt v H'
  | .ex c ρ => ∀ σ' G' H' Fs', EnvR K cl ρ σ' G' H' Fs' → Sx U G H (Un Fs') G' H' → WEx cl W c σ' G' H'
  | .bad => False
def SemS (t : TS) (F : SF) : Prop := ∀ ρ σ G H Fs, EnvR K cl ρ σ G H Fs → ∀ D, PostS K cl W (Un Fs) G H D (F ρ) → t D σ H
end
def EvS (X : Cx) (cl : Clx) (W : WX) (s : Stmt) (F : SF) : Prop := ∃ t, PS X s t ∧ SemS X.K cl W t F
def EvB (X : Cx) (cl : Clx) (W : WX) (s : List Stmt) (F : SF) : Prop := ∃ t, PSs X s t ∧ SemS X.K cl W t F
section
variable {K : PySem.W.Frag} {cl : Clx} {W : WX} {ρ : Env} {σ : L2.St} {G H G' H' : Hp} {Fs Fs' : Foot}
theorem PE1.mono {U U' : Addr → Prop} {C : L2.St → Hp → Prop} (s : Sx U G H U' G' H') (h : PE1 K cl U G H ρ C) : PE1 K cl U' G' H' ρ C := fun σ2 G2 H2 F2 e2 s2 => h σ2 G2 H2 F2 e2 (s.trans s2)
theorem PostS.mono {U U' : Addr → Prop} {D : Ends} {r : RS} (s : Sx U G H U' G' H') (h : PostS K cl W U G H D r) : PostS K cl W U' G' H' D r := by
  cases r with
  | ok f ρ =>
    cases f with
    | nx => exact PE1.mono s h
    | bk => exact PE1.mono s h
    | ct => exact PE1.mono s h
    | rt k d => exact fun σ2 v G2 H2 F2 F e2 o f s2 => h σ2 v G2 H2 F2 F e2 o f (s.trans s2)
  | ex c ρ => exact fun σ2 G2 H2 F2 e2 s2 => h σ2 G2 H2 F2 e2 (s.trans s2)
  | bad => exact h
/-- the other ends: f says what becomes of nx -/
def RS.then (r : RS) (g : SF) : RS := match r with
  | .ok .nx ρ => g ρ
  | r => r
@[simp] theorem RS.then_nx (ρ : Env) (g : SF) : (RS.ok .nx ρ).then g = g ρ := rfl
@[simp] theorem RS.then_rt (ρ : Env) (g : SF) (k : Nat) (d : D) : (RS.ok (.rt k d) ρ).then g = .ok (.rt k d) ρ := rfl
@[simp] theorem RS.then_bk (ρ : Env) (g : SF) : (RS.ok .bk ρ).then g = .ok .bk ρ := rfl
@[simp] theorem RS.then_ct (ρ : Env) (g : SF) : (RS.ok .ct ρ).then g = .ok .ct ρ := rfl
@[simp] theorem RS.then_ex (ρ : Env) (g : SF) (c : Str) : (RS.ex c ρ).then g = .ex c ρ := rfl
@[simp] theorem RS.then_bad (g : SF) : RS.bad.then g = .bad := rfl
def sSeq (f g : SF) : SF := fun ρ => (f ρ).then g
def sNil : SF := fun ρ => .ok .nx ρ
@[simp] theorem sSeq_eq (f g : SF) (ρ : Env) : sSeq f g ρ = (f ρ).then g := rfl
@[simp] theorem sNil_eq (ρ : Env) : sNil ρ = .ok .nx ρ := rfl
theorem semSeq {t u : TS} {f g : SF} (h1 : SemS K cl W t f) (h2 : SemS K cl W u g) : SemS K cl W (tSeq t u) (sSeq f g) := by
  intro ρ σ G H Fs env D hq
  refine h1 ρ σ G H Fs env _ ?_
  rw [sSeq_eq] at hq
  cases e : f ρ with
  | ok fl ρ1 =>
    rw [e] at hq
    cases fl with
    | nx => exact fun σ' G' H' Fs' e' s => h2 ρ1 σ' G' H' Fs' e' D (PostS.mono s hq)
    | bk => exact hq
    | ct => exact hq
    | rt k d => exact hq
  | ex c ρ1 => rw [e] at hq; exact hq
  | bad => rw [e] at hq; exact hq
theorem Sx.same {U : Addr → Prop} (gh : Same G H) : Sx U G H U G H := Sx.refl gh
theorem semNil : SemS K cl W tNext sNil := fun ρ σ G H Fs env D hq => hq σ G H Fs env (Sx.refl env.gh)
/-- an expression's value goes on into a statement -/
def toS {α : Type} (r : R α) (ρ : Env) (g : α → RS) : RS := match r with
  | .ok a => g a
  | .ex c => .ex c ρ
  | .bad => .bad
@[simp] theorem toS_ok {α : Type} (a : α) (ρ : Env) (g : α → RS) : toS (.ok a) ρ g = g a := rfl
@[simp] theorem toS_ex {α : Type} (c : Str) (ρ : Env) (g : α → RS) : toS (.ex c : R α) ρ g = .ex c ρ := rfl
@[simp] theorem toS_bad {α : Type} (ρ : Env) (g : α → RS) : toS (.bad : R α) ρ g = .bad := rfl
theorem SemE.useS {t : TE} {F : EF} (h : SemE K cl W t F) (env : EnvR K cl ρ σ G H Fs) {g : Vl → RS} {D : Ends} (hq : PostS K cl W (Un Fs) G H D (toS (F ρ) ρ g)) {C : VK}
    (step : ∀ x v G' H' F', F ρ = .ok x → Px G H G' H' → EnvR K cl ρ σ G' H' Fs → Own K cl H' G' x.k v x.d F' → Foo H G' H' x.b F' → PostS K cl W (Un Fs) G H D (g x) → C v H') : t σ H C := by
  refine h ρ σ G H Fs env C ?_
  cases e : F ρ with
  | ok x =>
    rw [e] at hq
    exact fun v G' H' F' p o f => step x v G' H' F' e p (env.px p) o f hq
  | ex c =>
    rw [e] at hq
    exact fun G' H' p => hq σ G' H' Fs (env.px p) p.sx
  | bad =>
    rw [e] at hq
    exact hq
theorem SemT.useS {t : TT} {F : TF} (h : SemT K cl W t F) (env : EnvR K cl ρ σ G H Fs) {g : Bool → RS} {D : Ends} (hq : PostS K cl W (Un Fs) G H D (toS (F ρ) ρ g)) {C : Bool → Hp → Prop}
    (step : ∀ x G' H', F ρ = .ok x → Px G H G' H' → EnvR K cl ρ σ G' H' Fs → PostS K cl W (Un Fs) G' H' D (g x) → C x H') : t σ H C := by
  refine h ρ σ G H Fs env C ?_
  cases e : F ρ with
  | ok x =>
    rw [e] at hq
    exact fun G' H' p => step x G' H' e p (env.px p) (PostS.mono p.sx hq)
  | ex c =>
    rw [e] at hq
    exact fun G' H' p => hq σ G' H' Fs (env.px p) p.sx
  | bad =>
    rw [e] at hq
    exact hq
/-! x = e -/
def stV (i : Nat) (ρ : Env) : Vl → RS
  | ⟨false, k, d⟩ => .ok .nx (ρ.set i (some (k, d)))
  | ⟨true, _, d⟩ => if scal d then .ok .nx (ρ.set i (some (0, d))) else .bad
@[simp] theorem stV_f (i : Nat) (ρ : Env) (k : Nat) (d : D) : stV i ρ ⟨false, k, d⟩ = .ok .nx (ρ.set i (some (k, d))) := rfl
@[simp] theorem stV_t (i : Nat) (ρ : Env) (k : Nat) (d : D) : stV i ρ ⟨true, k, d⟩ = if scal d then .ok .nx (ρ.set i (some (0, d))) else .bad := rfl
def sSet (i : Nat) (f : EF) : SF := fun ρ => toS (f ρ) ρ (stV i ρ)
@[simp] theorem sSet_eq (i : Nat) (f : EF) (ρ : Env) : sSet i f ρ = toS (f ρ) ρ (stV i ρ) := rfl
theorem foo_un (env : EnvR K cl ρ σ G H Fs) {F : Addr → Prop} (f : Foo H G' H' false F) (a : Addr) (fa : F a) : ¬ Un Fs a := fun ⟨i, z⟩ => by
  obtain ⟨⟨o, ho⟩, _⟩ := env.dom i a z
  rw [(f a fa).2.2 rfl] at ho
  cases ho
theorem sx_set (env : EnvR K cl ρ σ G H Fs) (p : Px G H G' H') {F : Addr → Prop} (f : Foo H G' H' false F) (i : Nat) : Sx (Un Fs) G H (Un fun j => if j = i then F else Fs j) G' H' := by
  have s := p.sx (U := Un Fs)
  refine ⟨s.gg, s.gh, s.fr, s.th, fun a ⟨j, h⟩ => ?_, s.gn⟩
  dsimp only at h
  by_cases hj : j = i
  · rw [if_pos hj] at h
    exact .inr ((f a h).2.2 rfl)
  · rw [if_neg hj] at h
    exact .inl ⟨j, h⟩
theorem setEnv (env : EnvR K cl ρ σ G H Fs) (p : Px G H G' H') {F : Addr → Prop} (f : Foo H G' H' false F) {i k : Nat} {v : V} {d : D} (o : Own K cl H' G' k v d F) (hx : cl.fix i = none) :
    EnvR K cl (ρ.set i (some (k, d))) (σ.set i (some v)) G' H' (fun j => if j = i then F else Fs j) :=
  (env.px p).set o (fun a fa => ⟨(f a fa).1, (f a fa).2.1, fun j _ z => foo_un env f a fa ⟨j, z⟩⟩) (fun u h => by rw [hx] at h; cases h)
theorem semSet {i : Nat} {t : TE} {f : EF} (h : SemE K cl W t f) (hx : cl.fix i = none) : SemS K cl W (tAsg t (gName i)) (sSet i f) := by
  intro ρ σ G H Fs env D hq
  refine h.useS env hq fun x v G' H' F' _ p env' o fo hq1 => ?_
  obtain ⟨b, k, d⟩ := x
  cases b with
  | false => exact hq1 _ G' H' _ (setEnv env p fo o hx) (sx_set env p fo i)
  | true =>
    rw [stV_t] at hq1
    cases hs : B.scal d with
    | false => rw [hs] at hq1; exact hq1.elim
    | true =>
      rw [hs] at hq1
      exact hq1 _ G' H' _ (setEnv (F := fun _ => False) env p noFoo (k := 0) (o.scal' hs) hx) (sx_set env p noFoo i)
/-! return -/
def rtV (ρ : Env) : Vl → RS
  | ⟨false, k, d⟩ => .ok (.rt k d) ρ
  | ⟨true, _, d⟩ => if scal d then .ok (.rt 0 d) ρ else .bad
@[simp] theorem rtV_f (ρ : Env) (k : Nat) (d : D) : rtV ρ ⟨false, k, d⟩ = .ok (.rt k d) ρ := rfl
@[simp] theorem rtV_t (ρ : Env) (k : Nat) (d : D) : rtV ρ ⟨true, k, d⟩ = if scal d then .ok (.rt 0 d) ρ else .bad := rfl
def sRet (f : EF) : SF := fun ρ => toS (f ρ) ρ (rtV ρ)
@[simp] theorem sRet_eq (f : EF) (ρ : Env) : sRet f ρ = toS (f ρ) ρ (rtV ρ) := rfl
theorem sx_ret (p : Px G H G' H') {F : Addr → Prop} (f : Foo H G' H' false F) : Sx (Un Fs) G H (fun a => Un Fs a ∨ F a) G' H' := by
  have s := p.sx (U := Un Fs)
  exact ⟨s.gg, s.gh, s.fr, s.th, fun a h => h.elim .inl fun fa => .inr ((f a fa).2.2 rfl), s.gn⟩
theorem semRet {t : TE} {f : EF} (h : SemE K cl W t f) : SemS K cl W (tRet t) (sRet f) := by
  intro ρ σ G H Fs env D hq
  refine h.useS env hq fun x v G' H' F' _ p env' o fo hq1 => ?_
  obtain ⟨b, k, d⟩ := x
  cases b with
  | false => exact hq1 _ v G' H' Fs F' env' o (fun a fa => ⟨(fo a fa).1, (fo a fa).2.1, foo_un env fo a fa⟩) (sx_ret p fo)
  | true =>
    rw [rtV_t] at hq1
    cases hs : B.scal d with
    | false => rw [hs] at hq1; exact hq1.elim
    | true =>
      rw [hs] at hq1
      exact hq1 _ v G' H' Fs (fun _ => False) env' (o.scal' hs) (fun a fa => fa.elim) (sx_ret p noFoo)
/-- return x: what x owns is handed on -/
def sRetV (i : Nat) : SF := fun ρ => match ρ[i]? with
  | some (some (k, d)) => .ok (.rt k d) (ρ.set i none)
  | _ => .bad
/-! if -/
def sIf (c : TF) (f g : SF) : SF := fun ρ => toS (c ρ) ρ fun b => if b then f ρ else g ρ
@[simp] theorem sIf_eq (c : TF) (f g : SF) (ρ : Env) : sIf c f g ρ = toS (c ρ) ρ fun b => if b then f ρ else g ρ := rfl
theorem semIf {t : TT} {c : TF} {u v : TS} {f g : SF} (h : SemT K cl W t c) (h1 : SemS K cl W u f) (h2 : SemS K cl W v g) : SemS K cl W (tIfS t u v) (sIf c f g) := by
  intro ρ σ G H Fs env D hq
  refine h.useS env hq fun b G' H' _ p env' hq1 => ?_
  cases b with
  | true => exact iteT (h1 ρ σ G' H' Fs env' D hq1)
  | false => exact iteF (h2 ρ σ G' H' Fs env' D hq1)
/-! an expression alone -/
def sExp (f : EF) : SF := fun ρ => toS (f ρ) ρ fun _ => .ok .nx ρ
@[simp] theorem sExp_eq (f : EF) (ρ : Env) : sExp f ρ = toS (f ρ) ρ fun _ => .ok .nx ρ := rfl
/-! loops -/
/-- one turn of a while: on, or the end -/
def wTurn (c : TF) (f : SF) (ρ : Env) : Env ⊕ RS := match c ρ with
  | .ok true => (match f ρ with
    | .ok .nx ρ1 => .inl ρ1
    | .ok .ct ρ1 => .inl ρ1
    | .ok .bk ρ1 => .inr (.ok .nx ρ1)
    | r => .inr r)
  | .ok false => .inr (.ok .nx ρ)
  | .ex e => .inr (.ex e ρ)
  | .bad => .inr .bad
def loopN (g : Env → Env ⊕ RS) : Nat → Env → Option RS
  | 0, _ => none
  | n + 1, ρ => match g ρ with
    | .inl ρ1 => loopN g n ρ1
    | .inr r => some r
open Classical in
noncomputable def loopO (g : Env → Env ⊕ RS) (ρ : Env) : RS := if h : ∃ r n, loopN g n ρ = some r then h.choose else .bad
noncomputable def sWhile (c : TF) (f : SF) : SF := loopO (wTurn c f)
end
end B
namespace B
open PySem L2
section
variable {X : Cx} {cl : Clx} {W : WX} {pos : Pos}
/-! ### blocks -/
theorem eb_nil : EvB X cl W [] sNil := ⟨_, pss_nil, semNil⟩
theorem eb_one {s : Stmt} {f : SF} (h : EvS X cl W s f) : EvB X cl W [s] f := by
  obtain ⟨t, p, q⟩ := h
  exact ⟨t, pss_one p, q⟩
theorem eb_cons {s : Stmt} {r : List Stmt} {f g : SF} (h : EvS X cl W s f) (h2 : EvB X cl W r g) : EvB X cl W (s :: r) (sSeq f g) := by
  obtain ⟨t, p, q⟩ := h
  obtain ⟨u, p2, q2⟩ := h2
  exact ⟨_, pss_cons p p2, semSeq q q2⟩
def sNever : SF := fun _ => .bad
@[simp] theorem sNever_eq (ρ : Env) : sNever ρ = .bad := rfl
def sBk : SF := fun ρ => .ok .bk ρ
def sCt : SF := fun ρ => .ok .ct ρ
@[simp] theorem sBk_eq (ρ : Env) : sBk ρ = .ok .bk ρ := rfl
@[simp] theorem sCt_eq (ρ : Env) : sCt ρ = .ok .ct ρ := rfl
theorem es_ret {e : Expr} {f : EF} (h : EvE X cl W e f) : EvS X cl W (.Return (some e) pos) (sRet f) := by
  obtain ⟨t, p, q⟩ := h
  exact ⟨_, ps_ret p, semRet q⟩
theorem es_set (i : Nat) {x : Str} {e : Expr} {f : EF} {pos' : Pos} (h : EvE X cl W e f) (hN : X.N.Nodup) (hi : X.N[i]? = some x := by rfl) (hx : Loc X.env.scope x := by first | exact Or.inl rfl | exact Or.inr rfl) (hs : swapsWith e (some (.Name x pos')) pos.line X.env = pure false := by rfl)
    (hf : X.fn x = true ∨ X.env.scope.names.lookup x = some .local := by first | exact .inl rfl | exact .inr rfl) (hfx : cl.fix i = none := by rfl) : EvS X cl W (.Assign [.Name x pos'] e pos) (sSet i (eS f)) := by
  obtain ⟨t, p, q⟩ := h
  exact ⟨_, ps_set hN hi hx p hs hf, semSet (semS q) hfx⟩
/-- the name owns what is new -/
theorem es_setO (i : Nat) {x : Str} {e : Expr} {f : EF} {pos' : Pos} (h : EvE X cl W e f) (hN : X.N.Nodup) (hi : X.N[i]? = some x := by rfl) (hx : Loc X.env.scope x := by first | exact Or.inl rfl | exact Or.inr rfl) (hs : swapsWith e (some (.Name x pos')) pos.line X.env = pure false := by rfl)
    (hf : X.fn x = true ∨ X.env.scope.names.lookup x = some .local := by first | exact .inl rfl | exact .inr rfl) (hfx : cl.fix i = none := by rfl) : EvS X cl W (.Assign [.Name x pos'] e pos) (sSet i f) := by
  obtain ⟨t, p, q⟩ := h
  exact ⟨_, ps_set hN hi hx p hs hf, semSet q hfx⟩
theorem es_if {c : Expr} {a b : List Stmt} {t : TF} {f g : SF} (hc : EvT X cl W c t) (ha : EvB X cl W a f) (hb : EvB X cl W b g) : EvS X cl W (.If c a b pos) (sIf t f g) := by
  obtain ⟨t, p, q⟩ := hc
  obtain ⟨u, p1, q1⟩ := ha
  obtain ⟨v, p2, q2⟩ := hb
  exact ⟨_, ps_if p p1 p2, semIf q q1 q2⟩
end

/-! ### what a for walks -/
def Yields (K : PySem.W.Frag) (cl : Str → Addr) (G0 : Hp) (J : It) (ds : List D) : Prop := ∀ (G H : Hp) (i : Nat), Same G0 G → Same G H →
  (∀ d, ds[i]? = some d → J.go i H ∧ ∀ v H', J.yld i H v H' → ∃ G', Px G H G' H' ∧ Rep K cl G' v d) ∧ (ds[i]? = none → J.stop i H)
abbrev IF := Env → R (List D)
def PY (K : PySem.W.Frag) (cl : Str → Addr) (Q : It → Hp → Prop) (ds : List D) (G H : Hp) : Prop := ∀ J G' H', Px G H G' H' → Yields K cl G' J ds → Q J H'
def SemI (K : PySem.W.Frag) (cl : Clx) (W : WX) (t : TI) (F : IF) : Prop := ∀ ρ σ G H Fs, EnvR K cl ρ σ G H Fs → ∀ Q, PostG cl W σ G H (PY K cl Q) (F ρ) → t σ H Q
def EvI (X : Cx) (cl : Clx) (W : WX) (tg e : Expr) (F : IF) : Prop := ∃ t, PI X tg e t ∧ SemI X.K cl W t F
theorem PY.mono {K : PySem.W.Frag} {cl : Str → Addr} {Q : It → Hp → Prop} : Mono (PY K cl Q) := fun x G H G' H' p h J G2 H2 p2 y => h J G2 H2 (p.trans p2) y
/-- a target takes an item -/
abbrev GF := D → Env → Option Env
def Wip (T : List Nat) (σ' σ : L2.St) : Prop := ∀ us : List Nat, (∀ j ∈ T, j ∈ us) → wipe σ' us = wipe σ us
def SemG (K : PySem.W.Frag) (cl : Clx) (t : TG) (g : GF) (T : List Nat) : Prop := ∀ ρ σ G H Fs v d, EnvR K cl ρ σ G H Fs → Rep K cl G v d → ∀ Q : L2.St → Hp → Prop,
  (match g d ρ with
    | some ρ' => ∀ σ' Fs', EnvR K cl ρ' σ' G H Fs' → (∀ a, Un Fs' a → Un Fs a) → Wip T σ' σ → Q σ' H
    | none => False) → t v σ H Q
def EvG (X : Cx) (cl : Clx) (e : Expr) (g : GF) (T : List Nat) : Prop := ∃ t, PG X e t ∧ SemG X.K cl t g T
def fTurn (g : GF) (f : SF) (d : D) (ρ : Env) : Env ⊕ RS := match g d ρ with
  | none => .inr .bad
  | some ρ0 => match f ρ0 with
    | .ok .nx ρ1 => .inl ρ1
    | .ok .ct ρ1 => .inl ρ1
    | .ok .bk ρ1 => .inr (.ok .nx ρ1)
    | r => .inr r
def sItems (g : GF) (f : SF) : List D → Env → RS
  | [], ρ => .ok .nx ρ
  | d :: ds, ρ => match fTurn g f d ρ with
    | .inl ρ1 => sItems g f ds ρ1
    | .inr r => r
@[simp] theorem sItems_nil (g : GF) (f : SF) (ρ : Env) : sItems g f [] ρ = .ok .nx ρ := rfl
theorem sItems_cons (g : GF) (f : SF) (d : D) (ds : List D) (ρ : Env) : sItems g f (d :: ds) ρ = match fTurn g f d ρ with
    | .inl ρ1 => sItems g f ds ρ1
    | .inr r => r := rfl
def sFor (w : IF) (g : GF) (f : SF) : SF := fun ρ => toS (w ρ) ρ fun ds => sItems g f ds ρ
@[simp] theorem sFor_eq (w : IF) (g : GF) (f : SF) (ρ : Env) : sFor w g f ρ = toS (w ρ) ρ fun ds => sItems g f ds ρ := rfl
section
variable {K : PySem.W.Frag} {cl : Clx} {W : WX} {ρ : Env} {σ : L2.St} {G H G' H' : Hp} {Fs Fs' : Foot}
theorem SemI.useS {t : TI} {F : IF} (h : SemI K cl W t F) (env : EnvR K cl ρ σ G H Fs) {g : List D → RS} {D : Ends} (hq : PostS K cl W (Un Fs) G H D (toS (F ρ) ρ g)) {C : It → Hp → Prop}
    (step : ∀ x J G' H', F ρ = .ok x → Px G H G' H' → EnvR K cl ρ σ G' H' Fs → Yields K cl G' J x → PostS K cl W (Un Fs) G' H' D (g x) → C J H') : t σ H C := by
  refine h ρ σ G H Fs env C ?_
  cases e : F ρ with
  | ok x =>
    rw [e] at hq
    exact fun J G' H' p y => step x J G' H' e p (env.px p) y (PostS.mono p.sx hq)
  | ex c =>
    rw [e] at hq
    exact fun G' H' p => hq σ G' H' Fs (env.px p) p.sx
  | bad =>
    rw [e] at hq
    exact hq
theorem sx_sub {U U' : Addr → Prop} (gh : Same G H) (h : ∀ a, U' a → U a) : Sx U G H U' G H := ⟨Same.refl _, gh, fun _ _ e _ => e, fun _ o e => ⟨o, e⟩, fun _ u => .inl (h _ u), fun _ _ e => .inl e⟩
theorem semFor {wi : TI} {tg : TG} {tb : TS} {w : IF} {g : GF} {f : SF} (h : SemI K cl W wi w) {T : List Nat} (hg : SemG K cl tg g T) (hb : SemS K cl W tb f) : SemS K cl W (tFor wi tg tb) (sFor w g f) := by
  intro ρ σ G H Fs env D hq
  refine h.useS env hq fun ds J G0 H0 _ p0 env0 y hq0 => ?_
  refine ⟨fun i m σ H => m = ds.length - i ∧ i ≤ ds.length ∧ ∃ ρ G Fs, EnvR K cl ρ σ G H Fs ∧ Same G0 G ∧ PostS K cl W (Un Fs) G H D (sItems g f (ds.drop i) ρ), ⟨ds.length, rfl, Nat.zero_le _, ρ, G0, Fs, env0, Same.refl _, hq0⟩, ?_⟩
  rintro i m σ H ⟨rfl, hi, ρ, G, Fs, env, sg, hp⟩
  obtain ⟨y1, y2⟩ := y G H i sg env.gh
  cases e : ds[i]? with
  | none =>
    refine .inl ⟨y2 e, ?_⟩
    have hd : ds.drop i = [] := List.drop_eq_nil_of_le (List.getElem?_eq_none_iff.mp e)
    rw [hd] at hp
    exact hp σ G H Fs env (Sx.refl env.gh)
  | some d =>
    have hlt : i < ds.length := (List.getElem?_eq_some_iff.mp e).1
    have hd : ds.drop i = d :: ds.drop (i + 1) := by
      rw [List.drop_eq_getElem_cons hlt]
      congr 1
      exact (List.getElem?_eq_some_iff.mp e).2
    rw [hd, sItems_cons] at hp
    obtain ⟨go, yl⟩ := y1 d e
    refine .inr ⟨go, fun σ' H' => ∃ ρ G Fs, EnvR K cl ρ σ' G H' Fs ∧ Same G0 G ∧ PostS K cl W (Un Fs) G H' D (sItems g f (ds.drop (i + 1)) ρ), fun σ' H' n => ⟨ds.length - (i + 1), by omega, rfl, hlt, n⟩, fun v H' hy => ?_⟩
    obtain ⟨G1, p1, r1⟩ := yl v H' hy
    have env1 := env.px p1
    refine hg ρ σ G1 H' Fs v d env1 r1 _ ?_
    cases eg : g d ρ with
    | none =>
      have ef : fTurn g f d ρ = .inr .bad := by unfold fTurn; rw [eg]
      rw [ef] at hp
      exact hp
    | some ρ0 =>
      intro σ2 F2 env2 hsub _
      have sx2 : Sx (Un Fs) G H (Un F2) G1 H' := p1.sx.trans (sx_sub env1.gh hsub)
      have hp2 := PostS.mono sx2 hp
      refine hb ρ0 σ2 G1 H' F2 env2 _ ?_
      cases ef : f ρ0 with
      | bad =>
        have e2 : fTurn g f d ρ = .inr .bad := by unfold fTurn; rw [eg]; dsimp only; rw [ef]
        rw [e2] at hp
        exact hp
      | ex x ρ1 =>
        have e2 : fTurn g f d ρ = .inr (.ex x ρ1) := by unfold fTurn; rw [eg]; dsimp only; rw [ef]
        rw [e2] at hp2
        exact hp2
      | ok fl ρ1 =>
        cases fl with
        | nx =>
          have e2 : fTurn g f d ρ = .inl ρ1 := by unfold fTurn; rw [eg]; dsimp only; rw [ef]
          rw [e2] at hp2
          exact fun σ3 G3 H3 F3 e3 s3 => ⟨ρ1, G3, F3, e3, (sg.trans p1.gg).trans s3.gg, PostS.mono s3 hp2⟩
        | ct =>
          have e2 : fTurn g f d ρ = .inl ρ1 := by unfold fTurn; rw [eg]; dsimp only; rw [ef]
          rw [e2] at hp2
          exact fun σ3 G3 H3 F3 e3 s3 => ⟨ρ1, G3, F3, e3, (sg.trans p1.gg).trans s3.gg, PostS.mono s3 hp2⟩
        | bk =>
          have e2 : fTurn g f d ρ = .inr (.ok .nx ρ1) := by unfold fTurn; rw [eg]; dsimp only; rw [ef]
          rw [e2] at hp2
          exact hp2
        | rt k d1 =>
          have e2 : fTurn g f d ρ = .inr (.ok (.rt k d1) ρ1) := by unfold fTurn; rw [eg]; dsimp only; rw [ef]
          rw [e2] at hp2
          exact hp2
end
section
variable {X : Cx} {cl : Clx} {W : WX} {pos : Pos}
theorem es_for {tg iter : Expr} {body : List Stmt} {w : IF} {g : GF} {f : SF} (hp : PassesOwn (model X.prog X.w) X.A X.env X.xe) (hc : X.calm = true) (hi : EvI X cl W tg iter w) {T : List Nat} (hg : EvG X cl tg g T) (hb : EvB X cl W body f)
    (hs : ∀ x, foldedSetIterable iter X.env x = pure x := by intro _; rfl) : EvS X cl W (.For tg iter body [] pos) (sFor w g f) := by
  obtain ⟨t, p, q⟩ := hi
  obtain ⟨u, p1, q1⟩ := hg
  obtain ⟨v, p2, q2⟩ := hb
  exact ⟨_, ps_for hp hc p p1 p2 hs, semFor q q1 q2⟩
/-! targets -/
def gN (i : Nat) : GF := fun d ρ => some (ρ.set i (some (0, d)))
@[simp] theorem gN_eq (i : Nat) (d : D) (ρ : Env) : gN i d ρ = some (ρ.set i (some (0, d))) := rfl
theorem wipe_set : ∀ (us : List Nat) (σ : L2.St) (i : Nat) (z : Option V), wipe (σ.set i z) us = if i ∈ us then wipe σ us else (wipe σ us).set i z
  | [], σ, i, z => by simp [wipe]
  | u :: us, σ, i, z => by
    unfold wipe
    rw [wipe_set us σ i z]
    by_cases h : i ∈ us
    · rw [if_pos h, if_pos (List.mem_cons_of_mem _ h)]
    · rw [if_neg h]
      by_cases h2 : i = u
      · subst h2
        rw [if_pos List.mem_cons_self, List.set_set]
      · rw [if_neg (by simp [h, h2]), List.set_comm _ _ h2]
theorem semGN {K : PySem.W.Frag} (i : Nat) (hx : cl.fix i = none) : SemG K cl (gName i) (gN i) [i] := by
  intro ρ σ G H Fs v d env r Q hq
  refine hq _ _ (env.set (F := fun _ => False) r (fun a fa => fa.elim) fun u h => by rw [hx] at h; cases h) (fun a ⟨j, h⟩ => ?_) fun us hu => by rw [wipe_set, if_pos (hu i List.mem_cons_self)]
  by_cases hj : j = i
  · simp only [if_pos hj] at h
  · simp only [if_neg hj] at h
    exact ⟨j, h⟩
theorem eg_name (i : Nat) {x : Str} (hN : X.N.Nodup) (hi : X.N[i]? = some x := by rfl) (hx : Loc X.env.scope x := by first | exact Or.inl rfl | exact Or.inr rfl) (hf : X.fn x = true ∨ X.env.scope.names.lookup x = some .local := by first | exact .inl rfl | exact .inr rfl) (hfx : cl.fix i = none := by rfl) : EvG X cl (.Name x pos) (gN i) [i] :=
  ⟨_, pg_name hN hi hx hf, semGN i hfx⟩
abbrev GsF := List D → Env → Option Env
def SemGs (K : PySem.W.Frag) (cl : Clx) (t : TGs) (g : GsF) (T : List Nat) : Prop := ∀ ρ σ G H Fs vs ds, EnvR K cl ρ σ G H Fs → RepL K cl G vs ds → ∀ Q : L2.St → Hp → Prop,
  (match g ds ρ with
    | some ρ' => ∀ σ' Fs', EnvR K cl ρ' σ' G H Fs' → (∀ a, Un Fs' a → Un Fs a) → Wip T σ' σ → Q σ' H
    | none => False) → t vs σ H Q
def EvGs (X : Cx) (cl : Clx) (e : List Expr) (g : GsF) (T : List Nat) : Prop := ∃ t, PGs X e t ∧ SemGs X.K cl t g T
def gsN : GsF := fun ds ρ => match ds with
  | [] => some ρ
  | _ => none
def gsC (g : GF) (h : GsF) : GsF := fun ds ρ => match ds with
  | d :: r => (g d ρ).bind (h r)
  | _ => none
@[simp] theorem gsN_nil (ρ : Env) : gsN [] ρ = some ρ := rfl
@[simp] theorem gsC_cons (g : GF) (h : GsF) (d : D) (r : List D) (ρ : Env) : gsC g h (d :: r) ρ = (g d ρ).bind (h r) := rfl
theorem egs_nil : EvGs X cl [] gsN [] := by
  refine ⟨_, pgs_nil, fun ρ σ G H Fs vs ds env r Q hq => ?_⟩
  cases ds with
  | nil =>
    have e : vs = [] := List.length_eq_zero_iff.mp r.1
    exact ⟨e, hq σ Fs env (fun _ z => z) fun _ _ => rfl⟩
  | cons d ds => exact hq.elim
theorem egs_cons {e : Expr} {es : List Expr} {g : GF} {h : GsF} {T T2 : List Nat} (h1 : EvG X cl e g T) (h2 : EvGs X cl es h T2) (hs : (assignEach (e :: es) X.env).map (·.2) = assign e X.env :: (assignEach es X.env).map (·.2) := by rfl) : EvGs X cl (e :: es) (gsC g h) (T ++ T2) := by
  obtain ⟨t, p, q⟩ := h1
  obtain ⟨u, p2, q2⟩ := h2
  refine ⟨_, pgs_cons p p2 hs, fun ρ σ G H Fs vs ds env r Q hq => ?_⟩
  cases ds with
  | nil => exact hq.elim
  | cons d ds =>
    cases vs with
    | nil => have := r.1; simp at this
    | cons v vs =>
      have r1 : Rep X.K cl G v d := r.2 0 v d rfl rfl
      have r2 : RepL X.K cl G vs ds := ⟨by have := r.1; simpa using this, fun i v' d' h1 h2 => r.2 (i + 1) v' d' h1 h2⟩
      refine ⟨v, vs, rfl, q ρ σ G H Fs v d env r1 _ ?_⟩
      rw [gsC_cons] at hq
      cases e1 : g d ρ with
      | none => rw [e1] at hq; exact hq
      | some ρ1 =>
        rw [e1] at hq
        intro σ1 F1 env1 hs1 hw1
        refine q2 ρ1 σ1 G H F1 vs ds env1 r2 Q ?_
        have hq' : (match h ds ρ1 with | some ρ' => ∀ σ' Fs', EnvR X.K cl ρ' σ' G H Fs' → (∀ a, Un Fs' a → Un Fs a) → Wip (T ++ T2) σ' σ → Q σ' H | none => False) := hq
        cases e2 : h ds ρ1 with
        | none => rw [e2] at hq'; exact hq'
        | some ρ2 =>
          rw [e2] at hq'
          exact fun σ2 F2 env2 hs2 hw2 => hq' σ2 F2 env2 (fun a z => hs1 a (hs2 a z)) fun us hu => (hw2 us fun j hj => hu j (List.mem_append_right _ hj)).trans (hw1 us fun j hj => hu j (List.mem_append_left _ hj))
def gT (n : Nat) (h : GsF) : GF := fun d ρ => match d with
  | .tup ds => if ds.length = n then h ds ρ else none
  | _ => none
@[simp] theorem gT_eq (n : Nat) (h : GsF) (ds : List D) (ρ : Env) : gT n h (.tup ds) ρ = if ds.length = n then h ds ρ else none := rfl
theorem eg_tup {es : List Expr} {k} {h : GsF} {n : Nat} {T : List Nat} (hc : X.calm = true) (h1 : EvGs X cl es h T) (hn : (assignEach es X.env).length = n := by rfl) (hst : (assignEach es X.env).findIdx? (·.1) = none := by rfl) : EvG X cl (.Tuple es k pos) (gT n h) T := by
  obtain ⟨t, p, q⟩ := h1
  refine ⟨_, pg_tup hc p hn hst, fun ρ σ G H Fs v d env r Q hq => ?_⟩
  cases d with
  | tup ds =>
    cases r with
    | tup hS hl hr =>
      rw [gT_eq] at hq
      by_cases hlen : ds.length = n
      · rw [if_pos hlen] at hq
        exact ⟨_, _, rfl, .inl (rdEx env.gh hS), hl.trans hlen, q ρ σ G H Fs _ _ env ⟨hl, hr⟩ Q hq⟩
      · rw [if_neg hlen] at hq
        exact hq.elim
  | _ => exact hq.elim
/-- a, b = e -/
def sAsg (f : EF) (g : GF) : SF := fun ρ => toS (f ρ) ρ fun x => match g x.d ρ with
  | some ρ' => .ok .nx ρ'
  | none => .bad
@[simp] theorem sAsg_eq (f : EF) (g : GF) (ρ : Env) : sAsg f g ρ = toS (f ρ) ρ fun x => match g x.d ρ with
  | some ρ' => .ok .nx ρ'
  | none => .bad := rfl
theorem es_asg {tg e : Expr} {f : EF} {g : GF} {T : List Nat} (h : EvE X cl W e f) (hg : EvG X cl tg g T) (hs : swapsWithSole [tg] e pos.line X.env = pure false := by rfl) (hw : swappedStores [tg] e X.env = pure none := by rfl)
    (h1 : (assignEach [tg] X.env).map (·.2) = [assign tg X.env] := by rfl) : EvS X cl W (.Assign [tg] e pos) (sAsg (eS f) g) := by
  obtain ⟨t, p, q⟩ := h
  obtain ⟨u, p1, q1⟩ := hg
  refine ⟨_, ps_asg p p1 hs hw h1, fun ρ σ G H Fs env D hq => ?_⟩
  refine (semS q).useS env hq fun x v G' H' F' e1 p' env' o fo hq1 => ?_
  have hk : x.k = 0 := by
    rw [eS_eq] at e1
    cases q1 : f ρ with
    | ok z => rw [q1] at e1; rw [frz_k e1]
    | ex c => rw [q1] at e1; cases e1
    | bad => rw [q1] at e1; cases e1
  obtain ⟨b, k, d⟩ := x
  simp only at hk
  subst hk
  refine q1 ρ σ G' H' Fs v d env' o _ ?_
  dsimp only at hq1
  cases eg : g d ρ with
  | none => rw [eg] at hq1; exact hq1
  | some ρ' =>
    rw [eg] at hq1
    exact fun σ' Fs' env2 hsub _ => hq1 σ' G' H' Fs' env2 (p'.sx.trans (sx_sub env'.gh hsub))
end
end B
namespace B
open PySem L2

/-! ### defs -/
abbrev Fn := List D → R Vl
def PF (K : PySem.W.Frag) (cl : Str → Addr) (G H : Hp) (Q : VK) (E : XK) : R Vl → Prop
  | .ok x => x.b = false ∧ PV K cl Q x G H
  | .ex c => ∀ G' H', Px G H G' H' → ∀ d, XD c d G' → E (.ref (cl (xB c))) d H'
  | .bad => False
/-- the promise of a def that reads its arguments alone -/
def spP (K : PySem.W.Frag) (cl : Str → Addr) (n : Nat) (f : Fn) : Sp := fun vs H Q E => vs.length = n ∧ ∃ G ds, Same G H ∧ RepL K cl G vs ds ∧ PF K cl G H Q E (f ds)
def rho0 (n : Nat) (ds : List D) : Env := ds.map (fun d => some (0, d)) ++ List.replicate (n - ds.length) none
def outF : RS → R Vl
  | .ok .nx _ => .ok (sh .non)
  | .ok (.rt k d) _ => .ok ⟨false, k, d⟩
  | .ex c _ => .ex c
  | _ => .bad
@[simp] theorem outF_nx (ρ : Env) : outF (.ok .nx ρ) = .ok (sh .non) := rfl
@[simp] theorem outF_rt (ρ : Env) (k : Nat) (d : D) : outF (.ok (.rt k d) ρ) = .ok ⟨false, k, d⟩ := rfl
@[simp] theorem outF_ex (ρ : Env) (c : Str) : outF (.ex c ρ) = .ex c := rfl
def runF (n : Nat) (b : SF) : Fn := fun ds => outF (b (rho0 n ds))
abbrev cxB (P : Program) (w : World) (K : PySem.W.Frag) (mg : Str → Option Value) (base : Heap) (N : List Str) (qual : Str) (sc : Scope) (f : Addr) (cdv : Value) (A : Around) (outer : List PySem.Env) (s : Shared) (H : Hp) (E : XK) : Cx :=
  cxOf (L2.CX P w) P w K mg base N qual sc f cdv A outer s H E
abbrev wB (E : XK) : WX := fun c d _ H => E c d H
def BodyOk (P : Program) (w : World) (K : PySem.W.Frag) (mg : Str → Option Value) (base : Heap) (cl : Clx) (k : Nat) (N : List Str) (qual : Str) (st : Stmt) (b : SF) : Prop :=
  ∀ (f : Addr) (cdv : Value) (A : Around) (outer : List PySem.Env) (s : Shared) (H : Hp) (E : XK), Room k (A.deeper (PyProof.Rows.envOfC qual (defScope st) s.heap.objs.size f cdv)) → EvB (cxB P w K mg base N qual (defScope st) f cdv A outer s H E) cl (wB E) (defBody st) b
section
variable {P : Program} {w : World} {K : PySem.W.Frag} {mg : Str → Option Value} {base : Heap} {cl : Str → Addr}
theorem rho0_get {n : Nat} {ds : List D} {i k : Nat} {d : D} (h : (rho0 n ds)[i]? = some (some (k, d))) : k = 0 ∧ ds[i]? = some d := by
  unfold rho0 at h
  by_cases hi : i < ds.length
  · rw [List.getElem?_append_left (by simpa using hi), List.getElem?_map] at h
    cases e : ds[i]? with
    | none => rw [e] at h; cases h
    | some d' =>
      rw [e] at h
      cases h
      exact ⟨rfl, rfl⟩
  · rw [List.getElem?_append_right (by simpa using hi), List.getElem?_replicate] at h
    split at h <;> cases h
theorem env0 {cl : Str → Addr} {N : List Str} {vs : List V} {ds : List D} {G H : Hp} (gh : Same G H) (r : RepL K cl G vs ds) : EnvR K (cl0 cl) (rho0 N.length ds) (L2.start N vs) G H (fun _ _ => False) := by
  refine ⟨by simp only [rho0, L2.start, List.length_append, List.length_map, List.length_replicate, r.1], gh, fun i k d h => ?_, fun i j a h => h.elim, fun i a h => h.elim, fun i v h => nomatch h⟩
  obtain ⟨rfl, hd⟩ := rho0_get h
  have hi : i < ds.length := (List.getElem?_eq_some_iff.mp hd).1
  have hv : i < vs.length := by rw [r.1]; exact hi
  refine ⟨vs[i], ?_, r.2 i _ d (List.getElem?_eq_getElem hv) hd⟩
  unfold L2.start
  rw [List.getElem?_append_left (by simpa using hv), List.getElem?_map, List.getElem?_eq_getElem hv]
  rfl
theorem fn_pure {x qual : Str} {st : Stmt} {f : Addr} {fd : FuncData} {N ps : List Str} {k : Nat} {b : SF} {dvs : List V} (F : FunD K x qual (defArgs st) (defBody st) (defScope st) dvs [] f fd) (S : FnScope N ps (defScope st)) (hb : BodyOk P w K mg base (cl0 cl) k N qual st b) :
    FnOk P w K mg base (L2.CX P w) (k + 1) f fd ps (spP K cl ps.length (runF N.length b)) := by
  refine F.ok S (fun vs H Q E h => h.1) fun cdv A outer s H vs Q E hr h => ?_
  obtain ⟨hl, G, ds, gh, r, q⟩ := h
  obtain ⟨t, pt, st⟩ := hb f cdv A outer s H E hr
  refine ⟨t, pt, st _ _ G H _ (env0 gh r) _ ?_⟩
  unfold runF at q
  cases e : b (rho0 N.length ds) with
  | bad => rw [e] at q; exact q
  | ex c ρ =>
    rw [e] at q
    exact fun σ' G' H' Fs' e' s => q G' H' (s.px fun a ⟨i, z⟩ => z)
  | ok fl ρ =>
    rw [e] at q
    cases fl with
    | bk => exact q.elim
    | ct => exact q.elim
    | nx => exact fun σ' G' H' Fs' e' s => q.2 .non G' H' (fun _ => False) (s.px fun a ⟨i, z⟩ => z) Rep.non noFoo
    | rt k d =>
      intro σ' v G' H' Fs' F e' o f s
      have p : Px G H G' H' := s.px fun a ⟨i, z⟩ => z
      refine q.2 v G' H' F p o fun a fa => ⟨(f a fa).1, (f a fa).2.1, fun _ => ?_⟩
      rcases s.un a (.inr fa) with ⟨_, z⟩ | z
      · exact z.elim
      · exact z
theorem runF_nb {n : Nat} {b : SF} {ds : List D} {x : Vl} (h : runF n b ds = .ok x) : x.b = false := by
  unfold runF at h
  cases e : b (rho0 n ds) with
  | bad => rw [e] at h; cases h
  | ex c ρ => rw [e] at h; cases h
  | ok fl ρ =>
    rw [e] at h
    cases fl with
    | bk => cases h
    | ct => cases h
    | nx => cases h; rfl
    | rt k d => cases h; rfl
/-- a def as its callers know it -/
structure Callee (P : Program) (w : World) (K : PySem.W.Frag) (mg : Str → Option Value) (base : Heap) (cl : Str → Addr) (x : Str) (k n : Nat) (f : Fn) : Prop where
  nb : ∀ ds x, f ds = .ok x → x.b = false
  ex : ∃ fa fd ps, FnOk P w K mg base (L2.CX P w) k fa fd ps (spP K cl n f) ∧ mg x = some (.ref fa) ∧ PySem.W.keepIn K (.ref fa) = true ∧ Binds K fd ps []
theorem Callee.of {x : Str} {st : Stmt} {fa : Addr} {fd : FuncData} {N ps : List Str} {k : Nat} {b : SF} (F : FunD K x x (defArgs st) (defBody st) (defScope st) [] [] fa fd) (g : mg x = some (.ref fa)) (S : FnScope N ps (defScope st)) (hb : BodyOk P w K mg base (cl0 cl) k N x st b)
    (h : ∀ (kV doc pm : Value) (an : Option Addr) (cdv ct : Value) (us : List Value), us.length = ps.length → bindArgs (PySem.W.fnOf x x (defArgs st) (defBody st) (defScope st) .none kV doc pm an cdv ct) ⟨us, []⟩ = pure (ps.zip us)) :
    Callee P w K mg base cl x (k + 1) ps.length (runF N.length b) := ⟨fun _ _ => runF_nb, fa, fd, ps, fn_pure F S hb, g, F.kp, F.bindsN h⟩
end
section
variable {X : Cx} {cl : Clx} {W : WX} {pos : Pos}
def eCall (f : Fn) (g : AF) : EF := fun ρ => (g ρ).bind f
@[simp] theorem eCall_eq (f : Fn) (g : AF) (ρ : Env) : eCall f g ρ = (g ρ).bind f := rfl
theorem ev_call {x : Str} {k n : Nat} {f : Fn} {p : Pos} {e : Expr} {es : List Expr} {g : AF} {c : Str → Addr} (C : Callee X.prog X.w X.K X.mg X.base c x k n f) (hr : Room k X.A) (tk : Takes X W) (ha : EvA X cl W (e :: es) g) (hn : (e :: es).length = n := by rfl) (hg : Gl X x := by rfl)
    (hdb : (x == ("__debug__" : Str)) = false := by decide) (he : starEach (e :: es) X.env = (false, eval e X.env) :: starEach es X.env := by rfl) (hpl : (backTo pos (starEach es X.env)).any (·.1) = false := by rfl) (hcc : cl.c = c := by rfl) : EvE X cl W (.Call (.Name x p) (e :: es) [] pos) (eCall f g) := by
  subst hcc
  obtain ⟨nb, fa, fd, ps, F, gm, kp, bi⟩ := C
  obtain ⟨t, pt, st, hlen⟩ := ha
  refine ⟨_, pe_callS F hr hg gm kp bi (fun σ => passAt tk σ) pt hdb he hpl, fun ρ σ G H Fs env Q hq => ?_⟩
  refine st.use env PV.mono hq fun ds vs G1 H1 e1 p1 env1 r1 hq1 => ?_
  refine ⟨by rw [r1.1, hlen ρ ds e1]; exact hn, G1, ds, env1.gh, r1, ?_⟩
  cases ef : f ds with
  | bad => rw [ef] at hq1; exact hq1
  | ex c => rw [ef] at hq1; exact hq1
  | ok y =>
    rw [ef] at hq1
    exact ⟨nb ds y ef, hq1⟩
end
end B
namespace B
open PySem L2
/-! ### what a for walks: lists, ranges, enumerate, zip, reversed, texts -/
section
variable {K : PySem.W.Frag} {cl : Clx} {W : WX} {ρ : Env} {σ : L2.St} {G H G' H' : Hp} {Fs Fs' : Foot}
theorem Rep.lstR {v : V} {ds : List D} (h : Rep K cl G v (.lst ds)) : ∃ p vs, v = .ref p ∧ Rd G p (.lst vs) ∧ RepL K cl G vs ds := by
  cases h with
  | lst h hl hr => exact ⟨_, _, rfl, h, hl, hr⟩
theorem Rep.tupR {v : V} {ds : List D} (h : Rep K cl G v (.tup ds)) : ∃ p vs, v = .ref p ∧ Rd G p (.tup vs) ∧ RepL K cl G vs ds := by
  cases h with
  | tup h hl hr => exact ⟨_, _, rfl, h, hl, hr⟩
theorem RepL.some {cl : Str → Addr} {vs : List V} {ds : List D} {i : Nat} {d : D} (r : RepL K cl G vs ds) (h : ds[i]? = some d) : ∃ v, vs[i]? = some v ∧ Rep K cl G v d := by
  have hi : i < vs.length := by rw [r.1]; exact (List.getElem?_eq_some_iff.mp h).1
  exact ⟨vs[i], List.getElem?_eq_getElem hi, r.2 i _ d (List.getElem?_eq_getElem hi) h⟩
theorem RepL.none {cl : Str → Addr} {vs : List V} {ds : List D} {i : Nat} (r : RepL K cl G vs ds) (h : ds[i]? = none) : vs.length ≤ i := by rw [r.1]; exact List.getElem?_eq_none_iff.mp h
theorem yl_list {a : Addr} {vs : List V} {ds : List D} (h : SqL K G a vs) (r : RepL K cl G vs ds) : Yields K cl G (Itl K a) ds := by
  intro G1 H1 i e gh
  have h1 : SqL K H1 a vs := sqlEx (e.trans gh) h
  refine ⟨fun d hd => ?_, fun hd => ⟨vs, h1, r.none hd⟩⟩
  obtain ⟨v, hv, rv⟩ := r.some hd
  refine ⟨⟨vs, v, h1, hv⟩, fun u H' hy => ?_⟩
  obtain ⟨rfl, hy⟩ := hy
  have eu : v = u := Option.some.inj (hv.symm.trans (hy vs h1))
  subst eu
  exact ⟨G1, Px.refl gh, rv.mono e⟩
theorem yl_tup {a : Addr} {vs : List V} {ds : List D} (h : SqT K G a vs) (r : RepL K cl G vs ds) : Yields K cl G (Itt K a) ds := by
  intro G1 H1 i e gh
  have h1 : SqT K H1 a vs := sqtEx (e.trans gh) h
  refine ⟨fun d hd => ?_, fun hd => ⟨vs, h1, r.none hd⟩⟩
  obtain ⟨v, hv, rv⟩ := r.some hd
  refine ⟨⟨vs, v, h1, hv⟩, fun u H' hy => ?_⟩
  obtain ⟨rfl, hy⟩ := hy
  have eu : v = u := Option.some.inj (hv.symm.trans (hy vs h1))
  subst eu
  exact ⟨G1, Px.refl gh, rv.mono e⟩
/-- lo, lo + c, .. -/
def rngC (lo c : Int) (n : Nat) : List D := (List.range n).map fun (i : Nat) => D.int (lo + (i : Int) * c)
def rng (lo : Int) (n : Nat) : List D := (List.range n).map fun (i : Nat) => D.int (lo + (i : Int))
theorem rng_get {lo : Int} {n i : Nat} : (rng lo n)[i]? = if i < n then some (.int (lo + (i : Int))) else none := by
  unfold rng
  rw [List.getElem?_map]
  by_cases h : i < n
  · rw [if_pos h, List.getElem?_range h]; rfl
  · rw [if_neg h, List.getElem?_eq_none_iff.mpr (by simpa using h)]; rfl
theorem yl_rng {lo : Int} {n : Nat} : Yields K cl G (Itr lo n) (rng lo n) := by
  intro G1 H1 i e gh
  rw [rng_get]
  by_cases h : i < n
  · rw [if_pos h]
    refine ⟨fun d hd => ?_, fun hd => nomatch hd⟩
    cases hd
    refine ⟨h, fun v H' hy => ?_⟩
    obtain ⟨rfl, rfl⟩ := hy
    exact ⟨G1, Px.refl gh, .int _⟩
  · rw [if_neg h]
    exact ⟨fun d hd => (nomatch hd), fun _ => Nat.le_of_not_lt h⟩
/-- (0, x), (1, y), .. -/
def enumD (ds : List D) : List D := ds.mapIdx fun i d => .tup [.int (i : Int), d]
def zipD (ds es : List D) : List D := List.zipWith (fun a b => .tup [a, b]) ds es
theorem rep_pair {a : Addr} {x y : V} {d e : D} (gh : Same G H) (h : H a = none) (r1 : Rep K cl G x d) (r2 : Rep K cl G y e) : Rep K cl (upd G a (.tup [x, y])) (.ref a) (.tup [d, e]) := by
  have s : Same G (upd G a (.tup [x, y])) := same_new (gh.free h)
  exact .tup (.inl upd_same) rfl (RepL.cons (r1.mono s) (RepL.cons (r2.mono s) RepL.nil)).2
theorem yl_enum {a : Addr} {vs : List V} {ds : List D} (h : SqL K G a vs) (r : RepL K cl G vs ds) : Yields K cl G (Ite K a) (enumD ds) := by
  intro G1 H1 i e gh
  have h1 : SqL K H1 a vs := sqlEx (e.trans gh) h
  unfold enumD
  rw [List.getElem?_mapIdx]
  cases hd : ds[i]? with
  | none => exact ⟨fun d h => (nomatch h), fun _ => ⟨vs, h1, r.none hd⟩⟩
  | some d =>
    obtain ⟨v, hv, rv⟩ := r.some hd
    refine ⟨fun d' hd' => ?_, fun h => (nomatch h)⟩
    cases hd'
    refine ⟨⟨vs, v, h1, hv⟩, fun u H' hy => ?_⟩
    obtain ⟨T, x, rfl, hT, rfl, hy⟩ := hy
    have eu : v = x := Option.some.inj (hv.symm.trans (hy vs h1))
    subst eu
    exact ⟨_, px_frozen gh hT, rep_pair gh hT (.int _) (rv.mono e)⟩
/-- the signs of a text -/
def signs (x : Str) : List D := x.cps.toList.map fun c => .str ⟨#[c]⟩
theorem yl_str {x : Str} : Yields K cl G (Its x) (signs x) := by
  intro G1 H1 i e gh
  unfold signs
  rw [List.getElem?_map, Array.getElem?_toList]
  cases hc : x.cps[i]? with
  | none => exact ⟨fun d h => (nomatch h), fun _ => Array.getElem?_eq_none_iff.mp hc⟩
  | some c =>
    refine ⟨fun d hd => ?_, fun h => (nomatch h)⟩
    cases hd
    refine ⟨(Array.getElem?_eq_some_iff.mp hc).1, fun v H' hy => ?_⟩
    obtain ⟨rfl, c', hc', rfl⟩ := hy
    rw [hc] at hc'
    cases hc'
    exact ⟨G1, Px.refl gh, .str _⟩
end
section
variable {X : Cx} {cl : Clx} {W : WX} {pos : Pos} {tg : Expr}
def asL : D → R (List D)
  | .lst ds => .ok ds
  | _ => .bad
def asT : D → R (List D)
  | .tup ds => .ok ds
  | _ => .bad
def asS : D → R (List D)
  | .str x => .ok (signs x)
  | _ => .bad
@[simp] theorem asL_l (ds : List D) : asL (.lst ds) = .ok ds := rfl
@[simp] theorem asT_t (ds : List D) : asT (.tup ds) = .ok ds := rfl
@[simp] theorem asS_s (x : Str) : asS (.str x) = .ok (signs x) := rfl
def iL (f : EF) : IF := fun ρ => (f ρ).bind fun x => (frz x).bind fun y => asL y.d
def iT (f : EF) : IF := fun ρ => (f ρ).bind fun x => (frz x).bind fun y => asT y.d
def iS (f : EF) : IF := fun ρ => (f ρ).bind fun x => asS x.d
@[simp] theorem iL_eq (f : EF) (ρ : Env) : iL f ρ = (f ρ).bind fun x => (frz x).bind fun y => asL y.d := rfl
@[simp] theorem iT_eq (f : EF) (ρ : Env) : iT f ρ = (f ρ).bind fun x => (frz x).bind fun y => asT y.d := rfl
@[simp] theorem iS_eq (f : EF) (ρ : Env) : iS f ρ = (f ρ).bind fun x => asS x.d := rfl
theorem frz_rep {K : PySem.W.Frag} {f : EF} {ρ : Env} {x : Vl} {G H : Hp} {v : V} {F : Addr → Prop} (e : eS f ρ = .ok x) (o : Own K cl H G x.k v x.d F) : Rep K cl G v x.d := by
  rw [eS_eq] at e
  cases q : f ρ with
  | ok z =>
    rw [q] at e
    have := frz_k e
    rw [this] at o ⊢
    exact o
  | ex c => rw [q] at e; cases e
  | bad => rw [q] at e; cases e
def small62 (i : Int) : Prop := -(2 ^ 62) ≤ i ∧ i < 2 ^ 62
noncomputable instance (i : Int) : Decidable (small62 i) := Classical.propDecidable _
noncomputable def rng1 : List D → R (List D)
  | [.int j] => if small62 j then .ok (rng 0 j.toNat) else .bad
  | _ => .bad
noncomputable def rng2 : List D → R (List D)
  | [.int i, .int j] => if small62 i ∧ small62 j then .ok (rng i (j - i).toNat) else .bad
  | _ => .bad
noncomputable def rng3 : List D → R (List D)
  | [.int i, .int j, .int c] => if c = -1 ∧ small62 i ∧ small62 j then .ok (rngC i (-1) (i - j).toNat) else .bad
  | _ => .bad
@[simp] theorem rng1_eq (j : Int) : rng1 [.int j] = if small62 j then .ok (rng 0 j.toNat) else .bad := rfl
@[simp] theorem rng2_eq (i j : Int) : rng2 [.int i, .int j] = if small62 i ∧ small62 j then .ok (rng i (j - i).toNat) else .bad := rfl
@[simp] theorem rng3_eq (i j c : Int) : rng3 [.int i, .int j, .int c] = if c = -1 ∧ small62 i ∧ small62 j then .ok (rngC i (-1) (i - j).toNat) else .bad := rfl
def iA (r : List D → R (List D)) (g : AF) : IF := fun ρ => (g ρ).bind r
@[simp] theorem iA_eq (r : List D → R (List D)) (g : AF) (ρ : Env) : iA r g ρ = (g ρ).bind r := rfl
theorem ei_range1 {a : Expr} {g : AF} {p : Pos} (hm : X.mg "range" = none) (ha : EvA X cl W [a] g) (hg : Gl X "range" := by rfl) (hs : starEach [a] X.env = [(false, eval a X.env)] := by rfl) : EvI X cl W tg (.Call (.Name "range" p) [a] [] pos) (iA rng1 g) := by
  obtain ⟨t, pt, st, hl⟩ := ha
  refine ⟨_, pi_range1 hg hm pt hs, fun ρ σ G H Fs env Q hq => ?_⟩
  refine st.use env PY.mono hq fun ds vs G1 H1 e1 p1 env1 r1 hq1 => ?_
  match ds, r1, hq1 with
  | [.int j], r1, hq1 =>
    rw [rng1_eq] at hq1
    by_cases h : small62 j
    · rw [if_pos h] at hq1
      obtain ⟨v, hv, rv⟩ := r1.some (i := 0) rfl
      cases rv
      have ev : vs = [.int j] := by
        have hlen := r1.1
        match vs, hlen, hv with
        | [x], _, hv => cases hv; rfl
      exact ⟨j, ev, h.1, h.2, hq1 _ G1 H1 (Px.refl env1.gh) yl_rng⟩
    · rw [if_neg h] at hq1
      exact hq1.elim
def enum1 : List D → R (List D)
  | [.lst ds] => .ok (enumD ds)
  | _ => .bad
def zip2 : List D → R (List D)
  | [.lst ds, .lst es] => .ok (zipD ds es)
  | [.tup ds, .tup es] => .ok (zipD ds es)
  | _ => .bad
def rev1 : List D → R (List D)
  | [.lst ds] => .ok ds.reverse
  | _ => .bad
@[simp] theorem enum1_eq (ds : List D) : enum1 [.lst ds] = .ok (enumD ds) := rfl
@[simp] theorem zip2_eq (ds es : List D) : zip2 [.lst ds, .lst es] = .ok (zipD ds es) := rfl
@[simp] theorem zip2_t (ds es : List D) : zip2 [.tup ds, .tup es] = .ok (zipD ds es) := rfl
@[simp] theorem rev1_eq (ds : List D) : rev1 [.lst ds] = .ok ds.reverse := rfl
theorem ei_enum {a : Expr} {g : AF} {p tpos : Pos} {elts : List Expr} {kk} (hm : X.mg "enumerate" = none) (ha : EvA X cl W [a] g) (hg : Gl X "enumerate" := by rfl) (hs : starEach [a] X.env = [(false, eval a X.env)] := by rfl) : EvI X cl W (.Tuple elts kk tpos) (.Call (.Name "enumerate" p) [a] [] pos) (iA enum1 g) := by
  obtain ⟨t, pt, st, hl⟩ := ha
  refine ⟨_, pi_enum hg hm pt hs, fun ρ σ G H Fs env Q hq => ?_⟩
  refine st.use env PY.mono hq fun ds vs G1 H1 e1 p1 env1 r1 hq1 => ?_
  match ds, r1, hq1 with
  | [.lst xs], r1, hq1 =>
    obtain ⟨v, hv, rv⟩ := r1.some (i := 0) rfl
    obtain ⟨q, us, rfl, hS, rl⟩ := rv.lstR
    have ev : vs = [.ref q] := by
      have hlen := r1.1
      match vs, hlen, hv with
      | [x], _, hv => cases hv; rfl
    exact ⟨q, us, ev, .inl (rdEx env1.gh hS), hq1 _ G1 H1 (Px.refl env1.gh) (yl_enum (.inl hS) rl)⟩
end
end B
namespace B
open PySem L2
/-! ### built-ins of one value, borrowed or not -/
section
variable {X : Cx} {cl : Clx} {W : WX} {pos : Pos}
def Cal1 (K : PySem.W.Frag) (cl : Str → Addr) (r : List V → Hp → VK → Prop) (f : Vl → R Vl) : Prop := ∀ (x : Vl) (v : V) (F : Addr → Prop) (G H : Hp) (Q : VK) (W : WX) (σ : L2.St), Same G H → Own K cl H G x.k v x.d F → PostG cl W σ G H (PV K cl Q) (f x) → (∀ c, f x ≠ .ex c) → r [v] H Q
def eB1 (f : Vl → R Vl) (a : EF) : EF := fun ρ => (a ρ).bind f
@[simp] theorem eB1_eq (f : Vl → R Vl) (a : EF) (ρ : Env) : eB1 f a ρ = (a ρ).bind f := rfl
theorem semB1 {K : PySem.W.Frag} {r : List V → Hp → VK → Prop} {f : Vl → R Vl} (hf : Cal1 K cl r f) (hx : ∀ x c, f x ≠ .ex c) {t : TE} {a : EF} (h : SemE K cl W t a) : SemE K cl W (tCB r (tCons t tNil)) (eB1 f a) := by
  intro ρ σ G H Fs env Q hq
  refine h.use env PV.mono hq fun x v G1 H1 F1 e1 p1 env1 o1 f1 hq1 => ?_
  exact hf x v F1 G1 H1 Q W σ env1.gh o1 hq1 (hx x)
theorem ev_B1 {x : Str} {id : String} {r : List V → Hp → VK → Prop} {f : Vl → R Vl} {p : Pos} {e : Expr} {a : EF} (hc : CallR X (.builtin id) r) (hf : Cal1 X.K cl r f) (hx : ∀ x c, f x ≠ .ex c) (hm : X.mg x = none) (hv : bootBuiltins x = some (.builtin id)) (ha : EvE X cl W e a) (hg : Gl X x := by rfl)
    (hn : x ≠ "__name__" := by decide) (hdb : (x == ("__debug__" : Str)) = false := by decide) (hs : starEach [e] X.env = (false, eval e X.env) :: starEach [] X.env := by rfl) : EvE X cl W (.Call (.Name x p) [e] [] pos) (eB1 f a) := by
  obtain ⟨t, pt, st⟩ := ha
  exact ⟨_, pe_callB hc hg hm hv (pa_cons pt pa_nil hs) hn hdb hs, semB1 hf hx st⟩
theorem ev_B1T {x : Str} {id : String} {r : List V → Hp → VK → Prop} {f : Vl → R Vl} {p : Pos} {e : Expr} {a : EF} (hc : CallR X (.type id) r) (hf : Cal1 X.K cl r f) (hx : ∀ x c, f x ≠ .ex c) (hm : X.mg x = none) (hv : bootBuiltins x = some (.type id)) (ha : EvE X cl W e a) (hg : Gl X x := by rfl)
    (hn : x ≠ "__name__" := by decide) (hdb : (x == ("__debug__" : Str)) = false := by decide) (hs : starEach [e] X.env = (false, eval e X.env) :: starEach [] X.env := by rfl) : EvE X cl W (.Call (.Name x p) [e] [] pos) (eB1 f a) := by
  obtain ⟨t, pt, st⟩ := ha
  exact ⟨_, pe_callTy hc hg hm hv (pa_cons pt pa_nil hs) hn hdb hs, semB1 hf hx st⟩
/-- len -/
def lenV (x : Vl) : R Vl := match x.d with
  | .lst ds => .ok (sh (.int ds.length))
  | .tup ds => .ok (sh (.int ds.length))
  | .str s => if s.length ≤ 10000 then .ok (sh (.int s.length)) else .bad
  | _ => .bad
@[simp] theorem lenV_l (b : Bool) (k : Nat) (ds : List D) : lenV ⟨b, k, .lst ds⟩ = .ok (sh (.int ds.length)) := rfl
@[simp] theorem lenV_t (b : Bool) (k : Nat) (ds : List D) : lenV ⟨b, k, .tup ds⟩ = .ok (sh (.int ds.length)) := rfl
@[simp] theorem lenV_s (b : Bool) (k : Nat) (s : Str) : lenV ⟨b, k, .str s⟩ = if s.length ≤ 10000 then .ok (sh (.int s.length)) else .bad := rfl
theorem le_line2 {n : Nat} (h : n ≤ 10000) : n ≤ sizeLine := Nat.le_trans h (by decide)
theorem c1_len {K : PySem.W.Frag} : Cal1 K cl (fun xs H Q => (∃ p ys, xs = [.ref p] ∧ (SqL K H p ys ∨ SqT K H p ys) ∧ Q (.int ys.length) H) ∨ ∃ z, xs = [.str z] ∧ z.length ≤ sizeLine ∧ Q (.int z.length) H) lenV := by
  intro x v F G H Q W σ gh o hq _
  obtain ⟨b, k, d⟩ := x
  cases d with
  | lst ds =>
    obtain ⟨p, vs, rfl, hS, hl, _⟩ := o.lstR gh
    exact .inl ⟨p, vs, rfl, .inl (.inl hS), by rw [hl]; exact hq _ G H (fun _ => False) (Px.refl gh) (Rep.int _) noFoo⟩
  | tup ds =>
    obtain ⟨p, vs, rfl, hS, hl, _⟩ := o.tupR gh
    exact .inl ⟨p, vs, rfl, .inr (.inl hS), by rw [hl]; exact hq _ G H (fun _ => False) (Px.refl gh) (Rep.int _) noFoo⟩
  | str s =>
    rw [lenV_s] at hq
    by_cases h : s.length ≤ 10000
    · rw [if_pos h] at hq
      exact .inr ⟨s, by rw [o.str], le_line2 h, hq _ G H (fun _ => False) (Px.refl gh) (Rep.int _) noFoo⟩
    · rw [if_neg h] at hq
      exact hq.elim
  | _ => exact hq.elim
theorem lenV_x (x : Vl) (c : Str) : lenV x ≠ .ex c := by
  obtain ⟨b, k, d⟩ := x
  cases d <;> intro h <;> first | cases h | skip
  rw [lenV_s] at h
  split at h <;> cases h
theorem ev_len {p : Pos} {e : Expr} {a : EF} (hm : X.mg "len" = none) (ha : EvE X cl W e a) (hg : Gl X "len" := by rfl) (hs : starEach [e] X.env = (false, eval e X.env) :: starEach [] X.env := by rfl) : EvE X cl W (.Call (.Name "len" p) [e] [] pos) (eB1 lenV a) :=
  ev_B1 (call_len_seq.or call_len_str) c1_len lenV_x hm PySem.boot_len ha hg (by decide) (by decide) hs
/-- abs -/
def absV (x : Vl) : R Vl := match x.d with
  | .int i => .ok (sh (.int (if i < 0 then -i else i)))
  | _ => .bad
@[simp] theorem absV_i (b : Bool) (k : Nat) (i : Int) : absV ⟨b, k, .int i⟩ = .ok (sh (.int (if i < 0 then -i else i))) := rfl
/-- int of an int, of a bool -/
def intV (x : Vl) : R Vl := match x.d with
  | .int i => .ok (sh (.int i))
  | .bl b => .ok (sh (.int (if b then 1 else 0)))
  | _ => .bad
@[simp] theorem intV_i (b : Bool) (k : Nat) (i : Int) : intV ⟨b, k, .int i⟩ = .ok (sh (.int i)) := rfl
@[simp] theorem intV_b (b : Bool) (k : Nat) (i : Bool) : intV ⟨b, k, .bl i⟩ = .ok (sh (.int (if i then 1 else 0))) := rfl
/-- str of an int -/
def strV (x : Vl) : R Vl := match x.d with
  | .int i => if i.natAbs.log2 < 1920 then .ok (sh (.str (toString i))) else .bad
  | _ => .bad
@[simp] theorem strV_i (b : Bool) (k : Nat) (i : Int) : strV ⟨b, k, .int i⟩ = if i.natAbs.log2 < 1920 then .ok (sh (.str (toString i))) else .bad := rfl
theorem ev_str1 {p : Pos} {e : Expr} {a : EF} (hm : X.mg "str" = none) (ha : EvE X cl W e a) (hg : Gl X "str" := by rfl) (hs : starEach [e] X.env = (false, eval e X.env) :: starEach [] X.env := by rfl) : EvE X cl W (.Call (.Name "str" p) [e] [] pos) (eB1 strV a) := by
  refine ev_B1T call_str_int ?_ ?_ hm PyProof.Rows.boot_str ha hg (by decide) (by decide) hs
  · intro x v F G H Q W σ gh o hq _
    obtain ⟨b, k, d⟩ := x
    cases d with
    | int i =>
      rw [strV_i] at hq
      by_cases h : i.natAbs.log2 < 1920
      · rw [if_pos h] at hq
        exact ⟨i, by rw [o.int], h, hq _ G H (fun _ => False) (Px.refl gh) (Rep.str _) noFoo⟩
      · rw [if_neg h] at hq
        exact hq.elim
    | _ => exact hq.elim
  · intro x c
    obtain ⟨b, k, d⟩ := x
    cases d <;> intro h <;> first | cases h | skip
    rw [strV_i] at h
    split at h <;> cases h
/-- list(x) of a list or a tuple: new -/
def listV (x : Vl) : R Vl := match x.d with
  | .lst ds => if x.k ≤ 1 then .ok ⟨false, 1, .lst ds⟩ else .bad
  | .tup ds => if tkF x.k ds = 0 then .ok ⟨false, 1, .lst ds⟩ else .bad
  | _ => .bad
@[simp] theorem listV_0 (b : Bool) (ds : List D) : listV ⟨b, 0, .lst ds⟩ = .ok ⟨false, 1, .lst ds⟩ := rfl
@[simp] theorem listV_1 (b : Bool) (ds : List D) : listV ⟨b, 1, .lst ds⟩ = .ok ⟨false, 1, .lst ds⟩ := rfl
@[simp] theorem listV_t (b : Bool) (ds : List D) : listV ⟨b, 0, .tup ds⟩ = .ok ⟨false, 1, .lst ds⟩ := if_pos (tkF_0 ds)
theorem Own.flat {cl : Str → Addr} {K : PySem.W.Frag} {k : Nat} {v : V} {ds : List D} {F : Addr → Prop} {G H : Hp} (hk : k ≤ 1) (o : Own K cl H G k v (.lst ds) F) (gh : Same G H) : ∃ p vs, v = .ref p ∧ Rd H p (.lst vs) ∧ RepL K cl G vs ds := by
  obtain ⟨p, vs, e, hS, hl, hr⟩ := o.lstR gh
  refine ⟨p, vs, e, hS, hl, fun i v d h1 h2 => ?_⟩
  obtain ⟨F', o', _⟩ := hr i v d h1 h2
  have : k - 1 = 0 := by omega
  rw [this] at o'
  exact o'
theorem ev_list1 {p : Pos} {e : Expr} {a : EF} (hm : X.mg "list" = none) (ha : EvE X cl W e a) (hg : Gl X "list" := by rfl) (hs : starEach [e] X.env = (false, eval e X.env) :: starEach [] X.env := by rfl) : EvE X cl W (.Call (.Name "list" p) [e] [] pos) (eB1 listV a) := by
  refine ev_B1T call_list_of ?_ ?_ hm PyProof.Rows.boot_list ha hg (by decide) (by decide) hs
  · intro x v F G H Q W σ gh o hq _
    obtain ⟨b, k, d⟩ := x
    cases d with
    | lst ds =>
      by_cases hk : k ≤ 1
      · have e1 : listV ⟨b, k, .lst ds⟩ = .ok ⟨false, 1, .lst ds⟩ := if_pos hk
        rw [e1] at hq
        obtain ⟨p, vs, rfl, hS, rl⟩ := Own.flat hk o gh
        exact ⟨p, vs, rfl, .inl (.inl hS), fun l hl => hq _ G _ _ (px_new gh hl) (own1 upd_same rl) (foo1 gh hl)⟩
      · have e1 : listV ⟨b, k, .lst ds⟩ = .bad := if_neg hk
        rw [e1] at hq
        exact hq.elim
    | tup ds =>
      obtain ⟨p, vs, rfl, hS, hl, hr⟩ := o.tupR gh
      by_cases hk : tkF k ds = 0
      · have e1 : listV ⟨b, k, .tup ds⟩ = .ok ⟨false, 1, .lst ds⟩ := if_pos hk
        rw [e1] at hq
        have rl : RepL X.K cl G vs ds := ⟨hl, fun i v d h1 h2 => by
          obtain ⟨F', o', _⟩ := hr i v d h1 h2
          rw [hk] at o'
          exact o'⟩
        exact ⟨p, vs, rfl, .inr (.inl hS), fun l hl' => hq _ G _ _ (px_new gh hl') (own1 upd_same rl) (foo1 gh hl')⟩
      · have e1 : listV ⟨b, k, .tup ds⟩ = .bad := if_neg hk
        rw [e1] at hq
        exact hq.elim
    | _ => exact hq.elim
  · intro x c
    obtain ⟨b, k, d⟩ := x
    cases d <;> intro h <;> first | cases h | skip
    · rename_i ds
      by_cases hk : k ≤ 1
      · have e1 : listV ⟨b, k, .lst ds⟩ = .ok ⟨false, 1, .lst ds⟩ := if_pos hk
        rw [e1] at h; cases h
      · have e1 : listV ⟨b, k, .lst ds⟩ = .bad := if_neg hk
        rw [e1] at h; cases h
    · rename_i ds
      by_cases hk : tkF k ds = 0
      · have e1 : listV ⟨b, k, .tup ds⟩ = .ok ⟨false, 1, .lst ds⟩ := if_pos hk
        rw [e1] at h; cases h
      · have e1 : listV ⟨b, k, .tup ds⟩ = .bad := if_neg hk
        rw [e1] at h; cases h
/-- max, min of two ints -/
def max2 : List D → R Vl
  | [.int i, .int j] => .ok (sh (.int (if j > i then j else i)))
  | _ => .bad
def min2 : List D → R Vl
  | [.int i, .int j] => .ok (sh (.int (if j < i then j else i)))
  | _ => .bad
@[simp] theorem max2_eq (i j : Int) : max2 [.int i, .int j] = .ok (sh (.int (if j > i then j else i))) := rfl
@[simp] theorem min2_eq (i j : Int) : min2 [.int i, .int j] = .ok (sh (.int (if j < i then j else i))) := rfl
/-! ### isinstance(x, T), T a built-in class -/
def tyN : D → Option String
  | .non => some "NoneType"
  | .bl _ => some "bool"
  | .int _ => some "int"
  | .str _ => some "str"
  | .lst _ => some "list"
  | .tup _ => some "tuple"
  | .obj _ _ => none
  | .exo _ => none
  | .dct _ => none
  | .dci _ => none
def isiN (T n : String) : R Vl := match kitB n T with
  | some b => .ok (sh (.bl b))
  | none => .bad
def isiV (T : String) (x : Vl) : R Vl := match tyN x.d with
  | some n => isiN T n
  | none => .bad
theorem isiN_of {T n : String} {b : Bool} (h : kitB n T = some b) : isiN T n = .ok (sh (.bl b)) := by unfold isiN; rw [h]
theorem tyx_of {K : PySem.W.Frag} {k : Nat} {v : V} {d : D} {F : Addr → Prop} {G H : Hp} {n : String} (o : Own K cl H G k v d F) (gh : Same G H) (h : tyN d = some n) : TyX K H v (.type n) := by
  cases d with
  | non => cases h; rw [o.non]; exact .base .non
  | bl b => cases h; rw [o.bl]; exact .base (.bl b)
  | int b => cases h; rw [o.int]; exact .base (.int b)
  | str b => cases h; rw [o.str]; exact .base (.str b)
  | lst b =>
    cases h
    obtain ⟨p, vs, rfl, hS, _⟩ := o.lstR gh
    rcases hS with hS | ⟨ob, hS⟩
    · exact .base (.lst hS)
    · exact .base (.frz hS)
  | tup b =>
    cases h
    obtain ⟨p, vs, rfl, hS, _⟩ := o.tupR gh
    rcases hS with hS | ⟨ob, hS⟩
    · exact .base (.tup hS)
    · exact .fTuple hS
  | obj C fs => cases h
  | exo C => cases h
  | dct ps => cases h
  | dci ks => cases h
theorem ev_isi {x T : Str} {id : String} {p p2 : Pos} {e : Expr} {a : EF} (hm : X.mg "isinstance" = none) (hm2 : X.mg T = none) (hb : bootBuiltins T = some (.type id)) (ha : EvE X cl W e a) (hg : Gl X "isinstance" := by rfl) (hg2 : Gl X T := by rfl) (hn : T ≠ "__name__" := by decide) (hd : (T == ("__debug__" : Str)) = false := by decide)
    (hs : starEach [e, .Name T p2] X.env = (false, eval e X.env) :: starEach [.Name T p2] X.env := by rfl) (hs2 : starEach [.Name T p2] X.env = (false, eval (.Name T p2) X.env) :: starEach [] X.env := by rfl) (hpl : (backTo pos (starEach [.Name T p2] X.env)).any (·.1) = false := by rfl) : EvE X cl W (.Call (.Name "isinstance" p) [e, .Name T p2] [] pos) (eB1 (isiV id) a) := by
  obtain ⟨t, pt, st⟩ := ha
  refine ⟨_, pe_callB call_isi hg hm PyProof.Rows.boot_isinstance (pa_cons pt (pa_cons (pe_bltn (v := .ty id) hg2 hm2 hb rfl hn hd) pa_nil hs2) hs) (by decide) (by decide) hs hpl, fun ρ σ G H Fs env Q hq => ?_⟩
  refine st.use env PV.mono hq fun y v G1 H1 F1 e1 p1 env1 o1 f1 hq1 => ?_
  obtain ⟨b, k, d⟩ := y
  unfold isiV at hq1
  cases et : tyN d with
  | none => simp only [et] at hq1; exact hq1.elim
  | some n =>
    simp only [et] at hq1
    cases ek : kitB n id with
    | none => unfold isiN at hq1; rw [ek] at hq1; exact hq1.elim
    | some r =>
      rw [isiN_of ek] at hq1
      exact ⟨v, .ty id, .type n, .type id, r, rfl, .ty id, tyx_of o1 env1.gh et, kit_ty ek, hq1 _ G1 H1 (fun _ => False) (Px.refl env1.gh) (Rep.bl _) noFoo⟩
@[simp] theorem isi_int_int (b : Bool) (k : Nat) (i : Int) : isiV "int" ⟨b, k, .int i⟩ = .ok (sh (.bl true)) := show isiN "int" "int" = _ from isiN_of (by decide +kernel)
@[simp] theorem isi_int_bool (b : Bool) (k : Nat) (i : Bool) : isiV "int" ⟨b, k, .bl i⟩ = .ok (sh (.bl true)) := show isiN "int" "bool" = _ from isiN_of (by decide +kernel)
@[simp] theorem isi_int_non (b : Bool) (k : Nat)  : isiV "int" ⟨b, k, .non⟩ = .ok (sh (.bl false)) := show isiN "int" "NoneType" = _ from isiN_of (by decide +kernel)
@[simp] theorem isi_int_str (b : Bool) (k : Nat) (i : Str) : isiV "int" ⟨b, k, .str i⟩ = .ok (sh (.bl false)) := show isiN "int" "str" = _ from isiN_of (by decide +kernel)
@[simp] theorem isi_int_lst (b : Bool) (k : Nat) (i : List D) : isiV "int" ⟨b, k, .lst i⟩ = .ok (sh (.bl false)) := show isiN "int" "list" = _ from isiN_of (by decide +kernel)
@[simp] theorem isi_int_tup (b : Bool) (k : Nat) (i : List D) : isiV "int" ⟨b, k, .tup i⟩ = .ok (sh (.bl false)) := show isiN "int" "tuple" = _ from isiN_of (by decide +kernel)
@[simp] theorem isi_bool_int (b : Bool) (k : Nat) (i : Int) : isiV "bool" ⟨b, k, .int i⟩ = .ok (sh (.bl false)) := show isiN "bool" "int" = _ from isiN_of (by decide +kernel)
@[simp] theorem isi_bool_bool (b : Bool) (k : Nat) (i : Bool) : isiV "bool" ⟨b, k, .bl i⟩ = .ok (sh (.bl true)) := show isiN "bool" "bool" = _ from isiN_of (by decide +kernel)
@[simp] theorem isi_bool_non (b : Bool) (k : Nat)  : isiV "bool" ⟨b, k, .non⟩ = .ok (sh (.bl false)) := show isiN "bool" "NoneType" = _ from isiN_of (by decide +kernel)
@[simp] theorem isi_bool_str (b : Bool) (k : Nat) (i : Str) : isiV "bool" ⟨b, k, .str i⟩ = .ok (sh (.bl false)) := show isiN "bool" "str" = _ from isiN_of (by decide +kernel)
@[simp] theorem isi_bool_lst (b : Bool) (k : Nat) (i : List D) : isiV "bool" ⟨b, k, .lst i⟩ = .ok (sh (.bl false)) := show isiN "bool" "list" = _ from isiN_of (by decide +kernel)
@[simp] theorem isi_bool_tup (b : Bool) (k : Nat) (i : List D) : isiV "bool" ⟨b, k, .tup i⟩ = .ok (sh (.bl false)) := show isiN "bool" "tuple" = _ from isiN_of (by decide +kernel)
@[simp] theorem isi_str_int (b : Bool) (k : Nat) (i : Int) : isiV "str" ⟨b, k, .int i⟩ = .ok (sh (.bl false)) := show isiN "str" "int" = _ from isiN_of (by decide +kernel)
@[simp] theorem isi_str_bool (b : Bool) (k : Nat) (i : Bool) : isiV "str" ⟨b, k, .bl i⟩ = .ok (sh (.bl false)) := show isiN "str" "bool" = _ from isiN_of (by decide +kernel)
@[simp] theorem isi_str_non (b : Bool) (k : Nat)  : isiV "str" ⟨b, k, .non⟩ = .ok (sh (.bl false)) := show isiN "str" "NoneType" = _ from isiN_of (by decide +kernel)
@[simp] theorem isi_str_str (b : Bool) (k : Nat) (i : Str) : isiV "str" ⟨b, k, .str i⟩ = .ok (sh (.bl true)) := show isiN "str" "str" = _ from isiN_of (by decide +kernel)
@[simp] theorem isi_str_lst (b : Bool) (k : Nat) (i : List D) : isiV "str" ⟨b, k, .lst i⟩ = .ok (sh (.bl false)) := show isiN "str" "list" = _ from isiN_of (by decide +kernel)
@[simp] theorem isi_str_tup (b : Bool) (k : Nat) (i : List D) : isiV "str" ⟨b, k, .tup i⟩ = .ok (sh (.bl false)) := show isiN "str" "tuple" = _ from isiN_of (by decide +kernel)
@[simp] theorem isi_list_int (b : Bool) (k : Nat) (i : Int) : isiV "list" ⟨b, k, .int i⟩ = .ok (sh (.bl false)) := show isiN "list" "int" = _ from isiN_of (by decide +kernel)
@[simp] theorem isi_list_bool (b : Bool) (k : Nat) (i : Bool) : isiV "list" ⟨b, k, .bl i⟩ = .ok (sh (.bl false)) := show isiN "list" "bool" = _ from isiN_of (by decide +kernel)
@[simp] theorem isi_list_non (b : Bool) (k : Nat)  : isiV "list" ⟨b, k, .non⟩ = .ok (sh (.bl false)) := show isiN "list" "NoneType" = _ from isiN_of (by decide +kernel)
@[simp] theorem isi_list_str (b : Bool) (k : Nat) (i : Str) : isiV "list" ⟨b, k, .str i⟩ = .ok (sh (.bl false)) := show isiN "list" "str" = _ from isiN_of (by decide +kernel)
@[simp] theorem isi_list_lst (b : Bool) (k : Nat) (i : List D) : isiV "list" ⟨b, k, .lst i⟩ = .ok (sh (.bl true)) := show isiN "list" "list" = _ from isiN_of (by decide +kernel)
@[simp] theorem isi_list_tup (b : Bool) (k : Nat) (i : List D) : isiV "list" ⟨b, k, .tup i⟩ = .ok (sh (.bl false)) := show isiN "list" "tuple" = _ from isiN_of (by decide +kernel)
@[simp] theorem isi_tuple_int (b : Bool) (k : Nat) (i : Int) : isiV "tuple" ⟨b, k, .int i⟩ = .ok (sh (.bl false)) := show isiN "tuple" "int" = _ from isiN_of (by decide +kernel)
@[simp] theorem isi_tuple_bool (b : Bool) (k : Nat) (i : Bool) : isiV "tuple" ⟨b, k, .bl i⟩ = .ok (sh (.bl false)) := show isiN "tuple" "bool" = _ from isiN_of (by decide +kernel)
@[simp] theorem isi_tuple_non (b : Bool) (k : Nat)  : isiV "tuple" ⟨b, k, .non⟩ = .ok (sh (.bl false)) := show isiN "tuple" "NoneType" = _ from isiN_of (by decide +kernel)
@[simp] theorem isi_tuple_str (b : Bool) (k : Nat) (i : Str) : isiV "tuple" ⟨b, k, .str i⟩ = .ok (sh (.bl false)) := show isiN "tuple" "str" = _ from isiN_of (by decide +kernel)
@[simp] theorem isi_tuple_lst (b : Bool) (k : Nat) (i : List D) : isiV "tuple" ⟨b, k, .lst i⟩ = .ok (sh (.bl false)) := show isiN "tuple" "list" = _ from isiN_of (by decide +kernel)
@[simp] theorem isi_tuple_tup (b : Bool) (k : Nat) (i : List D) : isiV "tuple" ⟨b, k, .tup i⟩ = .ok (sh (.bl true)) := show isiN "tuple" "tuple" = _ from isiN_of (by decide +kernel)
/-! ### + and * of lists, of texts; slices -/
theorem lsRd {pins : List (Addr × Obj)} {σ : L2.St} {H : Hp} {s : Shared} {p : Addr} {xs : List V} (I : Inv X pins σ H s) (h : Rd H p (.lst xs)) :
    xs.length ≤ sizeLine ∧ ∃ (its : List Value) (n : Nat), Vals xs its ∧ xs.length = its.length ∧ s.heap.get? p = some { cls := .type "list", data := .seq its.toArray n } := by
  obtain ⟨z, its, n, r, e⟩ := h.ok I.hok
  exact ⟨z, its, n, r, r.length, e⟩
def rCatS : R2 := fun x y H Q => ∃ l b xs zs, x = .ref l ∧ y = .ref b ∧ Rd H l (.lst xs) ∧ Rd H b (.lst zs) ∧ xs.length + zs.length ≤ sizeLine ∧ ∀ p, H p = none → Q (.ref p) (upd H p (.lst (xs ++ zs)))
theorem op_catS : OpR X (binaryOp .Add) rCatS := by
  intro pins s σ H x y v u Q I rx ry h
  obtain ⟨l, b, xs, zs, rfl, rfl, hH, hB, hz, q⟩ := h
  cases rx
  cases ry
  obtain ⟨z, its, n, r, hl, e⟩ := lsRd I hH
  obtain ⟨z2, its2, n2, r2, hl2, e2⟩ := lsRd I hB
  refine PySem.P.add_list e e2 ?_ (by rw [List.size_toArray, List.size_toArray]; omega)
  have ea : its.toArray ++ its2.toArray = (its ++ its2).toArray := by simp
  rw [ea]
  exact ⟨.ref _, _, I.lnew (t' := s.toks) (r.append r2) (by rw [List.length_append]; omega), rfl, q _ I.fresh⟩
/-- two values, borrowed or not, to a new list or a value -/
def OpA (K : PySem.W.Frag) (cl : Str → Addr) (r : R2) (f : Vl → Vl → R Vl) : Prop := ∀ (x y : Vl) (v u : V) (F1 F2 : Addr → Prop) (G H : Hp) (Q : VK) (W : WX) (σ : L2.St), Same G H → Own K cl H G x.k v x.d F1 → Own K cl H G y.k u y.d F2 →
  PostG cl W σ G H (PV K cl Q) (f x y) → (∀ c, f x y ≠ .ex c) → r v u H Q
def eO2 (f : Vl → Vl → R Vl) (a b : EF) : EF := fun ρ => (a ρ).bind fun x => (b ρ).bind fun y => f x y
@[simp] theorem eO2_eq (f : Vl → Vl → R Vl) (a b : EF) (ρ : Env) : eO2 f a b ρ = (a ρ).bind fun x => (b ρ).bind fun y => f x y := rfl
theorem semO2 {K : PySem.W.Frag} {r : R2} {f : Vl → Vl → R Vl} (hf : OpA K cl r f) (hx : ∀ x y c, f x y ≠ .ex c) {ta tb : TE} {a b : EF} (ha : SemE K cl W ta a) (hb : SemE K cl W tb b) : SemE K cl W (tOp r ta tb) (eO2 f a b) := by
  intro ρ σ G H Fs env Q hq
  refine ha.use env PV.mono hq fun x v G1 H1 F1 _ p1 env1 o1 f1 hq1 => ?_
  refine hb.use env1 PV.mono hq1 fun y u G2 H2 F2 _ p2 env2 o2 f2 hq2 => ?_
  exact hf x y v u F1 F2 G2 H2 Q W σ env2.gh (o1.px p2) o2 hq2 (hx x y)
theorem ev_o2 {a b : Expr} {fa fb : EF} {op : Operator} {r : R2} {f : Vl → Vl → R Vl} (ho : OpR X (binaryOp op) r) (hf : OpA X.K cl r f) (hx : ∀ x y c, f x y ≠ .ex c) (ha : EvE X cl W a fa) (hb : EvE X cl W b fb) : EvE X cl W (.BinOp a op b pos) (eO2 f fa fb) := by
  obtain ⟨ta, pa, sa⟩ := ha
  obtain ⟨tb, pb, sb⟩ := hb
  exact ⟨_, pe_op ho pa pb, semO2 hf hx sa sb⟩
def catV (x y : Vl) : R Vl := match x.d, y.d with
  | .lst a, .lst b => if x.k ≤ 1 ∧ y.k ≤ 1 ∧ a.length + b.length ≤ 10000 then .ok ⟨false, 1, .lst (a ++ b)⟩ else .bad
  | _, _ => .bad
@[simp] theorem catV_eq (b c : Bool) (k l : Nat) (xs ys : List D) : catV ⟨b, k, .lst xs⟩ ⟨c, l, .lst ys⟩ = if k ≤ 1 ∧ l ≤ 1 ∧ xs.length + ys.length ≤ 10000 then .ok ⟨false, 1, .lst (xs ++ ys)⟩ else .bad := rfl
theorem RepL.app {cl : Str → Addr} {K : PySem.W.Frag} {G : Hp} {vs us : List V} {ds es : List D} (h : RepL K cl G vs ds) (h2 : RepL K cl G us es) : RepL K cl G (vs ++ us) (ds ++ es) := by
  refine ⟨by simp [h.1, h2.1], fun i v d e1 e2 => ?_⟩
  by_cases hi : i < vs.length
  · rw [List.getElem?_append_left hi] at e1
    rw [List.getElem?_append_left (by rw [← h.1]; exact hi)] at e2
    exact h.2 i v d e1 e2
  · rw [List.getElem?_append_right (by omega)] at e1
    rw [List.getElem?_append_right (by rw [← h.1]; omega), ← h.1] at e2
    exact h2.2 _ v d e1 e2
theorem oa_cat {K : PySem.W.Frag} : OpA K cl rCatS catV := by
  intro x y v u F1 F2 G H Q W σ gh o1 o2 hq _
  obtain ⟨b, k, d⟩ := x
  obtain ⟨c, l, e⟩ := y
  cases d with
  | lst xs =>
    cases e with
    | lst ys =>
      rw [catV_eq] at hq
      by_cases h : k ≤ 1 ∧ l ≤ 1 ∧ xs.length + ys.length ≤ 10000
      · rw [if_pos h] at hq
        obtain ⟨p, vs, rfl, hS, rl⟩ := Own.flat h.1 o1 gh
        obtain ⟨p2, vs2, rfl, hS2, rl2⟩ := Own.flat h.2.1 o2 gh
        exact ⟨p, p2, vs, vs2, rfl, rfl, hS, hS2, by rw [rl.1, rl2.1]; exact le_line2 h.2.2, fun q hl => hq _ G _ _ (px_new gh hl) (own1 upd_same (rl.app rl2)) (foo1 gh hl)⟩
      · rw [if_neg h] at hq
        exact hq.elim
    | _ => exact hq.elim
  | _ => exact hq.elim
theorem catV_x (x y : Vl) (c : Str) : catV x y ≠ .ex c := by
  obtain ⟨b, k, d⟩ := x
  obtain ⟨b2, l, e⟩ := y
  cases d <;> cases e <;> intro h <;> first | cases h | skip
  rw [catV_eq] at h
  split at h <;> cases h
/-- texts: + -/
def scatD : D → D → Option D
  | .str a, .str b => if a.length + b.length ≤ 10000 then some (.str (a ++ b)) else none
  | _, _ => none
@[simp] theorem scatD_eq (a b : Str) : scatD (.str a) (.str b) = if a.length + b.length ≤ 10000 then some (.str (a ++ b)) else none := rfl
theorem os_scat {K : PySem.W.Frag} : OpS K cl (fun x y H Q => ∃ i j, x = .str i ∧ y = .str j ∧ i.length + j.length ≤ sizeLine ∧ Q (.str (i ++ j)) H) scatD := by
  intro k l x y dx dy d F1 F2 G H Q gh o1 o2 e q
  cases dx with
  | str i =>
    cases dy with
    | str j =>
      rw [scatD_eq] at e
      by_cases h : i.length + j.length ≤ 10000
      · rw [if_pos h] at e
        cases e
        exact ⟨i, j, o1.str, o2.str, le_line2 h, q _ (.str _)⟩
      · rw [if_neg h] at e
        cases e
    | _ => cases e
  | _ => cases e
/-- xs[a:b] of a list -/
def cutD (xs : List D) (lo hi : Option Int) : List D := (xs.drop (HT.sIx xs.length 0 lo)).take (HT.sIx xs.length xs.length hi - HT.sIx xs.length 0 lo)
def OF := Env → R (Option Int)
def oNone : OF := fun _ => .ok none
def oSome (f : EF) : OF := fun ρ => (f ρ).bind fun x => match x.d with
  | .int i => .ok (some i)
  | _ => .bad
@[simp] theorem oNone_eq (ρ : Env) : oNone ρ = .ok none := rfl
@[simp] theorem oSome_eq (f : EF) (ρ : Env) : oSome f ρ = (f ρ).bind fun x => match x.d with
  | .int i => .ok (some i)
  | _ => .bad := rfl
def PO2 (Q : Option Int → Hp → Prop) (b : Option Int) (G H : Hp) : Prop := ∀ G' H', Px G H G' H' → Q b H'
theorem PO2.mono {Q : Option Int → Hp → Prop} : Mono (PO2 Q) := fun x G H G' H' p h G2 H2 p2 => h G2 H2 (p.trans p2)
def SemO (K : PySem.W.Frag) (cl : Clx) (W : WX) (t : TO) (F : OF) : Prop := ∀ ρ σ G H Fs, EnvR K cl ρ σ G H Fs → ∀ Q, PostG cl W σ G H (PO2 Q) (F ρ) → t σ H Q
def EvO (X : Cx) (cl : Clx) (W : WX) (e : Option Expr) (F : OF) : Prop := ∃ t, PO X e t ∧ SemO X.K cl W t F
theorem eo_none : EvO X cl W none oNone := ⟨_, po_none, fun ρ σ G H Fs env Q hq => hq G H (Px.refl env.gh)⟩
theorem eo_some {e : Expr} {f : EF} (h : EvE X cl W e f) : EvO X cl W (some e) (oSome f) := by
  obtain ⟨t, p, s⟩ := h
  refine ⟨_, po_some p, fun ρ σ G H Fs env Q hq => ?_⟩
  refine s.use env PO2.mono hq fun x v G1 H1 F1 _ p1 env1 o1 f1 hq1 => ?_
  obtain ⟨b, k, d⟩ := x
  cases d with
  | int i => exact ⟨i, o1.int, hq1 G1 H1 (Px.refl env1.gh)⟩
  | _ => exact hq1.elim
theorem SemO.use {K : PySem.W.Frag} {ρ : Env} {σ : L2.St} {G H : Hp} {Fs : Foot} {t : TO} {F : OF} (h : SemO K cl W t F) (env : EnvR K cl ρ σ G H Fs) {α : Type} {g : Option Int → R α} {P : α → Hp → Hp → Prop} (hm : Mono P) (hq : PostG cl W σ G H P ((F ρ).bind g)) {C : Option Int → Hp → Prop}
    (step : ∀ x G' H', F ρ = .ok x → Px G H G' H' → EnvR K cl ρ σ G' H' Fs → PostG cl W σ G' H' P (g x) → C x H') : t σ H C := by
  refine h ρ σ G H Fs env C ?_
  cases e : F ρ with
  | ok x =>
    rw [e] at hq
    exact fun G' H' p => step x G' H' e p (env.px p) (PostG.mono hm p hq)
  | ex c =>
    rw [e] at hq
    exact hq
  | bad =>
    rw [e] at hq
    exact hq
def cutL (x : Vl) (lo hi : Option Int) : R Vl := match x.d with
  | .lst ds => if x.k ≤ 1 then .ok ⟨false, 1, .lst (cutD ds lo hi)⟩ else .bad
  | _ => .bad
@[simp] theorem cutL_0 (b : Bool) (ds : List D) (lo hi : Option Int) : cutL ⟨b, 0, .lst ds⟩ lo hi = .ok ⟨false, 1, .lst (cutD ds lo hi)⟩ := rfl
@[simp] theorem cutL_1 (b : Bool) (ds : List D) (lo hi : Option Int) : cutL ⟨b, 1, .lst ds⟩ lo hi = .ok ⟨false, 1, .lst (cutD ds lo hi)⟩ := rfl
def eCut (a : EF) (lo hi : OF) : EF := fun ρ => (a ρ).bind fun x => (lo ρ).bind fun l => (hi ρ).bind fun h => cutL x l h
@[simp] theorem eCut_eq (a : EF) (lo hi : OF) (ρ : Env) : eCut a lo hi ρ = (a ρ).bind fun x => (lo ρ).bind fun l => (hi ρ).bind fun h => cutL x l h := rfl
theorem RepL.cut {cl : Str → Addr} {K : PySem.W.Frag} {G : Hp} {vs : List V} {ds : List D} (h : RepL K cl G vs ds) (lo hi : Option Int) : RepL K cl G (cutV vs lo hi) (cutD ds lo hi) := by
  unfold cutV cutD
  rw [h.1]
  refine ⟨by simp [h.1], fun i v d e1 e2 => ?_⟩
  rw [List.getElem?_take] at e1 e2
  split at e1
  · rename_i hi
    rw [if_pos hi] at e2
    rw [List.getElem?_drop] at e1 e2
    exact h.2 _ v d e1 e2
  · cases e1
theorem ev_cut {a : Expr} {lo hi : Option Expr} {p2 : Pos} {f : EF} {l u : OF} (ha : EvE X cl W a f) (hl : EvO X cl W lo l) (hu : EvO X cl W hi u) : EvE X cl W (.Subscript a (.Slice lo hi none p2) pos) (eCut f l u) := by
  obtain ⟨t, p, s⟩ := ha
  obtain ⟨t1, q1, s1⟩ := hl
  obtain ⟨t2, q2, s2⟩ := hu
  refine ⟨_, pe_slice sl_list p q1 q2, fun ρ σ G H Fs env Q hq => ?_⟩
  refine s.use env PV.mono hq fun x v G1 H1 F1 _ p1 env1 o1 f1 hq1 => ?_
  refine s1.use env1 PV.mono hq1 fun i G2 H2 _ p2 env2 hq2 => ?_
  refine s2.use env2 PV.mono hq2 fun j G3 H3 _ p3 env3 hq3 => ?_
  have o3 := (o1.px p2).px p3
  obtain ⟨b, k, d⟩ := x
  cases d with
  | lst ds =>
    by_cases hk : k ≤ 1
    · have e1 : cutL ⟨b, k, .lst ds⟩ i j = .ok ⟨false, 1, .lst (cutD ds i j)⟩ := if_pos hk
      rw [e1] at hq3
      obtain ⟨p, vs, rfl, hS, rl⟩ := Own.flat hk o3 env3.gh
      exact ⟨p, vs, rfl, .inl hS, fun q hl => hq3 _ G3 _ _ (px_new env3.gh hl) (own1 upd_same (rl.cut i j)) (foo1 env3.gh hl)⟩
    · have e1 : cutL ⟨b, k, .lst ds⟩ i j = .bad := if_neg hk
      rw [e1] at hq3
      exact hq3.elim
  | _ => exact hq3.elim
end
end B
namespace B
open PySem L2
section
variable {X : Cx} {cl : Clx} {W : WX} {pos : Pos}
/-! ### operators by what they meet -/
def ofD {α : Type} (o : Option D) : R Vl := ofO o
/-- + -/
def addV (x y : Vl) : R Vl := match x.d, y.d with
  | .int i, .int j => .ok (sh (.int (i + j)))
  | .str a, .str b => ofO (scatD (.str a) (.str b))
  | .lst _, .lst _ => catV x y
  | _, _ => .bad
@[simp] theorem addV_i (b c : Bool) (k l : Nat) (i j : Int) : addV ⟨b, k, .int i⟩ ⟨c, l, .int j⟩ = .ok (sh (.int (i + j))) := rfl
@[simp] theorem addV_s (b c : Bool) (k l : Nat) (i j : Str) : addV ⟨b, k, .str i⟩ ⟨c, l, .str j⟩ = ofO (scatD (.str i) (.str j)) := rfl
@[simp] theorem addV_l (b c : Bool) (k l : Nat) (i j : List D) : addV ⟨b, k, .lst i⟩ ⟨c, l, .lst j⟩ = catV ⟨b, k, .lst i⟩ ⟨c, l, .lst j⟩ := rfl
abbrev rAddA : R2 := fun x y H Q => (∃ i j, x = .int i ∧ y = .int j ∧ Q (.int (i + j)) H) ∨ (∃ i j, x = .str i ∧ y = .str j ∧ i.length + j.length ≤ sizeLine ∧ Q (.str (i ++ j)) H) ∨ rCatS x y H Q
theorem op_addA : OpR X (binaryOp .Add) rAddA := OpR.or op_add (OpR.or op_add_str op_catS)
theorem ofO_post {K : PySem.W.Frag} {σ : L2.St} {G H : Hp} {Q : VK} {o : Option D} (h : PostG cl W σ G H (PV K cl Q) (ofO o)) (gh : Same G H) : ∃ d, o = some d ∧ ∀ v, Rep K cl G v d → Q v H := by
  cases o with
  | none => exact h.elim
  | some d => exact ⟨d, rfl, fun v r => h v G H (fun _ => False) (Px.refl gh) r noFoo⟩
theorem oa_add {K : PySem.W.Frag} : OpA K cl rAddA addV := by
  intro x y v u F1 F2 G H Q W σ gh o1 o2 hq hx
  obtain ⟨b, k, d⟩ := x
  obtain ⟨c, l, e⟩ := y
  cases d with
  | int i =>
    cases e with
    | int j => exact .inl ⟨i, j, o1.int, o2.int, hq _ G H (fun _ => False) (Px.refl gh) (Rep.int _) noFoo⟩
    | _ => exact hq.elim
  | str i =>
    cases e with
    | str j =>
      obtain ⟨d, e, q⟩ := ofO_post hq gh
      exact .inr (.inl (os_scat (K := K) (k := k) (l := l) gh o1 o2 e q))
    | _ => exact hq.elim
  | lst i =>
    cases e with
    | lst j => exact .inr (.inr (oa_cat _ _ v u F1 F2 G H Q W σ gh o1 o2 hq hx))
    | _ => exact hq.elim
  | _ => exact hq.elim
theorem addV_x (x y : Vl) (c : Str) : addV x y ≠ .ex c := by
  obtain ⟨b, k, d⟩ := x
  obtain ⟨b2, l, e⟩ := y
  cases d <;> cases e <;> intro h <;> first | cases h | skip
  · rw [addV_s] at h
    rw [scatD_eq] at h
    split at h <;> cases h
  · rw [addV_l] at h
    exact catV_x _ _ _ h
theorem ev_add {a b : Expr} {fa fb : EF} (ha : EvE X cl W a fa) (hb : EvE X cl W b fb) : EvE X cl W (.BinOp a .Add b pos) (eO2 addV fa fb) := ev_o2 op_addA oa_add addV_x ha hb
/-- values by an operator on data alone -/
def o2D (f : D → D → Option D) (x y : Vl) : R Vl := ofO (f x.d y.d)
@[simp] theorem o2D_eq (f : D → D → Option D) (b c : Bool) (k l : Nat) (x y : D) : o2D f ⟨b, k, x⟩ ⟨c, l, y⟩ = ofO (f x y) := rfl
theorem ev_sub {a b : Expr} {fa fb : EF} (ha : EvE X cl W a fa) (hb : EvE X cl W b fb) : EvE X cl W (.BinOp a .Sub b pos) (eOp subD fa fb) := ev_op op_sub os_sub ha hb
theorem ev_fdiv {a b : Expr} {fa fb : EF} (ha : EvE X cl W a fa) (hb : EvE X cl W b fb) : EvE X cl W (.BinOp a .FloorDiv b pos) (eOp fdivD fa fb) := ev_op op_fdivW os_fdiv ha hb
theorem ev_mod {a b : Expr} {fa fb : EF} (ha : EvE X cl W a fa) (hb : EvE X cl W b fb) : EvE X cl W (.BinOp a .Mod b pos) (eOp modD fa fb) := ev_op op_mod os_mod ha hb
theorem ev_pow {a b : Expr} {fa fb : EF} (ha : EvE X cl W a fa) (hb : EvE X cl W b fb) : EvE X cl W (.BinOp a .Pow b pos) (eOp powD fa fb) := ev_op op_pow os_pow ha hb
/-- * : ints, a list by an int, a text by an int -/
def rRepS : R2 := fun x y H Q => ∃ l k xs, x = .ref l ∧ y = .int k ∧ H l = some (.lst xs) ∧ -(2 ^ 63) ≤ k ∧ k < 2 ^ 63 ∧ xs.length * k.toNat ≤ sizeLine ∧ ∀ p, H p = none → Q (.ref p) (upd H p (.lst (List.replicate k.toNat xs).flatten))
noncomputable def repV (x y : Vl) : R Vl := match x, y.d with
  | ⟨false, 1, .lst a⟩, .int k => if small62 k ∧ a.length * k.toNat ≤ 10000 then .ok ⟨false, 1, .lst (List.replicate k.toNat a).flatten⟩ else .bad
  | _, _ => .bad
@[simp] theorem repV_eq (c : Bool) (l : Nat) (a : List D) (k : Int) : repV ⟨false, 1, .lst a⟩ ⟨c, l, .int k⟩ = if small62 k ∧ a.length * k.toNat ≤ 10000 then .ok ⟨false, 1, .lst (List.replicate k.toNat a).flatten⟩ else .bad := rfl
noncomputable def mulV (x y : Vl) : R Vl := match x.d, y.d with
  | .int i, .int j => ofO (mulD (.int i) (.int j))
  | .lst _, .int _ => repV x y
  | _, _ => .bad
@[simp] theorem mulV_i (b c : Bool) (k l : Nat) (i j : Int) : mulV ⟨b, k, .int i⟩ ⟨c, l, .int j⟩ = ofO (if mulOk i j then some (.int (i * j)) else none) := rfl
@[simp] theorem mulV_l (b c : Bool) (k l : Nat) (a : List D) (j : Int) : mulV ⟨b, k, .lst a⟩ ⟨c, l, .int j⟩ = repV ⟨b, k, .lst a⟩ ⟨c, l, .int j⟩ := rfl
abbrev rMulA : R2 := fun x y H Q => rI mulOk (fun i j => .int (i * j)) x y H Q ∨ rRep x y H Q
theorem op_mulAA : OpR X (binaryOp .Mult) rMulA := OpR.or op_mulA op_rep
theorem RepL.rep {cl : Str → Addr} {K : PySem.W.Frag} {G : Hp} {vs : List V} {ds : List D} (h : RepL K cl G vs ds) : ∀ n : Nat, RepL K cl G (List.replicate n vs).flatten (List.replicate n ds).flatten
  | 0 => RepL.nil
  | n + 1 => by
    rw [List.replicate_succ, List.replicate_succ, List.flatten_cons, List.flatten_cons]
    exact h.app (RepL.rep h n)
theorem oa_mul {K : PySem.W.Frag} : OpA K cl rMulA mulV := by
  intro x y v u F1 F2 G H Q W σ gh o1 o2 hq hx
  obtain ⟨b, k, d⟩ := x
  obtain ⟨c, l, e⟩ := y
  cases d with
  | int i =>
    cases e with
    | int j =>
      obtain ⟨d, e, q⟩ := ofO_post hq gh
      exact .inl (os_mul (K := K) (k := k) (l := l) gh o1 o2 e q)
    | _ => exact hq.elim
  | lst a =>
    cases e with
    | int j =>
      cases b with
      | true => exact hq.elim
      | false =>
        match k, o1, hq with
        | 0, o1, hq => exact hq.elim
        | 1, o1, hq =>
          have hq : PostG cl W σ G H (PV K cl Q) (if small62 j ∧ a.length * j.toNat ≤ 10000 then .ok ⟨false, 1, .lst (List.replicate j.toNat a).flatten⟩ else .bad) := hq
          by_cases h : small62 j ∧ a.length * j.toNat ≤ 10000
          · rw [if_pos h] at hq
            obtain ⟨p, vs, Fs, rfl, hp, fp, hl, hr, hs, hd⟩ := o1
            have hj := h.1
            unfold small62 at hj
            have ej := o2.int
            exact .inr ⟨p, j, vs, rfl, ej, hp, by omega, by omega, by rw [hl]; exact le_line2 h.2, fun q hl' => hq _ G _ _ (px_new gh hl') (own1 upd_same ((show RepL K cl G vs a from ⟨hl, hr⟩).rep _)) (foo1 gh hl')⟩
          · rw [if_neg h] at hq
            exact hq.elim
        | k + 2, o1, hq => exact hq.elim
    | _ => exact hq.elim
  | _ => exact hq.elim
theorem mulV_x (x y : Vl) (c : Str) : mulV x y ≠ .ex c := by
  obtain ⟨b, k, d⟩ := x
  obtain ⟨b2, l, e⟩ := y
  cases d <;> cases e <;> intro h <;> first | cases h | skip
  · rw [mulV_i] at h
    split at h <;> cases h
  · rename_i a j
    cases b with
    | true => cases h
    | false =>
      match k, h with
      | 0, h => cases h
      | 1, h =>
        have h : (if small62 j ∧ a.length * j.toNat ≤ 10000 then R.ok (⟨false, 1, .lst (List.replicate j.toNat a).flatten⟩ : Vl) else R.bad) = R.ex c := h
        split at h <;> cases h
      | k + 2, h => cases h
theorem ev_mul {a b : Expr} {fa fb : EF} (ha : EvE X cl W a fa) (hb : EvE X cl W b fb) : EvE X cl W (.BinOp a .Mult b pos) (eO2 mulV fa fb) := ev_o2 op_mulAA oa_mul mulV_x ha hb
/-! comparisons of ints -/
theorem ev_gt {a b : Expr} {fa fb : EF} (ha : EvE X cl W a fa) (hb : EvE X cl W b fb) : EvE X cl W (.Compare a [.Gt] [b] pos) (eOp gtD fa fb) := ev_cmp op_gt os_gt ha hb (nomark _)
theorem et_lt {a b : Expr} {fa fb : EF} (ha : EvE X cl W a fa) (hb : EvE X cl W b fb) : EvT X cl W (.Compare a [.Lt] [b] pos) (tV (eOp ltD fa fb)) := et_cmp op_lt os_lt ha hb (nomark _)
theorem et_gt {a b : Expr} {fa fb : EF} (ha : EvE X cl W a fa) (hb : EvE X cl W b fb) : EvT X cl W (.Compare a [.Gt] [b] pos) (tV (eOp gtD fa fb)) := et_cmp op_gt os_gt ha hb (nomark _)
theorem et_ge {a b : Expr} {fa fb : EF} (ha : EvE X cl W a fa) (hb : EvE X cl W b fb) : EvT X cl W (.Compare a [.GtE] [b] pos) (tV (eOp geD fa fb)) := et_cmp op_ge os_ge ha hb (nomark _)
theorem et_isN {a b : Expr} {fa fb : EF} (ha : EvE X cl W a fa) (hb : EvE X cl W b fb) : EvT X cl W (.Compare a [.Is] [b] pos) (tV (eOp isD fa fb)) := et_cmp op_isN os_isN ha hb (nomark _)
/-! == and != of data -/
mutual
def toPy : D → PyData
  | .non => .none
  | .bl b => .bool b
  | .int i => .int i
  | .str s => .str s
  | .lst xs => .list (toPyL xs)
  | .tup xs => .tuple (toPyL xs)
  | .obj _ _ => .none
  | .exo _ => .none
  | .dct _ => .none
  | .dci _ => .none
def toPyL : List D → List PyData
  | [] => []
  | d :: ds => toPy d :: toPyL ds
end
mutual
def noObj : D → Bool
  | .obj _ _ => false
  | .exo _ => false
  | .dct _ => false
  | .dci _ => false
  | .lst xs => noObjL xs
  | .tup xs => noObjL xs
  | _ => true
def noObjL : List D → Bool
  | [] => true
  | d :: ds => noObj d && noObjL ds
end
theorem toPyL_len : ∀ ds : List D, (toPyL ds).length = ds.length
  | [] => rfl
  | d :: ds => by simp [toPyL, toPyL_len ds]
theorem toPyL_get : ∀ (ds : List D) (i : Nat), (toPyL ds)[i]? = ds[i]?.map toPy
  | [], i => by simp [toPyL]
  | d :: ds, 0 => by simp [toPyL]
  | d :: ds, i + 1 => by simp [toPyL, toPyL_get ds i]
theorem noObjL_get : ∀ {ds : List D} {i : Nat} {d : D}, noObjL ds = true → ds[i]? = some d → noObj d = true
  | [], i, d, _, h => by simp at h
  | e :: ds, 0, d, hn, h => by
    cases h
    simp only [noObjL, Bool.and_eq_true] at hn
    exact hn.1
  | e :: ds, i + 1, d, hn, h => by
    simp only [noObjL, Bool.and_eq_true] at hn
    exact noObjL_get hn.2 (by simpa using h)
theorem dpAll_of {K : PySem.W.Frag} {H : Hp} : ∀ {vs : List V} {ps : List PyData}, vs.length = ps.length → (∀ (i : Nat) v p, vs[i]? = some v → ps[i]? = some p → Dp K H v p) → DpAll K H vs ps
  | [], [], _, _ => .nil
  | v :: vs, p :: ps, hl, h => .cons (h 0 v p rfl rfl) (dpAll_of (by simpa using hl) fun i v' p' h1 h2 => h (i + 1) v' p' (by simpa using h1) (by simpa using h2))
  | [], _ :: _, hl, _ => by simp at hl
  | _ :: _, [], hl, _ => by simp at hl
theorem dp_rep {K : PySem.W.Frag} {G H : Hp} {v : V} {d : D} (gh : Same G H) (r : Rep K cl G v d) : noObj d = true → Dp K H v (toPy d) := by
  induction r with
  | non => exact fun _ => .non
  | bl b => exact fun _ => .bl b
  | int i => exact fun _ => .int i
  | str i => exact fun _ => .str i
  | lst h hl _ ih =>
    intro hn
    refine .lst (.inl (rdEx gh h)) (dpAll_of (by rw [toPyL_len]; exact hl) fun i v p h1 h2 => ?_)
    rw [toPyL_get] at h2
    cases e : (_ : List D)[i]? with
    | none => rw [e] at h2; cases h2
    | some d =>
      rw [e] at h2
      cases h2
      exact ih i v d h1 e (noObjL_get hn e)
  | tup h hl _ ih =>
    intro hn
    refine .tup (.inl (rdEx gh h)) (dpAll_of (by rw [toPyL_len]; exact hl) fun i v p h1 h2 => ?_)
    rw [toPyL_get] at h2
    cases e : (_ : List D)[i]? with
    | none => rw [e] at h2; cases h2
    | some d =>
      rw [e] at h2
      cases h2
      exact ih i v d h1 e (noObjL_get hn e)
  | obj h hl _ ih => intro hn; cases hn
  | exo h _ => intro hn; cases hn
  | dct h hl hk _ _ ih1 ih2 => intro hn; cases hn
  | dci h => intro hn; cases hn
theorem dp_own {K : PySem.W.Frag} {G H : Hp} (gh : Same G H) : ∀ {k : Nat} {v : V} {d : D} {F : Addr → Prop}, Own K cl H G k v d F → noObj d = true → Dp K H v (toPy d)
  | 0, v, d, F, o, hn => dp_rep gh o hn
  | k + 1, v, .lst ds, F, o, hn => by
    obtain ⟨p, vs, Fs, rfl, hp, fp, hl, hr, hs, hd⟩ := o
    refine .lst (.inl (.inl hp)) (dpAll_of (by rw [toPyL_len]; exact hl) fun i v p h1 h2 => ?_)
    rw [toPyL_get] at h2
    cases e : ds[i]? with
    | none => rw [e] at h2; cases h2
    | some d =>
      rw [e] at h2
      cases h2
      exact dp_own gh (hr i v d h1 e) (noObjL_get hn e)
  | k + 1, v, .obj C fs, F, o, hn => by cases hn
  | k + 1, v, .non, F, o, hn => dp_rep gh o hn
  | k + 1, v, .bl _, F, o, hn => dp_rep gh o hn
  | k + 1, v, .int _, F, o, hn => dp_rep gh o hn
  | k + 1, v, .str _, F, o, hn => dp_rep gh o hn
  | k + 1, v, .tup ds, F, o, hn => by
    by_cases hf : flatL ds = true
    · exact dp_rep gh (o.tupF hf) hn
    · obtain ⟨p, vs, Fs, rfl, hp, fp, hl, hr, hs, hd⟩ := o.tupN hf
      refine .tup (.inl (.inl hp)) (dpAll_of (by rw [toPyL_len]; exact hl) fun i v p h1 h2 => ?_)
      rw [toPyL_get] at h2
      cases e : ds[i]? with
      | none => rw [e] at h2; cases h2
      | some d =>
        rw [e] at h2
        cases h2
        exact dp_own gh (hr i v d h1 e) (noObjL_get hn e)
  | k + 1, v, .exo _, F, o, hn => by cases hn
  | k + 1, v, .dct _, F, o, hn => by cases hn
  | k + 1, v, .dci _, F, o, hn => by cases hn
/-- data that == takes -/
def dat (d : D) : Bool := noObj d && SeqAt.shaped (toPy d)
def eqA (x y : D) : Option Bool := match eqF x y with
  | some b => some b
  | none => if dat x && dat y then some (PyData.eqv (toPy x) (toPy y)) else none
@[simp] theorem eqA_int (i j : Int) : eqA (.int i) (.int j) = some (decide (i = j)) := rfl
@[simp] theorem eqA_str (i j : Str) : eqA (.str i) (.str j) = some (decide (i = j)) := rfl
@[simp] theorem eqA_bl (i j : Bool) : eqA (.bl i) (.bl j) = some (decide (i = j)) := rfl
theorem eqA_self {d : D} (h : dat d = true) : eqA d d = some true := by
  have hd : (dat d && dat d) = true := by rw [h]; rfl
  unfold eqA
  cases e : eqF d d with
  | some b =>
    cases d <;> first | (cases e; done) | skip
    all_goals
      simp only [eqF, Option.some.injEq, decide_true] at e
      rw [← e]
  | none =>
    dsimp only
    rw [if_pos hd, SeqAt.eqv_refl _ (SeqAt.canLay_of_shaped (Bool.and_eq_true_iff.mp h).2)]
def eqV (x y : Vl) : R Vl := match eqA x.d y.d with
  | some b => .ok (sh (.bl b))
  | none => .bad
def neV (x y : Vl) : R Vl := match eqA x.d y.d with
  | some b => .ok (sh (.bl (!b)))
  | none => .bad
@[simp] theorem eqV_i (b c : Bool) (k l : Nat) (i j : Int) : eqV ⟨b, k, .int i⟩ ⟨c, l, .int j⟩ = .ok (sh (.bl (decide (i = j)))) := rfl
@[simp] theorem neV_i (b c : Bool) (k l : Nat) (i j : Int) : neV ⟨b, k, .int i⟩ ⟨c, l, .int j⟩ = .ok (sh (.bl (!decide (i = j)))) := rfl
@[simp] theorem eqV_s (b c : Bool) (k l : Nat) (i j : Str) : eqV ⟨b, k, .str i⟩ ⟨c, l, .str j⟩ = .ok (sh (.bl (decide (i = j)))) := rfl
@[simp] theorem neV_s (b c : Bool) (k l : Nat) (i j : Str) : neV ⟨b, k, .str i⟩ ⟨c, l, .str j⟩ = .ok (sh (.bl (!decide (i = j)))) := rfl
@[simp] theorem eqV_b (b c : Bool) (k l : Nat) (i j : Bool) : eqV ⟨b, k, .bl i⟩ ⟨c, l, .bl j⟩ = .ok (sh (.bl (decide (i = j)))) := rfl
@[simp] theorem neV_b (b c : Bool) (k l : Nat) (i j : Bool) : neV ⟨b, k, .bl i⟩ ⟨c, l, .bl j⟩ = .ok (sh (.bl (!decide (i = j)))) := rfl
theorem eqV_self {b c : Bool} {k l : Nat} {d : D} (h : dat d = true) : eqV ⟨b, k, d⟩ ⟨c, l, d⟩ = .ok (sh (.bl true)) := by unfold eqV; dsimp only; rw [eqA_self h]
abbrev rEqA (K : PySem.W.Frag) : R2 := fun x y H Q => rEq x y H Q ∨ rEqD K x y H Q
abbrev rNeA (K : PySem.W.Frag) : R2 := fun x y H Q => rNe x y H Q ∨ rNeD K x y H Q
theorem oa_eq {K : PySem.W.Frag} : OpA K cl (rEqA K) eqV := by
  intro x y v u F1 F2 G H Q W σ gh o1 o2 hq hx
  obtain ⟨b, k, d⟩ := x
  obtain ⟨c, l, e⟩ := y
  unfold eqV eqA at hq
  dsimp only at hq
  cases ef : eqF d e with
  | some r =>
    rw [ef] at hq
    obtain ⟨s1, s2⟩ := eqF_of o1 o2 ef
    exact .inl ⟨s1, by rw [s2]; exact hq _ G H (fun _ => False) (Px.refl gh) (Rep.bl _) noFoo⟩
  | none =>
    rw [ef] at hq
    dsimp only at hq
    by_cases h : (dat d && dat e) = true
    · rw [if_pos h] at hq
      obtain ⟨h1, h2⟩ := Bool.and_eq_true_iff.mp h
      obtain ⟨a1, a2⟩ := Bool.and_eq_true_iff.mp h1
      obtain ⟨b1, b2⟩ := Bool.and_eq_true_iff.mp h2
      exact .inr ⟨_, _, dp_own gh o1 a1, dp_own gh o2 b1, a2, b2, hq _ G H (fun _ => False) (Px.refl gh) (Rep.bl _) noFoo⟩
    · rw [if_neg h] at hq
      exact hq.elim
theorem oa_ne {K : PySem.W.Frag} : OpA K cl (rNeA K) neV := by
  intro x y v u F1 F2 G H Q W σ gh o1 o2 hq hx
  obtain ⟨b, k, d⟩ := x
  obtain ⟨c, l, e⟩ := y
  unfold neV eqA at hq
  dsimp only at hq
  cases ef : eqF d e with
  | some r =>
    rw [ef] at hq
    obtain ⟨s1, s2⟩ := eqF_of o1 o2 ef
    exact .inl ⟨s1, by rw [s2]; exact hq _ G H (fun _ => False) (Px.refl gh) (Rep.bl _) noFoo⟩
  | none =>
    rw [ef] at hq
    dsimp only at hq
    by_cases h : (dat d && dat e) = true
    · rw [if_pos h] at hq
      obtain ⟨h1, h2⟩ := Bool.and_eq_true_iff.mp h
      obtain ⟨a1, a2⟩ := Bool.and_eq_true_iff.mp h1
      obtain ⟨b1, b2⟩ := Bool.and_eq_true_iff.mp h2
      exact .inr ⟨_, _, dp_own gh o1 a1, dp_own gh o2 b1, a2, b2, hq _ G H (fun _ => False) (Px.refl gh) (Rep.bl _) noFoo⟩
    · rw [if_neg h] at hq
      exact hq.elim
theorem eqV_x (x y : Vl) (c : Str) : eqV x y ≠ .ex c := by
  unfold eqV
  cases eqA x.d y.d <;> intro h <;> cases h
theorem neV_x (x y : Vl) (c : Str) : neV x y ≠ .ex c := by
  unfold neV
  cases eqA x.d y.d <;> intro h <;> cases h
theorem ev_eq {a b : Expr} {fa fb : EF} (hu : X.A.units + 64 < cLine) (ha : EvE X cl W a fa) (hb : EvE X cl W b fb) : EvE X cl W (.Compare a [.Eq] [b] pos) (eO2 eqV fa fb) := by
  obtain ⟨ta, pa, sa⟩ := ha
  obtain ⟨tb, pb, sb⟩ := hb
  exact ⟨_, pe_cmpR (OpR.or op_eq (op_eqD hu)) pa pb (nomark _), semO2 oa_eq eqV_x sa sb⟩
theorem et_eq {a b : Expr} {fa fb : EF} (hu : X.A.units + 64 < cLine) (ha : EvE X cl W a fa) (hb : EvE X cl W b fb) : EvT X cl W (.Compare a [.Eq] [b] pos) (tV (eO2 eqV fa fb)) := by
  obtain ⟨ta, pa, sa⟩ := ha
  obtain ⟨tb, pb, sb⟩ := hb
  exact ⟨_, pt_cmpR (OpR.or op_eq (op_eqD hu)) pa pb (nomark _), semTest (semO2 oa_eq eqV_x sa sb)⟩
theorem et_ne {a b : Expr} {fa fb : EF} (hu : X.A.units + 64 < cLine) (ha : EvE X cl W a fa) (hb : EvE X cl W b fb) : EvT X cl W (.Compare a [.NotEq] [b] pos) (tV (eO2 neV fa fb)) := by
  obtain ⟨ta, pa, sa⟩ := ha
  obtain ⟨tb, pb, sb⟩ := hb
  exact ⟨_, pt_cmpR (OpR.or op_ne (op_neD hu)) pa pb (nomark _), semTest (semO2 oa_ne neV_x sa sb)⟩
end
end B
namespace B
open PySem L2
section
variable {K : PySem.W.Frag} {cl : Clx} {W : WX} {ρ : Env} {σ : L2.St} {G H G' H' : Hp} {Fs Fs' : Foot}
/-! ### a name's own list changes -/
/-- slot i's list becomes another, at its place -/
theorem EnvR.put (e : EnvR K cl ρ σ G H Fs) {i : Nat} {ds : List D} (h : ρ[i]? = some (some (1, .lst ds))) : ∃ p vs, σ[i]? = some (some (.ref p)) ∧ H p = some (.lst vs) ∧ RepL K cl G vs ds ∧
    ∀ us es, RepL K cl G us es → EnvR K cl (ρ.set i (some (1, .lst es))) σ G (upd H p (.lst us)) Fs ∧ Sx (Un Fs) G H (Un Fs) G (upd H p (.lst us)) := by
  obtain ⟨v, hv, o⟩ := e.own i 1 _ h
  obtain ⟨p, vs, F, rfl, hp, fp, hl, hr, hs, hd⟩ := o
  refine ⟨p, vs, hv, hp, ⟨hl, hr⟩, fun us es r => ?_⟩
  have gp : G p = none := (e.dom i p fp).2
  have gh' : Same G (upd H p (.lst us)) := fun a o ho => by
    rw [upd_ne (fun z => by rw [z, gp] at ho; cases ho)]
    exact e.gh a o ho
  have th : ∀ a o, H a = some o → ∃ o', upd H p (.lst us) a = some o' := fun a o ho => by
    by_cases ha : a = p
    · subst ha; exact ⟨_, upd_same⟩
    · exact ⟨o, by rw [upd_ne ha]; exact ho⟩
  refine ⟨⟨by simp [e.len], gh', fun j k d hj => ?_, e.dis, fun j a f => ?_, e.fx⟩, ⟨Same.refl _, gh', fun a o ho n => ?_, th, fun a u => .inl u, fun a o ho => .inl ho⟩⟩
  · by_cases hji : j = i
    · subst hji
      have hlt : j < ρ.length := (List.getElem?_eq_some_iff.mp h).1
      rw [List.getElem?_set_self hlt] at hj
      cases hj
      exact ⟨_, hv, p, us, fun _ _ => False, rfl, upd_same, fp, r.1, fun i v d h1 h2 => r.2 i v d h1 h2, fun _ _ z => z.elim, fun _ _ _ z => z.elim⟩
    · rw [List.getElem?_set_ne (Ne.symm hji)] at hj
      obtain ⟨w, hw, o⟩ := e.own j k d hj
      refine ⟨w, hw, o.step (Same.refl _) fun a ob fa ha => ?_⟩
      rw [upd_ne (show a ≠ p from fun z => hji (e.dis j i a fa (by rw [z]; exact fp)))]
      exact ha
  · obtain ⟨⟨o, ho⟩, g⟩ := e.dom j a f
    exact ⟨th a o ho, g⟩
  · rw [upd_ne (show a ≠ p from fun z => n ⟨i, by rw [z]; exact fp⟩)]
    exact ho
/-- slot i's own things join the frozen part -/
theorem EnvR.fz (e : EnvR K cl ρ σ G H Fs) {i k : Nat} {d : D} (h : ρ[i]? = some (some (k, d))) : ∃ G' Fs', EnvR K cl (ρ.set i (some (0, d))) σ G' H Fs' ∧ Sx (Un Fs) G H (Un Fs') G' H := by
  classical
  obtain ⟨v, hv, o⟩ := e.own i k d h
  have gg : Same G (fun a => if Fs i a then H a else G a) := fun a o ho => by
    by_cases f : Fs i a
    · rw [(e.dom i a f).2] at ho; cases ho
    · simp only [if_neg f]; exact ho
  have gh' : Same (fun a => if Fs i a then H a else G a) H := fun a o ho => by
    by_cases f : Fs i a
    · simp only [if_pos f] at ho; exact ho
    · simp only [if_neg f] at ho; exact e.gh a o ho
  refine ⟨fun a => if Fs i a then H a else G a, fun j => if j = i then (fun _ => False) else Fs j, ⟨by simp [e.len], gh', fun j k' d' hj => ?_, fun j l a h1 h2 => ?_, fun j a f => ?_, e.fx⟩, ⟨gg, gh', fun _ _ e _ => e, fun _ o e => ⟨o, e⟩, fun a ⟨j, z⟩ => ?_, fun a o ho => ?_⟩⟩
  · by_cases hji : j = i
    · subst hji
      have hlt : j < ρ.length := (List.getElem?_eq_some_iff.mp h).1
      rw [List.getElem?_set_self hlt] at hj
      cases hj
      exact ⟨v, hv, o.rep gg fun a ob fa ha => by simp only [if_pos fa]; exact ha⟩
    · rw [List.getElem?_set_ne (Ne.symm hji)] at hj
      obtain ⟨w, hw, o⟩ := e.own j k' d' hj
      exact ⟨w, hw, by simp only [if_neg hji]; exact o.step gg fun a ob fa ha => ha⟩
  · by_cases hj : j = i
    · simp only [if_pos hj] at h1
    · by_cases hl : l = i
      · simp only [if_pos hl] at h2
      · simp only [if_neg hj] at h1
        simp only [if_neg hl] at h2
        exact e.dis j l a h1 h2
  · by_cases hj : j = i
    · simp only [if_pos hj] at f
    · simp only [if_neg hj] at f
      refine ⟨(e.dom j a f).1, ?_⟩
      have : ¬ Fs i a := fun z => hj (e.dis j i a f z)
      simp only [if_neg this]
      exact (e.dom j a f).2
  · by_cases hj : j = i
    · simp only [if_pos hj] at z
    · simp only [if_neg hj] at z
      exact .inl ⟨j, z⟩
  · by_cases f : Fs i a
    · exact .inr (.inl ⟨i, f⟩)
    · simp only [if_neg f] at ho; exact .inl ho
/-- what a name owns is frozen ahead of a statement -/
def sFz (i : Nat) (f : SF) : SF := fun ρ => match ρ[i]? with
  | some (some (_, d)) => f (ρ.set i (some (0, d)))
  | _ => .bad
theorem semFz {i : Nat} {t : TS} {f : SF} (h : SemS K cl W t f) : SemS K cl W t (sFz i f) := by
  intro ρ σ G H Fs env D hq
  unfold sFz at hq
  cases e : ρ[i]? with
  | none => rw [e] at hq; exact hq.elim
  | some s =>
    cases s with
    | none => rw [e] at hq; exact hq.elim
    | some kd =>
      obtain ⟨k, d⟩ := kd
      rw [e] at hq
      obtain ⟨G', Fs', env', s⟩ := env.fz e
      exact h _ σ G' H Fs' env' D (PostS.mono s hq)
/-- xs.append(e) and its like: slot i's list by its items and a value -/
def lsOf : Option Slot → Option (List D)
  | some (some (1, .lst ds)) => some ds
  | _ => none
@[simp] theorem lsOf_l (ds : List D) : lsOf (some (some (1, .lst ds))) = some ds := rfl
theorem lsOf_some {o : Option Slot} {ds : List D} (h : lsOf o = some ds) : o = some (some (1, .lst ds)) := by
  unfold lsOf at h
  split at h
  · cases h; rfl
  · cases h
def lsUp (i : Nat) (ρ : Env) : Option (List D) → RS
  | some es => .ok .nx (ρ.set i (some (1, .lst es)))
  | none => .bad
@[simp] theorem lsUp_some (i : Nat) (ρ : Env) (es : List D) : lsUp i ρ (some es) = .ok .nx (ρ.set i (some (1, .lst es))) := rfl
@[simp] theorem lsUp_none (i : Nat) (ρ : Env) : lsUp i ρ none = .bad := rfl
def withL (i : Nat) (ρ : Env) (g : List D → RS) : RS := match lsOf ρ[i]? with
  | some ds => g ds
  | none => .bad
def sMt (i : Nat) (g : List D → D → Option (List D)) (f : EF) : SF := fun ρ => withL i ρ fun ds => toS (f ρ) ρ fun x => toS (frz x) ρ fun y => lsUp i ρ (g ds y.d)
@[simp] theorem sMt_eq (i : Nat) (g : List D → D → Option (List D)) (f : EF) (ρ : Env) : sMt i g f ρ = withL i ρ fun ds => toS (f ρ) ρ fun x => toS (frz x) ρ fun y => lsUp i ρ (g ds y.d) := rfl
def MtL (K : PySem.W.Frag) (cl : Str → Addr) (r : V → List V → Hp → VK → Prop) (g : List D → D → Option (List D)) : Prop := ∀ (p : Addr) (vs : List V) (ds es : List D) (y : V) (d : D) (G H : Hp) (Q : VK), Same G H → H p = some (.lst vs) → RepL K cl G vs ds → Rep K cl G y d → g ds d = some es →
  (∀ us, RepL K cl G us es → Q .non (upd H p (.lst us))) → r (.ref p) [y] H Q
/-- .. without arguments: reverse, clear -/
def sMt0 (i : Nat) (g : List D → Option (List D)) : SF := fun ρ => withL i ρ fun ds => lsUp i ρ (g ds)
@[simp] theorem sMt0_eq (i : Nat) (g : List D → Option (List D)) (ρ : Env) : sMt0 i g ρ = withL i ρ fun ds => lsUp i ρ (g ds) := rfl
def MtL0 (K : PySem.W.Frag) (cl : Str → Addr) (r : V → List V → Hp → VK → Prop) (g : List D → Option (List D)) : Prop := ∀ (p : Addr) (vs : List V) (ds es : List D) (G H : Hp) (Q : VK), Same G H → H p = some (.lst vs) → RepL K cl G vs ds → g ds = some es →
  (∀ us, RepL K cl G us es → Q .non (upd H p (.lst us))) → r (.ref p) [] H Q
def appL (ds : List D) (d : D) : Option (List D) := if ds.length < 10000 then some (ds ++ [d]) else none
def extL (ds : List D) : D → Option (List D)
  | .lst es => if ds.length + es.length ≤ 10000 then some (ds ++ es) else none
  | _ => none
def revL (ds : List D) : Option (List D) := some ds.reverse
def clrL (_ : List D) : Option (List D) := some []
theorem lt_line2 {n : Nat} (h : n < 10000) : n < sizeLine := Nat.lt_trans h (by decide)
theorem ml_app : MtL K cl rAppend appL := by
  intro p vs ds es y d G H Q gh hp rl r e q
  unfold appL at e
  split at e
  · rename_i h
    cases e
    exact ⟨p, vs, y, rfl, rfl, hp, by rw [rl.1]; exact lt_line2 h, q _ (rl.app (.cons r .nil))⟩
  · cases e
def rExtS : V → List V → Hp → VK → Prop := fun x vs H Q => ∃ l b xs zs, x = .ref l ∧ vs = [.ref b] ∧ H l = some (.lst xs) ∧ Rd H b (.lst zs) ∧ xs.length + zs.length ≤ sizeLine ∧ Q .non (upd H l (.lst (xs ++ zs)))
theorem ml_ext : MtL K cl rExtS extL := by
  intro p vs ds es y d G H Q gh hp rl r e q
  cases d with
  | lst fs =>
    have e : (if ds.length + fs.length ≤ 10000 then some (ds ++ fs) else none) = some es := e
    split at e
    · rename_i h
      cases e
      obtain ⟨b, us, rfl, hS, rl2⟩ := r.lstR
      exact ⟨p, b, vs, us, rfl, rfl, hp, rdEx gh hS, by rw [rl.1, rl2.1]; exact le_line2 h, q _ (rl.app rl2)⟩
    · cases e
  | _ => cases e
theorem ml_rev : MtL0 K cl rReverse revL := by
  intro p vs ds es G H Q gh hp rl e q
  cases e
  refine ⟨p, vs, rfl, rfl, hp, q _ ⟨by simp [rl.1], fun i v d h1 h2 => ?_⟩⟩
  have hi : i < vs.length := by
    have := (List.getElem?_eq_some_iff.mp h1).1
    simpa using this
  rw [List.getElem?_reverse hi] at h1
  rw [List.getElem?_reverse (by rw [← rl.1]; exact hi), ← rl.1] at h2
  exact rl.2 _ v d h1 h2
end
section
variable {X : Cx} {cl : Clx} {W : WX} {pos : Pos}
theorem mt_extS : MtM X "list.extend" rExtS := by
  intro pins s σ H x vs v us Q I rx rv h
  obtain ⟨l, b, xs, zs, rfl, rfl, hH, hB, hz, q⟩ := h
  cases rx
  obtain ⟨u, rfl, ru⟩ := rv.one
  cases ru
  obtain ⟨z, its, n, r, hl, e⟩ := I.lstM hH
  obtain ⟨z2, its2, n2, r2, hl2, e2⟩ := lsRd I hB
  have hsz : its.toArray.size + its2.toArray.size ≤ sizeLine := by rw [List.size_toArray, List.size_toArray]; omega
  have hlong : ¬ (!its.toArray.isEmpty && Builtin.List.listTooLong (its.toArray.size + its2.toArray.size)) = true := by
    rw [notLongL hsz, Bool.and_false]
    exact Bool.false_ne_true
  refine call_meets F.slot_list_extend ⟨_, e, rfl⟩ F.entry_list_extend (F.args_list_extend_2 _ _)
    (AutoSeq1.list_extend_list_list_0 l its.toArray n b its2.toArray n2 hlong (by rw [List.size_toArray]; omega) (by omega)) ⟨e, e2, ?_⟩
  refine ⟨.non, _, I.lset (its' := its ++ its2) hH e (by simp) (r.append r2) ?_, rfl, q⟩
  rw [List.length_append]
  omega
theorem es_fz (i : Nat) {s : Stmt} {f : SF} (h : EvS X cl W s f) : EvS X cl W s (sFz i f) := by
  obtain ⟨t, p, q⟩ := h
  exact ⟨t, p, semFz q⟩
end
end B
namespace B
open PySem L2
/-! ### list comprehensions -/
def wipeE (ρ : Env) : List Nat → Env
  | [] => ρ
  | v :: vs => (wipeE ρ vs).set v none
@[simp] theorem wipeE_nil (ρ : Env) : wipeE ρ [] = ρ := rfl
@[simp] theorem wipeE_cons (ρ : Env) (v : Nat) (vs : List Nat) : wipeE ρ (v :: vs) = (wipeE ρ vs).set v none := rfl
def lcItems (g : GF) (t : TF) (e : EF) (ρ : Env) : List D → R (List D)
  | [] => .ok []
  | d :: ds => match g d ρ with
    | none => .bad
    | some ρ1 => (t ρ1).bind fun b => if b then (e ρ1).bind fun x => (frz x).bind fun y => (lcItems g t e ρ ds).bind fun r => .ok (y.d :: r) else lcItems g t e ρ ds
@[simp] theorem lcItems_nil (g : GF) (t : TF) (e : EF) (ρ : Env) : lcItems g t e ρ [] = .ok [] := rfl
def lcEnd (n : Nat) : R (List D) → R Vl
  | .ok es => if n ≤ 10000 then .ok ⟨false, 1, .lst es⟩ else .bad
  | _ => .bad
def eLc (w : IF) (g : GF) (t : TF) (e : EF) (us : List Nat) : EF := fun ρ => (w ρ).bind fun ds => lcEnd ds.length (lcItems g t e (wipeE ρ us) ds)
@[simp] theorem eLc_eq (w : IF) (g : GF) (t : TF) (e : EF) (us : List Nat) (ρ : Env) : eLc w g t e us ρ = (w ρ).bind fun ds => lcEnd ds.length (lcItems g t e (wipeE ρ us) ds) := rfl
def tYesF : TF := fun _ => .ok true
@[simp] theorem tYesF_eq (ρ : Env) : tYesF ρ = .ok true := rfl
abbrev W0 : WX := fun _ _ _ _ => False
section
variable {K : PySem.W.Frag} {cl : Clx} {W : WX} {ρ : Env} {σ : L2.St} {G H G' H' : Hp} {Fs Fs' : Foot}
theorem EnvR.wipe (e : EnvR K cl ρ σ G H Fs) : ∀ us : List Nat, (∀ u ∈ us, cl.fix u = none) → EnvR K cl (wipeE ρ us) (L2.wipe σ us) G H Fs
  | [], _ => e
  | u :: us, hx => by
    have e1 := EnvR.wipe e us fun u h => hx u (List.mem_cons_of_mem _ h)
    refine ⟨by simp [wipeE, L2.wipe, e1.len], e1.gh, fun i k d h => ?_, e1.dis, e1.dom, fun i v h => ?_⟩
    rotate_left
    · unfold L2.wipe
      have hi : i ≠ u := fun z => by rw [z, hx u List.mem_cons_self] at h; cases h
      rw [List.getElem?_set_ne (Ne.symm hi)]
      exact e1.fx i v h
    unfold wipeE at h
    unfold L2.wipe
    by_cases hi : i = u
    · subst hi
      have hlt : i < (wipeE ρ us).length := by
        have := (List.getElem?_eq_some_iff.mp h).1
        simpa using this
      rw [List.getElem?_set_self hlt] at h
      cases h
    · rw [List.getElem?_set_ne (Ne.symm hi)] at h
      rw [List.getElem?_set_ne (Ne.symm hi)]
      exact e1.own i k d h
theorem SemI.useE {t : TI} {F : IF} (h : SemI K cl W t F) (env : EnvR K cl ρ σ G H Fs) {α : Type} {g : List D → R α} {P : α → Hp → Hp → Prop} (hm : Mono P) (hq : PostG cl W σ G H P ((F ρ).bind g)) {C : It → Hp → Prop}
    (step : ∀ x J G' H', F ρ = .ok x → Px G H G' H' → EnvR K cl ρ σ G' H' Fs → Yields K cl G' J x → PostG cl W σ G' H' P (g x) → C J H') : t σ H C := by
  refine h ρ σ G H Fs env C ?_
  cases e : F ρ with
  | ok x =>
    rw [e] at hq
    exact fun J G' H' p y => step x J G' H' e p (env.px p) y (PostG.mono hm p hq)
  | ex c =>
    rw [e] at hq
    exact hq
  | bad =>
    rw [e] at hq
    exact hq
theorem none_of_px {G H G' H' : Hp} {D : Addr} {o : HO} (p : Px G H G' H') (g : G D = none) (h : H D = some o) : G' D = none := by
  cases q : G' D with
  | none => rfl
  | some u =>
    rcases p.gn D u q with z | z
    · rw [g] at z; cases z
    · rw [h] at z; cases z
end
section
variable {X : Cx} {cl : Clx} {W : WX} {pos : Pos}
def EvTs (X : Cx) (cl : Clx) (W : WX) (e : List Expr) (F : TF) : Prop := ∃ t, PTs X e t ∧ SemT X.K cl W t F
theorem ets_nil : EvTs X cl W [] tYesF := ⟨_, pts_nil, fun ρ σ G H Fs env Q hq => hq G H (Px.refl env.gh)⟩
/-- what stands within a comprehension has one reading for all its frames -/
structure Fr5 where
  s : Shared
  H : Hp
  C : Addr
  cl : List (Str × Addr)
  fp : List Addr
abbrev blk5 (X : Cx) (scope : Scope) (z : Fr5) : Cx := X.blk z.s z.H scope (compEnvC scope z.cl z.C X.env) z.fp
theorem uniE {scope : Scope} {e : Expr} {f : EF} (h : ∀ s H C c fp, EvE (X.blk s H scope (compEnvC scope c C X.env) fp) cl W e f) : ∃ t, (∀ s H C c fp, PE (X.blk s H scope (compEnvC scope c C X.env) fp) e t) ∧ SemE X.K cl W t f := by
  have h' : ∀ z : Fr5, ∃ t, PE (blk5 X scope z) e t ∧ SemE X.K cl W t f := fun z => h z.s z.H z.C z.cl z.fp
  have hc : ∃ t : Fr5 → TE, ∀ z, PE (blk5 X scope z) e (t z) ∧ SemE X.K cl W (t z) f := ⟨fun z => Classical.choose (h' z), fun z => Classical.choose_spec (h' z)⟩
  obtain ⟨t, ht⟩ := hc
  exact ⟨fun σ H Q => ∀ z, t z σ H Q, fun s H C c fp => ⟨fun pins s' σ H' Q I q => (ht ⟨s, H, C, c, fp⟩).1.run pins s' σ H' Q I (q _)⟩, fun ρ σ G H Fs env Q hq z => (ht z).2 ρ σ G H Fs env Q hq⟩
theorem uniG {scope : Scope} {e : Expr} {g : GF} {T : List Nat} (h : ∀ s H C c fp, EvG (X.blk s H scope (compEnvC scope c C X.env) fp) cl e g T) : ∃ t, (∀ s H C c fp, PG (X.blk s H scope (compEnvC scope c C X.env) fp) e t) ∧ SemG X.K cl t g T := by
  have h' : ∀ z : Fr5, ∃ t, PG (blk5 X scope z) e t ∧ SemG X.K cl t g T := fun z => h z.s z.H z.C z.cl z.fp
  have hc : ∃ t : Fr5 → TG, ∀ z, PG (blk5 X scope z) e (t z) ∧ SemG X.K cl (t z) g T := ⟨fun z => Classical.choose (h' z), fun z => Classical.choose_spec (h' z)⟩
  obtain ⟨t, ht⟩ := hc
  exact ⟨fun v σ H Q => ∀ z, t z v σ H Q, fun s H C c fp => ⟨fun pins s' σ H' v u Q I r q => (ht ⟨s, H, C, c, fp⟩).1.run pins s' σ H' v u Q I r (q _)⟩, fun ρ σ G H Fs v d env r Q hq z => (ht z).2 ρ σ G H Fs v d env r Q hq⟩
theorem uniT {scope : Scope} {e : List Expr} {f : TF} (h : ∀ s H C c fp, EvTs (X.blk s H scope (compEnvC scope c C X.env) fp) cl W e f) : ∃ t, (∀ s H C c fp, PTs (X.blk s H scope (compEnvC scope c C X.env) fp) e t) ∧ SemT X.K cl W t f := by
  have h' : ∀ z : Fr5, ∃ t, PTs (blk5 X scope z) e t ∧ SemT X.K cl W t f := fun z => h z.s z.H z.C z.cl z.fp
  have hc : ∃ t : Fr5 → TT, ∀ z, PTs (blk5 X scope z) e (t z) ∧ SemT X.K cl W (t z) f := ⟨fun z => Classical.choose (h' z), fun z => Classical.choose_spec (h' z)⟩
  obtain ⟨t, ht⟩ := hc
  exact ⟨fun σ H Q => ∀ z, t z σ H Q, fun s H C c fp => ⟨fun pins s' σ H' Q I q => (ht ⟨s, H, C, c, fp⟩).1.run pins s' σ H' Q I (q _)⟩, fun ρ σ G H Fs env Q hq z => (ht z).2 ρ σ G H Fs env Q hq⟩
end
end B
namespace B
open PySem L2
/-! ### the end of a law -/
theorem noList_lookup {a : Addr} {o : Obj} : ∀ {K : PySem.W.Frag}, noList K = true → K.lookup a = some o → o.cls ≠ .type "list"
  | [], _, h => nomatch h
  | (b, u) :: r, hn, h => by
    unfold noList at hn
    rw [List.all_cons, Bool.and_eq_true] at hn
    have h2 : (match a == b with | true => some u | false => r.lookup a) = some o := h
    cases q : (a == b) with
    | true =>
      rw [q] at h2
      cases h2
      exact of_decide_eq_true hn.1
    | false =>
      rw [q] at h2
      exact noList_lookup (K := r) hn.2 h2
theorem pxAll_list {px : List (PySem.W.Frag → Bool)} {K : PySem.W.Frag} (h : pxAll px K = true) : noList K = true := (Bool.and_eq_true_iff.mp h).1
theorem pxAll_get {px : List (PySem.W.Frag → Bool)} {K : PySem.W.Frag} (h : pxAll px K = true) (i : Nat) {f : PySem.W.Frag → Bool} (e : px[i]? = some f) : f K = true := List.all_eq_true.mp (Bool.and_eq_true_iff.mp h).2 f (List.mem_of_getElem? e)
theorem obB_eq {n : List Addr} {fa : List He.Fa} {fn : List He.DefD} {px : List (PySem.W.Frag → Bool)} {g : Addr → Option Obj} {s : Shared} (h : ∀ a, g a = s.heap.get? a) : obB n fa fn px g = (hookB n fa fn px).obs s := by
  have e : g = s.heap.get? := funext h
  rw [e] <;> rfl
abbrev intsD (ns : List Int) : D := .lst (ns.map .int)
theorem repL_ints {K : PySem.W.Frag} {cl : Str → Addr} {G : Hp} (ns : List Int) : RepL K cl G (ns.map V.int) (ns.map D.int) := by
  refine ⟨by simp, fun i v d h1 h2 => ?_⟩
  rw [List.getElem?_map] at h1 h2
  cases e : ns[i]? with
  | none => rw [e] at h1; cases h1
  | some n =>
    rw [e] at h1 h2
    cases h1
    cases h2
    exact .int n
/-- the law as data: True for each script -/
def LawTrue (f : Fn) : Prop := ∀ ns : List Int, ns.length ≤ 63 → (∀ k ∈ ns, Builtin.Int.intBits k ≤ 1048576) → ∃ k, f [intsD ns] = .ok ⟨false, k, .bl true⟩
theorem law_sp {K : PySem.W.Frag} {cl : Str → Addr} {f : Fn} {ns : List Int} {H : Hp} {a : Addr} (hk : noList K = true) (hS : SqL K H a (ns.map V.int)) (ht : ∃ k, f [intsD ns] = .ok ⟨false, k, .bl true⟩) :
    spP K cl 1 f [.ref a] H (fun v _ => v = .bl true) fun _ _ _ => False := by
  have hR : Rd H a (.lst (ns.map V.int)) := by
    rcases hS with h | ⟨o, its, n, h1, h2, _⟩
    · exact h
    · exact absurd h2 (noList_lookup hk h1)
  obtain ⟨k, e⟩ := ht
  refine ⟨rfl, H, [intsD ns], Same.refl _, .cons (.lst hR (repL_ints (cl := cl) (K := K) (G := H) ns).1 (repL_ints ns).2) .nil, ?_⟩
  rw [e]
  exact ⟨rfl, fun v G' H' F p o fo => o.bl⟩
theorem law_walk {l : PySem.W.OpenLaw} {n : List Addr} {k : Nat} {q : Program} {loose : List Str} {XP : (Str → Option Value) → Heap → Prop} {fa : List He.Fa} {fn : List He.DefD} {px : List (PySem.W.Frag → Bool)} {d : DefRec} {x : Str} (f : Fn) (cl : PySem.W.Frag → Str → Addr)
    (hn : l.most = some 63) (hdf : d.params.defaults = []) (hr : Room k callerA) (ht : LawTrue f)
    (F : ∀ (w : World) (mg : Str → Option Value) (g : Addr) (h : Heap) (K : PySem.W.Frag), K.In h → He.SaysD fa fn K → pxAll px K = true → h.Ns mainGlobals mg → mg d.name = some (.ref g) →
      ∃ fd : FuncData, (∀ (s : Shared) (u : Value), BindsTo s fd ⟨[u], []⟩ [(x, u)]) ∧ ∀ base : Heap, K.In base → base.Ns mainGlobals mg → FnOk l.prog w K mg base (L2.CX l.prog w) k g fd [x] (spP K (cl K) 1 f)) :
    PySem.W.WalkO q loose XP (hookB n fa fn px).says l.row.toRowW d [] (fun f vs => PySem.call f vs) := by
  refine Att.attach_callB hn hdf fun w s0 s1 mg mb g o pm cd doc a vs ns G Y ho hd hcd hmg hobj hints hlen hbits hg => ?_
  obtain ⟨K, KX, hc, hk⟩ := Y
  obtain ⟨fd, hb, hF⟩ := F w mg g _ K KX hc hk G.T.g hmg
  refine law_call KX G.T.g G.T.b G.T.builtins G.T.nolimit hg hobj hints (Nat.le_trans hlen (by decide)) hr hF hb (fun H hO hS => law_sp (pxAll_list hk) hS (ht ns hlen hbits)) fun H e s' z => ?_
  obtain ⟨_, _, _, _, _, _, _, _, _, _, _, _, z⟩ := z
  exact z
end B
namespace B
open PySem L2 HandSHeadRun PySem.W PySem.Calls PyProof.Rows
/-- the same in four parts: the frame, the names' facts, what else is asked, the defs -/
theorem run_parts4 {r : OpenRow} {q : Program} {M : Nat} {n : List Addr} {loose : List PySem.Str} {w : World} {fa : List He.Fa} {fn : List He.DefD} {px : List (PySem.W.Frag → Bool)}
    (h1 : RunEq r q (hookB n [] [] []) (fun s => obB n [] [] [] (getT s)) M loose w) (h2 : RunP r M w (fun s => fa.all fun f => f.ok (kB n s)) true) (h3 : RunP r M w (fun s => px.all fun f => f (kB n s)) true)
    (h4 : RunP r M w (fun s => He.obsD [] fn (kB n s)) (He.valD fn)) : RunEq r q (hookB n fa fn px) (fun s => obB n fa fn px (getT s)) M loose w := by
  intro os
  have a := h1 os
  have b := h2 os
  have d := h3 os
  have c := h4 os
  cases e : endF (stepQ (denQ tabQ) r.prog w) M r.prog w os with
  | none => rw [e] at a; cases a
  | some s =>
    rw [e] at a b c d
    simp only [Option.map_some, Option.some.injEq] at a b c d ⊢
    have a1 := (Prod.mk.inj a).1
    have a5 := (Prod.mk.inj (Prod.mk.inj a).2)
    have a2 := a5.1
    have a6 : obB n [] [] [] (getT s) = (He.valD [], true) := a5.2
    have a4 : pxAll [] (kB n s) = true := by
      have z : (obB n [] [] [] (getT s)).2 = true := by rw [a6]
      exact z
    have nl : noList (kB n s) = true := pxAll_list a4
    have c1 : (He.obsD [] fn (kB n s)).1 = true := by rw [c]; rfl
    have c2 : (He.obsD [] fn (kB n s)).2 = fn.map He.DefD.val := by rw [c]; rfl
    refine Prod.ext a1 (Prod.ext a2 (Prod.ext (Prod.ext ?_ ?_) ?_))
    · show ((fa.all fun f => f.ok (kB n s)) && fn.all fun d => d.ok (kB n s)) = true
      have e3 : (fn.all fun d => d.ok (kB n s)) = true := c1
      rw [b, e3]
      rfl
    · exact c2
    · show (noList (kB n s) && px.all fun f => f (kB n s)) = true
      rw [nl, d]
      rfl
end B
namespace B
open PySem L2
section
variable {X : Cx} {cl : Clx} {W : WX} {pos : Pos}
/-! ### a < b < c -/
def eChn (f g : D → D → Option D) (a b c : EF) : EF := fun ρ => (a ρ).bind fun x => (b ρ).bind fun y => (ofO (f x.d y.d)).bind fun r => (asB r.d).bind fun k => if k then (c ρ).bind fun z => ofO (g y.d z.d) else .ok (sh (.bl false))
@[simp] theorem eChn_eq (f g : D → D → Option D) (a b c : EF) (ρ : Env) : eChn f g a b c ρ = (a ρ).bind fun x => (b ρ).bind fun y => (ofO (f x.d y.d)).bind fun r => (asB r.d).bind fun k => if k then (c ρ).bind fun z => ofO (g y.d z.d) else .ok (sh (.bl false)) := rfl
def isBl : D → Prop
  | .bl _ => True
  | _ => False
theorem semChn {K : PySem.W.Frag} {r r' : R2} {f g : D → D → Option D} (hf : OpS K cl r f) (hg : OpS K cl r' g) (hb1 : ∀ x y d, f x y = some d → isBl d) {ta tb tc : TE} {a b c : EF} (ha : SemE K cl W ta a) (hb : SemE K cl W tb b) (hc : SemE K cl W tc c) :
    SemE K cl W (tChain r r' ta tb tc) (eChn f g a b c) := by
  intro ρ σ G H Fs env Q hq
  refine ha.use env PV.mono hq fun x v G1 H1 F1 _ p1 env1 o1 f1 hq1 => ?_
  refine hb.use env1 PV.mono hq1 fun y u G2 H2 F2 _ p2 env2 o2 f2 hq2 => ?_
  cases e : f x.d y.d with
  | none => rw [e] at hq2; exact hq2.elim
  | some d =>
    have hbl := hb1 _ _ _ e
    rw [e] at hq2
    cases d with
    | bl k =>
      refine hf env2.gh (o1.px p2) o2 e fun w rw' => ?_
      cases rw'
      refine ⟨k, rfl, ?_⟩
      cases k with
      | true =>
        refine iteT (hc.use env2 PV.mono hq2 fun z w G3 H3 F3 _ p3 env3 o3 f3 hq3 => ?_)
        cases e2 : g y.d z.d with
        | none => rw [e2] at hq3; exact hq3.elim
        | some d2 =>
          rw [e2] at hq3
          exact hg env3.gh (o2.px p3) o3 e2 fun v rv => hq3 v G3 H3 (fun _ => False) (Px.refl env3.gh) rv noFoo
      | false => exact iteF (hq2 _ G2 H2 (fun _ => False) (Px.refl env2.gh) (Rep.bl false) noFoo)
    | _ => exact hbl.elim
theorem bl_le (x y d : D) (h : leD x y = some d) : isBl d := by
  cases x <;> cases y <;> first | (cases h; done) | (cases h; trivial)
theorem ev_le_lt {a b c : Expr} {fa fb fc : EF} (ha : EvE X cl W a fa) (hb : EvE X cl W b fb) (hc : EvE X cl W c fc) (hm : lastMarks [.LtE, .Lt] [b, c] = false := by with_unfolding_all rfl) : EvE X cl W (.Compare a [.LtE, .Lt] [b, c] pos) (eChn leD ltD fa fb fc) := by
  obtain ⟨ta, pa, sa⟩ := ha
  obtain ⟨tb, pb, sb⟩ := hb
  obtain ⟨tc, pc, sc⟩ := hc
  exact ⟨_, pe_chain op_le op_lt pa pb pc hm, semChn os_le os_lt bl_le sa sb sc⟩
/-! ### a for over a list, a tuple or a text -/
def itD : D → R (List D)
  | .lst ds => .ok ds
  | .tup ds => .ok ds
  | .str x => .ok (signs x)
  | _ => .bad
@[simp] theorem itD_l (ds : List D) : itD (.lst ds) = .ok ds := rfl
@[simp] theorem itD_t (ds : List D) : itD (.tup ds) = .ok ds := rfl
@[simp] theorem itD_s (x : Str) : itD (.str x) = .ok (signs x) := rfl
def iX (f : EF) : IF := fun ρ => (f ρ).bind fun x => (frz x).bind fun y => itD y.d
@[simp] theorem iX_eq (f : EF) (ρ : Env) : iX f ρ = (f ρ).bind fun x => (frz x).bind fun y => itD y.d := rfl
theorem PI.or {tg e : Expr} {t u : TI} (h : PI X tg e t) (h2 : PI X tg e u) : PI X tg e (fun σ H R => t σ H R ∨ u σ H R) := ⟨fun pins s σ H R I q => q.elim (h.run pins s σ H R I) (h2.run pins s σ H R I)⟩
theorem ei_any {tg e : Expr} {f : EF} (h : EvE X cl W e f) : EvI X cl W tg e (iX f) := by
  obtain ⟨t, p, s⟩ := h
  refine ⟨_, PI.or (pi_list p) (PI.or (pi_tup p) (pi_str p)), fun ρ σ G H Fs env Q hq => ?_⟩
  have hq' : PostG cl W σ G H (PY X.K cl Q) ((eS f ρ).bind fun y => itD y.d) := by
    rw [eS_eq, R.bind_assoc]
    exact hq
  cases e : eS f ρ with
  | bad => rw [e] at hq'; exact hq'.elim
  | ex c => exact .inl ((semS s).use env PY.mono hq' fun x v G1 H1 F1 e1 => by rw [e] at e1; cases e1)
  | ok y =>
    obtain ⟨b, k, d⟩ := y
    cases d with
    | lst ds =>
      refine .inl ((semS s).use env PY.mono hq' fun x v G1 H1 F1 e1 p1 env1 o1 f1 hq1 => ?_)
      have r := frz_rep e1 o1
      rw [e] at e1
      cases e1
      obtain ⟨a, vs, rfl, hS, rl⟩ := r.lstR
      exact ⟨a, rfl, ⟨vs, .inl (rdEx env1.gh hS)⟩, hq1 _ G1 H1 (Px.refl env1.gh) (yl_list (.inl hS) rl)⟩
    | tup ds =>
      refine .inr (.inl ((semS s).use env PY.mono hq' fun x v G1 H1 F1 e1 p1 env1 o1 f1 hq1 => ?_))
      have r := frz_rep e1 o1
      rw [e] at e1
      cases e1
      obtain ⟨a, vs, rfl, hS, rl⟩ := r.tupR
      exact ⟨a, rfl, ⟨vs, .inl (rdEx env1.gh hS)⟩, hq1 _ G1 H1 (Px.refl env1.gh) (yl_tup (.inl hS) rl)⟩
    | str z =>
      refine .inr (.inr ((semS s).use env PY.mono hq' fun x v G1 H1 F1 e1 p1 env1 o1 f1 hq1 => ?_))
      have r := frz_rep e1 o1
      rw [e] at e1
      cases e1
      cases r
      exact ⟨z, rfl, hq1 _ G1 H1 (Px.refl env1.gh) yl_str⟩
    | _ => rw [e] at hq'; exact hq'.elim
/-! ### x op= e -/
def sAug (i : Nat) (g : Vl → Vl → R Vl) (f : EF) : SF := fun ρ => toS ((eV i ρ).bind fun x => (f ρ).bind fun y => (g x y).bind frz) ρ (stV i ρ)
@[simp] theorem sAug_eq (i : Nat) (g : Vl → Vl → R Vl) (f : EF) (ρ : Env) : sAug i g f ρ = toS ((eV i ρ).bind fun x => (f ρ).bind fun y => (g x y).bind frz) ρ (stV i ρ) := rfl
/-- a module's constant -/
theorem ev_gint {x : Str} {i : Int} (hm : ∃ t, X.mg x = some (.int i t)) (hg : Gl X x := by rfl) (hd : (x == ("__debug__" : Str)) = false := by decide) : EvE X cl W (.Name x pos) (eC (.int i)) := by
  obtain ⟨t, ht⟩ := hm
  exact ⟨_, pe_glob (v := .int i) hg ht ⟨t, rfl⟩ hd, semC fun _ => .int i⟩
theorem ev_gstr {x : Str} {i : Str} (hm : ∃ t, X.mg x = some (.str i t)) (hg : Gl X x := by rfl) (hd : (x == ("__debug__" : Str)) = false := by decide) : EvE X cl W (.Name x pos) (eC (.str i)) := by
  obtain ⟨t, ht⟩ := hm
  exact ⟨_, pe_glob (v := .str i) hg ht ⟨t, rfl⟩ hd, semC fun _ => .str i⟩
end
section
variable {P : Program} {w : World} {K : PySem.W.Frag} {mg : Str → Option Value} {base : Heap} {N : List Str} {qual : Str} {sc : Scope} {f : Addr} {cdv : Value} {A : Around} {outer : List PySem.Env} {s : Shared} {H : Hp} {E : XK}
theorem tkB : Takes (cxB P w K mg base N qual sc f cdv A outer s H E) (wB E) := takes_of rfl rfl rfl rfl
theorem poB : PassesOwn (model (cxB P w K mg base N qual sc f cdv A outer s H E).prog (cxB P w K mg base N qual sc f cdv A outer s H E).w) (cxB P w K mg base N qual sc f cdv A outer s H E).A (cxB P w K mg base N qual sc f cdv A outer s H E).env (cxB P w K mg base N qual sc f cdv A outer s H E).xe := passes_of rfl
end
end B
namespace B
open PySem L2
abbrev Sl : Type := B.Slot
/-! ### numbers: small helpers -/
theorem mulOk_r {i j : Int} (h : j.natAbs < 18446744073709551616) : mulOk i j := .inl (.inr h)
theorem mulOk_l {i j : Int} (h : i.natAbs < 18446744073709551616) : mulOk i j := .inl (.inl h)
theorem divOk_w {j : Int} (b : Nat) (h : 0 < j) (hb : j.natAbs < 2 ^ b) (h0 : 0 < b) (h9 : b ≤ 9000) : divOk j := wide_div (i := 0) h hb h0 h9
theorem powOk_s {i j : Int} (h0 : 0 ≤ j) (h1 : j ≤ 1000000) (h2 : i.natAbs < 18446744073709551616) : powOk i j := ⟨h0, h1, h2⟩
theorem divOk_s {j : Int} (h : 0 < j) (h2 : j < 18446744073709551616) : divOk j := by
  have e : (2 : Nat) ^ 64 = 18446744073709551616 := by decide
  exact divOk_w 64 h (by rw [e]; omega) (by decide) (by decide)
@[simp] theorem atI_c0 {α : Type} (x : α) (xs : List α) : atI (x :: xs) 0 = some x := by
  have := atI_nat (xs := x :: xs) (j := 0) (v := x) rfl
  simpa using this
@[simp] theorem atI_c1 {α : Type} (x y : α) (xs : List α) : atI (x :: y :: xs) 1 = some y := by
  have := atI_nat (xs := x :: y :: xs) (j := 1) (v := y) rfl
  simpa using this
@[simp] theorem atI_c2 {α : Type} (x y z : α) (xs : List α) : atI (x :: y :: z :: xs) 2 = some z := by
  have := atI_nat (xs := x :: y :: z :: xs) (j := 2) (v := z) rfl
  simpa using this
@[simp] theorem atI_c3 {α : Type} (x y z w : α) (xs : List α) : atI (x :: y :: z :: w :: xs) 3 = some w := by
  have := atI_nat (xs := x :: y :: z :: w :: xs) (j := 3) (v := w) rfl
  simpa using this
theorem atI_n {α : Type} (xs : List α) (j : Nat) : atI xs (j : Int) = xs[j]? := by
  by_cases h : j < xs.length
  · rw [List.getElem?_eq_getElem h]
    exact atI_nat (List.getElem?_eq_getElem h)
  · rw [List.getElem?_eq_none_iff.mpr (by omega)]
    unfold atI ixN
    rw [if_pos (by omega), if_neg (by omega)]
    rfl
theorem small_of {i : Int} (h0 : -1000000000 ≤ i) (h1 : i ≤ 1000000000) : small62 i := by
  have e : (2 : Int) ^ 62 = 4611686018427387904 := by decide
  unfold small62
  rw [e]
  exact ⟨by omega, by omega⟩
theorem cutD_to (xs : List D) (k : Nat) : cutD xs none (some (k : Int)) = xs.take k := by
  unfold cutD
  rw [HT.sIx_none, HT.sIx_nat, List.drop_zero, Nat.sub_zero]
  by_cases h : k ≤ xs.length
  · rw [Nat.min_eq_left h]
  · rw [Nat.min_eq_right (by omega), List.take_of_length_le (Nat.le_refl _), List.take_of_length_le (by omega)]
theorem cutD_from (xs : List D) (k : Nat) : cutD xs (some (k : Int)) none = xs.drop k := by
  unfold cutD
  rw [HT.sIx_none, HT.sIx_nat]
  by_cases h : k ≤ xs.length
  · rw [Nat.min_eq_left h]
    exact List.take_of_length_le (by simp)
  · rw [Nat.min_eq_right (by omega), List.drop_eq_nil_of_le (Nat.le_refl _), List.drop_eq_nil_of_le (by omega)]
    simp
theorem cutD_mid (xs : List D) (k l : Nat) : cutD xs (some (k : Int)) (some (l : Int)) = (xs.drop k).take (l - k) := by
  unfold cutD
  rw [HT.sIx_nat, HT.sIx_nat]
  by_cases h : k ≤ xs.length
  · rw [Nat.min_eq_left h]
    by_cases h2 : l ≤ xs.length
    · rw [Nat.min_eq_left h2]
    · rw [Nat.min_eq_right (by omega), List.take_of_length_le (by simp), List.take_of_length_le (by simp; omega)]
  · have e : min k xs.length = xs.length := Nat.min_eq_right (by omega)
    rw [e, List.drop_eq_nil_of_le (Nat.le_refl _), List.drop_eq_nil_of_le (show xs.length ≤ k by omega)]
    simp
/-! lists from a number on -/
def enumK : Int → List D → List D
  | _, [] => []
  | k, d :: ds => .tup [.int k, d] :: enumK (k + 1) ds
theorem enumK_eq : ∀ (ds : List D) (k : Nat), (ds.mapIdx fun i d => D.tup [.int ((i + k : Nat) : Int), d]) = enumK (k : Int) ds
  | [], _ => rfl
  | d :: ds, k => by
    have ih := enumK_eq ds (k + 1)
    have e1 : ((k + 1 : Nat) : Int) = (k : Int) + 1 := by omega
    rw [e1] at ih
    rw [List.mapIdx_cons]
    show _ :: _ = _ :: _
    congr 1
    · simp
    · rw [← ih]
      congr 1
      funext i e
      congr 3
      omega
@[simp] theorem enumD_eq (ds : List D) : enumD ds = enumK 0 ds := enumK_eq ds 0
@[simp] theorem enumK_nil (k : Int) : enumK k [] = [] := rfl
@[simp] theorem enumK_cons (k : Int) (d : D) (ds : List D) : enumK k (d :: ds) = .tup [.int k, d] :: enumK (k + 1) ds := rfl
@[simp] theorem zipD_cons (d e : D) (ds es : List D) : zipD (d :: ds) (e :: es) = .tup [d, e] :: zipD ds es := rfl
@[simp] theorem zipD_nil (es : List D) : zipD [] es = [] := by cases es <;> rfl
@[simp] theorem zipD_nil2 (ds : List D) : zipD ds [] = [] := by cases ds <;> rfl
theorem rng_zero (lo : Int) : rng lo 0 = [] := rfl
theorem rng_succ (lo : Int) (n : Nat) : rng lo (n + 1) = .int lo :: rng (lo + 1) n := by
  unfold rng
  rw [List.range_succ_eq_map, List.map_cons, List.map_map]
  congr 1
  · simp
  · apply List.map_congr_left
    intro i _
    show D.int (lo + ((i + 1 : Nat) : Int)) = D.int (lo + 1 + (i : Int))
    congr 1
    omega
/-! data that == takes -/
theorem depthAll_le {k : Nat} : ∀ {ds : List D}, (∀ d ∈ ds, (toPy d).depth ≤ k) → PyData.depthAll (toPyL ds) ≤ k
  | [], _ => by simp [toPyL, PyData.depthAll]
  | d :: ds, h => by
    simp only [toPyL, PyData.depthAll]
    exact Nat.max_le.mpr ⟨h d List.mem_cons_self, depthAll_le fun e he => h e (List.mem_cons_of_mem _ he)⟩
theorem layAll : ∀ {ds : List D}, (∀ d ∈ ds, (toPy d).canLay0 = true) → PyData.canLayAll0 (toPyL ds) = true
  | [], _ => rfl
  | d :: ds, h => by
    simp only [toPyL, PyData.canLayAll0, Bool.and_eq_true]
    exact ⟨h d List.mem_cons_self, layAll fun e he => h e (List.mem_cons_of_mem _ he)⟩
theorem noObjAll : ∀ {ds : List D}, (∀ d ∈ ds, noObj d = true) → noObjL ds = true
  | [], _ => rfl
  | d :: ds, h => by
    simp only [noObjL, Bool.and_eq_true]
    exact ⟨h d List.mem_cons_self, noObjAll fun e he => h e (List.mem_cons_of_mem _ he)⟩
/-- plain data of at most k floors -/
structure Flat (k : Nat) (d : D) : Prop where
  no : noObj d = true
  lay : (toPy d).canLay0 = true
  dep : (toPy d).depth ≤ k
theorem Flat.int (i : Int) : Flat 0 (.int i) := ⟨rfl, rfl, by simp [toPy, PyData.depth]⟩
theorem Flat.bl (i : Bool) : Flat 0 (.bl i) := ⟨rfl, rfl, by simp [toPy, PyData.depth]⟩
theorem Flat.non : Flat 0 .non := ⟨rfl, rfl, by simp [toPy, PyData.depth]⟩
theorem Flat.lst {k : Nat} {ds : List D} (h : ∀ d ∈ ds, Flat k d) : Flat (k + 1) (.lst ds) :=
  ⟨noObjAll fun d m => (h d m).no, layAll fun d m => (h d m).lay, by simp only [toPy, PyData.depth]; exact Nat.succ_le_succ (depthAll_le fun d m => (h d m).dep)⟩
theorem Flat.tup {k : Nat} {ds : List D} (h : ∀ d ∈ ds, Flat k d) : Flat (k + 1) (.tup ds) :=
  ⟨noObjAll fun d m => (h d m).no, layAll fun d m => (h d m).lay, by simp only [toPy, PyData.depth]; exact Nat.succ_le_succ (depthAll_le fun d m => (h d m).dep)⟩
theorem Flat.up {k l : Nat} {d : D} (h : Flat k d) (hl : k ≤ l) : Flat l d := ⟨h.no, h.lay, Nat.le_trans h.dep hl⟩
theorem Flat.dat {k : Nat} {d : D} (h : Flat k d) (hk : k ≤ 64) : dat d = true := by
  unfold B.dat SeqAt.shaped
  rw [h.no, h.lay]
  simp
  exact Nat.le_trans h.dep hk
theorem dat_ints (ns : List Int) : B.dat (.lst (ns.map .int)) = true := (Flat.lst (k := 0) fun d m => by
  obtain ⟨i, _, rfl⟩ := List.mem_map.mp m
  exact .int i).dat (by decide)
theorem sItems_inl {g : GF} {f : SF} {d : D} {ds : List D} {ρ ρ1 : Env} (h : fTurn g f d ρ = .inl ρ1) : sItems g f (d :: ds) ρ = sItems g f ds ρ1 := by rw [sItems_cons, h]
theorem sItems_inr {g : GF} {f : SF} {d : D} {ds : List D} {ρ : Env} {r : RS} (h : fTurn g f d ρ = .inr r) : sItems g f (d :: ds) ρ = r := by rw [sItems_cons, h]
end B
namespace B
open PySem L2 PySem.Spec PyProof.Rows
/-! ### raise -/
/-- an error class of the program, over ValueError, without own __init__ -/
structure ExcK (K : PySem.W.Frag) (mg : Str → Option Value) (c : Str → Addr) (x : Str) : Prop where
  g : mg x = some (.ref (c x))
  q : PySem.W.excIn K (c x) He.veBase "ValueError.__new__" = true
  kp : PySem.W.keepIn K (.ref (c x)) = true
  sb : PySem.W.subIn K (.ref (c x)) (.type "BaseException") = some true
  ty : PySem.W.typeIn K (.ref (c x)) = some (.type "type")
theorem ExcK.of {K : PySem.W.Frag} {mg : Str → Option Value} {x : Str} (g : mg x = some (.ref (He.ga K x))) (c : (He.Fa.exc x).ok K = true) : ExcK K mg (He.ga K) x :=
  let ⟨a, b, d, e⟩ := He.exc_ok c
  ⟨g, a, b, d, e⟩
def sRaise (x : Str) : SF := fun ρ => .ex x ρ
@[simp] theorem sRaise_eq (x : Str) (ρ : Env) : sRaise x ρ = .ex x ρ := rfl
section
variable {X : Cx} {cl : Clx} {W : WX} {pos : Pos}
theorem es_raise {c : Str → Addr} {x m : Str} {j : Nat} {p p2 p3 : Pos} (E : ExcK X.K X.mg c x) (hc : X.calm = true) (tk : Takes X W) (hg : Gl X x := by rfl) (hd : (x == ("__debug__" : Str)) = false := by decide) (hcc : cl.c = c := by rfl) (hx0 : xF x = none := by rfl) :
    EvS X cl W (.Raise (some (.Call (.Name x p) [.Constant (.str m) j p2] [] p3)) none pos) (sRaise x) := by
  subst hcc
  refine ⟨_, ps_raise hc tk (pmk_own PySem.F.excBase_ValueError E.q E.g E.kp (raises_own E.sb E.ty) hg hd), fun ρ σ G H Fs env D hq => ?_⟩
  have w := hq σ G H Fs env (Sx.refl env.gh) none (by unfold XD; rw [hx0])
  rw [xB_of hx0] at w
  exact w
end
/-! ### try: the error that is caught is known behind it too -/
section
variable {X : Cx} {pins : List (Addr × Obj)} {σ : L2.St} {H : Hp} {s sI : Shared}
/-- a thing that was made behind the entry becomes known -/
theorem track {a : Addr} {o : HO} (I : Inv X pins σ H s) (J : Inv X pins σ H sI) (nI : sI.heap.get? a = none) (na : H a = none) (nL : a ≠ X.env.locals) (hx : X.ex = []) (new : ObjOk X.prog X.w (upd H a o) s.heap a o) : Inv X pins σ (upd H a o) s := by
  have ne : ∀ {b : Addr} {u : Obj}, sI.heap.get? b = some u → b ≠ a := fun e z => by
    rw [z, nI] at e
    cases e
  have n0 : ∀ {b : Addr} {u : Obj}, X.s_0.heap.get? b = some u → b ≠ a := fun {b u} e => by
    obtain ⟨_, e2⟩ := J.base.there b u e (by rw [hx]; exact fun z => nomatch z)
    exact ne e2
  have nh : ∀ {b : Addr} {u : HO}, H b = some u → b ≠ a := fun e z => by
    rw [z, na] at e
    cases e
  have b0 := I.base
  refine ⟨I.ok, I.os, I.bare, ⟨b0.keep, b0.slot, fun b u e n q => ?_, b0.there, fun b xs e => ?_, fun b u w e => ?_, fun b ps e => ?_⟩, I.loc, I.cell, ?_, fun x c e => ?_, fun p hp => ?_, fun b u e => ?_, I.len⟩
  · rw [upd_ne (n0 e)]
    exact b0.free b u e n q
  · have z := b0.tups b xs e
    rw [upd_ne (nh z)]
    exact z
  · have z := b0.frzs b u w e
    rw [upd_ne (nh z)]
    exact z
  · obtain ⟨m, z⟩ := b0.tbls b ps e
    exact ⟨m, by rw [upd_ne (nh z)]; exact z⟩
  · rw [upd_ne (Ne.symm nL)]
    exact I.free
  · obtain ⟨v, o', ho, _⟩ := J.cell x c e
    rw [upd_ne (ne ho)]
    exact I.freeC x c e
  · obtain ⟨h1, h2, h3⟩ := I.pin p hp
    have hn := ne (J.pin p hp).1
    exact ⟨h1, by rw [upd_ne hn]; exact h2, h3⟩
  · by_cases hb : b = a
    · subst hb
      rw [upd_same] at e
      cases e
      exact new
    · rw [upd_ne hb] at e
      exact (I.hok b u e).stay (fun _ _ _ q => q) (fun c q => by rw [upd_ne (nh q)]; exact q) fun c xs q => by rw [upd_ne (nh q)]; exact q
theorem exo_ok {P : Program} {w : World} {h : Heap} {a : Addr} {cls : Value} {oe : Obj} {vs : Array Value} (e : h.get? a = some oe) {dd : Option Addr} (z : Zc cls dd oe) (d : oe.data = .fields vs) : ObjOk P w H h a (EXO cls dd a) :=
  ⟨⟨oe, vs, e, z, d⟩, ⟨oe, e⟩, fun _ _ ⟨o, v, q, r⟩ k => ⟨o, v, k o q, r⟩⟩
/-- the context of a clause's suite: what it handles stands in the air, nothing leaves it -/
abbrev cxS (X : Cx) (a : Addr) (pn : List (Addr × Obj)) : Cx := { X with A := X.A.mark (some (.ref a)), calm := false, pn := pn, xe := fun _ _ => False }
theorem toS_inv (I : Inv X pins σ H s) (a : Addr) : Inv (cxS X a (X.pn ++ pins)) [] σ H s :=
  ⟨I.ok.suite _ _, I.os, I.bare, I.base, I.loc, I.cell, I.free, I.freeC, fun p hp => I.pin p (by simpa using hp), I.hok, I.len⟩
theorem ofS_inv {a : Addr} {pn' : List (Addr × Obj)} (I : Inv (cxS X a (X.pn ++ pins)) pn' σ H s) (ok : X.Ok) : Inv X pins σ H s :=
  ⟨ok, I.os, I.bare, I.base, I.loc, I.cell, I.free, I.freeC, fun p hp => I.pin p (List.mem_append_left _ hp), I.hok, I.len⟩
end
/-- the ends of a suite behind which slot i goes -/
def endsT (D : Ends) (i : Nat) : Ends := { nx := fun σ' H' => D.nx (σ'.set i none) H', rt := D.rt, bk := fun σ' H' => D.bk (σ'.set i none) H', ct := fun σ' H' => D.ct (σ'.set i none) H' }
/-- what the clause wishes of an error of the body -/
def wT (K : PySem.W.Frag) (c : Value) (i : Nat) (ts : TS) (Wo : WX) (D : Ends) : WX := fun cls d σ H =>
  ∃ b, PySem.W.exmOne K cls c = some b ∧ (b = true → ∀ a, H a = none → ts (endsT D i) (σ.set i (some (.ref a))) (upd H a (EXO cls d a))) ∧ (b = false → Wo cls d σ H)
section
variable {X : Cx} {x n : Str} {c : Value} {i : Nat} {body suite : List Stmt} {b₀ : Stmt} {np pos pos' : Pos} {tb : WX → TS} {ts : TS} {Wo : WX}
theorem ps_tryT (hs : X.stack = X.env :: X.outer) (hf : X.env.frame = some X.env.locals) (hex : X.ex = []) (hN : X.N.Nodup) (hi : X.N[i]? = some n) (hln : X.env.kindOf n = some .local) (hc : Names X x c) (tk : Takes X Wo)
    (hb : ∀ (W : WX) (pn : List (Addr × Obj)) (xe : Value → Shared → Prop), Takes (X.tr pn xe) W → PassesOwn (model X.prog X.w) X.A X.env xe → PSs (X.tr pn xe) body (tb W))
    (hsu : ∀ (a : Addr) (pn : List (Addr × Obj)), PSs (cxS X a pn) (b₀ :: suite) ts) :
    PS X (.Try body [.ExceptHandler (some (.Name x np)) (some n) (b₀ :: suite) pos'] [] [] pos) (fun D σ H => tb (wT X.K c i ts Wo D) D σ H) := by
  constructor
  intro pins s σ H D I h
  have frA : X.A.frames = some (X.env :: X.outer) := I.ok.frames.trans (by rw [hs])
  have hcl := I.ok
  refine wpAny_Try_except ?_
  let hdl : List ExceptHandler := [.ExceptHandler (some (.Name x np)) (some n) (b₀ :: suite) pos']
  let xb : Value → Shared → Prop := fun e t => wpAny (model X.prog X.w) X.A (noteFrame e X.env)
    (fun _ t => wpAny (model X.prog X.w) X.A (setFlight e none) (fun _ t => wpAny (model X.prog X.w) X.A (handleBy e X.env hdl) (SP X pins D) X.xe t) X.xe t) X.xe t
  have bdy := hb (wT X.K c i ts Wo D) (X.pn ++ pins) xb ?_ PassesOwn.looking
  · refine wpAny_mono (bdy.run [] s σ H D (I.toTry _) h) ?_ fun _ _ z => z
    intro fl t z
    cases fl with
    | next => let ⟨σ', H', J, q⟩ := z; exact wpAny_execs_nil ⟨σ', H', J.ofTry hcl, q⟩
    | brk => let ⟨σ', H', J, q⟩ := z; exact ⟨σ', H', J.ofTry hcl, q⟩
    | cont => let ⟨σ', H', J, q⟩ := z; exact ⟨σ', H', J.ofTry hcl, q⟩
    | ret u => let ⟨v, σ', H', J, r, q⟩ := z; exact ⟨v, σ', H', J.ofTry hcl, r, q⟩
  intro u t air
  obtain ⟨a, B, sI, p', σ', H', cls, d, rfl, J0, nb, up, sky, na, os, ag, b, hm, yes, no⟩ := air
  have J : Inv X pins σ' H' sI := J0.ofTry hcl
  have sky2 : Sky B (X.env :: X.outer) a (Zc cls d) X.env.locals t.heap := by rw [← hs]; exact sky
  refine Sky.land Zc.steady frA hf sky2 fun g fl ug => ?_
  have Jg : Inv X pins σ' H' { t with heap := g } := J.landed nb fl.1 (up.trans ug) os ag
  have away : ∀ {g : Heap}, HandSPX.FlyingZ B (X.env :: X.outer) a (Zc cls d) g → a ∉ frs (X.env :: X.outer) := fun {g} fl hm => by
    obtain ⟨o1, v1, e1, _, d1⟩ := fl.there
    obtain ⟨_, o2, e2, hno⟩ := fl.2.2.1.mem hm
    rw [e1] at e2
    cases e2
    exact hno _ d1
  have aw := away fl
  have nL : a ≠ X.env.locals := fun z => aw (List.mem_filterMap.mpr ⟨X.env, List.mem_cons_self, by rw [hf, z]⟩)
  have nI : sI.heap.get? a = none := by
    cases q : sI.heap.get? a with
    | none => rfl
    | some o =>
      have z := nb a o q (by rw [hs]; exact aw)
      rw [fl.2.1] at z
      cases z
  have Sg : Inv (cxS X a (X.pn ++ pins)) [] σ' H' { t with heap := g } := toS_inv Jg a
  refine wpAny_handleBy_cons (codeAny_handlers_test ?_) (by intro q; cases q)
  obtain ⟨oe, vs, he, hz, hd⟩ := fl.there
  have seen : PySem.W.Looks (model X.prog X.w) g (typeOf (.ref a)) cls := fun A Q E t k q => wpAny_typeOf_ref (k _ _ he) (by rw [hz.1]; exact q)
  have asked := PySem.W.exm_one (M := model X.prog X.w) Jg.kIn seen hm
  have name : ∀ {Q : Value → Shared → Prop} {E : Value → Shared → Prop}, Q c { t with heap := g } → wpAny (model X.prog X.w) (X.A.mark (some (.ref a))) (eval (.Name x np) X.env) Q E { t with heap := g } := fun {Q E} q => by
    rcases hc with ⟨hg, hdb, h1 | ⟨h1, h2, h3⟩⟩
    · exact ld_glob (X := cxS X a (X.pn ++ pins)) Sg hg h1 q hdb
    · exact ld_blt (X := cxS X a (X.pn ++ pins)) Sg hg h1 h2 q h3 hdb
  refine name (asked.here ?_)
  cases b with
  | false =>
    refine wpAny_handleBy_nil (A := X.A) ?_
    obtain ⟨k1, k2, k3, o5, v5, T, oT, t5, e5, z5, d5, f5, r5⟩ := id fl
    unfold PySem.passOn
    refine wpAny_bind (wpAny_field e5 d5 f5 ?_)
    rw [if_neg (by simp)]
    have out : wpAny (model X.prog X.w) X.A (setFlight (.ref a) X.env.frame) (fun _ t4 => wpAny (model X.prog X.w) X.A (throw (.ref a) : Sem Flow) (SP X pins D) X.xe t4) X.xe { t with heap := g } := by
      rw [hf]
      refine HandSPX.setFlight_upZ fl fun g4 held u4 => wpAny_throw (tk _ _ ⟨a, B, sI, pins, σ', H', cls, d, rfl, J, nb, (up.trans ug).trans u4, .inr (.inr (by rw [hs]; exact held)), na, os, ag, no rfl⟩)
    first
      | exact wpAny_bind (wpAny_pure (wpAny_bind out))
      | exact wpAny_bind out
  | true =>
    have go := yes rfl
    refine codeAny_handlers_suite_as (HandSPX.lands_againZ fl fun g4 fl4 u4 => ?_)
    obtain ⟨o4, v4, e4, z4, d4⟩ := fl4.there
    have J4 : Inv X pins σ' H' { t with heap := g4 } := J.landed nb fl4.1 ((up.trans ug).trans u4) os ag
    have T4 : Inv X pins σ' (upd H' a (EXO cls d a)) { t with heap := g4 } := track J4 J nI na nL hex (exo_ok e4 z4 d4)
    refine store_ok (X := cxS X a (X.pn ++ pins)) (v := .ref a) (toS_inv T4 a) hN hi (.inl hln) rfl (fun t5 S5 => ?_) (.inr hln)
    have gone : ∀ {σ6 : L2.St} {H6 : Hp} {t6 : Shared} {Q : Shared → Prop}, Inv (cxS X a (X.pn ++ pins)) [] σ6 H6 t6 → (∀ t7, Inv X pins (σ6.set i none) H6 t7 → Q t7) →
        wpAny (model X.prog X.w) X.A (do bindName X.env n .none; unbindBehindTheSuite X.env n pos') (fun _ t7 => Q t7) X.xe t6 := fun S6 q => gone_ok (ofS_inv S6 hcl) hN hi hln q
    refine wpAny_mono ((hsu a (X.pn ++ pins)).run [] t5 _ _ _ S5 (go a na)) ?_ fun _ _ z => z.elim
    intro fl6 t6 z
    cases fl6 with
    | next => let ⟨σ6, H6, S6, q⟩ := z; exact gone S6 fun t7 J7 => ⟨_, _, J7, q⟩
    | brk => let ⟨σ6, H6, S6, q⟩ := z; exact gone S6 fun t7 J7 => ⟨_, _, J7, q⟩
    | cont => let ⟨σ6, H6, S6, q⟩ := z; exact gone S6 fun t7 J7 => ⟨_, _, J7, q⟩
    | ret u => let ⟨v6, σ6, H6, S6, r, q⟩ := z; exact gone S6 fun t7 J7 => ⟨_, _, _, J7, r, q⟩
end
end B
namespace B
open PySem L2
theorem cMem_of {ys : List Str} {c : Str} (h : cMem ys c = true) : c ∈ ys := by
  unfold cMem at h
  exact List.contains_iff_mem.mp h
def tEnd (i : Nat) : RS → RS
  | .ok .nx ρ => .ok .nx (ρ.set i none)
  | .ok .bk ρ => .ok .bk (ρ.set i none)
  | .ok .ct ρ => .ok .ct (ρ.set i none)
  | .ok (.rt k d) ρ => .ok (.rt k d) ρ
  | _ => .bad
@[simp] theorem tEnd_nx (i : Nat) (ρ : Env) : tEnd i (.ok .nx ρ) = .ok .nx (ρ.set i none) := rfl
@[simp] theorem tEnd_bk (i : Nat) (ρ : Env) : tEnd i (.ok .bk ρ) = .ok .bk (ρ.set i none) := rfl
@[simp] theorem tEnd_ct (i : Nat) (ρ : Env) : tEnd i (.ok .ct ρ) = .ok .ct (ρ.set i none) := rfl
@[simp] theorem tEnd_rt (i k : Nat) (d : D) (ρ : Env) : tEnd i (.ok (.rt k d) ρ) = .ok (.rt k d) ρ := rfl
def tryR (ys : List Str) (i : Nat) (fs : SF) : RS → RS
  | .ok fl ρ => .ok fl ρ
  | .ex c ρ => if cMem ys (xB c) then tEnd i (fs (ρ.set i (some (0, .exo c)))) else .bad
  | .bad => .bad
@[simp] theorem tryR_ok (ys : List Str) (i : Nat) (fs : SF) (fl : Fl) (ρ : Env) : tryR ys i fs (.ok fl ρ) = .ok fl ρ := rfl
@[simp] theorem tryR_ex (ys : List Str) (i : Nat) (fs : SF) (c : Str) (ρ : Env) : tryR ys i fs (.ex c ρ) = if cMem ys (xB c) then tEnd i (fs (ρ.set i (some (0, .exo c)))) else .bad := rfl
def sTry (fb : SF) (ys : List Str) (i : Nat) (fs : SF) : SF := fun ρ => tryR ys i fs (fb ρ)
@[simp] theorem sTry_eq (fb : SF) (ys : List Str) (i : Nat) (fs : SF) (ρ : Env) : sTry fb ys i fs ρ = tryR ys i fs (fb ρ) := rfl
section
variable {K : PySem.W.Frag} {cl : Clx} {W : WX} {ρ : Env} {σ : L2.St} {G H G' H' : Hp} {Fs Fs' : Foot}
theorem semTry {tb : WX → TS} {ts : TS} {fb fs : SF} {ys : List Str} {i : Nat} {x : Str} (hb : ∀ W, SemS K cl W (tb W) fb) (hs : SemS K cl W0 ts fs) (hfx : cl.fix i = none) (hm : ∀ z, cMem ys z = true → PySem.W.exmOne K (.ref (cl z)) (.ref (cl x)) = some true) :
    SemS K cl W (fun D σ H => tb (wT K (.ref (cl x)) i ts W D) D σ H) (sTry fb ys i fs) := by
  intro ρ σ G H Fs env D hq
  refine hb _ ρ σ G H Fs env D ?_
  rw [sTry_eq] at hq
  cases e : fb ρ with
  | bad => rw [e] at hq; exact hq
  | ok fl ρ1 =>
    rw [e] at hq
    cases fl with
    | nx => exact hq
    | bk => exact hq
    | ct => exact hq
    | rt k d => exact hq
  | ex c ρ1 =>
    rw [e, tryR_ex] at hq
    cases ec : cMem ys (xB c) with
    | false => rw [ec] at hq; exact hq.elim
    | true =>
      rw [ec, if_pos rfl] at hq
      intro σ1 G1 H1 F1 env1 sx1 dd hdd
      refine ⟨true, hm (xB c) ec, fun _ a ha => ?_, fun z => by cases z⟩
      have px : Px G1 H1 (upd G1 a (EXO (.ref (cl (xB c))) dd a)) (upd H1 a (EXO (.ref (cl (xB c))) dd a)) := px_frozen env1.gh ha
      have env2 := setEnv env1 px (F := fun _ => False) (i := i) (k := 0) (v := .ref a) (d := .exo c) noFoo (Rep.exo (cl := cl.c) upd_same (hdd.mono px.gg)) hfx
      have sx2 : Sx (Un Fs) G H _ _ _ := sx1.trans (sx_set env1 px (F := fun _ => False) noFoo i)
      refine hs _ _ _ _ _ env2 _ ?_
      have stop : ∀ {ρ' : Env} {C : L2.St → Hp → Prop} {U : Addr → Prop} {G H : Hp}, PE1 K cl U G H (ρ'.set i none) C → PE1 K cl U G H ρ' fun σ' H' => C (σ'.set i none) H' := fun h σ3 G3 H3 F3 env3 sx3 => by
        have e4 := env3.drop i
        refine h _ G3 H3 F3 ⟨by simpa using e4.len, e4.gh, fun j k d hj => ?_, e4.dis, e4.dom, fun j v hj => ?_⟩ sx3
        · obtain ⟨v, hv, o⟩ := e4.own j k d hj
          have hne : i ≠ j := fun z => by
            subst z
            have hlt : i < (List.set _ i none : Env).length := (List.getElem?_eq_some_iff.mp hj).1
            rw [List.getElem?_set_self (by simpa using hlt)] at hj
            cases hj
          exact ⟨v, by rw [List.getElem?_set_ne hne]; exact hv, o⟩
        · have hne : i ≠ j := fun z => by
            subst z
            rw [hfx] at hj
            cases hj
          rw [List.getElem?_set_ne hne]
          exact e4.fx j v hj
      cases ef : fs (ρ1.set i (some (0, .exo c))) with
      | bad => rw [ef] at hq; exact hq
      | ex c2 ρ2 => rw [ef] at hq; exact hq.elim
      | ok fl ρ2 =>
        rw [ef] at hq
        have hq2 := PostS.mono sx2 hq
        cases fl with
        | nx => exact stop hq2
        | bk => exact stop hq2
        | ct => exact stop hq2
        | rt k d => exact hq2
end
section
variable {X : Cx} {cl : Clx} {W : WX} {pos : Pos}
structure Frt (X : Cx) (W : WX) where
  pn : List (Addr × Obj)
  xe : Value → Shared → Prop
  tk : Takes (X.tr pn xe) W
  po : PassesOwn (model X.prog X.w) X.A X.env xe
theorem es_try {x n : Str} (i : Nat) {ys : List Str} {c : Str → Addr} {b₀ : Stmt} {body suite : List Stmt} {np pos' : Pos} {fb fs : SF} (hg : X.mg x = some (.ref (c x))) (tk : Takes X W)
    (hb : ∀ (W : WX) (pn : List (Addr × Obj)) (xe : Value → Shared → Prop), Takes (X.tr pn xe) W → PassesOwn (model X.prog X.w) X.A X.env xe → EvB (X.tr pn xe) cl W body fb)
    (hsu : ∀ (a : Addr) (pn : List (Addr × Obj)), EvB (cxS X a pn) cl W0 (b₀ :: suite) fs)
    (hm : ∀ z, cMem ys z = true → PySem.W.exmOne X.K (.ref (c z)) (.ref (c x)) = some true) (hN : X.N.Nodup)
    (hs : X.stack = X.env :: X.outer := by rfl) (hf : X.env.frame = some X.env.locals := by rfl) (hex : X.ex = [] := by rfl) (hi : X.N[i]? = some n := by rfl) (hln : X.env.kindOf n = some .local := by rfl)
    (hgl : Gl X x := by rfl) (hd : (x == ("__debug__" : Str)) = false := by decide) (hfx : cl.fix i = none := by rfl) (hcc : cl.c = c := by rfl) :
    EvS X cl W (.Try body [.ExceptHandler (some (.Name x np)) (some n) (b₀ :: suite) pos'] [] [] pos) (sTry fb ys i fs) := by
  subst hcc
  have h1 : ∀ W, ∃ t : Frt X W → TS, ∀ z, PSs (X.tr z.pn z.xe) body (t z) ∧ SemS X.K cl W (t z) fb := fun W => ⟨fun z => Classical.choose (hb W z.pn z.xe z.tk z.po), fun z => Classical.choose_spec (hb W z.pn z.xe z.tk z.po)⟩
  have h2 : ∃ t : ∀ W, Frt X W → TS, ∀ W z, PSs (X.tr z.pn z.xe) body (t W z) ∧ SemS X.K cl W (t W z) fb := ⟨fun W => Classical.choose (h1 W), fun W => Classical.choose_spec (h1 W)⟩
  obtain ⟨t, ht⟩ := h2
  have h3 : ∃ u : Addr → List (Addr × Obj) → TS, ∀ a pn, PSs (cxS X a pn) (b₀ :: suite) (u a pn) ∧ SemS X.K cl W0 (u a pn) fs := ⟨fun a pn => Classical.choose (hsu a pn), fun a pn => Classical.choose_spec (hsu a pn)⟩
  obtain ⟨u, hu⟩ := h3
  refine ⟨_, ps_tryT (tb := fun W D σ H => ∀ z, t W z D σ H) (ts := fun D σ H => ∀ a pn, u a pn D σ H) (c := .ref (cl x)) hs hf hex hN hi hln ⟨hgl, hd, .inl hg⟩ tk (fun W pn xe tk po => ?_) (fun a pn => ?_),
    semTry (fun W ρ σ G H Fs env D hq z => (ht W z).2 ρ σ G H Fs env D hq) (fun ρ σ G H Fs env D hq a pn => (hu a pn).2 ρ σ G H Fs env D hq) hfx hm⟩
  · exact ⟨fun pins s σ H D I q => (ht W ⟨pn, xe, tk, po⟩).1.run pins s σ H D I (q _)⟩
  · exact ⟨fun pins s σ H D I q => (hu a pn).1.run pins s σ H D I (q _ _)⟩
end
end B
namespace B
open PySem L2
/-! ### isinstance of the program's own classes -/
/-- a class of the program, for its instances -/
structure OwnC (K : PySem.W.Frag) (C : Addr) : Prop where
  cl : Cls K C
  ha : PySem.W.findIn K (.ref C) "__class__" = some (some (.builtin "object.__class__"))
  hn : PySem.W.specialIn K (.builtin "object.__class__") "__get__" = some (some (.builtin "getset_descriptor.__get__"))
  ht : PySem.W.takesIn K (.builtin "object.__class__") = some true
  hm : PySem.W.mroIn K C (.type "object") = some true
theorem oB_ok {x : Option Bool} (h : oB x = true) : x = some true := of_decide_eq_true h
theorem ownB_ok {K : PySem.W.Frag} {C : Addr} (h : ownB K C = true) : OwnC K C := by
  obtain ⟨h1, h⟩ := He.ba h
  obtain ⟨h2, h⟩ := He.ba h
  obtain ⟨h3, h⟩ := He.ba h
  obtain ⟨h4, h⟩ := He.ba h
  obtain ⟨h5, h⟩ := He.ba h
  obtain ⟨h6, h⟩ := He.ba h
  obtain ⟨h7, h8⟩ := He.ba h
  exact ⟨⟨h1, h2, h3, He.eqO_ok h4⟩, He.eqO_ok h5, He.eqO_ok h6, oB_ok h7, oB_ok h8⟩
theorem excB_ok {K : PySem.W.Frag} {C : Addr} (h : excB K C = true) : ExcC K C := by
  obtain ⟨h1, h⟩ := He.ba h
  obtain ⟨h2, h⟩ := He.ba h
  obtain ⟨h3, h⟩ := He.ba h
  obtain ⟨h4, h⟩ := He.ba h
  obtain ⟨h5, h⟩ := He.ba h
  obtain ⟨h6, h⟩ := He.ba h
  obtain ⟨h7, h8⟩ := He.ba h
  exact ⟨He.eqO_ok h1, He.eqO_ok h2, oB_ok h3, h4, He.eqO_ok h5, He.eqO_ok h6, oB_ok h7, oB_ok h8⟩
def Tk.v (c : Str → Addr) : Tk → V
  | .own x => .ref (c x)
  | .blt n => .ty n
theorem Tk.cls (c : Str → Addr) : ∀ t : Tk, ClsV (t.v c) (t.u c)
  | .own x => .own _
  | .blt n => .ty n
/-- what the classes T say of the instances of os, of the errors es: ys -/
structure IsF (K : PySem.W.Frag) (c : Str → Addr) (T : List Tk) (os es ys : List Str) : Prop where
  ob : ∀ C, cMem os C = true → OwnC K (c C) ∧ PySem.W.kitAny K (.ref (c C)) (T.map (Tk.u c)) = some (cMem ys C)
  ex : ∀ C, cMem es C = true → ExcC K (c C) ∧ PySem.W.kitAny K (.ref (c C)) (T.map (Tk.u c)) = some (cMem ys C)
  bl : ∀ n, n ∈ bltN → PySem.W.kitAny K (.type n) (T.map (Tk.u c)) = some false
theorem isB_ok {T : List Tk} {os es ys : List Str} {K : PySem.W.Frag} (h : isB T os es ys K = true) : IsF K (He.ga K) T os es ys := by
  obtain ⟨h1, h⟩ := He.ba h
  obtain ⟨h2, h3⟩ := He.ba h
  refine ⟨fun C hC => ?_, fun C hC => ?_, fun n hn => of_decide_eq_true (List.all_eq_true.mp h3 n hn)⟩
  · obtain ⟨a, b⟩ := He.ba (List.all_eq_true.mp h1 C (cMem_of hC))
    exact ⟨ownB_ok a, of_decide_eq_true b⟩
  · obtain ⟨a, b⟩ := He.ba (List.all_eq_true.mp h2 C (cMem_of hC))
    exact ⟨excB_ok a, of_decide_eq_true b⟩
def isR (os es ys : List Str) : D → R Vl
  | .obj C _ => if cMem os C then .ok (sh (.bl (cMem ys C))) else .bad
  | .exo C => if cMem es (xB C) then .ok (sh (.bl (cMem ys (xB C)))) else .bad
  | .dct _ => .bad
  | .dci _ => .bad
  | _ => .ok (sh (.bl false))
@[simp] theorem isR_obj (os es ys : List Str) (C : Str) (fs : List (Str × D)) : isR os es ys (.obj C fs) = if cMem os C then .ok (sh (.bl (cMem ys C))) else .bad := rfl
@[simp] theorem isR_exo (os es ys : List Str) (C : Str) : isR os es ys (.exo C) = if cMem es (xB C) then .ok (sh (.bl (cMem ys (xB C)))) else .bad := rfl
@[simp] theorem isR_non (os es ys : List Str) : isR os es ys .non = .ok (sh (.bl false)) := rfl
@[simp] theorem isR_int (os es ys : List Str) (i : Int) : isR os es ys (.int i) = .ok (sh (.bl false)) := rfl
@[simp] theorem isR_bl (os es ys : List Str) (i : Bool) : isR os es ys (.bl i) = .ok (sh (.bl false)) := rfl
@[simp] theorem isR_str (os es ys : List Str) (i : Str) : isR os es ys (.str i) = .ok (sh (.bl false)) := rfl
@[simp] theorem isR_lst (os es ys : List Str) (i : List D) : isR os es ys (.lst i) = .ok (sh (.bl false)) := rfl
@[simp] theorem isR_tup (os es ys : List Str) (i : List D) : isR os es ys (.tup i) = .ok (sh (.bl false)) := rfl
def eIs (os es ys : List Str) (a : EF) : EF := fun ρ => (a ρ).bind fun x => isR os es ys x.d
@[simp] theorem eIs_eq (os es ys : List Str) (a : EF) (ρ : Env) : eIs os es ys a ρ = (a ρ).bind fun x => isR os es ys x.d := rfl
/-- a value's kind, an error's too -/
inductive TyY (K : PySem.W.Frag) (H : Hp) : V → Value → Prop where
  | base {x : V} {t : Value} (h : TyX K H x t) : TyY K H x t
  | exo {a D : Addr} {dd : Option Addr} (e : H a = some (EXO (.ref D) dd a)) (hd : ∀ x, dd = some x → ∃ fs, H x = some (.xd fs)) (k : ExcC K D) : TyY K H (.ref a) (.ref D)
def rIsY (K : PySem.W.Frag) : List V → Hp → VK → Prop := fun xs H Q => ∃ (x c : V) (t u : Value) (b : Bool), xs = [x, c] ∧ ClsV c u ∧ TyY K H x t ∧ PySem.W.kitOne K t u = some b ∧ Q (.bl b) H
def rIsYT (K : PySem.W.Frag) : List V → Hp → VK → Prop := fun xs H Q => ∃ (x : V) (tp : Addr) (cs : List V) (t : Value) (us : List Value) (b : Bool), xs = [x, .ref tp] ∧ H tp = some (.tup cs) ∧ Paired ClsV cs us ∧ TyY K H x t ∧ PySem.W.kitAny K t us = some b ∧ Q (.bl b) H
section
variable {X : Cx} {pins : List (Addr × Obj)} {σ : L2.St} {H : Hp} {s : Shared}
theorem kit_ofY {x : V} {u t : Value} (I : Inv X pins σ H s) (rx : RelV x u) (ty : TyY X.K H x t) : ∃ P : Heap → Prop, PySem.W.KitX X.K u t P ∧ P s.heap ∧ u ≠ .builtin "__main__.__loader__#opaque" := by
  cases ty with
  | base h => exact kit_of I rx h
  | @exo a D dd e hdd k =>
    cases (show u = Value.ref a from rx)
    obtain ⟨⟨oe, vs, h1, h2, h3⟩, _, _⟩ := (show ObjOk X.prog X.w H s.heap a (EXO (.ref D) dd a) from I.hok a _ e)
    obtain ⟨ox, J⟩ : ∃ ox, PySem.W.InstAt s.heap a oe D ox := by
      obtain ⟨oc, od, oda, osl⟩ := oe
      obtain ⟨z1, z2⟩ := h2
      dsimp only at z1 z2 h3
      subst z1 z2 h3
      cases od with
      | none => exact ⟨none, h1, rfl, rfl, trivial⟩
      | some x =>
        obtain ⟨fs, hx⟩ := hdd x rfl
        obtain ⟨mA, hns, hr⟩ := (show ObjOk X.prog X.w H s.heap x (.xd fs) from I.hok x _ hx)
        obtain ⟨o2, ho2, _⟩ := lookIn_ns hns
        exact ⟨some o2, h1, rfl, rfl, ho2⟩
    exact ⟨_, PySem.W.kitx_exc (by obtain ⟨cd, hc, _⟩ := PySem.W.any_some k.hd; rw [hc]; rfl) k.hg k.hk k.hs k.ha k.hn k.ht k.hm, J, fun z => nomatch z⟩
theorem call_isY : CallR X (.builtin "isinstance") (rIsY X.K) := by
  rintro pins s σ H xs us Q I r ⟨x, c, t, u, b, rfl, k, ty, e, q⟩
  obtain ⟨u1, u2, rfl, r1, r2⟩ := vals2 r
  obtain rfl := k.eq r2
  obtain ⟨P, Z, p, hx⟩ := kit_ofY I r1 ty
  exact PySem.W.kia_one Z I.kIn p e hx fun tk => ⟨.bl b, H, I.tok tk, rfl, q⟩
theorem call_isYT : CallR X (.builtin "isinstance") (rIsYT X.K) := by
  rintro pins s σ H xs us Q I r ⟨x, tp, cs, t, ws, b, rfl, hT, k, ty, e, q⟩
  obtain ⟨u1, u2, rfl, r1, r2⟩ := vals2 r
  cases (show u2 = Value.ref tp from r2)
  obtain ⟨P, Z, p, hx⟩ := kit_ofY I r1 ty
  have ht := (show ObjOk X.prog X.w H s.heap tp (.tup cs) from I.hok tp _ hT)
  obtain ⟨_, its, rv, ⟨oc, od, dt, sl⟩, h1, h2, n, h3⟩ := ht
  obtain rfl := ClsV.all k rv
  simp only at h2 h3
  subst h2 h3
  exact PySem.W.kia_tup Z I.kIn p h1 e hx fun tk => ⟨.bl b, H, I.tok tk, rfl, q⟩
end
section
variable {X : Cx} {cl : Clx} {W : WX} {pos : Pos}
theorem tyy_of {K : PySem.W.Frag} {T : List Tk} {os es ys : List Str} {k : Nat} {v : V} {d : D} {F : Addr → Prop} {G H : Hp} {y : Vl} (f : IsF K cl.c T os es ys) (o : Own K cl H G k v d F) (gh : Same G H) (h : isR os es ys d = .ok y) : ∃ t b, TyY K H v t ∧ PySem.W.kitAny K t (T.map (Tk.u cl.c)) = some b ∧ y = sh (.bl b) := by
  have blt : ∀ n, tyN d = some n → n ∈ bltN → isR os es ys d = .ok (sh (.bl false)) → ∃ t b, TyY K H v t ∧ PySem.W.kitAny K t (T.map (Tk.u cl.c)) = some b ∧ y = sh (.bl b) := fun n hn hb hr => by
    rw [h] at hr
    cases hr
    exact ⟨_, false, .base (tyx_of o gh hn), f.bl n hb, rfl⟩
  cases d with
  | non => exact blt "NoneType" rfl (by decide) rfl
  | bl b => exact blt "bool" rfl (by decide) rfl
  | int b => exact blt "int" rfl (by decide) rfl
  | str b => exact blt "str" rfl (by decide) rfl
  | lst b => exact blt "list" rfl (by decide) rfl
  | tup b => exact blt "tuple" rfl (by decide) rfl
  | obj C fs =>
    rw [isR_obj] at h
    cases e : cMem os C with
    | false => rw [e] at h; cases h
    | true =>
      rw [e] at h
      cases h
      obtain ⟨q, kk⟩ := f.ob C e
      obtain ⟨p, dx, gs, rfl, hp, _⟩ := o.objR gh
      exact ⟨_, _, .base (.base (.ins hp q.cl q.ha q.hn q.ht q.hm)), kk, rfl⟩
  | exo C =>
    rw [isR_exo] at h
    cases e : cMem es (xB C) with
    | false => rw [e] at h; cases h
    | true =>
      rw [e] at h
      cases h
      obtain ⟨q, kk⟩ := f.ex (xB C) e
      cases Own.scal o (by simp) with
      | exo hg hd => exact ⟨_, _, .exo (gh _ _ hg) (fun x ex => (XD.at hd ex).imp fun fs z => gh _ _ z) q, kk, rfl⟩
  | dct ps => cases h
  | dci ks => cases h
/-- a name that tells a class -/
def ClN (X : Cx) (c : Str → Addr) (e : Expr) (t : Tk) : Prop := PE X e (tC (t.v c))
theorem cn_own {c : Str → Addr} {x : Str} (g : X.mg x = some (.ref (c x))) (hg : Gl X x := by rfl) (hd : (x == ("__debug__" : Str)) = false := by decide) : ClN X c (.Name x pos) (.own x) := pe_glob (v := .ref (c x)) hg g rfl hd
theorem cn_blt {c : Str → Addr} {x : Str} (n : String) (hm : X.mg x = none) (hg : Gl X x := by rfl) (hv : bootBuiltins x = some (.type n) := by rfl) (hn : x ≠ "__name__" := by decide) (hd : (x == ("__debug__" : Str)) = false := by decide) : ClN X c (.Name x pos) (.blt n) := pe_bltn (v := .ty n) hg hm hv rfl hn hd
def ClNs (X : Cx) (c : Str → Addr) (es : List Expr) (ts : List Tk) : Prop := ∃ t, PA X es t ∧ ∀ σ H Q, Q (ts.map (Tk.v c)) H → t σ H Q
theorem cns_nil {c : Str → Addr} : ClNs X c [] [] := ⟨_, pa_nil, fun σ H Q q => q⟩
theorem cns_cons {c : Str → Addr} {e : Expr} {es : List Expr} {k : Tk} {ks : List Tk} (h : ClN X c e k) (h2 : ClNs X c es ks) (hs : starEach (e :: es) X.env = (false, eval e X.env) :: starEach es X.env := by rfl) : ClNs X c (e :: es) (k :: ks) := by
  obtain ⟨t, p, q⟩ := h2
  exact ⟨_, pa_cons h p hs, fun σ H Q q2 => q σ H _ q2⟩
theorem paired_tk (c : Str → Addr) : ∀ ts : List Tk, Paired ClsV (ts.map (Tk.v c)) (ts.map (Tk.u c))
  | [] => .nil
  | t :: ts => .cons (t.cls c) (paired_tk c ts)
theorem ev_is1 {c : Str → Addr} {k : Tk} {os es ys : List Str} {p : Pos} {e e2 : Expr} {a : EF} (f : IsF X.K c [k] os es ys) (hk : ClN X c e2 k) (hm : X.mg "isinstance" = none) (ha : EvE X cl W e a) (hg : Gl X "isinstance" := by rfl)
    (hs : starEach [e, e2] X.env = (false, eval e X.env) :: starEach [e2] X.env := by rfl) (hs2 : starEach [e2] X.env = (false, eval e2 X.env) :: starEach [] X.env := by rfl) (hpl : (backTo pos (starEach [e2] X.env)).any (·.1) = false := by rfl) (hcc : cl.c = c := by rfl) :
    EvE X cl W (.Call (.Name "isinstance" p) [e, e2] [] pos) (eIs os es ys a) := by
  subst hcc
  obtain ⟨t, pt, st⟩ := ha
  refine ⟨_, pe_callB call_isY hg hm PyProof.Rows.boot_isinstance (pa_cons pt (pa_cons hk pa_nil hs2) hs) (by decide) (by decide) hs hpl, fun ρ σ G H Fs env Q hq => ?_⟩
  refine st.use env PV.mono hq fun y v G1 H1 F1 e1 p1 env1 o1 f1 hq1 => ?_
  cases er : isR os es ys y.d with
  | bad => rw [er] at hq1; exact hq1.elim
  | ex z => rw [er] at hq1; unfold isR at er; split at er <;> first | cases er | (split at er <;> cases er)
  | ok z =>
    rw [er] at hq1
    obtain ⟨t, b, ty, kk, rfl⟩ := tyy_of f o1 env1.gh er
    refine ⟨v, _, t, _, b, rfl, k.cls cl.c, ty, ?_, hq1 _ G1 H1 (fun _ => False) (Px.refl env1.gh) (Rep.bl _) noFoo⟩
    have kk : PySem.W.kitAny X.K t [k.u cl.c] = some b := kk
    unfold PySem.W.kitAny at kk
    cases q : PySem.W.kitOne X.K t (k.u cl.c) with
    | none => rw [q] at kk; cases kk
    | some r =>
      rw [q] at kk
      cases r with
      | true => cases kk; rfl
      | false =>
        have kk : PySem.W.kitAny X.K t [] = some b := kk
        rw [kitAny_nil] at kk
        cases kk
        rfl
theorem ev_isT {c : Str → Addr} {ks : List Tk} {os es ys : List Str} {p pT : Pos} {e : Expr} {ns : List Expr} {x1} {a : EF} (f : IsF X.K c ks os es ys) (hk : ClNs X c ns ks) (hm : X.mg "isinstance" = none) (ha : EvE X cl W e a) (hl : ks.length ≤ 1000 := by decide) (hg : Gl X "isinstance" := by rfl)
    (hs : starEach [e, .Tuple ns x1 pT] X.env = (false, eval e X.env) :: starEach [.Tuple ns x1 pT] X.env := by rfl) (hs2 : starEach [.Tuple ns x1 pT] X.env = (false, eval (.Tuple ns x1 pT) X.env) :: starEach [] X.env := by rfl) (hpl : (backTo pos (starEach [.Tuple ns x1 pT] X.env)).any (·.1) = false := by rfl) (hcc : cl.c = c := by rfl) :
    EvE X cl W (.Call (.Name "isinstance" p) [e, .Tuple ns x1 pT] [] pos) (eIs os es ys a) := by
  subst hcc
  obtain ⟨t, pt, st⟩ := ha
  obtain ⟨u, pu, su⟩ := hk
  refine ⟨_, pe_callB call_isYT hg hm PyProof.Rows.boot_isinstance (pa_cons pt (pa_cons (pe_tup pu) pa_nil hs2) hs) (by decide) (by decide) hs hpl, fun ρ σ G H Fs env Q hq => ?_⟩
  refine st.use env PV.mono hq fun y v G1 H1 F1 e1 p1 env1 o1 f1 hq1 => ?_
  refine su _ _ _ ⟨le_line (by simpa using hl), fun tp hp => ?_⟩
  have px : Px G1 H1 G1 (upd H1 tp (.tup (ks.map (Tk.v cl.c)))) := px_new env1.gh hp
  cases er : isR os es ys y.d with
  | bad => rw [er] at hq1; exact hq1.elim
  | ex z => rw [er] at hq1; unfold isR at er; split at er <;> first | cases er | (split at er <;> cases er)
  | ok z =>
    rw [er] at hq1
    obtain ⟨t, b, ty, kk, rfl⟩ := tyy_of f (o1.px px) px.gh er
    exact ⟨v, tp, _, t, _, b, rfl, upd_same, paired_tk cl.c ks, ty, kk, hq1 _ G1 _ (fun _ => False) px (Rep.bl _) noFoo⟩
end
end B
namespace B
open PySem L2 PySem.Spec PyProof.Rows
/-! ### a new instance, a base's method called through its class: what is raised is wished for at the caller's slots -/
def tMkS (C : Addr) (sp : Sp) (E : L2.St → XK) (t : TA) : TE := fun σ H Q => t σ H fun vs H1 => ∀ x dx, H1 x = none → H1 dx = none → dx ≠ x →
  sp (.ref x :: vs) (upd (upd H1 dx (.own x)) x (.ins C dx [])) (fun v H2 => v = .non ∧ Q (.ref x) H2) (E σ)
section
variable {X : Cx} {k : Nat} {f C : Addr} {fd : FuncData} {ps : List Str} {sp : Sp} {E : L2.St → XK} {x : Str} {p pos : Pos} {e : Expr} {es : List Expr} {t : TA}
theorem pe_mkS (M : Mk X.K C f) (F : FnOk X.prog X.w X.K X.mg X.base (L2.CX X.prog X.w) k f fd ps sp) (hr : Room (k + 1) X.A) (hg : Gl X x) (hm : X.mg x = some (.ref C)) (hb : Binds X.K fd ps []) (hx : ∀ σ, PassesAt (L2.CX X.prog X.w) X σ (E σ))
    (ha : PA X (e :: es) t) (hdb : (x == ("__debug__" : Str)) = false := by decide) (he : starEach (e :: es) X.env = (false, eval e X.env) :: starEach es X.env := by rfl) (hpl : (backTo pos (starEach es X.env)).any (·.1) = false := by rfl) :
    PE X (.Call (.Name x p) (e :: es) [] pos) (tMkS C sp E t) := by
  constructor
  intro pins s σ H Q I h
  refine wpAny_Call_Name_kw (ld_glob I hg hm ?_ hdb)
  refine PySem.W.callWith_K (h₀ := X.base) I.ok.mod.kin M.kp (thn (ha.run pos pins s σ H _ I h) fun us s1 ⟨vs, H1, I1, r, q⟩ => ⟨I1.kIn, ?_⟩) he hpl
  let n := s1.heap.objs.size
  have made := Inv.made (C := C) I1
  have sp1 := q (n + 1) n (I1.hok.fresh (Nat.le_succ _)) (I1.hok.fresh (Nat.le_refl _)) (Nat.ne_of_lt (Nat.lt_succ_self _))
  have rel : Vals (V.ref (n + 1) :: vs) (Value.ref (n + 1) :: us) := .cons rfl r
  have len : (Value.ref (n + 1) :: us).length = ps.length := by rw [← rel.length]; exact F.len _ _ _ _ sp1
  have bd := hb { s1 with heap := (s1.heap.push PySem.W.emptyDict).push (PySem.W.instObj C n) } (Value.ref (n + 1) :: us) made.kIn (by rw [List.append_nil]; exact len)
  rw [List.append_nil] at bd
  refine wpAny_call (make_map (f := f) I1.kIn M.makes M.init (beq_iff_eq.mp M.fn) (codeAny_mono (F.run _ X.stack _ _ ⟨_ :: us, []⟩ _ _ _ (E σ) (hr.make C us []) (made.env0.make C us []) bd rel sp1) fun res s2 z => ?_))
  cases res with
  | error e => exact hx σ pins _ _ e s2 made z
  | ok fl =>
    cases fl with
    | ret u =>
      obtain ⟨v, H', I3, rv, ev, q3⟩ := made.after z
      subst ev
      exact ⟨rv, .ref (n + 1), H', I3, rfl, q3⟩
    | next => exact z.elim
    | brk => exact z.elim
    | cont => exact z.elim
end
end B
namespace B
open PySem L2
/-! ### defs that change what they are handed -/
inductive RM where
  | ok (x : Vl) (o : Env)
  | ex (c : Str) (o : Env)
  | bad
abbrev FnM := List (Nat × D) → RM
def Fre (Fs : Foot) (G' H' : Hp) (F : Addr → Prop) : Prop := ∀ a, F a → (∃ o, H' a = some o) ∧ G' a = none ∧ ¬ Un Fs a
def PFM (K : PySem.W.Frag) (c : Str → Addr) (vs : List V) (Fs : Foot) (G H : Hp) (Q : VK) (E : XK) : RM → Prop
  | .ok x o => x.b = false ∧ ∀ v G' H' Fs' F, EnvR K (cl0 c) o (vs.map some) G' H' Fs' → Own K c H' G' x.k v x.d F → Fre Fs' G' H' F → Sx (Un Fs) G H (fun a => Un Fs' a ∨ F a) G' H' → Q v H'
  | .ex z o => ∀ G' H' Fs', EnvR K (cl0 c) o (vs.map some) G' H' Fs' → Sx (Un Fs) G H (Un Fs') G' H' → ∀ d, XD z d G' → E (.ref (c (xB z))) d H'
  | .bad => False
def spM (K : PySem.W.Frag) (c : Str → Addr) (n : Nat) (f : FnM) : Sp := fun vs H Q E => vs.length = n ∧ ∃ G as Fs, EnvR K (cl0 c) (as.map some) (vs.map some) G H Fs ∧ PFM K c vs Fs G H Q E (f as)
/-- what is handed back: the slots ms of the first n -/
def outs (ms : List Nat) (n : Nat) (ρ : Env) : Env := (List.range n).map fun i => if ms.contains i then (ρ[i]?).getD none else none
def outM (ms : List Nat) (n : Nat) : RS → RM
  | .ok .nx ρ => .ok (sh .non) (outs ms n ρ)
  | .ok (.rt k d) ρ => .ok ⟨false, k, d⟩ (outs ms n ρ)
  | .ex c ρ => .ex c (outs ms n ρ)
  | _ => .bad
@[simp] theorem outM_nx (ms : List Nat) (n : Nat) (ρ : Env) : outM ms n (.ok .nx ρ) = .ok (sh .non) (outs ms n ρ) := rfl
@[simp] theorem outM_rt (ms : List Nat) (n k : Nat) (d : D) (ρ : Env) : outM ms n (.ok (.rt k d) ρ) = .ok ⟨false, k, d⟩ (outs ms n ρ) := rfl
@[simp] theorem outM_ex (ms : List Nat) (n : Nat) (c : Str) (ρ : Env) : outM ms n (.ex c ρ) = .ex c (outs ms n ρ) := rfl
def rhoM (n : Nat) (as : List (Nat × D)) : Env := as.map some ++ List.replicate (n - as.length) none
/-- a def of n parameters, N slots; ms: the parameters that it changes -/
def runM (N n : Nat) (ms : List Nat) (b : SF) : FnM := fun as => outM ms n (b (rhoM N as))
def fixOf (ms : List Nat) (vs : List V) : Nat → Option V := fun i => if ms.contains i then vs[i]? else none
def clM (c : Str → Addr) (ms : List Nat) (vs : List V) : Clx := ⟨c, fixOf ms vs⟩
def BodyM (P : Program) (w : World) (K : PySem.W.Frag) (mg : Str → Option Value) (base : Heap) (c : Str → Addr) (ms : List Nat) (k : Nat) (N : List Str) (qual : Str) (st : Stmt) (b : SF) : Prop := ∀ vs : List V, BodyOk P w K mg base (clM c ms vs) k N qual st b
section
variable {K : PySem.W.Frag} {c : Str → Addr} {cl : Clx}
theorem getElem?_outs {ms : List Nat} {n : Nat} {ρ : Env} {i : Nat} {q : Nat × D} (h : (outs ms n ρ)[i]? = some (some q)) : i < n ∧ ms.contains i = true ∧ ρ[i]? = some (some q) := by
  unfold outs at h
  rw [List.getElem?_map] at h
  cases e : (List.range n)[i]? with
  | none => rw [e] at h; cases h
  | some j =>
    obtain ⟨h1, h2⟩ := List.getElem?_eq_some_iff.mp e
    have hj : j = i := by rw [← h2, List.getElem_range]
    subst hj
    rw [e] at h
    simp only [Option.map_some, Option.some.injEq] at h
    cases em : ms.contains j with
    | false => rw [em] at h; cases h
    | true =>
      rw [em, if_pos rfl] at h
      refine ⟨by simpa using h1, rfl, ?_⟩
      cases er : ρ[j]? with
      | none => rw [er] at h; cases h
      | some s =>
        rw [er] at h
        exact congrArg some h
theorem start_get {N : List Str} {vs : List V} {i : Nat} {v : V} (h : vs[i]? = some v) : (L2.start N vs)[i]? = some (some v) := by
  unfold L2.start
  have hi : i < vs.length := (List.getElem?_eq_some_iff.mp h).1
  rw [List.getElem?_append_left (by simpa using hi), List.getElem?_map, h]
  rfl
theorem envM {N : List Str} {vs : List V} {as : List (Nat × D)} {G H : Hp} {Fs : Foot} (ms : List Nat) (e : EnvR K (cl0 c) (as.map some) (vs.map some) G H Fs) : EnvR K (clM c ms vs) (rhoM N.length as) (L2.start N vs) G H Fs := by
  have hl : as.length = vs.length := by simpa using e.len
  refine ⟨by simp only [rhoM, L2.start, List.length_append, List.length_map, List.length_replicate, hl], e.gh, fun i k d h => ?_, e.dis, e.dom, fun i v h => ?_⟩
  · unfold rhoM at h
    by_cases hi : i < as.length
    · rw [List.getElem?_append_left (by simpa using hi)] at h
      obtain ⟨v, hv, o⟩ := e.own i k d h
      rw [List.getElem?_map] at hv
      cases ev : vs[i]? with
      | none => rw [ev] at hv; cases hv
      | some v' =>
        rw [ev] at hv
        cases hv
        exact ⟨_, start_get ev, o⟩
    · rw [List.getElem?_append_right (by simpa using hi), List.getElem?_replicate] at h
      split at h <;> cases h
  · have h : (if ms.contains i then vs[i]? else none) = some v := h
    cases em : ms.contains i with
    | false => rw [em] at h; cases h
    | true =>
      rw [em, if_pos rfl] at h
      exact start_get h
/-- behind the body: the caller's view -/
theorem envOut {N : List Str} {vs : List V} {ρ : Env} {σ : L2.St} {G H : Hp} {Fs : Foot} {ms : List Nat} (e : EnvR K (clM c ms vs) ρ σ G H Fs) : EnvR K (cl0 c) (outs ms vs.length ρ) (vs.map some) G H (fun i a => i < vs.length ∧ ms.contains i = true ∧ Fs i a) := by
  refine ⟨by simp [outs], e.gh, fun i k d h => ?_, fun i j a h1 h2 => e.dis i j a h1.2.2 h2.2.2, fun i a h => e.dom i a h.2.2, fun i v h => nomatch h⟩
  obtain ⟨hi, hm, hr⟩ := getElem?_outs h
  obtain ⟨v, hv, o⟩ := e.own i k d hr
  have hf : (clM c ms vs).fix i = some vs[i] := by
    show (if ms.contains i then vs[i]? else none) = _
    rw [hm, if_pos rfl, List.getElem?_eq_getElem hi]
  have h2 := e.fx i _ hf
  rw [hv] at h2
  cases h2
  exact ⟨_, by rw [List.getElem?_map, List.getElem?_eq_getElem hi]; rfl, o.weak fun a fa => ⟨hi, hm, fa⟩⟩
theorem Sx.less {U U1 U2 : Addr → Prop} {G H G' H' : Hp} (s : Sx U G H U1 G' H') (h : ∀ a, U2 a → U1 a) : Sx U G H U2 G' H' := ⟨s.gg, s.gh, s.fr, s.th, fun a u => s.un a (h a u), s.gn⟩
theorem fn_mut {P : Program} {w : World} {mg : Str → Option Value} {base : Heap} {x qual : Str} {st : Stmt} {f : Addr} {fd : FuncData} {N ps : List Str} {k : Nat} {ms : List Nat} {b : SF} (F : FunD K x qual (defArgs st) (defBody st) (defScope st) [] [] f fd) (S : FnScope N ps (defScope st))
    (hb : BodyM P w K mg base c ms k N qual st b) : FnOk P w K mg base (L2.CX P w) (k + 1) f fd ps (spM K c ps.length (runM N.length ps.length ms b)) := by
  refine F.ok S (fun vs H Q E h => h.1) fun cdv A outer s H vs Q E hr h => ?_
  obtain ⟨hl, G, as, Fs, e0, q⟩ := h
  obtain ⟨t, pt, sm⟩ := hb vs f cdv A outer s H E hr
  refine ⟨t, pt, sm _ _ G H _ (envM ms e0) _ ?_⟩
  unfold runM at q
  rw [← hl] at q
  cases e : b (rhoM N.length as) with
  | bad => rw [e] at q; exact q
  | ex z ρ =>
    rw [e] at q
    exact fun σ' G' H' Fs' e' s => q G' H' _ (envOut (N := N) e') (s.less fun a ⟨i, _, _, z⟩ => ⟨i, z⟩)
  | ok fl ρ =>
    rw [e] at q
    cases fl with
    | bk => exact q.elim
    | ct => exact q.elim
    | nx => exact fun σ' G' H' Fs' e' s => q.2 .non G' H' _ (fun _ => False) (envOut (N := N) e') Rep.non (fun a z => z.elim) (s.less fun a h => h.elim (fun ⟨i, _, _, z⟩ => ⟨i, z⟩) False.elim)
    | rt k d =>
      intro σ' v G' H' Fs' F e' o fr s
      refine q.2 v G' H' _ F (envOut (N := N) e') o (fun a fa => ⟨(fr a fa).1, (fr a fa).2.1, fun ⟨i, _, _, z⟩ => (fr a fa).2.2 ⟨i, z⟩⟩) (s.less fun a h => h.elim (fun ⟨i, _, _, z⟩ => .inl ⟨i, z⟩) .inr)
end
/-- such a def as its callers know it -/
structure CalleeM (P : Program) (w : World) (K : PySem.W.Frag) (mg : Str → Option Value) (base : Heap) (c : Str → Addr) (fa : Addr) (k n : Nat) (f : FnM) : Prop where
  nb : ∀ as x o, f as = .ok x o → x.b = false
  ex : ∃ fd ps, FnOk P w K mg base (L2.CX P w) k fa fd ps (spM K c n f) ∧ PySem.W.keepIn K (.ref fa) = true ∧ Binds K fd ps []
theorem runM_nb {N n : Nat} {ms : List Nat} {b : SF} {as : List (Nat × D)} {x : Vl} {o : Env} (h : runM N n ms b as = .ok x o) : x.b = false := by
  unfold runM at h
  cases e : b (rhoM N as) with
  | bad => rw [e] at h; cases h
  | ex c ρ => rw [e] at h; cases h
  | ok fl ρ =>
    rw [e] at h
    cases fl with
    | bk => cases h
    | ct => cases h
    | nx => cases h; rfl
    | rt k d => cases h; rfl
theorem CalleeM.of {P : Program} {w : World} {K : PySem.W.Frag} {mg : Str → Option Value} {base : Heap} {c : Str → Addr} {x qual : Str} {st : Stmt} {fa : Addr} {fd : FuncData} {N ps : List Str} {k : Nat} {ms : List Nat} {b : SF} (F : FunD K x qual (defArgs st) (defBody st) (defScope st) [] [] fa fd) (S : FnScope N ps (defScope st))
    (hb : BodyM P w K mg base c ms k N qual st b)
    (h : ∀ (kV doc pm : Value) (an : Option Addr) (cdv ct : Value) (us : List Value), us.length = ps.length → bindArgs (PySem.W.fnOf x qual (defArgs st) (defBody st) (defScope st) .none kV doc pm an cdv ct) ⟨us, []⟩ = pure (ps.zip us)) :
    CalleeM P w K mg base c fa (k + 1) ps.length (runM N.length ps.length ms b) := ⟨fun _ _ _ => runM_nb, fd, ps, fn_mut F S hb, F.kp, F.bindsN h⟩
/-! ### C(..) -/
def newR : RM → R Vl
  | .ok x ((some (k, d)) :: _) => match x.d with
    | .non => .ok ⟨false, k, d⟩
    | _ => .bad
  | .ex c _ => .ex c
  | _ => .bad
@[simp] theorem newR_ok (k : Nat) (d : D) (b : Bool) (l : Nat) (o : Env) : newR (.ok ⟨b, l, .non⟩ (some (k, d) :: o)) = .ok ⟨false, k, d⟩ := rfl
@[simp] theorem newR_ex (c : Str) (o : Env) : newR (.ex c o) = .ex c := rfl
def eNewK (k : Nat) (C : Str) (f : FnM) (g : AF) : EF := fun ρ => (g ρ).bind fun ds => newR (f ((k + 1, .obj C []) :: ds.map fun d => (0, d)))
@[simp] theorem eNewK_eq (k : Nat) (C : Str) (f : FnM) (g : AF) (ρ : Env) : eNewK k C f g ρ = (g ρ).bind fun ds => newR (f ((k + 1, .obj C []) :: ds.map fun d => (0, d))) := rfl
def eNew (C : Str) (f : FnM) (g : AF) : EF := eNewK 0 C f g
@[simp] theorem eNew_eq (C : Str) (f : FnM) (g : AF) (ρ : Env) : eNew C f g ρ = (g ρ).bind fun ds => newR (f ((1, .obj C []) :: ds.map fun d => (0, d))) := rfl
section
variable {X : Cx} {cl : Clx} {W : WX} {pos : Pos}
theorem envNew {K : PySem.W.Frag} {c : Str → Addr} {G H : Hp} {k : Nat} {C : Str} {x dx : Addr} {vs : List V} {ds : List D} (gh : Same G H) (hx : H x = none) (r : RepL K c G vs ds) (hH : H x = none) (hd : H dx = none) (hne : dx ≠ x) :
    EnvR K (cl0 c) (((k + 1, D.obj C []) :: ds.map fun d => (0, d)).map some) ((V.ref x :: vs).map some) G (upd (upd H dx (.own x)) x (.ins (c C) dx [])) (fun i a => i = 0 ∧ a = x) := by
  have same : Same H (upd (upd H dx (.own x)) x (.ins (c C) dx [])) := (same_new hd).trans (same_new (by rw [upd_ne (Ne.symm hne)]; exact hx))
  refine ⟨by simp [r.1], gh.trans same, fun i k d h => ?_, fun i j a h1 h2 => h1.1.trans h2.1.symm, fun i a ⟨_, ha⟩ => ?_, fun i v h => nomatch h⟩
  · cases i with
    | zero =>
      cases h
      refine ⟨.ref x, rfl, x, dx, [], fun _ _ => False, rfl, upd_same, ⟨rfl, rfl⟩, rfl, fun i v d h1 => by simp at h1, fun _ _ z => z.elim, fun _ _ _ z => z.elim⟩
    | succ i =>
      simp only [List.map_cons, List.map_map, List.getElem?_cons_succ, List.getElem?_map] at h
      cases e : ds[i]? with
      | none => rw [e] at h; cases h
      | some d' =>
        rw [e] at h
        cases h
        have hi : i < vs.length := by rw [r.1]; exact (List.getElem?_eq_some_iff.mp e).1
        exact ⟨vs[i], by simp [List.getElem?_eq_getElem hi], r.2 i _ _ (List.getElem?_eq_getElem hi) e⟩
  · subst ha
    exact ⟨⟨_, upd_same⟩, gh.free hx⟩
theorem ev_newK (fl : Nat) {c : Str → Addr} {x : Str} {k n : Nat} {f : FnM} {fi : Addr} {p : Pos} {e : Expr} {es : List Expr} {g : AF} (C : CalleeM X.prog X.w X.K X.mg X.base c fi k n f) (M : Mk X.K (c x) fi) (hm : X.mg x = some (.ref (c x))) (hr : Room (k + 1) X.A) (tk : Takes X W) (ha : EvA X cl W (e :: es) g) (hn : (e :: es).length + 1 = n := by rfl) (hg : Gl X x := by rfl)
    (hdb : (x == ("__debug__" : Str)) = false := by decide) (he : starEach (e :: es) X.env = (false, eval e X.env) :: starEach es X.env := by rfl) (hpl : (backTo pos (starEach es X.env)).any (·.1) = false := by rfl) (hcc : cl.c = c := by rfl) : EvE X cl W (.Call (.Name x p) (e :: es) [] pos) (eNewK fl x f g) := by
  subst hcc
  obtain ⟨nb, fd, ps, F, kp, bi⟩ := C
  obtain ⟨t, pt, st, hlen⟩ := ha
  refine ⟨_, pe_mkS M F hr hg hm bi (fun σ => passAt tk σ) pt hdb he hpl, fun ρ σ G H Fs env Q hq => ?_⟩
  refine st.use env PV.mono hq fun ds vs G1 H1 e1 p1 env1 r1 hq1 => ?_
  intro x' dx hx hd hne
  have e0 := envNew (k := fl) (C := x) env1.gh hx r1 hx hd hne
  have same : Same H1 (upd (upd H1 dx (.own x')) x' (.ins (cl x) dx [])) := (same_new hd).trans (same_new (by rw [upd_ne (Ne.symm hne)]; exact hx))
  refine ⟨by rw [List.length_cons, r1.1, hlen ρ ds e1]; exact hn, G1, _, _, e0, ?_⟩
  have back : ∀ {G' H' : Hp} {U' : Addr → Prop}, Sx (Un fun i a => i = 0 ∧ a = x') G1 (upd (upd H1 dx (.own x')) x' (.ins (cl x) dx [])) U' G' H' → Px G1 H1 G' H' := fun {G' H' U'} s => by
    refine ⟨fun a o ha => s.fr a o (same a o ha) fun ⟨i, _, z⟩ => ?_, s.gg, s.gh, fun a o ha => ?_⟩
    · rw [z, hx] at ha; cases ha
    · rcases s.gn a o ha with h | ⟨i, _, h⟩ | h
      · exact .inl h
      · exact .inr (by rw [h]; exact hx)
      · exact .inr (same.free h)
  cases ef : f ((fl + 1, .obj x []) :: ds.map fun d => (0, d)) with
  | bad => rw [ef] at hq1; exact hq1
  | ex z o =>
    rw [ef] at hq1
    exact fun G' H' Fs' _ s => hq1 G' H' (back s)
  | ok y o =>
    rw [ef] at hq1
    obtain ⟨yb, yk, yd⟩ := y
    cases o with
    | nil => exact hq1.elim
    | cons s0 o =>
      cases s0 with
      | none => exact hq1.elim
      | some kd =>
        obtain ⟨k0, d0⟩ := kd
        cases yd with
        | non =>
          rw [newR_ok] at hq1
          refine ⟨?_, fun v G' H' Fs' F e' o' fr s => ⟨o'.non, ?_⟩⟩
          · exact nb _ _ _ ef
          · obtain ⟨v0, hv0, o0⟩ := e'.own 0 k0 d0 rfl
            cases hv0
            have px := back s
            refine hq1 _ G' H' (Fs' 0) px o0 fun a fa => ⟨(e'.dom 0 a fa).1, (e'.dom 0 a fa).2, fun _ => ?_⟩
            rcases s.un a (.inl ⟨0, fa⟩) with ⟨i, _, z⟩ | z
            · rw [z]; exact hx
            · exact same.free z
        | _ => exact hq1.elim
theorem ev_new {c : Str → Addr} {x : Str} {k n : Nat} {f : FnM} {fi : Addr} {p : Pos} {e : Expr} {es : List Expr} {g : AF} (C : CalleeM X.prog X.w X.K X.mg X.base c fi k n f) (M : Mk X.K (c x) fi) (hm : X.mg x = some (.ref (c x))) (hr : Room (k + 1) X.A) (tk : Takes X W) (ha : EvA X cl W (e :: es) g) (hn : (e :: es).length + 1 = n := by rfl) (hg : Gl X x := by rfl)
    (hdb : (x == ("__debug__" : Str)) = false := by decide) (he : starEach (e :: es) X.env = (false, eval e X.env) :: starEach es X.env := by rfl) (hpl : (backTo pos (starEach es X.env)).any (·.1) = false := by rfl) (hcc : cl.c = c := by rfl) : EvE X cl W (.Call (.Name x p) (e :: es) [] pos) (eNew x f g) := ev_newK 0 C M hm hr tk ha hn hg hdb he hpl hcc
end
end B
namespace B
open PySem L2
/-! ### fields -/
def getF (f : Str) : List (Str × D) → Option D
  | [] => none
  | (g, d) :: r => if g = f then some d else getF f r
@[simp] theorem getF_nil (f : Str) : getF f [] = none := rfl
@[simp] theorem getF_cons (f g : Str) (d : D) (r : List (Str × D)) : getF f ((g, d) :: r) = if g = f then some d else getF f r := rfl
def putD (f : Str) (d : D) : List (Str × D) → List (Str × D)
  | [] => [(f, d)]
  | (g, e) :: r => if g = f then (g, d) :: r else (g, e) :: putD f d r
@[simp] theorem putD_nil (f : Str) (d : D) : putD f d [] = [(f, d)] := rfl
@[simp] theorem putD_cons (f g : Str) (d e : D) (r : List (Str × D)) : putD f d ((g, e) :: r) = if g = f then (g, d) :: r else (g, e) :: putD f d r := rfl
theorem look_rel {f : Str} {d : D} : ∀ {gs : List (Str × V)} {fs : List (Str × D)}, gs.map (·.1) = fs.map (·.1) → getF f fs = some d → ∃ (i : Nat) (v : V), fs[i]? = some (f, d) ∧ gs[i]? = some (f, v) ∧ gs.lookup f = some v
  | [], [], _, h => by cases h
  | [], _ :: _, h, _ => by simp at h
  | _ :: _, [], h, _ => by simp at h
  | (g, v) :: gs, (g2, e) :: fs, h, hf => by
    simp only [List.map_cons, List.cons.injEq] at h
    obtain ⟨rfl, h⟩ := h
    rw [getF_cons] at hf
    by_cases hg : g = f
    · subst hg
      rw [if_pos rfl] at hf
      cases hf
      exact ⟨0, v, rfl, rfl, by simp [List.lookup]⟩
    · rw [if_neg hg] at hf
      obtain ⟨i, u, h1, h2, h3⟩ := look_rel h hf
      refine ⟨i + 1, u, h1, h2, ?_⟩
      rw [List.lookup_cons]
      have hb : (f == g) = false := by
        rw [beq_eq_false_iff_ne]
        exact fun z => hg z.symm
      rw [hb]
      exact h3
/-- the classes os take the field f -/
def FldF (K : PySem.W.Frag) (c : Str → Addr) (os : List Str) (f : Str) : Prop := ∀ C, cMem os C = true → Cls K (c C) ∧ NoAttr K (c C) f
theorem fldB_ok {os : List Str} {f : Str} {K : PySem.W.Frag} (h : fldB os f K = true) : FldF K (He.ga K) os f := fun C hC => by
  obtain ⟨a, b⟩ := He.ba (List.all_eq_true.mp h C (cMem_of hC))
  exact ⟨(ownB_ok a).cl, He.eqO_ok b⟩
def fldV (os : List Str) (f : Str) : Vl → R Vl
  | ⟨b, k, .obj C fs⟩ => if cMem os C then ixL b k (getF f fs) else .bad
  | _ => .bad
@[simp] theorem fldV_obj (os : List Str) (f : Str) (b : Bool) (k : Nat) (C : Str) (fs : List (Str × D)) : fldV os f ⟨b, k, .obj C fs⟩ = if cMem os C then ixL b k (getF f fs) else .bad := rfl
def eFld (os : List Str) (f : Str) (a : EF) : EF := fun ρ => (a ρ).bind (fldV os f)
@[simp] theorem eFld_eq (os : List Str) (f : Str) (a : EF) (ρ : Env) : eFld os f a ρ = (a ρ).bind (fldV os f) := rfl
section
variable {X : Cx} {cl : Clx} {W : WX} {pos : Pos}
theorem ev_fld {c : Str → Addr} {os : List Str} {f : Str} {e : Expr} {a : EF} (hf : FldF X.K c os f) (ha : EvE X cl W e a) (hb : attributeBase e f X.env (eval e X.env) = eval e X.env := by rfl) (hcc : cl.c = c := by rfl) : EvE X cl W (.Attribute e f pos) (eFld os f a) := by
  subst hcc
  obtain ⟨t, pt, st⟩ := ha
  refine ⟨_, pe_fld pt hb, fun ρ σ G H Fs env Q hq => ?_⟩
  refine st.use env PV.mono hq fun x v G1 H1 F1 e1 p1 env1 o1 f1 hq1 => ?_
  have hq0 : PostG cl W σ G H (PV X.K cl Q) (fldV os f x) := by
    rw [eFld_eq, e1, R.bind_ok] at hq
    exact hq
  obtain ⟨b, k, d⟩ := x
  cases d with
  | obj C fs =>
    rw [fldV_obj] at hq0
    cases ec : cMem os C with
    | false => rw [ec] at hq0; exact hq0.elim
    | true =>
      rw [ec, if_pos rfl] at hq0
      obtain ⟨h1, h2⟩ := hf C ec
      obtain ⟨p, dx, gs, rfl, hp, hm, hr⟩ := o1.objR env1.gh
      cases eg : getF f fs with
      | none => rw [eg] at hq0; exact hq0.elim
      | some d =>
        obtain ⟨i, w, i1, i2, i3⟩ := look_rel hm eg
        refine ⟨p, _, dx, gs, w, rfl, hp, h1, h2, i3, ?_⟩
        obtain ⟨F', o', hF'⟩ := hr i _ _ i2 i1
        rw [eg] at hq0
        obtain ⟨F2', o2', f2'⟩ := elV_own o' hF' f1
        exact hq0 w G1 H1 F2' p1 o2' f2'
  | _ => exact hq0.elim
/-! ### self.f = e -/
def putO (i : Nat) (os : List Str) (f : Str) (ρ : Env) (y : D) : RS := match ρ[i]? with
  | some (some (1, .obj C fs)) => if cMem os C ∧ fs.length < 1000 then .ok .nx (ρ.set i (some (1, .obj C (putD f y fs)))) else .bad
  | _ => .bad
def sFldS (i : Nat) (os : List Str) (f : Str) (a : EF) : SF := fun ρ => toS (eS a ρ) ρ fun x => putO i os f ρ x.d
@[simp] theorem sFldS_eq (i : Nat) (os : List Str) (f : Str) (a : EF) (ρ : Env) : sFldS i os f a ρ = toS (eS a ρ) ρ fun x => putO i os f ρ x.d := rfl
theorem putO_eq {i : Nat} {os : List Str} {f : Str} {ρ : Env} {y : D} {C : Str} {fs : List (Str × D)} (h : ρ[i]? = some (some (1, .obj C fs))) (hc : cMem os C = true) (hl : fs.length < 1000) : putO i os f ρ y = .ok .nx (ρ.set i (some (1, .obj C (putD f y fs)))) := by
  unfold putO
  rw [h]
  exact if_pos ⟨hc, hl⟩
theorem put_names {f : Str} {v : V} {d : D} : ∀ {gs : List (Str × V)} {fs : List (Str × D)}, gs.map (·.1) = fs.map (·.1) → (putF f v gs).map (·.1) = (putD f d fs).map (·.1)
  | [], [], _ => rfl
  | [], _ :: _, h => by simp at h
  | _ :: _, [], h => by simp at h
  | (g, u) :: gs, (g2, e) :: fs, h => by
    simp only [List.map_cons, List.cons.injEq] at h
    obtain ⟨rfl, h⟩ := h
    have ih := put_names (f := f) (v := v) (d := d) h
    rw [putD_cons]
    unfold putF
    by_cases hg : g = f
    · simp [hg, h]
    · simp [hg, ih]
theorem put_rep {K : PySem.W.Frag} {c : Str → Addr} {G : Hp} {f : Str} {v : V} {d : D} (r : Rep K c G v d) : ∀ {gs : List (Str × V)} {fs : List (Str × D)}, gs.map (·.1) = fs.map (·.1) → (∀ (i : Nat) v d, gs[i]? = some v → fs[i]? = some d → Rep K c G v.2 d.2) →
    ∀ (i : Nat) v' d', (putF f v gs)[i]? = some v' → (putD f d fs)[i]? = some d' → Rep K c G v'.2 d'.2
  | [], [], _, _, i, v', d', h1, h2 => by
    cases i with
    | zero => cases h1; cases h2; exact r
    | succ i => simp [putF] at h1
  | [], _ :: _, h, _, _, _, _, _, _ => by simp at h
  | _ :: _, [], h, _, _, _, _, _, _ => by simp at h
  | (g, u) :: gs, (g2, e) :: fs, h, hr, i, v', d', h1, h2 => by
    simp only [List.map_cons, List.cons.injEq] at h
    obtain ⟨rfl, h⟩ := h
    rw [putD_cons] at h2
    unfold putF at h1
    by_cases hg : g = f
    · simp only [hg, if_true] at h1 h2
      cases i with
      | zero => cases h1; cases h2; exact r
      | succ i => exact hr (i + 1) v' d' h1 h2
    · simp only [if_neg hg] at h1 h2
      cases i with
      | zero => cases h1; cases h2; exact hr 0 _ _ rfl rfl
      | succ i => exact put_rep r h (fun j v d a b => hr (j + 1) v d a b) i v' d' h1 h2
theorem EnvR.putO {K : PySem.W.Frag} {ρ : Env} {σ : L2.St} {G H : Hp} {Fs : Foot} (e : EnvR K cl ρ σ G H Fs) {i : Nat} {C : Str} {fs : List (Str × D)} (h : ρ[i]? = some (some (1, .obj C fs))) : ∃ p dx gs, σ[i]? = some (some (.ref p)) ∧ H p = some (.ins (cl C) dx gs) ∧ gs.map (·.1) = fs.map (·.1) ∧
    (∀ (i : Nat) v d, gs[i]? = some v → fs[i]? = some d → Rep K cl.c G v.2 d.2) ∧
    ∀ us es, us.map (·.1) = es.map (·.1) → (∀ (i : Nat) v d, us[i]? = some v → es[i]? = some d → Rep K cl.c G v.2 d.2) → EnvR K cl (ρ.set i (some (1, .obj C es))) σ G (upd H p (.ins (cl C) dx us)) Fs ∧ Sx (Un Fs) G H (Un Fs) G (upd H p (.ins (cl C) dx us)) := by
  obtain ⟨v, hv, o⟩ := e.own i 1 _ h
  obtain ⟨p, dx, gs, F, rfl, hp, fp, hl, hr, hs, hd⟩ := o
  refine ⟨p, dx, gs, hv, hp, hl, hr, fun us es hu r => ?_⟩
  have gp : G p = none := (e.dom i p fp).2
  have gh' : Same G (upd H p (.ins (cl C) dx us)) := fun a o ho => by
    rw [upd_ne (fun z => by rw [z, gp] at ho; cases ho)]
    exact e.gh a o ho
  have th : ∀ a o, H a = some o → ∃ o', upd H p (.ins (cl C) dx us) a = some o' := fun a o ho => by
    by_cases ha : a = p
    · subst ha; exact ⟨_, upd_same⟩
    · exact ⟨o, by rw [upd_ne ha]; exact ho⟩
  refine ⟨⟨by simp [e.len], gh', fun j k d hj => ?_, e.dis, fun j a f => ?_, e.fx⟩, ⟨Same.refl _, gh', fun a o ho n => ?_, th, fun a u => .inl u, fun a o ho => .inl ho⟩⟩
  · by_cases hji : j = i
    · subst hji
      have hlt : j < ρ.length := (List.getElem?_eq_some_iff.mp h).1
      rw [List.getElem?_set_self hlt] at hj
      cases hj
      exact ⟨_, hv, p, dx, us, fun _ _ => False, rfl, upd_same, fp, hu, fun i v d h1 h2 => r i v d h1 h2, fun _ _ z => z.elim, fun _ _ _ z => z.elim⟩
    · rw [List.getElem?_set_ne (Ne.symm hji)] at hj
      obtain ⟨w, hw, o⟩ := e.own j k d hj
      refine ⟨w, hw, o.step (Same.refl _) fun a ob fa ha => ?_⟩
      rw [upd_ne (show a ≠ p from fun z => hji (e.dis j i a fa (by rw [z]; exact fp)))]
      exact ha
  · obtain ⟨⟨o, ho⟩, g⟩ := e.dom j a f
    exact ⟨th a o ho, g⟩
  · rw [upd_ne (show a ≠ p from fun z => n ⟨i, by rw [z]; exact fp⟩)]
    exact ho
theorem putO_some {i : Nat} {os : List Str} {f : Str} {ρ : Env} {y : D} (h : putO i os f ρ y ≠ .bad) : ∃ C fs, ρ[i]? = some (some (1, .obj C fs)) ∧ cMem os C = true ∧ fs.length < 1000 := by
  unfold putO at h
  split at h
  · rename_i C fs e
    by_cases hc : cMem os C = true ∧ fs.length < 1000
    · exact ⟨C, fs, e, hc.1, hc.2⟩
    · rw [if_neg hc] at h; exact (h rfl).elim
  · exact (h rfl).elim
theorem es_fld (i : Nat) {c : Str → Addr} {os : List Str} {f n : Str} {e : Expr} {p p2 : Pos} {a : EF} (hf : FldF X.K c os f) (ha : EvE X cl W e a) (hN : X.N[i]? = some n := by rfl) (hv : Vis X.env.scope n := by first | exact Or.inl rfl | exact Or.inr (Or.inl rfl) | exact Or.inr (Or.inr rfl))
    (hs : swapsWith e (some (.Attribute (.Name n p) f p2)) pos.line X.env = pure false := by rfl) (hd : (n == ("__debug__" : Str)) = false := by decide) (hcd : (n == ("__classdict__" : Str)) = false := by decide) (hcc : cl.c = c := by rfl) : EvS X cl W (.Assign [.Attribute (.Name n p) f p2] e pos) (sFldS i os f a) := by
  subst hcc
  obtain ⟨t, pt, st⟩ := ha
  refine ⟨_, ps_fld (pe_var hN hv hd hcd) pt hs, fun ρ σ G H Fs env D hq => ?_⟩
  refine (semS st).useS env hq fun x v G1 H1 F1 e1 p1 env1 o1 f1 hq1 => ?_
  have r1 := frz_rep e1 o1
  have hne : putO i os f ρ x.d ≠ .bad := fun z => by rw [z] at hq1; exact hq1.elim
  obtain ⟨C, fs, hi, hc, hl⟩ := putO_some hne
  rw [putO_eq hi hc hl] at hq1
  obtain ⟨p, dx, gs, h1, h2, h3, h4, h5⟩ := env1.putO hi
  obtain ⟨k1, k2⟩ := hf C hc
  have hlg : gs.length < 1000 := by
    have := congrArg List.length h3
    simp only [List.length_map] at this
    omega
  refine ⟨_, h1, p, _, dx, gs, rfl, h2, k1, k2, hlg, ?_⟩
  obtain ⟨e2, s2⟩ := h5 _ _ (put_names (f := f) (v := v) (d := x.d) h3) (put_rep r1 h3 h4)
  exact hq1 σ G1 _ Fs e2 (p1.sx.trans s2)
end
end B
namespace B
open PySem L2
/-! ### methods that read -/
structure CalleeA (P : Program) (w : World) (K : PySem.W.Frag) (mg : Str → Option Value) (base : Heap) (c : Str → Addr) (fa : Addr) (k n : Nat) (f : Fn) : Prop where
  nb : ∀ ds x, f ds = .ok x → x.b = false
  ex : ∃ fd ps, FnOk P w K mg base (L2.CX P w) k fa fd ps (spP K c n f) ∧ PySem.W.keepIn K (.ref fa) = true ∧ Binds K fd ps []
theorem CalleeA.of {P : Program} {w : World} {K : PySem.W.Frag} {mg : Str → Option Value} {base : Heap} {c : Str → Addr} {x qual : Str} {st : Stmt} {fa : Addr} {fd : FuncData} {N ps : List Str} {k : Nat} {b : SF} (F : FunD K x qual (defArgs st) (defBody st) (defScope st) [] [] fa fd) (S : FnScope N ps (defScope st)) (hb : BodyOk P w K mg base (cl0 c) k N qual st b)
    (h : ∀ (kV doc pm : Value) (an : Option Addr) (cdv ct : Value) (us : List Value), us.length = ps.length → bindArgs (PySem.W.fnOf x qual (defArgs st) (defBody st) (defScope st) .none kV doc pm an cdv ct) ⟨us, []⟩ = pure (ps.zip us)) :
    CalleeA P w K mg base c fa (k + 1) ps.length (runF N.length b) := ⟨fun _ _ => runF_nb, fd, ps, fn_pure F S hb, F.kp, F.bindsN h⟩
theorem CalleeA.mono {P : Program} {w : World} {K : PySem.W.Frag} {mg : Str → Option Value} {base : Heap} {c : Str → Addr} {fa : Addr} {k l n : Nat} {f : Fn} (C : CalleeA P w K mg base c fa k n f) (h : k ≤ l) : CalleeA P w K mg base c fa l n f :=
  let ⟨nb, fd, ps, F, q⟩ := C
  ⟨nb, fd, ps, F.mono h, q⟩
def getM (C : Str) : List (Str × Fn) → Option Fn
  | [] => none
  | (g, d) :: r => if g = C then some d else getM C r
@[simp] theorem getM_nil (C : Str) : getM C [] = none := rfl
@[simp] theorem getM_cons (C g : Str) (d : Fn) (r : List (Str × Fn)) : getM C ((g, d) :: r) = if g = C then some d else getM C r := rfl
/-- the method m of the classes of ms -/
def MethsK (P : Program) (w : World) (K : PySem.W.Frag) (mg : Str → Option Value) (base : Heap) (c : Str → Addr) (m : Str) (k n : Nat) (ms : List (Str × Fn)) : Prop := ∀ C f, getM C ms = some f → ∃ fi, Cls K (c C) ∧ Meth K (c C) m fi ∧ CalleeA P w K mg base c fi k n f
def noEx : R Vl → R Vl
  | .ex _ => .bad
  | r => r
@[simp] theorem noEx_ok (x : Vl) : noEx (.ok x) = .ok x := rfl
def selM (m : Str) (ms : List (Str × Fn)) : D → Option Fn
  | .obj C fs => if (getF m fs).isNone then getM C ms else none
  | _ => none
@[simp] theorem selM_obj (m : Str) (ms : List (Str × Fn)) (C : Str) (fs : List (Str × D)) : selM m ms (.obj C fs) = if (getF m fs).isNone then getM C ms else none := rfl
def mthR (r : R (List D)) (d : D) : Option Fn → R Vl
  | some f => r.bind fun ds => noEx (f (d :: ds))
  | none => .bad
@[simp] theorem mthR_some (r : R (List D)) (d : D) (f : Fn) : mthR r d (some f) = r.bind fun ds => noEx (f (d :: ds)) := rfl
@[simp] theorem mthR_none (r : R (List D)) (d : D) : mthR r d none = .bad := rfl
def eMeth (m : Str) (ms : List (Str × Fn)) (a : EF) (g : AF) : EF := fun ρ => (noEx (a ρ)).bind fun x => (frz x).bind fun y => mthR (g ρ) y.d (selM m ms y.d)
@[simp] theorem eMeth_eq (m : Str) (ms : List (Str × Fn)) (a : EF) (g : AF) (ρ : Env) : eMeth m ms a g ρ = (noEx (a ρ)).bind fun x => (frz x).bind fun y => mthR (g ρ) y.d (selM m ms y.d) := rfl
section
variable {X : Cx} {cl : Clx} {W : WX} {pos : Pos}
theorem PE.any {ι : Type} {e : Expr} {t : ι → TE} (h : ∀ i, PE X e (t i)) : PE X e (fun σ H Q => ∃ i, t i σ H Q) := ⟨fun pins s σ H Q I ⟨i, q⟩ => (h i).run pins s σ H Q I q⟩
end
end B
namespace B
open PySem L2
/-! ### arguments, some of them handed over to be changed -/
def ArgM (K : PySem.W.Frag) (c : Str → Addr) (G : Hp) (ρ : Env) (σ : L2.St) : List (Option Nat) → List V → List (Nat × D) → Prop
  | [], [], [] => True
  | none :: mo, v :: vs, a :: as => (a.1 = 0 ∧ Rep K c G v a.2) ∧ ArgM K c G ρ σ mo vs as
  | some s :: mo, v :: vs, a :: as => (ρ[s]? = some (some a) ∧ σ[s]? = some (some v)) ∧ ArgM K c G ρ σ mo vs as
  | _, _, _ => False
theorem ArgM.mono {K : PySem.W.Frag} {c : Str → Addr} {G G' : Hp} {ρ : Env} {σ : L2.St} (e : Same G G') : ∀ {mo : List (Option Nat)} {vs : List V} {as : List (Nat × D)}, ArgM K c G ρ σ mo vs as → ArgM K c G' ρ σ mo vs as
  | [], [], [], _ => trivial
  | none :: mo, v :: vs, a :: as, h => ⟨⟨h.1.1, h.1.2.mono e⟩, ArgM.mono e h.2⟩
  | some s :: mo, v :: vs, a :: as, h => ⟨h.1, ArgM.mono e h.2⟩
  | [], [], _ :: _, h => h.elim
  | [], _ :: _, _, h => h.elim
  | none :: _, [], _, h => h.elim
  | none :: _, _ :: _, [], h => h.elim
  | some _ :: _, [], _, h => h.elim
  | some _ :: _, _ :: _, [], h => h.elim
theorem ArgM.len {K : PySem.W.Frag} {c : Str → Addr} {G : Hp} {ρ : Env} {σ : L2.St} : ∀ {mo : List (Option Nat)} {vs : List V} {as : List (Nat × D)}, ArgM K c G ρ σ mo vs as → vs.length = mo.length ∧ as.length = mo.length
  | [], [], [], _ => ⟨rfl, rfl⟩
  | none :: mo, v :: vs, a :: as, h => by have := ArgM.len h.2; simp [this.1, this.2]
  | some s :: mo, v :: vs, a :: as, h => by have := ArgM.len h.2; simp [this.1, this.2]
  | [], [], _ :: _, h => h.elim
  | [], _ :: _, _, h => h.elim
  | none :: _, [], _, h => h.elim
  | none :: _, _ :: _, [], h => h.elim
  | some _ :: _, [], _, h => h.elim
  | some _ :: _, _ :: _, [], h => h.elim
theorem ArgM.get {K : PySem.W.Frag} {c : Str → Addr} {G : Hp} {ρ : Env} {σ : L2.St} : ∀ {mo : List (Option Nat)} {vs : List V} {as : List (Nat × D)}, ArgM K c G ρ σ mo vs as → ∀ (i : Nat) (a : Nat × D), as[i]? = some a → ∃ v, vs[i]? = some v ∧
    ((mo[i]? = some none ∧ a.1 = 0 ∧ Rep K c G v a.2) ∨ ∃ s, mo[i]? = some (some s) ∧ ρ[s]? = some (some a) ∧ σ[s]? = some (some v))
  | [], [], [], _, i, a, h => by simp at h
  | none :: mo, v :: vs, b :: as, h, i, a, ha => by
    cases i with
    | zero => cases ha; exact ⟨v, rfl, .inl ⟨rfl, h.1⟩⟩
    | succ i => exact ArgM.get h.2 i a ha
  | some s :: mo, v :: vs, b :: as, h, i, a, ha => by
    cases i with
    | zero => cases ha; exact ⟨v, rfl, .inr ⟨s, rfl, h.1⟩⟩
    | succ i => exact ArgM.get h.2 i a ha
  | [], [], _ :: _, h, _, _, _ => h.elim
  | [], _ :: _, _, h, _, _, _ => h.elim
  | none :: _, [], _, h, _, _, _ => h.elim
  | none :: _, _ :: _, [], h, _, _, _ => h.elim
  | some _ :: _, [], _, h, _, _, _ => h.elim
  | some _ :: _, _ :: _, [], h, _, _, _ => h.elim
theorem ArgM.slot {K : PySem.W.Frag} {c : Str → Addr} {G : Hp} {ρ : Env} {σ : L2.St} {mo : List (Option Nat)} {vs : List V} {as : List (Nat × D)} (h : ArgM K c G ρ σ mo vs as) {i s : Nat} {v : V} (hm : mo[i]? = some (some s)) (hv : vs[i]? = some v) : σ[s]? = some (some v) := by
  have hi : i < as.length := by rw [h.len.2]; exact (List.getElem?_eq_some_iff.mp hm).1
  obtain ⟨u, h1, h2 | ⟨s2, h2, _, h4⟩⟩ := h.get i as[i] (List.getElem?_eq_getElem hi)
  · rw [hm] at h2; cases h2.1
  · rw [hm] at h2
    cases h2
    rw [hv] at h1
    cases h1
    exact h4
/-- no name is handed over twice -/
def nodM : List (Option Nat) → Bool
  | [] => true
  | none :: r => nodM r
  | some s :: r => !r.contains (some s) && nodM r
theorem nodM_ix : ∀ {mo : List (Option Nat)}, nodM mo = true → ∀ (i j s : Nat), mo[i]? = some (some s) → mo[j]? = some (some s) → i = j
  | [], _, i, j, s, h, _ => by simp at h
  | none :: r, hn, i, j, s, h1, h2 => by
    cases i with
    | zero => cases h1
    | succ i =>
      cases j with
      | zero => cases h2
      | succ j => rw [nodM_ix (mo := r) hn i j s h1 h2]
  | some t :: r, hn, i, j, s, h1, h2 => by
    unfold nodM at hn
    rw [Bool.and_eq_true, Bool.not_eq_true'] at hn
    have off : ∀ {k : Nat}, r[k]? = some (some t) → False := fun {k} hk => by
      have := List.contains_iff_mem.mpr (List.mem_of_getElem? hk)
      rw [hn.1] at this
      cases this
    cases i with
    | zero =>
      cases h1
      cases j with
      | zero => rfl
      | succ j => exact (off h2).elim
    | succ i =>
      cases j with
      | zero => cases h2; exact (off h1).elim
      | succ j => rw [nodM_ix hn.2 i j s h1 h2]
def putOuts : List (Option Nat) → Env → Env → Env
  | some s :: mo, o :: os, ρ => putOuts mo os (ρ.set s o)
  | none :: mo, _ :: os, ρ => putOuts mo os ρ
  | _, _, ρ => ρ
@[simp] theorem putOuts_some (s : Nat) (mo : List (Option Nat)) (o : Slot) (os ρ : Env) : putOuts (some s :: mo) (o :: os) ρ = putOuts mo os (ρ.set s o) := rfl
@[simp] theorem putOuts_none (mo : List (Option Nat)) (o : Slot) (os ρ : Env) : putOuts (none :: mo) (o :: os) ρ = putOuts mo os ρ := rfl
@[simp] theorem putOuts_nil (os ρ : Env) : putOuts [] os ρ = ρ := by cases os <;> rfl
theorem putOuts_len : ∀ (mo : List (Option Nat)) (os ρ : Env), (putOuts mo os ρ).length = ρ.length
  | [], os, ρ => by simp
  | none :: mo, [], ρ => rfl
  | some s :: mo, [], ρ => rfl
  | none :: mo, o :: os, ρ => putOuts_len mo os ρ
  | some s :: mo, o :: os, ρ => by rw [putOuts_some, putOuts_len, List.length_set]
theorem putOuts_get : ∀ {mo : List (Option Nat)} {os ρ : Env}, os.length = mo.length → ∀ {j : Nat} {q : Nat × D}, (putOuts mo os ρ)[j]? = some (some q) →
    (∃ i : Nat, mo[i]? = some (some j) ∧ os[i]? = some (some q)) ∨ (ρ[j]? = some (some q) ∧ ∀ i : Nat, mo[i]? ≠ some (some j))
  | [], os, ρ, _, j, q, h => .inr ⟨by rw [putOuts_nil] at h; exact h, fun i z => by simp at z⟩
  | none :: mo, [], ρ, hl, j, q, h => by simp at hl
  | some s :: mo, [], ρ, hl, j, q, h => by simp at hl
  | none :: mo, o :: os, ρ, hl, j, q, h => by
    rcases putOuts_get (mo := mo) (os := os) (by simpa using hl) h with ⟨i, h1, h2⟩ | ⟨h1, h2⟩
    · exact .inl ⟨i + 1, h1, h2⟩
    · refine .inr ⟨h1, fun i z => ?_⟩
      cases i with
      | zero => cases z
      | succ i => exact h2 i z
  | some s :: mo, o :: os, ρ, hl, j, q, h => by
    rcases putOuts_get (mo := mo) (os := os) (by simpa using hl) h with ⟨i, h1, h2⟩ | ⟨h1, h2⟩
    · exact .inl ⟨i + 1, h1, h2⟩
    · by_cases hj : j = s
      · subst hj
        have hlt : j < ρ.length := by
          have := (List.getElem?_eq_some_iff.mp h1).1
          simpa using this
        rw [List.getElem?_set_self hlt] at h1
        exact .inl ⟨0, rfl, h1⟩
      · rw [List.getElem?_set_ne (Ne.symm hj)] at h1
        refine .inr ⟨h1, fun i z => ?_⟩
        cases i with
        | zero => cases z; exact hj rfl
        | succ i => exact h2 i z
def FsA (mo : List (Option Nat)) (Fs : Foot) : Foot := fun i a => ∃ s, mo[i]? = some (some s) ∧ Fs s a
def FsB (mo : List (Option Nat)) (Fs Fs' : Foot) : Foot := fun j a => (∃ i : Nat, mo[i]? = some (some j) ∧ Fs' i a) ∨ ((∀ i : Nat, mo[i]? ≠ some (some j)) ∧ Fs j a)
section
variable {K : PySem.W.Frag} {cl : Clx} {ρ : Env} {σ : L2.St} {G H G' H' : Hp} {Fs Fs' : Foot} {mo : List (Option Nat)} {vs : List V} {as : List (Nat × D)}
/-- what the callee sees -/
theorem callIn (env : EnvR K cl ρ σ G H Fs) (am : ArgM K cl.c G ρ σ mo vs as) (nd : nodM mo = true) : EnvR K (cl0 cl.c) (as.map some) (vs.map some) G H (FsA mo Fs) := by
  refine ⟨by simp [am.len.1, am.len.2], env.gh, fun i k d h => ?_, fun i j a ⟨s, h1, h2⟩ ⟨t, h3, h4⟩ => ?_, fun i a ⟨s, _, h⟩ => env.dom s a h, fun i v h => nomatch h⟩
  · rw [List.getElem?_map] at h
    cases e : as[i]? with
    | none => rw [e] at h; cases h
    | some a =>
      rw [e] at h
      cases h
      obtain ⟨v, hv, ⟨h1, h2, h3⟩ | ⟨s, h1, h2, h3⟩⟩ := am.get i _ e
      · simp only at h2
        subst h2
        exact ⟨v, by rw [List.getElem?_map, hv]; rfl, h3⟩
      · obtain ⟨v2, hv2, o⟩ := env.own s k d h2
        rw [h3] at hv2
        cases hv2
        exact ⟨v, by rw [List.getElem?_map, hv]; rfl, o.weak fun a fa => ⟨s, h1, fa⟩⟩
  · have hs := env.dis s t a h2 h4
    subst hs
    exact nodM_ix nd i j s h1 h3
/-- what the caller has behind it -/
theorem callOut (env : EnvR K cl ρ σ G H Fs) (am : ArgM K cl.c G ρ σ mo vs as) (nd : nodM mo = true) {os : Env} {F : Addr → Prop} (e : EnvR K (cl0 cl.c) os (vs.map some) G' H' Fs') (fr : Fre Fs' G' H' F) (s : Sx (Un (FsA mo Fs)) G H (fun a => Un Fs' a ∨ F a) G' H') :
    EnvR K cl (putOuts mo os ρ) σ G' H' (FsB mo Fs Fs') ∧ Fre (FsB mo Fs Fs') G' H' F ∧ Sx (Un Fs) G H (fun a => Un (FsB mo Fs Fs') a ∨ F a) G' H' := by
  have hl : os.length = mo.length := by have := e.len; simp [am.len.1] at this; exact this
  have keep : ∀ {j : Nat} {a : Addr}, (∀ i : Nat, mo[i]? ≠ some (some j)) → Fs j a → ¬ Un (FsA mo Fs) a := fun {j a} hn fa ⟨i, s, h1, h2⟩ => by
    have := env.dis j s a fa h2
    subst this
    exact hn i h1
  have news : ∀ {a : Addr}, (Un Fs' a ∨ F a) → ∀ {j : Nat}, (∀ i : Nat, mo[i]? ≠ some (some j)) → ¬ Fs j a := fun {a} hu {j} hn fa => by
    rcases s.un a hu with h | h
    · exact keep hn fa h
    · obtain ⟨⟨o, ho⟩, _⟩ := env.dom j a fa
      rw [ho] at h; cases h
  refine ⟨⟨by rw [putOuts_len]; exact env.len, s.gh, fun j k d h => ?_, fun i j a h1 h2 => ?_, fun j a h => ?_, env.fx⟩, fun a fa => ⟨(fr a fa).1, (fr a fa).2.1, fun ⟨j, h⟩ => ?_⟩, ⟨s.gg, s.gh, fun a o ha n => s.fr a o ha fun ⟨i, t, _, z⟩ => n ⟨t, z⟩, s.th, fun a h => ?_, fun a o ha => ?_⟩⟩
  · rcases putOuts_get hl h with ⟨i, h1, h2⟩ | ⟨h1, h2⟩
    · obtain ⟨v, hv, o⟩ := e.own i k d h2
      rw [List.getElem?_map] at hv
      cases ev : vs[i]? with
      | none => rw [ev] at hv; cases hv
      | some v' =>
        rw [ev] at hv
        cases hv
        exact ⟨_, am.slot h1 ev, o.weak fun a fa => .inl ⟨i, h1, fa⟩⟩
    · obtain ⟨v, hv, o⟩ := env.own j k d h1
      exact ⟨v, hv, (o.step s.gg fun a o fa ha => s.fr a o ha (keep h2 fa)).weak fun a fa => .inr ⟨h2, fa⟩⟩
  · rcases h1 with ⟨i1, a1, b1⟩ | ⟨a1, b1⟩
    · rcases h2 with ⟨i2, a2, b2⟩ | ⟨a2, b2⟩
      · have := e.dis i1 i2 a b1 b2
        subst this
        rw [a1] at a2
        cases a2
        rfl
      · exact (news (.inl ⟨i1, b1⟩) a2 b2).elim
    · rcases h2 with ⟨i2, a2, b2⟩ | ⟨a2, b2⟩
      · exact (news (.inl ⟨i2, b2⟩) a1 b1).elim
      · exact env.dis i j a b1 b2
  · rcases h with ⟨i, _, h⟩ | ⟨hn, h⟩
    · exact e.dom i a h
    · obtain ⟨⟨o, ho⟩, hg⟩ := env.dom j a h
      refine ⟨⟨o, s.fr a o ho (keep hn h)⟩, ?_⟩
      cases q : G' a with
      | none => rfl
      | some u =>
        rcases s.gn a u q with z | z | z
        · rw [hg] at z; cases z
        · exact (keep hn h z).elim
        · rw [ho] at z; cases z
  · rcases h with ⟨i, _, h⟩ | ⟨hn, h⟩
    · exact (fr a fa).2.2 ⟨i, h⟩
    · exact news (.inr fa) hn h
  · rcases h with ⟨j, ⟨i, h1, h2⟩ | ⟨h1, h2⟩⟩ | h
    · rcases s.un a (.inl ⟨i, h2⟩) with ⟨_, t, _, z⟩ | z
      · exact .inl ⟨t, z⟩
      · exact .inr z
    · exact .inl ⟨j, h2⟩
    · rcases s.un a (.inr h) with ⟨_, t, _, z⟩ | z
      · exact .inl ⟨t, z⟩
      · exact .inr z
  · rcases s.gn a o ha with z | ⟨_, t, _, z⟩ | z
    · exact .inl z
    · exact .inr (.inl ⟨t, z⟩)
    · exact .inr (.inr z)
end
end B
namespace B
open PySem L2
/-! ### expressions that change what the names hold -/
inductive RV where
  | ok (k : Nat) (d : D) (ρ : Env)
  | ex (c : Str) (ρ : Env)
  | bad
inductive RVs where
  | ok (ds : List D) (ρ : Env)
  | ex (c : Str) (ρ : Env)
  | bad
abbrev MF := Env → RV
abbrev MsF := Env → RVs
section
variable (K : PySem.W.Frag) (cl : Clx) (W : WX)
def PostM (U : Addr → Prop) (σ : L2.St) (G H : Hp) (Q : VK) : RV → Prop
  | .ok k d ρ => ∀ v G' H' Fs' F, EnvR K cl ρ σ G' H' Fs' → Own K cl H' G' k v d F → Fre Fs' G' H' F → Sx U G H (fun a => Un Fs' a ∨ F a) G' H' → Q v H'
  | .ex c ρ => ∀ G' H' Fs', EnvR K cl ρ σ G' H' Fs' → Sx U G H (Un Fs') G' H' → WEx cl W c σ G' H'
  | .bad => False
def PostMs (U : Addr → Prop) (σ : L2.St) (G H : Hp) (Q : List V → Hp → Prop) : RVs → Prop
  | .ok ds ρ => ∀ vs G' H' Fs', EnvR K cl ρ σ G' H' Fs' → RepL K cl G' vs ds → Sx U G H (Un Fs') G' H' → Q vs H'
  | .ex c ρ => ∀ G' H' Fs', EnvR K cl ρ σ G' H' Fs' → Sx U G H (Un Fs') G' H' → WEx cl W c σ G' H'
  | .bad => False
def SemM (t : TE) (F : MF) : Prop := ∀ ρ σ G H Fs, EnvR K cl ρ σ G H Fs → ∀ Q, PostM K cl W (Un Fs) σ G H Q (F ρ) → t σ H Q
def SemMs (t : TA) (F : MsF) : Prop := ∀ ρ σ G H Fs, EnvR K cl ρ σ G H Fs → ∀ Q, PostMs K cl W (Un Fs) σ G H Q (F ρ) → t σ H Q
end
def EvM (X : Cx) (cl : Clx) (W : WX) (e : Expr) (F : MF) : Prop := ∃ t, PE X e t ∧ SemM X.K cl W t F
def EvMs (X : Cx) (cl : Clx) (W : WX) (es : List Expr) (F : MsF) : Prop := ∃ t, PA X es t ∧ SemMs X.K cl W t F
section
variable {K : PySem.W.Frag} {cl : Clx} {W : WX} {ρ : Env} {σ : L2.St} {G H G' H' : Hp} {Fs Fs' : Foot} {U U' : Addr → Prop}
theorem PostM.mono {Q : VK} {r : RV} (s : Sx U G H U' G' H') (h : PostM K cl W U σ G H Q r) : PostM K cl W U' σ G' H' Q r := by
  cases r with
  | ok k d ρ => exact fun v G2 H2 F2 F e o f s2 => h v G2 H2 F2 F e o f (s.trans s2)
  | ex c ρ => exact fun G2 H2 F2 e s2 => h G2 H2 F2 e (s.trans s2)
  | bad => exact h
theorem PostMs.mono {Q : List V → Hp → Prop} {r : RVs} (s : Sx U G H U' G' H') (h : PostMs K cl W U σ G H Q r) : PostMs K cl W U' σ G' H' Q r := by
  cases r with
  | ok ds ρ => exact fun v G2 H2 F2 e o s2 => h v G2 H2 F2 e o (s.trans s2)
  | ex c ρ => exact fun G2 H2 F2 e s2 => h G2 H2 F2 e (s.trans s2)
  | bad => exact h
/-- a value of one's own joins the frozen part -/
theorem frzM {k : Nat} {v : V} {d : D} {F : Addr → Prop} (e : EnvR K cl ρ σ G' H' Fs') (o : Own K cl H' G' k v d F) (f : Fre Fs' G' H' F) (s : Sx U G H (fun a => Un Fs' a ∨ F a) G' H') : ∃ G2, EnvR K cl ρ σ G2 H' Fs' ∧ Rep K cl G2 v d ∧ Sx U G H (Un Fs') G2 H' := by
  classical
  have gg : Same G' (fun a => if F a then H' a else G' a) := fun a u ha => by
    by_cases fa : F a
    · rw [(f a fa).2.1] at ha; cases ha
    · simp only [if_neg fa]; exact ha
  have gh : Same (fun a => if F a then H' a else G' a) H' := fun a u ha => by
    by_cases fa : F a
    · simp only [if_pos fa] at ha; exact ha
    · simp only [if_neg fa] at ha; exact e.gh a u ha
  refine ⟨fun a => if F a then H' a else G' a, ⟨e.len, gh, fun i k d h => ?_, e.dis, fun i a fa => ?_, e.fx⟩, o.rep gg fun a u fa ha => by simp only [if_pos fa]; exact ha, ⟨s.gg.trans gg, gh, s.fr, s.th, fun a u => s.un a (.inl u), fun a u ha => ?_⟩⟩
  · obtain ⟨w, hw, ow⟩ := e.own i k d h
    exact ⟨w, hw, ow.step gg fun a u _ q => q⟩
  · obtain ⟨h1, h2⟩ := e.dom i a fa
    refine ⟨h1, ?_⟩
    have : ¬ F a := fun z => (f a z).2.2 ⟨i, fa⟩
    simp only [if_neg this]
    exact h2
  · by_cases fa : F a
    · exact .inr (s.un a (.inr fa))
    · simp only [if_neg fa] at ha
      exact s.gn a u ha
end
/-- a value that is not borrowed -/
def toM (ρ : Env) : Vl → RV
  | ⟨false, k, d⟩ => .ok k d ρ
  | ⟨true, _, d⟩ => if scal d then .ok 0 d ρ else .bad
@[simp] theorem toM_f (ρ : Env) (k : Nat) (d : D) : toM ρ ⟨false, k, d⟩ = .ok k d ρ := rfl
@[simp] theorem toM_t (ρ : Env) (k : Nat) (d : D) : toM ρ ⟨true, k, d⟩ = if scal d then .ok 0 d ρ else .bad := rfl
def mOf (r : R Vl) (ρ : Env) : RV := match r with
  | .ok x => toM ρ x
  | .ex c => .ex c ρ
  | .bad => .bad
@[simp] theorem mOf_ok (x : Vl) (ρ : Env) : mOf (.ok x) ρ = toM ρ x := rfl
@[simp] theorem mOf_ex (c : Str) (ρ : Env) : mOf (.ex c) ρ = .ex c ρ := rfl
@[simp] theorem mOf_bad (ρ : Env) : mOf .bad ρ = .bad := rfl
def mP (f : EF) : MF := fun ρ => mOf (f ρ) ρ
@[simp] theorem mP_eq (f : EF) (ρ : Env) : mP f ρ = mOf (f ρ) ρ := rfl
def RV.then (r : RV) (g : Nat → D → Env → RV) : RV := match r with
  | .ok k d ρ => g k d ρ
  | .ex c ρ => .ex c ρ
  | .bad => .bad
@[simp] theorem RV.then_ok (k : Nat) (d : D) (ρ : Env) (g : Nat → D → Env → RV) : (RV.ok k d ρ).then g = g k d ρ := rfl
@[simp] theorem RV.then_ex (c : Str) (ρ : Env) (g : Nat → D → Env → RV) : (RV.ex c ρ).then g = .ex c ρ := rfl
@[simp] theorem RV.then_bad (g : Nat → D → Env → RV) : RV.bad.then g = .bad := rfl
def RVs.then (r : RVs) (g : List D → Env → RV) : RV := match r with
  | .ok ds ρ => g ds ρ
  | .ex c ρ => .ex c ρ
  | .bad => .bad
@[simp] theorem RVs.then_ok (ds : List D) (ρ : Env) (g : List D → Env → RV) : (RVs.ok ds ρ).then g = g ds ρ := rfl
@[simp] theorem RVs.then_ex (c : Str) (ρ : Env) (g : List D → Env → RV) : (RVs.ex c ρ).then g = .ex c ρ := rfl
@[simp] theorem RVs.then_bad (g : List D → Env → RV) : RVs.bad.then g = .bad := rfl
def consM (d : D) : RVs → RVs
  | .ok ds ρ => .ok (d :: ds) ρ
  | r => r
@[simp] theorem consM_ok (d : D) (ds : List D) (ρ : Env) : consM d (.ok ds ρ) = .ok (d :: ds) ρ := rfl
def msNil : MsF := fun ρ => .ok [] ρ
def consMs (r : RV) (g : MsF) : RVs := match r with
  | .ok _ d ρ => consM d (g ρ)
  | .ex c ρ => .ex c ρ
  | .bad => .bad
@[simp] theorem consMs_ok (k : Nat) (d : D) (ρ : Env) (g : MsF) : consMs (.ok k d ρ) g = consM d (g ρ) := rfl
@[simp] theorem consMs_ex (c : Str) (ρ : Env) (g : MsF) : consMs (.ex c ρ) g = .ex c ρ := rfl
def msCons (f : MF) (g : MsF) : MsF := fun ρ => consMs (f ρ) g
@[simp] theorem msNil_eq (ρ : Env) : msNil ρ = .ok [] ρ := rfl
@[simp] theorem msCons_eq (f : MF) (g : MsF) (ρ : Env) : msCons f g ρ = consMs (f ρ) g := rfl
def mTup (g : MsF) : MF := fun ρ => (g ρ).then fun ds ρ => if ds.length ≤ 1000 then .ok 0 (.tup ds) ρ else .bad
def mLst (g : MsF) : MF := fun ρ => (g ρ).then fun ds ρ => if ds.length ≤ 1000 then .ok 1 (.lst ds) ρ else .bad
@[simp] theorem mTup_eq (g : MsF) (ρ : Env) : mTup g ρ = (g ρ).then fun ds ρ => if ds.length ≤ 1000 then .ok 0 (.tup ds) ρ else .bad := rfl
@[simp] theorem mLst_eq (g : MsF) (ρ : Env) : mLst g ρ = (g ρ).then fun ds ρ => if ds.length ≤ 1000 then .ok 1 (.lst ds) ρ else .bad := rfl
section
variable {X : Cx} {cl : Clx} {W : WX} {pos : Pos}
theorem em_pure {e : Expr} {f : EF} (h : EvE X cl W e f) : EvM X cl W e (mP f) := by
  obtain ⟨t, p, s⟩ := h
  refine ⟨t, p, fun ρ σ G H Fs env Q hq => s ρ σ G H Fs env Q ?_⟩
  rw [mP_eq] at hq
  cases e1 : f ρ with
  | bad => rw [e1] at hq; exact hq
  | ex c =>
    rw [e1] at hq
    exact fun G' H' px => hq G' H' Fs (env.px px) px.sx
  | ok x =>
    rw [e1, mOf_ok] at hq
    obtain ⟨b, k, d⟩ := x
    intro v G' H' F px o fo
    cases b with
    | false => exact hq v G' H' Fs F (env.px px) o (fun a fa => ⟨(fo a fa).1, (fo a fa).2.1, foo_un env fo a fa⟩) (sx_ret px fo)
    | true =>
      rw [toM_t] at hq
      cases hs : B.scal d with
      | false => rw [hs] at hq; exact hq.elim
      | true =>
        rw [hs] at hq
        exact hq v G' H' Fs (fun _ => False) (env.px px) (o.scal' hs) (fun a fa => fa.elim) (sx_ret px noFoo)
theorem ems_nil : EvMs X cl W [] msNil := ⟨_, pa_nil, fun ρ σ G H Fs env Q hq => hq [] G H Fs env .nil (Sx.refl env.gh)⟩
theorem ems_cons {e : Expr} {es : List Expr} {f : MF} {g : MsF} (h : EvM X cl W e f) (h2 : EvMs X cl W es g) (hs : starEach (e :: es) X.env = (false, eval e X.env) :: starEach es X.env := by rfl) : EvMs X cl W (e :: es) (msCons f g) := by
  obtain ⟨t, p, s⟩ := h
  obtain ⟨u, q, s2⟩ := h2
  refine ⟨_, pa_cons p q hs, fun ρ σ G H Fs env Q hq => s ρ σ G H Fs env _ ?_⟩
  rw [msCons_eq] at hq
  cases e1 : f ρ with
  | bad => rw [e1] at hq; exact hq
  | ex c ρ1 => rw [e1] at hq; exact hq
  | ok k d ρ1 =>
    rw [e1, consMs_ok] at hq
    intro v G1 H1 F1 F env1 o1 f1 sx1
    obtain ⟨G2, env2, r2, sx2⟩ := frzM env1 o1 f1 sx1
    refine s2 ρ1 σ G2 H1 F1 env2 _ ?_
    cases e2 : g ρ1 with
    | bad => rw [e2] at hq; exact hq
    | ex c ρ2 => rw [e2] at hq; exact PostMs.mono (r := .ex c ρ2) sx2 hq
    | ok ds ρ2 =>
      rw [e2, consM_ok] at hq
      exact fun vs G3 H3 F3 env3 r3 sx3 => hq _ G3 H3 F3 env3 (.cons (r2.mono sx3.gg) r3) (sx2.trans sx3)
theorem em_tup {es : List Expr} {x1} {g : MsF} (h : EvMs X cl W es g) : EvM X cl W (.Tuple es x1 pos) (mTup g) := by
  obtain ⟨t, p, s⟩ := h
  refine ⟨_, pe_tup p, fun ρ σ G H Fs env Q hq => s ρ σ G H Fs env _ ?_⟩
  rw [mTup_eq] at hq
  cases e1 : g ρ with
  | bad => rw [e1] at hq; exact hq
  | ex c ρ1 => rw [e1] at hq; exact hq
  | ok ds ρ1 =>
    rw [e1, RVs.then_ok] at hq
    intro vs G1 H1 F1 env1 r1 sx1
    by_cases hl : ds.length ≤ 1000
    · rw [if_pos hl] at hq
      refine ⟨le_line (by rw [r1.1]; exact hl), fun p hp => ?_⟩
      have px : Px G1 H1 (upd G1 p (.tup vs)) (upd H1 p (.tup vs)) := px_frozen env1.gh hp
      exact hq _ _ _ F1 (fun _ => False) (env1.px px) (Rep.tup (.inl upd_same) r1.1 (RepL.mono px.gg r1).2) (fun a z => z.elim) (sx1.trans (sx_ret px noFoo))
    · rw [if_neg hl] at hq; exact hq.elim
theorem em_lst {es : List Expr} {g : MsF} (h : EvMs X cl W es g) : EvM X cl W (.List es pos) (mLst g) := by
  obtain ⟨t, p, s⟩ := h
  refine ⟨_, pe_lst p, fun ρ σ G H Fs env Q hq => s ρ σ G H Fs env _ ?_⟩
  rw [mLst_eq] at hq
  cases e1 : g ρ with
  | bad => rw [e1] at hq; exact hq
  | ex c ρ1 => rw [e1] at hq; exact hq
  | ok ds ρ1 =>
    rw [e1, RVs.then_ok] at hq
    intro vs G1 H1 F1 env1 r1 sx1
    by_cases hl : ds.length ≤ 1000
    · rw [if_pos hl] at hq
      refine ⟨le_line (by rw [r1.1]; exact hl), fun p hp => ?_⟩
      have px : Px G1 H1 G1 (upd H1 p (.lst vs)) := px_new env1.gh hp
      have fo : Foo H1 G1 (upd H1 p (.lst vs)) false (fun a => a = p) := foo1 env1.gh hp
      exact hq _ _ _ F1 _ (env1.px px) (own1 upd_same r1) (fun a fa => ⟨(fo a fa).1, (fo a fa).2.1, foo_un env1 fo a fa⟩) (sx1.trans (sx_ret px fo))
    · rw [if_neg hl] at hq; exact hq.elim
/-! the statements over such -/
def toSM (r : RV) (g : Nat → D → Env → RS) : RS := match r with
  | .ok k d ρ => g k d ρ
  | .ex c ρ => .ex c ρ
  | .bad => .bad
@[simp] theorem toSM_ok (k : Nat) (d : D) (ρ : Env) (g : Nat → D → Env → RS) : toSM (.ok k d ρ) g = g k d ρ := rfl
@[simp] theorem toSM_ex (c : Str) (ρ : Env) (g : Nat → D → Env → RS) : toSM (.ex c ρ) g = .ex c ρ := rfl
@[simp] theorem toSM_bad (g : Nat → D → Env → RS) : toSM .bad g = .bad := rfl
theorem SemM.useS {K : PySem.W.Frag} {t : TE} {F : MF} {ρ : Env} {σ : L2.St} {G H : Hp} {Fs : Foot} (h : SemM K cl W t F) (env : EnvR K cl ρ σ G H Fs) {g : Nat → D → Env → RS} {D : Ends} (hq : PostS K cl W (Un Fs) G H D (toSM (F ρ) g)) {C : VK}
    (step : ∀ k d ρ' v G' H' Fs' F', F ρ = .ok k d ρ' → EnvR K cl ρ' σ G' H' Fs' → Own K cl H' G' k v d F' → Fre Fs' G' H' F' → Sx (Un Fs) G H (fun a => Un Fs' a ∨ F' a) G' H' → PostS K cl W (Un Fs) G H D (g k d ρ') → C v H') : t σ H C := by
  refine h ρ σ G H Fs env C ?_
  cases e : F ρ with
  | ok k d ρ' =>
    rw [e] at hq
    exact fun v G' H' Fs' F' e' o f s => step k d ρ' v G' H' Fs' F' e e' o f s hq
  | ex c ρ' =>
    rw [e] at hq
    exact fun G' H' Fs' e' s => hq σ G' H' Fs' e' s
  | bad => rw [e] at hq; exact hq
def sExM (f : MF) : SF := fun ρ => toSM (f ρ) fun _ _ ρ => .ok .nx ρ
def sSetM (i : Nat) (f : MF) : SF := fun ρ => toSM (f ρ) fun k d ρ => .ok .nx (ρ.set i (some (k, d)))
def sRetM (f : MF) : SF := fun ρ => toSM (f ρ) fun k d ρ => .ok (.rt k d) ρ
@[simp] theorem sExM_eq (f : MF) (ρ : Env) : sExM f ρ = toSM (f ρ) fun _ _ ρ => .ok .nx ρ := rfl
@[simp] theorem sSetM_eq (i : Nat) (f : MF) (ρ : Env) : sSetM i f ρ = toSM (f ρ) fun k d ρ => .ok .nx (ρ.set i (some (k, d))) := rfl
@[simp] theorem sRetM_eq (f : MF) (ρ : Env) : sRetM f ρ = toSM (f ρ) fun k d ρ => .ok (.rt k d) ρ := rfl
theorem es_exM {e : Expr} {f : MF} (h : EvM X cl W e f) (hs : swapsWith e none pos.line X.env = pure false := by rfl) : EvS X cl W (.Expr e pos) (sExM f) := by
  obtain ⟨t, p, q⟩ := h
  refine ⟨_, ps_expr p hs, fun ρ σ G H Fs env D hq => q.useS env hq fun k d ρ' v G' H' Fs' F' _ e' o f s hq1 => hq1 σ G' H' Fs' e' (s.less fun a u => .inl u)⟩
theorem es_retM {e : Expr} {f : MF} (h : EvM X cl W e f) : EvS X cl W (.Return (some e) pos) (sRetM f) := by
  obtain ⟨t, p, q⟩ := h
  refine ⟨_, ps_ret p, fun ρ σ G H Fs env D hq => q.useS env hq fun k d ρ' v G' H' Fs' F' _ e' o f s hq1 => hq1 σ v G' H' Fs' F' e' o (fun a fa => ⟨(f a fa).1, (f a fa).2.1, (f a fa).2.2⟩) s⟩
theorem es_setM (i : Nat) {x : Str} {e : Expr} {f : MF} {pos' : Pos} (h : EvM X cl W e f) (hN : X.N.Nodup) (hi : X.N[i]? = some x := by rfl) (hx : Loc X.env.scope x := by first | exact Or.inl rfl | exact Or.inr rfl) (hs : swapsWith e (some (.Name x pos')) pos.line X.env = pure false := by rfl)
    (hf : X.fn x = true ∨ X.env.scope.names.lookup x = some .local := by first | exact .inl rfl | exact .inr rfl) (hfx : cl.fix i = none := by rfl) : EvS X cl W (.Assign [.Name x pos'] e pos) (sSetM i f) := by
  obtain ⟨t, p, q⟩ := h
  refine ⟨_, ps_set hN hi hx p hs hf, fun ρ σ G H Fs env D hq => q.useS env hq fun k d ρ' v G' H' Fs' F' _ e' o f s hq1 => ?_⟩
  refine hq1 _ G' H' _ (e'.set o (fun a fa => ⟨(f a fa).1, (f a fa).2.1, fun j _ z => (f a fa).2.2 ⟨j, z⟩⟩) fun u h => by rw [hfx] at h; cases h) (s.less fun a ⟨j, h⟩ => ?_)
  by_cases hj : j = i
  · simp only [if_pos hj] at h
    exact .inr h
  · simp only [if_neg hj] at h
    exact .inl ⟨j, h⟩
/-- xs.append(e), e with effects -/
def sMtM (i : Nat) (g : List D → D → Option (List D)) (f : MF) : SF := fun ρ => withL i ρ fun _ => toSM (f ρ) fun _ d ρ => withL i ρ fun ds => lsUp i ρ (g ds d)
@[simp] theorem sMtM_eq (i : Nat) (g : List D → D → Option (List D)) (f : MF) (ρ : Env) : sMtM i g f ρ = withL i ρ fun _ => toSM (f ρ) fun _ d ρ => withL i ρ fun ds => lsUp i ρ (g ds d) := rfl
theorem es_mtM (i : Nat) {c e : Expr} {f : MF} {r : V → List V → Hp → VK → Prop} {g : List D → D → Option (List D)} (hr : MtL X.K cl r g) (hpe : ∀ t, PE X e t → PE X c (tBM X.K "list" r (tVar i) (tCons t tNil))) (h : EvM X cl W e f)
    (hs : swapsWith c none pos.line X.env = pure false := by rfl) : EvS X cl W (.Expr c pos) (sMtM i g f) := by
  obtain ⟨t, p, q⟩ := h
  refine ⟨_, ps_expr (hpe t p) hs, fun ρ σ G H Fs env D hq => ?_⟩
  rw [sMtM_eq] at hq
  unfold withL at hq
  cases e0 : lsOf ρ[i]? with
  | none => rw [e0] at hq; exact hq.elim
  | some ds0 =>
    rw [e0] at hq
    obtain ⟨p0, vs0, hσ, hp0, _, _⟩ := env.put (lsOf_some e0)
    refine ⟨.ref p0, hσ, .inl ⟨rfl, vs0, .inl (.inl hp0)⟩, ?_⟩
    refine q.useS env hq fun k d ρ' v G' H' Fs' F' _ e' o f s hq1 => ?_
    obtain ⟨G2, env2, r2, sx2⟩ := frzM e' o f s
    cases e1 : lsOf ρ'[i]? with
    | none => rw [e1] at hq1; exact hq1.elim
    | some ds =>
      rw [e1] at hq1
      obtain ⟨p', vs', hσ', hp', rl', up⟩ := env2.put (lsOf_some e1)
      have ep : p' = p0 := by
        rw [hσ] at hσ'
        cases hσ'
        rfl
      subst ep
      cases eg : g ds d with
      | none => simp only [eg] at hq1; exact hq1.elim
      | some es =>
        simp only [eg] at hq1
        refine hr p' vs' ds es v d G2 H' _ env2.gh hp' rl' r2 eg fun us ru => ?_
        obtain ⟨env3, s3⟩ := up us es ru
        exact hq1 σ G2 _ Fs' env3 (sx2.trans s3)
end
end B
namespace B
open PySem L2
/-! ### f(a, .., xs, ..): xs handed over to be changed -/
abbrev AMF := Env → R (List (Nat × D))
def amNil : AMF := fun _ => .ok []
def amCons (f : EF) (g : AMF) : AMF := fun ρ => (f ρ).bind fun x => (frz x).bind fun y => (g ρ).bind fun as => .ok ((0, y.d) :: as)
def amV (g : R (List (Nat × D))) : Option Slot → R (List (Nat × D))
  | some (some a) => g.bind fun as => .ok (a :: as)
  | _ => .bad
@[simp] theorem amV_some (g : R (List (Nat × D))) (a : Nat × D) : amV g (some (some a)) = g.bind fun as => .ok (a :: as) := rfl
def amOwn (i : Nat) (g : AMF) : AMF := fun ρ => amV (g ρ) ρ[i]?
@[simp] theorem amNil_eq (ρ : Env) : amNil ρ = .ok [] := rfl
@[simp] theorem amCons_eq (f : EF) (g : AMF) (ρ : Env) : amCons f g ρ = (f ρ).bind fun x => (frz x).bind fun y => (g ρ).bind fun as => .ok ((0, y.d) :: as) := rfl
@[simp] theorem amOwn_eq (i : Nat) (g : AMF) (ρ : Env) : amOwn i g ρ = amV (g ρ) ρ[i]? := rfl
def PLM (K : PySem.W.Frag) (c : Str → Addr) (ρ : Env) (σ : L2.St) (mo : List (Option Nat)) (Q : List V → Hp → Prop) (as : List (Nat × D)) (G H : Hp) : Prop := ∀ vs G' H', Px G H G' H' → ArgM K c G' ρ σ mo vs as → Q vs H'
theorem PLM.mono {K : PySem.W.Frag} {c : Str → Addr} {ρ : Env} {σ : L2.St} {mo : List (Option Nat)} {Q : List V → Hp → Prop} : Mono (PLM K c ρ σ mo Q) := fun x G H G' H' p h vs G2 H2 p2 o => h vs G2 H2 (p.trans p2) o
def SemAM (K : PySem.W.Frag) (cl : Clx) (W : WX) (t : TA) (mo : List (Option Nat)) (F : AMF) : Prop := ∀ ρ σ G H Fs, EnvR K cl ρ σ G H Fs → ∀ Q, PostG cl W σ G H (PLM K cl ρ σ mo Q) (F ρ) → t σ H Q
def EvAM (X : Cx) (cl : Clx) (W : WX) (es : List Expr) (mo : List (Option Nat)) (F : AMF) : Prop := ∃ t, PA X es t ∧ SemAM X.K cl W t mo F ∧ mo.length = es.length
def callR (mo : List (Option Nat)) (ρ : Env) : RM → RV
  | .ok x o => .ok x.k x.d (putOuts mo o ρ)
  | .ex c o => .ex c (putOuts mo o ρ)
  | .bad => .bad
@[simp] theorem callR_ok (mo : List (Option Nat)) (ρ : Env) (x : Vl) (o : Env) : callR mo ρ (.ok x o) = .ok x.k x.d (putOuts mo o ρ) := rfl
@[simp] theorem callR_ex (mo : List (Option Nat)) (ρ : Env) (c : Str) (o : Env) : callR mo ρ (.ex c o) = .ex c (putOuts mo o ρ) := rfl
def callG (mo : List (Option Nat)) (ρ : Env) (f : FnM) (r : R (List (Nat × D))) : RV := match r with
  | .ok as => callR mo ρ (f as)
  | .ex c => .ex c ρ
  | .bad => .bad
@[simp] theorem callG_ok (mo : List (Option Nat)) (ρ : Env) (f : FnM) (as : List (Nat × D)) : callG mo ρ f (.ok as) = callR mo ρ (f as) := rfl
@[simp] theorem callG_ex (mo : List (Option Nat)) (ρ : Env) (f : FnM) (c : Str) : callG mo ρ f (.ex c) = .ex c ρ := rfl
def mCall (f : FnM) (mo : List (Option Nat)) (g : AMF) : MF := fun ρ => callG mo ρ f (g ρ)
@[simp] theorem mCall_eq (f : FnM) (mo : List (Option Nat)) (g : AMF) (ρ : Env) : mCall f mo g ρ = callG mo ρ f (g ρ) := rfl
section
variable {X : Cx} {cl : Clx} {W : WX} {pos : Pos}
theorem eam_nil : EvAM X cl W [] [] amNil := ⟨_, pa_nil, fun ρ σ G H Fs env Q hq => hq [] G H (Px.refl env.gh) trivial, rfl⟩
theorem eam_cons {e : Expr} {es : List Expr} {mo : List (Option Nat)} {f : EF} {g : AMF} (h : EvE X cl W e f) (h2 : EvAM X cl W es mo g) (hs : starEach (e :: es) X.env = (false, eval e X.env) :: starEach es X.env := by rfl) : EvAM X cl W (e :: es) (none :: mo) (amCons f g) := by
  obtain ⟨t, p, s⟩ := h
  obtain ⟨u, q, s2, hl⟩ := h2
  refine ⟨_, pa_cons p q hs, fun ρ σ G H Fs env Q hq => ?_, by simp [hl]⟩
  have hq' : PostG cl W σ G H (PLM X.K cl ρ σ (none :: mo) Q) ((eS f ρ).bind fun y => (g ρ).bind fun as => .ok ((0, y.d) :: as)) := by
    rw [eS_eq, R.bind_assoc]
    exact hq
  refine (semS s).use env PLM.mono hq' fun x v G1 H1 F1 e1 p1 env1 o1 f1 hq1 => ?_
  have r1 := frz_rep e1 o1
  refine s2 ρ σ G1 H1 Fs env1 _ ?_
  cases e2 : g ρ with
  | bad => rw [e2] at hq1; exact hq1
  | ex c => rw [e2] at hq1; exact hq1
  | ok as =>
    rw [e2] at hq1
    exact fun vs G2 H2 p2 am => hq1 (v :: vs) G2 H2 p2 ⟨⟨rfl, r1.mono p2.gg⟩, am⟩
theorem eam_own (i : Nat) {x : Str} {p : Pos} {es : List Expr} {mo : List (Option Nat)} {g : AMF} (h2 : EvAM X cl W es mo g) (hN : X.N[i]? = some x := by rfl) (hv : Vis X.env.scope x := by first | exact Or.inl rfl | exact Or.inr (Or.inl rfl) | exact Or.inr (Or.inr rfl)) (hd : (x == ("__debug__" : Str)) = false := by decide)
    (hcd : (x == ("__classdict__" : Str)) = false := by decide) (hs : starEach (.Name x p :: es) X.env = (false, eval (.Name x p) X.env) :: starEach es X.env := by rfl) : EvAM X cl W (.Name x p :: es) (some i :: mo) (amOwn i g) := by
  obtain ⟨u, q, s2, hl⟩ := h2
  refine ⟨_, pa_cons (pe_var hN hv hd hcd) q hs, fun ρ σ G H Fs env Q hq => ?_, by simp [hl]⟩
  rw [amOwn_eq] at hq
  cases e0 : ρ[i]? with
  | none => rw [e0] at hq; exact hq.elim
  | some sl =>
    cases sl with
    | none => rw [e0] at hq; exact hq.elim
    | some a =>
      rw [e0, amV_some] at hq
      obtain ⟨v, hv, o⟩ := env.own i a.1 a.2 e0
      refine ⟨v, hv, ?_⟩
      refine s2 ρ σ G H Fs env _ ?_
      cases e2 : g ρ with
      | bad => rw [e2] at hq; exact hq
      | ex c => rw [e2] at hq; exact hq
      | ok as =>
        rw [e2] at hq
        exact fun vs G2 H2 p2 am => hq (v :: vs) G2 H2 p2 ⟨⟨e0, hv⟩, am⟩
theorem semCallM {K : PySem.W.Frag} {t : TA} {mo : List (Option Nat)} {g : AMF} {f : FnM} {n : Nat} (st : SemAM K cl W t mo g) (hn : mo.length = n) (nd : nodM mo = true) (nb : ∀ as x o, f as = .ok x o → x.b = false) :
    SemM K cl W (tCallS (spM K cl.c n f) (WE W) t) (mCall f mo g) := by
  intro ρ σ G H Fs env Q hq
  refine st ρ σ G H Fs env _ ?_
  rw [mCall_eq] at hq
  cases e1 : g ρ with
  | bad => rw [e1] at hq; exact hq
  | ex c =>
    rw [e1] at hq
    exact fun G' H' px => hq G' H' Fs (env.px px) px.sx
  | ok as =>
    rw [e1, callG_ok] at hq
    intro vs G1 H1 p1 am
    have env1 := env.px p1
    refine ⟨by rw [am.len.1]; exact hn, G1, as, _, callIn env1 am nd, ?_⟩
    cases ef : f as with
    | bad => rw [ef] at hq; exact hq
    | ex z o =>
      rw [ef] at hq
      intro G' H' Fs' e' s
      obtain ⟨e2, _, s2⟩ := callOut env1 am nd (F := fun _ => False) e' (fun a z => z.elim) (s.less fun a h => h.elim id False.elim)
      exact hq G' H' _ e2 (p1.sx.trans (s2.less fun a u => .inl u))
    | ok x o =>
      rw [ef] at hq
      refine ⟨nb _ _ _ ef, fun v G' H' Fs' F e' o' fr s => ?_⟩
      obtain ⟨e2, f2, s2⟩ := callOut env1 am nd e' fr s
      exact hq v G' H' _ F e2 o' f2 (p1.sx.trans s2)
theorem em_call {x : Str} {c : Str → Addr} {k n : Nat} {f : FnM} {fi : Addr} {p : Pos} {e : Expr} {es : List Expr} {mo : List (Option Nat)} {g : AMF} (C : CalleeM X.prog X.w X.K X.mg X.base c fi k n f) (hm : X.mg x = some (.ref fi)) (hr : Room k X.A) (tk : Takes X W) (ha : EvAM X cl W (e :: es) mo g) (nd : nodM mo = true := by rfl) (hn : (e :: es).length = n := by rfl) (hg : Gl X x := by rfl)
    (hdb : (x == ("__debug__" : Str)) = false := by decide) (he : starEach (e :: es) X.env = (false, eval e X.env) :: starEach es X.env := by rfl) (hpl : (backTo pos (starEach es X.env)).any (·.1) = false := by rfl) (hcc : cl.c = c := by rfl) : EvM X cl W (.Call (.Name x p) (e :: es) [] pos) (mCall f mo g) := by
  subst hcc
  obtain ⟨nb, fd, ps, F, kp, bi⟩ := C
  obtain ⟨t, pt, st, hl⟩ := ha
  exact ⟨_, pe_callS F hr hg hm kp bi (fun σ => passAt tk σ) pt hdb he hpl, semCallM st (hl.trans hn) nd nb⟩
/-- a def of a class reached through the class -/
structure BaseK (K : PySem.W.Frag) (C : Addr) (m : Str) (fi : Addr) : Prop where
  mc : ∃ mc, ClX.CRead K C mc ∧ PySem.W.findCls K (.ref C) mc m = some (.val (.ref fi))
theorem baseB_ok {x m : Str} {K : PySem.W.Frag} (h : baseB x m K = true) : BaseK K (He.ga K x) m (He.ma K (He.ga K x) m) := by
  obtain ⟨h1, h⟩ := He.ba h
  obtain ⟨h2, h3⟩ := He.ba h
  refine ⟨.type "type", ⟨h1, He.eqO_ok h2⟩, ?_⟩
  cases e : PySem.W.findCls K (.ref (He.ga K x)) (.type "type") m with
  | none => rw [e] at h3; cases h3
  | some r =>
    rw [e] at h3
    cases r with
    | val v =>
      have : v = _ := of_decide_eq_true h3
      rw [this]
    | get a b c d => cases h3
end
end B
namespace B
open PySem L2
/-! ### list(range(..)) -/
def rgD (a b : Int) : List D := (List.range (b - a).toNat).map fun i => .int (a + (i : Nat))
open Classical in
noncomputable def lrR (a b : Int) : R Vl := if RgOk a b then .ok ⟨false, 1, .lst (rgD a b)⟩ else .bad
theorem lrR_ok {a b : Int} (h : 0 ≤ a) (h2 : a ≤ 16777216) (h3 : 0 ≤ b) (h4 : b ≤ 16777216) : lrR a b = .ok ⟨false, 1, .lst (rgD a b)⟩ := if_pos (RgOk.of_le h h4 h2 h3)
noncomputable def lrD (x y : D) : R Vl := match x, y with
  | .int a, .int b => lrR a b
  | _, _ => .bad
@[simp] theorem lrD_int (a b : Int) : lrD (.int a) (.int b) = lrR a b := rfl
noncomputable def eLr (a b : EF) : EF := fun ρ => (a ρ).bind fun x => (b ρ).bind fun y => lrD x.d y.d
@[simp] theorem eLr_eq (a b : EF) (ρ : Env) : eLr a b ρ = (a ρ).bind fun x => (b ρ).bind fun y => lrD x.d y.d := rfl
theorem repL_rg {K : PySem.W.Frag} {c : Str → Addr} {G : Hp} (a b : Int) : RepL K c G (rgV a b) (rgD a b) := by
  refine ⟨by simp [rgV, rgD], fun i v d h1 h2 => ?_⟩
  unfold rgV at h1
  unfold rgD at h2
  rw [List.getElem?_map] at h1 h2
  cases e : (List.range (b - a).toNat)[i]? with
  | none => rw [e] at h1; cases h1
  | some n =>
    rw [e] at h1 h2
    cases h1
    cases h2
    exact .int _
section
variable {X : Cx} {cl : Clx} {W : WX} {pos : Pos}
theorem ev_lr1 {p p2 pos2 : Pos} {e1 : Expr} {a : EF} (hc : X.calm = true) (hl : X.mg "list" = none) (hm : X.mg "range" = none) (ha : EvE X cl W e1 a) (hg : Gl X "list" := by rfl) (hg2 : Gl X "range" := by rfl)
    (n0 : starEach [.Call (.Name "range" p2) [e1] [] pos2] X.env = (false, eval (.Call (.Name "range" p2) [e1] [] pos2) X.env) :: starEach [] X.env := by rfl)
    (n1 : starEach [e1] X.env = (false, eval e1 X.env) :: starEach [] X.env := by rfl) :
    EvE X cl W (.Call (.Name "list" p) [.Call (.Name "range" p2) [e1] [] pos2] [] pos) (eLr (eC (.int 0)) a) := by
  obtain ⟨ta, pa, sa⟩ := ha
  refine ⟨_, pe_listRg hc hg hl (prg_1 hg2 hm pa n1) n0, fun ρ σ G H Fs env Q hq => ?_⟩
  rw [eLr_eq] at hq
  refine sa.use env PV.mono hq fun x v G1 H1 F1 _ p1 env1 o1 f1 hq1 => ?_
  obtain ⟨b1, k, d⟩ := x
  cases d with
  | int i =>
    have hv := o1.int
    refine ⟨i, hv, ?_⟩
    replace hq2 : PostG cl W σ G1 H1 (PV X.K cl Q) (lrR 0 i) := hq1
    unfold lrR at hq2
    by_cases h : RgOk 0 i
    · rw [if_pos h] at hq2
      exact ⟨h, fun q hq => hq2 _ G1 _ _ (px_new env1.gh hq) (own1 upd_same (repL_rg 0 i)) (foo1 env1.gh hq)⟩
    · rw [if_neg h] at hq2
      exact hq2.elim
  | _ => exact hq1.elim
end
@[simp] theorem outs0_1 (s : Slot) (ρ : Env) : outs [0] 1 (s :: ρ) = [s] := rfl
@[simp] theorem outs0_2 (s : Slot) (ρ : Env) : outs [0] 2 (s :: ρ) = [s, none] := rfl
@[simp] theorem outs0_3 (s : Slot) (ρ : Env) : outs [0] 3 (s :: ρ) = [s, none, none] := rfl
@[simp] theorem outs0_4 (s : Slot) (ρ : Env) : outs [0] 4 (s :: ρ) = [s, none, none, none] := rfl
@[simp] theorem outs0_5 (s : Slot) (ρ : Env) : outs [0] 5 (s :: ρ) = [s, none, none, none, none] := rfl
theorem exmB_ok {ys : List Str} {x : Str} {K : PySem.W.Frag} (h : exmB ys x K = true) : ∀ z, cMem ys z = true → PySem.W.exmOne K (.ref (He.ga K z)) (.ref (He.ga K x)) = some true := fun z hz => of_decide_eq_true (List.all_eq_true.mp h z (cMem_of hz))
end B
namespace B
open PySem L2
/-! ### xs[i] = e -/
def stL (n : Nat) (ρ : Env) (ds : List D) (v : D) : D → RS
  | .int k => match ixN ds.length k with
    | some j => .ok .nx (ρ.set n (some (1, .lst (ds.set j v))))
    | none => .bad
  | _ => .bad
theorem ixN_nat {n j : Nat} (h : j < n) : ixN n (j : Int) = some j := by
  unfold ixN
  rw [if_pos (by omega), if_pos (by omega)]
  rfl
def sStI (n : Nat) (i f : EF) : SF := fun ρ => toS (eS f ρ) ρ fun x => withL n ρ fun ds => toS (i ρ) ρ fun y => stL n ρ ds x.d y.d
@[simp] theorem sStI_eq (n : Nat) (i f : EF) (ρ : Env) : sStI n i f ρ = toS (eS f ρ) ρ fun x => withL n ρ fun ds => toS (i ρ) ρ fun y => stL n ρ ds x.d y.d := rfl
section
variable {X : Cx} {cl : Clx} {W : WX} {pos : Pos}
theorem RepL.set {K : PySem.W.Frag} {c : Str → Addr} {G : Hp} {vs : List V} {ds : List D} {v : V} {d : D} (r : RepL K c G vs ds) (h : Rep K c G v d) (j : Nat) : RepL K c G (vs.set j v) (ds.set j d) := by
  refine ⟨by simp [r.1], fun i u e h1 h2 => ?_⟩
  by_cases hj : i = j
  · subst hj
    have l1 : i < vs.length := by
      have := (List.getElem?_eq_some_iff.mp h1).1
      simpa using this
    rw [List.getElem?_set_self l1] at h1
    rw [List.getElem?_set_self (by rw [← r.1]; exact l1)] at h2
    cases h1
    cases h2
    exact h
  · rw [List.getElem?_set_ne (Ne.symm hj)] at h1 h2
    exact r.2 i u e h1 h2
end
end B
namespace B
open PySem L2
/-! ### x += e, x -= e of numbers, x += e of texts -/
section
variable {X : Cx} {cl : Clx} {W : WX} {pos : Pos}
def augV (x y : Vl) : R Vl := match x.d, y.d with
  | .int i, .int j => .ok (sh (.int (i + j)))
  | .str a, .str b => ofO (scatD (.str a) (.str b))
  | _, _ => .bad
@[simp] theorem augV_i (b c : Bool) (k l : Nat) (i j : Int) : augV ⟨b, k, .int i⟩ ⟨c, l, .int j⟩ = .ok (sh (.int (i + j))) := rfl
@[simp] theorem augV_s (b c : Bool) (k l : Nat) (i j : Str) : augV ⟨b, k, .str i⟩ ⟨c, l, .str j⟩ = ofO (scatD (.str i) (.str j)) := rfl
def sAdd (i : Nat) (f : EF) : SF := fun ρ => toS ((eV i ρ).bind fun x => (eS f ρ).bind fun y => augV x y) ρ (stV i ρ)
@[simp] theorem sAdd_eq (i : Nat) (f : EF) (ρ : Env) : sAdd i f ρ = toS ((eV i ρ).bind fun x => (eS f ρ).bind fun y => augV x y) ρ (stV i ρ) := rfl
abbrev rAug : R2 := fun x y H Q => (∃ i j, x = .int i ∧ y = .int j ∧ Q (.int (i + j)) H) ∨ (∃ i j, x = .str i ∧ y = .str j ∧ i.length + j.length ≤ sizeLine ∧ Q (.str (i ++ j)) H)
/-! x *= e -/
open Classical in
noncomputable def mulA (x y : Vl) : R Vl := match x.d, y.d with
  | .int i, .int j => if CMul i j then .ok (sh (.int (i * j))) else .bad
  | _, _ => .bad
noncomputable def sMul (i : Nat) (f : EF) : SF := fun ρ => toS ((eV i ρ).bind fun x => (eS f ρ).bind fun y => mulA x y) ρ (stV i ρ)
@[simp] theorem sMul_eq (i : Nat) (f : EF) (ρ : Env) : sMul i f ρ = toS ((eV i ρ).bind fun x => (eS f ρ).bind fun y => mulA x y) ρ (stV i ρ) := rfl
end
end B
namespace B
open PySem L2
/-! ### texts: in, not in -/
def inS (i j : Str) : Bool := !(Builtin.Str.occurrences j i 0 j.length 1).isEmpty
def inD : D → D → Option D
  | .str i, .str j => some (.bl (inS i j))
  | _, _ => none
def ninD : D → D → Option D
  | .str i, .str j => some (.bl (!inS i j))
  | _, _ => none
@[simp] theorem inD_s (i j : Str) : inD (.str i) (.str j) = some (.bl (inS i j)) := rfl
@[simp] theorem ninD_s (i j : Str) : ninD (.str i) (.str j) = some (.bl (!inS i j)) := rfl
section
variable {X : Cx} {cl : Clx} {W : WX} {pos : Pos}
/-! s.startswith(t), s.find(t) -/
def smV (g : Str → Str → D) (s : Str) : D → R Vl
  | .str b => .ok (sh (g s b))
  | _ => .bad
@[simp] theorem smV_s (g : Str → Str → D) (a b : Str) : smV g a (.str b) = .ok (sh (g a b)) := rfl
def smR (g : Str → Str → D) (r : R Vl) : D → R Vl
  | .str s => r.bind fun y => smV g s y.d
  | _ => .bad
@[simp] theorem smR_s (g : Str → Str → D) (r : R Vl) (s : Str) : smR g r (.str s) = r.bind fun y => smV g s y.d := rfl
def eSm (g : Str → Str → D) (a b : EF) : EF := fun ρ => (a ρ).bind fun x => smR g (b ρ) x.d
@[simp] theorem eSm_eq (g : Str → Str → D) (a b : EF) (ρ : Env) : eSm g a b ρ = (a ρ).bind fun x => smR g (b ρ) x.d := rfl
theorem semSm {K : PySem.W.Frag} {r : Str → Str → V} {g : Str → Str → D} (hg : ∀ a b G, Rep K cl G (r a b) (g a b)) {ta tb : TE} {a b : EF} (ha : SemE K cl W ta a) (hb : SemE K cl W tb b) :
    SemE K cl W (tBM K "str" (fun x xs H Q => ∃ a b, x = .str a ∧ xs = [.str b] ∧ Q (r a b) H) ta (tCons tb tNil)) (eSm g a b) := by
  intro ρ σ G H Fs env Q hq
  refine ha.use env PV.mono hq fun x v G1 H1 F1 _ p1 env1 o1 f1 hq1 => ?_
  obtain ⟨b1, k, d⟩ := x
  cases d with
  | str s =>
    have hv := o1.str
    refine ⟨by rw [hv]; exact rfl, ?_⟩
    refine hb.use env1 PV.mono hq1 fun y u G2 H2 F2 _ p2 env2 o2 f2 hq2 => ?_
    obtain ⟨b2, l, e⟩ := y
    cases e with
    | str z =>
      have hu := o2.str
      exact ⟨s, z, hv, by rw [hu], hq2 _ G2 H2 (fun _ => False) (Px.refl env2.gh) (hg s z G2) noFoo⟩
    | _ => exact hq2.elim
  | _ => exact hq1.elim
theorem ev_sm {c o e : Expr} {f h : EF} {r : Str → Str → V} {g : Str → Str → D} (hg : ∀ (K : PySem.W.Frag) (cl : Str → Addr) a b G, Rep K cl G (r a b) (g a b))
    (hpe : ∀ ta tb, PE X o ta → PE X e tb → PE X c (tBM X.K "str" (fun x xs H Q => ∃ a b, x = .str a ∧ xs = [.str b] ∧ Q (r a b) H) ta (tCons tb tNil))) (ho : EvE X cl W o f) (he : EvE X cl W e h) : EvE X cl W c (eSm g f h) := by
  obtain ⟨ta, pa, sa⟩ := ho
  obtain ⟨tb, pb, sb⟩ := he
  exact ⟨_, hpe ta tb pa pb, semSm (hg X.K cl.c) sa sb⟩
def swD (a b : Str) : D := .bl (Txt.startswith a b)
def fdD (a b : Str) : D := .int (Txt.find a b)
theorem sw_rep (K : PySem.W.Frag) (cl : Str → Addr) (a b : Str) (G : Hp) : Rep K cl G (.bl (Txt.startswith a b)) (swD a b) := .bl _
end
end B
namespace B
open PySem L2
/-! ### paths into what a name owns -/
inductive Stp where
  | ix (j : Nat)
  | fd (f : Str)
abbrev Pth := List Stp
def getS : Stp → D → Option D
  | .ix j, .lst ds => ds[j]?
  | .fd f, .obj _ fs => getF f fs
  | _, _ => none
def putS : Stp → D → D → D
  | .ix j, .lst ds, e => .lst (ds.set j e)
  | .fd f, .obj C fs, e => .obj C (putD f e fs)
  | _, d, _ => d
@[simp] theorem getS_ix (j : Nat) (ds : List D) : getS (.ix j) (.lst ds) = ds[j]? := rfl
@[simp] theorem getS_fd (f : Str) (C : Str) (fs : List (Str × D)) : getS (.fd f) (.obj C fs) = getF f fs := rfl
@[simp] theorem putS_ix (j : Nat) (ds : List D) (e : D) : putS (.ix j) (.lst ds) e = .lst (ds.set j e) := rfl
@[simp] theorem putS_fd (f : Str) (C : Str) (fs : List (Str × D)) (e : D) : putS (.fd f) (.obj C fs) e = .obj C (putD f e fs) := rfl
def getP : Pth → D → Option D
  | [], d => some d
  | s :: p, d => (getS s d).bind (getP p)
def putM (s : Stp) (d : D) (g : D → D) : Option D → D
  | some c => putS s d (g c)
  | none => d
@[simp] theorem putM_some (s : Stp) (d : D) (g : D → D) (c : D) : putM s d g (some c) = putS s d (g c) := rfl
def putP : Pth → D → D → D
  | [], _, e => e
  | s :: p, d, e => putM s d (fun c => putP p c e) (getS s d)
@[simp] theorem putP_c (s : Stp) (p : Pth) (d e : D) : putP (s :: p) d e = putM s d (fun c => putP p c e) (getS s d) := rfl
@[simp] theorem getP_nil (d : D) : getP [] d = some d := rfl
@[simp] theorem getP_cons (s : Stp) (p : Pth) (d : D) : getP (s :: p) d = (getS s d).bind (getP p) := rfl
@[simp] theorem putP_nil (d e : D) : putP [] d e = e := rfl
theorem putP_cons {s : Stp} {d c : D} (h : getS s d = some c) (p : Pth) (e : D) : putP (s :: p) d e = putS s d (putP p c e) := by
  rw [putP_c, h, putM_some]
def PathS (H : Hp) : Stp → V → V → Prop
  | .ix j, v, w => ∃ a vs, v = .ref a ∧ H a = some (.lst vs) ∧ vs[j]? = some w
  | .fd f, v, w => ∃ a C dx gs, v = .ref a ∧ H a = some (.ins C dx gs) ∧ gs.lookup f = some w
def PathOf (H : Hp) : Pth → V → V → Prop
  | [], v, u => u = v
  | s :: p, v, u => ∃ w, PathS H s v w ∧ PathOf H p w u
theorem PathS.det {H : Hp} {s : Stp} {v w u : V} (h1 : PathS H s v w) (h2 : PathS H s v u) : w = u := by
  cases s with
  | ix j =>
    obtain ⟨a, vs, rfl, h, e⟩ := h1
    obtain ⟨b, us, q, h', e'⟩ := h2
    cases q
    rw [h] at h'
    cases h'
    rw [e] at e'
    exact Option.some.inj e'
  | fd f =>
    obtain ⟨a, C, dx, vs, rfl, h, e⟩ := h1
    obtain ⟨b, C', dx', us, q, h', e'⟩ := h2
    cases q
    rw [h] at h'
    cases h'
    rw [e] at e'
    exact Option.some.inj e'
theorem PathOf.det {H : Hp} : ∀ {p : Pth} {v w u : V}, PathOf H p v w → PathOf H p v u → w = u
  | [], _, _, _, h1, h2 => h1.trans h2.symm
  | s :: p, v, w, u, ⟨x, a, b⟩, ⟨y, c, d⟩ => by
    have := a.det c
    subst this
    exact PathOf.det b d
theorem PathS.mono {H H' : Hp} (e : Same H H') {s : Stp} {v w : V} (h : PathS H s v w) : PathS H' s v w := by
  cases s with
  | ix j =>
    obtain ⟨a, vs, rfl, h, i⟩ := h
    exact ⟨a, vs, rfl, e _ _ h, i⟩
  | fd f =>
    obtain ⟨a, C, dx, vs, rfl, h, i⟩ := h
    exact ⟨a, C, dx, vs, rfl, e _ _ h, i⟩
theorem PathOf.mono {H H' : Hp} (e : Same H H') : ∀ {p : Pth} {v w : V}, PathOf H p v w → PathOf H' p v w
  | [], _, _, h => h
  | s :: p, v, w, ⟨x, a, b⟩ => ⟨x, a.mono e, PathOf.mono e b⟩
theorem look_put {f : Str} {d : D} : ∀ {gs : List (Str × V)} {fs : List (Str × D)}, gs.map (·.1) = fs.map (·.1) → getF f fs = some d → ∃ (i : Nat) (v : V), fs[i]? = some (f, d) ∧ gs[i]? = some (f, v) ∧ gs.lookup f = some v ∧ ∀ e, putD f e fs = fs.set i (f, e)
  | [], [], _, h => by cases h
  | [], _ :: _, h, _ => by simp at h
  | _ :: _, [], h, _ => by simp at h
  | (g, v) :: gs, (g2, e) :: fs, h, hf => by
    simp only [List.map_cons, List.cons.injEq] at h
    obtain ⟨rfl, h⟩ := h
    rw [getF_cons] at hf
    by_cases hg : g = f
    · subst hg
      rw [if_pos rfl] at hf
      cases hf
      exact ⟨0, v, rfl, rfl, by simp [List.lookup], fun e => by simp [putD]⟩
    · rw [if_neg hg] at hf
      obtain ⟨i, u, h1, h2, h3, h4⟩ := look_put h hf
      refine ⟨i + 1, u, h1, h2, ?_, fun e => by simp [putD, hg, h4]⟩
      rw [List.lookup_cons]
      have hb : (f == g) = false := by
        rw [beq_eq_false_iff_ne]
        exact fun z => hg z.symm
      rw [hb]
      exact h3
section
variable {K : PySem.W.Frag} {cl : Clx} {W : WX} {ρ : Env} {σ : L2.St} {G H G' H' : Hp} {Fs Fs' : Foot} {c0 : Str → Addr}
theorem Own.focusS {s : Stp} {k : Nat} {v : V} {d c : D} {F : Addr → Prop} (o : Own K c0 H G (k + 1) v d F) (g : getS s d = some c) : ∃ w F', PathS H s v w ∧ Own K c0 H G k w c F' ∧ (∀ a, F' a → F a ∧ v ≠ .ref a) ∧
    ∀ (H' G' : Hp) (e : D) (F2 : Addr → Prop), Same G G' → (∀ a o, F a → ¬ F' a → H a = some o → H' a = some o) → Own K c0 H' G' k w e F2 → (∀ a, F2 a → F' a ∨ ¬ F a) → Own K c0 H' G' (k + 1) v (putS s d e) (fun a => (F a ∧ ¬ F' a) ∨ F2 a) := by
  classical
  cases s with
  | ix j =>
    cases d with
    | lst ds =>
      obtain ⟨p, vs, Fs, rfl, hp, fp, hl, hr, hs, hd⟩ := o
      rw [getS_ix] at g
      have hj : j < ds.length := (List.getElem?_eq_some_iff.mp g).1
      have hv : vs[j]? = some vs[j] := List.getElem?_eq_getElem (by rw [hl]; exact hj)
      refine ⟨vs[j], Fs j, ⟨p, vs, rfl, hp, hv⟩, hr j _ _ hv g, fun a z => ⟨(hs j a z).1, fun e => (hs j a z).2 (V.ref.inj e).symm⟩, fun H' G' e F2 gg fr o2 h2 => ?_⟩
      refine ⟨p, vs, fun i a => if i = j then F2 a else Fs i a, rfl, fr p _ fp (fun z => (hs j p z).2 rfl) hp, .inl ⟨fp, fun z => (hs j p z).2 rfl⟩, by simpa using hl, fun i v d h1 h3 => ?_, fun i a z => ?_, fun i l a z1 z2 => ?_⟩
      · by_cases hi : i = j
        · subst hi
          rw [List.getElem?_set_self hj] at h3
          cases h3
          rw [hv] at h1
          cases h1
          simp only [if_pos rfl]
          exact o2
        · rw [List.getElem?_set_ne (Ne.symm hi)] at h3
          simp only [if_neg hi]
          exact (hr i v d h1 h3).step gg fun a o f q => fr a o (hs i a f).1 (fun z => hi (hd i j a f z)) q
      · by_cases hi : i = j
        · simp only [if_pos hi] at z
          refine ⟨.inr z, fun e => ?_⟩
          subst e
          rcases h2 _ z with y | y
          · exact (hs j _ y).2 rfl
          · exact y fp
        · simp only [if_neg hi] at z
          exact ⟨.inl ⟨(hs i a z).1, fun y => hi (hd i j a z y)⟩, (hs i a z).2⟩
      · by_cases hi : i = j
        · by_cases hk : l = j
          · rw [hi, hk]
          · simp only [if_pos hi] at z1
            simp only [if_neg hk] at z2
            rcases h2 _ z1 with y | y
            · exact (hk (hd l j a z2 y)).elim
            · exact (y (hs l a z2).1).elim
        · by_cases hk : l = j
          · simp only [if_neg hi] at z1
            simp only [if_pos hk] at z2
            rcases h2 _ z2 with y | y
            · exact (hi (hd i j a z1 y)).elim
            · exact (y (hs i a z1).1).elim
          · simp only [if_neg hi] at z1
            simp only [if_neg hk] at z2
            exact hd i l a z1 z2
    | _ => cases g
  | fd f =>
    cases d with
    | obj C ds =>
      obtain ⟨p, dx, vs, Fs, rfl, hp, fp, hl, hr, hs, hd⟩ := o
      rw [getS_fd] at g
      obtain ⟨j, w, j1, j2, j3, j4⟩ := look_put hl g
      have hj : j < ds.length := (List.getElem?_eq_some_iff.mp j1).1
      refine ⟨w, Fs j, ⟨p, _, dx, vs, rfl, hp, j3⟩, hr j _ _ j2 j1, fun a z => ⟨(hs j a z).1, fun e => (hs j a z).2 (V.ref.inj e).symm⟩, fun H' G' e F2 gg fr o2 h2 => ?_⟩
      rw [putS_fd, j4 e]
      refine ⟨p, dx, vs, fun i a => if i = j then F2 a else Fs i a, rfl, fr p _ fp (fun z => (hs j p z).2 rfl) hp, .inl ⟨fp, fun z => (hs j p z).2 rfl⟩, ?_, fun i v d h1 h3 => ?_, fun i a z => ?_, fun i l a z1 z2 => ?_⟩
      · rw [List.map_set, hl]
        apply List.ext_getElem?
        intro i
        by_cases hi : i = j
        · subst hi
          rw [List.getElem?_set_self (by simpa using hj), List.getElem?_map, j1]
          rfl
        · rw [List.getElem?_set_ne (Ne.symm hi)]
      · by_cases hi : i = j
        · subst hi
          rw [List.getElem?_set_self hj] at h3
          cases h3
          rw [j2] at h1
          cases h1
          simp only [if_pos rfl]
          exact o2
        · rw [List.getElem?_set_ne (Ne.symm hi)] at h3
          simp only [if_neg hi]
          exact (hr i v d h1 h3).step gg fun a o f q => fr a o (hs i a f).1 (fun z => hi (hd i j a f z)) q
      · by_cases hi : i = j
        · simp only [if_pos hi] at z
          refine ⟨.inr z, fun e => ?_⟩
          subst e
          rcases h2 _ z with y | y
          · exact (hs j _ y).2 rfl
          · exact y fp
        · simp only [if_neg hi] at z
          exact ⟨.inl ⟨(hs i a z).1, fun y => hi (hd i j a z y)⟩, (hs i a z).2⟩
      · by_cases hi : i = j
        · by_cases hk : l = j
          · rw [hi, hk]
          · simp only [if_pos hi] at z1
            simp only [if_neg hk] at z2
            rcases h2 _ z1 with y | y
            · exact (hk (hd l j a z2 y)).elim
            · exact (y (hs l a z2).1).elim
        · by_cases hk : l = j
          · simp only [if_neg hi] at z1
            simp only [if_pos hk] at z2
            rcases h2 _ z2 with y | y
            · exact (hi (hd i j a z1 y)).elim
            · exact (y (hs i a z1).1).elim
          · simp only [if_neg hi] at z1
            simp only [if_neg hk] at z2
            exact hd i l a z1 z2
    | _ => cases g
theorem Own.focus : ∀ (p : Pth) {k : Nat} {v : V} {d c : D} {F : Addr → Prop}, Own K c0 H G (k + p.length) v d F → getP p d = some c → ∃ w F', PathOf H p v w ∧ Own K c0 H G k w c F' ∧ (∀ a, F' a → F a) ∧
    ∀ (H' G' : Hp) (e : D) (F2 : Addr → Prop), Same G G' → (∀ a o, F a → ¬ F' a → H a = some o → H' a = some o) → Own K c0 H' G' k w e F2 → (∀ a, F2 a → F' a ∨ ¬ F a) → Own K c0 H' G' (k + p.length) v (putP p d e) (fun a => (F a ∧ ¬ F' a) ∨ F2 a)
  | [], k, v, d, c, F, o, g => by
    cases g
    exact ⟨v, F, rfl, o, fun _ z => z, fun H' G' e F2 gg fr o2 h2 => o2.weak fun a z => .inr z⟩
  | s :: p, k, v, d, c, F, o, g => by
    rw [getP_cons] at g
    cases e1 : getS s d with
    | none => rw [e1] at g; cases g
    | some c1 =>
      rw [e1] at g
      have o' : Own K c0 H G ((k + p.length) + 1) v d F := o
      obtain ⟨w1, F1, p1, o1, s1, put1⟩ := o'.focusS e1
      obtain ⟨w, F', p2, o2, s2, put2⟩ := Own.focus p o1 g
      refine ⟨w, F', ⟨w1, p1, p2⟩, o2, fun a z => (s1 a (s2 a z)).1, fun H' G' e F2 gg fr oe h2 => ?_⟩
      rw [putP_cons e1]
      have a1 := put2 H' G' e F2 gg (fun a o f n q => fr a o (s1 a f).1 n q) oe (fun a z => (h2 a z).elim .inl fun n => .inr fun q => n (s1 a q).1)
      have a2 := put1 H' G' _ _ gg (fun a o f n q => fr a o f (fun z => n (s2 a z)) q) a1 (fun a z => by
        rcases z with ⟨z, _⟩ | z
        · exact .inl z
        · exact (h2 a z).elim (fun y => .inl (s2 a y)) .inr)
      refine Own.weak a2 fun a z => ?_
      rcases z with ⟨z, n⟩ | ⟨z, n⟩ | z
      · exact .inl ⟨z, fun y => n (s2 a y)⟩
      · exact .inl ⟨(s1 a z).1, n⟩
      · exact .inr z
/-- slot i at the path p: what stands there may be changed in place -/
def FsP (i : Nat) (F' F2 : Addr → Prop) (Fs : Foot) : Foot := fun j a => if j = i then (Fs i a ∧ ¬ F' a) ∨ F2 a else Fs j a
/-- a change in place of what U holds; G0 H0 stood ahead of the reading that went before -/
structure Inp (U : Addr → Prop) (H0 G H : Hp) (U' : Addr → Prop) (G' H' : Hp) : Prop where
  gg : Same G G'
  gh : Same G' H'
  fr : ∀ a o, H a = some o → ¬ U a → H' a = some o
  th : ∀ a o, H a = some o → ∃ o', H' a = some o'
  un : ∀ a, U' a → U a ∨ H0 a = none
  gn : ∀ a o, G' a = some o → G a = some o ∨ U a ∨ H a = none
theorem EnvR.focus {G0 H0 : Hp} (env0 : EnvR K cl ρ σ G0 H0 Fs) (p0 : Px G0 H0 G H) {i n k : Nat} {d c : D} {p : Pth} (h : ρ[i]? = some (some (n, d))) (hn : n = k + p.length) (g : getP p d = some c) : ∃ v w F', σ[i]? = some (some v) ∧ PathOf H p v w ∧ Own K cl.c H G k w c F' ∧ (∀ a, F' a → Fs i a) ∧
    ∀ (H' G' : Hp) (e : D) (F2 : Addr → Prop), Own K cl.c H' G' k w e F2 → (∀ a, F2 a → (∃ o, H' a = some o) ∧ G' a = none) → Inp F' H0 G H F2 G' H' → EnvR K cl (ρ.set i (some (n, putP p d e))) σ G' H' (FsP i F' F2 Fs) ∧ Sx (Un Fs) G0 H0 (Un (FsP i F' F2 Fs)) G' H' := by
  have env := env0.px p0
  obtain ⟨v, hv, o⟩ := env.own i n d h
  subst hn
  obtain ⟨w, F', pt, o', sb, put⟩ := o.focus p g
  refine ⟨v, w, F', hv, pt, o', sb, fun H' G' e F2 oe dm sx => ?_⟩
  have hi : i < ρ.length := (List.getElem?_eq_some_iff.mp h).1
  have news : ∀ a, F2 a → F' a ∨ ∀ j, ¬ Fs j a := fun a z => by
    rcases sx.un a z with y | y
    · exact .inl y
    · refine .inr fun j f => ?_
      obtain ⟨⟨o, ho⟩, _⟩ := env0.dom j a f
      rw [ho] at y; cases y
  have keep : ∀ j a, Fs j a → j ≠ i → ¬ F' a := fun j a f hj z => hj (env.dis j i a f (sb a z))
  refine ⟨⟨by simp [env.len], sx.gh, fun j k' d' hj => ?_, fun j l a h1 h2 => ?_, fun j a f => ?_, env.fx⟩, ⟨p0.gg.trans sx.gg, sx.gh, fun a o ha n => sx.fr a o (p0.hh a o ha) fun z => n ⟨i, sb a z⟩, fun a o ha => sx.th a o (p0.hh a o ha), fun a ⟨j, z⟩ => ?_, fun a o ha => ?_⟩⟩
  · by_cases hji : j = i
    · subst hji
      rw [List.getElem?_set_self hi] at hj
      cases hj
      refine ⟨v, hv, ?_⟩
      have := put H' G' e F2 sx.gg (fun a o f n q => sx.fr a o q n) oe (fun a z => (news a z).imp id fun y => y j)
      refine Own.weak this fun a z => ?_
      unfold FsP
      rw [if_pos rfl]
      exact z
    · rw [List.getElem?_set_ne (Ne.symm hji)] at hj
      obtain ⟨u, hu, o⟩ := env.own j k' d' hj
      refine ⟨u, hu, ?_⟩
      refine Own.weak (o.step sx.gg fun a o f q => sx.fr a o q (keep j a f hji)) fun a z => ?_
      unfold FsP
      rw [if_neg hji]
      exact z
  · unfold FsP at h1 h2
    by_cases hj : j = i
    · by_cases hl : l = i
      · rw [hj, hl]
      · rw [if_pos hj] at h1
        rw [if_neg hl] at h2
        rcases h1 with ⟨z, _⟩ | z
        · exact (hl (env.dis l i a h2 z)).elim
        · rcases news a z with y | y
          · exact (hl (env.dis l i a h2 (sb a y))).elim
          · exact (y l h2).elim
    · by_cases hl : l = i
      · rw [if_neg hj] at h1
        rw [if_pos hl] at h2
        rcases h2 with ⟨z, _⟩ | z
        · exact (hj (env.dis j i a h1 z)).elim
        · rcases news a z with y | y
          · exact (hj (env.dis j i a h1 (sb a y))).elim
          · exact (y j h1).elim
      · rw [if_neg hj] at h1
        rw [if_neg hl] at h2
        exact env.dis j l a h1 h2
  · have old : ∀ j a, Fs j a → ¬ F' a → (∃ o, H' a = some o) ∧ G' a = none := fun j a f n => by
      obtain ⟨⟨o, ho⟩, hg⟩ := env.dom j a f
      refine ⟨⟨o, sx.fr a o ho n⟩, ?_⟩
      cases q : G' a with
      | none => rfl
      | some u =>
        rcases sx.gn a u q with z | z | z
        · rw [hg] at z; cases z
        · exact (n z).elim
        · rw [ho] at z; cases z
    unfold FsP at f
    by_cases hj : j = i
    · rw [if_pos hj] at f
      rcases f with ⟨f, n⟩ | f
      · exact old i a f n
      · exact dm a f
    · rw [if_neg hj] at f
      exact old j a f (keep j a f hj)
  · unfold FsP at z
    by_cases hj : j = i
    · rw [if_pos hj] at z
      rcases z with ⟨z, _⟩ | z
      · exact .inl ⟨i, z⟩
      · exact (sx.un a z).imp (fun y => ⟨i, sb a y⟩) id
    · rw [if_neg hj] at z
      exact .inl ⟨j, z⟩
  · rcases sx.gn a o ha with z | z | z
    · exact (p0.gn a o z).imp id .inr
    · exact .inr (.inl ⟨i, sb a z⟩)
    · exact .inr (.inr (p0.hh.free z))
end
end B
namespace B
open PySem L2
/-! ### what a name owns is read by those that want frozen things: frozen for a while -/
def flatK : Nat → D → Bool
  | 0, d => flat d
  | k + 1, .lst ds => ds.all (flatK k)
  | k + 1, .obj _ fs => fs.all fun f => flatK k f.2
  | k + 1, .tup ds => ds.all (flatK k)
  | _ + 1, d => flat d
@[simp] theorem flatK_0 (d : D) : flatK 0 d = flat d := rfl
@[simp] theorem flatK_l (k : Nat) (ds : List D) : flatK (k + 1) (.lst ds) = ds.all (flatK k) := rfl
@[simp] theorem flatK_t (k : Nat) (ds : List D) : flatK (k + 1) (.tup ds) = ds.all (flatK k) := rfl
@[simp] theorem flatK_o (k : Nat) (C : Str) (fs : List (Str × D)) : flatK (k + 1) (.obj C fs) = fs.all fun f => flatK k f.2 := rfl
@[simp] theorem flatK_i (k : Nat) (i : Int) : flatK k (.int i) = true := by cases k <;> simp [flatK]
@[simp] theorem flatK_b (k : Nat) (i : Bool) : flatK k (.bl i) = true := by cases k <;> simp [flatK]
@[simp] theorem flatK_s (k : Nat) (i : Str) : flatK k (.str i) = true := by cases k <;> simp [flatK]
@[simp] theorem flatK_n (k : Nat) : flatK k .non = true := by cases k <;> simp [flatK]
/-- a list, an instance, or a tuple that holds such -/
inductive Big (H : Hp) : V → Prop
  | lst {a : Addr} {xs : List V} (h : Rd H a (.lst xs)) : Big H (.ref a)
  | ins {a C dx : Addr} {gs : List (Str × V)} (h : H a = some (.ins C dx gs)) : Big H (.ref a)
  | tup {a : Addr} {vs : List V} {i : Nat} {w : V} (h : Rd H a (.tup vs)) (e : vs[i]? = some w) (b : Big H w) : Big H (.ref a)
  | dct {p : Addr} {nks : List (NestedKey × Addr × V)} (h : H p = some (DctO p nks)) : Big H (.ref p)
  | dci {p : Addr} {ks : List Int} (h : H p = some (DciO ks)) : Big H (.ref p)
/-- an exception is no dict -/
theorem EXO_ne (cls : Value) (dd : Option Addr) (p : Addr) (nks : List (NestedKey × Addr × V)) : EXO cls dd p ≠ DctO p nks := by
  intro e
  unfold EXO DctO at e
  injection e with e
  have e1 := congrFun e { objs := Array.replicate (p + 1) { cls := cls, dict := dd, data := .fields #[] } }
  have g : Heap.get? { objs := Array.replicate (p + 1) ({ cls := cls, dict := dd, data := .fields #[] } : Obj) } p = some { cls := cls, dict := dd, data := .fields #[] } := by
    unfold Heap.get?
    simp
  obtain ⟨_, _, _, _, _, o, es, ep, ho, _, hd, _⟩ := e1.mp ⟨_, #[], g, ⟨rfl, rfl⟩, rfl⟩
  rw [g] at ho
  cases ho
  cases hd
section
variable {K : PySem.W.Frag} {cl : Clx} {W : WX} {ρ : Env} {σ : L2.St} {G H G' H' : Hp} {Fs Fs' : Foot} {c0 : Str → Addr}
theorem rd_det {H : Hp} {a : Addr} {u w : HO} (h1 : Rd H a u) (h2 : Rd H a w) (n1 : ∀ o z, u ≠ .frz o z) (n2 : ∀ o z, w ≠ .frz o z) : u = w := by
  rcases h1 with h1 | ⟨o, h1⟩
  · rcases h2 with h2 | ⟨o', h2⟩
    · rw [h1] at h2; exact Option.some.inj h2
    · rw [h1] at h2; exact (n1 _ _ (Option.some.inj h2)).elim
  · rcases h2 with h2 | ⟨o', h2⟩
    · rw [h1] at h2; exact (n2 _ _ (Option.some.inj h2).symm).elim
    · rw [h1] at h2
      cases h2
      rfl
theorem Big.mono (e : Same H H') {v : V} (b : Big H v) : Big H' v := by
  induction b with
  | lst h => exact .lst (rdEx e h)
  | ins h => exact .ins (e _ _ h)
  | tup h i _ ih => exact .tup (rdEx e h) i ih
  | dct h => exact .dct (e _ _ h)
  | dci h => exact .dci (e _ _ h)
theorem Big.no_xd {a : Addr} {fs : List (Str × V)} (b : Big H (.ref a)) (h : H a = some (.xd fs)) : False := by
  generalize e : V.ref a = v at b
  cases b with
  | lst h2 =>
    cases e
    rcases h2 with h2 | ⟨o, h2⟩
    · rw [h] at h2; cases h2
    · rw [h] at h2; cases h2
  | tup h2 _ _ =>
    cases e
    rcases h2 with h2 | ⟨o, h2⟩
    · rw [h] at h2; cases h2
    · rw [h] at h2; cases h2
  | ins h2 => cases e; rw [h] at h2; cases h2
  | dct h2 =>
    cases e
    rw [h] at h2
    unfold DctO at h2
    cases h2
  | dci h2 =>
    cases e
    rw [h] at h2
    unfold DciO at h2
    cases h2
theorem Rep.small {v : V} (b : Big H v) (gh : Same G H) : ∀ {d : D}, Rep K c0 G v d → flat d = true → False := by
  induction b with
  | lst h =>
    intro d r hf
    cases r with
    | lst _ _ _ => simp at hf
    | obj _ _ _ => simp at hf
    | dct _ _ _ _ _ => simp at hf
    | dci _ => simp at hf
    | tup h2 _ _ => cases rd_det h (rdEx gh h2) (fun _ _ => nofun) (fun _ _ => nofun)
    | exo h2 _ =>
      rcases h with h | ⟨o, h⟩
      · rw [gh _ _ h2] at h; cases h
      · rw [gh _ _ h2] at h; cases h
  | dct h =>
    intro d r hf
    cases r with
    | lst _ _ _ => simp at hf
    | obj _ _ _ => simp at hf
    | dct _ _ _ _ _ => simp at hf
    | dci _ => simp at hf
    | tup h2 _ _ => cases rd_det (.inl h) (rdEx gh h2) (fun _ _ => by unfold DctO; nofun) (fun _ _ => nofun)
    | exo h2 _ =>
      rw [gh _ _ h2] at h
      exact (EXO_ne _ _ _ _ (Option.some.inj h)).elim
  | dci h =>
    intro d r hf
    cases r with
    | lst _ _ _ => simp at hf
    | obj _ _ _ => simp at hf
    | dct _ _ _ _ _ => simp at hf
    | dci _ => simp at hf
    | tup h2 _ _ => cases rd_det (.inl h) (rdEx gh h2) (fun _ _ => by unfold DciO; nofun) (fun _ _ => nofun)
    | exo h2 _ => rw [gh _ _ h2] at h; cases h
  | ins h =>
    intro d r hf
    cases r with
    | lst _ _ _ => simp at hf
    | obj _ _ _ => simp at hf
    | dct _ _ _ _ _ => simp at hf
    | dci _ => simp at hf
    | tup h2 _ _ => cases rd_det (.inl h) (rdEx gh h2) (fun _ _ => nofun) (fun _ _ => nofun)
    | exo h2 _ => rw [gh _ _ h2] at h; cases h
  | @tup a vs i w h e _ ih =>
    intro d r hf
    cases r with
    | lst _ _ _ => simp at hf
    | obj _ _ _ => simp at hf
    | dct _ _ _ _ _ => simp at hf
    | dci _ => simp at hf
    | exo h2 _ =>
      rcases h with h | ⟨o, h⟩
      · rw [gh _ _ h2] at h; cases h
      · rw [gh _ _ h2] at h; cases h
    | @tup _ us ds h2 hl hr =>
      cases rd_det h (rdEx gh h2) (fun _ _ => nofun) (fun _ _ => nofun)
      have hi := (List.getElem?_eq_some_iff.mp e).1
      rw [hl] at hi
      have hd : ds[i]? = some ds[i] := List.getElem?_eq_getElem hi
      exact ih (hr _ _ _ e hd) (flatL_get (by simpa using hf) hd)
theorem flatL_not {ds : List D} (h : ¬ flatL ds = true) : ∃ (i : Nat) (d : D), ds[i]? = some d ∧ ¬ flat d = true := by
  by_cases hh : ∃ (i : Nat) (d : D), ds[i]? = some d ∧ ¬ flat d = true
  · exact hh
  · exfalso
    refine h (flatL_iff.mpr fun d hd => ?_)
    obtain ⟨i, hi⟩ := List.getElem?_of_mem hd
    by_cases hf : flat d = true
    · exact hf
    · exact (hh ⟨i, d, hi, hf⟩).elim
theorem Rep.big {v : V} {d : D} (gh : Same G H) (r : Rep K c0 G v d) : ¬ flat d = true → Big H v := by
  induction r with
  | lst h _ _ _ => exact fun _ => .lst (rdEx gh h)
  | obj h _ _ _ => exact fun _ => .ins (gh _ _ h)
  | dct h _ _ _ _ _ _ => exact fun _ => .dct (gh _ _ h)
  | dci h => exact fun _ => .dci (gh _ _ h)
  | tup h hl hr ih =>
    intro hf
    obtain ⟨i, d, hi, hd⟩ := flatL_not (by simpa using hf)
    have hlt := (List.getElem?_eq_some_iff.mp hi).1
    have hv := List.getElem?_eq_getElem (l := _) (i := i) (show i < _ by rw [hl]; exact hlt)
    exact .tup (rdEx gh h) hv (ih i _ _ hv hi hd)
  | _ => intro hf; simp at hf
theorem Own.big (gh : Same G H) : ∀ {k : Nat} {v : V} {d : D} {F : Addr → Prop}, Own K c0 H G k v d F → ¬ B.flat d = true → Big H v
  | 0, v, d, F, o, hf => Rep.big gh o hf
  | k + 1, v, .lst ds, F, o, hf => by
    obtain ⟨p, vs, Fs, rfl, hp, _⟩ := o
    exact .lst (.inl hp)
  | k + 1, v, .obj C ds, F, o, hf => by
    obtain ⟨p, dx, vs, Fs, rfl, hp, _⟩ := o
    exact .ins hp
  | k + 1, v, .tup ds, F, o, hf => by
    obtain ⟨p, vs, Fs, rfl, hp, fp, hl, hr, _⟩ := o.tupN (by simpa using hf)
    obtain ⟨i, d, hi, hd⟩ := flatL_not (by simpa using hf)
    have hlt := (List.getElem?_eq_some_iff.mp hi).1
    have hv : vs[i]? = some vs[i] := List.getElem?_eq_getElem (by rw [hl]; exact hlt)
    exact .tup (.inl hp) hv (Own.big gh (hr i _ _ hv hi) hd)
  | k + 1, v, .non, F, o, hf => by simp at hf
  | k + 1, v, .bl _, F, o, hf => by simp at hf
  | k + 1, v, .int _, F, o, hf => by simp at hf
  | k + 1, v, .str _, F, o, hf => by simp at hf
  | k + 1, v, .exo _, F, o, hf => by simp at hf
  | k + 1, v, .dct _, F, o, hf => by
    obtain ⟨p, nks, rfl, hp, _⟩ := o
    exact .dct hp
  | k + 1, v, .dci _, F, o, hf => by
    obtain ⟨p, rfl, hp, _⟩ := o
    exact .dci hp
/-- the places that count -/
theorem Own.restr (gh : Same G H) : ∀ {k : Nat} {v : V} {d : D} {F : Addr → Prop}, Own K c0 H G k v d F → Own K c0 H G k v d (fun a => F a ∧ Big H (.ref a))
  | 0, v, d, F, o => o
  | k + 1, v, .lst ds, F, o => by
    obtain ⟨p, vs, Fs, rfl, hp, fp, hl, hr, hs, hd⟩ := o
    exact ⟨p, vs, fun i a => Fs i a ∧ Big H (.ref a), rfl, hp, ⟨fp, .lst (.inl hp)⟩, hl, fun i v d h1 h2 => Own.restr gh (hr i v d h1 h2), fun i a z => ⟨⟨(hs i a z.1).1, z.2⟩, (hs i a z.1).2⟩, fun i j a z1 z2 => hd i j a z1.1 z2.1⟩
  | k + 1, v, .obj C ds, F, o => by
    obtain ⟨p, dx, vs, Fs, rfl, hp, fp, hl, hr, hs, hd⟩ := o
    exact ⟨p, dx, vs, fun i a => Fs i a ∧ Big H (.ref a), rfl, hp, ⟨fp, .ins hp⟩, hl, fun i v d h1 h2 => Own.restr gh (hr i v d h1 h2), fun i a z => ⟨⟨(hs i a z.1).1, z.2⟩, (hs i a z.1).2⟩, fun i j a z1 z2 => hd i j a z1.1 z2.1⟩
  | k + 1, v, .tup ds, F, o => by
    have bg := o.big gh
    refine Own.mkT (fun hf => o.tupF hf) fun hf => ?_
    obtain ⟨p, vs, Fs, rfl, hp, fp, hl, hr, hs, hd⟩ := o.tupN hf
    exact ⟨p, vs, fun i a => Fs i a ∧ Big H (.ref a), rfl, hp, ⟨fp, bg (by simpa using hf)⟩, hl, fun i v d h1 h2 => Own.restr gh (hr i v d h1 h2), fun i a z => ⟨⟨(hs i a z.1).1, z.2⟩, (hs i a z.1).2⟩, fun i j a z1 z2 => hd i j a z1.1 z2.1⟩
  | k + 1, v, .non, F, o => o
  | k + 1, v, .bl _, F, o => o
  | k + 1, v, .int _, F, o => o
  | k + 1, v, .str _, F, o => o
  | k + 1, v, .exo _, F, o => o
  | k + 1, v, .dct _, F, o => by
    obtain ⟨p, nks, rfl, hp, fp, hr⟩ := o
    exact ⟨p, nks, rfl, hp, ⟨fp, .dct hp⟩, hr⟩
  | k + 1, v, .dci _, F, o => by
    obtain ⟨p, rfl, hp, fp⟩ := o
    exact ⟨p, rfl, hp, fp, .dci hp⟩
/-- flat data does not stand on what is unfrozen again -/
theorem Rep.unf {M : Addr → Prop} {G2 : Hp} (gh : Same G H) (hM : ∀ a, M a → Big H (.ref a)) (h2 : ∀ a o, G a = some o → ¬ M a → G2 a = some o) {v : V} {d : D} (r : Rep K c0 G v d) : flat d = true → Rep K c0 G2 v d := by
  induction r with
  | non => exact fun _ => .non
  | bl b => exact fun _ => .bl b
  | int b => exact fun _ => .int b
  | str b => exact fun _ => .str b
  | lst h hl hr _ => intro hf; simp at hf
  | obj h hl hr _ => intro hf; simp at hf
  | dct h hl hk _ _ _ _ => intro hf; simp at hf
  | dci h => intro hf; simp at hf
  | @exo a d C h hd =>
    intro hf
    refine .exo (h2 _ _ h fun m => ?_) ?_
    · exact Rep.small (hM _ m) gh (Rep.exo (K := K) (cl := c0) h hd) hf
    · unfold XD at hd ⊢
      cases e : xF C with
      | none => rw [e] at hd; exact hd
      | some n =>
        rw [e] at hd
        obtain ⟨dd, e1, e2⟩ := hd
        refine ⟨dd, e1, h2 _ _ e2 fun m => ?_⟩
        exact Big.no_xd (hM _ m) (gh _ _ e2)
  | @tup a vs ds h hl hr ih =>
    intro hf
    have nm : ¬ M a := fun m => Rep.small (hM _ m) gh (Rep.tup h hl hr) hf
    refine .tup ?_ hl fun i v d e1 e2 => ih i v d e1 e2 (flatL_get (by simpa using hf) e2)
    rcases h with h | ⟨o, h⟩
    · exact .inl (h2 _ _ h nm)
    · exact .inr ⟨o, h2 _ _ h nm⟩
theorem Own.unf {M : Addr → Prop} {G2 : Hp} (gh : Same G H) (hM : ∀ a, M a → Big H (.ref a)) (h2 : ∀ a o, G a = some o → ¬ M a → G2 a = some o) : ∀ {k : Nat} {v : V} {d : D} {F : Addr → Prop}, Own K c0 H G k v d F → flatK k d = true → Own K c0 H G2 k v d F
  | 0, v, d, F, o, hf => Rep.unf gh hM h2 o hf
  | k + 1, v, .lst ds, F, o, hf => by
    obtain ⟨p, vs, Fs, rfl, hp, fp, hl, hr, hs, hd⟩ := o
    exact ⟨p, vs, Fs, rfl, hp, fp, hl, fun i v d e1 e2 => Own.unf gh hM h2 (hr i v d e1 e2) (List.all_eq_true.mp hf d (List.mem_of_getElem? e2)), hs, hd⟩
  | k + 1, v, .obj C ds, F, o, hf => by
    obtain ⟨p, dx, vs, Fs, rfl, hp, fp, hl, hr, hs, hd⟩ := o
    exact ⟨p, dx, vs, Fs, rfl, hp, fp, hl, fun i v d e1 e2 => Own.unf gh hM h2 (hr i v d e1 e2) (List.all_eq_true.mp hf d (List.mem_of_getElem? e2)), hs, hd⟩
  | k + 1, v, .tup ds, F, o, hf => by
    refine Own.mkT (fun hl => Rep.unf gh hM h2 (o.tupF hl) (by simpa using hl)) fun hl => ?_
    obtain ⟨p, vs, Fs, rfl, hp, fp, hl, hr, hs, hd⟩ := o.tupN hl
    exact ⟨p, vs, Fs, rfl, hp, fp, hl, fun i v d e1 e2 => Own.unf gh hM h2 (hr i v d e1 e2) (List.all_eq_true.mp hf d (List.mem_of_getElem? e2)), hs, hd⟩
  | k + 1, v, .non, F, o, hf => Rep.unf gh hM h2 o hf
  | k + 1, v, .bl _, F, o, hf => Rep.unf gh hM h2 o hf
  | k + 1, v, .int _, F, o, hf => Rep.unf gh hM h2 o hf
  | k + 1, v, .str _, F, o, hf => Rep.unf gh hM h2 o hf
  | k + 1, v, .exo _, F, o, hf => Rep.unf gh hM h2 o hf
theorem XD.back {c : Str} {d : Option Addr} {G' G2 H' : Hp} {M : Addr → Prop} (x : XD c d G') (gh : Same G' H') (hM : ∀ a, M a → Big H' (.ref a)) (k2 : ∀ a o, G' a = some o → ¬ M a → G2 a = some o) : XD c d G2 := by
  unfold XD at x ⊢
  cases e : xF c with
  | none => rw [e] at x; exact x
  | some n =>
    rw [e] at x
    obtain ⟨dd, e1, e2⟩ := x
    exact ⟨dd, e1, k2 _ _ e2 fun m => Big.no_xd (hM _ m) (gh _ _ e2)⟩
def FsO (i : Nat) (Fs : Foot) : Foot := fun j a => j ≠ i ∧ Fs j a
/-- for a while: slot i frozen -/
theorem EnvR.bor (e : EnvR K cl ρ σ G H Fs) {i k : Nat} {d : D} (h : ρ[i]? = some (some (k, d))) : ∃ (M : Addr → Prop) (G1 : Hp), EnvR K cl (ρ.set i (some (0, d))) σ G1 H (FsO i Fs) ∧ (∀ a, M a → Fs i a ∧ Big H (.ref a)) ∧
    ∀ G' H', Px G1 H G' H' → ∃ G2, Px G H G2 H' ∧ (∀ a o, G' a = some o → ¬ M a → G2 a = some o) ∧ ∀ a, G' a = none → G2 a = none := by
  classical
  obtain ⟨v, hv, o⟩ := e.own i k d h
  have o := o.restr e.gh
  let M : Addr → Prop := fun a => Fs i a ∧ Big H (.ref a)
  have gM : ∀ a, M a → G a = none := fun a m => (e.dom i a m.1).2
  have gg : Same G (fun a => if M a then H a else G a) := fun a o ho => by
    by_cases f : M a
    · rw [gM a f] at ho; cases ho
    · simp only [if_neg f]; exact ho
  have gh' : Same (fun a => if M a then H a else G a) H := fun a o ho => by
    by_cases f : M a
    · simp only [if_pos f] at ho; exact ho
    · simp only [if_neg f] at ho; exact e.gh a o ho
  refine ⟨M, fun a => if M a then H a else G a, ⟨by simp [e.len], gh', fun j k' d' hj => ?_, fun j l a h1 h2 => e.dis j l a h1.2 h2.2, fun j a f => ?_, e.fx⟩, fun a m => m, fun G' H' px => ⟨fun a => if M a then none else G' a, ⟨px.hh, fun a o ho => ?_, fun a o ho => ?_, fun a o ho => ?_⟩, fun a o ho n => by simp only [if_neg n]; exact ho, fun a ho => ?_⟩⟩
  · by_cases hji : j = i
    · subst hji
      have hlt : j < ρ.length := (List.getElem?_eq_some_iff.mp h).1
      rw [List.getElem?_set_self hlt] at hj
      cases hj
      exact ⟨v, hv, o.rep gg fun a ob fa ha => by simp only [if_pos (show M a from fa)]; exact ha⟩
    · rw [List.getElem?_set_ne (Ne.symm hji)] at hj
      obtain ⟨w, hw, o⟩ := e.own j k' d' hj
      exact ⟨w, hw, Own.weak (o.step gg fun a ob fa ha => ha) fun a z => ⟨hji, z⟩⟩
  · refine ⟨(e.dom j a f.2).1, ?_⟩
    have : ¬ M a := fun z => f.1 (e.dis j i a f.2 z.1)
    simp only [if_neg this]
    exact (e.dom j a f.2).2
  · have n : ¬ M a := fun z => by rw [gM a z] at ho; cases ho
    simp only [if_neg n]
    exact px.gg a o (gg a o ho)
  · by_cases m : M a
    · simp only [if_pos m] at ho; cases ho
    · simp only [if_neg m] at ho
      exact px.gh a o ho
  · by_cases m : M a
    · simp only [if_pos m] at ho; cases ho
    · simp only [if_neg m] at ho
      rcases px.gn a o ho with z | z
      · simp only [if_neg m] at z
        exact .inl z
      · exact .inr z
  · by_cases m : M a
    · simp only [if_pos m]
    · simp only [if_neg m]; exact ho
def flatC (x : Vl) : R Vl := if flatK x.k x.d = true then .ok x else .bad
@[simp] theorem flatC_eq (b : Bool) (k : Nat) (d : D) : flatC ⟨b, k, d⟩ = if flatK k d = true then .ok ⟨b, k, d⟩ else .bad := rfl
def borV (i : Nat) (f : EF) (ρ : Env) : Option Slot → R Vl
  | some (some (0, _)) => f ρ
  | some (some (_ + 1, d)) => (f (ρ.set i (some (0, d)))).bind flatC
  | _ => .bad
@[simp] theorem borV_0 (i : Nat) (f : EF) (ρ : Env) (d : D) : borV i f ρ (some (some (0, d))) = f ρ := rfl
@[simp] theorem borV_1 (i : Nat) (f : EF) (ρ : Env) (k : Nat) (d : D) : borV i f ρ (some (some (k + 1, d))) = (f (ρ.set i (some (0, d)))).bind flatC := rfl
def eBor (i : Nat) (f : EF) : EF := fun ρ => borV i f ρ ρ[i]?
@[simp] theorem eBor_eq (i : Nat) (f : EF) (ρ : Env) : eBor i f ρ = borV i f ρ ρ[i]? := rfl
theorem semBor {t : TE} {f : EF} (i : Nat) (h : SemE K cl W t f) : SemE K cl W t (eBor i f) := by
  intro ρ σ G H Fs env Q hq
  rw [eBor_eq] at hq
  cases e0 : ρ[i]? with
  | none => rw [e0] at hq; exact hq.elim
  | some s0 =>
    cases s0 with
    | none => rw [e0] at hq; exact hq.elim
    | some kd =>
      obtain ⟨k, d⟩ := kd
      rw [e0] at hq
      cases k with
      | zero => exact h ρ σ G H Fs env Q hq
      | succ k =>
        rw [borV_1] at hq
        obtain ⟨M, G1, env1, hM, back⟩ := env.bor e0
        refine h _ σ G1 H _ env1 Q ?_
        cases e1 : f (ρ.set i (some (0, d))) with
        | bad => rw [e1] at hq; exact hq
        | ex c =>
          rw [e1] at hq
          intro G' H' px dd xd
          obtain ⟨G2, px2, k2, _⟩ := back G' H' px
          exact hq G2 H' px2 dd (xd.back px.gh (fun a m => ((hM a m).2).mono px.hh) k2)
        | ok x =>
          rw [e1, R.bind_ok] at hq
          intro v G' H' F px o fo
          obtain ⟨G2, px2, k2, n2⟩ := back G' H' px
          obtain ⟨b, l, y⟩ := x
          rw [flatC_eq] at hq
          by_cases hf : flatK l y = true
          · rw [if_pos hf] at hq
            refine hq v G2 H' F px2 (Own.unf px.gh (fun a m => ((hM a m).2).mono px.hh) k2 o hf) fun a fa => ⟨(fo a fa).1, n2 a (fo a fa).2.1, (fo a fa).2.2⟩
          · rw [if_neg hf] at hq
            exact hq.elim
def borT (i : Nat) (f : TF) (ρ : Env) : Option Slot → R Bool
  | some (some (0, _)) => f ρ
  | some (some (_ + 1, d)) => f (ρ.set i (some (0, d)))
  | _ => .bad
@[simp] theorem borT_0 (i : Nat) (f : TF) (ρ : Env) (d : D) : borT i f ρ (some (some (0, d))) = f ρ := rfl
@[simp] theorem borT_1 (i : Nat) (f : TF) (ρ : Env) (k : Nat) (d : D) : borT i f ρ (some (some (k + 1, d))) = f (ρ.set i (some (0, d))) := rfl
def tBor (i : Nat) (f : TF) : TF := fun ρ => borT i f ρ ρ[i]?
@[simp] theorem tBor_eq (i : Nat) (f : TF) (ρ : Env) : tBor i f ρ = borT i f ρ ρ[i]? := rfl
end
section
variable {X : Cx} {cl : Clx} {W : WX} {pos : Pos}
theorem ev_bor (i : Nat) {e : Expr} {f : EF} (h : EvE X cl W e f) : EvE X cl W e (eBor i f) := by
  obtain ⟨t, p, s⟩ := h
  exact ⟨t, p, semBor i s⟩
end
end B
namespace B
open PySem L2
/-! ### a value as its place wants it: k floors of its own -/
def fitS (k : Nat) (x : Vl) : R Vl := if flat x.d = true then .ok ⟨false, k, x.d⟩ else if x.b = false ∧ (x.k = k ∨ (x.k < k ∧ flatK x.k x.d = true) ∨ (k < x.k ∧ flatK k x.d = true)) then .ok ⟨false, k, x.d⟩ else .bad
def fitX : Nat → Vl → R Vl
  | 0, x => frz x
  | k + 1, x => fitS (k + 1) x
theorem fitX_s (k : Nat) (x : Vl) : fitX (k + 1) x = fitS (k + 1) x := rfl
@[simp] theorem fitX_0 (x : Vl) : fitX 0 x = frz x := rfl
@[simp] theorem fitX_same (k : Nat) (d : D) : fitX (k + 1) ⟨false, k + 1, d⟩ = .ok ⟨false, k + 1, d⟩ := by
  rw [fitX_s]
  unfold fitS
  by_cases h : flat d = true
  · rw [if_pos h]
  · rw [if_neg h, if_pos ⟨rfl, .inl rfl⟩]
theorem fitX_flat (k : Nat) (b : Bool) (l : Nat) {d : D} (h : flat d = true) : fitX (k + 1) ⟨b, l, d⟩ = .ok ⟨false, k + 1, d⟩ := by
  rw [fitX_s]
  unfold fitS
  rw [if_pos h]
@[simp] theorem fitX_int (k : Nat) (b : Bool) (l : Nat) (i : Int) : fitX (k + 1) ⟨b, l, .int i⟩ = .ok ⟨false, k + 1, .int i⟩ := fitX_flat k b l (by simp)
@[simp] theorem fitX_non (k : Nat) (b : Bool) (l : Nat) : fitX (k + 1) ⟨b, l, .non⟩ = .ok ⟨false, k + 1, .non⟩ := fitX_flat k b l (by simp)
def eFit (k : Nat) (f : EF) : EF := fun ρ => (f ρ).bind (fitX k)
@[simp] theorem eFit_eq (k : Nat) (f : EF) (ρ : Env) : eFit k f ρ = (f ρ).bind (fitX k) := rfl
theorem fitX_is {k : Nat} {x y : Vl} (h : fitX k x = .ok y) : y.b = false ∧ y.k = k ∧ y.d = x.d := by
  cases k with
  | zero =>
    have := frz_k h
    subst this
    exact ⟨rfl, rfl, rfl⟩
  | succ k =>
    rw [fitX_s] at h
    unfold fitS at h
    split at h
    · cases h; exact ⟨rfl, rfl, rfl⟩
    · split at h
      · cases h; exact ⟨rfl, rfl, rfl⟩
      · cases h
theorem eFit_is {k : Nat} {f : EF} {ρ : Env} {y : Vl} (h : eFit k f ρ = .ok y) : y.b = false ∧ y.k = k := by
  rw [eFit_eq] at h
  cases e : f ρ with
  | bad => rw [e] at h; cases h
  | ex c => rw [e] at h; cases h
  | ok x =>
    rw [e] at h
    exact ⟨(fitX_is h).1, (fitX_is h).2.1⟩
section
variable {K : PySem.W.Frag} {cl : Clx} {W : WX} {ρ : Env} {σ : L2.St} {G H G' H' : Hp} {Fs Fs' : Foot} {c0 : Str → Addr}
theorem Own.ofFlat {k : Nat} {v : V} {d : D} {F : Addr → Prop} (r : Rep K c0 G v d) (h : B.flat d = true) : Own K c0 H G k v d F := by
  cases k with
  | zero => exact r
  | succ k =>
    cases d with
    | lst _ => simp at h
    | obj _ _ => simp at h
    | dct _ => simp at h
    | dci _ => simp at h
    | tup ds => exact Own.mkT (fun _ => r) fun hf => (hf (by simpa using h)).elim
    | _ => exact r
theorem Own.up : ∀ {l k : Nat} {v : V} {d : D} {F : Addr → Prop}, l ≤ k → Own K c0 H G l v d F → flatK l d = true → Own K c0 H G k v d F
  | 0, k, v, d, F, _, o, h => Own.ofFlat o h
  | l + 1, 0, v, d, F, h, _, _ => by omega
  | l + 1, k + 1, v, .lst ds, F, hl, o, h => by
    obtain ⟨p, vs, Fs, e, hp, fp, hn, hr, hs, hd⟩ := o
    exact ⟨p, vs, Fs, e, hp, fp, hn, fun i v d h1 h2 => Own.up (by omega) (hr i v d h1 h2) (List.all_eq_true.mp h d (List.mem_of_getElem? h2)), hs, hd⟩
  | l + 1, k + 1, v, .obj C ds, F, hl, o, h => by
    obtain ⟨p, dx, vs, Fs, e, hp, fp, hn, hr, hs, hd⟩ := o
    exact ⟨p, dx, vs, Fs, e, hp, fp, hn, fun i v d h1 h2 => Own.up (by omega) (hr i v d h1 h2) (List.all_eq_true.mp h d (List.mem_of_getElem? h2)), hs, hd⟩
  | l + 1, k + 1, v, .tup ds, F, hl, o, h => by
    refine Own.mkT (fun hf => o.tupF hf) fun hf => ?_
    obtain ⟨p, vs, Fs, e, hp, fp, hn, hr, hs, hd⟩ := o.tupN hf
    exact ⟨p, vs, Fs, e, hp, fp, hn, fun i v d h1 h2 => Own.up (by omega) (hr i v d h1 h2) (List.all_eq_true.mp h d (List.mem_of_getElem? h2)), hs, hd⟩
  | l + 1, k + 1, v, .non, F, _, o, _ => o
  | l + 1, k + 1, v, .bl _, F, _, o, _ => o
  | l + 1, k + 1, v, .int _, F, _, o, _ => o
  | l + 1, k + 1, v, .str _, F, _, o, _ => o
  | l + 1, k + 1, v, .exo _, F, _, o, _ => o
theorem Own.down : ∀ {k l : Nat} {v : V} {d : D} {F : Addr → Prop}, k ≤ l → Own K c0 H G l v d F → flatK k d = true → Own K c0 H G k v d F
  | 0, l, v, d, F, _, o, h => Own.ofFlat (o.scal h) h
  | k + 1, 0, v, d, F, h, _, _ => by omega
  | k + 1, l + 1, v, .lst ds, F, hl, o, h => by
    obtain ⟨p, vs, Fs, e, hp, fp, hn, hr, hs, hd⟩ := o
    exact ⟨p, vs, Fs, e, hp, fp, hn, fun i v d h1 h2 => Own.down (by omega) (hr i v d h1 h2) (List.all_eq_true.mp h d (List.mem_of_getElem? h2)), hs, hd⟩
  | k + 1, l + 1, v, .obj C ds, F, hl, o, h => by
    obtain ⟨p, dx, vs, Fs, e, hp, fp, hn, hr, hs, hd⟩ := o
    exact ⟨p, dx, vs, Fs, e, hp, fp, hn, fun i v d h1 h2 => Own.down (by omega) (hr i v d h1 h2) (List.all_eq_true.mp h d (List.mem_of_getElem? h2)), hs, hd⟩
  | k + 1, l + 1, v, .tup ds, F, hl, o, h => by
    refine Own.mkT (fun hf => o.tupF hf) fun hf => ?_
    obtain ⟨p, vs, Fs, e, hp, fp, hn, hr, hs, hd⟩ := o.tupN hf
    exact ⟨p, vs, Fs, e, hp, fp, hn, fun i v d h1 h2 => Own.down (by omega) (hr i v d h1 h2) (List.all_eq_true.mp h d (List.mem_of_getElem? h2)), hs, hd⟩
  | k + 1, l + 1, v, .non, F, _, o, _ => o
  | k + 1, l + 1, v, .bl _, F, _, o, _ => o
  | k + 1, l + 1, v, .int _, F, _, o, _ => o
  | k + 1, l + 1, v, .str _, F, _, o, _ => o
  | k + 1, l + 1, v, .exo _, F, _, o, _ => o
theorem semFit {t : TE} {f : EF} (k : Nat) (h : SemE K cl W t f) : SemE K cl W t (eFit k f) := by
  cases k with
  | zero => exact semS h
  | succ k =>
    intro ρ σ G H Fs env Q hq
    refine h ρ σ G H Fs env Q ?_
    rw [eFit_eq] at hq
    cases e : f ρ with
    | bad => rw [e] at hq; exact hq
    | ex c => rw [e] at hq; exact hq
    | ok x =>
      rw [e, R.bind_ok] at hq
      intro v G' H' F p o fo
      obtain ⟨b, l, d⟩ := x
      by_cases hf : flat d = true
      · rw [fitX_flat k b l hf] at hq
        exact hq v G' H' (fun _ => False) p (Own.ofFlat (o.scal hf) hf) noFoo
      · have e2 : fitX (k + 1) ⟨b, l, d⟩ = if b = false ∧ (l = k + 1 ∨ (l < k + 1 ∧ flatK l d = true) ∨ (k + 1 < l ∧ flatK (k + 1) d = true)) then .ok ⟨false, k + 1, d⟩ else .bad := by rw [fitX_s]; unfold fitS; rw [if_neg hf]
        rw [e2] at hq
        by_cases hc : b = false ∧ (l = k + 1 ∨ (l < k + 1 ∧ flatK l d = true) ∨ (k + 1 < l ∧ flatK (k + 1) d = true))
        · rw [if_pos hc] at hq
          obtain ⟨rfl, hc⟩ := hc
          rcases hc with rfl | ⟨h1, h2⟩ | ⟨h1, h2⟩
          · exact hq v G' H' F p o fo
          · exact hq v G' H' F p (Own.up (Nat.le_of_lt h1) o h2) fo
          · exact hq v G' H' F p (Own.down (Nat.le_of_lt h1) o h2) fo
        · rw [if_neg hc] at hq
          exact hq.elim
/-! ### paths -/
abbrev PaF := Env → R (Nat × Pth)
def PP (Q : VK) (σ : L2.St) (x : Nat × Pth) (G H : Hp) : Prop := ∀ v G' H', Px G H G' H' → (∃ u, σ[x.1]? = some (some u) ∧ PathOf H' x.2 u v) → Q v H'
theorem PP.mono {Q : VK} {σ : L2.St} : Mono (PP Q σ) := fun x G H G' H' p h v G2 H2 p2 o => h v G2 H2 (p.trans p2) o
def SemP (K : PySem.W.Frag) (cl : Clx) (W : WX) (t : TE) (F : PaF) : Prop := ∀ ρ σ G H Fs, EnvR K cl ρ σ G H Fs → ∀ Q, PostG cl W σ G H (PP Q σ) (F ρ) → t σ H Q
def EvP (X : Cx) (cl : Clx) (W : WX) (e : Expr) (F : PaF) : Prop := ∃ t, PE X e t ∧ SemP X.K cl W t F
/-- what stands at a path: the floors left, the data -/
def ownP (p : Pth) : Option Slot → Option (Nat × D)
  | some (some (n, d)) => if p.length < n then (getP p d).map fun c => (n - p.length, c) else none
  | _ => none
@[simp] theorem ownP_some (p : Pth) (n : Nat) (d : D) : ownP p (some (some (n, d))) = if p.length < n then (getP p d).map fun c => (n - p.length, c) else none := rfl
theorem ownP_of {p : Pth} {o : Option Slot} {k : Nat} {c : D} (h : ownP p o = some (k, c)) : ∃ n d, o = some (some (n, d)) ∧ n = k + p.length ∧ getP p d = some c ∧ 1 ≤ k := by
  unfold ownP at h
  split at h
  · rename_i n d
    split at h
    · rename_i hl
      cases e : getP p d with
      | none => rw [e] at h; cases h
      | some c' =>
        rw [e] at h
        cases h
        exact ⟨n, d, rfl, by omega, e, by omega⟩
    · cases h
  · cases h
def putSl (ρ : Env) (q : Nat × Pth) (e : D) : Option Slot → Env
  | some (some (n, d)) => ρ.set q.1 (some (n, putP q.2 d e))
  | _ => ρ
@[simp] theorem putSl_some (ρ : Env) (q : Nat × Pth) (e : D) (n : Nat) (d : D) : putSl ρ q e (some (some (n, d))) = ρ.set q.1 (some (n, putP q.2 d e)) := rfl
theorem SemP.useS {t : TE} {F : PaF} (h : SemP K cl W t F) (env : EnvR K cl ρ σ G H Fs) {g : Nat × Pth → RS} {D : Ends} (hq : PostS K cl W (Un Fs) G H D (toS (F ρ) ρ g)) {C : VK}
    (step : ∀ x v G' H', F ρ = .ok x → Px G H G' H' → EnvR K cl ρ σ G' H' Fs → (∃ u, σ[x.1]? = some (some u) ∧ PathOf H' x.2 u v) → PostS K cl W (Un Fs) G' H' D (g x) → C v H') : t σ H C := by
  refine h ρ σ G H Fs env C ?_
  cases e : F ρ with
  | ok x =>
    rw [e] at hq
    exact fun v G' H' p o => step x v G' H' e p (env.px p) o (PostS.mono p.sx hq)
  | ex c =>
    rw [e] at hq
    exact fun G' H' p => hq σ G' H' Fs (env.px p) p.sx
  | bad =>
    rw [e] at hq
    exact hq
theorem SemP.use {t : TE} {F : PaF} (h : SemP K cl W t F) (env : EnvR K cl ρ σ G H Fs) {α : Type} {g : Nat × Pth → R α} {P : α → Hp → Hp → Prop} (hm : Mono P) (hq : PostG cl W σ G H P ((F ρ).bind g)) {C : VK}
    (step : ∀ x v G' H', F ρ = .ok x → Px G H G' H' → EnvR K cl ρ σ G' H' Fs → (∃ u, σ[x.1]? = some (some u) ∧ PathOf H' x.2 u v) → PostG cl W σ G' H' P (g x) → C v H') : t σ H C := by
  refine h ρ σ G H Fs env C ?_
  cases e : F ρ with
  | ok x =>
    rw [e] at hq
    exact fun v G' H' p o => step x v G' H' e p (env.px p) o (PostG.mono hm p hq)
  | ex c =>
    rw [e] at hq
    exact hq
  | bad =>
    rw [e] at hq
    exact hq
/-- the thing at a path, from the path's value -/
theorem EnvR.atP {G0 H0 : Hp} (env0 : EnvR K cl ρ σ G0 H0 Fs) (p0 : Px G0 H0 G H) {q : Nat × Pth} {k : Nat} {c : D} {w : V} (h : ownP q.2 ρ[q.1]? = some (k, c)) (hw : ∃ u, σ[q.1]? = some (some u) ∧ PathOf H q.2 u w) : ∃ n d F', ρ[q.1]? = some (some (n, d)) ∧ Own K cl.c H G k w c F' ∧ (∀ a, F' a → Fs q.1 a) ∧ 1 ≤ k ∧
    ∀ (H' G' : Hp) (e : D) (F2 : Addr → Prop), Own K cl.c H' G' k w e F2 → (∀ a, F2 a → (∃ o, H' a = some o) ∧ G' a = none) → Inp F' H0 G H F2 G' H' → EnvR K cl (putSl ρ q e ρ[q.1]?) σ G' H' (FsP q.1 F' F2 Fs) ∧ Sx (Un Fs) G0 H0 (Un (FsP q.1 F' F2 Fs)) G' H' := by
  obtain ⟨n, d, e0, hn, hg, h1⟩ := ownP_of h
  obtain ⟨v, w', F', hv, pt, o, sb, put⟩ := env0.focus p0 e0 hn hg
  obtain ⟨u, hu, pu⟩ := hw
  rw [hv] at hu
  cases hu
  have := pt.det pu
  subst this
  refine ⟨n, d, F', e0, o, sb, h1, ?_⟩
  rw [e0]
  exact put
def pV (i : Nat) : PaF := fun _ => .ok (i, [])
@[simp] theorem pV_eq (i : Nat) (ρ : Env) : pV i ρ = .ok (i, []) := rfl
def pfV (os : List Str) (f : Str) (x : Nat × Pth) : Option (Nat × D) → R (Nat × Pth)
  | some (_, .obj C fs) => if cMem os C = true ∧ (getF f fs).isSome = true then .ok (x.1, x.2 ++ [.fd f]) else .bad
  | _ => .bad
@[simp] theorem pfV_obj (os : List Str) (f : Str) (x : Nat × Pth) (k : Nat) (C : Str) (fs : List (Str × D)) : pfV os f x (some (k, .obj C fs)) = if cMem os C = true ∧ (getF f fs).isSome = true then .ok (x.1, x.2 ++ [.fd f]) else .bad := rfl
def pFld (os : List Str) (f : Str) (P : PaF) : PaF := fun ρ => (P ρ).bind fun x => pfV os f x (ownP x.2 ρ[x.1]?)
@[simp] theorem pFld_eq (os : List Str) (f : Str) (P : PaF) (ρ : Env) : pFld os f P ρ = (P ρ).bind fun x => pfV os f x (ownP x.2 ρ[x.1]?) := rfl
def piJ (x : Nat × Pth) : Option Nat → R (Nat × Pth)
  | some j => .ok (x.1, x.2 ++ [.ix j])
  | none => .bad
@[simp] theorem piJ_some (x : Nat × Pth) (j : Nat) : piJ x (some j) = .ok (x.1, x.2 ++ [.ix j]) := rfl
def piV (x : Nat × Pth) : Option (Nat × D) → D → R (Nat × Pth)
  | some (_, .lst ds), .int k => piJ x (ixN ds.length k)
  | _, _ => .bad
@[simp] theorem piV_lst (x : Nat × Pth) (k : Nat) (ds : List D) (i : Int) : piV x (some (k, .lst ds)) (.int i) = piJ x (ixN ds.length i) := rfl
def pIx (P : PaF) (b : EF) : PaF := fun ρ => (P ρ).bind fun x => (b ρ).bind fun y => piV x (ownP x.2 ρ[x.1]?) y.d
@[simp] theorem pIx_eq (P : PaF) (b : EF) (ρ : Env) : pIx P b ρ = (P ρ).bind fun x => (b ρ).bind fun y => piV x (ownP x.2 ρ[x.1]?) y.d := rfl
end
section
variable {X : Cx} {cl : Clx} {W : WX} {pos : Pos}
theorem evp_var (i : Nat) {x : Str} (hN : X.N[i]? = some x := by rfl) (hv : Vis X.env.scope x := by first | exact Or.inl rfl | exact Or.inr (Or.inl rfl) | exact Or.inr (Or.inr rfl)) (hd : (x == ("__debug__" : Str)) = false := by decide)
    (hcd : (x == ("__classdict__" : Str)) = false := by decide) : ∃ t, PE X (.Name x pos) t ∧ ∀ ρ σ G H Fs, EnvR X.K cl ρ σ G H Fs → ∀ Q, (∃ k d, ρ[i]? = some (some (k, d)) ∧ PP Q σ (i, []) G H) → t σ H Q :=
  ⟨_, pe_var hN hv hd hcd, fun ρ σ G H Fs env Q ⟨k, d, h, hq⟩ => by
    obtain ⟨v, hv, _⟩ := env.own i k d h
    exact ⟨v, hv, hq v G H (Px.refl env.gh) ⟨v, hv, rfl⟩⟩⟩
def pS (i : Nat) (ρ : Env) : Option Slot → R (Nat × Pth)
  | some (some _) => .ok (i, [])
  | _ => .bad
@[simp] theorem pS_some (i : Nat) (ρ : Env) (a : Nat × D) : pS i ρ (some (some a)) = .ok (i, []) := rfl
def pN (i : Nat) : PaF := fun ρ => pS i ρ ρ[i]?
@[simp] theorem pN_eq (i : Nat) (ρ : Env) : pN i ρ = pS i ρ ρ[i]? := rfl
theorem evp_n (i : Nat) {x : Str} (hN : X.N[i]? = some x := by rfl) (hv : Vis X.env.scope x := by first | exact Or.inl rfl | exact Or.inr (Or.inl rfl) | exact Or.inr (Or.inr rfl)) (hd : (x == ("__debug__" : Str)) = false := by decide)
    (hcd : (x == ("__classdict__" : Str)) = false := by decide) : EvP X cl W (.Name x pos) (pN i) := by
  obtain ⟨t, p, s⟩ := evp_var (X := X) (cl := cl) (pos := pos) i hN hv hd hcd
  refine ⟨t, p, fun ρ σ G H Fs env Q hq => s ρ σ G H Fs env Q ?_⟩
  rw [pN_eq] at hq
  cases e : ρ[i]? with
  | none => rw [e] at hq; exact hq.elim
  | some s0 =>
    cases s0 with
    | none => rw [e] at hq; exact hq.elim
    | some kd =>
      rw [e] at hq
      exact ⟨kd.1, kd.2, rfl, hq⟩
theorem ev_fit (k : Nat) {e : Expr} {f : EF} (h : EvE X cl W e f) : EvE X cl W e (eFit k f) := by
  obtain ⟨t, p, s⟩ := h
  exact ⟨t, p, semFit k s⟩
end
end B
namespace B
open PySem L2
section
variable {K : PySem.W.Frag} {cl : Clx} {W : WX} {ρ : Env} {σ : L2.St} {G H G' H' : Hp} {Fs Fs' : Foot} {c0 : Str → Addr}
/-! ### a list of one's own takes another item -/
theorem own_setL {k j : Nat} {p : Addr} {vs : List V} {ds : List D} {u : V} {x : D} {F' Fx : Addr → Prop} (o : Own K c0 H G (k + 1) (.ref p) (.lst ds) F') (hp : H p = some (.lst vs)) (ox : Own K c0 H G k u x Fx) (dj : ∀ a, Fx a → ¬ F' a) :
    F' p ∧ vs.length = ds.length ∧ Own K c0 (upd H p (.lst (vs.set j u))) G (k + 1) (.ref p) (.lst (ds.set j x)) (fun a => F' a ∨ Fx a) := by
  classical
  obtain ⟨q, vs', Fs, e, hq, fp, hl, hr, hs, hd⟩ := o
  cases e
  rw [hp] at hq
  cases hq
  have st : ∀ {F : Addr → Prop}, (∀ a, F a → a ≠ p) → ∀ a o, F a → H a = some o → upd H p (.lst (vs.set j u)) a = some o := fun h a o f q => by rw [upd_ne (h a f)]; exact q
  refine ⟨fp, hl, p, vs.set j u, fun i a => if i = j then Fx a else Fs i a, rfl, upd_same, .inl fp, by simpa using hl, fun i v d h1 h2 => ?_, fun i a z => ?_, fun i l a z1 z2 => ?_⟩
  · by_cases hi : i = j
    · subst hi
      have l1 : i < vs.length := by
        have := (List.getElem?_eq_some_iff.mp h1).1
        simpa using this
      rw [List.getElem?_set_self l1] at h1
      rw [List.getElem?_set_self (by rw [← hl]; exact l1)] at h2
      cases h1
      cases h2
      simp only [if_pos rfl]
      exact ox.step (Same.refl _) (st fun a f e => dj a f (by rw [e]; exact fp))
    · rw [List.getElem?_set_ne (Ne.symm hi)] at h1 h2
      simp only [if_neg hi]
      exact (hr i v d h1 h2).step (Same.refl _) (st fun a f => (hs i a f).2)
  · by_cases hi : i = j
    · simp only [if_pos hi] at z
      exact ⟨.inr z, fun e => dj a z (by rw [e]; exact fp)⟩
    · simp only [if_neg hi] at z
      exact ⟨.inl (hs i a z).1, (hs i a z).2⟩
  · by_cases hi : i = j
    · by_cases hk : l = j
      · rw [hi, hk]
      · simp only [if_pos hi] at z1
        simp only [if_neg hk] at z2
        exact (dj a z1 (hs l a z2).1).elim
    · by_cases hk : l = j
      · simp only [if_neg hi] at z1
        simp only [if_pos hk] at z2
        exact (dj a z2 (hs i a z1).1).elim
      · simp only [if_neg hi] at z1
        simp only [if_neg hk] at z2
        exact hd i l a z1 z2
theorem own_appL {k : Nat} {p : Addr} {vs : List V} {ds : List D} {u : V} {x : D} {F' Fx : Addr → Prop} (o : Own K c0 H G (k + 1) (.ref p) (.lst ds) F') (hp : H p = some (.lst vs)) (ox : Own K c0 H G k u x Fx) (dj : ∀ a, Fx a → ¬ F' a) :
    F' p ∧ vs.length = ds.length ∧ Own K c0 (upd H p (.lst (vs ++ [u]))) G (k + 1) (.ref p) (.lst (ds ++ [x])) (fun a => F' a ∨ Fx a) := by
  classical
  obtain ⟨q, vs', Fs, e, hq, fp, hl, hr, hs, hd⟩ := o
  cases e
  rw [hp] at hq
  cases hq
  have st : ∀ {F : Addr → Prop}, (∀ a, F a → a ≠ p) → ∀ a o, F a → H a = some o → upd H p (.lst (vs ++ [u])) a = some o := fun h a o f q => by rw [upd_ne (h a f)]; exact q
  refine ⟨fp, hl, p, vs ++ [u], fun i a => if i = ds.length then Fx a else Fs i a, rfl, upd_same, .inl fp, by simp [hl], fun i v d h1 h2 => ?_, fun i a z => ?_, fun i l a z1 z2 => ?_⟩
  · by_cases hi : i = ds.length
    · subst hi
      rw [← hl, List.getElem?_append_right (Nat.le_refl _), Nat.sub_self] at h1
      rw [List.getElem?_append_right (Nat.le_refl _), Nat.sub_self] at h2
      cases h1
      cases h2
      simp only [if_pos rfl]
      exact ox.step (Same.refl _) (st fun a f e => dj a f (by rw [e]; exact fp))
    · have l2 : i < ds.length := by
        have := (List.getElem?_eq_some_iff.mp h2).1
        simp only [List.length_append, List.length_singleton] at this
        omega
      rw [List.getElem?_append_left (by rw [hl]; exact l2)] at h1
      rw [List.getElem?_append_left l2] at h2
      simp only [if_neg hi]
      exact (hr i v d h1 h2).step (Same.refl _) (st fun a f => (hs i a f).2)
  · by_cases hi : i = ds.length
    · simp only [if_pos hi] at z
      exact ⟨.inr z, fun e => dj a z (by rw [e]; exact fp)⟩
    · simp only [if_neg hi] at z
      exact ⟨.inl (hs i a z).1, (hs i a z).2⟩
  · by_cases hi : i = ds.length
    · by_cases hk : l = ds.length
      · rw [hi, hk]
      · simp only [if_pos hi] at z1
        simp only [if_neg hk] at z2
        exact (dj a z1 (hs l a z2).1).elim
    · by_cases hk : l = ds.length
      · simp only [if_neg hi] at z1
        simp only [if_pos hk] at z2
        exact (dj a z2 (hs i a z1).1).elim
      · simp only [if_neg hi] at z1
        simp only [if_neg hk] at z2
        exact hd i l a z1 z2
/-- an item is taken out: it goes on alone -/
theorem own_delL {k m : Nat} {p : Addr} {vs : List V} {ds : List D} {u : V} {x : D} {F' : Addr → Prop} (o : Own K c0 H G (k + 1) (.ref p) (.lst ds) F') (hp : H p = some (.lst vs)) (hu : vs[m]? = some u) (hx : ds[m]? = some x) :
    F' p ∧ ∃ F1 F2, Own K c0 (upd H p (.lst (vs.eraseIdx m))) G (k + 1) (.ref p) (.lst (ds.eraseIdx m)) F1 ∧ Own K c0 (upd H p (.lst (vs.eraseIdx m))) G k u x F2 ∧ (∀ a, F1 a → F' a) ∧ (∀ a, F2 a → F' a) ∧ ∀ a, F1 a → ¬ F2 a := by
  obtain ⟨q, vs', Fs, e, hq, fp, hl, hr, hs, hd⟩ := o
  cases e
  rw [hp] at hq
  cases hq
  have st : ∀ {F : Addr → Prop}, (∀ a, F a → a ≠ p) → ∀ a o, F a → H a = some o → upd H p (.lst (vs.eraseIdx m)) a = some o := fun h a o f q => by rw [upd_ne (h a f)]; exact q
  have hm : m < ds.length := (List.getElem?_eq_some_iff.mp hx).1
  refine ⟨fp, fun a => F' a ∧ ¬ Fs m a, Fs m, ⟨p, vs.eraseIdx m, fun i => Fs (if i < m then i else i + 1), rfl, upd_same, ⟨fp, fun z => (hs m p z).2 rfl⟩, by simp [List.length_eraseIdx, hl], fun i v d h1 h2 => ?_, fun i a z => ?_, fun i l a z1 z2 => ?_⟩, (hr m u x hu hx).step (Same.refl _) (st fun a f => (hs m a f).2), fun a z => z.1, fun a z => (hs m a z).1, fun a z => z.2⟩
  · rw [List.getElem?_eraseIdx] at h1 h2
    by_cases hi : i < m
    · rw [if_pos hi] at h1 h2
      simp only [if_pos hi]
      exact (hr i v d h1 h2).step (Same.refl _) (st fun a f => (hs i a f).2)
    · rw [if_neg hi] at h1 h2
      simp only [if_neg hi]
      exact (hr (i + 1) v d h1 h2).step (Same.refl _) (st fun a f => (hs (i + 1) a f).2)
  · refine ⟨⟨(hs _ a z).1, fun y => ?_⟩, (hs _ a z).2⟩
    have := hd _ _ a z y
    split at this <;> omega
  · have := hd _ _ a z1 z2
    split at this <;> split at this <;> omega
theorem inp_upd {p : Addr} {o : HO} {H0 : Hp} {F' Fx : Addr → Prop} (gh : Same G H) (fp : F' p) (gp : G p = none) (hx : ∀ a, Fx a → H0 a = none) : Inp F' H0 G H (fun a => F' a ∨ Fx a) G (upd H p o) :=
  ⟨Same.refl _, fun a u h => by rw [upd_ne (fun e => by rw [e, gp] at h; cases h)]; exact gh a u h, fun a u h n => by rw [upd_ne (fun e => n (by rw [e]; exact fp))]; exact h,
    fun a u h => by
      by_cases e : a = p
      · rw [e]; exact ⟨_, upd_same⟩
      · exact ⟨u, by rw [upd_ne e]; exact h⟩, fun a z => z.imp id (hx a), fun a u h => .inl h⟩
theorem dom_upd {p : Addr} {o : HO} {F : Addr → Prop} (h : ∀ a, F a → (∃ o, H a = some o) ∧ G a = none) : ∀ a, F a → (∃ u, upd H p o a = some u) ∧ G a = none := fun a f => by
  obtain ⟨⟨u, hu⟩, g⟩ := h a f
  refine ⟨?_, g⟩
  by_cases e : a = p
  · rw [e]; exact ⟨_, upd_same⟩
  · exact ⟨u, by rw [upd_ne e]; exact hu⟩
/-! ### P[i] = e -/
def stJ (ρ : Env) (q : Nat × Pth) (ds : List D) (v : D) : Option Nat → RS
  | some m => .ok .nx (putSl ρ q (.lst (ds.set m v)) ρ[q.1]?)
  | none => .bad
@[simp] theorem stJ_some (ρ : Env) (q : Nat × Pth) (ds : List D) (v : D) (m : Nat) : stJ ρ q ds v (some m) = .ok .nx (putSl ρ q (.lst (ds.set m v)) ρ[q.1]?) := rfl
def stP (k : Nat) (ρ : Env) (q : Nat × Pth) (v : D) : Option (Nat × D) → D → RS
  | some (l, .lst ds), .int j => if l = k + 1 then stJ ρ q ds v (ixN ds.length j) else .bad
  | _, _ => .bad
@[simp] theorem stP_eq (k : Nat) (ρ : Env) (q : Nat × Pth) (v : D) (l : Nat) (ds : List D) (j : Int) : stP k ρ q v (some (l, .lst ds)) (.int j) = if l = k + 1 then stJ ρ q ds v (ixN ds.length j) else .bad := rfl
def sStP (k : Nat) (P : PaF) (i f : EF) : SF := fun ρ => toS (eFit k f ρ) ρ fun x => toS (P ρ) ρ fun q => toS (i ρ) ρ fun y => stP k ρ q x.d (ownP q.2 ρ[q.1]?) y.d
@[simp] theorem sStP_eq (k : Nat) (P : PaF) (i f : EF) (ρ : Env) : sStP k P i f ρ = toS (eFit k f ρ) ρ fun x => toS (P ρ) ρ fun q => toS (i ρ) ρ fun y => stP k ρ q x.d (ownP q.2 ρ[q.1]?) y.d := rfl
end
section
variable {X : Cx} {cl : Clx} {W : WX} {pos : Pos}
theorem es_stP (k : Nat) {o i e : Expr} {P : PaF} {a f : EF} {pS : Pos} (hf : EvE X cl W e f) (ho : EvP X cl W o P) (hi : EvE X cl W i a) (hs : swapsWithSole [.Subscript o i pS] e pos.line X.env = pure false := by rfl) (hw : swappedStores [.Subscript o i pS] e X.env = pure none := by rfl)
    (h1 : (assignEach [.Subscript o i pS] X.env).map (·.2) = [assign (.Subscript o i pS) X.env] := by rfl)
    (ha : ∀ v, assign (.Subscript o i pS) X.env v = (do
      let ov ← holding [v] (eval o X.env)
      let iv ← holding [v, ov] (eval i X.env)
      standAt pS
      holding [v, ov, iv] (setItem ov iv v)
      release [v, ov, iv] []) := by intro _; rfl) : EvS X cl W (.Assign [.Subscript o i pS] e pos) (sStP k P a f) := by
  obtain ⟨t, pt, st⟩ := hf
  obtain ⟨tp, pp, sp⟩ := ho
  obtain ⟨ti, pi, si⟩ := hi
  refine ⟨_, ps_asg pt (pg_sub pp pi set_list ha) hs hw h1, fun ρ σ G H Fs env D hq => ?_⟩
  have hq0 := hq
  rw [sStP_eq] at hq
  refine (semFit k st).useS env hq fun x v G1 H1 F1 e1 p1 env1 o1 f1 hq1 => ?_
  obtain ⟨xb, xk⟩ := eFit_is e1
  refine sp.useS env1 (PostS.mono p1.sx hq1) fun q w G2 H2 e2 p2 env2 pa hq2 => ?_
  refine si.useS env2 hq2 fun y u G3 H3 F3 e3 p3 env3 o3 f3 hq3 => ?_
  rw [sStP_eq, e1, toS_ok, e2, toS_ok, e3, toS_ok] at hq0
  have px := (p1.trans p2).trans p3
  have pa3 : ∃ u, σ[q.1]? = some (some u) ∧ PathOf H3 q.2 u w := let ⟨u, hu, pu⟩ := pa; ⟨u, hu, pu.mono p3.hh⟩
  have ox := (o1.px p2).px p3
  have fx := (f1.px p2).px p3
  rw [xk] at ox
  rw [xb] at fx
  cases eo : ownP q.2 ρ[q.1]? with
  | none => rw [eo] at hq0; exact hq0.elim
  | some kc =>
    obtain ⟨l, c⟩ := kc
    rw [eo] at hq0
    obtain ⟨yb, yk, yd⟩ := y
    cases c with
    | lst ds =>
      cases yd with
      | int j =>
        rw [stP_eq] at hq0
        by_cases hl : l = k + 1
        · rw [if_pos hl] at hq0
          subst hl
          obtain ⟨n, d, F', h0, o, sb, _, put⟩ := env.atP px eo pa3
          cases ej : ixN ds.length j with
          | none => rw [ej] at hq0; exact hq0.elim
          | some m =>
            rw [ej, stJ_some] at hq0
            have o' := o
            obtain ⟨p, vs, Fs', rfl, hp, fp, hn, _⟩ := o'
            have dj : ∀ a, F1 a → ¬ F' a := fun a f z => foo_un env fx a f ⟨_, sb a z⟩
            obtain ⟨_, _, on⟩ := own_setL (j := m) o hp ox dj
            obtain ⟨env4, s4⟩ := put _ G3 _ _ on (dom_upd fun a z => by
              rcases z with z | z
              · exact env3.dom _ a (sb a z)
              · exact ⟨(fx a z).1, (fx a z).2.1⟩) (inp_upd env3.gh fp (env3.dom _ p (sb p fp)).2 fun a z => (fx a z).2.2 rfl)
            exact ⟨p, vs, j, m, rfl, o3.int, hp, by rw [hn]; exact ej, hq0 σ G3 _ _ env4 s4⟩
        · rw [if_neg hl] at hq0; exact hq0.elim
      | _ => exact hq0.elim
    | _ => cases yd <;> exact hq0.elim
/-! ### P[i] += e, of ints -/
def agA (ρ : Env) (q : Nat × Pth) (ds : List D) (m : Nat) : Option D → (D → RS) → RS
  | some (.int a), g => g (.int a)
  | _, _ => .bad
def agV (ρ : Env) (q : Nat × Pth) (ds : List D) (m : Nat) : D → D → RS
  | .int a, .int b => .ok .nx (putSl ρ q (.lst (ds.set m (.int (a + b)))) ρ[q.1]?)
  | _, _ => .bad
def agJ (ρ : Env) (q : Nat × Pth) (ds : List D) (f : EF) : Option Nat → RS
  | some m => agA ρ q ds m ds[m]? fun a => toS (eS f ρ) ρ fun z => agV ρ q ds m a z.d
  | none => .bad
def agP (ρ : Env) (q : Nat × Pth) (f : EF) : Option (Nat × D) → D → RS
  | some (_, .lst ds), .int j => agJ ρ q ds f (ixN ds.length j)
  | _, _ => .bad
@[simp] theorem agA_int (ρ : Env) (q : Nat × Pth) (ds : List D) (m : Nat) (a : Int) (g : D → RS) : agA ρ q ds m (some (.int a)) g = g (.int a) := rfl
@[simp] theorem agV_int (ρ : Env) (q : Nat × Pth) (ds : List D) (m : Nat) (a b : Int) : agV ρ q ds m (.int a) (.int b) = .ok .nx (putSl ρ q (.lst (ds.set m (.int (a + b)))) ρ[q.1]?) := rfl
@[simp] theorem agJ_some (ρ : Env) (q : Nat × Pth) (ds : List D) (f : EF) (m : Nat) : agJ ρ q ds f (some m) = agA ρ q ds m ds[m]? fun a => toS (eS f ρ) ρ fun z => agV ρ q ds m a z.d := rfl
@[simp] theorem agP_eq (ρ : Env) (q : Nat × Pth) (f : EF) (l : Nat) (ds : List D) (j : Int) : agP ρ q f (some (l, .lst ds)) (.int j) = agJ ρ q ds f (ixN ds.length j) := rfl
def sAgP (P : PaF) (i f : EF) : SF := fun ρ => toS (P ρ) ρ fun q => toS (i ρ) ρ fun y => agP ρ q f (ownP q.2 ρ[q.1]?) y.d
@[simp] theorem sAgP_eq (P : PaF) (i f : EF) (ρ : Env) : sAgP P i f ρ = toS (P ρ) ρ fun q => toS (i ρ) ρ fun y => agP ρ q f (ownP q.2 ρ[q.1]?) y.d := rfl
end
end B
namespace B
open PySem L2
section
variable {K : PySem.W.Frag} {cl : Clx} {W : WX} {ρ : Env} {σ : L2.St} {G H G' H' : Hp} {Fs Fs' : Foot} {c0 : Str → Addr}
/-! ### P.f = e -/
def sfP (k : Nat) (os : List Str) (f : Str) (ρ : Env) (q : Nat × Pth) (v : D) : Option (Nat × D) → RS
  | some (l, .obj C fs) => if l = k + 1 ∧ cMem os C = true ∧ fs.length < 1000 then .ok .nx (putSl ρ q (.obj C (putD f v fs)) ρ[q.1]?) else .bad
  | _ => .bad
@[simp] theorem sfP_eq (k : Nat) (os : List Str) (f : Str) (ρ : Env) (q : Nat × Pth) (v : D) (l : Nat) (C : Str) (fs : List (Str × D)) : sfP k os f ρ q v (some (l, .obj C fs)) = if l = k + 1 ∧ cMem os C = true ∧ fs.length < 1000 then .ok .nx (putSl ρ q (.obj C (putD f v fs)) ρ[q.1]?) else .bad := rfl
def sFdP (k : Nat) (os : List Str) (f : Str) (P : PaF) (a : EF) : SF := fun ρ => toS (eFit k a ρ) ρ fun x => toS (P ρ) ρ fun q => sfP k os f ρ q x.d (ownP q.2 ρ[q.1]?)
@[simp] theorem sFdP_eq (k : Nat) (os : List Str) (f : Str) (P : PaF) (a : EF) (ρ : Env) : sFdP k os f P a ρ = toS (eFit k a ρ) ρ fun x => toS (P ρ) ρ fun q => sfP k os f ρ q x.d (ownP q.2 ρ[q.1]?) := rfl
/-! ### P.f += e, of ints -/
def sgV (f : Str) (C : Str) (fs : List (Str × D)) (ρ : Env) (q : Nat × Pth) : D → D → RS
  | .int a, .int b => .ok .nx (putSl ρ q (.obj C (putD f (.int (a + b)) fs)) ρ[q.1]?)
  | _, _ => .bad
@[simp] theorem sgV_int (f : Str) (C : Str) (fs : List (Str × D)) (ρ : Env) (q : Nat × Pth) (a b : Int) : sgV f C fs ρ q (.int a) (.int b) = .ok .nx (putSl ρ q (.obj C (putD f (.int (a + b)) fs)) ρ[q.1]?) := rfl
def sgO (f : Str) (C : Str) (fs : List (Str × D)) (ρ : Env) (q : Nat × Pth) (e : EF) : Option D → RS
  | some (.int a) => toS (eS e ρ) ρ fun z => sgV f C fs ρ q (.int a) z.d
  | _ => .bad
@[simp] theorem sgO_int (f : Str) (C : Str) (fs : List (Str × D)) (ρ : Env) (q : Nat × Pth) (e : EF) (a : Int) : sgO f C fs ρ q e (some (.int a)) = toS (eS e ρ) ρ fun z => sgV f C fs ρ q (.int a) z.d := rfl
def sgP (os : List Str) (f : Str) (ρ : Env) (q : Nat × Pth) (e : EF) : Option (Nat × D) → RS
  | some (_, .obj C fs) => if cMem os C = true ∧ fs.length < 999 then sgO f C fs ρ q e (getF f fs) else .bad
  | _ => .bad
@[simp] theorem sgP_eq (os : List Str) (f : Str) (ρ : Env) (q : Nat × Pth) (e : EF) (l : Nat) (C : Str) (fs : List (Str × D)) : sgP os f ρ q e (some (l, .obj C fs)) = if cMem os C = true ∧ fs.length < 999 then sgO f C fs ρ q e (getF f fs) else .bad := rfl
def sFgP (os : List Str) (f : Str) (P : PaF) (e : EF) : SF := fun ρ => toS (P ρ) ρ fun q => sgP os f ρ q e (ownP q.2 ρ[q.1]?)
@[simp] theorem sFgP_eq (os : List Str) (f : Str) (P : PaF) (e : EF) (ρ : Env) : sFgP os f P e ρ = toS (P ρ) ρ fun q => sgP os f ρ q e (ownP q.2 ρ[q.1]?) := rfl
/-! ### P.append(e) and its like -/
def mtP (ρ : Env) (q : Nat × Pth) : Option (List D) → RS
  | some es => .ok .nx (putSl ρ q (.lst es) ρ[q.1]?)
  | none => .bad
@[simp] theorem mtP_some (ρ : Env) (q : Nat × Pth) (es : List D) : mtP ρ q (some es) = .ok .nx (putSl ρ q (.lst es) ρ[q.1]?) := rfl
def atL1 : Option (Nat × D) → (List D → RS) → RS
  | some (1, .lst ds), g => g ds
  | _, _ => .bad
@[simp] theorem atL1_eq (ds : List D) (g : List D → RS) : atL1 (some (1, .lst ds)) g = g ds := rfl
theorem atL1_of {o : Option (Nat × D)} {g : List D → RS} (h : atL1 o g ≠ .bad) : ∃ ds, o = some (1, .lst ds) := by
  unfold atL1 at h
  split at h
  · exact ⟨_, rfl⟩
  · exact (h rfl).elim
def sMtP (g : List D → D → Option (List D)) (P : PaF) (f : EF) : SF := fun ρ => toS (P ρ) ρ fun q => atL1 (ownP q.2 ρ[q.1]?) fun ds => toS (eS f ρ) ρ fun y => mtP ρ q (g ds y.d)
@[simp] theorem sMtP_eq (g : List D → D → Option (List D)) (P : PaF) (f : EF) (ρ : Env) : sMtP g P f ρ = toS (P ρ) ρ fun q => atL1 (ownP q.2 ρ[q.1]?) fun ds => toS (eS f ρ) ρ fun y => mtP ρ q (g ds y.d) := rfl
def sMt0P (g : List D → Option (List D)) (P : PaF) : SF := fun ρ => toS (P ρ) ρ fun q => atL1 (ownP q.2 ρ[q.1]?) fun ds => mtP ρ q (g ds)
@[simp] theorem sMt0P_eq (g : List D → Option (List D)) (P : PaF) (ρ : Env) : sMt0P g P ρ = toS (P ρ) ρ fun q => atL1 (ownP q.2 ρ[q.1]?) fun ds => mtP ρ q (g ds) := rfl
theorem Own.repL {p : Addr} {vs : List V} {ds : List D} {F : Addr → Prop} (o : Own K c0 H G 1 (.ref p) (.lst ds) F) (hp : H p = some (.lst vs)) : RepL K c0 G vs ds := by
  obtain ⟨q, vs', Fs, e, hq, fp, hl, hr, hs, hd⟩ := o
  cases e
  rw [hp] at hq
  cases hq
  exact ⟨hl, hr⟩
theorem own1' {p : Addr} {vs : List V} {ds : List D} {F : Addr → Prop} (hp : H p = some (.lst vs)) (r : RepL K c0 G vs ds) (fp : F p) : Own K c0 H G 1 (.ref p) (.lst ds) F :=
  ⟨p, vs, fun _ _ => False, rfl, hp, fp, r.1, fun i v d h1 h2 => r.2 i v d h1 h2, fun _ _ z => z.elim, fun _ _ _ z => z.elim⟩
/-- the owned list at a path takes other items (all frozen) -/
theorem EnvR.putL1 {G0 H0 : Hp} (env0 : EnvR K cl ρ σ G0 H0 Fs) (p0 : Px G0 H0 G H) {q : Nat × Pth} {ds : List D} {w : V} (h : ownP q.2 ρ[q.1]? = some (1, .lst ds)) (hw : ∃ u, σ[q.1]? = some (some u) ∧ PathOf H q.2 u w) :
    ∃ p vs, w = .ref p ∧ H p = some (.lst vs) ∧ RepL K cl.c G vs ds ∧ ∀ us es, RepL K cl.c G us es → ∃ Fs2, EnvR K cl (putSl ρ q (.lst es) ρ[q.1]?) σ G (upd H p (.lst us)) Fs2 ∧ Sx (Un Fs) G0 H0 (Un Fs2) G (upd H p (.lst us)) := by
  have env := env0.px p0
  obtain ⟨n, d, F', h0, o, sb, _, put⟩ := env0.atP p0 h hw
  have o' := o
  obtain ⟨p, vs, Fs', rfl, hp, fp, hn, _⟩ := o'
  refine ⟨p, vs, rfl, hp, o.repL hp, fun us es r => ?_⟩
  exact ⟨_, put _ G (.lst es) (fun a => F' a ∨ False) (own1' upd_same r (.inl fp)) (dom_upd fun a z => z.elim (fun z => env.dom _ a (sb a z)) False.elim) (inp_upd env.gh fp (env.dom _ p (sb p fp)).2 fun a z => z.elim)⟩
end
section
variable {X : Cx} {cl : Clx} {W : WX} {pos : Pos}
theorem es_mtP {c o e : Expr} {P : PaF} {f : EF} {r : V → List V → Hp → VK → Prop} {g : List D → D → Option (List D)} (hr : MtL X.K cl r g) (hpe : ∀ t u, PE X o t → PE X e u → PE X c (tBM X.K "list" r t (tCons u tNil))) (ho : EvP X cl W o P) (h : EvE X cl W e f)
    (hs : swapsWith c none pos.line X.env = pure false := by rfl) : EvS X cl W (.Expr c pos) (sMtP g P f) := by
  obtain ⟨t, pt, st⟩ := h
  obtain ⟨tp, pp, sp⟩ := ho
  refine ⟨_, ps_expr (hpe tp t pp pt) hs, fun ρ σ G H Fs env D hq => ?_⟩
  have hq0 := hq
  rw [sMtP_eq] at hq
  refine sp.useS env hq fun q w G2 H2 e2 p2 env2 pa hq2 => ?_
  rw [sMtP_eq, e2, toS_ok] at hq0
  obtain ⟨ds, eo⟩ := atL1_of (fun z => by rw [z] at hq0; exact hq0)
  rw [eo, atL1_eq] at hq0 hq2
  obtain ⟨p, vs, rfl, hp, _⟩ := env.putL1 p2 eo pa
  refine ⟨.inl ⟨rfl, vs, .inl (.inl hp)⟩, ?_⟩
  refine (semS st).useS env2 hq2 fun z v4 G4 H4 F4 e4 p4 env4 o4 f4 hq4 => ?_
  rw [e4, toS_ok] at hq0
  have r4 := frz_rep e4 o4
  obtain ⟨p', vs', e, hp', rl, up⟩ := env.putL1 (p2.trans p4) eo (let ⟨u, hu, pu⟩ := pa; ⟨u, hu, pu.mono p4.hh⟩)
  cases e
  cases eg : g ds z.d with
  | none => rw [eg] at hq0; exact hq0.elim
  | some es =>
    rw [eg, mtP_some] at hq0
    refine hr p vs' ds es v4 z.d G4 H4 _ env4.gh hp' rl r4 eg fun us ru => ?_
    obtain ⟨Fs2, env5, s5⟩ := up us es ru
    exact hq0 σ G4 _ _ env5 s5
theorem es_mt0P {c o : Expr} {P : PaF} {r : V → List V → Hp → VK → Prop} {g : List D → Option (List D)} (hr : MtL0 X.K cl r g) (hpe : ∀ t, PE X o t → PE X c (tBM0 X.K "list" r t)) (ho : EvP X cl W o P)
    (hs : swapsWith c none pos.line X.env = pure false := by rfl) : EvS X cl W (.Expr c pos) (sMt0P g P) := by
  obtain ⟨tp, pp, sp⟩ := ho
  refine ⟨_, ps_expr (hpe tp pp) hs, fun ρ σ G H Fs env D hq => ?_⟩
  have hq0 := hq
  rw [sMt0P_eq] at hq
  refine sp.useS env hq fun q w G2 H2 e2 p2 env2 pa hq2 => ?_
  rw [sMt0P_eq, e2, toS_ok] at hq0
  obtain ⟨ds, eo⟩ := atL1_of (fun z => by rw [z] at hq0; exact hq0)
  rw [eo, atL1_eq] at hq0
  obtain ⟨p, vs, rfl, hp, rl, up⟩ := env.putL1 p2 eo pa
  refine ⟨.inl ⟨rfl, vs, .inl (.inl hp)⟩, ?_⟩
  cases eg : g ds with
  | none => rw [eg] at hq0; exact hq0.elim
  | some es =>
    rw [eg, mtP_some] at hq0
    refine hr p vs ds es G2 H2 _ env2.gh hp rl eg fun us ru => ?_
    obtain ⟨Fs2, env5, s5⟩ := up us es ru
    exact hq0 σ G2 _ _ env5 s5
/-! ### P.append(e), the item with floors of its own -/
def apP (k : Nat) (ρ : Env) (q : Nat × Pth) (v : D) : Option (Nat × D) → RS
  | some (l, .lst ds) => if l = k + 1 ∧ ds.length < 10000 then .ok .nx (putSl ρ q (.lst (ds ++ [v])) ρ[q.1]?) else .bad
  | _ => .bad
@[simp] theorem apP_eq (k : Nat) (ρ : Env) (q : Nat × Pth) (v : D) (l : Nat) (ds : List D) : apP k ρ q v (some (l, .lst ds)) = if l = k + 1 ∧ ds.length < 10000 then .ok .nx (putSl ρ q (.lst (ds ++ [v])) ρ[q.1]?) else .bad := rfl
def isL : Option (Nat × D) → RS → RS
  | some (_, .lst _), r => r
  | _, _ => .bad
@[simp] theorem isL_eq (l : Nat) (ds : List D) (r : RS) : isL (some (l, .lst ds)) r = r := rfl
def sApP (k : Nat) (P : PaF) (f : EF) : SF := fun ρ => toS (P ρ) ρ fun q => isL (ownP q.2 ρ[q.1]?) (toS (eFit k f ρ) ρ fun y => apP k ρ q y.d (ownP q.2 ρ[q.1]?))
@[simp] theorem sApP_eq (k : Nat) (P : PaF) (f : EF) (ρ : Env) : sApP k P f ρ = toS (P ρ) ρ fun q => isL (ownP q.2 ρ[q.1]?) (toS (eFit k f ρ) ρ fun y => apP k ρ q y.d (ownP q.2 ρ[q.1]?)) := rfl
end
end B
namespace B
open PySem L2
/-! ### list comprehensions over what is owned, with items that stay owned -/
def YieldsH (K : PySem.W.Frag) (cl : Str → Addr) (G0 H0 : Hp) (J : It) (ds : List D) : Prop := ∀ (G H : Hp) (i : Nat), Same G0 G → Same H0 H → Same G H →
  (∀ d, ds[i]? = some d → J.go i H ∧ ∀ v H', J.yld i H v H' → ∃ G', Px G H G' H' ∧ Rep K cl G' v d) ∧ (ds[i]? = none → J.stop i H)
def PYH (K : PySem.W.Frag) (cl : Str → Addr) (Q : It → Hp → Prop) (ds : List D) (G H : Hp) : Prop := ∀ J G' H', Px G H G' H' → YieldsH K cl G' H' J ds → Q J H'
def SemIH (K : PySem.W.Frag) (cl : Clx) (W : WX) (t : TI) (F : IF) : Prop := ∀ ρ σ G H Fs, EnvR K cl ρ σ G H Fs → ∀ Q, PostG cl W σ G H (PYH K cl Q) (F ρ) → t σ H Q
def EvIH (X : Cx) (cl : Clx) (W : WX) (tg e : Expr) (F : IF) : Prop := ∃ t, PI X tg e t ∧ SemIH X.K cl W t F
theorem PYH.mono {K : PySem.W.Frag} {cl : Str → Addr} {Q : It → Hp → Prop} : Mono (PYH K cl Q) := fun x G H G' H' p h J G2 H2 p2 y => h J G2 H2 (p.trans p2) y
theorem EvI.h {X : Cx} {cl : Clx} {W : WX} {tg e : Expr} {F : IF} (h : EvI X cl W tg e F) : EvIH X cl W tg e F := by
  obtain ⟨t, p, s⟩ := h
  refine ⟨t, p, fun ρ σ G H Fs env Q hq => s ρ σ G H Fs env Q ?_⟩
  cases e : F ρ with
  | ok ds =>
    rw [e] at hq
    exact fun J G' H' px y => hq J G' H' px fun G2 H2 i g h gh => y G2 H2 i g gh
  | ex c => rw [e] at hq; exact hq
  | bad => rw [e] at hq; exact hq
/-- a list of floors up to one, borrowed or not -/
def asL1 (x : Vl) : R (List D) := match x.d with
  | .lst ds => if x.k ≤ 1 then .ok ds else .bad
  | _ => .bad
@[simp] theorem asL1_0 (b : Bool) (ds : List D) : asL1 ⟨b, 0, .lst ds⟩ = .ok ds := rfl
@[simp] theorem asL1_1 (b : Bool) (ds : List D) : asL1 ⟨b, 1, .lst ds⟩ = .ok ds := rfl
def iO (f : EF) : IF := fun ρ => (f ρ).bind asL1
@[simp] theorem iO_eq (f : EF) (ρ : Env) : iO f ρ = (f ρ).bind asL1 := rfl
section
variable {K : PySem.W.Frag} {cl : Clx} {W : WX} {ρ : Env} {σ : L2.St} {G H G' H' : Hp} {Fs Fs' : Foot} {c0 : Str → Addr}
theorem SemIH.useE {t : TI} {F : IF} (h : SemIH K cl W t F) (env : EnvR K cl ρ σ G H Fs) {α : Type} {g : List D → R α} {P : α → Hp → Hp → Prop} (hm : Mono P) (hq : PostG cl W σ G H P ((F ρ).bind g)) {C : It → Hp → Prop}
    (step : ∀ x J G' H', F ρ = .ok x → Px G H G' H' → EnvR K cl ρ σ G' H' Fs → YieldsH K cl G' H' J x → PostG cl W σ G' H' P (g x) → C J H') : t σ H C := by
  refine h ρ σ G H Fs env C ?_
  cases e : F ρ with
  | ok x =>
    rw [e] at hq
    exact fun J G' H' p y => step x J G' H' e p (env.px p) y (PostG.mono hm p hq)
  | ex c =>
    rw [e] at hq
    exact hq
  | bad =>
    rw [e] at hq
    exact hq
def lcItK (k : Nat) (g : GF) (t : TF) (e : EF) (ρ : Env) : List D → R (List D)
  | [] => .ok []
  | d :: ds => match g d ρ with
    | none => .bad
    | some ρ1 => (t ρ1).bind fun b => if b then (eFit k e ρ1).bind fun y => (lcItK k g t e ρ ds).bind fun r => .ok (y.d :: r) else lcItK k g t e ρ ds
@[simp] theorem lcItK_nil (k : Nat) (g : GF) (t : TF) (e : EF) (ρ : Env) : lcItK k g t e ρ [] = .ok [] := rfl
theorem lcItK_cons (k : Nat) (g : GF) (t : TF) (e : EF) (ρ : Env) (d : D) (ds : List D) : lcItK k g t e ρ (d :: ds) = match g d ρ with
    | none => .bad
    | some ρ1 => (t ρ1).bind fun b => if b then (eFit k e ρ1).bind fun y => (lcItK k g t e ρ ds).bind fun r => .ok (y.d :: r) else lcItK k g t e ρ ds := rfl
def lcEndK (k n : Nat) : R (List D) → R Vl
  | .ok es => if n ≤ 10000 then .ok ⟨false, k + 1, .lst es⟩ else .bad
  | _ => .bad
theorem lcEndK_ok {k n : Nat} (h : n ≤ 10000) (es : List D) : lcEndK k n (.ok es) = .ok ⟨false, k + 1, .lst es⟩ := if_pos h
def eLcK (k : Nat) (w : IF) (g : GF) (t : TF) (e : EF) (us : List Nat) : EF := fun ρ => (w ρ).bind fun ds => lcEndK k ds.length (lcItK k g t e (wipeE ρ us) ds)
@[simp] theorem eLcK_eq (k : Nat) (w : IF) (g : GF) (t : TF) (e : EF) (us : List Nat) (ρ : Env) : eLcK k w g t e us ρ = (w ρ).bind fun ds => lcEndK k ds.length (lcItK k g t e (wipeE ρ us) ds) := rfl
theorem EnvR.upd_out (env : EnvR K cl ρ σ G H Fs) {D : Addr} {o : HO} (gD : G D = none) (nD : ∀ i a, Fs i a → a ≠ D) : EnvR K cl ρ σ G (upd H D o) Fs := by
  refine ⟨env.len, fun a u ha => ?_, fun i k d hk => ?_, env.dis, fun i a fa => ?_, env.fx⟩
  · have hne : a ≠ D := fun z => by rw [z, gD] at ha; cases ha
    rw [upd_ne hne]
    exact env.gh a u ha
  · obtain ⟨w', hw', o'⟩ := env.own i k d hk
    exact ⟨w', hw', o'.step (Same.refl _) fun a ob fa ha => by rw [upd_ne (nD i a fa)]; exact ha⟩
  · obtain ⟨⟨u, hu⟩, g'⟩ := env.dom i a fa
    exact ⟨⟨u, by rw [upd_ne (nD i a fa)]; exact hu⟩, g'⟩
theorem wipe_idem : ∀ (us2 : List Nat) (σ : L2.St), L2.wipe (L2.wipe σ us2) us2 = L2.wipe σ us2
  | [], σ => rfl
  | u :: us2, σ => by
    show (L2.wipe ((L2.wipe σ us2).set u none) us2).set u none = (L2.wipe σ us2).set u none
    rw [wipe_set, wipe_idem us2]
    split
    · rfl
    · rw [List.set_set]
theorem semLcK {k : Nat} {wi : TI} {tg : TG} {tt : TT} {te : TE} {w : IF} {g : GF} {t : TF} {e : EF} {us T : List Nat} (h : SemIH K cl W wi w) (hg : SemG K cl tg g T) (hT : ∀ j ∈ T, j ∈ us) (ht : SemT K cl W0 tt t) (he : SemE K cl W0 te e) (hx : ∀ u ∈ us, cl.fix u = none) :
    SemE K cl W (tLc wi tg tt te us) (eLcK k w g t e us) := by
  intro ρ σ G H Fs env Q hq
  refine h.useE env PV.mono hq fun ds J G1 H1 _ p1 env1 y hq1 => ?_
  intro D hD
  have fr1 : ∀ i a, Fs i a → ∃ o, H1 a = some o := fun i a f => (env1.dom i a f).1
  cases el : lcItK k g t e (wipeE ρ us) ds with
  | bad => rw [el] at hq1; exact hq1.elim
  | ex c => rw [el] at hq1; exact hq1.elim
  | ok es =>
    rw [el] at hq1
    by_cases hlen : ds.length ≤ 10000
    · rw [lcEndK_ok hlen] at hq1
      refine ⟨fun i m H => m = ds.length - i ∧ i ≤ ds.length ∧ ∃ G acc dn rest FA, Px G1 H1 G H ∧ H D = some (.lst acc) ∧ Own K cl.c H G (k + 1) (.ref D) (.lst dn) FA ∧ (∀ a, FA a → H1 a = none ∧ (∃ o, H a = some o) ∧ G a = none) ∧ dn.length ≤ i ∧ EnvR K cl (wipeE ρ us) (L2.wipe σ us) G H Fs ∧ lcItK k g t e (wipeE ρ us) (ds.drop i) = .ok rest ∧ dn ++ rest = es,
        ⟨ds.length, rfl, Nat.zero_le _, G1, [], [], es, fun a => a = D, px_new env1.gh hD, upd_same, ⟨D, [], fun _ _ => False, rfl, upd_same, rfl, rfl, fun i v d h => by simp at h, fun _ _ z => z.elim, fun _ _ _ z => z.elim⟩, fun a ea => by subst ea; exact ⟨hD, ⟨_, upd_same⟩, env1.gh.free hD⟩, Nat.zero_le _, (env1.px (px_new env1.gh hD)).wipe us hx, el, rfl⟩, ?_⟩
      rintro i m H ⟨rfl, hi, G, acc, dn, rest, FA, px, hDa, oA, fA, hdn, envw, hl, hes⟩
      have fD : FA D := by
        obtain ⟨q, _, _, e, _, fp, _⟩ := oA
        cases e
        exact fp
      have gD : G D = none := (fA D fD).2.2
      obtain ⟨y1, y2⟩ := y G H i px.gg px.hh envw.gh
      cases ed : ds[i]? with
      | none =>
        refine .inl ⟨y2 ed, ?_⟩
        have hd : ds.drop i = [] := List.drop_eq_nil_of_le (List.getElem?_eq_none_iff.mp ed)
        rw [hd] at hl
        cases hl
        rw [List.append_nil] at hes
        subst hes
        exact hq1 _ G H FA px oA fun a ea => ⟨(fA a ea).2.1, (fA a ea).2.2, fun _ => (fA a ea).1⟩
      | some d =>
        have hlt : i < ds.length := (List.getElem?_eq_some_iff.mp ed).1
        have hd : ds.drop i = d :: ds.drop (i + 1) := by
          rw [List.drop_eq_getElem_cons hlt]
          congr 1
          exact (List.getElem?_eq_some_iff.mp ed).2
        rw [hd, lcItK_cons] at hl
        obtain ⟨go, yl⟩ := y1 d ed
        refine .inr ⟨go, fun H' => i + 1 ≤ ds.length ∧ ∃ G acc dn rest FA, Px G1 H1 G H' ∧ H' D = some (.lst acc) ∧ Own K cl.c H' G (k + 1) (.ref D) (.lst dn) FA ∧ (∀ a, FA a → H1 a = none ∧ (∃ o, H' a = some o) ∧ G a = none) ∧ dn.length ≤ i + 1 ∧ EnvR K cl (wipeE ρ us) (L2.wipe σ us) G H' Fs ∧ lcItK k g t e (wipeE ρ us) (ds.drop (i + 1)) = .ok rest ∧ dn ++ rest = es, fun H' n => ⟨ds.length - (i + 1), by omega, rfl, n⟩, fun v H' hy => ?_⟩
        obtain ⟨G2, p2, r2⟩ := yl v H' hy
        have env2 := envw.px p2
        refine hg _ _ G2 H' Fs v d env2 r2 _ ?_
        cases eg : g d (wipeE ρ us) with
        | none => rw [eg] at hl; cases hl
        | some ρ1 =>
          rw [eg] at hl
          intro σ2 F2 env3 hsub hw
          refine ⟨?_, ?_⟩
          · have h1 := hw us hT
            rw [h1]
            exact wipe_idem us σ
          · dsimp only at hl
            refine ht ρ1 σ2 G2 H' F2 env3 _ ?_
            cases et : t ρ1 with
            | bad => rw [et] at hl; cases hl
            | ex c => rw [et] at hl; cases hl
            | ok b =>
              rw [et] at hl
              intro G3 H3 p3
              have env4 := env3.px p3
              have p23 := p2.trans p3
              have px3 := px.trans p23
              have hD3 : H3 D = some (.lst acc) := p23.hh _ _ hDa
              have oA3 := oA.px p23
              have fA3 : ∀ a, FA a → H1 a = none ∧ (∃ o, H3 a = some o) ∧ G3 a = none := fun a fa => by
                obtain ⟨h1, ⟨o, ho⟩, hg⟩ := fA a fa
                exact ⟨h1, ⟨o, p23.hh _ _ ho⟩, none_of_px p23 hg ho⟩
              cases b with
              | false =>
                exact iteF ⟨hlt, G3, acc, dn, rest, FA, px3, hD3, oA3, fA3, Nat.le_succ_of_le hdn, envw.px p23, hl, hes⟩
              | true =>
                refine iteT ?_
                have hl : (eFit k e ρ1).bind (fun y => (lcItK k g t e (wipeE ρ us) (ds.drop (i + 1))).bind fun r => .ok (y.d :: r)) = .ok rest := hl
                refine semFit k he ρ1 σ2 G3 H3 F2 env4 _ ?_
                cases ee : eFit k e ρ1 with
                | bad => rw [ee] at hl; cases hl
                | ex c => rw [ee] at hl; cases hl
                | ok x =>
                  rw [ee, R.bind_ok] at hl
                  obtain ⟨xb, xk⟩ := eFit_is ee
                  intro u G4 H4 F4 p4 o4 f4
                  rw [xk] at o4
                  rw [xb] at f4
                  cases er : lcItK k g t e (wipeE ρ us) (ds.drop (i + 1)) with
                  | bad => rw [er] at hl; cases hl
                  | ex c => rw [er] at hl; cases hl
                  | ok rest' =>
                    rw [er, R.bind_ok] at hl
                    cases hl
                    have hD4 : H4 D = some (.lst acc) := p4.hh _ _ hD3
                    have px4 := px3.trans p4
                    have oA4 := oA3.px p4
                    have fA4 : ∀ a, FA a → H1 a = none ∧ (∃ o, H4 a = some o) ∧ G4 a = none := fun a fa => by
                      obtain ⟨h1, ⟨o, ho⟩, hg⟩ := fA3 a fa
                      exact ⟨h1, ⟨o, p4.hh _ _ ho⟩, none_of_px p4 hg ho⟩
                    have dj : ∀ a, F4 a → ¬ FA a := fun a fa z => by
                      obtain ⟨_, ⟨o, ho⟩, _⟩ := fA3 a z
                      rw [(f4 a fa).2.2 rfl] at ho
                      cases ho
                    obtain ⟨_, hlA, oN⟩ := own_appL oA4 hD4 o4 dj
                    have gD4 := (fA4 D fD).2.2
                    have nD : ∀ i a, Fs i a → a ≠ D := fun i a fa z => by
                      obtain ⟨o, ho⟩ := fr1 i a fa
                      rw [z, hD] at ho
                      cases ho
                    refine ⟨acc, hD4, lt_line2 (by rw [hlA]; omega), hlt, G4, acc ++ [u], dn ++ [x.d], rest', fun a => FA a ∨ F4 a, ?_, upd_same, oN, fun a z => ?_, by simp; omega, (((envw.px p2).px p3).px p4).upd_out gD4 nD, rfl, by simpa using hes⟩
                    · refine ⟨fun a o ha => ?_, px4.gg, fun a o ha => ?_, px4.gn⟩
                      · rw [upd_ne (ne_of_none ha hD)]
                        exact px4.hh a o ha
                      · have hne : a ≠ D := fun z => by rw [z, gD4] at ha; cases ha
                        rw [upd_ne hne]
                        exact px4.gh a o ha
                    · have e1 : (∃ o, H4 a = some o) ∧ G4 a = none ∧ H1 a = none := by
                        rcases z with z | z
                        · exact ⟨(fA4 a z).2.1, (fA4 a z).2.2, (fA4 a z).1⟩
                        · exact ⟨(f4 a z).1, (f4 a z).2.1, px3.hh.free ((f4 a z).2.2 rfl)⟩
                      refine ⟨e1.2.2, ?_, e1.2.1⟩
                      by_cases ea : a = D
                      · rw [ea]; exact ⟨_, upd_same⟩
                      · rw [upd_ne ea]; exact e1.1
    · have : lcEndK k ds.length (.ok es) = .bad := if_neg hlen
      rw [this] at hq1
      exact hq1.elim
end
section
variable {X : Cx} {cl : Clx} {W : WX} {pos : Pos} {tg : Expr}
theorem ev_lcK (k : Nat) {elt tg iter : Expr} {ifs : List Expr} {scope : Scope} {own : List (Str × Nat)} {w : IF} {g : GF} {T : List Nat} {t : TF} {e : EF} (hc : X.calm = true) (hN : X.N.Nodup) (hi : EvIH X cl W tg iter w) (ok : BlkOk X.N X.env.scope scope own)
    (hg : ∀ s H C c fp, EvG (X.blk s H scope (compEnvC scope c C X.env) fp) cl tg g T) (ht : ∀ s H C c fp, EvTs (X.blk s H scope (compEnvC scope c C X.env) fp) cl W0 ifs t) (he : ∀ s H C c fp, EvE (X.blk s H scope (compEnvC scope c C X.env) fp) cl W0 elt e)
    (hT : ∀ j ∈ T, j ∈ own.map (·.2) := by decide) (hs : ∀ x, foldedSetIterable iter X.env x = pure x := by intro _; rfl) (hfo : ∀ u ∈ own.map (·.2), cl.fix u = none := by intro u _; rfl) : EvE X cl W (.ListComp elt [⟨tg, iter, ifs, 0⟩] scope pos) (eLcK k w g t e (own.map (·.2))) := by
  obtain ⟨ti, pi, si⟩ := hi
  obtain ⟨tg', pg, sg⟩ := uniG hg
  obtain ⟨tt, pt, st⟩ := uniT ht
  obtain ⟨te, pe, se⟩ := uniE he
  exact ⟨_, pe_lc hc hN pi ok pg pt pe hs, semLcK si sg hT st se hfo⟩
/-- y = [..], by a change F of the value ahead of the store -/
theorem es_setLcF (i : Nat) {y : Str} {py spos : Pos} {elt tg iter : Expr} {ifs : List Expr} {scope : Scope} {own : List (Str × Nat)} {w : IF} {g : GF} {T : List Nat} {t : TF} {e : EF} {k : Nat} {F : EF → EF} (hF : ∀ {K : PySem.W.Frag} {t : TE} {f : EF}, SemE K cl W t f → SemE K cl W t (F f)) (hc : X.calm = true) (hN : X.N.Nodup) (hi : EvIH X cl W tg iter w) (ok : BlkOk X.N X.env.scope scope own)
    (hg : ∀ s H C c fp, EvG (X.blk s H scope (compEnvC scope c C X.env) fp) cl tg g T) (ht : ∀ s H C c fp, EvTs (X.blk s H scope (compEnvC scope c C X.env) fp) cl W0 ifs t) (he : ∀ s H C c fp, EvE (X.blk s H scope (compEnvC scope c C X.env) fp) cl W0 elt e)
    (hsw : swapsWith (.ListComp elt [⟨tg, iter, ifs, 0⟩] scope pos) (some (.Name y py)) spos.line X.env = pure true) (hy : X.N[i]? = some y := by rfl) (hyl : X.env.scope.names.lookup y = some .local := by rfl) (hfx : cl.fix i = none := by rfl)
    (hT : ∀ j ∈ T, j ∈ own.map (·.2) := by decide) (hs : ∀ x, foldedSetIterable iter X.env x = pure x := by intro _; rfl) (hfo : ∀ u ∈ own.map (·.2), cl.fix u = none := by intro u _; rfl) : EvS X cl W (.Assign [.Name y py] (.ListComp elt [⟨tg, iter, ifs, 0⟩] scope pos) spos) (sSet i (F (eLcK k w g t e (own.map (·.2))))) := by
  obtain ⟨ti, pi, si⟩ := hi
  obtain ⟨tg', pg, sg⟩ := uniG hg
  obtain ⟨tt, pt, st⟩ := uniT ht
  obtain ⟨te, pe, se⟩ := uniE he
  exact ⟨_, ps_setLc hc hN hy hyl hsw pi ok pg pt pe hs, semSet (hF (semLcK si sg hT st se hfo)) hfx⟩
/-! ### [a, b, ..] whose items stay owned -/
end
end B
namespace B
open PySem L2
/-! ### for v in xs: v changes (xs a list of one's own, with floors under it) -/
def Clx.fx (cl : Clx) (j : Nat) (v : V) : Clx := ⟨cl.c, fun n => if n = j then some v else cl.fix n⟩
def fmJ (k : Nat) (dn : List D) (j : Nat) (ρ : Env) (go : List D → Env → RS) : Option Slot → RS
  | some (some (k', d')) => if k' = k then go (dn ++ [d']) (ρ.set j none) else .bad
  | _ => .bad
@[simp] theorem fmJ_eq (k : Nat) (dn : List D) (j : Nat) (ρ : Env) (go : List D → Env → RS) (k' : Nat) (d' : D) : fmJ k dn j ρ go (some (some (k', d'))) = if k' = k then go (dn ++ [d']) (ρ.set j none) else .bad := rfl
def fmR (k : Nat) (dn : List D) (j : Nat) (go : List D → Env → RS) : RS → RS
  | .ok .nx ρ => fmJ k dn j ρ go ρ[j]?
  | .ok .ct ρ => fmJ k dn j ρ go ρ[j]?
  | .ok .bk ρ => .ok .nx ρ
  | r => r
@[simp] theorem fmR_nx (k : Nat) (dn : List D) (j : Nat) (go : List D → Env → RS) (ρ : Env) : fmR k dn j go (.ok .nx ρ) = fmJ k dn j ρ go ρ[j]? := rfl
@[simp] theorem fmR_ct (k : Nat) (dn : List D) (j : Nat) (go : List D → Env → RS) (ρ : Env) : fmR k dn j go (.ok .ct ρ) = fmJ k dn j ρ go ρ[j]? := rfl
@[simp] theorem fmR_bk (k : Nat) (dn : List D) (j : Nat) (go : List D → Env → RS) (ρ : Env) : fmR k dn j go (.ok .bk ρ) = .ok .nx ρ := rfl
@[simp] theorem fmR_rt (k : Nat) (dn : List D) (j : Nat) (go : List D → Env → RS) (l : Nat) (d : D) (ρ : Env) : fmR k dn j go (.ok (.rt l d) ρ) = .ok (.rt l d) ρ := rfl
@[simp] theorem fmR_ex (k : Nat) (dn : List D) (j : Nat) (go : List D → Env → RS) (c : Str) (ρ : Env) : fmR k dn j go (.ex c ρ) = .ex c ρ := rfl
def fmIt (i j k : Nat) (f : SF) : List D → List D → Env → RS
  | [], dn, ρ => .ok .nx (ρ.set i (some (k + 1, .lst dn)))
  | d :: ds, dn, ρ => fmR k dn j (fun dn ρ => fmIt i j k f ds dn ρ) (f (ρ.set j (some (k, d))))
@[simp] theorem fmIt_nil (i j k : Nat) (f : SF) (dn : List D) (ρ : Env) : fmIt i j k f [] dn ρ = .ok .nx (ρ.set i (some (k + 1, .lst dn))) := rfl
def fmS (i j k : Nat) (f : SF) (ρ : Env) : Option Slot → RS
  | some (some (l, .lst ds)) => if l = k + 1 ∧ j < ρ.length then fmIt i j k f ds [] ((ρ.set i none).set j none) else .bad
  | _ => .bad
@[simp] theorem fmS_eq (i j k : Nat) (f : SF) (ρ : Env) (l : Nat) (ds : List D) : fmS i j k f ρ (some (some (l, .lst ds))) = if l = k + 1 ∧ j < ρ.length then fmIt i j k f ds [] ((ρ.set i none).set j none) else .bad := rfl
def sForM (i j k : Nat) (f : SF) : SF := fun ρ => fmS i j k f ρ ρ[i]?
@[simp] theorem sForM_eq (i j k : Nat) (f : SF) (ρ : Env) : sForM i j k f ρ = fmS i j k f ρ ρ[i]? := rfl
section
variable {K : PySem.W.Frag} {cl : Clx} {W : WX} {ρ : Env} {σ : L2.St} {G H G' H' : Hp} {Fs Fs' : Foot} {c0 : Str → Addr}
def FsD (i : Nat) (Fs : Foot) : Foot := fun j a => j ≠ i ∧ Fs j a
theorem EnvR.hide (env : EnvR K cl ρ σ G H Fs) (i : Nat) : EnvR K cl (ρ.set i none) σ G H (FsD i Fs) := by
  refine ⟨by simp [env.len], env.gh, fun j k d h => ?_, fun j l a h1 h2 => env.dis j l a h1.2 h2.2, fun j a h => env.dom j a h.2, env.fx⟩
  by_cases hj : j = i
  · subst hj
    have hlt : j < ρ.length := by
      have := (List.getElem?_eq_some_iff.mp h).1
      simpa using this
    rw [List.getElem?_set_self hlt] at h
    cases h
  · rw [List.getElem?_set_ne (Ne.symm hj)] at h
    obtain ⟨v, hv, o⟩ := env.own j k d h
    exact ⟨v, hv, o.weak fun a z => ⟨hj, z⟩⟩
theorem EnvR.unfx {j : Nat} {v : V} (env : EnvR K (cl.fx j v) ρ σ G H Fs) (hx : cl.fix j = none) : EnvR K cl ρ σ G H Fs := by
  refine ⟨env.len, env.gh, env.own, env.dis, env.dom, fun n u h => env.fx n u ?_⟩
  show (if n = j then some v else cl.fix n) = some u
  have : n ≠ j := fun e => by rw [e, hx] at h; cases h
  rw [if_neg this]
  exact h
theorem PostS.unfx {j : Nat} {v : V} {U : Addr → Prop} {D : Ends} {r : RS} (hx : cl.fix j = none) (h : PostS K cl W U G H D r) : PostS K (cl.fx j v) W U G H D r := by
  cases r with
  | bad => exact h
  | ex c ρ => exact fun σ' G' H' Fs' e s => h σ' G' H' Fs' (e.unfx hx) s
  | ok fl ρ =>
    cases fl with
    | nx => exact fun σ' G' H' Fs' e s => h σ' G' H' Fs' (e.unfx hx) s
    | bk => exact fun σ' G' H' Fs' e s => h σ' G' H' Fs' (e.unfx hx) s
    | ct => exact fun σ' G' H' Fs' e s => h σ' G' H' Fs' (e.unfx hx) s
    | rt k d => exact fun σ' w G' H' Fs' F e o f s => h σ' w G' H' Fs' F (e.unfx hx) o f s
/-- slot j takes what F owns (free of the others); its value stays -/
theorem EnvR.take (env : EnvR K cl ρ σ G H Fs) {j k : Nat} {v : V} {d : D} {F : Addr → Prop} (hj : j < ρ.length) (o : Own K cl.c H G k v d F) (hF : ∀ a, F a → (∃ o, H a = some o) ∧ G a = none ∧ ¬ Un Fs a) (hx : cl.fix j = none) :
    EnvR K (cl.fx j v) (ρ.set j (some (k, d))) (σ.set j (some v)) G H (fun l => if l = j then F else Fs l) := by
  have e := env.set (i := j) o (fun a fa => ⟨(hF a fa).1, (hF a fa).2.1, fun l _ z => (hF a fa).2.2 ⟨l, z⟩⟩) (fun u h => by rw [hx] at h; cases h)
  refine ⟨e.len, e.gh, e.own, e.dis, e.dom, fun n u h => ?_⟩
  have h : (if n = j then some v else cl.fix n) = some u := h
  by_cases hn : n = j
  · rw [if_pos hn] at h
    cases h
    subst hn
    exact List.getElem?_set_self (by rw [← env.len]; exact hj)
  · rw [if_neg hn] at h
    rw [List.getElem?_set_ne (Ne.symm hn)]
    exact env.fx n u h
end
section
variable {X : Cx} {cl : Clx} {W : WX} {pos : Pos}
theorem PSs.any {ι : Type} {b : List Stmt} {t : ι → TS} (h : ∀ i, PSs X b (t i)) : PSs X b (fun D σ H => ∃ i, t i D σ H) := ⟨fun pins s σ H D I ⟨i, q⟩ => (h i).run pins s σ H D I q⟩
end
end B
namespace B
open PySem L2
/-! ### what a name owns goes on -/
def mvV (j : Nat) (ρ : Env) : Option Slot → RV
  | some (some (k, d)) => .ok k d (ρ.set j none)
  | _ => .bad
@[simp] theorem mvV_some (j : Nat) (ρ : Env) (k : Nat) (d : D) : mvV j ρ (some (some (k, d))) = .ok k d (ρ.set j none) := rfl
def mMv (j : Nat) : MF := fun ρ => mvV j ρ ρ[j]?
@[simp] theorem mMv_eq (j : Nat) (ρ : Env) : mMv j ρ = mvV j ρ ρ[j]? := rfl
section
variable {K : PySem.W.Frag} {cl : Clx} {W : WX} {ρ : Env} {σ : L2.St} {G H G' H' : Hp} {Fs Fs' : Foot} {c0 : Str → Addr}
theorem FsD_fre (env : EnvR K cl ρ σ G H Fs) (j : Nat) : Fre (FsD j Fs) G H (Fs j) := fun a fa => ⟨(env.dom j a fa).1, (env.dom j a fa).2, fun ⟨l, z⟩ => z.1 (env.dis l j a z.2 fa)⟩
theorem FsD_sx (env : EnvR K cl ρ σ G H Fs) (j : Nat) : Sx (Un Fs) G H (fun a => Un (FsD j Fs) a ∨ Fs j a) G H := sx_sub env.gh fun a z => z.elim (fun ⟨l, y⟩ => ⟨l, y.2⟩) fun y => ⟨j, y⟩
theorem semMv {j : Nat} : SemM K cl W (tVar j) (mMv j) := by
  intro ρ σ G H Fs env Q hq
  rw [mMv_eq] at hq
  cases e : ρ[j]? with
  | none => rw [e] at hq; exact hq.elim
  | some s =>
    cases s with
    | none => rw [e] at hq; exact hq.elim
    | some kd =>
      obtain ⟨k, d⟩ := kd
      rw [e] at hq
      obtain ⟨v, hv, o⟩ := env.own j k d e
      exact ⟨v, hv, hq v G H _ (Fs j) (env.hide j) o (FsD_fre env j) (FsD_sx env j)⟩
end
/-! ### P.pop(), P.pop(i) -/
def popJ (q : Nat × Pth) (ρ : Env) (l : Nat) (ds : List D) (m : Nat) : Option D → RV
  | some d => .ok (l - 1) d (putSl ρ q (.lst (ds.eraseIdx m)) ρ[q.1]?)
  | none => .bad
@[simp] theorem popJ_some (q : Nat × Pth) (ρ : Env) (l : Nat) (ds : List D) (m : Nat) (d : D) : popJ q ρ l ds m (some d) = .ok (l - 1) d (putSl ρ q (.lst (ds.eraseIdx m)) ρ[q.1]?) := rfl
def popI (q : Nat × Pth) (ρ : Env) (l : Nat) (ds : List D) : Option Nat → RV
  | some m => popJ q ρ l ds m ds[m]?
  | none => .bad
@[simp] theorem popI_some (q : Nat × Pth) (ρ : Env) (l : Nat) (ds : List D) (m : Nat) : popI q ρ l ds (some m) = popJ q ρ l ds m ds[m]? := rfl
def popV (q : Nat × Pth) (ρ : Env) : Option (Nat × D) → D → RV
  | some (l, .lst ds), .int i => if ds.length ≤ 10000 then popI q ρ l ds (ixN ds.length i) else .bad
  | _, _ => .bad
@[simp] theorem popV_eq (q : Nat × Pth) (ρ : Env) (l : Nat) (ds : List D) (i : Int) : popV q ρ (some (l, .lst ds)) (.int i) = if ds.length ≤ 10000 then popI q ρ l ds (ixN ds.length i) else .bad := rfl
def toRV {α : Type} (r : R α) (ρ : Env) (g : α → RV) : RV := match r with
  | .ok a => g a
  | .ex c => .ex c ρ
  | .bad => .bad
@[simp] theorem toRV_ok {α : Type} (a : α) (ρ : Env) (g : α → RV) : toRV (.ok a) ρ g = g a := rfl
@[simp] theorem toRV_ex {α : Type} (c : Str) (ρ : Env) (g : α → RV) : toRV (.ex c : R α) ρ g = .ex c ρ := rfl
@[simp] theorem toRV_bad {α : Type} (ρ : Env) (g : α → RV) : toRV (.bad : R α) ρ g = .bad := rfl
def lastV (q : Nat × Pth) (ρ : Env) : Option (Nat × D) → RV
  | some (l, .lst ds) => popJ q ρ l ds (ds.length - 1) ds[ds.length - 1]?
  | _ => .bad
@[simp] theorem lastV_eq (q : Nat × Pth) (ρ : Env) (l : Nat) (ds : List D) : lastV q ρ (some (l, .lst ds)) = popJ q ρ l ds (ds.length - 1) ds[ds.length - 1]? := rfl
def isLR : Option (Nat × D) → RV → RV
  | some (_, .lst _), r => r
  | _, _ => .bad
@[simp] theorem isLR_eq (l : Nat) (ds : List D) (r : RV) : isLR (some (l, .lst ds)) r = r := rfl
theorem isLR_of {o : Option (Nat × D)} {r : RV} (h : isLR o r ≠ .bad) : ∃ l ds, o = some (l, .lst ds) := by
  unfold isLR at h
  split at h
  · exact ⟨_, _, rfl⟩
  · exact (h rfl).elim
def mPop (P : PaF) : MF := fun ρ => toRV (P ρ) ρ fun q => lastV q ρ (ownP q.2 ρ[q.1]?)
def mPopI (P : PaF) (i : EF) : MF := fun ρ => toRV (P ρ) ρ fun q => isLR (ownP q.2 ρ[q.1]?) (toRV (i ρ) ρ fun y => popV q ρ (ownP q.2 ρ[q.1]?) y.d)
@[simp] theorem mPop_eq (P : PaF) (ρ : Env) : mPop P ρ = toRV (P ρ) ρ fun q => lastV q ρ (ownP q.2 ρ[q.1]?) := rfl
@[simp] theorem mPopI_eq (P : PaF) (i : EF) (ρ : Env) : mPopI P i ρ = toRV (P ρ) ρ fun q => isLR (ownP q.2 ρ[q.1]?) (toRV (i ρ) ρ fun y => popV q ρ (ownP q.2 ρ[q.1]?) y.d) := rfl
section
variable {K : PySem.W.Frag} {cl : Clx} {W : WX} {ρ : Env} {σ : L2.St} {G H G' H' : Hp} {Fs Fs' : Foot} {c0 : Str → Addr}
theorem SemP.useM {t : TE} {F : PaF} (h : SemP K cl W t F) (env : EnvR K cl ρ σ G H Fs) {Q : VK} {g : Nat × Pth → RV} (hq : PostM K cl W (Un Fs) σ G H Q (toRV (F ρ) ρ g)) {C : VK}
    (step : ∀ x v G' H', F ρ = .ok x → Px G H G' H' → EnvR K cl ρ σ G' H' Fs → (∃ u, σ[x.1]? = some (some u) ∧ PathOf H' x.2 u v) → PostM K cl W (Un Fs) σ G' H' Q (g x) → C v H') : t σ H C := by
  refine h ρ σ G H Fs env C ?_
  cases e : F ρ with
  | ok x =>
    rw [e] at hq
    exact fun v G' H' p o => step x v G' H' e p (env.px p) o (PostM.mono p.sx hq)
  | ex c =>
    rw [e] at hq
    exact fun G' H' p => hq G' H' Fs (env.px p) p.sx
  | bad =>
    rw [e] at hq
    exact hq
theorem SemE.useM {t : TE} {F : EF} (h : SemE K cl W t F) (env : EnvR K cl ρ σ G H Fs) {Q : VK} {g : Vl → RV} (hq : PostM K cl W (Un Fs) σ G H Q (toRV (F ρ) ρ g)) {C : VK}
    (step : ∀ x v G' H' F', F ρ = .ok x → Px G H G' H' → EnvR K cl ρ σ G' H' Fs → Own K cl H' G' x.k v x.d F' → Foo H G' H' x.b F' → PostM K cl W (Un Fs) σ G' H' Q (g x) → C v H') : t σ H C := by
  refine h ρ σ G H Fs env C ?_
  cases e : F ρ with
  | ok x =>
    rw [e] at hq
    exact fun v G' H' F' p o f => step x v G' H' F' e p (env.px p) o f (PostM.mono p.sx hq)
  | ex c =>
    rw [e] at hq
    exact fun G' H' p => hq G' H' Fs (env.px p) p.sx
  | bad =>
    rw [e] at hq
    exact hq
/-- the m-th item of the list at a path is taken out -/
theorem EnvR.pop {G0 H0 : Hp} (env0 : EnvR K cl ρ σ G0 H0 Fs) (p0 : Px G0 H0 G H) {q : Nat × Pth} {l m : Nat} {ds : List D} {d : D} {w : V} (h : ownP q.2 ρ[q.1]? = some (l, .lst ds)) (hd : ds[m]? = some d) (hw : ∃ u, σ[q.1]? = some (some u) ∧ PathOf H q.2 u w) :
    ∃ p vs u Fs2 F2, w = .ref p ∧ H p = some (.lst vs) ∧ vs.length = ds.length ∧ vs[m]? = some u ∧ EnvR K cl (putSl ρ q (.lst (ds.eraseIdx m)) ρ[q.1]?) σ G (upd H p (.lst (vs.eraseIdx m))) Fs2 ∧ Own K cl.c (upd H p (.lst (vs.eraseIdx m))) G (l - 1) u d F2 ∧ Fre Fs2 G (upd H p (.lst (vs.eraseIdx m))) F2 ∧ Sx (Un Fs) G0 H0 (fun a => Un Fs2 a ∨ F2 a) G (upd H p (.lst (vs.eraseIdx m))) := by
  have env := env0.px p0
  obtain ⟨n, dd, F', h0, o, sb, k1, put⟩ := env0.atP p0 h hw
  obtain ⟨l', rfl⟩ : ∃ k', l = k' + 1 := ⟨l - 1, by omega⟩
  have o' := o
  obtain ⟨p, vs, Fs', rfl, hp, fp, hn, hr, _⟩ := o'
  obtain ⟨u, hu⟩ : ∃ u, vs[m]? = some u := ⟨_, List.getElem?_eq_getElem (by rw [hn]; exact (List.getElem?_eq_some_iff.mp hd).1)⟩
  obtain ⟨_, F1, F2, o1, o2, s1, s2, d12⟩ := own_delL o hp hu hd
  have dm : ∀ a, F' a → (∃ z, upd H p (.lst (vs.eraseIdx m)) a = some z) ∧ G a = none := dom_upd fun a z => env.dom _ a (sb a z)
  have ip := inp_upd (o := .lst (vs.eraseIdx m)) (H0 := H0) (Fx := fun _ => False) env.gh fp (env.dom _ p (sb p fp)).2 (fun a z => z.elim)
  obtain ⟨env4, s4⟩ := put _ G (.lst (ds.eraseIdx m)) F1 o1 (fun a z => dm a (s1 a z)) ⟨ip.gg, ip.gh, ip.fr, ip.th, fun a z => .inl (s1 a z), ip.gn⟩
  refine ⟨p, vs, u, _, F2, rfl, hp, hn, hu, env4, o2, fun a z => ⟨(dm a (s2 a z)).1, (dm a (s2 a z)).2, fun ⟨l, y⟩ => ?_⟩, ⟨s4.gg, s4.gh, s4.fr, s4.th, fun a z => ?_, s4.gn⟩⟩
  · unfold FsP at y
    by_cases hl : l = q.1
    · rw [if_pos hl] at y
      rcases y with ⟨_, y⟩ | y
      · exact y (s2 a z)
      · exact d12 a y z
    · rw [if_neg hl] at y
      exact hl (env.dis l q.1 a y (sb a (s2 a z)))
  · rcases z with z | z
    · exact s4.un a z
    · exact .inl ⟨_, sb a (s2 a z)⟩
end
section
variable {X : Cx} {cl : Clx} {W : WX} {pos : Pos}
theorem em_mv (j : Nat) {x : Str} (hN : X.N[j]? = some x := by rfl) (hv : Vis X.env.scope x := by first | exact Or.inl rfl | exact Or.inr (Or.inl rfl) | exact Or.inr (Or.inr rfl)) (hd : (x == ("__debug__" : Str)) = false := by decide)
    (hcd : (x == ("__classdict__" : Str)) = false := by decide) : EvM X cl W (.Name x pos) (mMv j) := ⟨_, pe_var hN hv hd hcd, semMv⟩
theorem em_popI {o e : Expr} {P : PaF} {a : EF} {apos : Pos} (ho : EvP X cl W o P) (hi : EvE X cl W e a) (hbase : attributeBase o "pop" X.env (eval o X.env) = eval o X.env := by rfl)
    (hfew : ((backTo pos (starEach (e :: []) X.env)).all (fun x => !x.1) && (backToKw pos (keywordEach [] X.env)).all (fun x => x.1.isSome)
      && decide ((e :: ([] : List Expr)).length + ([] : List Keyword).length + (if ([] : List Keyword).isEmpty then 0 else 1) < 30)) = true := by rfl) (hline : (apos.endLine == pos.line) = true := by rfl) (hs : starEach (e :: []) X.env = (false, eval e X.env) :: starEach [] X.env := by rfl) (hplain : (backTo pos (starEach [] X.env)).any (·.1) = false := by rfl) : EvM X cl W (.Call (.Attribute o "pop" apos) [e] [] pos) (mPopI P a) := by
  obtain ⟨tp, pp, sp⟩ := ho
  obtain ⟨ti, pi, si⟩ := hi
  refine ⟨_, pe_bm PySem.F.plainAttrs_list PySem.F.slot_list_pop PySem.F.type_list_pop mt_popAt pp (pa_cons pi pa_nil hs) hbase hfew hline hs hplain, fun ρ σ G H Fs env Q hq => ?_⟩
  have hq0 := hq
  rw [mPopI_eq] at hq
  refine sp.useM env hq fun q w G2 H2 e2 p2 env2 pa hq2 => ?_
  rw [mPopI_eq, e2, toRV_ok] at hq0
  obtain ⟨l, ds, eo⟩ := isLR_of (fun z => by rw [z] at hq0; exact hq0)
  rw [eo, isLR_eq] at hq0 hq2
  obtain ⟨n, d, F', h0, o, sb, k1, _⟩ := env.atP p2 eo pa
  obtain ⟨l', rfl⟩ : ∃ k', l = k' + 1 := ⟨l - 1, by omega⟩
  obtain ⟨p, vs, Fs', rfl, hp, fp, hn, hr, _⟩ := o
  refine ⟨.inl ⟨rfl, vs, .inl (.inl hp)⟩, ?_⟩
  refine si.useM env2 hq2 fun y v4 G4 H4 F4 e4 p4 env4 o4 f4 hq4 => ?_
  rw [e4, toRV_ok] at hq0
  obtain ⟨yb, yk, yd⟩ := y
  cases yd with
  | int j =>
    rw [popV_eq] at hq0
    by_cases h4 : ds.length ≤ 10000
    case neg => rw [if_neg h4] at hq0; exact hq0.elim
    rw [if_pos h4] at hq0
    cases ej : ixN ds.length j with
    | none => rw [ej] at hq0; exact hq0.elim
    | some m =>
      rw [ej, popI_some] at hq0
      obtain ⟨hsi, hm, hlo, hhi⟩ := ixN_seq ej
      cases hd : ds[m]? with
      | none => rw [hd] at hq0; exact hq0.elim
      | some d1 =>
        rw [hd, popJ_some] at hq0
        obtain ⟨p', vs', u, Fs2, F2, e, hp', hn', hu, env5, o5, f5, s5⟩ := env.pop (p2.trans p4) eo hd (let ⟨u, hu, pu⟩ := pa; ⟨u, hu, pu.mono p4.hh⟩)
        cases e
        refine ⟨p, vs', j, m, u, rfl, by rw [o4.int], hp', by omega, by omega, by rw [hn']; exact hsi, hu, hq0 u G4 _ Fs2 F2 env5 o5 f5 s5⟩
  | _ => exact hq0.elim
/-! ### P.insert(i, e) -/
noncomputable def insI (q : Nat × Pth) (ρ : Env) (ds : List D) (d : D) : D → RS
  | .int i => if 0 ≤ i ∧ small62 i ∧ ds.length < 10000 then .ok .nx (putSl ρ q (.lst (ds.take i.toNat ++ [d] ++ ds.drop i.toNat)) ρ[q.1]?) else .bad
  | _ => .bad
@[simp] theorem insI_int (q : Nat × Pth) (ρ : Env) (ds : List D) (d : D) (i : Int) : insI q ρ ds d (.int i) = if 0 ≤ i ∧ small62 i ∧ ds.length < 10000 then .ok .nx (putSl ρ q (.lst (ds.take i.toNat ++ [d] ++ ds.drop i.toNat)) ρ[q.1]?) else .bad := rfl
noncomputable def sIns (P : PaF) (i f : EF) : SF := fun ρ => toS (P ρ) ρ fun q => atL1 (ownP q.2 ρ[q.1]?) fun ds => toS (i ρ) ρ fun y => toS (eS f ρ) ρ fun z => insI q ρ ds z.d y.d
@[simp] theorem sIns_eq (P : PaF) (i f : EF) (ρ : Env) : sIns P i f ρ = toS (P ρ) ρ fun q => atL1 (ownP q.2 ρ[q.1]?) fun ds => toS (i ρ) ρ fun y => toS (eS f ρ) ρ fun z => insI q ρ ds z.d y.d := rfl
theorem RepL.take {cl : Str → Addr} {K : PySem.W.Frag} {G : Hp} {vs : List V} {ds : List D} (h : RepL K cl G vs ds) (n : Nat) : RepL K cl G (vs.take n) (ds.take n) := by
  refine ⟨by simp [h.1], fun i v d e1 e2 => ?_⟩
  rw [List.getElem?_take] at e1 e2
  split at e1
  · rename_i hi
    rw [if_pos hi] at e2
    exact h.2 i v d e1 e2
  · cases e1
theorem RepL.drop {cl : Str → Addr} {K : PySem.W.Frag} {G : Hp} {vs : List V} {ds : List D} (h : RepL K cl G vs ds) (n : Nat) : RepL K cl G (vs.drop n) (ds.drop n) := by
  refine ⟨by simp [h.1], fun i v d e1 e2 => ?_⟩
  rw [List.getElem?_drop] at e1 e2
  exact h.2 _ v d e1 e2
/-! ### P.append(x), x's own thing goes over -/
def apMV (k : Nat) (ρ : Env) (q : Nat × Pth) (j : Nat) : Option Slot → RS
  | some (some (l, d)) => if (flat d || decide (l = k) || (decide (l < k) && flatK l d)) = true then apP k (ρ.set j none) q d (ownP q.2 (ρ.set j none)[q.1]?) else .bad
  | _ => .bad
@[simp] theorem apMV_eq (k : Nat) (ρ : Env) (q : Nat × Pth) (j : Nat) (l : Nat) (d : D) : apMV k ρ q j (some (some (l, d))) = if (flat d || decide (l = k) || (decide (l < k) && flatK l d)) = true then apP k (ρ.set j none) q d (ownP q.2 (ρ.set j none)[q.1]?) else .bad := rfl
def sApMv (k : Nat) (P : PaF) (j : Nat) : SF := fun ρ => toS (P ρ) ρ fun q => isL (ownP q.2 ρ[q.1]?) (apMV k ρ q j ρ[j]?)
@[simp] theorem sApMv_eq (k : Nat) (P : PaF) (j : Nat) (ρ : Env) : sApMv k P j ρ = toS (P ρ) ρ fun q => isL (ownP q.2 ρ[q.1]?) (apMV k ρ q j ρ[j]?) := rfl
end
end B
namespace B
open PySem L2
/-! ### (a, b, ..) of what names own -/
def NmV (σ : L2.St) : List Nat → List V → Prop
  | [], [] => True
  | j :: js, v :: vs => σ[j]? = some (some v) ∧ NmV σ js vs
  | _, _ => False
def okF (k l : Nat) (d : D) : Bool := flat d || decide (l = k) || (decide (l < k) && flatK l d)
def tkJ (k : Nat) (j : Nat) (ρ : Env) (go : Env → Option (List D × Env)) : Option Slot → Option (List D × Env)
  | some (some (l, d)) => if okF k l d = true then (go (ρ.set j none)).map fun r => (d :: r.1, r.2) else none
  | _ => none
@[simp] theorem tkJ_eq (k : Nat) (j : Nat) (ρ : Env) (go : Env → Option (List D × Env)) (l : Nat) (d : D) : tkJ k j ρ go (some (some (l, d))) = if okF k l d = true then (go (ρ.set j none)).map fun r => (d :: r.1, r.2) else none := rfl
def takeO (k : Nat) : List Nat → Env → Option (List D × Env)
  | [], ρ => some ([], ρ)
  | j :: js, ρ => tkJ k j ρ (takeO k js) ρ[j]?
@[simp] theorem takeO_nil (k : Nat) (ρ : Env) : takeO k [] ρ = some ([], ρ) := rfl
@[simp] theorem takeO_cons (k : Nat) (j : Nat) (js : List Nat) (ρ : Env) : takeO k (j :: js) ρ = tkJ k j ρ (takeO k js) ρ[j]? := rfl
def tupR (k : Nat) : Option (List D × Env) → RV
  | some (ds, ρ) => if ds.length ≤ 1000 then .ok (k + 1) (.tup ds) ρ else .bad
  | none => .bad
@[simp] theorem tupR_some (k : Nat) (ds : List D) (ρ : Env) : tupR k (some (ds, ρ)) = if ds.length ≤ 1000 then .ok (k + 1) (.tup ds) ρ else .bad := rfl
def mTupO (k : Nat) (js : List Nat) : MF := fun ρ => tupR k (takeO k js ρ)
@[simp] theorem mTupO_eq (k : Nat) (js : List Nat) (ρ : Env) : mTupO k js ρ = tupR k (takeO k js ρ) := rfl
section
variable {K : PySem.W.Frag} {cl : Clx} {W : WX} {ρ : Env} {σ : L2.St} {G H G' H' : Hp} {Fs Fs' : Foot} {c0 : Str → Addr}
end
section
variable {X : Cx} {cl : Clx} {W : WX} {pos : Pos}
def EvNs (X : Cx) (es : List Expr) (js : List Nat) : Prop := ∃ t, PA X es t ∧ ∀ (σ : L2.St) (H : Hp) (Q : List V → Hp → Prop) (vs : List V), NmV σ js vs → Q vs H → t σ H Q
/-! ### a, b = e, each with floors of its own -/
def setAll (k : Nat) : List Nat → List D → Env → Option Env
  | [], [], ρ => some ρ
  | i :: is, d :: ds, ρ => setAll k is ds (ρ.set i (some (k, d)))
  | _, _, _ => none
@[simp] theorem setAll_nil (k : Nat) (ρ : Env) : setAll k [] [] ρ = some ρ := rfl
@[simp] theorem setAll_cons (k : Nat) (i : Nat) (is : List Nat) (d : D) (ds : List D) (ρ : Env) : setAll k (i :: is) (d :: ds) ρ = setAll k is ds (ρ.set i (some (k, d))) := rfl
def asgR : Option Env → RS
  | some ρ => .ok .nx ρ
  | none => .bad
@[simp] theorem asgR_some (ρ : Env) : asgR (some ρ) = .ok .nx ρ := rfl
def asgT (k : Nat) (is : List Nat) (ρ : Env) : D → RS
  | .tup ds => asgR (setAll k is ds ρ)
  | _ => .bad
@[simp] theorem asgT_eq (k : Nat) (is : List Nat) (ρ : Env) (ds : List D) : asgT k is ρ (.tup ds) = asgR (setAll k is ds ρ) := rfl
def sAsgK (k : Nat) (is : List Nat) (f : EF) : SF := fun ρ => toS (eFit (k + 1) f ρ) ρ fun x => asgT k is ρ x.d
@[simp] theorem sAsgK_eq (k : Nat) (is : List Nat) (f : EF) (ρ : Env) : sAsgK k is f ρ = toS (eFit (k + 1) f ρ) ρ fun x => asgT k is ρ x.d := rfl
def gNs : List Nat → TGs
  | [] => gNil
  | i :: is => gCons (gName i) (gNs is)
def EvNg (X : Cx) (cl : Clx) (es : List Expr) (is : List Nat) : Prop := PGs X es (gNs is) ∧ ∀ i ∈ is, cl.fix i = none
/-! ### [a, b, ..] with items of one's own -/
def PLK (K : PySem.W.Frag) (c : Str → Addr) (k : Nat) (Q : List V → Hp → Prop) (ds : List D) (G H : Hp) : Prop := ∀ vs G' H', ∀ Fi : Nat → Addr → Prop, Px G H G' H' → vs.length = ds.length → (∀ (i : Nat) v d, vs[i]? = some v → ds[i]? = some d → Own K c H' G' k v d (Fi i)) →
  (∀ (i : Nat) a, Fi i a → (∃ o, H' a = some o) ∧ G' a = none ∧ H a = none) → (∀ (i l : Nat) a, Fi i a → Fi l a → i = l) → Q vs H'
theorem PLK.mono {K : PySem.W.Frag} {c : Str → Addr} {k : Nat} {Q : List V → Hp → Prop} : Mono (PLK K c k Q) := fun x G H G' H' p h vs G2 H2 Fi p2 hl ow lv di => h vs G2 H2 Fi (p.trans p2) hl ow (fun i a z => ⟨(lv i a z).1, (lv i a z).2.1, p.hh.free (lv i a z).2.2⟩) di
def SemAK (K : PySem.W.Frag) (cl : Clx) (W : WX) (k : Nat) (t : TA) (F : AF) : Prop := ∀ ρ σ G H Fs, EnvR K cl ρ σ G H Fs → ∀ Q, PostG cl W σ G H (PLK K cl k Q) (F ρ) → t σ H Q
def EvAK (X : Cx) (cl : Clx) (W : WX) (k : Nat) (es : List Expr) (F : AF) : Prop := ∃ t, PA X es t ∧ SemAK X.K cl W k t F
def aConsK (k : Nat) (f : EF) (g : AF) : AF := fun ρ => (eFit k f ρ).bind fun y => (g ρ).bind fun ds => .ok (y.d :: ds)
@[simp] theorem aConsK_eq (k : Nat) (f : EF) (g : AF) (ρ : Env) : aConsK k f g ρ = (eFit k f ρ).bind fun y => (g ρ).bind fun ds => .ok (y.d :: ds) := rfl
def eLstK (k : Nat) (g : AF) : EF := fun ρ => (g ρ).bind fun ds => if ds.length ≤ 1000 then .ok ⟨false, k + 1, .lst ds⟩ else .bad
@[simp] theorem eLstK_eq (k : Nat) (g : AF) (ρ : Env) : eLstK k g ρ = (g ρ).bind fun ds => if ds.length ≤ 1000 then .ok ⟨false, k + 1, .lst ds⟩ else .bad := rfl
end
end B
namespace B
open PySem L2
/-! ### f(P): one thing of one's own, by its path, handed over to be changed -/
def cpR (q : Nat × Pth) (ρ : Env) (k : Nat) : RM → RV
  | .ok x (some (k', d') :: _) => if k' = k then .ok x.k x.d (putSl ρ q d' ρ[q.1]?) else .bad
  | .ex c (some (k', d') :: _) => if k' = k then .ex c (putSl ρ q d' ρ[q.1]?) else .bad
  | _ => .bad
@[simp] theorem cpR_ok (q : Nat × Pth) (ρ : Env) (k k' : Nat) (d' : D) (x : Vl) (o : Env) : cpR q ρ k (.ok x (some (k', d') :: o)) = if k' = k then .ok x.k x.d (putSl ρ q d' ρ[q.1]?) else .bad := rfl
@[simp] theorem cpR_ex (q : Nat × Pth) (ρ : Env) (k k' : Nat) (d' : D) (c : Str) (o : Env) : cpR q ρ k (.ex c (some (k', d') :: o)) = if k' = k then .ex c (putSl ρ q d' ρ[q.1]?) else .bad := rfl
def cpV (f : FnM) (q : Nat × Pth) (ρ : Env) : Option (Nat × D) → RV
  | some (k, d) => cpR q ρ k (f [(k, d)])
  | none => .bad
@[simp] theorem cpV_some (f : FnM) (q : Nat × Pth) (ρ : Env) (k : Nat) (d : D) : cpV f q ρ (some (k, d)) = cpR q ρ k (f [(k, d)]) := rfl
def mCallP (f : FnM) (P : PaF) : MF := fun ρ => toRV (P ρ) ρ fun q => cpV f q ρ (ownP q.2 ρ[q.1]?)
@[simp] theorem mCallP_eq (f : FnM) (P : PaF) (ρ : Env) : mCallP f P ρ = toRV (P ρ) ρ fun q => cpV f q ρ (ownP q.2 ρ[q.1]?) := rfl
section
variable {X : Cx} {cl : Clx} {W : WX} {pos : Pos}
/-! ### C(.., xs, ..): a new instance, xs handed over -/
def nwR (mo : List (Option Nat)) (ρ : Env) : RM → RV
  | .ok x (some (k, d) :: o) => match x.d with
    | .non => .ok k d (putOuts mo o ρ)
    | _ => .bad
  | .ex c (_ :: o) => .ex c (putOuts mo o ρ)
  | _ => .bad
@[simp] theorem nwR_ok (mo : List (Option Nat)) (ρ : Env) (b : Bool) (l k : Nat) (d : D) (o : Env) : nwR mo ρ (.ok ⟨b, l, .non⟩ (some (k, d) :: o)) = .ok k d (putOuts mo o ρ) := rfl
@[simp] theorem nwR_ex (mo : List (Option Nat)) (ρ : Env) (c : Str) (s : Slot) (o : Env) : nwR mo ρ (.ex c (s :: o)) = .ex c (putOuts mo o ρ) := rfl
def nwG (fl : Nat) (C : Str) (f : FnM) (mo : List (Option Nat)) (ρ : Env) : R (List (Nat × D)) → RV
  | .ok as => nwR mo ρ (f ((fl + 1, .obj C []) :: as))
  | .ex c => .ex c ρ
  | .bad => .bad
@[simp] theorem nwG_ok (fl : Nat) (C : Str) (f : FnM) (mo : List (Option Nat)) (ρ : Env) (as : List (Nat × D)) : nwG fl C f mo ρ (.ok as) = nwR mo ρ (f ((fl + 1, .obj C []) :: as)) := rfl
def mNew (fl : Nat) (C : Str) (f : FnM) (mo : List (Option Nat)) (g : AMF) : MF := fun ρ => nwG fl C f mo ρ (g ρ)
@[simp] theorem mNew_eq (fl : Nat) (C : Str) (f : FnM) (mo : List (Option Nat)) (g : AMF) (ρ : Env) : mNew fl C f mo g ρ = nwG fl C f mo ρ (g ρ) := rfl
/-! ### f(..), f reads alone, the arguments with effects -/
def mcR (ρ : Env) : R Vl → RV
  | .ok x => .ok x.k x.d ρ
  | .ex c => .ex c ρ
  | .bad => .bad
@[simp] theorem mcR_ok (ρ : Env) (x : Vl) : mcR ρ (.ok x) = .ok x.k x.d ρ := rfl
@[simp] theorem mcR_ex (ρ : Env) (c : Str) : mcR ρ (.ex c) = .ex c ρ := rfl
def mcG (f : Fn) : RVs → RV
  | .ok ds ρ => mcR ρ (f ds)
  | .ex c ρ => .ex c ρ
  | .bad => .bad
@[simp] theorem mcG_ok (f : Fn) (ds : List D) (ρ : Env) : mcG f (.ok ds ρ) = mcR ρ (f ds) := rfl
@[simp] theorem mcG_ex (f : Fn) (c : Str) (ρ : Env) : mcG f (.ex c ρ) = .ex c ρ := rfl
def mCallF (f : Fn) (g : MsF) : MF := fun ρ => mcG f (g ρ)
@[simp] theorem mCallF_eq (f : Fn) (g : MsF) (ρ : Env) : mCallF f g ρ = mcG f (g ρ) := rfl
/-! ### tests with effects -/
inductive RT where
  | ok (b : Bool) (ρ : Env)
  | ex (c : Str) (ρ : Env)
  | bad
abbrev TMF := Env → RT
def PostT (K : PySem.W.Frag) (cl : Clx) (W : WX) (U : Addr → Prop) (σ : L2.St) (G H : Hp) (Q : Bool → Hp → Prop) : RT → Prop
  | .ok b ρ => ∀ G' H' Fs', EnvR K cl ρ σ G' H' Fs' → Sx U G H (Un Fs') G' H' → Q b H'
  | .ex c ρ => ∀ G' H' Fs', EnvR K cl ρ σ G' H' Fs' → Sx U G H (Un Fs') G' H' → WEx cl W c σ G' H'
  | .bad => False
def SemTM (K : PySem.W.Frag) (cl : Clx) (W : WX) (t : TT) (F : TMF) : Prop := ∀ ρ σ G H Fs, EnvR K cl ρ σ G H Fs → ∀ Q, PostT K cl W (Un Fs) σ G H Q (F ρ) → t σ H Q
def EvTM (X : Cx) (cl : Clx) (W : WX) (e : Expr) (F : TMF) : Prop := ∃ t, PT X e t ∧ SemTM X.K cl W t F
def EvWM (X : Cx) (cl : Clx) (W : WX) (e : Expr) (F : TMF) : Prop := ∃ t, PW X e t ∧ SemTM X.K cl W t F
theorem PostT.mono {K : PySem.W.Frag} {U U' : Addr → Prop} {σ : L2.St} {G H G' H' : Hp} {Q : Bool → Hp → Prop} {r : RT} (s : Sx U G H U' G' H') (h : PostT K cl W U σ G H Q r) : PostT K cl W U' σ G' H' Q r := by
  cases r with
  | ok b ρ => exact fun G2 H2 F2 e s2 => h G2 H2 F2 e (s.trans s2)
  | ex c ρ => exact fun G2 H2 F2 e s2 => h G2 H2 F2 e (s.trans s2)
  | bad => exact h
def tmR (ρ : Env) : R Bool → RT
  | .ok b => .ok b ρ
  | .ex c => .ex c ρ
  | .bad => .bad
@[simp] theorem tmR_ok (ρ : Env) (b : Bool) : tmR ρ (.ok b) = .ok b ρ := rfl
@[simp] theorem tmR_ex (ρ : Env) (c : Str) : tmR ρ (.ex c) = .ex c ρ := rfl
def tmP (f : TF) : TMF := fun ρ => tmR ρ (f ρ)
@[simp] theorem tmP_eq (f : TF) (ρ : Env) : tmP f ρ = tmR ρ (f ρ) := rfl
def tmB (ρ : Env) : D → RT
  | .bl b => .ok b ρ
  | _ => .bad
@[simp] theorem tmB_bl (ρ : Env) (b : Bool) : tmB ρ (.bl b) = .ok b ρ := rfl
def tmV (r : RV) : RT := match r with
  | .ok _ d ρ => tmB ρ d
  | .ex c ρ => .ex c ρ
  | .bad => .bad
@[simp] theorem tmV_ok (k : Nat) (d : D) (ρ : Env) : tmV (.ok k d ρ) = tmB ρ d := rfl
@[simp] theorem tmV_ex (c : Str) (ρ : Env) : tmV (.ex c ρ) = .ex c ρ := rfl
def tmE (f : MF) : TMF := fun ρ => tmV (f ρ)
@[simp] theorem tmE_eq (f : MF) (ρ : Env) : tmE f ρ = tmV (f ρ) := rfl
def tmT (r : RT) (g : Bool → Env → RT) : RT := match r with
  | .ok b ρ => g b ρ
  | .ex c ρ => .ex c ρ
  | .bad => .bad
@[simp] theorem tmT_ok (b : Bool) (ρ : Env) (g : Bool → Env → RT) : tmT (.ok b ρ) g = g b ρ := rfl
@[simp] theorem tmT_ex (c : Str) (ρ : Env) (g : Bool → Env → RT) : tmT (.ex c ρ) g = .ex c ρ := rfl
@[simp] theorem tmT_bad (g : Bool → Env → RT) : tmT .bad g = .bad := rfl
def tmNot (a : TMF) : TMF := fun ρ => tmT (a ρ) fun b ρ => .ok (!b) ρ
def tmAnd (a b : TMF) : TMF := fun ρ => tmT (a ρ) fun x ρ => if x then b ρ else .ok false ρ
def tmOr (a b : TMF) : TMF := fun ρ => tmT (a ρ) fun x ρ => if x then .ok true ρ else b ρ
@[simp] theorem tmNot_eq (a : TMF) (ρ : Env) : tmNot a ρ = tmT (a ρ) fun b ρ => .ok (!b) ρ := rfl
@[simp] theorem tmAnd_eq (a b : TMF) (ρ : Env) : tmAnd a b ρ = tmT (a ρ) fun x ρ => if x then b ρ else .ok false ρ := rfl
@[simp] theorem tmOr_eq (a b : TMF) (ρ : Env) : tmOr a b ρ = tmT (a ρ) fun x ρ => if x then .ok true ρ else b ρ := rfl
theorem SemTM.then {K : PySem.W.Frag} {ρ : Env} {σ : L2.St} {G H : Hp} {Fs : Foot} {t : TT} {F : TMF} (h : SemTM K cl W t F) (env : EnvR K cl ρ σ G H Fs) {Q : Bool → Hp → Prop} {g : Bool → Env → RT} (hq : PostT K cl W (Un Fs) σ G H Q (tmT (F ρ) g)) {C : Bool → Hp → Prop}
    (step : ∀ b ρ' G' H' Fs', EnvR K cl ρ' σ G' H' Fs' → PostT K cl W (Un Fs') σ G' H' Q (g b ρ') → C b H') : t σ H C := by
  refine h ρ σ G H Fs env C ?_
  cases e : F ρ with
  | ok b ρ' =>
    rw [e] at hq
    exact fun G' H' Fs' e' s => step b ρ' G' H' Fs' e' (PostT.mono s hq)
  | ex c ρ' => rw [e] at hq; exact hq
  | bad => rw [e] at hq; exact hq
theorem EvWM.t {e : Expr} {f : TMF} (h : EvWM X cl W e f) : EvTM X cl W e f := by
  obtain ⟨t, p, s⟩ := h
  exact ⟨t, p.pt, s⟩
def toST (r : RT) (g : Bool → Env → RS) : RS := match r with
  | .ok b ρ => g b ρ
  | .ex c ρ => .ex c ρ
  | .bad => .bad
@[simp] theorem toST_ok (b : Bool) (ρ : Env) (g : Bool → Env → RS) : toST (.ok b ρ) g = g b ρ := rfl
@[simp] theorem toST_ex (c : Str) (ρ : Env) (g : Bool → Env → RS) : toST (.ex c ρ) g = .ex c ρ := rfl
@[simp] theorem toST_bad (g : Bool → Env → RS) : toST .bad g = .bad := rfl
def sIfM (c : TMF) (f g : SF) : SF := fun ρ => toST (c ρ) fun b ρ => if b then f ρ else g ρ
@[simp] theorem sIfM_eq (c : TMF) (f g : SF) (ρ : Env) : sIfM c f g ρ = toST (c ρ) fun b ρ => if b then f ρ else g ρ := rfl
end
end B
namespace RSm
open PySem PySem.Spec PyProof.Rows L2
section
variable {prog : Program} {w : World} {A : Around} {E : Value → Shared → Prop} {s : Shared}
/-- the walk with one item more ahead -/
def upP (P : Nat → Value → Prop) : Nat → Value → Prop
  | 0 => fun _ => False
  | i + 1 => P i
def upS (St : Nat → Heap → Prop) : Nat → Heap → Prop
  | 0 => fun _ => False
  | i + 1 => St i
def upV (c : Int) (val : Nat → Int) : Nat → Int
  | 0 => c
  | i + 1 => val i
end
end RSm
namespace B
open PySem L2
def rSumS (K : PySem.W.Frag) : List V → List V → Hp → VK → Prop := fun vs zs H Q => ∃ (a : Addr) (ns : List Int) (c : Int), vs = [V.ref a] ∧ zs = [V.int c] ∧ SqL K H a (ns.map V.int) ∧ Q (.int (c + ns.sum)) H
def intsOf : List D → Option (List Int)
  | [] => some []
  | .int i :: r => (intsOf r).map (i :: ·)
  | _ => none
@[simp] theorem intsOf_map : ∀ xs : List Int, intsOf (xs.map .int) = some xs
  | [] => rfl
  | x :: xs => by simp [intsOf, intsOf_map xs]
@[simp] theorem intsOf_nil : intsOf [] = some [] := rfl
theorem intsOf_eq : ∀ {ds : List D} {ns : List Int}, intsOf ds = some ns → ds = ns.map .int
  | [], ns, h => by cases h; rfl
  | .int i :: r, ns, h => by
    unfold intsOf at h
    cases e : intsOf r with
    | none => rw [e] at h; cases h
    | some ms => rw [e] at h; cases h; rw [intsOf_eq e]; rfl
  | .non :: r, ns, h => by cases h
  | .bl _ :: r, ns, h => by cases h
  | .str _ :: r, ns, h => by cases h
  | .lst _ :: r, ns, h => by cases h
  | .tup _ :: r, ns, h => by cases h
  | .obj _ _ :: r, ns, h => by cases h
  | .exo _ :: r, ns, h => by cases h
  | .dct _ :: r, ns, h => by cases h
  | .dci _ :: r, ns, h => by cases h
def sumD : List D → Vl → R Vl
  | [.lst ds], ⟨_, _, .int c⟩ => match intsOf ds with
    | some ns => .ok (sh (.int (c + ns.sum)))
    | none => .bad
  | _, _ => .bad
@[simp] theorem sumD_eq (ds : List D) (b : Bool) (k : Nat) (c : Int) : sumD [.lst ds] ⟨b, k, .int c⟩ = match intsOf ds with
    | some ns => .ok (sh (.int (c + ns.sum)))
    | none => .bad := rfl
def eSumS (a : AF) (s : EF) : EF := fun ρ => (a ρ).bind fun ds => (s ρ).bind (sumD ds)
@[simp] theorem eSumS_eq (a : AF) (s : EF) (ρ : Env) : eSumS a s ρ = (a ρ).bind fun ds => (s ρ).bind (sumD ds) := rfl
theorem repL_intsV {K : PySem.W.Frag} {cl : Str → Addr} {G : Hp} : ∀ {ns : List Int} {vs : List V}, vs.length = (ns.map D.int).length → (∀ (i : Nat) v d, vs[i]? = some v → (ns.map D.int)[i]? = some d → Rep K cl G v d) → vs = ns.map V.int
  | [], [], _, _ => rfl
  | n :: ns, v :: vs, hl, hr => by
    have h0 := hr 0 v (.int n) rfl rfl
    cases h0
    rw [List.map_cons, repL_intsV (ns := ns) (vs := vs) (by simpa using hl) fun i v d h1 h2 => hr (i + 1) v d (by simpa using h1) (by simpa using h2)]
  | n :: ns, [], hl, _ => by simp at hl
  | [], v :: vs, hl, _ => by simp at hl
section
variable {X : Cx} {cl : Clx} {W : WX} {pos : Pos}
end
end B
namespace B
open PySem L2
/-! ### defs with defaults -/
section
variable {X : Cx} {CX : CXT} {k : Nat} {f : Addr} {fd : FuncData} {ps : List Str} {sp : Sp} {E : L2.St → XK} {x : Str} {p pos : Pos} {e : Expr} {es : List Expr} {t : TA}
def tCallD (sp : Sp) (dvs : List V) (E : L2.St → XK) (t : TA) : TE := fun σ H Q => t σ H fun vs H1 => sp (vs ++ dvs) H1 Q (E σ)
end
section
variable {P : Program} {w : World} {K : PySem.W.Frag} {mg : Str → Option Value} {base : Heap} {cl : Str → Addr}
/-- a def called with its last values left out: they are dd -/
structure CalleeD (P : Program) (w : World) (K : PySem.W.Frag) (mg : Str → Option Value) (base : Heap) (cl : Str → Addr) (x : Str) (k m : Nat) (dd : List D) (f : Fn) : Prop where
  nb : ∀ ds x, f ds = .ok x → x.b = false
  ex : ∃ fa fd ps n vv us, FnOk P w K mg base (L2.CX P w) k fa fd ps (spP K cl n f) ∧ mg x = some (.ref fa) ∧ PySem.W.keepIn K (.ref fa) = true ∧ Binds K fd ps us ∧ Vals vv us ∧ (∀ G, RepL K cl G vv dd) ∧ m + dd.length = n
theorem CalleeD.of {x : Str} {st : Stmt} {fa : Addr} {fd : FuncData} {N ps : List Str} {k m : Nat} {b : SF} {vv : List V} {dd : List D} (F : FunD K x x (defArgs st) (defBody st) (defScope st) vv [] fa fd) (g : mg x = some (.ref fa)) (S : FnScope N ps (defScope st)) (hb : BodyOk P w K mg base (cl0 cl) k N x st b)
    (hn : m + dd.length = ps.length) (hne : vv ≠ []) (hrep : ∀ G, RepL K cl G vv dd)
    (h : ∀ (T : Addr) (kV doc pm : Value) (an : Option Addr) (cdv ct : Value) (us its : List Value), us.length = m → its.length = vv.length →
      ∃ k, bindArgs (PySem.W.fnOf x x (defArgs st) (defBody st) (defScope st) (.ref T) kV doc pm an cdv ct) ⟨us, []⟩ = seqItems? (.ref T) >>= k ∧ k (some its.toArray) = pure (ps.zip (us ++ its.drop 0))) :
    CalleeD P w K mg base cl x (k + 1) m dd (runF N.length b) := by
  have hl : vv.length = dd.length := (hrep (fun _ => none)).1
  obtain ⟨us, hv, hbi⟩ := F.binds1 m 0 hne (by omega) h
  rw [List.drop_zero] at hv
  exact ⟨fun _ _ => runF_nb, fa, fd, ps, ps.length, vv, us, fn_pure F S hb, g, F.kp, hbi, hv, hrep, hn⟩
theorem Callee.ofD {x : Str} {st : Stmt} {fa : Addr} {fd : FuncData} {N ps : List Str} {k : Nat} {b : SF} {vv : List V} (F : FunD K x x (defArgs st) (defBody st) (defScope st) vv [] fa fd) (g : mg x = some (.ref fa)) (S : FnScope N ps (defScope st)) (hb : BodyOk P w K mg base (cl0 cl) k N x st b)
    (hne : vv ≠ [])
    (h : ∀ (T : Addr) (kV doc pm : Value) (an : Option Addr) (cdv ct : Value) (us its : List Value), us.length = ps.length → its.length = vv.length →
      ∃ k, bindArgs (PySem.W.fnOf x x (defArgs st) (defBody st) (defScope st) (.ref T) kV doc pm an cdv ct) ⟨us, []⟩ = seqItems? (.ref T) >>= k ∧ k (some its.toArray) = pure (ps.zip (us ++ its.drop vv.length))) :
    Callee P w K mg base cl x (k + 1) ps.length (runF N.length b) := by
  obtain ⟨us, hv, hbi⟩ := F.binds1 ps.length vv.length hne (by omega) h
  rw [List.drop_length] at hv
  cases hv
  exact ⟨fun _ _ => runF_nb, fa, fd, ps, fn_pure F S hb, g, F.kp, hbi⟩
end
section
variable {X : Cx} {cl : Clx} {W : WX} {pos : Pos}
def eCallD (f : Fn) (dd : List D) (g : AF) : EF := fun ρ => (g ρ).bind fun ds => f (ds ++ dd)
@[simp] theorem eCallD_eq (f : Fn) (dd : List D) (g : AF) (ρ : Env) : eCallD f dd g ρ = (g ρ).bind fun ds => f (ds ++ dd) := rfl
end
/-! ### sums, all, any, sorted of a list -/
def boolsOf : List D → Option (List Bool)
  | [] => some []
  | .bl i :: r => (boolsOf r).map (i :: ·)
  | _ => none
@[simp] theorem boolsOf_map : ∀ xs : List Bool, boolsOf (xs.map .bl) = some xs
  | [] => rfl
  | x :: xs => by simp [boolsOf, boolsOf_map xs]
@[simp] theorem boolsOf_nil : boolsOf [] = some [] := rfl
def ins (x : Int) : List Int → List Int
  | [] => [x]
  | y :: ys => if x ≤ y then x :: y :: ys else y :: ins x ys
def srt : List Int → List Int
  | [] => []
  | x :: xs => ins x (srt xs)
theorem ins_perm (x : Int) : ∀ ys, (ins x ys).Perm (x :: ys)
  | [] => List.Perm.refl _
  | y :: ys => by
    unfold ins
    split
    · exact List.Perm.refl _
    · exact ((ins_perm x ys).cons y).trans (List.Perm.swap x y ys)
theorem srt_perm : ∀ xs, (srt xs).Perm xs
  | [] => List.Perm.refl _
  | x :: xs => (ins_perm x _).trans ((srt_perm xs).cons x)
theorem ins_sorted (x : Int) : ∀ ys, ys.Pairwise (· ≤ ·) → (ins x ys).Pairwise (· ≤ ·)
  | [], _ => by simp [ins]
  | y :: ys, h => by
    unfold ins
    split
    · rename_i hxy
      refine List.Pairwise.cons (fun z hz => ?_) h
      rcases List.mem_cons.mp hz with rfl | hz
      · exact hxy
      · exact Int.le_trans hxy ((List.pairwise_cons.mp h).1 z hz)
    · rename_i hxy
      refine List.Pairwise.cons (fun z hz => ?_) (ins_sorted x ys (List.pairwise_cons.mp h).2)
      rcases List.mem_cons.mp ((ins_perm x ys).mem_iff.mp hz) with rfl | hz
      · omega
      · exact (List.pairwise_cons.mp h).1 z hz
theorem srt_sorted : ∀ xs, (srt xs).Pairwise (· ≤ ·)
  | [] => List.Pairwise.nil
  | x :: xs => ins_sorted x _ (srt_sorted xs)
theorem sorted_unique : ∀ {xs ys : List Int}, xs.Perm ys → xs.Pairwise (· ≤ ·) → ys.Pairwise (· ≤ ·) → xs = ys
  | [], ys, p, _, _ => p.nil_eq
  | x :: xs, [], p, _, _ => by have := p.length_eq; simp at this
  | x :: xs, y :: ys, p, hx, hy => by
    have h1 : x ≤ y := by
      rcases List.mem_cons.mp (p.symm.mem_iff.mp (List.mem_cons_self (a := y) (l := ys))) with h | h
      · omega
      · exact (List.pairwise_cons.mp hx).1 y h
    have h2 : y ≤ x := by
      rcases List.mem_cons.mp (p.mem_iff.mp (List.mem_cons_self (a := x) (l := xs))) with h | h
      · omega
      · exact (List.pairwise_cons.mp hy).1 x h
    have e : x = y := by omega
    subst e
    rw [sorted_unique p.cons_inv (List.pairwise_cons.mp hx).2 (List.pairwise_cons.mp hy).2]
def sum1 : List D → R Vl
  | [.lst ds] => match intsOf ds with
    | some ns => .ok (sh (.int ns.sum))
    | none => .bad
  | _ => .bad
def all1 : List D → R Vl
  | [.lst ds] => match boolsOf ds with
    | some ns => .ok (sh (.bl (ns.all id)))
    | none => .bad
  | _ => .bad
def any1 : List D → R Vl
  | [.lst ds] => match boolsOf ds with
    | some ns => .ok (sh (.bl (ns.any id)))
    | none => .bad
  | _ => .bad
def srt1 : List D → R Vl
  | [.lst ds] => match intsOf ds with
    | some ns => .ok ⟨false, 1, .lst ((srt ns).map .int)⟩
    | none => .bad
  | _ => .bad
@[simp] theorem sum1_eq (ds : List D) : sum1 [.lst ds] = match intsOf ds with
    | some ns => .ok (sh (.int ns.sum))
    | none => .bad := rfl
@[simp] theorem all1_eq (ds : List D) : all1 [.lst ds] = match boolsOf ds with
    | some ns => .ok (sh (.bl (ns.all id)))
    | none => .bad := rfl
@[simp] theorem any1_eq (ds : List D) : any1 [.lst ds] = match boolsOf ds with
    | some ns => .ok (sh (.bl (ns.any id)))
    | none => .bad := rfl
@[simp] theorem srt1_eq (ds : List D) : srt1 [.lst ds] = match intsOf ds with
    | some ns => .ok ⟨false, 1, .lst ((srt ns).map .int)⟩
    | none => .bad := rfl
section
variable {X : Cx} {cl : Clx} {W : WX} {pos : Pos}
/-- one list as the only argument -/
theorem one_lst {K : PySem.W.Frag} {G : Hp} {c : Str → Addr} {vs : List V} {es : List D} (r1 : RepL K c G vs [.lst es]) : ∃ (a : Addr) (us : List V), vs = [.ref a] ∧ Rd G a (.lst us) ∧ us.length = es.length ∧ ∀ (i : Nat) v d, us[i]? = some v → es[i]? = some d → Rep K c G v d := by
  obtain ⟨v0, hv0, rv0⟩ := r1.some (i := 0) rfl
  have hlen := r1.1
  match vs, hlen, hv0 with
  | [w], _, hv0 =>
    cases hv0
    cases rv0 with
    | lst hS hl2 hr => exact ⟨_, _, rfl, hS, hl2, hr⟩
theorem ev_srt1 {p : Pos} {a : Expr} {g : AF} (hm : X.mg "sorted" = none) (ha : EvA X cl W [a] g) (hg : Gl X "sorted" := by rfl) (hs : starEach [a] X.env = (false, eval a X.env) :: starEach [] X.env := by rfl) (hpl : (backTo pos (starEach [] X.env)).any (·.1) = false := by rfl) : EvE X cl W (.Call (.Name "sorted" p) [a] [] pos) (eCall srt1 g) := by
  obtain ⟨t, pt, st, hl⟩ := ha
  refine ⟨_, pe_callB cr_sortedI hg hm PyProof.Rows.boot_sorted pt (by decide) (by decide) hs hpl, fun ρ σ G H Fs env Q hq => ?_⟩
  refine st.use env PV.mono hq fun ds vs G1 H1 e1 p1 env1 r1 hq1 => ?_
  match ds, r1, hq1 with
  | [.lst es], r1, hq1 =>
    rw [srt1_eq] at hq1
    cases ei : intsOf es with
    | none => rw [ei] at hq1; exact hq1.elim
    | some ns =>
      rw [ei] at hq1
      obtain rfl := intsOf_eq ei
      obtain ⟨a0, us, rfl, hS, hl2, hr⟩ := one_lst r1
      obtain rfl := repL_intsV hl2 hr
      refine ⟨_, ns, rfl, .inl (rdEx env1.gh hS), fun ns' q hp hpw hq0 => ?_⟩
      obtain rfl : ns' = srt ns := sorted_unique (hp.trans (srt_perm ns).symm) hpw (srt_sorted ns)
      exact hq1 _ G1 _ _ (px_new env1.gh hq0) (own1 upd_same (repL_ints (srt ns))) (foo1 env1.gh hq0)
end
end B
namespace RT
open PySem PySem.Spec PyProof.Rows L2
section
variable {prog : Program} {w : World} {A : Around} {E : Value → Shared → Prop} {s : Shared}
end
section
variable {X : Cx}
/-- list(reversed(x)), x a list: a new list -/
def tLstRev (K : PySem.W.Frag) (te : TE) : TE := fun σ H Q => te σ H fun v H1 => ∃ (a : Addr) (xs : List V), v = .ref a ∧ SqL K H1 a xs ∧ ∀ q, H1 q = none → Q (.ref q) (upd H1 q (.lst xs.reverse))
end
end RT
namespace B
open PySem L2
section
variable {X : Cx} {cl : Clx} {W : WX} {pos : Pos}
def rvV (x : Vl) : R Vl := match x.d with
  | .lst ds => if x.k ≤ 1 then .ok ⟨false, 1, .lst ds.reverse⟩ else .bad
  | _ => .bad
@[simp] theorem rvV_eq (b : Bool) (k : Nat) (ds : List D) : rvV ⟨b, k, .lst ds⟩ = if k ≤ 1 then .ok ⟨false, 1, .lst ds.reverse⟩ else .bad := rfl
end
end B
namespace B
open PySem L2
/-! ### texts: index, slice, times, int -/
def repS (z : Str) (n : Int) : Str := if n < 1 then Str.empty else if (n == 1 || z.length == 0) = true then z else ⟨(List.replicate n.toNat z.cps).foldl (· ++ ·) #[]⟩
def rMulS : R2 := fun x y H Q => ∃ z n, x = .str z ∧ y = .int n ∧ small62 n ∧ z.length * n.toNat ≤ 10000 ∧ Q (.str (repS z n)) H
theorem fold_size (c : Array Nat) : ∀ (m : Nat) (a : Array Nat), ((List.replicate m c).foldl (· ++ ·) a).size = a.size + c.size * m
  | 0, a => by simp
  | m + 1, a => by
    rw [List.replicate_succ, List.foldl_cons, fold_size c m, Array.size_append, Nat.mul_succ]; omega
theorem repS_len (z : Str) (n : Int) : (repS z n).length ≤ z.length * n.toNat := by
  unfold repS
  split
  · exact Nat.zero_le _
  · rename_i h1
    have : 1 ≤ n.toNat := by omega
    split
    · exact Nat.le_mul_of_pos_right _ this
    · show ((List.replicate n.toNat z.cps).foldl (· ++ ·) #[]).size ≤ z.cps.size * n.toNat
      rw [fold_size]; simp
theorem op_mulS {X : Cx} : OpR X (binaryOp .Mult) rMulS := by
  intro pins s σ H x y v u Q I rx ry h
  obtain ⟨z, n, rfl, rfl, hs, hl, q⟩ := h
  obtain ⟨t, rfl⟩ := rx
  obtain ⟨t', rfl⟩ := ry
  obtain ⟨s1, s2⟩ := hs
  have e62 : (2 : Int) ^ 62 = 4611686018427387904 := by decide
  have e63 : (2 : Int) ^ 63 = 9223372036854775808 := by decide
  have hl2 : (repS z n).length ≤ 10000 := Nat.le_trans (repS_len z n) hl
  refine PySem.P.mul_str (by
    rw [decide_eq_false (by omega), decide_eq_false (by omega)]; rfl) (fun h1 h2 => ?_) (fun h1 h2 => ?_) ?_
  · have : (z.length : Int) * n ≤ 10000 := by
      have e : n = (n.toNat : Int) := by omega
      rw [e]; exact_mod_cast hl
    have := Int.le_ediv_of_mul_le (c := n) (a := (z.length : Int)) (b := 2 ^ 63 - 1) (by omega) (by omega)
    omega
  · unfold Builtin.Str.tooLong
    exact decide_eq_false (by rw [sizeLine_eq]; omega)
  · unfold repS at q hl2
    split
    · rename_i h1
      rw [if_pos h1] at q
      exact ⟨by decide, .str _, H, I.tok _, ⟨_, rfl⟩, q⟩
    · rename_i h1
      rw [if_neg h1] at q hl2
      split
      · rename_i h2
        rw [if_pos h2] at q
        exact ⟨.str _, H, I.tok _, ⟨_, rfl⟩, q⟩
      · rename_i h2
        rw [if_neg h2] at q hl2
        refine ⟨?_, .str _, H, I.tok _, ⟨_, rfl⟩, q⟩
        exact Nat.le_trans hl2 (by rw [sizeLine_eq]; omega)
section
variable {X : Cx} {cl : Clx} {W : WX} {pos : Pos}
open Classical in
noncomputable def mulS (x y : D) : Option D := match x, y with
  | .str z, .int n => if small62 n ∧ z.length * n.toNat ≤ 10000 then some (.str (repS z n)) else none
  | _, _ => none
theorem mulS_eq {z : Str} {n : Int} (h : small62 n ∧ z.length * n.toNat ≤ 10000) : mulS (.str z) (.int n) = some (.str (repS z n)) := if_pos h
theorem os_mulS {K : PySem.W.Frag} {c : Str → Addr} : OpS K c rMulS mulS := by
  intro k l x y dx dy d F1 F2 G H Q gh o1 o2 e q
  cases dx with
  | str z =>
    cases dy with
    | int n =>
      by_cases h : small62 n ∧ z.length * n.toNat ≤ 10000
      · rw [mulS_eq h] at e
        cases e
        exact ⟨z, n, o1.str, o2.int, h.1, h.2, q _ (.str _)⟩
      · have : mulS (.str z) (.int n) = none := if_neg h
        rw [this] at e
        cases e
    | _ => cases e
  | _ => cases dy <;> cases e
theorem ev_mulS {a b : Expr} {fa fb : EF} (ha : EvE X cl W a fa) (hb : EvE X cl W b fb) : EvE X cl W (.BinOp a .Mult b pos) (eOp mulS fa fb) := ev_op op_mulS os_mulS ha hb
def ixS (x y : D) : Option D := match x, y with
  | .str z, .int i => if z.length ≤ 10000 then (atI z.cps.toList i).map fun c => .str ⟨#[c]⟩ else none
  | _, _ => none
theorem ixS_eq {z : Str} {i : Int} {c : Nat} (h : z.length ≤ 10000) (e : atI z.cps.toList i = some c) : ixS (.str z) (.int i) = some (.str ⟨#[c]⟩) := by
  show (if z.length ≤ 10000 then (atI z.cps.toList i).map fun c => D.str ⟨#[c]⟩ else none) = _
  rw [if_pos h, e]; rfl
theorem os_ixS {K : PySem.W.Frag} {c : Str → Addr} : OpS K c rIxS ixS := by
  intro k l x y dx dy d F1 F2 G H Q gh o1 o2 e q
  cases dx with
  | str z =>
    cases dy with
    | int i =>
      replace e : (if z.length ≤ 10000 then (atI z.cps.toList i).map fun c => D.str ⟨#[c]⟩ else none) = some d := e
      by_cases h : z.length ≤ 10000
      · rw [if_pos h] at e
        cases z2 : atI z.cps.toList i with
        | none => rw [z2] at e; cases e
        | some c =>
          rw [z2] at e
          cases e
          exact ⟨z, i, c, o1.str, o2.int, le_line2 h, z2, q _ (.str _)⟩
      · rw [if_neg h] at e
        cases e
    | _ => cases e
  | _ => cases dy <;> cases e
theorem ev_ixS {a b : Expr} {f g : EF} (ha : EvE X cl W a f) (hb : EvE X cl W b g) (hs : PlainIx b := by exact fun _ _ => rfl) : EvE X cl W (.Subscript a b pos) (eOp ixS f g) := by
  obtain ⟨ta, pa, sa⟩ := ha
  obtain ⟨tb, pb, sb⟩ := hb
  exact ⟨_, pe_ix ix_str pa pb hs, semOp os_ixS sa sb⟩
def cutT (x : Vl) (lo hi : Option Int) : R Vl := match x.d with
  | .str z => if z.length ≤ 10000 then .ok (sh (.str (cutS z lo hi))) else .bad
  | _ => .bad
def eCutS (a : EF) (lo hi : OF) : EF := fun ρ => (a ρ).bind fun x => (lo ρ).bind fun l => (hi ρ).bind fun h => cutT x l h
@[simp] theorem eCutS_eq (a : EF) (lo hi : OF) (ρ : Env) : eCutS a lo hi ρ = (a ρ).bind fun x => (lo ρ).bind fun l => (hi ρ).bind fun h => cutT x l h := rfl
@[simp] theorem cutT_eq (b : Bool) (k : Nat) (z : Str) (lo hi : Option Int) : cutT ⟨b, k, .str z⟩ lo hi = if z.length ≤ 10000 then .ok (sh (.str (cutS z lo hi))) else .bad := rfl
theorem ev_cutS {a : Expr} {lo hi : Option Expr} {p2 : Pos} {f : EF} {l u : OF} (ha : EvE X cl W a f) (hl : EvO X cl W lo l) (hu : EvO X cl W hi u) : EvE X cl W (.Subscript a (.Slice lo hi none p2) pos) (eCutS f l u) := by
  obtain ⟨t, p, s⟩ := ha
  obtain ⟨t1, q1, s1⟩ := hl
  obtain ⟨t2, q2, s2⟩ := hu
  refine ⟨_, pe_slice sl_str p q1 q2, fun ρ σ G H Fs env Q hq => ?_⟩
  refine s.use env PV.mono hq fun x v G1 H1 F1 _ p1 env1 o1 f1 hq1 => ?_
  refine s1.use env1 PV.mono hq1 fun i G2 H2 _ p2 env2 hq2 => ?_
  refine s2.use env2 PV.mono hq2 fun j G3 H3 _ p3 env3 hq3 => ?_
  have o3 := (o1.px p2).px p3
  obtain ⟨b, k, d⟩ := x
  cases d with
  | str z =>
    rw [cutT_eq] at hq3
    by_cases h : z.length ≤ 10000
    · rw [if_pos h] at hq3
      exact ⟨z, o3.str, le_line2 h, hq3 _ G3 H3 (fun _ => False) (Px.refl env3.gh) (Rep.str _) noFoo⟩
    · rw [if_neg h] at hq3
      exact hq3.elim
  | _ => exact hq3.elim
def intT (x : Vl) : R Vl := match x.d with
  | .str z => if z.length ≤ 640 then (match PySem.intText? z with
    | some n => .ok (sh (.int n))
    | none => .bad) else .bad
  | _ => .bad
@[simp] theorem intT_eq (b : Bool) (k : Nat) (z : Str) : intT ⟨b, k, .str z⟩ = if z.length ≤ 640 then (match PySem.intText? z with
    | some n => .ok (sh (.int n))
    | none => .bad) else .bad := rfl
theorem ev_intS {p : Pos} {e : Expr} {a : EF} (hm : X.mg "int" = none) (ha : EvE X cl W e a) (hg : Gl X "int" := by rfl) (hs : starEach [e] X.env = (false, eval e X.env) :: starEach [] X.env := by rfl) : EvE X cl W (.Call (.Name "int" p) [e] [] pos) (eB1 intT a) := by
  refine ev_B1T call_int_str ?_ ?_ hm PyProof.Rows.boot_int ha hg (by decide) (by decide) hs
  · intro x v F G H Q W σ gh o hq _
    obtain ⟨b, k, d⟩ := x
    cases d with
    | str z =>
      rw [intT_eq] at hq
      by_cases h : z.length ≤ 640
      · rw [if_pos h] at hq
        cases e : PySem.intText? z with
        | none => rw [e] at hq; exact hq.elim
        | some n =>
          rw [e] at hq
          exact ⟨z, n, by rw [o.str], e, h, hq _ G H (fun _ => False) (Px.refl gh) (Rep.int _) noFoo⟩
      · rw [if_neg h] at hq
        exact hq.elim
    | _ => exact hq.elim
  · intro x c
    obtain ⟨b, k, d⟩ := x
    cases d <;> intro h <;> first | cases h | skip
    rw [intT_eq] at h
    split at h
    · split at h <;> cases h
    · cases h
end
end B
namespace B
open PySem L2
/-! ### x in xs: texts, lists and tuples of ints or of texts -/
def strsOf : List D → Option (List Str)
  | [] => some []
  | .str i :: r => (strsOf r).map (i :: ·)
  | _ => none
@[simp] theorem strsOf_map : ∀ xs : List Str, strsOf (xs.map .str) = some xs
  | [] => rfl
  | x :: xs => by simp [strsOf, strsOf_map xs]
@[simp] theorem strsOf_nil : strsOf [] = some [] := rfl
theorem strsOf_eq : ∀ {ds : List D} {ns : List Str}, strsOf ds = some ns → ds = ns.map .str
  | [], ns, h => by cases h; rfl
  | .str i :: r, ns, h => by
    unfold strsOf at h
    cases e : strsOf r with
    | none => rw [e] at h; cases h
    | some ms => rw [e] at h; cases h; rw [strsOf_eq e]; rfl
  | .non :: r, ns, h => by cases h
  | .bl _ :: r, ns, h => by cases h
  | .int _ :: r, ns, h => by cases h
  | .lst _ :: r, ns, h => by cases h
  | .tup _ :: r, ns, h => by cases h
  | .obj _ _ :: r, ns, h => by cases h
  | .exo _ :: r, ns, h => by cases h
  | .dct _ :: r, ns, h => by cases h
  | .dci _ :: r, ns, h => by cases h
def inL (x : D) (ds : List D) : Option Bool := match x with
  | .int i => (intsOf ds).map fun ns => decide (i ∈ ns)
  | .str i => (strsOf ds).map fun ns => decide (i ∈ ns)
  | _ => none
@[simp] theorem inL_int (i : Int) (ds : List D) : inL (.int i) ds = (intsOf ds).map fun ns => decide (i ∈ ns) := rfl
@[simp] theorem inL_str (i : Str) (ds : List D) : inL (.str i) ds = (strsOf ds).map fun ns => decide (i ∈ ns) := rfl
def inB (x : D) : D → Option Bool
  | .str j => match x with
    | .str i => some (inS i j)
    | _ => none
  | .lst ds => inL x ds
  | .tup ds => inL x ds
  | _ => none
@[simp] theorem inB_s (i j : Str) : inB (.str i) (.str j) = some (inS i j) := rfl
@[simp] theorem inB_l (x : D) (ds : List D) : inB x (.lst ds) = inL x ds := rfl
@[simp] theorem inB_t (x : D) (ds : List D) : inB x (.tup ds) = inL x ds := rfl
def inX (x y : D) : Option D := (inB x y).map .bl
def ninX (x y : D) : Option D := (inB x y).map fun b => .bl (!b)
@[simp] theorem inX_eq (x y : D) : inX x y = (inB x y).map .bl := rfl
@[simp] theorem ninX_eq (x y : D) : ninX x y = (inB x y).map fun b => .bl (!b) := rfl
theorem inV_ints (i : Int) : ∀ ns : List Int, inV (.int i) (ns.map .int) = decide (i ∈ ns)
  | [] => rfl
  | n :: ns => by
    have ih := inV_ints i ns
    unfold inV at ih ⊢
    rw [List.map_cons, List.any_cons, ih]
    have e : L2.eqV (.int n) (.int i) = decide (n = i) := rfl
    rw [e]
    by_cases h : i = n
    · subst h; simp
    · have : ¬ n = i := fun z => h z.symm
      simp [h, this]
theorem inV_strs (i : Str) : ∀ ns : List Str, inV (.str i) (ns.map .str) = decide (i ∈ ns)
  | [] => rfl
  | n :: ns => by
    have ih := inV_strs i ns
    unfold inV at ih ⊢
    rw [List.map_cons, List.any_cons, ih]
    have e : L2.eqV (.str n) (.str i) = decide (n = i) := rfl
    rw [e]
    by_cases h : i = n
    · subst h; simp
    · have : ¬ n = i := fun z => h z.symm
      simp [h, this]
abbrev rInX (K : PySem.W.Frag) (neg : Bool) : R2 := fun x y H Q => (∃ i j, x = .str i ∧ y = .str j ∧ Q (.bl (if neg then !inS i j else inS i j)) H) ∨ rIn K neg x y H Q
theorem own_items {K : PySem.W.Frag} {cl : Str → Addr} {H G : Hp} {α : Type} {d : α → D} {u : α → V} (hu : ∀ v a m F, Own K cl H G m v (d a) F → v = u a) : ∀ {ns : List α} {vs : List V}, vs.length = (ns.map d).length → (∀ (i : Nat) v e, vs[i]? = some v → (ns.map d)[i]? = some e → ∃ m F', Own K cl H G m v e F') → vs = ns.map u
  | [], [], _, _ => rfl
  | n :: ns, v :: vs, hl, hr => by
    obtain ⟨m, F', h0⟩ := hr 0 v (d n) rfl rfl
    rw [List.map_cons, hu v n m F' h0, own_items hu (ns := ns) (vs := vs) (by simpa using hl) fun i v e h1 h2 => hr (i + 1) v e (by simpa using h1) (by simpa using h2)]
  | n :: ns, [], hl, _ => by simp at hl
  | [], v :: vs, hl, _ => by simp at hl
theorem all_flat_i : ∀ ns : List Int, (ns.map V.int).all flatV = true
  | [] => rfl
  | n :: ns => by rw [List.map_cons, List.all_cons, all_flat_i ns]; rfl
theorem all_flat_s : ∀ ns : List Str, (ns.map V.str).all flatV = true
  | [] => rfl
  | n :: ns => by rw [List.map_cons, List.all_cons, all_flat_s ns]; rfl
theorem in_core {K : PySem.W.Frag} {c : Str → Addr} {neg : Bool} {k l : Nat} {x y : V} {dx dy : D} {b : Bool} {F1 F2 : Addr → Prop} {G H : Hp} {Q : VK} (gh : Same G H) (o1 : Own K c H G k x dx F1) (o2 : Own K c H G l y dy F2) (e : inB dx dy = some b) (q : Q (.bl (if neg then !b else b)) H) : rInX K neg x y H Q := by
  have seq : ∀ (p : Addr) (vs : List V) (ds : List D), y = .ref p → (SqL K H p vs ∨ SqT K H p vs) → vs.length = ds.length → (∀ (i : Nat) v d, vs[i]? = some v → ds[i]? = some d → ∃ m F', Own K c H G m v d F') → inL dx ds = some b → rInX K neg x y H Q := by
    intro p vs ds hy hs hl hr hin
    cases dx with
    | int i =>
      rw [inL_int] at hin
      cases ei : intsOf ds with
      | none => rw [ei] at hin; cases hin
      | some ns =>
        rw [ei] at hin
        cases hin
        obtain rfl := intsOf_eq ei
        have hv : vs = ns.map V.int := own_items (fun _ _ _ _ o => o.int) hl hr
        subst hv
        exact .inr ⟨p, _, hy, hs, by rw [o1.int]; rfl, all_flat_i ns, by rw [o1.int, inV_ints]; exact q⟩
    | str i =>
      rw [inL_str] at hin
      cases ei : strsOf ds with
      | none => rw [ei] at hin; cases hin
      | some ns =>
        rw [ei] at hin
        cases hin
        obtain rfl := strsOf_eq ei
        have hv : vs = ns.map V.str := own_items (fun _ _ _ _ o => o.str) hl hr
        subst hv
        exact .inr ⟨p, _, hy, hs, by rw [o1.str]; rfl, all_flat_s ns, by rw [o1.str, inV_strs]; exact q⟩
    | _ => cases hin
  cases dy with
  | str j =>
    cases dx with
    | str i => cases e; exact .inl ⟨i, j, o1.str, o2.str, q⟩
    | _ => cases e
  | lst ds =>
    obtain ⟨p, vs, hy, hS, hl, hr⟩ := o2.lstR gh
    exact seq p vs ds hy (.inl (.inl hS)) hl (fun i v d h1 h2 => by obtain ⟨F', o', _⟩ := hr i v d h1 h2; exact ⟨_, F', o'⟩) e
  | tup ds =>
    obtain ⟨p, vs, hy, hS, hl, hr⟩ := o2.tupR gh
    exact seq p vs ds hy (.inr (.inl hS)) hl (fun i v d h1 h2 => by obtain ⟨F', o', _⟩ := hr i v d h1 h2; exact ⟨_, F', o'⟩) e
  | _ => cases e
section
variable {X : Cx} {cl : Clx} {W : WX} {pos : Pos}
theorem os_ninX {K : PySem.W.Frag} {c : Str → Addr} : OpS K c (rInX K true) ninX := by
  intro k l x y dx dy d F1 F2 G H Q gh o1 o2 e q
  cases eb : inB dx dy with
  | none => rw [ninX_eq, eb] at e; cases e
  | some b =>
    rw [ninX_eq, eb] at e
    cases e
    exact in_core gh o1 o2 eb (q _ (.bl (!b)))
theorem op_ninX : OpR X (compareOp .NotIn) (rInX X.K true) := OpR.or (op_notin_str) op_notIn_seq
theorem et_ninX {a b : Expr} {f g : EF} (ha : EvE X cl W a f) (hb : EvE X cl W b g) (hm : behindInMarks .NotIn b = false := by rfl) : EvT X cl W (.Compare a [.NotIn] [b] pos) (tV (eOp ninX f g)) := by
  obtain ⟨ta, pa, sa⟩ := ha
  obtain ⟨tb, pb, sb⟩ := hb
  exact ⟨_, pt_cmpR op_ninX pa pb hm, semTest (semOp os_ninX sa sb)⟩
end
end B
namespace B
open PySem L2
/-! ### xs.index(x), s.join(xs), s.split(t) -/
def fstI (x : Int) : List Int → Option Nat
  | [] => none
  | y :: ys => if y = x then some 0 else (fstI x ys).map (· + 1)
/-- the first place of the number in the list of numbers -/
def ixO (ds : List D) : D → Option Nat
  | .int x => (intsOf ds).bind (fstI x)
  | _ => none
@[simp] theorem ixO_int (ds : List D) (x : Int) : ixO ds (.int x) = (intsOf ds).bind (fstI x) := rfl
def natR : Option Nat → R Vl
  | some j => .ok (sh (.int (j : Nat)))
  | none => .bad
@[simp] theorem natR_some (j : Nat) : natR (some j) = .ok (sh (.int (j : Nat))) := rfl
def mthL (f : List D → D → R Vl) (r : R Vl) : D → R Vl
  | .lst ds => r.bind fun y => f ds y.d
  | _ => .bad
@[simp] theorem mthL_l (f : List D → D → R Vl) (r : R Vl) (ds : List D) : mthL f r (.lst ds) = r.bind fun y => f ds y.d := rfl
def eIxO (a b : EF) : EF := fun ρ => (a ρ).bind fun x => mthL (fun ds y => natR (ixO ds y)) (b ρ) x.d
@[simp] theorem eIxO_eq (a b : EF) (ρ : Env) : eIxO a b ρ = (a ρ).bind fun x => mthL (fun ds y => natR (ixO ds y)) (b ρ) x.d := rfl
section
variable {X : Cx} {cl : Clx} {W : WX} {pos : Pos}
end
/-! join -/
def joinO (a : Str) (ds : List D) : Option Str := (strsOf ds).bind fun ys => if (ys.map (·.length)).sum + ys.length * a.length ≤ 10000 then some (Txt.join a ys) else none
theorem joinO_map (a : Str) (ys : List Str) (h : (ys.map (·.length)).sum + ys.length * a.length ≤ 10000) : joinO a (ys.map .str) = some (Txt.join a ys) := by
  unfold joinO
  rw [strsOf_map, Option.bind_some, if_pos h]
def strR : Option Str → R Vl
  | some j => .ok (sh (.str j))
  | none => .bad
@[simp] theorem strR_some (j : Str) : strR (some j) = .ok (sh (.str j)) := rfl
def mthS (f : Str → D → R Vl) (r : R Vl) : D → R Vl
  | .str s => r.bind fun y => f s y.d
  | _ => .bad
@[simp] theorem mthS_s (f : Str → D → R Vl) (r : R Vl) (s : Str) : mthS f r (.str s) = r.bind fun y => f s y.d := rfl
def joinV (s : Str) : D → R Vl
  | .lst ds => strR (joinO s ds)
  | .tup ds => strR (joinO s ds)
  | _ => .bad
@[simp] theorem joinV_l (s : Str) (ds : List D) : joinV s (.lst ds) = strR (joinO s ds) := rfl
@[simp] theorem joinV_t (s : Str) (ds : List D) : joinV s (.tup ds) = strR (joinO s ds) := rfl
def eJoin (a b : EF) : EF := fun ρ => (a ρ).bind fun x => mthS joinV (b ρ) x.d
@[simp] theorem eJoin_eq (a b : EF) (ρ : Env) : eJoin a b ρ = (a ρ).bind fun x => mthS joinV (b ρ) x.d := rfl
theorem joinO_some {a r : Str} {ds : List D} (h : joinO a ds = some r) : ∃ ys : List Str, ds = ys.map .str ∧ (ys.map (·.length)).sum + ys.length * a.length ≤ 10000 ∧ r = Txt.join a ys := by
  unfold joinO at h
  cases e : strsOf ds with
  | none => rw [e] at h; cases h
  | some ys =>
    rw [e, Option.bind_some] at h
    by_cases z : (ys.map (·.length)).sum + ys.length * a.length ≤ 10000
    · rw [if_pos z] at h
      cases h
      exact ⟨ys, strsOf_eq e, z, rfl⟩
    · rw [if_neg z] at h; cases h
section
variable {X : Cx} {cl : Clx} {W : WX} {pos : Pos}
theorem ev_join {o e : Expr} {f g : EF} {apos : Pos} (ho : EvE X cl W o f) (he : EvE X cl W e g) (hbase : attributeBase o "join" X.env (eval o X.env) = eval o X.env := by rfl)
    (hfew : ((backTo pos (starEach (e :: []) X.env)).all (fun x => !x.1) && (backToKw pos (keywordEach [] X.env)).all (fun x => x.1.isSome)
      && decide ((e :: ([] : List Expr)).length + ([] : List Keyword).length + (if ([] : List Keyword).isEmpty then 0 else 1) < 30)) = true := by rfl) (hline : (apos.endLine == pos.line) = true := by rfl) (hs : starEach (e :: []) X.env = (false, eval e X.env) :: starEach [] X.env := by rfl) (hplain : (backTo pos (starEach [] X.env)).any (·.1) = false := by rfl) : EvE X cl W (.Call (.Attribute o "join" apos) [e] [] pos) (eJoin f g) := by
  obtain ⟨to, po, so⟩ := ho
  obtain ⟨ti, pi, si⟩ := he
  refine ⟨_, pe_bm PySem.F.plainAttrs_str PySem.F.slot_str_join PySem.F.type_str_join mt_join po (pa_cons pi pa_nil hs) hbase hfew hline hs hplain, fun ρ σ G H Fs env Q hq => ?_⟩
  refine so.use env PV.mono hq fun x v G1 H1 F1 _ p1 env1 o1 f1 hq1 => ?_
  obtain ⟨b1, k, d⟩ := x
  cases d with
  | str s =>
    have hv := o1.str
    subst hv
    refine ⟨rfl, ?_⟩
    rw [mthS_s] at hq1
    refine si.use env1 PV.mono hq1 fun y u G2 H2 F2 _ p2 env2 o2 f2 hq2 => ?_
    obtain ⟨b2, l, e2⟩ := y
    cases e2 with
    | lst ds =>
      rw [joinV_l] at hq2
      cases ej : joinO s ds with
      | none => rw [ej] at hq2; exact hq2.elim
      | some r =>
        rw [ej, strR_some] at hq2
        obtain ⟨ys, rfl, hz, rfl⟩ := joinO_some ej
        obtain ⟨p, vs, rfl, hS, hl, hr⟩ := o2.lstR env2.gh
        have hv : vs = ys.map V.str := own_items (fun _ _ _ _ o => o.str) hl fun i v d h1 h2 => by obtain ⟨F', o', _⟩ := hr i v d h1 h2; exact ⟨_, F', o'⟩
        subst hv
        exact ⟨s, p, ys, rfl, rfl, .inl (.inl hS), by omega, hq2 _ G2 H2 (fun _ => False) (Px.refl env2.gh) (Rep.str _) noFoo⟩
    | tup ds =>
      rw [joinV_t] at hq2
      cases ej : joinO s ds with
      | none => rw [ej] at hq2; exact hq2.elim
      | some r =>
        rw [ej, strR_some] at hq2
        obtain ⟨ys, rfl, hz, rfl⟩ := joinO_some ej
        obtain ⟨p, vs, rfl, hS, hl, hr⟩ := o2.tupR env2.gh
        have hv : vs = ys.map V.str := own_items (fun _ _ _ _ o => o.str) hl fun i v d h1 h2 => by obtain ⟨F', o', _⟩ := hr i v d h1 h2; exact ⟨_, F', o'⟩
        subst hv
        exact ⟨s, p, ys, rfl, rfl, .inr (.inl hS), by omega, hq2 _ G2 H2 (fun _ => False) (Px.refl env2.gh) (Rep.str _) noFoo⟩
    | _ => exact hq2.elim
  | _ => exact hq1.elim
end
/-! split -/
def splR (a : Str) : D → R Vl
  | .str b => if b.length ≠ 0 ∧ a.length ≤ 10000 then .ok ⟨false, 1, .lst ((Txt.split a b).map .str)⟩ else .bad
  | _ => .bad
@[simp] theorem splR_s (a b : Str) : splR a (.str b) = if b.length ≠ 0 ∧ a.length ≤ 10000 then .ok ⟨false, 1, .lst ((Txt.split a b).map .str)⟩ else .bad := rfl
def eSpl (a b : EF) : EF := fun ρ => (a ρ).bind fun x => mthS splR (b ρ) x.d
@[simp] theorem eSpl_eq (a b : EF) (ρ : Env) : eSpl a b ρ = (a ρ).bind fun x => mthS splR (b ρ) x.d := rfl
theorem repL_strs {K : PySem.W.Frag} {cl : Str → Addr} {G : Hp} (ns : List Str) : RepL K cl G (ns.map V.str) (ns.map D.str) := by
  refine ⟨by simp, fun i v d h1 h2 => ?_⟩
  rw [List.getElem?_map] at h1 h2
  cases e : ns[i]? with
  | none => rw [e] at h1; cases h1
  | some x => rw [e] at h1 h2; cases h1; cases h2; exact Rep.str _
section
variable {X : Cx} {cl : Clx} {W : WX} {pos : Pos}
theorem ev_split {o e : Expr} {f g : EF} {apos : Pos} (ho : EvE X cl W o f) (he : EvE X cl W e g) (hbase : attributeBase o "split" X.env (eval o X.env) = eval o X.env := by rfl)
    (hfew : ((backTo pos (starEach (e :: []) X.env)).all (fun x => !x.1) && (backToKw pos (keywordEach [] X.env)).all (fun x => x.1.isSome)
      && decide ((e :: ([] : List Expr)).length + ([] : List Keyword).length + (if ([] : List Keyword).isEmpty then 0 else 1) < 30)) = true := by rfl) (hline : (apos.endLine == pos.line) = true := by rfl) (hs : starEach (e :: []) X.env = (false, eval e X.env) :: starEach [] X.env := by rfl) (hplain : (backTo pos (starEach [] X.env)).any (·.1) = false := by rfl) : EvE X cl W (.Call (.Attribute o "split" apos) [e] [] pos) (eSpl f g) := by
  obtain ⟨to, po, so⟩ := ho
  obtain ⟨ti, pi, si⟩ := he
  refine ⟨_, pe_bm PySem.F.plainAttrs_str PySem.F.slot_str_split PySem.F.type_str_split mt_split po (pa_cons pi pa_nil hs) hbase hfew hline hs hplain, fun ρ σ G H Fs env Q hq => ?_⟩
  refine so.use env PV.mono hq fun x v G1 H1 F1 _ p1 env1 o1 f1 hq1 => ?_
  obtain ⟨b1, k, d⟩ := x
  cases d with
  | str s =>
    have hv := o1.str
    subst hv
    refine ⟨rfl, ?_⟩
    rw [mthS_s] at hq1
    refine si.use env1 PV.mono hq1 fun y u G2 H2 F2 _ p2 env2 o2 f2 hq2 => ?_
    obtain ⟨b2, l, e2⟩ := y
    cases e2 with
    | str z =>
      rw [splR_s] at hq2
      by_cases h : z.length ≠ 0 ∧ s.length ≤ 10000
      · rw [if_pos h] at hq2
        refine ⟨s, z, rfl, by rw [o2.str], by simpa using h.1, by rw [sizeLine_eq]; omega, fun p hp => ?_⟩
        exact hq2 _ G2 _ _ (px_new env2.gh hp) (own1 upd_same (repL_strs _)) (foo1 env2.gh hp)
      · rw [if_neg h] at hq2; exact hq2.elim
    | _ => exact hq2.elim
  | _ => exact hq1.elim
end
end B
namespace B
open PySem L2
/-! ### for over numbers of one's own that the loop only reads -/
open Classical in
noncomputable def itL (i : Nat) (es : List D) (g : GF) (f : SF) : List D → Env → RS
  | [], ρ => .ok .nx ρ
  | d :: ds, ρ => match fTurn g f d ρ with
    | .inl ρ1 => if ρ1[i]? = some (some (1, .lst es)) then itL i es g f ds ρ1 else .bad
    | .inr r => r
@[simp] theorem itL_nil (i : Nat) (es : List D) (g : GF) (f : SF) (ρ : Env) : itL i es g f [] ρ = .ok .nx ρ := rfl
open Classical in
noncomputable def lvS (i : Nat) (w : List D → IF) (g : GF) (f : SF) (ρ : Env) : Option Slot → RS
  | some (some (l, .lst es)) => if l = 1 ∧ (intsOf es).isSome = true then toS (w es ρ) ρ fun ds => itL i es g f ds ρ else .bad
  | _ => .bad
@[simp] theorem lvS_eq (i : Nat) (w : List D → IF) (g : GF) (f : SF) (ρ : Env) (l : Nat) (es : List D) : lvS i w g f ρ (some (some (l, .lst es))) = if l = 1 ∧ (intsOf es).isSome = true then toS (w es ρ) ρ fun ds => itL i es g f ds ρ else .bad := rfl
noncomputable def sForL (i : Nat) (w : List D → IF) (g : GF) (f : SF) : SF := fun ρ => lvS i w g f ρ ρ[i]?
@[simp] theorem sForL_eq (i : Nat) (w : List D → IF) (g : GF) (f : SF) (ρ : Env) : sForL i w g f ρ = lvS i w g f ρ ρ[i]? := rfl
def YieldsL (K : PySem.W.Frag) (cl : Str → Addr) (G0 : Hp) (J : It) (ds : List D) (C : Hp → Prop) : Prop := ∀ (G H : Hp) (i : Nat), Same G0 G → Same G H → C H →
  (∀ d, ds[i]? = some d → J.go i H ∧ ∀ v H', J.yld i H v H' → ∃ G', Px G H G' H' ∧ Rep K cl G' v d) ∧ (ds[i]? = none → J.stop i H)
def PYL (K : PySem.W.Frag) (cl : Str → Addr) (C : Hp → Prop) (Q : It → Hp → Prop) (ds : List D) (G H : Hp) : Prop := ∀ J G' H', Px G H G' H' → YieldsL K cl G' J ds C → Q J H'
theorem PYL.mono {K : PySem.W.Frag} {cl : Str → Addr} {C : Hp → Prop} {Q : It → Hp → Prop} : Mono (PYL K cl C Q) := fun x G H G' H' p h J G2 H2 p2 y => h J G2 H2 (p.trans p2) y
def SemIL (K : PySem.W.Frag) (cl : Clx) (W : WX) (i : Nat) (t : TI) (w : List D → IF) : Prop := ∀ ρ σ G H Fs p vs es, EnvR K cl ρ σ G H Fs → σ[i]? = some (some (.ref p)) → H p = some (.lst vs) → RepL K cl.c G vs es →
  ∀ Q, PostG cl W σ G H (PYL K cl.c (fun H => H p = some (.lst vs)) Q) (w es ρ) → t σ H Q
def EvIL (X : Cx) (cl : Clx) (W : WX) (i : Nat) (tg e : Expr) (w : List D → IF) : Prop := ∃ t, PI X tg e t ∧ SemIL X.K cl W i t w
section
variable {K : PySem.W.Frag} {cl : Clx} {W : WX} {ρ : Env} {σ : L2.St} {G H G' H' : Hp} {Fs Fs' : Foot} {c0 : Str → Addr}
theorem EnvR.unfx' {j : Nat} {v : V} (env : EnvR K (cl.fx j v) ρ σ G H Fs) (hx : cl.fix j = none ∨ cl.fix j = some v) : EnvR K cl ρ σ G H Fs := by
  rcases hx with hx | hx
  · exact env.unfx hx
  · refine ⟨env.len, env.gh, env.own, env.dis, env.dom, fun n u h => env.fx n u ?_⟩
    show (if n = j then some v else cl.fix n) = some u
    by_cases e : n = j
    · rw [if_pos e]; rw [e, hx] at h; exact h
    · rw [if_neg e]; exact h
theorem PostS.unfx' {j : Nat} {v : V} {U : Addr → Prop} {D : Ends} {r : RS} (hx : cl.fix j = none ∨ cl.fix j = some v) (h : PostS K cl W U G H D r) : PostS K (cl.fx j v) W U G H D r := by
  cases r with
  | bad => exact h
  | ex c ρ => exact fun σ' G' H' Fs' e s => h σ' G' H' Fs' (e.unfx' hx) s
  | ok fl ρ =>
    cases fl with
    | nx => exact fun σ' G' H' Fs' e s => h σ' G' H' Fs' (e.unfx' hx) s
    | bk => exact fun σ' G' H' Fs' e s => h σ' G' H' Fs' (e.unfx' hx) s
    | ct => exact fun σ' G' H' Fs' e s => h σ' G' H' Fs' (e.unfx' hx) s
    | rt k d => exact fun σ' w G' H' Fs' F e o f s => h σ' w G' H' Fs' F (e.unfx' hx) o f s
end
def wSelf : List D → IF := fun es _ => .ok es
def wEnum : List D → IF := fun es _ => .ok (enumD es)
def wZip (a : EF) : List D → IF := fun es ρ => (eS a ρ).bind fun x => (asL x.d).bind fun ds => .ok (zipD ds es)
@[simp] theorem wSelf_eq (es : List D) (ρ : Env) : wSelf es ρ = .ok es := rfl
@[simp] theorem wEnum_eq (es : List D) (ρ : Env) : wEnum es ρ = .ok (enumD es) := rfl
@[simp] theorem wZip_eq (a : EF) (es : List D) (ρ : Env) : wZip a es ρ = (eS a ρ).bind fun x => (asL x.d).bind fun ds => .ok (zipD ds es) := rfl
section
variable {X : Cx} {cl : Clx} {W : WX} {pos : Pos} {tg : Expr}
end
end B
namespace B
open PySem L2
/-! ### tuple(x) of a list or a tuple -/
def tupV (x : Vl) : R Vl := match x.d with
  | .lst ds => if x.k ≤ 1 then .ok (sh (.tup ds)) else .bad
  | .tup ds => if x.k = 0 then .ok (sh (.tup ds)) else .bad
  | _ => .bad
@[simp] theorem tupV_0 (b : Bool) (ds : List D) : tupV ⟨b, 0, .lst ds⟩ = .ok (sh (.tup ds)) := rfl
@[simp] theorem tupV_1 (b : Bool) (ds : List D) : tupV ⟨b, 1, .lst ds⟩ = .ok (sh (.tup ds)) := rfl
@[simp] theorem tupV_t (b : Bool) (ds : List D) : tupV ⟨b, 0, .tup ds⟩ = .ok (sh (.tup ds)) := rfl
section
variable {X : Cx} {cl : Clx} {W : WX} {pos : Pos}
end
end B
namespace B
open PySem L2
/-! ### xs == [], xs != [] -/
def rE0 (K : PySem.W.Frag) : R2 := fun x y H Q => ∃ a b xs, x = .ref a ∧ y = .ref b ∧ SqL K H a xs ∧ SqL K H b [] ∧ Q (.bl xs.isEmpty) H
def rN0 (K : PySem.W.Frag) : R2 := fun x y H Q => ∃ a b xs, x = .ref a ∧ y = .ref b ∧ SqL K H a xs ∧ SqL K H b [] ∧ Q (.bl (!xs.isEmpty)) H
section
variable {X : Cx}
end
/-- what == says of a list and [] -/
def eqE (x y : Vl) : R Vl := match x.d, y.d with
  | .lst ds, .lst [] => .ok (sh (.bl ds.isEmpty))
  | _, _ => .bad
def neE (x y : Vl) : R Vl := match x.d, y.d with
  | .lst ds, .lst [] => .ok (sh (.bl (!ds.isEmpty)))
  | _, _ => .bad
@[simp] theorem eqE_l (b c : Bool) (k l : Nat) (ds : List D) : eqE ⟨b, k, .lst ds⟩ ⟨c, l, .lst []⟩ = .ok (sh (.bl ds.isEmpty)) := rfl
@[simp] theorem neE_l (b c : Bool) (k l : Nat) (ds : List D) : neE ⟨b, k, .lst ds⟩ ⟨c, l, .lst []⟩ = .ok (sh (.bl (!ds.isEmpty))) := rfl
section
variable {cl : Clx}
end
section
variable {X : Cx} {cl : Clx} {W : WX} {pos : Pos}
end
end B
namespace B
open PySem L2
/-! ### is True, is not True: two bools -/
section
variable {X : Cx}
end
def sameB : D → D → Option D
  | .bl b, .bl c => some (.bl (decide (b = c)))
  | _, _ => none
def diffB : D → D → Option D
  | .bl b, .bl c => some (.bl (!decide (b = c)))
  | _, _ => none
@[simp] theorem sameB_eq (b c : Bool) : sameB (.bl b) (.bl c) = some (.bl (decide (b = c))) := rfl
@[simp] theorem diffB_eq (b c : Bool) : diffB (.bl b) (.bl c) = some (.bl (!decide (b = c))) := rfl
section
variable {cl : Str → Addr}
end
section
variable {X : Cx} {cl : Clx} {W : WX} {pos : Pos}
end
end B
namespace B
open PySem L2
/-! ### dicts whose keys are tuples -/
mutual
/-- keys without texts: their hash is the same in each world -/
def nkP : NestedKey → Bool
  | .text _ => false
  | .tup ks => nkPL ks
  | _ => true
def nkPL : List NestedKey → Bool
  | [] => true
  | k :: ks => nkP k && nkPL ks
end
mutual
theorem hash_plain (w w' : World) : ∀ k : NestedKey, nkP k = true → k.hash w = k.hash w'
  | .none, _ => rfl
  | .num _, _ => rfl
  | .text _, h => by simp [nkP] at h
  | .tup ks, h => by
    rw [NestedKey.hash, NestedKey.hash, hashes_plain w w' ks (by simpa [nkP] using h)]
theorem hashes_plain (w w' : World) : ∀ ks : List NestedKey, nkPL ks = true → NestedKey.hashes w ks = NestedKey.hashes w' ks
  | [], _ => rfl
  | k :: ks, h => by
    simp only [nkPL, Bool.and_eq_true] at h
    rw [NestedKey.hashes, NestedKey.hashes, hash_plain w w' k h.1, hashes_plain w w' ks h.2]
end
/-- what is a key, by the heap -/
inductive NKH (H : Hp) : V → NestedKey → Prop
  | non : NKH H .non .none
  | bl (b : Bool) : NKH H (.bl b) (.num (if b = true then 1 else 0))
  | int (i : Int) : NKH H (.int i) (.num i)
  | tup {a : Addr} {vs : List V} {ks : List NestedKey} (h : Rd H a (.tup vs)) (hl : vs.length = ks.length) (hr : ∀ (i : Nat) v k, vs[i]? = some v → ks[i]? = some k → NKH H v k) : NKH H (.ref a) (.tup ks)
theorem nkPL_of {ks : List NestedKey} (h : ∀ (i : Nat) k, ks[i]? = some k → nkP k = true) : nkPL ks = true := by
  induction ks with
  | nil => rfl
  | cons k ks ih =>
    rw [nkPL, h 0 k rfl, ih fun i k e => h (i + 1) k (by simpa using e)]
    rfl
theorem NKH.plain {H : Hp} {v : V} {k : NestedKey} (h : NKH H v k) : nkP k = true := by
  induction h with
  | non => rfl
  | bl b => rfl
  | int i => rfl
  | tup h hl hr ih =>
    rw [nkP]
    refine nkPL_of fun i k e => ?_
    have hi := (List.getElem?_eq_some_iff.mp e).1
    rw [← hl] at hi
    exact ih i _ k (List.getElem?_eq_getElem hi) e
theorem NKH.mono {H H' : Hp} (e : Same H H') {v : V} {k : NestedKey} (h : NKH H v k) : NKH H' v k := by
  induction h with
  | non => exact .non
  | bl b => exact .bl b
  | int i => exact .int i
  | tup h hl hr ih => exact .tup (rdEx e h) hl ih
/-! ### entries -/
def nkAt (nks : List (NestedKey × Addr × V)) (k : NestedKey) : Option (Addr × V) := (nks.find? fun x => decide (x.1 = k)).map (·.2)
def nkPutAt (k : NestedKey) (v : V) (x : NestedKey × Addr × V) : NestedKey × Addr × V := if x.1 = k then (x.1, x.2.1, v) else x
def nkPut (nks : List (NestedKey × Addr × V)) (k : NestedKey) (a : Addr) (v : V) : List (NestedKey × Addr × V) := if (nkAt nks k).isSome then nks.map (nkPutAt k v) else nks ++ [(k, a, v)]
/-! ### the dict in the heap -/
/-- a dict at p, its keys there -/
structure DcAt (H : Hp) (p : Addr) (nks : List (NestedKey × Addr × V)) : Prop where
  at' : H p = some (DctO p nks)
  ks : ∀ x ∈ nks, NKH H (.ref x.2.1) x.1 ∧ x.1.depth ≤ 8
section
variable {P : Program} {w : World} {H : Hp} {h : Heap} {p : Addr} {nks : List (NestedKey × Addr × V)}
end

/-! ### k in d, d[k], d[k] = v -/
def rDin (neg : Bool) : R2 := fun x y H Q => ∃ a p nks k, x = .ref a ∧ y = .ref p ∧ DcAt H p nks ∧ NKH H (.ref a) k ∧ k.depth ≤ 8 ∧ Q (.bl (if neg then !(nkAt nks k).isSome else (nkAt nks k).isSome)) H
def rDix : R2 := fun x y H Q => ∃ p a nks k b v, x = .ref p ∧ y = .ref a ∧ DcAt H p nks ∧ NKH H (.ref a) k ∧ k.depth ≤ 8 ∧ nkAt nks k = some (b, v) ∧ Q v H
section
variable {X : Cx} {pins : List (Addr × Obj)} {σ : L2.St} {H : Hp} {s : Shared}
/-- d[k] = v -/
def tDst (td ty tv : TE) : TS := fun D σ H => tv σ H fun v H1 => td σ H1 fun x H2 => ty σ H2 fun y H3 => ∃ p a nks k, x = .ref p ∧ y = .ref a ∧ DcAt H3 p nks ∧ NKH H3 (.ref a) k ∧ k.depth ≤ 8 ∧ nks.length < 1000000 ∧ D.nx σ (upd H3 p (DctO p (nkPut nks k a v)))
/-- {} -/
def tDnew : TE := fun _ H Q => ∀ p, H p = none → Q (.ref p) (upd H p (DctO p []))
end

/-! ### the entries as data -/
def dAt (ps : List (D × D)) (n : NestedKey) : Option D := (ps.find? fun e => decide (nkOf e.1 = n)).map (·.2)
def dPutAt (n : NestedKey) (v : D) (e : D × D) : D × D := if nkOf e.1 = n then (e.1, v) else e
def dPut (ps : List (D × D)) (k v : D) : List (D × D) := if (dAt ps (nkOf k)).isSome then ps.map (dPutAt (nkOf k) v) else ps ++ [(k, v)]
/-- an entry stands for another -/
def DP (K : PySem.W.Frag) (cl : Str → Addr) (G : Hp) (x : NestedKey × Addr × V) (y : D × D) : Prop := (x.1 = nkOf y.1 ∧ keyB y.1 = true) ∧ Rep K cl G (.ref x.2.1) y.1 ∧ Rep K cl G x.2.2 y.2
section
variable {K : PySem.W.Frag} {cl : Str → Addr} {G H : Hp}
theorem dp_of : ∀ {nks : List (NestedKey × Addr × V)} {ps : List (D × D)}, nks.length = ps.length → (∀ (i : Nat) x y, nks[i]? = some x → ps[i]? = some y → x.1 = nkOf y.1 ∧ keyB y.1 = true) →
    (∀ (i : Nat) x y, nks[i]? = some x → ps[i]? = some y → Rep K cl G (.ref x.2.1) y.1) → (∀ (i : Nat) x y, nks[i]? = some x → ps[i]? = some y → Rep K cl G x.2.2 y.2) → Paired (DP K cl G) nks ps
  | [], [], _, _, _, _ => .nil
  | x :: nks, [], h, _, _, _ => by simp at h
  | [], y :: ps, h, _, _, _ => by simp at h
  | x :: nks, y :: ps, h, h0, h1, h2 => .cons ⟨h0 0 x y rfl rfl, h1 0 x y rfl rfl, h2 0 x y rfl rfl⟩ (dp_of (by simpa using h) (fun i x y a b => h0 (i + 1) x y (by simpa using a) (by simpa using b)) (fun i x y a b => h1 (i + 1) x y (by simpa using a) (by simpa using b)) (fun i x y a b => h2 (i + 1) x y (by simpa using a) (by simpa using b)))
theorem dp_ix {nks : List (NestedKey × Addr × V)} {ps : List (D × D)} (r : Paired (DP K cl G) nks ps) : ∀ (i : Nat) x y, nks[i]? = some x → ps[i]? = some y → DP K cl G x y := by
  induction r with
  | nil => intro i x y h; simp at h
  | @cons x0 y0 nks ps h t ih =>
    intro i x y a b
    cases i with
    | zero => cases a; cases b; exact h
    | succ i => exact ih i x y (by simpa using a) (by simpa using b)
mutual
theorem keyI_flat : ∀ d : D, keyI d = true → flat d = true
  | .non, _ => by simp
  | .bl _, _ => by simp
  | .int _, _ => by simp
  | .str _, h => by simp [keyI] at h
  | .lst _, h => by simp [keyI] at h
  | .obj _ _, h => by simp [keyI] at h
  | .exo _, h => by simp [keyI] at h
  | .dct _, h => by simp [keyI] at h
  | .tup ds, h => by
    rw [flat_tup]
    exact keyL_flat ds (by simpa [keyI] using h)
theorem keyL_flat : ∀ ds : List D, keyL ds = true → flatL ds = true
  | [], _ => by simp
  | d :: ds, h => by
    simp only [keyL, Bool.and_eq_true] at h
    simp [keyI_flat d h.1, keyL_flat ds h.2]
end
end
/-! ### the rules -/
def inDc (x y : Vl) : R Vl := match y.d with
  | .dct ps => if keyB x.d = true then .ok (sh (.bl (dAt ps (nkOf x.d)).isSome)) else .bad
  | _ => .bad
def ninDc (x y : Vl) : R Vl := match y.d with
  | .dct ps => if keyB x.d = true then .ok (sh (.bl (!(dAt ps (nkOf x.d)).isSome))) else .bad
  | _ => .bad
def getA : Option D → R Vl
  | some d => .ok (sh d)
  | none => .bad
@[simp] theorem getA_some (d : D) : getA (some d) = .ok (sh d) := rfl
def getDc (x y : Vl) : R Vl := match x.d with
  | .dct ps => if keyB y.d = true then getA (dAt ps (nkOf y.d)) else .bad
  | _ => .bad
@[simp] theorem inDc_eq (x : Vl) (b : Bool) (k : Nat) (ps : List (D × D)) : inDc x ⟨b, k, .dct ps⟩ = if keyB x.d = true then .ok (sh (.bl (dAt ps (nkOf x.d)).isSome)) else .bad := rfl
@[simp] theorem ninDc_eq (x : Vl) (b : Bool) (k : Nat) (ps : List (D × D)) : ninDc x ⟨b, k, .dct ps⟩ = if keyB x.d = true then .ok (sh (.bl (!(dAt ps (nkOf x.d)).isSome))) else .bad := rfl
@[simp] theorem getDc_eq (b : Bool) (k : Nat) (ps : List (D × D)) (y : Vl) : getDc ⟨b, k, .dct ps⟩ y = if keyB y.d = true then getA (dAt ps (nkOf y.d)) else .bad := rfl
section
variable {cl : Clx}
end
section
variable {X : Cx} {cl : Clx} {W : WX} {pos : Pos}
end
/-! ### {} and d[k] = v -/
def eDct : EF := fun _ => .ok ⟨false, 1, .dct []⟩
@[simp] theorem eDct_eq (ρ : Env) : eDct ρ = .ok ⟨false, 1, .dct []⟩ := rfl
def dcOf : Option Slot → Option (List (D × D))
  | some (some (1, .dct ps)) => some ps
  | _ => none
@[simp] theorem dcOf_d (ps : List (D × D)) : dcOf (some (some (1, .dct ps))) = some ps := rfl
def withD (i : Nat) (ρ : Env) (g : List (D × D) → RS) : RS := match dcOf ρ[i]? with
  | some ps => g ps
  | none => .bad
def dstR (i : Nat) (ρ : Env) (ps : List (D × D)) (k v : D) : RS := if keyB k = true ∧ ps.length < 10000 then .ok .nx (ρ.set i (some (1, .dct (dPut ps k v)))) else .bad
def sDst (i : Nat) (f e : EF) : SF := fun ρ => withD i ρ fun ps => toS (eS e ρ) ρ fun x => toS (eS f ρ) ρ fun y => dstR i ρ ps y.d x.d
@[simp] theorem sDst_eq (i : Nat) (f e : EF) (ρ : Env) : sDst i f e ρ = withD i ρ fun ps => toS (eS e ρ) ρ fun x => toS (eS f ρ) ρ fun y => dstR i ρ ps y.d x.d := rfl
section
variable {K : PySem.W.Frag} {cl : Clx} {W : WX} {ρ : Env} {σ : L2.St} {G H G' H' : Hp} {Fs Fs' : Foot}
theorem EnvR.putD (e : EnvR K cl ρ σ G H Fs) {i : Nat} {ps : List (D × D)} (h : ρ[i]? = some (some (1, .dct ps))) : ∃ p nks, σ[i]? = some (some (.ref p)) ∧ H p = some (DctO p nks) ∧ Paired (DP K cl G) nks ps ∧
    ∀ nks' ps', Paired (DP K cl G) nks' ps' → EnvR K cl (ρ.set i (some (1, .dct ps'))) σ G (upd H p (DctO p nks')) Fs ∧ Sx (Un Fs) G H (Un Fs) G (upd H p (DctO p nks')) := by
  obtain ⟨v, hv, o⟩ := e.own i 1 _ h
  obtain ⟨p, nks, rfl, hp, fp, hl, h0, h1, h2⟩ := o
  refine ⟨p, nks, hv, hp, dp_of hl h0 h1 h2, fun us es r => ?_⟩
  have gp : G p = none := (e.dom i p fp).2
  have gh' : Same G (upd H p (DctO p us)) := fun a o ho => by
    rw [upd_ne (fun z => by rw [z, gp] at ho; cases ho)]
    exact e.gh a o ho
  have th : ∀ a o, H a = some o → ∃ o', upd H p (DctO p us) a = some o' := fun a o ho => by
    by_cases ha : a = p
    · subst ha; exact ⟨_, upd_same⟩
    · exact ⟨o, by rw [upd_ne ha]; exact ho⟩
  refine ⟨⟨by simp [e.len], gh', fun j k d hj => ?_, e.dis, fun j a f => ?_, e.fx⟩, ⟨Same.refl _, gh', fun a o ho n => ?_, th, fun a u => .inl u, fun a o ho => .inl ho⟩⟩
  · by_cases hji : j = i
    · subst hji
      have hlt : j < ρ.length := (List.getElem?_eq_some_iff.mp h).1
      rw [List.getElem?_set_self hlt] at hj
      cases hj
      exact ⟨_, hv, p, us, rfl, upd_same, fp, Paired.length r, fun i x y a b => (dp_ix r i x y a b).1, fun i x y a b => (dp_ix r i x y a b).2.1, fun i x y a b => (dp_ix r i x y a b).2.2⟩
    · rw [List.getElem?_set_ne (Ne.symm hji)] at hj
      obtain ⟨w, hw, o⟩ := e.own j k d hj
      refine ⟨w, hw, o.step (Same.refl _) fun a ob fa ha => ?_⟩
      rw [upd_ne (show a ≠ p from fun z => hji (e.dis j i a fa (by rw [z]; exact fp)))]
      exact ha
  · obtain ⟨⟨o, ho⟩, g⟩ := e.dom j a f
    exact ⟨th a o ho, g⟩
  · rw [upd_ne (show a ≠ p from fun z => n ⟨i, by rw [z]; exact fp⟩)]
    exact ho
end
section
variable {X : Cx} {cl : Clx} {W : WX} {pos : Pos}
end
end B
namespace B
open PySem L2
/-! ### try .. except X: without a name -/
def noXS : RS → RS
  | .ok fl ρ => .ok fl ρ
  | _ => .bad
@[simp] theorem noXS_ok (fl : Fl) (ρ : Env) : noXS (.ok fl ρ) = .ok fl ρ := rfl
def tryN (ys : List Str) (fs : SF) : RS → RS
  | .ok fl ρ => .ok fl ρ
  | .ex c ρ => if cMem ys (xB c) then noXS (fs ρ) else .bad
  | .bad => .bad
@[simp] theorem tryN_ok (ys : List Str) (fs : SF) (fl : Fl) (ρ : Env) : tryN ys fs (.ok fl ρ) = .ok fl ρ := rfl
@[simp] theorem tryN_ex (ys : List Str) (fs : SF) (c : Str) (ρ : Env) : tryN ys fs (.ex c ρ) = if cMem ys (xB c) then noXS (fs ρ) else .bad := rfl
def sTry0 (fb : SF) (ys : List Str) (fs : SF) : SF := fun ρ => tryN ys fs (fb ρ)
@[simp] theorem sTry0_eq (fb : SF) (ys : List Str) (fs : SF) (ρ : Env) : sTry0 fb ys fs ρ = tryN ys fs (fb ρ) := rfl
section
variable {K : PySem.W.Frag} {cl : Clx} {W : WX} {ρ : Env} {σ : L2.St} {G H G' H' : Hp} {Fs Fs' : Foot}
end
section
variable {X : Cx} {cl : Clx} {W : WX} {pos : Pos}
end
end B
namespace B
open PySem L2
/-! ### divmod of two ints -/
def dm2 : List D → R Vl
  | [.int i, .int j] => if 0 < j ∧ j < 1073741824 then .ok (sh (.tup [.int (i / j), .int (i % j)])) else .bad
  | _ => .bad
@[simp] theorem dm2_eq (i j : Int) : dm2 [.int i, .int j] = if 0 < j ∧ j < 1073741824 then .ok (sh (.tup [.int (i / j), .int (i % j)])) else .bad := rfl
section
variable {X : Cx} {cl : Clx} {W : WX} {pos : Pos}
end

/-! ### x -= e of ints -/
section
variable {X : Cx} {cl : Clx} {W : WX} {pos : Pos}
def subA (x y : Vl) : R Vl := match x.d, y.d with
  | .int i, .int j => .ok (sh (.int (i - j)))
  | _, _ => .bad
@[simp] theorem subA_i (b c : Bool) (k l : Nat) (i j : Int) : subA ⟨b, k, .int i⟩ ⟨c, l, .int j⟩ = .ok (sh (.int (i - j))) := rfl
def sSub (i : Nat) (f : EF) : SF := fun ρ => toS ((eV i ρ).bind fun x => (eS f ρ).bind fun y => subA x y) ρ (stV i ρ)
@[simp] theorem sSub_eq (i : Nat) (f : EF) (ρ : Env) : sSub i f ρ = toS ((eV i ρ).bind fun x => (eS f ρ).bind fun y => subA x y) ρ (stV i ρ) := rfl
end

/-! ### an int with effects plus an int -/
def addI : D → Vl → R Vl
  | .int i, ⟨_, _, .int j⟩ => .ok (sh (.int (i + j)))
  | _, _ => .bad
@[simp] theorem addI_i (i : Int) (b : Bool) (k : Nat) (j : Int) : addI (.int i) ⟨b, k, .int j⟩ = .ok (sh (.int (i + j))) := rfl
def mAddI (a : MF) (b : EF) : MF := fun ρ => (a ρ).then fun _ d ρ => mOf ((b ρ).bind fun y => addI d y) ρ
@[simp] theorem mAddI_eq (a : MF) (b : EF) (ρ : Env) : mAddI a b ρ = (a ρ).then fun _ d ρ => mOf ((b ρ).bind fun y => addI d y) ρ := rfl
section
variable {X : Cx} {cl : Clx} {W : WX} {pos : Pos}
end
end B
namespace B
open PySem L2
end B
namespace B
open PySem L2
@[simp] theorem rngC_zero (lo c : Int) : rngC lo c 0 = [] := rfl
abbrev intsL (xs : List Int) : D := .lst (xs.map .int)
theorem at_ints (m : List Int) (k : Nat) (x : Int) (h : m[k]? = some x) : atI (m.map D.int) (k : Int) = some (.int x) := by
  rw [atI_n, List.getElem?_map, h]; rfl
@[simp] theorem atI_c4 {α : Type} (xs : List α) : atI xs 4 = xs[4]? := atI_n xs 4
@[simp] theorem atI_c5 {α : Type} (xs : List α) : atI xs 5 = xs[5]? := atI_n xs 5
@[simp] theorem atI_c6 {α : Type} (xs : List α) : atI xs 6 = xs[6]? := atI_n xs 6
@[simp] theorem atI_c7 {α : Type} (xs : List α) : atI xs 7 = xs[7]? := atI_n xs 7
@[simp] theorem atI_c8 {α : Type} (xs : List α) : atI xs 8 = xs[8]? := atI_n xs 8
@[simp] theorem atI_c9 {α : Type} (xs : List α) : atI xs 9 = xs[9]? := atI_n xs 9
@[simp] theorem atI_c10 {α : Type} (xs : List α) : atI xs 10 = xs[10]? := atI_n xs 10
@[simp] theorem atI_c11 {α : Type} (xs : List α) : atI xs 11 = xs[11]? := atI_n xs 11
/-- each item gives h of it -/
theorem lc_map {α : Type} {i : Nat} {e : EF} {ρ : B.Env} (d : α → D) (h : α → D) : ∀ xs : List α, (∀ x ∈ xs, (e (ρ.set i (some (0, d x)))).bind (fitX 0) = .ok (sh (h x))) → lcItK 0 (gN i) tYesF e ρ (xs.map d) = .ok (xs.map h) := by
  intro xs
  induction xs with
  | nil => intro _; rfl
  | cons x xs ih =>
    intro hx
    have e1 := hx x (List.mem_cons_self ..)
    have e2 := ih fun y hy => hx y (List.mem_cons_of_mem _ hy)
    rw [List.map_cons, lcItK_cons]
    simp only [gN_eq, tYesF, eFit_eq, e1, e2, R.bind_ok, if_true, List.map_cons]
end B
namespace B
open PySem L2 PySem.Spec PyProof.Rows
/-! ### an error class with an __init__ of its own and the field `line` -/
theorem oexB_ok {K : PySem.W.Frag} {C : Addr} (q : oexB K C = true) : ∃ nm q N bs bm sn sub ab col dd k0 k1 k2 k3 k5, K.lookup C = some (excClassObj nm q C N bs bm true sn sub ab col dd k0 k1 k2 k3 k5 "ValueError.__new__") ∧ PySem.HandSPX.refsVE bm = true := by
  unfold oexB at q
  split at q
  · rename_i ddx cdx slx hox
    split at q
    · rename_i C2 bmx z0 z1 z2 z3 nx z5 hmx hsx
      simp only [Bool.and_eq_true, beq_iff_eq, Bool.not_eq_true'] at q
      obtain ⟨rfl, rfl, hdel, hdi, hve⟩ := q
      obtain ⟨nm, bs, mro, ns, qn, hd, sn, sub, ab, col, del⟩ := cdx
      dsimp only at hmx hdel hdi
      subst hmx hdel hdi
      have e : slx = #[z0, z1, z2, z3, some (.builtin "ValueError.__new__"), z5] := by
        cases slx
        simp only at hsx
        rw [hsx]
      subst e
      exact ⟨nm, qn, ns, bs, bmx, sn, sub, ab, col, ddx, z0, z1, z2, z3, z5, hox, hve⟩
    · cases q
  · cases q
/-- all that is asked of the class x, whose __init__ calls that of the class wx -/
structure ExL (K : PySem.W.Frag) (mg : Str → Option Value) (c : Str → Addr) (x wx : Str) (fI : Addr) : Prop where
  g : mg x = some (.ref (c x))
  oc : OexC K (c x)
  xf : XfC K (c x)
  no : PySem.W.findIn K (.ref (c x)) "line" = some none
  ini : PySem.W.findIn K (.ref (c x)) "__init__" = some (some (.ref fI))
  tI : PySem.W.typeIn K (.ref fI) = some (.type "function")
  gw : mg wx = some (.ref (c wx))
  wr : ∃ mc, ClX.CRead K (c wx) mc ∧ PySem.W.findCls K (.ref (c wx)) mc "__init__" = some (.val (.builtin "ValueError.__init__"))
theorem exlB_ok {K : PySem.W.Frag} {mg : Str → Option Value} {x wx : Str} (g : mg x = some (.ref (He.ga K x))) (gw : mg wx = some (.ref (He.ga K wx))) (h : exlB x wx K = true) : ExL K mg (He.ga K) x wx (He.ma K (He.ga K x) "__init__") := by
  obtain ⟨h1, h⟩ := He.ba h
  obtain ⟨h2, h⟩ := He.ba h
  obtain ⟨h3, h⟩ := He.ba h
  obtain ⟨h4, h⟩ := He.ba h
  obtain ⟨h5, h⟩ := He.ba h
  obtain ⟨h6, h⟩ := He.ba h
  obtain ⟨h7, h⟩ := He.ba h
  obtain ⟨h8, h⟩ := He.ba h
  obtain ⟨h9, h⟩ := He.ba h
  obtain ⟨h10, h⟩ := He.ba h
  obtain ⟨h11, h12⟩ := He.ba h
  refine ⟨g, ⟨oexB_ok h1, of_decide_eq_true h2, of_decide_eq_true h3, of_decide_eq_true h4, h5⟩, xfB_ok h6, of_decide_eq_true h7, of_decide_eq_true h8, of_decide_eq_true h9, gw, .type "type", ⟨h10, He.eqO_ok h11⟩, ?_⟩
  cases e : PySem.W.findCls K (.ref (He.ga K wx)) (.type "type") "__init__" with
  | none => rw [e] at h12; cases h12
  | some r =>
    rw [e] at h12
    cases r with
    | val v =>
      have : v = _ := of_decide_eq_true h12
      rw [this]
    | get a b c d => cases h12
section
variable {X : Cx} {e : Expr} {es : List Expr} {ta : TA} {p p2 pos : Pos} {C : Addr}
/-- W.__init__(self, ..), W an error class without an __init__ of its own -/
theorem pe_winit {x : Str} {mc : Value} {pl : Sem Bool} (r : ClX.CRead X.K C mc) (c : PySem.W.findCls X.K (.ref C) mc "__init__" = some (.val (.builtin "ValueError.__init__"))) (hg : Gl X x) (hm : X.mg x = some (.ref C)) (ha : PA X (e :: es) ta) (hdb : (x == ("__debug__" : Str)) = false := by decide)
    (he : starEach (e :: es) X.env = (false, eval e X.env) :: starEach es X.env := by rfl) (hpl : (backTo pos (starEach es X.env)).any (·.1) = false := by rfl)
    (ht : eval (.Call (.Attribute (.Name x p) "__init__" p2) (e :: es) [] pos) X.env = (do
      let ov ← eval (.Name x p) X.env
      standAt p2.atName
      let (g, first) ← holding [ov] (getMethod ov "__init__" pl)
      callWith pos g first (backTo pos (starEach (e :: es) X.env)) (backToKw pos (keywordEach [] X.env))) := by rfl) :
    PE X (.Call (.Attribute (.Name x p) "__init__" p2) (e :: es) [] pos) (tVeI X.K ta) := by
  constructor
  intro pins s σ H Q I h
  refine PySem.W.methodCall_KW (ld_glob I hg hm ?_ hdb) ht
  refine PySem.W.method_cls I.kIn r.ga (PySem.W.cls_value I.kIn r.rd c rfl ?_)
  refine callWith_method1 (thn (ha.run pos pins _ σ H _ (I.tok _) h) fun vv s1 ⟨vs, H1, I1, r1, a, C2, ws, ev, hl, T, ea, q⟩ => ?_) he hpl
  subst ev
  cases r1 with
  | @cons _ w0 _ wr ra rr =>
    obtain rfl : w0 = Value.ref a := ra
    exact oinit_ok T I1 ea (by rw [← Paired.length rr, sizeLine_eq]; omega) fun s3 J => ⟨.non, H1, J, rfl, q⟩
end
/-- what the __init__ does: it stores the number -/
def spL (C : Addr) : Sp := fun vs H Q E => ∃ (a : Addr) (i : Int), vs = [.ref a, .int i] ∧ H a = some (L2.exo a C none) ∧ ∀ d, H d = none → d ≠ a → Q .non (upd (upd H d (exd d [("line", .int i)])) a (L2.exo a C (some d)))
def tIni (K : PySem.W.Frag) (m : Str) : TS := tSeq (tDrop (tVeI K (tCons (tVar 0) (tCons (tC (.str m)) tNil)))) (tOst K "line" (tVar 0) (tVar 1))
/-- the error's __init__ as its callers know it -/
structure CalleeL (P : Program) (w : World) (K : PySem.W.Frag) (mg : Str → Option Value) (base : Heap) (C fI : Addr) (k : Nat) : Prop where
  ex : ∃ fd ps, FnOk P w K mg base (L2.CX P w) k fI fd ps (spL C) ∧ Binds K fd ps []
section
variable {P : Program} {w : World} {K : PySem.W.Frag} {mg : Str → Option Value} {base : Heap} {c : Str → Addr}
theorem CalleeL.of {x wx qual m : Str} {st : Stmt} {f : Addr} {fd : FuncData} (L : ExL K mg c x wx f) (F : FunD K "__init__" qual (defArgs st) (defBody st) (defScope st) [] [] f fd) (S : FnScope ["self", "line"] ["self", "line"] (defScope st))
    (hb : ∀ (cdv : Value) (A : Around) (outer : List PySem.Env) (s : Shared) (H : Hp) (E : XK), PSs (cxB P w K mg base ["self", "line"] qual (defScope st) f cdv A outer s H E) (defBody st) (tIni K m))
    (h : ∀ (kV doc pm : Value) (an : Option Addr) (cdv ct : Value) (us : List Value), us.length = 2 → bindArgs (PySem.W.fnOf "__init__" qual (defArgs st) (defBody st) (defScope st) .none kV doc pm an cdv ct) ⟨us, []⟩ = pure ([("self" : Str), ("line" : Str)].zip us)) :
    CalleeL P w K mg base (c x) f 1 := by
  refine ⟨fd, ["self", "line"], F.ok S (fun vs H Q E q => ?_) fun cdv A outer s H vs Q E hr q => ?_, F.bindsN h⟩
  · obtain ⟨a, i, rfl, _⟩ := q
    rfl
  · obtain ⟨a, i, rfl, ha, q⟩ := q
    refine ⟨_, hb cdv A outer s H E, ?_⟩
    refine ⟨.ref a, rfl, a, c x, [.str m], rfl, by show 1 ≤ 1000; omega, L.oc, ha, ?_⟩
    refine ⟨.int i, rfl, .ref a, rfl, a, c x, rfl, L.oc, L.no, .inl ⟨ha, fun d hd hne => q d hd hne⟩⟩
end
/-! ### raise X(e) -/
def raiT (x : Str) (ρ : Env) : List D → RS
  | [.int i] => if 0 ≤ i then .ex (xK x i.toNat) ρ else .bad
  | _ => .bad
@[simp] theorem raiT_nat (x : Str) (ρ : Env) (n : Nat) : raiT x ρ [.int (n : Int)] = .ex (xK x n) ρ := by
  show (if 0 ≤ (n : Int) then RS.ex (xK x (n : Int).toNat) ρ else .bad) = _
  rw [if_pos (Int.natCast_nonneg n)]; rfl
def sRaiseF (x : Str) (g : AF) : SF := fun ρ => toS (g ρ) ρ (raiT x ρ)
@[simp] theorem sRaiseF_eq (x : Str) (g : AF) (ρ : Env) : sRaiseF x g ρ = toS (g ρ) ρ (raiT x ρ) := rfl
section
variable {X : Cx} {cl : Clx} {W : WX} {pos : Pos}
theorem no_pass0 : Passes (L2.CX X.prog X.w) X (fun _ _ _ => False) := fun _ _ _ _ _ _ _ z => by
  obtain ⟨_, _, _, _, _, _, _, _, _, _, _, _, f⟩ := z
  exact f.elim
theorem es_raiseF {x wx : Str} {c : Str → Addr} {fI : Addr} {e : Expr} {g : AF} {k : Nat} {p p2 : Pos} (L : ExL X.K X.mg c x wx fI) (C : CalleeL X.prog X.w X.K X.mg X.base (c x) fI k) (hr : Room (k + 1) X.A) (hc : X.calm = true) (tk : Takes X W) (ha : EvA X cl W [e] g)
    (hg : Gl X x := by rfl) (hd : (x == ("__debug__" : Str)) = false := by decide) (he : starEach [e] X.env = (false, eval e X.env) :: starEach [] X.env := by rfl) (hpl : (backTo p2 (starEach [] X.env)).any (·.1) = false := by rfl) (hcc : cl.c = c := by rfl) :
    EvS X cl W (.Raise (some (.Call (.Name x p) [e] [] p2)) none pos) (sRaiseF x g) := by
  subst hcc
  obtain ⟨fd, ps, F, bi⟩ := C.ex
  obtain ⟨t, pt, st, hlen⟩ := ha
  refine ⟨_, ps_raise hc tk (pmk_oex (dvs := []) L.oc L.ini L.tI F hr bi .nil no_pass0 hg L.g pt hd he hpl), fun ρ σ G H Fs env D hq => ?_⟩
  rw [sRaiseF_eq] at hq
  refine st ρ σ G H Fs env _ ?_
  cases eg : g ρ with
  | bad => rw [eg] at hq; exact hq
  | ex cc => 
    rw [eg] at hq
    exact fun G1 H1 p1 => hq σ G1 H1 Fs (env.px p1) p1.sx
  | ok ds =>
    rw [eg] at hq
    intro vs G1 H1 p1 r1
    have env1 := env.px p1
    have hq1 : PostS X.K cl W (Un Fs) G H D (raiT x ρ ds) := hq
    match ds, hq1, r1 with
    | [.int i], hq1, r1 =>
      replace hq1 : PostS X.K cl W (Un Fs) G H D (if 0 ≤ i then .ex (xK x i.toNat) ρ else .bad) := hq1
      by_cases h0 : 0 ≤ i
      · rw [if_pos h0] at hq1
        have en : ((i.toNat : Nat) : Int) = i := Int.toNat_of_nonneg h0
        generalize i.toNat = n at hq1 en
        subst en
        match vs, r1 with
        | [v], r1 =>
          have rv : Rep X.K cl.c G1 v (.int (n : Int)) := r1.2 0 v (.int (n : Int)) rfl rfl
          cases rv
          refine ⟨by show 1 ≤ 1000; omega, fun a ha => ⟨a, (n : Int), rfl, upd_same, fun d hd hne => ⟨rfl, d, [("line", .int (n : Int))], upd_same, ?_, ?_, ?_⟩⟩⟩
          · rw [upd_ne hne, upd_same]
          · rw [upd_ne hne] at hd
            exact hd
          · rw [upd_ne hne] at hd
            have eH : (upd (del (upd (upd (upd H1 a (L2.exo a (cl.c x) none)) d (exd d [("line", .int (n : Int))])) a (L2.exo a (cl.c x) (some d))) a) d (.xd [("line", .int (n : Int))])) = upd H1 d (.xd [("line", .int (n : Int))]) := by
              funext b
              by_cases hb : b = d
              · rw [hb, upd_same, upd_same]
              · rw [upd_ne hb, upd_ne hb]
                by_cases hba : b = a
                · rw [hba, del_same, ha]
                · rw [del_ne hba, upd_ne hba, upd_ne hb, upd_ne hba]
            rw [eH]
            have p2 := px_frozen (p := d) (o := .xd [("line", .int (n : Int))]) env1.gh hd
            have w := hq1 σ _ _ Fs (env1.px p2) ((p1.trans p2).sx) (some d) (XD.num upd_same)
            rw [xB_xK] at w
            exact w
        | [], r1 => exact absurd r1.1 (by simp)
        | _ :: _ :: _, r1 => exact absurd r1.1 (by simp)
      · rw [if_neg h0] at hq1
        exact hq1.elim
    | [], hq1, _ => exact hq1.elim
    | [.non], hq1, _ => exact hq1.elim
    | [.bl _], hq1, _ => exact hq1.elim
    | [.str _], hq1, _ => exact hq1.elim
    | [.lst _], hq1, _ => exact hq1.elim
    | [.tup _], hq1, _ => exact hq1.elim
    | [.obj _ _], hq1, _ => exact hq1.elim
    | [.exo _], hq1, _ => exact hq1.elim
    | [.dct _], hq1, _ => exact hq1.elim
    | [.dci _], hq1, _ => exact hq1.elim
    | a :: b :: r, hq1, _ => cases a <;> exact hq1.elim
/-! ### e.line -/
def xfT (x : Str) (v : Vl) : R Vl := match v.d with
  | .exo C => (match xF C with
    | some n => if xB C = x then .ok (sh (.int (n : Int))) else .bad
    | none => .bad)
  | _ => .bad
@[simp] theorem xfT_exo (x : Str) (b : Bool) (k n : Nat) : xfT x ⟨b, k, .exo (xK x n)⟩ = .ok (sh (.int (n : Int))) := by
  unfold xfT
  simp
def eXf (x : Str) (a : EF) : EF := fun ρ => (a ρ).bind (xfT x)
@[simp] theorem eXf_eq (x : Str) (a : EF) (ρ : Env) : eXf x a ρ = (a ρ).bind (xfT x) := rfl
def tXl (C : Addr) (te : TE) : TE := fun σ H Q => te σ H fun x H1 => ∃ (a dd : Addr) (fs : List (Str × V)) (v : V), x = .ref a ∧ H1 a = some (EXO (.ref C) (some dd) a) ∧ H1 dd = some (.xd fs) ∧ fs.lookup ("line" : Str) = some v ∧ Q v H1
theorem pe_xl {e : Expr} {te : TE} {C : Addr} (T : XfC X.K C) (hno : PySem.W.findIn X.K (.ref C) "line" = some none) (he : PE X e te) (hb : attributeBase e "line" X.env (eval e X.env) = eval e X.env := by rfl) : PE X (.Attribute e "line" pos) (tXl C te) := by
  constructor
  intro pins s σ H Q I h
  refine attr_of hb (thn (he.run pins s σ H _ I h) fun u s1 ⟨x, H1, I1, rx, a, dd, fs, v, ex, ea, ed, l, q⟩ => ?_)
  subst ex
  obtain rfl : u = Value.ref a := rx
  obtain ⟨⟨oe, vs, g1, g2, g3⟩, _, _⟩ := (show ObjOk X.prog X.w H1 s1.heap a (EXO (.ref C) (some dd) a) from I1.hok a _ ea)
  obtain ⟨mA, hns, hr⟩ := (show ObjOk X.prog X.w H1 s1.heap dd (.xd fs) from I1.hok dd _ ed)
  obtain ⟨od, ho, hl⟩ := lookIn_ns hns
  obtain ⟨z, hz, rz⟩ := RelO.some_of (v := v) (o := mA "line") (by rw [← l]; exact hr "line")
  have J : PySem.W.InstAt s1.heap a oe C (some od) := by
    obtain ⟨oc, oo, oda, osl⟩ := oe
    obtain ⟨z1, z2⟩ := g2
    dsimp only at z1 z2 g3
    subst z1 z2 g3
    exact ⟨g1, rfl, rfl, ho⟩
  exact PySem.HandSPX.exc_get I1.kIn J T.ga T.gg T.exC (PySem.W.findObj_own T.hdC hno rfl (by rw [hl, hz])) (handed_of rz) ⟨v, H1, I1.tok _, rz, q⟩
theorem ev_xf {x wx : Str} {c : Str → Addr} {fI : Addr} {e : Expr} {a : EF} (L : ExL X.K X.mg c x wx fI) (ha : EvE X cl W e a) (hb : attributeBase e "line" X.env (eval e X.env) = eval e X.env := by rfl) (hcc : cl.c = c := by rfl) : EvE X cl W (.Attribute e "line" pos) (eXf x a) := by
  subst hcc
  obtain ⟨t, pt, st⟩ := ha
  refine ⟨_, pe_xl L.xf L.no pt hb, fun ρ σ G H Fs env Q hq => ?_⟩
  refine st.use env PV.mono hq fun y v G1 H1 F1 e1 p1 env1 o1 fo hq1 => ?_
  obtain ⟨b, k, d⟩ := y
  cases d with
  | exo C =>
    replace hq1 : PostG cl W σ G1 H1 (PV X.K cl.c Q) (match xF C with | some n => if xB C = x then R.ok (sh (.int (n : Int))) else .bad | none => .bad) := hq1
    cases eF : xF C with
    | none => rw [eF] at hq1; exact hq1.elim
    | some n =>
      rw [eF] at hq1
      dsimp only at hq1
      by_cases hx : xB C = x
      · rw [if_pos hx] at hq1
        cases Own.scal o1 (by simp) with
        | @exo a2 d2 C2 hg hd =>
          rw [hx] at hg
          unfold XD at hd
          rw [eF] at hd
          obtain ⟨dd, e2, e3⟩ := hd
          subst e2
          exact ⟨a2, dd, _, .int (n : Int), rfl, env1.gh _ _ hg, env1.gh _ _ e3, rfl, hq1 (.int (n : Int)) G1 H1 (fun _ => False) (Px.refl env1.gh) (Rep.int _) noFoo⟩
      · rw [if_neg hx] at hq1
        exact hq1.elim
  | _ => exact hq1.elim
end
/-! ### try .. except X: .. else: .. -/
def tryNE (ys : List Str) (fs fe : SF) : RS → RS
  | .ok .nx ρ => fe ρ
  | .ok fl ρ => .ok fl ρ
  | .ex c ρ => if cMem ys (xB c) then noXS (fs ρ) else .bad
  | .bad => .bad
@[simp] theorem tryNE_nx (ys : List Str) (fs fe : SF) (ρ : Env) : tryNE ys fs fe (.ok .nx ρ) = fe ρ := rfl
@[simp] theorem tryNE_ex (ys : List Str) (fs fe : SF) (c : Str) (ρ : Env) : tryNE ys fs fe (.ex c ρ) = if cMem ys (xB c) then noXS (fs ρ) else .bad := rfl
def sTry0E (fb : SF) (ys : List Str) (fs fe : SF) : SF := fun ρ => tryNE ys fs fe (fb ρ)
@[simp] theorem sTry0E_eq (fb : SF) (ys : List Str) (fs fe : SF) (ρ : Env) : sTry0E fb ys fs fe ρ = tryNE ys fs fe (fb ρ) := rfl
section
variable {K : PySem.W.Frag} {cl : Clx} {W : WX}
end
section
variable {X : Cx} {cl : Clx} {W : WX} {pos : Pos}
end
end B
namespace B
open PySem L2 PySem.Spec PyProof.Rows
/-! ### defs whose errors bear no context -/
abbrev cxN (P : Program) (w : World) (K : PySem.W.Frag) (mg : Str → Option Value) (base : Heap) (N : List Str) (qual : Str) (sc : Scope) (f : Addr) (cdv : Value) (A : Around) (outer : List PySem.Env) (s : Shared) (H : Hp) (E : XK) : Cx :=
  cxOf (L2N.CX P w) P w K mg base N qual sc f cdv A outer s H E
def BodyOkN (P : Program) (w : World) (K : PySem.W.Frag) (mg : Str → Option Value) (base : Heap) (cl : Clx) (k : Nat) (N : List Str) (qual : Str) (st : Stmt) (b : SF) : Prop :=
  ∀ (f : Addr) (cdv : Value) (A : Around) (outer : List PySem.Env) (s : Shared) (H : Hp) (E : XK), Room k (A.deeper (PyProof.Rows.envOfC qual (defScope st) s.heap.objs.size f cdv)) → EvB (cxN P w K mg base N qual (defScope st) f cdv A outer s H E) cl (wB E) (defBody st) b
section
variable {P : Program} {w : World} {K : PySem.W.Frag} {mg : Str → Option Value} {base : Heap} {cl : Str → Addr}
theorem fn_pureN {x qual : Str} {st : Stmt} {f : Addr} {fd : FuncData} {N ps : List Str} {k : Nat} {b : SF} {dvs : List V} (F : FunD K x qual (defArgs st) (defBody st) (defScope st) dvs [] f fd) (S : FnScope N ps (defScope st)) (hb : BodyOkN P w K mg base (cl0 cl) k N qual st b) :
    FnOk P w K mg base (L2N.CX P w) (k + 1) f fd ps (spP K cl ps.length (runF N.length b)) := by
  refine F.ok S (fun vs H Q E h => h.1) fun cdv A outer s H vs Q E hr h => ?_
  obtain ⟨hl, G, ds, gh, r, q⟩ := h
  obtain ⟨t, pt, st⟩ := hb f cdv A outer s H E hr
  refine ⟨t, pt, st _ _ G H _ (env0 gh r) _ ?_⟩
  unfold runF at q
  cases e : b (rho0 N.length ds) with
  | bad => rw [e] at q; exact q
  | ex c ρ =>
    rw [e] at q
    exact fun σ' G' H' Fs' e' s => q G' H' (s.px fun a ⟨i, z⟩ => z)
  | ok fl ρ =>
    rw [e] at q
    cases fl with
    | bk => exact q.elim
    | ct => exact q.elim
    | nx => exact fun σ' G' H' Fs' e' s => q.2 .non G' H' (fun _ => False) (s.px fun a ⟨i, z⟩ => z) Rep.non noFoo
    | rt k d =>
      intro σ' v G' H' Fs' F e' o f s
      have p : Px G H G' H' := s.px fun a ⟨i, z⟩ => z
      refine q.2 v G' H' F p o fun a fa => ⟨(f a fa).1, (f a fa).2.1, fun _ => ?_⟩
      rcases s.un a (.inr fa) with ⟨_, z⟩ | z
      · exact z.elim
      · exact z
structure CalleeN (P : Program) (w : World) (K : PySem.W.Frag) (mg : Str → Option Value) (base : Heap) (cl : Str → Addr) (x : Str) (k n : Nat) (f : Fn) : Prop where
  nb : ∀ ds x, f ds = .ok x → x.b = false
  ex : ∃ fa fd ps, FnOk P w K mg base (L2N.CX P w) k fa fd ps (spP K cl n f) ∧ mg x = some (.ref fa) ∧ PySem.W.keepIn K (.ref fa) = true ∧ Binds K fd ps []
theorem CalleeN.of {x : Str} {st : Stmt} {fa : Addr} {fd : FuncData} {N ps : List Str} {k : Nat} {b : SF} (F : FunD K x x (defArgs st) (defBody st) (defScope st) [] [] fa fd) (g : mg x = some (.ref fa)) (S : FnScope N ps (defScope st)) (hb : BodyOkN P w K mg base (cl0 cl) k N x st b)
    (h : ∀ (kV doc pm : Value) (an : Option Addr) (cdv ct : Value) (us : List Value), us.length = ps.length → bindArgs (PySem.W.fnOf x x (defArgs st) (defBody st) (defScope st) .none kV doc pm an cdv ct) ⟨us, []⟩ = pure (ps.zip us)) :
    CalleeN P w K mg base cl x (k + 1) ps.length (runF N.length b) := ⟨fun _ _ => runF_nb, fa, fd, ps, fn_pureN F S hb, g, F.kp, F.bindsN h⟩
end
section
variable {X : Cx} {cl : Clx} {W : WX} {pos : Pos}
theorem ev_callN {x : Str} {k n : Nat} {f : Fn} {p : Pos} {e : Expr} {es : List Expr} {g : AF} {c : Str → Addr} (C : CalleeN X.prog X.w X.K X.mg X.base c x k n f) (hr : Room k X.A) (tk : L2N.Takes X W) (ha : EvA X cl W (e :: es) g) (hn : (e :: es).length = n := by rfl) (hg : Gl X x := by rfl)
    (hdb : (x == ("__debug__" : Str)) = false := by decide) (he : starEach (e :: es) X.env = (false, eval e X.env) :: starEach es X.env := by rfl) (hpl : (backTo pos (starEach es X.env)).any (·.1) = false := by rfl) (hcc : cl.c = c := by rfl) : EvE X cl W (.Call (.Name x p) (e :: es) [] pos) (eCall f g) := by
  subst hcc
  obtain ⟨nb, fa, fd, ps, F, gm, kp, bi⟩ := C
  obtain ⟨t, pt, st, hlen⟩ := ha
  refine ⟨_, pe_callS F hr hg gm kp bi (fun σ => L2N.passAt tk σ) pt hdb he hpl, fun ρ σ G H Fs env Q hq => ?_⟩
  refine st.use env PV.mono hq fun ds vs G1 H1 e1 p1 env1 r1 hq1 => ?_
  refine ⟨by rw [r1.1, hlen ρ ds e1]; exact hn, G1, ds, env1.gh, r1, ?_⟩
  cases ef : f ds with
  | bad => rw [ef] at hq1; exact hq1
  | ex c => rw [ef] at hq1; exact hq1
  | ok y =>
    rw [ef] at hq1
    exact ⟨nb ds y ef, hq1⟩
end
section
variable {X : Cx} {k : Nat} {f C : Addr} {fd : FuncData} {ps : List Str} {sp : Sp} {E : L2.St → XK} {x : Str} {p pos : Pos} {e : Expr} {es : List Expr} {t : TA}
theorem pe_mkSN (M : Mk X.K C f) (F : FnOk X.prog X.w X.K X.mg X.base (L2N.CX X.prog X.w) k f fd ps sp) (hr : Room (k + 1) X.A) (hg : Gl X x) (hm : X.mg x = some (.ref C)) (hb : Binds X.K fd ps []) (hx : ∀ σ, PassesAt (L2N.CX X.prog X.w) X σ (E σ))
    (ha : PA X (e :: es) t) (hdb : (x == ("__debug__" : Str)) = false := by decide) (he : starEach (e :: es) X.env = (false, eval e X.env) :: starEach es X.env := by rfl) (hpl : (backTo pos (starEach es X.env)).any (·.1) = false := by rfl) :
    PE X (.Call (.Name x p) (e :: es) [] pos) (tMkS C sp E t) := by
  constructor
  intro pins s σ H Q I h
  refine wpAny_Call_Name_kw (ld_glob I hg hm ?_ hdb)
  refine PySem.W.callWith_K (h₀ := X.base) I.ok.mod.kin M.kp (thn (ha.run pos pins s σ H _ I h) fun us s1 ⟨vs, H1, I1, r, q⟩ => ⟨I1.kIn, ?_⟩) he hpl
  let n := s1.heap.objs.size
  have made := Inv.made (C := C) I1
  have sp1 := q (n + 1) n (I1.hok.fresh (Nat.le_succ _)) (I1.hok.fresh (Nat.le_refl _)) (Nat.ne_of_lt (Nat.lt_succ_self _))
  have rel : Vals (V.ref (n + 1) :: vs) (Value.ref (n + 1) :: us) := .cons rfl r
  have len : (Value.ref (n + 1) :: us).length = ps.length := by rw [← rel.length]; exact F.len _ _ _ _ sp1
  have bd := hb { s1 with heap := (s1.heap.push PySem.W.emptyDict).push (PySem.W.instObj C n) } (Value.ref (n + 1) :: us) made.kIn (by rw [List.append_nil]; exact len)
  rw [List.append_nil] at bd
  refine wpAny_call (make_map (f := f) I1.kIn M.makes M.init (beq_iff_eq.mp M.fn) (codeAny_mono (F.run _ X.stack _ _ ⟨_ :: us, []⟩ _ _ _ (E σ) (hr.make C us []) (made.env0.make C us []) bd rel sp1) fun res s2 z => ?_))
  cases res with
  | error e => exact hx σ pins _ _ e s2 made z
  | ok fl =>
    cases fl with
    | ret u =>
      obtain ⟨v, H', I3, rv, ev, q3⟩ := made.after z
      subst ev
      exact ⟨rv, .ref (n + 1), H', I3, rfl, q3⟩
    | next => exact z.elim
    | brk => exact z.elim
    | cont => exact z.elim
theorem pe_baseSN {m : Str} {p2 : Pos} {mc : Value} {pl : Sem Bool} (r : ClX.CRead X.K C mc) (c : PySem.W.findCls X.K (.ref C) mc m = some (.val (.ref f))) (hk : PySem.W.keepIn X.K (.ref f) = true) (F : FnOk X.prog X.w X.K X.mg X.base (L2N.CX X.prog X.w) k f fd ps sp) (hr : Room k X.A)
    (hg : Gl X x) (hm : X.mg x = some (.ref C)) (hb : Binds X.K fd ps []) (hx : ∀ σ, PassesAt (L2N.CX X.prog X.w) X σ (E σ)) (ha : PA X (e :: es) t) (hdb : (x == ("__debug__" : Str)) = false := by decide)
    (he : starEach (e :: es) X.env = (false, eval e X.env) :: starEach es X.env := by rfl) (hpl : (backTo pos (starEach es X.env)).any (·.1) = false := by rfl)
    (ht : eval (.Call (.Attribute (.Name x p) m p2) (e :: es) [] pos) X.env = (do
      let ov ← eval (.Name x p) X.env
      standAt p2.atName
      let (g, first) ← holding [ov] (getMethod ov m pl)
      callWith pos g first (backTo pos (starEach (e :: es) X.env)) (backToKw pos (keywordEach [] X.env))) := by rfl) :
    PE X (.Call (.Attribute (.Name x p) m p2) (e :: es) [] pos) (tCallS sp E t) := by
  constructor
  intro pins s σ H Q I h
  refine PySem.W.methodCall_KW (ld_glob I hg hm ?_ hdb) ht
  refine PySem.W.method_cls I.kIn r.ga (PySem.W.cls_value I.kIn r.rd c rfl ?_)
  have I0 := I.tok (s.toks + 1)
  refine PySem.W.callWith_K (h₀ := X.base) I.ok.mod.kin hk (thn (ha.run pos pins _ σ H _ (I.tok _) h) fun us s1 ⟨vs, H1, I1, rv, q⟩ => ⟨I1.kIn, ?_⟩) he hpl
  exact run_fnS F hr hb (hx σ) I1 rv q
end
def BodyMN (P : Program) (w : World) (K : PySem.W.Frag) (mg : Str → Option Value) (base : Heap) (c : Str → Addr) (ms : List Nat) (k : Nat) (N : List Str) (qual : Str) (st : Stmt) (b : SF) : Prop := ∀ vs : List V, BodyOkN P w K mg base (clM c ms vs) k N qual st b
section
variable {K : PySem.W.Frag} {c : Str → Addr} {cl : Clx}
theorem fn_mutN {P : Program} {w : World} {mg : Str → Option Value} {base : Heap} {x qual : Str} {st : Stmt} {f : Addr} {fd : FuncData} {N ps : List Str} {k : Nat} {ms : List Nat} {b : SF} (F : FunD K x qual (defArgs st) (defBody st) (defScope st) [] [] f fd) (S : FnScope N ps (defScope st))
    (hb : BodyMN P w K mg base c ms k N qual st b) : FnOk P w K mg base (L2N.CX P w) (k + 1) f fd ps (spM K c ps.length (runM N.length ps.length ms b)) := by
  refine F.ok S (fun vs H Q E h => h.1) fun cdv A outer s H vs Q E hr h => ?_
  obtain ⟨hl, G, as, Fs, e0, q⟩ := h
  obtain ⟨t, pt, sm⟩ := hb vs f cdv A outer s H E hr
  refine ⟨t, pt, sm _ _ G H _ (envM ms e0) _ ?_⟩
  unfold runM at q
  rw [← hl] at q
  cases e : b (rhoM N.length as) with
  | bad => rw [e] at q; exact q
  | ex z ρ =>
    rw [e] at q
    exact fun σ' G' H' Fs' e' s => q G' H' _ (envOut (N := N) e') (s.less fun a ⟨i, _, _, z⟩ => ⟨i, z⟩)
  | ok fl ρ =>
    rw [e] at q
    cases fl with
    | bk => exact q.elim
    | ct => exact q.elim
    | nx => exact fun σ' G' H' Fs' e' s => q.2 .non G' H' _ (fun _ => False) (envOut (N := N) e') Rep.non (fun a z => z.elim) (s.less fun a h => h.elim (fun ⟨i, _, _, z⟩ => ⟨i, z⟩) False.elim)
    | rt k d =>
      intro σ' v G' H' Fs' F e' o fr s
      refine q.2 v G' H' _ F (envOut (N := N) e') o (fun a fa => ⟨(fr a fa).1, (fr a fa).2.1, fun ⟨i, _, _, z⟩ => (fr a fa).2.2 ⟨i, z⟩⟩) (s.less fun a h => h.elim (fun ⟨i, _, _, z⟩ => .inl ⟨i, z⟩) .inr)
end
structure CalleeMN (P : Program) (w : World) (K : PySem.W.Frag) (mg : Str → Option Value) (base : Heap) (c : Str → Addr) (fa : Addr) (k n : Nat) (f : FnM) : Prop where
  nb : ∀ as x o, f as = .ok x o → x.b = false
  ex : ∃ fd ps, FnOk P w K mg base (L2N.CX P w) k fa fd ps (spM K c n f) ∧ PySem.W.keepIn K (.ref fa) = true ∧ Binds K fd ps []
theorem CalleeMN.of {P : Program} {w : World} {K : PySem.W.Frag} {mg : Str → Option Value} {base : Heap} {c : Str → Addr} {x qual : Str} {st : Stmt} {fa : Addr} {fd : FuncData} {N ps : List Str} {k : Nat} {ms : List Nat} {b : SF} (F : FunD K x qual (defArgs st) (defBody st) (defScope st) [] [] fa fd) (S : FnScope N ps (defScope st))
    (hb : BodyMN P w K mg base c ms k N qual st b)
    (h : ∀ (kV doc pm : Value) (an : Option Addr) (cdv ct : Value) (us : List Value), us.length = ps.length → bindArgs (PySem.W.fnOf x qual (defArgs st) (defBody st) (defScope st) .none kV doc pm an cdv ct) ⟨us, []⟩ = pure (ps.zip us)) :
    CalleeMN P w K mg base c fa (k + 1) ps.length (runM N.length ps.length ms b) := ⟨fun _ _ _ => runM_nb, fd, ps, fn_mutN F S hb, F.kp, F.bindsN h⟩
/-! ### C(..) -/
section
variable {X : Cx} {cl : Clx} {W : WX} {pos : Pos}
theorem ev_newKN (fl : Nat) {c : Str → Addr} {x : Str} {k n : Nat} {f : FnM} {fi : Addr} {p : Pos} {e : Expr} {es : List Expr} {g : AF} (C : CalleeMN X.prog X.w X.K X.mg X.base c fi k n f) (M : Mk X.K (c x) fi) (hm : X.mg x = some (.ref (c x))) (hr : Room (k + 1) X.A) (tk : L2N.Takes X W) (ha : EvA X cl W (e :: es) g) (hn : (e :: es).length + 1 = n := by rfl) (hg : Gl X x := by rfl)
    (hdb : (x == ("__debug__" : Str)) = false := by decide) (he : starEach (e :: es) X.env = (false, eval e X.env) :: starEach es X.env := by rfl) (hpl : (backTo pos (starEach es X.env)).any (·.1) = false := by rfl) (hcc : cl.c = c := by rfl) : EvE X cl W (.Call (.Name x p) (e :: es) [] pos) (eNewK fl x f g) := by
  subst hcc
  obtain ⟨nb, fd, ps, F, kp, bi⟩ := C
  obtain ⟨t, pt, st, hlen⟩ := ha
  refine ⟨_, pe_mkSN M F hr hg hm bi (fun σ => L2N.passAt tk σ) pt hdb he hpl, fun ρ σ G H Fs env Q hq => ?_⟩
  refine st.use env PV.mono hq fun ds vs G1 H1 e1 p1 env1 r1 hq1 => ?_
  intro x' dx hx hd hne
  have e0 := envNew (k := fl) (C := x) env1.gh hx r1 hx hd hne
  have same : Same H1 (upd (upd H1 dx (.own x')) x' (.ins (cl x) dx [])) := (same_new hd).trans (same_new (by rw [upd_ne (Ne.symm hne)]; exact hx))
  refine ⟨by rw [List.length_cons, r1.1, hlen ρ ds e1]; exact hn, G1, _, _, e0, ?_⟩
  have back : ∀ {G' H' : Hp} {U' : Addr → Prop}, Sx (Un fun i a => i = 0 ∧ a = x') G1 (upd (upd H1 dx (.own x')) x' (.ins (cl x) dx [])) U' G' H' → Px G1 H1 G' H' := fun {G' H' U'} s => by
    refine ⟨fun a o ha => s.fr a o (same a o ha) fun ⟨i, _, z⟩ => ?_, s.gg, s.gh, fun a o ha => ?_⟩
    · rw [z, hx] at ha; cases ha
    · rcases s.gn a o ha with h | ⟨i, _, h⟩ | h
      · exact .inl h
      · exact .inr (by rw [h]; exact hx)
      · exact .inr (same.free h)
  cases ef : f ((fl + 1, .obj x []) :: ds.map fun d => (0, d)) with
  | bad => rw [ef] at hq1; exact hq1
  | ex z o =>
    rw [ef] at hq1
    exact fun G' H' Fs' _ s => hq1 G' H' (back s)
  | ok y o =>
    rw [ef] at hq1
    obtain ⟨yb, yk, yd⟩ := y
    cases o with
    | nil => exact hq1.elim
    | cons s0 o =>
      cases s0 with
      | none => exact hq1.elim
      | some kd =>
        obtain ⟨k0, d0⟩ := kd
        cases yd with
        | non =>
          rw [newR_ok] at hq1
          refine ⟨?_, fun v G' H' Fs' F e' o' fr s => ⟨o'.non, ?_⟩⟩
          · exact nb _ _ _ ef
          · obtain ⟨v0, hv0, o0⟩ := e'.own 0 k0 d0 rfl
            cases hv0
            have px := back s
            refine hq1 _ G' H' (Fs' 0) px o0 fun a fa => ⟨(e'.dom 0 a fa).1, (e'.dom 0 a fa).2, fun _ => ?_⟩
            rcases s.un a (.inl ⟨0, fa⟩) with ⟨i, _, z⟩ | z
            · rw [z]; exact hx
            · exact same.free z
        | _ => exact hq1.elim
theorem ev_newN {c : Str → Addr} {x : Str} {k n : Nat} {f : FnM} {fi : Addr} {p : Pos} {e : Expr} {es : List Expr} {g : AF} (C : CalleeMN X.prog X.w X.K X.mg X.base c fi k n f) (M : Mk X.K (c x) fi) (hm : X.mg x = some (.ref (c x))) (hr : Room (k + 1) X.A) (tk : L2N.Takes X W) (ha : EvA X cl W (e :: es) g) (hn : (e :: es).length + 1 = n := by rfl) (hg : Gl X x := by rfl)
    (hdb : (x == ("__debug__" : Str)) = false := by decide) (he : starEach (e :: es) X.env = (false, eval e X.env) :: starEach es X.env := by rfl) (hpl : (backTo pos (starEach es X.env)).any (·.1) = false := by rfl) (hcc : cl.c = c := by rfl) : EvE X cl W (.Call (.Name x p) (e :: es) [] pos) (eNew x f g) := ev_newKN 0 C M hm hr tk ha hn hg hdb he hpl hcc
theorem em_baseN {x m : Str} {c : Str → Addr} {k n : Nat} {f : FnM} {fi : Addr} {p p2 : Pos} {e : Expr} {es : List Expr} {mo : List (Option Nat)} {g : AMF} {pl : Sem Bool} (C : CalleeMN X.prog X.w X.K X.mg X.base c fi k n f) (hb : BaseK X.K (c x) m fi) (hm : X.mg x = some (.ref (c x))) (hr : Room k X.A) (tk : L2N.Takes X W) (ha : EvAM X cl W (e :: es) mo g) (nd : nodM mo = true := by rfl) (hn : (e :: es).length = n := by rfl) (hg : Gl X x := by rfl)
    (hdb : (x == ("__debug__" : Str)) = false := by decide) (he : starEach (e :: es) X.env = (false, eval e X.env) :: starEach es X.env := by rfl) (hpl : (backTo pos (starEach es X.env)).any (·.1) = false := by rfl)
    (ht : eval (.Call (.Attribute (.Name x p) m p2) (e :: es) [] pos) X.env = (do
      let ov ← eval (.Name x p) X.env
      standAt p2.atName
      let (g, first) ← holding [ov] (getMethod ov m pl)
      callWith pos g first (backTo pos (starEach (e :: es) X.env)) (backToKw pos (keywordEach [] X.env))) := by rfl) (hcc : cl.c = c := by rfl) : EvM X cl W (.Call (.Attribute (.Name x p) m p2) (e :: es) [] pos) (mCall f mo g) := by
  subst hcc
  obtain ⟨nb, fd, ps, F, kp, bi⟩ := C
  obtain ⟨t, pt, st, hl⟩ := ha
  obtain ⟨mc, r, fc⟩ := hb.mc
  exact ⟨_, pe_baseSN r fc kp F hr hg hm bi (fun σ => L2N.passAt tk σ) pt hdb he hpl ht, semCallM st (hl.trans hn) nd nb⟩
theorem es_raiseN {c : Str → Addr} {x m : Str} {j : Nat} {p p2 p3 : Pos} (E : ExcK X.K X.mg c x) (hc : X.calm = true) (tk : L2N.Takes X W) (hg : Gl X x := by rfl) (hd : (x == ("__debug__" : Str)) = false := by decide) (hcc : cl.c = c := by rfl) (hx0 : xF x = none := by rfl) :
    EvS X cl W (.Raise (some (.Call (.Name x p) [.Constant (.str m) j p2] [] p3)) none pos) (sRaise x) := by
  subst hcc
  refine ⟨_, L2N.ps_raise hc tk (L2N.pmk_own PySem.F.excBase_ValueError E.q E.g E.kp (raises_own E.sb E.ty) hg hd), fun ρ σ G H Fs env D hq => ?_⟩
  have w := hq σ G H Fs env (Sx.refl env.gh) none (by unfold XD; rw [hx0])
  rw [xB_of hx0] at w
  exact w
end
section
variable {P : Program} {w : World} {K : PySem.W.Frag} {mg : Str → Option Value} {base : Heap} {N : List Str} {qual : Str} {sc : Scope} {f : Addr} {cdv : Value} {A : Around} {outer : List PySem.Env} {s : Shared} {H : Hp} {E : XK}
theorem tkN : L2N.Takes (cxN P w K mg base N qual sc f cdv A outer s H E) (wB E) := L2N.takes_of rfl rfl rfl rfl
theorem poN : PassesOwn (model (cxN P w K mg base N qual sc f cdv A outer s H E).prog (cxN P w K mg base N qual sc f cdv A outer s H E).w) (cxN P w K mg base N qual sc f cdv A outer s H E).A (cxN P w K mg base N qual sc f cdv A outer s H E).env (cxN P w K mg base N qual sc f cdv A outer s H E).xe := passes_of rfl
end
end B
namespace B
open PySem L2 PySem.Spec PyProof.Rows
/-! ### try .. except (A, B): a suite that raises .. else -/
theorem keepFly {B h h' : Heap} {l : List PySem.Env} {a : Addr} {Z : Obj → Prop} (k : ∀ b o, h.get? b = some o → h'.get? b = some o) (f : HandSPX.FlyingZ B l a Z h) : HandSPX.FlyingZ B l a Z h' := by
  obtain ⟨f1, f2, f3, oe, vs, T, oT, ts, e1, e2, e3, e4, e5, e6, e7, e8, e9⟩ := f
  exact ⟨fun b o e => k b o (f1 b o e), f2, Heap.FunFrames.of_keeps (fun b o e _ => ⟨o, k b o e, rfl⟩) f3, oe, vs, T, oT, ts, k _ _ e1, e2, e3, e4, e5, e6, k _ _ e7, e8, e9⟩
def w2 (K : PySem.W.Frag) (c1 c2 : Value) (ts : TS) (D : Ends) : WX := fun cls d σ H => PySem.W.exmAny K cls [c1, c2] = some true ∧ ∀ a : Addr, H a = none → ts D σ H
section
variable {X : Cx} {x1 x2 : Str} {c1 c2 : Value} {body suite orelse : List Stmt} {b₀ : Stmt} {np1 np2 tpos pos pos' : Pos} {kk : Nat} {tb : WX → TS} {ts u : TS} {Wo : WX}
theorem ps_try2 (hs : X.stack = X.env :: X.outer) (hf : X.env.frame = some X.env.locals) (hc1 : Names X x1 c1) (hc2 : Names X x2 c2) (hpa : ∀ hd : Option Value, PassesOwnAt (model X.prog X.w) (X.A.mark hd) X.A X.env X.xe) (tk : L2.Takes X Wo) (ho : PSs X orelse u)
    (hb : ∀ (W : WX) (pn : List (Addr × Obj)) (xe : Value → Shared → Prop), L2N.Takes (X.tr pn xe) W → PassesOwn (model X.prog X.w) X.A X.env xe → PSs (X.tr pn xe) body (tb W))
    (hsu : ∀ (a : Addr) (oe : Obj) (pn : List (Addr × Obj)), L2.Takes (L2H.suiteX X a ((a, oe) :: pn)) Wo → L2H.HotC (L2H.suiteX X a ((a, oe) :: pn)) → PSs (L2H.suiteX X a ((a, oe) :: pn)) (b₀ :: suite) ts) :
    PS X (.Try body [.ExceptHandler (some (.Tuple [.Name x1 np1, .Name x2 np2] kk tpos)) none (b₀ :: suite) pos'] orelse [] pos) (fun D σ H => tb (w2 X.K c1 c2 ts D) { D with nx := u D } σ H) := by
  constructor
  intro pins s σ H D I h
  have frA : X.A.frames = some (X.env :: X.outer) := I.ok.frames.trans (by rw [hs])
  have hcl := I.ok
  refine wpAny_Try_except ?_
  let hdl : List ExceptHandler := [.ExceptHandler (some (.Tuple [.Name x1 np1, .Name x2 np2] kk tpos)) none (b₀ :: suite) pos']
  let xb : Value → Shared → Prop := fun e t => wpAny (model X.prog X.w) X.A (noteFrame e X.env)
    (fun _ t => wpAny (model X.prog X.w) X.A (setFlight e none) (fun _ t => wpAny (model X.prog X.w) X.A (handleBy e X.env hdl) (SP X pins D) X.xe t) X.xe t) X.xe t
  have bdy := hb (w2 X.K c1 c2 ts D) (X.pn ++ pins) xb ?_ PassesOwn.looking
  · refine wpAny_mono (bdy.run [] s σ H { D with nx := u D } (I.toTry _) h) ?_ fun _ _ z => z
    intro fl t z
    cases fl with
    | next => let ⟨σ', H', J, q⟩ := z; exact ho.run pins t σ' H' D (J.ofTry hcl) q
    | brk => let ⟨σ', H', J, q⟩ := z; exact ⟨σ', H', J.ofTry hcl, q⟩
    | cont => let ⟨σ', H', J, q⟩ := z; exact ⟨σ', H', J.ofTry hcl, q⟩
    | ret u => let ⟨v, σ', H', J, r, q⟩ := z; exact ⟨v, σ', H', J.ofTry hcl, r, q⟩
  intro uu t air
  obtain ⟨a, B, sI, p', σ', H', cls, d, rfl, J0, nb, up, sky, na, os, ag, hm, go⟩ := air
  have J : Inv X pins σ' H' sI := J0.ofTry hcl
  have sky2 : Sky B (X.env :: X.outer) a (L2N.Zn cls d) X.env.locals t.heap := by rw [← hs]; exact sky
  refine L2N.Sky.land L2N.Zn.steady frA hf sky2 fun g fl ug => ?_
  have Jg : Inv X pins σ' H' { t with heap := g } := J.landed nb fl.1 (up.trans ug) os ag
  have aw : a ∉ frs (X.env :: X.outer) := fun hmm => by
    obtain ⟨o1, v1, e1, _, d1⟩ := fl.there
    obtain ⟨_, o2, e2, hno⟩ := fl.2.2.1.mem hmm
    rw [e1] at e2
    cases e2
    exact hno _ d1
  have nL : a ≠ X.env.locals := fun z => aw (List.mem_filterMap.mpr ⟨X.env, List.mem_cons_self, by rw [hf, z]⟩)
  have nF : a ∉ X.fs := fun hmm => by
    obtain ⟨ev, hev, q⟩ := List.mem_filterMap.mp hmm
    exact aw (List.mem_filterMap.mpr ⟨ev, List.mem_cons_of_mem _ hev, q⟩)
  obtain ⟨oe, vs, he, hz, hd⟩ := fl.there
  have Sg := Jg.suite he hd na nL nF
  refine wpAny_handleBy_cons (codeAny_handlers_test ?_) (by intro q; cases q)
  have seen : PySem.W.Looks (model X.prog X.w) g (typeOf (.ref a)) cls := fun A Q E t k q => wpAny_typeOf_ref (k _ _ he) (by rw [hz.1]; exact q)
  have named : ∀ {x : Str} {c : Value} {np : Pos}, Names X x c → ∀ {Q : Value → Shared → Prop} {E : Value → Shared → Prop}, Q c { t with heap := g } → wpAny (model X.prog X.w) (X.A.mark (some (.ref a))) (eval (.Name x np) X.env) Q E { t with heap := g } := fun {x c np} hc {Q E} q => by
    rcases hc with ⟨hg, hdb, h1 | ⟨h1, h2, h3⟩⟩
    · exact ld_glob (X := X.suite a ((a, oe) :: (X.pn ++ pins))) Sg hg h1 q hdb
    · exact ld_blt (X := X.suite a ((a, oe) :: (X.pn ++ pins))) Sg hg h1 h2 q h3 hdb
  refine wpAny_Tuple (wpAny_items_cons (named hc1 (wpAny_items_cons (named hc2 (wpAny_items_nil ⟨by size_fits, ?_⟩)))))
  have kp : ∀ b o, g.get? b = some o → (g.push { cls := .type "tuple", data := .seq [c1, c2].toArray }).get? b = some o := fun _ _ z => Heap.get?_push_of_some _ z
  refine (PySem.W.exm_tup2 (Jg.kIn.keeps kp) (seen.keeps kp) (Heap.get?_push_size g rfl) hm).here ?_
  refine codeAny_handlers_suite ?_
  refine HandSPX.lands_againZ (keepFly kp fl) fun g4 fl4 u4 => ?_
  have J4 : Inv X pins σ' H' { t with heap := g4 } := J.landed nb fl4.1 (((up.trans ug).trans (Heap.UpToSlots.of_keeps kp)).trans u4) os ag
  obtain ⟨o4, v4, e4, z4, d4⟩ := fl4.there
  have T4 := J4.suite e4 d4 na nL nF
  have tkS : L2.Takes (L2H.suiteX X a ((a, o4) :: (X.pn ++ pins))) Wo := fun w3 t3 air3 => by
    obtain ⟨b3, B3, r3, q3, σ3, H3, k3, d3, ee, I3, n3, u3, y3, m3, s3, g3, ww⟩ := air3
    exact tk w3 t3 ⟨b3, B3, r3, pins, σ3, H3, k3, d3, ee, L2H.unsuiteX I3 hcl, n3, u3, y3, m3, s3, g3, ww⟩
  have hot : L2H.HotC (L2H.suiteX X a ((a, o4) :: (X.pn ++ pins))) := ⟨(a, o4), ⟨rfl, v4, d4, z4.2.2 v4 d4⟩, List.mem_cons_self⟩
  refine wpAny_mono ((hsu a o4 (X.pn ++ pins) tkS hot).run [] _ σ' H' D (L2H.suiteX_of T4) (go a na)) (fun fl6 t6 z => ?_) fun e6 t6 z => hpa (some (.ref a)) e6 t6 z
  cases fl6 with
  | next => let ⟨σ6, H6, S6, q⟩ := z; exact ⟨σ6, H6, L2H.unsuiteX S6 hcl, q⟩
  | brk => let ⟨σ6, H6, S6, q⟩ := z; exact ⟨σ6, H6, L2H.unsuiteX S6 hcl, q⟩
  | cont => let ⟨σ6, H6, S6, q⟩ := z; exact ⟨σ6, H6, L2H.unsuiteX S6 hcl, q⟩
  | ret u => let ⟨v6, σ6, H6, S6, r, q⟩ := z; exact ⟨v6, σ6, H6, L2H.unsuiteX S6 hcl, r, q⟩
end
def try2 (ys : List Str) (fs fe : SF) : RS → RS
  | .ok .nx ρ => fe ρ
  | .ok fl ρ => .ok fl ρ
  | .ex c ρ => if cMem ys (xB c) then fs ρ else .bad
  | .bad => .bad
@[simp] theorem try2_nx (ys : List Str) (fs fe : SF) (ρ : Env) : try2 ys fs fe (.ok .nx ρ) = fe ρ := rfl
@[simp] theorem try2_ex (ys : List Str) (fs fe : SF) (c : Str) (ρ : Env) : try2 ys fs fe (.ex c ρ) = if cMem ys (xB c) then fs ρ else .bad := rfl
def sTry2 (fb : SF) (ys : List Str) (fs fe : SF) : SF := fun ρ => try2 ys fs fe (fb ρ)
@[simp] theorem sTry2_eq (fb : SF) (ys : List Str) (fs fe : SF) (ρ : Env) : sTry2 fb ys fs fe ρ = try2 ys fs fe (fb ρ) := rfl
section
variable {K : PySem.W.Frag} {cl : Clx} {W : WX}
theorem semTry2 {tb : WX → TS} {ts u : TS} {fb fs fe : SF} {ys : List Str} {x1 x2 : Str} (hb : ∀ W, SemS K cl W (tb W) fb) (hs : SemS K cl W ts fs) (hu : SemS K cl W u fe) (hm : ∀ z, cMem ys z = true → PySem.W.exmAny K (.ref (cl z)) [.ref (cl x1), .ref (cl x2)] = some true) :
    SemS K cl W (fun D σ H => tb (w2 K (.ref (cl x1)) (.ref (cl x2)) ts D) { D with nx := u D } σ H) (sTry2 fb ys fs fe) := by
  intro ρ σ G H Fs env D hq
  refine hb _ ρ σ G H Fs env _ ?_
  rw [sTry2_eq] at hq
  cases e : fb ρ with
  | bad => rw [e] at hq; exact hq
  | ok fl ρ1 =>
    rw [e] at hq
    cases fl with
    | nx => exact fun σ2 G2 H2 F2 e2 s2 => hu _ _ _ _ _ e2 D (PostS.mono s2 hq)
    | bk => exact hq
    | ct => exact hq
    | rt k d => exact hq
  | ex c ρ1 =>
    rw [e, try2_ex] at hq
    cases ec : cMem ys (xB c) with
    | false => rw [ec] at hq; exact hq.elim
    | true =>
      rw [ec, if_pos rfl] at hq
      intro σ1 G1 H1 F1 env1 sx1 dd hdd
      exact ⟨hm (xB c) ec, fun a ha => hs _ _ _ _ _ env1 D (PostS.mono sx1 hq)⟩
end
structure FrN (X : Cx) (W : WX) where
  pn : List (Addr × Obj)
  xe : Value → Shared → Prop
  tk : L2N.Takes (X.tr pn xe) W
  po : PassesOwn (model X.prog X.w) X.A X.env xe
structure FrH (X : Cx) (W : WX) where
  a : Addr
  oe : Obj
  pn : List (Addr × Obj)
  tk : L2.Takes (L2H.suiteX X a ((a, oe) :: pn)) W
  hot : L2H.HotC (L2H.suiteX X a ((a, oe) :: pn))
section
variable {X : Cx} {cl : Clx} {W : WX} {pos : Pos}
theorem es_try2 {x1 x2 : Str} {ys : List Str} {c : Str → Addr} {b₀ : Stmt} {body suite orelse : List Stmt} {np1 np2 tpos pos' : Pos} {kk : Nat} {fb fs fe : SF} (hg1 : X.mg x1 = some (.ref (c x1))) (hg2 : X.mg x2 = some (.ref (c x2))) (tk : L2.Takes X W) (hpa : ∀ hd : Option Value, PassesOwnAt (model X.prog X.w) (X.A.mark hd) X.A X.env X.xe)
    (hb : ∀ (W : WX) (pn : List (Addr × Obj)) (xe : Value → Shared → Prop), L2N.Takes (X.tr pn xe) W → PassesOwn (model X.prog X.w) X.A X.env xe → EvB (X.tr pn xe) cl W body fb)
    (hsu : ∀ (a : Addr) (oe : Obj) (pn : List (Addr × Obj)), L2.Takes (L2H.suiteX X a ((a, oe) :: pn)) W → L2H.HotC (L2H.suiteX X a ((a, oe) :: pn)) → EvB (L2H.suiteX X a ((a, oe) :: pn)) cl W (b₀ :: suite) fs) (ho : EvB X cl W orelse fe)
    (hm : ∀ z, cMem ys z = true → PySem.W.exmAny X.K (.ref (c z)) [.ref (c x1), .ref (c x2)] = some true)
    (hs : X.stack = X.env :: X.outer := by rfl) (hf : X.env.frame = some X.env.locals := by rfl)
    (hgl1 : Gl X x1 := by rfl) (hd1 : (x1 == ("__debug__" : Str)) = false := by decide) (hgl2 : Gl X x2 := by rfl) (hd2 : (x2 == ("__debug__" : Str)) = false := by decide) (hcc : cl.c = c := by rfl) :
    EvS X cl W (.Try body [.ExceptHandler (some (.Tuple [.Name x1 np1, .Name x2 np2] kk tpos)) none (b₀ :: suite) pos'] orelse [] pos) (sTry2 fb ys fs fe) := by
  subst hcc
  obtain ⟨u, pu, su⟩ := ho
  have h1 : ∀ W, ∃ t : FrN X W → TS, ∀ z, PSs (X.tr z.pn z.xe) body (t z) ∧ SemS X.K cl W (t z) fb := fun W => ⟨fun z => Classical.choose (hb W z.pn z.xe z.tk z.po), fun z => Classical.choose_spec (hb W z.pn z.xe z.tk z.po)⟩
  have h2 : ∃ t : ∀ W, FrN X W → TS, ∀ W z, PSs (X.tr z.pn z.xe) body (t W z) ∧ SemS X.K cl W (t W z) fb := ⟨fun W => Classical.choose (h1 W), fun W => Classical.choose_spec (h1 W)⟩
  obtain ⟨t, ht⟩ := h2
  have h3 : ∃ v : FrH X W → TS, ∀ z, PSs (L2H.suiteX X z.a ((z.a, z.oe) :: z.pn)) (b₀ :: suite) (v z) ∧ SemS X.K cl W (v z) fs := ⟨fun z => Classical.choose (hsu z.a z.oe z.pn z.tk z.hot), fun z => Classical.choose_spec (hsu z.a z.oe z.pn z.tk z.hot)⟩
  obtain ⟨v, hv⟩ := h3
  refine ⟨_, ps_try2 (tb := fun W D σ H => ∀ z, t W z D σ H) (ts := fun D σ H => ∀ z, v z D σ H) (c1 := .ref (cl x1)) (c2 := .ref (cl x2)) hs hf ⟨hgl1, hd1, .inl hg1⟩ ⟨hgl2, hd2, .inl hg2⟩ hpa tk pu (fun W pn xe tk po => ?_) (fun a oe pn tk hot => ?_),
    semTry2 (fun W ρ σ G H Fs env D hq z => (ht W z).2 ρ σ G H Fs env D hq) (fun ρ σ G H Fs env D hq z => (hv z).2 ρ σ G H Fs env D hq) su hm⟩
  · exact ⟨fun pins s σ H D I q => (ht W ⟨pn, xe, tk, po⟩).1.run pins s σ H D I (q _)⟩
  · exact ⟨fun pins s σ H D I q => (hv ⟨a, oe, pn, tk, hot⟩).1.run pins s σ H D I (q _)⟩
end
/-! ### raise X(e) there -/
structure CalleeLH (P : Program) (w : World) (K : PySem.W.Frag) (mg : Str → Option Value) (base : Heap) (C fI : Addr) (k : Nat) : Prop where
  ex : ∃ fd ps, L2H.FnH P w K mg base (L2.CX P w) k fI fd ps (spL C) ∧ Binds K fd ps []
section
variable {P : Program} {w : World} {K : PySem.W.Frag} {mg : Str → Option Value} {base : Heap} {c : Str → Addr}
theorem CalleeLH.of {x wx qual m : Str} {st : Stmt} {f : Addr} {fd : FuncData} (L : ExL K mg c x wx f) (F : FunD K "__init__" qual (defArgs st) (defBody st) (defScope st) [] [] f fd) (S : FnScope ["self", "line"] ["self", "line"] (defScope st))
    (hb : ∀ (cdv : Value) (A : Around) (outer : List PySem.Env) (s : Shared) (H : Hp) (E : XK) (p : Addr × Obj), PSs (L2H.cxH (L2.CX P w) P w K mg base ["self", "line"] qual (defScope st) f cdv A outer s H E p) (defBody st) (tIni K m))
    (h : ∀ (kV doc pm : Value) (an : Option Addr) (cdv ct : Value) (us : List Value), us.length = 2 → bindArgs (PySem.W.fnOf "__init__" qual (defArgs st) (defBody st) (defScope st) .none kV doc pm an cdv ct) ⟨us, []⟩ = pure ([("self" : Str), ("line" : Str)].zip us)) :
    CalleeLH P w K mg base (c x) f 1 := by
  have bi := F.bindsN (ps := [("self" : Str), ("line" : Str)]) h
  obtain ⟨oc, od, dV, kV, doc, pm, an, cdv, ct, osl, rfl, lk, hcd, _, _⟩ := F.ex
  refine ⟨_, ["self", "line"], L2H.fn_ofH lk hcd S (fun vs H Q E q => ?_) fun A outer s H vs Q E p hot hr q => ?_, bi⟩
  · obtain ⟨a, i, rfl, _⟩ := q
    rfl
  · obtain ⟨a, i, rfl, ha, q⟩ := q
    refine ⟨_, hb cdv A outer s H E p, ?_⟩
    refine ⟨.ref a, rfl, a, c x, [.str m], rfl, by show 1 ≤ 1000; omega, L.oc, ha, ?_⟩
    refine ⟨.int i, rfl, .ref a, rfl, a, c x, rfl, L.oc, L.no, .inl ⟨ha, fun d hd hne => q d hd hne⟩⟩
end
section
variable {X : Cx} {cl : Clx} {W : WX} {pos : Pos}
theorem semRaiseF {x : Str} {c : Str → Addr} {K : PySem.W.Frag} {t : TA} {g : AF} (st : SemA K cl W t g) (hcc : cl.c = c) : SemS K cl W (fun _ σ H => tMkO (c x) (spL (c x)) [] t σ H fun cls d H' => W cls d σ H') (sRaiseF x g) := by
  subst hcc
  intro ρ σ G H Fs env D hq
  rw [sRaiseF_eq] at hq
  refine st ρ σ G H Fs env _ ?_
  cases eg : g ρ with
  | bad => rw [eg] at hq; exact hq
  | ex cc =>
    rw [eg] at hq
    exact fun G1 H1 p1 => hq σ G1 H1 Fs (env.px p1) p1.sx
  | ok ds =>
    rw [eg] at hq
    intro vs G1 H1 p1 r1
    have env1 := env.px p1
    have hq1 : PostS K cl W (Un Fs) G H D (raiT x ρ ds) := hq
    match ds, hq1, r1 with
    | [.int i], hq1, r1 =>
      replace hq1 : PostS K cl W (Un Fs) G H D (if 0 ≤ i then .ex (xK x i.toNat) ρ else .bad) := hq1
      by_cases h0 : 0 ≤ i
      · rw [if_pos h0] at hq1
        have en : ((i.toNat : Nat) : Int) = i := Int.toNat_of_nonneg h0
        generalize i.toNat = n at hq1 en
        subst en
        match vs, r1 with
        | [v], r1 =>
          have rv : Rep K cl.c G1 v (.int (n : Int)) := r1.2 0 v (.int (n : Int)) rfl rfl
          cases rv
          refine ⟨by show 1 ≤ 1000; omega, fun a ha => ⟨a, (n : Int), rfl, upd_same, fun d hd hne => ⟨rfl, d, [("line", .int (n : Int))], upd_same, ?_, ?_, ?_⟩⟩⟩
          · rw [upd_ne hne, upd_same]
          · rw [upd_ne hne] at hd
            exact hd
          · rw [upd_ne hne] at hd
            have eH : (upd (del (upd (upd (upd H1 a (L2.exo a (cl.c x) none)) d (exd d [("line", .int (n : Int))])) a (L2.exo a (cl.c x) (some d))) a) d (.xd [("line", .int (n : Int))])) = upd H1 d (.xd [("line", .int (n : Int))]) := by
              funext b
              by_cases hb : b = d
              · rw [hb, upd_same, upd_same]
              · rw [upd_ne hb, upd_ne hb]
                by_cases hba : b = a
                · rw [hba, del_same, ha]
                · rw [del_ne hba, upd_ne hba, upd_ne hb, upd_ne hba]
            rw [eH]
            have p2 := px_frozen (p := d) (o := .xd [("line", .int (n : Int))]) env1.gh hd
            have w := hq1 σ _ _ Fs (env1.px p2) ((p1.trans p2).sx) (some d) (XD.num upd_same)
            rw [xB_xK] at w
            exact w
        | [], r1 => exact absurd r1.1 (by simp)
        | _ :: _ :: _, r1 => exact absurd r1.1 (by simp)
      · rw [if_neg h0] at hq1
        exact hq1.elim
    | [], hq1, _ => exact hq1.elim
    | [.non], hq1, _ => exact hq1.elim
    | [.bl _], hq1, _ => exact hq1.elim
    | [.str _], hq1, _ => exact hq1.elim
    | [.lst _], hq1, _ => exact hq1.elim
    | [.tup _], hq1, _ => exact hq1.elim
    | [.obj _ _], hq1, _ => exact hq1.elim
    | [.exo _], hq1, _ => exact hq1.elim
    | [.dct _], hq1, _ => exact hq1.elim
    | [.dci _], hq1, _ => exact hq1.elim
    | a :: b :: r, hq1, _ => cases a <;> exact hq1.elim
theorem es_raiseFH {x wx : Str} {c : Str → Addr} {fI : Addr} {e : Expr} {g : AF} {k : Nat} {p p2 : Pos} (L : ExL X.K X.mg c x wx fI) (C : CalleeLH X.prog X.w X.K X.mg X.base (c x) fI k) (hr : L2H.RoomH (k + 1) X.A) (hc : L2H.HotC X) (tk : L2.Takes X W) (ha : EvA X cl W [e] g)
    (hg : Gl X x := by rfl) (hd : (x == ("__debug__" : Str)) = false := by decide) (he : starEach [e] X.env = (false, eval e X.env) :: starEach [] X.env := by rfl) (hpl : (backTo p2 (starEach [] X.env)).any (·.1) = false := by rfl) (hcc : cl.c = c := by rfl) :
    EvS X cl W (.Raise (some (.Call (.Name x p) [e] [] p2)) none pos) (sRaiseF x g) := by
  obtain ⟨fd, ps, F, bi⟩ := C.ex
  obtain ⟨t, pt, st, hlen⟩ := ha
  exact ⟨_, L2H.ps_raiseH hc tk (L2H.PMk5.pmk (L2H.pmk5_oexH L.oc L.ini L.tI F hr hc bi no_pass0 hg L.g pt hd he hpl)), semRaiseF st hcc⟩
theorem paB {P : Program} {w : World} {K : PySem.W.Frag} {mg : Str → Option Value} {base : Heap} {N : List Str} {qual : Str} {sc : Scope} {f : Addr} {cdv : Value} {A : Around} {outer : List PySem.Env} {s : Shared} {H : Hp} {E : XK} (hd : Option Value) :
    PassesOwnAt (model (cxB P w K mg base N qual sc f cdv A outer s H E).prog (cxB P w K mg base N qual sc f cdv A outer s H E).w) ((cxB P w K mg base N qual sc f cdv A outer s H E).A.mark hd) (cxB P w K mg base N qual sc f cdv A outer s H E).A (cxB P w K mg base N qual sc f cdv A outer s H E).env (cxB P w K mg base N qual sc f cdv A outer s H E).xe :=
  L2H.passesAt_of rfl hd
end
theorem exm2B_ok {ys : List Str} {x1 x2 : Str} {K : PySem.W.Frag} (h : exm2B ys x1 x2 K = true) : ∀ z, cMem ys z = true → PySem.W.exmAny K (.ref (He.ga K z)) [.ref (He.ga K x1), .ref (He.ga K x2)] = some true := fun z hz => of_decide_eq_true (List.all_eq_true.mp h z (cMem_of hz))
end B
namespace B
open PySem L2
/-! ### a dict display of numbers by texts, indexed at once -/
def kvD (ps : List (Str × Int)) : List (Key × V) := ps.map fun p => (.inr p.1, .int p.2)
def dspV (ps : List (Str × Int)) (x : Vl) : R Vl := match x.d with
  | .str z => (match valV (kvD ps) (.inr z) with
    | some (.int i) => .ok (sh (.int i))
    | _ => .bad)
  | _ => .bad
def eDsp (ps : List (Str × Int)) (f : EF) : EF := fun ρ => (f ρ).bind (dspV ps)
@[simp] theorem eDsp_eq (ps : List (Str × Int)) (f : EF) (ρ : Env) : eDsp ps f ρ = (f ρ).bind (dspV ps) := rfl
@[simp] theorem dspV_eq (ps : List (Str × Int)) (b : Bool) (k : Nat) (z : Str) : dspV ps ⟨b, k, .str z⟩ = match valV (kvD ps) (.inr z) with
    | some (.int i) => .ok (sh (.int i))
    | _ => .bad := rfl
def trsD (ps : List (Str × Int)) : List (TE × TE) := ps.map fun p => (tC (.str p.1), tC (.int p.2))
theorem tPairs_c (σ : L2.St) (H : Hp) : ∀ (ps : List (Str × Int)) (Q : List (V × V) → Hp → Prop), Q (ps.map fun p => (.str p.1, .int p.2)) H → tPairs (trsD ps) σ H Q
  | [], Q, h => h
  | p :: r, Q, h => tPairs_c σ H r (fun qs H3 => Q ((.str p.1, .int p.2) :: qs) H3) h
/-- the display's parts are texts and numbers -/
def DspOk (X : Cx) (pos : Pos) (keys : List (Option Expr)) (values : List Expr) (ps : List (Str × Int)) : Prop := PPs X pos keys values (trsD ps)
theorem dsp_nil {X : Cx} {pos : Pos} : DspOk X pos [] [] [] := pps_nil
theorem dsp_cons {X : Cx} {pos p1 p2 : Pos} {j l : Nat} {z : Str} {i : Int} {ks : List (Option Expr)} {vs : List Expr} {ps : List (Str × Int)} (h : DspOk X pos ks vs ps) : DspOk X pos (some (.Constant (.str z) j p1) :: ks) (.Constant (.int i) l p2 :: vs) ((z, i) :: ps) := pps_cons pe_str pe_int h
section
variable {X : Cx} {cl : Clx} {W : WX} {pos : Pos}
theorem ev_dsp {keys : List (Option Expr)} {values : List Expr} {ps : List (Str × Int)} {p2 : Pos} {b : Expr} {f : EF} (hu : X.A.units + 64 < cLine) (hd : DspOk X p2 keys values ps) (hb : EvE X cl W b f) (hm : mergeK [] (kvD ps) = kvD ps) (hall : keys.all (·.isSome) = true := by rfl) (hl : keys.length = values.length := by rfl)
    (h0 : keys ≠ [] := by simp) (h15 : keys.length ≤ 15 := by decide) (hp : ps.length ≤ 15 := by decide) (hs : NoSl b := by intro _ _; rfl) : EvE X cl W (.Subscript (.Dict keys values p2) b pos) (eDsp ps f) := by
  obtain ⟨t, pt, st⟩ := hb
  refine ⟨_, pe_dget (by omega) (pe_disp hd hall hl h0 h15) pt hs, fun ρ σ G H Fs env Q hq => ?_⟩
  intro p hp0
  refine tPairs_c σ _ ps _ ⟨upd_same, kvD ps, by unfold kvD; rw [List.map_map]; rfl, by unfold kvD; simpa using hp, ?_⟩
  rw [hm]
  have eH : upd (upd H p (.dK [])) p (.dK (kvD ps)) = upd H p (.dK (kvD ps)) := by
    funext c
    by_cases hc : c = p
    · rw [hc, upd_same, upd_same]
    · rw [upd_ne hc, upd_ne hc, upd_ne hc]
  rw [eH]
  have p1 := px_frozen (p := p) (o := .dK (kvD ps)) env.gh hp0
  have env1 := env.px p1
  have hq1 := PostG.mono PV.mono p1 hq
  refine st.use env1 PV.mono hq1 fun x v G1 H1 F1 e1 q1 env2 o1 f1 hq2 => ?_
  obtain ⟨xb, xk, d⟩ := x
  cases d with
  | str z =>
    rw [dspV_eq] at hq2
    cases e : valV (kvD ps) (.inr z) with
    | none => rw [e] at hq2; exact hq2.elim
    | some w =>
      rw [e] at hq2
      cases w with
      | int i =>
        have hz : v = .str z := o1.str
        subst hz
        refine ⟨p, .int i, rfl, ?_, hq2 (.int i) G1 H1 (fun _ => False) (Px.refl env2.gh) (Rep.int _) noFoo⟩
        have hg := DGet.k (H := H1) (a := p) (kvs := kvD ps) (k := .inr z) (q1.hh _ _ upd_same)
        rw [e] at hg
        exact hg
      | _ => exact hq2.elim
  | _ => exact hq2.elim
end
end B
namespace B
open PySem L2
/-! == of lists of ints, of lists of such -/
theorem eqvAll_map {α : Type} [DecidableEq α] (f : α → D) (h : ∀ x y : α, PyData.eqv (toPy (f x)) (toPy (f y)) = decide (x = y)) : ∀ xs ys : List α, PyData.eqvAll (toPyL (xs.map f)) (toPyL (ys.map f)) = decide (xs = ys)
  | [], [] => by simp [toPyL, PyData.eqvAll]
  | [], y :: ys => by simp [toPyL, PyData.eqvAll]
  | x :: xs, [] => by simp [toPyL, PyData.eqvAll]
  | x :: xs, y :: ys => by
    rw [List.map_cons, List.map_cons, toPyL, toPyL, PyData.eqvAll, h, eqvAll_map f h xs ys]
    by_cases h1 : x = y <;> by_cases h2 : xs = ys <;> simp [h1, h2]
theorem eqv_lst {α : Type} [DecidableEq α] (f : α → D) (h : ∀ x y : α, PyData.eqv (toPy (f x)) (toPy (f y)) = decide (x = y)) (xs ys : List α) : PyData.eqv (toPy (.lst (xs.map f))) (toPy (.lst (ys.map f))) = decide (xs = ys) := by
  show PyData.eqv (.list (toPyL (xs.map f))) (.list (toPyL (ys.map f))) = _
  rw [PyData.eqv]
  exact eqvAll_map f h xs ys
theorem eqv_int (x y : Int) : PyData.eqv (toPy (.int x)) (toPy (.int y)) = decide (x = y) := by
  show PyData.eqv (.int x) (.int y) = _
  rw [PyData.eqv]
  by_cases h : x = y <;> simp [h]
theorem eqA_lst {α : Type} [DecidableEq α] (f : α → D) (h : ∀ x y : α, PyData.eqv (toPy (f x)) (toPy (f y)) = decide (x = y)) (xs ys : List α) (hx : dat (.lst (xs.map f)) = true) (hy : dat (.lst (ys.map f)) = true) : eqA (.lst (xs.map f)) (.lst (ys.map f)) = some (decide (xs = ys)) := by
  have hd : (dat (.lst (xs.map f)) && dat (.lst (ys.map f))) = true := by rw [hx, hy]; rfl
  unfold eqA
  show (match eqF (.lst (xs.map f)) (.lst (ys.map f)) with | some b => some b | none => _) = _
  have e : eqF (.lst (xs.map f)) (.lst (ys.map f)) = none := rfl
  rw [e]
  dsimp only
  rw [if_pos hd, eqv_lst f h]
end B
namespace K16
open PySem L2 B
@[simp] theorem osA_Belt : cMem osA "Belt" = true := by decide +kernel
@[simp] theorem esA_Belt : cMem esA "Belt" = false := by decide +kernel
@[simp] theorem osA_Knot : cMem osA "Knot" = true := by decide +kernel
@[simp] theorem esA_Knot : cMem esA "Knot" = false := by decide +kernel
@[simp] theorem osA_Source : cMem osA "Source" = true := by decide +kernel
@[simp] theorem esA_Source : cMem esA "Source" = false := by decide +kernel
@[simp] theorem osA_Drain : cMem osA "Drain" = true := by decide +kernel
@[simp] theorem esA_Drain : cMem esA "Drain" = false := by decide +kernel
@[simp] theorem osA_Parter : cMem osA "Parter" = true := by decide +kernel
@[simp] theorem esA_Parter : cMem esA "Parter" = false := by decide +kernel
@[simp] theorem osA_FirstParter : cMem osA "FirstParter" = true := by decide +kernel
@[simp] theorem esA_FirstParter : cMem esA "FirstParter" = false := by decide +kernel
@[simp] theorem osA_Sieve : cMem osA "Sieve" = true := by decide +kernel
@[simp] theorem esA_Sieve : cMem esA "Sieve" = false := by decide +kernel
@[simp] theorem osA_Joiner : cMem osA "Joiner" = true := by decide +kernel
@[simp] theorem esA_Joiner : cMem esA "Joiner" = false := by decide +kernel
@[simp] theorem osA_Work : cMem osA "Work" = true := by decide +kernel
@[simp] theorem esA_Work : cMem esA "Work" = false := by decide +kernel
@[simp] theorem osA_WorkError : cMem osA "WorkError" = false := by decide +kernel
@[simp] theorem esA_WorkError : cMem esA "WorkError" = true := by decide +kernel
@[simp] theorem osA_NoRatio : cMem osA "NoRatio" = false := by decide +kernel
@[simp] theorem esA_NoRatio : cMem esA "NoRatio" = true := by decide +kernel
@[simp] theorem osA_BadBelt : cMem osA "BadBelt" = false := by decide +kernel
@[simp] theorem esA_BadBelt : cMem esA "BadBelt" = true := by decide +kernel
@[simp] theorem osA_BadKnot : cMem osA "BadKnot" = false := by decide +kernel
@[simp] theorem esA_BadKnot : cMem esA "BadKnot" = true := by decide +kernel
@[simp] theorem osA_BadWork : cMem osA "BadWork" = false := by decide +kernel
@[simp] theorem esA_BadWork : cMem esA "BadWork" = true := by decide +kernel
@[simp] theorem osA_BadRow : cMem osA "BadRow" = false := by decide +kernel
@[simp] theorem esA_BadRow : cMem esA "BadRow" = true := by decide +kernel
@[simp] theorem osA_TooLong : cMem osA "TooLong" = false := by decide +kernel
@[simp] theorem esA_TooLong : cMem esA "TooLong" = true := by decide +kernel
@[simp] theorem osA_BadPaces : cMem osA "BadPaces" = false := by decide +kernel
@[simp] theorem esA_BadPaces : cMem esA "BadPaces" = true := by decide +kernel
@[simp] theorem osA_TooMany : cMem osA "TooMany" = false := by decide +kernel
@[simp] theorem esA_TooMany : cMem esA "TooMany" = true := by decide +kernel
@[simp] theorem osA_Moving : cMem osA "Moving" = false := by decide +kernel
@[simp] theorem esA_Moving : cMem esA "Moving" = true := by decide +kernel
@[simp] theorem zt_BadBelt_BadKnot__WorkError : cMem z_BadBelt_BadKnot "WorkError" = false := by decide +kernel
@[simp] theorem zt_BadBelt_BadKnot__NoRatio : cMem z_BadBelt_BadKnot "NoRatio" = false := by decide +kernel
@[simp] theorem zt_BadBelt_BadKnot__BadBelt : cMem z_BadBelt_BadKnot "BadBelt" = true := by decide +kernel
@[simp] theorem zt_BadBelt_BadKnot__BadKnot : cMem z_BadBelt_BadKnot "BadKnot" = true := by decide +kernel
@[simp] theorem zt_BadBelt_BadKnot__BadWork : cMem z_BadBelt_BadKnot "BadWork" = false := by decide +kernel
@[simp] theorem zt_BadBelt_BadKnot__BadRow : cMem z_BadBelt_BadKnot "BadRow" = false := by decide +kernel
@[simp] theorem zt_BadBelt_BadKnot__TooLong : cMem z_BadBelt_BadKnot "TooLong" = false := by decide +kernel
@[simp] theorem zt_BadBelt_BadKnot__BadPaces : cMem z_BadBelt_BadKnot "BadPaces" = false := by decide +kernel
@[simp] theorem zt_BadBelt_BadKnot__TooMany : cMem z_BadBelt_BadKnot "TooMany" = false := by decide +kernel
@[simp] theorem zt_BadBelt_BadKnot__Moving : cMem z_BadBelt_BadKnot "Moving" = false := by decide +kernel
@[simp] theorem zt_WorkError__WorkError : cMem z_WorkError "WorkError" = true := by decide +kernel
@[simp] theorem zt_WorkError__NoRatio : cMem z_WorkError "NoRatio" = true := by decide +kernel
@[simp] theorem zt_WorkError__BadBelt : cMem z_WorkError "BadBelt" = true := by decide +kernel
@[simp] theorem zt_WorkError__BadKnot : cMem z_WorkError "BadKnot" = true := by decide +kernel
@[simp] theorem zt_WorkError__BadWork : cMem z_WorkError "BadWork" = true := by decide +kernel
@[simp] theorem zt_WorkError__BadRow : cMem z_WorkError "BadRow" = true := by decide +kernel
@[simp] theorem zt_WorkError__TooLong : cMem z_WorkError "TooLong" = true := by decide +kernel
@[simp] theorem zt_WorkError__BadPaces : cMem z_WorkError "BadPaces" = true := by decide +kernel
@[simp] theorem zt_WorkError__TooMany : cMem z_WorkError "TooMany" = true := by decide +kernel
@[simp] theorem zt_WorkError__Moving : cMem z_WorkError "Moving" = true := by decide +kernel
@[simp] theorem yt_Work__Belt : cMem y_Work "Belt" = false := by decide +kernel
@[simp] theorem yt_Work__Knot : cMem y_Work "Knot" = false := by decide +kernel
@[simp] theorem yt_Work__Source : cMem y_Work "Source" = false := by decide +kernel
@[simp] theorem yt_Work__Drain : cMem y_Work "Drain" = false := by decide +kernel
@[simp] theorem yt_Work__Parter : cMem y_Work "Parter" = false := by decide +kernel
@[simp] theorem yt_Work__FirstParter : cMem y_Work "FirstParter" = false := by decide +kernel
@[simp] theorem yt_Work__Sieve : cMem y_Work "Sieve" = false := by decide +kernel
@[simp] theorem yt_Work__Joiner : cMem y_Work "Joiner" = false := by decide +kernel
@[simp] theorem yt_Work__Work : cMem y_Work "Work" = true := by decide +kernel
@[simp] theorem yt_Work__WorkError : cMem y_Work "WorkError" = false := by decide +kernel
@[simp] theorem yt_Work__NoRatio : cMem y_Work "NoRatio" = false := by decide +kernel
@[simp] theorem yt_Work__BadBelt : cMem y_Work "BadBelt" = false := by decide +kernel
@[simp] theorem yt_Work__BadKnot : cMem y_Work "BadKnot" = false := by decide +kernel
@[simp] theorem yt_Work__BadWork : cMem y_Work "BadWork" = false := by decide +kernel
@[simp] theorem yt_Work__BadRow : cMem y_Work "BadRow" = false := by decide +kernel
@[simp] theorem yt_Work__TooLong : cMem y_Work "TooLong" = false := by decide +kernel
@[simp] theorem yt_Work__BadPaces : cMem y_Work "BadPaces" = false := by decide +kernel
@[simp] theorem yt_Work__TooMany : cMem y_Work "TooMany" = false := by decide +kernel
@[simp] theorem yt_Work__Moving : cMem y_Work "Moving" = false := by decide +kernel
@[simp] theorem yt_WorkError__Belt : cMem y_WorkError "Belt" = false := by decide +kernel
@[simp] theorem yt_WorkError__Knot : cMem y_WorkError "Knot" = false := by decide +kernel
@[simp] theorem yt_WorkError__Source : cMem y_WorkError "Source" = false := by decide +kernel
@[simp] theorem yt_WorkError__Drain : cMem y_WorkError "Drain" = false := by decide +kernel
@[simp] theorem yt_WorkError__Parter : cMem y_WorkError "Parter" = false := by decide +kernel
@[simp] theorem yt_WorkError__FirstParter : cMem y_WorkError "FirstParter" = false := by decide +kernel
@[simp] theorem yt_WorkError__Sieve : cMem y_WorkError "Sieve" = false := by decide +kernel
@[simp] theorem yt_WorkError__Joiner : cMem y_WorkError "Joiner" = false := by decide +kernel
@[simp] theorem yt_WorkError__Work : cMem y_WorkError "Work" = false := by decide +kernel
@[simp] theorem yt_WorkError__WorkError : cMem y_WorkError "WorkError" = true := by decide +kernel
@[simp] theorem yt_WorkError__NoRatio : cMem y_WorkError "NoRatio" = true := by decide +kernel
@[simp] theorem yt_WorkError__BadBelt : cMem y_WorkError "BadBelt" = true := by decide +kernel
@[simp] theorem yt_WorkError__BadKnot : cMem y_WorkError "BadKnot" = true := by decide +kernel
@[simp] theorem yt_WorkError__BadWork : cMem y_WorkError "BadWork" = true := by decide +kernel
@[simp] theorem yt_WorkError__BadRow : cMem y_WorkError "BadRow" = true := by decide +kernel
@[simp] theorem yt_WorkError__TooLong : cMem y_WorkError "TooLong" = true := by decide +kernel
@[simp] theorem yt_WorkError__BadPaces : cMem y_WorkError "BadPaces" = true := by decide +kernel
@[simp] theorem yt_WorkError__TooMany : cMem y_WorkError "TooMany" = true := by decide +kernel
@[simp] theorem yt_WorkError__Moving : cMem y_WorkError "Moving" = true := by decide +kernel
@[simp] theorem yt_ValueError__Belt : cMem y_ValueError "Belt" = false := by decide +kernel
@[simp] theorem yt_ValueError__Knot : cMem y_ValueError "Knot" = false := by decide +kernel
@[simp] theorem yt_ValueError__Source : cMem y_ValueError "Source" = false := by decide +kernel
@[simp] theorem yt_ValueError__Drain : cMem y_ValueError "Drain" = false := by decide +kernel
@[simp] theorem yt_ValueError__Parter : cMem y_ValueError "Parter" = false := by decide +kernel
@[simp] theorem yt_ValueError__FirstParter : cMem y_ValueError "FirstParter" = false := by decide +kernel
@[simp] theorem yt_ValueError__Sieve : cMem y_ValueError "Sieve" = false := by decide +kernel
@[simp] theorem yt_ValueError__Joiner : cMem y_ValueError "Joiner" = false := by decide +kernel
@[simp] theorem yt_ValueError__Work : cMem y_ValueError "Work" = false := by decide +kernel
@[simp] theorem yt_ValueError__WorkError : cMem y_ValueError "WorkError" = true := by decide +kernel
@[simp] theorem yt_ValueError__NoRatio : cMem y_ValueError "NoRatio" = true := by decide +kernel
@[simp] theorem yt_ValueError__BadBelt : cMem y_ValueError "BadBelt" = true := by decide +kernel
@[simp] theorem yt_ValueError__BadKnot : cMem y_ValueError "BadKnot" = true := by decide +kernel
@[simp] theorem yt_ValueError__BadWork : cMem y_ValueError "BadWork" = true := by decide +kernel
@[simp] theorem yt_ValueError__BadRow : cMem y_ValueError "BadRow" = true := by decide +kernel
@[simp] theorem yt_ValueError__TooLong : cMem y_ValueError "TooLong" = true := by decide +kernel
@[simp] theorem yt_ValueError__BadPaces : cMem y_ValueError "BadPaces" = true := by decide +kernel
@[simp] theorem yt_ValueError__TooMany : cMem y_ValueError "TooMany" = true := by decide +kernel
@[simp] theorem yt_ValueError__Moving : cMem y_ValueError "Moving" = true := by decide +kernel
@[simp] theorem yt_all_but_BadWork_BadRow__Belt : cMem y_all_but_BadWork_BadRow "Belt" = false := by decide +kernel
@[simp] theorem yt_all_but_BadWork_BadRow__Knot : cMem y_all_but_BadWork_BadRow "Knot" = false := by decide +kernel
@[simp] theorem yt_all_but_BadWork_BadRow__Source : cMem y_all_but_BadWork_BadRow "Source" = false := by decide +kernel
@[simp] theorem yt_all_but_BadWork_BadRow__Drain : cMem y_all_but_BadWork_BadRow "Drain" = false := by decide +kernel
@[simp] theorem yt_all_but_BadWork_BadRow__Parter : cMem y_all_but_BadWork_BadRow "Parter" = false := by decide +kernel
@[simp] theorem yt_all_but_BadWork_BadRow__FirstParter : cMem y_all_but_BadWork_BadRow "FirstParter" = false := by decide +kernel
@[simp] theorem yt_all_but_BadWork_BadRow__Sieve : cMem y_all_but_BadWork_BadRow "Sieve" = false := by decide +kernel
@[simp] theorem yt_all_but_BadWork_BadRow__Joiner : cMem y_all_but_BadWork_BadRow "Joiner" = false := by decide +kernel
@[simp] theorem yt_all_but_BadWork_BadRow__Work : cMem y_all_but_BadWork_BadRow "Work" = false := by decide +kernel
@[simp] theorem yt_all_but_BadWork_BadRow__WorkError : cMem y_all_but_BadWork_BadRow "WorkError" = false := by decide +kernel
@[simp] theorem yt_all_but_BadWork_BadRow__NoRatio : cMem y_all_but_BadWork_BadRow "NoRatio" = true := by decide +kernel
@[simp] theorem yt_all_but_BadWork_BadRow__BadBelt : cMem y_all_but_BadWork_BadRow "BadBelt" = true := by decide +kernel
@[simp] theorem yt_all_but_BadWork_BadRow__BadKnot : cMem y_all_but_BadWork_BadRow "BadKnot" = true := by decide +kernel
@[simp] theorem yt_all_but_BadWork_BadRow__BadWork : cMem y_all_but_BadWork_BadRow "BadWork" = false := by decide +kernel
@[simp] theorem yt_all_but_BadWork_BadRow__BadRow : cMem y_all_but_BadWork_BadRow "BadRow" = false := by decide +kernel
@[simp] theorem yt_all_but_BadWork_BadRow__TooLong : cMem y_all_but_BadWork_BadRow "TooLong" = true := by decide +kernel
@[simp] theorem yt_all_but_BadWork_BadRow__BadPaces : cMem y_all_but_BadWork_BadRow "BadPaces" = true := by decide +kernel
@[simp] theorem yt_all_but_BadWork_BadRow__TooMany : cMem y_all_but_BadWork_BadRow "TooMany" = true := by decide +kernel
@[simp] theorem yt_all_but_BadWork_BadRow__Moving : cMem y_all_but_BadWork_BadRow "Moving" = true := by decide +kernel
@[simp] theorem yt_BadWork__Belt : cMem y_BadWork "Belt" = false := by decide +kernel
@[simp] theorem yt_BadWork__Knot : cMem y_BadWork "Knot" = false := by decide +kernel
@[simp] theorem yt_BadWork__Source : cMem y_BadWork "Source" = false := by decide +kernel
@[simp] theorem yt_BadWork__Drain : cMem y_BadWork "Drain" = false := by decide +kernel
@[simp] theorem yt_BadWork__Parter : cMem y_BadWork "Parter" = false := by decide +kernel
@[simp] theorem yt_BadWork__FirstParter : cMem y_BadWork "FirstParter" = false := by decide +kernel
@[simp] theorem yt_BadWork__Sieve : cMem y_BadWork "Sieve" = false := by decide +kernel
@[simp] theorem yt_BadWork__Joiner : cMem y_BadWork "Joiner" = false := by decide +kernel
@[simp] theorem yt_BadWork__Work : cMem y_BadWork "Work" = false := by decide +kernel
@[simp] theorem yt_BadWork__WorkError : cMem y_BadWork "WorkError" = false := by decide +kernel
@[simp] theorem yt_BadWork__NoRatio : cMem y_BadWork "NoRatio" = false := by decide +kernel
@[simp] theorem yt_BadWork__BadBelt : cMem y_BadWork "BadBelt" = false := by decide +kernel
@[simp] theorem yt_BadWork__BadKnot : cMem y_BadWork "BadKnot" = false := by decide +kernel
@[simp] theorem yt_BadWork__BadWork : cMem y_BadWork "BadWork" = true := by decide +kernel
@[simp] theorem yt_BadWork__BadRow : cMem y_BadWork "BadRow" = false := by decide +kernel
@[simp] theorem yt_BadWork__TooLong : cMem y_BadWork "TooLong" = false := by decide +kernel
@[simp] theorem yt_BadWork__BadPaces : cMem y_BadWork "BadPaces" = false := by decide +kernel
@[simp] theorem yt_BadWork__TooMany : cMem y_BadWork "TooMany" = false := by decide +kernel
@[simp] theorem yt_BadWork__Moving : cMem y_BadWork "Moving" = false := by decide +kernel
@[simp] theorem yt_BadRow__Belt : cMem y_BadRow "Belt" = false := by decide +kernel
@[simp] theorem yt_BadRow__Knot : cMem y_BadRow "Knot" = false := by decide +kernel
@[simp] theorem yt_BadRow__Source : cMem y_BadRow "Source" = false := by decide +kernel
@[simp] theorem yt_BadRow__Drain : cMem y_BadRow "Drain" = false := by decide +kernel
@[simp] theorem yt_BadRow__Parter : cMem y_BadRow "Parter" = false := by decide +kernel
@[simp] theorem yt_BadRow__FirstParter : cMem y_BadRow "FirstParter" = false := by decide +kernel
@[simp] theorem yt_BadRow__Sieve : cMem y_BadRow "Sieve" = false := by decide +kernel
@[simp] theorem yt_BadRow__Joiner : cMem y_BadRow "Joiner" = false := by decide +kernel
@[simp] theorem yt_BadRow__Work : cMem y_BadRow "Work" = false := by decide +kernel
@[simp] theorem yt_BadRow__WorkError : cMem y_BadRow "WorkError" = false := by decide +kernel
@[simp] theorem yt_BadRow__NoRatio : cMem y_BadRow "NoRatio" = false := by decide +kernel
@[simp] theorem yt_BadRow__BadBelt : cMem y_BadRow "BadBelt" = false := by decide +kernel
@[simp] theorem yt_BadRow__BadKnot : cMem y_BadRow "BadKnot" = false := by decide +kernel
@[simp] theorem yt_BadRow__BadWork : cMem y_BadRow "BadWork" = false := by decide +kernel
@[simp] theorem yt_BadRow__BadRow : cMem y_BadRow "BadRow" = true := by decide +kernel
@[simp] theorem yt_BadRow__TooLong : cMem y_BadRow "TooLong" = false := by decide +kernel
@[simp] theorem yt_BadRow__BadPaces : cMem y_BadRow "BadPaces" = false := by decide +kernel
@[simp] theorem yt_BadRow__TooMany : cMem y_BadRow "TooMany" = false := by decide +kernel
@[simp] theorem yt_BadRow__Moving : cMem y_BadRow "Moving" = false := by decide +kernel
@[simp] theorem yt_Belt__Belt : cMem y_Belt "Belt" = true := by decide +kernel
@[simp] theorem yt_Belt__Knot : cMem y_Belt "Knot" = false := by decide +kernel
@[simp] theorem yt_Belt__Source : cMem y_Belt "Source" = false := by decide +kernel
@[simp] theorem yt_Belt__Drain : cMem y_Belt "Drain" = false := by decide +kernel
@[simp] theorem yt_Belt__Parter : cMem y_Belt "Parter" = false := by decide +kernel
@[simp] theorem yt_Belt__FirstParter : cMem y_Belt "FirstParter" = false := by decide +kernel
@[simp] theorem yt_Belt__Sieve : cMem y_Belt "Sieve" = false := by decide +kernel
@[simp] theorem yt_Belt__Joiner : cMem y_Belt "Joiner" = false := by decide +kernel
@[simp] theorem yt_Belt__Work : cMem y_Belt "Work" = false := by decide +kernel
@[simp] theorem yt_Belt__WorkError : cMem y_Belt "WorkError" = false := by decide +kernel
@[simp] theorem yt_Belt__NoRatio : cMem y_Belt "NoRatio" = false := by decide +kernel
@[simp] theorem yt_Belt__BadBelt : cMem y_Belt "BadBelt" = false := by decide +kernel
@[simp] theorem yt_Belt__BadKnot : cMem y_Belt "BadKnot" = false := by decide +kernel
@[simp] theorem yt_Belt__BadWork : cMem y_Belt "BadWork" = false := by decide +kernel
@[simp] theorem yt_Belt__BadRow : cMem y_Belt "BadRow" = false := by decide +kernel
@[simp] theorem yt_Belt__TooLong : cMem y_Belt "TooLong" = false := by decide +kernel
@[simp] theorem yt_Belt__BadPaces : cMem y_Belt "BadPaces" = false := by decide +kernel
@[simp] theorem yt_Belt__TooMany : cMem y_Belt "TooMany" = false := by decide +kernel
@[simp] theorem yt_Belt__Moving : cMem y_Belt "Moving" = false := by decide +kernel
@[simp] theorem ne_belts_room : ((("belts" : Str) = ("room" : Str)) = False) := by decide
@[simp] theorem ne_belts_pace : ((("belts" : Str) = ("pace" : Str)) = False) := by decide
@[simp] theorem ne_belts_kinds : ((("belts" : Str) = ("kinds" : Str)) = False) := by decide
@[simp] theorem ne_belts_ins : ((("belts" : Str) = ("ins" : Str)) = False) := by decide
@[simp] theorem ne_belts_outs : ((("belts" : Str) = ("outs" : Str)) = False) := by decide
@[simp] theorem ne_belts_kind : ((("belts" : Str) = ("kind" : Str)) = False) := by decide
@[simp] theorem ne_belts_knots : ((("belts" : Str) = ("knots" : Str)) = False) := by decide
@[simp] theorem ne_room_belts : ((("room" : Str) = ("belts" : Str)) = False) := by decide
@[simp] theorem ne_room_pace : ((("room" : Str) = ("pace" : Str)) = False) := by decide
@[simp] theorem ne_room_kinds : ((("room" : Str) = ("kinds" : Str)) = False) := by decide
@[simp] theorem ne_room_ins : ((("room" : Str) = ("ins" : Str)) = False) := by decide
@[simp] theorem ne_room_outs : ((("room" : Str) = ("outs" : Str)) = False) := by decide
@[simp] theorem ne_room_kind : ((("room" : Str) = ("kind" : Str)) = False) := by decide
@[simp] theorem ne_room_knots : ((("room" : Str) = ("knots" : Str)) = False) := by decide
@[simp] theorem ne_pace_belts : ((("pace" : Str) = ("belts" : Str)) = False) := by decide
@[simp] theorem ne_pace_room : ((("pace" : Str) = ("room" : Str)) = False) := by decide
@[simp] theorem ne_pace_kinds : ((("pace" : Str) = ("kinds" : Str)) = False) := by decide
@[simp] theorem ne_pace_ins : ((("pace" : Str) = ("ins" : Str)) = False) := by decide
@[simp] theorem ne_pace_outs : ((("pace" : Str) = ("outs" : Str)) = False) := by decide
@[simp] theorem ne_pace_kind : ((("pace" : Str) = ("kind" : Str)) = False) := by decide
@[simp] theorem ne_pace_knots : ((("pace" : Str) = ("knots" : Str)) = False) := by decide
@[simp] theorem ne_kinds_belts : ((("kinds" : Str) = ("belts" : Str)) = False) := by decide
@[simp] theorem ne_kinds_room : ((("kinds" : Str) = ("room" : Str)) = False) := by decide
@[simp] theorem ne_kinds_pace : ((("kinds" : Str) = ("pace" : Str)) = False) := by decide
@[simp] theorem ne_kinds_ins : ((("kinds" : Str) = ("ins" : Str)) = False) := by decide
@[simp] theorem ne_kinds_outs : ((("kinds" : Str) = ("outs" : Str)) = False) := by decide
@[simp] theorem ne_kinds_kind : ((("kinds" : Str) = ("kind" : Str)) = False) := by decide
@[simp] theorem ne_kinds_knots : ((("kinds" : Str) = ("knots" : Str)) = False) := by decide
@[simp] theorem ne_ins_belts : ((("ins" : Str) = ("belts" : Str)) = False) := by decide
@[simp] theorem ne_ins_room : ((("ins" : Str) = ("room" : Str)) = False) := by decide
@[simp] theorem ne_ins_pace : ((("ins" : Str) = ("pace" : Str)) = False) := by decide
@[simp] theorem ne_ins_kinds : ((("ins" : Str) = ("kinds" : Str)) = False) := by decide
@[simp] theorem ne_ins_outs : ((("ins" : Str) = ("outs" : Str)) = False) := by decide
@[simp] theorem ne_ins_kind : ((("ins" : Str) = ("kind" : Str)) = False) := by decide
@[simp] theorem ne_ins_knots : ((("ins" : Str) = ("knots" : Str)) = False) := by decide
@[simp] theorem ne_outs_belts : ((("outs" : Str) = ("belts" : Str)) = False) := by decide
@[simp] theorem ne_outs_room : ((("outs" : Str) = ("room" : Str)) = False) := by decide
@[simp] theorem ne_outs_pace : ((("outs" : Str) = ("pace" : Str)) = False) := by decide
@[simp] theorem ne_outs_kinds : ((("outs" : Str) = ("kinds" : Str)) = False) := by decide
@[simp] theorem ne_outs_ins : ((("outs" : Str) = ("ins" : Str)) = False) := by decide
@[simp] theorem ne_outs_kind : ((("outs" : Str) = ("kind" : Str)) = False) := by decide
@[simp] theorem ne_outs_knots : ((("outs" : Str) = ("knots" : Str)) = False) := by decide
@[simp] theorem ne_kind_belts : ((("kind" : Str) = ("belts" : Str)) = False) := by decide
@[simp] theorem ne_kind_room : ((("kind" : Str) = ("room" : Str)) = False) := by decide
@[simp] theorem ne_kind_pace : ((("kind" : Str) = ("pace" : Str)) = False) := by decide
@[simp] theorem ne_kind_kinds : ((("kind" : Str) = ("kinds" : Str)) = False) := by decide
@[simp] theorem ne_kind_ins : ((("kind" : Str) = ("ins" : Str)) = False) := by decide
@[simp] theorem ne_kind_outs : ((("kind" : Str) = ("outs" : Str)) = False) := by decide
@[simp] theorem ne_kind_knots : ((("kind" : Str) = ("knots" : Str)) = False) := by decide
@[simp] theorem ne_knots_belts : ((("knots" : Str) = ("belts" : Str)) = False) := by decide
@[simp] theorem ne_knots_room : ((("knots" : Str) = ("room" : Str)) = False) := by decide
@[simp] theorem ne_knots_pace : ((("knots" : Str) = ("pace" : Str)) = False) := by decide
@[simp] theorem ne_knots_kinds : ((("knots" : Str) = ("kinds" : Str)) = False) := by decide
@[simp] theorem ne_knots_ins : ((("knots" : Str) = ("ins" : Str)) = False) := by decide
@[simp] theorem ne_knots_outs : ((("knots" : Str) = ("outs" : Str)) = False) := by decide
@[simp] theorem ne_knots_kind : ((("knots" : Str) = ("kind" : Str)) = False) := by decide
/-! _law_outs_of@4 -/
noncomputable def l1_law_outs_of__4 : SF :=
    sIf (tAndF (tV (eOp gtD (eB1 lenV (eV 4)) (eC (.int 0)))) (tV (eO2 eqV (eOp modD (eOp fdivD (eV 0) (eO2 addV (eC (.int 7)) (eO2 mulV (eC (.int 2)) (eV 6)))) (eC (.int 3))) (eC (.int 1))))) (sMtM 5 appL (mPopI (pN 4) (eOp modD (eOp fdivD (eV 0) (eC (.int 5))) (eB1 lenV (eV 4))))) (sSeq (sMtP appL (pN 2) (eTup (aCons (eO2 addV (eC (.int 1)) (eOp modD (eOp fdivD (eV 0) (eO2 addV (eC (.int 11)) (eO2 mulV (eC (.int 4)) (eV 6)))) (eC (.int 6)))) (aCons (eO2 addV (eC (.int 1)) (eOp modD (eOp fdivD (eV 0) (eO2 addV (eC (.int 3)) (eV 6))) (eC (.int 4)))) (aNil)))))
    (sSeq (sMtP appL (pN 3) (eOp subD (eB1 lenV (eV 2)) (eC (.int 1))))
    (sMtP appL (pN 5) (eOp subD (eB1 lenV (eV 2)) (eC (.int 1))))))
noncomputable def b_law_outs_of__4 : SF :=
    sSeq (sSet 5 (eFit 1 (eLst (aNil))))
    (sSeq (sFor (iA rng1 (aCons (eV 1) (aNil))) (gN 6) l1_law_outs_of__4)
    (sSeq (sIf (tV (eO2 eqV (eOp modD (eOp fdivD (eV 0) (eC (.int 13))) (eC (.int 2))) (eC (.int 1)))) (sMt0P revL (pN 5)) (sNil))
    (sRetM (mMv 5))))
noncomputable def f_law_outs_of__4 : FnM := runM 7 5 [2, 3] b_law_outs_of__4
/-! _law_kinds_of -/
noncomputable def l1_law_kinds_of : SF :=
    sSeq (sSet 3 (eS (eV 2)))
  (sSeq (sIf (tV (eO2 eqV (eOp modD (eOp fdivD (eV 0) (eC (.int 18))) (eC (.int 2))) (eC (.int 1)))) (sSet 3 (eS (eOp fdivD (eV 2) (eC (.int 2))))) (sNil))
  (sSeq (sSet 4 (eS (eOp modD (eO2 mulV (eO2 addV (eO2 addV (eOp fdivD (eV 0) (eC (.int 5))) (eO2 mulV (eV 3) (eV 3))) (eV 3)) (eC (.int 48271))) (eOp powD (eC (.int 10)) (eC (.int 30))))))
  (sSeq (sIf (tAndF (tV (eO2 eqV (eOp modD (eOp fdivD (eV 0) (eC (.int 36))) (eC (.int 4))) (eC (.int 1)))) (tV (eO2 eqV (eV 2) (eOp modD (eOp fdivD (eV 0) (eC (.int 144))) (eC (.int 6)))))) (sSet 4 (eS (eOp subD (eOp powD (eC (.int 10)) (eC (.int 30))) (eC (.int 1))))) (sNil))
  (sMtP appL (pN 1) (eV 4)))))
noncomputable def b_law_kinds_of : SF :=
    sSeq (sSet 1 (eFit 1 (eLst (aNil))))
    (sSeq (sFor (iA rng1 (aCons (eO2 addV (eC (.int 1)) (eOp modD (eOp fdivD (eV 0) (eC (.int 3))) (eC (.int 6)))) (aNil))) (gN 2) l1_law_kinds_of)
    (sRetM (mMv 1)))
noncomputable def f_law_kinds_of : Fn := runF 5 b_law_kinds_of
/-! _law_outs_of -/
noncomputable def l1_law_outs_of : SF :=
    sIf (tAndF (tV (eOp gtD (eB1 lenV (eV 4)) (eC (.int 0)))) (tV (eO2 eqV (eOp modD (eOp fdivD (eV 0) (eO2 addV (eC (.int 7)) (eO2 mulV (eC (.int 2)) (eV 6)))) (eC (.int 3))) (eC (.int 1))))) (sMtM 5 appL (mPopI (pN 4) (eOp modD (eOp fdivD (eV 0) (eC (.int 5))) (eB1 lenV (eV 4))))) (sSeq (sMtP appL (pN 2) (eTup (aCons (eO2 addV (eC (.int 1)) (eOp modD (eOp fdivD (eV 0) (eO2 addV (eC (.int 11)) (eO2 mulV (eC (.int 4)) (eV 6)))) (eC (.int 6)))) (aCons (eO2 addV (eC (.int 1)) (eOp modD (eOp fdivD (eV 0) (eO2 addV (eC (.int 3)) (eV 6))) (eC (.int 4)))) (aNil)))))
    (sSeq (sMtP appL (pN 3) (eOp subD (eB1 lenV (eV 2)) (eC (.int 1))))
    (sMtP appL (pN 5) (eOp subD (eB1 lenV (eV 2)) (eC (.int 1))))))
noncomputable def b_law_outs_of : SF :=
    sSeq (sSet 5 (eFit 1 (eLst (aNil))))
    (sSeq (sFor (iA rng1 (aCons (eV 1) (aNil))) (gN 6) l1_law_outs_of)
    (sSeq (sIf (tV (eO2 eqV (eOp modD (eOp fdivD (eV 0) (eC (.int 13))) (eC (.int 2))) (eC (.int 1)))) (sMt0P revL (pN 5)) (sNil))
    (sRetM (mMv 5))))
noncomputable def f_law_outs_of : FnM := runM 7 5 [2, 3, 4] b_law_outs_of
/-! _law_joined -/
noncomputable def l1_law_joined : SF :=
    sIf (tV (eOp gtD (eB1 lenV (eV 3)) (eC (.int 0)))) (sMtM 5 appL (mPopI (pN 3) (eOp modD (eOp fdivD (eV 0) (eO2 addV (eC (.int 10)) (eV 6))) (eB1 lenV (eV 3))))) (sNil)
noncomputable def b_law_joined : SF :=
    sSeq (sSetM 5 (mLst (msCons (mPopI (pN 3) (eOp modD (eOp fdivD (eV 0) (eC (.int 9))) (eB1 lenV (eV 3)))) (msNil))))
    (sSeq (sIf (tV (eO2 eqV (eOp modD (eV 0) (eC (.int 8))) (eC (.int 5)))) (sSeq (sMtP appL (pN 1) (eTup (aCons (eO2 addV (eC (.int 1)) (eOp modD (eOp fdivD (eV 0) (eC (.int 17))) (eC (.int 6)))) (aCons (eO2 addV (eC (.int 1)) (eOp modD (eOp fdivD (eV 0) (eC (.int 19))) (eC (.int 4)))) (aNil)))))
      (sSeq (sMtP appL (pN 4) (eOp subD (eB1 lenV (eV 1)) (eC (.int 1))))
      (sMtP appL (pN 5) (eOp subD (eB1 lenV (eV 1)) (eC (.int 1)))))) (sFor (iA rng1 (aCons (eO2 addV (eC (.int 1)) (eOp modD (eOp fdivD (eV 0) (eC (.int 8))) (eC (.int 3)))) (aNil))) (gN 6) l1_law_joined))
    (sSeq (sIf (tV (eO2 eqV (eOp modD (eOp fdivD (eV 0) (eC (.int 23))) (eC (.int 2))) (eC (.int 1)))) (sMt0P revL (pN 5)) (sNil))
    (sFz 5 (sMtM 2 appL (mTup (msCons (mP (eC (.str "joiner"))) (msCons (mP (eV 5)) (msCons (mCall f_law_outs_of [none, none, some 1, some 3, some 4] (amCons (eV 0) (amCons (eC (.int 1)) (amOwn 1 (amOwn 3 (amOwn 4 (amNil))))))) (msCons (mP (eLst (aNil))) (msNil))))))))))
noncomputable def f_law_joined : FnM := runM 7 5 [1, 2, 3, 4] b_law_joined
/-! _law_step -/
noncomputable def b_law_step : SF :=
    sSeq (sSet 5 (eS (eOp subD (eOp subD (eOp subD (eC (.int 24)) (eB1 lenV (eV 2))) (eB1 lenV (eV 3))) (eB1 lenV (eV 4)))))
    (sSeq (sSet 6 (eS (eOp subD (eC (.int 24)) (eB1 lenV (eV 1)))))
    (sSeq (sSet 7 (eS (eOp modD (eV 0) (eC (.int 8)))))
    (sSeq (sSet 8 (eS (eO2 addV (eC (.int 2)) (eOp modD (eOp fdivD (eV 0) (eC (.int 8))) (eC (.int 3))))))
    (sSeq (sIf (tV (eO2 eqV (eV 7) (eC (.int 3)))) (sSet 8 (eS (eC (.int 2)))) (sNil))
    (sIf (tOrF (tV (eO2 eqV (eV 7) (eC (.int 0)))) (tV (eO2 eqV (eB1 lenV (eV 3)) (eC (.int 0))))) (sIf (tAndF (tV (eOp gtD (eV 5) (eC (.int 1)))) (tV (eOp gtD (eV 6) (eC (.int 0))))) (sSeq (sSetM 9 (mCall f_law_outs_of__4 [none, none, some 1, some 3, none] (amCons (eV 0) (amCons (eC (.int 1)) (amOwn 1 (amOwn 3 (amCons (eLst (aNil)) (amNil))))))))
        (sFz 9 (sMtP appL (pN 2) (eTup (aCons (eC (.str "source")) (aCons (eLst (aNil)) (aCons (eV 9) (aCons (eO2 addV (eLst (aCons (eO2 addV (eC (.int 1)) (eOp modD (eOp fdivD (eV 0) (eC (.int 8))) (eC (.int 4)))) (aNil))) (eCall f_law_kinds_of (aCons (eOp fdivD (eV 0) (eC (.int 32))) (aNil)))) (aNil))))))))) (sNil)) (sIf (tOrF (tAndF (tV (eO2 eqV (eV 7) (eC (.int 4)))) (tAndF (tV (eOp gtD (eB1 lenV (eV 3)) (eC (.int 1)))) (tV (eOp gtD (eV 6) (eC (.int 0)))))) (tAndF (tV (eO2 eqV (eV 7) (eC (.int 5)))) (tAndF (tV (eOp gtD (eV 5) (eC (.int 1)))) (tV (eOp gtD (eV 6) (eC (.int 1))))))) (sExM (mCall f_law_joined [none, some 1, some 2, some 3, some 4] (amCons (eV 0) (amOwn 1 (amOwn 2 (amOwn 3 (amOwn 4 (amNil)))))))) (sIf (tV (eO2 eqV (eV 7) (eC (.int 6)))) (sMtM 2 appL (mTup (msCons (mP (eC (.str "drain"))) (msCons (mLst (msCons (mPopI (pN 3) (eOp modD (eOp fdivD (eV 0) (eC (.int 40))) (eB1 lenV (eV 3)))) (msNil))) (msCons (mP (eLst (aNil))) (msCons (mP (eLst (aCons (eOp modD (eOp fdivD (eV 0) (eC (.int 8))) (eC (.int 5))) (aNil)))) (msNil))))))) (sIf (tAndF (tV (eOp ninX (eV 7) (eTup (aCons (eC (.int 4)) (aCons (eC (.int 5)) (aNil)))))) (tAndF (tV (eOp geD (eV 5) (eV 8))) (tV (eOp geD (eV 6) (eV 8))))) (sSeq (sSetM 10 (mLst (msCons (mPopI (pN 3) (eOp modD (eOp fdivD (eV 0) (eC (.int 24))) (eB1 lenV (eV 3)))) (msNil))))
            (sSeq (sSetM 9 (mCall f_law_outs_of [none, none, some 1, some 3, some 4] (amCons (eV 0) (amCons (eV 8) (amOwn 1 (amOwn 3 (amOwn 4 (amNil))))))))
            (sFz 9 (sFz 10 (sIf (tV (eO2 eqV (eV 7) (eC (.int 3)))) (sMtP appL (pN 2) (eTup (aCons (eC (.str "sieve")) (aCons (eV 10) (aCons (eV 9) (aCons (eLst (aCons (eOp modD (eO2 mulV (eOp fdivD (eV 0) (eC (.int 8))) (eC (.int 48271))) (eOp powD (eC (.int 10)) (eC (.int 30)))) (aNil))) (aNil))))))) (sIf (tV (eO2 eqV (eV 7) (eC (.int 1)))) (sMtP appL (pN 2) (eTup (aCons (eC (.str "first")) (aCons (eV 10) (aCons (eV 9) (aCons (eLst (aNil)) (aNil))))))) (sMtP appL (pN 2) (eTup (aCons (eC (.str "parter")) (aCons (eV 10) (aCons (eV 9) (aCons (eLst (aNil)) (aNil))))))))))))) (sNil)))))))))
noncomputable def f_law_step : FnM := runM 11 5 [1, 2, 3, 4] b_law_step
/-! _law_cell_at -/
noncomputable def b_law_cell_at : SF :=
    sSeq (sIf (tV (eOp ltD (eV 1) (eB1 lenV (eV 0)))) (sRet (eIx (eV 0) (eV 1))) (sNil))
    (sRet (eC (.int 0)))
noncomputable def f_law_cell_at : Fn := runF 2 b_law_cell_at
/-! _law_parts_of -/
noncomputable def l1_law_parts_of : SF :=
    sExM (mCall f_law_step [none, some 1, some 2, some 3, some 4] (amCons (eV 5) (amOwn 1 (amOwn 2 (amOwn 3 (amOwn 4 (amNil)))))))
noncomputable def l2_law_parts_of : SF :=
    sMtP appL (pN 2) (eTup (aCons (eC (.str "drain")) (aCons (eLst (aCons (eV 7) (aNil))) (aCons (eLst (aNil)) (aCons (eLst (aCons (eOp modD (eO2 addV (eV 6) (eO2 mulV (eV 7) (eV 7))) (eC (.int 5))) (aNil))) (aNil))))))
noncomputable def l3_law_parts_of : SF :=
    sMtP appL (pN 2) (eTup (aCons (eC (.str "source")) (aCons (eLst (aNil)) (aCons (eLst (aCons (eV 7) (aNil))) (aCons (eO2 addV (eLst (aCons (eO2 addV (eC (.int 1)) (eOp modD (eO2 addV (eOp fdivD (eV 6) (eC (.int 5))) (eV 7)) (eC (.int 4)))) (aNil))) (eCall f_law_kinds_of (aCons (eO2 mulV (eV 6) (eO2 addV (eV 7) (eC (.int 1)))) (aNil)))) (aNil))))))
noncomputable def l4_law_parts_of : SF :=
    sMtP appL (pN 10) (eTup (aCons (eV 12) (aCons (eLcK 0 (iX (eV 13)) (gN 7) (tYesF) (eOp modD (eO2 addV (eV 7) (eV 9)) (eV 8)) [7]) (aCons (eLcK 0 (iX (eV 14)) (gN 7) (tYesF) (eOp modD (eO2 addV (eV 7) (eV 9)) (eV 8)) [7]) (aCons (eV 15) (aNil))))))
noncomputable def b_law_parts_of : SF :=
    sSeq (sSet 1 (eFit 1 (eLst (aNil))))
    (sSeq (sSet 2 (eFit 1 (eLst (aNil))))
    (sSeq (sSet 3 (eFit 1 (eLst (aNil))))
    (sSeq (sSet 4 (eFit 1 (eLst (aNil))))
    (sSeq (sFor (iX (eO2 addV (eLst (aCons (eB1 lenV (eV 0)) (aNil))) (eV 0))) (gN 5) l1_law_parts_of)
    (sSeq (sSet 6 (eS (eOp modD (eO2 addV (eO2 mulV (eCall f_law_cell_at (aCons (eV 0) (aCons (eC (.int 0)) (aNil)))) (eC (.int 16807))) (eB1 lenV (eV 0))) (eC (.int 2147483647)))))
    (sSeq (sFz 3 (sFor (iX (eV 3)) (gN 7) l2_law_parts_of))
    (sSeq (sFz 4 (sFor (iX (eV 4)) (gN 7) l3_law_parts_of))
    (sSeq (sFz 1 (sSet 8 (eS (eB1 lenV (eV 1)))))
    (sSeq (sSet 9 (eS (eOp modD (eOp fdivD (eV 6) (eC (.int 7))) (eV 8))))
    (sSeq (sSet 10 (eFit 1 (eLst (aNil))))
    (sSeq (sFz 2 (sFor (iX (eV 2)) (gT 4 (gsC (gN 12) (gsC (gN 13) (gsC (gN 14) (gsC (gN 15) (gsN)))))) l4_law_parts_of))
    (sSeq (sFz 10 (sSet 11 (eS (eOp modD (eOp fdivD (eV 6) (eC (.int 11))) (eB1 lenV (eV 10))))))
    (sRet (eTup (aCons (eO2 addV (eCut (eV 1) (oSome (eOp subD (eV 8) (eV 9))) (oNone)) (eCut (eV 1) (oNone) (oSome (eOp subD (eV 8) (eV 9))))) (aCons (eO2 addV (eCut (eV 10) (oSome (eV 11)) (oNone)) (eCut (eV 10) (oNone) (oSome (eV 11)))) (aNil)))))))))))))))))
noncomputable def f_law_parts_of : Fn := runF 16 b_law_parts_of
/-! _law_rows_of -/
noncomputable def l1_law_rows_of : SF :=
    sSeq (sSet 6 (eS (eO2 addV (eO2 addV (eV 3) (eV 4)) (eV 5))))
  (sSeq (sIf (tV (eO2 eqV (eV 2) (eC (.str "joiner")))) (sSet 6 (eS (eO2 addV (eV 4) (eV 3)))) (sNil))
  (sMtP appL (pN 1) (eO2 addV (eV 2) (eJoin (eC (.str "")) (eLcK 0 (iX (eV 6)) (gN 9) (tYesF) (eO2 addV (eC (.str " ")) (eB1 strV (eV 9))) [9])))))
noncomputable def b_law_rows_of : SF :=
    sSeq (sSet 1 (eFit 1 (eLcK 0 (iX (eIx (eV 0) (eC (.int 0)))) (gT 2 (gsC (gN 7) (gsC (gN 8) (gsN)))) (tYesF) (eO2 addV (eO2 addV (eO2 addV (eC (.str "belt ")) (eB1 strV (eV 7))) (eC (.str " "))) (eB1 strV (eV 8))) [7, 8])))
    (sSeq (sFor (iX (eIx (eV 0) (eC (.int 1)))) (gT 4 (gsC (gN 2) (gsC (gN 3) (gsC (gN 4) (gsC (gN 5) (gsN)))))) l1_law_rows_of)
    (sRetM (mMv 1)))
noncomputable def f_law_rows_of : Fn := runF 10 b_law_rows_of
/-! _law_no_work -/
noncomputable def b_law_no_work : SF :=
    sSeq (sSet 2 (eS (eCall f_law_rows_of (aCons (eV 0) (aNil)))))
    (sSeq (sSet 3 (eS (eB1 lenV (eIx (eV 0) (eC (.int 0))))))
    (sSeq (sSet 4 (eS (eO2 addV (eV 3) (eOp modD (eOp fdivD (eV 1) (eC (.int 5))) (eOp subD (eB1 lenV (eV 2)) (eV 3))))))
    (sSeq (sIf (tV (eO2 eqV (eOp modD (eV 1) (eC (.int 5))) (eC (.int 0)))) (sRet (eO2 addV (eCut (eV 2) (oNone) (oSome (eV 4))) (eCut (eV 2) (oSome (eO2 addV (eV 4) (eC (.int 1)))) (oNone)))) (sNil))
    (sSeq (sIf (tV (eO2 eqV (eOp modD (eV 1) (eC (.int 5))) (eC (.int 1)))) (sRet (eO2 addV (eV 2) (eLst (aCons (eIx (eV 2) (eV 4)) (aNil))))) (sNil))
    (sSeq (sIf (tV (eO2 eqV (eOp modD (eV 1) (eC (.int 5))) (eC (.int 2)))) (sRet (eO2 addV (eCut (eV 2) (oNone) (oSome (eOp subD (eV 3) (eC (.int 1))))) (eCut (eV 2) (oSome (eV 3)) (oNone)))) (sNil))
    (sSeq (sIf (tV (eO2 eqV (eOp modD (eV 1) (eC (.int 5))) (eC (.int 3)))) (sRet (eO2 addV (eLst (aCons (eC (.str "belt 1 1")) (aNil))) (eV 2))) (sNil))
    (sSeq (sAsg (eS (eIx (eIx (eV 0) (eC (.int 1))) (eOp subD (eV 4) (eV 3)))) (gT 4 (gsC (gN 6) (gsC (gN 7) (gsC (gN 8) (gsC (gN 9) (gsN)))))))
    (sSeq (sSet 5 (eS (eO2 addV (eV 3) (eOp modD (eO2 mulV (eOp fdivD (eV 1) (eC (.int 40))) (eC (.int 48271))) (eOp powD (eC (.int 10)) (eC (.int 28)))))))
    (sSeq (sIf (tV (eOp gtD (eB1 lenV (eV 7)) (eC (.int 0)))) (sSet 7 (eS (eO2 addV (eCut (eV 7) (oNone) (oSome (eUn negD (eC (.int 1))))) (eLst (aCons (eV 5) (aNil)))))) (sSet 8 (eS (eLst (aCons (eV 5) (aNil))))))
    (sRet (eO2 addV (eO2 addV (eCut (eV 2) (oNone) (oSome (eV 4))) (eCall f_law_rows_of (aCons (eTup (aCons (eLst (aNil)) (aCons (eLst (aCons (eTup (aCons (eV 6) (aCons (eV 7) (aCons (eV 8) (aCons (eV 9) (aNil)))))) (aNil))) (aNil)))) (aNil)))) (eCut (eV 2) (oSome (eO2 addV (eV 4) (eC (.int 1)))) (oNone)))))))))))))
noncomputable def f_law_no_work : Fn := runF 10 b_law_no_work
/-! _law_sign_by -/
noncomputable def b_law_sign_by : SF :=
    sSeq (sSet 1 (eS (eC (.str "!\"#$&'()*+,-./:;<=>?@ABCDEFGHIJKLMNOPQRSTUVWXYZ[\\]^_`"))))
    (sSeq (sSet 1 (eS (eO2 addV (eV 1) (eC (.str "abcdefghijklmnopqrstuvwxyz{|}~")))))
    (sRet (eOp ixS (eV 1) (eOp modD (eV 0) (eC (.int 83))))))
noncomputable def f_law_sign_by : Fn := runF 2 b_law_sign_by
/-! _law_no_number -/
noncomputable def b_law_no_number : SF :=
    sSeq (sIf (tV (eO2 eqV (eOp modD (eV 1) (eC (.int 3))) (eC (.int 0)))) (sSeq (sSet 2 (eS (eOp modD (eOp fdivD (eV 1) (eC (.int 3))) (eB1 lenV (eV 0)))))
      (sRet (eO2 addV (eO2 addV (eCutS (eV 0) (oNone) (oSome (eV 2))) (eCall f_law_sign_by (aCons (eOp fdivD (eV 1) (eC (.int 90))) (aNil)))) (eCutS (eV 0) (oSome (eO2 addV (eV 2) (eOp modD (eOp fdivD (eV 1) (eC (.int 45))) (eC (.int 2))))) (oNone))))) (sNil))
    (sSeq (sIf (tV (eO2 eqV (eOp modD (eV 1) (eC (.int 3))) (eC (.int 1)))) (sRet (eO2 addV (eC (.str "0")) (eV 0))) (sNil))
    (sRet (eIx (eLst (aCons (eC (.str "")) (aCons (eOp mulS (eC (.str "1")) (eC (.int 31))) (aCons (eO2 addV (eC (.str " ")) (eV 0)) (aCons (eO2 addV (eV 0) (eC (.str " "))) (aCons (eO2 addV (eC (.str "-")) (eV 0)) (aCons (eO2 addV (eV 0) (eOp mulS (eC (.str "0")) (eC (.int 31)))) (aCons (eC (.str "0x1")) (aNil))))))))) (eOp modD (eOp fdivD (eV 1) (eC (.int 3))) (eC (.int 7))))))
noncomputable def f_law_no_number : Fn := runF 3 b_law_no_number
/-! _law_beyond -/
noncomputable def b_law_beyond : SF :=
    sSeq (sIf (tV (eO2 eqV (eIx (eV 0) (eC (.int 0))) (eC (.str "belt")))) (sSeq (sIf (tV (eO2 eqV (eOp modD (eV 1) (eC (.int 2))) (eC (.int 0)))) (sRet (eLst (aCons (eC (.str "belt")) (aCons (eB1 strV (eO2 addV (eO2 mulV (eC (.int 7)) (eOp modD (eOp fdivD (eV 1) (eC (.int 2))) (eC (.int 2)))) (eO2 mulV (eOp modD (eOp fdivD (eV 1) (eC (.int 4))) (eC (.int 2))) (eOp modD (eOp fdivD (eV 1) (eC (.int 2))) (eC (.int 2)))))) (aCons (eIx (eV 0) (eC (.int 2))) (aNil)))))) (sNil))
      (sRet (eLst (aCons (eC (.str "belt")) (aCons (eIx (eV 0) (eC (.int 1))) (aCons (eB1 strV (eO2 mulV (eOp modD (eOp fdivD (eV 1) (eC (.int 2))) (eC (.int 2))) (eO2 addV (eC (.int 5)) (eOp modD (eOp fdivD (eV 1) (eC (.int 4))) (eC (.int 90)))))) (aNil))))))) (sNil))
    (sSeq (sIf (tV (eO2 eqV (eIx (eV 0) (eC (.int 0))) (eC (.str "source")))) (sRet (eO2 addV (eO2 addV (eCut (eV 0) (oNone) (oSome (eC (.int 2)))) (eLst (aCons (eB1 strV (eO2 mulV (eOp modD (eV 1) (eC (.int 2))) (eO2 addV (eC (.int 5)) (eOp modD (eOp fdivD (eV 1) (eC (.int 4))) (eC (.int 90)))))) (aNil)))) (eCut (eV 0) (oSome (eC (.int 3))) (oNone)))) (sNil))
    (sSeq (sIf (tV (eO2 eqV (eIx (eV 0) (eC (.int 0))) (eC (.str "drain")))) (sRet (eO2 addV (eCut (eV 0) (oNone) (oSome (eC (.int 2)))) (eLst (aCons (eB1 strV (eO2 addV (eC (.int 5)) (eOp modD (eO2 mulV (eOp fdivD (eV 1) (eC (.int 4))) (eC (.int 48271))) (eOp powD (eC (.int 10)) (eC (.int 28)))))) (aNil))))) (sNil))
    (sRet (eO2 addV (eLst (aCons (eO2 addV (eIx (eV 0) (eC (.int 0))) (eC (.str " "))) (aNil))) (eCut (eV 0) (oSome (eC (.int 1))) (oNone))))))
noncomputable def f_law_beyond : Fn := runF 2 b_law_beyond
/-! _law_spoilt -/
noncomputable def l1_law_spoilt : SF :=
    sMtP appL (pN 2) (eB1 strV (eO2 addV (eC (.int 1)) (eOp modD (eV 7) (eC (.int 3)))))
noncomputable def b_law_spoilt : SF :=
    sSeq (sSet 2 (eFit 1 (eSpl (eV 0) (eC (.str " ")))))
    (sSeq (sSet 3 (eS (eDsp [(("belt" : Str), 2), (("source" : Str), 3), (("drain" : Str), 2), (("parter" : Str), 3), (("first" : Str), 3), (("sieve" : Str), 4), (("joiner" : Str), 3)] (eIx (eV 2) (eC (.int 0))))))
    (sSeq (sSet 4 (eS (eDsp [(("belt" : Str), 2), (("source" : Str), 8), (("drain" : Str), 2), (("parter" : Str), 5), (("first" : Str), 5), (("sieve" : Str), 4), (("joiner" : Str), 5)] (eIx (eV 2) (eC (.int 0))))))
    (sSeq (sSet 5 (eS (eOp modD (eV 1) (eC (.int 8)))))
    (sSeq (sSet 6 (eS (eOp modD (eOp fdivD (eV 1) (eC (.int 8))) (eB1 lenV (eV 2)))))
    (sSeq (sIf (tV (eO2 eqV (eV 5) (eC (.int 0)))) (sRet (eJoin (eC (.str " ")) (eCut (eV 2) (oNone) (oSome (eO2 addV (eC (.int 1)) (eOp modD (eOp fdivD (eV 1) (eC (.int 8))) (eV 3))))))) (sNil))
    (sSeq (sIf (tV (eO2 eqV (eV 5) (eC (.int 1)))) (sSeq (sFor (iA rng1 (aCons (eO2 addV (eO2 addV (eOp subD (eO2 addV (eV 4) (eC (.int 1))) (eB1 lenV (eV 2))) (eC (.int 1))) (eOp modD (eOp fdivD (eV 1) (eC (.int 8))) (eC (.int 3)))) (aNil))) (gN 7) l1_law_spoilt)
      (sRet (eBor 2 (eJoin (eC (.str " ")) (eV 2))))) (sNil))
    (sSeq (sIf (tOrF (tV (eO2 eqV (eV 5) (eC (.int 2)))) (tV (eO2 eqV (eV 5) (eC (.int 3))))) (sSeq (sSet 6 (eS (eO2 addV (eC (.int 1)) (eOp modD (eOp fdivD (eV 1) (eC (.int 8))) (eOp subD (eB1 lenV (eV 2)) (eC (.int 1)))))))
      (sSeq (sStP 0 (pN 2) (eV 6) (eCall f_law_no_number (aCons (eIx (eV 2) (eV 6)) (aCons (eOp fdivD (eV 1) (eC (.int 72))) (aNil)))))
      (sRet (eBor 2 (eJoin (eC (.str " ")) (eV 2)))))) (sNil))
    (sSeq (sIf (tV (eO2 eqV (eV 5) (eC (.int 4)))) (sRet (eJoin (eC (.str " ")) (eBor 2 (eCall f_law_beyond (aCons (eV 2) (aCons (eOp fdivD (eV 1) (eC (.int 8))) (aNil))))))) (sNil))
    (sSeq (sIf (tV (eO2 eqV (eV 5) (eC (.int 5)))) (sSeq (sSet 8 (eS (eLst (aCons (eC (.str "")) (aCons (eC (.str "Belt")) (aCons (eC (.str "belts")) (aCons (eC (.str "sourc")) (aCons (eC (.str "SOURCE")) (aCons (eC (.str "drains")) (aCons (eC (.str "part")) (aCons (eC (.str "firsts")) (aCons (eC (.str "seive")) (aCons (eC (.str "join")) (aCons (eC (.str "1")) (aCons (eC (.str "knot")) (aNil))))))))))))))))
      (sSeq (sStP 0 (pN 2) (eC (.int 0)) (eIx (eV 8) (eOp modD (eOp fdivD (eV 1) (eC (.int 8))) (eC (.int 12)))))
      (sRet (eBor 2 (eJoin (eC (.str " ")) (eV 2)))))) (sNil))
    (sSeq (sFz 2 (sIf (tV (eO2 eqV (eV 5) (eC (.int 6)))) (sRet (eJoin (eC (.str " ")) (eO2 addV (eO2 addV (eCut (eV 2) (oNone) (oSome (eV 6))) (eLst (aCons (eC (.str "")) (aNil)))) (eCut (eV 2) (oSome (eV 6)) (oNone))))) (sNil)))
    (sRet (eIx (eLst (aCons (eC (.str "")) (aCons (eC (.str " ")) (aCons (eC (.str "  ")) (aCons (eO2 addV (eV 0) (eC (.str " "))) (aNil)))))) (eOp modD (eOp fdivD (eV 1) (eC (.int 8))) (eC (.int 4)))))))))))))))
noncomputable def f_law_spoilt : Fn := runF 9 b_law_spoilt
/-! _law_bad_rows -/
noncomputable def b_law_bad_rows : SF :=
    sSeq (sSet 4 (eS (eOp modD (eOp fdivD (eV 2) (eC (.int 4))) (eB1 lenV (eV 0)))))
    (sSeq (sIf (tV (eO2 eqV (eOp modD (eV 2) (eC (.int 4))) (eC (.int 0)))) (sSeq (sSet 5 (eS (eO2 addV (eV 4) (eOp modD (eOp fdivD (eV 3) (eC (.int 5))) (eOp subD (eB1 lenV (eV 0)) (eV 4))))))
      (sSeq (sSet 6 (eFit 1 (eB1 listV (eV 0))))
      (sSeq (sStP 0 (pN 6) (eV 5) (eCall f_law_spoilt (aCons (eIx (eV 0) (eV 5)) (aCons (eOp fdivD (eV 3) (eC (.int 7))) (aNil)))))
      (sSeq (sStP 0 (pN 6) (eV 4) (eCall f_law_spoilt (aCons (eIx (eV 0) (eV 4)) (aCons (eOp fdivD (eV 3) (eC (.int 3))) (aNil)))))
      (sSeq (sSet 7 (eS (eLst (aNil))))
      (sSeq (sIf (tV (eO2 eqV (eOp modD (eOp fdivD (eV 3) (eC (.int 11))) (eC (.int 4))) (eC (.int 1)))) (sSet 7 (eS (eO2 mulV (eLst (aCons (eC (.str "belt 1 1")) (aNil))) (eOp subD (eC (.int 25)) (eV 1))))) (sNil))
      (sFz 6 (sRet (eTup (aCons (eO2 addV (eO2 addV (eB1 lenV (eV 7)) (eV 4)) (eC (.int 1))) (aCons (eO2 addV (eV 7) (eV 6)) (aNil)))))))))))) (sNil))
    (sSeq (sIf (tV (eO2 eqV (eOp modD (eV 2) (eC (.int 4))) (eC (.int 1)))) (sSeq (sSet 4 (eS (eO2 addV (eO2 addV (eV 1) (eC (.int 1))) (eOp modD (eOp fdivD (eV 2) (eC (.int 4))) (eOp subD (eB1 lenV (eV 0)) (eV 1))))))
      (sRet (eTup (aCons (eO2 addV (eV 4) (eC (.int 1))) (aCons (eO2 addV (eO2 addV (eCut (eV 0) (oNone) (oSome (eV 4))) (eLst (aCons (eIx (eV 0) (eOp modD (eV 3) (eV 1))) (aNil)))) (eCut (eV 0) (oSome (eV 4)) (oNone))) (aNil)))))) (sNil))
    (sSeq (sIf (tV (eO2 eqV (eOp modD (eOp fdivD (eV 2) (eC (.int 4))) (eC (.int 3))) (eC (.int 0)))) (sRet (eTup (aCons (eC (.int 1)) (aCons (eLst (aCons (eC (.str "")) (aNil))) (aNil))))) (sNil))
    (sRet (eTup (aCons (eO2 addV (eB1 lenV (eV 0)) (eC (.int 1))) (aCons (eO2 addV (eV 0) (eLst (aCons (eC (.str "")) (aNil)))) (aNil))))))))
noncomputable def f_law_bad_rows : Fn := runF 8 b_law_bad_rows
/-! _law_told -/
noncomputable def b_law_told : SF :=
    sSeq (sIf (tOrF (tNotF (tV (eIs osA esA y_WorkError (eV 0)))) (tNotF (tV (eIs osA esA y_ValueError (eV 0))))) (sRet (eC (.bl false))) (sNil))
    (sSeq (sIf (tV (eIs osA esA y_all_but_BadWork_BadRow (eV 0))) (sRet (eC (.bl false))) (sNil))
    (sSeq (sIf (tV (eOp isD (eV 1) (eC .non))) (sRet (eAnd (eIs osA esA y_BadWork (eV 0)) (eNot (eIs osA esA y_BadRow (eV 0))))) (sNil))
    (sSeq (sIf (tOrF (tNotF (tV (eIs osA esA y_BadRow (eV 0)))) (tV (eIs osA esA y_BadWork (eV 0)))) (sRet (eC (.bl false))) (sNil))
    (sRet (eAnd (eB1 (isiV "int") (eXf "BadRow" (eV 0))) (eAnd (eNot (eB1 (isiV "bool") (eXf "BadRow" (eV 0)))) (eO2 eqV (eXf "BadRow" (eV 0)) (eV 1))))))))
noncomputable def f_law_told : Fn := runF 2 b_law_told
/-! number_from -/
noncomputable def l1_number_from : SF :=
    sIf (tV (eOp ninX (eV 1) (eC (.str "0123456789")))) (sRet (eC .non)) (sNil)
noncomputable def b_number_from : SF :=
    sSeq (sIf (tOrF (tV (eO2 eqV (eB1 lenV (eV 0)) (eC (.int 0)))) (tV (eOp gtD (eB1 lenV (eV 0)) (eC (.int 30))))) (sRet (eC .non)) (sNil))
    (sSeq (sFor (iX (eV 0)) (gN 1) l1_number_from)
    (sSeq (sIf (tAndF (tV (eSm swD (eV 0) (eC (.str "0")))) (tV (eOp gtD (eB1 lenV (eV 0)) (eC (.int 1))))) (sRet (eC .non)) (sNil))
    (sRet (eB1 intT (eV 0)))))
noncomputable def f_number_from : Fn := runF 2 b_number_from
/-! numbers_of -/
noncomputable def l1_numbers_of : SF :=
    sSeq (sSet 3 (eS (eCall f_number_from (aCons (eV 2) (aNil)))))
  (sSeq (sIf (tV (eOp isD (eV 3) (eC .non))) (sRet (eC .non)) (sNil))
  (sMtP appL (pN 1) (eV 3)))
noncomputable def b_numbers_of : SF :=
    sSeq (sSet 1 (eFit 1 (eLst (aNil))))
    (sSeq (sFor (iX (eV 0)) (gN 2) l1_numbers_of)
    (sRetM (mMv 1)))
noncomputable def f_numbers_of : Fn := runF 4 b_numbers_of
/-! Belt.__init__ -/
noncomputable def b_Belt_init : SF :=
    sSeq (sIf (tOrF (tV (eOp ltD (eV 1) (eC (.int 1)))) (tV (eOp gtD (eV 1) (eC (.int 6))))) (sRaise "BadBelt") (sNil))
    (sSeq (sIf (tOrF (tV (eOp ltD (eV 2) (eC (.int 1)))) (tV (eOp gtD (eV 2) (eC (.int 4))))) (sRaise "BadBelt") (sNil))
    (sSeq (sFldS 0 osA "room" (eV 1))
    (sFldS 0 osA "pace" (eV 2))))
noncomputable def f_Belt_init : FnM := runM 3 3 [0] b_Belt_init
/-! belt_of -/
noncomputable def b_belt_of : SF :=
    sSeq (sIf (tV (eO2 neV (eB1 lenV (eV 0)) (eC (.int 2)))) (sRaise "BadBelt") (sNil))
    (sRet (eNew "Belt" f_Belt_init (aCons (eIx (eV 0) (eC (.int 0))) (aCons (eIx (eV 0) (eC (.int 1))) (aNil)))))
noncomputable def f_belt_of : Fn := runF 1 b_belt_of
/-! is_kind -/
noncomputable def b_is_kind : SF :=
    sRet (eChn leD ltD (eC (.int 0)) (eV 0) (eOp powD (eC (.int 10)) (eC (.int 30))))
noncomputable def f_is_kind : Fn := runF 1 b_is_kind
/-! Knot.__init__ -/
noncomputable def b_Knot_init : SF :=
    sSeq (sFldS 0 osA "ins" (eB1 listV (eV 1)))
    (sFldS 0 osA "outs" (eB1 listV (eV 2)))
noncomputable def f_Knot_init : FnM := runM 3 3 [0] b_Knot_init
/-! Source.__init__ -/
noncomputable def l1_Source_init : SF :=
    sIf (tNotF (tV (eCall f_is_kind (aCons (eV 4) (aNil))))) (sRaise "BadKnot") (sNil)
noncomputable def b_Source_init : SF :=
    sSeq (sIf (tOrF (tV (eOp ltD (eV 2) (eC (.int 1)))) (tV (eOp gtD (eV 2) (eC (.int 4))))) (sRaise "BadKnot") (sNil))
    (sSeq (sIf (tOrF (tV (eOp ltD (eB1 lenV (eV 3)) (eC (.int 1)))) (tV (eOp gtD (eB1 lenV (eV 3)) (eC (.int 6))))) (sRaise "BadKnot") (sNil))
    (sSeq (sFor (iX (eV 3)) (gN 4) l1_Source_init)
    (sSeq (sExM (mCall f_Knot_init [some 0, none, none] (amOwn 0 (amCons (eLst (aNil)) (amCons (eLst (aCons (eV 1) (aNil))) (amNil))))))
    (sSeq (sFldS 0 osA "pace" (eV 2))
    (sFldS 0 osA "kinds" (eB1 listV (eV 3)))))))
noncomputable def f_Source_init : FnM := runM 5 4 [0] b_Source_init
/-! Drain.__init__ -/
noncomputable def b_Drain_init : SF :=
    sSeq (sIf (tOrF (tV (eOp ltD (eV 2) (eC (.int 0)))) (tV (eOp gtD (eV 2) (eC (.int 4))))) (sRaise "BadKnot") (sNil))
    (sSeq (sExM (mCall f_Knot_init [some 0, none, none] (amOwn 0 (amCons (eLst (aCons (eV 1) (aNil))) (amCons (eLst (aNil)) (amNil))))))
    (sFldS 0 osA "pace" (eV 2)))
noncomputable def f_Drain_init : FnM := runM 3 3 [0] b_Drain_init
/-! Parter.__init__ -/
noncomputable def b_Parter_init : SF :=
    sSeq (sIf (tOrF (tV (eOp ltD (eB1 lenV (eV 2)) (eC (.int 2)))) (tV (eOp gtD (eB1 lenV (eV 2)) (eC (.int 4))))) (sRaise "BadKnot") (sNil))
    (sExM (mCall f_Knot_init [some 0, none, none] (amOwn 0 (amCons (eLst (aCons (eV 1) (aNil))) (amCons (eV 2) (amNil))))))
noncomputable def f_Parter_init : FnM := runM 3 3 [0] b_Parter_init
/-! FirstParter.__init__ -/
noncomputable def b_FirstParter_init : SF :=
    sSeq (sIf (tOrF (tV (eOp ltD (eB1 lenV (eV 2)) (eC (.int 2)))) (tV (eOp gtD (eB1 lenV (eV 2)) (eC (.int 4))))) (sRaise "BadKnot") (sNil))
    (sExM (mCall f_Knot_init [some 0, none, none] (amOwn 0 (amCons (eLst (aCons (eV 1) (aNil))) (amCons (eV 2) (amNil))))))
noncomputable def f_FirstParter_init : FnM := runM 3 3 [0] b_FirstParter_init
/-! Sieve.__init__ -/
noncomputable def b_Sieve_init : SF :=
    sSeq (sIf (tV (eO2 neV (eB1 lenV (eV 2)) (eC (.int 2)))) (sRaise "BadKnot") (sNil))
    (sSeq (sIf (tNotF (tV (eCall f_is_kind (aCons (eV 3) (aNil))))) (sRaise "BadKnot") (sNil))
    (sSeq (sExM (mCall f_Knot_init [some 0, none, none] (amOwn 0 (amCons (eLst (aCons (eV 1) (aNil))) (amCons (eV 2) (amNil))))))
    (sFldS 0 osA "kind" (eV 3))))
noncomputable def f_Sieve_init : FnM := runM 4 4 [0] b_Sieve_init
/-! Joiner.__init__ -/
noncomputable def b_Joiner_init : SF :=
    sSeq (sIf (tOrF (tV (eOp ltD (eB1 lenV (eV 1)) (eC (.int 2)))) (tV (eOp gtD (eB1 lenV (eV 1)) (eC (.int 4))))) (sRaise "BadKnot") (sNil))
    (sExM (mCall f_Knot_init [some 0, none, none] (amOwn 0 (amCons (eV 1) (amCons (eLst (aCons (eV 2) (aNil))) (amNil))))))
noncomputable def f_Joiner_init : FnM := runM 3 3 [0] b_Joiner_init
/-! knot_of -/
noncomputable def b_knot_of : SF :=
    sSeq (sSet 2 (eS (eB1 lenV (eV 1))))
    (sSeq (sIf (tAndF (tV (eO2 eqV (eV 0) (eC (.str "source")))) (tV (eOp gtD (eV 2) (eC (.int 2))))) (sRet (eNew "Source" f_Source_init (aCons (eIx (eV 1) (eC (.int 0))) (aCons (eIx (eV 1) (eC (.int 1))) (aCons (eCut (eV 1) (oSome (eC (.int 2))) (oNone)) (aNil)))))) (sNil))
    (sSeq (sIf (tAndF (tV (eO2 eqV (eV 0) (eC (.str "drain")))) (tV (eO2 eqV (eV 2) (eC (.int 2))))) (sRet (eNew "Drain" f_Drain_init (aCons (eIx (eV 1) (eC (.int 0))) (aCons (eIx (eV 1) (eC (.int 1))) (aNil))))) (sNil))
    (sSeq (sIf (tAndF (tV (eO2 eqV (eV 0) (eC (.str "parter")))) (tV (eOp gtD (eV 2) (eC (.int 0))))) (sRet (eNew "Parter" f_Parter_init (aCons (eIx (eV 1) (eC (.int 0))) (aCons (eCut (eV 1) (oSome (eC (.int 1))) (oNone)) (aNil))))) (sNil))
    (sSeq (sIf (tAndF (tV (eO2 eqV (eV 0) (eC (.str "first")))) (tV (eOp gtD (eV 2) (eC (.int 0))))) (sRet (eNew "FirstParter" f_FirstParter_init (aCons (eIx (eV 1) (eC (.int 0))) (aCons (eCut (eV 1) (oSome (eC (.int 1))) (oNone)) (aNil))))) (sNil))
    (sSeq (sIf (tAndF (tV (eO2 eqV (eV 0) (eC (.str "sieve")))) (tV (eO2 eqV (eV 2) (eC (.int 4))))) (sRet (eNew "Sieve" f_Sieve_init (aCons (eIx (eV 1) (eC (.int 0))) (aCons (eCut (eV 1) (oSome (eC (.int 1))) (oSome (eC (.int 3)))) (aCons (eIx (eV 1) (eC (.int 3))) (aNil)))))) (sNil))
    (sSeq (sIf (tAndF (tV (eO2 eqV (eV 0) (eC (.str "joiner")))) (tV (eOp gtD (eV 2) (eC (.int 0))))) (sRet (eNew "Joiner" f_Joiner_init (aCons (eCut (eV 1) (oSome (eC (.int 1))) (oNone)) (aCons (eIx (eV 1) (eC (.int 0))) (aNil))))) (sNil))
    (sRaise "BadKnot")))))))
noncomputable def f_knot_of : Fn := runF 3 b_knot_of
/-! part_of -/
noncomputable def t1_part_of : SF :=
    sIf (tV (eO2 eqV (eIx (eV 3) (eC (.int 0))) (eC (.str "belt")))) (sSet 5 (eS (eCall f_belt_of (aCons (eV 4) (aNil))))) (sSet 5 (eS (eCall f_knot_of (aCons (eIx (eV 3) (eC (.int 0))) (aCons (eV 4) (aNil))))))
noncomputable def u1_part_of : SF :=
    sRaiseF "BadRow" (aCons (eV 1) (aNil))
noncomputable def v1_part_of : SF :=
    sRet (eV 5)
noncomputable def b_part_of : SF :=
    sSeq (sSet 3 (eS (eSpl (eV 0) (eC (.str " ")))))
    (sSeq (sSet 4 (eS (eCall f_numbers_of (aCons (eCut (eV 3) (oSome (eC (.int 1))) (oNone)) (aNil)))))
    (sSeq (sIf (tOrF (tV (eOp isD (eV 4) (eC .non))) (tAndF (tV (eO2 eqV (eIx (eV 3) (eC (.int 0))) (eC (.str "belt")))) (tV (eV 2)))) (sRaiseF "BadRow" (aCons (eV 1) (aNil))) (sNil))
    (sTry2 t1_part_of z_BadBelt_BadKnot u1_part_of v1_part_of)))
noncomputable def f_part_of : Fn := runF 6 b_part_of
/-! stand_once -/
noncomputable def l1_stand_once : SF :=
    sMtP extL (pN 2) (eV 3)
noncomputable def b_stand_once : SF :=
    sSeq (sSet 2 (eFit 1 (eLst (aNil))))
    (sSeq (sFor (iX (eV 0)) (gN 3) l1_stand_once)
    (sFz 2 (sRet (eO2 eqV (eCall srt1 (aCons (eV 2) (aNil))) (eLr (eC (.int 0)) (eV 1))))))
noncomputable def f_stand_once : Fn := runF 4 b_stand_once
/-! Work.__init__ -/
noncomputable def b_Work_init : SF :=
    sSeq (sIf (tOrF (tV (eOp ltD (eB1 lenV (eV 1)) (eC (.int 1)))) (tV (eOp gtD (eB1 lenV (eV 1)) (eC (.int 24))))) (sRaise "BadWork") (sNil))
    (sSeq (sIf (tOrF (tV (eOp ltD (eB1 lenV (eV 2)) (eC (.int 1)))) (tV (eOp gtD (eB1 lenV (eV 2)) (eC (.int 24))))) (sRaise "BadWork") (sNil))
    (sSeq (sIf (tNotF (tV (eCall f_stand_once (aCons (eLcK 0 (iX (eV 2)) (gN 3) (tYesF) (eFld osA "outs" (eV 3)) [3]) (aCons (eB1 lenV (eV 1)) (aNil)))))) (sRaise "BadWork") (sNil))
    (sSeq (sIf (tNotF (tV (eCall f_stand_once (aCons (eLcK 0 (iX (eV 2)) (gN 3) (tYesF) (eFld osA "ins" (eV 3)) [3]) (aCons (eB1 lenV (eV 1)) (aNil)))))) (sRaise "BadWork") (sNil))
    (sSeq (sFldS 0 osA "belts" (eB1 listV (eV 1)))
    (sFldS 0 osA "knots" (eB1 listV (eV 2)))))))
noncomputable def f_Work_init : FnM := runM 4 3 [0] b_Work_init
/-! read_work -/
noncomputable def l1_read_work : SF :=
    sSeq (sSet 5 (eS (eCall f_part_of (aCons (eV 4) (aCons (eO2 addV (eV 3) (eC (.int 1))) (aCons (eOp gtD (eB1 lenV (eV 2)) (eC (.int 0))) (aNil)))))))
  (sIf (tV (eIs osA esA y_Belt (eV 5))) (sMtP appL (pN 1) (eV 5)) (sMtP appL (pN 2) (eV 5)))
noncomputable def b_read_work : SF :=
    sSeq (sSet 1 (eFit 1 (eLst (aNil))))
    (sSeq (sSet 2 (eFit 1 (eLst (aNil))))
    (sSeq (sFor (iA enum1 (aCons (eSpl (eV 0) (eC (.str "\n"))) (aNil))) (gT 2 (gsC (gN 3) (gsC (gN 4) (gsN)))) l1_read_work)
    (sFz 2 (sFz 1 (sRet (eNew "Work" f_Work_init (aCons (eV 1) (aCons (eV 2) (aNil)))))))))
noncomputable def f_read_work : Fn := runF 6 b_read_work
/-! _law_caught -/
noncomputable def t1_law_caught : SF :=
    sExM (mP (eCall f_read_work (aCons (eJoin (eC (.str "\n")) (eV 0)) (aNil))))
noncomputable def u1_law_caught : SF :=
    sSet 1 (eS (eV 2))
noncomputable def b_law_caught : SF :=
    sSeq (sSet 1 (eS (eC .non)))
    (sSeq (sTry t1_law_caught z_WorkError 2 u1_law_caught)
    (sRet (eV 1)))
noncomputable def f_law_caught : Fn := runF 3 b_law_caught
/-! law -/
noncomputable def b_law : SF :=
    sSeq (sSet 1 (eS (eCall f_law_parts_of (aCons (eV 0) (aNil)))))
    (sSeq (sSet 2 (eS (eCall f_law_rows_of (aCons (eV 1) (aNil)))))
    (sSeq (sSet 3 (eS (eOp modD (eO2 mulV (eO2 addV (eCall f_law_cell_at (aCons (eV 0) (aCons (eC (.int 0)) (aNil)))) (eO2 mulV (eC (.int 7)) (eCall f_law_cell_at (aCons (eV 0) (aCons (eC (.int 3)) (aNil)))))) (eC (.int 48271))) (eC (.int 2147483647)))))
    (sSeq (sSet 4 (eS (eOp modD (eO2 mulV (eO2 addV (eO2 addV (eCall f_law_cell_at (aCons (eV 0) (aCons (eC (.int 1)) (aNil)))) (eO2 mulV (eC (.int 5)) (eCall f_law_cell_at (aCons (eV 0) (aCons (eC (.int 2)) (aNil)))))) (eC (.int 1))) (eC (.int 69621))) (eC (.int 2147483647)))))
    (sSeq (sSet 5 (eS (eC .non)))
    (sSeq (sSet 6 (eS (eCall f_law_no_work (aCons (eV 1) (aCons (eV 4) (aNil))))))
    (sSeq (sIf (tV (eOp ltD (eOp modD (eV 3) (eC (.int 5))) (eC (.int 3)))) (sAsg (eS (eCall f_law_bad_rows (aCons (eV 2) (aCons (eB1 lenV (eIx (eV 1) (eC (.int 0)))) (aCons (eOp fdivD (eV 3) (eC (.int 5))) (aCons (eV 4) (aNil))))))) (gT 2 (gsC (gN 5) (gsC (gN 6) (gsN))))) (sNil))
    (sSeq (sIf (tNotF (tV (eCall f_law_told (aCons (eCall f_law_caught (aCons (eV 6) (aNil))) (aCons (eV 5) (aNil)))))) (sRet (eC (.bl false))) (sNil))
    (sSeq (sSet 7 (eS (eCall f_read_work (aCons (eJoin (eC (.str "\n")) (eV 2)) (aNil)))))
    (sSeq (sIf (tOrF (tNotF (tV (eIs osA esA y_Work (eV 7)))) (tV (eO2 neV (eB1 lenV (eFld osA "belts" (eV 7))) (eB1 lenV (eIx (eV 1) (eC (.int 0))))))) (sRet (eC (.bl false))) (sNil))
    (sRet (eCall f_law_told (aCons (eCall f_law_caught (aCons (eV 6) (aNil))) (aCons (eV 5) (aNil))))))))))))))
noncomputable def f_law : Fn := runF 8 b_law
end K16
namespace K16
open PySem L2 B
theorem sc_law_outs_of__4 : FnScope n_law_outs_of__4 ["_law_cell", "_law_many", "_law_belts", "_law_ends", "_law_loops"] (defScope st_law_outs_of__4) := ⟨rfl, rfl, rfl, by decide +kernel, rfl, by decide +kernel, by decide +kernel⟩
theorem sc_law_kinds_of : FnScope n_law_kinds_of ["_law_cell"] (defScope st_law_kinds_of) := ⟨rfl, rfl, rfl, by decide +kernel, rfl, by decide +kernel, by decide +kernel⟩
theorem sc_law_outs_of : FnScope n_law_outs_of ["_law_cell", "_law_many", "_law_belts", "_law_ends", "_law_loops"] (defScope st_law_outs_of) := ⟨rfl, rfl, rfl, by decide +kernel, rfl, by decide +kernel, by decide +kernel⟩
theorem sc_law_joined : FnScope n_law_joined ["_law_cell", "_law_belts", "_law_knots", "_law_ends", "_law_loops"] (defScope st_law_joined) := ⟨rfl, rfl, rfl, by decide +kernel, rfl, by decide +kernel, by decide +kernel⟩
theorem sc_law_step : FnScope n_law_step ["_law_cell", "_law_belts", "_law_knots", "_law_ends", "_law_loops"] (defScope st_law_step) := ⟨rfl, rfl, rfl, by decide +kernel, rfl, by decide +kernel, by decide +kernel⟩
theorem sc_law_cell_at : FnScope n_law_cell_at ["_law_script", "_law_k"] (defScope st_law_cell_at) := ⟨rfl, rfl, rfl, by decide +kernel, rfl, by decide +kernel, by decide +kernel⟩
theorem sc_law_parts_of : FnScope n_law_parts_of ["_law_script"] (defScope st_law_parts_of) := ⟨rfl, rfl, rfl, by decide +kernel, rfl, by decide +kernel, by decide +kernel⟩
theorem sc_law_rows_of : FnScope n_law_rows_of ["_law_made"] (defScope st_law_rows_of) := ⟨rfl, rfl, rfl, by decide +kernel, rfl, by decide +kernel, by decide +kernel⟩
theorem sc_law_no_work : FnScope n_law_no_work ["_law_made", "_law_cell"] (defScope st_law_no_work) := ⟨rfl, rfl, rfl, by decide +kernel, rfl, by decide +kernel, by decide +kernel⟩
theorem sc_law_sign_by : FnScope n_law_sign_by ["_law_cell"] (defScope st_law_sign_by) := ⟨rfl, rfl, rfl, by decide +kernel, rfl, by decide +kernel, by decide +kernel⟩
theorem sc_law_no_number : FnScope n_law_no_number ["_law_word", "_law_cell"] (defScope st_law_no_number) := ⟨rfl, rfl, rfl, by decide +kernel, rfl, by decide +kernel, by decide +kernel⟩
theorem sc_law_beyond : FnScope n_law_beyond ["_law_words", "_law_cell"] (defScope st_law_beyond) := ⟨rfl, rfl, rfl, by decide +kernel, rfl, by decide +kernel, by decide +kernel⟩
theorem sc_law_spoilt : FnScope n_law_spoilt ["_law_row", "_law_cell"] (defScope st_law_spoilt) := ⟨rfl, rfl, rfl, by decide +kernel, rfl, by decide +kernel, by decide +kernel⟩
theorem sc_law_bad_rows : FnScope n_law_bad_rows ["_law_rows", "_law_belts", "_law_first", "_law_second"] (defScope st_law_bad_rows) := ⟨rfl, rfl, rfl, by decide +kernel, rfl, by decide +kernel, by decide +kernel⟩
theorem sc_law_told : FnScope n_law_told ["_law_caught_here", "_law_due"] (defScope st_law_told) := ⟨rfl, rfl, rfl, by decide +kernel, rfl, by decide +kernel, by decide +kernel⟩
theorem sc_number_from : FnScope n_number_from ["word"] (defScope st_number_from) := ⟨rfl, rfl, rfl, by decide +kernel, rfl, by decide +kernel, by decide +kernel⟩
theorem sc_numbers_of : FnScope n_numbers_of ["words"] (defScope st_numbers_of) := ⟨rfl, rfl, rfl, by decide +kernel, rfl, by decide +kernel, by decide +kernel⟩
theorem sc_Belt_init : FnScope n_Belt_init ["self", "room", "pace"] (defScope st_Belt_init) := ⟨rfl, rfl, rfl, by decide +kernel, rfl, by decide +kernel, by decide +kernel⟩
theorem sc_belt_of : FnScope n_belt_of ["numbers"] (defScope st_belt_of) := ⟨rfl, rfl, rfl, by decide +kernel, rfl, by decide +kernel, by decide +kernel⟩
theorem sc_is_kind : FnScope n_is_kind ["kind"] (defScope st_is_kind) := ⟨rfl, rfl, rfl, by decide +kernel, rfl, by decide +kernel, by decide +kernel⟩
theorem sc_Knot_init : FnScope n_Knot_init ["self", "ins", "outs"] (defScope st_Knot_init) := ⟨rfl, rfl, rfl, by decide +kernel, rfl, by decide +kernel, by decide +kernel⟩
theorem sc_Source_init : FnScope n_Source_init ["self", "out", "pace", "kinds"] (defScope st_Source_init) := ⟨rfl, rfl, rfl, by decide +kernel, rfl, by decide +kernel, by decide +kernel⟩
theorem sc_Drain_init : FnScope n_Drain_init ["self", "into", "pace"] (defScope st_Drain_init) := ⟨rfl, rfl, rfl, by decide +kernel, rfl, by decide +kernel, by decide +kernel⟩
theorem sc_Parter_init : FnScope n_Parter_init ["self", "into", "outs"] (defScope st_Parter_init) := ⟨rfl, rfl, rfl, by decide +kernel, rfl, by decide +kernel, by decide +kernel⟩
theorem sc_FirstParter_init : FnScope n_FirstParter_init ["self", "into", "outs"] (defScope st_FirstParter_init) := ⟨rfl, rfl, rfl, by decide +kernel, rfl, by decide +kernel, by decide +kernel⟩
theorem sc_Sieve_init : FnScope n_Sieve_init ["self", "into", "outs", "kind"] (defScope st_Sieve_init) := ⟨rfl, rfl, rfl, by decide +kernel, rfl, by decide +kernel, by decide +kernel⟩
theorem sc_Joiner_init : FnScope n_Joiner_init ["self", "ins", "out"] (defScope st_Joiner_init) := ⟨rfl, rfl, rfl, by decide +kernel, rfl, by decide +kernel, by decide +kernel⟩
theorem sc_knot_of : FnScope n_knot_of ["word", "numbers"] (defScope st_knot_of) := ⟨rfl, rfl, rfl, by decide +kernel, rfl, by decide +kernel, by decide +kernel⟩
theorem sc_part_of : FnScope n_part_of ["row", "line", "behind"] (defScope st_part_of) := ⟨rfl, rfl, rfl, by decide +kernel, rfl, by decide +kernel, by decide +kernel⟩
theorem sc_stand_once : FnScope n_stand_once ["rows", "many"] (defScope st_stand_once) := ⟨rfl, rfl, rfl, by decide +kernel, rfl, by decide +kernel, by decide +kernel⟩
theorem sc_Work_init : FnScope n_Work_init ["self", "belts", "knots"] (defScope st_Work_init) := ⟨rfl, rfl, rfl, by decide +kernel, rfl, by decide +kernel, by decide +kernel⟩
theorem sc_read_work : FnScope n_read_work ["text"] (defScope st_read_work) := ⟨rfl, rfl, rfl, by decide +kernel, rfl, by decide +kernel, by decide +kernel⟩
theorem sc_law_caught : FnScope n_law_caught ["_law_rows"] (defScope st_law_caught) := ⟨rfl, rfl, rfl, by decide +kernel, rfl, by decide +kernel, by decide +kernel⟩
theorem sc_law : FnScope n_law ["_law_script"] (defScope st_law) := ⟨rfl, rfl, rfl, by decide +kernel, rfl, by decide +kernel, by decide +kernel⟩
theorem sc_BadRow_init : FnScope [("self" : Str), ("line" : Str)] [("self" : Str), ("line" : Str)] (defScope st_BadRow_init) := ⟨rfl, rfl, rfl, by decide +kernel, rfl, by decide +kernel, by decide +kernel⟩
theorem pi_BadRow {P : Program} {w : World} {K : PySem.W.Frag} {mg : Str → Option Value} {base : Heap} {cl : Str → Addr} {fi : Addr} (L : ExL K mg cl "BadRow" "WorkError" fi) (cdv : Value) (A : Around) (outer : List PySem.Env) (s : Shared) (H : Hp) (E : XK) : PSs (cxB P w K mg base [("self" : Str), ("line" : Str)] "BadRow.__init__" (defScope st_BadRow_init) fi cdv A outer s H E) (defBody st_BadRow_init) (tIni K "a bad row") := by
  obtain ⟨mc, r, c⟩ := L.wr
  exact pss_cons (ps_expr (pe_winit r c rfl L.gw (pa_cons (pe_var (i := 0) rfl (.inl rfl)) (pa_cons pe_str pa_nil)))) (pss_one (ps_ost (pe_var (i := 0) rfl (.inl rfl)) (pe_var (i := 1) rfl (.inl rfl))))
theorem pj_BadRow {P : Program} {w : World} {K : PySem.W.Frag} {mg : Str → Option Value} {base : Heap} {cl : Str → Addr} {fi : Addr} (L : ExL K mg cl "BadRow" "WorkError" fi) (cdv : Value) (A : Around) (outer : List PySem.Env) (s : Shared) (H : Hp) (E : XK) (p : Addr × Obj) : PSs (L2H.cxH (L2.CX P w) P w K mg base [("self" : Str), ("line" : Str)] "BadRow.__init__" (defScope st_BadRow_init) fi cdv A outer s H E p) (defBody st_BadRow_init) (tIni K "a bad row") := by
  obtain ⟨mc, r, c⟩ := L.wr
  exact pss_cons (ps_expr (pe_winit r c rfl L.gw (pa_cons (pe_var (i := 0) rfl (.inl rfl)) (pa_cons pe_str pa_nil)))) (pss_one (ps_ost (pe_var (i := 0) rfl (.inl rfl)) (pe_var (i := 1) rfl (.inl rfl))))
section
variable {P : Program} {w : World} {K : PySem.W.Frag} {mg : Str → Option Value} {base : Heap} {cl : Str → Addr}
theorem bo_law_outs_of__4 (h_len : mg "len" = none) (h_range : mg "range" = none) : BodyM P w K mg base cl [2, 3] 0 n_law_outs_of__4 "_law_outs_of" st_law_outs_of__4 b_law_outs_of__4 := by
  intro vs f cdv A outer s H E hr
  exact eb_cons (es_setO 5 (ev_fit 1 (ev_lst (ea_nil))) sc_law_outs_of__4.nd)
    (eb_cons (es_for poB rfl (ei_range1 h_range (ea_cons (ev_var 1) (ea_nil))) (eg_name 6 sc_law_outs_of__4.nd) (eb_one (es_if ((ew_and (et_gt (ev_len h_len (ev_var 4)) (ev_int)) (ew_and1 (et_eq hr.units (ev_mod (ev_fdiv (ev_var 0) (ev_add (ev_int) (ev_mul (ev_int) (ev_var 6)))) (ev_int)) (ev_int)))).t) (eb_one (es_mtM 5 ml_app (fun _ p => pe_bm PySem.F.plainAttrs_list PySem.F.slot_list_append PySem.F.type_list_append mt_append (pv 5) (pa_cons p pa_nil)) (em_popI (evp_n 4) (ev_mod (ev_fdiv (ev_var 0) (ev_int)) (ev_len h_len (ev_var 4)))))) (eb_cons (es_mtP ml_app (fun _ _ p u => pe_bm PySem.F.plainAttrs_list PySem.F.slot_list_append PySem.F.type_list_append mt_append p (pa_cons u pa_nil)) (evp_n 2) (ev_tup (ea_cons (ev_add (ev_int) (ev_mod (ev_fdiv (ev_var 0) (ev_add (ev_int) (ev_mul (ev_int) (ev_var 6)))) (ev_int))) (ea_cons (ev_add (ev_int) (ev_mod (ev_fdiv (ev_var 0) (ev_add (ev_int) (ev_var 6))) (ev_int))) (ea_nil)))))
    (eb_cons (es_mtP ml_app (fun _ _ p u => pe_bm PySem.F.plainAttrs_list PySem.F.slot_list_append PySem.F.type_list_append mt_append p (pa_cons u pa_nil)) (evp_n 3) (ev_sub (ev_len h_len (ev_var 2)) (ev_int)))
    (eb_one (es_mtP ml_app (fun _ _ p u => pe_bm PySem.F.plainAttrs_list PySem.F.slot_list_append PySem.F.type_list_append mt_append p (pa_cons u pa_nil)) (evp_n 5) (ev_sub (ev_len h_len (ev_var 2)) (ev_int)))))))))
    (eb_cons (es_if (et_eq hr.units (ev_mod (ev_fdiv (ev_var 0) (ev_int)) (ev_int)) (ev_int)) (eb_one (es_mt0P ml_rev (fun _ p => pe_bm0 PySem.F.plainAttrs_list PySem.F.slot_list_reverse PySem.F.type_list_reverse mt_reverse p) (evp_n 5))) (eb_nil))
    (eb_one (es_retM (em_mv 5)))))
theorem bo_law_kinds_of (h_range : mg "range" = none) : BodyOk P w K mg base (cl0 cl) 0 n_law_kinds_of "_law_kinds_of" st_law_kinds_of b_law_kinds_of := by
  intro f cdv A outer s H E hr
  exact eb_cons (es_setO 1 (ev_fit 1 (ev_lst (ea_nil))) sc_law_kinds_of.nd)
    (eb_cons (es_for poB rfl (ei_range1 h_range (ea_cons (ev_add (ev_int) (ev_mod (ev_fdiv (ev_var 0) (ev_int)) (ev_int))) (ea_nil))) (eg_name 2 sc_law_kinds_of.nd) (eb_cons (es_set 3 (ev_var 2) sc_law_kinds_of.nd)
  (eb_cons (es_if (et_eq hr.units (ev_mod (ev_fdiv (ev_var 0) (ev_int)) (ev_int)) (ev_int)) (eb_one (es_set 3 (ev_fdiv (ev_var 2) (ev_int)) sc_law_kinds_of.nd)) (eb_nil))
  (eb_cons (es_set 4 (ev_mod (ev_mul (ev_add (ev_add (ev_fdiv (ev_var 0) (ev_int)) (ev_mul (ev_var 3) (ev_var 3))) (ev_var 3)) (ev_int)) (ev_pow (ev_int) (ev_int))) sc_law_kinds_of.nd)
  (eb_cons (es_if ((ew_and (et_eq hr.units (ev_mod (ev_fdiv (ev_var 0) (ev_int)) (ev_int)) (ev_int)) (ew_and1 (et_eq hr.units (ev_var 2) (ev_mod (ev_fdiv (ev_var 0) (ev_int)) (ev_int))))).t) (eb_one (es_set 4 (ev_sub (ev_pow (ev_int) (ev_int)) (ev_int)) sc_law_kinds_of.nd)) (eb_nil))
  (eb_one (es_mtP ml_app (fun _ _ p u => pe_bm PySem.F.plainAttrs_list PySem.F.slot_list_append PySem.F.type_list_append mt_append p (pa_cons u pa_nil)) (evp_n 1) (ev_var 4))))))))
    (eb_one (es_retM (em_mv 1))))
theorem bo_law_outs_of (h_len : mg "len" = none) (h_range : mg "range" = none) : BodyM P w K mg base cl [2, 3, 4] 0 n_law_outs_of "_law_outs_of" st_law_outs_of b_law_outs_of := by
  intro vs f cdv A outer s H E hr
  exact eb_cons (es_setO 5 (ev_fit 1 (ev_lst (ea_nil))) sc_law_outs_of.nd)
    (eb_cons (es_for poB rfl (ei_range1 h_range (ea_cons (ev_var 1) (ea_nil))) (eg_name 6 sc_law_outs_of.nd) (eb_one (es_if ((ew_and (et_gt (ev_len h_len (ev_var 4)) (ev_int)) (ew_and1 (et_eq hr.units (ev_mod (ev_fdiv (ev_var 0) (ev_add (ev_int) (ev_mul (ev_int) (ev_var 6)))) (ev_int)) (ev_int)))).t) (eb_one (es_mtM 5 ml_app (fun _ p => pe_bm PySem.F.plainAttrs_list PySem.F.slot_list_append PySem.F.type_list_append mt_append (pv 5) (pa_cons p pa_nil)) (em_popI (evp_n 4) (ev_mod (ev_fdiv (ev_var 0) (ev_int)) (ev_len h_len (ev_var 4)))))) (eb_cons (es_mtP ml_app (fun _ _ p u => pe_bm PySem.F.plainAttrs_list PySem.F.slot_list_append PySem.F.type_list_append mt_append p (pa_cons u pa_nil)) (evp_n 2) (ev_tup (ea_cons (ev_add (ev_int) (ev_mod (ev_fdiv (ev_var 0) (ev_add (ev_int) (ev_mul (ev_int) (ev_var 6)))) (ev_int))) (ea_cons (ev_add (ev_int) (ev_mod (ev_fdiv (ev_var 0) (ev_add (ev_int) (ev_var 6))) (ev_int))) (ea_nil)))))
    (eb_cons (es_mtP ml_app (fun _ _ p u => pe_bm PySem.F.plainAttrs_list PySem.F.slot_list_append PySem.F.type_list_append mt_append p (pa_cons u pa_nil)) (evp_n 3) (ev_sub (ev_len h_len (ev_var 2)) (ev_int)))
    (eb_one (es_mtP ml_app (fun _ _ p u => pe_bm PySem.F.plainAttrs_list PySem.F.slot_list_append PySem.F.type_list_append mt_append p (pa_cons u pa_nil)) (evp_n 5) (ev_sub (ev_len h_len (ev_var 2)) (ev_int)))))))))
    (eb_cons (es_if (et_eq hr.units (ev_mod (ev_fdiv (ev_var 0) (ev_int)) (ev_int)) (ev_int)) (eb_one (es_mt0P ml_rev (fun _ p => pe_bm0 PySem.F.plainAttrs_list PySem.F.slot_list_reverse PySem.F.type_list_reverse mt_reverse p) (evp_n 5))) (eb_nil))
    (eb_one (es_retM (em_mv 5)))))
theorem bo_law_joined (h_len : mg "len" = none) (h_range : mg "range" = none) (fi_law_outs_of : Addr) (m_law_outs_of : CalleeM P w K mg base cl fi_law_outs_of 1 5 f_law_outs_of) (gf_law_outs_of : mg "_law_outs_of" = some (.ref fi_law_outs_of)) : BodyM P w K mg base cl [1, 2, 3, 4] 1 n_law_joined "_law_joined" st_law_joined b_law_joined := by
  intro vs f cdv A outer s H E hr
  exact eb_cons (es_setM 5 (em_lst (ems_cons (em_popI (evp_n 3) (ev_mod (ev_fdiv (ev_var 0) (ev_int)) (ev_len h_len (ev_var 3)))) (ems_nil))) sc_law_joined.nd)
    (eb_cons (es_if (et_eq hr.units (ev_mod (ev_var 0) (ev_int)) (ev_int)) (eb_cons (es_mtP ml_app (fun _ _ p u => pe_bm PySem.F.plainAttrs_list PySem.F.slot_list_append PySem.F.type_list_append mt_append p (pa_cons u pa_nil)) (evp_n 1) (ev_tup (ea_cons (ev_add (ev_int) (ev_mod (ev_fdiv (ev_var 0) (ev_int)) (ev_int))) (ea_cons (ev_add (ev_int) (ev_mod (ev_fdiv (ev_var 0) (ev_int)) (ev_int))) (ea_nil)))))
      (eb_cons (es_mtP ml_app (fun _ _ p u => pe_bm PySem.F.plainAttrs_list PySem.F.slot_list_append PySem.F.type_list_append mt_append p (pa_cons u pa_nil)) (evp_n 4) (ev_sub (ev_len h_len (ev_var 1)) (ev_int)))
      (eb_one (es_mtP ml_app (fun _ _ p u => pe_bm PySem.F.plainAttrs_list PySem.F.slot_list_append PySem.F.type_list_append mt_append p (pa_cons u pa_nil)) (evp_n 5) (ev_sub (ev_len h_len (ev_var 1)) (ev_int)))))) (eb_one (es_for poB rfl (ei_range1 h_range (ea_cons (ev_add (ev_int) (ev_mod (ev_fdiv (ev_var 0) (ev_int)) (ev_int))) (ea_nil))) (eg_name 6 sc_law_joined.nd) (eb_one (es_if (et_gt (ev_len h_len (ev_var 3)) (ev_int)) (eb_one (es_mtM 5 ml_app (fun _ p => pe_bm PySem.F.plainAttrs_list PySem.F.slot_list_append PySem.F.type_list_append mt_append (pv 5) (pa_cons p pa_nil)) (em_popI (evp_n 3) (ev_mod (ev_fdiv (ev_var 0) (ev_add (ev_int) (ev_var 6))) (ev_len h_len (ev_var 3)))))) (eb_nil))))))
    (eb_cons (es_if (et_eq hr.units (ev_mod (ev_fdiv (ev_var 0) (ev_int)) (ev_int)) (ev_int)) (eb_one (es_mt0P ml_rev (fun _ p => pe_bm0 PySem.F.plainAttrs_list PySem.F.slot_list_reverse PySem.F.type_list_reverse mt_reverse p) (evp_n 5))) (eb_nil))
    (eb_one (es_fz 5 (es_mtM 2 ml_app (fun _ p => pe_bm PySem.F.plainAttrs_list PySem.F.slot_list_append PySem.F.type_list_append mt_append (pv 2) (pa_cons p pa_nil)) (em_tup (ems_cons (em_pure (ev_str)) (ems_cons (em_pure (ev_var 5)) (ems_cons (em_call m_law_outs_of gf_law_outs_of (hr.mono (by decide)) tkB (eam_cons (ev_var 0) (eam_cons (ev_int) (eam_own 1 (eam_own 3 (eam_own 4 (eam_nil))))))) (ems_cons (em_pure (ev_lst (ea_nil))) (ems_nil)))))))))))
theorem bo_law_step (h_len : mg "len" = none) (fi_law_outs_of : Addr) (fi_law_joined : Addr) (m_law_outs_of__4 : CalleeM P w K mg base cl fi_law_outs_of 1 5 f_law_outs_of__4) (c_law_kinds_of : Callee P w K mg base cl "_law_kinds_of" 1 1 f_law_kinds_of) (m_law_joined : CalleeM P w K mg base cl fi_law_joined 2 5 f_law_joined) (m_law_outs_of : CalleeM P w K mg base cl fi_law_outs_of 1 5 f_law_outs_of) (gf_law_outs_of : mg "_law_outs_of" = some (.ref fi_law_outs_of)) (gf_law_joined : mg "_law_joined" = some (.ref fi_law_joined)) : BodyM P w K mg base cl [1, 2, 3, 4] 2 n_law_step "_law_step" st_law_step b_law_step := by
  intro vs f cdv A outer s H E hr
  exact eb_cons (es_set 5 (ev_sub (ev_sub (ev_sub (ev_int) (ev_len h_len (ev_var 2))) (ev_len h_len (ev_var 3))) (ev_len h_len (ev_var 4))) sc_law_step.nd)
    (eb_cons (es_set 6 (ev_sub (ev_int) (ev_len h_len (ev_var 1))) sc_law_step.nd)
    (eb_cons (es_set 7 (ev_mod (ev_var 0) (ev_int)) sc_law_step.nd)
    (eb_cons (es_set 8 (ev_add (ev_int) (ev_mod (ev_fdiv (ev_var 0) (ev_int)) (ev_int))) sc_law_step.nd)
    (eb_cons (es_if (et_eq hr.units (ev_var 7) (ev_int)) (eb_one (es_set 8 (ev_int) sc_law_step.nd)) (eb_nil))
    (eb_one (es_if ((ew_or (et_eq hr.units (ev_var 7) (ev_int)) (ew_or1 (et_eq hr.units (ev_len h_len (ev_var 3)) (ev_int)))).t) (eb_one (es_if ((ew_and (et_gt (ev_var 5) (ev_int)) (ew_and1 (et_gt (ev_var 6) (ev_int)))).t) (eb_cons (es_setM 9 (em_call m_law_outs_of__4 gf_law_outs_of (hr.mono (by decide)) tkB (eam_cons (ev_var 0) (eam_cons (ev_int) (eam_own 1 (eam_own 3 (eam_cons (ev_lst (ea_nil)) (eam_nil))))))) sc_law_step.nd)
        (eb_one (es_fz 9 (es_mtP ml_app (fun _ _ p u => pe_bm PySem.F.plainAttrs_list PySem.F.slot_list_append PySem.F.type_list_append mt_append p (pa_cons u pa_nil)) (evp_n 2) (ev_tup (ea_cons (ev_str) (ea_cons (ev_lst (ea_nil)) (ea_cons (ev_var 9) (ea_cons (ev_add (ev_lst (ea_cons (ev_add (ev_int) (ev_mod (ev_fdiv (ev_var 0) (ev_int)) (ev_int))) (ea_nil))) (ev_call c_law_kinds_of (hr.mono (by decide)) tkB (ea_cons (ev_fdiv (ev_var 0) (ev_int)) (ea_nil)))) (ea_nil)))))))))) (eb_nil))) (eb_one (es_if ((ew_or ((ew_and (et_eq hr.units (ev_var 7) (ev_int)) (ew_and (et_gt (ev_len h_len (ev_var 3)) (ev_int)) (ew_and1 (et_gt (ev_var 6) (ev_int))))).t) (ew_or1 ((ew_and (et_eq hr.units (ev_var 7) (ev_int)) (ew_and (et_gt (ev_var 5) (ev_int)) (ew_and1 (et_gt (ev_var 6) (ev_int))))).t))).t) (eb_one (es_exM (em_call m_law_joined gf_law_joined (hr.mono (by decide)) tkB (eam_cons (ev_var 0) (eam_own 1 (eam_own 2 (eam_own 3 (eam_own 4 (eam_nil))))))))) (eb_one (es_if (et_eq hr.units (ev_var 7) (ev_int)) (eb_one (es_mtM 2 ml_app (fun _ p => pe_bm PySem.F.plainAttrs_list PySem.F.slot_list_append PySem.F.type_list_append mt_append (pv 2) (pa_cons p pa_nil)) (em_tup (ems_cons (em_pure (ev_str)) (ems_cons (em_lst (ems_cons (em_popI (evp_n 3) (ev_mod (ev_fdiv (ev_var 0) (ev_int)) (ev_len h_len (ev_var 3)))) (ems_nil))) (ems_cons (em_pure (ev_lst (ea_nil))) (ems_cons (em_pure (ev_lst (ea_cons (ev_mod (ev_fdiv (ev_var 0) (ev_int)) (ev_int)) (ea_nil)))) (ems_nil)))))))) (eb_one (es_if ((ew_and (et_ninX (ev_var 7) (ev_tup (ea_cons (ev_int) (ea_cons (ev_int) (ea_nil))))) (ew_and (et_ge (ev_var 5) (ev_var 8)) (ew_and1 (et_ge (ev_var 6) (ev_var 8))))).t) (eb_cons (es_setM 10 (em_lst (ems_cons (em_popI (evp_n 3) (ev_mod (ev_fdiv (ev_var 0) (ev_int)) (ev_len h_len (ev_var 3)))) (ems_nil))) sc_law_step.nd)
            (eb_cons (es_setM 9 (em_call m_law_outs_of gf_law_outs_of (hr.mono (by decide)) tkB (eam_cons (ev_var 0) (eam_cons (ev_var 8) (eam_own 1 (eam_own 3 (eam_own 4 (eam_nil))))))) sc_law_step.nd)
            (eb_one (es_fz 9 (es_fz 10 (es_if (et_eq hr.units (ev_var 7) (ev_int)) (eb_one (es_mtP ml_app (fun _ _ p u => pe_bm PySem.F.plainAttrs_list PySem.F.slot_list_append PySem.F.type_list_append mt_append p (pa_cons u pa_nil)) (evp_n 2) (ev_tup (ea_cons (ev_str) (ea_cons (ev_var 10) (ea_cons (ev_var 9) (ea_cons (ev_lst (ea_cons (ev_mod (ev_mul (ev_fdiv (ev_var 0) (ev_int)) (ev_int)) (ev_pow (ev_int) (ev_int))) (ea_nil))) (ea_nil)))))))) (eb_one (es_if (et_eq hr.units (ev_var 7) (ev_int)) (eb_one (es_mtP ml_app (fun _ _ p u => pe_bm PySem.F.plainAttrs_list PySem.F.slot_list_append PySem.F.type_list_append mt_append p (pa_cons u pa_nil)) (evp_n 2) (ev_tup (ea_cons (ev_str) (ea_cons (ev_var 10) (ea_cons (ev_var 9) (ea_cons (ev_lst (ea_nil)) (ea_nil)))))))) (eb_one (es_mtP ml_app (fun _ _ p u => pe_bm PySem.F.plainAttrs_list PySem.F.slot_list_append PySem.F.type_list_append mt_append p (pa_cons u pa_nil)) (evp_n 2) (ev_tup (ea_cons (ev_str) (ea_cons (ev_var 10) (ea_cons (ev_var 9) (ea_cons (ev_lst (ea_nil)) (ea_nil)))))))))))))))) (eb_nil)))))))))))))
theorem bo_law_cell_at (h_len : mg "len" = none) : BodyOk P w K mg base (cl0 cl) 0 n_law_cell_at "_law_cell_at" st_law_cell_at b_law_cell_at := by
  intro f cdv A outer s H E hr
  exact eb_cons (es_if (et_lt (ev_var 1) (ev_len h_len (ev_var 0))) (eb_one (es_ret (ev_ix (ev_var 0) (ev_var 1)))) (eb_nil))
    (eb_one (es_ret (ev_int)))
theorem bo_law_parts_of (h_len : mg "len" = none) (fi_law_step : Addr) (m_law_step : CalleeM P w K mg base cl fi_law_step 3 5 f_law_step) (c_law_cell_at : Callee P w K mg base cl "_law_cell_at" 1 2 f_law_cell_at) (c_law_kinds_of : Callee P w K mg base cl "_law_kinds_of" 1 1 f_law_kinds_of) (gf_law_step : mg "_law_step" = some (.ref fi_law_step)) : BodyOk P w K mg base (cl0 cl) 3 n_law_parts_of "_law_parts_of" st_law_parts_of b_law_parts_of := by
  intro f cdv A outer s H E hr
  exact eb_cons (es_setO 1 (ev_fit 1 (ev_lst (ea_nil))) sc_law_parts_of.nd)
    (eb_cons (es_setO 2 (ev_fit 1 (ev_lst (ea_nil))) sc_law_parts_of.nd)
    (eb_cons (es_setO 3 (ev_fit 1 (ev_lst (ea_nil))) sc_law_parts_of.nd)
    (eb_cons (es_setO 4 (ev_fit 1 (ev_lst (ea_nil))) sc_law_parts_of.nd)
    (eb_cons (es_for poB rfl (ei_any (ev_add (ev_lst (ea_cons (ev_len h_len (ev_var 0)) (ea_nil))) (ev_var 0))) (eg_name 5 sc_law_parts_of.nd) (eb_one (es_exM (em_call m_law_step gf_law_step (hr.mono (by decide)) tkB (eam_cons (ev_var 5) (eam_own 1 (eam_own 2 (eam_own 3 (eam_own 4 (eam_nil))))))))))
    (eb_cons (es_set 6 (ev_mod (ev_add (ev_mul (ev_call c_law_cell_at (hr.mono (by decide)) tkB (ea_cons (ev_var 0) (ea_cons (ev_int) (ea_nil)))) (ev_int)) (ev_len h_len (ev_var 0))) (ev_int)) sc_law_parts_of.nd)
    (eb_cons (es_fz 3 (es_for poB rfl (ei_any (ev_var 3)) (eg_name 7 sc_law_parts_of.nd) (eb_one (es_mtP ml_app (fun _ _ p u => pe_bm PySem.F.plainAttrs_list PySem.F.slot_list_append PySem.F.type_list_append mt_append p (pa_cons u pa_nil)) (evp_n 2) (ev_tup (ea_cons (ev_str) (ea_cons (ev_lst (ea_cons (ev_var 7) (ea_nil))) (ea_cons (ev_lst (ea_nil)) (ea_cons (ev_lst (ea_cons (ev_mod (ev_add (ev_var 6) (ev_mul (ev_var 7) (ev_var 7))) (ev_int)) (ea_nil))) (ea_nil))))))))))
    (eb_cons (es_fz 4 (es_for poB rfl (ei_any (ev_var 4)) (eg_name 7 sc_law_parts_of.nd) (eb_one (es_mtP ml_app (fun _ _ p u => pe_bm PySem.F.plainAttrs_list PySem.F.slot_list_append PySem.F.type_list_append mt_append p (pa_cons u pa_nil)) (evp_n 2) (ev_tup (ea_cons (ev_str) (ea_cons (ev_lst (ea_nil)) (ea_cons (ev_lst (ea_cons (ev_var 7) (ea_nil))) (ea_cons (ev_add (ev_lst (ea_cons (ev_add (ev_int) (ev_mod (ev_add (ev_fdiv (ev_var 6) (ev_int)) (ev_var 7)) (ev_int))) (ea_nil))) (ev_call c_law_kinds_of (hr.mono (by decide)) tkB (ea_cons (ev_mul (ev_var 6) (ev_add (ev_var 7) (ev_int))) (ea_nil)))) (ea_nil))))))))))
    (eb_cons (es_fz 1 (es_set 8 (ev_len h_len (ev_var 1)) sc_law_parts_of.nd))
    (eb_cons (es_set 9 (ev_mod (ev_fdiv (ev_var 6) (ev_int)) (ev_var 8)) sc_law_parts_of.nd)
    (eb_cons (es_setO 10 (ev_fit 1 (ev_lst (ea_nil))) sc_law_parts_of.nd)
    (eb_cons (es_fz 2 (es_for poB rfl (ei_any (ev_var 2)) (eg_tup rfl (egs_cons (eg_name 12 sc_law_parts_of.nd) (egs_cons (eg_name 13 sc_law_parts_of.nd) (egs_cons (eg_name 14 sc_law_parts_of.nd) (egs_cons (eg_name 15 sc_law_parts_of.nd) (egs_nil)))))) (eb_one (es_mtP ml_app (fun _ _ p u => pe_bm PySem.F.plainAttrs_list PySem.F.slot_list_append PySem.F.type_list_append mt_append p (pa_cons u pa_nil)) (evp_n 10) (ev_tup (ea_cons (ev_var 12) (ea_cons (ev_lcK 0 (own := [("_law_at", 7)]) rfl sc_law_parts_of.nd ((ei_any (ev_var 13)).h) (blkOk_by (by first | decide +kernel | kernel_rfl | rfl)) (fun _ _ _ _ _ => eg_name 7 sc_law_parts_of.nd) (fun _ _ _ _ _ => ets_nil) (fun _ _ _ _ _ => ev_mod (ev_add (ev_var 7) (ev_var 9)) (ev_var 8))) (ea_cons (ev_lcK 0 (own := [("_law_at", 7)]) rfl sc_law_parts_of.nd ((ei_any (ev_var 14)).h) (blkOk_by (by first | decide +kernel | kernel_rfl | rfl)) (fun _ _ _ _ _ => eg_name 7 sc_law_parts_of.nd) (fun _ _ _ _ _ => ets_nil) (fun _ _ _ _ _ => ev_mod (ev_add (ev_var 7) (ev_var 9)) (ev_var 8))) (ea_cons (ev_var 15) (ea_nil))))))))))
    (eb_cons (es_fz 10 (es_set 11 (ev_mod (ev_fdiv (ev_var 6) (ev_int)) (ev_len h_len (ev_var 10))) sc_law_parts_of.nd))
    (eb_one (es_ret (ev_tup (ea_cons (ev_add (ev_cut (ev_var 1) (eo_some (ev_sub (ev_var 8) (ev_var 9))) (eo_none)) (ev_cut (ev_var 1) (eo_none) (eo_some (ev_sub (ev_var 8) (ev_var 9))))) (ea_cons (ev_add (ev_cut (ev_var 10) (eo_some (ev_var 11)) (eo_none)) (ev_cut (ev_var 10) (eo_none) (eo_some (ev_var 11)))) (ea_nil))))))))))))))))))
theorem bo_law_rows_of (h_str : mg "str" = none) : BodyOk P w K mg base (cl0 cl) 0 n_law_rows_of "_law_rows_of" st_law_rows_of b_law_rows_of := by
  intro f cdv A outer s H E hr
  exact eb_cons (es_setLcF 1 (k := 0) (F := fun f => eFit 1 (f)) (fun h => semFit 1 (h)) (own := [("_law_room", 7), ("_law_pace", 8)]) rfl sc_law_rows_of.nd ((ei_any (ev_ix (ev_var 0) (ev_int))).h) (blkOk_by (by first | decide +kernel | kernel_rfl | rfl)) (fun _ _ _ _ _ => eg_tup rfl (egs_cons (eg_name 7 sc_law_rows_of.nd) (egs_cons (eg_name 8 sc_law_rows_of.nd) (egs_nil)))) (fun _ _ _ _ _ => ets_nil) (fun _ _ _ _ _ => ev_add (ev_add (ev_add (ev_str) (ev_str1 h_str (ev_var 7))) (ev_str)) (ev_str1 h_str (ev_var 8))) (sw_true rfl rfl rfl (by decide +kernel)))
    (eb_cons (es_for poB rfl (ei_any (ev_ix (ev_var 0) (ev_int))) (eg_tup rfl (egs_cons (eg_name 2 sc_law_rows_of.nd) (egs_cons (eg_name 3 sc_law_rows_of.nd) (egs_cons (eg_name 4 sc_law_rows_of.nd) (egs_cons (eg_name 5 sc_law_rows_of.nd) (egs_nil)))))) (eb_cons (es_set 6 (ev_add (ev_add (ev_var 3) (ev_var 4)) (ev_var 5)) sc_law_rows_of.nd)
  (eb_cons (es_if (et_eq hr.units (ev_var 2) (ev_str)) (eb_one (es_set 6 (ev_add (ev_var 4) (ev_var 3)) sc_law_rows_of.nd)) (eb_nil))
  (eb_one (es_mtP ml_app (fun _ _ p u => pe_bm PySem.F.plainAttrs_list PySem.F.slot_list_append PySem.F.type_list_append mt_append p (pa_cons u pa_nil)) (evp_n 1) (ev_add (ev_var 2) (ev_join (ev_str) (ev_lcK 0 (own := [("_law_number", 9)]) rfl sc_law_rows_of.nd ((ei_any (ev_var 6)).h) (blkOk_by (by first | decide +kernel | kernel_rfl | rfl)) (fun _ _ _ _ _ => eg_name 9 sc_law_rows_of.nd) (fun _ _ _ _ _ => ets_nil) (fun _ _ _ _ _ => ev_add (ev_str) (ev_str1 h_str (ev_var 9)))))))))))
    (eb_one (es_retM (em_mv 1))))
theorem bo_law_no_work (h_len : mg "len" = none) (c_law_rows_of : Callee P w K mg base cl "_law_rows_of" 1 1 f_law_rows_of) : BodyOk P w K mg base (cl0 cl) 1 n_law_no_work "_law_no_work" st_law_no_work b_law_no_work := by
  intro f cdv A outer s H E hr
  exact eb_cons (es_set 2 (ev_call c_law_rows_of (hr.mono (by decide)) tkB (ea_cons (ev_var 0) (ea_nil))) sc_law_no_work.nd)
    (eb_cons (es_set 3 (ev_len h_len (ev_ix (ev_var 0) (ev_int))) sc_law_no_work.nd)
    (eb_cons (es_set 4 (ev_add (ev_var 3) (ev_mod (ev_fdiv (ev_var 1) (ev_int)) (ev_sub (ev_len h_len (ev_var 2)) (ev_var 3)))) sc_law_no_work.nd)
    (eb_cons (es_if (et_eq hr.units (ev_mod (ev_var 1) (ev_int)) (ev_int)) (eb_one (es_ret (ev_add (ev_cut (ev_var 2) (eo_none) (eo_some (ev_var 4))) (ev_cut (ev_var 2) (eo_some (ev_add (ev_var 4) (ev_int))) (eo_none))))) (eb_nil))
    (eb_cons (es_if (et_eq hr.units (ev_mod (ev_var 1) (ev_int)) (ev_int)) (eb_one (es_ret (ev_add (ev_var 2) (ev_lst (ea_cons (ev_ix (ev_var 2) (ev_var 4)) (ea_nil)))))) (eb_nil))
    (eb_cons (es_if (et_eq hr.units (ev_mod (ev_var 1) (ev_int)) (ev_int)) (eb_one (es_ret (ev_add (ev_cut (ev_var 2) (eo_none) (eo_some (ev_sub (ev_var 3) (ev_int)))) (ev_cut (ev_var 2) (eo_some (ev_var 3)) (eo_none))))) (eb_nil))
    (eb_cons (es_if (et_eq hr.units (ev_mod (ev_var 1) (ev_int)) (ev_int)) (eb_one (es_ret (ev_add (ev_lst (ea_cons (ev_str) (ea_nil))) (ev_var 2)))) (eb_nil))
    (eb_cons (es_asg (ev_ix (ev_ix (ev_var 0) (ev_int)) (ev_sub (ev_var 4) (ev_var 3))) (eg_tup rfl (egs_cons (eg_name 6 sc_law_no_work.nd) (egs_cons (eg_name 7 sc_law_no_work.nd) (egs_cons (eg_name 8 sc_law_no_work.nd) (egs_cons (eg_name 9 sc_law_no_work.nd) (egs_nil)))))))
    (eb_cons (es_set 5 (ev_add (ev_var 3) (ev_mod (ev_mul (ev_fdiv (ev_var 1) (ev_int)) (ev_int)) (ev_pow (ev_int) (ev_int)))) sc_law_no_work.nd)
    (eb_cons (es_if (et_gt (ev_len h_len (ev_var 7)) (ev_int)) (eb_one (es_set 7 (ev_add (ev_cut (ev_var 7) (eo_none) (eo_some (ev_neg (ev_int)))) (ev_lst (ea_cons (ev_var 5) (ea_nil)))) sc_law_no_work.nd)) (eb_one (es_set 8 (ev_lst (ea_cons (ev_var 5) (ea_nil))) sc_law_no_work.nd)))
    (eb_one (es_ret (ev_add (ev_add (ev_cut (ev_var 2) (eo_none) (eo_some (ev_var 4))) (ev_call c_law_rows_of (hr.mono (by decide)) tkB (ea_cons (ev_tup (ea_cons (ev_lst (ea_nil)) (ea_cons (ev_lst (ea_cons (ev_tup (ea_cons (ev_var 6) (ea_cons (ev_var 7) (ea_cons (ev_var 8) (ea_cons (ev_var 9) (ea_nil)))))) (ea_nil))) (ea_nil)))) (ea_nil)))) (ev_cut (ev_var 2) (eo_some (ev_add (ev_var 4) (ev_int))) (eo_none))))))))))))))
theorem bo_law_sign_by : BodyOk P w K mg base (cl0 cl) 0 n_law_sign_by "_law_sign_by" st_law_sign_by b_law_sign_by := by
  intro f cdv A outer s H E hr
  exact eb_cons (es_set 1 (ev_str) sc_law_sign_by.nd)
    (eb_cons (es_set 1 (ev_add (ev_var 1) (ev_str)) sc_law_sign_by.nd)
    (eb_one (es_ret (ev_ixS (ev_var 1) (ev_mod (ev_var 0) (ev_int))))))
theorem bo_law_no_number (h_len : mg "len" = none) (c_law_sign_by : Callee P w K mg base cl "_law_sign_by" 1 1 f_law_sign_by) : BodyOk P w K mg base (cl0 cl) 1 n_law_no_number "_law_no_number" st_law_no_number b_law_no_number := by
  intro f cdv A outer s H E hr
  exact eb_cons (es_if (et_eq hr.units (ev_mod (ev_var 1) (ev_int)) (ev_int)) (eb_cons (es_set 2 (ev_mod (ev_fdiv (ev_var 1) (ev_int)) (ev_len h_len (ev_var 0))) sc_law_no_number.nd)
      (eb_one (es_ret (ev_add (ev_add (ev_cutS (ev_var 0) (eo_none) (eo_some (ev_var 2))) (ev_call c_law_sign_by (hr.mono (by decide)) tkB (ea_cons (ev_fdiv (ev_var 1) (ev_int)) (ea_nil)))) (ev_cutS (ev_var 0) (eo_some (ev_add (ev_var 2) (ev_mod (ev_fdiv (ev_var 1) (ev_int)) (ev_int)))) (eo_none)))))) (eb_nil))
    (eb_cons (es_if (et_eq hr.units (ev_mod (ev_var 1) (ev_int)) (ev_int)) (eb_one (es_ret (ev_add (ev_str) (ev_var 0)))) (eb_nil))
    (eb_one (es_ret (ev_ix (ev_lst (ea_cons (ev_str) (ea_cons (ev_mulS (ev_str) (ev_int)) (ea_cons (ev_add (ev_str) (ev_var 0)) (ea_cons (ev_add (ev_var 0) (ev_str)) (ea_cons (ev_add (ev_str) (ev_var 0)) (ea_cons (ev_add (ev_var 0) (ev_mulS (ev_str) (ev_int))) (ea_cons (ev_str) (ea_nil))))))))) (ev_mod (ev_fdiv (ev_var 1) (ev_int)) (ev_int))))))
theorem bo_law_beyond (h_str : mg "str" = none) : BodyOk P w K mg base (cl0 cl) 0 n_law_beyond "_law_beyond" st_law_beyond b_law_beyond := by
  intro f cdv A outer s H E hr
  exact eb_cons (es_if (et_eq hr.units (ev_ix (ev_var 0) (ev_int)) (ev_str)) (eb_cons (es_if (et_eq hr.units (ev_mod (ev_var 1) (ev_int)) (ev_int)) (eb_one (es_ret (ev_lst (ea_cons (ev_str) (ea_cons (ev_str1 h_str (ev_add (ev_mul (ev_int) (ev_mod (ev_fdiv (ev_var 1) (ev_int)) (ev_int))) (ev_mul (ev_mod (ev_fdiv (ev_var 1) (ev_int)) (ev_int)) (ev_mod (ev_fdiv (ev_var 1) (ev_int)) (ev_int))))) (ea_cons (ev_ix (ev_var 0) (ev_int)) (ea_nil))))))) (eb_nil))
      (eb_one (es_ret (ev_lst (ea_cons (ev_str) (ea_cons (ev_ix (ev_var 0) (ev_int)) (ea_cons (ev_str1 h_str (ev_mul (ev_mod (ev_fdiv (ev_var 1) (ev_int)) (ev_int)) (ev_add (ev_int) (ev_mod (ev_fdiv (ev_var 1) (ev_int)) (ev_int))))) (ea_nil)))))))) (eb_nil))
    (eb_cons (es_if (et_eq hr.units (ev_ix (ev_var 0) (ev_int)) (ev_str)) (eb_one (es_ret (ev_add (ev_add (ev_cut (ev_var 0) (eo_none) (eo_some (ev_int))) (ev_lst (ea_cons (ev_str1 h_str (ev_mul (ev_mod (ev_var 1) (ev_int)) (ev_add (ev_int) (ev_mod (ev_fdiv (ev_var 1) (ev_int)) (ev_int))))) (ea_nil)))) (ev_cut (ev_var 0) (eo_some (ev_int)) (eo_none))))) (eb_nil))
    (eb_cons (es_if (et_eq hr.units (ev_ix (ev_var 0) (ev_int)) (ev_str)) (eb_one (es_ret (ev_add (ev_cut (ev_var 0) (eo_none) (eo_some (ev_int))) (ev_lst (ea_cons (ev_str1 h_str (ev_add (ev_int) (ev_mod (ev_mul (ev_fdiv (ev_var 1) (ev_int)) (ev_int)) (ev_pow (ev_int) (ev_int))))) (ea_nil)))))) (eb_nil))
    (eb_one (es_ret (ev_add (ev_lst (ea_cons (ev_add (ev_ix (ev_var 0) (ev_int)) (ev_str)) (ea_nil))) (ev_cut (ev_var 0) (eo_some (ev_int)) (eo_none)))))))
theorem bo_law_spoilt (h_len : mg "len" = none) (h_range : mg "range" = none) (h_str : mg "str" = none) (c_law_no_number : Callee P w K mg base cl "_law_no_number" 2 2 f_law_no_number) (c_law_beyond : Callee P w K mg base cl "_law_beyond" 1 2 f_law_beyond) : BodyOk P w K mg base (cl0 cl) 2 n_law_spoilt "_law_spoilt" st_law_spoilt b_law_spoilt := by
  intro f cdv A outer s H E hr
  exact eb_cons (es_setO 2 (ev_fit 1 (ev_split (ev_var 0) (ev_str))) sc_law_spoilt.nd)
    (eb_cons (es_set 3 (ev_dsp hr.units (dsp_cons (dsp_cons (dsp_cons (dsp_cons (dsp_cons (dsp_cons (dsp_cons (dsp_nil)))))))) (ev_ix (ev_var 2) (ev_int)) rfl) sc_law_spoilt.nd)
    (eb_cons (es_set 4 (ev_dsp hr.units (dsp_cons (dsp_cons (dsp_cons (dsp_cons (dsp_cons (dsp_cons (dsp_cons (dsp_nil)))))))) (ev_ix (ev_var 2) (ev_int)) rfl) sc_law_spoilt.nd)
    (eb_cons (es_set 5 (ev_mod (ev_var 1) (ev_int)) sc_law_spoilt.nd)
    (eb_cons (es_set 6 (ev_mod (ev_fdiv (ev_var 1) (ev_int)) (ev_len h_len (ev_var 2))) sc_law_spoilt.nd)
    (eb_cons (es_if (et_eq hr.units (ev_var 5) (ev_int)) (eb_one (es_ret (ev_join (ev_str) (ev_cut (ev_var 2) (eo_none) (eo_some (ev_add (ev_int) (ev_mod (ev_fdiv (ev_var 1) (ev_int)) (ev_var 3)))))))) (eb_nil))
    (eb_cons (es_if (et_eq hr.units (ev_var 5) (ev_int)) (eb_cons (es_for poB rfl (ei_range1 h_range (ea_cons (ev_add (ev_add (ev_sub (ev_add (ev_var 4) (ev_int)) (ev_len h_len (ev_var 2))) (ev_int)) (ev_mod (ev_fdiv (ev_var 1) (ev_int)) (ev_int))) (ea_nil))) (eg_name 7 sc_law_spoilt.nd) (eb_one (es_mtP ml_app (fun _ _ p u => pe_bm PySem.F.plainAttrs_list PySem.F.slot_list_append PySem.F.type_list_append mt_append p (pa_cons u pa_nil)) (evp_n 2) (ev_str1 h_str (ev_add (ev_int) (ev_mod (ev_var 7) (ev_int)))))))
      (eb_one (es_ret (ev_bor 2 (ev_join (ev_str) (ev_var 2)))))) (eb_nil))
    (eb_cons (es_if ((ew_or (et_eq hr.units (ev_var 5) (ev_int)) (ew_or1 (et_eq hr.units (ev_var 5) (ev_int)))).t) (eb_cons (es_set 6 (ev_add (ev_int) (ev_mod (ev_fdiv (ev_var 1) (ev_int)) (ev_sub (ev_len h_len (ev_var 2)) (ev_int)))) sc_law_spoilt.nd)
      (eb_cons (es_stP 0 (ev_call c_law_no_number (hr.mono (by decide)) tkB (ea_cons (ev_ix (ev_var 2) (ev_var 6)) (ea_cons (ev_fdiv (ev_var 1) (ev_int)) (ea_nil)))) (evp_n 2) (ev_var 6))
      (eb_one (es_ret (ev_bor 2 (ev_join (ev_str) (ev_var 2))))))) (eb_nil))
    (eb_cons (es_if (et_eq hr.units (ev_var 5) (ev_int)) (eb_one (es_ret (ev_join (ev_str) (ev_bor 2 (ev_call c_law_beyond (hr.mono (by decide)) tkB (ea_cons (ev_var 2) (ea_cons (ev_fdiv (ev_var 1) (ev_int)) (ea_nil)))))))) (eb_nil))
    (eb_cons (es_if (et_eq hr.units (ev_var 5) (ev_int)) (eb_cons (es_set 8 (ev_lst (ea_cons (ev_str) (ea_cons (ev_str) (ea_cons (ev_str) (ea_cons (ev_str) (ea_cons (ev_str) (ea_cons (ev_str) (ea_cons (ev_str) (ea_cons (ev_str) (ea_cons (ev_str) (ea_cons (ev_str) (ea_cons (ev_str) (ea_cons (ev_str) (ea_nil)))))))))))))) sc_law_spoilt.nd)
      (eb_cons (es_stP 0 (ev_ix (ev_var 8) (ev_mod (ev_fdiv (ev_var 1) (ev_int)) (ev_int))) (evp_n 2) (ev_int))
      (eb_one (es_ret (ev_bor 2 (ev_join (ev_str) (ev_var 2))))))) (eb_nil))
    (eb_cons (es_fz 2 (es_if (et_eq hr.units (ev_var 5) (ev_int)) (eb_one (es_ret (ev_join (ev_str) (ev_add (ev_add (ev_cut (ev_var 2) (eo_none) (eo_some (ev_var 6))) (ev_lst (ea_cons (ev_str) (ea_nil)))) (ev_cut (ev_var 2) (eo_some (ev_var 6)) (eo_none)))))) (eb_nil)))
    (eb_one (es_ret (ev_ix (ev_lst (ea_cons (ev_str) (ea_cons (ev_str) (ea_cons (ev_str) (ea_cons (ev_add (ev_var 0) (ev_str)) (ea_nil)))))) (ev_mod (ev_fdiv (ev_var 1) (ev_int)) (ev_int)))))))))))))))
theorem bo_law_bad_rows (h_len : mg "len" = none) (h_list : mg "list" = none) (c_law_spoilt : Callee P w K mg base cl "_law_spoilt" 3 2 f_law_spoilt) : BodyOk P w K mg base (cl0 cl) 3 n_law_bad_rows "_law_bad_rows" st_law_bad_rows b_law_bad_rows := by
  intro f cdv A outer s H E hr
  exact eb_cons (es_set 4 (ev_mod (ev_fdiv (ev_var 2) (ev_int)) (ev_len h_len (ev_var 0))) sc_law_bad_rows.nd)
    (eb_cons (es_if (et_eq hr.units (ev_mod (ev_var 2) (ev_int)) (ev_int)) (eb_cons (es_set 5 (ev_add (ev_var 4) (ev_mod (ev_fdiv (ev_var 3) (ev_int)) (ev_sub (ev_len h_len (ev_var 0)) (ev_var 4)))) sc_law_bad_rows.nd)
      (eb_cons (es_setO 6 (ev_fit 1 (ev_list1 h_list (ev_var 0))) sc_law_bad_rows.nd)
      (eb_cons (es_stP 0 (ev_call c_law_spoilt (hr.mono (by decide)) tkB (ea_cons (ev_ix (ev_var 0) (ev_var 5)) (ea_cons (ev_fdiv (ev_var 3) (ev_int)) (ea_nil)))) (evp_n 6) (ev_var 5))
      (eb_cons (es_stP 0 (ev_call c_law_spoilt (hr.mono (by decide)) tkB (ea_cons (ev_ix (ev_var 0) (ev_var 4)) (ea_cons (ev_fdiv (ev_var 3) (ev_int)) (ea_nil)))) (evp_n 6) (ev_var 4))
      (eb_cons (es_set 7 (ev_lst (ea_nil)) sc_law_bad_rows.nd)
      (eb_cons (es_if (et_eq hr.units (ev_mod (ev_fdiv (ev_var 3) (ev_int)) (ev_int)) (ev_int)) (eb_one (es_set 7 (ev_mul (ev_lst (ea_cons (ev_str) (ea_nil))) (ev_sub (ev_int) (ev_var 1))) sc_law_bad_rows.nd)) (eb_nil))
      (eb_one (es_fz 6 (es_ret (ev_tup (ea_cons (ev_add (ev_add (ev_len h_len (ev_var 7)) (ev_var 4)) (ev_int)) (ea_cons (ev_add (ev_var 7) (ev_var 6)) (ea_nil))))))))))))) (eb_nil))
    (eb_cons (es_if (et_eq hr.units (ev_mod (ev_var 2) (ev_int)) (ev_int)) (eb_cons (es_set 4 (ev_add (ev_add (ev_var 1) (ev_int)) (ev_mod (ev_fdiv (ev_var 2) (ev_int)) (ev_sub (ev_len h_len (ev_var 0)) (ev_var 1)))) sc_law_bad_rows.nd)
      (eb_one (es_ret (ev_tup (ea_cons (ev_add (ev_var 4) (ev_int)) (ea_cons (ev_add (ev_add (ev_cut (ev_var 0) (eo_none) (eo_some (ev_var 4))) (ev_lst (ea_cons (ev_ix (ev_var 0) (ev_mod (ev_var 3) (ev_var 1))) (ea_nil)))) (ev_cut (ev_var 0) (eo_some (ev_var 4)) (eo_none))) (ea_nil))))))) (eb_nil))
    (eb_cons (es_if (et_eq hr.units (ev_mod (ev_fdiv (ev_var 2) (ev_int)) (ev_int)) (ev_int)) (eb_one (es_ret (ev_tup (ea_cons (ev_int) (ea_cons (ev_lst (ea_cons (ev_str) (ea_nil))) (ea_nil)))))) (eb_nil))
    (eb_one (es_ret (ev_tup (ea_cons (ev_add (ev_len h_len (ev_var 0)) (ev_int)) (ea_cons (ev_add (ev_var 0) (ev_lst (ea_cons (ev_str) (ea_nil)))) (ea_nil)))))))))
theorem bo_law_told (h_ValueError : mg "ValueError" = none) (h_bool : mg "bool" = none) (h_int : mg "int" = none) (h_isinstance : mg "isinstance" = none) (fi_BadRow : Addr) (g_WorkError : mg "WorkError" = some (.ref (cl "WorkError"))) (is_WorkError : IsF K cl tk_WorkError osA esA y_WorkError) (is_ValueError : IsF K cl tk_ValueError osA esA y_ValueError) (g_NoRatio : mg "NoRatio" = some (.ref (cl "NoRatio"))) (g_BadBelt : mg "BadBelt" = some (.ref (cl "BadBelt"))) (g_BadKnot : mg "BadKnot" = some (.ref (cl "BadKnot"))) (g_TooLong : mg "TooLong" = some (.ref (cl "TooLong"))) (g_BadPaces : mg "BadPaces" = some (.ref (cl "BadPaces"))) (g_TooMany : mg "TooMany" = some (.ref (cl "TooMany"))) (g_Moving : mg "Moving" = some (.ref (cl "Moving"))) (is_all_but_BadWork_BadRow : IsF K cl tk_all_but_BadWork_BadRow osA esA y_all_but_BadWork_BadRow) (g_BadWork : mg "BadWork" = some (.ref (cl "BadWork"))) (is_BadWork : IsF K cl tk_BadWork osA esA y_BadWork) (g_BadRow : mg "BadRow" = some (.ref (cl "BadRow"))) (is_BadRow : IsF K cl tk_BadRow osA esA y_BadRow) (xl_BadRow : ExL K mg cl "BadRow" "WorkError" fi_BadRow) : BodyOk P w K mg base (cl0 cl) 0 n_law_told "_law_told" st_law_told b_law_told := by
  intro f cdv A outer s H E hr
  exact eb_cons (es_if ((ew_or (et_not (et_val (ev_is1 is_WorkError (cn_own g_WorkError) h_isinstance (ev_var 0)))) (ew_or1 (et_not (et_val (ev_is1 is_ValueError (cn_blt "ValueError" h_ValueError) h_isinstance (ev_var 0)))))).t) (eb_one (es_ret (ev_bl))) (eb_nil))
    (eb_cons (es_if (et_val (ev_isT (ks := tk_all_but_BadWork_BadRow) is_all_but_BadWork_BadRow (cns_cons (cn_own g_NoRatio) (cns_cons (cn_own g_BadBelt) (cns_cons (cn_own g_BadKnot) (cns_cons (cn_own g_TooLong) (cns_cons (cn_own g_BadPaces) (cns_cons (cn_own g_TooMany) (cns_cons (cn_own g_Moving) (cns_nil)))))))) h_isinstance (ev_var 0))) (eb_one (es_ret (ev_bl))) (eb_nil))
    (eb_cons (es_if (et_isN (ev_var 1) (ev_non)) (eb_one (es_ret (ev_and (ev_is1 is_BadWork (cn_own g_BadWork) h_isinstance (ev_var 0)) (ev_one (ev_not (ev_is1 is_BadRow (cn_own g_BadRow) h_isinstance (ev_var 0))))))) (eb_nil))
    (eb_cons (es_if ((ew_or (et_not (et_val (ev_is1 is_BadRow (cn_own g_BadRow) h_isinstance (ev_var 0)))) (ew_or1 (et_val (ev_is1 is_BadWork (cn_own g_BadWork) h_isinstance (ev_var 0))))).t) (eb_one (es_ret (ev_bl))) (eb_nil))
    (eb_one (es_ret (ev_and (ev_isi (x := "isinstance") h_isinstance h_int (by decide +kernel) (ev_xf xl_BadRow (ev_var 0))) (ev_and (ev_not (ev_isi (x := "isinstance") h_isinstance h_bool (by decide +kernel) (ev_xf xl_BadRow (ev_var 0)))) (ev_one (ev_eq hr.units (ev_xf xl_BadRow (ev_var 0)) (ev_var 1))))))))))
theorem bo_number_from (h_int : mg "int" = none) (h_len : mg "len" = none) (g_FIGURES : ∃ t, mg "FIGURES" = some (.str "0123456789" t)) (g_MOST_FIGURES : ∃ t, mg "MOST_FIGURES" = some (.int 30 t)) : BodyOk P w K mg base (cl0 cl) 0 n_number_from "number_from" st_number_from b_number_from := by
  intro f cdv A outer s H E hr
  exact eb_cons (es_if ((ew_or (et_eq hr.units (ev_len h_len (ev_var 0)) (ev_int)) (ew_or1 (et_gt (ev_len h_len (ev_var 0)) (ev_gint g_MOST_FIGURES)))).t) (eb_one (es_ret (ev_non))) (eb_nil))
    (eb_cons (es_for poB rfl (ei_any (ev_var 0)) (eg_name 1 sc_number_from.nd) (eb_one (es_if (et_ninX (ev_var 1) (ev_gstr g_FIGURES)) (eb_one (es_ret (ev_non))) (eb_nil))))
    (eb_cons (es_if ((ew_and (et_val (ev_sm sw_rep (fun _ _ p q => pe_bm PySem.F.plainAttrs_str PySem.F.slot_str_startswith PySem.F.type_str_startswith mt_startswith p (pa_cons q pa_nil)) (ev_var 0) (ev_str))) (ew_and1 (et_gt (ev_len h_len (ev_var 0)) (ev_int)))).t) (eb_one (es_ret (ev_non))) (eb_nil))
    (eb_one (es_ret (ev_intS h_int (ev_var 0))))))
theorem bo_numbers_of (c_number_from : Callee P w K mg base cl "number_from" 1 1 f_number_from) : BodyOk P w K mg base (cl0 cl) 1 n_numbers_of "numbers_of" st_numbers_of b_numbers_of := by
  intro f cdv A outer s H E hr
  exact eb_cons (es_setO 1 (ev_fit 1 (ev_lst (ea_nil))) sc_numbers_of.nd)
    (eb_cons (es_for poB rfl (ei_any (ev_var 0)) (eg_name 2 sc_numbers_of.nd) (eb_cons (es_set 3 (ev_call c_number_from (hr.mono (by decide)) tkB (ea_cons (ev_var 2) (ea_nil))) sc_numbers_of.nd)
  (eb_cons (es_if (et_isN (ev_var 3) (ev_non)) (eb_one (es_ret (ev_non))) (eb_nil))
  (eb_one (es_mtP ml_app (fun _ _ p u => pe_bm PySem.F.plainAttrs_list PySem.F.slot_list_append PySem.F.type_list_append mt_append p (pa_cons u pa_nil)) (evp_n 1) (ev_var 3))))))
    (eb_one (es_retM (em_mv 1))))
theorem bo_Belt_init (x_BadBelt : ExcK K mg cl "BadBelt") (fl_room : FldF K cl osA "room") (fl_pace : FldF K cl osA "pace") : BodyMN P w K mg base cl [0] 0 n_Belt_init "Belt.__init__" st_Belt_init b_Belt_init := by
  intro vs f cdv A outer s H E hr
  exact eb_cons (es_if ((ew_or (et_lt (ev_var 1) (ev_int)) (ew_or1 (et_gt (ev_var 1) (ev_int)))).t) (eb_one (es_raiseN x_BadBelt rfl tkN)) (eb_nil))
    (eb_cons (es_if ((ew_or (et_lt (ev_var 2) (ev_int)) (ew_or1 (et_gt (ev_var 2) (ev_int)))).t) (eb_one (es_raiseN x_BadBelt rfl tkN)) (eb_nil))
    (eb_cons (es_fld 0 fl_room (ev_var 1))
    (eb_one (es_fld 0 fl_pace (ev_var 2)))))
theorem bo_belt_of (h_len : mg "len" = none) (fi_Belt : Addr) (m_Belt : CalleeMN P w K mg base cl fi_Belt 1 3 f_Belt_init) (x_BadBelt : ExcK K mg cl "BadBelt") (g_Belt : mg "Belt" = some (.ref (cl "Belt"))) (k_Belt : Mk K (cl "Belt") fi_Belt) : BodyOkN P w K mg base (cl0 cl) 2 n_belt_of "belt_of" st_belt_of b_belt_of := by
  intro f cdv A outer s H E hr
  exact eb_cons (es_if (et_ne hr.units (ev_len h_len (ev_var 0)) (ev_int)) (eb_one (es_raiseN x_BadBelt rfl tkN)) (eb_nil))
    (eb_one (es_ret (ev_newN m_Belt k_Belt g_Belt (hr.mono (by decide)) tkN (ea_cons (ev_ix (ev_var 0) (ev_int)) (ea_cons (ev_ix (ev_var 0) (ev_int)) (ea_nil))))))
theorem bo_is_kind : BodyOkN P w K mg base (cl0 cl) 0 n_is_kind "is_kind" st_is_kind b_is_kind := by
  intro f cdv A outer s H E hr
  exact eb_one (es_ret (ev_le_lt (ev_int) (ev_var 0) (ev_pow (ev_int) (ev_int))))
theorem bo_Knot_init (h_list : mg "list" = none) (fl_ins : FldF K cl osA "ins") (fl_outs : FldF K cl osA "outs") : BodyMN P w K mg base cl [0] 0 n_Knot_init "Knot.__init__" st_Knot_init b_Knot_init := by
  intro vs f cdv A outer s H E hr
  exact eb_cons (es_fld 0 fl_ins (ev_list1 h_list (ev_var 1)))
    (eb_one (es_fld 0 fl_outs (ev_list1 h_list (ev_var 2))))
theorem bo_Source_init (h_len : mg "len" = none) (h_list : mg "list" = none) (fi_Knot : Addr) (c_is_kind : CalleeN P w K mg base cl "is_kind" 1 1 f_is_kind) (m_Knot : CalleeMN P w K mg base cl fi_Knot 1 3 f_Knot_init) (x_BadKnot : ExcK K mg cl "BadKnot") (g_Knot : mg "Knot" = some (.ref (cl "Knot"))) (b_Knot : BaseK K (cl "Knot") "__init__" fi_Knot) (fl_pace : FldF K cl osA "pace") (fl_kinds : FldF K cl osA "kinds") : BodyMN P w K mg base cl [0] 2 n_Source_init "Source.__init__" st_Source_init b_Source_init := by
  intro vs f cdv A outer s H E hr
  exact eb_cons (es_if ((ew_or (et_lt (ev_var 2) (ev_int)) (ew_or1 (et_gt (ev_var 2) (ev_int)))).t) (eb_one (es_raiseN x_BadKnot rfl tkN)) (eb_nil))
    (eb_cons (es_if ((ew_or (et_lt (ev_len h_len (ev_var 3)) (ev_int)) (ew_or1 (et_gt (ev_len h_len (ev_var 3)) (ev_int)))).t) (eb_one (es_raiseN x_BadKnot rfl tkN)) (eb_nil))
    (eb_cons (es_for poN rfl (ei_any (ev_var 3)) (eg_name 4 sc_Source_init.nd) (eb_one (es_if (et_not (et_val (ev_callN c_is_kind (hr.mono (by decide)) tkN (ea_cons (ev_var 4) (ea_nil))))) (eb_one (es_raiseN x_BadKnot rfl tkN)) (eb_nil))))
    (eb_cons (es_exM (em_baseN m_Knot b_Knot g_Knot (hr.mono (by decide)) tkN (eam_own 0 (eam_cons (ev_lst (ea_nil)) (eam_cons (ev_lst (ea_cons (ev_var 1) (ea_nil))) (eam_nil))))))
    (eb_cons (es_fld 0 fl_pace (ev_var 2))
    (eb_one (es_fld 0 fl_kinds (ev_list1 h_list (ev_var 3))))))))
theorem bo_Drain_init (fi_Knot : Addr) (m_Knot : CalleeMN P w K mg base cl fi_Knot 1 3 f_Knot_init) (x_BadKnot : ExcK K mg cl "BadKnot") (g_Knot : mg "Knot" = some (.ref (cl "Knot"))) (b_Knot : BaseK K (cl "Knot") "__init__" fi_Knot) (fl_pace : FldF K cl osA "pace") : BodyMN P w K mg base cl [0] 2 n_Drain_init "Drain.__init__" st_Drain_init b_Drain_init := by
  intro vs f cdv A outer s H E hr
  exact eb_cons (es_if ((ew_or (et_lt (ev_var 2) (ev_int)) (ew_or1 (et_gt (ev_var 2) (ev_int)))).t) (eb_one (es_raiseN x_BadKnot rfl tkN)) (eb_nil))
    (eb_cons (es_exM (em_baseN m_Knot b_Knot g_Knot (hr.mono (by decide)) tkN (eam_own 0 (eam_cons (ev_lst (ea_cons (ev_var 1) (ea_nil))) (eam_cons (ev_lst (ea_nil)) (eam_nil))))))
    (eb_one (es_fld 0 fl_pace (ev_var 2))))
theorem bo_Parter_init (h_len : mg "len" = none) (fi_Knot : Addr) (m_Knot : CalleeMN P w K mg base cl fi_Knot 1 3 f_Knot_init) (x_BadKnot : ExcK K mg cl "BadKnot") (g_Knot : mg "Knot" = some (.ref (cl "Knot"))) (b_Knot : BaseK K (cl "Knot") "__init__" fi_Knot) : BodyMN P w K mg base cl [0] 2 n_Parter_init "Parter.__init__" st_Parter_init b_Parter_init := by
  intro vs f cdv A outer s H E hr
  exact eb_cons (es_if ((ew_or (et_lt (ev_len h_len (ev_var 2)) (ev_int)) (ew_or1 (et_gt (ev_len h_len (ev_var 2)) (ev_int)))).t) (eb_one (es_raiseN x_BadKnot rfl tkN)) (eb_nil))
    (eb_one (es_exM (em_baseN m_Knot b_Knot g_Knot (hr.mono (by decide)) tkN (eam_own 0 (eam_cons (ev_lst (ea_cons (ev_var 1) (ea_nil))) (eam_cons (ev_var 2) (eam_nil)))))))
theorem bo_FirstParter_init (h_len : mg "len" = none) (fi_Knot : Addr) (m_Knot : CalleeMN P w K mg base cl fi_Knot 1 3 f_Knot_init) (x_BadKnot : ExcK K mg cl "BadKnot") (g_Knot : mg "Knot" = some (.ref (cl "Knot"))) (b_Knot : BaseK K (cl "Knot") "__init__" fi_Knot) : BodyMN P w K mg base cl [0] 2 n_FirstParter_init "FirstParter.__init__" st_FirstParter_init b_FirstParter_init := by
  intro vs f cdv A outer s H E hr
  exact eb_cons (es_if ((ew_or (et_lt (ev_len h_len (ev_var 2)) (ev_int)) (ew_or1 (et_gt (ev_len h_len (ev_var 2)) (ev_int)))).t) (eb_one (es_raiseN x_BadKnot rfl tkN)) (eb_nil))
    (eb_one (es_exM (em_baseN m_Knot b_Knot g_Knot (hr.mono (by decide)) tkN (eam_own 0 (eam_cons (ev_lst (ea_cons (ev_var 1) (ea_nil))) (eam_cons (ev_var 2) (eam_nil)))))))
theorem bo_Sieve_init (h_len : mg "len" = none) (fi_Knot : Addr) (c_is_kind : CalleeN P w K mg base cl "is_kind" 1 1 f_is_kind) (m_Knot : CalleeMN P w K mg base cl fi_Knot 1 3 f_Knot_init) (x_BadKnot : ExcK K mg cl "BadKnot") (g_Knot : mg "Knot" = some (.ref (cl "Knot"))) (b_Knot : BaseK K (cl "Knot") "__init__" fi_Knot) (fl_kind : FldF K cl osA "kind") : BodyMN P w K mg base cl [0] 2 n_Sieve_init "Sieve.__init__" st_Sieve_init b_Sieve_init := by
  intro vs f cdv A outer s H E hr
  exact eb_cons (es_if (et_ne hr.units (ev_len h_len (ev_var 2)) (ev_int)) (eb_one (es_raiseN x_BadKnot rfl tkN)) (eb_nil))
    (eb_cons (es_if (et_not (et_val (ev_callN c_is_kind (hr.mono (by decide)) tkN (ea_cons (ev_var 3) (ea_nil))))) (eb_one (es_raiseN x_BadKnot rfl tkN)) (eb_nil))
    (eb_cons (es_exM (em_baseN m_Knot b_Knot g_Knot (hr.mono (by decide)) tkN (eam_own 0 (eam_cons (ev_lst (ea_cons (ev_var 1) (ea_nil))) (eam_cons (ev_var 2) (eam_nil))))))
    (eb_one (es_fld 0 fl_kind (ev_var 3)))))
theorem bo_Joiner_init (h_len : mg "len" = none) (fi_Knot : Addr) (m_Knot : CalleeMN P w K mg base cl fi_Knot 1 3 f_Knot_init) (x_BadKnot : ExcK K mg cl "BadKnot") (g_Knot : mg "Knot" = some (.ref (cl "Knot"))) (b_Knot : BaseK K (cl "Knot") "__init__" fi_Knot) : BodyMN P w K mg base cl [0] 2 n_Joiner_init "Joiner.__init__" st_Joiner_init b_Joiner_init := by
  intro vs f cdv A outer s H E hr
  exact eb_cons (es_if ((ew_or (et_lt (ev_len h_len (ev_var 1)) (ev_int)) (ew_or1 (et_gt (ev_len h_len (ev_var 1)) (ev_int)))).t) (eb_one (es_raiseN x_BadKnot rfl tkN)) (eb_nil))
    (eb_one (es_exM (em_baseN m_Knot b_Knot g_Knot (hr.mono (by decide)) tkN (eam_own 0 (eam_cons (ev_var 1) (eam_cons (ev_lst (ea_cons (ev_var 2) (ea_nil))) (eam_nil)))))))
theorem bo_knot_of (h_len : mg "len" = none) (fi_Source : Addr) (fi_Drain : Addr) (fi_Parter : Addr) (fi_FirstParter : Addr) (fi_Sieve : Addr) (fi_Joiner : Addr) (m_Source : CalleeMN P w K mg base cl fi_Source 3 4 f_Source_init) (m_Drain : CalleeMN P w K mg base cl fi_Drain 3 3 f_Drain_init) (m_Parter : CalleeMN P w K mg base cl fi_Parter 3 3 f_Parter_init) (m_FirstParter : CalleeMN P w K mg base cl fi_FirstParter 3 3 f_FirstParter_init) (m_Sieve : CalleeMN P w K mg base cl fi_Sieve 3 4 f_Sieve_init) (m_Joiner : CalleeMN P w K mg base cl fi_Joiner 3 3 f_Joiner_init) (g_Source : mg "Source" = some (.ref (cl "Source"))) (k_Source : Mk K (cl "Source") fi_Source) (g_Drain : mg "Drain" = some (.ref (cl "Drain"))) (k_Drain : Mk K (cl "Drain") fi_Drain) (g_Parter : mg "Parter" = some (.ref (cl "Parter"))) (k_Parter : Mk K (cl "Parter") fi_Parter) (g_FirstParter : mg "FirstParter" = some (.ref (cl "FirstParter"))) (k_FirstParter : Mk K (cl "FirstParter") fi_FirstParter) (g_Sieve : mg "Sieve" = some (.ref (cl "Sieve"))) (k_Sieve : Mk K (cl "Sieve") fi_Sieve) (g_Joiner : mg "Joiner" = some (.ref (cl "Joiner"))) (k_Joiner : Mk K (cl "Joiner") fi_Joiner) (x_BadKnot : ExcK K mg cl "BadKnot") : BodyOkN P w K mg base (cl0 cl) 4 n_knot_of "knot_of" st_knot_of b_knot_of := by
  intro f cdv A outer s H E hr
  exact eb_cons (es_set 2 (ev_len h_len (ev_var 1)) sc_knot_of.nd)
    (eb_cons (es_if ((ew_and (et_eq hr.units (ev_var 0) (ev_str)) (ew_and1 (et_gt (ev_var 2) (ev_int)))).t) (eb_one (es_ret (ev_newN m_Source k_Source g_Source (hr.mono (by decide)) tkN (ea_cons (ev_ix (ev_var 1) (ev_int)) (ea_cons (ev_ix (ev_var 1) (ev_int)) (ea_cons (ev_cut (ev_var 1) (eo_some (ev_int)) (eo_none)) (ea_nil))))))) (eb_nil))
    (eb_cons (es_if ((ew_and (et_eq hr.units (ev_var 0) (ev_str)) (ew_and1 (et_eq hr.units (ev_var 2) (ev_int)))).t) (eb_one (es_ret (ev_newN m_Drain k_Drain g_Drain (hr.mono (by decide)) tkN (ea_cons (ev_ix (ev_var 1) (ev_int)) (ea_cons (ev_ix (ev_var 1) (ev_int)) (ea_nil)))))) (eb_nil))
    (eb_cons (es_if ((ew_and (et_eq hr.units (ev_var 0) (ev_str)) (ew_and1 (et_gt (ev_var 2) (ev_int)))).t) (eb_one (es_ret (ev_newN m_Parter k_Parter g_Parter (hr.mono (by decide)) tkN (ea_cons (ev_ix (ev_var 1) (ev_int)) (ea_cons (ev_cut (ev_var 1) (eo_some (ev_int)) (eo_none)) (ea_nil)))))) (eb_nil))
    (eb_cons (es_if ((ew_and (et_eq hr.units (ev_var 0) (ev_str)) (ew_and1 (et_gt (ev_var 2) (ev_int)))).t) (eb_one (es_ret (ev_newN m_FirstParter k_FirstParter g_FirstParter (hr.mono (by decide)) tkN (ea_cons (ev_ix (ev_var 1) (ev_int)) (ea_cons (ev_cut (ev_var 1) (eo_some (ev_int)) (eo_none)) (ea_nil)))))) (eb_nil))
    (eb_cons (es_if ((ew_and (et_eq hr.units (ev_var 0) (ev_str)) (ew_and1 (et_eq hr.units (ev_var 2) (ev_int)))).t) (eb_one (es_ret (ev_newN m_Sieve k_Sieve g_Sieve (hr.mono (by decide)) tkN (ea_cons (ev_ix (ev_var 1) (ev_int)) (ea_cons (ev_cut (ev_var 1) (eo_some (ev_int)) (eo_some (ev_int))) (ea_cons (ev_ix (ev_var 1) (ev_int)) (ea_nil))))))) (eb_nil))
    (eb_cons (es_if ((ew_and (et_eq hr.units (ev_var 0) (ev_str)) (ew_and1 (et_gt (ev_var 2) (ev_int)))).t) (eb_one (es_ret (ev_newN m_Joiner k_Joiner g_Joiner (hr.mono (by decide)) tkN (ea_cons (ev_cut (ev_var 1) (eo_some (ev_int)) (eo_none)) (ea_cons (ev_ix (ev_var 1) (ev_int)) (ea_nil)))))) (eb_nil))
    (eb_one (es_raiseN x_BadKnot rfl tkN))))))))
theorem bo_part_of (fi_BadRow : Addr) (c_numbers_of : Callee P w K mg base cl "numbers_of" 2 1 f_numbers_of) (c_belt_of : CalleeN P w K mg base cl "belt_of" 3 1 f_belt_of) (c_knot_of : CalleeN P w K mg base cl "knot_of" 5 2 f_knot_of) (g_BadRow : mg "BadRow" = some (.ref (cl "BadRow"))) (g_WorkError : mg "WorkError" = some (.ref (cl "WorkError"))) (xl_BadRow : ExL K mg cl "BadRow" "WorkError" fi_BadRow) (cL_BadRow : CalleeL P w K mg base (cl "BadRow") fi_BadRow 1) (cLH_BadRow : CalleeLH P w K mg base (cl "BadRow") fi_BadRow 1) (g_BadBelt : mg "BadBelt" = some (.ref (cl "BadBelt"))) (g_BadKnot : mg "BadKnot" = some (.ref (cl "BadKnot"))) (t2_BadBelt_BadKnot : ∀ z, cMem z_BadBelt_BadKnot z = true → PySem.W.exmAny K (.ref (cl z)) [.ref (cl "BadBelt"), .ref (cl "BadKnot")] = some true) : BodyOk P w K mg base (cl0 cl) 5 n_part_of "part_of" st_part_of b_part_of := by
  intro f cdv A outer s H E hr
  exact eb_cons (es_set 3 (ev_split (ev_var 0) (ev_str)) sc_part_of.nd)
    (eb_cons (es_set 4 (ev_call c_numbers_of (hr.mono (by decide)) tkB (ea_cons (ev_cut (ev_var 3) (eo_some (ev_int)) (eo_none)) (ea_nil))) sc_part_of.nd)
    (eb_cons (es_if ((ew_or (et_isN (ev_var 4) (ev_non)) (ew_or1 ((ew_and (et_eq hr.units (ev_ix (ev_var 3) (ev_int)) (ev_str)) (ew_and1 (et_val (ev_var 2)))).t))).t) (eb_one (es_raiseF xl_BadRow cL_BadRow (hr.mono (by decide)) rfl tkB (ea_cons (ev_var 1) (ea_nil)))) (eb_nil))
    (eb_one (es_try2 g_BadBelt g_BadKnot tkB paB (fun W pn xe tk po => eb_one (es_if (et_eq hr.units (ev_ix (ev_var 3) (ev_int)) (ev_str)) (eb_one (es_set 5 (ev_callN c_belt_of (hr.mono (by decide)) tk (ea_cons (ev_var 4) (ea_nil))) sc_part_of.nd)) (eb_one (es_set 5 (ev_callN c_knot_of (hr.mono (by decide)) tk (ea_cons (ev_ix (ev_var 3) (ev_int)) (ea_cons (ev_var 4) (ea_nil)))) sc_part_of.nd)))) (fun a oe pn tk hot => eb_one (es_raiseFH xl_BadRow cLH_BadRow (L2H.roomH_mark (hr.mono (by decide)) _) hot tk (ea_cons (ev_var 1) (ea_nil)))) (eb_one (es_ret (ev_var 5))) t2_BadBelt_BadKnot))))
theorem bo_stand_once (h_list : mg "list" = none) (h_range : mg "range" = none) (h_sorted : mg "sorted" = none) : BodyOk P w K mg base (cl0 cl) 0 n_stand_once "stand_once" st_stand_once b_stand_once := by
  intro f cdv A outer s H E hr
  exact eb_cons (es_setO 2 (ev_fit 1 (ev_lst (ea_nil))) sc_stand_once.nd)
    (eb_cons (es_for poB rfl (ei_any (ev_var 0)) (eg_name 3 sc_stand_once.nd) (eb_one (es_mtP ml_ext (fun _ _ p u => pe_bm PySem.F.plainAttrs_list PySem.F.slot_list_extend PySem.F.type_list_extend mt_extS p (pa_cons u pa_nil)) (evp_n 2) (ev_var 3))))
    (eb_one (es_fz 2 (es_ret (ev_eq hr.units (ev_srt1 h_sorted (ea_cons (ev_var 2) (ea_nil))) (ev_lr1 rfl h_list h_range (ev_var 1)))))))
theorem bo_Work_init (h_len : mg "len" = none) (h_list : mg "list" = none) (c_stand_once : Callee P w K mg base cl "stand_once" 1 2 f_stand_once) (x_BadWork : ExcK K mg cl "BadWork") (fl_outs : FldF K cl osA "outs") (fl_ins : FldF K cl osA "ins") (fl_belts : FldF K cl osA "belts") (fl_knots : FldF K cl osA "knots") : BodyM P w K mg base cl [0] 1 n_Work_init "Work.__init__" st_Work_init b_Work_init := by
  intro vs f cdv A outer s H E hr
  exact eb_cons (es_if ((ew_or (et_lt (ev_len h_len (ev_var 1)) (ev_int)) (ew_or1 (et_gt (ev_len h_len (ev_var 1)) (ev_int)))).t) (eb_one (es_raise x_BadWork rfl tkB)) (eb_nil))
    (eb_cons (es_if ((ew_or (et_lt (ev_len h_len (ev_var 2)) (ev_int)) (ew_or1 (et_gt (ev_len h_len (ev_var 2)) (ev_int)))).t) (eb_one (es_raise x_BadWork rfl tkB)) (eb_nil))
    (eb_cons (es_if (et_not (et_val (ev_call c_stand_once (hr.mono (by decide)) tkB (ea_cons (ev_lcK 0 (hfo := fun u hu => by simp only [List.map_cons, List.map_nil, List.mem_cons, List.not_mem_nil, or_false] at hu; first | (subst hu; rfl) | (rcases hu with rfl | rfl <;> rfl)) (own := [("knot", 3)]) rfl sc_Work_init.nd ((ei_any (ev_var 2)).h) (blkOk_by (by first | decide +kernel | kernel_rfl | rfl)) (fun _ _ _ _ _ => eg_name 3 sc_Work_init.nd) (fun _ _ _ _ _ => ets_nil) (fun _ _ _ _ _ => ev_fld fl_outs (ev_var 3))) (ea_cons (ev_len h_len (ev_var 1)) (ea_nil)))))) (eb_one (es_raise x_BadWork rfl tkB)) (eb_nil))
    (eb_cons (es_if (et_not (et_val (ev_call c_stand_once (hr.mono (by decide)) tkB (ea_cons (ev_lcK 0 (hfo := fun u hu => by simp only [List.map_cons, List.map_nil, List.mem_cons, List.not_mem_nil, or_false] at hu; first | (subst hu; rfl) | (rcases hu with rfl | rfl <;> rfl)) (own := [("knot", 3)]) rfl sc_Work_init.nd ((ei_any (ev_var 2)).h) (blkOk_by (by first | decide +kernel | kernel_rfl | rfl)) (fun _ _ _ _ _ => eg_name 3 sc_Work_init.nd) (fun _ _ _ _ _ => ets_nil) (fun _ _ _ _ _ => ev_fld fl_ins (ev_var 3))) (ea_cons (ev_len h_len (ev_var 1)) (ea_nil)))))) (eb_one (es_raise x_BadWork rfl tkB)) (eb_nil))
    (eb_cons (es_fld 0 fl_belts (ev_list1 h_list (ev_var 1)))
    (eb_one (es_fld 0 fl_knots (ev_list1 h_list (ev_var 2))))))))
theorem bo_read_work (h_enumerate : mg "enumerate" = none) (h_isinstance : mg "isinstance" = none) (h_len : mg "len" = none) (fi_Work : Addr) (c_part_of : Callee P w K mg base cl "part_of" 6 3 f_part_of) (m_Work : CalleeM P w K mg base cl fi_Work 2 3 f_Work_init) (g_Belt : mg "Belt" = some (.ref (cl "Belt"))) (is_Belt : IsF K cl tk_Belt osA esA y_Belt) (g_Work : mg "Work" = some (.ref (cl "Work"))) (k_Work : Mk K (cl "Work") fi_Work) : BodyOk P w K mg base (cl0 cl) 6 n_read_work "read_work" st_read_work b_read_work := by
  intro f cdv A outer s H E hr
  exact eb_cons (es_setO 1 (ev_fit 1 (ev_lst (ea_nil))) sc_read_work.nd)
    (eb_cons (es_setO 2 (ev_fit 1 (ev_lst (ea_nil))) sc_read_work.nd)
    (eb_cons (es_for poB rfl (ei_enum h_enumerate (ea_cons (ev_split (ev_var 0) (ev_str)) (ea_nil))) (eg_tup rfl (egs_cons (eg_name 3 sc_read_work.nd) (egs_cons (eg_name 4 sc_read_work.nd) (egs_nil)))) (eb_cons (es_set 5 (ev_call c_part_of (hr.mono (by decide)) tkB (ea_cons (ev_var 4) (ea_cons (ev_add (ev_var 3) (ev_int)) (ea_cons (ev_gt (ev_len h_len (ev_var 2)) (ev_int)) (ea_nil))))) sc_read_work.nd)
  (eb_one (es_if (et_val (ev_is1 is_Belt (cn_own g_Belt) h_isinstance (ev_var 5))) (eb_one (es_mtP ml_app (fun _ _ p u => pe_bm PySem.F.plainAttrs_list PySem.F.slot_list_append PySem.F.type_list_append mt_append p (pa_cons u pa_nil)) (evp_n 1) (ev_var 5))) (eb_one (es_mtP ml_app (fun _ _ p u => pe_bm PySem.F.plainAttrs_list PySem.F.slot_list_append PySem.F.type_list_append mt_append p (pa_cons u pa_nil)) (evp_n 2) (ev_var 5)))))))
    (eb_one (es_fz 2 (es_fz 1 (es_ret (ev_new m_Work k_Work g_Work (hr.mono (by decide)) tkB (ea_cons (ev_var 1) (ea_cons (ev_var 2) (ea_nil))))))))))
theorem bo_law_caught (c_read_work : Callee P w K mg base cl "read_work" 7 1 f_read_work) (g_WorkError : mg "WorkError" = some (.ref (cl "WorkError"))) (t_WorkError : ∀ z, cMem z_WorkError z = true → PySem.W.exmOne K (.ref (cl z)) (.ref (cl "WorkError")) = some true) : BodyOk P w K mg base (cl0 cl) 7 n_law_caught "_law_caught" st_law_caught b_law_caught := by
  intro f cdv A outer s H E hr
  exact eb_cons (es_set 1 (ev_non) sc_law_caught.nd)
    (eb_cons (es_try 2 g_WorkError tkB (fun W pn xe tk po => eb_one (es_exM (em_pure (ev_call c_read_work (hr.mono (by decide)) tk (ea_cons (ev_join (ev_str) (ev_var 0)) (ea_nil)))))) (fun a pn => eb_one (es_set 1 (ev_var 2) sc_law_caught.nd)) t_WorkError sc_law_caught.nd)
    (eb_one (es_ret (ev_var 1))))
theorem bo_law (h_isinstance : mg "isinstance" = none) (h_len : mg "len" = none) (c_law_parts_of : Callee P w K mg base cl "_law_parts_of" 4 1 f_law_parts_of) (c_law_rows_of : Callee P w K mg base cl "_law_rows_of" 1 1 f_law_rows_of) (c_law_cell_at : Callee P w K mg base cl "_law_cell_at" 1 2 f_law_cell_at) (c_law_no_work : Callee P w K mg base cl "_law_no_work" 2 2 f_law_no_work) (c_law_bad_rows : Callee P w K mg base cl "_law_bad_rows" 4 4 f_law_bad_rows) (c_law_told : Callee P w K mg base cl "_law_told" 1 2 f_law_told) (c_law_caught : Callee P w K mg base cl "_law_caught" 8 1 f_law_caught) (c_read_work : Callee P w K mg base cl "read_work" 7 1 f_read_work) (g_Work : mg "Work" = some (.ref (cl "Work"))) (is_Work : IsF K cl tk_Work osA esA y_Work) (fl_belts : FldF K cl osA "belts") : BodyOk P w K mg base (cl0 cl) 8 n_law "law" st_law b_law := by
  intro f cdv A outer s H E hr
  exact eb_cons (es_set 1 (ev_call c_law_parts_of (hr.mono (by decide)) tkB (ea_cons (ev_var 0) (ea_nil))) sc_law.nd)
    (eb_cons (es_set 2 (ev_call c_law_rows_of (hr.mono (by decide)) tkB (ea_cons (ev_var 1) (ea_nil))) sc_law.nd)
    (eb_cons (es_set 3 (ev_mod (ev_mul (ev_add (ev_call c_law_cell_at (hr.mono (by decide)) tkB (ea_cons (ev_var 0) (ea_cons (ev_int) (ea_nil)))) (ev_mul (ev_int) (ev_call c_law_cell_at (hr.mono (by decide)) tkB (ea_cons (ev_var 0) (ea_cons (ev_int) (ea_nil)))))) (ev_int)) (ev_int)) sc_law.nd)
    (eb_cons (es_set 4 (ev_mod (ev_mul (ev_add (ev_add (ev_call c_law_cell_at (hr.mono (by decide)) tkB (ea_cons (ev_var 0) (ea_cons (ev_int) (ea_nil)))) (ev_mul (ev_int) (ev_call c_law_cell_at (hr.mono (by decide)) tkB (ea_cons (ev_var 0) (ea_cons (ev_int) (ea_nil)))))) (ev_int)) (ev_int)) (ev_int)) sc_law.nd)
    (eb_cons (es_set 5 (ev_non) sc_law.nd)
    (eb_cons (es_set 6 (ev_call c_law_no_work (hr.mono (by decide)) tkB (ea_cons (ev_var 1) (ea_cons (ev_var 4) (ea_nil)))) sc_law.nd)
    (eb_cons (es_if (et_lt (ev_mod (ev_var 3) (ev_int)) (ev_int)) (eb_one (es_asg (ev_call c_law_bad_rows (hr.mono (by decide)) tkB (ea_cons (ev_var 2) (ea_cons (ev_len h_len (ev_ix (ev_var 1) (ev_int))) (ea_cons (ev_fdiv (ev_var 3) (ev_int)) (ea_cons (ev_var 4) (ea_nil)))))) (eg_tup rfl (egs_cons (eg_name 5 sc_law.nd) (egs_cons (eg_name 6 sc_law.nd) (egs_nil)))))) (eb_nil))
    (eb_cons (es_if (et_not (et_val (ev_call c_law_told (hr.mono (by decide)) tkB (ea_cons (ev_call c_law_caught (hr.mono (by decide)) tkB (ea_cons (ev_var 6) (ea_nil))) (ea_cons (ev_var 5) (ea_nil)))))) (eb_one (es_ret (ev_bl))) (eb_nil))
    (eb_cons (es_set 7 (ev_call c_read_work (hr.mono (by decide)) tkB (ea_cons (ev_join (ev_str) (ev_var 2)) (ea_nil))) sc_law.nd)
    (eb_cons (es_if ((ew_or (et_not (et_val (ev_is1 is_Work (cn_own g_Work) h_isinstance (ev_var 7)))) (ew_or1 (et_ne hr.units (ev_len h_len (ev_fld fl_belts (ev_var 7))) (ev_len h_len (ev_ix (ev_var 1) (ev_int)))))).t) (eb_one (es_ret (ev_bl))) (eb_nil))
    (eb_one (es_ret (ev_call c_law_told (hr.mono (by decide)) tkB (ea_cons (ev_call c_law_caught (hr.mono (by decide)) tkB (ea_cons (ev_var 6) (ea_nil))) (ea_cons (ev_var 5) (ea_nil)))))))))))))))
end
abbrev hk : PySem.W.Hook := hookB ad fa fn px
def ob (s : PySem.W.SharedT) : He.AlD × Bool := obB ad fa fn px (HandSHeadRun.getT s)
theorem ob_eq (s : PySem.W.SharedT) : ob s = hk.obs s.abs := obB_eq (HandSHeadRun.getT_eq s)
theorem run (w : World) : HandSHeadRun.RunEq Rw (PySem.W.view Rw.prog [52]) hk ob 30000 loose w := run_parts4 (run1 w) (run2 w) (run3 w) (run4 w)
theorem facts {P : Program} {w : World} {K : PySem.W.Frag} {h : Heap} {mg : Str → Option Value} {g : Addr} (X : K.In h) (G : h.Ns mainGlobals mg) (hg : mg ("law" : Str) = some (.ref g)) (c : He.SaysD fa fn K) (hx : pxAll px K = true) :
    ∃ fd : FuncData, (∀ (s : Shared) (u : Value), BindsTo s fd ⟨[u], []⟩ [("_law_script", u)]) ∧ ∀ base : Heap, K.In base → base.Ns mainGlobals mg → FnOk P w K mg base (L2.CX P w) 9 g fd ["_law_script"] (spP K (He.ga K) 1 f_law) := by
  have h_ValueError := He.free_ok X G (c.fact 43 (f := .free "ValueError") rfl)
  have h_bool := He.free_ok X G (c.fact 44 (f := .free "bool") rfl)
  have h_enumerate := He.free_ok X G (c.fact 45 (f := .free "enumerate") rfl)
  have h_int := He.free_ok X G (c.fact 46 (f := .free "int") rfl)
  have h_isinstance := He.free_ok X G (c.fact 47 (f := .free "isinstance") rfl)
  have h_len := He.free_ok X G (c.fact 48 (f := .free "len") rfl)
  have h_list := He.free_ok X G (c.fact 49 (f := .free "list") rfl)
  have h_range := He.free_ok X G (c.fact 50 (f := .free "range") rfl)
  have h_sorted := He.free_ok X G (c.fact 51 (f := .free "sorted") rfl)
  have h_str := He.free_ok X G (c.fact 52 (f := .free "str") rfl)
  have g_FIGURES := He.str_ok X G (c.fact 53 (f := .str "FIGURES" "0123456789") rfl)
  have g_MOST_FIGURES := He.int_ok X G (c.fact 54 (f := .int "MOST_FIGURES" 30) rfl)
  have g_BadBelt := He.glo_ok X G (c.fact 24 (f := .glo "BadBelt") rfl)
  have g_BadKnot := He.glo_ok X G (c.fact 25 (f := .glo "BadKnot") rfl)
  have g_BadPaces := He.glo_ok X G (c.fact 26 (f := .glo "BadPaces") rfl)
  have g_BadRow := He.glo_ok X G (c.fact 27 (f := .glo "BadRow") rfl)
  have g_BadWork := He.glo_ok X G (c.fact 28 (f := .glo "BadWork") rfl)
  have g_Belt := He.glo_ok X G (c.fact 29 (f := .glo "Belt") rfl)
  have g_Drain := He.glo_ok X G (c.fact 30 (f := .glo "Drain") rfl)
  have g_FirstParter := He.glo_ok X G (c.fact 31 (f := .glo "FirstParter") rfl)
  have g_Joiner := He.glo_ok X G (c.fact 32 (f := .glo "Joiner") rfl)
  have g_Knot := He.glo_ok X G (c.fact 33 (f := .glo "Knot") rfl)
  have g_Moving := He.glo_ok X G (c.fact 34 (f := .glo "Moving") rfl)
  have g_NoRatio := He.glo_ok X G (c.fact 35 (f := .glo "NoRatio") rfl)
  have g_Parter := He.glo_ok X G (c.fact 36 (f := .glo "Parter") rfl)
  have g_Sieve := He.glo_ok X G (c.fact 37 (f := .glo "Sieve") rfl)
  have g_Source := He.glo_ok X G (c.fact 38 (f := .glo "Source") rfl)
  have g_TooLong := He.glo_ok X G (c.fact 39 (f := .glo "TooLong") rfl)
  have g_TooMany := He.glo_ok X G (c.fact 40 (f := .glo "TooMany") rfl)
  have g_Work := He.glo_ok X G (c.fact 41 (f := .glo "Work") rfl)
  have g_WorkError := He.glo_ok X G (c.fact 42 (f := .glo "WorkError") rfl)
  let fi_law_outs_of : Addr := He.ga K "_law_outs_of"
  have gf_law_outs_of : mg "_law_outs_of" = some (.ref fi_law_outs_of) := He.glo_ok X G (c.fact 0 (f := .glo "_law_outs_of") rfl)
  let fi_law_joined : Addr := He.ga K "_law_joined"
  have gf_law_joined : mg "_law_joined" = some (.ref fi_law_joined) := He.glo_ok X G (c.fact 2 (f := .glo "_law_joined") rfl)
  let fi_law_step : Addr := He.ga K "_law_step"
  have gf_law_step : mg "_law_step" = some (.ref fi_law_step) := He.glo_ok X G (c.fact 3 (f := .glo "_law_step") rfl)
  let fi_BadRow : Addr := He.ma K (He.ga K "BadRow") "__init__"
  have x_BadBelt := ExcK.of g_BadBelt (c.fact 55 (f := .exc "BadBelt") rfl)
  let fi_Belt : Addr := He.ma K (He.ga K "Belt") "__init__"
  have k_Belt := He.mkr_ok (c.fact 56 (f := .mkr "Belt") rfl)
  have x_BadKnot := ExcK.of g_BadKnot (c.fact 57 (f := .exc "BadKnot") rfl)
  let fi_Knot : Addr := He.ma K (He.ga K "Knot") "__init__"
  let fi_Source : Addr := He.ma K (He.ga K "Source") "__init__"
  have k_Source := He.mkr_ok (c.fact 58 (f := .mkr "Source") rfl)
  let fi_Drain : Addr := He.ma K (He.ga K "Drain") "__init__"
  have k_Drain := He.mkr_ok (c.fact 59 (f := .mkr "Drain") rfl)
  let fi_Parter : Addr := He.ma K (He.ga K "Parter") "__init__"
  have k_Parter := He.mkr_ok (c.fact 60 (f := .mkr "Parter") rfl)
  let fi_FirstParter : Addr := He.ma K (He.ga K "FirstParter") "__init__"
  have k_FirstParter := He.mkr_ok (c.fact 61 (f := .mkr "FirstParter") rfl)
  let fi_Sieve : Addr := He.ma K (He.ga K "Sieve") "__init__"
  have k_Sieve := He.mkr_ok (c.fact 62 (f := .mkr "Sieve") rfl)
  let fi_Joiner : Addr := He.ma K (He.ga K "Joiner") "__init__"
  have k_Joiner := He.mkr_ok (c.fact 63 (f := .mkr "Joiner") rfl)
  have x_BadWork := ExcK.of g_BadWork (c.fact 64 (f := .exc "BadWork") rfl)
  let fi_Work : Addr := He.ma K (He.ga K "Work") "__init__"
  have k_Work := He.mkr_ok (c.fact 65 (f := .mkr "Work") rfl)
  have is_WorkError := isB_ok (pxAll_get hx 0 (f := isB tk_WorkError osA esA y_WorkError) rfl)
  have is_ValueError := isB_ok (pxAll_get hx 1 (f := isB tk_ValueError osA esA y_ValueError) rfl)
  have is_all_but_BadWork_BadRow := isB_ok (pxAll_get hx 2 (f := isB tk_all_but_BadWork_BadRow osA esA y_all_but_BadWork_BadRow) rfl)
  have is_BadWork := isB_ok (pxAll_get hx 3 (f := isB tk_BadWork osA esA y_BadWork) rfl)
  have is_BadRow := isB_ok (pxAll_get hx 4 (f := isB tk_BadRow osA esA y_BadRow) rfl)
  have xl_BadRow := exlB_ok g_BadRow g_WorkError (pxAll_get hx 5 (f := exlB "BadRow" "WorkError") rfl)
  have fl_room := fldB_ok (pxAll_get hx 6 (f := fldB osA "room") rfl)
  have fl_pace := fldB_ok (pxAll_get hx 7 (f := fldB osA "pace") rfl)
  have fl_ins := fldB_ok (pxAll_get hx 8 (f := fldB osA "ins") rfl)
  have fl_outs := fldB_ok (pxAll_get hx 9 (f := fldB osA "outs") rfl)
  have b_Knot := baseB_ok (pxAll_get hx 10 (f := baseB "Knot" "__init__") rfl)
  have fl_kinds := fldB_ok (pxAll_get hx 11 (f := fldB osA "kinds") rfl)
  have fl_kind := fldB_ok (pxAll_get hx 12 (f := fldB osA "kind") rfl)
  have t2_BadBelt_BadKnot := exm2B_ok (pxAll_get hx 13 (f := exm2B z_BadBelt_BadKnot "BadBelt" "BadKnot") rfl)
  have fl_belts := fldB_ok (pxAll_get hx 14 (f := fldB osA "belts") rfl)
  have fl_knots := fldB_ok (pxAll_get hx 15 (f := fldB osA "knots") rfl)
  have is_Belt := isB_ok (pxAll_get hx 16 (f := isB tk_Belt osA esA y_Belt) rfl)
  have t_WorkError := exmB_ok (pxAll_get hx 17 (f := exmB z_WorkError "WorkError") rfl)
  have is_Work := isB_ok (pxAll_get hx 18 (f := isB tk_Work osA esA y_Work) rfl)
  obtain ⟨fd_BadRow_init, F_BadRow_init⟩ := c.def_ 34 (d := d_BadRow_init) rfl
  have cL_BadRow : ∀ base : Heap, CalleeL P w K mg base (He.ga K "BadRow") fi_BadRow 1 := fun base => CalleeL.of (st := st_BadRow_init) (qual := "BadRow.__init__") xl_BadRow F_BadRow_init sc_BadRow_init (pi_BadRow xl_BadRow) fun _ _ _ _ _ _ us hl => match us, hl with | [_, _], _ => rfl
  have cLH_BadRow : ∀ base : Heap, CalleeLH P w K mg base (He.ga K "BadRow") fi_BadRow 1 := fun base => CalleeLH.of (st := st_BadRow_init) (qual := "BadRow.__init__") xl_BadRow F_BadRow_init sc_BadRow_init (pj_BadRow xl_BadRow) fun _ _ _ _ _ _ us hl => match us, hl with | [_, _], _ => rfl
  obtain ⟨fd_law_outs_of__4, F_law_outs_of__4⟩ := c.def_ 0 (d := d_law_outs_of__4) rfl
  have m_law_outs_of__4 : ∀ base : Heap, CalleeM P w K mg base (He.ga K) (He.ga K "_law_outs_of") 1 5 f_law_outs_of__4 := fun base => CalleeM.of F_law_outs_of__4 sc_law_outs_of__4 (bo_law_outs_of__4 h_len h_range) fun _ _ _ _ _ _ us hl => match us, hl with | [_, _, _, _, _], _ => rfl
  obtain ⟨fd_law_kinds_of, F_law_kinds_of⟩ := c.def_ 1 (d := d_law_kinds_of) rfl
  have c_law_kinds_of : ∀ base : Heap, Callee P w K mg base (He.ga K) "_law_kinds_of" 1 1 f_law_kinds_of := fun base => Callee.of F_law_kinds_of (He.glo_ok X G (c.fact 1 (f := .glo "_law_kinds_of") rfl)) sc_law_kinds_of (bo_law_kinds_of h_range) fun _ _ _ _ _ _ us hl => match us, hl with | [_], _ => rfl
  obtain ⟨fd_law_outs_of, F_law_outs_of⟩ := c.def_ 2 (d := d_law_outs_of) rfl
  have m_law_outs_of : ∀ base : Heap, CalleeM P w K mg base (He.ga K) (He.ga K "_law_outs_of") 1 5 f_law_outs_of := fun base => CalleeM.of F_law_outs_of sc_law_outs_of (bo_law_outs_of h_len h_range) fun _ _ _ _ _ _ us hl => match us, hl with | [_, _, _, _, _], _ => rfl
  obtain ⟨fd_law_joined, F_law_joined⟩ := c.def_ 3 (d := d_law_joined) rfl
  have m_law_joined : ∀ base : Heap, CalleeM P w K mg base (He.ga K) (He.ga K "_law_joined") 2 5 f_law_joined := fun base => CalleeM.of F_law_joined sc_law_joined (bo_law_joined h_len h_range fi_law_outs_of (m_law_outs_of base) gf_law_outs_of) fun _ _ _ _ _ _ us hl => match us, hl with | [_, _, _, _, _], _ => rfl
  obtain ⟨fd_law_step, F_law_step⟩ := c.def_ 4 (d := d_law_step) rfl
  have m_law_step : ∀ base : Heap, CalleeM P w K mg base (He.ga K) (He.ga K "_law_step") 3 5 f_law_step := fun base => CalleeM.of F_law_step sc_law_step (bo_law_step h_len fi_law_outs_of fi_law_joined (m_law_outs_of__4 base) (c_law_kinds_of base) (m_law_joined base) (m_law_outs_of base) gf_law_outs_of gf_law_joined) fun _ _ _ _ _ _ us hl => match us, hl with | [_, _, _, _, _], _ => rfl
  obtain ⟨fd_law_cell_at, F_law_cell_at⟩ := c.def_ 5 (d := d_law_cell_at) rfl
  have c_law_cell_at : ∀ base : Heap, Callee P w K mg base (He.ga K) "_law_cell_at" 1 2 f_law_cell_at := fun base => Callee.of F_law_cell_at (He.glo_ok X G (c.fact 4 (f := .glo "_law_cell_at") rfl)) sc_law_cell_at (bo_law_cell_at h_len) fun _ _ _ _ _ _ us hl => match us, hl with | [_, _], _ => rfl
  obtain ⟨fd_law_parts_of, F_law_parts_of⟩ := c.def_ 6 (d := d_law_parts_of) rfl
  have c_law_parts_of : ∀ base : Heap, Callee P w K mg base (He.ga K) "_law_parts_of" 4 1 f_law_parts_of := fun base => Callee.of F_law_parts_of (He.glo_ok X G (c.fact 5 (f := .glo "_law_parts_of") rfl)) sc_law_parts_of (bo_law_parts_of h_len fi_law_step (m_law_step base) (c_law_cell_at base) (c_law_kinds_of base) gf_law_step) fun _ _ _ _ _ _ us hl => match us, hl with | [_], _ => rfl
  obtain ⟨fd_law_rows_of, F_law_rows_of⟩ := c.def_ 7 (d := d_law_rows_of) rfl
  have c_law_rows_of : ∀ base : Heap, Callee P w K mg base (He.ga K) "_law_rows_of" 1 1 f_law_rows_of := fun base => Callee.of F_law_rows_of (He.glo_ok X G (c.fact 6 (f := .glo "_law_rows_of") rfl)) sc_law_rows_of (bo_law_rows_of h_str) fun _ _ _ _ _ _ us hl => match us, hl with | [_], _ => rfl
  obtain ⟨fd_law_no_work, F_law_no_work⟩ := c.def_ 8 (d := d_law_no_work) rfl
  have c_law_no_work : ∀ base : Heap, Callee P w K mg base (He.ga K) "_law_no_work" 2 2 f_law_no_work := fun base => Callee.of F_law_no_work (He.glo_ok X G (c.fact 7 (f := .glo "_law_no_work") rfl)) sc_law_no_work (bo_law_no_work h_len (c_law_rows_of base)) fun _ _ _ _ _ _ us hl => match us, hl with | [_, _], _ => rfl
  obtain ⟨fd_law_sign_by, F_law_sign_by⟩ := c.def_ 9 (d := d_law_sign_by) rfl
  have c_law_sign_by : ∀ base : Heap, Callee P w K mg base (He.ga K) "_law_sign_by" 1 1 f_law_sign_by := fun base => Callee.of F_law_sign_by (He.glo_ok X G (c.fact 8 (f := .glo "_law_sign_by") rfl)) sc_law_sign_by (bo_law_sign_by ) fun _ _ _ _ _ _ us hl => match us, hl with | [_], _ => rfl
  obtain ⟨fd_law_no_number, F_law_no_number⟩ := c.def_ 10 (d := d_law_no_number) rfl
  have c_law_no_number : ∀ base : Heap, Callee P w K mg base (He.ga K) "_law_no_number" 2 2 f_law_no_number := fun base => Callee.of F_law_no_number (He.glo_ok X G (c.fact 9 (f := .glo "_law_no_number") rfl)) sc_law_no_number (bo_law_no_number h_len (c_law_sign_by base)) fun _ _ _ _ _ _ us hl => match us, hl with | [_, _], _ => rfl
  obtain ⟨fd_law_beyond, F_law_beyond⟩ := c.def_ 11 (d := d_law_beyond) rfl
  have c_law_beyond : ∀ base : Heap, Callee P w K mg base (He.ga K) "_law_beyond" 1 2 f_law_beyond := fun base => Callee.of F_law_beyond (He.glo_ok X G (c.fact 10 (f := .glo "_law_beyond") rfl)) sc_law_beyond (bo_law_beyond h_str) fun _ _ _ _ _ _ us hl => match us, hl with | [_, _], _ => rfl
  obtain ⟨fd_law_spoilt, F_law_spoilt⟩ := c.def_ 12 (d := d_law_spoilt) rfl
  have c_law_spoilt : ∀ base : Heap, Callee P w K mg base (He.ga K) "_law_spoilt" 3 2 f_law_spoilt := fun base => Callee.of F_law_spoilt (He.glo_ok X G (c.fact 11 (f := .glo "_law_spoilt") rfl)) sc_law_spoilt (bo_law_spoilt h_len h_range h_str (c_law_no_number base) (c_law_beyond base)) fun _ _ _ _ _ _ us hl => match us, hl with | [_, _], _ => rfl
  obtain ⟨fd_law_bad_rows, F_law_bad_rows⟩ := c.def_ 13 (d := d_law_bad_rows) rfl
  have c_law_bad_rows : ∀ base : Heap, Callee P w K mg base (He.ga K) "_law_bad_rows" 4 4 f_law_bad_rows := fun base => Callee.of F_law_bad_rows (He.glo_ok X G (c.fact 12 (f := .glo "_law_bad_rows") rfl)) sc_law_bad_rows (bo_law_bad_rows h_len h_list (c_law_spoilt base)) fun _ _ _ _ _ _ us hl => match us, hl with | [_, _, _, _], _ => rfl
  obtain ⟨fd_law_told, F_law_told⟩ := c.def_ 14 (d := d_law_told) rfl
  have c_law_told : ∀ base : Heap, Callee P w K mg base (He.ga K) "_law_told" 1 2 f_law_told := fun base => Callee.of F_law_told (He.glo_ok X G (c.fact 13 (f := .glo "_law_told") rfl)) sc_law_told (bo_law_told h_ValueError h_bool h_int h_isinstance fi_BadRow g_WorkError is_WorkError is_ValueError g_NoRatio g_BadBelt g_BadKnot g_TooLong g_BadPaces g_TooMany g_Moving is_all_but_BadWork_BadRow g_BadWork is_BadWork g_BadRow is_BadRow xl_BadRow) fun _ _ _ _ _ _ us hl => match us, hl with | [_, _], _ => rfl
  obtain ⟨fd_number_from, F_number_from⟩ := c.def_ 15 (d := d_number_from) rfl
  have c_number_from : ∀ base : Heap, Callee P w K mg base (He.ga K) "number_from" 1 1 f_number_from := fun base => Callee.of F_number_from (He.glo_ok X G (c.fact 14 (f := .glo "number_from") rfl)) sc_number_from (bo_number_from h_int h_len g_FIGURES g_MOST_FIGURES) fun _ _ _ _ _ _ us hl => match us, hl with | [_], _ => rfl
  obtain ⟨fd_numbers_of, F_numbers_of⟩ := c.def_ 16 (d := d_numbers_of) rfl
  have c_numbers_of : ∀ base : Heap, Callee P w K mg base (He.ga K) "numbers_of" 2 1 f_numbers_of := fun base => Callee.of F_numbers_of (He.glo_ok X G (c.fact 15 (f := .glo "numbers_of") rfl)) sc_numbers_of (bo_numbers_of (c_number_from base)) fun _ _ _ _ _ _ us hl => match us, hl with | [_], _ => rfl
  obtain ⟨fd_Belt_init, F_Belt_init⟩ := c.def_ 17 (d := d_Belt_init) rfl
  have m_Belt : ∀ base : Heap, CalleeMN P w K mg base (He.ga K) (He.ma K (He.ga K "Belt") "__init__") 1 3 f_Belt_init := fun base => CalleeMN.of F_Belt_init sc_Belt_init (bo_Belt_init x_BadBelt fl_room fl_pace) fun _ _ _ _ _ _ us hl => match us, hl with | [_, _, _], _ => rfl
  obtain ⟨fd_belt_of, F_belt_of⟩ := c.def_ 18 (d := d_belt_of) rfl
  have c_belt_of : ∀ base : Heap, CalleeN P w K mg base (He.ga K) "belt_of" 3 1 f_belt_of := fun base => CalleeN.of F_belt_of (He.glo_ok X G (c.fact 16 (f := .glo "belt_of") rfl)) sc_belt_of (bo_belt_of h_len fi_Belt (m_Belt base) x_BadBelt g_Belt k_Belt) fun _ _ _ _ _ _ us hl => match us, hl with | [_], _ => rfl
  obtain ⟨fd_is_kind, F_is_kind⟩ := c.def_ 19 (d := d_is_kind) rfl
  have c_is_kind : ∀ base : Heap, CalleeN P w K mg base (He.ga K) "is_kind" 1 1 f_is_kind := fun base => CalleeN.of F_is_kind (He.glo_ok X G (c.fact 17 (f := .glo "is_kind") rfl)) sc_is_kind (bo_is_kind ) fun _ _ _ _ _ _ us hl => match us, hl with | [_], _ => rfl
  obtain ⟨fd_Knot_init, F_Knot_init⟩ := c.def_ 20 (d := d_Knot_init) rfl
  have m_Knot : ∀ base : Heap, CalleeMN P w K mg base (He.ga K) (He.ma K (He.ga K "Knot") "__init__") 1 3 f_Knot_init := fun base => CalleeMN.of F_Knot_init sc_Knot_init (bo_Knot_init h_list fl_ins fl_outs) fun _ _ _ _ _ _ us hl => match us, hl with | [_, _, _], _ => rfl
  obtain ⟨fd_Source_init, F_Source_init⟩ := c.def_ 21 (d := d_Source_init) rfl
  have m_Source : ∀ base : Heap, CalleeMN P w K mg base (He.ga K) (He.ma K (He.ga K "Source") "__init__") 3 4 f_Source_init := fun base => CalleeMN.of F_Source_init sc_Source_init (bo_Source_init h_len h_list fi_Knot (c_is_kind base) (m_Knot base) x_BadKnot g_Knot b_Knot fl_pace fl_kinds) fun _ _ _ _ _ _ us hl => match us, hl with | [_, _, _, _], _ => rfl
  obtain ⟨fd_Drain_init, F_Drain_init⟩ := c.def_ 22 (d := d_Drain_init) rfl
  have m_Drain : ∀ base : Heap, CalleeMN P w K mg base (He.ga K) (He.ma K (He.ga K "Drain") "__init__") 3 3 f_Drain_init := fun base => CalleeMN.of F_Drain_init sc_Drain_init (bo_Drain_init fi_Knot (m_Knot base) x_BadKnot g_Knot b_Knot fl_pace) fun _ _ _ _ _ _ us hl => match us, hl with | [_, _, _], _ => rfl
  obtain ⟨fd_Parter_init, F_Parter_init⟩ := c.def_ 23 (d := d_Parter_init) rfl
  have m_Parter : ∀ base : Heap, CalleeMN P w K mg base (He.ga K) (He.ma K (He.ga K "Parter") "__init__") 3 3 f_Parter_init := fun base => CalleeMN.of F_Parter_init sc_Parter_init (bo_Parter_init h_len fi_Knot (m_Knot base) x_BadKnot g_Knot b_Knot) fun _ _ _ _ _ _ us hl => match us, hl with | [_, _, _], _ => rfl
  obtain ⟨fd_FirstParter_init, F_FirstParter_init⟩ := c.def_ 24 (d := d_FirstParter_init) rfl
  have m_FirstParter : ∀ base : Heap, CalleeMN P w K mg base (He.ga K) (He.ma K (He.ga K "FirstParter") "__init__") 3 3 f_FirstParter_init := fun base => CalleeMN.of F_FirstParter_init sc_FirstParter_init (bo_FirstParter_init h_len fi_Knot (m_Knot base) x_BadKnot g_Knot b_Knot) fun _ _ _ _ _ _ us hl => match us, hl with | [_, _, _], _ => rfl
  obtain ⟨fd_Sieve_init, F_Sieve_init⟩ := c.def_ 25 (d := d_Sieve_init) rfl
  have m_Sieve : ∀ base : Heap, CalleeMN P w K mg base (He.ga K) (He.ma K (He.ga K "Sieve") "__init__") 3 4 f_Sieve_init := fun base => CalleeMN.of F_Sieve_init sc_Sieve_init (bo_Sieve_init h_len fi_Knot (c_is_kind base) (m_Knot base) x_BadKnot g_Knot b_Knot fl_kind) fun _ _ _ _ _ _ us hl => match us, hl with | [_, _, _, _], _ => rfl
  obtain ⟨fd_Joiner_init, F_Joiner_init⟩ := c.def_ 26 (d := d_Joiner_init) rfl
  have m_Joiner : ∀ base : Heap, CalleeMN P w K mg base (He.ga K) (He.ma K (He.ga K "Joiner") "__init__") 3 3 f_Joiner_init := fun base => CalleeMN.of F_Joiner_init sc_Joiner_init (bo_Joiner_init h_len fi_Knot (m_Knot base) x_BadKnot g_Knot b_Knot) fun _ _ _ _ _ _ us hl => match us, hl with | [_, _, _], _ => rfl
  obtain ⟨fd_knot_of, F_knot_of⟩ := c.def_ 27 (d := d_knot_of) rfl
  have c_knot_of : ∀ base : Heap, CalleeN P w K mg base (He.ga K) "knot_of" 5 2 f_knot_of := fun base => CalleeN.of F_knot_of (He.glo_ok X G (c.fact 18 (f := .glo "knot_of") rfl)) sc_knot_of (bo_knot_of h_len fi_Source fi_Drain fi_Parter fi_FirstParter fi_Sieve fi_Joiner (m_Source base) (m_Drain base) (m_Parter base) (m_FirstParter base) (m_Sieve base) (m_Joiner base) g_Source k_Source g_Drain k_Drain g_Parter k_Parter g_FirstParter k_FirstParter g_Sieve k_Sieve g_Joiner k_Joiner x_BadKnot) fun _ _ _ _ _ _ us hl => match us, hl with | [_, _], _ => rfl
  obtain ⟨fd_part_of, F_part_of⟩ := c.def_ 28 (d := d_part_of) rfl
  have c_part_of : ∀ base : Heap, Callee P w K mg base (He.ga K) "part_of" 6 3 f_part_of := fun base => Callee.of F_part_of (He.glo_ok X G (c.fact 19 (f := .glo "part_of") rfl)) sc_part_of (bo_part_of fi_BadRow (c_numbers_of base) (c_belt_of base) (c_knot_of base) g_BadRow g_WorkError xl_BadRow (cL_BadRow base) (cLH_BadRow base) g_BadBelt g_BadKnot t2_BadBelt_BadKnot) fun _ _ _ _ _ _ us hl => match us, hl with | [_, _, _], _ => rfl
  obtain ⟨fd_stand_once, F_stand_once⟩ := c.def_ 29 (d := d_stand_once) rfl
  have c_stand_once : ∀ base : Heap, Callee P w K mg base (He.ga K) "stand_once" 1 2 f_stand_once := fun base => Callee.of F_stand_once (He.glo_ok X G (c.fact 20 (f := .glo "stand_once") rfl)) sc_stand_once (bo_stand_once h_list h_range h_sorted) fun _ _ _ _ _ _ us hl => match us, hl with | [_, _], _ => rfl
  obtain ⟨fd_Work_init, F_Work_init⟩ := c.def_ 30 (d := d_Work_init) rfl
  have m_Work : ∀ base : Heap, CalleeM P w K mg base (He.ga K) (He.ma K (He.ga K "Work") "__init__") 2 3 f_Work_init := fun base => CalleeM.of F_Work_init sc_Work_init (bo_Work_init h_len h_list (c_stand_once base) x_BadWork fl_outs fl_ins fl_belts fl_knots) fun _ _ _ _ _ _ us hl => match us, hl with | [_, _, _], _ => rfl
  obtain ⟨fd_read_work, F_read_work⟩ := c.def_ 31 (d := d_read_work) rfl
  have c_read_work : ∀ base : Heap, Callee P w K mg base (He.ga K) "read_work" 7 1 f_read_work := fun base => Callee.of F_read_work (He.glo_ok X G (c.fact 21 (f := .glo "read_work") rfl)) sc_read_work (bo_read_work h_enumerate h_isinstance h_len fi_Work (c_part_of base) (m_Work base) g_Belt is_Belt g_Work k_Work) fun _ _ _ _ _ _ us hl => match us, hl with | [_], _ => rfl
  obtain ⟨fd_law_caught, F_law_caught⟩ := c.def_ 32 (d := d_law_caught) rfl
  have c_law_caught : ∀ base : Heap, Callee P w K mg base (He.ga K) "_law_caught" 8 1 f_law_caught := fun base => Callee.of F_law_caught (He.glo_ok X G (c.fact 22 (f := .glo "_law_caught") rfl)) sc_law_caught (bo_law_caught (c_read_work base) g_WorkError t_WorkError) fun _ _ _ _ _ _ us hl => match us, hl with | [_], _ => rfl
  obtain ⟨fd, F⟩ := c.def_ 33 (d := d_law) rfl
  have e := hg.symm.trans (He.glo_ok X G (c.fact 23 (f := .glo "law") rfl))
  cases e
  have b := FunD.bindsA (ps := ["_law_script"]) F fun _ _ _ _ _ _ us hl => match us, hl with | [_], _ => rfl
  exact ⟨fd, fun s u => b s [u] rfl, fun base _ _ => fn_pure F sc_law (bo_law h_isinstance h_len (c_law_parts_of base) (c_law_rows_of base) (c_law_cell_at base) (c_law_no_work base) (c_law_bad_rows base) (c_law_told base) (c_law_caught base) (c_read_work base) g_Work is_Work fl_belts)⟩
end K16
namespace K16
open PySem L2 B
theorem cell_eq (ns : List Int) (k : Nat) : ∃ c : Int, f_law_cell_at [intsL ns, .int k] = .ok (sh (.int c)) := by
  by_cases h : k < ns.length
  · have a := at_ints ns k ns[k] (List.getElem?_eq_getElem h)
    have hl : (ns.map D.int).length = ns.length := by simp
    have h' : (k : Int) < (ns.length : Int) := by omega
    refine ⟨ns[k], ?_⟩
    simp only [intsL] at *
    generalize ns[k] = x at *
    rw [← hl] at h h'
    generalize ns.map D.int = ND at *
    simp [f_law_cell_at, runF, b_law_cell_at, rho0, h, a]
  · have hl : (ns.map D.int).length = ns.length := by simp
    have h' : ¬ (k : Int) < (ns.length : Int) := by omega
    refine ⟨0, ?_⟩
    simp only [intsL] at *
    rw [← hl] at h h'
    generalize ns.map D.int = ND at *
    simp [f_law_cell_at, runF, b_law_cell_at, rho0, h]
def kOk (k : Int) : Bool := decide (0 ≤ k) && decide (k < 10 ^ 30)
abbrev bD (b : Int × Int) : D := .tup [.int b.1, .int b.2]
def bOk (b : Int × Int) : Prop := (1 ≤ b.1 ∧ b.1 ≤ 6) ∧ 1 ≤ b.2 ∧ b.2 ≤ 4
/-! kinds -/
theorem then_seq2 (r : RS) (B L : SF) : r.then (sSeq B L) = (r.then B).then L := by
  cases r with
  | ok f ρ => cases f <;> rfl
  | _ => rfl
theorem kinds_turn (c : Int) (k : Nat) (hk : k ≤ 100) (ks : List Int) (hl : ks.length ≤ 100) (s3 s4 s2 : B.Slot) : ∃ (y : Int) (t3 t4 : B.Slot), kOk y = true ∧
    fTurn (gN 2) l1_law_kinds_of (.int k) [some (0, .int c), some (1, intsL ks), s2, s3, s4] = .inl [some (0, .int c), some (1, intsL (ks ++ [y])), some (0, .int k), t3, t4] := by
  have d18 : divOk 18 := divOk_s (by decide) (by decide)
  have d5 : divOk 5 := divOk_s (by decide) (by decide)
  have d36 : divOk 36 := divOk_s (by decide) (by decide)
  have d144 : divOk 144 := divOk_s (by decide) (by decide)
  have d2 : divOk 2 := divOk_s (by decide) (by decide)
  have pw : powOk 10 30 := powOk_s (by decide) (by decide) (by decide)
  have dp : divOk (1000000000000000000000000000000 : Int) := divOk_w 100 (by decide) (by decide) (by decide) (by decide)
  have m1 : ∀ x : Int, mulOk x 48271 := fun x => mulOk_r (by decide)
  have kl : (ks.map D.int).length < 10000 := by simp; omega
  obtain ⟨v, hv, g1⟩ : ∃ v : Int, v.natAbs < 1000 ∧ ∀ _ : SF, ((sSet 3 (eS (eV 2))) [some (0, .int c), some (1, intsL ks), some (0, .int k), s3, s4]).then (sIf (tV (eO2 eqV (eOp modD (eOp fdivD (eV 0) (eC (.int 18))) (eC (.int 2))) (eC (.int 1)))) (sSet 3 (eS (eOp fdivD (eV 2) (eC (.int 2))))) (sNil)) = .ok .nx [some (0, .int c), some (1, intsL ks), some (0, .int k), some (0, .int v), s4] := by
    simp only [intsL]
    generalize ks.map D.int = KD at *
    by_cases h1 : c / 18 % 2 = 1
    · exact ⟨(k : Int) / 2, by omega, by simp [d18, d2, h1]⟩
    · exact ⟨(k : Int), by omega, by simp [d18, d2, h1]⟩
  have mv : mulOk v v := mulOk_r (by omega)
  have key : ∃ y, kOk y = true ∧ ∃ t4, (sSeq (sSet 4 (eS (eOp modD (eO2 mulV (eO2 addV (eO2 addV (eOp fdivD (eV 0) (eC (.int 5))) (eO2 mulV (eV 3) (eV 3))) (eV 3)) (eC (.int 48271))) (eOp powD (eC (.int 10)) (eC (.int 30)))))) (sSeq (sIf (tAndF (tV (eO2 eqV (eOp modD (eOp fdivD (eV 0) (eC (.int 36))) (eC (.int 4))) (eC (.int 1)))) (tV (eO2 eqV (eV 2) (eOp modD (eOp fdivD (eV 0) (eC (.int 144))) (eC (.int 6)))))) (sSet 4 (eS (eOp subD (eOp powD (eC (.int 10)) (eC (.int 30))) (eC (.int 1))))) (sNil)) (sMtP appL (pN 1) (eV 4)))) [some (0, .int c), some (1, intsL ks), some (0, .int k), some (0, .int v), s4] = .ok .nx [some (0, .int c), some (1, intsL (ks ++ [y])), some (0, .int k), some (0, .int v), t4] := by
    simp only [intsL, List.map_append, List.map_singleton]
    generalize ks.map D.int = KD at *
    by_cases h2 : c / 36 % 4 = 1
    · generalize hz : c / 144 % 6 = z
      by_cases h3 : z = (k : Int)
      · subst h3
        exact ⟨999999999999999999999999999999, by decide, _, by simp [d5, d36, d144, pw, dp, m1, mv, kl, h2, hz, appL]; rfl⟩
      · have h3' : ¬ (k : Int) = z := fun e => h3 e.symm
        exact ⟨(c / 5 + v * v + v) * 48271 % 1000000000000000000000000000000, by simp [kOk]; omega, _, by simp [d5, d36, d144, pw, dp, m1, mv, kl, h2, hz, h3, h3', appL]; rfl⟩
    · exact ⟨(c / 5 + v * v + v) * 48271 % 1000000000000000000000000000000, by simp [kOk]; omega, _, by simp [d5, d36, d144, pw, dp, m1, mv, kl, h2, appL]; rfl⟩
  obtain ⟨y, hy, t4, e⟩ := key
  refine ⟨y, some (0, .int v), t4, hy, ?_⟩
  unfold fTurn
  rw [gN_eq]
  simp only [List.set_cons_succ, List.set_cons_zero]
  have g := g1 sNil
  rw [l1_law_kinds_of, sSeq_eq, then_seq2, g, RS.then_nx, e]
theorem kinds_loop (c : Int) : ∀ (n k : Nat) (ks : List Int) (s2 s3 s4 : B.Slot), k + n ≤ 50 → ks.length + n ≤ 50 → ks.all kOk = true → ∃ (ys : List Int) (t2 t3 t4 : B.Slot), ys.all kOk = true ∧ ys.length = ks.length + n ∧
    sItems (gN 2) l1_law_kinds_of (rng k n) [some (0, .int c), some (1, intsL ks), s2, s3, s4] = .ok .nx [some (0, .int c), some (1, intsL ys), t2, t3, t4] := by
  intro n
  induction n with
  | zero => intro k ks s2 s3 s4 _ _ h; exact ⟨ks, s2, s3, s4, h, rfl, rfl⟩
  | succ n ih =>
    intro k ks s2 s3 s4 h1 h2 h
    obtain ⟨y, t3, t4, hy, ht⟩ := kinds_turn c k (by omega) ks (by omega) s3 s4 s2
    obtain ⟨ys, u2, u3, u4, q1, q2, e⟩ := ih (k + 1) (ks ++ [y]) (some (0, .int k)) t3 t4 (by omega) (by simp; omega) (by rw [List.all_append, h]; simp [hy])
    refine ⟨ys, u2, u3, u4, q1, by rw [q2]; simp; omega, ?_⟩
    rw [rng_succ, sItems_inl ht, show (k : Int) + 1 = ((k + 1 : Nat) : Int) by omega]
    exact e
theorem kinds_eq (c : Int) : ∃ ys : List Int, ys.all kOk = true ∧ 1 ≤ ys.length ∧ ys.length ≤ 6 ∧ f_law_kinds_of [.int c] = .ok ⟨false, 1, intsL ys⟩ := by
  obtain ⟨n, hn⟩ : ∃ n : Nat, 1 + c / 3 % 6 = n := ⟨(1 + c / 3 % 6).toNat, by omega⟩
  obtain ⟨ys, t2, t3, t4, q1, q2, e⟩ := kinds_loop c n 0 [] none none none (by omega) (by simp; omega) rfl
  have d3 : divOk 3 := divOk_s (by decide) (by decide)
  have sm : small62 (n : Int) := small_of (by omega) (by omega)
  rw [List.length_nil] at q2
  refine ⟨ys, q1, by omega, by omega, ?_⟩
  replace e : sItems (gN 2) l1_law_kinds_of (rng 0 n) [some (0, .int c), some (1, .lst []), none, none, none] = _ := e
  simp only [intsL] at *
  generalize ys.map D.int = YD at *
  simp [f_law_kinds_of, runF, b_law_kinds_of, rho0, d3, hn, sm]
  rw [e]
  simp
/-! rows -/
inductive Wd where | source | drain | parter | first | sieve | joiner
  deriving DecidableEq
def Wd.s : Wd → Str
  | .source => "source"
  | .drain => "drain"
  | .parter => "parter"
  | .first => "first"
  | .sieve => "sieve"
  | .joiner => "joiner"
structure Row where
  w : Wd
  i : List Int
  o : List Int
  p : Int
  k : List Int
def Row.nums (r : Row) : List Int := match r.w with
  | .source => r.p :: r.k
  | .drain => [r.p]
  | .sieve => r.k
  | _ => []
abbrev Row.d (r : Row) : D := .tup [.str r.w.s, intsL r.i, intsL r.o, intsL r.nums]
def Row.Sh (w : Wd) (i o : List Int) : Prop := match w with
  | .source => i = [] ∧ o.length = 1
  | .drain => i.length = 1 ∧ o = []
  | .parter => i.length = 1 ∧ 2 ≤ o.length ∧ o.length ≤ 4
  | .first => i.length = 1 ∧ 2 ≤ o.length ∧ o.length ≤ 4
  | .sieve => i.length = 1 ∧ o.length = 2
  | .joiner => (2 ≤ i.length ∧ i.length ≤ 4) ∧ o.length = 1
structure Row.Ok (r : Row) : Prop where
  sh : Row.Sh r.w r.i r.o
  p : 0 ≤ r.p ∧ r.p ≤ 4
  p1 : r.w ≠ .drain → 1 ≤ r.p
  k : r.k.all kOk = true
  ks : r.w = .source → 1 ≤ r.k.length ∧ r.k.length ≤ 6
  kv : r.w = .sieve → r.k.length = 1
  ko : r.w ≠ .source → r.w ≠ .sieve → r.k = []
@[simp] theorem nq_source_drain : (("source" : Str) = ("drain" : Str)) = False := by decide
@[simp] theorem nq_source_parter : (("source" : Str) = ("parter" : Str)) = False := by decide
@[simp] theorem nq_source_first : (("source" : Str) = ("first" : Str)) = False := by decide
@[simp] theorem nq_source_sieve : (("source" : Str) = ("sieve" : Str)) = False := by decide
@[simp] theorem nq_source_joiner : (("source" : Str) = ("joiner" : Str)) = False := by decide
@[simp] theorem nq_drain_source : (("drain" : Str) = ("source" : Str)) = False := by decide
@[simp] theorem nq_drain_parter : (("drain" : Str) = ("parter" : Str)) = False := by decide
@[simp] theorem nq_drain_first : (("drain" : Str) = ("first" : Str)) = False := by decide
@[simp] theorem nq_drain_sieve : (("drain" : Str) = ("sieve" : Str)) = False := by decide
@[simp] theorem nq_drain_joiner : (("drain" : Str) = ("joiner" : Str)) = False := by decide
@[simp] theorem nq_parter_source : (("parter" : Str) = ("source" : Str)) = False := by decide
@[simp] theorem nq_parter_drain : (("parter" : Str) = ("drain" : Str)) = False := by decide
@[simp] theorem nq_parter_first : (("parter" : Str) = ("first" : Str)) = False := by decide
@[simp] theorem nq_parter_sieve : (("parter" : Str) = ("sieve" : Str)) = False := by decide
@[simp] theorem nq_parter_joiner : (("parter" : Str) = ("joiner" : Str)) = False := by decide
@[simp] theorem nq_first_source : (("first" : Str) = ("source" : Str)) = False := by decide
@[simp] theorem nq_first_drain : (("first" : Str) = ("drain" : Str)) = False := by decide
@[simp] theorem nq_first_parter : (("first" : Str) = ("parter" : Str)) = False := by decide
@[simp] theorem nq_first_sieve : (("first" : Str) = ("sieve" : Str)) = False := by decide
@[simp] theorem nq_first_joiner : (("first" : Str) = ("joiner" : Str)) = False := by decide
@[simp] theorem nq_sieve_source : (("sieve" : Str) = ("source" : Str)) = False := by decide
@[simp] theorem nq_sieve_drain : (("sieve" : Str) = ("drain" : Str)) = False := by decide
@[simp] theorem nq_sieve_parter : (("sieve" : Str) = ("parter" : Str)) = False := by decide
@[simp] theorem nq_sieve_first : (("sieve" : Str) = ("first" : Str)) = False := by decide
@[simp] theorem nq_sieve_joiner : (("sieve" : Str) = ("joiner" : Str)) = False := by decide
@[simp] theorem nq_joiner_source : (("joiner" : Str) = ("source" : Str)) = False := by decide
@[simp] theorem nq_joiner_drain : (("joiner" : Str) = ("drain" : Str)) = False := by decide
@[simp] theorem nq_joiner_parter : (("joiner" : Str) = ("parter" : Str)) = False := by decide
@[simp] theorem nq_joiner_first : (("joiner" : Str) = ("first" : Str)) = False := by decide
@[simp] theorem nq_joiner_sieve : (("joiner" : Str) = ("sieve" : Str)) = False := by decide
def rgI (n : Nat) : List Int := (List.range n).map fun (i : Nat) => (i : Int)
theorem rgI_succ (n : Nat) : rgI (n + 1) = rgI n ++ [(n : Int)] := by
  unfold rgI
  rw [List.range_succ, List.map_append]; rfl
theorem rgI_len (n : Nat) : (rgI n).length = n := by unfold rgI; simp
abbrev bsD (bs : List (Int × Int)) : D := .lst (bs.map bD)
structure Inv (F G os ends backs : List Int) (belts : List (Int × Int)) : Prop where
  o : (F ++ (os ++ backs)).Perm (rgI belts.length)
  i : (G ++ ends).Perm (rgI belts.length)
  b : ∀ b ∈ belts, bOk b
theorem Inv.lo {F G os ends backs : List Int} {belts : List (Int × Int)} (h : Inv F G os ends backs belts) : F.length + (os.length + backs.length) = belts.length := by
  have := h.o.length_eq
  rw [List.length_append, List.length_append, rgI_len] at this
  exact this
theorem Inv.li {F G os ends backs : List Int} {belts : List (Int × Int)} (h : Inv F G os ends backs belts) : G.length + ends.length = belts.length := by
  have := h.i.length_eq
  rw [List.length_append, rgI_len] at this
  exact this
theorem Inv.pop {F G os ends bs : List Int} {belts : List (Int × Int)} {b : Int} (h : Inv F G os ends (bs ++ [b]) belts) : Inv F G (os ++ [b]) ends bs belts := by
  refine ⟨?_, h.i, h.b⟩
  refine List.Perm.trans (List.Perm.append_left F ?_) h.o
  rw [List.append_assoc]
  exact List.Perm.append_left os List.perm_append_comm
theorem Inv.new {F G os ends backs : List Int} {belts : List (Int × Int)} {b : Int × Int} (h : Inv F G os ends backs belts) (hb : bOk b) : Inv F G (os ++ [(belts.length : Int)]) (ends ++ [(belts.length : Int)]) backs (belts ++ [b]) := by
  refine ⟨?_, ?_, fun x hx => ?_⟩
  · rw [List.length_append, List.length_singleton, rgI_succ]
    have h1 : (F ++ (os ++ [(belts.length : Int)] ++ backs)).Perm ((F ++ (os ++ backs)) ++ [(belts.length : Int)]) := by
      rw [List.append_assoc, List.append_assoc, List.append_assoc]
      exact List.Perm.append_left F (List.Perm.append_left os List.perm_append_comm)
    exact h1.trans (h.o.append_right _)
  · rw [List.length_append, List.length_singleton, rgI_succ, ← List.append_assoc]
    exact h.i.append_right _
  · rcases List.mem_append.mp hx with hx | hx
    · exact h.b x hx
    · rw [List.mem_singleton.mp hx]; exact hb
theorem Inv.perm {F G os os' ends backs : List Int} {belts : List (Int × Int)} (h : Inv F G os ends backs belts) (p : os'.Perm os) : Inv F G os' ends backs belts :=
  ⟨(List.Perm.append_left F (p.append_right backs)).trans h.o, h.i, h.b⟩
theorem erase_perm : ∀ (xs : List Int) (m : Nat) (h : m < xs.length), (xs[m] :: xs.eraseIdx m).Perm xs
  | x :: xs, 0, _ => List.Perm.refl _
  | x :: xs, m + 1, h => by
    have ih := erase_perm xs m (by simpa using h)
    exact (List.Perm.swap x _ _).trans (ih.cons x)
theorem erase_map : ∀ (xs : List Int) (m : Nat), (xs.map D.int).eraseIdx m = (xs.eraseIdx m).map .int
  | [], m => by simp
  | x :: xs, 0 => rfl
  | x :: xs, m + 1 => by
    have ih := erase_map xs m
    rw [List.map_cons, List.eraseIdx_cons_succ, List.eraseIdx_cons_succ, List.map_cons, ih]
theorem Inv.popE {F G os ends backs : List Int} {belts : List (Int × Int)} (h : Inv F G os ends backs belts) {m : Nat} (hm : m < ends.length) : Inv F (G ++ [ends[m]]) os (ends.eraseIdx m) backs belts := by
  refine ⟨h.o, ?_, h.b⟩
  refine List.Perm.trans ?_ h.i
  rw [List.append_assoc]
  exact List.Perm.append_left G (erase_perm ends m hm)
theorem pop_at (ends : List Int) (hp : 0 < ends.length) (x : Int) : ∃ m, ∃ hm : m < ends.length, ixN ends.length (x % (ends.length : Int)) = some m ∧ (ends.map D.int)[m]? = some (.int ends[m]) ∧ (ends.map D.int).eraseIdx m = (ends.eraseIdx m).map .int := by
  obtain ⟨m, hm⟩ : ∃ m : Nat, x % (ends.length : Int) = m := ⟨(x % (ends.length : Int)).toNat, by
    have := Int.emod_nonneg x (show (ends.length : Int) ≠ 0 by omega); omega⟩
  have hml : m < ends.length := by have := Int.emod_lt_of_pos x (show (0 : Int) < ends.length by omega); omega
  refine ⟨m, hml, by rw [hm]; exact ixN_nat hml, by rw [List.getElem?_map, List.getElem?_eq_getElem hml]; rfl, ?_⟩
  exact erase_map ends m
def Fo (rs : List Row) : List Int := (rs.map Row.o).flatten
def Gi (rs : List Row) : List Int := (rs.map Row.i).flatten
abbrev rsD (rs : List Row) : D := .lst (rs.map Row.d)
structure Web (rs : List Row) (ends backs : List Int) (belts : List (Int × Int)) : Prop where
  v : Inv (Fo rs) (Gi rs) [] ends backs belts
  r : ∀ r ∈ rs, r.Ok
  n : rs.length + ends.length + backs.length ≤ 24
  b : belts.length ≤ 24
  ne : 1 ≤ rs.length + ends.length
theorem Web.row {rs : List Row} {r : Row} {ends' backs' : List Int} {belts' : List (Int × Int)} (hr : ∀ r ∈ rs, r.Ok) (h : r.Ok) (v : Inv (Fo rs) (Gi rs ++ r.i) r.o ends' backs' belts') (hn : rs.length + 1 + ends'.length + backs'.length ≤ 24) (hb : belts'.length ≤ 24) : Web (rs ++ [r]) ends' backs' belts' := by
  have ef : Fo (rs ++ [r]) = Fo rs ++ r.o := by simp [Fo]
  have eg : Gi (rs ++ [r]) = Gi rs ++ r.i := by simp [Gi]
  refine ⟨⟨?_, ?_, v.b⟩, fun x hx => ?_, by rw [List.length_append, List.length_singleton]; exact hn, hb, by rw [List.length_append, List.length_singleton]; omega⟩
  · rw [ef, List.nil_append, List.append_assoc]; exact v.o
  · rw [eg]; exact v.i
  · rcases List.mem_append.mp hx with hx | hx
    · exact hr x hx
    · rw [List.mem_singleton.mp hx]; exact h
theorem Inv.popB {F G os ends bs : List Int} {belts : List (Int × Int)} (h : Inv F G os ends bs belts) {m : Nat} (hm : m < bs.length) : Inv F G (os ++ [bs[m]]) ends (bs.eraseIdx m) belts := by
  refine ⟨?_, h.i, h.b⟩
  refine List.Perm.trans (List.Perm.append_left F ?_) h.o
  rw [List.append_assoc]
  exact List.Perm.append_left os (erase_perm bs m hm)
theorem Inv.loop {F G ends bs : List Int} {belts : List (Int × Int)} {b : Int × Int} (h : Inv F G [] ends bs belts) (hb : bOk b) : Inv F (G ++ [(belts.length : Int)]) [] ends (bs ++ [(belts.length : Int)]) (belts ++ [b]) := by
  refine ⟨?_, ?_, fun x hx => ?_⟩
  · rw [List.length_append, List.length_singleton, rgI_succ, List.nil_append, ← List.append_assoc]
    have := h.o
    rw [List.nil_append] at this
    exact this.append_right _
  · rw [List.length_append, List.length_singleton, rgI_succ, List.append_assoc]
    refine (List.Perm.append_left G List.perm_append_comm).trans ?_
    rw [← List.append_assoc]
    exact h.i.append_right _
  · rcases List.mem_append.mp hx with hx | hx
    · exact h.b x hx
    · rw [List.mem_singleton.mp hx]; exact hb
/-! the outs -/
theorem oo_turn (c many : Int) (ends backs os : List Int) (belts : List (Int × Int)) (k : Nat) (hk : k ≤ 100) (l1 : ends.length ≤ 1000) (l2 : backs.length ≤ 1000) (l3 : os.length ≤ 1000) (l4 : belts.length ≤ 1000) (s6 : B.Slot) :
    (∃ m, ∃ hm : m < backs.length, fTurn (gN 6) l1_law_outs_of (.int k) [some (0, .int c), some (0, .int many), some (1, bsD belts), some (1, intsL ends), some (1, intsL backs), some (1, intsL os), s6] =
      .inl [some (0, .int c), some (0, .int many), some (1, bsD belts), some (1, intsL ends), some (1, intsL (backs.eraseIdx m)), some (1, intsL (os ++ [backs[m]])), some (0, .int k)]) ∨
    (∃ b, bOk b ∧ fTurn (gN 6) l1_law_outs_of (.int k) [some (0, .int c), some (0, .int many), some (1, bsD belts), some (1, intsL ends), some (1, intsL backs), some (1, intsL os), s6] =
      .inl [some (0, .int c), some (0, .int many), some (1, bsD (belts ++ [b])), some (1, intsL (ends ++ [(belts.length : Int)])), some (1, intsL backs), some (1, intsL (os ++ [(belts.length : Int)])), some (0, .int k)]) := by
  have d7 : divOk (7 + 2 * (k : Int)) := divOk_s (by omega) (by omega)
  have d11 : divOk (11 + 4 * (k : Int)) := divOk_s (by omega) (by omega)
  have d3 : divOk (3 + (k : Int)) := divOk_s (by omega) (by omega)
  have d5 : divOk 5 := divOk_s (by decide) (by decide)
  have m2 : mulOk 2 (k : Int) := mulOk_l (by decide)
  have m4 : mulOk 4 (k : Int) := mulOk_l (by decide)
  have a1 : (ends.map D.int).length < 10000 := by simp; omega
  have a3 : (os.map D.int).length < 10000 := by simp; omega
  have a4 : (belts.map bD).length < 10000 := by simp; omega
  have p7 : (0 : Int) < 7 + 2 * (k : Int) := by omega
  have p11 : (0 : Int) < 11 + 4 * (k : Int) := by omega
  have p3 : (0 : Int) < 3 + (k : Int) := by omega
  have bl : (belts.map bD).length = belts.length := by simp
  have kl : (backs.map D.int).length = backs.length := by simp
  by_cases h : 0 < backs.length ∧ c / (7 + 2 * (k : Int)) % 3 = 1
  · refine .inl ?_
    obtain ⟨hp, h3⟩ := h
    obtain ⟨m, hm, e1, e2, e3⟩ := pop_at backs hp (c / 5)
    refine ⟨m, hm, ?_⟩
    have hp' : (0 : Int) < (backs.length : Int) := by omega
    have hl1 : backs.length ≤ 10000 := by omega
    have db : divOk (backs.length : Int) := divOk_s (by omega) (by omega)
    simp only [intsL, List.map_append, List.map_singleton]
    rw [← e3]
    generalize backs[m] = x at *
    rw [← kl] at e1 hp hp' hl1 db
    generalize backs.map D.int = KD at *
    generalize os.map D.int = OD at *
    generalize ends.map D.int = ED at *
    generalize bsD belts = BD at *
    have hp2 : KD ≠ [] := fun z => by rw [z] at hp; cases hp
    simp [fTurn, l1_law_outs_of, d7, m2, p7, d5, db, h3, hp, hp', hp2, e1, e2, hl1, withL, lsOf, appL, a3]
  · refine .inr ⟨(1 + c / (11 + 4 * (k : Int)) % 6, 1 + c / (3 + (k : Int)) % 4), ⟨by dsimp only; omega, by dsimp only; omega⟩, ?_⟩
    simp only [intsL, bsD, List.map_append, List.map_singleton]
    rw [← bl]
    by_cases hp : 0 < backs.length
    · have h3 : ¬ c / (7 + 2 * (k : Int)) % 3 = 1 := fun z => h ⟨hp, z⟩
      have hp' : (0 : Int) < (backs.length : Int) := by omega
      rw [← kl] at hp hp'
      generalize backs.map D.int = KD at *
      generalize os.map D.int = OD at *
      generalize ends.map D.int = ED at *
      generalize belts.map bD = BD at *
      simp [fTurn, l1_law_outs_of, d7, d11, d3, m2, m4, p7, p11, p3, h3, hp, hp', withL, lsOf, appL, a1, a3, a4]
    · have hp0 : backs = [] := List.eq_nil_of_length_eq_zero (by omega)
      subst hp0
      generalize os.map D.int = OD at *
      generalize ends.map D.int = ED at *
      generalize belts.map bD = BD at *
      simp [fTurn, l1_law_outs_of, d7, d11, d3, m2, m4, p7, p11, p3, withL, lsOf, appL, a1, a3, a4]
theorem oo_loop (c many : Int) (F G : List Int) : ∀ (n lo : Nat) (ends backs os : List Int) (belts : List (Int × Int)) (s6 : B.Slot), lo + n ≤ 100 → belts.length + n ≤ 900 → Inv F G os ends backs belts → ∃ (ends' backs' os' : List Int) (belts' : List (Int × Int)) (t6 : B.Slot), Inv F G os' ends' backs' belts' ∧ os'.length = os.length + n ∧ belts'.length ≤ belts.length + n ∧ ends'.length + backs'.length ≤ ends.length + backs.length + n ∧
    sItems (gN 6) l1_law_outs_of (rng lo n) [some (0, .int c), some (0, .int many), some (1, bsD belts), some (1, intsL ends), some (1, intsL backs), some (1, intsL os), s6] =
      .ok .nx [some (0, .int c), some (0, .int many), some (1, bsD belts'), some (1, intsL ends'), some (1, intsL backs'), some (1, intsL os'), t6] := by
  intro n
  induction n with
  | zero => intro lo ends backs os belts s6 _ _ h; exact ⟨ends, backs, os, belts, s6, h, rfl, Nat.le_refl _, Nat.le_refl _, rfl⟩
  | succ n ih =>
    intro lo ends backs os belts s6 h1 h2 h
    have lo' := h.lo
    have li' := h.li
    have ec : (lo : Int) + 1 = ((lo + 1 : Nat) : Int) := by omega
    rcases oo_turn c many ends backs os belts lo (by omega) (by omega) (by omega) (by omega) (by omega) s6 with ⟨m, hm, ht⟩ | ⟨b, hb, ht⟩
    · have hel : (backs.eraseIdx m).length = backs.length - 1 := List.length_eraseIdx_of_lt hm
      obtain ⟨e', b', o', bl', t6, i', q1, q2, q3, e⟩ := ih (lo + 1) ends (backs.eraseIdx m) (os ++ [backs[m]]) belts (some (0, .int lo)) (by omega) (by omega) (h.popB hm)
      refine ⟨e', b', o', bl', t6, i', by rw [q1]; simp; omega, by omega, by omega, ?_⟩
      rw [rng_succ, sItems_inl ht, ec]; exact e
    · obtain ⟨e', b', o', bl', t6, i', q1, q2, q3, e⟩ := ih (lo + 1) (ends ++ [(belts.length : Int)]) backs (os ++ [(belts.length : Int)]) (belts ++ [b]) (some (0, .int lo)) (by omega) (by simp; omega) (h.new hb)
      refine ⟨e', b', o', bl', t6, i', by rw [q1]; simp; omega, by simp at q2; omega, ?_, ?_⟩
      · rw [List.length_append, List.length_singleton] at q3; omega
      · rw [rng_succ, sItems_inl ht, ec]; exact e
theorem oo_eq (c : Int) (F G ends backs : List Int) (belts : List (Int × Int)) (n : Nat) (hn : n ≤ 10) (hl : belts.length ≤ 800) (h : Inv F G [] ends backs belts) : ∃ (ends' backs' os : List Int) (belts' : List (Int × Int)), Inv F G os ends' backs' belts' ∧ os.length = n ∧ belts'.length ≤ belts.length + n ∧ ends'.length + backs'.length ≤ ends.length + backs.length + n ∧
    f_law_outs_of [(0, .int c), (0, .int n), (1, bsD belts), (1, intsL ends), (1, intsL backs)] = .ok ⟨false, 1, intsL os⟩ [none, none, some (1, bsD belts'), some (1, intsL ends'), some (1, intsL backs')] := by
  obtain ⟨e', b', o', bl', t6, i', q1, q2, q3, e⟩ := oo_loop c n F G n 0 ends backs [] belts none (by omega) (by omega) h
  have sm : small62 (n : Int) := small_of (by omega) (by omega)
  have d13 : divOk 13 := divOk_s (by decide) (by decide)
  simp only [List.length_nil, Nat.zero_add] at q1
  replace e : sItems (gN 6) l1_law_outs_of (rng 0 n) [some (0, .int c), some (0, .int n), some (1, bsD belts), some (1, intsL ends), some (1, intsL backs), some (1, .lst []), none] = _ := e
  by_cases h13 : c / 13 % 2 = 1
  · refine ⟨e', b', o'.reverse, bl', i'.perm (List.reverse_perm _), by rw [List.length_reverse]; exact q1, q2, q3, ?_⟩
    simp only [intsL, bsD, List.map_reverse] at e ⊢
    generalize o'.map D.int = OD at *
    simp [f_law_outs_of, runM, b_law_outs_of, rhoM, sm]
    rw [e]
    simp [d13, h13, revL]
    rfl
  · refine ⟨e', b', o', bl', i', q1, q2, q3, ?_⟩
    simp only [intsL, bsD] at e ⊢
    generalize o'.map D.int = OD at *
    simp [f_law_outs_of, runM, b_law_outs_of, rhoM, sm]
    rw [e]
    simp [d13, h13]
    rfl
/-- one out, no loops at hand -/
theorem o1_eq (c : Int) (ends : List Int) (belts : List (Int × Int)) (l1 : ends.length ≤ 1000) (l4 : belts.length ≤ 1000) : ∃ b, bOk b ∧
    f_law_outs_of__4 [(0, .int c), (0, .int 1), (1, bsD belts), (1, intsL ends), (0, .lst [])] = .ok ⟨false, 1, intsL [(belts.length : Int)]⟩ [none, none, some (1, bsD (belts ++ [b])), some (1, intsL (ends ++ [(belts.length : Int)])), none] := by
  have d11 : divOk 11 := divOk_s (by omega) (by omega)
  have d3 : divOk 3 := divOk_s (by omega) (by omega)
  have d13 : divOk 13 := divOk_s (by decide) (by decide)
  have s1 : small62 1 := small_of (by decide) (by decide)
  have a1 : (ends.map D.int).length < 10000 := by simp; omega
  have a4 : (belts.map bD).length < 10000 := by simp; omega
  have m4 : mulOk 4 0 := mulOk_l (by decide)
  have bl : (belts.map bD).length = belts.length := by simp
  refine ⟨(1 + c / 11 % 6, 1 + c / 3 % 4), ⟨by dsimp only; omega, by dsimp only; omega⟩, ?_⟩
  simp only [intsL, bsD, List.map_append, List.map_singleton]
  rw [← bl]
  generalize ends.map D.int = ED at *
  generalize belts.map bD = BD at *
  by_cases h13 : c / 13 % 2 = 1
  · simp [f_law_outs_of__4, runM, b_law_outs_of__4, rhoM, s1, rng, sItems, fTurn, l1_law_outs_of__4, d11, d3, m4, appL, a1, a4, d13, h13, revL, withL, lsOf]
    rfl
  · simp [f_law_outs_of__4, runM, b_law_outs_of__4, rhoM, s1, rng, sItems, fTurn, l1_law_outs_of__4, d11, d3, m4, appL, a1, a4, d13, h13, withL, lsOf]
    rfl
end K16
namespace K16
open PySem L2 B
/-! joiners -/
theorem jn_turn (c : Int) (k : Nat) (hk : k ≤ 100) (ins ends : List Int) (hi : ins.length ≤ 100) (he : ends.length ≤ 1000) (s1 s2 s4 s6 : B.Slot) :
    (ends = [] ∧ fTurn (gN 6) l1_law_joined (.int k) [some (0, .int c), s1, s2, some (1, intsL ends), s4, some (1, intsL ins), s6] = .inl [some (0, .int c), s1, s2, some (1, intsL ends), s4, some (1, intsL ins), some (0, .int k)]) ∨
    (∃ m, ∃ hm : m < ends.length, fTurn (gN 6) l1_law_joined (.int k) [some (0, .int c), s1, s2, some (1, intsL ends), s4, some (1, intsL ins), s6] = .inl [some (0, .int c), s1, s2, some (1, intsL (ends.eraseIdx m)), s4, some (1, intsL (ins ++ [ends[m]])), some (0, .int k)]) := by
  have d : divOk (10 + (k : Int)) := divOk_s (by omega) (by omega)
  have p : (0 : Int) < 10 + (k : Int) := by omega
  have a1 : (ins.map D.int).length < 10000 := by simp; omega
  by_cases h : 0 < ends.length
  · refine .inr ?_
    obtain ⟨m, hm, e1, e2, e3⟩ := pop_at ends h (c / (10 + (k : Int)))
    refine ⟨m, hm, ?_⟩
    have hp' : (0 : Int) < (ends.length : Int) := by omega
    have hl1 : ends.length ≤ 10000 := by omega
    have db : divOk (ends.length : Int) := divOk_s (by omega) (by omega)
    have kl : (ends.map D.int).length = ends.length := by simp
    simp only [intsL, List.map_append, List.map_singleton]
    rw [← e3]
    generalize ends[m] = x at *
    rw [← kl] at e1 h hp' hl1 db
    generalize ends.map D.int = KD at *
    generalize ins.map D.int = ID at *
    have hp2 : KD ≠ [] := fun z => by rw [z] at h; cases h
    simp [fTurn, l1_law_joined, d, p, db, h, hp', hp2, e1, e2, hl1, withL, lsOf, appL, a1]
  · have h0 : ends = [] := List.eq_nil_of_length_eq_zero (by omega)
    subst h0
    refine .inl ⟨rfl, ?_⟩
    generalize intsL ins = ID at *
    simp [fTurn, l1_law_joined]
theorem jn_loop (c : Int) (F G : List Int) (backs : List Int) (belts : List (Int × Int)) (s1 s2 s4 : B.Slot) : ∀ (n k : Nat) (ins ends : List Int) (s6 : B.Slot), k + n ≤ 50 → ins.length + n ≤ 50 → ends.length ≤ 1000 → Inv F (G ++ ins) [] ends backs belts → ∃ (ins' ends' : List Int) (t6 : B.Slot), Inv F (G ++ ins') [] ends' backs belts ∧ ins.length ≤ ins'.length ∧ ins'.length ≤ ins.length + n ∧ ends'.length + ins'.length = ends.length + ins.length ∧ (0 < n → 0 < ends.length → ins.length < ins'.length) ∧
    sItems (gN 6) l1_law_joined (rng k n) [some (0, .int c), s1, s2, some (1, intsL ends), s4, some (1, intsL ins), s6] = .ok .nx [some (0, .int c), s1, s2, some (1, intsL ends'), s4, some (1, intsL ins'), t6] := by
  intro n
  induction n with
  | zero => intro k ins ends s6 _ _ _ h; exact ⟨ins, ends, s6, h, Nat.le_refl _, Nat.le_refl _, rfl, fun z => absurd z (Nat.lt_irrefl _), rfl⟩
  | succ n ih =>
    intro k ins ends s6 h1 h2 h3 h
    have ec : (k : Int) + 1 = ((k + 1 : Nat) : Int) := by omega
    rcases jn_turn c k (by omega) ins ends (by omega) h3 s1 s2 s4 s6 with ⟨h0, ht⟩ | ⟨m, hm, ht⟩
    · obtain ⟨i', e', t6, v, q1, q2, q3, q4, e⟩ := ih (k + 1) ins ends (some (0, .int k)) (by omega) (by omega) h3 h
      refine ⟨i', e', t6, v, q1, by omega, q3, fun _ z => (by rw [h0] at z; cases z), ?_⟩
      rw [rng_succ, sItems_inl ht, ec]; exact e
    · have hel : (ends.eraseIdx m).length = ends.length - 1 := List.length_eraseIdx_of_lt hm
      obtain ⟨i', e', t6, v, q1, q2, q3, q4, e⟩ := ih (k + 1) (ins ++ [ends[m]]) (ends.eraseIdx m) (some (0, .int k)) (by omega) (by simp; omega) (by omega) (by rw [← List.append_assoc]; exact h.popE hm)
      rw [List.length_append, List.length_singleton] at q1 q2 q3
      refine ⟨i', e', t6, v, by omega, by omega, by omega, fun _ _ => by omega, ?_⟩
      rw [rng_succ, sItems_inl ht, ec]; exact e
theorem Inv.permG {F G G' os ends backs : List Int} {belts : List (Int × Int)} (h : Inv F G os ends backs belts) (p : G'.Perm G) : Inv F G' os ends backs belts :=
  ⟨h.o, (p.append_right ends).trans h.i, h.b⟩
theorem joined_eq (c : Int) (rs : List Row) (ends backs : List Int) (belts : List (Int × Int)) (hr : rs.length ≤ 100) (hb : belts.length ≤ 100) (he : ends.length ≤ 100) (h8 : c % 8 = 4 ∧ 2 ≤ ends.length ∨ c % 8 = 5 ∧ 1 ≤ ends.length) (v : Inv (Fo rs) (Gi rs) [] ends backs belts) :
    ∃ (r : Row) (ends' backs' : List Int) (belts' : List (Int × Int)), r.Ok ∧ Inv (Fo rs) (Gi rs ++ r.i) r.o ends' backs' belts' ∧ (c % 8 = 4 → belts'.length ≤ belts.length + 1 ∧ ends'.length + backs'.length + 1 ≤ ends.length + backs.length) ∧ (c % 8 = 5 → belts'.length ≤ belts.length + 2 ∧ ends'.length + backs'.length ≤ ends.length + backs.length + 1) ∧
    f_law_joined [(0, .int c), (1, bsD belts), (1, rsD rs), (1, intsL ends), (1, intsL backs)] = .ok (sh .non) [none, some (1, bsD belts'), some (1, rsD (rs ++ [r])), some (1, intsL ends'), some (1, intsL backs')] := by
  have li' := v.li
  have lo' := v.lo
  have d9 : divOk 9 := divOk_s (by decide) (by decide)
  have d8 : divOk 8 := divOk_s (by decide) (by decide)
  have d17 : divOk 17 := divOk_s (by decide) (by decide)
  have d19 : divOk 19 := divOk_s (by decide) (by decide)
  have d23 : divOk 23 := divOk_s (by decide) (by decide)
  have hp : 0 < ends.length := by omega
  obtain ⟨m, hm, e1, e2, e3⟩ := pop_at ends hp (c / 9)
  have hel : (ends.eraseIdx m).length = ends.length - 1 := List.length_eraseIdx_of_lt hm
  have v1 := v.popE hm
  have g0 : (sSetM 5 (mLst (msCons (mPopI (pN 3) (eOp modD (eOp fdivD (eV 0) (eC (.int 9))) (eB1 lenV (eV 3)))) (msNil)))) [some (0, .int c), some (1, bsD belts), some (1, rsD rs), some (1, intsL ends), some (1, intsL backs), none, none] = .ok .nx [some (0, .int c), some (1, bsD belts), some (1, rsD rs), some (1, intsL (ends.eraseIdx m)), some (1, intsL backs), some (1, intsL [ends[m]]), none] := by
    have hp' : (0 : Int) < (ends.length : Int) := by omega
    have hl1 : ends.length ≤ 10000 := by omega
    have db : divOk (ends.length : Int) := divOk_s (by omega) (by omega)
    have kl : (ends.map D.int).length = ends.length := by simp
    generalize bsD belts = BD
    generalize rsD rs = RD
    generalize intsL backs = LD
    simp only [intsL, List.map_append, List.map_singleton]
    rw [← e3]
    generalize ends[m] = x at *
    rw [← kl] at e1 hp hp' hl1 db
    generalize ends.map D.int = KD at *
    have hp2 : KD ≠ [] := fun z => by rw [z] at hp; cases hp
    simp [d9, db, hp, hp', hp2, e1, e2, hl1]
  obtain ⟨ins, ends1, backs1, belts1, t6, v2, q1, q2, q3, q4, q5, g1⟩ : ∃ (ins ends1 backs1 : List Int) (belts1 : List (Int × Int)) (t6 : B.Slot), Inv (Fo rs) (Gi rs ++ ins) [] ends1 backs1 belts1 ∧ 2 ≤ ins.length ∧ ins.length ≤ 4 ∧
      (c % 8 = 4 → belts1.length = belts.length ∧ ends1.length + 2 ≤ ends.length ∧ backs1.length = backs.length) ∧ (c % 8 = 5 → belts1.length = belts.length + 1 ∧ ends1.length + 1 = ends.length ∧ backs1.length = backs.length + 1) ∧ ends1.length ≤ 100 ∧
      (sIf (tV (eO2 eqV (eOp modD (eV 0) (eC (.int 8))) (eC (.int 5)))) (sSeq (sMtP appL (pN 1) (eTup (aCons (eO2 addV (eC (.int 1)) (eOp modD (eOp fdivD (eV 0) (eC (.int 17))) (eC (.int 6)))) (aCons (eO2 addV (eC (.int 1)) (eOp modD (eOp fdivD (eV 0) (eC (.int 19))) (eC (.int 4)))) (aNil))))) (sSeq (sMtP appL (pN 4) (eOp subD (eB1 lenV (eV 1)) (eC (.int 1)))) (sMtP appL (pN 5) (eOp subD (eB1 lenV (eV 1)) (eC (.int 1)))))) (sFor (iA rng1 (aCons (eO2 addV (eC (.int 1)) (eOp modD (eOp fdivD (eV 0) (eC (.int 8))) (eC (.int 3)))) (aNil))) (gN 6) l1_law_joined)) [some (0, .int c), some (1, bsD belts), some (1, rsD rs), some (1, intsL (ends.eraseIdx m)), some (1, intsL backs), some (1, intsL [ends[m]]), none] = .ok .nx [some (0, .int c), some (1, bsD belts1), some (1, rsD rs), some (1, intsL ends1), some (1, intsL backs1), some (1, intsL ins), t6] := by
    rcases h8 with ⟨h4, h2⟩ | ⟨h5, h2⟩
    · obtain ⟨n, hn⟩ : ∃ n : Nat, 1 + c / 8 % 3 = n := ⟨(1 + c / 8 % 3).toNat, by omega⟩
      obtain ⟨i', e', t6, v', q1, q2, q3, q4, e⟩ := jn_loop c (Fo rs) (Gi rs) backs belts (some (1, bsD belts)) (some (1, rsD rs)) (some (1, intsL backs)) n 0 [ends[m]] (ends.eraseIdx m) none (by omega) (by simp; omega) (by omega) v1
      rw [List.length_singleton] at q1 q2 q3 q4
      have q4' := q4 (by omega) (by omega)
      refine ⟨i', e', backs, belts, t6, v', by omega, by omega, fun _ => ⟨rfl, by omega, rfl⟩, fun z => by omega, by omega, ?_⟩
      have sm : small62 (n : Int) := small_of (by omega) (by omega)
      replace e : sItems (gN 6) l1_law_joined (rng 0 n) _ = _ := e
      generalize intsL [ends[m]] = I0 at *
      generalize intsL (ends.eraseIdx m) = E0 at *
      generalize bsD belts = BD at *
      generalize rsD rs = RD at *
      generalize intsL backs = LD at *
      generalize intsL i' = I1 at *
      generalize intsL e' = E1 at *
      simp [h4, d8, hn, sm]
      rw [e]
    · have lp := v1.loop (b := (1 + c / 17 % 6, 1 + c / 19 % 4)) ⟨by dsimp only; omega, by dsimp only; omega⟩
      rw [List.append_assoc] at lp
      refine ⟨[ends[m]] ++ [(belts.length : Int)], ends.eraseIdx m, backs ++ [(belts.length : Int)], belts ++ [(1 + c / 17 % 6, 1 + c / 19 % 4)], none, lp, by simp, by simp, fun z => by omega, fun _ => ⟨by simp, by omega, by simp⟩, by omega, ?_⟩
      have a1 : (backs.map D.int).length < 10000 := by simp; omega
      have a4 : (belts.map bD).length < 10000 := by simp; omega
      have bl : (belts.map bD).length = belts.length := by simp
      generalize rsD rs = RD at *
      generalize intsL (ends.eraseIdx m) = E0 at *
      generalize ends[m] = x at *
      simp only [intsL, bsD, List.map_append, List.map_singleton]
      rw [← bl]
      generalize backs.map D.int = LD at *
      generalize belts.map bD = BD at *
      simp [h5, d17, d19, appL, a1, a4]
  obtain ⟨ins2, p2, g2⟩ : ∃ ins2 : List Int, ins2.Perm ins ∧ (sIf (tV (eO2 eqV (eOp modD (eOp fdivD (eV 0) (eC (.int 23))) (eC (.int 2))) (eC (.int 1)))) (sMt0P revL (pN 5)) (sNil)) [some (0, .int c), some (1, bsD belts1), some (1, rsD rs), some (1, intsL ends1), some (1, intsL backs1), some (1, intsL ins), t6] = .ok .nx [some (0, .int c), some (1, bsD belts1), some (1, rsD rs), some (1, intsL ends1), some (1, intsL backs1), some (1, intsL ins2), t6] := by
    by_cases h23 : c / 23 % 2 = 1
    · refine ⟨ins.reverse, List.reverse_perm _, ?_⟩
      generalize bsD belts1 = BD
      generalize rsD rs = RD
      generalize intsL backs1 = LD
      generalize intsL ends1 = ED
      simp only [intsL, List.map_reverse]
      generalize ins.map D.int = ID
      simp [d23, h23, revL]
    · refine ⟨ins, List.Perm.refl _, ?_⟩
      generalize bsD belts1 = BD
      generalize rsD rs = RD
      generalize intsL backs1 = LD
      generalize intsL ends1 = ED
      generalize intsL ins = ID
      simp [d23, h23]
  have p2l := p2.length_eq
  have v3 := v2.permG (List.Perm.append_left (Gi rs) p2)
  have bb1 : belts1.length ≤ 200 := by rcases h8 with ⟨h4, _⟩ | ⟨h5, _⟩ <;> first | (have := q3 h4; omega) | (have := q4 h5; omega)
  obtain ⟨ends', backs', os, belts', v4, o1, o2, o3, e4⟩ := oo_eq c (Fo rs) (Gi rs ++ ins2) ends1 backs1 belts1 1 (by omega) (by omega) v3
  refine ⟨⟨.joiner, ins2, os, 1, []⟩, ends', backs', belts', ⟨⟨⟨by dsimp only; omega, by dsimp only; omega⟩, o1⟩, by dsimp only; omega, fun _ => (by dsimp only; omega), rfl, fun z => (by cases z), fun z => (by cases z), fun _ _ => rfl⟩, v4, fun z => by have := q3 z; omega, fun z => by have := q4 z; omega, ?_⟩
  have g3 : (sFz 5 (sMtM 2 appL (mTup (msCons (mP (eC (.str "joiner"))) (msCons (mP (eV 5)) (msCons (mCall f_law_outs_of [none, none, some 1, some 3, some 4] (amCons (eV 0) (amCons (eC (.int 1)) (amOwn 1 (amOwn 3 (amOwn 4 (amNil))))))) (msCons (mP (eLst (aNil))) (msNil)))))))) [some (0, .int c), some (1, bsD belts1), some (1, rsD rs), some (1, intsL ends1), some (1, intsL backs1), some (1, intsL ins2), t6] = .ok .nx [some (0, .int c), some (1, bsD belts'), some (1, rsD (rs ++ [⟨.joiner, ins2, os, 1, []⟩])), some (1, intsL ends'), some (1, intsL backs'), some (0, intsL ins2), t6] := by
    have a3 : (rs.map Row.d).length < 10000 := by simp; omega
    simp only [rsD, List.map_append, List.map_singleton, Row.d, Row.nums, Wd.s]
    generalize rs.map Row.d = RD at *
    simp only [Int.natCast_one] at e4
    generalize bsD belts1 = BD at *
    generalize intsL backs1 = LD at *
    generalize intsL ends1 = ED at *
    generalize bsD belts' = BD' at *
    generalize intsL backs' = LD' at *
    generalize intsL ends' = ED' at *
    generalize intsL ins2 = ID at *
    generalize intsL os = OD at *
    simp [sFz, withL, lsOf, e4, appL, a3]
  show outM [1, 2, 3, 4] 5 (b_law_joined [some (0, .int c), some (1, bsD belts), some (1, rsD rs), some (1, intsL ends), some (1, intsL backs), none, none]) = _
  rw [b_law_joined, sSeq_eq, g0, RS.then_nx, sSeq_eq, g1, RS.then_nx, sSeq_eq, g2, RS.then_nx, g3]
  simp
  rfl
end K16
namespace K16
open PySem L2 B
/-! one step -/
structure Pw (rs : List Row) (ends backs : List Int) (belts : List (Int × Int)) : Prop where
  v : Inv (Fo rs) (Gi rs) [] ends backs belts
  r : ∀ r ∈ rs, r.Ok
  n : rs.length + ends.length + backs.length ≤ 24
  b : belts.length ≤ 24
theorem Pw.row {rs : List Row} {r : Row} {ends' backs' : List Int} {belts' : List (Int × Int)} (hr : ∀ r ∈ rs, r.Ok) (h : r.Ok) (v : Inv (Fo rs) (Gi rs ++ r.i) r.o ends' backs' belts') (hn : rs.length + 1 + ends'.length + backs'.length ≤ 24) (hb : belts'.length ≤ 24) : Pw (rs ++ [r]) ends' backs' belts' := by
  have W := Web.row hr h v hn hb
  exact ⟨W.v, W.r, W.n, W.b⟩
noncomputable def s5 : SF := sIf (tOrF (tV (eO2 eqV (eV 7) (eC (.int 0)))) (tV (eO2 eqV (eB1 lenV (eV 3)) (eC (.int 0))))) (sIf (tAndF (tV (eOp gtD (eV 5) (eC (.int 1)))) (tV (eOp gtD (eV 6) (eC (.int 0))))) (sSeq (sSetM 9 (mCall f_law_outs_of__4 [none, none, some 1, some 3, none] (amCons (eV 0) (amCons (eC (.int 1)) (amOwn 1 (amOwn 3 (amCons (eLst (aNil)) (amNil)))))))) (sFz 9 (sMtP appL (pN 2) (eTup (aCons (eC (.str "source")) (aCons (eLst (aNil)) (aCons (eV 9) (aCons (eO2 addV (eLst (aCons (eO2 addV (eC (.int 1)) (eOp modD (eOp fdivD (eV 0) (eC (.int 8))) (eC (.int 4)))) (aNil))) (eCall f_law_kinds_of (aCons (eOp fdivD (eV 0) (eC (.int 32))) (aNil)))) (aNil))))))))) (sNil)) (sIf (tOrF (tAndF (tV (eO2 eqV (eV 7) (eC (.int 4)))) (tAndF (tV (eOp gtD (eB1 lenV (eV 3)) (eC (.int 1)))) (tV (eOp gtD (eV 6) (eC (.int 0)))))) (tAndF (tV (eO2 eqV (eV 7) (eC (.int 5)))) (tAndF (tV (eOp gtD (eV 5) (eC (.int 1)))) (tV (eOp gtD (eV 6) (eC (.int 1))))))) (sExM (mCall f_law_joined [none, some 1, some 2, some 3, some 4] (amCons (eV 0) (amOwn 1 (amOwn 2 (amOwn 3 (amOwn 4 (amNil)))))))) (sIf (tV (eO2 eqV (eV 7) (eC (.int 6)))) (sMtM 2 appL (mTup (msCons (mP (eC (.str "drain"))) (msCons (mLst (msCons (mPopI (pN 3) (eOp modD (eOp fdivD (eV 0) (eC (.int 40))) (eB1 lenV (eV 3)))) (msNil))) (msCons (mP (eLst (aNil))) (msCons (mP (eLst (aCons (eOp modD (eOp fdivD (eV 0) (eC (.int 8))) (eC (.int 5))) (aNil)))) (msNil))))))) (sIf (tAndF (tV (eOp ninX (eV 7) (eTup (aCons (eC (.int 4)) (aCons (eC (.int 5)) (aNil)))))) (tAndF (tV (eOp geD (eV 5) (eV 8))) (tV (eOp geD (eV 6) (eV 8))))) (sSeq (sSetM 10 (mLst (msCons (mPopI (pN 3) (eOp modD (eOp fdivD (eV 0) (eC (.int 24))) (eB1 lenV (eV 3)))) (msNil)))) (sSeq (sSetM 9 (mCall f_law_outs_of [none, none, some 1, some 3, some 4] (amCons (eV 0) (amCons (eV 8) (amOwn 1 (amOwn 3 (amOwn 4 (amNil)))))))) (sFz 9 (sFz 10 (sIf (tV (eO2 eqV (eV 7) (eC (.int 3)))) (sMtP appL (pN 2) (eTup (aCons (eC (.str "sieve")) (aCons (eV 10) (aCons (eV 9) (aCons (eLst (aCons (eOp modD (eO2 mulV (eOp fdivD (eV 0) (eC (.int 8))) (eC (.int 48271))) (eOp powD (eC (.int 10)) (eC (.int 30)))) (aNil))) (aNil))))))) (sIf (tV (eO2 eqV (eV 7) (eC (.int 1)))) (sMtP appL (pN 2) (eTup (aCons (eC (.str "first")) (aCons (eV 10) (aCons (eV 9) (aCons (eLst (aNil)) (aNil))))))) (sMtP appL (pN 2) (eTup (aCons (eC (.str "parter")) (aCons (eV 10) (aCons (eV 9) (aCons (eLst (aNil)) (aNil))))))))))))) (sNil))))
/-- what a step leaves behind -/
def StepTo (c L R W M : Int) (rs : List Row) (ends backs : List Int) (belts : List (Int × Int)) : Prop := ∃ (rs' : List Row) (ends' backs' : List Int) (belts' : List (Int × Int)) (t9 t10 : B.Slot), Pw rs' ends' backs' belts' ∧ rs.length ≤ rs'.length ∧ (ends = [] → 1 < L → 0 < R → 1 ≤ rs'.length) ∧
  s5 [some (0, .int c), some (1, bsD belts), some (1, rsD rs), some (1, intsL ends), some (1, intsL backs), some (0, .int L), some (0, .int R), some (0, .int W), some (0, .int M), none, none] = .ok .nx [some (0, .int c), some (1, bsD belts'), some (1, rsD rs'), some (1, intsL ends'), some (1, intsL backs'), some (0, .int L), some (0, .int R), some (0, .int W), some (0, .int M), t9, t10]
theorem step_no (c L R W M : Int) (rs : List Row) (ends backs : List Int) (belts : List (Int × Int)) (P : Pw rs ends backs belts) (hne : ends = [] → 1 < L → 0 < R → False) (e : s5 [some (0, .int c), some (1, bsD belts), some (1, rsD rs), some (1, intsL ends), some (1, intsL backs), some (0, .int L), some (0, .int R), some (0, .int W), some (0, .int M), none, none] = .ok .nx [some (0, .int c), some (1, bsD belts), some (1, rsD rs), some (1, intsL ends), some (1, intsL backs), some (0, .int L), some (0, .int R), some (0, .int W), some (0, .int M), none, none]) : StepTo c L R W M rs ends backs belts :=
  ⟨rs, ends, backs, belts, none, none, P, Nat.le_refl _, fun a b d => (hne a b d).elim, e⟩
theorem step_src (c L R W M : Int) (rs : List Row) (ends backs : List Int) (belts : List (Int × Int)) (P : Pw rs ends backs belts) (h : W = 0 ∨ ends = []) (hL : 1 < L) (hR : 0 < R) (hl : L = 24 - rs.length - ends.length - backs.length) (hr : R = 24 - belts.length) : StepTo c L R W M rs ends backs belts := by
  have hPn := P.n
  have hPb := P.b
  obtain ⟨b, hb, e1⟩ := o1_eq c ends belts (by omega) (by omega)
  obtain ⟨ks, k1, k2, k3, ek⟩ := kinds_eq (c / 32)
  have d8 : divOk 8 := divOk_s (by decide) (by decide)
  have d32 : divOk 32 := divOk_s (by decide) (by decide)
  have vn := P.v.new hb
  have hR0 : Row.Ok ⟨.source, [], [(belts.length : Int)], 1 + c / 8 % 4, ks⟩ := ⟨⟨rfl, rfl⟩, by dsimp only; omega, fun _ => (by dsimp only; omega), k1, fun _ => ⟨k2, k3⟩, fun z => (by cases z), fun z => absurd rfl z⟩
  have v' : Inv (Fo rs) (Gi rs ++ []) [(belts.length : Int)] (ends ++ [(belts.length : Int)]) backs (belts ++ [b]) := by
    rw [List.append_nil]
    exact vn
  refine ⟨rs ++ [⟨.source, [], [(belts.length : Int)], 1 + c / 8 % 4, ks⟩], ends ++ [(belts.length : Int)], backs, belts ++ [b], some (0, intsL [(belts.length : Int)]), none, Pw.row P.r hR0 v' (by simp; omega) (by simp; omega), by simp, fun _ _ _ => by simp, ?_⟩
  have a3 : (rs.map Row.d).length < 10000 := by simp; omega
  have a5 : (ks.map D.int).length ≤ 10000 := by simp; omega
  have a6 : 1 + (ks.map D.int).length ≤ 10000 := by simp; omega
  have a7 : (ks.map D.int).length + 1 ≤ 10000 := by simp; omega
  simp only [rsD, List.map_append, List.map_singleton, Row.d, Row.nums, Wd.s, intsL, List.map_cons, List.map_nil] at e1 ek ⊢
  generalize (rs.map fun r => D.tup [.str r.w.s, .lst (r.i.map .int), .lst (r.o.map .int), .lst (r.nums.map .int)]) = RD at *
  generalize bsD (belts ++ [b]) = BD2 at *
  generalize bsD belts = BD at *
  generalize ks.map D.int = KD at *
  generalize backs.map D.int = LD at *
  have hl0 : (ends.map D.int).length = ends.length := by simp
  have hh : W = 0 ∨ ends.length = 0 := h.elim .inl fun z => .inr (by rw [z]; rfl)
  generalize (ends.map D.int ++ [.int (belts.length : Int)]) = ED2 at *
  rw [← hl0] at hh
  generalize ends.map D.int = ED at *
  rcases hh with hW | hE
  · simp [s5, sFz, hW, hL, hR, e1, ek, d8, d32, addV, appL, a3, a5, a6, a7]
  · have hE' := List.eq_nil_of_length_eq_zero hE
    subst hE'
    by_cases hW : W = 0
    · simp [s5, sFz, hW, hL, hR, e1, ek, d8, d32, addV, appL, a3, a5, a6, a7]
    · simp [s5, sFz, hW, hL, hR, e1, ek, d8, d32, addV, appL, a3, a5, a6, a7]
theorem step_jn (c L R W M : Int) (rs : List Row) (ends backs : List Int) (belts : List (Int × Int)) (P : Pw rs ends backs belts) (hne : ends ≠ []) (hW : W = c % 8) (h : W = 4 ∧ 1 < ends.length ∧ 0 < R ∨ W = 5 ∧ 1 < L ∧ 1 < R) (hl : L = 24 - rs.length - ends.length - backs.length) (hr : R = 24 - belts.length) : StepTo c L R W M rs ends backs belts := by
  have hPn := P.n
  have hPb := P.b
  have hp : 0 < ends.length := List.length_pos_iff.mpr hne
  obtain ⟨r, e', b', bl', ro, v', q1, q2, e⟩ := joined_eq c rs ends backs belts (by omega) (by omega) (by omega) (by rw [hW] at h; omega) P.v
  refine ⟨rs ++ [r], e', b', bl', none, none, Pw.row P.r ro v' ?_ ?_, by simp, fun z => absurd z hne, ?_⟩
  · rcases h with ⟨h4, h2, h3⟩ | ⟨h5, h2, h3⟩
    · have := q1 (by omega); omega
    · have := q2 (by omega); omega
  · rcases h with ⟨h4, h2, h3⟩ | ⟨h5, h2, h3⟩
    · have := q1 (by omega); omega
    · have := q2 (by omega); omega
  · have hl0 : (ends.map D.int).length = ends.length := by simp
    simp only [intsL] at *
    have hne' : ends.map D.int ≠ [] := fun z => hne (by simpa using z)
    generalize rsD (rs ++ [r]) = RD2 at *
    generalize rsD rs = RD at *
    generalize bsD bl' = BD2 at *
    generalize bsD belts = BD at *
    generalize b'.map D.int = LD2 at *
    generalize backs.map D.int = LD at *
    generalize e'.map D.int = ED2 at *
    rw [← hl0] at h hp
    generalize ends.map D.int = ED at *
    rcases h with ⟨h4, h2, h3⟩ | ⟨h5, h2, h3⟩
    · have h2' : (1 : Int) < (ED.length : Int) := by omega
      simp [s5, h4, hne', h2, h2', h3, e]
    · simp [s5, h5, hne', h2, h3, e]
theorem step_drn (c L R W M : Int) (rs : List Row) (ends backs : List Int) (belts : List (Int × Int)) (P : Pw rs ends backs belts) (hne : ends ≠ []) (hW : W = 6) : StepTo c L R W M rs ends backs belts := by
  have hPn := P.n
  have hPb := P.b
  have hp : 0 < ends.length := List.length_pos_iff.mpr hne
  obtain ⟨m, hm, e1, e2, e3⟩ := pop_at ends hp (c / 40)
  have hel : (ends.eraseIdx m).length = ends.length - 1 := List.length_eraseIdx_of_lt hm
  have v1 := P.v.popE hm
  have d8 : divOk 8 := divOk_s (by decide) (by decide)
  have d40 : divOk 40 := divOk_s (by decide) (by decide)
  have hR0 : Row.Ok ⟨.drain, [ends[m]], [], c / 8 % 5, []⟩ := ⟨⟨rfl, rfl⟩, by dsimp only; omega, fun z => absurd rfl z, rfl, fun z => (by cases z), fun z => (by cases z), fun _ _ => rfl⟩
  refine ⟨rs ++ [⟨.drain, [ends[m]], [], c / 8 % 5, []⟩], ends.eraseIdx m, backs, belts, none, none, Pw.row P.r hR0 v1 (by omega) (by omega), by simp, fun z => absurd z hne, ?_⟩
  have a3 : (rs.map Row.d).length < 10000 := by simp; omega
  have hp' : (0 : Int) < (ends.length : Int) := by omega
  have hl1 : ends.length ≤ 10000 := by omega
  have db : divOk (ends.length : Int) := divOk_s (by omega) (by omega)
  have kl : (ends.map D.int).length = ends.length := by simp
  simp only [rsD, List.map_append, List.map_singleton, Row.d, Row.nums, Wd.s, intsL, List.map_cons, List.map_nil] at *
  rw [← e3]
  generalize ends[m] = x at *
  rw [← kl] at e1 hp hp' hl1 db
  have hp2 : ends.map D.int ≠ [] := fun z => by rw [z] at hp; cases hp
  generalize ends.map D.int = KD at *
  generalize (rs.map fun r => D.tup [.str r.w.s, .lst (r.i.map .int), .lst (r.o.map .int), .lst (r.nums.map .int)]) = RD at *
  generalize bsD belts = BD at *
  generalize backs.map D.int = LD at *
  simp [s5, hW, hp2, d8, d40, db, hp, hp', e1, e2, hl1, withL, lsOf, appL, a3]
theorem step_prt (c L R W M : Int) (rs : List Row) (ends backs : List Int) (belts : List (Int × Int)) (P : Pw rs ends backs belts) (hne : ends ≠ []) (h0 : W ≠ 0) (h4 : W ≠ 4) (h5 : W ≠ 5) (h6 : W ≠ 6) (hM : 2 ≤ M ∧ M ≤ 4) (hM3 : W = 3 → M = 2) (h1 : M ≤ L) (h2 : M ≤ R) (hl : L = 24 - rs.length - ends.length - backs.length) (hr : R = 24 - belts.length) : StepTo c L R W M rs ends backs belts := by
  have hPn := P.n
  have hPb := P.b
  have hp : 0 < ends.length := List.length_pos_iff.mpr hne
  obtain ⟨m, hm, e1, e2, e3⟩ := pop_at ends hp (c / 24)
  have hel : (ends.eraseIdx m).length = ends.length - 1 := List.length_eraseIdx_of_lt hm
  have v1 := P.v.popE hm
  obtain ⟨n, hn⟩ : ∃ n : Nat, M = n := ⟨M.toNat, by omega⟩
  obtain ⟨e', b', os, bl', v2, q1, q2, q3, eo⟩ := oo_eq c (Fo rs) (Gi rs ++ [ends[m]]) (ends.eraseIdx m) backs belts n (by omega) (by omega) v1
  have d8 : divOk 8 := divOk_s (by decide) (by decide)
  have d24 : divOk 24 := divOk_s (by decide) (by decide)
  have pw : powOk 10 30 := powOk_s (by decide) (by decide) (by decide)
  have dp : divOk (1000000000000000000000000000000 : Int) := divOk_w 100 (by decide) (by decide) (by decide) (by decide)
  have m1 : ∀ x : Int, mulOk x 48271 := fun x => mulOk_r (by decide)
  rw [← hn] at eo
  obtain ⟨r, ro, ri, rO, er⟩ : ∃ r : Row, r.Ok ∧ r.i = [ends[m]] ∧ r.o = os ∧ r.d = .tup [.str (if W = 3 then "sieve" else if W = 1 then "first" else "parter"), intsL [ends[m]], intsL os, if W = 3 then .lst [.int (c / 8 * 48271 % 1000000000000000000000000000000)] else .lst []] := by
    by_cases w3 : W = 3
    · refine ⟨⟨.sieve, [ends[m]], os, 1, [c / 8 * 48271 % 1000000000000000000000000000000]⟩, ⟨⟨rfl, by have := hM3 w3; show os.length = 2; omega⟩, by dsimp only; omega, fun _ => (by dsimp only; omega), by simp [kOk]; omega, fun z => (by cases z), fun _ => rfl, fun _ z => absurd rfl z⟩, rfl, rfl, ?_⟩
      rw [if_pos w3, if_pos w3]
      rfl
    · by_cases w1 : W = 1
      · refine ⟨⟨.first, [ends[m]], os, 1, []⟩, ⟨⟨rfl, by dsimp only; omega, by dsimp only; omega⟩, by dsimp only; omega, fun _ => (by dsimp only; omega), rfl, fun z => (by cases z), fun z => (by cases z), fun _ _ => rfl⟩, rfl, rfl, ?_⟩
        rw [if_neg w3, if_neg w3, if_pos w1]
        rfl
      · refine ⟨⟨.parter, [ends[m]], os, 1, []⟩, ⟨⟨rfl, by dsimp only; omega, by dsimp only; omega⟩, by dsimp only; omega, fun _ => (by dsimp only; omega), rfl, fun z => (by cases z), fun z => (by cases z), fun _ _ => rfl⟩, rfl, rfl, ?_⟩
        rw [if_neg w3, if_neg w3, if_neg w1]
        rfl
  have hrow : Pw (rs ++ [r]) e' b' bl' := Pw.row P.r ro (by rw [ri, rO]; exact v2) (by omega) (by omega)
  refine ⟨rs ++ [r], e', b', bl', some (0, intsL os), some (0, intsL [ends[m]]), hrow, by simp, fun z => absurd z hne, ?_⟩
  have a3 : (rs.map Row.d).length < 10000 := by simp; omega
  have hp' : (0 : Int) < (ends.length : Int) := by omega
  have hl1 : ends.length ≤ 10000 := by omega
  have db : divOk (ends.length : Int) := divOk_s (by omega) (by omega)
  have kl : (ends.map D.int).length = ends.length := by simp
  have hmap : (rs ++ [r]).map Row.d = rs.map Row.d ++ [r.d] := by simp
  simp only [rsD]
  rw [hmap, er]
  clear hrow er
  generalize rs.map Row.d = RD at *
  simp only [intsL, List.map_cons, List.map_nil] at *
  rw [← e3] at eo
  generalize ends[m] = x at *
  rw [← kl] at e1 hp hp' hl1 db
  have hp2 : ends.map D.int ≠ [] := fun z => by rw [z] at hp; cases hp
  generalize ends.map D.int = KD at *
  generalize bsD belts = BD at *
  generalize bsD bl' = BD2 at *
  generalize backs.map D.int = LD at *
  generalize b'.map D.int = LD2 at *
  generalize e'.map D.int = ED2 at *
  generalize os.map D.int = OD at *
  have nin : inL (.int W) [.int 4, .int 5] = some false := by simp [intsOf, h4, h5]
  by_cases w3 : W = 3
  · subst w3
    simp [s5, sFz, hp2, d8, d24, pw, dp, m1, db, hp, hp', e1, e2, hl1, h1, h2, eo, intsOf, withL, lsOf, appL, a3]
  · by_cases w1 : W = 1
    · subst w1
      simp [s5, sFz, hp2, d8, d24, pw, dp, m1, db, hp, hp', e1, e2, hl1, h1, h2, eo, intsOf, withL, lsOf, appL, a3]
    · simp [s5, sFz, hp2, h0, h4, h5, h6, w3, w1, d8, d24, pw, dp, m1, db, hp, hp', e1, e2, hl1, h1, h2, eo, intsOf, withL, lsOf, appL, a3]
theorem step5 (c L R W M : Int) (rs : List Row) (ends backs : List Int) (belts : List (Int × Int)) (P : Pw rs ends backs belts) (hW : W = c % 8) (hM : 2 ≤ M ∧ M ≤ 4) (hM3 : W = 3 → M = 2) (hl : L = 24 - rs.length - ends.length - backs.length) (hr : R = 24 - belts.length) : StepTo c L R W M rs ends backs belts := by
  have hl0 : (ends.map D.int).length = ends.length := by simp
  by_cases h1 : W = 0 ∨ ends = []
  · by_cases h2 : 1 < L ∧ 0 < R
    · exact step_src c L R W M rs ends backs belts P h1 h2.1 h2.2 hl hr
    · refine step_no c L R W M rs ends backs belts P (fun _ a b => h2 ⟨a, b⟩) ?_
      have hh : W = 0 ∨ ends.length = 0 := h1.elim .inl fun z => .inr (by rw [z]; rfl)
      simp only [intsL] at *
      generalize bsD belts = BD
      generalize rsD rs = RD
      generalize backs.map D.int = LD
      rw [← hl0] at hh
      generalize ends.map D.int = ED at *
      by_cases hL : 1 < L
      · have hR : ¬ 0 < R := fun z => h2 ⟨hL, z⟩
        rcases hh with hW | hE
        · simp [s5, hW, hL, hR]
        · have hE' := List.eq_nil_of_length_eq_zero hE
          subst hE'
          by_cases hW : W = 0 <;> simp [s5, hW, hL, hR]
      · rcases hh with hW | hE
        · simp [s5, hW, hL]
        · have hE' := List.eq_nil_of_length_eq_zero hE
          subst hE'
          by_cases hW : W = 0 <;> simp [s5, hW, hL]
  · have h0 : W ≠ 0 := fun z => h1 (.inl z)
    have hne : ends ≠ [] := fun z => h1 (.inr z)
    by_cases h2 : W = 4 ∧ 1 < ends.length ∧ 0 < R ∨ W = 5 ∧ 1 < L ∧ 1 < R
    · exact step_jn c L R W M rs ends backs belts P hne hW h2 hl hr
    · by_cases h6 : W = 6
      · exact step_drn c L R W M rs ends backs belts P hne h6
      · by_cases h3 : W ≠ 4 ∧ W ≠ 5 ∧ M ≤ L ∧ M ≤ R
        · exact step_prt c L R W M rs ends backs belts P hne h0 h3.1 h3.2.1 h6 hM hM3 h3.2.2.1 h3.2.2.2 hl hr
        · refine step_no c L R W M rs ends backs belts P (fun a => absurd a hne) ?_
          have hne' : ends.map D.int ≠ [] := fun z => hne (by simpa using z)
          simp only [intsL] at *
          generalize bsD belts = BD
          generalize rsD rs = RD
          generalize backs.map D.int = LD
          rw [← hl0] at h2
          generalize ends.map D.int = ED at *
          by_cases w4 : W = 4
          · subst w4
            by_cases x1 : 1 < ED.length
            · have x1' : (1 : Int) < (ED.length : Int) := by omega
              have x2 : ¬ 0 < R := fun z => h2 (.inl ⟨rfl, x1, z⟩)
              simp [s5, hne', x1, x1', x2, intsOf]
            · have x1' : ¬ (1 : Int) < (ED.length : Int) := by omega
              simp [s5, hne', x1, x1', intsOf]
          · by_cases w5 : W = 5
            · subst w5
              by_cases x1 : 1 < L
              · have x2 : ¬ 1 < R := fun z => h2 (.inr ⟨rfl, x1, z⟩)
                simp [s5, hne', x1, x2, intsOf]
              · simp [s5, hne', x1, intsOf]
            · by_cases x1 : M ≤ L
              · have x2 : ¬ M ≤ R := fun z => h3 ⟨w4, w5, x1, z⟩
                simp [s5, hne', h0, w4, w5, h6, x1, x2, intsOf]
              · simp [s5, hne', h0, w4, w5, h6, x1, intsOf]
theorem step_eq (c : Int) (rs : List Row) (ends backs : List Int) (belts : List (Int × Int)) (P : Pw rs ends backs belts) : ∃ (rs' : List Row) (ends' backs' : List Int) (belts' : List (Int × Int)), Pw rs' ends' backs' belts' ∧ rs.length ≤ rs'.length ∧ (ends = [] → rs = [] → backs = [] → belts = [] → 1 ≤ rs'.length) ∧
    f_law_step [(0, .int c), (1, bsD belts), (1, rsD rs), (1, intsL ends), (1, intsL backs)] = .ok (sh .non) [none, some (1, bsD belts'), some (1, rsD rs'), some (1, intsL ends'), some (1, intsL backs')] := by
  have hPn := P.n
  have hPb := P.b
  obtain ⟨M, hM⟩ : ∃ M : Int, (if c % 8 = 3 then 2 else 2 + c / 8 % 3) = M := ⟨_, rfl⟩
  obtain ⟨rs', e', b', bl', t9, t10, P', q1, q2, e⟩ := step5 c (24 - rs.length - ends.length - backs.length) (24 - belts.length) (c % 8) M rs ends backs belts P rfl (by rw [← hM]; split <;> omega) (fun z => by rw [← hM, if_pos z]) rfl rfl
  refine ⟨rs', e', b', bl', P', q1, fun a b d f => q2 a (by rw [a, b, d]; simp) (by rw [f]; simp), ?_⟩
  have d8 : divOk 8 := divOk_s (by decide) (by decide)
  have g : b_law_step [some (0, .int c), some (1, bsD belts), some (1, rsD rs), some (1, intsL ends), some (1, intsL backs), none, none, none, none, none, none] = s5 [some (0, .int c), some (1, bsD belts), some (1, rsD rs), some (1, intsL ends), some (1, intsL backs), some (0, .int (24 - rs.length - ends.length - backs.length)), some (0, .int (24 - belts.length)), some (0, .int (c % 8)), some (0, .int M), none, none] := by
    have l1 : (rs.map Row.d).length = rs.length := by simp
    have l2 : (ends.map D.int).length = ends.length := by simp
    have l3 : (backs.map D.int).length = backs.length := by simp
    have l4 : (belts.map bD).length = belts.length := by simp
    show (sSeq _ (sSeq _ (sSeq _ (sSeq _ (sSeq _ s5))))) _ = _
    rw [← l1, ← l2, ← l3, ← l4]
    simp only [intsL, rsD, bsD]
    generalize rs.map Row.d = RD
    generalize ends.map D.int = ED
    generalize backs.map D.int = LD
    generalize belts.map bD = BD
    by_cases h3 : c % 8 = 3
    · rw [if_pos h3] at hM
      subst hM
      simp [d8, h3]
    · rw [if_neg h3] at hM
      subst hM
      simp [d8, h3]
  show outM [1, 2, 3, 4] 5 (b_law_step _) = _
  refine (congrArg (outM [1, 2, 3, 4] 5) (g.trans e)).trans ?_
  rfl
end K16
namespace K16
open PySem L2 B
/-! the parts -/
theorem mem_rg {n : Nat} {x : Int} (h : x ∈ rgI n) : 0 ≤ x ∧ x < n := by
  unfold rgI at h
  obtain ⟨i, hi, rfl⟩ := List.mem_map.mp h
  have := List.mem_range.mp hi
  omega
structure Good (rs : List Row) (belts : List (Int × Int)) : Prop where
  b : ∀ b ∈ belts, bOk b
  r : ∀ r ∈ rs, r.Ok
  o : (Fo rs).Perm (rgI belts.length)
  i : (Gi rs).Perm (rgI belts.length)
  n : 1 ≤ rs.length ∧ rs.length ≤ 24
  l : belts.length ≤ 24
theorem steps_loop (S0 : B.Slot) : ∀ (cs : List Int) (rs : List Row) (ends backs : List Int) (belts : List (Int × Int)) (s5 : B.Slot), Pw rs ends backs belts → ∃ (rs' : List Row) (ends' backs' : List Int) (belts' : List (Int × Int)) (t5 : B.Slot), Pw rs' ends' backs' belts' ∧ rs.length ≤ rs'.length ∧
    sItems (gN 5) l1_law_parts_of (cs.map .int) [S0, some (1, bsD belts), some (1, rsD rs), some (1, intsL ends), some (1, intsL backs), s5, none, none, none, none, none, none, none, none, none, none] =
      .ok .nx [S0, some (1, bsD belts'), some (1, rsD rs'), some (1, intsL ends'), some (1, intsL backs'), t5, none, none, none, none, none, none, none, none, none, none] := by
  intro cs
  induction cs with
  | nil => intro rs ends backs belts s5 P; exact ⟨rs, ends, backs, belts, s5, P, Nat.le_refl _, rfl⟩
  | cons c cs ih =>
    intro rs ends backs belts s5 P
    obtain ⟨r1, e1, b1, l1, P1, q1, _, es⟩ := step_eq c rs ends backs belts P
    obtain ⟨r2, e2, b2, l2, t5, P2, q2, e⟩ := ih r1 e1 b1 l1 (some (0, .int c)) P1
    refine ⟨r2, e2, b2, l2, t5, P2, by omega, ?_⟩
    have ht : fTurn (gN 5) l1_law_parts_of (.int c) [S0, some (1, bsD belts), some (1, rsD rs), some (1, intsL ends), some (1, intsL backs), s5, none, none, none, none, none, none, none, none, none, none] =
        .inl [S0, some (1, bsD l1), some (1, rsD r1), some (1, intsL e1), some (1, intsL b1), some (0, .int c), none, none, none, none, none, none, none, none, none, none] := by
      generalize bsD belts = BD at *
      generalize rsD rs = RD at *
      generalize intsL ends = ED at *
      generalize intsL backs = LD at *
      generalize bsD l1 = BD2 at *
      generalize rsD r1 = RD2 at *
      generalize intsL e1 = ED2 at *
      generalize intsL b1 = LD2 at *
      simp [fTurn, l1_law_parts_of, es]
    rw [List.map_cons, sItems_inl ht]
    exact e
theorem first_step (S0 : B.Slot) (c : Int) (cs : List Int) : ∃ (rs' : List Row) (ends' backs' : List Int) (belts' : List (Int × Int)) (t5 : B.Slot), Pw rs' ends' backs' belts' ∧ 1 ≤ rs'.length ∧
    sItems (gN 5) l1_law_parts_of ((c :: cs).map .int) [S0, some (1, .lst []), some (1, .lst []), some (1, .lst []), some (1, .lst []), none, none, none, none, none, none, none, none, none, none, none] =
      .ok .nx [S0, some (1, bsD belts'), some (1, rsD rs'), some (1, intsL ends'), some (1, intsL backs'), t5, none, none, none, none, none, none, none, none, none, none] := by
  have P0 : Pw [] [] [] [] := ⟨⟨List.Perm.refl _, List.Perm.refl _, fun b hb => (by cases hb)⟩, fun r hr => (by cases hr), by simp, by simp⟩
  obtain ⟨r1, e1, b1, l1, P1, _, q1, es⟩ := step_eq c [] [] [] [] P0
  have q := q1 rfl rfl rfl rfl
  obtain ⟨r2, e2, b2, l2, t5, P2, q2, e⟩ := steps_loop S0 cs r1 e1 b1 l1 (some (0, .int c)) P1
  refine ⟨r2, e2, b2, l2, t5, P2, by omega, ?_⟩
  have ht : fTurn (gN 5) l1_law_parts_of (.int c) [S0, some (1, .lst []), some (1, .lst []), some (1, .lst []), some (1, .lst []), none, none, none, none, none, none, none, none, none, none, none] =
      .inl [S0, some (1, bsD l1), some (1, rsD r1), some (1, intsL e1), some (1, intsL b1), some (0, .int c), none, none, none, none, none, none, none, none, none, none] := by
    replace es : f_law_step [(0, .int c), (1, .lst []), (1, .lst []), (1, .lst []), (1, .lst [])] = _ := es
    generalize bsD l1 = BD2 at *
    generalize rsD r1 = RD2 at *
    generalize intsL e1 = ED2 at *
    generalize intsL b1 = LD2 at *
    simp [fTurn, l1_law_parts_of, es]
  rw [List.map_cons, sItems_inl ht]
  exact e
theorem ends_loop (t : Int) (ht0 : 0 ≤ t ∧ t < 2147483647) (s0 s1 s3 s4 s5 : B.Slot) : ∀ (es : List Int) (rs : List Row) (s7 : B.Slot), (∀ e ∈ es, 0 ≤ e ∧ e ≤ 100) → (∀ r ∈ rs, r.Ok) → rs.length + es.length ≤ 1000 →
    ∃ (rs' : List Row) (t7 : B.Slot), (∀ r ∈ rs', r.Ok) ∧ Fo rs' = Fo rs ∧ Gi rs' = Gi rs ++ es ∧ rs'.length = rs.length + es.length ∧
    sItems (gN 7) l2_law_parts_of (es.map .int) [s0, s1, some (1, rsD rs), s3, s4, s5, some (0, .int t), s7, none, none, none, none, none, none, none, none] =
      .ok .nx [s0, s1, some (1, rsD rs'), s3, s4, s5, some (0, .int t), t7, none, none, none, none, none, none, none, none] := by
  intro es
  induction es with
  | nil => intro rs s7 _ hr _; exact ⟨rs, s7, hr, rfl, by simp, rfl, rfl⟩
  | cons x es ih =>
    intro rs s7 he hr hl
    have hx := he x (List.mem_cons_self ..)
    rw [List.length_cons] at hl
    have mx : mulOk x x := mulOk_r (by omega)
    have a3 : (rs.map Row.d).length < 10000 := by simp; omega
    have ro : Row.Ok ⟨.drain, [x], [], (t + x * x) % 5, []⟩ := ⟨⟨rfl, rfl⟩, by dsimp only; omega, fun z => absurd rfl z, rfl, fun z => (by cases z), fun z => (by cases z), fun _ _ => rfl⟩
    have hmm : (rs ++ [(⟨.drain, [x], [], (t + x * x) % 5, []⟩ : Row)]).map Row.d = rs.map Row.d ++ [.tup [.str "drain", .lst [.int x], .lst [], .lst [.int ((t + x * x) % 5)]]] := by simp [Row.d, Row.nums, Wd.s]
    have ht : fTurn (gN 7) l2_law_parts_of (.int x) [s0, s1, some (1, rsD rs), s3, s4, s5, some (0, .int t), s7, none, none, none, none, none, none, none, none] =
        .inl [s0, s1, some (1, rsD (rs ++ [⟨.drain, [x], [], (t + x * x) % 5, []⟩])), s3, s4, s5, some (0, .int t), some (0, .int x), none, none, none, none, none, none, none, none] := by
      simp only [rsD]
      rw [hmm]
      generalize rs.map Row.d = RL at *
      simp [fTurn, l2_law_parts_of, mx, appL, a3]
    obtain ⟨rs', t7, h1, h2, h3, h4, e⟩ := ih (rs ++ [⟨.drain, [x], [], (t + x * x) % 5, []⟩]) (some (0, .int x)) (fun y hy => he y (List.mem_cons_of_mem _ hy)) (fun y hy => by
      rcases List.mem_append.mp hy with hy | hy
      · exact hr y hy
      · rw [List.mem_singleton.mp hy]; exact ro) (by simp; omega)
    refine ⟨rs', t7, h1, ?_, ?_, by rw [h4]; simp; omega, by rw [List.map_cons, sItems_inl ht]; exact e⟩
    · rw [h2]; simp [Fo]
    · rw [h3]; simp [Gi]
theorem backs_loop (t : Int) (ht0 : 0 ≤ t ∧ t < 2147483647) (s0 s1 s3 s4 s5 : B.Slot) : ∀ (es : List Int) (rs : List Row) (s7 : B.Slot), (∀ e ∈ es, 0 ≤ e ∧ e ≤ 100) → (∀ r ∈ rs, r.Ok) → rs.length + es.length ≤ 1000 →
    ∃ (rs' : List Row) (t7 : B.Slot), (∀ r ∈ rs', r.Ok) ∧ Fo rs' = Fo rs ++ es ∧ Gi rs' = Gi rs ∧ rs'.length = rs.length + es.length ∧
    sItems (gN 7) l3_law_parts_of (es.map .int) [s0, s1, some (1, rsD rs), s3, s4, s5, some (0, .int t), s7, none, none, none, none, none, none, none, none] =
      .ok .nx [s0, s1, some (1, rsD rs'), s3, s4, s5, some (0, .int t), t7, none, none, none, none, none, none, none, none] := by
  intro es
  induction es with
  | nil => intro rs s7 _ hr _; exact ⟨rs, s7, hr, by simp, rfl, rfl, rfl⟩
  | cons x es ih =>
    intro rs s7 he hr hl
    have hx := he x (List.mem_cons_self ..)
    rw [List.length_cons] at hl
    have mx : mulOk t (x + 1) := mulOk_r (by omega)
    have d5 : divOk 5 := divOk_s (by decide) (by decide)
    have a3 : (rs.map Row.d).length < 10000 := by simp; omega
    obtain ⟨ks, k1, k2, k3, ek⟩ := kinds_eq (t * (x + 1))
    have ro : Row.Ok ⟨.source, [], [x], 1 + (t / 5 + x) % 4, ks⟩ := ⟨⟨rfl, rfl⟩, by dsimp only; omega, fun _ => (by dsimp only; omega), k1, fun _ => ⟨k2, k3⟩, fun z => (by cases z), fun z => absurd rfl z⟩
    have hmm : (rs ++ [(⟨.source, [], [x], 1 + (t / 5 + x) % 4, ks⟩ : Row)]).map Row.d = rs.map Row.d ++ [.tup [.str "source", .lst [], .lst [.int x], .lst (.int (1 + (t / 5 + x) % 4) :: ks.map .int)]] := by simp [Row.d, Row.nums, Wd.s]
    have ht : fTurn (gN 7) l3_law_parts_of (.int x) [s0, s1, some (1, rsD rs), s3, s4, s5, some (0, .int t), s7, none, none, none, none, none, none, none, none] =
        .inl [s0, s1, some (1, rsD (rs ++ [⟨.source, [], [x], 1 + (t / 5 + x) % 4, ks⟩])), s3, s4, s5, some (0, .int t), some (0, .int x), none, none, none, none, none, none, none, none] := by
      have a6 : 1 + (ks.map D.int).length ≤ 10000 := by simp; omega
      have a7 : (ks.map D.int).length + 1 ≤ 10000 := by simp; omega
      simp only [rsD]
      rw [hmm]
      simp only [intsL] at ek
      generalize rs.map Row.d = RL at *
      generalize ks.map D.int = KD at *
      simp [fTurn, l3_law_parts_of, mx, d5, ek, addV, appL, a3, a6, a7]
    obtain ⟨rs', t7, h1, h2, h3, h4, e⟩ := ih (rs ++ [⟨.source, [], [x], 1 + (t / 5 + x) % 4, ks⟩]) (some (0, .int x)) (fun y hy => he y (List.mem_cons_of_mem _ hy)) (fun y hy => by
      rcases List.mem_append.mp hy with hy | hy
      · exact hr y hy
      · rw [List.mem_singleton.mp hy]; exact ro) (by simp; omega)
    refine ⟨rs', t7, h1, ?_, ?_, by rw [h4]; simp; omega, by rw [List.map_cons, sItems_inl ht]; exact e⟩
    · rw [h2]; simp [Fo]
    · rw [h3]; simp [Gi]
/-- the belts' numbers moved round -/
def mvI (n m : Nat) (x : Int) : Int := (x + (m : Int)) % (n : Int)
def Row.mv (n m : Nat) (r : Row) : Row := { r with i := r.i.map (mvI n m), o := r.o.map (mvI n m) }
theorem rot_perm (n m : Nat) (hm : m < n) : ((rgI n).map (mvI n m)).Perm (rgI n) := by
  have e : (rgI n).map (mvI n m) = (rgI n).drop m ++ (rgI n).take m := by
    apply List.ext_getElem?
    intro i
    unfold rgI
    rw [List.map_map, List.getElem?_map, List.getElem?_append, List.getElem?_drop, List.getElem?_take]
    simp only [List.length_drop, List.length_map, List.length_range, List.getElem?_map]
    by_cases h1 : i < n
    · rw [List.getElem?_range h1]
      by_cases h2 : i < n - m
      · rw [if_pos h2, List.getElem?_range (by omega)]
        show some (mvI n m (i : Int)) = some ((m + i : Nat) : Int)
        unfold mvI
        rw [Int.emod_eq_of_lt (by omega) (by omega)]
        congr 1
        omega
      · rw [if_neg h2, if_pos (by omega), List.getElem?_range (by omega)]
        show some (mvI n m (i : Int)) = some ((i - (n - m) : Nat) : Int)
        unfold mvI
        rw [show (i : Int) + (m : Int) = ((i - (n - m) : Nat) : Int) + (n : Int) by omega, Int.add_emod_right, Int.emod_eq_of_lt (by omega) (by omega)]
    · rw [List.getElem?_eq_none (by simp; omega)]
      by_cases h2 : i < n - m
      · omega
      · rw [if_neg h2, if_neg (by omega)]
        rfl
  rw [e]
  refine List.perm_append_comm.trans ?_
  rw [List.take_append_drop]
theorem Row.Ok.mv {r : Row} (h : r.Ok) (n m : Nat) : (r.mv n m).Ok := by
  refine ⟨?_, h.p, h.p1, h.k, h.ks, h.kv, h.ko⟩
  have sh := h.sh
  show Row.Sh r.w (r.i.map _) (r.o.map _)
  cases hw : r.w <;> rw [hw] at sh <;> simp only [Row.Sh, List.length_map] at sh ⊢ <;> first | exact sh | (refine ⟨?_, sh.2⟩; rw [sh.1]; rfl) | (refine ⟨sh.1, ?_⟩; rw [sh.2]; rfl)
theorem Fo_mv (rs : List Row) (n m : Nat) : Fo (rs.map (Row.mv n m)) = (Fo rs).map (mvI n m) := by
  unfold Fo
  rw [List.map_map, List.map_flatten, List.map_map]
  rfl
theorem Gi_mv (rs : List Row) (n m : Nat) : Gi (rs.map (Row.mv n m)) = (Gi rs).map (mvI n m) := by
  unfold Gi
  rw [List.map_map, List.map_flatten, List.map_map]
  rfl
theorem Good.mv {rs : List Row} {belts : List (Int × Int)} (G : Good rs belts) (m : Nat) (hm : m < belts.length) : Good (rs.map (Row.mv belts.length m)) belts := by
  refine ⟨G.b, fun r hr => ?_, ?_, ?_, by rw [List.length_map]; exact G.n, G.l⟩
  · obtain ⟨r0, h0, rfl⟩ := List.mem_map.mp hr
    exact (G.r r0 h0).mv _ _
  · rw [Fo_mv]
    exact (G.o.map _).trans (rot_perm _ _ hm)
  · rw [Gi_mv]
    exact (G.i.map _).trans (rot_perm _ _ hm)
theorem flat_perm {g : Row → List Int} {rs dl : List Row} (p : dl.Perm rs) : (dl.map g).flatten.Perm (rs.map g).flatten := (p.map g).flatten
theorem Good.dealt {rs dl : List Row} {belts : List (Int × Int)} (h : Good rs belts) (p : dl.Perm rs) : Good dl belts :=
  ⟨h.b, fun r hr => h.r r (p.mem_iff.mp hr), (flat_perm p).trans h.o, (flat_perm p).trans h.i, by rw [p.length_eq]; exact h.n, h.l⟩
/-! knots made -/
theorem Good.belts {rs : List Row} {b1 b2 : List (Int × Int)} (h : Good rs b1) (p : b2.Perm b1) : Good rs b2 :=
  ⟨fun b hb => h.b b (p.mem_iff.mp hb), h.r, by rw [p.length_eq]; exact h.o, by rw [p.length_eq]; exact h.i, h.n, by rw [p.length_eq]; exact h.l⟩
theorem lc_mv (n m : Nat) (hn : 1 ≤ n ∧ n ≤ 100) (ρ : B.Env) (h7 : 7 < ρ.length) (h8 : ρ[8]? = some (some (0, .int n))) (h9 : ρ[9]? = some (some (0, .int m))) (xs : List Int) :
    lcItK 0 (gN 7) tYesF (eOp modD (eO2 addV (eV 7) (eV 9)) (eV 8)) ρ (xs.map .int) = .ok ((xs.map (mvI n m)).map .int) := by
  rw [List.map_map]
  refine lc_map D.int (D.int ∘ mvI n m) xs fun x _ => ?_
  have d : divOk (n : Int) := divOk_s (by omega) (by omega)
  have p : (0 : Int) < (n : Int) := by omega
  have p' : 0 < n := by omega
  have hs : (ρ.set 7 (some (0, D.int x)))[7]? = some (some (0, .int x)) := by rw [List.getElem?_set_self h7]
  have hs8 : (ρ.set 7 (some (0, D.int x)))[8]? = some (some (0, .int n)) := by rw [List.getElem?_set_ne (by decide), h8]
  have hs9 : (ρ.set 7 (some (0, D.int x)))[9]? = some (some (0, .int m)) := by rw [List.getElem?_set_ne (by decide), h9]
  simp [hs, hs8, hs9, d, p, p', mvI]
theorem mv_loop (n m : Nat) (hn : 1 ≤ n ∧ n ≤ 100) (s0 s1 s2 s3 s4 s5 s6 s7 : B.Slot) : ∀ (rs acc : List Row) (s12 s13 s14 s15 : B.Slot), (∀ r ∈ rs, r.Ok) → acc.length + rs.length ≤ 1000 → ∃ t12 t13 t14 t15,
    sItems (gT 4 (gsC (gN 12) (gsC (gN 13) (gsC (gN 14) (gsC (gN 15) gsN))))) l4_law_parts_of (rs.map Row.d) [s0, s1, s2, s3, s4, s5, s6, s7, some (0, .int n), some (0, .int m), some (1, rsD acc), none, s12, s13, s14, s15] =
      .ok .nx [s0, s1, s2, s3, s4, s5, s6, s7, some (0, .int n), some (0, .int m), some (1, rsD (acc ++ rs.map (Row.mv n m))), none, t12, t13, t14, t15] := by
  intro rs
  induction rs with
  | nil => intro acc s12 s13 s14 s15 _ _; exact ⟨s12, s13, s14, s15, by simp⟩
  | cons r rs ih =>
    intro acc s12 s13 s14 s15 hr hl
    rw [List.length_cons] at hl
    obtain ⟨t12, t13, t14, t15, e⟩ := ih (acc ++ [r.mv n m]) (some (0, .str r.w.s)) (some (0, intsL r.i)) (some (0, intsL r.o)) (some (0, intsL r.nums)) (fun x hx => hr x (List.mem_cons_of_mem _ hx)) (by simp; omega)
    refine ⟨t12, t13, t14, t15, ?_⟩
    have a3 : (acc.map Row.d).length < 10000 := by simp; omega
    have l1 := lc_mv n m hn [s0, s1, s2, s3, s4, s5, s6, none, some (0, .int n), some (0, .int m), some (1, rsD acc), none, some (0, .str r.w.s), some (0, intsL r.i), some (0, intsL r.o), some (0, intsL r.nums)] (by simp) rfl rfl
    have sh := (hr r (List.mem_cons_self ..)).sh
    have i4 : (r.i.map D.int).length ≤ 10000 := by
      rw [List.length_map]
      cases hw : r.w <;> rw [hw] at sh <;> simp [Row.Sh] at sh <;> first | omega | simp [sh]
    have o4 : (r.o.map D.int).length ≤ 10000 := by
      rw [List.length_map]
      cases hw : r.w <;> rw [hw] at sh <;> simp [Row.Sh] at sh <;> first | omega | simp [sh]
    have hmm : (acc ++ [r.mv n m]).map Row.d = acc.map Row.d ++ [.tup [.str r.w.s, .lst ((r.i.map (mvI n m)).map .int), .lst ((r.o.map (mvI n m)).map .int), intsL r.nums]] := by simp [Row.d, Row.mv, Row.nums]
    have li := l1 r.i
    have lo := l1 r.o
    have ht : fTurn (gT 4 (gsC (gN 12) (gsC (gN 13) (gsC (gN 14) (gsC (gN 15) gsN))))) l4_law_parts_of r.d [s0, s1, s2, s3, s4, s5, s6, s7, some (0, .int n), some (0, .int m), some (1, rsD acc), none, s12, s13, s14, s15] =
        .inl [s0, s1, s2, s3, s4, s5, s6, s7, some (0, .int n), some (0, .int m), some (1, rsD (acc ++ [r.mv n m])), none, some (0, .str r.w.s), some (0, intsL r.i), some (0, intsL r.o), some (0, intsL r.nums)] := by
      clear e l1
      simp only [rsD]
      rw [hmm]
      simp only [rsD, intsL, Row.d] at *
      generalize (r.i.map (mvI n m)).map D.int = I2 at *
      generalize (r.o.map (mvI n m)).map D.int = O2 at *
      generalize r.i.map D.int = ID at *
      generalize r.o.map D.int = OD at *
      generalize r.nums.map D.int = ND at *
      generalize (acc.map fun r => D.tup [.str r.w.s, .lst (r.i.map .int), .lst (r.o.map .int), .lst (r.nums.map .int)]) = AD at *
      generalize r.w.s = WS at *
      simp [fTurn, l4_law_parts_of, wipeE, li, lo, lcEndK_ok i4, lcEndK_ok o4, appL, a3]
    rw [List.map_cons, sItems_inl ht, List.map_cons, show acc ++ r.mv n m :: rs.map (Row.mv n m) = (acc ++ [r.mv n m]) ++ rs.map (Row.mv n m) by simp]
    exact e
theorem parts_eq (ns : List Int) (hl : ns.length ≤ 64) : ∃ (rs : List Row) (belts : List (Int × Int)) (k : Nat), Good rs belts ∧ f_law_parts_of [intsL ns] = .ok ⟨false, k, .tup [bsD belts, rsD rs]⟩ := by
  obtain ⟨c0, ec⟩ := cell_eq ns 0
  replace ec : f_law_cell_at [intsL ns, .int 0] = _ := ec
  obtain ⟨rs, ends, backs, belts, t5, P, h1, e1⟩ := first_step (some (0, intsL ns)) (ns.length : Int) ns
  have hPn := P.n
  have hPb := P.b
  have li := P.v.li
  have he : ∀ e ∈ ends, 0 ≤ e ∧ e ≤ 100 := fun x hx => by
    have := mem_rg (P.v.i.mem_iff.mp (List.mem_append.mpr (.inr hx)))
    omega
  have hb : ∀ e ∈ backs, 0 ≤ e ∧ e ≤ 100 := fun x hx => by
    have := mem_rg (P.v.o.mem_iff.mp (List.mem_append.mpr (.inr (List.mem_append.mpr (.inr hx)))))
    omega
  obtain ⟨t, ht⟩ : ∃ t : Int, (c0 * 16807 + ns.length) % 2147483647 = t := ⟨_, rfl⟩
  have ht0 : 0 ≤ t ∧ t < 2147483647 := by omega
  obtain ⟨rs1, t7, r1, f1, g1, n1, e2⟩ := ends_loop t ht0 (some (0, intsL ns)) (some (1, bsD belts)) (some (0, intsL ends)) (some (1, intsL backs)) t5 ends rs none he P.r (by omega)
  obtain ⟨rs2, t7', r2, f2, g2, n2, e3⟩ := backs_loop t ht0 (some (0, intsL ns)) (some (1, bsD belts)) (some (0, intsL ends)) (some (0, intsL backs)) t5 backs rs1 t7 hb r1 (by omega)
  have G2 : Good rs2 belts := by
    refine ⟨P.v.b, r2, ?_, ?_, by omega, hPb⟩
    · rw [f2, f1]
      exact P.v.o
    · rw [g2, g1]
      exact P.v.i
  have hn : 1 ≤ belts.length := by
    have lo := G2.o.length_eq
    have li := G2.i.length_eq
    rw [rgI_len] at lo li
    cases rs2 with
    | nil => simp at n2; omega
    | cons r rs2 =>
      have ro := r2 r (List.mem_cons_self ..)
      have e1 : (Fo (r :: rs2)).length = r.o.length + (Fo rs2).length := by simp [Fo]
      have e2 : (Gi (r :: rs2)).length = r.i.length + (Gi rs2).length := by simp [Gi]
      have sh := ro.sh
      cases hw : r.w <;> rw [hw] at sh
      · have := sh.2; omega
      · have := sh.1; omega
      · have := sh.2; omega
      · have := sh.2; omega
      · have := sh.2; omega
      · have := sh.2; omega
  obtain ⟨m, hm⟩ : ∃ m : Nat, t / 7 % (belts.length : Int) = m := ⟨(t / 7 % (belts.length : Int)).toNat, by
    have := Int.emod_nonneg (t / 7) (show (belts.length : Int) ≠ 0 by omega); omega⟩
  have hml : m < belts.length := by
    have := Int.emod_lt_of_pos (t / 7) (show (0 : Int) < (belts.length : Int) by omega)
    omega
  obtain ⟨t12, t13, t14, t15, e4⟩ := mv_loop belts.length m (by omega) (some (0, intsL ns)) (some (0, bsD belts)) (some (0, rsD rs2)) (some (0, intsL ends)) (some (0, intsL backs)) t5 (some (0, .int t)) t7' rs2 [] none none none none r2 (by simp; omega)
  rw [List.nil_append] at e4
  have G3 := G2.mv m hml
  generalize rs2.map (Row.mv belts.length m) = rs3 at *
  have n3 := G3.n
  obtain ⟨k, hk⟩ : ∃ k : Nat, t / 11 % (rs3.length : Int) = k := ⟨(t / 11 % (rs3.length : Int)).toNat, by
    have := Int.emod_nonneg (t / 11) (show (rs3.length : Int) ≠ 0 by omega); omega⟩
  have G4 : Good (rs3.drop k ++ rs3.take k) (belts.drop (belts.length - m) ++ belts.take (belts.length - m)) := by
    refine (G3.dealt ?_).belts ?_
    · refine List.perm_append_comm.trans ?_
      rw [List.take_append_drop]
    · refine List.perm_append_comm.trans ?_
      rw [List.take_append_drop]
  refine ⟨_, _, 0, G4, ?_⟩
  have m1 : mulOk c0 16807 := mulOk_r (by decide)
  have d7 : divOk 7 := divOk_s (by decide) (by decide)
  have d11 : divOk 11 := divOk_s (by decide) (by decide)
  have dn : divOk (belts.length : Int) := divOk_s (by omega) (by omega)
  have dr : divOk (rs3.length : Int) := divOk_s (by omega) (by omega)
  have pn : (0 : Int) < (belts.length : Int) := by omega
  have pr : (0 : Int) < (rs3.length : Int) := by omega
  have pn' : 0 < belts.length := by omega
  have pr' : 0 < rs3.length := by omega
  have bl : (belts.map bD).length = belts.length := by simp
  have rl : (rs3.map Row.d).length = rs3.length := by simp
  have nl : (ns.map D.int).length = ns.length := by simp
  have x1 : 1 + ns.length ≤ 10000 := by omega
  have x2 : ns.length + 1 ≤ 10000 := by omega
  have cb1 : cutD (belts.map bD) (some ((belts.length : Int) - (m : Int))) none = (belts.drop (belts.length - m)).map bD := by
    rw [show (belts.length : Int) - (m : Int) = ((belts.length - m : Nat) : Int) by omega, cutD_from, List.map_drop]
  have cb2 : cutD (belts.map bD) none (some ((belts.length : Int) - (m : Int))) = (belts.take (belts.length - m)).map bD := by
    rw [show (belts.length : Int) - (m : Int) = ((belts.length - m : Nat) : Int) by omega, cutD_to, List.map_take]
  have cr1 : cutD (rs3.map Row.d) (some (k : Int)) none = (rs3.drop k).map Row.d := by rw [cutD_from, List.map_drop]
  have cr2 : cutD (rs3.map Row.d) none (some (k : Int)) = (rs3.take k).map Row.d := by rw [cutD_to, List.map_take]
  have y1 : ((belts.drop (belts.length - m)).map bD).length + ((belts.take (belts.length - m)).map bD).length ≤ 10000 := by simp; omega
  have y2 : ((rs3.drop k).map Row.d).length + ((rs3.take k).map Row.d).length ≤ 10000 := by simp; omega
  rw [List.map_cons] at e1
  replace e4 : sItems (gT 4 (gsC (gN 12) (gsC (gN 13) (gsC (gN 14) (gsC (gN 15) gsN))))) l4_law_parts_of (rs2.map Row.d) [some (0, intsL ns), some (0, bsD belts), some (0, rsD rs2), some (0, intsL ends), some (0, intsL backs), t5, some (0, .int t), t7', some (0, .int belts.length), some (0, .int m), some (1, .lst []), none, none, none, none, none] = _ := e4
  simp only [bsD, rsD, List.map_append]
  clear G2 G3 G4 P
  simp only [intsL, bsD, rsD] at *
  generalize (belts.drop (belts.length - m)).map bD = B1 at *
  generalize (belts.take (belts.length - m)).map bD = B2 at *
  generalize (rs3.drop k).map Row.d = R1 at *
  generalize (rs3.take k).map Row.d = R2 at *
  generalize belts.map bD = BD at *
  generalize rs.map Row.d = RD0 at *
  generalize rs1.map Row.d = RD1 at *
  generalize rs2.map Row.d = RD2 at *
  generalize rs3.map Row.d = RD3 at *
  generalize ends.map D.int = ED at *
  generalize backs.map D.int = LD at *
  generalize ns.map D.int = ND at *
  show outF (b_law_parts_of [some (0, .lst ND), none, none, none, none, none, none, none, none, none, none, none, none, none, none, none]) = _
  rw [b_law_parts_of]
  have q0 : (sSet 1 (eFit 1 (eLst (aNil)))) [some (0, .lst ND), none, none, none, none, none, none, none, none, none, none, none, none, none, none, none] = .ok .nx [some (0, .lst ND), some (1, .lst []), none, none, none, none, none, none, none, none, none, none, none, none, none, none] := by
    simp
  rw [sSeq_eq, q0, RS.then_nx]
  have q1 : (sSet 2 (eFit 1 (eLst (aNil)))) [some (0, .lst ND), some (1, .lst []), none, none, none, none, none, none, none, none, none, none, none, none, none, none] = .ok .nx [some (0, .lst ND), some (1, .lst []), some (1, .lst []), none, none, none, none, none, none, none, none, none, none, none, none, none] := by
    simp
  rw [sSeq_eq, q1, RS.then_nx]
  have q2 : (sSet 3 (eFit 1 (eLst (aNil)))) [some (0, .lst ND), some (1, .lst []), some (1, .lst []), none, none, none, none, none, none, none, none, none, none, none, none, none] = .ok .nx [some (0, .lst ND), some (1, .lst []), some (1, .lst []), some (1, .lst []), none, none, none, none, none, none, none, none, none, none, none, none] := by
    simp
  rw [sSeq_eq, q2, RS.then_nx]
  have q3 : (sSet 4 (eFit 1 (eLst (aNil)))) [some (0, .lst ND), some (1, .lst []), some (1, .lst []), some (1, .lst []), none, none, none, none, none, none, none, none, none, none, none, none] = .ok .nx [some (0, .lst ND), some (1, .lst []), some (1, .lst []), some (1, .lst []), some (1, .lst []), none, none, none, none, none, none, none, none, none, none, none] := by
    simp
  rw [sSeq_eq, q3, RS.then_nx]
  have q4 : (sFor (iX (eO2 addV (eLst (aCons (eB1 lenV (eV 0)) (aNil))) (eV 0))) (gN 5) l1_law_parts_of) [some (0, .lst ND), some (1, .lst []), some (1, .lst []), some (1, .lst []), some (1, .lst []), none, none, none, none, none, none, none, none, none, none, none] = .ok .nx [some (0, .lst ND), some (1, .lst BD), some (1, .lst RD0), some (1, .lst ED), some (1, .lst LD), t5, none, none, none, none, none, none, none, none, none, none] := by
    simp [addV, nl, x1, x2]
    rw [e1]
  rw [sSeq_eq, q4, RS.then_nx]
  have q5 : (sSet 6 (eS (eOp modD (eO2 addV (eO2 mulV (eCall f_law_cell_at (aCons (eV 0) (aCons (eC (.int 0)) (aNil)))) (eC (.int 16807))) (eB1 lenV (eV 0))) (eC (.int 2147483647))))) [some (0, .lst ND), some (1, .lst BD), some (1, .lst RD0), some (1, .lst ED), some (1, .lst LD), t5, none, none, none, none, none, none, none, none, none, none] = .ok .nx [some (0, .lst ND), some (1, .lst BD), some (1, .lst RD0), some (1, .lst ED), some (1, .lst LD), t5, some (0, .int t), none, none, none, none, none, none, none, none, none] := by
    simp [ec, m1, nl, ht]
  rw [sSeq_eq, q5, RS.then_nx]
  have q6 : (sFz 3 (sFor (iX (eV 3)) (gN 7) l2_law_parts_of)) [some (0, .lst ND), some (1, .lst BD), some (1, .lst RD0), some (1, .lst ED), some (1, .lst LD), t5, some (0, .int t), none, none, none, none, none, none, none, none, none] = .ok .nx [some (0, .lst ND), some (1, .lst BD), some (1, .lst RD1), some (0, .lst ED), some (1, .lst LD), t5, some (0, .int t), t7, none, none, none, none, none, none, none, none] := by
    simp [sFz]
    rw [e2]
  rw [sSeq_eq, q6, RS.then_nx]
  have q7 : (sFz 4 (sFor (iX (eV 4)) (gN 7) l3_law_parts_of)) [some (0, .lst ND), some (1, .lst BD), some (1, .lst RD1), some (0, .lst ED), some (1, .lst LD), t5, some (0, .int t), t7, none, none, none, none, none, none, none, none] = .ok .nx [some (0, .lst ND), some (1, .lst BD), some (1, .lst RD2), some (0, .lst ED), some (0, .lst LD), t5, some (0, .int t), t7', none, none, none, none, none, none, none, none] := by
    simp [sFz]
    rw [e3]
  rw [sSeq_eq, q7, RS.then_nx]
  have q8 : (sFz 1 (sSet 8 (eS (eB1 lenV (eV 1))))) [some (0, .lst ND), some (1, .lst BD), some (1, .lst RD2), some (0, .lst ED), some (0, .lst LD), t5, some (0, .int t), t7', none, none, none, none, none, none, none, none] = .ok .nx [some (0, .lst ND), some (0, .lst BD), some (1, .lst RD2), some (0, .lst ED), some (0, .lst LD), t5, some (0, .int t), t7', some (0, .int belts.length), none, none, none, none, none, none, none] := by
    simp [sFz, bl]
  rw [sSeq_eq, q8, RS.then_nx]
  have q9 : (sSet 9 (eS (eOp modD (eOp fdivD (eV 6) (eC (.int 7))) (eV 8)))) [some (0, .lst ND), some (0, .lst BD), some (1, .lst RD2), some (0, .lst ED), some (0, .lst LD), t5, some (0, .int t), t7', some (0, .int belts.length), none, none, none, none, none, none, none] = .ok .nx [some (0, .lst ND), some (0, .lst BD), some (1, .lst RD2), some (0, .lst ED), some (0, .lst LD), t5, some (0, .int t), t7', some (0, .int belts.length), some (0, .int m), none, none, none, none, none, none] := by
    simp [d7, dn, pn, pn', hm]
  rw [sSeq_eq, q9, RS.then_nx]
  have q10 : (sSet 10 (eFit 1 (eLst (aNil)))) [some (0, .lst ND), some (0, .lst BD), some (1, .lst RD2), some (0, .lst ED), some (0, .lst LD), t5, some (0, .int t), t7', some (0, .int belts.length), some (0, .int m), none, none, none, none, none, none] = .ok .nx [some (0, .lst ND), some (0, .lst BD), some (1, .lst RD2), some (0, .lst ED), some (0, .lst LD), t5, some (0, .int t), t7', some (0, .int belts.length), some (0, .int m), some (1, .lst []), none, none, none, none, none] := by
    simp
  rw [sSeq_eq, q10, RS.then_nx]
  have q11 : (sFz 2 (sFor (iX (eV 2)) (gT 4 (gsC (gN 12) (gsC (gN 13) (gsC (gN 14) (gsC (gN 15) (gsN)))))) l4_law_parts_of)) [some (0, .lst ND), some (0, .lst BD), some (1, .lst RD2), some (0, .lst ED), some (0, .lst LD), t5, some (0, .int t), t7', some (0, .int belts.length), some (0, .int m), some (1, .lst []), none, none, none, none, none] = .ok .nx [some (0, .lst ND), some (0, .lst BD), some (0, .lst RD2), some (0, .lst ED), some (0, .lst LD), t5, some (0, .int t), t7', some (0, .int belts.length), some (0, .int m), some (1, .lst RD3), none, t12, t13, t14, t15] := by
    simp [sFz]
    rw [e4]
  rw [sSeq_eq, q11, RS.then_nx]
  have q12 : (sFz 10 (sSet 11 (eS (eOp modD (eOp fdivD (eV 6) (eC (.int 11))) (eB1 lenV (eV 10)))))) [some (0, .lst ND), some (0, .lst BD), some (0, .lst RD2), some (0, .lst ED), some (0, .lst LD), t5, some (0, .int t), t7', some (0, .int belts.length), some (0, .int m), some (1, .lst RD3), none, t12, t13, t14, t15] = .ok .nx [some (0, .lst ND), some (0, .lst BD), some (0, .lst RD2), some (0, .lst ED), some (0, .lst LD), t5, some (0, .int t), t7', some (0, .int belts.length), some (0, .int m), some (0, .lst RD3), some (0, .int k), t12, t13, t14, t15] := by
    simp [sFz, d11, rl, dr, pr, pr', hk]
  rw [sSeq_eq, q12, RS.then_nx]
  simp [bl, cb1, cb2, cr1, cr2, addV, y1, y2]
end K16
namespace K16
open PySem L2 B
/-! the work -/
theorem knot_eq (C : Str) (hC : cMem osA C = true) (is os : List Int) : f_Knot_init [(1, .obj C []), (0, intsL is), (0, intsL os)] = .ok (sh .non) [some (1, .obj C [("ins", intsL is), ("outs", intsL os)]), none, none] := by
  simp [f_Knot_init, runM, b_Knot_init, rhoM, putO, hC]
theorem is_eq (k : Int) : f_is_kind [.int k] = .ok (sh (.bl (kOk k))) := by
  have pw : powOk 10 30 := powOk_s (by decide) (by decide) (by decide)
  by_cases h : 0 ≤ k
  · simp [f_is_kind, runF, b_is_kind, rho0, pw, h, kOk]
  · simp [f_is_kind, runF, b_is_kind, rho0, pw, h, kOk]
theorem w_src (S o p ks : B.Slot) : ∀ (xs : List Int) (s4 : B.Slot), (xs.all kOk = true → ∃ t4, sItems (gN 4) l1_Source_init (xs.map .int) [S, o, p, ks, s4] = .ok .nx [S, o, p, ks, t4]) ∧
    (xs.all kOk = false → ∃ t4, sItems (gN 4) l1_Source_init (xs.map .int) [S, o, p, ks, s4] = .ex "BadKnot" [S, o, p, ks, t4]) := by
  intro xs
  induction xs with
  | nil => intro s4; exact ⟨fun _ => ⟨s4, rfl⟩, fun h => by simp at h⟩
  | cons x xs ih =>
    intro s4
    have e := is_eq x
    cases h : kOk x with
    | true =>
      rw [h] at e
      have ht : fTurn (gN 4) l1_Source_init (.int x) [S, o, p, ks, s4] = .inl [S, o, p, ks, some (0, .int x)] := by simp [fTurn, l1_Source_init, e]
      obtain ⟨a, b⟩ := ih (some (0, .int x))
      rw [List.all_cons, h, Bool.true_and, List.map_cons, sItems_inl ht]
      exact ⟨a, b⟩
    | false =>
      rw [h] at e
      have ht : fTurn (gN 4) l1_Source_init (.int x) [S, o, p, ks, s4] = .inr (.ex "BadKnot" [S, o, p, ks, some (0, .int x)]) := by simp [fTurn, l1_Source_init, e]
      rw [List.all_cons, h, Bool.false_and, List.map_cons, sItems_inr ht]
      exact ⟨fun z => (Bool.noConfusion z), fun _ => ⟨_, rfl⟩⟩
def Wd.C : Wd → Str
  | .source => "Source"
  | .drain => "Drain"
  | .parter => "Parter"
  | .first => "FirstParter"
  | .sieve => "Sieve"
  | .joiner => "Joiner"
def Row.x (r : Row) : List (Str × D) := match r.w with
  | .source => [("pace", .int r.p), ("kinds", intsL r.k)]
  | .drain => [("pace", .int r.p)]
  | .sieve => [("kind", .int (r.k.headD 0))]
  | _ => []
abbrev Row.ob (r : Row) : D := .obj r.w.C (("ins", intsL r.i) :: ("outs", intsL r.o) :: r.x)
theorem len1 {xs : List Int} (h : xs.length = 1) : ∃ x, xs = [x] := by
  match xs, h with
  | [x], _ => exact ⟨x, rfl⟩
/-! the work -/
theorem rgD_eq (n : Nat) : rgD 0 n = (rgI n).map .int := by
  unfold rgD rgI
  rw [List.map_map]
  simp
theorem w_once (S n : B.Slot) : ∀ (rows : List (List Int)) (acc : List Int) (s3 : B.Slot), acc.length + rows.flatten.length ≤ 9000 → ∃ t3, sItems (gN 3) l1_stand_once (rows.map intsL) [S, n, some (1, intsL acc), s3] = .ok .nx [S, n, some (1, intsL (acc ++ rows.flatten)), t3] := by
  intro rows
  induction rows with
  | nil => intro acc s3 _; exact ⟨s3, by simp⟩
  | cons r rows ih =>
    intro acc s3 hl
    rw [List.flatten_cons, List.length_append] at hl
    obtain ⟨t3, e⟩ := ih (acc ++ r) (some (0, intsL r)) (by rw [List.length_append]; omega)
    have l1 : acc.length + r.length ≤ 10000 := by omega
    have ht : fTurn (gN 3) l1_stand_once (intsL r) [S, n, some (1, intsL acc), s3] = .inl [S, n, some (1, intsL (acc ++ r)), some (0, intsL r)] := by
      simp [fTurn, l1_stand_once, extL, l1]
    exact ⟨t3, by rw [List.map_cons, sItems_inl ht, e]; simp⟩
theorem once_eq (rows : List (List Int)) (n : Nat) (hl : rows.flatten.length ≤ 9000) (hn : n ≤ 1000) (h : srt rows.flatten = rgI n) : f_stand_once [.lst (rows.map intsL), .int n] = .ok (sh (.bl true)) := by
  obtain ⟨t3, e⟩ := w_once (some (0, .lst (rows.map intsL))) (some (0, .int n)) rows [] none (by simpa using hl)
  replace e : sItems _ _ _ [some (0, .lst (rows.map intsL)), some (0, .int n), some (1, .lst []), none] = _ := e
  have r0 : lrR 0 (n : Int) = _ := lrR_ok (by omega) (by omega) (by omega) (by omega)
  have eq := eqV_self (b := false) (c := false) (k := 1) (l := 1) (dat_ints (rgI n))
  rw [rgD_eq] at r0
  generalize rows.flatten = F at *
  simp [f_stand_once, runF, b_stand_once, rho0]
  rw [e]
  simp [sFz, h, r0, eq]
theorem lc_outs (i : Nat) (ρ : B.Env) (hi : i < ρ.length) (kn : List Row) : lcItK 0 (gN i) tYesF (eFld osA "outs" (eV i)) ρ (kn.map Row.ob) = .ok ((kn.map Row.o).map intsL) := by
  rw [List.map_map]
  refine lc_map Row.ob (intsL ∘ Row.o) kn fun k _ => ?_
  simp only [eFld_eq, eV_eq, List.getElem?_set_self hi, slotV_sh, R.bind_ok]
  obtain ⟨w, i, o, p, kk⟩ := k
  cases w <;> simp [Row.ob, Wd.C, Row.x]
theorem lc_ins (i : Nat) (ρ : B.Env) (hi : i < ρ.length) (kn : List Row) : lcItK 0 (gN i) tYesF (eFld osA "ins" (eV i)) ρ (kn.map Row.ob) = .ok ((kn.map Row.i).map intsL) := by
  rw [List.map_map]
  refine lc_map Row.ob (intsL ∘ Row.i) kn fun k _ => ?_
  simp only [eFld_eq, eV_eq, List.getElem?_set_self hi, slotV_sh, R.bind_ok]
  obtain ⟨w, i, o, p, kk⟩ := k
  cases w <;> simp [Row.ob, Wd.C, Row.x]
abbrev blD (b : Int × Int) : D := .obj "Belt" [("room", .int b.1), ("pace", .int b.2)]
theorem belt_new (b : Int × Int) (h : bOk b) : newR (f_Belt_init [(1, .obj "Belt" []), (0, .int b.1), (0, .int b.2)]) = .ok ⟨false, 1, blD b⟩ := by
  obtain ⟨⟨a, b'⟩, c, d⟩ := h
  have n1 : ¬ b.1 < 1 := by omega
  have n2 : ¬ 6 < b.1 := by omega
  have n3 : ¬ b.2 < 1 := by omega
  have n4 : ¬ 4 < b.2 := by omega
  simp [f_Belt_init, runM, b_Belt_init, rhoM, n1, n2, n3, n4, putO]
abbrev workD (rs : List Row) (belts : List (Int × Int)) : D := .obj "Work" [("belts", .lst (belts.map blD)), ("knots", .lst (rs.map Row.ob))]
theorem srt_rg {xs : List Int} {n : Nat} (p : xs.Perm (rgI n)) : srt xs = rgI n := by
  refine sorted_unique ((srt_perm xs).trans p) (srt_sorted xs) ?_
  unfold rgI
  rw [List.pairwise_map]
  exact List.pairwise_lt_range.imp fun h => by omega
theorem work_new (rs : List Row) (belts : List (Int × Int)) (h : Good rs belts) : newR (f_Work_init [(1, .obj "Work" []), (0, .lst (belts.map blD)), (0, .lst (rs.map Row.ob))]) = .ok ⟨false, 1, workD rs belts⟩ := by
  have lo' := h.o.length_eq
  have li' := h.i.length_eq
  rw [rgI_len] at lo' li'
  have hl := h.l
  obtain ⟨c, d⟩ := h.n
  have hb1 : 1 ≤ belts.length := by
    cases rs with
    | nil => simp at c
    | cons r rs =>
      have ro := h.r r (List.mem_cons_self ..)
      have e1 : (Fo (r :: rs)).length = r.o.length + (Fo rs).length := by simp [Fo]
      have e2 : (Gi (r :: rs)).length = r.i.length + (Gi rs).length := by simp [Gi]
      have sh := ro.sh
      cases hw : r.w <;> rw [hw] at sh
      · have := sh.2; omega
      · have := sh.1; omega
      · have := sh.1; omega
      · have := sh.1; omega
      · have := sh.1; omega
      · have := sh.2; omega
  have o1 := once_eq (rs.map Row.o) belts.length (by show (Fo rs).length ≤ 9000; omega) (by omega) (srt_rg h.o)
  have i1 := once_eq (rs.map Row.i) belts.length (by show (Gi rs).length ≤ 9000; omega) (by omega) (srt_rg h.i)
  have lo := lc_outs 3 [some (1, .obj "Work" []), some (0, .lst (belts.map blD)), some (0, .lst (rs.map Row.ob)), none] (by simp) rs
  have li := lc_ins 3 [some (1, .obj "Work" []), some (0, .lst (belts.map blD)), some (0, .lst (rs.map Row.ob)), none] (by simp) rs
  have bl : (belts.map blD).length = belts.length := by simp
  have kl : (rs.map Row.ob).length = rs.length := by simp
  rw [List.map_map] at o1 i1 lo li
  rw [← bl] at o1 i1 hl hb1
  rw [← kl] at c d
  have ll : (rs.map Row.ob).length ≤ 10000 := by omega
  simp only [workD]
  generalize belts.map blD = BL at *
  generalize rs.map Row.ob = KL at *
  generalize rs.map (intsL ∘ Row.o) = OO at *
  generalize rs.map (intsL ∘ Row.i) = II at *
  have n1 : ¬ (BL.length : Int) < 1 := by omega
  have n2 : ¬ (24 : Int) < BL.length := by omega
  have n3 : ¬ (KL.length : Int) < 1 := by omega
  have n4 : ¬ (24 : Int) < KL.length := by omega
  have m1 : BL ≠ [] := by intro z; rw [z] at hb1; simp at hb1
  have m3 : KL ≠ [] := by intro z; rw [z] at c; simp at c
  have m2 : ¬ 24 < BL.length := by omega
  have m4 : ¬ 24 < KL.length := by omega
  simp [f_Work_init, runM, b_Work_init, rhoM, n1, n2, n3, n4, m1, m2, m3, m4, wipeE, lo, lcEndK_ok ll, o1, li, i1, putO]
/-! looked at -/
end K16
namespace K16
open PySem L2 B
/-! a work as it shall be -/
theorem cut_1f (x : D) (X : List D) : cutD (x :: X) (some 1) none = X := by
  have := cutD_from (x :: X) 1
  rw [show ((1 : Nat) : Int) = 1 from rfl] at this
  rw [this]; rfl
end K16
namespace K16
open PySem L2 B
/-! texts -/
abbrev nS (x : Int) : Str := PySem.Str.ofString (toString x)
def big (x : Int) : Prop := 0 ≤ x ∧ x < 10 ^ 30
theorem lg {v : Int} (h : big v) : v.natAbs.log2 < 1920 := by
  by_cases hz : v.natAbs = 0
  · rw [hz]; decide
  · have := h.2
    have := h.1
    exact (Nat.log2_lt hz).mpr (Nat.lt_trans (m := 1000000000000000000000000000000) (by omega) (by decide))
theorem nS_len {v : Int} (h : big v) : (nS v).length ≤ 30 := PyProof.Rows.toString_length_le h.1 (by decide) h.2
theorem len_app (a b : Str) : (a ++ b).length = a.length + b.length := PySem.Str.length_append a b
theorem sj_cons0 (y : Str) (ys : List Str) : PySem.Str.join ("" : Str) (y :: ys) = y ++ PySem.Str.join ("" : Str) ys := by
  cases ys with
  | nil => exact (PySem.Str.append_empty y).symm
  | cons z zs =>
    show y ++ ("" : Str) ++ PySem.Str.join ("" : Str) (z :: zs) = _
    rw [show (("" : Str)) = PySem.Str.empty from by decide, PySem.Str.append_empty]
theorem join_txt (w : Str) : ∀ xs : List Str, PySem.Str.join (" " : Str) (w :: xs) = w ++ PySem.Str.join ("" : Str) (xs.map fun x => (" " : Str) ++ x)
  | [] => (PySem.Str.append_empty w).symm
  | x :: xs => by
    show w ++ (" " : Str) ++ PySem.Str.join (" " : Str) (x :: xs) = _
    rw [join_txt x xs, List.map_cons, sj_cons0, PySem.Str.append_assoc, PySem.Str.append_assoc]
/-- the row: word and numbers -/
def rowT (w : Str) (xs : List Int) : Str := PySem.Txt.join (" " : Str) (w :: xs.map nS)
theorem rowT_eq (w : Str) (xs : List Int) : rowT w xs = w ++ PySem.Txt.join ("" : Str) (xs.map fun x => (" " : Str) ++ nS x) := by
  unfold rowT PySem.Txt.join
  rw [PySem.StrLaws.glued_eq_join, PySem.StrLaws.glued_eq_join, join_txt, List.map_map]
  rfl
theorem sum_le {α : Type} (f : α → Nat) (m : Nat) : ∀ xs : List α, (∀ x ∈ xs, f x ≤ m) → (xs.map f).sum ≤ xs.length * m
  | [], _ => by simp
  | x :: xs, h => by
    have h1 := h x (List.mem_cons_self ..)
    have h2 := sum_le f m xs fun y hy => h y (List.mem_cons_of_mem _ hy)
    rw [List.map_cons, List.sum_cons, List.length_cons, Nat.succ_mul]
    omega
theorem rowT_fit (w : Str) (xs : List Int) (hw : w.length ≤ 10) (hx : ∀ x ∈ xs, big x) (hl : xs.length ≤ 8) : ((w :: xs.map nS).map (·.length)).sum + (w :: xs.map nS).length * (" " : Str).length ≤ 259 := by
  have h := sum_le (fun x => (nS x).length) 30 xs fun x hx' => nS_len (hx x hx')
  have e : ((xs.map nS).map (·.length)) = xs.map fun x => (nS x).length := by rw [List.map_map]; rfl
  rw [List.map_cons, List.sum_cons, e, List.length_cons, List.length_map, show (" " : Str).length = 1 from by decide]
  omega
theorem rowT_len (w : Str) (xs : List Int) (hw : w.length ≤ 10) (hx : ∀ x ∈ xs, big x) (hl : xs.length ≤ 8) : (rowT w xs).length ≤ 259 := by
  unfold rowT PySem.Txt.join
  rw [PySem.StrLaws.glued_eq_join]
  exact Nat.le_trans (PySem.StrLaws.join_length_le _ _) (rowT_fit w xs hw hx hl)
/-- the numbers of a row -/
def Row.due (r : Row) : List Int := if r.w = .joiner then r.o ++ r.i else r.i ++ r.o ++ r.nums
theorem kOk_big {k : Int} (h : kOk k = true) : big k := by
  simp only [kOk, Bool.and_eq_true, decide_eq_true_eq] at h
  exact h
theorem all_kOk {ks : List Int} (h : ks.all kOk = true) : ∀ k ∈ ks, big k := fun k hk => kOk_big (List.all_eq_true.mp h k hk)
theorem small_big {x : Int} (h : 0 ≤ x ∧ x < 100) : big x := ⟨h.1, Int.lt_trans h.2 (by decide)⟩
theorem due_ok {rs : List Row} {belts : List (Int × Int)} (G : Good rs belts) {r : Row} (hr : r ∈ rs) : (∀ x ∈ r.due, big x) ∧ r.due.length ≤ 8 := by
  have ro := G.r r hr
  have hl := G.l
  have fi : ∀ x ∈ r.i, big x := fun x hx => small_big (by
    have := mem_rg (G.i.mem_iff.mp (List.mem_flatten.mpr ⟨r.i, List.mem_map.mpr ⟨r, hr, rfl⟩, hx⟩)); omega)
  have fo : ∀ x ∈ r.o, big x := fun x hx => small_big (by
    have := mem_rg (G.o.mem_iff.mp (List.mem_flatten.mpr ⟨r.o, List.mem_map.mpr ⟨r, hr, rfl⟩, hx⟩)); omega)
  have pp : big r.p := small_big (by have := ro.p; omega)
  have kk := all_kOk ro.k
  have sh := ro.sh
  have ks := ro.ks
  have kv := ro.kv
  unfold Row.due Row.nums
  constructor
  · intro x hx
    cases hw : r.w <;> rw [hw] at hx <;> simp at hx <;> first
      | (rcases hx with hx | hx | hx | hx <;> first | exact fi x hx | exact fo x hx | (rw [hx]; exact pp) | exact kk x hx)
      | (rcases hx with hx | hx | hx <;> first | exact fi x hx | exact fo x hx | (rw [hx]; exact pp) | exact kk x hx)
      | (rcases hx with hx | hx <;> first | exact fi x hx | exact fo x hx | (rw [hx]; exact pp) | exact kk x hx)
  · cases hw : r.w <;> rw [hw] at sh <;> simp [Row.Sh] at sh
    · have := ks hw; simp [sh]; omega
    · simp [sh]
    · simp; omega
    · simp; omega
    · have := kv hw; simp; omega
    · simp; omega
theorem word_len (w : Wd) : (Wd.s w).length ≤ 10 := by cases w <;> decide
theorem rowT_len2 (w : Str) (xs : List Int) (hx : ∀ x ∈ xs, big x) : (rowT w xs).length ≤ w.length + xs.length * 31 + 1 := by
  unfold rowT PySem.Txt.join
  rw [PySem.StrLaws.glued_eq_join]
  refine Nat.le_trans (PySem.StrLaws.join_length_le _ _) ?_
  have h := sum_le (fun x => (nS x).length) 30 xs fun x hx' => nS_len (hx x hx')
  have e : ((xs.map nS).map (·.length)) = xs.map fun x => (nS x).length := by rw [List.map_map]; rfl
  rw [List.map_cons, List.sum_cons, e, List.length_cons, List.length_map, show (" " : Str).length = 1 from by decide]
  omega
/-! the whole text -/
def bT (b : Int × Int) : Str := rowT "belt" [b.1, b.2]
def kT (r : Row) : Str := rowT r.w.s r.due
def rowsT (rs : List Row) (belts : List (Int × Int)) : List Str := belts.map bT ++ rs.map kT
theorem b_big {b : Int × Int} (h : bOk b) : ∀ x ∈ [b.1, b.2], big x := fun x hx => by
  have h1 := h.1
  have h2 := h.2
  simp at hx
  rcases hx with rfl | rfl
  · exact small_big (by omega)
  · exact small_big (by omega)
theorem rowsT_fit {rs : List Row} {belts : List (Int × Int)} (G : Good rs belts) : ((rowsT rs belts).map (·.length)).sum + (rowsT rs belts).length * ("\n" : Str).length ≤ 10000 := by
  have hn := G.n
  have hl := G.l
  have h1 := sum_le (fun b => (bT b).length) 67 belts fun b hb => by
    have := rowT_len2 "belt" [b.1, b.2] (b_big (G.b b hb))
    rw [show ("belt" : Str).length = 4 from by decide] at this
    exact this
  have h2 := sum_le (fun r => (kT r).length) 259 rs fun r hr => rowT_len _ _ (word_len _) (due_ok G hr).1 (due_ok G hr).2
  have e : (rowsT rs belts).map (·.length) = (belts.map fun b => (bT b).length) ++ rs.map fun r => (kT r).length := by
    unfold rowsT
    rw [List.map_append, List.map_map, List.map_map]
    rfl
  have e2 : (rowsT rs belts).length = belts.length + rs.length := by unfold rowsT; simp
  rw [e, List.sum_append, e2, show ("\n" : Str).length = 1 from by decide]
  omega
/-! the law's rows -/
theorem bT_eq (b : Int × Int) : (("belt " : Str) ++ nS b.1) ++ (" " : Str) ++ nS b.2 = bT b := by
  unfold bT
  rw [rowT_eq]
  unfold PySem.Txt.join
  rw [PySem.StrLaws.glued_eq_join]
  show _ = ("belt" : Str) ++ ((" " : Str) ++ nS b.1 ++ ("" : Str) ++ ((" " : Str) ++ nS b.2))
  rw [show (("" : Str)) = PySem.Str.empty from by decide, PySem.Str.append_empty, show ("belt " : Str) = ("belt" : Str) ++ (" " : Str) from by decide]
  simp only [PySem.Str.append_assoc]
theorem lc_lbelts (a0 a2 a3 a4 a5 a6 a9 : B.Slot) : ∀ bs : List (Int × Int), (∀ b ∈ bs, bOk b) → lcItK 0 (gT 2 (gsC (gN 7) (gsC (gN 8) gsN))) tYesF (eO2 addV (eO2 addV (eO2 addV (eC (.str "belt ")) (eB1 strV (eV 7))) (eC (.str " "))) (eB1 strV (eV 8))) [a0, none, a2, a3, a4, a5, a6, none, none, a9] (bs.map bD) = .ok ((bs.map bT).map .str) := by
  intro bs
  induction bs with
  | nil => intro _; rfl
  | cons b bs ih =>
    intro h
    have hb := b_big (h b (List.mem_cons_self ..))
    have e2 := ih fun x hx => h x (List.mem_cons_of_mem _ hx)
    have g1 := lg (hb b.1 (by simp))
    have g2 := lg (hb b.2 (by simp))
    have n1 := nS_len (hb b.1 (by simp))
    have n2 := nS_len (hb b.2 (by simp))
    have et := bT_eq b
    have k1 : ("belt " : Str).length = 5 := by decide
    have k2 : (" " : Str).length = 1 := by decide
    have s1 : ("belt " : Str).length + (nS b.1).length ≤ 10000 := by omega
    have s2 : (("belt " : Str) ++ nS b.1).length + (" " : Str).length ≤ 10000 := by rw [len_app]; omega
    have s3 : ((("belt " : Str) ++ nS b.1) ++ (" " : Str)).length + (nS b.2).length ≤ 10000 := by rw [len_app, len_app]; omega
    have st1 : strV (sh (.int b.1)) = .ok (sh (.str (nS b.1))) := by
      show (if b.1.natAbs.log2 < 1920 then R.ok (sh (.str (nS b.1))) else .bad) = _
      rw [if_pos g1]
    have st2 : strV (sh (.int b.2)) = .ok (sh (.str (nS b.2))) := by
      show (if b.2.natAbs.log2 < 1920 then R.ok (sh (.str (nS b.2))) else .bad) = _
      rw [if_pos g2]
    rw [List.map_cons, lcItK_cons]
    rw [List.map_cons, List.map_cons, ← et]
    clear et k1 n1 n2 g1 g2
    generalize nS b.1 = N1 at *
    generalize nS b.2 = N2 at *
    simp [tYesF, -strV_i, st1, st2, s1, s2, s3, e2]
theorem lc_sp (a0 a1 a2 a3 a4 a5 a6 a7 a8 : B.Slot) : ∀ xs : List Int, (∀ x ∈ xs, big x) → lcItK 0 (gN 9) tYesF (eO2 addV (eC (.str " ")) (eB1 strV (eV 9))) [a0, a1, a2, a3, a4, a5, a6, a7, a8, none] (xs.map .int) = .ok ((xs.map fun x => (" " : Str) ++ nS x).map .str) := by
  intro xs
  induction xs with
  | nil => intro _; rfl
  | cons x xs ih =>
    intro h
    have hx := h x (List.mem_cons_self ..)
    have e2 := ih fun y hy => h y (List.mem_cons_of_mem _ hy)
    have g1 := lg hx
    have n1 := nS_len hx
    have k2 : (" " : Str).length = 1 := by decide
    have s1 : (" " : Str).length + (nS x).length ≤ 10000 := by omega
    have st1 : strV (sh (.int x)) = .ok (sh (.str (nS x))) := by
      show (if x.natAbs.log2 < 1920 then R.ok (sh (.str (nS x))) else .bad) = _
      rw [if_pos g1]
    rw [List.map_cons, List.map_cons, List.map_cons, lcItK_cons]
    clear n1 g1 k2
    generalize nS x = N1 at *
    simp [tYesF, -strV_i, st1, s1, e2]
theorem rows_turn (a0 a7 a8 : B.Slot) (acc : List Str) (hl : acc.length ≤ 1000) (r : Row) (hd : ((∀ x ∈ r.due, big x) ∧ r.due.length ≤ 8)) (ro : r.Ok) (s2 s3 s4 s5 s6 : B.Slot) : ∃ t6,
    fTurn (gT 4 (gsC (gN 2) (gsC (gN 3) (gsC (gN 4) (gsC (gN 5) gsN))))) l1_law_rows_of r.d [a0, some (1, .lst (acc.map .str)), s2, s3, s4, s5, s6, a7, a8, none] =
      .inl [a0, some (1, .lst ((acc ++ [kT r]).map .str)), some (0, .str r.w.s), some (0, intsL r.i), some (0, intsL r.o), some (0, intsL r.nums), t6, a7, a8, none] := by
  obtain ⟨d1, d2⟩ := hd
  refine ⟨some (0, intsL r.due), ?_⟩
  have lc := lc_sp a0 (some (1, .lst (acc.map .str))) (some (0, .str r.w.s)) (some (0, intsL r.i)) (some (0, intsL r.o)) (some (0, intsL r.nums)) (some (0, intsL r.due)) a7 a8 r.due d1
  have fit := rowT_fit r.w.s r.due (word_len _) d1 d2
  have jl : ((r.due.map fun x => (" " : Str) ++ nS x).map (·.length)).sum + (r.due.map fun x => (" " : Str) ++ nS x).length * ("" : Str).length ≤ 10000 := by
    have h := sum_le (fun x => ((" " : Str) ++ nS x).length) 31 r.due fun x hx => by
      rw [len_app, show (" " : Str).length = 1 from by decide]
      have := nS_len (d1 x hx)
      omega
    rw [List.map_map, show ("" : Str).length = 0 from by decide]
    have e : ((fun x : Str => x.length) ∘ fun x => (" " : Str) ++ nS x) = fun x => ((" " : Str) ++ nS x).length := rfl
    rw [e]
    omega
  have j := joinO_map ("" : Str) (r.due.map fun x => (" " : Str) ++ nS x) jl
  have ke : r.w.s ++ PySem.Txt.join ("" : Str) (r.due.map fun x => (" " : Str) ++ nS x) = kT r := (rowT_eq _ _).symm
  have kl : r.w.s.length + (PySem.Txt.join ("" : Str) (r.due.map fun x => (" " : Str) ++ nS x)).length ≤ 10000 := by
    have := word_len r.w
    unfold PySem.Txt.join at *
    rw [PySem.StrLaws.glued_eq_join] at *
    have := Nat.le_trans (PySem.StrLaws.join_length_le _ _) jl
    have h := sum_le (fun x => ((" " : Str) ++ nS x).length) 31 r.due fun x hx => by
      rw [len_app, show (" " : Str).length = 1 from by decide]
      have := nS_len (d1 x hx)
      omega
    have e : ((r.due.map fun x => (" " : Str) ++ nS x).map (·.length)) = r.due.map fun x => ((" " : Str) ++ nS x).length := by rw [List.map_map]; rfl
    have h3 := PySem.StrLaws.join_length_le ("" : Str) (r.due.map fun x => (" " : Str) ++ nS x)
    rw [e, show ("" : Str).length = 0 from by decide] at h3
    omega
  have dl : (r.due.map D.int).length ≤ 10000 := by simp; omega
  have al : (acc.map D.str).length < 10000 := by simp; omega
  have sh := ro.sh
  have iol : r.i.length + r.o.length ≤ 10 := by
    cases hw : r.w <;> rw [hw] at sh <;> simp [Row.Sh] at sh <;> first | (simp [sh]; done) | omega | (rw [sh.1]; simp; omega) | (rw [sh.2]; simp; omega)
  have nl : r.nums.length ≤ 10 := by
    unfold Row.nums
    cases hw : r.w <;> simp
    · have := ro.ks hw; omega
    · have := ro.kv hw; omega
  have x1 : (r.i.map D.int).length + (r.o.map D.int).length ≤ 10000 := by simp; omega
  have x2 : (r.o.map D.int).length + (r.i.map D.int).length ≤ 10000 := by simp; omega
  have x3 : (r.i.map D.int).length + (r.o.map D.int).length + (r.nums.map D.int).length ≤ 10000 := by simp; omega
  have x4 : (r.i.map D.int).length + ((r.o.map D.int).length + (r.nums.map D.int).length) ≤ 10000 := by omega
  have hd : r.due.map D.int = if r.w = .joiner then r.o.map .int ++ r.i.map .int else r.i.map .int ++ r.o.map .int ++ r.nums.map .int := by
    unfold Row.due
    split <;> simp
  rw [List.map_append, List.map_singleton, ← ke]
  simp only [Row.d, intsL] at *
  generalize PySem.Txt.join ("" : Str) (r.due.map fun x => (" " : Str) ++ nS x) = J at *
  generalize (r.due.map fun x => (" " : Str) ++ nS x).map D.str = SD at *
  rw [hd] at lc dl ⊢
  generalize r.i.map D.int = ID at *
  generalize r.o.map D.int = OD at *
  generalize r.nums.map D.int = ND at *
  generalize acc.map D.str = AD at *
  by_cases hJ : r.w = .joiner
  · rw [if_pos hJ] at lc dl ⊢
    have hs : r.w.s = ("joiner" : Str) := by rw [hJ]; rfl
    rw [hs] at lc kl ⊢
    rw [List.length_append] at dl
    simp [fTurn, l1_law_rows_of, addV, x1, x2, x3, x4, wipeE, lc, lcEndK_ok dl, j, kl, appL, al]
  · rw [if_neg hJ] at lc dl ⊢
    have hn : (r.w.s = ("joiner" : Str)) = False := by
      cases hw : r.w <;> simp [Wd.s] <;> exact absurd hw hJ
    generalize r.w.s = WS at *
    rw [List.append_assoc] at lc dl ⊢
    rw [List.length_append, List.length_append] at dl
    simp [fTurn, l1_law_rows_of, hn, addV, x1, x2, x3, x4, wipeE, lc, lcEndK_ok dl, j, kl, appL, al]
theorem rows_loop (a0 a7 a8 : B.Slot) : ∀ (rs : List Row) (acc : List Str) (s2 s3 s4 s5 s6 : B.Slot), (∀ r ∈ rs, ((∀ x ∈ r.due, big x) ∧ r.due.length ≤ 8) ∧ r.Ok) → acc.length + rs.length ≤ 1000 → ∃ t2 t3 t4 t5 t6,
    sItems (gT 4 (gsC (gN 2) (gsC (gN 3) (gsC (gN 4) (gsC (gN 5) gsN))))) l1_law_rows_of (rs.map Row.d) [a0, some (1, .lst (acc.map .str)), s2, s3, s4, s5, s6, a7, a8, none] =
      .ok .nx [a0, some (1, .lst ((acc ++ rs.map kT).map .str)), t2, t3, t4, t5, t6, a7, a8, none] := by
  intro rs
  induction rs with
  | nil => intro acc s2 s3 s4 s5 s6 _ _; exact ⟨s2, s3, s4, s5, s6, by simp⟩
  | cons r rs ih =>
    intro acc s2 s3 s4 s5 s6 h hl
    rw [List.length_cons] at hl
    obtain ⟨u6, ht⟩ := rows_turn a0 a7 a8 acc (by omega) r (h r (List.mem_cons_self ..)).1 (h r (List.mem_cons_self ..)).2 s2 s3 s4 s5 s6
    obtain ⟨t2, t3, t4, t5, t6, e⟩ := ih (acc ++ [kT r]) (some (0, .str r.w.s)) (some (0, intsL r.i)) (some (0, intsL r.o)) (some (0, intsL r.nums)) u6 (fun x hx => h x (List.mem_cons_of_mem _ hx)) (by simp; omega)
    refine ⟨t2, t3, t4, t5, t6, ?_⟩
    rw [List.map_cons, sItems_inl ht, List.map_cons, show acc ++ kT r :: rs.map kT = (acc ++ [kT r]) ++ rs.map kT by simp]
    exact e
theorem rows_gen (rs : List Row) (belts : List (Int × Int)) (hb : ∀ b ∈ belts, bOk b) (hr : ∀ r ∈ rs, ((∀ x ∈ r.due, big x) ∧ r.due.length ≤ 8) ∧ r.Ok) (hl : belts.length ≤ 100) (hn : rs.length ≤ 100) : f_law_rows_of [.tup [bsD belts, rsD rs]] = .ok ⟨false, 1, .lst ((rowsT rs belts).map .str)⟩ := by
  have l1 := lc_lbelts (some (0, .tup [bsD belts, rsD rs])) none none none none none none belts hb
  obtain ⟨t2, t3, t4, t5, t6, e⟩ := rows_loop (some (0, .tup [bsD belts, rsD rs])) none none rs (belts.map bT) none none none none none hr (by simp; omega)
  have bl : (belts.map bD).length ≤ 10000 := by simp; omega
  unfold rowsT
  generalize (belts.map bT ++ rs.map kT).map D.str = RT at *
  generalize (belts.map bT).map D.str = BT at *
  simp only [bsD, rsD] at *
  generalize belts.map bD = BD at *
  generalize rs.map Row.d = RD at *
  simp [f_law_rows_of, runF, b_law_rows_of, rho0, wipeE, l1, lcEndK_ok bl]
  rw [e]
  simp
theorem rows_of_eq (rs : List Row) (belts : List (Int × Int)) (G : Good rs belts) : f_law_rows_of [.tup [bsD belts, rsD rs]] = .ok ⟨false, 1, .lst ((rowsT rs belts).map .str)⟩ :=
  rows_gen rs belts G.b (fun r hr => ⟨due_ok G hr, G.r r hr⟩) (by have := G.l; omega) (by have := G.n; omega)
end K16
namespace K16
open PySem L2 B
/-! the two readings -/
open SX in
def dg (c : Nat) : Bool := decide (48 ≤ c) && decide (c ≤ 57)
def figs : List Nat := [48, 49, 50, 51, 52, 53, 54, 55, 56, 57]
theorem figs_eq : ("0123456789" : Str) = SX.S figs := by decide +kernel
theorem mem_figs (c : Nat) : decide (c ∈ figs) = dg c := by
  unfold figs dg
  by_cases h : 48 ≤ c ∧ c ≤ 57
  · have : c = 48 ∨ c = 49 ∨ c = 50 ∨ c = 51 ∨ c = 52 ∨ c = 53 ∨ c = 54 ∨ c = 55 ∨ c = 56 ∨ c = 57 := by omega
    rcases this with rfl | rfl | rfl | rfl | rfl | rfl | rfl | rfl | rfl | rfl <;> decide
  · have h2 : (decide (48 ≤ c) && decide (c ≤ 57)) = false := by
      rw [Bool.and_eq_false_iff]
      by_cases a : 48 ≤ c
      · exact .inr (decide_eq_false (by omega))
      · exact .inl (decide_eq_false a)
    rw [h2]
    refine decide_eq_false fun hm => h ?_
    simp at hm
    omega
theorem in_dg (c : Nat) : B.inS ⟨#[c]⟩ "0123456789" = dg c := by
  rw [figs_eq, ← mem_figs]
  exact SX.in_one figs c
def optD : Option Nat → D
  | none => .non
  | some n => .int n
def res (L : List Nat) : Option Nat := if L.length = 0 ∨ 30 < L.length then none else if L.all dg = false then none else if L.head? = some 48 ∧ 1 < L.length then none else some (NumText.digitsVal L)
abbrev sg (L : List Nat) : List D := L.map fun c => .str ⟨#[c]⟩
theorem nf_loop (S0 : B.Slot) : ∀ (L : List Nat) (s1 : B.Slot), (L.all dg = true → ∃ t1, sItems (gN 1) l1_number_from (sg L) [S0, s1] = .ok .nx [S0, t1]) ∧ (L.all dg = false → ∃ t1, sItems (gN 1) l1_number_from (sg L) [S0, s1] = .ok (.rt 0 .non) [S0, t1]) := by
  intro L
  induction L with
  | nil => intro s1; exact ⟨fun _ => ⟨s1, rfl⟩, fun h => by simp at h⟩
  | cons c L ih =>
    intro s1
    have hi := in_dg c
    cases h : dg c with
    | true =>
      rw [h] at hi
      have ht : fTurn (gN 1) l1_number_from (.str ⟨#[c]⟩) [S0, s1] = .inl [S0, some (0, .str ⟨#[c]⟩)] := by simp [fTurn, l1_number_from, hi]
      obtain ⟨a, b⟩ := ih (some (0, .str ⟨#[c]⟩))
      rw [List.all_cons, h, Bool.true_and, sg, List.map_cons, sItems_inl ht]
      exact ⟨a, b⟩
    | false =>
      rw [h] at hi
      have ht : fTurn (gN 1) l1_number_from (.str ⟨#[c]⟩) [S0, s1] = .inr (.ok (.rt 0 .non) [S0, some (0, .str ⟨#[c]⟩)]) := by simp [fTurn, l1_number_from, hi]
      rw [List.all_cons, h, Bool.false_and, sg, List.map_cons, sItems_inr ht]
      exact ⟨fun z => (Bool.noConfusion z), fun _ => ⟨_, rfl⟩⟩
theorem sw_eq (c : Nat) (r : List Nat) : Txt.startswith (SX.S (c :: r)) "0" = decide (c = 48) := by
  have e0 : ("0" : Str) = SX.S [48] := by decide +kernel
  rw [e0]
  unfold Txt.startswith Builtin.Str.subAt
  have e1 : ((SX.S (c :: r)).cps.extract 0 (0 + (SX.S [48]).length)) = #[c] := by
    apply Array.ext'
    simp [SX.S, Str.length]
  rw [e1]
  have e2 : (0 + (SX.S [48]).length ≤ (SX.S (c :: r)).length) := by rw [SX.S_len, SX.S_len]; simp
  rw [decide_eq_true e2, Bool.true_and]
  by_cases h : c = 48
  · subst h; rfl
  · rw [decide_eq_false h]
    simp [SX.S]
    exact h
theorem sg_eq (L : List Nat) : signs (SX.S L) = sg L := rfl
theorem nf_eq (L : List Nat) (hl : L.length ≤ 10000) : f_number_from [.str (SX.S L)] = .ok (sh (optD (res L))) := by
  have ls : (SX.S L).length = L.length := SX.S_len L
  by_cases h0 : L.length = 0
  · have hr : res L = none := by simp [res, h0]
    rw [hr]
    simp only [optD]
    generalize SX.S L = W at *
    simp [f_number_from, runF, b_number_from, rho0, ls, hl, h0]
  · by_cases h1 : 30 < L.length
    · have h1' : (30 : Int) < L.length := by omega
      have hr : res L = none := by simp [res, h1]
      rw [hr]
      simp only [optD]
      generalize SX.S L = W at *
      simp [f_number_from, runF, b_number_from, rho0, ls, hl, h0, h1, h1']
    · have h1' : ¬ (30 : Int) < L.length := by omega
      have hs := sg_eq L
      cases hd : L.all dg with
      | false =>
        have hr : res L = none := by simp only [res, h0, h1, hd, or_self, if_false, if_true]
        obtain ⟨t1, e⟩ := (nf_loop (some (0, .str (SX.S L))) L none).2 hd
        rw [hr]
        simp only [optD]
        generalize SX.S L = W at *
        simp [f_number_from, runF, b_number_from, rho0, ls, hl, h0, h1, h1', hs, e]
      | true =>
        obtain ⟨t1, e⟩ := (nf_loop (some (0, .str (SX.S L))) L none).1 hd
        cases L with
        | nil => simp at h0
        | cons c r =>
          have sw := sw_eq c r
          by_cases hz : c = 48 ∧ 1 < (c :: r).length
          · have hr : res (c :: r) = none := by
              unfold res
              rw [if_neg (by omega)]
              split
              · rfl
              · rw [if_pos (by rw [List.head?_cons, hz.1]; exact ⟨rfl, by rw [← hz.1]; exact hz.2⟩)]
            rw [hr]
            simp only [optD]
            have hz2 : (1 : Int) < (c :: r).length := by omega
            have hz3 := hz.2
            rw [decide_eq_true hz.1] at sw
            generalize sg (c :: r) = SG at *
            generalize (c :: r).length = n at *
            generalize SX.S (c :: r) = W at *
            simp [f_number_from, runF, b_number_from, rho0, ls, hl, h0, h1, h1', hs, e, swD, sw, hz2, hz3]
          · have hr : res (c :: r) = some (NumText.digitsVal (c :: r)) := by
              have : ¬ ((c :: r).head? = some 48 ∧ 1 < (c :: r).length) := by simpa using hz
              unfold res
              rw [if_neg (by omega), if_neg (by rw [hd]; simp), if_neg this]
            rw [hr]
            simp only [optD]
            have it := SX.int_S (a := c :: r) hd (by simp) (by omega)
            have l640 : (c :: r).length ≤ 640 := by omega
            by_cases hc : c = 48
            · have hz2 : ¬ (1 : Int) < (c :: r).length := fun z => hz ⟨hc, by omega⟩
              have hz3 : ¬ 1 < (c :: r).length := fun z => hz ⟨hc, z⟩
              rw [decide_eq_true hc] at sw
              generalize NumText.digitsVal (c :: r) = V at *
              generalize sg (c :: r) = SG at *
              generalize (c :: r).length = n at *
              generalize SX.S (c :: r) = W at *
              simp [f_number_from, runF, b_number_from, rho0, ls, hl, h0, h1, h1', hs, e, swD, sw, hz2, hz3, it, l640]
            · rw [decide_eq_false hc] at sw
              generalize NumText.digitsVal (c :: r) = V at *
              generalize sg (c :: r) = SG at *
              generalize (c :: r).length = n at *
              generalize SX.S (c :: r) = W at *
              simp [f_number_from, runF, b_number_from, rho0, ls, hl, h0, h1, h1', hs, e, swD, sw, it, l640]
end K16
namespace K16
open PySem L2 B
/-! numbers read back -/
theorem numL_head : ∀ n : Nat, 1 ≤ n → ∃ c r, TL.numL n = c :: r ∧ 49 ≤ c := by
  intro n
  induction n using Nat.strongRecOn with
  | _ n ih =>
    intro h1
    by_cases h : n < 10
    · exact ⟨48 + n, [], TL.numL_lt h, by omega⟩
    · obtain ⟨c, r, e, hc⟩ := ih (n / 10) (by omega) (by omega)
      exact ⟨c, r ++ [48 + n % 10], by rw [TL.numL_step (by omega), e]; rfl, hc⟩
theorem nS_S (n : Nat) : nS (n : Int) = SX.S (TL.numL n) := by
  have h := TL.tl_num n
  have e := TL.mk_tl (nS (n : Int))
  rw [← e]
  show _ = (⟨(TL.numL n).toArray⟩ : Str)
  rw [← h]
theorem res_num (n : Nat) (h : n < 10 ^ 30) : res (TL.numL n) = some n := by
  have l30 := TL.numL_len (n := n) (k := 30) (by decide) h
  have hne := TL.numL_ne n
  have h1 : ¬ ((TL.numL n).length = 0 ∨ 30 < (TL.numL n).length) := fun z => by
    rcases z with z | z
    · exact hne (List.length_eq_zero_iff.mp z)
    · omega
  have h2 : (TL.numL n).all dg = true := List.all_eq_true.mpr fun c hc => by
    have := TL.numL_digits n c hc
    unfold dg
    simp
    omega
  have h3 : ¬ ((TL.numL n).head? = some 48 ∧ 1 < (TL.numL n).length) := fun z => by
    by_cases h10 : n < 10
    · rw [TL.numL_lt h10] at z
      simp at z
    · obtain ⟨c, r, e, hc⟩ := numL_head n (by omega)
      rw [e] at z
      simp at z
      omega
  unfold res
  rw [if_neg h1, if_neg (by rw [h2]; simp), if_neg h3, TL.numL_val]
theorem number_eq {v : Int} (h : big v) : f_number_from [.str (nS v)] = .ok (sh (.int v)) := by
  obtain ⟨n, rfl⟩ : ∃ n : Nat, v = n := ⟨v.toNat, by have := h.1; omega⟩
  have hn : n < 10 ^ 30 := by
    have := h.2
    have e : ((10 : Int) ^ 30) = ((10 ^ 30 : Nat) : Int) := by decide
    rw [e] at this
    omega
  have l30 := TL.numL_len (n := n) (k := 30) (by decide) hn
  rw [nS_S, nf_eq _ (by omega), res_num n hn]
  rfl
theorem nums_loop (S0 : B.Slot) : ∀ (xs acc : List Int) (s2 s3 : B.Slot), (∀ x ∈ xs, big x) → acc.length + xs.length ≤ 100 → ∃ t2 t3 : B.Slot, sItems (gN 2) l1_numbers_of ((xs.map nS).map .str) [S0, some (1, intsL acc), s2, s3] = .ok .nx [S0, some (1, intsL (acc ++ xs)), t2, t3] := by
  intro xs
  induction xs with
  | nil => intro acc s2 s3 _ _; exact ⟨s2, s3, by simp⟩
  | cons x xs ih =>
    intro acc s2 s3 h hl
    rw [List.length_cons] at hl
    obtain ⟨t2, t3, e⟩ := ih (acc ++ [x]) (some (0, .str (nS x))) (some (0, .int x)) (fun y hy => h y (List.mem_cons_of_mem _ hy)) (by simp; omega)
    have ne := number_eq (h x (List.mem_cons_self ..))
    refine ⟨t2, t3, ?_⟩
    have al : (acc.map D.int).length < 10000 := by simp; omega
    have ht : fTurn (gN 2) l1_numbers_of (.str (nS x)) [S0, some (1, intsL acc), s2, s3] = .inl [S0, some (1, intsL (acc ++ [x])), some (0, .str (nS x)), some (0, .int x)] := by
      clear e ih h
      simp only [intsL, List.map_append, List.map_cons, List.map_nil] at *
      generalize acc.map D.int = AD at *
      generalize nS x = w at *
      simp [fTurn, l1_numbers_of, ne, appL, al]
    rw [List.map_cons, List.map_cons, sItems_inl ht, e, List.append_assoc]
    rfl
theorem numbers_of_eq (xs : List Int) (h : ∀ x ∈ xs, big x) (hl : xs.length ≤ 100) : f_numbers_of [.lst ((xs.map nS).map .str)] = .ok ⟨false, 1, intsL xs⟩ := by
  obtain ⟨t2, t3, e⟩ := nums_loop (some (0, .lst ((xs.map nS).map .str))) xs [] none none h (by simp; omega)
  rw [List.nil_append] at e
  replace e : sItems (gN 2) l1_numbers_of ((xs.map nS).map .str) [some (0, .lst ((xs.map nS).map .str)), some (1, .lst []), none, none] = _ := e
  simp only [intsL] at *
  generalize (xs.map nS).map D.str = SD at *
  generalize xs.map D.int = XD at *
  simp [f_numbers_of, runF, b_numbers_of, rho0]
  rw [e]
  simp
/-! rows read -/
theorem sp_free (w : Wd) : 32 ∉ TL.tl w.s := by cases w <;> decide
theorem belt_free : 32 ∉ TL.tl ("belt" : Str) := by decide
theorem nS_free {v : Int} (h : big v) {s : Nat} (hs : s < 48 ∨ 57 < s) : s ∉ TL.tl (nS v) := by
  obtain ⟨n, rfl⟩ : ∃ n : Nat, v = n := ⟨v.toNat, by have := h.1; omega⟩
  have e : TL.tl (nS (n : Int)) = TL.numL n := TL.tl_num n
  rw [e]
  exact TL.numL_free hs
theorem split_row (w : Str) (xs : List Int) (hw : 32 ∉ TL.tl w) (hx : ∀ x ∈ xs, big x) : Txt.split (rowT w xs) (" " : Str) = w :: xs.map nS := by
  unfold rowT
  refine TL.split_join (s := 32) (S := []) (by decide) (by decide +kernel) (by simp) fun p hp => ?_
  rcases List.mem_cons.mp hp with rfl | hp
  · exact hw
  · obtain ⟨x, hx', rfl⟩ := List.mem_map.mp hp
    exact nS_free (hx x hx') (.inl (by decide))
theorem belt_of_eq (b : Int × Int) (h : bOk b) : f_belt_of [intsL [b.1, b.2]] = .ok ⟨false, 1, blD b⟩ := by
  have e := belt_new b h
  generalize blD b = BD at *
  obtain ⟨x, y⟩ := b
  dsimp only at *
  simp [f_belt_of, runF, b_belt_of, rho0, e]
theorem part_belt (b : Int × Int) (h : bOk b) (line : Int) : f_part_of [.str (bT b), .int line, .bl false] = .ok ⟨false, 0, blD b⟩ := by
  have sp := split_row "belt" [b.1, b.2] belt_free (b_big h)
  have nu := numbers_of_eq [b.1, b.2] (b_big h) (by simp)
  have be := belt_of_eq b h
  have rl := rowT_len "belt" [b.1, b.2] (by decide) (b_big h) (by simp)
  have c1 := cut_1f (.str "belt") (([b.1, b.2].map nS).map .str)
  unfold bT
  have sp' : (Txt.split (rowT "belt" [b.1, b.2]) (" " : Str)).map D.str = .str "belt" :: ([b.1, b.2].map nS).map .str := by rw [sp]; rfl
  generalize rowT "belt" [b.1, b.2] = RT at *
  generalize ([b.1, b.2].map nS).map D.str = ND at *
  simp only [intsL] at *
  generalize [b.1, b.2].map D.int = IL at *
  generalize blD b = BD at *
  have l1 : (" " : Str).length = 1 := by decide
  have rl' : RT.length ≤ 10000 := by omega
  simp [f_part_of, runF, b_part_of, rho0, t1_part_of, v1_part_of, sp', c1, nu, be, l1, rl']
theorem len2 {xs : List Int} (h : xs.length = 2) : ∃ x y, xs = [x, y] := by
  match xs, h with
  | [x, y], _ => exact ⟨x, y, rfl⟩
theorem knot_of_eq (r : Row) (h : r.Ok) : f_knot_of [.str r.w.s, intsL r.due] = .ok ⟨false, 1, r.ob⟩ := by
  obtain ⟨w, i, o, p, k⟩ := r
  obtain ⟨sh, hp, hp1, hk, hs, hv, ho⟩ := h
  dsimp only at sh hp hp1 hk hs hv ho
  cases w with
  | source =>
    obtain ⟨rfl, ol⟩ := sh
    obtain ⟨x, rfl⟩ := len1 ol
    have p1 := hp1 (by simp)
    have kl := hs rfl
    have kn := knot_eq "Source" (by simp) [] [x]
    obtain ⟨t, ht⟩ := (w_src (some (1, .obj "Source" [])) (some (0, .int x)) (some (0, .int p)) (some (0, intsL k)) k none).1 hk
    have n1 : ¬ p < 1 := by omega
    have n2 : ¬ 4 < p := by omega
    have n3 : ¬ (k.length : Int) < 1 := by omega
    have n4 : ¬ (6 : Int) < k.length := by omega
    have n3' : ¬ k.length = 0 := by omega
    have n4' : ¬ 6 < k.length := by omega
    have c2 : cutD (D.int x :: D.int p :: k.map D.int) (some 2) none = k.map D.int := by
      have := cutD_from (D.int x :: D.int p :: k.map D.int) 2
      exact this
    have m2 : 2 < k.length + 1 + 1 := by omega
    have m3 : (2 : Int) < (k.length : Int) + 1 + 1 := by omega
    have kml : (k.map D.int).length = k.length := by simp
    simp only [intsL, List.map_cons, List.map_nil] at kn ht
    simp [c2, m2, m3, kml, f_knot_of, runF, b_knot_of, rho0, Row.due, Row.nums, Wd.s, Row.ob, Wd.C, Row.x, f_Source_init, runM, b_Source_init, rhoM, n1, n2, n3, n4, n3', n4', ht, kn, putO]
  | drain =>
    obtain ⟨il, rfl⟩ := sh
    obtain ⟨x, rfl⟩ := len1 il
    have kn := knot_eq "Drain" (by simp) [x] []
    have n1 : ¬ p < 0 := by omega
    have n2 : ¬ 4 < p := by omega
    simp only [intsL, List.map_cons, List.map_nil] at kn
    simp [f_knot_of, runF, b_knot_of, rho0, Row.due, Row.nums, Wd.s, Row.ob, Wd.C, Row.x, f_Drain_init, runM, b_Drain_init, rhoM, n1, n2, kn, putO]
  | parter =>
    obtain ⟨il, o2, o4⟩ := sh
    obtain ⟨x, rfl⟩ := len1 il
    have kn := knot_eq "Parter" (by simp) [x] o
    have c1 := cut_1f (D.int x) (o.map D.int)
    have n1 : ¬ (o.length : Int) < 2 := by omega
    have n2 : ¬ (4 : Int) < o.length := by omega
    have n3 : ¬ o.length < 2 := by omega
    have n4 : ¬ 4 < o.length := by omega
    simp only [intsL, List.map_cons, List.map_nil] at kn
    simp [c1, f_knot_of, runF, b_knot_of, rho0, Row.due, Row.nums, Wd.s, Row.ob, Wd.C, Row.x, f_Parter_init, runM, b_Parter_init, rhoM, n1, n2, n3, n4, kn]
  | first =>
    obtain ⟨il, o2, o4⟩ := sh
    obtain ⟨x, rfl⟩ := len1 il
    have kn := knot_eq "FirstParter" (by simp) [x] o
    have c1 := cut_1f (D.int x) (o.map D.int)
    have n1 : ¬ (o.length : Int) < 2 := by omega
    have n2 : ¬ (4 : Int) < o.length := by omega
    have n3 : ¬ o.length < 2 := by omega
    have n4 : ¬ 4 < o.length := by omega
    simp only [intsL, List.map_cons, List.map_nil] at kn
    simp [c1, f_knot_of, runF, b_knot_of, rho0, Row.due, Row.nums, Wd.s, Row.ob, Wd.C, Row.x, f_FirstParter_init, runM, b_FirstParter_init, rhoM, n1, n2, n3, n4, kn]
  | sieve =>
    obtain ⟨il, o2⟩ := sh
    obtain ⟨x, rfl⟩ := len1 il
    obtain ⟨y, rfl⟩ := len1 (hv rfl)
    obtain ⟨o1, o3, rfl⟩ := len2 o2
    have c3 : cutD [D.int x, D.int o1, D.int o3, D.int y] (some 1) (some 3) = [D.int o1, D.int o3] := by
      have := cutD_mid [D.int x, D.int o1, D.int o3, D.int y] 1 3
      exact this
    have kn := knot_eq "Sieve" (by simp) [x] [o1, o3]
    have ke := is_eq y
    have ky : kOk y = true := by simpa using hk
    rw [ky] at ke
    simp only [intsL, List.map_cons, List.map_nil] at kn
    simp [c3, f_knot_of, runF, b_knot_of, rho0, Row.due, Row.nums, Wd.s, Row.ob, Wd.C, Row.x, f_Sieve_init, runM, b_Sieve_init, rhoM, ke, kn, putO]
  | joiner =>
    obtain ⟨⟨i2, i4⟩, ol⟩ := sh
    obtain ⟨x, rfl⟩ := len1 ol
    have kn := knot_eq "Joiner" (by simp) i [x]
    have c1 := cut_1f (D.int x) (i.map D.int)
    have n1 : ¬ (i.length : Int) < 2 := by omega
    have n2 : ¬ (4 : Int) < i.length := by omega
    have n3 : ¬ i.length < 2 := by omega
    have n4 : ¬ 4 < i.length := by omega
    simp only [intsL, List.map_cons, List.map_nil] at kn
    simp [c1, f_knot_of, runF, b_knot_of, rho0, Row.due, Row.nums, Wd.s, Row.ob, Wd.C, Row.x, f_Joiner_init, runM, b_Joiner_init, rhoM, n1, n2, n3, n4, kn]
end K16
namespace K16
open PySem L2 B
theorem word_belt (w : Wd) : ¬ (w.s = ("belt" : Str)) := by cases w <;> decide
theorem part_knot {rs : List Row} {belts : List (Int × Int)} (G : Good rs belts) {r : Row} (hr : r ∈ rs) (line : Int) (bh : Bool) : f_part_of [.str (kT r), .int line, .bl bh] = .ok ⟨false, 0, r.ob⟩ := by
  obtain ⟨d1, d2⟩ := due_ok G hr
  have sp := split_row r.w.s r.due (sp_free r.w) d1
  have nu := numbers_of_eq r.due d1 (by omega)
  have kn := knot_of_eq r (G.r r hr)
  have rl := rowT_len r.w.s r.due (word_len r.w) d1 d2
  have c1 := cut_1f (.str r.w.s) ((r.due.map nS).map .str)
  have wb := word_belt r.w
  unfold kT
  have sp' : (Txt.split (rowT r.w.s r.due) (" " : Str)).map D.str = .str r.w.s :: (r.due.map nS).map .str := by rw [sp]; rfl
  generalize rowT r.w.s r.due = RT at *
  generalize (r.due.map nS).map D.str = ND at *
  simp only [intsL] at nu kn
  generalize r.due.map D.int = IL at *
  generalize r.ob = OB at *
  generalize r.w.s = w at *
  have l1 : (" " : Str).length = 1 := by decide
  have rl' : RT.length ≤ 10000 := by omega
  simp [f_part_of, runF, b_part_of, rho0, t1_part_of, v1_part_of, sp', c1, nu, kn, l1, rl', wb]
/-! the text read -/
theorem mem_joinL (c : Nat) (S : List Nat) : ∀ ps : List (List Nat), c ∈ TL.joinL S ps → c ∈ S ∨ ∃ p ∈ ps, c ∈ p
  | [], h => by cases h
  | [p], h => .inr ⟨p, List.mem_singleton.mpr rfl, h⟩
  | p :: q :: r, h => by
    have h' : c ∈ p ++ (S ++ TL.joinL S (q :: r)) := h
    rcases List.mem_append.mp h' with h | h
    · exact .inr ⟨p, List.mem_cons_self .., h⟩
    · rcases List.mem_append.mp h with h | h
      · exact .inl h
      · rcases mem_joinL c S (q :: r) h with h | ⟨x, hx, hc⟩
        · exact .inl h
        · exact .inr ⟨x, List.mem_cons_of_mem _ hx, hc⟩
theorem row_line (w : Str) (xs : List Int) (hw : 10 ∉ TL.tl w) (hx : ∀ x ∈ xs, big x) : 10 ∉ TL.tl (rowT w xs) := by
  intro h
  unfold rowT at h
  rw [TL.join_eq, TL.tl_join] at h
  rcases mem_joinL 10 _ _ h with h | ⟨p, hp, hc⟩
  · exact absurd h (by decide)
  · obtain ⟨z, hz, rfl⟩ := List.mem_map.mp hp
    rcases List.mem_cons.mp hz with rfl | hz
    · exact hw hc
    · obtain ⟨x, hx', rfl⟩ := List.mem_map.mp hz
      exact nS_free (hx x hx') (.inl (by decide)) hc
theorem line_free (w : Wd) : 10 ∉ TL.tl w.s := by cases w <;> decide
theorem split_rows {rs : List Row} {belts : List (Int × Int)} (G : Good rs belts) : Txt.split (Txt.join ("\n" : Str) (rowsT rs belts)) ("\n" : Str) = rowsT rs belts := by
  refine TL.split_join (s := 10) (S := []) (by decide) (by decide +kernel) ?_ fun p hp => ?_
  · intro h
    unfold rowsT at h
    have := congrArg List.length h
    have gn := G.n
    rw [List.length_append, List.length_map, List.length_map, List.length_nil] at this
    omega
  · unfold rowsT at hp
    rcases List.mem_append.mp hp with hp | hp
    · obtain ⟨b, hb, rfl⟩ := List.mem_map.mp hp
      exact row_line "belt" [b.1, b.2] (by decide) (b_big (G.b b hb))
    · obtain ⟨r, hr, rfl⟩ := List.mem_map.mp hp
      exact row_line r.w.s r.due (line_free r.w) (due_ok G hr).1
theorem rd_belts (T : B.Slot) : ∀ (bs acc : List (Int × Int)) (rest : List D) (k : Nat) (s3 s4 s5 : B.Slot), (∀ b ∈ bs, bOk b) → acc.length + bs.length ≤ 100 → ∃ t3 t4 t5 : B.Slot,
    sItems (gT 2 (gsC (gN 3) (gsC (gN 4) (gsN)))) l1_read_work (enumK k ((bs.map fun b => D.str (bT b)) ++ rest)) [T, some (1, .lst (acc.map blD)), some (1, .lst []), s3, s4, s5] = sItems (gT 2 (gsC (gN 3) (gsC (gN 4) (gsN)))) l1_read_work (enumK ((k + bs.length : Nat) : Int) rest) [T, some (1, .lst ((acc ++ bs).map blD)), some (1, .lst []), t3, t4, t5] := by
  intro bs
  induction bs with
  | nil => intro acc rest k s3 s4 s5 _ _; exact ⟨s3, s4, s5, by simp⟩
  | cons b bs ih =>
    intro acc rest k s3 s4 s5 h hl
    rw [List.length_cons] at hl
    obtain ⟨t3, t4, t5, e⟩ := ih (acc ++ [b]) rest (k + 1) (some (0, .int k)) (some (0, .str (bT b))) (some (0, blD b)) (fun x hx => h x (List.mem_cons_of_mem _ hx)) (by simp; omega)
    have pb := part_belt b (h b (List.mem_cons_self ..)) ((k : Int) + 1)
    refine ⟨t3, t4, t5, ?_⟩
    have al : (acc.map blD).length < 10000 := by simp; omega
    have isb : isR osA esA y_Belt (blD b) = .ok (sh (.bl true)) := by simp
    have ht : fTurn (gT 2 (gsC (gN 3) (gsC (gN 4) (gsN)))) l1_read_work (.tup [.int k, .str (bT b)]) [T, some (1, .lst (acc.map blD)), some (1, .lst []), s3, s4, s5] = .inl [T, some (1, .lst ((acc ++ [b]).map blD)), some (1, .lst []), some (0, .int k), some (0, .str (bT b)), some (0, blD b)] := by
      clear e ih h
      rw [List.map_append, List.map_singleton]
      generalize blD b = BD at *
      generalize acc.map blD = AD at *
      generalize bT b = BT at *
      simp [fTurn, l1_read_work, pb, isb, appL, al]
    rw [List.map_cons, List.cons_append, enumK_cons, sItems_inl ht, show (k : Int) + 1 = ((k + 1 : Nat) : Int) by omega, e, List.append_assoc, List.length_cons, show k + 1 + bs.length = k + (bs.length + 1) by omega]
    rfl
theorem rd_knots {rs0 : List Row} {belts : List (Int × Int)} (G : Good rs0 belts) (T s1 : B.Slot) : ∀ (rs acc : List Row) (k : Nat) (s3 s4 s5 : B.Slot), (∀ r ∈ rs, r ∈ rs0) → acc.length + rs.length ≤ 100 → ∃ t3 t4 t5 : B.Slot,
    sItems (gT 2 (gsC (gN 3) (gsC (gN 4) (gsN)))) l1_read_work (enumK k (rs.map fun r => D.str (kT r))) [T, s1, some (1, .lst (acc.map Row.ob)), s3, s4, s5] = .ok .nx [T, s1, some (1, .lst ((acc ++ rs).map Row.ob)), t3, t4, t5] := by
  intro rs
  induction rs with
  | nil => intro acc k s3 s4 s5 _ _; exact ⟨s3, s4, s5, by simp⟩
  | cons r rs ih =>
    intro acc k s3 s4 s5 h hl
    rw [List.length_cons] at hl
    obtain ⟨t3, t4, t5, e⟩ := ih (acc ++ [r]) (k + 1) (some (0, .int k)) (some (0, .str (kT r))) (some (0, r.ob)) (fun x hx => h x (List.mem_cons_of_mem _ hx)) (by simp; omega)
    have pk := part_knot G (h r (List.mem_cons_self ..)) ((k : Int) + 1)
    refine ⟨t3, t4, t5, ?_⟩
    have al : (acc.map Row.ob).length < 10000 := by simp; omega
    have isb : isR osA esA y_Belt r.ob = .ok (sh (.bl false)) := by
      obtain ⟨w, i, o, p, kk⟩ := r
      cases w <;> simp [Row.ob, Wd.C]
    have ht : fTurn (gT 2 (gsC (gN 3) (gsC (gN 4) (gsN)))) l1_read_work (.tup [.int k, .str (kT r)]) [T, s1, some (1, .lst (acc.map Row.ob)), s3, s4, s5] = .inl [T, s1, some (1, .lst ((acc ++ [r]).map Row.ob)), some (0, .int k), some (0, .str (kT r)), some (0, r.ob)] := by
      clear e ih h
      rw [List.map_append, List.map_singleton]
      generalize r.ob = OB at *
      generalize acc.map Row.ob = AD at *
      generalize kT r = KT at *
      simp [fTurn, l1_read_work, pk, isb, appL, al]
    rw [List.map_cons, enumK_cons, sItems_inl ht, show (k : Int) + 1 = ((k + 1 : Nat) : Int) by omega, e, List.append_assoc]
    rfl
theorem text_len {rs : List Row} {belts : List (Int × Int)} (G : Good rs belts) : (Txt.join ("\n" : Str) (rowsT rs belts)).length ≤ 10000 := by
  have f := rowsT_fit G
  rw [TL.join_eq]
  exact Nat.le_trans (PySem.StrLaws.join_length_le _ _) f
theorem read_work_eq (rs : List Row) (belts : List (Int × Int)) (G : Good rs belts) : f_read_work [.str (Txt.join ("\n" : Str) (rowsT rs belts))] = .ok ⟨false, 1, workD rs belts⟩ := by
  have gn := G.n
  have gl := G.l
  have sp := split_rows G
  have tl := text_len G
  obtain ⟨t3, t4, t5, e1⟩ := rd_belts (some (0, .str (Txt.join ("\n" : Str) (rowsT rs belts)))) belts [] (rs.map fun r => D.str (kT r)) 0 none none none G.b (by simp; omega)
  obtain ⟨u3, u4, u5, e2⟩ := rd_knots G (some (0, .str (Txt.join ("\n" : Str) (rowsT rs belts)))) (some (1, .lst ((([] : List (Int × Int)) ++ belts).map blD))) rs [] (0 + belts.length) t3 t4 t5 (fun r h => h) (by simp; omega)
  rw [List.map_nil] at e2
  rw [e2, List.nil_append, List.nil_append] at e1
  have er : (rowsT rs belts).map D.str = (belts.map fun b => D.str (bT b)) ++ rs.map fun r => D.str (kT r) := by
    unfold rowsT
    rw [List.map_append, List.map_map, List.map_map]
    rfl
  rw [← er] at e1
  replace e1 : sItems (gT 2 (gsC (gN 3) (gsC (gN 4) (gsN)))) l1_read_work (enumK 0 ((rowsT rs belts).map D.str)) [some (0, .str (Txt.join ("\n" : Str) (rowsT rs belts))), some (1, .lst []), some (1, .lst []), none, none, none] = _ := e1
  have wn := work_new rs belts G
  generalize Txt.join ("\n" : Str) (rowsT rs belts) = TT at *
  generalize workD rs belts = WD at *
  generalize belts.map blD = BD at *
  generalize rs.map Row.ob = RD at *
  have l1 : ("\n" : Str).length = 1 := by decide
  simp [f_read_work, runF, b_read_work, rho0, tl, l1, sp]
  rw [e1]
  simp [sFz, wn]
end K16
namespace K16
open PySem L2 B
/-! ### rows that write no part -/
theorem S_tl (w : Str) : SX.S (TL.tl w) = w := by
  obtain ⟨⟨l⟩⟩ := w
  rfl
theorem number_any (w : Str) (h : w.length ≤ 10000) : f_number_from [.str w] = .ok (sh (optD (res (TL.tl w)))) := by
  have := nf_eq (TL.tl w) (by show w.cps.toList.length ≤ 10000; rw [Array.length_toList]; exact h)
  rw [S_tl] at this
  exact this
/-- a word that writes no number -/
def NoNum (w : Str) : Prop := res (TL.tl w) = none
theorem nums_bad (S0 : B.Slot) : ∀ (ws : List Str) (acc : List Int) (s2 s3 : B.Slot), (∃ w ∈ ws, NoNum w) → (∀ w ∈ ws, w.length ≤ 10000) → acc.length + ws.length ≤ 100 → ∃ ρ, sItems (gN 2) l1_numbers_of (ws.map .str) [S0, some (1, intsL acc), s2, s3] = .ok (.rt 0 .non) ρ := by
  intro ws
  induction ws with
  | nil => intro acc s2 s3 ⟨w, hw, _⟩; cases hw
  | cons w ws ih =>
    intro acc s2 s3 hb hl hn
    rw [List.length_cons] at hn
    have ne := number_any w (hl w (List.mem_cons_self ..))
    cases hr : res (TL.tl w) with
    | none =>
      rw [hr] at ne
      simp only [optD] at ne
      have ht : fTurn (gN 2) l1_numbers_of (.str w) [S0, some (1, intsL acc), s2, s3] = .inr (.ok (.rt 0 .non) [S0, some (1, intsL acc), some (0, .str w), some (0, .non)]) := by
        clear ih hb hl
        simp only [intsL] at *
        generalize acc.map D.int = AD at *
        simp [fTurn, l1_numbers_of, ne]
      exact ⟨_, by rw [List.map_cons, sItems_inr ht]⟩
    | some v =>
      rw [hr] at ne
      simp only [optD] at ne
      have al : (acc.map D.int).length < 10000 := by simp; omega
      have ht : fTurn (gN 2) l1_numbers_of (.str w) [S0, some (1, intsL acc), s2, s3] = .inl [S0, some (1, intsL (acc ++ [(v : Int)])), some (0, .str w), some (0, .int (v : Nat))] := by
        clear ih hb hl
        simp only [intsL, List.map_append, List.map_cons, List.map_nil] at *
        generalize acc.map D.int = AD at *
        simp [fTurn, l1_numbers_of, ne, appL, al]
      obtain ⟨ρ, e⟩ := ih (acc ++ [(v : Int)]) (some (0, .str w)) (some (0, .int (v : Nat))) (by
        obtain ⟨u, hu, hn⟩ := hb
        rcases List.mem_cons.mp hu with rfl | hu
        · unfold NoNum at hn; rw [hr] at hn; cases hn
        · exact ⟨u, hu, hn⟩) (fun u hu => hl u (List.mem_cons_of_mem _ hu)) (by simp; omega)
      exact ⟨ρ, by rw [List.map_cons, sItems_inl ht, e]⟩
theorem numbers_bad (ws : List Str) (hb : ∃ w ∈ ws, NoNum w) (hl : ∀ w ∈ ws, w.length ≤ 10000) (hn : ws.length ≤ 100) : f_numbers_of [.lst (ws.map .str)] = .ok (sh .non) := by
  obtain ⟨ρ, e⟩ := nums_bad (some (0, .lst (ws.map .str))) ws [] none none hb hl (by simp; omega)
  replace e : sItems (gN 2) l1_numbers_of (ws.map .str) [some (0, .lst (ws.map .str)), some (1, .lst []), none, none] = _ := e
  generalize ws.map D.str = SD at *
  simp [f_numbers_of, runF, b_numbers_of, rho0]
  rw [e]
  rfl
/-- the row of some words is bad, wherever it stands -/
def BadT (T : Str) : Prop := ∀ (n : Nat) (bh : Bool), f_part_of [.str T, .int (n : Nat), .bl bh] = .ex (xK "BadRow" n)
theorem bad_words (w : Str) (ws : List Str) (hb : ∃ u ∈ ws, NoNum u) (h32 : ∀ u ∈ w :: ws, 32 ∉ TL.tl u) (hl : ∀ u ∈ ws, u.length ≤ 10000) (hn : ws.length ≤ 100) (tl : (Txt.join (" " : Str) (w :: ws)).length ≤ 10000) : BadT (Txt.join (" " : Str) (w :: ws)) := by
  intro n bh
  have sp : Txt.split (Txt.join (" " : Str) (w :: ws)) (" " : Str) = w :: ws := TL.split_join (s := 32) (S := []) (by decide) (by decide +kernel) (by simp) h32
  have nu := numbers_bad ws hb hl hn
  have c1 := cut_1f (.str w) (ws.map .str)
  have sp' : (Txt.split (Txt.join (" " : Str) (w :: ws)) (" " : Str)).map D.str = .str w :: ws.map .str := by rw [sp]; rfl
  generalize Txt.join (" " : Str) (w :: ws) = RT at *
  generalize ws.map D.str = ND at *
  have l1 : (" " : Str).length = 1 := by decide
  simp [f_part_of, runF, b_part_of, rho0, sp', c1, nu, l1, tl]
theorem row_split (w : Str) (xs : List Int) (hw : 32 ∉ TL.tl w) (hx : ∀ x ∈ xs, big x) : (Txt.split (rowT w xs) (" " : Str)).map D.str = .str w :: (xs.map nS).map .str := by
  rw [split_row w xs hw hx]; rfl
theorem bad_knot (w : Str) (xs : List Int) (hw : 32 ∉ TL.tl w) (hx : ∀ x ∈ xs, big x) (hn : xs.length ≤ 100) (tl : (rowT w xs).length ≤ 10000) (hb : w ≠ "belt") (hk : f_knot_of [.str w, intsL xs] = .ex "BadKnot") : BadT (rowT w xs) := by
  intro n bh
  have sp' := row_split w xs hw hx
  have nu := numbers_of_eq xs hx hn
  have c1 := cut_1f (.str w) ((xs.map nS).map .str)
  have hm : cMem z_BadBelt_BadKnot (xB "BadKnot") = true := by decide
  generalize rowT w xs = RT at *
  generalize (xs.map nS).map D.str = ND at *
  simp only [intsL] at nu hk
  generalize xs.map D.int = IL at *
  have l1 : (" " : Str).length = 1 := by decide
  simp [f_part_of, runF, b_part_of, rho0, t1_part_of, u1_part_of, v1_part_of, sp', c1, nu, l1, tl, hb, hk, hm]
theorem bad_belt (xs : List Int) (hx : ∀ x ∈ xs, big x) (hn : xs.length ≤ 100) (tl : (rowT "belt" xs).length ≤ 10000) (hk : f_belt_of [intsL xs] = .ex "BadBelt") : BadT (rowT "belt" xs) := by
  intro n bh
  have sp' := row_split "belt" xs belt_free hx
  have nu := numbers_of_eq xs hx hn
  have c1 := cut_1f (.str "belt") ((xs.map nS).map .str)
  have hm : cMem z_BadBelt_BadKnot (xB "BadBelt") = true := by decide
  generalize rowT "belt" xs = RT at *
  generalize (xs.map nS).map D.str = ND at *
  simp only [intsL] at nu hk
  generalize xs.map D.int = IL at *
  have l1 : (" " : Str).length = 1 := by decide
  cases bh <;> simp [f_part_of, runF, b_part_of, rho0, t1_part_of, u1_part_of, v1_part_of, sp', c1, nu, l1, tl, hk, hm]
/-- a belt's row behind a knot's -/
theorem bad_behind (b : Int × Int) (h : bOk b) (n : Nat) : f_part_of [.str (bT b), .int (n : Nat), .bl true] = .ex (xK "BadRow" n) := by
  have sp' := row_split "belt" [b.1, b.2] belt_free (b_big h)
  have nu := numbers_of_eq [b.1, b.2] (b_big h) (by simp)
  have rl := rowT_len "belt" [b.1, b.2] (by decide) (b_big h) (by simp)
  have c1 := cut_1f (.str "belt") (([b.1, b.2].map nS).map .str)
  unfold bT
  generalize rowT "belt" [b.1, b.2] = RT at *
  generalize ([b.1, b.2].map nS).map D.str = ND at *
  simp only [intsL] at *
  generalize [b.1, b.2].map D.int = IL at *
  have l1 : (" " : Str).length = 1 := by decide
  have rl' : RT.length ≤ 10000 := by omega
  simp [f_part_of, runF, b_part_of, rho0, sp', c1, nu, l1, rl']
/-! ### which numbers make no knot -/
theorem bl_many (xs : List Int) (h : xs.length ≠ 2) : f_belt_of [intsL xs] = .ex "BadBelt" := by
  have hl : (xs.map D.int).length = xs.length := by simp
  have h' : ¬ (xs.length : Int) = 2 := by omega
  simp only [intsL] at *
  generalize xs.map D.int = XD at *
  rw [← hl] at h h'
  simp [f_belt_of, runF, b_belt_of, rho0, h, h']
theorem bl_vals (r p : Int) (h : ¬ bOk (r, p)) : f_belt_of [intsL [r, p]] = .ex "BadBelt" := by
  have e : newR (f_Belt_init [(1, .obj "Belt" []), (0, .int r), (0, .int p)]) = .ex "BadBelt" := by
    by_cases h1 : r < 1
    · simp [f_Belt_init, runM, b_Belt_init, rhoM, h1]
    · by_cases h2 : 6 < r
      · simp [f_Belt_init, runM, b_Belt_init, rhoM, h1, h2]
      · by_cases h3 : p < 1
        · simp [f_Belt_init, runM, b_Belt_init, rhoM, h1, h2, h3]
        · by_cases h4 : 4 < p
          · simp [f_Belt_init, runM, b_Belt_init, rhoM, h1, h2, h3, h4]
          · exact absurd ⟨⟨by show 1 ≤ r; omega, by show r ≤ 6; omega⟩, ⟨by show 1 ≤ p; omega, by show p ≤ 4; omega⟩⟩ h
  simp [f_belt_of, runF, b_belt_of, rho0, e]
theorem kn_other (w : Str) (xs : List Int) (h : w ≠ "source" ∧ w ≠ "drain" ∧ w ≠ "parter" ∧ w ≠ "first" ∧ w ≠ "sieve" ∧ w ≠ "joiner") : f_knot_of [.str w, intsL xs] = .ex "BadKnot" := by
  obtain ⟨h1, h2, h3, h4, h5, h6⟩ := h
  simp only [intsL]
  generalize xs.map D.int = XD at *
  simp [f_knot_of, runF, b_knot_of, rho0, h1, h2, h3, h4, h5, h6]
theorem kn_src_few (xs : List Int) (h : xs.length ≤ 2) : f_knot_of [.str "source", intsL xs] = .ex "BadKnot" := by
  have hl : (xs.map D.int).length = xs.length := by simp
  simp only [intsL] at *
  generalize xs.map D.int = XD at *
  have h1 : ¬ 2 < XD.length := by omega
  have h2 : ¬ (2 : Int) < XD.length := by omega
  simp [f_knot_of, runF, b_knot_of, rho0, h1, h2]
theorem kn_src (o p : Int) (ks : List Int) (h1 : 1 ≤ ks.length) (h : p < 1 ∨ 4 < p ∨ 6 < ks.length) : f_knot_of [.str "source", intsL (o :: p :: ks)] = .ex "BadKnot" := by
  have c2 : cutD (D.int o :: D.int p :: ks.map D.int) (some 2) none = ks.map D.int := cutD_from (D.int o :: D.int p :: ks.map D.int) 2
  have kml : (ks.map D.int).length = ks.length := by simp
  simp only [intsL, List.map_cons] at *
  generalize ks.map D.int = KD at *
  rw [← kml] at h h1
  have m2 : 2 < KD.length + 1 + 1 := by omega
  have m3 : (2 : Int) < (KD.length : Int) + 1 + 1 := by omega
  have e : newR (f_Source_init [(1, .obj "Source" []), (0, .int o), (0, .int p), (0, .lst KD)]) = .ex "BadKnot" := by
    by_cases a1 : p < 1
    · simp [f_Source_init, runM, b_Source_init, rhoM, a1]
    · by_cases a2 : 4 < p
      · simp [f_Source_init, runM, b_Source_init, rhoM, a1, a2]
      · have a3 : 6 < KD.length := by omega
        have a4 : (6 : Int) < KD.length := by omega
        have a5 : ¬ (KD.length : Int) < 1 := by omega
        have a6 : KD ≠ [] := by intro z; rw [z] at h1; simp at h1
        simp [f_Source_init, runM, b_Source_init, rhoM, a1, a2, a3, a4, a5, a6]
  simp [f_knot_of, runF, b_knot_of, rho0, c2, m2, m3, e]
theorem kn_drn_many (xs : List Int) (h : xs.length ≠ 2) : f_knot_of [.str "drain", intsL xs] = .ex "BadKnot" := by
  have hl : (xs.map D.int).length = xs.length := by simp
  have h' : ¬ (xs.length : Int) = 2 := by omega
  simp only [intsL] at *
  generalize xs.map D.int = XD at *
  rw [← hl] at h h'
  simp [f_knot_of, runF, b_knot_of, rho0, h, h']
theorem kn_drn (i p : Int) (h : p < 0 ∨ 4 < p) : f_knot_of [.str "drain", intsL [i, p]] = .ex "BadKnot" := by
  have e : newR (f_Drain_init [(1, .obj "Drain" []), (0, .int i), (0, .int p)]) = .ex "BadKnot" := by
    by_cases a1 : p < 0
    · simp [f_Drain_init, runM, b_Drain_init, rhoM, a1]
    · have a2 : 4 < p := by omega
      simp [f_Drain_init, runM, b_Drain_init, rhoM, a1, a2]
  simp [f_knot_of, runF, b_knot_of, rho0, e]
theorem kn_sieve (xs : List Int) (h : xs.length ≠ 4) : f_knot_of [.str "sieve", intsL xs] = .ex "BadKnot" := by
  have hl : (xs.map D.int).length = xs.length := by simp
  have h' : ¬ (xs.length : Int) = 4 := by omega
  simp only [intsL] at *
  generalize xs.map D.int = XD at *
  rw [← hl] at h h'
  simp [f_knot_of, runF, b_knot_of, rho0, h, h']
theorem kn_parts (w : Str) (hw : w = "parter" ∨ w = "first" ∨ w = "joiner") (xs : List Int) (h : xs.length ≤ 2 ∨ 5 < xs.length) : f_knot_of [.str w, intsL xs] = .ex "BadKnot" := by
  cases xs with
  | nil => rcases hw with rfl | rfl | rfl <;> simp [f_knot_of, runF, b_knot_of, rho0]
  | cons x xs =>
    have c1 := cut_1f (D.int x) (xs.map D.int)
    have kml : (xs.map D.int).length = xs.length := by simp
    rw [List.length_cons] at h
    simp only [intsL, List.map_cons] at *
    generalize xs.map D.int = XD at *
    rw [← kml] at h
    have e : ∀ f : FnM, (f = f_Parter_init ∨ f = f_FirstParter_init) → ∀ C : Str, newR (f [(1, .obj C []), (0, .int x), (0, .lst XD)]) = .ex "BadKnot" := by
      intro f hf C
      by_cases a1 : XD.length < 2
      · have a2 : (XD.length : Int) < 2 := by omega
        rcases hf with rfl | rfl
        · simp [f_Parter_init, runM, b_Parter_init, rhoM, a1, a2]
        · simp [f_FirstParter_init, runM, b_FirstParter_init, rhoM, a1, a2]
      · have a2 : ¬ (XD.length : Int) < 2 := by omega
        have a3 : 4 < XD.length := by omega
        have a4 : (4 : Int) < XD.length := by omega
        rcases hf with rfl | rfl
        · simp [f_Parter_init, runM, b_Parter_init, rhoM, a1, a2, a3, a4]
        · simp [f_FirstParter_init, runM, b_FirstParter_init, rhoM, a1, a2, a3, a4]
    have ej : newR (f_Joiner_init [(1, .obj "Joiner" []), (0, .lst XD), (0, .int x)]) = .ex "BadKnot" := by
      by_cases a1 : XD.length < 2
      · have a2 : (XD.length : Int) < 2 := by omega
        simp [f_Joiner_init, runM, b_Joiner_init, rhoM, a1, a2]
      · have a2 : ¬ (XD.length : Int) < 2 := by omega
        have a3 : 4 < XD.length := by omega
        have a4 : (4 : Int) < XD.length := by omega
        simp [f_Joiner_init, runM, b_Joiner_init, rhoM, a1, a2, a3, a4]
    have m1 : (0 : Int) < (XD.length : Int) + 1 := by omega
    rcases hw with rfl | rfl | rfl
    · have := e f_Parter_init (.inl rfl) "Parter"
      simp [f_knot_of, runF, b_knot_of, rho0, c1, m1, this]
    · have := e f_FirstParter_init (.inr rfl) "FirstParter"
      simp [f_knot_of, runF, b_knot_of, rho0, c1, m1, this]
    · simp [f_knot_of, runF, b_knot_of, rho0, c1, m1, ej]
end K16
namespace K16
open PySem L2 B
/-! ### words put in the place of a number -/
theorem join_cons2 (s x y : Str) (r : List Str) : PySem.Str.join s (x :: y :: r) = x ++ s ++ PySem.Str.join s (y :: r) := rfl
theorem join_one (s x : Str) : PySem.Str.join s [x] = x := rfl
theorem join_app (s : Str) : ∀ (us : List Str) (post : List Str), us ≠ [] → post ≠ [] → PySem.Str.join s (us ++ post) = PySem.Str.join s us ++ s ++ PySem.Str.join s post
  | [], _, h, _ => absurd rfl h
  | [u], p :: ps, _, _ => rfl
  | [_], [], _, h => absurd rfl h
  | u :: v :: r, post, _, hp => by
    have ih := join_app s (v :: r) post (by simp) hp
    rw [List.cons_append, List.cons_append, join_cons2, ← List.cons_append, ih, join_cons2]
    simp only [PySem.Str.append_assoc]
theorem join_in (s : Str) (us : List Str) (hu : us ≠ []) : ∀ (pre post : List Str), PySem.Str.join s (pre ++ (PySem.Str.join s us :: post)) = PySem.Str.join s (pre ++ (us ++ post))
  | [], [] => by rw [List.nil_append, List.nil_append, List.append_nil, join_one]
  | [], p :: ps => by
    rw [List.nil_append, List.nil_append, join_cons2, join_app s us (p :: ps) hu (by simp)]
  | x :: pre, post => by
    have ih := join_in s us hu pre post
    cases pre with
    | nil =>
      rw [List.nil_append, List.nil_append] at ih
      cases us with
      | nil => exact absurd rfl hu
      | cons u r =>
        show PySem.Str.join s (x :: PySem.Str.join s (u :: r) :: post) = PySem.Str.join s (x :: u :: (r ++ post))
        rw [join_cons2, join_cons2, ih]
        rfl
    | cons y pre =>
      show PySem.Str.join s (x :: y :: (pre ++ (PySem.Str.join s us :: post))) = PySem.Str.join s (x :: y :: (pre ++ (us ++ post)))
      rw [join_cons2, join_cons2]
      rw [show y :: (pre ++ (PySem.Str.join s us :: post)) = (y :: pre) ++ (PySem.Str.join s us :: post) from rfl, ih]
      rfl
theorem tx_join (s : Str) (ps : List Str) : PySem.Txt.join s ps = PySem.Str.join s ps := by
  unfold PySem.Txt.join
  rw [PySem.StrLaws.glued_eq_join]
/-- a word without blank and line feed -/
def Wrd (u : Str) : Prop := 32 ∉ TL.tl u ∧ 10 ∉ TL.tl u ∧ u.length ≤ 100
/-- what stands in a number's place -/
def Piece (t : Str) : Prop := ∃ us : List Str, us ≠ [] ∧ us.length ≤ 2 ∧ t = PySem.Str.join (" " : Str) us ∧ (∀ u ∈ us, Wrd u) ∧ ∃ u ∈ us, NoNum u
theorem Piece.one {t : Str} (h : Wrd t) (n : NoNum t) : Piece t := ⟨[t], by simp, by simp, rfl, fun u hu => by rw [List.mem_singleton.mp hu]; exact h, t, List.mem_singleton.mpr rfl, n⟩
theorem len_tl (w : Str) : w.length = (TL.tl w).length := by
  show w.cps.size = w.cps.toList.length
  rw [Array.length_toList]
theorem nS_wrd {v : Int} (h : big v) : Wrd (nS v) := ⟨nS_free h (.inl (by decide)), nS_free h (.inl (by decide)), by have := nS_len h; omega⟩
theorem nS_pos {v : Int} (h : big v) : 1 ≤ (nS v).length := by
  obtain ⟨n, rfl⟩ : ∃ n : Nat, v = n := ⟨v.toNat, by have := h.1; omega⟩
  rw [nS_S]
  show 1 ≤ (SX.S (TL.numL n)).length
  rw [SX.S_len]
  by_cases hn : 1 ≤ n
  · obtain ⟨c, r, e, _⟩ := numL_head n hn
    rw [e]; simp
  · have : n = 0 := by omega
    subst this
    decide
theorem nn_empty : NoNum "" := by
  unfold NoNum
  decide
theorem nn_long {u : Str} (h : 30 < u.length) : NoNum u := by
  unfold NoNum res
  rw [len_tl] at h
  by_cases h0 : (TL.tl u).length = 0
  · omega
  · rw [if_pos (.inr h)]
theorem nn_sign {u : Str} {c : Nat} (h : c ∈ TL.tl u) (hd : dg c = false) : NoNum u := by
  unfold NoNum res
  split
  · rfl
  · have : (TL.tl u).all dg = false := by
      rw [List.all_eq_false]
      exact ⟨c, h, by rw [hd]; simp⟩
    rw [if_pos this]
theorem nn_zero {u : Str} {r : List Nat} (h : TL.tl u = 48 :: r) (hr : r ≠ []) : NoNum u := by
  unfold NoNum res
  rw [h]
  split
  · rfl
  · split
    · rfl
    · rw [if_pos]
      exact ⟨rfl, by
        have := List.length_pos_iff.mpr hr
        simp; omega⟩
/-! the signs -/
def sgs : Str := "!\"#$&'()*+,-./:;<=>?@ABCDEFGHIJKLMNOPQRSTUVWXYZ[\\]^_`abcdefghijklmnopqrstuvwxyz{|}~"
theorem sgs_ok : sgs.cps.toList.length = 83 ∧ ∀ c ∈ sgs.cps.toList, dg c = false ∧ c ≠ 32 ∧ c ≠ 10 := by
  constructor
  · decide +kernel
  · decide +kernel
theorem sign_eq (c : Int) : ∃ k : Nat, f_law_sign_by [.int c] = .ok (sh (.str ⟨#[k]⟩)) ∧ dg k = false ∧ k ≠ 32 ∧ k ≠ 10 := by
  obtain ⟨s1, s2⟩ := sgs_ok
  have d83 : divOk 83 := divOk_s (by decide) (by decide)
  have m0 : 0 ≤ c % 83 := by omega
  have m1 : c % 83 < 83 := by omega
  obtain ⟨j, hj⟩ : ∃ j : Nat, c % 83 = (j : Int) := ⟨_, (Int.toNat_of_nonneg m0).symm⟩
  have hl : j < sgs.cps.toList.length := by rw [s1]; omega
  have hat : atI sgs.cps.toList (j : Int) = some sgs.cps.toList[j] := by rw [atI_n, List.getElem?_eq_getElem hl]
  obtain ⟨q1, q2, q3⟩ := s2 _ (List.getElem_mem hl)
  refine ⟨sgs.cps.toList[j], ?_, q1, q2, q3⟩
  have e0 : ("!\"#$&'()*+,-./:;<=>?@ABCDEFGHIJKLMNOPQRSTUVWXYZ[\\]^_`" : Str) ++ ("abcdefghijklmnopqrstuvwxyz{|}~" : Str) = sgs := by decide +kernel
  have l0 : ("!\"#$&'()*+,-./:;<=>?@ABCDEFGHIJKLMNOPQRSTUVWXYZ[\\]^_`" : Str).length + ("abcdefghijklmnopqrstuvwxyz{|}~" : Str).length ≤ 10000 := by decide +kernel
  have lg : sgs.length ≤ 10000 := by rw [len_tl]; show sgs.cps.toList.length ≤ 10000; omega
  have ix := ixS_eq lg hat
  have ix := ixS_eq lg hat
  generalize sgs.cps.toList[j] = kk at *
  generalize sgs = SG at *
  simp [f_law_sign_by, runF, b_law_sign_by, rho0, d83, hj, l0, e0, ix]
theorem mem_cut {z : Str} {lo hi : Option Int} {c : Nat} (h : c ∈ TL.tl (cutS z lo hi)) : c ∈ TL.tl z := by
  have h' : c ∈ (z.cps.toList.drop (HT.sIx z.length 0 lo)).take (HT.sIx z.length z.length hi - HT.sIx z.length 0 lo) := h
  exact List.mem_of_mem_drop (List.mem_of_mem_take h')
theorem Wrd.app {u v : Str} (hu : 32 ∉ TL.tl u ∧ 10 ∉ TL.tl u) (hv : 32 ∉ TL.tl v ∧ 10 ∉ TL.tl v) (hl : u.length + v.length ≤ 100) : Wrd (u ++ v) := by
  refine ⟨?_, ?_, by rw [len_app]; exact hl⟩
  · rw [TL.tl_append]; exact fun h => (List.mem_append.mp h).elim hu.1 hv.1
  · rw [TL.tl_append]; exact fun h => (List.mem_append.mp h).elim hu.2 hv.2
theorem no_number_eq (v : Int) (hv : big v) (c : Int) : ∃ t : Str, f_law_no_number [.str (nS v), .int c] = .ok (sh (.str t)) ∧ Piece t ∧ t.length ≤ 100 := by
  have w := nS_wrd hv
  have wl := nS_len hv
  have w1 := nS_pos hv
  have d3 : divOk 3 := divOk_s (by decide) (by decide)
  have c3 : c % 3 = 0 ∨ c % 3 = 1 ∨ c % 3 = 2 := by omega
  rcases c3 with c3 | c3 | c3
  · obtain ⟨k, es, kd, k32, k10⟩ := sign_eq (c / 90)
    have dn : divOk ((nS v).length : Int) := divOk_s (by omega) (by omega)
    have n0 : ((nS v).length : Int) ≠ 0 := by omega
    have n0' : (nS v).length ≠ 0 := by omega
    have n0'' : 0 < (nS v).length := by omega
    have d90 : divOk 90 := divOk_s (by decide) (by decide)
    have d45 : divOk 45 := divOk_s (by decide) (by decide)
    have d2 : divOk 2 := divOk_s (by decide) (by decide)
    generalize hlo : (c / 3 % ((nS v).length : Int)) = lo at *
    generalize hhi : lo + c / 45 % 2 = hi at *
    have lA := cutS_length (nS v) none (some lo)
    have lB := cutS_length (nS v) (some hi) none
    have mA : ∀ q, q ∉ TL.tl (nS v) → q ∉ TL.tl (cutS (nS v) none (some lo)) := fun q h m => h (mem_cut m)
    have mB : ∀ q, q ∉ TL.tl (nS v) → q ∉ TL.tl (cutS (nS v) (some hi) none) := fun q h m => h (mem_cut m)
    have tk : TL.tl (⟨#[k]⟩ : Str) = [k] := rfl
    have lk : (⟨#[k]⟩ : Str).length = 1 := rfl
    refine ⟨cutS (nS v) none (some lo) ++ ⟨#[k]⟩ ++ cutS (nS v) (some hi) none, ?_, Piece.one (Wrd.app (u := cutS (nS v) none (some lo) ++ ⟨#[k]⟩) ⟨?_, ?_⟩ ⟨mB 32 w.1, mB 10 w.2.1⟩ (by rw [len_app, lk]; omega)) (nn_sign (c := k) ?_ kd), by rw [len_app, len_app, lk]; omega⟩
    · have g1 : (cutS (nS v) none (some lo)).length + (⟨#[k]⟩ : Str).length ≤ 10000 := by rw [lk]; omega
      have g2 : (cutS (nS v) none (some lo) ++ ⟨#[k]⟩).length + (cutS (nS v) (some hi) none).length ≤ 10000 := by rw [len_app, lk]; omega
      have g3 : (nS v).length ≤ 10000 := by omega
      clear w hv mA mB lA lB
      generalize nS v = W at *
      generalize (⟨#[k]⟩ : Str) = KS at *
      simp [f_law_no_number, runF, b_law_no_number, rho0, d3, c3, dn, n0, n0', n0'', d90, d45, d2, hlo, hhi, es, g1, g2, g3]
    · rw [TL.tl_append, tk]
      exact fun h => (List.mem_append.mp h).elim (mA 32 w.1) fun h => k32 (List.mem_singleton.mp h).symm
    · rw [TL.tl_append, tk]
      exact fun h => (List.mem_append.mp h).elim (mA 10 w.2.1) fun h => k10 (List.mem_singleton.mp h).symm
    · rw [TL.tl_append, TL.tl_append, tk]
      exact List.mem_append_left _ (List.mem_append_right _ (List.mem_singleton.mpr rfl))
  · have l0 : ("0" : Str).length = 1 := by decide
    have t0 : TL.tl ("0" : Str) = [48] := by decide
    refine ⟨("0" : Str) ++ nS v, ?_, Piece.one (Wrd.app ⟨by decide, by decide⟩ ⟨w.1, w.2.1⟩ (by rw [l0]; omega)) (nn_zero (r := TL.tl (nS v)) (by rw [TL.tl_append, t0]; rfl) fun z => by rw [len_tl, z] at w1; simp at w1), by rw [len_app, l0]; omega⟩
    have g1 : 1 + (nS v).length ≤ 10000 := by omega
    clear w hv
    generalize nS v = W at *
    simp [f_law_no_number, runF, b_law_no_number, rho0, d3, c3, l0, g1]
  · have d7 : divOk 7 := divOk_s (by decide) (by decide)
    have m7 : c / 3 % 7 = 0 ∨ c / 3 % 7 = 1 ∨ c / 3 % 7 = 2 ∨ c / 3 % 7 = 3 ∨ c / 3 % 7 = 4 ∨ c / 3 % 7 = 5 ∨ c / 3 % 7 = 6 := by omega
    have s31 : small62 (31 : Int) := small_of (by omega) (by omega)
    have l1 : ("1" : Str).length = 1 := by decide
    have l0 : ("0" : Str).length = 1 := by decide
    have lb : (" " : Str).length = 1 := by decide
    have lm : ("-" : Str).length = 1 := by decide
    have r1 : repS ("1" : Str) 31 = "1111111111111111111111111111111" := by decide +kernel
    have r0 : repS ("0" : Str) 31 = "0000000000000000000000000000000" := by decide +kernel
    have lr0 : ("0000000000000000000000000000000" : Str).length = 31 := by decide +kernel
    have x1 : mulS (.str ("1" : Str)) (.int 31) = some (.str "1111111111111111111111111111111") := by rw [mulS_eq ⟨s31, by rw [l1]; decide⟩, r1]
    have x0 : mulS (.str ("0" : Str)) (.int 31) = some (.str "0000000000000000000000000000000") := by rw [mulS_eq ⟨s31, by rw [l0]; decide⟩, r0]
    have wl' := wl
    have key : ∀ (t : Str) (j : Nat), c / 3 % 7 = (j : Int) → [("" : Str), "1111111111111111111111111111111", (" " : Str) ++ nS v, nS v ++ (" " : Str), ("-" : Str) ++ nS v, nS v ++ "0000000000000000000000000000000", "0x1"][j]? = some t → f_law_no_number [.str (nS v), .int c] = .ok (sh (.str t)) := by
      intro t j hj hat
      have hat' : atI ([("" : Str), "1111111111111111111111111111111", (" " : Str) ++ nS v, nS v ++ (" " : Str), ("-" : Str) ++ nS v, nS v ++ "0000000000000000000000000000000", "0x1"].map D.str) (j : Int) = some (.str t) := by rw [atI_n, List.getElem?_map, hat]; rfl
      have g1 : 1 + (nS v).length ≤ 10000 := by omega
      have g2 : (nS v).length + 1 ≤ 10000 := by omega
      have g3 : (nS v).length + 31 ≤ 10000 := by omega
      clear w hv m7 hat
      generalize nS v = W at *
      simp only [List.map_cons, List.map_nil] at hat'
      generalize ("0000000000000000000000000000000" : Str) = Z0 at *
      generalize ("1111111111111111111111111111111" : Str) = Z1 at *
      simp [f_law_no_number, runF, b_law_no_number, rho0, d3, c3, d7, hj, x1, x0, lb, lm, lr0, g1, g2, g3, hat']
    rcases m7 with m | m | m | m | m | m | m
    · exact ⟨_, key _ 0 m rfl, Piece.one ⟨by decide, by decide, by decide⟩ nn_empty, by decide⟩
    · exact ⟨_, key _ 1 m rfl, Piece.one ⟨by decide +kernel, by decide +kernel, by decide +kernel⟩ (nn_long (by decide +kernel)), by decide +kernel⟩
    · refine ⟨_, key _ 2 m rfl, ⟨["", nS v], by simp, by simp, ?_, fun u hu => ?_, "", by simp, nn_empty⟩, by rw [len_app, lb]; omega⟩
      · rw [join_cons2, join_one]
        show _ = (PySem.Str.empty ++ (" " : Str)) ++ nS v
        rw [PySem.Str.empty_append]
      · rcases List.mem_cons.mp hu with rfl | hu
        · exact ⟨by decide, by decide, by decide⟩
        · rw [List.mem_singleton.mp hu]; exact w
    · refine ⟨_, key _ 3 m rfl, ⟨[nS v, ""], by simp, by simp, ?_, fun u hu => ?_, "", by simp, nn_empty⟩, by rw [len_app, lb]; omega⟩
      · rw [join_cons2, join_one]
        exact (PySem.Str.append_empty _).symm
      · rcases List.mem_cons.mp hu with rfl | hu
        · exact w
        · rw [List.mem_singleton.mp hu]; exact ⟨by decide, by decide, by decide⟩
    · refine ⟨_, key _ 4 m rfl, Piece.one (Wrd.app ⟨by decide, by decide⟩ ⟨w.1, w.2.1⟩ (by rw [lm]; omega)) (nn_sign (c := 45) ?_ (by decide)), by rw [len_app, lm]; omega⟩
      rw [TL.tl_append]
      exact List.mem_append_left _ (by decide)
    · exact ⟨_, key _ 5 m rfl, Piece.one (Wrd.app ⟨w.1, w.2.1⟩ ⟨by decide +kernel, by decide +kernel⟩ (by rw [lr0]; omega)) (nn_long (by rw [len_app, lr0]; omega)), by rw [len_app, lr0]; omega⟩
    · exact ⟨_, key _ 6 m rfl, Piece.one ⟨by decide, by decide, by decide⟩ (nn_sign (c := 120) (by decide) (by decide)), by decide⟩
end K16
namespace K16
open PySem L2 B
/-! ### the ways of spoiling a row -/
abbrev leastL : List (Str × Int) := [(("belt" : Str), 2), (("source" : Str), 3), (("drain" : Str), 2), (("parter" : Str), 3), (("first" : Str), 3), (("sieve" : Str), 4), (("joiner" : Str), 3)]
abbrev mostL : List (Str × Int) := [(("belt" : Str), 2), (("source" : Str), 8), (("drain" : Str), 2), (("parter" : Str), 5), (("first" : Str), 5), (("sieve" : Str), 4), (("joiner" : Str), 5)]
/-- what is known of the row -/
structure Wz (R : Str) (w : Str) (W : List D) (lo hi : Int) (n : Nat) : Prop where
  sp : (Txt.split R (" " : Str)).map D.str = .str w :: W
  rl : R.length ≤ 300
  hn : W.length = n
  nb : 2 ≤ n ∧ n ≤ 8
  l : valV (kvD leastL) (.inr w) = some (.int lo)
  m : valV (kvD mostL) (.inr w) = some (.int hi)
  hlo : 2 ≤ lo ∧ lo ≤ 4
  hhi : (n : Int) ≤ hi ∧ hi ≤ 8
section
variable {R w T : Str} {W : List D} {lo hi c : Int} {n : Nat}
theorem way0 (Z : Wz R w W lo hi n) (hc : c % 8 = 0) (k : Nat) (hk : c / 8 % lo = (k : Int)) (ej : joinO (" " : Str) (.str w :: W.take k) = some T) : f_law_spoilt [.str R, .int c] = .ok (sh (.str T)) := by
  obtain ⟨sp, rl, hn, nb, hl, hm, hlo, hhi⟩ := Z
  have d8 : divOk 8 := divOk_s (by decide) (by decide)
  have dl : divOk lo := divOk_s (by omega) (by omega)
  have dn : divOk ((W.length : Int) + 1) := divOk_s (by omega) (by omega)
  have n0 : (W.length : Int) + 1 ≠ 0 := by omega
  have np : (0 : Int) < (W.length : Int) + 1 := by omega
  have l0 : lo ≠ 0 := by omega
  have lp : 0 < lo := by omega
  have lb : (" " : Str).length = 1 := by decide
  have g1 : R.length ≤ 10000 := by omega
  have cut : cutD (.str w :: W) none (some (1 + (k : Int))) = .str w :: W.take k := by
    have := cutD_to (.str w :: W) (k + 1)
    rw [show ((k + 1 : Nat) : Int) = 1 + (k : Int) by omega] at this
    rw [this]
    rfl
  simp [f_law_spoilt, runF, b_law_spoilt, rho0, d8, dl, dn, n0, np, l0, lp, lb, g1, sp, hl, hm, hc, hk, cut, sFz, ej]
theorem sp_loop (a0 a1 a3 a4 a5 a6 a8 : B.Slot) : ∀ (m j : Nat) (acc : List D) (s7 : B.Slot), acc.length + m ≤ 1000 → ∃ t7 : B.Slot, sItems (gN 7) l1_law_spoilt (rng j m) [a0, a1, some (1, .lst acc), a3, a4, a5, a6, s7, a8] = .ok .nx [a0, a1, some (1, .lst (acc ++ (List.range' j m).map fun (i : Nat) => D.str (nS (1 + (i : Int) % 3)))), a3, a4, a5, a6, t7, a8]
  | 0, j, acc, s7, _ => ⟨s7, by simp [rng_zero]⟩
  | m + 1, j, acc, s7, hl => by
    obtain ⟨t7, e⟩ := sp_loop a0 a1 a3 a4 a5 a6 a8 m (j + 1) (acc ++ [D.str (nS (1 + (j : Int) % 3))]) (some (0, .int (j : Nat))) (by simp; omega)
    have d3 : divOk 3 := divOk_s (by decide) (by decide)
    have al : acc.length < 10000 := by omega
    have m0 : 0 ≤ (j : Int) % 3 := by omega
    have m1 : (j : Int) % 3 < 3 := by omega
    have lv := lg (small_big (x := 1 + (j : Int) % 3) (by omega))
    have hst : ∀ (b : Bool) (q : Nat), strV ⟨b, q, .int (1 + (j : Int) % 3)⟩ = .ok (sh (.str (nS (1 + (j : Int) % 3)))) := fun b q => by rw [strV_i, if_pos lv]
    have ht : fTurn (gN 7) l1_law_spoilt (.int (j : Nat)) [a0, a1, some (1, .lst acc), a3, a4, a5, a6, s7, a8] = .inl [a0, a1, some (1, .lst (acc ++ [D.str (nS (1 + (j : Int) % 3))])), a3, a4, a5, a6, some (0, .int (j : Nat)), a8] := by
      clear e lv
      generalize hq : (j : Int) % 3 = q at *
      generalize nS (1 + q) = Q at *
      simp [-strV_i, hst, fTurn, l1_law_spoilt, d3, hq, appL, al]
    refine ⟨t7, ?_⟩
    rw [rng_succ, sItems_inl ht, show (j : Int) + 1 = ((j + 1 : Nat) : Int) by omega, e, List.range'_succ, List.map_cons, List.append_assoc]
    rfl
theorem way1 (Z : Wz R w W lo hi n) (hc : c % 8 = 1) (m : Nat) (hm0 : hi + 1 - ((n : Int) + 1) + 1 + c / 8 % 3 = (m : Int)) (ej : joinO (" " : Str) (.str w :: (W ++ (List.range' 0 m).map fun (i : Nat) => D.str (nS (1 + (i : Int) % 3)))) = some T) : f_law_spoilt [.str R, .int c] = .ok (sh (.str T)) := by
  obtain ⟨sp, rl, hn, nb, hl, hm, hlo, hhi⟩ := Z
  have d8 : divOk 8 := divOk_s (by decide) (by decide)
  have d3 : divOk 3 := divOk_s (by decide) (by decide)
  have dn : divOk ((W.length : Int) + 1) := divOk_s (by omega) (by omega)
  have n0 : (W.length : Int) + 1 ≠ 0 := by omega
  have np : (0 : Int) < (W.length : Int) + 1 := by omega
  have lb : (" " : Str).length = 1 := by decide
  have g1 : R.length ≤ 10000 := by omega
  have c3 : c / 8 % 3 < 3 := by omega
  have sm : small62 (m : Int) := small_of (by omega) (by omega)
  rw [← hn] at hm0
  obtain ⟨t7, e⟩ := sp_loop (some (0, .str R)) (some (0, .int c)) (some (0, .int lo)) (some (0, .int hi)) (some (0, .int 1)) (some (0, .int (c / 8 % ((W.length : Int) + 1)))) none m 0 (.str w :: W) none (by simp; omega)
  rw [List.cons_append] at e
  generalize (W ++ (List.range' 0 m).map fun (i : Nat) => D.str (nS (1 + (i : Int) % 3))) = W2 at *
  replace e : sItems (gN 7) l1_law_spoilt (rng 0 m) [some (0, .str R), some (0, .int c), some (1, .lst (.str w :: W)), some (0, .int lo), some (0, .int hi), some (0, .int 1), some (0, .int (c / 8 % ((W.length : Int) + 1))), none, none] = _ := e
  simp [f_law_spoilt, runF, b_law_spoilt, rho0, d8, d3, dn, n0, np, lb, g1, sp, hl, hm, hc, hm0, sm]
  rw [e]
  simp [ej, lb]
theorem way2 (Z : Wz R w W lo hi n) (hc : c % 8 = 2 ∨ c % 8 = 3) (j : Nat) (hj : c / 8 % (n : Int) = (j : Int)) (jn : j < n) (y t : Str) (hy : W[j]? = some (.str y)) (et : f_law_no_number [.str y, .int (c / 72)] = .ok (sh (.str t))) (ej : joinO (" " : Str) (.str w :: W.set j (.str t)) = some T) : f_law_spoilt [.str R, .int c] = .ok (sh (.str T)) := by
  obtain ⟨sp, rl, hn, nb, hl, hm, hlo, hhi⟩ := Z
  have d8 : divOk 8 := divOk_s (by decide) (by decide)
  have d72 : divOk 72 := divOk_s (by decide) (by decide)
  have dn : divOk ((W.length : Int) + 1) := divOk_s (by omega) (by omega)
  have dn2 : divOk (W.length : Int) := divOk_s (by omega) (by omega)
  have n0 : (W.length : Int) + 1 ≠ 0 := by omega
  have np : (0 : Int) < (W.length : Int) + 1 := by omega
  have m0 : (W.length : Int) ≠ 0 := by omega
  have m0' : W ≠ [] := by intro z; rw [z] at hn; simp at hn; omega
  have mp : (0 : Int) < (W.length : Int) := by omega
  have mp' : 0 < W.length := by omega
  have lb : (" " : Str).length = 1 := by decide
  have g1 : R.length ≤ 10000 := by omega
  have ha : atI (.str w :: W) (1 + (j : Int)) = some (.str y) := by
    rw [show 1 + (j : Int) = ((j + 1 : Nat) : Int) by omega, atI_n]
    exact hy
  have ix : ixN (W.length + 1) (1 + (j : Int)) = some (j + 1) := by
    unfold ixN
    rw [if_pos (by omega), if_pos (by omega)]
    congr 1
    omega
  have ss : (D.str w :: W).set (j + 1) (.str t) = .str w :: W.set j (.str t) := rfl
  rw [← hn] at hj
  rcases hc with hc | hc
  · simp [f_law_spoilt, runF, b_law_spoilt, rho0, d8, d72, dn, dn2, n0, np, m0, m0', mp, mp', lb, g1, sp, hl, hm, hc, hj, ha, et, ix, ss, ej]
  · simp [f_law_spoilt, runF, b_law_spoilt, rho0, d8, d72, dn, dn2, n0, np, m0, m0', mp, mp', lb, g1, sp, hl, hm, hc, hj, ha, et, ix, ss, ej]
theorem way4 (Z : Wz R w W lo hi n) (hc : c % 8 = 4) (BL : List D) (kk : Nat) (eb : f_law_beyond [.lst (.str w :: W), .int (c / 8)] = .ok ⟨false, kk, .lst BL⟩) (ej : joinO (" " : Str) BL = some T) (hf : flatK kk (.lst BL) = true) : f_law_spoilt [.str R, .int c] = .ok (sh (.str T)) := by
  obtain ⟨sp, rl, hn, nb, hl, hm, hlo, hhi⟩ := Z
  have d8 : divOk 8 := divOk_s (by decide) (by decide)
  have dn : divOk ((W.length : Int) + 1) := divOk_s (by omega) (by omega)
  have n0 : (W.length : Int) + 1 ≠ 0 := by omega
  have np : (0 : Int) < (W.length : Int) + 1 := by omega
  have lb : (" " : Str).length = 1 := by decide
  have g1 : R.length ≤ 10000 := by omega
  simp [f_law_spoilt, runF, b_law_spoilt, rho0, d8, dn, n0, np, lb, g1, sp, hl, hm, hc, eb, hf, ej]
def others : List Str := ["", "Belt", "belts", "sourc", "SOURCE", "drains", "part", "firsts", "seive", "join", "1", "knot"]
theorem way5 (Z : Wz R w W lo hi n) (hc : c % 8 = 5) (o : Str) (ho : atI (others.map D.str) (c / 8 % 12) = some (.str o)) (ej : joinO (" " : Str) (.str o :: W) = some T) : f_law_spoilt [.str R, .int c] = .ok (sh (.str T)) := by
  obtain ⟨sp, rl, hn, nb, hl, hm, hlo, hhi⟩ := Z
  have d8 : divOk 8 := divOk_s (by decide) (by decide)
  have d12 : divOk 12 := divOk_s (by decide) (by decide)
  have dn : divOk ((W.length : Int) + 1) := divOk_s (by omega) (by omega)
  have n0 : (W.length : Int) + 1 ≠ 0 := by omega
  have np : (0 : Int) < (W.length : Int) + 1 := by omega
  have lb : (" " : Str).length = 1 := by decide
  have g1 : R.length ≤ 10000 := by omega
  have ix : ixN (W.length + 1) 0 = some 0 := by
    unfold ixN
    rw [if_pos (by omega), if_pos (by omega)]
    rfl
  simp only [others, List.map_cons, List.map_nil] at ho
  simp [f_law_spoilt, runF, b_law_spoilt, rho0, d8, d12, dn, n0, np, lb, g1, sp, hl, hm, hc, ho, ix, ej]
theorem way6 (Z : Wz R w W lo hi n) (hc : c % 8 = 6) (i : Nat) (hi' : c / 8 % ((n : Int) + 1) = (i : Int)) (il : i ≤ n) (ej : joinO (" " : Str) ((.str w :: W).take i ++ (.str "" :: (.str w :: W).drop i)) = some T) : f_law_spoilt [.str R, .int c] = .ok (sh (.str T)) := by
  obtain ⟨sp, rl, hn, nb, hl, hm, hlo, hhi⟩ := Z
  have d8 : divOk 8 := divOk_s (by decide) (by decide)
  have dn : divOk ((W.length : Int) + 1) := divOk_s (by omega) (by omega)
  have n0 : (W.length : Int) + 1 ≠ 0 := by omega
  have np : (0 : Int) < (W.length : Int) + 1 := by omega
  have lb : (" " : Str).length = 1 := by decide
  have g1 : R.length ≤ 10000 := by omega
  rw [← hn] at hi'
  have c1 := cutD_to (.str w :: W) i
  have c2 := cutD_from (.str w :: W) i
  have l1 : ((D.str w :: W).take i).length ≤ 10 := by rw [List.length_take, List.length_cons]; omega
  have l2 : ((D.str w :: W).drop i).length ≤ 10 := by rw [List.length_drop, List.length_cons]; omega
  generalize (D.str w :: W).take i = A1 at *
  generalize (D.str w :: W).drop i = A2 at *
  have a1 : A1.length + 1 ≤ 10000 := by omega
  have a2 : A1.length + 1 + A2.length ≤ 10000 := by omega
  have a3 : A1.length + (A2.length + 1) ≤ 10000 := by omega
  simp [f_law_spoilt, runF, b_law_spoilt, rho0, d8, dn, n0, np, lb, g1, sp, hl, hm, hc, hi', c1, c2, sFz, addV, a1, a2, a3, ej]
theorem way7 (Z : Wz R w W lo hi n) (hc : c % 8 = 7) (hat : atI [D.str "", .str " ", .str "  ", .str (R ++ (" " : Str))] (c / 8 % 4) = some (.str T)) : f_law_spoilt [.str R, .int c] = .ok (sh (.str T)) := by
  obtain ⟨sp, rl, hn, nb, hl, hm, hlo, hhi⟩ := Z
  have d8 : divOk 8 := divOk_s (by decide) (by decide)
  have d4 : divOk 4 := divOk_s (by decide) (by decide)
  have dn : divOk ((W.length : Int) + 1) := divOk_s (by omega) (by omega)
  have n0 : (W.length : Int) + 1 ≠ 0 := by omega
  have np : (0 : Int) < (W.length : Int) + 1 := by omega
  have lb : (" " : Str).length = 1 := by decide
  have g1 : R.length ≤ 10000 := by omega
  have g2 : R.length + 1 ≤ 10000 := by omega
  simp [f_law_spoilt, runF, b_law_spoilt, rho0, d8, d4, dn, n0, np, lb, g1, g2, sp, hl, hm, hc, sFz, hat]
end
end K16
namespace K16
open PySem L2 B
/-! ### the rows of a work by their forms -/
inductive Frm : Str → List Int → Int → Int → Prop
  | belt (r p : Int) (h : bOk (r, p)) : Frm "belt" [r, p] 2 2
  | src (o p k : Int) (ks : List Int) (h : ks.length ≤ 5) : Frm "source" (o :: p :: k :: ks) 3 8
  | drn (i p : Int) : Frm "drain" [i, p] 2 2
  | prt (x a b : Int) (o : List Int) (h : o.length ≤ 2) : Frm "parter" (x :: a :: b :: o) 3 5
  | fst (x a b : Int) (o : List Int) (h : o.length ≤ 2) : Frm "first" (x :: a :: b :: o) 3 5
  | siv (x a b k : Int) : Frm "sieve" [x, a, b, k] 4 4
  | jn (x a b : Int) (o : List Int) (h : o.length ≤ 2) : Frm "joiner" (x :: a :: b :: o) 3 5
def KBad (w : Str) (ys : List Int) : Prop := (w = "belt" ∧ f_belt_of [intsL ys] = .ex "BadBelt") ∨ (w ≠ "belt" ∧ f_knot_of [.str w, intsL ys] = .ex "BadKnot")
theorem Frm.few {w : Str} {xs ys : List Int} {lo hi : Int} (F : Frm w xs lo hi) (h : (ys.length : Int) < lo) : KBad w ys := by
  cases F with
  | belt r p _ => exact .inl ⟨rfl, bl_many ys (by omega)⟩
  | src o p k ks _ => exact .inr ⟨by decide, kn_src_few ys (by omega)⟩
  | drn i p => exact .inr ⟨by decide, kn_drn_many ys (by omega)⟩
  | prt x a b o _ => exact .inr ⟨by decide, kn_parts _ (.inl rfl) ys (by omega)⟩
  | fst x a b o _ => exact .inr ⟨by decide, kn_parts _ (.inr (.inl rfl)) ys (by omega)⟩
  | siv x a b k => exact .inr ⟨by decide, kn_sieve ys (by omega)⟩
  | jn x a b o _ => exact .inr ⟨by decide, kn_parts _ (.inr (.inr rfl)) ys (by omega)⟩
theorem Frm.many {w : Str} {xs ys : List Int} {lo hi : Int} (F : Frm w xs lo hi) (h : hi < (ys.length : Int)) : KBad w ys := by
  cases F with
  | belt r p _ => exact .inl ⟨rfl, bl_many ys (by omega)⟩
  | src o p k ks _ =>
    refine .inr ⟨by decide, ?_⟩
    match ys, h with
    | a :: b :: c :: r, h =>
      simp only [List.length_cons] at h
      exact kn_src a b (c :: r) (by simp) (.inr (.inr (by simp only [List.length_cons]; omega)))
    | [], h => simp at h
    | [_], h => simp at h
    | [_, _], h => simp at h
  | drn i p => exact .inr ⟨by decide, kn_drn_many ys (by omega)⟩
  | prt x a b o _ => exact .inr ⟨by decide, kn_parts _ (.inl rfl) ys (by omega)⟩
  | fst x a b o _ => exact .inr ⟨by decide, kn_parts _ (.inr (.inl rfl)) ys (by omega)⟩
  | siv x a b k => exact .inr ⟨by decide, kn_sieve ys (by omega)⟩
  | jn x a b o _ => exact .inr ⟨by decide, kn_parts _ (.inr (.inr rfl)) ys (by omega)⟩
theorem Frm.wrd {w : Str} {xs : List Int} {lo hi : Int} (F : Frm w xs lo hi) : Wrd w ∧ w.length ≤ 10 ∧ NoNum w := by
  cases F with
  | belt => exact ⟨⟨by decide, by decide, by decide⟩, by decide, nn_sign (c := 98) (by decide) (by decide)⟩
  | src => exact ⟨⟨by decide, by decide, by decide⟩, by decide, nn_sign (c := 115) (by decide) (by decide)⟩
  | drn => exact ⟨⟨by decide, by decide, by decide⟩, by decide, nn_sign (c := 100) (by decide) (by decide)⟩
  | prt => exact ⟨⟨by decide, by decide, by decide⟩, by decide, nn_sign (c := 112) (by decide) (by decide)⟩
  | fst => exact ⟨⟨by decide, by decide, by decide⟩, by decide, nn_sign (c := 102) (by decide) (by decide)⟩
  | siv => exact ⟨⟨by decide, by decide, by decide⟩, by decide, nn_sign (c := 115) (by decide) (by decide)⟩
  | jn => exact ⟨⟨by decide, by decide, by decide⟩, by decide, nn_sign (c := 106) (by decide) (by decide)⟩
theorem Frm.len {w : Str} {xs : List Int} {lo hi : Int} (F : Frm w xs lo hi) : 2 ≤ xs.length ∧ xs.length ≤ 8 ∧ (2 ≤ lo ∧ lo ≤ 4) ∧ (xs.length : Int) ≤ hi ∧ hi ≤ 8 := by
  cases F <;> simp <;> omega
theorem Frm.wz {w : Str} {xs : List Int} {lo hi : Int} (F : Frm w xs lo hi) (hx : ∀ x ∈ xs, big x) : Wz (rowT w xs) w ((xs.map nS).map .str) lo hi xs.length := by
  obtain ⟨⟨w32, _, _⟩, wl, _⟩ := F.wrd
  obtain ⟨l1, l2, l3, l4, l5⟩ := F.len
  refine ⟨row_split w xs w32 hx, ?_, by simp, ⟨l1, l2⟩, ?_, ?_, l3, l4, l5⟩
  · have := rowT_len w xs wl hx l2
    omega
  · cases F <;> rfl
  · cases F <;> rfl
/-- a text of words -/
structure Wds (T : Str) (us : List Str) : Prop where
  e : T = Txt.join (" " : Str) us
  w : ∀ u ∈ us, Wrd u
  l : (us.map (·.length)).sum + us.length ≤ 500
theorem Wds.len {T : Str} {us : List Str} (h : Wds T us) : T.length ≤ 500 := by
  rw [h.e, tx_join]
  refine Nat.le_trans (PySem.StrLaws.join_length_le _ _) ?_
  rw [show (" " : Str).length = 1 from by decide, Nat.mul_one]
  exact h.l
theorem Wds.no10 {T : Str} {us : List Str} (h : Wds T us) : 10 ∉ TL.tl T := by
  rw [h.e, TL.join_eq, TL.tl_join]
  intro m
  rcases mem_joinL 10 _ _ m with m | ⟨p, hp, hc⟩
  · exact absurd m (by decide)
  · obtain ⟨u, hu, rfl⟩ := List.mem_map.mp hp
    exact (h.w u hu).2.1 hc
theorem nS_sum (xs : List Int) (hx : ∀ x ∈ xs, big x) : ((xs.map nS).map (·.length)).sum ≤ xs.length * 30 := by
  have := sum_le (fun x => (nS x).length) 30 xs fun x h => nS_len (hx x h)
  rw [List.map_map]
  exact this
theorem Wds.row {w : Str} {xs : List Int} (hw : Wrd w) (wl : w.length ≤ 10) (hx : ∀ x ∈ xs, big x) (hl : xs.length ≤ 12) : Wds (rowT w xs) (w :: xs.map nS) := by
  refine ⟨rfl, fun u hu => ?_, ?_⟩
  · rcases List.mem_cons.mp hu with rfl | hu
    · exact hw
    · obtain ⟨x, h, rfl⟩ := List.mem_map.mp hu
      exact nS_wrd (hx x h)
  · have := nS_sum xs hx
    rw [List.map_cons, List.sum_cons, List.length_cons, List.length_map]
    omega
theorem join_of {us : List Str} (h : (us.map (·.length)).sum + us.length ≤ 10000) : joinO (" " : Str) (us.map .str) = some (Txt.join (" " : Str) us) := joinO_map _ _ (by rw [show (" " : Str).length = 1 from by decide, Nat.mul_one]; exact h)
theorem KBad.bad {w : Str} {ys : List Int} (h : KBad w ys) (hw : Wrd w) (wl : w.length ≤ 10) (hx : ∀ x ∈ ys, big x) (hl : ys.length ≤ 12) : BadT (rowT w ys) := by
  have tl := (Wds.row hw wl hx hl).len
  rcases h with ⟨rfl, h⟩ | ⟨hb, h⟩
  · exact bad_belt ys hx (by omega) (by omega) h
  · exact bad_knot w ys hw.1 hx (by omega) (by omega) hb h
/-- what spoiling gives: a row of words that is bad -/
def SpTo (R : Str) (c : Int) : Prop := ∃ (T : Str) (us : List Str), f_law_spoilt [.str R, .int c] = .ok (sh (.str T)) ∧ BadT T ∧ Wds T us
section
variable {w : Str} {xs : List Int} {lo hi c : Int}
theorem sp0 (F : Frm w xs lo hi) (hx : ∀ x ∈ xs, big x) (hc : c % 8 = 0) : SpTo (rowT w xs) c := by
  obtain ⟨hw, wl, _⟩ := F.wrd
  obtain ⟨l1, l2, l3, l4, l5⟩ := F.len
  have m0 := Int.emod_nonneg (c / 8) (b := lo) (by omega)
  have m1 := Int.emod_lt_of_pos (c / 8) (b := lo) (by omega)
  obtain ⟨k, hk⟩ : ∃ k : Nat, c / 8 % lo = (k : Int) := ⟨_, (Int.toNat_of_nonneg m0).symm⟩
  rw [hk] at m1
  have hx2 : ∀ x ∈ xs.take k, big x := fun x h => hx x (List.mem_of_mem_take h)
  have tl2 : (xs.take k).length ≤ k := by rw [List.length_take]; omega
  have tl3 : (xs.take k).length ≤ 12 := by omega
  have W := Wds.row hw wl hx2 tl3
  have ej : joinO (" " : Str) (.str w :: ((xs.map nS).map D.str).take k) = some (rowT w (xs.take k)) := by
    have := join_of (us := w :: (xs.take k).map nS) (by have := W.l; omega)
    unfold rowT
    rw [List.map_cons, List.map_take, List.map_take] at this
    rw [List.map_take]
    exact this
  exact ⟨_, _, way0 (F.wz hx) hc k hk ej, (F.few (ys := xs.take k) (by omega)).bad hw wl hx2 tl3, W⟩
theorem sp1 (F : Frm w xs lo hi) (hx : ∀ x ∈ xs, big x) (hc : c % 8 = 1) : SpTo (rowT w xs) c := by
  obtain ⟨hw, wl, _⟩ := F.wrd
  obtain ⟨l1, l2, l3, l4, l5⟩ := F.len
  have m0 : 0 ≤ c / 8 % 3 := by omega
  have m1 : c / 8 % 3 < 3 := by omega
  obtain ⟨m, hm⟩ : ∃ m : Nat, hi + 1 - ((xs.length : Int) + 1) + 1 + c / 8 % 3 = (m : Int) := ⟨(hi + 1 - ((xs.length : Int) + 1) + 1 + c / 8 % 3).toNat, by omega⟩
  have hx2 : ∀ x ∈ xs ++ (List.range' 0 m).map (fun (i : Nat) => 1 + (i : Int) % 3), big x := fun x h => by
    rcases List.mem_append.mp h with h | h
    · exact hx x h
    · obtain ⟨i, _, rfl⟩ := List.mem_map.mp h
      exact small_big (by omega)
  have tl3 : (xs ++ (List.range' 0 m).map (fun (i : Nat) => 1 + (i : Int) % 3)).length ≤ 12 := by simp; omega
  have tl4 : hi < ((xs ++ (List.range' 0 m).map (fun (i : Nat) => 1 + (i : Int) % 3)).length : Int) := by simp; omega
  have W := Wds.row hw wl hx2 tl3
  have ej : joinO (" " : Str) (.str w :: ((xs.map nS).map D.str ++ (List.range' 0 m).map fun (i : Nat) => D.str (nS (1 + (i : Int) % 3)))) = some (rowT w (xs ++ (List.range' 0 m).map (fun (i : Nat) => 1 + (i : Int) % 3))) := by
    have := join_of (us := w :: (xs ++ (List.range' 0 m).map (fun (i : Nat) => 1 + (i : Int) % 3)).map nS) (by have := W.l; omega)
    unfold rowT
    simp only [List.map_cons, List.map_append, List.map_map] at this ⊢
    exact this
  exact ⟨_, _, way1 (F.wz hx) hc m hm ej, (F.many tl4).bad hw wl hx2 tl3, W⟩
theorem sum_set2 (L : List Str) (i : Nat) (y : Str) : ((L.set i y).map (·.length)).sum ≤ (L.map (·.length)).sum + y.length := by
  induction L generalizing i with
  | nil => simp
  | cons x xs ih =>
    cases i with
    | zero => simp only [List.set_cons_zero, List.map_cons, List.sum_cons]; omega
    | succ i =>
      have := ih i
      simp only [List.set_cons_succ, List.map_cons, List.sum_cons]
      omega
theorem sp2 (F : Frm w xs lo hi) (hx : ∀ x ∈ xs, big x) (hc : c % 8 = 2 ∨ c % 8 = 3) : SpTo (rowT w xs) c := by
  obtain ⟨hw, wl, _⟩ := F.wrd
  obtain ⟨l1, l2, l3, l4, l5⟩ := F.len
  have m0 := Int.emod_nonneg (c / 8) (b := (xs.length : Int)) (by omega)
  have m1 := Int.emod_lt_of_pos (c / 8) (b := (xs.length : Int)) (by omega)
  obtain ⟨j, hj⟩ : ∃ j : Nat, c / 8 % (xs.length : Int) = (j : Int) := ⟨_, (Int.toNat_of_nonneg m0).symm⟩
  rw [hj] at m1
  have jl : j < xs.length := by omega
  obtain ⟨t, et, ⟨ps, p0, p2, pe, pw, pn⟩, tl⟩ := no_number_eq xs[j] (hx _ (List.getElem_mem jl)) (c / 72)
  have hy : ((xs.map nS).map D.str)[j]? = some (.str (nS xs[j])) := by
    rw [List.getElem?_map, List.getElem?_map, List.getElem?_eq_getElem jl]; rfl
  have ns := nS_sum xs hx
  have fit0 : ((w :: (xs.map nS).set j t).map (·.length)).sum + (w :: (xs.map nS).set j t).length ≤ 400 := by
    have := sum_set2 (xs.map nS) j t
    rw [List.map_cons, List.sum_cons, List.length_cons, List.length_set, List.length_map]
    omega
  have ej : joinO (" " : Str) (.str w :: ((xs.map nS).map D.str).set j (.str t)) = some (Txt.join (" " : Str) (w :: (xs.map nS).set j t)) := by
    have := join_of (us := w :: (xs.map nS).set j t) (by omega)
    rw [List.map_cons, List.map_set] at this
    exact this
  have eset : (xs.map nS).set j t = (xs.map nS).take j ++ t :: (xs.map nS).drop (j + 1) := by
    rw [List.set_eq_take_append_cons_drop, if_pos (by simpa using jl)]
  have eT : Txt.join (" " : Str) (w :: (xs.map nS).set j t) = Txt.join (" " : Str) (w :: ((xs.map nS).take j ++ (ps ++ (xs.map nS).drop (j + 1)))) := by
    rw [tx_join, tx_join, eset, pe]
    exact join_in _ ps p0 (w :: (xs.map nS).take j) ((xs.map nS).drop (j + 1))
  have wus : ∀ u ∈ w :: ((xs.map nS).take j ++ (ps ++ (xs.map nS).drop (j + 1))), Wrd u := fun u hu => by
    have old : ∀ v ∈ xs.map nS, Wrd v := fun v hv => by
      obtain ⟨x, h, rfl⟩ := List.mem_map.mp hv
      exact nS_wrd (hx x h)
    rcases List.mem_cons.mp hu with rfl | hu
    · exact hw
    · rcases List.mem_append.mp hu with hu | hu
      · exact old u (List.mem_of_mem_take hu)
      · rcases List.mem_append.mp hu with hu | hu
        · exact pw u hu
        · exact old u (List.mem_of_mem_drop hu)
  have tlen : (Txt.join (" " : Str) (w :: ((xs.map nS).take j ++ (ps ++ (xs.map nS).drop (j + 1))))).length ≤ 400 := by
    rw [← eT, tx_join]
    refine Nat.le_trans (PySem.StrLaws.join_length_le _ _) ?_
    rw [show (" " : Str).length = 1 from by decide, Nat.mul_one]
    exact fit0
  have psl : (ps.map (·.length)).sum ≤ 200 := by
    have := sum_le (fun u : Str => u.length) 100 ps fun u hu => (pw u hu).2.2
    omega
  refine ⟨_, w :: ((xs.map nS).take j ++ (ps ++ (xs.map nS).drop (j + 1))), way2 (F.wz hx) hc j hj jl _ t hy et ej, ?_, ⟨eT, wus, ?_⟩⟩
  · rw [eT]
    obtain ⟨u, hu, un⟩ := pn
    exact bad_words w _ ⟨u, List.mem_append_right _ (List.mem_append_left _ hu), un⟩ (fun v hv => (wus v hv).1) (fun v hv => by have := (wus v (List.mem_cons_of_mem _ hv)).2.2; omega) (by simp; omega) (by omega)
  · have q : ((xs.map nS).take j).length + ((xs.map nS).drop (j + 1)).length ≤ 8 := by simp; omega
    have s1 : (((xs.map nS).take j).map (·.length)).sum + (((xs.map nS).drop (j + 1)).map (·.length)).sum ≤ 240 := by
      have e := congrArg (fun L : List Str => (L.map (·.length)).sum) (List.take_append_drop j (xs.map nS)).symm
      simp only [List.map_append, List.sum_append] at e
      have e2 : (((xs.map nS).drop (j + 1)).map (·.length)).sum ≤ (((xs.map nS).drop j).map (·.length)).sum := by
        have hd : (xs.map nS).drop j = (xs.map nS)[j]'(by simpa using jl) :: (xs.map nS).drop (j + 1) := List.drop_eq_getElem_cons (by simpa using jl)
        rw [hd, List.map_cons, List.sum_cons]
        omega
      omega
    simp only [List.map_cons, List.sum_cons, List.map_append, List.sum_append, List.length_cons, List.length_append]
    omega
end
end K16
namespace K16
open PySem L2 B
theorem strV_big {v : Int} (h : big v) (b : Bool) (q : Nat) : strV ⟨b, q, .int v⟩ = .ok (sh (.str (nS v))) := by rw [strV_i, if_pos (lg h)]
/-- numbers beyond their bounds -/
def ByTo (w : Str) (W : List D) (c : Int) : Prop := ∃ (kk : Nat) (us : List Str), f_law_beyond [.lst (.str w :: W), .int c] = .ok ⟨false, kk, .lst (us.map .str)⟩ ∧ kk = 1 ∧ (us.map (·.length)).sum + us.length ≤ 400 ∧ BadT (Txt.join (" " : Str) us) ∧ ∃ us2, Wds (Txt.join (" " : Str) us) us2
theorem by_row {w : Str} {ys : List Int} (hk : KBad w ys) (hw : Wrd w) (wl : w.length ≤ 10) (hx : ∀ x ∈ ys, big x) (hl : ys.length ≤ 8) : ((w :: ys.map nS).map (·.length)).sum + (w :: ys.map nS).length ≤ 400 ∧ BadT (Txt.join (" " : Str) (w :: ys.map nS)) ∧ ∃ us2, Wds (Txt.join (" " : Str) (w :: ys.map nS)) us2 := by
  refine ⟨?_, hk.bad hw wl hx (by omega), _, Wds.row hw wl hx (by omega)⟩
  have := nS_sum ys hx
  rw [List.map_cons, List.sum_cons, List.length_cons, List.length_map]
  omega
theorem by_belt (r p : Int) (hb : bOk (r, p)) (c : Int) : ByTo "belt" ([nS r, nS p].map .str) c := by
  have br := b_big hb r (by simp)
  have bp := b_big hb p (by simp)
  have d2 : divOk 2 := divOk_s (by decide) (by decide)
  have d4 : divOk 4 := divOk_s (by decide) (by decide)
  have d90 : divOk 90 := divOk_s (by decide) (by decide)
  have z0 : 0 ≤ c / 2 % 2 := by omega
  have z1 : c / 2 % 2 < 2 := by omega
  have y0 : 0 ≤ c / 4 % 2 := by omega
  have y1 : c / 4 % 2 < 2 := by omega
  have x0 : 0 ≤ c / 4 % 90 := by omega
  have x1 : c / 4 % 90 < 90 := by omega
  by_cases h : c % 2 = 0
  · generalize hz : c / 2 % 2 = z at *
    generalize hy : c / 4 % 2 = y at *
    have mo1 : mulOk 7 z := mulOk_l (by decide)
    have zz : z = 0 ∨ z = 1 := by omega
    have mo2 : mulOk y z := mulOk_l (by omega)
    generalize hv : 7 * z + y * z = v at *
    have hvb : v = 0 ∨ v = 7 ∨ v = 8 := by
      rcases zz with rfl | rfl
      · left; omega
      · omega
    have bv : big v := small_big (by omega)
    have hst := strV_big bv
    obtain ⟨a1, a2, a3⟩ := by_row (w := "belt") (ys := [v, p]) (.inl ⟨rfl, bl_vals v p fun q => by have := q.1.1; have := q.1.2; dsimp only at *; omega⟩) ⟨by decide, by decide, by decide⟩ (by decide) (fun x hx => by
      rcases List.mem_cons.mp hx with rfl | hx
      · exact bv
      · rw [List.mem_singleton.mp hx]; exact bp) (by simp)
    refine ⟨1, "belt" :: [v, p].map nS, ?_, rfl, a1, a2, a3⟩
    clear a1 a2 a3 br bp hb bv
    simp only [List.map_cons, List.map_nil]
    generalize nS v = VT at *
    generalize nS r = RT at *
    generalize nS p = PT at *
    simp [-strV_i, f_law_beyond, runF, b_law_beyond, rho0, d2, d4, h, hz, hy, mo1, mo2, hv, hst]
  · have h1 : c % 2 = 1 := by omega
    generalize hz : c / 2 % 2 = z at *
    generalize hy : c / 4 % 90 = y at *
    have zz : z = 0 ∨ z = 1 := by omega
    have mo2 : mulOk z (5 + y) := mulOk_l (by omega)
    generalize hv : z * (5 + y) = v at *
    have hvb : v = 0 ∨ (5 ≤ v ∧ v < 95) := by
      rcases zz with rfl | rfl
      · left; omega
      · right; omega
    have bv : big v := small_big (by omega)
    have hst := strV_big bv
    obtain ⟨a1, a2, a3⟩ := by_row (w := "belt") (ys := [r, v]) (.inl ⟨rfl, bl_vals r v fun q => by have := q.2.1; have := q.2.2; dsimp only at *; omega⟩) ⟨by decide, by decide, by decide⟩ (by decide) (fun x hx => by
      rcases List.mem_cons.mp hx with rfl | hx
      · exact br
      · rw [List.mem_singleton.mp hx]; exact bv) (by simp)
    refine ⟨1, "belt" :: [r, v].map nS, ?_, rfl, a1, a2, a3⟩
    clear a1 a2 a3 br bp hb bv
    simp only [List.map_cons, List.map_nil]
    generalize nS v = VT at *
    generalize nS r = RT at *
    generalize nS p = PT at *
    simp [-strV_i, f_law_beyond, runF, b_law_beyond, rho0, d2, d4, d90, h, h1, hz, hy, mo2, hv, hst]
theorem by_src (o p k : Int) (ks : List Int) (hl : ks.length ≤ 5) (hx : ∀ x ∈ o :: p :: k :: ks, big x) (c : Int) : ByTo "source" (((o :: p :: k :: ks).map nS).map .str) c := by
  have d2 : divOk 2 := divOk_s (by decide) (by decide)
  have d4 : divOk 4 := divOk_s (by decide) (by decide)
  have d90 : divOk 90 := divOk_s (by decide) (by decide)
  have z0 : 0 ≤ c % 2 := by omega
  have z1 : c % 2 < 2 := by omega
  have x0 : 0 ≤ c / 4 % 90 := by omega
  have x1 : c / 4 % 90 < 90 := by omega
  generalize hz : c % 2 = z at *
  generalize hy : c / 4 % 90 = y at *
  have zz : z = 0 ∨ z = 1 := by omega
  have mo2 : mulOk z (5 + y) := mulOk_l (by omega)
  generalize hv : z * (5 + y) = v at *
  have hvb : v = 0 ∨ (5 ≤ v ∧ v < 95) := by
    rcases zz with rfl | rfl
    · left; omega
    · right; omega
  have bv : big v := small_big (by omega)
  have hst := strV_big bv
  obtain ⟨a1, a2, a3⟩ := by_row (w := "source") (ys := o :: v :: k :: ks) (.inr ⟨by decide, kn_src o v (k :: ks) (by simp) (by omega)⟩) ⟨by decide, by decide, by decide⟩ (by decide) (fun x h => by
    rcases List.mem_cons.mp h with rfl | h
    · exact hx _ (by simp)
    · rcases List.mem_cons.mp h with rfl | h
      · exact bv
      · exact hx x (List.mem_cons_of_mem _ (List.mem_cons_of_mem _ h))) (by simp; omega)
  refine ⟨1, "source" :: (o :: v :: k :: ks).map nS, ?_, rfl, a1, a2, a3⟩
  clear a1 a2 a3 bv hx
  simp only [List.map_cons]
  have kl : ((ks.map nS).map D.str).length ≤ 5 := by simpa using hl
  generalize (ks.map nS).map D.str = KD at *
  generalize nS v = VT at *
  generalize nS o = OT at *
  generalize nS p = PT at *
  generalize nS k = KT at *
  have c1 : cutD (D.str "source" :: .str OT :: .str PT :: .str KT :: KD) none (some 2) = [.str "source", .str OT] := cutD_to (D.str "source" :: .str OT :: .str PT :: .str KT :: KD) 2
  have c2 : cutD (D.str "source" :: .str OT :: .str PT :: .str KT :: KD) (some 3) none = .str KT :: KD := cutD_from (D.str "source" :: .str OT :: .str PT :: .str KT :: KD) 3
  have g1 : KD.length + 1 + 3 ≤ 10000 := by omega
  have g2 : 3 + (KD.length + 1) ≤ 10000 := by omega
  have nb : ¬ (("source" : Str) = "belt") := by decide
  simp [-strV_i, f_law_beyond, runF, b_law_beyond, rho0, nb, d2, d4, d90, hz, hy, mo2, hv, hst, c1, c2, g1, g2]
theorem by_drn (i p : Int) (hx : ∀ x ∈ [i, p], big x) (c : Int) : ByTo "drain" (([i, p].map nS).map .str) c := by
  have d4 : divOk 4 := divOk_s (by decide) (by decide)
  have po : powOk 10 28 := powOk_s (by decide) (by decide) (by decide)
  have mo : mulOk (c / 4) 48271 := mulOk_r (by decide)
  have d28 : divOk 10000000000000000000000000000 := divOk_w 100 (by decide) (by decide) (by decide) (by decide)
  have y0 : 0 ≤ c / 4 * 48271 % 10000000000000000000000000000 := by omega
  have y1 : c / 4 * 48271 % 10000000000000000000000000000 < 10000000000000000000000000000 := by omega
  generalize hy : c / 4 * 48271 % 10000000000000000000000000000 = y at *
  have bv : big (5 + y) := ⟨by omega, Int.lt_trans (show 5 + y < 100000000000000000000000000000 by omega) (by decide)⟩
  have hst := strV_big bv
  obtain ⟨a1, a2, a3⟩ := by_row (w := "drain") (ys := [i, 5 + y]) (.inr ⟨by decide, kn_drn i (5 + y) (.inr (by omega))⟩) ⟨by decide, by decide, by decide⟩ (by decide) (fun x h => by
    rcases List.mem_cons.mp h with rfl | h
    · exact hx _ (by simp)
    · rw [List.mem_singleton.mp h]; exact bv) (by simp)
  refine ⟨1, "drain" :: [i, 5 + y].map nS, ?_, rfl, a1, a2, a3⟩
  clear a1 a2 a3 bv hx
  simp only [List.map_cons, List.map_nil]
  generalize nS (5 + y) = VT at *
  generalize nS i = IT at *
  generalize nS p = PT at *
  have c1 : cutD [D.str "drain", .str IT, .str PT] none (some 2) = [.str "drain", .str IT] := cutD_to [D.str "drain", .str IT, .str PT] 2
  have nb : ¬ (("drain" : Str) = "belt") := by decide
  have nc : ¬ (("drain" : Str) = "source") := by decide
  simp [-strV_i, f_law_beyond, runF, b_law_beyond, rho0, nb, nc, d4, po, mo, d28, hy, hst, c1]
theorem by_blank (w : Str) (hw : Wrd w) (wl : w.length ≤ 10) (h : w ≠ "belt" ∧ w ≠ "source" ∧ w ≠ "drain") (xs : List Int) (hx : ∀ x ∈ xs, big x) (hl : xs.length ≤ 8) (c : Int) : ByTo w ((xs.map nS).map .str) c := by
  obtain ⟨h1, h2, h3⟩ := h
  have lb : (" " : Str).length = 1 := by decide
  have ns := nS_sum xs hx
  have eT : Txt.join (" " : Str) ((w ++ (" " : Str)) :: xs.map nS) = Txt.join (" " : Str) (w :: "" :: xs.map nS) := by
    rw [tx_join, tx_join]
    have e1 : w ++ (" " : Str) = PySem.Str.join (" " : Str) [w, ""] := by
      rw [join_cons2, join_one]
      exact (PySem.Str.append_empty _).symm
    rw [e1]
    exact join_in _ [w, ""] (by simp) [] (xs.map nS)
  have wus : ∀ u ∈ w :: "" :: xs.map nS, Wrd u := fun u hu => by
    rcases List.mem_cons.mp hu with rfl | hu
    · exact hw
    · rcases List.mem_cons.mp hu with rfl | hu
      · exact ⟨by decide, by decide, by decide⟩
      · obtain ⟨x, h, rfl⟩ := List.mem_map.mp hu
        exact nS_wrd (hx x h)
  have W : Wds (Txt.join (" " : Str) ((w ++ (" " : Str)) :: xs.map nS)) (w :: "" :: xs.map nS) := ⟨eT, wus, by
    simp only [List.map_cons, List.sum_cons, List.length_cons, List.length_map]
    rw [show ("" : Str).length = 0 from by decide]
    omega⟩
  refine ⟨1, (w ++ (" " : Str)) :: xs.map nS, ?_, rfl, ?_, ?_, _, W⟩
  · have g1 : w.length + 1 ≤ 10000 := by omega
    have c1 := cut_1f (.str w) ((xs.map nS).map .str)
    have kl : ((xs.map nS).map D.str).length ≤ 8 := by simpa using hl
    rw [List.map_cons]
    generalize (xs.map nS).map D.str = XD at *
    have g2 : 1 + XD.length ≤ 10000 := by omega
    have g3 : XD.length + 1 ≤ 10000 := by omega
    simp [f_law_beyond, runF, b_law_beyond, rho0, h1, h2, h3, lb, g1, c1, g2, g3]
  · simp only [List.map_cons, List.sum_cons, List.length_cons, List.length_map, len_app]
    omega
  · have tl := W.len
    rw [eT] at tl ⊢
    exact bad_words w _ ⟨"", by simp, nn_empty⟩ (fun v hv => (wus v hv).1) (fun v hv => by have := (wus v (List.mem_cons_of_mem _ hv)).2.2; omega) (by simp; omega) (by omega)
end K16
namespace K16
open PySem L2 B
section
variable {w : Str} {xs : List Int} {lo hi c : Int}
theorem sp4 (F : Frm w xs lo hi) (hx : ∀ x ∈ xs, big x) (hc : c % 8 = 4) : SpTo (rowT w xs) c := by
  obtain ⟨hw, wl, _⟩ := F.wrd
  obtain ⟨l1, l2, _, _, _⟩ := F.len
  have B : ByTo w ((xs.map nS).map .str) (c / 8) := by
    cases F with
    | belt r p h => exact by_belt r p h _
    | src o p k ks h => exact by_src o p k ks h hx _
    | drn i p => exact by_drn i p hx _
    | prt x a b o h => exact by_blank _ hw wl (by decide) _ hx l2 _
    | fst x a b o h => exact by_blank _ hw wl (by decide) _ hx l2 _
    | siv x a b k => exact by_blank _ hw wl (by decide) _ hx l2 _
    | jn x a b o h => exact by_blank _ hw wl (by decide) _ hx l2 _
  obtain ⟨kk, us, e, hk, hf, hb, us2, W⟩ := B
  subst hk
  refine ⟨_, us2, way4 (F.wz hx) hc (us.map .str) 1 e (join_of (by omega)) ?_, hb, W⟩
  rw [flatK_l, List.all_eq_true]
  intro d hd
  obtain ⟨u, _, rfl⟩ := List.mem_map.mp hd
  rfl
theorem sp5 (F : Frm w xs lo hi) (hx : ∀ x ∈ xs, big x) (hc : c % 8 = 5) : SpTo (rowT w xs) c := by
  obtain ⟨l1, l2, _, _, _⟩ := F.len
  have m0 : 0 ≤ c / 8 % 12 := by omega
  have m1 : c / 8 % 12 < 12 := by omega
  obtain ⟨j, hj⟩ : ∃ j : Nat, c / 8 % 12 = (j : Int) := ⟨_, (Int.toNat_of_nonneg m0).symm⟩
  have jl : j < others.length := by show j < 12; omega
  have ok : ∀ o ∈ others, (Wrd o ∧ o.length ≤ 10) ∧ o ≠ "belt" ∧ o ≠ "source" ∧ o ≠ "drain" ∧ o ≠ "parter" ∧ o ≠ "first" ∧ o ≠ "sieve" ∧ o ≠ "joiner" := by
    intro o ho
    simp only [others, List.mem_cons, List.not_mem_nil, or_false] at ho
    rcases ho with rfl | rfl | rfl | rfl | rfl | rfl | rfl | rfl | rfl | rfl | rfl | rfl <;> exact ⟨⟨⟨by decide, by decide, by decide⟩, by decide⟩, by decide, by decide, by decide, by decide, by decide, by decide, by decide⟩
  obtain ⟨⟨ow, ol⟩, o0, oo⟩ := ok others[j] (List.getElem_mem jl)
  have ho : atI (others.map D.str) (c / 8 % 12) = some (.str others[j]) := by
    rw [hj, atI_n, List.getElem?_map, List.getElem?_eq_getElem jl]; rfl
  have W := Wds.row ow ol hx (by omega)
  have ej : joinO (" " : Str) (.str others[j] :: (xs.map nS).map D.str) = some (rowT others[j] xs) := by
    have := join_of (us := others[j] :: xs.map nS) (by have := W.l; omega)
    exact this
  exact ⟨_, _, way5 (F.wz hx) hc _ ho ej, KBad.bad (.inr ⟨o0, kn_other _ xs oo⟩) ow ol hx (by omega), W⟩
theorem sp6 (F : Frm w xs lo hi) (hx : ∀ x ∈ xs, big x) (hc : c % 8 = 6) : SpTo (rowT w xs) c := by
  obtain ⟨hw, wl, wn⟩ := F.wrd
  obtain ⟨l1, l2, _, _, _⟩ := F.len
  have m0 := Int.emod_nonneg (c / 8) (b := (xs.length : Int) + 1) (by omega)
  have m1 := Int.emod_lt_of_pos (c / 8) (b := (xs.length : Int) + 1) (by omega)
  obtain ⟨i, hi'⟩ : ∃ i : Nat, c / 8 % ((xs.length : Int) + 1) = (i : Int) := ⟨_, (Int.toNat_of_nonneg m0).symm⟩
  rw [hi'] at m1
  have ns := nS_sum xs hx
  have wus : ∀ u ∈ (w :: xs.map nS).take i ++ (("" : Str) :: (w :: xs.map nS).drop i), Wrd u := fun u hu => by
    have old : ∀ v ∈ w :: xs.map nS, Wrd v := fun v hv => by
      rcases List.mem_cons.mp hv with rfl | hv
      · exact hw
      · obtain ⟨x, h, rfl⟩ := List.mem_map.mp hv
        exact nS_wrd (hx x h)
    rcases List.mem_append.mp hu with hu | hu
    · exact old u (List.mem_of_mem_take hu)
    · rcases List.mem_cons.mp hu with rfl | hu
      · exact ⟨by decide, by decide, by decide⟩
      · exact old u (List.mem_of_mem_drop hu)
  have fit : (((w :: xs.map nS).take i ++ (("" : Str) :: (w :: xs.map nS).drop i)).map (·.length)).sum + ((w :: xs.map nS).take i ++ (("" : Str) :: (w :: xs.map nS).drop i)).length ≤ 300 := by
    have e := congrArg (fun L : List Str => (L.map (·.length)).sum) (List.take_append_drop i (w :: xs.map nS)).symm
    have e2 := congrArg List.length (List.take_append_drop i (w :: xs.map nS)).symm
    simp only [List.map_append, List.sum_append, List.length_append, List.map_cons, List.sum_cons, List.length_cons, List.length_map] at e e2 ⊢
    rw [show ("" : Str).length = 0 from by decide]
    omega
  have W : Wds (Txt.join (" " : Str) ((w :: xs.map nS).take i ++ (("" : Str) :: (w :: xs.map nS).drop i))) ((w :: xs.map nS).take i ++ (("" : Str) :: (w :: xs.map nS).drop i)) := ⟨rfl, wus, by omega⟩
  have tl := W.len
  have ej : joinO (" " : Str) ((.str w :: (xs.map nS).map D.str).take i ++ (.str "" :: (.str w :: (xs.map nS).map D.str).drop i)) = some (Txt.join (" " : Str) ((w :: xs.map nS).take i ++ (("" : Str) :: (w :: xs.map nS).drop i))) := by
    have := join_of (us := (w :: xs.map nS).take i ++ (("" : Str) :: (w :: xs.map nS).drop i)) (by omega)
    rw [List.map_append, List.map_cons, List.map_take, List.map_drop, List.map_cons] at this
    exact this
  refine ⟨_, _, way6 (F.wz hx) hc i hi' (by omega) ej, ?_, W⟩
  have hl : ∀ u ∈ (w :: xs.map nS).take i ++ (("" : Str) :: (w :: xs.map nS).drop i), u.length ≤ 10000 := fun u hu => by have := (wus u hu).2.2; omega
  cases i with
  | zero => exact bad_words "" (w :: xs.map nS) ⟨w, List.mem_cons_self .., wn⟩ (fun v hv => (wus v hv).1) (fun v hv => hl v (List.mem_cons_of_mem _ hv)) (by simp; omega) (Nat.le_trans tl (by decide))
  | succ i =>
    have e : (w :: xs.map nS).take (i + 1) ++ (("" : Str) :: (w :: xs.map nS).drop (i + 1)) = w :: ((xs.map nS).take i ++ (("" : Str) :: (xs.map nS).drop i)) := rfl
    rw [e] at wus hl tl ⊢
    exact bad_words w _ ⟨"", by simp, nn_empty⟩ (fun v hv => (wus v hv).1) (fun v hv => hl v (List.mem_cons_of_mem _ hv)) (by simp; omega) (Nat.le_trans tl (by decide))
theorem bad_empty : BadT "" := by
  have h := KBad.bad (w := "") (ys := []) (.inr ⟨by decide, kn_other "" [] ⟨by decide, by decide, by decide, by decide, by decide, by decide⟩⟩) ⟨by decide, by decide, by decide⟩ (by decide) (by simp) (by simp)
  have e : rowT "" [] = "" := by decide
  rw [e] at h
  exact h
theorem sp7 (F : Frm w xs lo hi) (hx : ∀ x ∈ xs, big x) (hc : c % 8 = 7) : SpTo (rowT w xs) c := by
  obtain ⟨hw, wl, wn⟩ := F.wrd
  obtain ⟨l1, l2, _, _, _⟩ := F.len
  have m4 : c / 8 % 4 = 0 ∨ c / 8 % 4 = 1 ∨ c / 8 % 4 = 2 ∨ c / 8 % 4 = 3 := by omega
  have we : Wrd "" := ⟨by decide, by decide, by decide⟩
  rcases m4 with m | m | m | m
  · exact ⟨"", [""], way7 (F.wz hx) hc (by rw [m]; rfl), bad_empty, ⟨by decide, fun u hu => by rw [List.mem_singleton.mp hu]; exact we, by decide⟩⟩
  · refine ⟨" ", ["", ""], way7 (F.wz hx) hc (by rw [m]; rfl), ?_, ⟨by decide, fun u hu => ?_, by decide⟩⟩
    · have := bad_words "" [""] ⟨"", by simp, nn_empty⟩ (fun v hv => by
        have : v = "" := by simpa using hv
        rw [this]; decide) (fun v hv => by rw [List.mem_singleton.mp hv]; decide) (by simp) (by decide)
      rw [show Txt.join (" " : Str) ["", ""] = " " from by decide] at this
      exact this
    · have : u = "" := by simpa using hu
      rw [this]; exact we
  · refine ⟨"  ", ["", "", ""], way7 (F.wz hx) hc (by rw [m]; rfl), ?_, ⟨by decide, fun u hu => ?_, by decide⟩⟩
    · have := bad_words "" ["", ""] ⟨"", by simp, nn_empty⟩ (fun v hv => by
        have : v = "" := by simpa using hv
        rw [this]; decide) (fun v hv => by
        have : v = "" := by simpa using hv
        rw [this]; decide) (by simp) (by decide)
      rw [show Txt.join (" " : Str) ["", "", ""] = "  " from by decide] at this
      exact this
    · have : u = "" := by simpa using hu
      rw [this]; exact we
  · have ns := nS_sum xs hx
    have eT : rowT w xs ++ (" " : Str) = Txt.join (" " : Str) (w :: (xs.map nS ++ [("" : Str)])) := by
      unfold rowT
      rw [tx_join, tx_join]
      have := join_app (" " : Str) (w :: xs.map nS) [""] (by simp) (by simp)
      rw [List.cons_append, join_one] at this
      rw [this]
      exact (PySem.Str.append_empty _).symm
    have wus : ∀ u ∈ w :: (xs.map nS ++ [("" : Str)]), Wrd u := fun u hu => by
      rcases List.mem_cons.mp hu with rfl | hu
      · exact hw
      · rcases List.mem_append.mp hu with hu | hu
        · obtain ⟨x, h, rfl⟩ := List.mem_map.mp hu
          exact nS_wrd (hx x h)
        · rw [List.mem_singleton.mp hu]; exact we
    have W : Wds (rowT w xs ++ (" " : Str)) (w :: (xs.map nS ++ [("" : Str)])) := ⟨eT, wus, by
      simp only [List.map_cons, List.sum_cons, List.map_append, List.sum_append, List.length_cons, List.length_append, List.length_map, List.map_nil, List.sum_nil, List.length_nil]
      rw [show ("" : Str).length = 0 from by decide]
      omega⟩
    refine ⟨_, _, way7 (F.wz hx) hc (by rw [m]; rfl), ?_, W⟩
    have tl := W.len
    rw [eT] at tl ⊢
    exact bad_words w _ ⟨"", by simp, nn_empty⟩ (fun v hv => (wus v hv).1) (fun v hv => by have := (wus v (List.mem_cons_of_mem _ hv)).2.2; omega) (by simp; omega) (by omega)
theorem spoilt_eq (F : Frm w xs lo hi) (hx : ∀ x ∈ xs, big x) (c : Int) : SpTo (rowT w xs) c := by
  have m : c % 8 = 0 ∨ c % 8 = 1 ∨ (c % 8 = 2 ∨ c % 8 = 3) ∨ c % 8 = 4 ∨ c % 8 = 5 ∨ c % 8 = 6 ∨ c % 8 = 7 := by omega
  rcases m with m | m | m | m | m | m | m
  · exact sp0 F hx m
  · exact sp1 F hx m
  · exact sp2 F hx m
  · exact sp4 F hx m
  · exact sp5 F hx m
  · exact sp6 F hx m
  · exact sp7 F hx m
end
/-! a work's rows have these forms -/
theorem frm_of {r : Row} (h : r.Ok) : ∃ lo hi, Frm r.w.s r.due lo hi := by
  obtain ⟨w, i, o, p, k⟩ := r
  obtain ⟨sh, hp, hp1, hk, hs, hv, ho⟩ := h
  dsimp only at sh hp hp1 hk hs hv ho
  cases w with
  | source =>
    obtain ⟨rfl, ol⟩ := sh
    obtain ⟨x, rfl⟩ := len1 ol
    have kl := hs rfl
    match k, kl with
    | [], kl => simp at kl
    | a :: ks, kl => exact ⟨3, 8, Frm.src x p a ks (by simp at kl; omega)⟩
  | drain =>
    obtain ⟨il, rfl⟩ := sh
    obtain ⟨x, rfl⟩ := len1 il
    exact ⟨2, 2, Frm.drn x p⟩
  | parter =>
    obtain ⟨il, o2, o4⟩ := sh
    obtain ⟨x, rfl⟩ := len1 il
    match o, o2, o4 with
    | a :: b :: q, _, o4 => exact ⟨3, 5, by
        have := Frm.prt x a b q (by simp at o4; omega)
        simpa [Row.due, Row.nums, Wd.s] using this⟩
    | [], o2, _ => simp at o2
    | [_], o2, _ => simp at o2
  | first =>
    obtain ⟨il, o2, o4⟩ := sh
    obtain ⟨x, rfl⟩ := len1 il
    match o, o2, o4 with
    | a :: b :: q, _, o4 => exact ⟨3, 5, by
        have := Frm.fst x a b q (by simp at o4; omega)
        simpa [Row.due, Row.nums, Wd.s] using this⟩
    | [], o2, _ => simp at o2
    | [_], o2, _ => simp at o2
  | sieve =>
    obtain ⟨il, ol⟩ := sh
    obtain ⟨x, rfl⟩ := len1 il
    have kl := hv rfl
    obtain ⟨y, rfl⟩ := len1 kl
    match o, ol with
    | [a, b], _ => exact ⟨4, 4, by simpa [Row.due, Row.nums, Wd.s] using Frm.siv x a b y⟩
  | joiner =>
    obtain ⟨⟨i2, i4⟩, ol⟩ := sh
    obtain ⟨x, rfl⟩ := len1 ol
    match i, i2, i4 with
    | a :: b :: q, _, i4 => exact ⟨3, 5, by
        have := Frm.jn x a b q (by simp at i4; omega)
        simpa [Row.due, Row.nums, Wd.s] using this⟩
    | [], i2, _ => simp at i2
    | [_], i2, _ => simp at i2
theorem spoilt_row {rs : List Row} {belts : List (Int × Int)} (G : Good rs belts) {p : Str} (hp : p ∈ rowsT rs belts) (c : Int) : SpTo p c := by
  unfold rowsT at hp
  rcases List.mem_append.mp hp with hp | hp
  · obtain ⟨b, hb, rfl⟩ := List.mem_map.mp hp
    exact spoilt_eq (Frm.belt b.1 b.2 (G.b b hb)) (b_big (G.b b hb)) c
  · obtain ⟨r, hr, rfl⟩ := List.mem_map.mp hp
    obtain ⟨lo, hi, F⟩ := frm_of (G.r r hr)
    exact spoilt_eq F (due_ok G hr).1 c
end K16
namespace K16
open PySem L2 B
/-! ### rows read up to a bad one -/
/-- a knot whose row is read -/
def KOk (r : Row) : Prop := ((∀ x ∈ r.due, big x) ∧ r.due.length ≤ 8) ∧ r.Ok
theorem part_knotG {r : Row} (h : KOk r) (line : Int) (bh : Bool) : f_part_of [.str (kT r), .int line, .bl bh] = .ok ⟨false, 0, r.ob⟩ := by
  obtain ⟨⟨d1, d2⟩, ro⟩ := h
  have sp' := row_split r.w.s r.due (sp_free r.w) d1
  have nu := numbers_of_eq r.due d1 (by omega)
  have kn := knot_of_eq r ro
  have rl := rowT_len r.w.s r.due (word_len r.w) d1 d2
  have c1 := cut_1f (.str r.w.s) ((r.due.map nS).map .str)
  have wb := word_belt r.w
  unfold kT
  generalize rowT r.w.s r.due = RT at *
  generalize (r.due.map nS).map D.str = ND at *
  simp only [intsL] at nu kn
  generalize r.due.map D.int = IL at *
  generalize r.ob = OB at *
  generalize r.w.s = w at *
  have l1 : (" " : Str).length = 1 := by decide
  have rl' : RT.length ≤ 10000 := by omega
  simp [f_part_of, runF, b_part_of, rho0, t1_part_of, v1_part_of, sp', c1, nu, kn, l1, rl', wb]
theorem rd_knotsG (T s1 : B.Slot) : ∀ (rs acc : List Row) (rest : List D) (k : Nat) (s3 s4 s5 : B.Slot), (∀ r ∈ rs, KOk r) → acc.length + rs.length ≤ 100 → ∃ t3 t4 t5 : B.Slot,
    sItems (gT 2 (gsC (gN 3) (gsC (gN 4) (gsN)))) l1_read_work (enumK k ((rs.map fun r => D.str (kT r)) ++ rest)) [T, s1, some (1, .lst (acc.map Row.ob)), s3, s4, s5] = sItems (gT 2 (gsC (gN 3) (gsC (gN 4) (gsN)))) l1_read_work (enumK ((k + rs.length : Nat) : Int) rest) [T, s1, some (1, .lst ((acc ++ rs).map Row.ob)), t3, t4, t5] := by
  intro rs
  induction rs with
  | nil => intro acc rest k s3 s4 s5 _ _; exact ⟨s3, s4, s5, by simp⟩
  | cons r rs ih =>
    intro acc rest k s3 s4 s5 h hl
    rw [List.length_cons] at hl
    obtain ⟨t3, t4, t5, e⟩ := ih (acc ++ [r]) rest (k + 1) (some (0, .int k)) (some (0, .str (kT r))) (some (0, r.ob)) (fun x hx => h x (List.mem_cons_of_mem _ hx)) (by simp; omega)
    have pk := part_knotG (h r (List.mem_cons_self ..)) ((k : Int) + 1)
    refine ⟨t3, t4, t5, ?_⟩
    have al : (acc.map Row.ob).length < 10000 := by simp; omega
    have isb : isR osA esA y_Belt r.ob = .ok (sh (.bl false)) := by
      obtain ⟨w, i, o, p, kk⟩ := r
      cases w <;> simp [Row.ob, Wd.C]
    have ht : fTurn (gT 2 (gsC (gN 3) (gsC (gN 4) (gsN)))) l1_read_work (.tup [.int k, .str (kT r)]) [T, s1, some (1, .lst (acc.map Row.ob)), s3, s4, s5] = .inl [T, s1, some (1, .lst ((acc ++ [r]).map Row.ob)), some (0, .int k), some (0, .str (kT r)), some (0, r.ob)] := by
      clear e ih h
      rw [List.map_append, List.map_singleton]
      generalize r.ob = OB at *
      generalize acc.map Row.ob = AD at *
      generalize kT r = KT at *
      simp [fTurn, l1_read_work, pk, isb, appL, al]
    rw [List.map_cons, List.cons_append, enumK_cons, sItems_inl ht, show (k : Int) + 1 = ((k + 1 : Nat) : Int) by omega, e, List.append_assoc, List.length_cons, show k + 1 + rs.length = k + (rs.length + 1) by omega]
    rfl
theorem turn_bad (X : Str) (n : Nat) (KL : List D) (hp : f_part_of [.str X, .int ((n + 1 : Nat) : Int), .bl (decide (0 < KL.length))] = .ex (xK "BadRow" (n + 1))) (T : B.Slot) (BL : List D) (s3 s4 s5 : B.Slot) :
    ∃ ρ, fTurn (gT 2 (gsC (gN 3) (gsC (gN 4) (gsN)))) l1_read_work (.tup [.int (n : Nat), .str X]) [T, some (1, .lst BL), some (1, .lst KL), s3, s4, s5] = .inr (.ex (xK "BadRow" (n + 1)) ρ) := by
  refine ⟨[T, some (1, .lst BL), some (1, .lst KL), some (0, .int (n : Nat)), some (0, .str X), s5], ?_⟩
  have e1 : (n : Int) + 1 = ((n + 1 : Nat) : Int) := by omega
  generalize xK "BadRow" (n + 1) = cc at *
  generalize ((n + 1 : Nat) : Int) = m at *
  by_cases h : 0 < KL.length
  · have h' : (0 : Int) < KL.length := by omega
    rw [decide_eq_true h] at hp
    have h2 : KL ≠ [] := by intro z; rw [z] at h; simp at h
    simp [fTurn, l1_read_work, e1, hp, h, h', h2]
  · have h' : ¬ (0 : Int) < KL.length := by omega
    rw [decide_eq_false h] at hp
    have h2 : KL = [] := List.length_eq_zero_iff.mp (by omega)
    subst h2
    simp [fTurn, l1_read_work, e1, hp]
/-- the text of rows: what stands in it -/
theorem split_of {L : List Str} (h0 : L ≠ []) (fr : ∀ p ∈ L, 10 ∉ TL.tl p) : Txt.split (Txt.join ("\n" : Str) L) ("\n" : Str) = L :=
  TL.split_join (s := 10) (S := []) (by decide) (by decide +kernel) h0 fr
theorem jlen_of {L : List Str} (h : (L.map (·.length)).sum + L.length ≤ 10000) : (Txt.join ("\n" : Str) L).length ≤ 10000 := by
  rw [TL.join_eq]
  refine Nat.le_trans (PySem.StrLaws.join_length_le _ _) ?_
  rw [show ("\n" : Str).length = 1 from by decide, Nat.mul_one]
  exact h
theorem bT_free {b : Int × Int} (h : bOk b) : 10 ∉ TL.tl (bT b) := row_line "belt" [b.1, b.2] (by decide) (b_big h)
theorem kT_free {r : Row} (h : KOk r) : 10 ∉ TL.tl (kT r) := row_line r.w.s r.due (line_free r.w) h.1.1
theorem read_bad (bs : List (Int × Int)) (hb : ∀ b ∈ bs, bOk b) (rs : List Row) (hr : ∀ r ∈ rs, KOk r) (X : Str) (hX : ∀ n : Nat, f_part_of [.str X, .int (n : Nat), .bl (decide (0 < rs.length))] = .ex (xK "BadRow" n)) (Q : List Str) (h10 : 10 ∉ TL.tl X) (hQ : ∀ q ∈ Q, 10 ∉ TL.tl q) (lb : bs.length ≤ 60) (lr : rs.length ≤ 60)
    (fit : ((bs.map bT ++ (rs.map kT ++ X :: Q)).map (·.length)).sum + (bs.map bT ++ (rs.map kT ++ X :: Q)).length ≤ 10000) :
    f_read_work [.str (Txt.join ("\n" : Str) (bs.map bT ++ (rs.map kT ++ X :: Q)))] = .ex (xK "BadRow" (bs.length + rs.length + 1)) := by
  have sp := split_of (L := bs.map bT ++ (rs.map kT ++ X :: Q)) (by simp) (fun p hp => by
    rcases List.mem_append.mp hp with hp | hp
    · obtain ⟨b, h, rfl⟩ := List.mem_map.mp hp
      exact bT_free (hb b h)
    · rcases List.mem_append.mp hp with hp | hp
      · obtain ⟨r, h, rfl⟩ := List.mem_map.mp hp
        exact kT_free (hr r h)
      · rcases List.mem_cons.mp hp with rfl | hp
        · exact h10
        · exact hQ p hp)
  have tl := jlen_of fit
  have key : ∀ TT : B.Slot, ∃ ρ, sItems (gT 2 (gsC (gN 3) (gsC (gN 4) (gsN)))) l1_read_work (enumK 0 ((bs.map bT ++ (rs.map kT ++ X :: Q)).map D.str)) [TT, some (1, .lst []), some (1, .lst []), none, none, none] = .ex (xK "BadRow" (bs.length + rs.length + 1)) ρ := by
    intro TT
    obtain ⟨t3, t4, t5, e1⟩ := rd_belts TT bs [] ((rs.map fun r => D.str (kT r)) ++ (.str X :: Q.map D.str)) 0 none none none hb (by simp; omega)
    obtain ⟨u3, u4, u5, e2⟩ := rd_knotsG TT (some (1, .lst ((([] : List (Int × Int)) ++ bs).map blD))) rs [] (.str X :: Q.map D.str) (0 + bs.length) t3 t4 t5 hr (by simp; omega)
    have kl : 0 < ((([] : List Row) ++ rs).map Row.ob).length ↔ 0 < rs.length := by simp
    obtain ⟨ρ, ht⟩ := turn_bad X (bs.length + rs.length) ((([] : List Row) ++ rs).map Row.ob) (by rw [decide_eq_decide.mpr kl]; exact hX _) TT ((([] : List (Int × Int)) ++ bs).map blD) u3 u4 u5
    refine ⟨ρ, ?_⟩
    rw [show 0 + bs.length + rs.length = bs.length + rs.length by omega, enumK_cons, sItems_inr ht] at e2
    rw [List.map_nil] at e2
    rw [e2] at e1
    rw [List.map_append, List.map_append, List.map_cons, List.map_map, List.map_map]
    exact e1
  obtain ⟨ρ, e1⟩ := key (some (0, .str (Txt.join ("\n" : Str) (bs.map bT ++ (rs.map kT ++ X :: Q)))))
  replace sp := congrArg (List.map D.str) sp
  generalize (bs.map bT ++ (rs.map kT ++ X :: Q)).map D.str = LD at *
  generalize Txt.join ("\n" : Str) (bs.map bT ++ (rs.map kT ++ X :: Q)) = TT at *
  generalize xK "BadRow" (bs.length + rs.length + 1) = cc at *
  have l1 : ("\n" : Str).length = 1 := by decide
  simp [f_read_work, runF, b_read_work, rho0, tl, l1, sp]
  rw [e1]
  rfl
/-- rows of belts and knots that together are no work -/
theorem read_none (bs : List (Int × Int)) (hb : ∀ b ∈ bs, bOk b) (rs : List Row) (hr : ∀ r ∈ rs, KOk r) (lb : bs.length ≤ 60) (lr : rs.length ≤ 60) (ne : 1 ≤ bs.length + rs.length) (fit : ((rowsT rs bs).map (·.length)).sum + (rowsT rs bs).length ≤ 10000)
    (hw : newR (f_Work_init [(1, .obj "Work" []), (0, .lst (bs.map blD)), (0, .lst (rs.map Row.ob))]) = .ex "BadWork") : f_read_work [.str (Txt.join ("\n" : Str) (rowsT rs bs))] = .ex "BadWork" := by
  have sp := split_of (L := rowsT rs bs) (by
    intro z
    have := congrArg List.length z
    unfold rowsT at this
    rw [List.length_append, List.length_map, List.length_map, List.length_nil] at this
    omega) (fun p hp => by
    unfold rowsT at hp
    rcases List.mem_append.mp hp with hp | hp
    · obtain ⟨b, h, rfl⟩ := List.mem_map.mp hp
      exact bT_free (hb b h)
    · obtain ⟨r, h, rfl⟩ := List.mem_map.mp hp
      exact kT_free (hr r h))
  have tl := jlen_of fit
  obtain ⟨t3, t4, t5, e1⟩ := rd_belts (some (0, .str (Txt.join ("\n" : Str) (rowsT rs bs)))) bs [] ((rs.map fun r => D.str (kT r)) ++ []) 0 none none none hb (by simp; omega)
  obtain ⟨u3, u4, u5, e2⟩ := rd_knotsG (some (0, .str (Txt.join ("\n" : Str) (rowsT rs bs)))) (some (1, .lst ((([] : List (Int × Int)) ++ bs).map blD))) rs [] [] (0 + bs.length) t3 t4 t5 hr (by simp; omega)
  rw [List.map_nil] at e2
  rw [e2, List.nil_append, List.nil_append, List.append_nil] at e1
  have er : (rowsT rs bs).map D.str = (bs.map fun b => D.str (bT b)) ++ rs.map fun r => D.str (kT r) := by
    unfold rowsT
    rw [List.map_append, List.map_map, List.map_map]
    rfl
  rw [← er] at e1
  replace e1 : sItems (gT 2 (gsC (gN 3) (gsC (gN 4) (gsN)))) l1_read_work (enumK 0 ((rowsT rs bs).map D.str)) [some (0, .str (Txt.join ("\n" : Str) (rowsT rs bs))), some (1, .lst []), some (1, .lst []), none, none, none] = .ok .nx _ := e1
  generalize Txt.join ("\n" : Str) (rowsT rs bs) = TT at *
  generalize bs.map blD = BD at *
  generalize rs.map Row.ob = RD at *
  have l1 : ("\n" : Str).length = 1 := by decide
  simp [f_read_work, runF, b_read_work, rho0, tl, l1, sp]
  rw [e1]
  simp [sFz, hw]
end K16
namespace K16
open PySem L2 B
/-! ### belts and knots that are no work -/
theorem eq_ints (xs ys : List Int) (b c : Bool) (k l : Nat) : B.eqV ⟨b, k, .lst (xs.map D.int)⟩ ⟨c, l, .lst (ys.map D.int)⟩ = .ok (sh (.bl (decide (xs = ys)))) := by
  unfold B.eqV
  dsimp only
  rw [eqA_lst D.int eqv_int xs ys (dat_ints xs) (dat_ints ys)]
theorem once_dec (rows : List (List Int)) (n : Nat) (hl : rows.flatten.length ≤ 9000) (hn : n ≤ 1000) : f_stand_once [.lst (rows.map intsL), .int n] = .ok (sh (.bl (decide (srt rows.flatten = rgI n)))) := by
  obtain ⟨t3, e⟩ := w_once (some (0, .lst (rows.map intsL))) (some (0, .int n)) rows [] none (by simpa using hl)
  rw [List.nil_append] at e
  replace e : sItems _ _ _ [some (0, .lst (rows.map intsL)), some (0, .int n), some (1, .lst []), none] = _ := e
  have r0 : lrR 0 (n : Int) = _ := lrR_ok (by omega) (by omega) (by omega) (by omega)
  have eq := eq_ints (srt rows.flatten) (rgI n) false false 1 1
  rw [rgD_eq] at r0
  generalize rows.flatten = F at *
  simp [f_stand_once, runF, b_stand_once, rho0]
  rw [e]
  simp [sFz, r0, eq]
theorem once_no (rows : List (List Int)) (n : Nat) (hl : rows.flatten.length ≤ 9000) (hn : n ≤ 1000) (h : ¬ rows.flatten.Perm (rgI n)) : f_stand_once [.lst (rows.map intsL), .int n] = .ok (sh (.bl false)) := by
  rw [once_dec rows n hl hn, decide_eq_false]
  intro e
  have p := srt_perm rows.flatten
  rw [e] at p
  exact h p.symm
theorem no_perm {xs : List Int} {n : Nat} (h : xs.length ≠ n) : ¬ xs.Perm (rgI n) := by
  intro p
  have := p.length_eq
  rw [rgI_len] at this
  exact h this
theorem work_none (rs : List Row) (belts : List (Int × Int)) (l24 : belts.length ≤ 60) (k24 : rs.length ≤ 60) (fo : (Fo rs).length ≤ 9000) (gi : (Gi rs).length ≤ 9000) (h : 24 < belts.length ∨ 24 < rs.length ∨ ¬ (Fo rs).Perm (rgI belts.length) ∨ ((Fo rs).Perm (rgI belts.length) ∧ ¬ (Gi rs).Perm (rgI belts.length))) :
    newR (f_Work_init [(1, .obj "Work" []), (0, .lst (belts.map blD)), (0, .lst (rs.map Row.ob))]) = .ex "BadWork" := by
  have lo := lc_outs 3 [some (1, .obj "Work" []), some (0, .lst (belts.map blD)), some (0, .lst (rs.map Row.ob)), none] (by simp) rs
  have li := lc_ins 3 [some (1, .obj "Work" []), some (0, .lst (belts.map blD)), some (0, .lst (rs.map Row.ob)), none] (by simp) rs
  have bl : (belts.map blD).length = belts.length := by simp
  have kl : (rs.map Row.ob).length = rs.length := by simp
  have ll : (rs.map Row.ob).length ≤ 10000 := by omega
  by_cases hb : belts.length < 1
  · have n1 : ((belts.map blD).length : Int) < 1 := by omega
    clear lo li h
    generalize belts.map blD = BL at *
    generalize rs.map Row.ob = KL at *
    have m1 : BL = [] := List.length_eq_zero_iff.mp (by omega)
    subst m1
    simp [f_Work_init, runM, b_Work_init, rhoM]
  by_cases hb2 : 24 < belts.length
  · have n1 : ¬ ((belts.map blD).length : Int) < 1 := by omega
    have n2 : (24 : Int) < (belts.map blD).length := by omega
    have m1 : belts.map blD ≠ [] := by intro z; rw [z] at bl; simp at bl; omega
    have m2 : 24 < (belts.map blD).length := by omega
    clear lo li h
    generalize belts.map blD = BL at *
    generalize rs.map Row.ob = KL at *
    simp [f_Work_init, runM, b_Work_init, rhoM, n1, n2, m1, m2]
  have n2 : ¬ (24 : Int) < (belts.map blD).length := by omega
  have n1 : ¬ ((belts.map blD).length : Int) < 1 := by omega
  have m1 : belts.map blD ≠ [] := by intro z; rw [z] at bl; simp at bl; omega
  have m2 : ¬ 24 < (belts.map blD).length := by omega
  by_cases hk : rs.length < 1
  · have m3 : rs = [] := List.length_eq_zero_iff.mp (by omega)
    subst m3
    clear lo li h
    generalize belts.map blD = BL at *
    simp [f_Work_init, runM, b_Work_init, rhoM, n1, n2, m1, m2]
  have n3 : ¬ ((rs.map Row.ob).length : Int) < 1 := by omega
  have m3 : rs.map Row.ob ≠ [] := by intro z; rw [z] at kl; simp at kl; omega
  by_cases hk2 : 24 < rs.length
  · have n4 : (24 : Int) < (rs.map Row.ob).length := by omega
    have m4 : 24 < (rs.map Row.ob).length := by omega
    clear lo li h
    generalize belts.map blD = BL at *
    generalize rs.map Row.ob = KL at *
    simp [f_Work_init, runM, b_Work_init, rhoM, n1, n2, m1, m2, n3, m3, n4, m4]
  have n4 : ¬ (24 : Int) < (rs.map Row.ob).length := by omega
  have m4 : ¬ 24 < (rs.map Row.ob).length := by omega
  replace h : ¬ (Fo rs).Perm (rgI belts.length) ∨ ((Fo rs).Perm (rgI belts.length) ∧ ¬ (Gi rs).Perm (rgI belts.length)) := by
    rcases h with h | h | h
    · exact absurd h hb2
    · exact absurd h hk2
    · exact h
  rcases h with h | ⟨hp, h⟩
  · have o1 := once_no (rs.map Row.o) belts.length fo (by omega) h
    rw [← bl] at o1
    rw [List.map_map] at o1 lo
    clear li h
    generalize belts.map blD = BL at *
    generalize rs.map Row.ob = KL at *
    generalize rs.map (intsL ∘ Row.o) = OO at *
    simp [f_Work_init, runM, b_Work_init, rhoM, n1, n2, n3, n4, m1, m2, m3, m4, wipeE, lo, lcEndK_ok ll, o1]
  · have o1 := once_eq (rs.map Row.o) belts.length fo (by omega) (srt_rg hp)
    have i1 := once_no (rs.map Row.i) belts.length gi (by omega) h
    rw [← bl] at o1 i1
    rw [List.map_map] at o1 lo li i1
    clear h hp
    generalize belts.map blD = BL at *
    generalize rs.map Row.ob = KL at *
    generalize rs.map (intsL ∘ Row.o) = OO at *
    generalize rs.map (intsL ∘ Row.i) = II at *
    simp [f_Work_init, runM, b_Work_init, rhoM, n1, n2, n3, n4, m1, m2, m3, m4, wipeE, lo, lcEndK_ok ll, o1, li, i1]
theorem Fo_app (a b : List Row) : Fo (a ++ b) = Fo a ++ Fo b := by unfold Fo; rw [List.map_append, List.flatten_append]
theorem Gi_app (a b : List Row) : Gi (a ++ b) = Gi a ++ Gi b := by unfold Gi; rw [List.map_append, List.flatten_append]
theorem Fo_one (r : Row) : Fo [r] = r.o := by unfold Fo; simp
theorem Gi_one (r : Row) : Gi [r] = r.i := by unfold Gi; simp
theorem cut_row {rs : List Row} {j : Nat} (hj : j < rs.length) : rs = rs.take j ++ ([rs[j]] ++ rs.drop (j + 1)) := by
  rw [List.singleton_append, ← List.drop_eq_getElem_cons hj, List.take_append_drop]
theorem ends_of {r : Row} (h : r.Ok) : 1 ≤ r.o.length ∨ (r.o.length = 0 ∧ 1 ≤ r.i.length) := by
  have sh := h.sh
  cases hw : r.w <;> rw [hw] at sh <;> simp [Row.Sh] at sh <;> omega
theorem ios_len {r : Row} (h : r.Ok) : r.o.length ≤ 4 ∧ r.i.length ≤ 4 := by
  have sh := h.sh
  cases hw : r.w <;> rw [hw] at sh <;> simp [Row.Sh] at sh <;> (try simp [sh]) <;> omega
section
variable {rs : List Row} {belts : List (Int × Int)}
/-- a knot left out -/
theorem none_knot (G : Good rs belts) {j : Nat} (hj : j < rs.length) : newR (f_Work_init [(1, .obj "Work" []), (0, .lst (belts.map blD)), (0, .lst ((rs.take j ++ rs.drop (j + 1)).map Row.ob))]) = .ex "BadWork" := by
  have hl := G.l
  have gn := G.n
  have lo := G.o.length_eq
  have li := G.i.length_eq
  have po := G.o
  rw [rgI_len] at lo li
  have ro := G.r _ (List.getElem_mem hj)
  have eo := congrArg Fo (cut_row hj)
  have ei := congrArg Gi (cut_row hj)
  rw [Fo_app, Fo_app, Fo_one] at eo
  rw [Gi_app, Gi_app, Gi_one] at ei
  rw [ei] at li
  have el : (rs.take j ++ rs.drop (j + 1)).length ≤ 60 := by simp; omega
  have e1 := congrArg List.length eo
  simp only [List.length_append] at li e1
  refine work_none _ _ (by omega) el (by rw [Fo_app, List.length_append]; omega) (by rw [Gi_app, List.length_append]; omega) (.inr (.inr ?_))
  rcases ends_of ro with h | ⟨h0, h⟩
  · exact .inl (no_perm (by rw [Fo_app, List.length_append]; omega))
  · refine .inr ⟨?_, no_perm (by rw [Gi_app, List.length_append]; omega)⟩
    rw [eo, List.length_eq_zero_iff.mp h0, List.nil_append] at po
    rw [Fo_app]
    exact po
/-- a knot twice -/
theorem none_twice (G : Good rs belts) {j : Nat} (hj : j < rs.length) : newR (f_Work_init [(1, .obj "Work" []), (0, .lst (belts.map blD)), (0, .lst ((rs ++ [rs[j]]).map Row.ob))]) = .ex "BadWork" := by
  have hl := G.l
  have gn := G.n
  have lo := G.o.length_eq
  have li := G.i.length_eq
  have po := G.o
  rw [rgI_len] at lo li
  have ro := G.r _ (List.getElem_mem hj)
  obtain ⟨o4, i4⟩ := ios_len ro
  refine work_none _ _ (by omega) (by simp; omega) (by rw [Fo_app, List.length_append, Fo_one]; omega) (by rw [Gi_app, List.length_append, Gi_one]; omega) (.inr (.inr ?_))
  rcases ends_of ro with h | ⟨h0, h⟩
  · exact .inl (no_perm (by rw [Fo_app, List.length_append, Fo_one]; omega))
  · refine .inr ⟨?_, no_perm (by rw [Gi_app, List.length_append, Gi_one]; omega)⟩
    rw [Fo_app, Fo_one, List.length_eq_zero_iff.mp h0, List.append_nil]
    exact po
/-- belts of another count -/
theorem none_belts (G : Good rs belts) (bs : List (Int × Int)) (hb : bs.length ≠ belts.length) (h60 : bs.length ≤ 60) : newR (f_Work_init [(1, .obj "Work" []), (0, .lst (bs.map blD)), (0, .lst (rs.map Row.ob))]) = .ex "BadWork" := by
  have hl := G.l
  have gn := G.n
  have lo := G.o.length_eq
  have li := G.i.length_eq
  rw [rgI_len] at lo li
  exact work_none _ _ h60 (by omega) (by omega) (by omega) (.inr (.inr (.inl (no_perm (by omega)))))
/-- a knot with a number beyond -/
def Row.far (r : Row) (v : Int) : Row := if r.i = [] then { r with o := [v] } else { r with i := r.i.dropLast ++ [v] }
theorem far_ok {r : Row} (h : r.Ok) (v : Int) : (r.far v).Ok := by
  obtain ⟨sh, hp, hp1, hk, hs, hv, ho⟩ := h
  unfold Row.far
  by_cases hi : r.i = []
  · rw [if_pos hi]
    refine ⟨?_, hp, hp1, hk, hs, hv, ho⟩
    show Row.Sh r.w r.i [v]
    cases hw : r.w <;> rw [hw] at sh <;> simp [Row.Sh, hi] at sh ⊢
  · rw [if_neg hi]
    refine ⟨?_, hp, hp1, hk, hs, hv, ho⟩
    show Row.Sh r.w (r.i.dropLast ++ [v]) r.o
    have l0 : 1 ≤ r.i.length := by
      cases e : r.i with
      | nil => exact absurd e hi
      | cons => simp
    cases hw : r.w <;> rw [hw] at sh <;> simp [Row.Sh] at sh ⊢
    · exact absurd sh.1 hi
    · exact ⟨by omega, sh.2⟩
    · exact ⟨by omega, sh.2⟩
    · exact ⟨by omega, sh.2⟩
    · exact ⟨by omega, sh.2⟩
    · exact ⟨by omega, sh.2⟩
theorem far_due {r : Row} (h : r.Ok) (d : (∀ x ∈ r.due, big x) ∧ r.due.length ≤ 8) {v : Int} (hv : big v) : (∀ x ∈ (r.far v).due, big x) ∧ (r.far v).due.length ≤ 8 := by
  obtain ⟨sh, -, -, -, -, -, -⟩ := h
  obtain ⟨d1, d2⟩ := d
  unfold Row.far
  by_cases hi : r.i = []
  · rw [if_pos hi]
    have hw : r.w = .source := by cases hw : r.w <;> rw [hw, hi] at sh <;> simp [Row.Sh] at sh <;> rfl
    rw [hw, hi] at sh
    obtain ⟨-, ol⟩ := sh
    unfold Row.due Row.nums at *
    simp only [hw, hi, List.length_append] at d1 d2 ⊢
    simp at d1 d2 ⊢
    exact ⟨⟨hv, d1 _ (.inr (.inl rfl)), fun x hx => d1 x (.inr (.inr hx))⟩, by omega⟩
  · rw [if_neg hi]
    have l0 : 1 ≤ r.i.length := by
      cases e : r.i with
      | nil => exact absurd e hi
      | cons => simp
    have sub : ∀ x ∈ r.i.dropLast, x ∈ r.i := fun x hx => List.dropLast_subset _ hx
    unfold Row.due Row.nums at *
    dsimp only
    split at d1
    · rename_i hw
      rw [if_pos hw] at d2 ⊢
      simp only [List.length_append, List.length_dropLast, List.length_singleton] at d2 ⊢
      refine ⟨fun x hx => ?_, by omega⟩
      rcases List.mem_append.mp hx with hx | hx
      · exact d1 x (List.mem_append_left _ hx)
      · rcases List.mem_append.mp hx with hx | hx
        · exact d1 x (List.mem_append_right _ (sub x hx))
        · rw [List.mem_singleton.mp hx]; exact hv
    · rename_i hw
      rw [if_neg hw] at d2 ⊢
      simp only [List.length_append, List.length_dropLast, List.length_singleton] at d2 ⊢
      refine ⟨fun x hx => ?_, by omega⟩
      rcases List.mem_append.mp hx with hx | hx
      · rcases List.mem_append.mp hx with hx | hx
        · rcases List.mem_append.mp hx with hx | hx
          · exact d1 x (List.mem_append_left _ (List.mem_append_left _ (sub x hx)))
          · rw [List.mem_singleton.mp hx]; exact hv
        · exact d1 x (List.mem_append_left _ (List.mem_append_right _ hx))
      · exact d1 x (List.mem_append_right _ hx)
theorem none_far (G : Good rs belts) {j : Nat} (hj : j < rs.length) {v : Int} (hv : (belts.length : Int) ≤ v) : newR (f_Work_init [(1, .obj "Work" []), (0, .lst (belts.map blD)), (0, .lst ((rs.take j ++ ([(rs[j]).far v] ++ rs.drop (j + 1))).map Row.ob))]) = .ex "BadWork" := by
  have hl := G.l
  have gn := G.n
  have lo := G.o.length_eq
  have li := G.i.length_eq
  have po := G.o
  rw [rgI_len] at lo li
  have ro := G.r _ (List.getElem_mem hj)
  have eo := congrArg Fo (cut_row hj)
  have ei := congrArg Gi (cut_row hj)
  rw [Fo_app, Fo_app, Fo_one] at eo
  rw [Gi_app, Gi_app, Gi_one] at ei
  have eo' := congrArg List.length eo
  have ei' := congrArg List.length ei
  obtain ⟨o4, i4⟩ := ios_len (far_ok ro v)
  have el : (rs.take j ++ ([(rs[j]).far v] ++ rs.drop (j + 1))).length ≤ 60 := by simp; omega
  simp only [List.length_append] at eo' ei'
  refine work_none _ _ (by omega) el (by rw [Fo_app, Fo_app, Fo_one, List.length_append, List.length_append]; omega) (by rw [Gi_app, Gi_app, Gi_one, List.length_append, List.length_append]; omega) (.inr (.inr ?_))
  have no : ∀ L : List Int, v ∈ L → ¬ L.Perm (rgI belts.length) := fun L hm p => by
    have := mem_rg (p.mem_iff.mp hm)
    omega
  by_cases hi : (rs[j]).i = []
  · refine .inl (no _ ?_)
    rw [Fo_app, Fo_app, Fo_one]
    refine List.mem_append_right _ (List.mem_append_left _ ?_)
    unfold Row.far
    rw [if_pos hi]
    exact List.mem_singleton.mpr rfl
  · refine .inr ⟨?_, no _ ?_⟩
    · rw [Fo_app, Fo_app, Fo_one]
      have : ((rs[j]).far v).o = (rs[j]).o := by unfold Row.far; rw [if_neg hi]
      rw [this, ← eo]
      exact po
    · rw [Gi_app, Gi_app, Gi_one]
      refine List.mem_append_right _ (List.mem_append_left _ ?_)
      unfold Row.far
      rw [if_neg hi]
      exact List.mem_append_right _ (List.mem_singleton.mpr rfl)
end
end K16
namespace K16
open PySem L2 B
section
variable {MD : D} {L : List D} {c : Int} {n m j : Nat}
/-- what the cases share -/
structure NoW (BD RD L : List D) (c : Int) (n m j : Nat) : Prop where
  rw_ : f_law_rows_of [.tup [.lst BD, .lst RD]] = .ok ⟨false, 1, .lst L⟩
  nb : BD.length = n
  lL : L.length = n + m
  n60 : n ≤ 60
  m60 : m ≤ 60
  j0 : j < m
  hj : c / 5 % (m : Int) = (j : Int)
variable {BD RD : List D}
theorem now0 (h : NoW BD RD L c n m j) (hc : c % 5 = 0) : f_law_no_work [.tup [.lst BD, .lst RD], .int c] = .ok ⟨false, 1, .lst (L.take (n + j) ++ L.drop (n + j + 1))⟩ := by
  obtain ⟨rw_, nb, lL, n60, m60, j0, hj⟩ := h
  have d5 : divOk 5 := divOk_s (by decide) (by decide)
  have m0 : 0 < m := by omega
  have dm : divOk (m : Int) := divOk_s (by omega) (by omega)
  have e0 : ((L.length : Nat) : Int) - (n : Int) = (m : Int) := by omega
  have e1 : (n : Int) + (j : Int) = ((n + j : Nat) : Int) := by omega
  have e2 : (n : Int) + (j : Int) + 1 = ((n + j + 1 : Nat) : Int) := by omega
  have c1 := cutD_to L (n + j)
  have c2 := cutD_from L (n + j + 1)
  have hl : (L.take (n + j)).length + (L.drop (n + j + 1)).length ≤ 10000 := by simp; omega
  rw [← e1] at c1
  rw [← e2] at c2
  have hl2 : min (n + j) L.length + (L.length - (n + j + 1)) ≤ 10000 := by omega
  clear lL e1 e2
  simp [f_law_no_work, runF, b_law_no_work, rho0, m0, rw_, nb, d5, dm, e0, hj, hc, c1, c2, hl, hl2]
theorem now1 (h : NoW BD RD L c n m j) (hc : c % 5 = 1) (x : D) (hx : L[n + j]? = some x) : f_law_no_work [.tup [.lst BD, .lst RD], .int c] = .ok ⟨false, 1, .lst (L ++ [x])⟩ := by
  obtain ⟨rw_, nb, lL, n60, m60, j0, hj⟩ := h
  have d5 : divOk 5 := divOk_s (by decide) (by decide)
  have m0 : 0 < m := by omega
  have dm : divOk (m : Int) := divOk_s (by omega) (by omega)
  have e0 : ((L.length : Nat) : Int) - (n : Int) = (m : Int) := by omega
  have e1 : (n : Int) + (j : Int) = ((n + j : Nat) : Int) := by omega
  have c1 := atI_n L (n + j)
  rw [hx, ← e1] at c1
  have hl : L.length + 1 ≤ 10000 := by omega
  clear lL e1
  simp [f_law_no_work, runF, b_law_no_work, rho0, m0, rw_, nb, d5, dm, e0, hj, hc, c1, hl]
theorem now2 (h : NoW BD RD L c n m j) (hc : c % 5 = 2) (n1 : 1 ≤ n) : f_law_no_work [.tup [.lst BD, .lst RD], .int c] = .ok ⟨false, 1, .lst (L.take (n - 1) ++ L.drop n)⟩ := by
  obtain ⟨rw_, nb, lL, n60, m60, j0, hj⟩ := h
  have d5 : divOk 5 := divOk_s (by decide) (by decide)
  have m0 : 0 < m := by omega
  have dm : divOk (m : Int) := divOk_s (by omega) (by omega)
  have e0 : ((L.length : Nat) : Int) - (n : Int) = (m : Int) := by omega
  have e1 : (n : Int) - 1 = ((n - 1 : Nat) : Int) := by omega
  have c1 := cutD_to L (n - 1)
  have c2 := cutD_from L n
  rw [← e1] at c1
  have hl : (L.take (n - 1)).length + (L.drop n).length ≤ 10000 := by simp; omega
  have hl2 : min (n - 1) L.length + (L.length - n) ≤ 10000 := by omega
  clear lL e1
  simp [f_law_no_work, runF, b_law_no_work, rho0, m0, rw_, nb, d5, dm, e0, hj, hc, c1, c2, hl, hl2]
theorem now3 (h : NoW BD RD L c n m j) (hc : c % 5 = 3) : f_law_no_work [.tup [.lst BD, .lst RD], .int c] = .ok ⟨false, 1, .lst (.str "belt 1 1" :: L)⟩ := by
  obtain ⟨rw_, nb, lL, n60, m60, j0, hj⟩ := h
  have d5 : divOk 5 := divOk_s (by decide) (by decide)
  have m0 : 0 < m := by omega
  have dm : divOk (m : Int) := divOk_s (by omega) (by omega)
  have e0 : ((L.length : Nat) : Int) - (n : Int) = (m : Int) := by omega
  have hl : 1 + L.length ≤ 10000 := by omega
  clear lL
  simp [f_law_no_work, runF, b_law_no_work, rho0, m0, rw_, nb, d5, dm, e0, hj, hc, hl]
theorem now4 (h : NoW BD RD L c n m j) (hc : c % 5 = 4) (w : D) (is os : List Int) (N x : D) (v : Int) (hv : (n : Int) + c / 40 * 48271 % 10000000000000000000000000000 = v) (hr : RD[j]? = some (.tup [w, intsL is, intsL os, N])) (il : is.length ≤ 60)
    (hk : f_law_rows_of [.tup [.lst [], .lst [.tup [w, intsL (if is = [] then is else is.dropLast ++ [v]), intsL (if is = [] then [v] else os), N]]]] = .ok ⟨false, 1, .lst [x]⟩) : f_law_no_work [.tup [.lst BD, .lst RD], .int c] = .ok ⟨false, 1, .lst (L.take (n + j) ++ ([x] ++ L.drop (n + j + 1)))⟩ := by
  obtain ⟨rw_, nb, lL, n60, m60, j0, hj⟩ := h
  have d5 : divOk 5 := divOk_s (by decide) (by decide)
  have d40 : divOk 40 := divOk_s (by decide) (by decide)
  have m0 : 0 < m := by omega
  have dm : divOk (m : Int) := divOk_s (by omega) (by omega)
  have po : powOk 10 28 := powOk_s (by decide) (by decide) (by decide)
  have mo : mulOk (c / 40) 48271 := mulOk_r (by decide)
  have d28 : divOk 10000000000000000000000000000 := divOk_w 100 (by decide) (by decide) (by decide) (by decide)
  have e0 : ((L.length : Nat) : Int) - (n : Int) = (m : Int) := by omega
  have e1 : (n : Int) + (j : Int) = ((n + j : Nat) : Int) := by omega
  have e2 : (n : Int) + (j : Int) + 1 = ((n + j + 1 : Nat) : Int) := by omega
  have e3 : (n : Int) + (j : Int) - (n : Int) = (j : Int) := by omega
  have c1 := cutD_to L (n + j)
  have c2 := cutD_from L (n + j + 1)
  have c3 := atI_n RD j
  rw [hr] at c3
  rw [← e1] at c1
  rw [← e2] at c2
  have hl2 : min (n + j) L.length + 1 ≤ 10000 := by omega
  have hl3 : min (n + j) L.length + 1 + (L.length - (n + j + 1)) ≤ 10000 := by omega
  have hl4 : min (n + j) L.length + (1 + (L.length - (n + j + 1))) ≤ 10000 := by omega
  clear lL e1 e2
  by_cases hi : is = []
  · rw [if_pos hi, if_pos hi, hi] at hk
    rw [hi] at c3
    simp only [intsL, List.map_nil, List.map_cons] at *
    simp [f_law_no_work, runF, b_law_no_work, rho0, m0, rw_, nb, d5, d40, dm, po, mo, d28, e0, e3, hj, hc, hv, c1, c2, c3, hl2, hl3, hl4, hk]
  · rw [if_neg hi, if_neg hi] at hk
    have i0 : 0 < is.length := by
      cases e : is with
      | nil => exact absurd e hi
      | cons => simp
    have cc : cutD (is.map D.int) none (some (-1)) = is.dropLast.map D.int := by
      unfold cutD
      have : HT.sIx (is.map D.int).length (is.map D.int).length (some (-1)) = is.length - 1 := by
        rw [List.length_map]
        unfold HT.sIx
        simp
        omega
      rw [this, HT.sIx_none, List.drop_zero, Nat.sub_zero, List.dropLast_eq_take, List.map_take]
    have il' : (is.map D.int).length = is.length := by simp
    have dl : (is.dropLast.map D.int).length + 1 ≤ 10000 := by simp; omega
    simp only [intsL, List.map_append, List.map_cons, List.map_nil] at *
    generalize is.dropLast.map D.int = ID2 at *
    generalize is.map D.int = ID at *
    have i0' : (0 : Int) < (ID.length : Nat) := by omega
    have i0n : 0 < ID.length := by omega
    have i0m : ID ≠ [] := by intro z; rw [z] at i0n; simp at i0n
    simp [f_law_no_work, runF, b_law_no_work, rho0, m0, rw_, nb, d5, d40, dm, po, mo, d28, e0, e3, hj, hc, hv, c1, c2, c3, hl2, hl3, hl4, i0', i0n, i0m, cc, dl, hk]
end
end K16
namespace K16
open PySem L2 B
/-! ### rows that make no work -/
theorem Good.nb1 {rs : List Row} {belts : List (Int × Int)} (h : Good rs belts) : 1 ≤ belts.length := by
  have lo' := h.o.length_eq
  have li' := h.i.length_eq
  rw [rgI_len] at lo' li'
  obtain ⟨c, d⟩ := h.n
  cases rs with
  | nil => simp at c
  | cons r rs =>
    have ro := h.r r (List.mem_cons_self ..)
    have e1 : (Fo (r :: rs)).length = r.o.length + (Fo rs).length := by simp [Fo]
    have e2 : (Gi (r :: rs)).length = r.i.length + (Gi rs).length := by simp [Gi]
    rcases ends_of ro with h | h <;> omega
theorem Good.kok {rs : List Row} {belts : List (Int × Int)} (G : Good rs belts) : ∀ r ∈ rs, KOk r := fun r hr => ⟨due_ok G hr, G.r r hr⟩
theorem fit_any (rs : List Row) (bs : List (Int × Int)) (hb : ∀ b ∈ bs, bOk b) (hr : ∀ r ∈ rs, KOk r) (lb : bs.length ≤ 25) (lr : rs.length ≤ 25) : ((rowsT rs bs).map (·.length)).sum + (rowsT rs bs).length ≤ 8300 := by
  have h1 := sum_le (fun b => (bT b).length) 67 bs fun b h => by
    have := rowT_len2 "belt" [b.1, b.2] (b_big (hb b h))
    rw [show ("belt" : Str).length = 4 from by decide] at this
    exact this
  have h2 := sum_le (fun r => (kT r).length) 259 rs fun r h => rowT_len _ _ (word_len _) (hr r h).1.1 (hr r h).1.2
  have e : (rowsT rs bs).map (·.length) = (bs.map fun b => (bT b).length) ++ rs.map fun r => (kT r).length := by
    unfold rowsT
    rw [List.map_append, List.map_map, List.map_map]
    rfl
  have e2 : (rowsT rs bs).length = bs.length + rs.length := by unfold rowsT; simp
  rw [e, List.sum_append, e2]
  omega
def NoTo (MD : D) (c : Int) : Prop := ∃ T : List Str, f_law_no_work [MD, .int c] = .ok ⟨false, 1, .lst (T.map .str)⟩ ∧ (T.map (·.length)).sum + T.length ≤ 10000 ∧ f_read_work [.str (Txt.join ("\n" : Str) T)] = .ex "BadWork"
theorem no_to {MD : D} {c : Int} {X : List D} (rs : List Row) (bs : List (Int × Int)) (e : f_law_no_work [MD, .int c] = .ok ⟨false, 1, .lst X⟩) (hX : X = (rowsT rs bs).map .str) (hb : ∀ b ∈ bs, bOk b) (hr : ∀ r ∈ rs, KOk r) (lb : bs.length ≤ 25) (lr : rs.length ≤ 25) (ne : 1 ≤ bs.length + rs.length)
    (hw : newR (f_Work_init [(1, .obj "Work" []), (0, .lst (bs.map blD)), (0, .lst (rs.map Row.ob))]) = .ex "BadWork") : NoTo MD c := by
  have f := fit_any rs bs hb hr lb lr
  exact ⟨rowsT rs bs, by rw [← hX]; exact e, by omega, read_none bs hb rs hr (by omega) (by omega) ne (by omega) hw⟩
theorem rowsT_take (rs : List Row) (bs : List (Int × Int)) (j : Nat) : (rowsT rs bs).take (bs.length + j) = rowsT (rs.take j) bs := by
  unfold rowsT
  rw [List.take_append, List.length_map, List.take_of_length_le (by simp), show bs.length + j - bs.length = j by omega, List.map_take]
theorem rowsT_drop (rs : List Row) (bs : List (Int × Int)) (j : Nat) : (rowsT rs bs).drop (bs.length + j) = (rs.drop j).map kT := by
  unfold rowsT
  rw [List.drop_append, List.length_map, List.drop_eq_nil_of_le (by simp), List.nil_append, show bs.length + j - bs.length = j by omega, List.map_drop]
theorem rowsT_app (a b : List Row) (bs : List (Int × Int)) : rowsT a bs ++ b.map kT = rowsT (a ++ b) bs := by
  unfold rowsT
  rw [List.append_assoc, List.map_append]
theorem b11 : ("belt 1 1" : Str) = bT (1, 1) := by decide +kernel
theorem no_work_eq {rs : List Row} {belts : List (Int × Int)} (G : Good rs belts) (c : Int) : NoTo (.tup [bsD belts, rsD rs]) c := by
  have gn := G.n
  have gl := G.l
  have n1 := G.nb1
  have m0 := Int.emod_nonneg (c / 5) (b := (rs.length : Int)) (by omega)
  have m1 := Int.emod_lt_of_pos (c / 5) (b := (rs.length : Int)) (by omega)
  obtain ⟨j, hj⟩ : ∃ j : Nat, c / 5 % (rs.length : Int) = (j : Int) := ⟨_, (Int.toNat_of_nonneg m0).symm⟩
  rw [hj] at m1
  have jl : j < rs.length := by omega
  have kok := G.kok
  have H : NoW (belts.map bD) (rs.map Row.d) ((rowsT rs belts).map .str) c belts.length rs.length j :=
    ⟨rows_of_eq rs belts G, by simp, by unfold rowsT; simp, by omega, by omega, jl, hj⟩
  have e1 : ((rowsT rs belts).map D.str).take (belts.length + j) = (rowsT (rs.take j) belts).map .str := by rw [← List.map_take, rowsT_take]
  have e2 : ((rowsT rs belts).map D.str).drop (belts.length + j + 1) = ((rs.drop (j + 1)).map kT).map .str := by rw [← List.map_drop, Nat.add_assoc, rowsT_drop]
  have kt : ∀ r ∈ rs.take j, KOk r := fun r h => kok r (List.mem_of_mem_take h)
  have kd : ∀ r ∈ rs.drop (j + 1), KOk r := fun r h => kok r (List.mem_of_mem_drop h)
  have k0 := kok _ (List.getElem_mem jl)
  have em : c % 5 = 0 ∨ c % 5 = 1 ∨ c % 5 = 2 ∨ c % 5 = 3 ∨ c % 5 = 4 := by omega
  rcases em with hc | hc | hc | hc | hc
  · refine no_to (rs.take j ++ rs.drop (j + 1)) belts (now0 H hc) ?_ G.b ?_ (by omega) (by simp; omega) (by omega) (none_knot G jl)
    · rw [e1, e2, ← List.map_append, rowsT_app]
    · intro r h
      rcases List.mem_append.mp h with h | h
      · exact kt r h
      · exact kd r h
  · have hx : ((rowsT rs belts).map D.str)[belts.length + j]? = some (.str (kT rs[j])) := by
      unfold rowsT
      rw [List.getElem?_map, List.getElem?_append_right (by simp), List.length_map, show belts.length + j - belts.length = j by omega, List.getElem?_map, List.getElem?_eq_getElem jl]
      rfl
    refine no_to (rs ++ [rs[j]]) belts (now1 H hc _ hx) ?_ G.b ?_ (by omega) (by simp; omega) (by omega) (none_twice G jl)
    · rw [← rowsT_app, List.map_append]
      rfl
    · intro r h
      rcases List.mem_append.mp h with h | h
      · exact kok r h
      · rw [List.mem_singleton.mp h]; exact k0
  · refine no_to rs (belts.take (belts.length - 1)) (now2 H hc n1) ?_ (fun b h => G.b b (List.mem_of_mem_take h)) kok (by simp; omega) (by omega) (by omega) (none_belts G _ (by simp; omega) (by simp; omega))
    · have d := rowsT_drop rs belts 0
      rw [Nat.add_zero, List.drop_zero] at d
      rw [← List.map_take, ← List.map_drop, d, ← List.map_append]
      congr 1
      unfold rowsT
      rw [List.take_append_of_le_length (by simp), List.map_take]
  · refine no_to rs ((1, 1) :: belts) (now3 H hc) ?_ ?_ kok (by simp; omega) (by omega) (by simp; omega) (none_belts G _ (by simp) (by simp; omega))
    · rw [b11]
      rfl
    · intro b h
      rcases List.mem_cons.mp h with rfl | h
      · exact ⟨by decide, by decide⟩
      · exact G.b b h
  · have y0 : 0 ≤ c / 40 * 48271 % 10000000000000000000000000000 := by omega
    have y1 : c / 40 * 48271 % 10000000000000000000000000000 < 10000000000000000000000000000 := by omega
    generalize hv : (belts.length : Int) + c / 40 * 48271 % 10000000000000000000000000000 = v
    have bv : big v := ⟨by omega, Int.lt_trans (show v < 100000000000000000000000000000 by omega) (by decide)⟩
    have ko : KOk ((rs[j]).far v) := ⟨far_due k0.2 k0.1 bv, far_ok k0.2 v⟩
    have rg := rows_gen [(rs[j]).far v] [] (fun _ h => nomatch h) (fun r h => by rw [List.mem_singleton.mp h]; exact ko) (by simp) (by simp)
    have rd : ((rs[j]).far v).d = .tup [.str (rs[j]).w.s, intsL (if (rs[j]).i = [] then (rs[j]).i else (rs[j]).i.dropLast ++ [v]), intsL (if (rs[j]).i = [] then [v] else (rs[j]).o), intsL (rs[j]).nums] := by
      unfold Row.far
      by_cases hi : (rs[j]).i = []
      · rw [if_pos hi, if_pos hi, if_pos hi]
        rfl
      · rw [if_neg hi, if_neg hi, if_neg hi]
        rfl
    have hr : (rs.map Row.d)[j]? = some (rs[j]).d := by rw [List.getElem?_map, List.getElem?_eq_getElem jl]; rfl
    have rg2 : f_law_rows_of [.tup [.lst [], .lst [((rs[j]).far v).d]]] = .ok ⟨false, 1, .lst [.str (kT ((rs[j]).far v))]⟩ := rg
    rw [rd] at rg2
    refine no_to (rs.take j ++ ([(rs[j]).far v] ++ rs.drop (j + 1))) belts (now4 H hc _ _ _ _ _ v hv hr (by have := (ios_len k0.2).2; omega) rg2) ?_ G.b ?_ (by omega) (by simp; omega) (by omega) (none_far G jl (by omega))
    · rw [e1, e2, ← rowsT_app, List.map_append, List.map_append, List.map_append]
      rfl
    · intro r h
      rcases List.mem_append.mp h with h | h
      · exact kt r h
      · rcases List.mem_append.mp h with h | h
        · rw [List.mem_singleton.mp h]; exact ko
        · exact kd r h
end K16
namespace K16
open PySem L2 B
theorem sm62 (k : Nat) (h : k ≤ 100000) : small62 (k : Int) := by
  have e : (2 : Int) ^ 62 = 4611686018427387904 := by decide
  unfold small62
  rw [e]
  exact ⟨by omega, by omega⟩
section
variable {L : List D} {a c : Int} {n N i j : Nat}
theorem br0 (lN : L.length = N) (N0 : 1 ≤ N) (N60 : N ≤ 60) (n24 : n ≤ 24) (n1 : 1 ≤ n) (h4 : a % 4 = 0) (hi : a / 4 % (N : Int) = (i : Int)) (iN : i < N) (hj : c / 5 % ((N - i : Nat) : Int) = (j : Int)) (jN : j < N - i) (p1 p2 t1 t2 : Str)
    (g1 : L[i]? = some (.str p1)) (g2 : L[i + j]? = some (.str p2)) (s1 : f_law_spoilt [.str p1, .int (c / 3)] = .ok (sh (.str t1))) (s2 : f_law_spoilt [.str p2, .int (c / 7)] = .ok (sh (.str t2))) :
    ∃ q : Nat, q ≤ 24 ∧ f_law_bad_rows [.lst L, .int n, .int a, .int c] = .ok ⟨false, 0, .tup [.int ((q + i + 1 : Nat) : Int), .lst (List.replicate q (.str "belt 1 1") ++ (L.set (i + j) (.str t2)).set i (.str t1))]⟩ := by
  have d4 : divOk 4 := divOk_s (by decide) (by decide)
  have d3 : divOk 3 := divOk_s (by decide) (by decide)
  have d5 : divOk 5 := divOk_s (by decide) (by decide)
  have d7 : divOk 7 := divOk_s (by decide) (by decide)
  have d11 : divOk 11 := divOk_s (by decide) (by decide)
  have dN : divOk (N : Int) := divOk_s (by omega) (by omega)
  have dNi : divOk ((N - i : Nat) : Int) := divOk_s (by omega) (by omega)
  have N1 : 0 < N := by omega
  have Ni1 : 0 < N - i := by omega
  have e0 : (N : Int) - (i : Int) = ((N - i : Nat) : Int) := by omega
  have e1 : (i : Int) + (j : Int) = ((i + j : Nat) : Int) := by omega
  have a1 := atI_n L i
  have a2 := atI_n L (i + j)
  rw [g1] at a1
  rw [g2] at a2
  have x1 : ixN N (i : Int) = some i := ixN_nat (by omega)
  have x2 : ixN N ((i + j : Nat) : Int) = some (i + j) := ixN_nat (by omega)
  have e2 : ((25 : Int) - (n : Int)) = ((25 - n : Nat) : Int) := by omega
  have sm : small62 ((25 - n : Nat) : Int) := sm62 _ (by omega)
  have rl : (25 - n) ≤ 10000 := by omega
  have l2 : N ≤ 10000 := by omega
  have l3 : 25 - n + N ≤ 10000 := by omega
  have fl : (List.replicate (25 - n) [D.str "belt 1 1"]).flatten = List.replicate (25 - n) (.str "belt 1 1") := by
    generalize 25 - n = k
    induction k with
    | zero => rfl
    | succ k ih => rw [List.replicate_succ, List.replicate_succ, List.flatten_cons, ih]; rfl
  by_cases h11 : c / 11 % 4 = 1
  · refine ⟨25 - n, by omega, ?_⟩
    have e3 : ((25 - n : Nat) : Int) + (i : Int) + 1 = ((25 - n + i + 1 : Nat) : Int) := by omega
    generalize 25 - n = k at *
    generalize hM : N - i = M at *
    generalize hij : i + j = ij at *
    generalize k + i + 1 = ki at *
    simp [f_law_bad_rows, runF, b_law_bad_rows, rho0, lN, d3, d4, d5, d7, d11, dN, dNi, N1, Ni1, h4, hi, hj, e0, e1, a1, a2, s1, s2, x1, x2, h11, e2, sm, rl, fl, e3, sFz, l2, l3]
  · refine ⟨0, by omega, ?_⟩
    have e3 : (i : Int) + 1 = ((0 + i + 1 : Nat) : Int) := by omega
    generalize hM : N - i = M at *
    generalize hij : i + j = ij at *
    simp [f_law_bad_rows, runF, b_law_bad_rows, rho0, lN, d3, d4, d5, d7, d11, dN, dNi, N1, Ni1, h4, hi, hj, e0, e1, a1, a2, s1, s2, x1, x2, h11, sFz, l2]
theorem br1 {m : Nat} (lN : L.length = n + m) (n0 : 1 ≤ n) (n60 : n ≤ 60) (m0 : 1 ≤ m) (m60 : m ≤ 60) (h4 : a % 4 = 1) (hi : a / 4 % (m : Int) = (i : Int)) (im : i < m) (hj : c % (n : Int) = (j : Int)) (jn : j < n) (x : D) (gx : L[j]? = some x) :
    f_law_bad_rows [.lst L, .int n, .int a, .int c] = .ok ⟨false, 0, .tup [.int ((n + 1 + i + 1 : Nat) : Int), .lst (L.take (n + 1 + i) ++ (x :: L.drop (n + 1 + i)))]⟩ := by
  have d4 : divOk 4 := divOk_s (by decide) (by decide)
  have dN : divOk ((n + m : Nat) : Int) := divOk_s (by omega) (by omega)
  have dm : divOk (m : Int) := divOk_s (by omega) (by omega)
  have dn : divOk (n : Int) := divOk_s (by omega) (by omega)
  have N1 : 0 < n + m := by omega
  have nM : ¬ n + m = 0 := by omega
  have e0 : ((n + m : Nat) : Int) - (n : Int) = (m : Int) := by omega
  have e1 : (n : Int) + 1 + (i : Int) = ((n + 1 + i : Nat) : Int) := by omega
  have e2 : ((n + 1 + i : Nat) : Int) + 1 = ((n + 1 + i + 1 : Nat) : Int) := by omega
  have a1 := atI_n L j
  rw [gx] at a1
  have c1 := cutD_to L (n + 1 + i)
  have c2 := cutD_from L (n + 1 + i)
  have l2 : min (n + 1 + i) (n + m) + 1 ≤ 10000 := by omega
  have l3 : min (n + 1 + i) (n + m) + 1 + (n + m - (n + 1 + i)) ≤ 10000 := by omega
  have l4 : min (n + 1 + i) (n + m) + (1 + (n + m - (n + 1 + i))) ≤ 10000 := by omega
  have l5 : min (n + 1 + i) (n + m) + (n + m - (n + 1 + i) + 1) ≤ 10000 := by omega
  generalize hnk : n + 1 + i + 1 = nk at *
  generalize hni : n + 1 + i = ni at *
  generalize hNN : n + m = NN at *
  have nz : (n : Int) ≠ 0 := by omega
  have nz' : ¬ n = 0 := by omega
  have m0' : 0 < m := by omega
  have n0' : 0 < n := by omega
  simp [f_law_bad_rows, runF, b_law_bad_rows, rho0, lN, d4, dN, dm, dn, N1, h4, hi, hj, e0, e1, e2, a1, c1, c2, l2, l3, l4, l5, m0', n0']
theorem br2 (lN : L.length = N) (N0 : 1 ≤ N) (N60 : N ≤ 60) (h4 : ¬ a % 4 = 0) (h4' : ¬ a % 4 = 1) (h : a / 4 % 3 = 0) : f_law_bad_rows [.lst L, .int n, .int a, .int c] = .ok ⟨false, 0, .tup [.int 1, .lst [.str ""]]⟩ := by
  have d4 : divOk 4 := divOk_s (by decide) (by decide)
  have d3 : divOk 3 := divOk_s (by decide) (by decide)
  have dN : divOk (N : Int) := divOk_s (by omega) (by omega)
  have N1 : 0 < N := by omega
  simp [f_law_bad_rows, runF, b_law_bad_rows, rho0, lN, d4, d3, dN, N1, h4, h4', h]
theorem br3 (lN : L.length = N) (N0 : 1 ≤ N) (N60 : N ≤ 60) (h4 : ¬ a % 4 = 0) (h4' : ¬ a % 4 = 1) (h : ¬ a / 4 % 3 = 0) : f_law_bad_rows [.lst L, .int n, .int a, .int c] = .ok ⟨false, 0, .tup [.int ((N + 1 : Nat) : Int), .lst (L ++ [.str ""])]⟩ := by
  have d4 : divOk 4 := divOk_s (by decide) (by decide)
  have d3 : divOk 3 := divOk_s (by decide) (by decide)
  have dN : divOk (N : Int) := divOk_s (by omega) (by omega)
  have N1 : 0 < N := by omega
  have l2 : N + 1 ≤ 10000 := by omega
  simp [f_law_bad_rows, runF, b_law_bad_rows, rho0, lN, d4, d3, dN, N1, h4, h4', h, l2]
end
end K16
namespace K16
open PySem L2 B
/-! ### rows of which one is bad -/
def BdTo (L : List D) (n : Nat) (a c : Int) : Prop := ∃ (ln : Nat) (T : List Str), f_law_bad_rows [.lst L, .int n, .int a, .int c] = .ok ⟨false, 0, .tup [.int (ln : Nat), .lst (T.map .str)]⟩ ∧ (T.map (·.length)).sum + T.length ≤ 10000 ∧ f_read_work [.str (Txt.join ("\n" : Str) T)] = .ex (xK "BadRow" ln)
theorem sum_rep (q : Nat) (x : Str) : ((List.replicate q x).map (·.length)).sum = q * x.length := by
  induction q with
  | zero => simp
  | succ q ih => rw [List.replicate_succ, List.map_cons, List.sum_cons, ih, Nat.succ_mul, Nat.add_comm]
theorem bd_to {L : List D} {n : Nat} {a c : Int} {Y : List D} {ln : Nat} (bs : List (Int × Int)) (rs : List Row) (X : Str) (Q : List Str) (e : f_law_bad_rows [.lst L, .int n, .int a, .int c] = .ok ⟨false, 0, .tup [.int (ln : Nat), .lst Y]⟩) (hY : Y = (bs.map bT ++ (rs.map kT ++ X :: Q)).map .str) (hl : ln = bs.length + rs.length + 1)
    (hb : ∀ b ∈ bs, bOk b) (hr : ∀ r ∈ rs, KOk r) (hX : ∀ n : Nat, f_part_of [.str X, .int (n : Nat), .bl (decide (0 < rs.length))] = .ex (xK "BadRow" n)) (h10 : 10 ∉ TL.tl X) (hQ : ∀ q ∈ Q, 10 ∉ TL.tl q) (lb : bs.length ≤ 60) (lr : rs.length ≤ 60)
    (fit : ((bs.map bT ++ (rs.map kT ++ X :: Q)).map (·.length)).sum + (bs.map bT ++ (rs.map kT ++ X :: Q)).length ≤ 10000) : BdTo L n a c := by
  refine ⟨ln, bs.map bT ++ (rs.map kT ++ X :: Q), by rw [← hY]; exact e, fit, ?_⟩
  rw [hl]
  exact read_bad bs hb rs hr X hX Q h10 hQ lb lr fit
theorem rows10 {rs : List Row} {belts : List (Int × Int)} (G : Good rs belts) : ∀ q ∈ rowsT rs belts, 10 ∉ TL.tl q := fun q hq => by
  unfold rowsT at hq
  rcases List.mem_append.mp hq with hq | hq
  · obtain ⟨b, h, rfl⟩ := List.mem_map.mp hq
    exact bT_free (G.b b h)
  · obtain ⟨r, h, rfl⟩ := List.mem_map.mp hq
    exact kT_free (G.kok r h)
theorem sum_mid (A B : List Str) (x : Str) : ((A ++ x :: B).map (·.length)).sum = ((A ++ B).map (·.length)).sum + x.length := by
  rw [List.map_append, List.map_append, List.map_cons, List.sum_append, List.sum_append, List.sum_cons]
  omega
theorem bad_rows_eq {rs : List Row} {belts : List (Int × Int)} (G : Good rs belts) (a c : Int) : BdTo ((rowsT rs belts).map .str) belts.length a c := by
  have gn := G.n
  have gl := G.l
  have n1 := G.nb1
  have kok := G.kok
  have RL : (rowsT rs belts).length = belts.length + rs.length := by unfold rowsT; simp
  have lN : ((rowsT rs belts).map D.str).length = belts.length + rs.length := by rw [List.length_map, RL]
  have fit := fit_any rs belts G.b kok (by omega) (by omega)
  have r10 := rows10 G
  by_cases h0 : a % 4 = 0
  · have i0 := Int.emod_nonneg (a / 4) (b := ((belts.length + rs.length : Nat) : Int)) (by omega)
    have i1 := Int.emod_lt_of_pos (a / 4) (b := ((belts.length + rs.length : Nat) : Int)) (by omega)
    obtain ⟨i, hi⟩ : ∃ i : Nat, a / 4 % ((belts.length + rs.length : Nat) : Int) = (i : Int) := ⟨_, (Int.toNat_of_nonneg i0).symm⟩
    rw [hi] at i1
    have j0 := Int.emod_nonneg (c / 5) (b := ((belts.length + rs.length - i : Nat) : Int)) (by omega)
    have j1 := Int.emod_lt_of_pos (c / 5) (b := ((belts.length + rs.length - i : Nat) : Int)) (by omega)
    obtain ⟨j, hj⟩ : ∃ j : Nat, c / 5 % ((belts.length + rs.length - i : Nat) : Int) = (j : Int) := ⟨_, (Int.toNat_of_nonneg j0).symm⟩
    rw [hj] at j1
    have iL : i < (rowsT rs belts).length := by omega
    have jL : i + j < (rowsT rs belts).length := by omega
    obtain ⟨X1, us1, s1, b1, w1⟩ := spoilt_row G (List.getElem_mem iL) (c / 3)
    obtain ⟨X2, us2, s2, b2, w2⟩ := spoilt_row G (List.getElem_mem jL) (c / 7)
    have g1 : ((rowsT rs belts).map D.str)[i]? = some (.str (rowsT rs belts)[i]) := by rw [List.getElem?_map, List.getElem?_eq_getElem iL]; rfl
    have g2 : ((rowsT rs belts).map D.str)[i + j]? = some (.str (rowsT rs belts)[i + j]) := by rw [List.getElem?_map, List.getElem?_eq_getElem jL]; rfl
    obtain ⟨q, q24, e⟩ := br0 lN (by omega) (by omega) gl n1 h0 hi (by omega) hj (by omega) _ _ X1 X2 g1 g2 s1 s2
    have es : ((rowsT rs belts).set (i + j) X2).set i X1 = (rowsT rs belts).take i ++ X1 :: ((rowsT rs belts).set (i + j) X2).drop (i + 1) := by
      rw [List.set_eq_take_append_cons_drop, if_pos (by rw [List.length_set]; exact iL), List.take_set_of_le (by omega)]
    have Q10 : ∀ z ∈ ((rowsT rs belts).set (i + j) X2).drop (i + 1), 10 ∉ TL.tl z := fun z hz => by
      rcases List.mem_or_eq_of_mem_set (List.mem_of_mem_drop hz) with h | h
      · exact r10 z h
      · rw [h]; exact w2.no10
    have l1 := w1.len
    have l2 := w2.len
    have F0 : (((List.replicate q ("belt 1 1" : Str) ++ ((rowsT rs belts).set (i + j) X2).set i X1)).map (·.length)).sum + (List.replicate q ("belt 1 1" : Str) ++ ((rowsT rs belts).set (i + j) X2).set i X1).length ≤ 10000 := by
      have z1 := sum_set2 (rowsT rs belts) (i + j) X2
      have z2 := sum_set2 ((rowsT rs belts).set (i + j) X2) i X1
      have z3 := sum_rep q ("belt 1 1" : Str)
      rw [show ("belt 1 1" : Str).length = 8 from by decide] at z3
      rw [List.map_append, List.sum_append, List.length_append, List.length_set, List.length_set, List.length_replicate]
      omega
    have rep : (List.replicate q ((1 : Int), (1 : Int))).map bT = List.replicate q ("belt 1 1" : Str) := by rw [List.map_replicate, b11]
    have mapY : List.replicate q (D.str "belt 1 1") ++ (((rowsT rs belts).map D.str).set (i + j) (.str X2)).set i (.str X1) = (List.replicate q ("belt 1 1" : Str) ++ ((rowsT rs belts).set (i + j) X2).set i X1).map D.str := by
      rw [List.map_append, List.map_set, List.map_set, List.map_replicate]
    have repOk : ∀ b ∈ List.replicate q ((1 : Int), (1 : Int)), bOk b := fun b hb => by
      rw [(List.mem_replicate.mp hb).2]
      exact ⟨by decide, by decide⟩
    rw [es] at F0 mapY
    by_cases hin : i < belts.length
    · have tk : (rowsT rs belts).take i = (belts.take i).map bT := by
        unfold rowsT
        rw [List.take_append_of_le_length (by simp; omega), List.map_take]
      have YY : List.replicate q ("belt 1 1" : Str) ++ ((rowsT rs belts).take i ++ X1 :: ((rowsT rs belts).set (i + j) X2).drop (i + 1)) = (List.replicate q ((1 : Int), (1 : Int)) ++ belts.take i).map bT ++ (([] : List Row).map kT ++ X1 :: ((rowsT rs belts).set (i + j) X2).drop (i + 1)) := by
        rw [tk, List.map_append, rep, List.map_nil, List.nil_append, List.append_assoc]
      rw [YY] at F0 mapY
      refine bd_to (List.replicate q (1, 1) ++ belts.take i) [] X1 _ e mapY (by simp; omega) ?_ (fun _ h => nomatch h) (fun n => b1 n _) w1.no10 Q10 (by simp; omega) (by simp) F0
      intro b hb
      rcases List.mem_append.mp hb with h | h
      · exact repOk b h
      · exact G.b b (List.mem_of_mem_take h)
    · obtain ⟨k, rfl⟩ : ∃ k, i = belts.length + k := ⟨i - belts.length, by omega⟩
      have tk := rowsT_take rs belts k
      have YY : List.replicate q ("belt 1 1" : Str) ++ ((rowsT rs belts).take (belts.length + k) ++ X1 :: ((rowsT rs belts).set (belts.length + k + j) X2).drop (belts.length + k + 1)) = (List.replicate q ((1 : Int), (1 : Int)) ++ belts).map bT ++ ((rs.take k).map kT ++ X1 :: ((rowsT rs belts).set (belts.length + k + j) X2).drop (belts.length + k + 1)) := by
        rw [tk, List.map_append, rep]
        unfold rowsT
        rw [List.append_assoc, List.append_assoc]
      rw [YY] at F0 mapY
      refine bd_to (List.replicate q (1, 1) ++ belts) (rs.take k) X1 _ e mapY (by simp; omega) ?_ (fun r h => kok r (List.mem_of_mem_take h)) (fun n => b1 n _) w1.no10 Q10 (by simp; omega) (by simp; omega) F0
      intro b hb
      rcases List.mem_append.mp hb with h | h
      · exact repOk b h
      · exact G.b b h
  · by_cases h1 : a % 4 = 1
    · have i0 := Int.emod_nonneg (a / 4) (b := (rs.length : Int)) (by omega)
      have i1 := Int.emod_lt_of_pos (a / 4) (b := (rs.length : Int)) (by omega)
      obtain ⟨i, hi⟩ : ∃ i : Nat, a / 4 % (rs.length : Int) = (i : Int) := ⟨_, (Int.toNat_of_nonneg i0).symm⟩
      rw [hi] at i1
      have j0 := Int.emod_nonneg c (b := (belts.length : Int)) (by omega)
      have j1 := Int.emod_lt_of_pos c (b := (belts.length : Int)) (by omega)
      obtain ⟨j, hj⟩ : ∃ j : Nat, c % (belts.length : Int) = (j : Int) := ⟨_, (Int.toNat_of_nonneg j0).symm⟩
      rw [hj] at j1
      have jl : j < belts.length := by omega
      have gx : ((rowsT rs belts).map D.str)[j]? = some (.str (bT belts[j])) := by
        unfold rowsT
        rw [List.getElem?_map, List.getElem?_append_left (by simpa using jl), List.getElem?_map, List.getElem?_eq_getElem jl]
        rfl
      have bj := G.b _ (List.getElem_mem jl)
      have e := br1 (a := a) (c := c) lN n1 (by omega) gn.1 (by omega) h1 hi (by omega) hj jl _ gx
      have tk := rowsT_take rs belts (1 + i)
      rw [← Nat.add_assoc] at tk
      have YY : (rowsT rs belts).take (belts.length + 1 + i) ++ bT belts[j] :: (rowsT rs belts).drop (belts.length + 1 + i) = belts.map bT ++ ((rs.take (1 + i)).map kT ++ bT belts[j] :: (rowsT rs belts).drop (belts.length + 1 + i)) := by
        rw [tk]
        unfold rowsT
        rw [List.append_assoc]
      have lb : (bT belts[j]).length ≤ 500 := (Wds.row (w := "belt") ⟨by decide, by decide, by decide⟩ (by decide) (b_big bj) (by simp)).len
      have F0 : ((((rowsT rs belts).take (belts.length + 1 + i) ++ bT belts[j] :: (rowsT rs belts).drop (belts.length + 1 + i))).map (·.length)).sum + ((rowsT rs belts).take (belts.length + 1 + i) ++ bT belts[j] :: (rowsT rs belts).drop (belts.length + 1 + i)).length ≤ 10000 := by
        rw [sum_mid, List.take_append_drop, List.length_append, List.length_cons, List.length_take, List.length_drop]
        omega
      rw [YY] at F0
      refine bd_to belts (rs.take (1 + i)) (bT belts[j]) _ e ?_ (by simp; omega) G.b (fun r h => kok r (List.mem_of_mem_take h)) (fun n => ?_) (bT_free bj) (fun q h => r10 q (List.mem_of_mem_drop h)) (by omega) (by simp; omega) F0
      · rw [← YY, List.map_append, List.map_cons, List.map_take, List.map_drop]
      · rw [decide_eq_true (by simp; omega)]
        exact bad_behind _ bj n
    · have bE : ∀ k : Nat, ∀ n : Nat, f_part_of [.str "", .int (n : Nat), .bl (decide (0 < k))] = .ex (xK "BadRow" n) := fun k n => bad_empty n _
      by_cases h3 : a / 4 % 3 = 0
      · have e := br2 (c := c) (n := belts.length) lN (by omega) (by omega) h0 h1 h3
        refine bd_to (ln := 1) [] [] "" [] e rfl rfl (fun _ h => nomatch h) (fun _ h => nomatch h) (bE _) (by decide) (fun _ h => nomatch h) (by simp) (by simp) (by decide)
      · have e := br3 (c := c) (n := belts.length) lN (by omega) (by omega) h0 h1 h3
        have YY : rowsT rs belts ++ [("" : Str)] = belts.map bT ++ (rs.map kT ++ ("" : Str) :: []) := by
          unfold rowsT
          rw [List.append_assoc]
        have F0 : ((rowsT rs belts ++ [("" : Str)]).map (·.length)).sum + (rowsT rs belts ++ [("" : Str)]).length ≤ 10000 := by
          rw [List.map_append, List.sum_append, List.length_append, List.map_singleton, List.sum_singleton, show ("" : Str).length = 0 from by decide]
          simp only [List.length_singleton]
          omega
        rw [YY] at F0
        refine bd_to belts rs "" [] e ?_ rfl G.b kok (bE _) (by decide) (fun _ h => nomatch h) (by omega) (by omega) F0
        rw [← YY, List.map_append]
        rfl
end K16
namespace K16
open PySem L2 B
theorem joinN {T : List Str} (h : (T.map (·.length)).sum + T.length ≤ 10000) : joinO ("\n" : Str) (T.map .str) = some (Txt.join ("\n" : Str) T) := joinO_map _ _ (by rw [show ("\n" : Str).length = 1 from by decide, Nat.mul_one]; exact h)
theorem caught_eq (T : List D) (J cc : Str) (ej : joinO ("\n" : Str) T = some J) (h : f_read_work [.str J] = .ex cc) (hm : cMem z_WorkError (xB cc) = true) : f_law_caught [.lst T] = .ok (sh (.exo cc)) := by
  simp [f_law_caught, runF, b_law_caught, rho0, t1_law_caught, u1_law_caught, ej, h, hm]
theorem told_work : f_law_told [.exo "BadWork", .non] = .ok (sh (.bl true)) := by
  have e0 : cMem esA (xB "BadWork") = true := by decide
  have e1 : cMem y_WorkError (xB "BadWork") = true := by decide
  have e2 : cMem y_ValueError (xB "BadWork") = true := by decide
  have e3 : cMem y_all_but_BadWork_BadRow (xB "BadWork") = false := by decide
  have e4 : cMem y_BadWork (xB "BadWork") = true := by decide
  have e5 : cMem y_BadRow (xB "BadWork") = false := by decide
  simp [f_law_told, runF, b_law_told, rho0, e0, e1, e2, e3, e4, e5]
theorem told_row (n : Nat) : f_law_told [.exo (xK "BadRow" n), .int (n : Nat)] = .ok (sh (.bl true)) := by
  have e0 : cMem esA "BadRow" = true := by decide
  have e1 : cMem y_WorkError "BadRow" = true := by decide
  have e2 : cMem y_ValueError "BadRow" = true := by decide
  have e3 : cMem y_all_but_BadWork_BadRow "BadRow" = false := by decide
  have e4 : cMem y_BadWork "BadRow" = false := by decide
  have e5 : cMem y_BadRow "BadRow" = true := by decide
  generalize hcc : xK "BadRow" n = cc at *
  have b1 : xB cc = "BadRow" := by rw [← hcc, xB_xK]
  have b2 : ∀ k, xfT "BadRow" ⟨true, k, .exo cc⟩ = .ok (sh (.int (n : Int))) := fun k => by rw [← hcc, xfT_exo]
  have b3 : ∀ k, xfT "BadRow" ⟨false, k, .exo cc⟩ = .ok (sh (.int (n : Int))) := fun k => by rw [← hcc, xfT_exo]
  generalize hm : ((n : Nat) : Int) = m at *
  simp [f_law_told, runF, b_law_told, rho0, b1, b2, b3, e0, e1, e2, e3, e4, e5]
theorem law_true : LawTrue f_law := by
  intro ns hl _
  obtain ⟨rs, belts, k, G, ep⟩ := parts_eq ns (by omega)
  obtain ⟨c0, e0⟩ := cell_eq ns 0
  replace e0 : f_law_cell_at [intsL ns, .int 0] = _ := e0
  obtain ⟨c1, e1⟩ := cell_eq ns 1
  replace e1 : f_law_cell_at [intsL ns, .int 1] = _ := e1
  obtain ⟨c2, e2⟩ := cell_eq ns 2
  replace e2 : f_law_cell_at [intsL ns, .int 2] = _ := e2
  obtain ⟨c3, e3⟩ := cell_eq ns 3
  replace e3 : f_law_cell_at [intsL ns, .int 3] = _ := e3
  have er := rows_of_eq rs belts G
  have bd := fun a c => bad_rows_eq G a c
  have nw := fun c => no_work_eq G c
  have rd := read_work_eq rs belts G
  have fit := fit_any rs belts G.b G.kok (by have := G.l; omega) (by have := G.n; omega)
  have jr := joinN (T := rowsT rs belts) (by omega)
  have lb : (belts.map bD).length = belts.length := by simp
  have lb2 : (belts.map blD).length = belts.length := by simp
  refine ⟨0, ?_⟩
  have d5 : divOk 5 := divOk_s (by decide) (by decide)
  have dM : divOk 2147483647 := divOk_s (by decide) (by decide)
  have m1 : mulOk 7 c3 := mulOk_l (by decide)
  have m2 : mulOk (c0 + 7 * c3) 48271 := mulOk_r (by decide)
  have m3 : mulOk 5 c2 := mulOk_l (by decide)
  have m4 : mulOk (c1 + 5 * c2 + 1) 69621 := mulOk_r (by decide)
  have hf : ∃ f, (c0 + 7 * c3) * 48271 % 2147483647 = f := ⟨_, rfl⟩
  have hs : ∃ s, (c1 + 5 * c2 + 1) * 69621 % 2147483647 = s := ⟨_, rfl⟩
  obtain ⟨f, hf⟩ := hf
  obtain ⟨s, hs⟩ := hs
  obtain ⟨TN, en, fn, xn⟩ := nw s
  obtain ⟨ln, TB, eb, fb, xb⟩ := bd (f / 5) s
  have jn := joinN fn
  have jb := joinN fb
  have cn := caught_eq _ _ _ jn xn (by decide)
  have cb := caught_eq _ _ _ jb xb (by rw [xB_xK]; decide)
  have tn := told_work
  have tb := told_row ln
  show f_law [.lst (ns.map D.int)] = _
  simp only [intsL, bsD, rsD, workD] at *
  clear bd nw jn jb xn xb fn fb fit G
  generalize (rowsT rs belts).map D.str = RT at *
  generalize Txt.join ("\n" : Str) (rowsT rs belts) = RJ at *
  generalize TN.map D.str = TND at *
  generalize TB.map D.str = TBD at *
  generalize xK "BadRow" ln = cc at *
  generalize ((ln : Nat) : Int) = li at *
  generalize rs.map Row.d = RD at *
  generalize rs.map Row.ob = RO at *
  generalize belts.map bD = BD at *
  generalize belts.map blD = BL at *
  generalize ns.map D.int = ND at *
  by_cases h3 : f % 5 < 3
  · simp [f_law, runF, b_law, rho0, ep, er, e0, e1, e2, e3, m1, m2, m3, m4, d5, dM, hf, hs, en, h3, lb, lb2, eb, cb, tb, jr, rd]
  · simp [f_law, runF, b_law, rho0, ep, er, e0, e1, e2, e3, m1, m2, m3, m4, d5, dM, hf, hs, en, h3, lb, lb2, cn, tn, jr, rd]
end K16
open PySem PySem.W PySem.Calls PyProof.Rows
set_option maxRecDepth 100000 in
set_option maxHeartbeats 0 in
theorem PySem.Challenge.cw_beltshares_k16_bad_rows_holds : PySem.Challenge.rw_beltshares_k16_bad_rows.Holds := by
  w_on; o_law
  refine HandSHeadRun.head_any (r := K16.Rw) (q := view K16.Rw.prog [52]) (H := K16.hk) (ob := K16.ob)
    (M := 30000) (loose := K16.loose) (d := HandSHeadRun.topDef K16.Rw.prog 52) (kwd := []) K16.ob_eq
    (by kernel_rfl) (fun s => by kernel_rfl) K16.run (by kernel_rfl) (by kernel_rfl) (by kernel_rfl) (by rfl)
    (by first | assumption | decide +kernel) (by decide +kernel) ⟨rfl, rfl, rfl, rfl, rfl, by decide +kernel⟩ ?hw ?hc
  case hw => w_witness2
  case hc =>
    refine B.law_walk (l := PySem.Challenge.rw_beltshares_k16_bad_rows) (k := 9) (x := "_law_script") K16.f_law He.ga rfl (by kernel_rfl)
      ⟨rfl, by decide, by decide⟩ K16.law_true fun w mg g h K KX c hx G hmg0 => ?_
    have hmg : mg ("law" : PySem.Str) = some (.ref g) := by
      have e : (HandSHeadRun.topDef K16.Rw.prog 52).name = ("law" : PySem.Str) := by kernel_rfl
      rw [← e]
      exact hmg0
    exact K16.facts KX G hmg c hx
#print axioms PySem.Challenge.cw_beltshares_k16_bad_rows_holds
