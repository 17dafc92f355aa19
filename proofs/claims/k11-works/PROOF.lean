import PyProof.Rows.All
import Wide.All
import OpenK.AllK
import Wide.FinOn
import HandS.ForMost
import HandS.Exc
import HandS.TryOnly
import HandS.ExcOwn
import HandS.WordsExc
import HandS.Wide
import HandS.Zip
import HandS.IsInst
import KE.KDictKeyed
import HandS.Defaults
import HandS.Head0
import HandS.Head1
import HandS.Head2
import HandS.HeadEnd
import HandS.HeadHook1
import HandS.HeadHook2
import HandS.EndBits
import HandS.ExcIs
import HandS.ClsMeth
import HandS.Conv
import HandS.Text
import HandS.SortKw
import PyProof.SumWalkG
import HandS.SortInts
import HandS.Rev
import HandS.Deep
import HandS.More
import PyProof.StrOps2
import PyProof.NeKinds
import PyProof.EqAt
import PyProof.Rows.FactsN_divmod
import PySem.Challenge.RW_beltshares_k11_works
set_option Elab.async false
set_option linter.all false
set_option maxRecDepth 100000
set_option maxHeartbeats 2000000
namespace B
open PySem L2 HandSHeadRun PySem.W PySem.Calls PyProof.Rows
/-- no list stands in the written part -/
def noList (K : PySem.W.Frag) : Bool := K.all fun q => decide (q.2.cls ≠ .type "list")
/-- no list, and what else is asked of the written part -/
def pxAll (px : List (PySem.W.Frag → Bool)) (K : PySem.W.Frag) : Bool := noList K && px.all fun f => f K
def adrB (_ : Addr → Option Obj) (n : List Addr) : List Addr := n
def hookB (n : List Addr) (fa : List He.Fa) (fn : List He.DefD) (px : List (PySem.W.Frag → Bool)) : PySem.W.Hook where
  α := He.AlD × Bool
  obs := fun s => (He.obsD fa fn (He.frG s.heap.get? (adrB s.heap.get? n)), pxAll px (He.frG s.heap.get? (adrB s.heap.get? n)))
  val := fun _ => (He.valD fn, true)
  says := fun _ h => ∃ K : PySem.W.Frag, K.In h ∧ He.SaysD fa fn K ∧ pxAll px K = true
  of := fun _ _ e => ⟨_, He.frG_in, congrArg (fun z : He.AlD × Bool => z.1) e, congrArg (fun z : He.AlD × Bool => z.2) e⟩
  keeps := fun _ _ _ ⟨K, hK, c⟩ k => ⟨K, PySem.W.Frag.In.keeps hK k, c⟩
def obB (n : List Addr) (fa : List He.Fa) (fn : List He.DefD) (px : List (PySem.W.Frag → Bool)) (g : Addr → Option Obj) : He.AlD × Bool := (He.obsD fa fn (He.frG g (adrB g n)), pxAll px (He.frG g (adrB g n)))
/-- a name among names -/
def cMem (ys : List Str) (c : Str) : Bool := ys.contains c
def oB (x : Option Bool) : Bool := decide (x = some true)
def ownB (K : PySem.W.Frag) (C : Addr) : Bool :=
  PySem.W.plainGet K C Str.empty && (PySem.W.hasDictIn K C && (PySem.W.plainOver K C && (He.eqO (PySem.W.findIn K (.ref C) "__setattr__") (some (some (.builtin "object.__setattr__"))) &&
  (He.eqO (PySem.W.findIn K (.ref C) "__class__") (some (some (.builtin "object.__class__"))) && (He.eqO (PySem.W.specialIn K (.builtin "object.__class__") "__get__") (some (some (.builtin "getset_descriptor.__get__"))) &&
  (oB (PySem.W.takesIn K (.builtin "object.__class__")) && oB (PySem.W.mroIn K C (.type "object"))))))))
def excB (K : PySem.W.Frag) (C : Addr) : Bool :=
  He.eqO (PySem.W.findIn K (.ref C) "__getattribute__") (some (some (.builtin "BaseException.__getattribute__"))) && (He.eqO (PySem.W.findIn K (.ref C) "__getattr__") (some none) &&
  (oB (PySem.W.subIn K (.ref C) (.type "BaseException")) && (PySem.W.hasDictIn K C &&
  (He.eqO (PySem.W.findIn K (.ref C) "__class__") (some (some (.builtin "object.__class__"))) && (He.eqO (PySem.W.specialIn K (.builtin "object.__class__") "__get__") (some (some (.builtin "getset_descriptor.__get__"))) &&
  (oB (PySem.W.takesIn K (.builtin "object.__class__")) && oB (PySem.W.mroIn K C (.type "object"))))))))
/-- a class by its name: the program's own, or a built-in one -/
inductive Tk where
  | own (x : Str)
  | blt (n : String)
def Tk.u (c : Str → Addr) : Tk → Value
  | .own x => .ref (c x)
  | .blt n => .type n
def bltN : List String := ["NoneType", "bool", "int", "str", "list", "tuple"]
def isB (T : List Tk) (os es ys : List Str) (K : PySem.W.Frag) : Bool :=
  os.all (fun C => ownB K (He.ga K C) && decide (PySem.W.kitAny K (.ref (He.ga K C)) (T.map (Tk.u (He.ga K))) = some (cMem ys C))) &&
  (es.all (fun C => excB K (He.ga K C) && decide (PySem.W.kitAny K (.ref (He.ga K C)) (T.map (Tk.u (He.ga K))) = some (cMem ys C))) &&
  bltN.all fun n => decide (PySem.W.kitAny K (.type n) (T.map (Tk.u (He.ga K))) = some false))
def fldB (os : List Str) (f : Str) (K : PySem.W.Frag) : Bool := os.all fun C => ownB K (He.ga K C) && He.eqO (PySem.W.findIn K (.ref (He.ga K C)) f) (some none)
def baseB (x m : Str) (K : PySem.W.Frag) : Bool :=
  PySem.W.readsIn K (He.ga K x) (.type "type") && (He.eqO (PySem.W.specialIn K (.ref (He.ga K x)) "__getattribute__") (some (some (.builtin "type.__getattribute__"))) &&
  match PySem.W.findCls K (.ref (He.ga K x)) (.type "type") m with
  | some (.val v) => decide (v = .ref (He.ma K (He.ga K x) m))
  | _ => false)
/-- the clause of the class x takes the errors ys -/
def exmB (ys : List Str) (x : Str) (K : PySem.W.Frag) : Bool := ys.all fun z => decide (PySem.W.exmOne K (.ref (He.ga K z)) (.ref (He.ga K x)) = some true)
/-- what a part asks of the run's end -/
abbrev RunP {β : Type} (r : OpenRow) (M : Nat) (w : World) (f : SharedT → β) (v : β) : Prop := ∀ os : OsState, (endF (stepQ (denQ tabQ) r.prog w) M r.prog w os).map f = some v
abbrev kB (n : List Addr) (s : SharedT) : PySem.W.Frag := He.frG (getT s) (adrB (getT s) n)
theorem run_fst {β γ : Type} {r : OpenRow} {M : Nat} {w : World} {f : SharedT → β} {g : SharedT → γ} {u : β} {v : γ} (h : RunP r M w (fun s => (f s, g s)) (u, v)) : RunP r M w f u := by
  intro os
  have a := h os
  cases e : endF (stepQ (denQ tabQ) r.prog w) M r.prog w os with
  | none => rw [e] at a; cases a
  | some s => rw [e] at a; exact congrArg some (Prod.mk.inj (Option.some.inj a)).1
theorem run_snd {β γ : Type} {r : OpenRow} {M : Nat} {w : World} {f : SharedT → β} {g : SharedT → γ} {u : β} {v : γ} (h : RunP r M w (fun s => (f s, g s)) (u, v)) : RunP r M w g v := by
  intro os
  have a := h os
  cases e : endF (stepQ (denQ tabQ) r.prog w) M r.prog w os with
  | none => rw [e] at a; cases a
  | some s => rw [e] at a; exact congrArg some (Prod.mk.inj (Option.some.inj a)).2
end B
namespace K11
open PySem L2 B
def osA : List Str := ["Knot", "Source", "Drain", "Parter", "FirstParter", "Sieve", "Joiner", "Work", "Belt"]
def esA : List Str := ["WorkError", "NoRatio", "BadBelt", "BadKnot", "BadWork", "BadRow", "TooLong", "BadPaces", "TooMany", "Moving"]
def z_WorkError : List Str := ["WorkError", "NoRatio", "BadBelt", "BadKnot", "BadWork", "BadRow", "TooLong", "BadPaces", "TooMany", "Moving"]
def tk_BadWork : List Tk := [.own "BadWork"]
def y_BadWork : List Str := ["BadWork"]
def tk_ValueError : List Tk := [.blt "ValueError"]
def y_ValueError : List Str := ["WorkError", "NoRatio", "BadBelt", "BadKnot", "BadWork", "BadRow", "TooLong", "BadPaces", "TooMany", "Moving"]
def tk_all_but_BadWork : List Tk := [.own "BadBelt", .own "BadKnot", .own "BadPaces", .own "BadRow", .own "Moving", .own "NoRatio", .own "TooLong", .own "TooMany"]
def y_all_but_BadWork : List Str := ["NoRatio", "BadBelt", "BadKnot", "BadRow", "TooLong", "BadPaces", "TooMany", "Moving"]
def tk_Work : List Tk := [.own "Work"]
def y_Work : List Str := ["Work"]
def tk_Belt : List Tk := [.own "Belt"]
def y_Belt : List Str := ["Belt"]
def tk_Source : List Tk := [.own "Source"]
def y_Source : List Str := ["Source"]
def tk_Drain : List Tk := [.own "Drain"]
def y_Drain : List Str := ["Drain"]
def tk_Parter : List Tk := [.own "Parter"]
def y_Parter : List Str := ["Parter"]
def tk_FirstParter : List Tk := [.own "FirstParter"]
def y_FirstParter : List Str := ["FirstParter"]
def tk_Sieve : List Tk := [.own "Sieve"]
def y_Sieve : List Str := ["Sieve"]
def tk_Joiner : List Tk := [.own "Joiner"]
def y_Joiner : List Str := ["Joiner"]
def topS (i : Nat) : Stmt := PySem.Challenge.pw_beltshares_k11_works.main.body.getD i (.Pass ⟨0, 0, 0, 0⟩)
def inS (s : Stmt) (j : Nat) : Stmt := match s with
  | .ClassDef _ _ _ b _ _ _ _ _ _ _ => b.getD j (.Pass ⟨0, 0, 0, 0⟩)
  | _ => .Pass ⟨0, 0, 0, 0⟩
abbrev st_law_fold : Stmt := topS 30
abbrev n_law_fold : List Str := ["_law_script", "_law_fold_here", "_law_cell_here"]
abbrev st_law_mix : Stmt := topS 28
abbrev n_law_mix : List Str := ["_law_cell_here", "_law_k", "_law_seed"]
abbrev st_law_cell : Stmt := topS 27
abbrev n_law_cell : List Str := ["_law_script", "_law_k"]
abbrev st_law_belt : Stmt := topS 34
abbrev n_law_belt : List Str := ["_law_cell_here", "_law_k", "_law_seed", "_law_room", "_law_pace"]
abbrev st_law_lanes : Stmt := topS 40
abbrev n_law_lanes : List Str := ["_law_script", "_law_many", "_law_belts", "_law_rows", "_law_k"]
abbrev st_law_comb : Stmt := topS 41
abbrev n_law_comb : List Str := ["_law_script", "_law_belts", "_law_rows", "_law_end", "_law_aim", "_law_cell_here", "_law_count", "_law_outs_here"]
abbrev st_law_kind : Stmt := topS 29
abbrev n_law_kind : List Str := ["_law_cell_here", "_law_k"]
abbrev st_law_row : Stmt := topS 36
abbrev n_law_row : List Str := ["_law_seed", "_law_word_here", "_law_ins", "_law_outs_here", "_law_base", "_law_pace", "_law_kinds", "_law_k"]
abbrev st_law_word : Stmt := topS 37
abbrev n_law_word : List Str := ["_law_seed", "_law_ins", "_law_word_here"]
abbrev st_law_outs : Stmt := topS 35
abbrev n_law_outs : List Str := ["_law_seed", "_law_count", "_law_ends", "_law_backs", "_law_belts", "_law_outs_here", "_law_k"]
abbrev st_law_web : Stmt := topS 38
abbrev n_law_web : List Str := ["_law_script", "_law_most", "_law_head", "_law_base", "_law_belts", "_law_rows", "_law_ends", "_law_backs", "_law_many", "_law_k", "_law_cell_here", "_law_end", "_law_back", "_law_seed", "_law_count", "_law_ins", "_law_word_here"]
abbrev st_law_parts : Stmt := topS 48
abbrev n_law_parts : List Str := ["_law_script", "_law_how", "_law_many"]
abbrev st_law_dealt : Stmt := topS 39
abbrev n_law_dealt : List Str := ["_law_rows", "_law_fold_here", "_law_dealt_here", "_law_k", "_law_row_here", "_law_place"]
abbrev st_law_spoilt : Stmt := topS 42
abbrev n_law_spoilt : List Str := ["_law_belts", "_law_rows", "_law_seed", "_law_far", "_law_how", "_law_at", "_law_other", "_law_ins", "_law_outs_here", "_law_some"]
abbrev st_Belt_init : Stmt := inS (topS 25) 0
abbrev n_Belt_init : List Str := ["self", "room", "pace"]
abbrev st_is_kind : Stmt := topS 13
abbrev n_is_kind : List Str := ["kind"]
abbrev st_Knot_init : Stmt := inS (topS 14) 0
abbrev n_Knot_init : List Str := ["self", "ins", "outs"]
abbrev st_Source_init : Stmt := inS (topS 15) 0
abbrev n_Source_init : List Str := ["self", "out", "pace", "kinds", "kind"]
abbrev st_Drain_init : Stmt := inS (topS 16) 0
abbrev n_Drain_init : List Str := ["self", "into", "pace"]
abbrev st_Parter_init : Stmt := inS (topS 17) 0
abbrev n_Parter_init : List Str := ["self", "into", "outs"]
abbrev st_FirstParter_init : Stmt := inS (topS 18) 0
abbrev n_FirstParter_init : List Str := ["self", "into", "outs"]
abbrev st_Sieve_init : Stmt := inS (topS 19) 0
abbrev n_Sieve_init : List Str := ["self", "into", "outs", "kind"]
abbrev st_Joiner_init : Stmt := inS (topS 20) 0
abbrev n_Joiner_init : List Str := ["self", "ins", "out"]
abbrev st_law_make : Stmt := topS 33
abbrev n_law_make : List Str := ["_law_row_here"]
abbrev st_stand_once : Stmt := topS 22
abbrev n_stand_once : List Str := ["rows", "many", "found", "row"]
abbrev st_Work_init : Stmt := inS (topS 23) 0
abbrev n_Work_init : List Str := ["self", "belts", "knots", "knot"]
abbrev st_law_once : Stmt := topS 43
abbrev n_law_once : List Str := ["_law_lists", "_law_many", "_law_seen", "_law_some", "_law_number"]
abbrev st_law_good : Stmt := topS 44
abbrev n_law_good : List Str := ["_law_belts", "_law_rows", "_law_row_here"]
abbrev st_law_whole : Stmt := topS 31
abbrev n_law_whole : List Str := ["_law_found"]
abbrev st_law_belt_is : Stmt := topS 45
abbrev n_law_belt_is : List Str := ["_law_made", "_law_due"]
abbrev st_law_numbers_are : Stmt := topS 32
abbrev n_law_numbers_are : List Str := ["_law_found", "_law_due", "_law_one", "_law_want"]
abbrev st_law_knot_is : Stmt := topS 46
abbrev n_law_knot_is : List Str := ["_law_made", "_law_row_here"]
abbrev st_law_work_is : Stmt := topS 47
abbrev n_law_work_is : List Str := ["_law_made", "_law_belts", "_law_rows", "_law_belt_here", "_law_due", "_law_knot", "_law_row_here"]
abbrev st_law : Stmt := topS 49
abbrev n_law : List Str := ["_law_script", "_law_fold_here", "_law_rows", "_law_handed", "_law_knots", "_law_made", "_law_refused", "error", "_law_belts", "_law_row_here", "_law_room", "_law_pace"]
def d_law_fold : He.DefD := ⟨("_law_fold", none), "_law_fold", "_law_fold", defArgs st_law_fold, defBody st_law_fold, defScope st_law_fold, [], []⟩
def d_law_mix : He.DefD := ⟨("_law_mix", none), "_law_mix", "_law_mix", defArgs st_law_mix, defBody st_law_mix, defScope st_law_mix, [], []⟩
def d_law_cell : He.DefD := ⟨("_law_cell", none), "_law_cell", "_law_cell", defArgs st_law_cell, defBody st_law_cell, defScope st_law_cell, [], []⟩
def d_law_belt : He.DefD := ⟨("_law_belt", none), "_law_belt", "_law_belt", defArgs st_law_belt, defBody st_law_belt, defScope st_law_belt, [], []⟩
def d_law_lanes : He.DefD := ⟨("_law_lanes", none), "_law_lanes", "_law_lanes", defArgs st_law_lanes, defBody st_law_lanes, defScope st_law_lanes, [], []⟩
def d_law_comb : He.DefD := ⟨("_law_comb", none), "_law_comb", "_law_comb", defArgs st_law_comb, defBody st_law_comb, defScope st_law_comb, [], []⟩
def d_law_kind : He.DefD := ⟨("_law_kind", none), "_law_kind", "_law_kind", defArgs st_law_kind, defBody st_law_kind, defScope st_law_kind, [], []⟩
def d_law_row : He.DefD := ⟨("_law_row", none), "_law_row", "_law_row", defArgs st_law_row, defBody st_law_row, defScope st_law_row, [], []⟩
def d_law_word : He.DefD := ⟨("_law_word", none), "_law_word", "_law_word", defArgs st_law_word, defBody st_law_word, defScope st_law_word, [], []⟩
def d_law_outs : He.DefD := ⟨("_law_outs", none), "_law_outs", "_law_outs", defArgs st_law_outs, defBody st_law_outs, defScope st_law_outs, [], []⟩
def d_law_web : He.DefD := ⟨("_law_web", none), "_law_web", "_law_web", defArgs st_law_web, defBody st_law_web, defScope st_law_web, [], []⟩
def d_law_parts : He.DefD := ⟨("_law_parts", none), "_law_parts", "_law_parts", defArgs st_law_parts, defBody st_law_parts, defScope st_law_parts, [], []⟩
def d_law_dealt : He.DefD := ⟨("_law_dealt", none), "_law_dealt", "_law_dealt", defArgs st_law_dealt, defBody st_law_dealt, defScope st_law_dealt, [], []⟩
def d_law_spoilt : He.DefD := ⟨("_law_spoilt", none), "_law_spoilt", "_law_spoilt", defArgs st_law_spoilt, defBody st_law_spoilt, defScope st_law_spoilt, [], []⟩
def d_Belt_init : He.DefD := ⟨("Belt", some "__init__"), "__init__", "Belt.__init__", defArgs st_Belt_init, defBody st_Belt_init, defScope st_Belt_init, [], []⟩
def d_is_kind : He.DefD := ⟨("is_kind", none), "is_kind", "is_kind", defArgs st_is_kind, defBody st_is_kind, defScope st_is_kind, [], []⟩
def d_Knot_init : He.DefD := ⟨("Knot", some "__init__"), "__init__", "Knot.__init__", defArgs st_Knot_init, defBody st_Knot_init, defScope st_Knot_init, [], []⟩
def d_Source_init : He.DefD := ⟨("Source", some "__init__"), "__init__", "Source.__init__", defArgs st_Source_init, defBody st_Source_init, defScope st_Source_init, [], []⟩
def d_Drain_init : He.DefD := ⟨("Drain", some "__init__"), "__init__", "Drain.__init__", defArgs st_Drain_init, defBody st_Drain_init, defScope st_Drain_init, [], []⟩
def d_Parter_init : He.DefD := ⟨("Parter", some "__init__"), "__init__", "Parter.__init__", defArgs st_Parter_init, defBody st_Parter_init, defScope st_Parter_init, [], []⟩
def d_FirstParter_init : He.DefD := ⟨("FirstParter", some "__init__"), "__init__", "FirstParter.__init__", defArgs st_FirstParter_init, defBody st_FirstParter_init, defScope st_FirstParter_init, [], []⟩
def d_Sieve_init : He.DefD := ⟨("Sieve", some "__init__"), "__init__", "Sieve.__init__", defArgs st_Sieve_init, defBody st_Sieve_init, defScope st_Sieve_init, [], []⟩
def d_Joiner_init : He.DefD := ⟨("Joiner", some "__init__"), "__init__", "Joiner.__init__", defArgs st_Joiner_init, defBody st_Joiner_init, defScope st_Joiner_init, [], []⟩
def d_law_make : He.DefD := ⟨("_law_make", none), "_law_make", "_law_make", defArgs st_law_make, defBody st_law_make, defScope st_law_make, [], []⟩
def d_stand_once : He.DefD := ⟨("stand_once", none), "stand_once", "stand_once", defArgs st_stand_once, defBody st_stand_once, defScope st_stand_once, [], []⟩
def d_Work_init : He.DefD := ⟨("Work", some "__init__"), "__init__", "Work.__init__", defArgs st_Work_init, defBody st_Work_init, defScope st_Work_init, [], []⟩
def d_law_once : He.DefD := ⟨("_law_once", none), "_law_once", "_law_once", defArgs st_law_once, defBody st_law_once, defScope st_law_once, [], []⟩
def d_law_good : He.DefD := ⟨("_law_good", none), "_law_good", "_law_good", defArgs st_law_good, defBody st_law_good, defScope st_law_good, [], []⟩
def d_law_whole : He.DefD := ⟨("_law_whole", none), "_law_whole", "_law_whole", defArgs st_law_whole, defBody st_law_whole, defScope st_law_whole, [], []⟩
def d_law_belt_is : He.DefD := ⟨("_law_belt_is", none), "_law_belt_is", "_law_belt_is", defArgs st_law_belt_is, defBody st_law_belt_is, defScope st_law_belt_is, [], []⟩
def d_law_numbers_are : He.DefD := ⟨("_law_numbers_are", none), "_law_numbers_are", "_law_numbers_are", defArgs st_law_numbers_are, defBody st_law_numbers_are, defScope st_law_numbers_are, [], []⟩
def d_law_knot_is : He.DefD := ⟨("_law_knot_is", none), "_law_knot_is", "_law_knot_is", defArgs st_law_knot_is, defBody st_law_knot_is, defScope st_law_knot_is, [], []⟩
def d_law_work_is : He.DefD := ⟨("_law_work_is", none), "_law_work_is", "_law_work_is", defArgs st_law_work_is, defBody st_law_work_is, defScope st_law_work_is, [], []⟩
def d_law : He.DefD := ⟨("law", none), "law", "law", defArgs st_law, defBody st_law, defScope st_law, [], []⟩
def fn : List He.DefD := [d_law_fold, d_law_mix, d_law_cell, d_law_belt, d_law_lanes, d_law_comb, d_law_kind, d_law_row, d_law_word, d_law_outs, d_law_web, d_law_parts, d_law_dealt, d_law_spoilt, d_Belt_init, d_is_kind, d_Knot_init, d_Source_init, d_Drain_init, d_Parter_init, d_FirstParter_init, d_Sieve_init, d_Joiner_init, d_law_make, d_stand_once, d_Work_init, d_law_once, d_law_good, d_law_whole, d_law_belt_is, d_law_numbers_are, d_law_knot_is, d_law_work_is, d_law]
def fa : List He.Fa := [.glo "_law_fold", .glo "_law_mix", .glo "_law_cell", .glo "_law_belt", .glo "_law_lanes", .glo "_law_comb", .glo "_law_kind", .glo "_law_row", .glo "_law_word", .glo "_law_outs", .glo "_law_web", .glo "_law_parts", .glo "_law_dealt", .glo "_law_spoilt", .glo "is_kind", .glo "_law_make", .glo "stand_once", .glo "_law_once", .glo "_law_good", .glo "_law_whole", .glo "_law_belt_is", .glo "_law_numbers_are", .glo "_law_knot_is", .glo "_law_work_is", .glo "law", .glo "BadBelt", .glo "BadKnot", .glo "BadPaces", .glo "BadRow", .glo "BadWork", .glo "Belt", .glo "Drain", .glo "FirstParter", .glo "Joiner", .glo "Knot", .glo "Moving", .glo "NoRatio", .glo "Parter", .glo "Sieve", .glo "Source", .glo "TooLong", .glo "TooMany", .glo "Work", .glo "WorkError", .free "ValueError", .free "bool", .free "enumerate", .free "int", .free "isinstance", .free "len", .free "list", .free "max", .free "range", .free "reversed", .free "sorted", .free "zip", .exc "BadBelt", .exc "BadKnot", .mkr "Source", .mkr "Drain", .mkr "Parter", .mkr "FirstParter", .mkr "Sieve", .mkr "Joiner", .exc "BadWork", .mkr "Belt", .mkr "Work"]
def px : List (PySem.W.Frag → Bool) := [fldB osA "room", fldB osA "pace", fldB osA "ins", fldB osA "outs", baseB "Knot" "__init__", fldB osA "kinds", fldB osA "kind", fldB osA "belts", fldB osA "knots", isB tk_Belt osA esA y_Belt, isB tk_Source osA esA y_Source, isB tk_Drain osA esA y_Drain, isB tk_Parter osA esA y_Parter, isB tk_FirstParter osA esA y_FirstParter, isB tk_Sieve osA esA y_Sieve, isB tk_Joiner osA esA y_Joiner, isB tk_Work osA esA y_Work, isB tk_BadWork osA esA y_BadWork, isB tk_ValueError osA esA y_ValueError, isB tk_all_but_BadWork osA esA y_all_but_BadWork, exmB z_WorkError "WorkError"]
abbrev Rw : PySem.W.OpenRow := PySem.W.OpenLaw.row PySem.Challenge.rw_beltshares_k11_works
def loose : List Str := [("_wall" : Str), ("WorkError" : Str), ("NoRatio" : Str), ("BadBelt" : Str), ("BadKnot" : Str), ("BadWork" : Str), ("BadRow" : Str), ("TooLong" : Str), ("BadPaces" : Str), ("TooMany" : Str), ("Moving" : Str), ("is_kind" : Str), ("Knot" : Str), ("Source" : Str), ("Drain" : Str), ("Parter" : Str), ("FirstParter" : Str), ("Sieve" : Str), ("Joiner" : Str), ("stand_once" : Str), ("Work" : Str), ("Belt" : Str), ("_law_cell" : Str), ("_law_mix" : Str), ("_law_kind" : Str), ("_law_fold" : Str), ("_law_whole" : Str), ("_law_numbers_are" : Str), ("_law_make" : Str), ("_law_belt" : Str), ("_law_outs" : Str), ("_law_row" : Str), ("_law_word" : Str), ("_law_web" : Str), ("_law_dealt" : Str), ("_law_lanes" : Str), ("_law_comb" : Str), ("_law_spoilt" : Str), ("_law_once" : Str), ("_law_good" : Str), ("_law_belt_is" : Str), ("_law_knot_is" : Str), ("_law_work_is" : Str), ("_law_parts" : Str)]
def ad : List Addr := [3, 6, 4, 21, 31, 44, 56, 68, 80, 99, 111, 123, 135, 147, 156, 180, 208, 234, 260, 286, 312, 338, 347, 395, 416, 427, 434, 441, 448, 455, 462, 469, 476, 483, 488, 495, 500, 507, 512, 519, 526, 533, 538, 545, 552, 559, 566, 571, 0, 20, 30, 43, 55, 67, 79, 98, 110, 122, 134, 146, 155, 179, 207, 233, 259, 285, 311, 337, 346, 394, 415, 426, 433, 440, 447, 454, 461, 468, 475, 482, 487, 494, 499, 506, 511, 518, 525, 532, 537, 544, 551, 558, 565, 570, 15, 16, 17, 18, 19, 29, 32, 42, 54, 66, 78, 96, 97, 109, 121, 133, 145, 150, 151, 152, 153, 154, 170, 177, 178, 181, 182, 198, 205, 206, 224, 231, 232, 250, 257, 258, 276, 283, 284, 302, 309, 310, 328, 335, 336, 341, 342, 343, 344, 345, 359, 366, 373, 378, 385, 392, 393, 396, 397, 413, 414, 417, 418, 421, 422, 423, 424, 425, 428, 429, 430, 431, 432, 435, 436, 437, 438, 439, 442, 443, 444, 445, 446, 449, 450, 451, 452, 453, 456, 457, 458, 459, 460, 463, 464, 465, 466, 467, 470, 471, 472, 473, 474, 477, 478, 479, 480, 481, 484, 485, 486, 489, 490, 491, 492, 493, 496, 497, 498, 501, 502, 503, 504, 505, 508, 509, 510, 513, 514, 515, 516, 517, 520, 521, 522, 523, 524, 527, 528, 529, 530, 531, 534, 535, 536, 539, 540, 541, 542, 543, 546, 547, 548, 549, 550, 553, 554, 555, 556, 557, 560, 561, 562, 563, 564, 567, 568, 569, 95, 169, 176, 197, 204, 223, 230, 249, 256, 275, 282, 301, 308, 327, 334, 358, 365, 372, 377, 384, 391, 412, 2]
theorem run1 (w : World) : HandSHeadRun.RunEq Rw (PySem.W.view Rw.prog [49]) (hookB ad [] [] []) (fun s => obB ad [] [] [] (HandSHeadRun.getT s)) 30000 loose w := by
  intro os
  kernel_rfl
theorem run234 (w : World) : RunP Rw 30000 w (fun s => (fa.all fun f => f.ok (kB ad s), px.all fun f => f (kB ad s), He.obsD [] fn (kB ad s))) (true, true, He.valD fn) := by
  intro os
  kernel_rfl
theorem run2 (w : World) : RunP Rw 30000 w (fun s => fa.all fun f => f.ok (kB ad s)) (true) := run_fst (run234 w)
theorem run3 (w : World) : RunP Rw 30000 w (fun s => px.all fun f => f (kB ad s)) (true) := run_fst (run_snd (run234 w))
theorem run4 (w : World) : RunP Rw 30000 w (fun s => He.obsD [] fn (kB ad s)) (He.valD fn) := run_snd (run_snd (run234 w))
end K11
namespace B
open PySem L2

/-! ### data -/
inductive D where
  | non
  | bl (b : Bool)
  | int (i : Int)
  | str (s : Str)
  | lst (xs : List D)
  | tup (xs : List D)
  | obj (C : Str) (fs : List (Str × D))
  | exo (C : Str)
  | dct (ps : List (D × D))
  | dci (ks : List Int)

mutual
/-- no list and no object in it -/
def flat : D → Bool
  | .lst _ => false
  | .obj _ _ => false
  | .dct _ => false
  | .dci _ => false
  | .tup ds => flatL ds
  | _ => true
def flatL : List D → Bool
  | [] => true
  | d :: ds => flat d && flatL ds
end
@[simp] theorem flat_non : flat .non = true := by simp only [flat]
@[simp] theorem flat_bl (b : Bool) : flat (.bl b) = true := by simp only [flat]
@[simp] theorem flat_int (b : Int) : flat (.int b) = true := by simp only [flat]
@[simp] theorem flat_str (b : Str) : flat (.str b) = true := by simp only [flat]
@[simp] theorem flat_exo (b : Str) : flat (.exo b) = true := by simp only [flat]
@[simp] theorem flat_lst (ds : List D) : flat (.lst ds) = false := by simp only [flat]
@[simp] theorem flat_obj (C : Str) (fs : List (Str × D)) : flat (.obj C fs) = false := by simp only [flat]
@[simp] theorem flat_dci (ks : List Int) : flat (.dci ks) = false := by simp only [flat]
@[simp] theorem flat_dct (ps : List (D × D)) : flat (.dct ps) = false := by simp only [flat]
@[simp] theorem flat_tup (ds : List D) : flat (.tup ds) = flatL ds := by simp only [flat]
@[simp] theorem flatL_nil : flatL [] = true := by simp only [flatL]
@[simp] theorem flatL_cons (d : D) (ds : List D) : flatL (d :: ds) = (flat d && flatL ds) := by simp only [flatL]
theorem flatL_iff : ∀ {ds : List D}, flatL ds = true ↔ ∀ d ∈ ds, flat d = true
  | [] => by simp
  | d :: ds => by simp [flatL_iff (ds := ds)]
theorem flatL_get {ds : List D} (h : flatL ds = true) {i : Nat} {d : D} (e : ds[i]? = some d) : flat d = true := flatL_iff.mp h d (List.mem_of_getElem? e)
/-- an exception at a, of the class cls -/
def EXO (cls : Value) (a : Addr) : HO := .ext fun h => ∃ (oe : Obj) (vs : Array Value), h.get? a = some oe ∧ Zc cls none oe ∧ oe.data = .fields vs
/-! dicts whose keys are tuples without texts in them -/
mutual
/-- the key that data is -/
def nkOf : D → NestedKey
  | .bl b => .num (if b = true then 1 else 0)
  | .int i => .num i
  | .str x => .text x
  | .tup ds => .tup (nkL ds)
  | _ => .none
def nkL : List D → List NestedKey
  | [] => []
  | d :: ds => nkOf d :: nkL ds
end
mutual
/-- numbers, bools, None and tuples of these -/
def keyI : D → Bool
  | .non => true
  | .bl _ => true
  | .int _ => true
  | .tup ds => keyL ds
  | _ => false
def keyL : List D → Bool
  | [] => true
  | d :: ds => keyI d && keyL ds
end
def isTup : D → Bool
  | .tup _ => true
  | _ => false
/-- data that is a key of such a dict -/
def keyB (d : D) : Bool := isTup d && keyI d && decide ((nkOf d).depth ≤ 8)
/-- a dict at p: its keys, where their tuples stand, its values -/
def DctR (x : NestedKey × Addr × V) (y : NestedKey × Addr × Value) : Prop := x.1 = y.1 ∧ x.2.1 = y.2.1 ∧ RelV x.2.2 y.2.2
def DctO (p : Addr) (nks : List (NestedKey × Addr × V)) : HO := .ext fun h => (p == sysModules) = false ∧ nks.length ≤ 1000000 ∧ (nks.map (·.1)).Nodup ∧ ∃ xs : List (NestedKey × Addr × Value), Paired DctR nks xs ∧
  ∃ (o : Obj) (es : Array DictEntry) (ep : Nat), h.get? p = some o ∧ o.ExactDict ∧ o.data = .dict es ep ∧ ∀ (P : Program) (w : World), es.toList = xs.map (entryOfKey (nestedKind P w))
/-- a dict of ints, each with True -/
def DciO (ks : List Int) : HO := .dK (ks.map fun k => (.inl k, .bl true))
/-- what stands in the frozen part G as a value -/
inductive Rep (K : PySem.W.Frag) (cl : Str → Addr) (G : Hp) : V → D → Prop
  | non : Rep K cl G .non .non
  | bl (b : Bool) : Rep K cl G (.bl b) (.bl b)
  | int (i : Int) : Rep K cl G (.int i) (.int i)
  | str (x : Str) : Rep K cl G (.str x) (.str x)
  | lst {a : Addr} {vs : List V} {ds : List D} (h : Rd G a (.lst vs)) (hl : vs.length = ds.length) (hr : ∀ (i : Nat) v d, vs[i]? = some v → ds[i]? = some d → Rep K cl G v d) : Rep K cl G (.ref a) (.lst ds)
  | tup {a : Addr} {vs : List V} {ds : List D} (h : Rd G a (.tup vs)) (hl : vs.length = ds.length) (hr : ∀ (i : Nat) v d, vs[i]? = some v → ds[i]? = some d → Rep K cl G v d) : Rep K cl G (.ref a) (.tup ds)
  | obj {a dx : Addr} {C : Str} {gs : List (Str × V)} {fs : List (Str × D)} (h : G a = some (.ins (cl C) dx gs)) (hl : gs.map (·.1) = fs.map (·.1))
      (hr : ∀ (i : Nat) v d, gs[i]? = some v → fs[i]? = some d → Rep K cl G v.2 d.2) : Rep K cl G (.ref a) (.obj C fs)
  | exo {a : Addr} {C : Str} (h : G a = some (EXO (.ref (cl C)) a)) : Rep K cl G (.ref a) (.exo C)
  | dct {p : Addr} {nks : List (NestedKey × Addr × V)} {ps : List (D × D)} (h : G p = some (DctO p nks)) (hl : nks.length = ps.length) (hk : ∀ (i : Nat) x y, nks[i]? = some x → ps[i]? = some y → x.1 = nkOf y.1 ∧ keyB y.1 = true)
      (h1 : ∀ (i : Nat) x y, nks[i]? = some x → ps[i]? = some y → Rep K cl G (.ref x.2.1) y.1) (h2 : ∀ (i : Nat) x y, nks[i]? = some x → ps[i]? = some y → Rep K cl G x.2.2 y.2) : Rep K cl G (.ref p) (.dct ps)
  | dci {p : Addr} {ks : List Int} (h : G p = some (DciO ks)) : Rep K cl G (.ref p) (.dci ks)

section
variable {K : PySem.W.Frag} {cl : Str → Addr} {G G' H H' : Hp} {v : V} {d : D}

theorem rdEx {a : Addr} {u : HO} (e : Same G G') (h : Rd G a u) : Rd G' a u := by
  rcases h with h | ⟨o, h⟩
  · exact .inl (e _ _ h)
  · exact .inr ⟨o, e _ _ h⟩
theorem sqlEx {a : Addr} {xs : List V} (e : Same G G') (h : SqL K G a xs) : SqL K G' a xs := by
  rcases h with h | h
  · exact .inl (rdEx e h)
  · exact .inr h
theorem sqtEx {a : Addr} {xs : List V} (e : Same G G') (h : SqT K G a xs) : SqT K G' a xs := by
  rcases h with h | h
  · exact .inl (rdEx e h)
  · exact .inr h
theorem Rep.mono (e : Same G G') (h : Rep K cl G v d) : Rep K cl G' v d := by
  induction h with
  | non => exact .non
  | bl b => exact .bl b
  | int i => exact .int i
  | str x => exact .str x
  | lst h hl _ ih => exact .lst (rdEx e h) hl fun i v d h1 h2 => ih i v d h1 h2
  | tup h hl _ ih => exact .tup (rdEx e h) hl fun i v d h1 h2 => ih i v d h1 h2
  | obj h hl _ ih => exact .obj (e _ _ h) hl fun i v d h1 h2 => ih i v d h1 h2
  | exo h => exact .exo (e _ _ h)
  | dct h hl hk _ _ ih1 ih2 => exact .dct (e _ _ h) hl hk (fun i x y a b => ih1 i x y a b) (fun i x y a b => ih2 i x y a b)
  | dci h => exact .dci (e _ _ h)

/-! ### what is owned: the upper k floors stand in H alone, within F -/
def Own (K : PySem.W.Frag) (cl : Str → Addr) (H G : Hp) : Nat → V → D → (Addr → Prop) → Prop
  | 0, v, d, _ => Rep K cl G v d
  | k + 1, v, .lst ds, F => ∃ (p : Addr) (vs : List V) (Fs : Nat → Addr → Prop), v = .ref p ∧ H p = some (.lst vs) ∧ F p ∧ vs.length = ds.length ∧
      (∀ i v d, vs[i]? = some v → ds[i]? = some d → Own K cl H G k v d (Fs i)) ∧ (∀ i a, Fs i a → F a ∧ a ≠ p) ∧ ∀ i j a, Fs i a → Fs j a → i = j
  | k + 1, v, .obj C fs, F => ∃ (p dx : Addr) (gs : List (Str × V)) (Fs : Nat → Addr → Prop), v = .ref p ∧ H p = some (.ins (cl C) dx gs) ∧ F p ∧ gs.map (·.1) = fs.map (·.1) ∧
      (∀ i v d, gs[i]? = some v → fs[i]? = some d → Own K cl H G k v.2 d.2 (Fs i)) ∧ (∀ i a, Fs i a → F a ∧ a ≠ p) ∧ ∀ i j a, Fs i a → Fs j a → i = j
  | k + 1, v, .tup ds, F => if flatL ds = true then Rep K cl G v (.tup ds) else ∃ (p : Addr) (vs : List V) (Fs : Nat → Addr → Prop), v = .ref p ∧ H p = some (.tup vs) ∧ F p ∧ vs.length = ds.length ∧
      (∀ i v d, vs[i]? = some v → ds[i]? = some d → Own K cl H G k v d (Fs i)) ∧ (∀ i a, Fs i a → F a ∧ a ≠ p) ∧ ∀ i j a, Fs i a → Fs j a → i = j
  | _ + 1, v, .dct ps, F => ∃ (p : Addr) (nks : List (NestedKey × Addr × V)), v = .ref p ∧ H p = some (DctO p nks) ∧ F p ∧ nks.length = ps.length ∧ (∀ (i : Nat) x y, nks[i]? = some x → ps[i]? = some y → x.1 = nkOf y.1 ∧ keyB y.1 = true) ∧
      (∀ (i : Nat) x y, nks[i]? = some x → ps[i]? = some y → Rep K cl G (.ref x.2.1) y.1) ∧ ∀ (i : Nat) x y, nks[i]? = some x → ps[i]? = some y → Rep K cl G x.2.2 y.2
  | _ + 1, v, .dci ks, F => ∃ p : Addr, v = .ref p ∧ H p = some (DciO ks) ∧ F p
  | _ + 1, v, d, _ => Rep K cl G v d

theorem Own.tupF {k : Nat} {ds : List D} {F : Addr → Prop} (h : Own K cl H G (k + 1) v (.tup ds) F) (hf : flatL ds = true) : Rep K cl G v (.tup ds) := by
  have h : (if flatL ds = true then Rep K cl G v (.tup ds) else _) := h
  rw [if_pos hf] at h
  exact h
theorem Own.tupN {k : Nat} {ds : List D} {F : Addr → Prop} (h : Own K cl H G (k + 1) v (.tup ds) F) (hf : ¬ flatL ds = true) : ∃ (p : Addr) (vs : List V) (Fs : Nat → Addr → Prop), v = .ref p ∧ H p = some (.tup vs) ∧ F p ∧ vs.length = ds.length ∧
      (∀ i v d, vs[i]? = some v → ds[i]? = some d → Own K cl H G k v d (Fs i)) ∧ (∀ i a, Fs i a → F a ∧ a ≠ p) ∧ ∀ i j a, Fs i a → Fs j a → i = j := by
  have h : (if flatL ds = true then Rep K cl G v (.tup ds) else _) := h
  rw [if_neg hf] at h
  exact h
theorem Own.mkT {k : Nat} {ds : List D} {F : Addr → Prop} (h1 : flatL ds = true → Rep K cl G v (.tup ds)) (h2 : ¬ flatL ds = true → ∃ (p : Addr) (vs : List V) (Fs : Nat → Addr → Prop), v = .ref p ∧ H p = some (.tup vs) ∧ F p ∧ vs.length = ds.length ∧
      (∀ i v d, vs[i]? = some v → ds[i]? = some d → Own K cl H G k v d (Fs i)) ∧ (∀ i a, Fs i a → F a ∧ a ≠ p) ∧ ∀ i j a, Fs i a → Fs j a → i = j) : Own K cl H G (k + 1) v (.tup ds) F := by
  show (if flatL ds = true then Rep K cl G v (.tup ds) else _)
  by_cases hf : flatL ds = true
  · rw [if_pos hf]; exact h1 hf
  · rw [if_neg hf]; exact h2 hf
theorem Own.weak {k : Nat} {F F' : Addr → Prop} (h : Own K cl H G k v d F) (w : ∀ a, F a → F' a) : Own K cl H G k v d F' := by
  cases k with
  | zero => exact h
  | succ k =>
    cases d with
    | lst ds =>
      obtain ⟨p, vs, Fs, e, hp, fp, hl, hr, hs, hd⟩ := h
      exact ⟨p, vs, Fs, e, hp, w _ fp, hl, hr, fun i a z => ⟨w _ (hs i a z).1, (hs i a z).2⟩, hd⟩
    | obj C fs =>
      obtain ⟨p, dx, vs, Fs, e, hp, fp, hl, hr, hs, hd⟩ := h
      exact ⟨p, dx, vs, Fs, e, hp, w _ fp, hl, hr, fun i a z => ⟨w _ (hs i a z).1, (hs i a z).2⟩, hd⟩
    | tup ds =>
      refine Own.mkT (fun hf => h.tupF hf) fun hf => ?_
      obtain ⟨p, vs, Fs, e, hp, fp, hl, hr, hs, hd⟩ := h.tupN hf
      exact ⟨p, vs, Fs, e, hp, w _ fp, hl, hr, fun i a z => ⟨w _ (hs i a z).1, (hs i a z).2⟩, hd⟩
    | dct ps =>
      obtain ⟨p, nks, e, hp, fp, hr⟩ := h
      exact ⟨p, nks, e, hp, w _ fp, hr⟩
    | dci ks =>
      obtain ⟨p, e, hp, fp⟩ := h
      exact ⟨p, e, hp, w _ fp⟩
    | _ => exact h
/-- H keeps what F holds, G grows -/
theorem Own.step (gg : Same G G') : ∀ {k : Nat} {v : V} {d : D} {F : Addr → Prop}, Own K cl H G k v d F → (∀ a o, F a → H a = some o → H' a = some o) → Own K cl H' G' k v d F
  | 0, v, d, F, h, _ => Rep.mono gg h
  | k + 1, v, .lst ds, F, h, hk => by
    obtain ⟨p, vs, Fs, e, hp, fp, hl, hr, hs, hd⟩ := h
    exact ⟨p, vs, Fs, e, hk _ _ fp hp, fp, hl, fun i v d h1 h2 => Own.step gg (hr i v d h1 h2) fun a o f q => hk a o (hs i a f).1 q, hs, hd⟩
  | k + 1, v, .obj C fs, F, h, hk => by
    obtain ⟨p, dx, vs, Fs, e, hp, fp, hl, hr, hs, hd⟩ := h
    exact ⟨p, dx, vs, Fs, e, hk _ _ fp hp, fp, hl, fun i v d h1 h2 => Own.step gg (hr i v d h1 h2) fun a o f q => hk a o (hs i a f).1 q, hs, hd⟩
  | k + 1, v, .non, F, h, _ => Rep.mono gg h
  | k + 1, v, .bl _, F, h, _ => Rep.mono gg h
  | k + 1, v, .int _, F, h, _ => Rep.mono gg h
  | k + 1, v, .str _, F, h, _ => Rep.mono gg h
  | k + 1, v, .tup ds, F, h, hk => by
    refine Own.mkT (fun hf => Rep.mono gg (h.tupF hf)) fun hf => ?_
    obtain ⟨p, vs, Fs, e, hp, fp, hl, hr, hs, hd⟩ := h.tupN hf
    exact ⟨p, vs, Fs, e, hk _ _ fp hp, fp, hl, fun i v d h1 h2 => Own.step gg (hr i v d h1 h2) fun a o f q => hk a o (hs i a f).1 q, hs, hd⟩
  | k + 1, v, .exo _, F, h, _ => Rep.mono gg h
  | k + 1, v, .dct ps, F, h, hk => by
    obtain ⟨p, nks, e, hp, fp, hl, h0, h1, h2⟩ := h
    exact ⟨p, nks, e, hk _ _ fp hp, fp, hl, h0, fun i x y a b => Rep.mono gg (h1 i x y a b), fun i x y a b => Rep.mono gg (h2 i x y a b)⟩
  | k + 1, v, .dci ks, F, h, hk => by
    obtain ⟨p, e, hp, fp⟩ := h
    exact ⟨p, e, hk _ _ fp hp, fp⟩
/-- freezing: what F holds joins G -/
theorem Own.rep (gg : Same G G') : ∀ {k : Nat} {v : V} {d : D} {F : Addr → Prop}, Own K cl H G k v d F → (∀ a o, F a → H a = some o → G' a = some o) → Rep K cl G' v d
  | 0, v, d, F, h, _ => Rep.mono gg h
  | k + 1, v, .lst ds, F, h, hk => by
    obtain ⟨p, vs, Fs, e, hp, fp, hl, hr, hs, hd⟩ := h
    subst e
    exact .lst (.inl (hk _ _ fp hp)) hl fun i v d h1 h2 => Own.rep gg (hr i v d h1 h2) fun a o f q => hk a o (hs i a f).1 q
  | k + 1, v, .obj C fs, F, h, hk => by
    obtain ⟨p, dx, vs, Fs, e, hp, fp, hl, hr, hs, hd⟩ := h
    subst e
    exact .obj (hk _ _ fp hp) hl fun i v d h1 h2 => Own.rep gg (hr i v d h1 h2) fun a o f q => hk a o (hs i a f).1 q
  | k + 1, v, .non, F, h, _ => Rep.mono gg h
  | k + 1, v, .bl _, F, h, _ => Rep.mono gg h
  | k + 1, v, .int _, F, h, _ => Rep.mono gg h
  | k + 1, v, .str _, F, h, _ => Rep.mono gg h
  | k + 1, v, .tup ds, F, h, hk => by
    by_cases hf : flatL ds = true
    · exact Rep.mono gg (h.tupF hf)
    · obtain ⟨p, vs, Fs, e, hp, fp, hl, hr, hs, hd⟩ := h.tupN hf
      subst e
      exact .tup (.inl (hk _ _ fp hp)) hl fun i v d h1 h2 => Own.rep gg (hr i v d h1 h2) fun a o f q => hk a o (hs i a f).1 q
  | k + 1, v, .exo _, F, h, _ => Rep.mono gg h
  | k + 1, v, .dct ps, F, h, hk => by
    obtain ⟨p, nks, e, hp, fp, hl, h0, h1, h2⟩ := h
    subst e
    exact .dct (hk _ _ fp hp) hl h0 (fun i x y a b => Rep.mono gg (h1 i x y a b)) (fun i x y a b => Rep.mono gg (h2 i x y a b))
  | k + 1, v, .dci ks, F, h, hk => by
    obtain ⟨p, e, hp, fp⟩ := h
    subst e
    exact .dci (hk _ _ fp hp)
end

/-! ### steps -/
/-- a pure step: all that stood stands; the frozen part grows by new things -/
structure Px (G H G' H' : Hp) : Prop where
  hh : Same H H'
  gg : Same G G'
  gh : Same G' H'
  gn : ∀ a o, G' a = some o → G a = some o ∨ H a = none
theorem Px.refl {G H : Hp} (h : Same G H) : Px G H G H := ⟨Same.refl _, Same.refl _, h, fun _ _ e => .inl e⟩
theorem Px.trans {G H G1 H1 G2 H2 : Hp} (a : Px G H G1 H1) (b : Px G1 H1 G2 H2) : Px G H G2 H2 :=
  ⟨a.hh.trans b.hh, a.gg.trans b.gg, b.gh, fun x o e => by
    rcases b.gn x o e with h | h
    · exact a.gn x o h
    · exact .inr (a.hh.free h)⟩
/-- a step that may change or freeze what U holds -/
structure Sx (U : Addr → Prop) (G H : Hp) (U' : Addr → Prop) (G' H' : Hp) : Prop where
  gg : Same G G'
  gh : Same G' H'
  fr : ∀ a o, H a = some o → ¬ U a → H' a = some o
  th : ∀ a o, H a = some o → ∃ o', H' a = some o'
  un : ∀ a, U' a → U a ∨ H a = none
  gn : ∀ a o, G' a = some o → G a = some o ∨ U a ∨ H a = none
theorem Sx.refl {U : Addr → Prop} {G H : Hp} (h : Same G H) : Sx U G H U G H := ⟨Same.refl _, h, fun _ _ e _ => e, fun _ o e => ⟨o, e⟩, fun _ u => .inl u, fun _ _ e => .inl e⟩
theorem Sx.trans {U U1 U2 : Addr → Prop} {G H G1 H1 G2 H2 : Hp} (a : Sx U G H U1 G1 H1) (b : Sx U1 G1 H1 U2 G2 H2) : Sx U G H U2 G2 H2 := by
  refine ⟨a.gg.trans b.gg, b.gh, fun x o e n => ?_, fun x o e => ?_, fun x u => ?_, fun x o e => ?_⟩
  · refine b.fr x o (a.fr x o e n) fun u1 => ?_
    rcases a.un x u1 with h | h
    · exact n h
    · rw [e] at h; cases h
  · obtain ⟨o1, e1⟩ := a.th x o e
    exact b.th x o1 e1
  · rcases b.un x u with h | h
    · exact a.un x h
    · refine .inr ?_
      cases q : H x with
      | none => rfl
      | some o =>
        obtain ⟨o1, e1⟩ := a.th x o q
        rw [e1] at h; cases h
  · rcases b.gn x o e with h | h | h
    · exact a.gn x o h
    · rcases a.un x h with h | h
      · exact .inr (.inl h)
      · exact .inr (.inr h)
    · refine .inr (.inr ?_)
      cases q : H x with
      | none => rfl
      | some o =>
        obtain ⟨o1, e1⟩ := a.th x o q
        rw [e1] at h; cases h
theorem Px.sx {U : Addr → Prop} {G H G' H' : Hp} (a : Px G H G' H') : Sx U G H U G' H' :=
  ⟨a.gg, a.gh, fun x o e _ => a.hh x o e, fun x o e => ⟨o, a.hh x o e⟩, fun _ u => .inl u, fun x o e => (a.gn x o e).elim .inl fun h => .inr (.inr h)⟩
theorem Sx.px {U' : Addr → Prop} {G H G' H' : Hp} {U : Addr → Prop} (a : Sx U G H U' G' H') (n : ∀ x, ¬ U x) : Px G H G' H' :=
  ⟨fun x o e => a.fr x o e (n x), a.gg, a.gh, fun x o e => (a.gn x o e).elim .inl fun h => h.elim (fun u => (n x u).elim) .inr⟩

/-! ### the names' values -/
abbrev Slot := Option (Nat × D)
abbrev Env := List Slot
abbrev Foot := Nat → Addr → Prop
/-- where the classes stand; what the names hold that stay as they are -/
structure Clx where
  c : Str → Addr
  fix : Nat → Option V
instance : CoeFun Clx (fun _ => Str → Addr) := ⟨Clx.c⟩
instance : Coe Clx (Str → Addr) := ⟨Clx.c⟩
abbrev cl0 (c : Str → Addr) : Clx := ⟨c, fun _ => none⟩
/-- the slots hold ρ: slot i owns within Fs i -/
structure EnvR (K : PySem.W.Frag) (cl : Clx) (ρ : Env) (σ : L2.St) (G H : Hp) (Fs : Foot) : Prop where
  len : ρ.length = σ.length
  gh : Same G H
  own : ∀ (i k : Nat) (d : D), ρ[i]? = some (some (k, d)) → ∃ v, σ[i]? = some (some v) ∧ Own K cl H G k v d (Fs i)
  dis : ∀ i j a, Fs i a → Fs j a → i = j
  dom : ∀ i a, Fs i a → (∃ o, H a = some o) ∧ G a = none
  fx : ∀ i v, cl.fix i = some v → σ[i]? = some (some v)
def Un (Fs : Foot) : Addr → Prop := fun a => ∃ i, Fs i a
/-- a new thing of one's own -/
def New (H H' G' : Hp) (F : Addr → Prop) : Prop := ∀ a, F a → H a = none ∧ (∃ o, H' a = some o) ∧ G' a = none
section
variable {K : PySem.W.Frag} {cl : Clx} {ρ : Env} {σ : L2.St} {G H G' H' : Hp} {Fs : Foot}
theorem EnvR.px (e : EnvR K cl ρ σ G H Fs) (x : Px G H G' H') : EnvR K cl ρ σ G' H' Fs := by
  refine ⟨e.len, x.gh, fun i k d h => ?_, e.dis, fun i a f => ?_, e.fx⟩
  · obtain ⟨v, hv, o⟩ := e.own i k d h
    exact ⟨v, hv, o.step x.gg fun a o f q => x.hh a o q⟩
  · obtain ⟨⟨o, ho⟩, g⟩ := e.dom i a f
    refine ⟨⟨o, x.hh a o ho⟩, ?_⟩
    cases q : G' a with
    | none => rfl
    | some u =>
      rcases x.gn a u q with h | h
      · rw [g] at h; cases h
      · rw [ho] at h; cases h
/-- slot i takes what F owns (new, or free of the others) -/
theorem EnvR.set (e : EnvR K cl ρ σ G H Fs) {i k : Nat} {v : V} {d : D} {F : Addr → Prop} (o : Own K cl H G k v d F) (hF : ∀ a, F a → (∃ o, H a = some o) ∧ G a = none ∧ ∀ j, j ≠ i → ¬ Fs j a) (hx : ∀ u, cl.fix i = some u → u = v) :
    EnvR K cl (ρ.set i (some (k, d))) (σ.set i (some v)) G H (fun j => if j = i then F else Fs j) := by
  refine ⟨by simp [e.len], e.gh, fun j k' d' h => ?_, fun j l a h1 h2 => ?_, fun j a h => ?_, fun j u h => ?_⟩
  · by_cases hj : j = i
    · subst hj
      have hlt : j < ρ.length := by
        have := (List.getElem?_eq_some_iff.mp h).1
        simpa using this
      rw [List.getElem?_set_self hlt] at h
      cases h
      exact ⟨v, List.getElem?_set_self (by rw [← e.len]; exact hlt), by rw [if_pos rfl]; exact o⟩
    · rw [List.getElem?_set_ne (Ne.symm hj)] at h
      obtain ⟨v', hv, o'⟩ := e.own j k' d' h
      exact ⟨v', by rw [List.getElem?_set_ne (Ne.symm hj)]; exact hv, by rw [if_neg hj]; exact o'⟩
  · by_cases hj : j = i
    · by_cases hl : l = i
      · rw [hj, hl]
      · rw [if_pos hj] at h1
        rw [if_neg hl] at h2
        exact ((hF a h1).2.2 l hl h2).elim
    · by_cases hl : l = i
      · rw [if_neg hj] at h1
        rw [if_pos hl] at h2
        exact ((hF a h2).2.2 j hj h1).elim
      · rw [if_neg hj] at h1
        rw [if_neg hl] at h2
        exact e.dis j l a h1 h2
  · by_cases hj : j = i
    · rw [if_pos hj] at h
      exact ⟨(hF a h).1, (hF a h).2.1⟩
    · rw [if_neg hj] at h
      exact e.dom j a h
  · have h0 := e.fx j u h
    by_cases hj : j = i
    · subst hj
      have hlt : j < σ.length := (List.getElem?_eq_some_iff.mp h0).1
      rw [List.getElem?_set_self hlt, hx u h]
    · rw [List.getElem?_set_ne (Ne.symm hj)]
      exact h0
/-- forgetting a slot -/
theorem EnvR.drop (e : EnvR K cl ρ σ G H Fs) (i : Nat) : EnvR K cl (ρ.set i none) σ G H Fs := by
  refine ⟨by simp [e.len], e.gh, fun j k d h => ?_, e.dis, e.dom, e.fx⟩
  by_cases hj : j = i
  · subst hj
    have hlt : j < ρ.length := by
      have := (List.getElem?_eq_some_iff.mp h).1
      simpa using this
    rw [List.getElem?_set_self hlt] at h
    cases h
  · rw [List.getElem?_set_ne (Ne.symm hj)] at h
    exact e.own j k d h
end
end B
namespace B
open PySem L2

/-! ### outcomes -/
inductive R (α : Type) where
  | ok (a : α)
  | ex (c : Str)
  | bad
def R.bind {α β : Type} (r : R α) (f : α → R β) : R β := match r with
  | .ok a => f a
  | .ex c => .ex c
  | .bad => .bad
@[simp] theorem R.bind_ok {α β : Type} (a : α) (f : α → R β) : (R.ok a).bind f = f a := rfl
@[simp] theorem R.bind_ex {α β : Type} (c : Str) (f : α → R β) : (R.ex c : R α).bind f = .ex c := rfl
@[simp] theorem R.bind_bad {α β : Type} (f : α → R β) : (R.bad : R α).bind f = .bad := rfl
/-- a value as an expression gives it: borrowed from a name or not, its owned floors, the data -/
structure Vl where
  b : Bool
  k : Nat
  d : D
abbrev sh (d : D) : Vl := ⟨false, 0, d⟩
def ofO : Option D → R Vl
  | some d => .ok (sh d)
  | none => .bad
@[simp] theorem ofO_some (d : D) : ofO (some d) = .ok (sh d) := rfl
@[simp] theorem ofO_none : ofO none = .bad := rfl
abbrev EF := Env → R Vl
abbrev TF := Env → R Bool
abbrev AF := Env → R (List D)

def RepL (K : PySem.W.Frag) (cl : Str → Addr) (G : Hp) (vs : List V) (ds : List D) : Prop := vs.length = ds.length ∧ ∀ (i : Nat) v d, vs[i]? = some v → ds[i]? = some d → Rep K cl G v d

section
variable (K : PySem.W.Frag) (cl : Str → Addr) (W : WX)
def Foo (H G' H' : Hp) (b : Bool) (F : Addr → Prop) : Prop := ∀ a, F a → (∃ o, H' a = some o) ∧ G' a = none ∧ (b = false → H a = none)
def PostG {α : Type} (σ : L2.St) (G H : Hp) (P : α → Hp → Hp → Prop) : R α → Prop
  | .ok a => P a G H
  | .ex c => ∀ G' H', Px G H G' H' → W (.ref (cl c)) none σ H'
  | .bad => False
def PV (Q : VK) (x : Vl) (G H : Hp) : Prop := ∀ v G' H' F, Px G H G' H' → Own K cl H' G' x.k v x.d F → Foo H G' H' x.b F → Q v H'
def PB (Q : Bool → Hp → Prop) (b : Bool) (G H : Hp) : Prop := ∀ G' H', Px G H G' H' → Q b H'
def PL (Q : List V → Hp → Prop) (ds : List D) (G H : Hp) : Prop := ∀ vs G' H', Px G H G' H' → RepL K cl G' vs ds → Q vs H'
end
section
variable (K : PySem.W.Frag) (cl : Clx) (W : WX)
def SemE (t : TE) (F : EF) : Prop := ∀ ρ σ G H Fs, EnvR K cl ρ σ G H Fs → ∀ Q, PostG cl W σ G H (PV K cl Q) (F ρ) → t σ H Q
def SemT (t : TT) (F : TF) : Prop := ∀ ρ σ G H Fs, EnvR K cl ρ σ G H Fs → ∀ Q, PostG cl W σ G H (PB Q) (F ρ) → t σ H Q
def SemA (t : TA) (F : AF) : Prop := ∀ ρ σ G H Fs, EnvR K cl ρ σ G H Fs → ∀ Q, PostG cl W σ G H (PL K cl Q) (F ρ) → t σ H Q
end
def EvE (X : Cx) (cl : Clx) (W : WX) (e : Expr) (F : EF) : Prop := ∃ t, PE X e t ∧ SemE X.K cl W t F
def EvT (X : Cx) (cl : Clx) (W : WX) (e : Expr) (F : TF) : Prop := ∃ t, PT X e t ∧ SemT X.K cl W t F
def EvW (X : Cx) (cl : Clx) (W : WX) (e : Expr) (F : TF) : Prop := ∃ t, PW X e t ∧ SemT X.K cl W t F
def EvA (X : Cx) (cl : Clx) (W : WX) (es : List Expr) (F : AF) : Prop := ∃ t, PA X es t ∧ SemA X.K cl W t F ∧ ∀ ρ ds, F ρ = .ok ds → ds.length = es.length

section
variable {K : PySem.W.Frag} {cl : Clx} {W : WX} {ρ : Env} {σ : L2.St} {G H G' H' : Hp} {Fs : Foot}
def Mono {α : Type} (P : α → Hp → Hp → Prop) : Prop := ∀ a G H G' H', Px G H G' H' → P a G H → P a G' H'
theorem PV.mono {cl : Str → Addr} {Q : VK} : Mono (PV K cl Q) := fun x G H G' H' p h v G2 H2 F p2 o f => h v G2 H2 F (p.trans p2) o fun a fa => ⟨(f a fa).1, (f a fa).2.1, fun hb => p.hh.free ((f a fa).2.2 hb)⟩
theorem PB.mono {Q : Bool → Hp → Prop} : Mono (PB Q) := fun x G H G' H' p h G2 H2 p2 => h G2 H2 (p.trans p2)
theorem PL.mono {cl : Str → Addr} {Q : List V → Hp → Prop} : Mono (PL K cl Q) := fun x G H G' H' p h v G2 H2 p2 o => h v G2 H2 (p.trans p2) o
theorem PostG.mono {α : Type} {P : α → Hp → Hp → Prop} (hm : Mono P) {r : R α} (p : Px G H G' H') (h : PostG cl W σ G H P r) : PostG cl W σ G' H' P r := by
  cases r with
  | ok a => exact hm a G H G' H' p h
  | ex c => exact fun G2 H2 p2 => h G2 H2 (p.trans p2)
  | bad => exact h
/-- an expression, then what its value is used for -/
theorem SemE.use {t : TE} {F : EF} (h : SemE K cl W t F) (env : EnvR K cl ρ σ G H Fs) {α : Type} {g : Vl → R α} {P : α → Hp → Hp → Prop} (hm : Mono P) (hq : PostG cl W σ G H P ((F ρ).bind g)) {C : VK}
    (step : ∀ x v G' H' F', F ρ = .ok x → Px G H G' H' → EnvR K cl ρ σ G' H' Fs → Own K cl H' G' x.k v x.d F' → Foo H G' H' x.b F' → PostG cl W σ G' H' P (g x) → C v H') : t σ H C := by
  refine h ρ σ G H Fs env C ?_
  cases e : F ρ with
  | ok x =>
    rw [e] at hq
    exact fun v G' H' F' p o f => step x v G' H' F' e p (env.px p) o f (PostG.mono hm p hq)
  | ex c =>
    rw [e] at hq
    exact hq
  | bad =>
    rw [e] at hq
    exact hq
theorem SemT.use {t : TT} {F : TF} (h : SemT K cl W t F) (env : EnvR K cl ρ σ G H Fs) {α : Type} {g : Bool → R α} {P : α → Hp → Hp → Prop} (hm : Mono P) (hq : PostG cl W σ G H P ((F ρ).bind g)) {C : Bool → Hp → Prop}
    (step : ∀ x G' H', F ρ = .ok x → Px G H G' H' → EnvR K cl ρ σ G' H' Fs → PostG cl W σ G' H' P (g x) → C x H') : t σ H C := by
  refine h ρ σ G H Fs env C ?_
  cases e : F ρ with
  | ok x =>
    rw [e] at hq
    exact fun G' H' p => step x G' H' e p (env.px p) (PostG.mono hm p hq)
  | ex c =>
    rw [e] at hq
    exact hq
  | bad =>
    rw [e] at hq
    exact hq
theorem SemA.use {t : TA} {F : AF} (h : SemA K cl W t F) (env : EnvR K cl ρ σ G H Fs) {α : Type} {g : List D → R α} {P : α → Hp → Hp → Prop} (hm : Mono P) (hq : PostG cl W σ G H P ((F ρ).bind g)) {C : List V → Hp → Prop}
    (step : ∀ x vs G' H', F ρ = .ok x → Px G H G' H' → EnvR K cl ρ σ G' H' Fs → RepL K cl G' vs x → PostG cl W σ G' H' P (g x) → C vs H') : t σ H C := by
  refine h ρ σ G H Fs env C ?_
  cases e : F ρ with
  | ok x =>
    rw [e] at hq
    exact fun vs G' H' p r => step x vs G' H' e p (env.px p) r (PostG.mono hm p hq)
  | ex c =>
    rw [e] at hq
    exact hq
  | bad =>
    rw [e] at hq
    exact hq
/-- a pure step leaves what is owned -/
theorem Own.px {cl : Str → Addr} {k : Nat} {v : V} {d : D} {F : Addr → Prop} (o : Own K cl H G k v d F) (p : Px G H G' H') : Own K cl H' G' k v d F := o.step p.gg fun a _ _ q => p.hh a _ q
theorem Own.scal {cl : Str → Addr} {k : Nat} {v : V} {d : D} {F : Addr → Prop} (h : Own K cl H G k v d F) (hd : flat d = true) : Rep K cl G v d := by
  cases k with
  | zero => exact h
  | succ k =>
    cases d with
    | lst _ => simp at hd
    | obj _ _ => simp at hd
    | dct _ => simp at hd
    | dci _ => simp at hd
    | tup ds => exact h.tupF (by simpa using hd)
    | _ => exact h
theorem Own.int {cl : Str → Addr} {k : Nat} {v : V} {i : Int} {F : Addr → Prop} (h : Own K cl H G k v (.int i) F) : v = .int i := by
  cases Own.scal h (by simp)
  rfl
theorem Own.bl {cl : Str → Addr} {k : Nat} {v : V} {i : Bool} {F : Addr → Prop} (h : Own K cl H G k v (.bl i) F) : v = .bl i := by
  cases Own.scal h (by simp)
  rfl
theorem Own.str {cl : Str → Addr} {k : Nat} {v : V} {i : Str} {F : Addr → Prop} (h : Own K cl H G k v (.str i) F) : v = .str i := by
  cases Own.scal h (by simp)
  rfl
theorem Own.non {cl : Str → Addr} {k : Nat} {v : V} {F : Addr → Prop} (h : Own K cl H G k v .non F) : v = .non := by
  cases Own.scal h (by simp)
  rfl
/-- a list that is read -/
theorem Own.lstR {cl : Str → Addr} {k : Nat} {v : V} {ds : List D} {F : Addr → Prop} (h : Own K cl H G k v (.lst ds) F) (gh : Same G H) : ∃ p vs, v = .ref p ∧ Rd H p (.lst vs) ∧ vs.length = ds.length ∧
    ∀ (i : Nat) v d, vs[i]? = some v → ds[i]? = some d → ∃ F', Own K cl H G (k - 1) v d F' ∧ ∀ a, F' a → F a := by
  cases k with
  | zero =>
    cases h with
    | lst h hl hr => exact ⟨_, _, rfl, rdEx gh h, hl, fun i v d h1 h2 => ⟨fun _ => False, hr i v d h1 h2, fun _ z => z.elim⟩⟩
  | succ k =>
    obtain ⟨p, vs, Fs, e, hp, fp, hl, hr, hs, hd⟩ := h
    exact ⟨p, vs, e, .inl hp, hl, fun i v d h1 h2 => ⟨_, hr i v d h1 h2, fun a z => (hs i a z).1⟩⟩
/-- a dict that is read -/
theorem Own.dctR {cl : Str → Addr} {k : Nat} {v : V} {ps : List (D × D)} {F : Addr → Prop} (h : Own K cl H G k v (.dct ps) F) (gh : Same G H) : ∃ (p : Addr) (nks : List (NestedKey × Addr × V)), v = .ref p ∧ H p = some (DctO p nks) ∧ nks.length = ps.length ∧ (∀ (i : Nat) x y, nks[i]? = some x → ps[i]? = some y → x.1 = nkOf y.1 ∧ keyB y.1 = true) ∧
      (∀ (i : Nat) x y, nks[i]? = some x → ps[i]? = some y → Rep K cl G (.ref x.2.1) y.1) ∧ ∀ (i : Nat) x y, nks[i]? = some x → ps[i]? = some y → Rep K cl G x.2.2 y.2 := by
  cases k with
  | zero =>
    cases h with
    | dct h hl h0 h1 h2 => exact ⟨_, _, rfl, gh _ _ h, hl, h0, h1, h2⟩
  | succ k =>
    obtain ⟨p, nks, e, hp, _, hl, h0, h1, h2⟩ := h
    exact ⟨p, nks, e, hp, hl, h0, h1, h2⟩
theorem Own.dciR {cl : Str → Addr} {k : Nat} {v : V} {ks : List Int} {F : Addr → Prop} (h : Own K cl H G k v (.dci ks) F) (gh : Same G H) : ∃ p : Addr, v = .ref p ∧ H p = some (DciO ks) := by
  cases k with
  | zero =>
    cases h with
    | dci h => exact ⟨_, rfl, gh _ _ h⟩
  | succ k =>
    obtain ⟨p, e, hp, _⟩ := h
    exact ⟨p, e, hp⟩
/-- a tuple's floors: none where it holds no list and no object -/
def tkF (k : Nat) (ds : List D) : Nat := if flatL ds = true then 0 else k - 1
theorem Own.tupR {cl : Str → Addr} {k : Nat} {v : V} {ds : List D} {F : Addr → Prop} (h : Own K cl H G k v (.tup ds) F) (gh : Same G H) : ∃ p vs, v = .ref p ∧ Rd H p (.tup vs) ∧ vs.length = ds.length ∧
    ∀ (i : Nat) v d, vs[i]? = some v → ds[i]? = some d → ∃ F', Own K cl H G (tkF k ds) v d F' ∧ ∀ a, F' a → F a := by
  have z : ∀ {w : V} {d : D}, Rep K cl G w d → k = 0 ∨ flatL ds = true → ∃ F', Own K cl H G (tkF k ds) w d F' ∧ ∀ a, F' a → F a := fun {w d} r hk => by
    have e : tkF k ds = 0 := by
      unfold tkF
      rcases hk with h | h
      · subst h; split <;> rfl
      · rw [if_pos h]
    rw [e]
    exact ⟨fun _ => False, r, fun _ z => z.elim⟩
  cases k with
  | zero =>
    cases h with
    | tup h hl hr => exact ⟨_, _, rfl, rdEx gh h, hl, fun i v d h1 h2 => z (hr i v d h1 h2) (.inl rfl)⟩
  | succ k =>
    by_cases hf : flatL ds = true
    · cases h.tupF hf with
      | tup h2 hl hr => exact ⟨_, _, rfl, rdEx gh h2, hl, fun i v d h1 h3 => z (hr i v d h1 h3) (.inr hf)⟩
    · obtain ⟨p, vs, Fs, e, hp, fp, hl, hr, hs, hd⟩ := h.tupN hf
      refine ⟨p, vs, e, .inl hp, hl, fun i v d h1 h2 => ⟨Fs i, ?_, fun a z => (hs i a z).1⟩⟩
      have e : tkF (k + 1) ds = k := by unfold tkF; rw [if_neg hf]; rfl
      rw [e]
      exact hr i v d h1 h2
theorem Own.objR {cl : Str → Addr} {k : Nat} {v : V} {C : Str} {fs : List (Str × D)} {F : Addr → Prop} (h : Own K cl H G k v (.obj C fs) F) (gh : Same G H) : ∃ p dx gs, v = .ref p ∧ H p = some (.ins (cl C) dx gs) ∧ gs.map (·.1) = fs.map (·.1) ∧
    ∀ (i : Nat) v d, gs[i]? = some v → fs[i]? = some d → ∃ F', Own K cl H G (k - 1) v.2 d.2 F' ∧ ∀ a, F' a → F a := by
  cases k with
  | zero =>
    cases h with
    | obj h hl hr => exact ⟨_, _, _, rfl, gh _ _ h, hl, fun i v d h1 h2 => ⟨fun _ => False, hr i v d h1 h2, fun _ z => z.elim⟩⟩
  | succ k =>
    obtain ⟨p, dx, vs, Fs, e, hp, fp, hl, hr, hs, hd⟩ := h
    exact ⟨p, dx, vs, e, hp, hl, fun i v d h1 h2 => ⟨_, hr i v d h1 h2, fun a z => (hs i a z).1⟩⟩
/-- freezing a new value -/
theorem freeze {cl : Str → Addr} (gh : Same G' H') {k : Nat} {v : V} {d : D} {F : Addr → Prop} (p : Px G H G' H') (o : Own K cl H' G' k v d F) (f : Foo H G' H' false F) : ∃ G2, Px G H G2 H' ∧ Px G' H' G' H' ∧ Same G' G2 ∧ Rep K cl G2 v d := by
  classical
  refine ⟨fun a => if F a then H' a else G' a, ⟨p.hh, fun a u e => ?_, fun a u e => ?_, fun a u e => ?_⟩, Px.refl gh, fun a u e => ?_, o.rep (fun a u e => ?_) fun a u fa e => ?_⟩
  · have e' := p.gg a u e
    by_cases fa : F a
    · rw [(f a fa).2.1] at e'; cases e'
    · simp only [if_neg fa]; exact e'
  · by_cases fa : F a
    · simp only [if_pos fa] at e; exact e
    · simp only [if_neg fa] at e; exact gh a u e
  · by_cases fa : F a
    · exact .inr ((f a fa).2.2 rfl)
    · simp only [if_neg fa] at e; exact p.gn a u e
  · by_cases fa : F a
    · rw [(f a fa).2.1] at e; cases e
    · simp only [if_neg fa]; exact e
  · by_cases fa : F a
    · rw [(f a fa).2.1] at e; cases e
    · simp only [if_neg fa]; exact e
  · simp only [if_pos fa]; exact e
end

/-! ### names, constants -/
section
variable {X : Cx} {cl : Clx} {W : WX} {pos : Pos}
def eC (d : D) : EF := fun _ => .ok (sh d)
@[simp] theorem eC_eq (d : D) (ρ : Env) : eC d ρ = .ok (sh d) := rfl
def slotV : Option Slot → R Vl
  | some (some (0, d)) => .ok (sh d)
  | some (some (k + 1, d)) => .ok ⟨true, k + 1, d⟩
  | _ => .bad
@[simp] theorem slotV_sh (d : D) : slotV (some (some (0, d))) = .ok (sh d) := rfl
@[simp] theorem slotV_own (k : Nat) (d : D) : slotV (some (some (k + 1, d))) = .ok ⟨true, k + 1, d⟩ := rfl
@[simp] theorem slotV_none : slotV (some none) = .bad := rfl
def eV (i : Nat) : EF := fun ρ => slotV ρ[i]?
@[simp] theorem eV_eq (i : Nat) (ρ : Env) : eV i ρ = slotV ρ[i]? := rfl
theorem semC {K : PySem.W.Frag} {v : V} {d : D} (h : ∀ G, Rep K cl G v d) : SemE K cl W (tC v) (eC d) := fun ρ σ G H Fs env Q hq => hq v G H (fun _ => False) (Px.refl env.gh) (h G) fun _ z => z.elim
theorem semV {K : PySem.W.Frag} (i : Nat) : SemE K cl W (tVar i) (eV i) := by
  intro ρ σ G H Fs env Q hq
  rw [eV_eq] at hq
  cases e : ρ[i]? with
  | none => rw [e] at hq; exact hq.elim
  | some s =>
    cases s with
    | none => rw [e] at hq; exact hq.elim
    | some kd =>
      obtain ⟨k, d⟩ := kd
      obtain ⟨v, hv, o⟩ := env.own i k d e
      rw [e] at hq
      refine ⟨v, hv, ?_⟩
      cases k with
      | zero => exact hq v G H (fun _ => False) (Px.refl env.gh) o fun _ z => z.elim
      | succ k => exact hq v G H (Fs i) (Px.refl env.gh) o fun a fa => ⟨(env.dom i a fa).1, (env.dom i a fa).2, fun z => nomatch z⟩
theorem ev_var (i : Nat) {x : Str} (hN : X.N[i]? = some x := by rfl) (hv : Vis X.env.scope x := by first | exact Or.inl rfl | exact Or.inr (Or.inl rfl) | exact Or.inr (Or.inr rfl)) (hd : (x == ("__debug__" : Str)) = false := by decide)
    (hcd : (x == ("__classdict__" : Str)) = false := by decide) : EvE X cl W (.Name x pos) (eV i) := ⟨_, pe_var hN hv hd hcd, semV i⟩
theorem ev_int {i : Int} {j : Nat} : EvE X cl W (.Constant (.int i) j pos) (eC (.int i)) := ⟨_, pe_int, semC fun _ => .int i⟩
theorem ev_str {i : Str} {j : Nat} : EvE X cl W (.Constant (.str i) j pos) (eC (.str i)) := ⟨_, pe_str, semC fun _ => .str i⟩
theorem ev_bl {i : Bool} {j : Nat} : EvE X cl W (.Constant (.bool i) j pos) (eC (.bl i)) := ⟨_, pe_bl, semC fun _ => .bl i⟩
theorem ev_non {j : Nat} : EvE X cl W (.Constant .none j pos) (eC .non) := ⟨_, pe_non, semC fun _ => .non⟩

/-! ### operators on values that lie in no heap -/
def OpS (K : PySem.W.Frag) (cl : Str → Addr) (r : R2) (f : D → D → Option D) : Prop := ∀ {k l : Nat} {x y : V} {dx dy d : D} {F1 F2 : Addr → Prop} {G H : Hp} {Q : VK}, Same G H → Own K cl H G k x dx F1 → Own K cl H G l y dy F2 → f dx dy = some d →
  (∀ v, Rep K cl G v d → Q v H) → r x y H Q
def eOp (f : D → D → Option D) (a b : EF) : EF := fun ρ => (a ρ).bind fun x => (b ρ).bind fun y => ofO (f x.d y.d)
@[simp] theorem eOp_eq (f : D → D → Option D) (a b : EF) (ρ : Env) : eOp f a b ρ = (a ρ).bind fun x => (b ρ).bind fun y => ofO (f x.d y.d) := rfl
theorem semOp {K : PySem.W.Frag} {r : R2} {f : D → D → Option D} (hf : OpS K cl r f) {ta tb : TE} {a b : EF} (ha : SemE K cl W ta a) (hb : SemE K cl W tb b) : SemE K cl W (tOp r ta tb) (eOp f a b) := by
  intro ρ σ G H Fs env Q hq
  refine ha.use env PV.mono hq fun x v G1 H1 F1 _ p1 env1 o1 f1 hq1 => ?_
  refine hb.use env1 PV.mono hq1 fun y u G2 H2 F2 _ p2 env2 o2 f2 hq2 => ?_
  cases e : f x.d y.d with
  | none => rw [e] at hq2; exact hq2.elim
  | some d =>
    rw [e] at hq2
    exact hf env2.gh (o1.px p2) o2 e fun v r => hq2 v G2 H2 (fun _ => False) (Px.refl env2.gh) r fun _ z => z.elim
theorem ev_op {a b : Expr} {fa fb : EF} {op : Operator} {r : R2} {f : D → D → Option D} (ho : OpR X (binaryOp op) r) (hf : OpS X.K cl r f) (ha : EvE X cl W a fa) (hb : EvE X cl W b fb) : EvE X cl W (.BinOp a op b pos) (eOp f fa fb) := by
  obtain ⟨ta, pa, sa⟩ := ha
  obtain ⟨tb, pb, sb⟩ := hb
  exact ⟨_, pe_op ho pa pb, semOp hf sa sb⟩
theorem ev_cmp {a b : Expr} {fa fb : EF} {op : CmpOp} {r : R2} {f : D → D → Option D} (ho : OpR X (compareOp op) r) (hf : OpS X.K cl r f) (ha : EvE X cl W a fa) (hb : EvE X cl W b fb) (hm : behindInMarks op b = false) : EvE X cl W (.Compare a [op] [b] pos) (eOp f fa fb) := by
  obtain ⟨ta, pa, sa⟩ := ha
  obtain ⟨tb, pb, sb⟩ := hb
  exact ⟨_, pe_cmpR ho pa pb hm, semOp hf sa sb⟩
/-- int by int -/
def iop (g : Int → Int → Option D) : D → D → Option D
  | .int i, .int j => g i j
  | _, _ => none
@[simp] theorem iop_int (g : Int → Int → Option D) (i j : Int) : iop g (.int i) (.int j) = g i j := rfl
theorem opS_int {K : PySem.W.Frag} {C : Int → Int → Prop} {g : Int → Int → V} {f : Int → Int → Option D} (h : ∀ i j d, f i j = some d → C i j ∧ ∀ G, Rep K cl G (g i j) d) : OpS K cl (rI C g) (iop f) := by
  intro k l x y dx dy d F1 F2 G H Q gh o1 o2 e q
  cases dx with
  | int i =>
    cases dy with
    | int j =>
      obtain ⟨c, r⟩ := h i j d e
      exact ⟨i, j, o1.int, o2.int, c, q _ (r G)⟩
    | _ => cases e
  | _ => cases e
theorem opS_int0 {K : PySem.W.Frag} {g : Int → Int → V} {f : Int → Int → Option D} (h : ∀ i j d, f i j = some d → ∀ G, Rep K cl G (g i j) d) : OpS K cl (rI0 g) (iop f) := by
  intro k l x y dx dy d F1 F2 G H Q gh o1 o2 e q
  cases dx with
  | int i =>
    cases dy with
    | int j => exact ⟨i, j, o1.int, o2.int, q _ (h i j d e G)⟩
    | _ => cases e
  | _ => cases e
abbrev addD := iop fun i j => some (.int (i + j))
abbrev subD := iop fun i j => some (.int (i - j))
def mulOk (i j : Int) : Prop := (i.natAbs < 2 ^ 64 ∨ j.natAbs < 2 ^ 64) ∨ i.natAbs.log2 + j.natAbs.log2 < 1000000
noncomputable instance (i j : Int) : Decidable (mulOk i j) := Classical.propDecidable _
noncomputable abbrev mulD := iop fun i j => if mulOk i j then some (.int (i * j)) else none
def divOk (j : Int) : Prop := 0 < j ∧ j.natAbs.log2 < 9000
noncomputable instance (j : Int) : Decidable (divOk j) := Classical.propDecidable _
noncomputable abbrev fdivD := iop fun i j => if divOk j then some (.int (i / j)) else none
abbrev modD := iop fun i j => if 0 < j then some (.int (i % j)) else none
def powOk (i j : Int) : Prop := 0 ≤ j ∧ j ≤ 1000000 ∧ i.natAbs < 2 ^ 64
noncomputable instance (i j : Int) : Decidable (powOk i j) := Classical.propDecidable _
noncomputable abbrev powD := iop fun i j => if powOk i j then some (.int (i ^ j.toNat)) else none
theorem os_sub {K : PySem.W.Frag} : OpS K cl (rI0 fun i j => .int (i - j)) subD := opS_int0 fun i j d e G => by cases e; exact .int _
theorem op_mulA : OpR X (binaryOp .Mult) (rI mulOk fun i j => .int (i * j)) := opI fun i j _ _ _ _ _ hc q => by
  rcases hc with hc | hc
  · have e1 : ((2 : Int) ^ 64) = 18446744073709551616 := by decide
    have e2 : ((2 : Nat) ^ 64) = 18446744073709551616 := by decide
    have this : CMul i j := by
      unfold CMul
      rw [e1]
      rw [e2] at hc
      rcases hc with hc | hc
      · left
        omega
      · right
        omega
    exact PyProof.Rows.mul_int q this.ok
  · exact PyProof.Rows.mul_int q (CMulW.ok hc)
theorem os_mul {K : PySem.W.Frag} : OpS K cl (rI mulOk fun i j => .int (i * j)) mulD := opS_int fun i j d e => by
  by_cases h : mulOk i j
  · rw [if_pos h] at e
    cases e
    exact ⟨h, fun G => .int _⟩
  · rw [if_neg h] at e
    cases e
theorem os_fdiv {K : PySem.W.Frag} : OpS K cl (rI CDivW fun i j => .int (i / j)) fdivD := opS_int fun i j d e => by
  by_cases h : divOk j
  · rw [if_pos h] at e
    cases e
    exact ⟨h, fun G => .int _⟩
  · rw [if_neg h] at e
    cases e
theorem os_mod {K : PySem.W.Frag} : OpS K cl (rI (fun _ j => 0 < j) fun i j => .int (i % j)) modD := opS_int fun i j d e => by
  by_cases h : 0 < j
  · rw [if_pos h] at e
    cases e
    exact ⟨h, fun G => .int _⟩
  · rw [if_neg h] at e
    cases e
theorem os_pow {K : PySem.W.Frag} : OpS K cl (rI CPow fun i j => .int (i ^ j.toNat)) powD := opS_int fun i j d e => by
  by_cases h : powOk i j
  · rw [if_pos h] at e
    cases e
    exact ⟨h, fun G => .int _⟩
  · rw [if_neg h] at e
    cases e
abbrev ltD := iop fun i j => some (.bl (decide (i < j)))
abbrev leD := iop fun i j => some (.bl (decide (i ≤ j)))
abbrev gtD := iop fun i j => some (.bl (decide (j < i)))
abbrev geD := iop fun i j => some (.bl (decide (j ≤ i)))
theorem os_lt {K : PySem.W.Frag} : OpS K cl (rI0 fun i j => .bl (decide (i < j))) ltD := opS_int0 fun i j d e G => by cases e; exact .bl _
theorem os_le {K : PySem.W.Frag} : OpS K cl (rI0 fun i j => .bl (decide (i ≤ j))) leD := opS_int0 fun i j d e G => by cases e; exact .bl _
theorem os_gt {K : PySem.W.Frag} : OpS K cl (rI0 fun i j => .bl (decide (j < i))) gtD := opS_int0 fun i j d e G => by cases e; exact .bl _
theorem os_ge {K : PySem.W.Frag} : OpS K cl (rI0 fun i j => .bl (decide (j ≤ i))) geD := opS_int0 fun i j d e G => by cases e; exact .bl _
/-- == and != of ints, bools, texts, None (where both lie in no heap) -/
def eqF : D → D → Option Bool
  | .int i, .int j => some (decide (i = j))
  | .str i, .str j => some (decide (i = j))
  | .bl i, .bl j => some (decide (i = j))
  | _, _ => none
def eqD (x y : D) : Option D := (eqF x y).map .bl
def neD (x y : D) : Option D := (eqF x y).map fun b => .bl (!b)
@[simp] theorem eqD_int (i j : Int) : eqD (.int i) (.int j) = some (.bl (decide (i = j))) := rfl
@[simp] theorem neD_int (i j : Int) : neD (.int i) (.int j) = some (.bl (!decide (i = j))) := rfl
@[simp] theorem eqD_str (i j : Str) : eqD (.str i) (.str j) = some (.bl (decide (i = j))) := rfl
@[simp] theorem neD_str (i j : Str) : neD (.str i) (.str j) = some (.bl (!decide (i = j))) := rfl
@[simp] theorem eqD_bl (i j : Bool) : eqD (.bl i) (.bl j) = some (.bl (decide (i = j))) := rfl
@[simp] theorem neD_bl (i j : Bool) : neD (.bl i) (.bl j) = some (.bl (!decide (i = j))) := rfl
theorem eqF_of {K : PySem.W.Frag} {k l : Nat} {x y : V} {dx dy : D} {F1 F2 : Addr → Prop} {G H : Hp} {b : Bool} (o1 : Own K cl H G k x dx F1) (o2 : Own K cl H G l y dy F2) (e : eqF dx dy = some b) : scal x y = true ∧ decide (x = y) = b := by
  cases dx with
  | int i =>
    cases dy with
    | int j =>
      cases e
      rw [o1.int, o2.int]
      refine ⟨rfl, ?_⟩
      by_cases h : i = j
      · subst h; simp
      · rw [decide_eq_false h, decide_eq_false fun q => h (V.int.inj q)]
    | _ => cases e
  | str i =>
    cases dy with
    | str j =>
      cases e
      rw [o1.str, o2.str]
      refine ⟨rfl, ?_⟩
      by_cases h : i = j
      · subst h; simp
      · rw [decide_eq_false h, decide_eq_false fun q => h (V.str.inj q)]
    | _ => cases e
  | bl i =>
    cases dy with
    | bl j =>
      cases e
      rw [o1.bl, o2.bl]
      refine ⟨rfl, ?_⟩
      by_cases h : i = j
      · subst h; simp
      · rw [decide_eq_false h, decide_eq_false fun q => h (V.bl.inj q)]
    | _ => cases e
  | _ => cases e
/-- is None, is not None -/
def isN : D → Bool
  | .non => true
  | _ => false
@[simp] theorem isN_non : isN .non = true := rfl
@[simp] theorem isN_int (i : Int) : isN (.int i) = false := rfl
@[simp] theorem isN_bl (i : Bool) : isN (.bl i) = false := rfl
@[simp] theorem isN_str (i : Str) : isN (.str i) = false := rfl
@[simp] theorem isN_lst (i : List D) : isN (.lst i) = false := rfl
@[simp] theorem isN_tup (i : List D) : isN (.tup i) = false := rfl
@[simp] theorem isN_exo (C : Str) : isN (.exo C) = false := rfl
@[simp] theorem isN_dci (ks : List Int) : isN (.dci ks) = false := rfl
@[simp] theorem isN_dct (ps : List (D × D)) : isN (.dct ps) = false := rfl
@[simp] theorem isN_obj (C : Str) (i : List (Str × D)) : isN (.obj C i) = false := rfl
def isD : D → D → Option D
  | x, .non => some (.bl (isN x))
  | _, _ => none
def isnD : D → D → Option D
  | x, .non => some (.bl (!isN x))
  | _, _ => none
@[simp] theorem isD_non (x : D) : isD x .non = some (.bl (isN x)) := rfl
@[simp] theorem isnD_non (x : D) : isnD x .non = some (.bl (!isN x)) := rfl
theorem isN_of {K : PySem.W.Frag} {k : Nat} {x : V} {dx : D} {F1 : Addr → Prop} {G H : Hp} (o1 : Own K cl H G k x dx F1) (gh : Same G H) : decide (x = .non) = isN dx := by
  cases dx with
  | non => rw [o1.non]; rfl
  | int i => rw [o1.int]; rfl
  | bl i => rw [o1.bl]; rfl
  | str i => rw [o1.str]; rfl
  | lst i =>
    obtain ⟨p, vs, e, _⟩ := o1.lstR gh
    rw [e]; rfl
  | tup i =>
    obtain ⟨p, vs, e, _⟩ := o1.tupR gh
    rw [e]; rfl
  | obj C i =>
    obtain ⟨p, dx, vs, e, _⟩ := o1.objR gh
    rw [e]; rfl
  | exo C =>
    cases Own.scal o1 (by simp)
    rfl
  | dct ps =>
    obtain ⟨p, nks, e, _⟩ := o1.dctR gh
    rw [e]; rfl
  | dci ks =>
    obtain ⟨p, e, _⟩ := o1.dciR gh
    rw [e]; rfl
theorem os_isN {K : PySem.W.Frag} : OpS K cl (fun x y H Q => y = .non ∧ Q (.bl (decide (x = .non))) H) isD := by
  intro k l x y dx dy d F1 F2 G H Q gh o1 o2 e q
  cases dy with
  | non =>
    cases e
    exact ⟨o2.non, by rw [isN_of o1 gh]; exact q _ (.bl _)⟩
  | _ => cases e
/-! ### tests -/
def asB : D → R Bool
  | .bl b => .ok b
  | _ => .bad
@[simp] theorem asB_bl (b : Bool) : asB (.bl b) = .ok b := rfl
def tV (a : EF) : TF := fun ρ => (a ρ).bind fun x => asB x.d
@[simp] theorem tV_eq (a : EF) (ρ : Env) : tV a ρ = (a ρ).bind fun x => asB x.d := rfl
theorem semTest {K : PySem.W.Frag} {t : TE} {a : EF} (h : SemE K cl W t a) : SemT K cl W (tTest t) (tV a) := by
  intro ρ σ G H Fs env Q hq
  refine h.use env PB.mono hq fun x v G1 H1 F1 _ p1 env1 o1 f1 hq1 => ?_
  obtain ⟨b, k, d⟩ := x
  cases d with
  | bl c => exact ⟨c, o1.bl, hq1 _ _ (Px.refl env1.gh)⟩
  | _ => exact hq1.elim
theorem et_cmp {a b : Expr} {fa fb : EF} {op : CmpOp} {r : R2} {f : D → D → Option D} (ho : OpR X (compareOp op) r) (hf : OpS X.K cl r f) (ha : EvE X cl W a fa) (hb : EvE X cl W b fb) (hm : behindInMarks op b = false) : EvT X cl W (.Compare a [op] [b] pos) (tV (eOp f fa fb)) := by
  obtain ⟨ta, pa, sa⟩ := ha
  obtain ⟨tb, pb, sb⟩ := hb
  exact ⟨_, pt_cmpR ho pa pb hm, semTest (semOp hf sa sb)⟩
theorem et_val {e : Expr} {f : EF} (h : EvE X cl W e f) (he : ∀ whole, isTrue e X.env whole = (do let v ← whole; standAt e.pos; holding [v] (truthy v)) := by intro _; rfl) : EvT X cl W e (tV f) := by
  obtain ⟨t, p, s⟩ := h
  exact ⟨_, pt_val p he, semTest s⟩
def tAndF (a b : TF) : TF := fun ρ => (a ρ).bind fun x => if x then b ρ else .ok false
def tOrF (a b : TF) : TF := fun ρ => (a ρ).bind fun x => if x then .ok true else b ρ
def tNotF (a : TF) : TF := fun ρ => (a ρ).bind fun x => .ok (!x)
@[simp] theorem tAndF_eq (a b : TF) (ρ : Env) : tAndF a b ρ = (a ρ).bind fun x => if x then b ρ else .ok false := rfl
@[simp] theorem tOrF_eq (a b : TF) (ρ : Env) : tOrF a b ρ = (a ρ).bind fun x => if x then .ok true else b ρ := rfl
@[simp] theorem tNotF_eq (a : TF) (ρ : Env) : tNotF a ρ = (a ρ).bind fun x => .ok (!x) := rfl
theorem EvW.t {e : Expr} {f : TF} (h : EvW X cl W e f) : EvT X cl W e f := by
  obtain ⟨t, p, s⟩ := h
  exact ⟨t, p.pt, s⟩
theorem ew_and1 {a : Expr} {f : TF} (h : EvT X cl W a f) : EvW X cl W (.BoolOp .And [a] pos) f := by
  obtain ⟨t, p, s⟩ := h
  exact ⟨t, pw_and1 p, s⟩
theorem ew_or1 {a : Expr} {f : TF} (h : EvT X cl W a f) : EvW X cl W (.BoolOp .Or [a] pos) f := by
  obtain ⟨t, p, s⟩ := h
  exact ⟨t, pw_or1 p, s⟩
theorem ew_and {a b : Expr} {rest : List Expr} {f g : TF} (h : EvT X cl W a f) (h2 : EvW X cl W (.BoolOp .And (b :: rest) pos) g) : EvW X cl W (.BoolOp .And (a :: b :: rest) pos) (tAndF f g) := by
  obtain ⟨t, p, s⟩ := h
  obtain ⟨u, q, s2⟩ := h2
  refine ⟨_, pw_and p q, fun ρ σ G H Fs env Q hq => ?_⟩
  refine s.use env PB.mono hq fun x G1 H1 _ p1 env1 hq1 => ?_
  cases x with
  | true => exact iteT (s2 ρ σ G1 H1 Fs env1 Q hq1)
  | false => exact iteF (hq1 _ _ (Px.refl env1.gh))
theorem ew_or {a b : Expr} {rest : List Expr} {f g : TF} (h : EvT X cl W a f) (h2 : EvW X cl W (.BoolOp .Or (b :: rest) pos) g) : EvW X cl W (.BoolOp .Or (a :: b :: rest) pos) (tOrF f g) := by
  obtain ⟨t, p, s⟩ := h
  obtain ⟨u, q, s2⟩ := h2
  refine ⟨_, pw_or p q, fun ρ σ G H Fs env Q hq => ?_⟩
  refine s.use env PB.mono hq fun x G1 H1 _ p1 env1 hq1 => ?_
  cases x with
  | true => exact iteT (hq1 _ _ (Px.refl env1.gh))
  | false => exact iteF (s2 ρ σ G1 H1 Fs env1 Q hq1)
theorem et_not {a : Expr} {f : TF} (h : EvT X cl W a f) : EvT X cl W (.UnaryOp .Not a pos) (tNotF f) := by
  obtain ⟨t, p, s⟩ := h
  refine ⟨_, pt_not p, fun ρ σ G H Fs env Q hq => ?_⟩
  refine s.use env PB.mono hq fun x G1 H1 _ p1 env1 hq1 => ?_
  exact hq1 _ _ (Px.refl env1.gh)
/-- and, or, not of bools as values -/
def eB (b : Bool) : R Vl := .ok (sh (.bl b))
def eAnd (a b : EF) : EF := fun ρ => (a ρ).bind fun x => (asB x.d).bind fun c => if c then b ρ else .ok (sh (.bl false))
def eOr (a b : EF) : EF := fun ρ => (a ρ).bind fun x => (asB x.d).bind fun c => if c then .ok (sh (.bl true)) else b ρ
def eNot (a : EF) : EF := fun ρ => (a ρ).bind fun x => (asB x.d).bind fun c => .ok (sh (.bl (!c)))
@[simp] theorem eAnd_eq (a b : EF) (ρ : Env) : eAnd a b ρ = (a ρ).bind fun x => (asB x.d).bind fun c => if c then b ρ else .ok (sh (.bl false)) := rfl
@[simp] theorem eOr_eq (a b : EF) (ρ : Env) : eOr a b ρ = (a ρ).bind fun x => (asB x.d).bind fun c => if c then .ok (sh (.bl true)) else b ρ := rfl
@[simp] theorem eNot_eq (a : EF) (ρ : Env) : eNot a ρ = (a ρ).bind fun x => (asB x.d).bind fun c => .ok (sh (.bl (!c))) := rfl
theorem ev_one {op : BoolOp} {a : Expr} {f : EF} (h : EvE X cl W a f) : EvE X cl W (.BoolOp op [a] pos) f := by
  obtain ⟨t, p, s⟩ := h
  exact ⟨t, pe_one p, s⟩
theorem ev_and {a b : Expr} {rest : List Expr} {f g : EF} (h : EvE X cl W a f) (h2 : EvE X cl W (.BoolOp .And (b :: rest) pos) g) : EvE X cl W (.BoolOp .And (a :: b :: rest) pos) (eAnd f g) := by
  obtain ⟨t, p, s⟩ := h
  obtain ⟨u, q, s2⟩ := h2
  refine ⟨_, pe_and p q, fun ρ σ G H Fs env Q hq => ?_⟩
  refine s.use env PV.mono hq fun x v G1 H1 F1 _ p1 env1 o1 f1 hq1 => ?_
  obtain ⟨b, k, d⟩ := x
  cases d with
  | bl c =>
    refine ⟨c, o1.bl, ?_⟩
    cases c with
    | true => exact iteT (s2 ρ σ G1 H1 Fs env1 Q hq1)
    | false => exact iteF (hq1 _ G1 H1 (fun _ => False) (Px.refl env1.gh) (Rep.bl false) fun _ z => z.elim)
  | _ => exact hq1.elim
theorem ev_not {a : Expr} {f : EF} (h : EvE X cl W a f) : EvE X cl W (.UnaryOp .Not a pos) (eNot f) := by
  obtain ⟨t, p, s⟩ := h
  refine ⟨_, pe_not p, fun ρ σ G H Fs env Q hq => ?_⟩
  refine s.use env PV.mono hq fun x v G1 H1 F1 _ p1 env1 o1 f1 hq1 => ?_
  obtain ⟨b, k, d⟩ := x
  cases d with
  | bl c => exact ⟨c, o1.bl, hq1 _ G1 H1 (fun _ => False) (Px.refl env1.gh) (Rep.bl (!c)) fun _ z => z.elim⟩
  | _ => exact hq1.elim
/-- a if t else b -/
def eIf (t : TF) (a b : EF) : EF := fun ρ => (t ρ).bind fun c => if c then a ρ else b ρ
@[simp] theorem eIf_eq (t : TF) (a b : EF) (ρ : Env) : eIf t a b ρ = (t ρ).bind fun c => if c then a ρ else b ρ := rfl
/-- -a -/
def negD : D → Option D
  | .int i => some (.int (-i))
  | _ => none
@[simp] theorem negD_int (i : Int) : negD (.int i) = some (.int (-i)) := rfl
def eUn (f : D → Option D) (a : EF) : EF := fun ρ => (a ρ).bind fun x => ofO (f x.d)
@[simp] theorem eUn_eq (f : D → Option D) (a : EF) (ρ : Env) : eUn f a ρ = (a ρ).bind fun x => ofO (f x.d) := rfl
theorem ev_neg {a : Expr} {f : EF} (h : EvE X cl W a f) : EvE X cl W (.UnaryOp .USub a pos) (eUn negD f) := by
  obtain ⟨t, p, s⟩ := h
  refine ⟨_, pe_un un_neg p, fun ρ σ G H Fs env Q hq => ?_⟩
  refine s.use env PV.mono hq fun x v G1 H1 F1 _ p1 env1 o1 f1 hq1 => ?_
  obtain ⟨b, k, d⟩ := x
  cases d with
  | int i => exact ⟨i, o1.int, hq1 _ G1 H1 (fun _ => False) (Px.refl env1.gh) (Rep.int _) fun _ z => z.elim⟩
  | _ => exact hq1.elim
end
end B
namespace B
open PySem L2

/-! ### freezing -/
abbrev scal : D → Bool := flat
def frz : Vl → R Vl
  | ⟨false, _, d⟩ => .ok (sh d)
  | ⟨true, 0, d⟩ => .ok (sh d)
  | ⟨true, _ + 1, d⟩ => if scal d then .ok (sh d) else .bad
@[simp] theorem frz_f (k : Nat) (d : D) : frz ⟨false, k, d⟩ = .ok (sh d) := by cases k <;> rfl
@[simp] theorem frz_0 (d : D) : frz ⟨true, 0, d⟩ = .ok (sh d) := rfl
@[simp] theorem frz_1 (k : Nat) (d : D) : frz ⟨true, k + 1, d⟩ = if scal d then .ok (sh d) else .bad := rfl
def eS (f : EF) : EF := fun ρ => (f ρ).bind frz
@[simp] theorem eS_eq (f : EF) (ρ : Env) : eS f ρ = (f ρ).bind frz := rfl
section
variable {K : PySem.W.Frag} {cl : Clx} {W : WX} {ρ : Env} {σ : L2.St} {G H G' H' : Hp} {Fs : Foot}
theorem Own.scal' {cl : Str → Addr} {k : Nat} {v : V} {d : D} {F : Addr → Prop} (h : Own K cl H G k v d F) (hd : B.scal d = true) : Rep K cl G v d := Own.scal h hd
theorem noFoo {b : Bool} : Foo H G' H' b (fun _ => False) := fun _ z => z.elim
theorem semS {t : TE} {f : EF} (h : SemE K cl W t f) : SemE K cl W t (eS f) := by
  intro ρ σ G H Fs env Q hq
  refine h ρ σ G H Fs env Q ?_
  rw [eS_eq] at hq
  cases e : f ρ with
  | bad => rw [e] at hq; exact hq
  | ex c => rw [e] at hq; exact hq
  | ok x =>
    rw [e, R.bind_ok] at hq
    intro v G' H' F p o fo
    obtain ⟨b, k, d⟩ := x
    cases b with
    | false =>
      rw [frz_f] at hq
      obtain ⟨G2, p2, _, _, r⟩ := freeze p.gh p o fo
      exact hq v G2 H' (fun _ => False) p2 r noFoo
    | true =>
      cases k with
      | zero => exact hq v G' H' (fun _ => False) p o noFoo
      | succ k =>
        rw [frz_1] at hq
        cases hs : B.scal d with
        | false => rw [hs] at hq; exact hq.elim
        | true =>
          rw [hs] at hq
          exact hq v G' H' (fun _ => False) p (o.scal' hs) noFoo
end
section
variable {X : Cx} {cl : Clx} {W : WX} {pos : Pos}
/-! ### argument lists: each one frozen -/
def aNil : AF := fun _ => .ok []
def aCons (f : EF) (g : AF) : AF := fun ρ => (f ρ).bind fun x => (frz x).bind fun y => (g ρ).bind fun ds => .ok (y.d :: ds)
@[simp] theorem aNil_eq (ρ : Env) : aNil ρ = .ok [] := rfl
@[simp] theorem aCons_eq (f : EF) (g : AF) (ρ : Env) : aCons f g ρ = (f ρ).bind fun x => (frz x).bind fun y => (g ρ).bind fun ds => .ok (y.d :: ds) := rfl
theorem R.bind_assoc {α β γ : Type} (r : R α) (f : α → R β) (g : β → R γ) : (r.bind f).bind g = r.bind fun a => (f a).bind g := by cases r <;> rfl
theorem frz_k {x y : Vl} (h : frz x = .ok y) : y = sh x.d := by
  obtain ⟨b, k, d⟩ := x
  cases b with
  | false => rw [frz_f] at h; cases h; rfl
  | true =>
    cases k with
    | zero => cases h; rfl
    | succ k =>
      rw [frz_1] at h
      cases hs : scal d with
      | false => rw [hs] at h; cases h
      | true => rw [hs] at h; cases h; rfl
theorem RepL.nil {cl : Str → Addr} {K : PySem.W.Frag} {G : Hp} : RepL K cl G [] [] := ⟨rfl, fun i v d h => by simp at h⟩
theorem RepL.cons {cl : Str → Addr} {K : PySem.W.Frag} {G : Hp} {v : V} {d : D} {vs : List V} {ds : List D} (h : Rep K cl G v d) (t : RepL K cl G vs ds) : RepL K cl G (v :: vs) (d :: ds) := by
  refine ⟨by simp [t.1], fun i v' d' h1 h2 => ?_⟩
  cases i with
  | zero => cases h1; cases h2; exact h
  | succ i => exact t.2 i v' d' h1 h2
theorem RepL.mono {cl : Str → Addr} {K : PySem.W.Frag} {G G' : Hp} {vs : List V} {ds : List D} (e : Same G G') (h : RepL K cl G vs ds) : RepL K cl G' vs ds := ⟨h.1, fun i v d h1 h2 => (h.2 i v d h1 h2).mono e⟩
theorem ea_nil : EvA X cl W [] aNil := ⟨_, pa_nil, fun ρ σ G H Fs env Q hq => hq [] G H (Px.refl env.gh) .nil, fun ρ ds h => by cases h; rfl⟩
theorem ea_cons {e : Expr} {es : List Expr} {f : EF} {g : AF} (h : EvE X cl W e f) (h2 : EvA X cl W es g) (hs : starEach (e :: es) X.env = (false, eval e X.env) :: starEach es X.env := by rfl) : EvA X cl W (e :: es) (aCons f g) := by
  obtain ⟨t, p, s⟩ := h
  obtain ⟨u, q, s2, hl2⟩ := h2
  refine ⟨_, pa_cons p q hs, fun ρ σ G H Fs env Q hq => ?_, fun ρ ds h => ?_⟩
  rotate_left
  · rw [aCons_eq] at h
    cases e1 : f ρ with
    | bad => rw [e1] at h; cases h
    | ex c => rw [e1] at h; cases h
    | ok x =>
      rw [e1, R.bind_ok] at h
      cases e2 : frz x with
      | bad => rw [e2] at h; cases h
      | ex c => rw [e2] at h; cases h
      | ok y =>
        rw [e2, R.bind_ok] at h
        cases e3 : g ρ with
        | bad => rw [e3] at h; cases h
        | ex c => rw [e3] at h; cases h
        | ok zs =>
          rw [e3, R.bind_ok] at h
          cases h
          simp [hl2 ρ zs e3]
  have hq' : PostG cl W σ G H (PL X.K cl Q) ((eS f ρ).bind fun y => (g ρ).bind fun ds => .ok (y.d :: ds)) := by
    rw [eS_eq, R.bind_assoc]
    exact hq
  refine (semS s).use env PL.mono hq' fun x v G1 H1 F1 e1 p1 env1 o1 f1 hq1 => ?_
  refine s2.use env1 PL.mono hq1 fun ds vs G2 H2 e2 p2 env2 r2 hq2 => ?_
  have hk : x = sh x.d := by
    rw [eS_eq] at e1
    cases q1 : f ρ with
    | ok z =>
      rw [q1] at e1
      have := frz_k e1
      rw [this]
    | ex c => rw [q1] at e1; cases e1
    | bad => rw [q1] at e1; cases e1
  have o2 : Rep X.K cl G1 v x.d := by
    rw [hk] at o1
    exact o1
  exact hq2 _ G2 H2 (Px.refl env2.gh) (.cons (o2.mono p2.gg) r2)

/-! ### tuples, lists, subscripts -/
def eTup (g : AF) : EF := fun ρ => (g ρ).bind fun ds => if ds.length ≤ 1000 then .ok (sh (.tup ds)) else .bad
def eLst (g : AF) : EF := fun ρ => (g ρ).bind fun ds => if ds.length ≤ 1000 then .ok ⟨false, 1, .lst ds⟩ else .bad
@[simp] theorem eTup_eq (g : AF) (ρ : Env) : eTup g ρ = (g ρ).bind fun ds => if ds.length ≤ 1000 then .ok (sh (.tup ds)) else .bad := rfl
@[simp] theorem eLst_eq (g : AF) (ρ : Env) : eLst g ρ = (g ρ).bind fun ds => if ds.length ≤ 1000 then .ok ⟨false, 1, .lst ds⟩ else .bad := rfl
theorem le_line {n : Nat} (h : n ≤ 1000) : n ≤ sizeLine := Nat.le_of_lt (small1000 h)
theorem same_new {H : Hp} {p : Addr} {o : HO} (h : H p = none) : Same H (upd H p o) := fun b u e => by
  rw [upd_ne (ne_of_none e h)]
  exact e
theorem px_frozen {G H : Hp} {p : Addr} {o : HO} (gh : Same G H) (h : H p = none) : Px G H (upd G p o) (upd H p o) := by
  have hg : G p = none := gh.free h
  refine ⟨same_new h, same_new hg, fun a u e => ?_, fun a u e => ?_⟩
  · by_cases hp : a = p
    · subst hp; rw [upd_same] at e ⊢; exact e
    · rw [upd_ne hp] at e ⊢; exact gh a u e
  · by_cases hp : a = p
    · subst hp; exact .inr h
    · rw [upd_ne hp] at e; exact .inl e
theorem px_new {G H : Hp} {p : Addr} {o : HO} (gh : Same G H) (h : H p = none) : Px G H G (upd H p o) :=
  ⟨same_new h, Same.refl _, gh.trans (same_new h), fun a u e => .inl e⟩
theorem semTup {K : PySem.W.Frag} {t : TA} {g : AF} (h : SemA K cl W t g) : SemE K cl W (tTup t) (eTup g) := by
  intro ρ σ G H Fs env Q hq
  refine h.use env PV.mono hq fun ds vs G1 H1 _ p1 env1 r1 hq1 => ?_
  by_cases hl : ds.length ≤ 1000
  · rw [if_pos hl] at hq1
    refine ⟨le_line (by rw [r1.1]; exact hl), fun p hp => ?_⟩
    have px : Px G1 H1 (upd G1 p (.tup vs)) (upd H1 p (.tup vs)) := px_frozen env1.gh hp
    exact hq1 _ _ _ (fun _ => False) px (Rep.tup (.inl upd_same) r1.1 (RepL.mono px.gg r1).2) noFoo
  · rw [if_neg hl] at hq1
    exact hq1.elim
theorem own1 {cl : Str → Addr} {K : PySem.W.Frag} {G H : Hp} {p : Addr} {vs : List V} {ds : List D} (hp : H p = some (.lst vs)) (r : RepL K cl G vs ds) : Own K cl H G 1 (.ref p) (.lst ds) (fun a => a = p) :=
  ⟨p, vs, fun _ _ => False, rfl, hp, rfl, r.1, fun i v d h1 h2 => r.2 i v d h1 h2, fun _ _ z => z.elim, fun _ _ _ z => z.elim⟩
theorem foo1 {G H : Hp} {p : Addr} {o : HO} (gh : Same G H) (hp : H p = none) : Foo H G (upd H p o) false (fun a => a = p) := fun a e => by
  subst e
  exact ⟨⟨_, upd_same⟩, gh.free hp, fun _ => hp⟩
theorem semLst {K : PySem.W.Frag} {t : TA} {g : AF} (h : SemA K cl W t g) : SemE K cl W (tLst t) (eLst g) := by
  intro ρ σ G H Fs env Q hq
  refine h.use env PV.mono hq fun ds vs G1 H1 _ p1 env1 r1 hq1 => ?_
  by_cases hl : ds.length ≤ 1000
  · rw [if_pos hl] at hq1
    refine ⟨le_line (by rw [r1.1]; exact hl), fun p hp => ?_⟩
    exact hq1 _ G1 _ _ (px_new env1.gh hp) (own1 upd_same r1) (foo1 env1.gh hp)
  · rw [if_neg hl] at hq1
    exact hq1.elim
theorem ev_tup {es : List Expr} {x1} {g : AF} (h : EvA X cl W es g) : EvE X cl W (.Tuple es x1 pos) (eTup g) := by
  obtain ⟨t, p, s, _⟩ := h
  exact ⟨_, pe_tup p, semTup s⟩
theorem ev_lst {es : List Expr} {g : AF} (h : EvA X cl W es g) : EvE X cl W (.List es pos) (eLst g) := by
  obtain ⟨t, p, s, _⟩ := h
  exact ⟨_, pe_lst p, semLst s⟩
/-- xs[i] -/
def elV (b : Bool) : Nat → D → Vl
  | 0, d => sh d
  | 1, d => sh d
  | k + 2, d => ⟨b, k + 1, d⟩
@[simp] theorem elV_0 (b : Bool) (d : D) : elV b 0 d = sh d := rfl
@[simp] theorem elV_1 (b : Bool) (d : D) : elV b 1 d = sh d := rfl
@[simp] theorem elV_2 (b : Bool) (k : Nat) (d : D) : elV b (k + 2) d = ⟨b, k + 1, d⟩ := rfl
def ixL (b : Bool) (k : Nat) : Option D → R Vl
  | some d => .ok (elV b k d)
  | none => .bad
@[simp] theorem ixL_some (b : Bool) (k : Nat) (d : D) : ixL b k (some d) = .ok (elV b k d) := rfl
@[simp] theorem ixL_none (b : Bool) (k : Nat) : ixL b k none = .bad := rfl
/-- the floors under those of a list or of an instance, by a part's own -/
theorem elV_own {K : PySem.W.Frag} {cl : Str → Addr} {G H G0 : Hp} {b : Bool} {k : Nat} {w : V} {d : D} {F F' : Addr → Prop} (o : Own K cl H G (k - 1) w d F') (s : ∀ a, F' a → F a) (f : Foo G0 G H b F) : ∃ F2, Own K cl H G (elV b k d).k w (elV b k d).d F2 ∧ Foo G0 G H (elV b k d).b F2 := by
  match k, o with
  | 0, o => exact ⟨fun _ => False, o, fun _ z => z.elim⟩
  | 1, o => exact ⟨fun _ => False, o, fun _ z => z.elim⟩
  | k + 2, o => exact ⟨F', o, fun a fa => f a (s a fa)⟩
theorem Foo.px {b : Bool} {F : Addr → Prop} {H0 G H G' H' : Hp} (f : Foo H0 G H b F) (p : Px G H G' H') : Foo H0 G' H' b F := fun a fa => by
  obtain ⟨⟨o, ho⟩, hg, hb⟩ := f a fa
  refine ⟨⟨o, p.hh _ _ ho⟩, ?_, hb⟩
  cases q : G' a with
  | none => rfl
  | some u =>
    rcases p.gn a u q with h | h
    · rw [hg] at h; cases h
    · rw [ho] at h; cases h
def ixD (x : Vl) : D → R Vl
  | .int i => match x.d with
    | .lst ds => ixL x.b x.k (atI ds i)
    | .tup ds => ixL x.b (tkF x.k ds + 1) (atI ds i)
    | _ => .bad
  | _ => .bad
@[simp] theorem ixD_l (b : Bool) (k : Nat) (ds : List D) (i : Int) : ixD ⟨b, k, .lst ds⟩ (.int i) = ixL b k (atI ds i) := rfl
theorem tkF_0 (ds : List D) : tkF 0 ds = 0 := by unfold tkF; split <;> rfl
theorem ixL_01 (b : Bool) (o : Option D) : ixL b 1 o = ixL b 0 o := by cases o <;> rfl
@[simp] theorem ixD_t (b : Bool) (ds : List D) (i : Int) : ixD ⟨b, 0, .tup ds⟩ (.int i) = ixL b 0 (atI ds i) := by
  show ixL b (tkF 0 ds + 1) (atI ds i) = _
  rw [tkF_0, ixL_01]
def eIx (a b : EF) : EF := fun ρ => (a ρ).bind fun x => (b ρ).bind fun y => ixD x y.d
@[simp] theorem eIx_eq (a b : EF) (ρ : Env) : eIx a b ρ = (a ρ).bind fun x => (b ρ).bind fun y => ixD x y.d := rfl
theorem atI_rel {α β : Type} {vs : List α} {ds : List β} {i : Int} {d : β} (hl : vs.length = ds.length) (h : atI ds i = some d) : ∃ (j : Nat) (v : α), ds[j]? = some d ∧ vs[j]? = some v ∧ atI vs i = some v := by
  unfold atI at h ⊢
  rw [hl]
  cases e : ixN ds.length i with
  | none => rw [e] at h; cases h
  | some j =>
    rw [e] at h
    have hj : ds[j]? = some d := h
    have hlt : j < vs.length := by rw [hl]; exact (List.getElem?_eq_some_iff.mp hj).1
    exact ⟨j, vs[j], hj, List.getElem?_eq_getElem hlt, List.getElem?_eq_getElem hlt⟩
theorem semIx {K : PySem.W.Frag} {ta tb : TE} {a b : EF} (ha : SemE K cl W ta a) (hb : SemE K cl W tb b) : SemE K cl W (tOp (fun x y H Q => rIxL K x y H Q ∨ rIxT K x y H Q) ta tb) (eIx a b) := by
  intro ρ σ G H Fs env Q hq
  refine ha.use env PV.mono hq fun x v G1 H1 F1 e1 p1 env1 o1 f1 hq1 => ?_
  refine hb.use env1 PV.mono hq1 fun y u G2 H2 F2 e2 p2 env2 o2 f2 hq2 => ?_
  have o1' := o1.px p2
  have px := p1.trans p2
  have f1' := f1.px p2
  have hq0 : PostG cl W σ G H (PV K cl Q) (ixD x y.d) := by
    rw [eIx_eq, e1, R.bind_ok, e2, R.bind_ok] at hq
    exact hq
  obtain ⟨b1, k, d⟩ := x
  obtain ⟨b2, l, e⟩ := y
  cases e with
  | int i =>
    have hu := o2.int
    cases d with
    | lst ds =>
      obtain ⟨p, vs, rfl, hS, hl, hr⟩ := o1'.lstR env2.gh
      replace hq0 : PostG cl W σ G H (PV K cl Q) (ixL b1 k (atI ds i)) := hq0
      cases z : atI ds i with
      | none =>
        rw [z] at hq0
        exact hq0.elim
      | some d =>
      obtain ⟨j, w, h1, h2, h3⟩ := atI_rel hl z
      refine .inl ⟨p, vs, i, w, rfl, hu, .inl hS, h3, ?_⟩
      obtain ⟨F', o', hF'⟩ := hr j w d h2 h1
      rw [z] at hq0
      obtain ⟨F2', o2', f2'⟩ := elV_own o' hF' f1'
      exact hq0 w G2 H2 F2' px o2' f2'
    | tup ds =>
      obtain ⟨p, vs, rfl, hS, hl, hr⟩ := o1'.tupR env2.gh
      replace hq0 : PostG cl W σ G H (PV K cl Q) (ixL b1 (tkF k ds + 1) (atI ds i)) := hq0
      cases z : atI ds i with
      | none =>
        rw [z] at hq0
        exact hq0.elim
      | some d =>
      obtain ⟨j, w, h1, h2, h3⟩ := atI_rel hl z
      refine .inr ⟨p, vs, i, w, rfl, hu, .inl hS, h3, ?_⟩
      obtain ⟨F', o', hF'⟩ := hr j w d h2 h1
      rw [z] at hq0
      obtain ⟨F2', o2', f2'⟩ := elV_own (k := tkF k ds + 1) o' hF' f1'
      exact hq0 w G2 H2 F2' px o2' f2'
    | _ => exact hq0.elim
  | _ =>
    cases d with
    | _ => exact hq0.elim
theorem ev_ix {a b : Expr} {f g : EF} (ha : EvE X cl W a f) (hb : EvE X cl W b g) (hs : PlainIx b := by exact fun _ _ => rfl) : EvE X cl W (.Subscript a b pos) (eIx f g) := by
  obtain ⟨ta, pa, sa⟩ := ha
  obtain ⟨tb, pb, sb⟩ := hb
  exact ⟨_, pe_ix (ix_list.or ix_tup) pa pb hs, semIx sa sb⟩
end
end B
namespace B
open PySem L2

/-! ### statements -/
inductive Fl where
  | nx | bk | ct
  | rt (k : Nat) (d : D)
inductive RS where
  | ok (f : Fl) (ρ : Env)
  | ex (c : Str) (ρ : Env)
  | bad
abbrev SF := Env → RS
section
variable (K : PySem.W.Frag) (cl : Clx) (W : WX)
def PE1 (U : Addr → Prop) (G H : Hp) (ρ : Env) (C : L2.St → Hp → Prop) : Prop := ∀ σ' G' H' Fs', EnvR K cl ρ σ' G' H' Fs' → Sx U G H (Un Fs') G' H' → C σ' H'
def PostS (U : Addr → Prop) (G H : Hp) (D : Ends) : RS → Prop
  | .ok .nx ρ => PE1 K cl U G H ρ D.nx
  | .ok .bk ρ => PE1 K cl U G H ρ D.bk
  | .ok .ct ρ => PE1 K cl U G H ρ D.ct
  | .ok (.rt k d) ρ => ∀ σ' v G' H' Fs' F, EnvR K cl ρ σ' G' H' Fs' → Own K cl H' G' k v d F → (∀ a, F a → (∃ o, H' a = some o) ∧ G' a = none ∧ ¬ Un Fs' a) → Sx U G H (fun a => Un Fs' a ∨ F a) G' H' → D.rt v H'
  | .ex c ρ => PE1 K cl U G H ρ fun σ' H' => W (.ref (cl c)) none σ' H'
  | .bad => False
def SemS (t : TS) (F : SF) : Prop := ∀ ρ σ G H Fs, EnvR K cl ρ σ G H Fs → ∀ D, PostS K cl W (Un Fs) G H D (F ρ) → t D σ H
end
def EvS (X : Cx) (cl : Clx) (W : WX) (s : Stmt) (F : SF) : Prop := ∃ t, PS X s t ∧ SemS X.K cl W t F
def EvB (X : Cx) (cl : Clx) (W : WX) (s : List Stmt) (F : SF) : Prop := ∃ t, PSs X s t ∧ SemS X.K cl W t F
section
variable {K : PySem.W.Frag} {cl : Clx} {W : WX} {ρ : Env} {σ : L2.St} {G H G' H' : Hp} {Fs Fs' : Foot}
theorem PE1.mono {U U' : Addr → Prop} {C : L2.St → Hp → Prop} (s : Sx U G H U' G' H') (h : PE1 K cl U G H ρ C) : PE1 K cl U' G' H' ρ C := fun σ2 G2 H2 F2 e2 s2 => h σ2 G2 H2 F2 e2 (s.trans s2)
theorem PostS.mono {U U' : Addr → Prop} {D : Ends} {r : RS} (s : Sx U G H U' G' H') (h : PostS K cl W U G H D r) : PostS K cl W U' G' H' D r := by
  cases r with
  | ok f ρ =>
    cases f with
    | nx => exact PE1.mono s h
    | bk => exact PE1.mono s h
    | ct => exact PE1.mono s h
    | rt k d => exact fun σ2 v G2 H2 F2 F e2 o f s2 => h σ2 v G2 H2 F2 F e2 o f (s.trans s2)
  | ex c ρ => exact PE1.mono s h
  | bad => exact h
/-- the other ends: f says what becomes of nx -/
def RS.then (r : RS) (g : SF) : RS := match r with
  | .ok .nx ρ => g ρ
  | r => r
@[simp] theorem RS.then_nx (ρ : Env) (g : SF) : (RS.ok .nx ρ).then g = g ρ := rfl
@[simp] theorem RS.then_rt (ρ : Env) (g : SF) (k : Nat) (d : D) : (RS.ok (.rt k d) ρ).then g = .ok (.rt k d) ρ := rfl
@[simp] theorem RS.then_bk (ρ : Env) (g : SF) : (RS.ok .bk ρ).then g = .ok .bk ρ := rfl
@[simp] theorem RS.then_ct (ρ : Env) (g : SF) : (RS.ok .ct ρ).then g = .ok .ct ρ := rfl
@[simp] theorem RS.then_ex (ρ : Env) (g : SF) (c : Str) : (RS.ex c ρ).then g = .ex c ρ := rfl
@[simp] theorem RS.then_bad (g : SF) : RS.bad.then g = .bad := rfl
def sSeq (f g : SF) : SF := fun ρ => (f ρ).then g
def sNil : SF := fun ρ => .ok .nx ρ
@[simp] theorem sSeq_eq (f g : SF) (ρ : Env) : sSeq f g ρ = (f ρ).then g := rfl
@[simp] theorem sNil_eq (ρ : Env) : sNil ρ = .ok .nx ρ := rfl
theorem semSeq {t u : TS} {f g : SF} (h1 : SemS K cl W t f) (h2 : SemS K cl W u g) : SemS K cl W (tSeq t u) (sSeq f g) := by
  intro ρ σ G H Fs env D hq
  refine h1 ρ σ G H Fs env _ ?_
  rw [sSeq_eq] at hq
  cases e : f ρ with
  | ok fl ρ1 =>
    rw [e] at hq
    cases fl with
    | nx => exact fun σ' G' H' Fs' e' s => h2 ρ1 σ' G' H' Fs' e' D (PostS.mono s hq)
    | bk => exact hq
    | ct => exact hq
    | rt k d => exact hq
  | ex c ρ1 => rw [e] at hq; exact hq
  | bad => rw [e] at hq; exact hq
theorem Sx.same {U : Addr → Prop} (gh : Same G H) : Sx U G H U G H := Sx.refl gh
theorem semNil : SemS K cl W tNext sNil := fun ρ σ G H Fs env D hq => hq σ G H Fs env (Sx.refl env.gh)
/-- an expression's value goes on into a statement -/
def toS {α : Type} (r : R α) (ρ : Env) (g : α → RS) : RS := match r with
  | .ok a => g a
  | .ex c => .ex c ρ
  | .bad => .bad
@[simp] theorem toS_ok {α : Type} (a : α) (ρ : Env) (g : α → RS) : toS (.ok a) ρ g = g a := rfl
@[simp] theorem toS_ex {α : Type} (c : Str) (ρ : Env) (g : α → RS) : toS (.ex c : R α) ρ g = .ex c ρ := rfl
@[simp] theorem toS_bad {α : Type} (ρ : Env) (g : α → RS) : toS (.bad : R α) ρ g = .bad := rfl
theorem SemE.useS {t : TE} {F : EF} (h : SemE K cl W t F) (env : EnvR K cl ρ σ G H Fs) {g : Vl → RS} {D : Ends} (hq : PostS K cl W (Un Fs) G H D (toS (F ρ) ρ g)) {C : VK}
    (step : ∀ x v G' H' F', F ρ = .ok x → Px G H G' H' → EnvR K cl ρ σ G' H' Fs → Own K cl H' G' x.k v x.d F' → Foo H G' H' x.b F' → PostS K cl W (Un Fs) G H D (g x) → C v H') : t σ H C := by
  refine h ρ σ G H Fs env C ?_
  cases e : F ρ with
  | ok x =>
    rw [e] at hq
    exact fun v G' H' F' p o f => step x v G' H' F' e p (env.px p) o f hq
  | ex c =>
    rw [e] at hq
    exact fun G' H' p => hq σ G' H' Fs (env.px p) p.sx
  | bad =>
    rw [e] at hq
    exact hq
theorem SemT.useS {t : TT} {F : TF} (h : SemT K cl W t F) (env : EnvR K cl ρ σ G H Fs) {g : Bool → RS} {D : Ends} (hq : PostS K cl W (Un Fs) G H D (toS (F ρ) ρ g)) {C : Bool → Hp → Prop}
    (step : ∀ x G' H', F ρ = .ok x → Px G H G' H' → EnvR K cl ρ σ G' H' Fs → PostS K cl W (Un Fs) G' H' D (g x) → C x H') : t σ H C := by
  refine h ρ σ G H Fs env C ?_
  cases e : F ρ with
  | ok x =>
    rw [e] at hq
    exact fun G' H' p => step x G' H' e p (env.px p) (PostS.mono p.sx hq)
  | ex c =>
    rw [e] at hq
    exact fun G' H' p => hq σ G' H' Fs (env.px p) p.sx
  | bad =>
    rw [e] at hq
    exact hq
/-! x = e -/
def stV (i : Nat) (ρ : Env) : Vl → RS
  | ⟨false, k, d⟩ => .ok .nx (ρ.set i (some (k, d)))
  | ⟨true, _, d⟩ => if scal d then .ok .nx (ρ.set i (some (0, d))) else .bad
@[simp] theorem stV_f (i : Nat) (ρ : Env) (k : Nat) (d : D) : stV i ρ ⟨false, k, d⟩ = .ok .nx (ρ.set i (some (k, d))) := rfl
@[simp] theorem stV_t (i : Nat) (ρ : Env) (k : Nat) (d : D) : stV i ρ ⟨true, k, d⟩ = if scal d then .ok .nx (ρ.set i (some (0, d))) else .bad := rfl
def sSet (i : Nat) (f : EF) : SF := fun ρ => toS (f ρ) ρ (stV i ρ)
@[simp] theorem sSet_eq (i : Nat) (f : EF) (ρ : Env) : sSet i f ρ = toS (f ρ) ρ (stV i ρ) := rfl
theorem foo_un (env : EnvR K cl ρ σ G H Fs) {F : Addr → Prop} (f : Foo H G' H' false F) (a : Addr) (fa : F a) : ¬ Un Fs a := fun ⟨i, z⟩ => by
  obtain ⟨⟨o, ho⟩, _⟩ := env.dom i a z
  rw [(f a fa).2.2 rfl] at ho
  cases ho
theorem sx_set (env : EnvR K cl ρ σ G H Fs) (p : Px G H G' H') {F : Addr → Prop} (f : Foo H G' H' false F) (i : Nat) : Sx (Un Fs) G H (Un fun j => if j = i then F else Fs j) G' H' := by
  have s := p.sx (U := Un Fs)
  refine ⟨s.gg, s.gh, s.fr, s.th, fun a ⟨j, h⟩ => ?_, s.gn⟩
  dsimp only at h
  by_cases hj : j = i
  · rw [if_pos hj] at h
    exact .inr ((f a h).2.2 rfl)
  · rw [if_neg hj] at h
    exact .inl ⟨j, h⟩
theorem setEnv (env : EnvR K cl ρ σ G H Fs) (p : Px G H G' H') {F : Addr → Prop} (f : Foo H G' H' false F) {i k : Nat} {v : V} {d : D} (o : Own K cl H' G' k v d F) (hx : cl.fix i = none) :
    EnvR K cl (ρ.set i (some (k, d))) (σ.set i (some v)) G' H' (fun j => if j = i then F else Fs j) :=
  (env.px p).set o (fun a fa => ⟨(f a fa).1, (f a fa).2.1, fun j _ z => foo_un env f a fa ⟨j, z⟩⟩) (fun u h => by rw [hx] at h; cases h)
theorem semSet {i : Nat} {t : TE} {f : EF} (h : SemE K cl W t f) (hx : cl.fix i = none) : SemS K cl W (tAsg t (gName i)) (sSet i f) := by
  intro ρ σ G H Fs env D hq
  refine h.useS env hq fun x v G' H' F' _ p env' o fo hq1 => ?_
  obtain ⟨b, k, d⟩ := x
  cases b with
  | false => exact hq1 _ G' H' _ (setEnv env p fo o hx) (sx_set env p fo i)
  | true =>
    rw [stV_t] at hq1
    cases hs : B.scal d with
    | false => rw [hs] at hq1; exact hq1.elim
    | true =>
      rw [hs] at hq1
      exact hq1 _ G' H' _ (setEnv (F := fun _ => False) env p noFoo (k := 0) (o.scal' hs) hx) (sx_set env p noFoo i)
/-! return -/
def rtV (ρ : Env) : Vl → RS
  | ⟨false, k, d⟩ => .ok (.rt k d) ρ
  | ⟨true, _, d⟩ => if scal d then .ok (.rt 0 d) ρ else .bad
@[simp] theorem rtV_f (ρ : Env) (k : Nat) (d : D) : rtV ρ ⟨false, k, d⟩ = .ok (.rt k d) ρ := rfl
@[simp] theorem rtV_t (ρ : Env) (k : Nat) (d : D) : rtV ρ ⟨true, k, d⟩ = if scal d then .ok (.rt 0 d) ρ else .bad := rfl
def sRet (f : EF) : SF := fun ρ => toS (f ρ) ρ (rtV ρ)
@[simp] theorem sRet_eq (f : EF) (ρ : Env) : sRet f ρ = toS (f ρ) ρ (rtV ρ) := rfl
theorem sx_ret (p : Px G H G' H') {F : Addr → Prop} (f : Foo H G' H' false F) : Sx (Un Fs) G H (fun a => Un Fs a ∨ F a) G' H' := by
  have s := p.sx (U := Un Fs)
  exact ⟨s.gg, s.gh, s.fr, s.th, fun a h => h.elim .inl fun fa => .inr ((f a fa).2.2 rfl), s.gn⟩
theorem semRet {t : TE} {f : EF} (h : SemE K cl W t f) : SemS K cl W (tRet t) (sRet f) := by
  intro ρ σ G H Fs env D hq
  refine h.useS env hq fun x v G' H' F' _ p env' o fo hq1 => ?_
  obtain ⟨b, k, d⟩ := x
  cases b with
  | false => exact hq1 _ v G' H' Fs F' env' o (fun a fa => ⟨(fo a fa).1, (fo a fa).2.1, foo_un env fo a fa⟩) (sx_ret p fo)
  | true =>
    rw [rtV_t] at hq1
    cases hs : B.scal d with
    | false => rw [hs] at hq1; exact hq1.elim
    | true =>
      rw [hs] at hq1
      exact hq1 _ v G' H' Fs (fun _ => False) env' (o.scal' hs) (fun a fa => fa.elim) (sx_ret p noFoo)
/-- return x: what x owns is handed on -/
def sRetV (i : Nat) : SF := fun ρ => match ρ[i]? with
  | some (some (k, d)) => .ok (.rt k d) (ρ.set i none)
  | _ => .bad
/-! if -/
def sIf (c : TF) (f g : SF) : SF := fun ρ => toS (c ρ) ρ fun b => if b then f ρ else g ρ
@[simp] theorem sIf_eq (c : TF) (f g : SF) (ρ : Env) : sIf c f g ρ = toS (c ρ) ρ fun b => if b then f ρ else g ρ := rfl
theorem semIf {t : TT} {c : TF} {u v : TS} {f g : SF} (h : SemT K cl W t c) (h1 : SemS K cl W u f) (h2 : SemS K cl W v g) : SemS K cl W (tIfS t u v) (sIf c f g) := by
  intro ρ σ G H Fs env D hq
  refine h.useS env hq fun b G' H' _ p env' hq1 => ?_
  cases b with
  | true => exact iteT (h1 ρ σ G' H' Fs env' D hq1)
  | false => exact iteF (h2 ρ σ G' H' Fs env' D hq1)
/-! an expression alone -/
def sExp (f : EF) : SF := fun ρ => toS (f ρ) ρ fun _ => .ok .nx ρ
@[simp] theorem sExp_eq (f : EF) (ρ : Env) : sExp f ρ = toS (f ρ) ρ fun _ => .ok .nx ρ := rfl
/-! loops -/
/-- one turn of a while: on, or the end -/
def wTurn (c : TF) (f : SF) (ρ : Env) : Env ⊕ RS := match c ρ with
  | .ok true => (match f ρ with
    | .ok .nx ρ1 => .inl ρ1
    | .ok .ct ρ1 => .inl ρ1
    | .ok .bk ρ1 => .inr (.ok .nx ρ1)
    | r => .inr r)
  | .ok false => .inr (.ok .nx ρ)
  | .ex e => .inr (.ex e ρ)
  | .bad => .inr .bad
def loopN (g : Env → Env ⊕ RS) : Nat → Env → Option RS
  | 0, _ => none
  | n + 1, ρ => match g ρ with
    | .inl ρ1 => loopN g n ρ1
    | .inr r => some r
theorem loopN_mono (g : Env → Env ⊕ RS) : ∀ (n : Nat) (ρ : Env) (r : RS), loopN g n ρ = some r → loopN g (n + 1) ρ = some r
  | 0, ρ, r, h => nomatch h
  | n + 1, ρ, r, h => by
    show (match g ρ with | .inl ρ1 => loopN g (n + 1) ρ1 | .inr r => some r) = some r
    have h' : (match g ρ with | .inl ρ1 => loopN g n ρ1 | .inr r => some r) = some r := h
    cases e : g ρ with
    | inl ρ1 => rw [e] at h'; exact loopN_mono g n ρ1 r h'
    | inr r1 => rw [e] at h'; exact h'
theorem loopN_add (g : Env → Env ⊕ RS) {n : Nat} (m : Nat) {ρ : Env} {r : RS} (h : loopN g n ρ = some r) : loopN g (n + m) ρ = some r := by
  induction m with
  | zero => exact h
  | succ m ih => exact loopN_mono g _ _ _ ih
open Classical in
noncomputable def loopO (g : Env → Env ⊕ RS) (ρ : Env) : RS := if h : ∃ r n, loopN g n ρ = some r then h.choose else .bad
theorem loopO_of {g : Env → Env ⊕ RS} {n : Nat} {ρ : Env} {r : RS} (h : loopN g n ρ = some r) : loopO g ρ = r := by
  have ex : ∃ r n, loopN g n ρ = some r := ⟨r, n, h⟩
  unfold loopO
  rw [dif_pos ex]
  obtain ⟨m, hm⟩ := ex.choose_spec
  have h1 := loopN_add g m h
  have h2 := loopN_add g n hm
  rw [Nat.add_comm] at h2
  rw [h1] at h2
  exact (Option.some.inj h2).symm
theorem loopO_ex {g : Env → Env ⊕ RS} {ρ : Env} (h : loopO g ρ ≠ .bad) : ∃ n, loopN g n ρ = some (loopO g ρ) := by
  by_cases ex : ∃ r n, loopN g n ρ = some r
  · obtain ⟨r, n, hn⟩ := ex
    exact ⟨n, by rw [loopO_of hn]; exact hn⟩
  · unfold loopO at h
    rw [dif_neg ex] at h
    exact (h rfl).elim
theorem loopO_eq (g : Env → Env ⊕ RS) (ρ : Env) : loopO g ρ = match g ρ with
  | .inl ρ1 => loopO g ρ1
  | .inr r => r := by
  cases e : g ρ with
  | inr r => exact loopO_of (n := 1) (by show (match g ρ with | .inl ρ1 => _ | .inr r => some r) = some r; rw [e])
  | inl ρ1 =>
    show loopO g ρ = loopO g ρ1
    by_cases ex : ∃ r n, loopN g n ρ1 = some r
    · obtain ⟨r, n, hn⟩ := ex
      rw [loopO_of hn]
      exact loopO_of (n := n + 1) (by show (match g ρ with | .inl ρ1 => loopN g n ρ1 | .inr r => some r) = some r; rw [e]; exact hn)
    · have e1 : loopO g ρ1 = .bad := by unfold loopO; rw [dif_neg ex]
      have e2 : loopO g ρ = .bad := by
        unfold loopO
        rw [dif_neg]
        rintro ⟨r, n, hn⟩
        cases n with
        | zero => cases hn
        | succ n =>
          have hn' : (match g ρ with | .inl ρ1 => loopN g n ρ1 | .inr r => some r) = some r := hn
          rw [e] at hn'
          exact ex ⟨r, n, hn'⟩
      rw [e1, e2]
noncomputable def sWhile (c : TF) (f : SF) : SF := loopO (wTurn c f)
theorem sWhile_eq (c : TF) (f : SF) (ρ : Env) : sWhile c f ρ = match wTurn c f ρ with
  | .inl ρ1 => sWhile c f ρ1
  | .inr r => r := loopO_eq _ ρ
theorem semWhile {t : TT} {c : TF} {u : TS} {f : SF} (h : SemT K cl W t c) (h1 : SemS K cl W u f) : SemS K cl W (tWhile t u) (sWhile c f) := by
  intro ρ σ G H Fs env D hq
  have hb : sWhile c f ρ ≠ .bad := fun e => by rw [e] at hq; exact hq
  obtain ⟨n0, hn0⟩ := loopO_ex hb
  refine ⟨fun m σ H => ∃ ρ G Fs r, EnvR K cl ρ σ G H Fs ∧ loopN (wTurn c f) m ρ = some r ∧ PostS K cl W (Un Fs) G H D r, ⟨n0, ρ, G, Fs, _, env, hn0, hq⟩, ?_⟩
  rintro m σ H ⟨ρ, G, Fs, r, env, hn, hp⟩
  cases m with
  | zero => cases hn
  | succ m =>
    have hn' : (match wTurn c f ρ with | .inl ρ1 => loopN (wTurn c f) m ρ1 | .inr r => some r) = some r := hn
    refine h ρ σ G H Fs env _ ?_
    cases ec : c ρ with
    | bad =>
      have e : wTurn c f ρ = .inr .bad := by unfold wTurn; rw [ec]
      rw [e] at hn'
      cases hn'
      exact hp
    | ex x =>
      have e : wTurn c f ρ = .inr (.ex x ρ) := by unfold wTurn; rw [ec]
      rw [e] at hn'
      cases hn'
      exact fun G' H' p => hp σ G' H' Fs (env.px p) p.sx
    | ok b =>
      intro G' H' p
      have env' := env.px p
      cases b with
      | false =>
        have e : wTurn c f ρ = .inr (.ok .nx ρ) := by unfold wTurn; rw [ec]
        rw [e] at hn'
        cases hn'
        exact iteF (hp σ G' H' Fs env' p.sx)
      | true =>
        refine iteT ⟨fun σ2 H2 => ∃ ρ G Fs r, EnvR K cl ρ σ2 G H2 Fs ∧ loopN (wTurn c f) m ρ = some r ∧ PostS K cl W (Un Fs) G H2 D r, fun σ2 H2 w => ⟨m, Nat.lt_succ_self m, w⟩, h1 ρ σ G' H' Fs env' _ ?_⟩
        have hp' := PostS.mono p.sx hp
        cases ef : f ρ with
        | bad =>
          have e : wTurn c f ρ = .inr .bad := by unfold wTurn; rw [ec]; dsimp only; rw [ef]
          rw [e] at hn'
          cases hn'
          exact hp
        | ex x ρ1 =>
          have e : wTurn c f ρ = .inr (.ex x ρ1) := by unfold wTurn; rw [ec]; dsimp only; rw [ef]
          rw [e] at hn'
          cases hn'
          exact hp'
        | ok fl ρ1 =>
          cases fl with
          | nx =>
            have e : wTurn c f ρ = .inl ρ1 := by unfold wTurn; rw [ec]; dsimp only; rw [ef]
            rw [e] at hn'
            exact fun σ2 G2 H2 F2 e2 s2 => ⟨ρ1, G2, F2, r, e2, hn', PostS.mono s2 hp'⟩
          | ct =>
            have e : wTurn c f ρ = .inl ρ1 := by unfold wTurn; rw [ec]; dsimp only; rw [ef]
            rw [e] at hn'
            exact fun σ2 G2 H2 F2 e2 s2 => ⟨ρ1, G2, F2, r, e2, hn', PostS.mono s2 hp'⟩
          | bk =>
            have e : wTurn c f ρ = .inr (.ok .nx ρ1) := by unfold wTurn; rw [ec]; dsimp only; rw [ef]
            rw [e] at hn'
            cases hn'
            exact hp'
          | rt k d =>
            have e : wTurn c f ρ = .inr (.ok (.rt k d) ρ1) := by unfold wTurn; rw [ec]; dsimp only; rw [ef]
            rw [e] at hn'
            cases hn'
            exact hp'
end
end B
namespace B
open PySem L2
section
variable {X : Cx} {cl : Clx} {W : WX} {pos : Pos}
/-! ### blocks -/
theorem eb_nil : EvB X cl W [] sNil := ⟨_, pss_nil, semNil⟩
theorem eb_one {s : Stmt} {f : SF} (h : EvS X cl W s f) : EvB X cl W [s] f := by
  obtain ⟨t, p, q⟩ := h
  exact ⟨t, pss_one p, q⟩
theorem eb_cons {s : Stmt} {r : List Stmt} {f g : SF} (h : EvS X cl W s f) (h2 : EvB X cl W r g) : EvB X cl W (s :: r) (sSeq f g) := by
  obtain ⟨t, p, q⟩ := h
  obtain ⟨u, p2, q2⟩ := h2
  exact ⟨_, pss_cons p p2, semSeq q q2⟩
def sNever : SF := fun _ => .bad
@[simp] theorem sNever_eq (ρ : Env) : sNever ρ = .bad := rfl
def sBk : SF := fun ρ => .ok .bk ρ
def sCt : SF := fun ρ => .ok .ct ρ
@[simp] theorem sBk_eq (ρ : Env) : sBk ρ = .ok .bk ρ := rfl
@[simp] theorem sCt_eq (ρ : Env) : sCt ρ = .ok .ct ρ := rfl
theorem es_break : EvS X cl W (.Break pos) sBk := ⟨_, ps_break, fun ρ σ G H Fs env D hq => hq σ G H Fs env (Sx.refl env.gh)⟩
theorem es_ret {e : Expr} {f : EF} (h : EvE X cl W e f) : EvS X cl W (.Return (some e) pos) (sRet f) := by
  obtain ⟨t, p, q⟩ := h
  exact ⟨_, ps_ret p, semRet q⟩
theorem es_set (i : Nat) {x : Str} {e : Expr} {f : EF} {pos' : Pos} (h : EvE X cl W e f) (hN : X.N.Nodup) (hi : X.N[i]? = some x := by rfl) (hx : Loc X.env.scope x := by first | exact Or.inl rfl | exact Or.inr rfl) (hs : swapsWith e (some (.Name x pos')) pos.line X.env = pure false := by rfl)
    (hf : X.fn x = true ∨ X.env.scope.names.lookup x = some .local := by first | exact .inl rfl | exact .inr rfl) (hfx : cl.fix i = none := by rfl) : EvS X cl W (.Assign [.Name x pos'] e pos) (sSet i (eS f)) := by
  obtain ⟨t, p, q⟩ := h
  exact ⟨_, ps_set hN hi hx p hs hf, semSet (semS q) hfx⟩
/-- the name owns what is new -/
theorem es_setO (i : Nat) {x : Str} {e : Expr} {f : EF} {pos' : Pos} (h : EvE X cl W e f) (hN : X.N.Nodup) (hi : X.N[i]? = some x := by rfl) (hx : Loc X.env.scope x := by first | exact Or.inl rfl | exact Or.inr rfl) (hs : swapsWith e (some (.Name x pos')) pos.line X.env = pure false := by rfl)
    (hf : X.fn x = true ∨ X.env.scope.names.lookup x = some .local := by first | exact .inl rfl | exact .inr rfl) (hfx : cl.fix i = none := by rfl) : EvS X cl W (.Assign [.Name x pos'] e pos) (sSet i f) := by
  obtain ⟨t, p, q⟩ := h
  exact ⟨_, ps_set hN hi hx p hs hf, semSet q hfx⟩
theorem es_if {c : Expr} {a b : List Stmt} {t : TF} {f g : SF} (hc : EvT X cl W c t) (ha : EvB X cl W a f) (hb : EvB X cl W b g) : EvS X cl W (.If c a b pos) (sIf t f g) := by
  obtain ⟨t, p, q⟩ := hc
  obtain ⟨u, p1, q1⟩ := ha
  obtain ⟨v, p2, q2⟩ := hb
  exact ⟨_, ps_if p p1 p2, semIf q q1 q2⟩
theorem es_while {c : Expr} {b : List Stmt} {t : TF} {f : SF} (hp : PassesOwn (model X.prog X.w) X.A X.env X.xe) (hc : EvT X cl W c t) (hb : EvB X cl W b f) : EvS X cl W (.While c b [] pos) (sWhile t f) := by
  obtain ⟨t, p, q⟩ := hc
  obtain ⟨u, p1, q1⟩ := hb
  exact ⟨_, ps_while hp p p1, semWhile q q1⟩
end

/-! ### what a for walks -/
def Yields (K : PySem.W.Frag) (cl : Str → Addr) (G0 : Hp) (J : It) (ds : List D) : Prop := ∀ (G H : Hp) (i : Nat), Same G0 G → Same G H →
  (∀ d, ds[i]? = some d → J.go i H ∧ ∀ v H', J.yld i H v H' → ∃ G', Px G H G' H' ∧ Rep K cl G' v d) ∧ (ds[i]? = none → J.stop i H)
abbrev IF := Env → R (List D)
def PY (K : PySem.W.Frag) (cl : Str → Addr) (Q : It → Hp → Prop) (ds : List D) (G H : Hp) : Prop := ∀ J G' H', Px G H G' H' → Yields K cl G' J ds → Q J H'
def SemI (K : PySem.W.Frag) (cl : Clx) (W : WX) (t : TI) (F : IF) : Prop := ∀ ρ σ G H Fs, EnvR K cl ρ σ G H Fs → ∀ Q, PostG cl W σ G H (PY K cl Q) (F ρ) → t σ H Q
def EvI (X : Cx) (cl : Clx) (W : WX) (tg e : Expr) (F : IF) : Prop := ∃ t, PI X tg e t ∧ SemI X.K cl W t F
theorem PY.mono {K : PySem.W.Frag} {cl : Str → Addr} {Q : It → Hp → Prop} : Mono (PY K cl Q) := fun x G H G' H' p h J G2 H2 p2 y => h J G2 H2 (p.trans p2) y
/-- a target takes an item -/
abbrev GF := D → Env → Option Env
def Wip (T : List Nat) (σ' σ : L2.St) : Prop := ∀ us : List Nat, (∀ j ∈ T, j ∈ us) → wipe σ' us = wipe σ us
def SemG (K : PySem.W.Frag) (cl : Clx) (t : TG) (g : GF) (T : List Nat) : Prop := ∀ ρ σ G H Fs v d, EnvR K cl ρ σ G H Fs → Rep K cl G v d → ∀ Q : L2.St → Hp → Prop,
  (match g d ρ with
    | some ρ' => ∀ σ' Fs', EnvR K cl ρ' σ' G H Fs' → (∀ a, Un Fs' a → Un Fs a) → Wip T σ' σ → Q σ' H
    | none => False) → t v σ H Q
def EvG (X : Cx) (cl : Clx) (e : Expr) (g : GF) (T : List Nat) : Prop := ∃ t, PG X e t ∧ SemG X.K cl t g T
def fTurn (g : GF) (f : SF) (d : D) (ρ : Env) : Env ⊕ RS := match g d ρ with
  | none => .inr .bad
  | some ρ0 => match f ρ0 with
    | .ok .nx ρ1 => .inl ρ1
    | .ok .ct ρ1 => .inl ρ1
    | .ok .bk ρ1 => .inr (.ok .nx ρ1)
    | r => .inr r
def sItems (g : GF) (f : SF) : List D → Env → RS
  | [], ρ => .ok .nx ρ
  | d :: ds, ρ => match fTurn g f d ρ with
    | .inl ρ1 => sItems g f ds ρ1
    | .inr r => r
@[simp] theorem sItems_nil (g : GF) (f : SF) (ρ : Env) : sItems g f [] ρ = .ok .nx ρ := rfl
theorem sItems_cons (g : GF) (f : SF) (d : D) (ds : List D) (ρ : Env) : sItems g f (d :: ds) ρ = match fTurn g f d ρ with
    | .inl ρ1 => sItems g f ds ρ1
    | .inr r => r := rfl
def sFor (w : IF) (g : GF) (f : SF) : SF := fun ρ => toS (w ρ) ρ fun ds => sItems g f ds ρ
@[simp] theorem sFor_eq (w : IF) (g : GF) (f : SF) (ρ : Env) : sFor w g f ρ = toS (w ρ) ρ fun ds => sItems g f ds ρ := rfl
section
variable {K : PySem.W.Frag} {cl : Clx} {W : WX} {ρ : Env} {σ : L2.St} {G H G' H' : Hp} {Fs Fs' : Foot}
theorem SemI.useS {t : TI} {F : IF} (h : SemI K cl W t F) (env : EnvR K cl ρ σ G H Fs) {g : List D → RS} {D : Ends} (hq : PostS K cl W (Un Fs) G H D (toS (F ρ) ρ g)) {C : It → Hp → Prop}
    (step : ∀ x J G' H', F ρ = .ok x → Px G H G' H' → EnvR K cl ρ σ G' H' Fs → Yields K cl G' J x → PostS K cl W (Un Fs) G' H' D (g x) → C J H') : t σ H C := by
  refine h ρ σ G H Fs env C ?_
  cases e : F ρ with
  | ok x =>
    rw [e] at hq
    exact fun J G' H' p y => step x J G' H' e p (env.px p) y (PostS.mono p.sx hq)
  | ex c =>
    rw [e] at hq
    exact fun G' H' p => hq σ G' H' Fs (env.px p) p.sx
  | bad =>
    rw [e] at hq
    exact hq
theorem sx_sub {U U' : Addr → Prop} (gh : Same G H) (h : ∀ a, U' a → U a) : Sx U G H U' G H := ⟨Same.refl _, gh, fun _ _ e _ => e, fun _ o e => ⟨o, e⟩, fun _ u => .inl (h _ u), fun _ _ e => .inl e⟩
theorem semFor {wi : TI} {tg : TG} {tb : TS} {w : IF} {g : GF} {f : SF} (h : SemI K cl W wi w) {T : List Nat} (hg : SemG K cl tg g T) (hb : SemS K cl W tb f) : SemS K cl W (tFor wi tg tb) (sFor w g f) := by
  intro ρ σ G H Fs env D hq
  refine h.useS env hq fun ds J G0 H0 _ p0 env0 y hq0 => ?_
  refine ⟨fun i m σ H => m = ds.length - i ∧ i ≤ ds.length ∧ ∃ ρ G Fs, EnvR K cl ρ σ G H Fs ∧ Same G0 G ∧ PostS K cl W (Un Fs) G H D (sItems g f (ds.drop i) ρ), ⟨ds.length, rfl, Nat.zero_le _, ρ, G0, Fs, env0, Same.refl _, hq0⟩, ?_⟩
  rintro i m σ H ⟨rfl, hi, ρ, G, Fs, env, sg, hp⟩
  obtain ⟨y1, y2⟩ := y G H i sg env.gh
  cases e : ds[i]? with
  | none =>
    refine .inl ⟨y2 e, ?_⟩
    have hd : ds.drop i = [] := List.drop_eq_nil_of_le (List.getElem?_eq_none_iff.mp e)
    rw [hd] at hp
    exact hp σ G H Fs env (Sx.refl env.gh)
  | some d =>
    have hlt : i < ds.length := (List.getElem?_eq_some_iff.mp e).1
    have hd : ds.drop i = d :: ds.drop (i + 1) := by
      rw [List.drop_eq_getElem_cons hlt]
      congr 1
      exact (List.getElem?_eq_some_iff.mp e).2
    rw [hd, sItems_cons] at hp
    obtain ⟨go, yl⟩ := y1 d e
    refine .inr ⟨go, fun σ' H' => ∃ ρ G Fs, EnvR K cl ρ σ' G H' Fs ∧ Same G0 G ∧ PostS K cl W (Un Fs) G H' D (sItems g f (ds.drop (i + 1)) ρ), fun σ' H' n => ⟨ds.length - (i + 1), by omega, rfl, hlt, n⟩, fun v H' hy => ?_⟩
    obtain ⟨G1, p1, r1⟩ := yl v H' hy
    have env1 := env.px p1
    refine hg ρ σ G1 H' Fs v d env1 r1 _ ?_
    cases eg : g d ρ with
    | none =>
      have ef : fTurn g f d ρ = .inr .bad := by unfold fTurn; rw [eg]
      rw [ef] at hp
      exact hp
    | some ρ0 =>
      intro σ2 F2 env2 hsub _
      have sx2 : Sx (Un Fs) G H (Un F2) G1 H' := p1.sx.trans (sx_sub env1.gh hsub)
      have hp2 := PostS.mono sx2 hp
      refine hb ρ0 σ2 G1 H' F2 env2 _ ?_
      cases ef : f ρ0 with
      | bad =>
        have e2 : fTurn g f d ρ = .inr .bad := by unfold fTurn; rw [eg]; dsimp only; rw [ef]
        rw [e2] at hp
        exact hp
      | ex x ρ1 =>
        have e2 : fTurn g f d ρ = .inr (.ex x ρ1) := by unfold fTurn; rw [eg]; dsimp only; rw [ef]
        rw [e2] at hp2
        exact hp2
      | ok fl ρ1 =>
        cases fl with
        | nx =>
          have e2 : fTurn g f d ρ = .inl ρ1 := by unfold fTurn; rw [eg]; dsimp only; rw [ef]
          rw [e2] at hp2
          exact fun σ3 G3 H3 F3 e3 s3 => ⟨ρ1, G3, F3, e3, (sg.trans p1.gg).trans s3.gg, PostS.mono s3 hp2⟩
        | ct =>
          have e2 : fTurn g f d ρ = .inl ρ1 := by unfold fTurn; rw [eg]; dsimp only; rw [ef]
          rw [e2] at hp2
          exact fun σ3 G3 H3 F3 e3 s3 => ⟨ρ1, G3, F3, e3, (sg.trans p1.gg).trans s3.gg, PostS.mono s3 hp2⟩
        | bk =>
          have e2 : fTurn g f d ρ = .inr (.ok .nx ρ1) := by unfold fTurn; rw [eg]; dsimp only; rw [ef]
          rw [e2] at hp2
          exact hp2
        | rt k d1 =>
          have e2 : fTurn g f d ρ = .inr (.ok (.rt k d1) ρ1) := by unfold fTurn; rw [eg]; dsimp only; rw [ef]
          rw [e2] at hp2
          exact hp2
end
section
variable {X : Cx} {cl : Clx} {W : WX} {pos : Pos}
theorem es_for {tg iter : Expr} {body : List Stmt} {w : IF} {g : GF} {f : SF} (hp : PassesOwn (model X.prog X.w) X.A X.env X.xe) (hc : X.calm = true) (hi : EvI X cl W tg iter w) {T : List Nat} (hg : EvG X cl tg g T) (hb : EvB X cl W body f)
    (hs : ∀ x, foldedSetIterable iter X.env x = pure x := by intro _; rfl) : EvS X cl W (.For tg iter body [] pos) (sFor w g f) := by
  obtain ⟨t, p, q⟩ := hi
  obtain ⟨u, p1, q1⟩ := hg
  obtain ⟨v, p2, q2⟩ := hb
  exact ⟨_, ps_for hp hc p p1 p2 hs, semFor q q1 q2⟩
/-! targets -/
def gN (i : Nat) : GF := fun d ρ => some (ρ.set i (some (0, d)))
@[simp] theorem gN_eq (i : Nat) (d : D) (ρ : Env) : gN i d ρ = some (ρ.set i (some (0, d))) := rfl
theorem wipe_set : ∀ (us : List Nat) (σ : L2.St) (i : Nat) (z : Option V), wipe (σ.set i z) us = if i ∈ us then wipe σ us else (wipe σ us).set i z
  | [], σ, i, z => by simp [wipe]
  | u :: us, σ, i, z => by
    unfold wipe
    rw [wipe_set us σ i z]
    by_cases h : i ∈ us
    · rw [if_pos h, if_pos (List.mem_cons_of_mem _ h)]
    · rw [if_neg h]
      by_cases h2 : i = u
      · subst h2
        rw [if_pos List.mem_cons_self, List.set_set]
      · rw [if_neg (by simp [h, h2]), List.set_comm _ _ h2]
theorem semGN {K : PySem.W.Frag} (i : Nat) (hx : cl.fix i = none) : SemG K cl (gName i) (gN i) [i] := by
  intro ρ σ G H Fs v d env r Q hq
  refine hq _ _ (env.set (F := fun _ => False) r (fun a fa => fa.elim) fun u h => by rw [hx] at h; cases h) (fun a ⟨j, h⟩ => ?_) fun us hu => by rw [wipe_set, if_pos (hu i List.mem_cons_self)]
  by_cases hj : j = i
  · simp only [if_pos hj] at h
  · simp only [if_neg hj] at h
    exact ⟨j, h⟩
theorem eg_name (i : Nat) {x : Str} (hN : X.N.Nodup) (hi : X.N[i]? = some x := by rfl) (hx : Loc X.env.scope x := by first | exact Or.inl rfl | exact Or.inr rfl) (hf : X.fn x = true ∨ X.env.scope.names.lookup x = some .local := by first | exact .inl rfl | exact .inr rfl) (hfx : cl.fix i = none := by rfl) : EvG X cl (.Name x pos) (gN i) [i] :=
  ⟨_, pg_name hN hi hx hf, semGN i hfx⟩
abbrev GsF := List D → Env → Option Env
def SemGs (K : PySem.W.Frag) (cl : Clx) (t : TGs) (g : GsF) (T : List Nat) : Prop := ∀ ρ σ G H Fs vs ds, EnvR K cl ρ σ G H Fs → RepL K cl G vs ds → ∀ Q : L2.St → Hp → Prop,
  (match g ds ρ with
    | some ρ' => ∀ σ' Fs', EnvR K cl ρ' σ' G H Fs' → (∀ a, Un Fs' a → Un Fs a) → Wip T σ' σ → Q σ' H
    | none => False) → t vs σ H Q
def EvGs (X : Cx) (cl : Clx) (e : List Expr) (g : GsF) (T : List Nat) : Prop := ∃ t, PGs X e t ∧ SemGs X.K cl t g T
def gsN : GsF := fun ds ρ => match ds with
  | [] => some ρ
  | _ => none
def gsC (g : GF) (h : GsF) : GsF := fun ds ρ => match ds with
  | d :: r => (g d ρ).bind (h r)
  | _ => none
@[simp] theorem gsN_nil (ρ : Env) : gsN [] ρ = some ρ := rfl
@[simp] theorem gsC_cons (g : GF) (h : GsF) (d : D) (r : List D) (ρ : Env) : gsC g h (d :: r) ρ = (g d ρ).bind (h r) := rfl
theorem egs_nil : EvGs X cl [] gsN [] := by
  refine ⟨_, pgs_nil, fun ρ σ G H Fs vs ds env r Q hq => ?_⟩
  cases ds with
  | nil =>
    have e : vs = [] := List.length_eq_zero_iff.mp r.1
    exact ⟨e, hq σ Fs env (fun _ z => z) fun _ _ => rfl⟩
  | cons d ds => exact hq.elim
theorem egs_cons {e : Expr} {es : List Expr} {g : GF} {h : GsF} {T T2 : List Nat} (h1 : EvG X cl e g T) (h2 : EvGs X cl es h T2) (hs : (assignEach (e :: es) X.env).map (·.2) = assign e X.env :: (assignEach es X.env).map (·.2) := by rfl) : EvGs X cl (e :: es) (gsC g h) (T ++ T2) := by
  obtain ⟨t, p, q⟩ := h1
  obtain ⟨u, p2, q2⟩ := h2
  refine ⟨_, pgs_cons p p2 hs, fun ρ σ G H Fs vs ds env r Q hq => ?_⟩
  cases ds with
  | nil => exact hq.elim
  | cons d ds =>
    cases vs with
    | nil => have := r.1; simp at this
    | cons v vs =>
      have r1 : Rep X.K cl G v d := r.2 0 v d rfl rfl
      have r2 : RepL X.K cl G vs ds := ⟨by have := r.1; simpa using this, fun i v' d' h1 h2 => r.2 (i + 1) v' d' h1 h2⟩
      refine ⟨v, vs, rfl, q ρ σ G H Fs v d env r1 _ ?_⟩
      rw [gsC_cons] at hq
      cases e1 : g d ρ with
      | none => rw [e1] at hq; exact hq
      | some ρ1 =>
        rw [e1] at hq
        intro σ1 F1 env1 hs1 hw1
        refine q2 ρ1 σ1 G H F1 vs ds env1 r2 Q ?_
        have hq' : (match h ds ρ1 with | some ρ' => ∀ σ' Fs', EnvR X.K cl ρ' σ' G H Fs' → (∀ a, Un Fs' a → Un Fs a) → Wip (T ++ T2) σ' σ → Q σ' H | none => False) := hq
        cases e2 : h ds ρ1 with
        | none => rw [e2] at hq'; exact hq'
        | some ρ2 =>
          rw [e2] at hq'
          exact fun σ2 F2 env2 hs2 hw2 => hq' σ2 F2 env2 (fun a z => hs1 a (hs2 a z)) fun us hu => (hw2 us fun j hj => hu j (List.mem_append_right _ hj)).trans (hw1 us fun j hj => hu j (List.mem_append_left _ hj))
def gT (n : Nat) (h : GsF) : GF := fun d ρ => match d with
  | .tup ds => if ds.length = n then h ds ρ else none
  | _ => none
@[simp] theorem gT_eq (n : Nat) (h : GsF) (ds : List D) (ρ : Env) : gT n h (.tup ds) ρ = if ds.length = n then h ds ρ else none := rfl
theorem eg_tup {es : List Expr} {k} {h : GsF} {n : Nat} {T : List Nat} (hc : X.calm = true) (h1 : EvGs X cl es h T) (hn : (assignEach es X.env).length = n := by rfl) (hst : (assignEach es X.env).findIdx? (·.1) = none := by rfl) : EvG X cl (.Tuple es k pos) (gT n h) T := by
  obtain ⟨t, p, q⟩ := h1
  refine ⟨_, pg_tup hc p hn hst, fun ρ σ G H Fs v d env r Q hq => ?_⟩
  cases d with
  | tup ds =>
    cases r with
    | tup hS hl hr =>
      rw [gT_eq] at hq
      by_cases hlen : ds.length = n
      · rw [if_pos hlen] at hq
        exact ⟨_, _, rfl, .inl (rdEx env.gh hS), hl.trans hlen, q ρ σ G H Fs _ _ env ⟨hl, hr⟩ Q hq⟩
      · rw [if_neg hlen] at hq
        exact hq.elim
  | _ => exact hq.elim
/-- a, b = e -/
def sAsg (f : EF) (g : GF) : SF := fun ρ => toS (f ρ) ρ fun x => match g x.d ρ with
  | some ρ' => .ok .nx ρ'
  | none => .bad
@[simp] theorem sAsg_eq (f : EF) (g : GF) (ρ : Env) : sAsg f g ρ = toS (f ρ) ρ fun x => match g x.d ρ with
  | some ρ' => .ok .nx ρ'
  | none => .bad := rfl
end
end B
namespace B
open PySem L2

/-! ### defs -/
abbrev Fn := List D → R Vl
def PF (K : PySem.W.Frag) (cl : Str → Addr) (G H : Hp) (Q : VK) (E : XK) : R Vl → Prop
  | .ok x => x.b = false ∧ PV K cl Q x G H
  | .ex c => ∀ G' H', Px G H G' H' → E (.ref (cl c)) none H'
  | .bad => False
/-- the promise of a def that reads its arguments alone -/
def spP (K : PySem.W.Frag) (cl : Str → Addr) (n : Nat) (f : Fn) : Sp := fun vs H Q E => vs.length = n ∧ ∃ G ds, Same G H ∧ RepL K cl G vs ds ∧ PF K cl G H Q E (f ds)
def rho0 (n : Nat) (ds : List D) : Env := ds.map (fun d => some (0, d)) ++ List.replicate (n - ds.length) none
def outF : RS → R Vl
  | .ok .nx _ => .ok (sh .non)
  | .ok (.rt k d) _ => .ok ⟨false, k, d⟩
  | .ex c _ => .ex c
  | _ => .bad
@[simp] theorem outF_nx (ρ : Env) : outF (.ok .nx ρ) = .ok (sh .non) := rfl
@[simp] theorem outF_rt (ρ : Env) (k : Nat) (d : D) : outF (.ok (.rt k d) ρ) = .ok ⟨false, k, d⟩ := rfl
@[simp] theorem outF_ex (ρ : Env) (c : Str) : outF (.ex c ρ) = .ex c := rfl
def runF (n : Nat) (b : SF) : Fn := fun ds => outF (b (rho0 n ds))
abbrev cxB (P : Program) (w : World) (K : PySem.W.Frag) (mg : Str → Option Value) (base : Heap) (N : List Str) (qual : Str) (sc : Scope) (f : Addr) (cdv : Value) (A : Around) (outer : List PySem.Env) (s : Shared) (H : Hp) (E : XK) : Cx :=
  cxOf (L2.CX P w) P w K mg base N qual sc f cdv A outer s H E
abbrev wB (E : XK) : WX := fun c d _ H => E c d H
def BodyOk (P : Program) (w : World) (K : PySem.W.Frag) (mg : Str → Option Value) (base : Heap) (cl : Clx) (k : Nat) (N : List Str) (qual : Str) (st : Stmt) (b : SF) : Prop :=
  ∀ (f : Addr) (cdv : Value) (A : Around) (outer : List PySem.Env) (s : Shared) (H : Hp) (E : XK), Room k (A.deeper (PyProof.Rows.envOfC qual (defScope st) s.heap.objs.size f cdv)) → EvB (cxB P w K mg base N qual (defScope st) f cdv A outer s H E) cl (wB E) (defBody st) b
section
variable {P : Program} {w : World} {K : PySem.W.Frag} {mg : Str → Option Value} {base : Heap} {cl : Str → Addr}
theorem rho0_get {n : Nat} {ds : List D} {i k : Nat} {d : D} (h : (rho0 n ds)[i]? = some (some (k, d))) : k = 0 ∧ ds[i]? = some d := by
  unfold rho0 at h
  by_cases hi : i < ds.length
  · rw [List.getElem?_append_left (by simpa using hi), List.getElem?_map] at h
    cases e : ds[i]? with
    | none => rw [e] at h; cases h
    | some d' =>
      rw [e] at h
      cases h
      exact ⟨rfl, rfl⟩
  · rw [List.getElem?_append_right (by simpa using hi), List.getElem?_replicate] at h
    split at h <;> cases h
theorem env0 {cl : Str → Addr} {N : List Str} {vs : List V} {ds : List D} {G H : Hp} (gh : Same G H) (r : RepL K cl G vs ds) : EnvR K (cl0 cl) (rho0 N.length ds) (L2.start N vs) G H (fun _ _ => False) := by
  refine ⟨by simp only [rho0, L2.start, List.length_append, List.length_map, List.length_replicate, r.1], gh, fun i k d h => ?_, fun i j a h => h.elim, fun i a h => h.elim, fun i v h => nomatch h⟩
  obtain ⟨rfl, hd⟩ := rho0_get h
  have hi : i < ds.length := (List.getElem?_eq_some_iff.mp hd).1
  have hv : i < vs.length := by rw [r.1]; exact hi
  refine ⟨vs[i], ?_, r.2 i _ d (List.getElem?_eq_getElem hv) hd⟩
  unfold L2.start
  rw [List.getElem?_append_left (by simpa using hv), List.getElem?_map, List.getElem?_eq_getElem hv]
  rfl
theorem fn_pure {x qual : Str} {st : Stmt} {f : Addr} {fd : FuncData} {N ps : List Str} {k : Nat} {b : SF} {dvs : List V} (F : FunD K x qual (defArgs st) (defBody st) (defScope st) dvs [] f fd) (S : FnScope N ps (defScope st)) (hb : BodyOk P w K mg base (cl0 cl) k N qual st b) :
    FnOk P w K mg base (L2.CX P w) (k + 1) f fd ps (spP K cl ps.length (runF N.length b)) := by
  refine F.ok S (fun vs H Q E h => h.1) fun cdv A outer s H vs Q E hr h => ?_
  obtain ⟨hl, G, ds, gh, r, q⟩ := h
  obtain ⟨t, pt, st⟩ := hb f cdv A outer s H E hr
  refine ⟨t, pt, st _ _ G H _ (env0 gh r) _ ?_⟩
  unfold runF at q
  cases e : b (rho0 N.length ds) with
  | bad => rw [e] at q; exact q
  | ex c ρ =>
    rw [e] at q
    exact fun σ' G' H' Fs' e' s => q G' H' (s.px fun a ⟨i, z⟩ => z)
  | ok fl ρ =>
    rw [e] at q
    cases fl with
    | bk => exact q.elim
    | ct => exact q.elim
    | nx => exact fun σ' G' H' Fs' e' s => q.2 .non G' H' (fun _ => False) (s.px fun a ⟨i, z⟩ => z) Rep.non noFoo
    | rt k d =>
      intro σ' v G' H' Fs' F e' o f s
      have p : Px G H G' H' := s.px fun a ⟨i, z⟩ => z
      refine q.2 v G' H' F p o fun a fa => ⟨(f a fa).1, (f a fa).2.1, fun _ => ?_⟩
      rcases s.un a (.inr fa) with ⟨_, z⟩ | z
      · exact z.elim
      · exact z
theorem runF_nb {n : Nat} {b : SF} {ds : List D} {x : Vl} (h : runF n b ds = .ok x) : x.b = false := by
  unfold runF at h
  cases e : b (rho0 n ds) with
  | bad => rw [e] at h; cases h
  | ex c ρ => rw [e] at h; cases h
  | ok fl ρ =>
    rw [e] at h
    cases fl with
    | bk => cases h
    | ct => cases h
    | nx => cases h; rfl
    | rt k d => cases h; rfl
/-- a def as its callers know it -/
structure Callee (P : Program) (w : World) (K : PySem.W.Frag) (mg : Str → Option Value) (base : Heap) (cl : Str → Addr) (x : Str) (k n : Nat) (f : Fn) : Prop where
  nb : ∀ ds x, f ds = .ok x → x.b = false
  ex : ∃ fa fd ps, FnOk P w K mg base (L2.CX P w) k fa fd ps (spP K cl n f) ∧ mg x = some (.ref fa) ∧ PySem.W.keepIn K (.ref fa) = true ∧ Binds K fd ps []
theorem Callee.of {x : Str} {st : Stmt} {fa : Addr} {fd : FuncData} {N ps : List Str} {k : Nat} {b : SF} (F : FunD K x x (defArgs st) (defBody st) (defScope st) [] [] fa fd) (g : mg x = some (.ref fa)) (S : FnScope N ps (defScope st)) (hb : BodyOk P w K mg base (cl0 cl) k N x st b)
    (h : ∀ (kV doc pm : Value) (an : Option Addr) (cdv ct : Value) (us : List Value), us.length = ps.length → bindArgs (PySem.W.fnOf x x (defArgs st) (defBody st) (defScope st) .none kV doc pm an cdv ct) ⟨us, []⟩ = pure (ps.zip us)) :
    Callee P w K mg base cl x (k + 1) ps.length (runF N.length b) := ⟨fun _ _ => runF_nb, fa, fd, ps, fn_pure F S hb, g, F.kp, F.bindsN h⟩
end
section
variable {X : Cx} {cl : Clx} {W : WX} {pos : Pos}
def eCall (f : Fn) (g : AF) : EF := fun ρ => (g ρ).bind f
@[simp] theorem eCall_eq (f : Fn) (g : AF) (ρ : Env) : eCall f g ρ = (g ρ).bind f := rfl
theorem ev_call {x : Str} {k n : Nat} {f : Fn} {p : Pos} {e : Expr} {es : List Expr} {g : AF} {c : Str → Addr} (C : Callee X.prog X.w X.K X.mg X.base c x k n f) (hr : Room k X.A) (tk : Takes X W) (ha : EvA X cl W (e :: es) g) (hn : (e :: es).length = n := by rfl) (hg : Gl X x := by rfl)
    (hdb : (x == ("__debug__" : Str)) = false := by decide) (he : starEach (e :: es) X.env = (false, eval e X.env) :: starEach es X.env := by rfl) (hpl : (backTo pos (starEach es X.env)).any (·.1) = false := by rfl) (hcc : cl.c = c := by rfl) : EvE X cl W (.Call (.Name x p) (e :: es) [] pos) (eCall f g) := by
  subst hcc
  obtain ⟨nb, fa, fd, ps, F, gm, kp, bi⟩ := C
  obtain ⟨t, pt, st, hlen⟩ := ha
  refine ⟨_, pe_callS F hr hg gm kp bi (fun σ => passAt tk σ) pt hdb he hpl, fun ρ σ G H Fs env Q hq => ?_⟩
  refine st.use env PV.mono hq fun ds vs G1 H1 e1 p1 env1 r1 hq1 => ?_
  refine ⟨by rw [r1.1, hlen ρ ds e1]; exact hn, G1, ds, env1.gh, r1, ?_⟩
  cases ef : f ds with
  | bad => rw [ef] at hq1; exact hq1
  | ex c => rw [ef] at hq1; exact hq1
  | ok y =>
    rw [ef] at hq1
    exact ⟨nb ds y ef, hq1⟩
end
end B
namespace B
open PySem L2
/-! ### what a for walks: lists, ranges, enumerate, zip, reversed, texts -/
section
variable {K : PySem.W.Frag} {cl : Clx} {W : WX} {ρ : Env} {σ : L2.St} {G H G' H' : Hp} {Fs Fs' : Foot}
theorem Rep.lstR {v : V} {ds : List D} (h : Rep K cl G v (.lst ds)) : ∃ p vs, v = .ref p ∧ Rd G p (.lst vs) ∧ RepL K cl G vs ds := by
  cases h with
  | lst h hl hr => exact ⟨_, _, rfl, h, hl, hr⟩
theorem Rep.tupR {v : V} {ds : List D} (h : Rep K cl G v (.tup ds)) : ∃ p vs, v = .ref p ∧ Rd G p (.tup vs) ∧ RepL K cl G vs ds := by
  cases h with
  | tup h hl hr => exact ⟨_, _, rfl, h, hl, hr⟩
theorem RepL.some {cl : Str → Addr} {vs : List V} {ds : List D} {i : Nat} {d : D} (r : RepL K cl G vs ds) (h : ds[i]? = some d) : ∃ v, vs[i]? = some v ∧ Rep K cl G v d := by
  have hi : i < vs.length := by rw [r.1]; exact (List.getElem?_eq_some_iff.mp h).1
  exact ⟨vs[i], List.getElem?_eq_getElem hi, r.2 i _ d (List.getElem?_eq_getElem hi) h⟩
theorem RepL.none {cl : Str → Addr} {vs : List V} {ds : List D} {i : Nat} (r : RepL K cl G vs ds) (h : ds[i]? = none) : vs.length ≤ i := by rw [r.1]; exact List.getElem?_eq_none_iff.mp h
theorem yl_list {a : Addr} {vs : List V} {ds : List D} (h : SqL K G a vs) (r : RepL K cl G vs ds) : Yields K cl G (Itl K a) ds := by
  intro G1 H1 i e gh
  have h1 : SqL K H1 a vs := sqlEx (e.trans gh) h
  refine ⟨fun d hd => ?_, fun hd => ⟨vs, h1, r.none hd⟩⟩
  obtain ⟨v, hv, rv⟩ := r.some hd
  refine ⟨⟨vs, v, h1, hv⟩, fun u H' hy => ?_⟩
  obtain ⟨rfl, hy⟩ := hy
  have eu : v = u := Option.some.inj (hv.symm.trans (hy vs h1))
  subst eu
  exact ⟨G1, Px.refl gh, rv.mono e⟩
theorem yl_tup {a : Addr} {vs : List V} {ds : List D} (h : SqT K G a vs) (r : RepL K cl G vs ds) : Yields K cl G (Itt K a) ds := by
  intro G1 H1 i e gh
  have h1 : SqT K H1 a vs := sqtEx (e.trans gh) h
  refine ⟨fun d hd => ?_, fun hd => ⟨vs, h1, r.none hd⟩⟩
  obtain ⟨v, hv, rv⟩ := r.some hd
  refine ⟨⟨vs, v, h1, hv⟩, fun u H' hy => ?_⟩
  obtain ⟨rfl, hy⟩ := hy
  have eu : v = u := Option.some.inj (hv.symm.trans (hy vs h1))
  subst eu
  exact ⟨G1, Px.refl gh, rv.mono e⟩
/-- lo, lo + c, .. -/
def rngC (lo c : Int) (n : Nat) : List D := (List.range n).map fun (i : Nat) => D.int (lo + (i : Int) * c)
def rng (lo : Int) (n : Nat) : List D := (List.range n).map fun (i : Nat) => D.int (lo + (i : Int))
theorem rng_get {lo : Int} {n i : Nat} : (rng lo n)[i]? = if i < n then some (.int (lo + (i : Int))) else none := by
  unfold rng
  rw [List.getElem?_map]
  by_cases h : i < n
  · rw [if_pos h, List.getElem?_range h]; rfl
  · rw [if_neg h, List.getElem?_eq_none_iff.mpr (by simpa using h)]; rfl
theorem yl_rng {lo : Int} {n : Nat} : Yields K cl G (Itr lo n) (rng lo n) := by
  intro G1 H1 i e gh
  rw [rng_get]
  by_cases h : i < n
  · rw [if_pos h]
    refine ⟨fun d hd => ?_, fun hd => nomatch hd⟩
    cases hd
    refine ⟨h, fun v H' hy => ?_⟩
    obtain ⟨rfl, rfl⟩ := hy
    exact ⟨G1, Px.refl gh, .int _⟩
  · rw [if_neg h]
    exact ⟨fun d hd => (nomatch hd), fun _ => Nat.le_of_not_lt h⟩
/-- (0, x), (1, y), .. -/
def enumD (ds : List D) : List D := ds.mapIdx fun i d => .tup [.int (i : Int), d]
def zipD (ds es : List D) : List D := List.zipWith (fun a b => .tup [a, b]) ds es
theorem rep_pair {a : Addr} {x y : V} {d e : D} (gh : Same G H) (h : H a = none) (r1 : Rep K cl G x d) (r2 : Rep K cl G y e) : Rep K cl (upd G a (.tup [x, y])) (.ref a) (.tup [d, e]) := by
  have s : Same G (upd G a (.tup [x, y])) := same_new (gh.free h)
  exact .tup (.inl upd_same) rfl (RepL.cons (r1.mono s) (RepL.cons (r2.mono s) RepL.nil)).2
theorem yl_enum {a : Addr} {vs : List V} {ds : List D} (h : SqL K G a vs) (r : RepL K cl G vs ds) : Yields K cl G (Ite K a) (enumD ds) := by
  intro G1 H1 i e gh
  have h1 : SqL K H1 a vs := sqlEx (e.trans gh) h
  unfold enumD
  rw [List.getElem?_mapIdx]
  cases hd : ds[i]? with
  | none => exact ⟨fun d h => (nomatch h), fun _ => ⟨vs, h1, r.none hd⟩⟩
  | some d =>
    obtain ⟨v, hv, rv⟩ := r.some hd
    refine ⟨fun d' hd' => ?_, fun h => (nomatch h)⟩
    cases hd'
    refine ⟨⟨vs, v, h1, hv⟩, fun u H' hy => ?_⟩
    obtain ⟨T, x, rfl, hT, rfl, hy⟩ := hy
    have eu : v = x := Option.some.inj (hv.symm.trans (hy vs h1))
    subst eu
    exact ⟨_, px_frozen gh hT, rep_pair gh hT (.int _) (rv.mono e)⟩
theorem yl_zip {a b : Addr} {vs us : List V} {ds es : List D} (h : SqL K G a vs) (h2 : SqL K G b us) (r : RepL K cl G vs ds) (r2 : RepL K cl G us es) : Yields K cl G (Itz K a b) (zipD ds es) := by
  intro G1 H1 i e gh
  have h1 : SqL K H1 a vs := sqlEx (e.trans gh) h
  have h2' : SqL K H1 b us := sqlEx (e.trans gh) h2
  unfold zipD
  rw [List.getElem?_zipWith]
  cases hd : ds[i]? with
  | none => exact ⟨fun d h => (nomatch h), fun _ => ⟨vs, us, h1, h2', .inl (r.none hd)⟩⟩
  | some d =>
    cases he : es[i]? with
    | none => exact ⟨fun d h => (nomatch h), fun _ => ⟨vs, us, h1, h2', .inr (r2.none he)⟩⟩
    | some f =>
      obtain ⟨v, hv, rv⟩ := r.some hd
      obtain ⟨u, hu, ru⟩ := r2.some he
      refine ⟨fun d' hd' => ?_, fun h => (nomatch h)⟩
      cases hd'
      refine ⟨⟨vs, us, v, u, h1, h2', hv, hu⟩, fun w H' hy => ?_⟩
      obtain ⟨T, x, y, rfl, hT, rfl, hy1, hy2⟩ := hy
      have eu : v = x := Option.some.inj (hv.symm.trans (hy1 vs h1))
      have ev : u = y := Option.some.inj (hu.symm.trans (hy2 us h2'))
      subst eu ev
      exact ⟨_, px_frozen gh hT, rep_pair gh hT (rv.mono e) (ru.mono e)⟩
theorem yl_zipT {a b : Addr} {vs us : List V} {ds es : List D} (h : SqT K G a vs) (h2 : SqT K G b us) (r : RepL K cl G vs ds) (r2 : RepL K cl G us es) : Yields K cl G (RZ.ItzT K a b) (zipD ds es) := by
  intro G1 H1 i e gh
  have h1 : SqT K H1 a vs := sqtEx (e.trans gh) h
  have h2' : SqT K H1 b us := sqtEx (e.trans gh) h2
  unfold zipD
  rw [List.getElem?_zipWith]
  cases hd : ds[i]? with
  | none => exact ⟨fun d h => (nomatch h), fun _ => ⟨vs, us, h1, h2', .inl (r.none hd)⟩⟩
  | some d =>
    cases he : es[i]? with
    | none => exact ⟨fun d h => (nomatch h), fun _ => ⟨vs, us, h1, h2', .inr (r2.none he)⟩⟩
    | some f =>
      obtain ⟨v, hv, rv⟩ := r.some hd
      obtain ⟨u, hu, ru⟩ := r2.some he
      refine ⟨fun d' hd' => ?_, fun h => (nomatch h)⟩
      cases hd'
      refine ⟨⟨vs, us, v, u, h1, h2', hv, hu⟩, fun w H' hy => ?_⟩
      obtain ⟨T, x, y, rfl, hT, rfl, hy1, hy2⟩ := hy
      have eu : v = x := Option.some.inj (hv.symm.trans (hy1 vs h1))
      have ev : u = y := Option.some.inj (hu.symm.trans (hy2 us h2'))
      subst eu ev
      exact ⟨_, px_frozen gh hT, rep_pair gh hT (rv.mono e) (ru.mono e)⟩
/-- the signs of a text -/
def signs (x : Str) : List D := x.cps.toList.map fun c => .str ⟨#[c]⟩
theorem yl_str {x : Str} : Yields K cl G (Its x) (signs x) := by
  intro G1 H1 i e gh
  unfold signs
  rw [List.getElem?_map, Array.getElem?_toList]
  cases hc : x.cps[i]? with
  | none => exact ⟨fun d h => (nomatch h), fun _ => Array.getElem?_eq_none_iff.mp hc⟩
  | some c =>
    refine ⟨fun d hd => ?_, fun h => (nomatch h)⟩
    cases hd
    refine ⟨(Array.getElem?_eq_some_iff.mp hc).1, fun v H' hy => ?_⟩
    obtain ⟨rfl, c', hc', rfl⟩ := hy
    rw [hc] at hc'
    cases hc'
    exact ⟨G1, Px.refl gh, .str _⟩
end
section
variable {X : Cx} {cl : Clx} {W : WX} {pos : Pos} {tg : Expr}
def asL : D → R (List D)
  | .lst ds => .ok ds
  | _ => .bad
def asT : D → R (List D)
  | .tup ds => .ok ds
  | _ => .bad
def asS : D → R (List D)
  | .str x => .ok (signs x)
  | _ => .bad
@[simp] theorem asL_l (ds : List D) : asL (.lst ds) = .ok ds := rfl
@[simp] theorem asT_t (ds : List D) : asT (.tup ds) = .ok ds := rfl
@[simp] theorem asS_s (x : Str) : asS (.str x) = .ok (signs x) := rfl
def iL (f : EF) : IF := fun ρ => (f ρ).bind fun x => (frz x).bind fun y => asL y.d
def iT (f : EF) : IF := fun ρ => (f ρ).bind fun x => (frz x).bind fun y => asT y.d
def iS (f : EF) : IF := fun ρ => (f ρ).bind fun x => asS x.d
@[simp] theorem iL_eq (f : EF) (ρ : Env) : iL f ρ = (f ρ).bind fun x => (frz x).bind fun y => asL y.d := rfl
@[simp] theorem iT_eq (f : EF) (ρ : Env) : iT f ρ = (f ρ).bind fun x => (frz x).bind fun y => asT y.d := rfl
@[simp] theorem iS_eq (f : EF) (ρ : Env) : iS f ρ = (f ρ).bind fun x => asS x.d := rfl
theorem frz_rep {K : PySem.W.Frag} {f : EF} {ρ : Env} {x : Vl} {G H : Hp} {v : V} {F : Addr → Prop} (e : eS f ρ = .ok x) (o : Own K cl H G x.k v x.d F) : Rep K cl G v x.d := by
  rw [eS_eq] at e
  cases q : f ρ with
  | ok z =>
    rw [q] at e
    have := frz_k e
    rw [this] at o ⊢
    exact o
  | ex c => rw [q] at e; cases e
  | bad => rw [q] at e; cases e
def small62 (i : Int) : Prop := -(2 ^ 62) ≤ i ∧ i < 2 ^ 62
noncomputable instance (i : Int) : Decidable (small62 i) := Classical.propDecidable _
noncomputable def rng1 : List D → R (List D)
  | [.int j] => if small62 j then .ok (rng 0 j.toNat) else .bad
  | _ => .bad
noncomputable def rng2 : List D → R (List D)
  | [.int i, .int j] => if small62 i ∧ small62 j then .ok (rng i (j - i).toNat) else .bad
  | _ => .bad
noncomputable def rng3 : List D → R (List D)
  | [.int i, .int j, .int c] => if c = -1 ∧ small62 i ∧ small62 j then .ok (rngC i (-1) (i - j).toNat) else .bad
  | _ => .bad
@[simp] theorem rng1_eq (j : Int) : rng1 [.int j] = if small62 j then .ok (rng 0 j.toNat) else .bad := rfl
@[simp] theorem rng2_eq (i j : Int) : rng2 [.int i, .int j] = if small62 i ∧ small62 j then .ok (rng i (j - i).toNat) else .bad := rfl
@[simp] theorem rng3_eq (i j c : Int) : rng3 [.int i, .int j, .int c] = if c = -1 ∧ small62 i ∧ small62 j then .ok (rngC i (-1) (i - j).toNat) else .bad := rfl
def iA (r : List D → R (List D)) (g : AF) : IF := fun ρ => (g ρ).bind r
@[simp] theorem iA_eq (r : List D → R (List D)) (g : AF) (ρ : Env) : iA r g ρ = (g ρ).bind r := rfl
theorem ei_range1 {a : Expr} {g : AF} {p : Pos} (hm : X.mg "range" = none) (ha : EvA X cl W [a] g) (hg : Gl X "range" := by rfl) (hs : starEach [a] X.env = [(false, eval a X.env)] := by rfl) : EvI X cl W tg (.Call (.Name "range" p) [a] [] pos) (iA rng1 g) := by
  obtain ⟨t, pt, st, hl⟩ := ha
  refine ⟨_, pi_range1 hg hm pt hs, fun ρ σ G H Fs env Q hq => ?_⟩
  refine st.use env PY.mono hq fun ds vs G1 H1 e1 p1 env1 r1 hq1 => ?_
  match ds, r1, hq1 with
  | [.int j], r1, hq1 =>
    rw [rng1_eq] at hq1
    by_cases h : small62 j
    · rw [if_pos h] at hq1
      obtain ⟨v, hv, rv⟩ := r1.some (i := 0) rfl
      cases rv
      have ev : vs = [.int j] := by
        have hlen := r1.1
        match vs, hlen, hv with
        | [x], _, hv => cases hv; rfl
      exact ⟨j, ev, h.1, h.2, hq1 _ G1 H1 (Px.refl env1.gh) yl_rng⟩
    · rw [if_neg h] at hq1
      exact hq1.elim
def enum1 : List D → R (List D)
  | [.lst ds] => .ok (enumD ds)
  | _ => .bad
def zip2 : List D → R (List D)
  | [.lst ds, .lst es] => .ok (zipD ds es)
  | [.tup ds, .tup es] => .ok (zipD ds es)
  | _ => .bad
def rev1 : List D → R (List D)
  | [.lst ds] => .ok ds.reverse
  | _ => .bad
@[simp] theorem enum1_eq (ds : List D) : enum1 [.lst ds] = .ok (enumD ds) := rfl
@[simp] theorem zip2_eq (ds es : List D) : zip2 [.lst ds, .lst es] = .ok (zipD ds es) := rfl
@[simp] theorem zip2_t (ds es : List D) : zip2 [.tup ds, .tup es] = .ok (zipD ds es) := rfl
@[simp] theorem rev1_eq (ds : List D) : rev1 [.lst ds] = .ok ds.reverse := rfl
theorem ei_enum {a : Expr} {g : AF} {p tpos : Pos} {elts : List Expr} {kk} (hm : X.mg "enumerate" = none) (ha : EvA X cl W [a] g) (hg : Gl X "enumerate" := by rfl) (hs : starEach [a] X.env = [(false, eval a X.env)] := by rfl) : EvI X cl W (.Tuple elts kk tpos) (.Call (.Name "enumerate" p) [a] [] pos) (iA enum1 g) := by
  obtain ⟨t, pt, st, hl⟩ := ha
  refine ⟨_, pi_enum hg hm pt hs, fun ρ σ G H Fs env Q hq => ?_⟩
  refine st.use env PY.mono hq fun ds vs G1 H1 e1 p1 env1 r1 hq1 => ?_
  match ds, r1, hq1 with
  | [.lst xs], r1, hq1 =>
    obtain ⟨v, hv, rv⟩ := r1.some (i := 0) rfl
    obtain ⟨q, us, rfl, hS, rl⟩ := rv.lstR
    have ev : vs = [.ref q] := by
      have hlen := r1.1
      match vs, hlen, hv with
      | [x], _, hv => cases hv; rfl
    exact ⟨q, us, ev, .inl (rdEx env1.gh hS), hq1 _ G1 H1 (Px.refl env1.gh) (yl_enum (.inl hS) rl)⟩
theorem ei_zip {a b : Expr} {g : AF} {p tpos : Pos} {elts : List Expr} {kk} (hm : X.mg "zip" = none) (ha : EvA X cl W [a, b] g) (hg : Gl X "zip" := by rfl) (hs : starEach [a, b] X.env = (false, eval a X.env) :: starEach [b] X.env := by rfl) (hpl : (backTo pos (starEach [b] X.env)).any (·.1) = false := by rfl) :
    EvI X cl W (.Tuple elts kk tpos) (.Call (.Name "zip" p) [a, b] [] pos) (iA zip2 g) := by
  obtain ⟨t, pt, st, hl⟩ := ha
  refine ⟨_, RZ.pi_zipA hg hm pt hs hpl, fun ρ σ G H Fs env Q hq => ?_⟩
  refine st.use env PY.mono hq fun ds vs G1 H1 e1 p1 env1 r1 hq1 => ?_
  match ds, r1, hq1 with
  | [.lst xs, .lst ys], r1, hq1 =>
    obtain ⟨v, hv, rv⟩ := r1.some (i := 0) rfl
    obtain ⟨u, hu, ru⟩ := r1.some (i := 1) rfl
    obtain ⟨q, us, rfl, hS, rl⟩ := rv.lstR
    obtain ⟨q2, us2, rfl, hS2, rl2⟩ := ru.lstR
    have ev : vs = [.ref q, .ref q2] := by
      have hlen := r1.1
      match vs, hlen, hv, hu with
      | [x, y], _, hv, hu => cases hv; cases hu; rfl
    exact ⟨q, q2, us, us2, ev, .inl ⟨.inl (rdEx env1.gh hS), .inl (rdEx env1.gh hS2), hq1 _ G1 H1 (Px.refl env1.gh) (yl_zip (.inl hS) (.inl hS2) rl rl2)⟩⟩
  | [.tup xs, .tup ys], r1, hq1 =>
    obtain ⟨v, hv, rv⟩ := r1.some (i := 0) rfl
    obtain ⟨u, hu, ru⟩ := r1.some (i := 1) rfl
    obtain ⟨q, us, rfl, hS, rl⟩ := rv.tupR
    obtain ⟨q2, us2, rfl, hS2, rl2⟩ := ru.tupR
    have ev : vs = [.ref q, .ref q2] := by
      have hlen := r1.1
      match vs, hlen, hv, hu with
      | [x, y], _, hv, hu => cases hv; cases hu; rfl
    exact ⟨q, q2, us, us2, ev, .inr ⟨.inl (rdEx env1.gh hS), .inl (rdEx env1.gh hS2), hq1 _ G1 H1 (Px.refl env1.gh) (yl_zipT (.inl hS) (.inl hS2) rl rl2)⟩⟩
end
end B
namespace B
open PySem L2
/-! ### built-ins of one value, borrowed or not -/
section
variable {X : Cx} {cl : Clx} {W : WX} {pos : Pos}
def Cal1 (K : PySem.W.Frag) (cl : Str → Addr) (r : List V → Hp → VK → Prop) (f : Vl → R Vl) : Prop := ∀ (x : Vl) (v : V) (F : Addr → Prop) (G H : Hp) (Q : VK) (W : WX) (σ : L2.St), Same G H → Own K cl H G x.k v x.d F → PostG cl W σ G H (PV K cl Q) (f x) → (∀ c, f x ≠ .ex c) → r [v] H Q
def eB1 (f : Vl → R Vl) (a : EF) : EF := fun ρ => (a ρ).bind f
@[simp] theorem eB1_eq (f : Vl → R Vl) (a : EF) (ρ : Env) : eB1 f a ρ = (a ρ).bind f := rfl
theorem semB1 {K : PySem.W.Frag} {r : List V → Hp → VK → Prop} {f : Vl → R Vl} (hf : Cal1 K cl r f) (hx : ∀ x c, f x ≠ .ex c) {t : TE} {a : EF} (h : SemE K cl W t a) : SemE K cl W (tCB r (tCons t tNil)) (eB1 f a) := by
  intro ρ σ G H Fs env Q hq
  refine h.use env PV.mono hq fun x v G1 H1 F1 e1 p1 env1 o1 f1 hq1 => ?_
  exact hf x v F1 G1 H1 Q W σ env1.gh o1 hq1 (hx x)
theorem ev_B1 {x : Str} {id : String} {r : List V → Hp → VK → Prop} {f : Vl → R Vl} {p : Pos} {e : Expr} {a : EF} (hc : CallR X (.builtin id) r) (hf : Cal1 X.K cl r f) (hx : ∀ x c, f x ≠ .ex c) (hm : X.mg x = none) (hv : bootBuiltins x = some (.builtin id)) (ha : EvE X cl W e a) (hg : Gl X x := by rfl)
    (hn : x ≠ "__name__" := by decide) (hdb : (x == ("__debug__" : Str)) = false := by decide) (hs : starEach [e] X.env = (false, eval e X.env) :: starEach [] X.env := by rfl) : EvE X cl W (.Call (.Name x p) [e] [] pos) (eB1 f a) := by
  obtain ⟨t, pt, st⟩ := ha
  exact ⟨_, pe_callB hc hg hm hv (pa_cons pt pa_nil hs) hn hdb hs, semB1 hf hx st⟩
theorem ev_B1T {x : Str} {id : String} {r : List V → Hp → VK → Prop} {f : Vl → R Vl} {p : Pos} {e : Expr} {a : EF} (hc : CallR X (.type id) r) (hf : Cal1 X.K cl r f) (hx : ∀ x c, f x ≠ .ex c) (hm : X.mg x = none) (hv : bootBuiltins x = some (.type id)) (ha : EvE X cl W e a) (hg : Gl X x := by rfl)
    (hn : x ≠ "__name__" := by decide) (hdb : (x == ("__debug__" : Str)) = false := by decide) (hs : starEach [e] X.env = (false, eval e X.env) :: starEach [] X.env := by rfl) : EvE X cl W (.Call (.Name x p) [e] [] pos) (eB1 f a) := by
  obtain ⟨t, pt, st⟩ := ha
  exact ⟨_, pe_callTy hc hg hm hv (pa_cons pt pa_nil hs) hn hdb hs, semB1 hf hx st⟩
/-- len -/
def lenV (x : Vl) : R Vl := match x.d with
  | .lst ds => .ok (sh (.int ds.length))
  | .tup ds => .ok (sh (.int ds.length))
  | .str s => if s.length ≤ 10000 then .ok (sh (.int s.length)) else .bad
  | _ => .bad
@[simp] theorem lenV_l (b : Bool) (k : Nat) (ds : List D) : lenV ⟨b, k, .lst ds⟩ = .ok (sh (.int ds.length)) := rfl
@[simp] theorem lenV_t (b : Bool) (k : Nat) (ds : List D) : lenV ⟨b, k, .tup ds⟩ = .ok (sh (.int ds.length)) := rfl
@[simp] theorem lenV_s (b : Bool) (k : Nat) (s : Str) : lenV ⟨b, k, .str s⟩ = if s.length ≤ 10000 then .ok (sh (.int s.length)) else .bad := rfl
theorem le_line2 {n : Nat} (h : n ≤ 10000) : n ≤ sizeLine := Nat.le_trans h (by decide)
theorem c1_len {K : PySem.W.Frag} : Cal1 K cl (fun xs H Q => (∃ p ys, xs = [.ref p] ∧ (SqL K H p ys ∨ SqT K H p ys) ∧ Q (.int ys.length) H) ∨ ∃ z, xs = [.str z] ∧ z.length ≤ sizeLine ∧ Q (.int z.length) H) lenV := by
  intro x v F G H Q W σ gh o hq _
  obtain ⟨b, k, d⟩ := x
  cases d with
  | lst ds =>
    obtain ⟨p, vs, rfl, hS, hl, _⟩ := o.lstR gh
    exact .inl ⟨p, vs, rfl, .inl (.inl hS), by rw [hl]; exact hq _ G H (fun _ => False) (Px.refl gh) (Rep.int _) noFoo⟩
  | tup ds =>
    obtain ⟨p, vs, rfl, hS, hl, _⟩ := o.tupR gh
    exact .inl ⟨p, vs, rfl, .inr (.inl hS), by rw [hl]; exact hq _ G H (fun _ => False) (Px.refl gh) (Rep.int _) noFoo⟩
  | str s =>
    rw [lenV_s] at hq
    by_cases h : s.length ≤ 10000
    · rw [if_pos h] at hq
      exact .inr ⟨s, by rw [o.str], le_line2 h, hq _ G H (fun _ => False) (Px.refl gh) (Rep.int _) noFoo⟩
    · rw [if_neg h] at hq
      exact hq.elim
  | _ => exact hq.elim
theorem lenV_x (x : Vl) (c : Str) : lenV x ≠ .ex c := by
  obtain ⟨b, k, d⟩ := x
  cases d <;> intro h <;> first | cases h | skip
  rw [lenV_s] at h
  split at h <;> cases h
theorem ev_len {p : Pos} {e : Expr} {a : EF} (hm : X.mg "len" = none) (ha : EvE X cl W e a) (hg : Gl X "len" := by rfl) (hs : starEach [e] X.env = (false, eval e X.env) :: starEach [] X.env := by rfl) : EvE X cl W (.Call (.Name "len" p) [e] [] pos) (eB1 lenV a) :=
  ev_B1 (call_len_seq.or call_len_str) c1_len lenV_x hm PySem.boot_len ha hg (by decide) (by decide) hs
/-- abs -/
def absV (x : Vl) : R Vl := match x.d with
  | .int i => .ok (sh (.int (if i < 0 then -i else i)))
  | _ => .bad
@[simp] theorem absV_i (b : Bool) (k : Nat) (i : Int) : absV ⟨b, k, .int i⟩ = .ok (sh (.int (if i < 0 then -i else i))) := rfl
/-- int of an int, of a bool -/
def intV (x : Vl) : R Vl := match x.d with
  | .int i => .ok (sh (.int i))
  | .bl b => .ok (sh (.int (if b then 1 else 0)))
  | _ => .bad
@[simp] theorem intV_i (b : Bool) (k : Nat) (i : Int) : intV ⟨b, k, .int i⟩ = .ok (sh (.int i)) := rfl
@[simp] theorem intV_b (b : Bool) (k : Nat) (i : Bool) : intV ⟨b, k, .bl i⟩ = .ok (sh (.int (if i then 1 else 0))) := rfl
theorem ev_int1 {p : Pos} {e : Expr} {a : EF} (hm : X.mg "int" = none) (ha : EvE X cl W e a) (hg : Gl X "int" := by rfl) (hs : starEach [e] X.env = (false, eval e X.env) :: starEach [] X.env := by rfl) : EvE X cl W (.Call (.Name "int" p) [e] [] pos) (eB1 intV a) := by
  refine ev_B1T call_int1 ?_ ?_ hm PyProof.Rows.boot_int ha hg (by decide) (by decide) hs
  · intro x v F G H Q W σ gh o hq _
    obtain ⟨b, k, d⟩ := x
    cases d with
    | int i => exact .inl ⟨i, by rw [o.int], hq _ G H (fun _ => False) (Px.refl gh) (Rep.int _) noFoo⟩
    | bl i => exact .inr ⟨i, by rw [o.bl], hq _ G H (fun _ => False) (Px.refl gh) (Rep.int _) noFoo⟩
    | _ => exact hq.elim
  · intro x c
    obtain ⟨b, k, d⟩ := x
    cases d <;> intro h <;> cases h
/-- str of an int -/
def strV (x : Vl) : R Vl := match x.d with
  | .int i => if i.natAbs.log2 < 1920 then .ok (sh (.str (toString i))) else .bad
  | _ => .bad
@[simp] theorem strV_i (b : Bool) (k : Nat) (i : Int) : strV ⟨b, k, .int i⟩ = if i.natAbs.log2 < 1920 then .ok (sh (.str (toString i))) else .bad := rfl
/-- list(x) of a list or a tuple: new -/
def listV (x : Vl) : R Vl := match x.d with
  | .lst ds => if x.k ≤ 1 then .ok ⟨false, 1, .lst ds⟩ else .bad
  | .tup ds => if tkF x.k ds = 0 then .ok ⟨false, 1, .lst ds⟩ else .bad
  | _ => .bad
@[simp] theorem listV_0 (b : Bool) (ds : List D) : listV ⟨b, 0, .lst ds⟩ = .ok ⟨false, 1, .lst ds⟩ := rfl
@[simp] theorem listV_1 (b : Bool) (ds : List D) : listV ⟨b, 1, .lst ds⟩ = .ok ⟨false, 1, .lst ds⟩ := rfl
@[simp] theorem listV_t (b : Bool) (ds : List D) : listV ⟨b, 0, .tup ds⟩ = .ok ⟨false, 1, .lst ds⟩ := if_pos (tkF_0 ds)
theorem Own.flat {cl : Str → Addr} {K : PySem.W.Frag} {k : Nat} {v : V} {ds : List D} {F : Addr → Prop} {G H : Hp} (hk : k ≤ 1) (o : Own K cl H G k v (.lst ds) F) (gh : Same G H) : ∃ p vs, v = .ref p ∧ Rd H p (.lst vs) ∧ RepL K cl G vs ds := by
  obtain ⟨p, vs, e, hS, hl, hr⟩ := o.lstR gh
  refine ⟨p, vs, e, hS, hl, fun i v d h1 h2 => ?_⟩
  obtain ⟨F', o', _⟩ := hr i v d h1 h2
  have : k - 1 = 0 := by omega
  rw [this] at o'
  exact o'
theorem ev_list1 {p : Pos} {e : Expr} {a : EF} (hm : X.mg "list" = none) (ha : EvE X cl W e a) (hg : Gl X "list" := by rfl) (hs : starEach [e] X.env = (false, eval e X.env) :: starEach [] X.env := by rfl) : EvE X cl W (.Call (.Name "list" p) [e] [] pos) (eB1 listV a) := by
  refine ev_B1T call_list_of ?_ ?_ hm PyProof.Rows.boot_list ha hg (by decide) (by decide) hs
  · intro x v F G H Q W σ gh o hq _
    obtain ⟨b, k, d⟩ := x
    cases d with
    | lst ds =>
      by_cases hk : k ≤ 1
      · have e1 : listV ⟨b, k, .lst ds⟩ = .ok ⟨false, 1, .lst ds⟩ := if_pos hk
        rw [e1] at hq
        obtain ⟨p, vs, rfl, hS, rl⟩ := Own.flat hk o gh
        exact ⟨p, vs, rfl, .inl (.inl hS), fun l hl => hq _ G _ _ (px_new gh hl) (own1 upd_same rl) (foo1 gh hl)⟩
      · have e1 : listV ⟨b, k, .lst ds⟩ = .bad := if_neg hk
        rw [e1] at hq
        exact hq.elim
    | tup ds =>
      obtain ⟨p, vs, rfl, hS, hl, hr⟩ := o.tupR gh
      by_cases hk : tkF k ds = 0
      · have e1 : listV ⟨b, k, .tup ds⟩ = .ok ⟨false, 1, .lst ds⟩ := if_pos hk
        rw [e1] at hq
        have rl : RepL X.K cl G vs ds := ⟨hl, fun i v d h1 h2 => by
          obtain ⟨F', o', _⟩ := hr i v d h1 h2
          rw [hk] at o'
          exact o'⟩
        exact ⟨p, vs, rfl, .inr (.inl hS), fun l hl' => hq _ G _ _ (px_new gh hl') (own1 upd_same rl) (foo1 gh hl')⟩
      · have e1 : listV ⟨b, k, .tup ds⟩ = .bad := if_neg hk
        rw [e1] at hq
        exact hq.elim
    | _ => exact hq.elim
  · intro x c
    obtain ⟨b, k, d⟩ := x
    cases d <;> intro h <;> first | cases h | skip
    · rename_i ds
      by_cases hk : k ≤ 1
      · have e1 : listV ⟨b, k, .lst ds⟩ = .ok ⟨false, 1, .lst ds⟩ := if_pos hk
        rw [e1] at h; cases h
      · have e1 : listV ⟨b, k, .lst ds⟩ = .bad := if_neg hk
        rw [e1] at h; cases h
    · rename_i ds
      by_cases hk : tkF k ds = 0
      · have e1 : listV ⟨b, k, .tup ds⟩ = .ok ⟨false, 1, .lst ds⟩ := if_pos hk
        rw [e1] at h; cases h
      · have e1 : listV ⟨b, k, .tup ds⟩ = .bad := if_neg hk
        rw [e1] at h; cases h
/-- max, min of two ints -/
def max2 : List D → R Vl
  | [.int i, .int j] => .ok (sh (.int (if j > i then j else i)))
  | _ => .bad
def min2 : List D → R Vl
  | [.int i, .int j] => .ok (sh (.int (if j < i then j else i)))
  | _ => .bad
@[simp] theorem max2_eq (i j : Int) : max2 [.int i, .int j] = .ok (sh (.int (if j > i then j else i))) := rfl
@[simp] theorem min2_eq (i j : Int) : min2 [.int i, .int j] = .ok (sh (.int (if j < i then j else i))) := rfl
theorem repL_ints2 {K : PySem.W.Frag} {G : Hp} {vs : List V} {i j : Int} (r1 : RepL K cl G vs [.int i, .int j]) : vs = [.int i, .int j] := by
  obtain ⟨v, hv, rv⟩ := r1.some (i := 0) rfl
  obtain ⟨u, hu, ru⟩ := r1.some (i := 1) rfl
  cases rv
  cases ru
  have hlen := r1.1
  match vs, hlen, hv, hu with
  | [x, y], _, hv, hu => cases hv; cases hu; rfl
theorem ev_max2 {p : Pos} {a b : Expr} {g : AF} (hc : X.calm = true) (hm : X.mg "max" = none) (ha : EvA X cl W [a, b] g) (hg : Gl X "max" := by rfl) (hs : starEach [a, b] X.env = (false, eval a X.env) :: starEach [b] X.env := by rfl) (hpl : (backTo pos (starEach [b] X.env)).any (·.1) = false := by rfl) : EvE X cl W (.Call (.Name "max" p) [a, b] [] pos) (eCall max2 g) := by
  obtain ⟨t, pt, st, hl⟩ := ha
  refine ⟨_, pe_callB (call_max2 hc) hg hm PyProof.Rows.boot_max pt (by decide) (by decide) hs hpl, fun ρ σ G H Fs env Q hq => ?_⟩
  refine st.use env PV.mono hq fun ds vs G1 H1 e1 p1 env1 r1 hq1 => ?_
  match ds, r1, hq1 with
  | [.int i, .int j], r1, hq1 => exact ⟨i, j, repL_ints2 r1, hq1 _ G1 H1 (fun _ => False) (Px.refl env1.gh) (Rep.int _) noFoo⟩
/-! ### isinstance(x, T), T a built-in class -/
def tyN : D → Option String
  | .non => some "NoneType"
  | .bl _ => some "bool"
  | .int _ => some "int"
  | .str _ => some "str"
  | .lst _ => some "list"
  | .tup _ => some "tuple"
  | .obj _ _ => none
  | .exo _ => none
  | .dct _ => none
  | .dci _ => none
def isiN (T n : String) : R Vl := match kitB n T with
  | some b => .ok (sh (.bl b))
  | none => .bad
def isiV (T : String) (x : Vl) : R Vl := match tyN x.d with
  | some n => isiN T n
  | none => .bad
theorem isiN_of {T n : String} {b : Bool} (h : kitB n T = some b) : isiN T n = .ok (sh (.bl b)) := by unfold isiN; rw [h]
theorem tyx_of {K : PySem.W.Frag} {k : Nat} {v : V} {d : D} {F : Addr → Prop} {G H : Hp} {n : String} (o : Own K cl H G k v d F) (gh : Same G H) (h : tyN d = some n) : TyX K H v (.type n) := by
  cases d with
  | non => cases h; rw [o.non]; exact .base .non
  | bl b => cases h; rw [o.bl]; exact .base (.bl b)
  | int b => cases h; rw [o.int]; exact .base (.int b)
  | str b => cases h; rw [o.str]; exact .base (.str b)
  | lst b =>
    cases h
    obtain ⟨p, vs, rfl, hS, _⟩ := o.lstR gh
    rcases hS with hS | ⟨ob, hS⟩
    · exact .base (.lst hS)
    · exact .base (.frz hS)
  | tup b =>
    cases h
    obtain ⟨p, vs, rfl, hS, _⟩ := o.tupR gh
    rcases hS with hS | ⟨ob, hS⟩
    · exact .base (.tup hS)
    · exact .fTuple hS
  | obj C fs => cases h
  | exo C => cases h
  | dct ps => cases h
  | dci ks => cases h
theorem ev_isi {x T : Str} {id : String} {p p2 : Pos} {e : Expr} {a : EF} (hm : X.mg "isinstance" = none) (hm2 : X.mg T = none) (hb : bootBuiltins T = some (.type id)) (ha : EvE X cl W e a) (hg : Gl X "isinstance" := by rfl) (hg2 : Gl X T := by rfl) (hn : T ≠ "__name__" := by decide) (hd : (T == ("__debug__" : Str)) = false := by decide)
    (hs : starEach [e, .Name T p2] X.env = (false, eval e X.env) :: starEach [.Name T p2] X.env := by rfl) (hs2 : starEach [.Name T p2] X.env = (false, eval (.Name T p2) X.env) :: starEach [] X.env := by rfl) (hpl : (backTo pos (starEach [.Name T p2] X.env)).any (·.1) = false := by rfl) : EvE X cl W (.Call (.Name "isinstance" p) [e, .Name T p2] [] pos) (eB1 (isiV id) a) := by
  obtain ⟨t, pt, st⟩ := ha
  refine ⟨_, pe_callB call_isi hg hm PyProof.Rows.boot_isinstance (pa_cons pt (pa_cons (pe_bltn (v := .ty id) hg2 hm2 hb rfl hn hd) pa_nil hs2) hs) (by decide) (by decide) hs hpl, fun ρ σ G H Fs env Q hq => ?_⟩
  refine st.use env PV.mono hq fun y v G1 H1 F1 e1 p1 env1 o1 f1 hq1 => ?_
  obtain ⟨b, k, d⟩ := y
  unfold isiV at hq1
  cases et : tyN d with
  | none => simp only [et] at hq1; exact hq1.elim
  | some n =>
    simp only [et] at hq1
    cases ek : kitB n id with
    | none => unfold isiN at hq1; rw [ek] at hq1; exact hq1.elim
    | some r =>
      rw [isiN_of ek] at hq1
      exact ⟨v, .ty id, .type n, .type id, r, rfl, .ty id, tyx_of o1 env1.gh et, kit_ty ek, hq1 _ G1 H1 (fun _ => False) (Px.refl env1.gh) (Rep.bl _) noFoo⟩
@[simp] theorem isi_int_int (b : Bool) (k : Nat) (i : Int) : isiV "int" ⟨b, k, .int i⟩ = .ok (sh (.bl true)) := show isiN "int" "int" = _ from isiN_of (by decide +kernel)
@[simp] theorem isi_int_bool (b : Bool) (k : Nat) (i : Bool) : isiV "int" ⟨b, k, .bl i⟩ = .ok (sh (.bl true)) := show isiN "int" "bool" = _ from isiN_of (by decide +kernel)
@[simp] theorem isi_int_non (b : Bool) (k : Nat)  : isiV "int" ⟨b, k, .non⟩ = .ok (sh (.bl false)) := show isiN "int" "NoneType" = _ from isiN_of (by decide +kernel)
@[simp] theorem isi_int_str (b : Bool) (k : Nat) (i : Str) : isiV "int" ⟨b, k, .str i⟩ = .ok (sh (.bl false)) := show isiN "int" "str" = _ from isiN_of (by decide +kernel)
@[simp] theorem isi_int_lst (b : Bool) (k : Nat) (i : List D) : isiV "int" ⟨b, k, .lst i⟩ = .ok (sh (.bl false)) := show isiN "int" "list" = _ from isiN_of (by decide +kernel)
@[simp] theorem isi_int_tup (b : Bool) (k : Nat) (i : List D) : isiV "int" ⟨b, k, .tup i⟩ = .ok (sh (.bl false)) := show isiN "int" "tuple" = _ from isiN_of (by decide +kernel)
@[simp] theorem isi_bool_int (b : Bool) (k : Nat) (i : Int) : isiV "bool" ⟨b, k, .int i⟩ = .ok (sh (.bl false)) := show isiN "bool" "int" = _ from isiN_of (by decide +kernel)
@[simp] theorem isi_bool_bool (b : Bool) (k : Nat) (i : Bool) : isiV "bool" ⟨b, k, .bl i⟩ = .ok (sh (.bl true)) := show isiN "bool" "bool" = _ from isiN_of (by decide +kernel)
@[simp] theorem isi_bool_non (b : Bool) (k : Nat)  : isiV "bool" ⟨b, k, .non⟩ = .ok (sh (.bl false)) := show isiN "bool" "NoneType" = _ from isiN_of (by decide +kernel)
@[simp] theorem isi_bool_str (b : Bool) (k : Nat) (i : Str) : isiV "bool" ⟨b, k, .str i⟩ = .ok (sh (.bl false)) := show isiN "bool" "str" = _ from isiN_of (by decide +kernel)
@[simp] theorem isi_bool_lst (b : Bool) (k : Nat) (i : List D) : isiV "bool" ⟨b, k, .lst i⟩ = .ok (sh (.bl false)) := show isiN "bool" "list" = _ from isiN_of (by decide +kernel)
@[simp] theorem isi_bool_tup (b : Bool) (k : Nat) (i : List D) : isiV "bool" ⟨b, k, .tup i⟩ = .ok (sh (.bl false)) := show isiN "bool" "tuple" = _ from isiN_of (by decide +kernel)
@[simp] theorem isi_str_int (b : Bool) (k : Nat) (i : Int) : isiV "str" ⟨b, k, .int i⟩ = .ok (sh (.bl false)) := show isiN "str" "int" = _ from isiN_of (by decide +kernel)
@[simp] theorem isi_str_bool (b : Bool) (k : Nat) (i : Bool) : isiV "str" ⟨b, k, .bl i⟩ = .ok (sh (.bl false)) := show isiN "str" "bool" = _ from isiN_of (by decide +kernel)
@[simp] theorem isi_str_non (b : Bool) (k : Nat)  : isiV "str" ⟨b, k, .non⟩ = .ok (sh (.bl false)) := show isiN "str" "NoneType" = _ from isiN_of (by decide +kernel)
@[simp] theorem isi_str_str (b : Bool) (k : Nat) (i : Str) : isiV "str" ⟨b, k, .str i⟩ = .ok (sh (.bl true)) := show isiN "str" "str" = _ from isiN_of (by decide +kernel)
@[simp] theorem isi_str_lst (b : Bool) (k : Nat) (i : List D) : isiV "str" ⟨b, k, .lst i⟩ = .ok (sh (.bl false)) := show isiN "str" "list" = _ from isiN_of (by decide +kernel)
@[simp] theorem isi_str_tup (b : Bool) (k : Nat) (i : List D) : isiV "str" ⟨b, k, .tup i⟩ = .ok (sh (.bl false)) := show isiN "str" "tuple" = _ from isiN_of (by decide +kernel)
@[simp] theorem isi_list_int (b : Bool) (k : Nat) (i : Int) : isiV "list" ⟨b, k, .int i⟩ = .ok (sh (.bl false)) := show isiN "list" "int" = _ from isiN_of (by decide +kernel)
@[simp] theorem isi_list_bool (b : Bool) (k : Nat) (i : Bool) : isiV "list" ⟨b, k, .bl i⟩ = .ok (sh (.bl false)) := show isiN "list" "bool" = _ from isiN_of (by decide +kernel)
@[simp] theorem isi_list_non (b : Bool) (k : Nat)  : isiV "list" ⟨b, k, .non⟩ = .ok (sh (.bl false)) := show isiN "list" "NoneType" = _ from isiN_of (by decide +kernel)
@[simp] theorem isi_list_str (b : Bool) (k : Nat) (i : Str) : isiV "list" ⟨b, k, .str i⟩ = .ok (sh (.bl false)) := show isiN "list" "str" = _ from isiN_of (by decide +kernel)
@[simp] theorem isi_list_lst (b : Bool) (k : Nat) (i : List D) : isiV "list" ⟨b, k, .lst i⟩ = .ok (sh (.bl true)) := show isiN "list" "list" = _ from isiN_of (by decide +kernel)
@[simp] theorem isi_list_tup (b : Bool) (k : Nat) (i : List D) : isiV "list" ⟨b, k, .tup i⟩ = .ok (sh (.bl false)) := show isiN "list" "tuple" = _ from isiN_of (by decide +kernel)
@[simp] theorem isi_tuple_int (b : Bool) (k : Nat) (i : Int) : isiV "tuple" ⟨b, k, .int i⟩ = .ok (sh (.bl false)) := show isiN "tuple" "int" = _ from isiN_of (by decide +kernel)
@[simp] theorem isi_tuple_bool (b : Bool) (k : Nat) (i : Bool) : isiV "tuple" ⟨b, k, .bl i⟩ = .ok (sh (.bl false)) := show isiN "tuple" "bool" = _ from isiN_of (by decide +kernel)
@[simp] theorem isi_tuple_non (b : Bool) (k : Nat)  : isiV "tuple" ⟨b, k, .non⟩ = .ok (sh (.bl false)) := show isiN "tuple" "NoneType" = _ from isiN_of (by decide +kernel)
@[simp] theorem isi_tuple_str (b : Bool) (k : Nat) (i : Str) : isiV "tuple" ⟨b, k, .str i⟩ = .ok (sh (.bl false)) := show isiN "tuple" "str" = _ from isiN_of (by decide +kernel)
@[simp] theorem isi_tuple_lst (b : Bool) (k : Nat) (i : List D) : isiV "tuple" ⟨b, k, .lst i⟩ = .ok (sh (.bl false)) := show isiN "tuple" "list" = _ from isiN_of (by decide +kernel)
@[simp] theorem isi_tuple_tup (b : Bool) (k : Nat) (i : List D) : isiV "tuple" ⟨b, k, .tup i⟩ = .ok (sh (.bl true)) := show isiN "tuple" "tuple" = _ from isiN_of (by decide +kernel)
/-! ### + and * of lists, of texts; slices -/
theorem lsRd {pins : List (Addr × Obj)} {σ : L2.St} {H : Hp} {s : Shared} {p : Addr} {xs : List V} (I : Inv X pins σ H s) (h : Rd H p (.lst xs)) :
    xs.length ≤ sizeLine ∧ ∃ (its : List Value) (n : Nat), Vals xs its ∧ xs.length = its.length ∧ s.heap.get? p = some { cls := .type "list", data := .seq its.toArray n } := by
  obtain ⟨z, its, n, r, e⟩ := h.ok I.hok
  exact ⟨z, its, n, r, r.length, e⟩
def rCatS : R2 := fun x y H Q => ∃ l b xs zs, x = .ref l ∧ y = .ref b ∧ Rd H l (.lst xs) ∧ Rd H b (.lst zs) ∧ xs.length + zs.length ≤ sizeLine ∧ ∀ p, H p = none → Q (.ref p) (upd H p (.lst (xs ++ zs)))
theorem op_catS : OpR X (binaryOp .Add) rCatS := by
  intro pins s σ H x y v u Q I rx ry h
  obtain ⟨l, b, xs, zs, rfl, rfl, hH, hB, hz, q⟩ := h
  cases rx
  cases ry
  obtain ⟨z, its, n, r, hl, e⟩ := lsRd I hH
  obtain ⟨z2, its2, n2, r2, hl2, e2⟩ := lsRd I hB
  refine PySem.P.add_list e e2 ?_ (by rw [List.size_toArray, List.size_toArray]; omega)
  have ea : its.toArray ++ its2.toArray = (its ++ its2).toArray := by simp
  rw [ea]
  exact ⟨.ref _, _, I.lnew (t' := s.toks) (r.append r2) (by rw [List.length_append]; omega), rfl, q _ I.fresh⟩
/-- two values, borrowed or not, to a new list or a value -/
def OpA (K : PySem.W.Frag) (cl : Str → Addr) (r : R2) (f : Vl → Vl → R Vl) : Prop := ∀ (x y : Vl) (v u : V) (F1 F2 : Addr → Prop) (G H : Hp) (Q : VK) (W : WX) (σ : L2.St), Same G H → Own K cl H G x.k v x.d F1 → Own K cl H G y.k u y.d F2 →
  PostG cl W σ G H (PV K cl Q) (f x y) → (∀ c, f x y ≠ .ex c) → r v u H Q
def eO2 (f : Vl → Vl → R Vl) (a b : EF) : EF := fun ρ => (a ρ).bind fun x => (b ρ).bind fun y => f x y
@[simp] theorem eO2_eq (f : Vl → Vl → R Vl) (a b : EF) (ρ : Env) : eO2 f a b ρ = (a ρ).bind fun x => (b ρ).bind fun y => f x y := rfl
theorem semO2 {K : PySem.W.Frag} {r : R2} {f : Vl → Vl → R Vl} (hf : OpA K cl r f) (hx : ∀ x y c, f x y ≠ .ex c) {ta tb : TE} {a b : EF} (ha : SemE K cl W ta a) (hb : SemE K cl W tb b) : SemE K cl W (tOp r ta tb) (eO2 f a b) := by
  intro ρ σ G H Fs env Q hq
  refine ha.use env PV.mono hq fun x v G1 H1 F1 _ p1 env1 o1 f1 hq1 => ?_
  refine hb.use env1 PV.mono hq1 fun y u G2 H2 F2 _ p2 env2 o2 f2 hq2 => ?_
  exact hf x y v u F1 F2 G2 H2 Q W σ env2.gh (o1.px p2) o2 hq2 (hx x y)
theorem ev_o2 {a b : Expr} {fa fb : EF} {op : Operator} {r : R2} {f : Vl → Vl → R Vl} (ho : OpR X (binaryOp op) r) (hf : OpA X.K cl r f) (hx : ∀ x y c, f x y ≠ .ex c) (ha : EvE X cl W a fa) (hb : EvE X cl W b fb) : EvE X cl W (.BinOp a op b pos) (eO2 f fa fb) := by
  obtain ⟨ta, pa, sa⟩ := ha
  obtain ⟨tb, pb, sb⟩ := hb
  exact ⟨_, pe_op ho pa pb, semO2 hf hx sa sb⟩
def catV (x y : Vl) : R Vl := match x.d, y.d with
  | .lst a, .lst b => if x.k ≤ 1 ∧ y.k ≤ 1 ∧ a.length + b.length ≤ 10000 then .ok ⟨false, 1, .lst (a ++ b)⟩ else .bad
  | _, _ => .bad
@[simp] theorem catV_eq (b c : Bool) (k l : Nat) (xs ys : List D) : catV ⟨b, k, .lst xs⟩ ⟨c, l, .lst ys⟩ = if k ≤ 1 ∧ l ≤ 1 ∧ xs.length + ys.length ≤ 10000 then .ok ⟨false, 1, .lst (xs ++ ys)⟩ else .bad := rfl
theorem RepL.app {cl : Str → Addr} {K : PySem.W.Frag} {G : Hp} {vs us : List V} {ds es : List D} (h : RepL K cl G vs ds) (h2 : RepL K cl G us es) : RepL K cl G (vs ++ us) (ds ++ es) := by
  refine ⟨by simp [h.1, h2.1], fun i v d e1 e2 => ?_⟩
  by_cases hi : i < vs.length
  · rw [List.getElem?_append_left hi] at e1
    rw [List.getElem?_append_left (by rw [← h.1]; exact hi)] at e2
    exact h.2 i v d e1 e2
  · rw [List.getElem?_append_right (by omega)] at e1
    rw [List.getElem?_append_right (by rw [← h.1]; omega), ← h.1] at e2
    exact h2.2 _ v d e1 e2
theorem oa_cat {K : PySem.W.Frag} : OpA K cl rCatS catV := by
  intro x y v u F1 F2 G H Q W σ gh o1 o2 hq _
  obtain ⟨b, k, d⟩ := x
  obtain ⟨c, l, e⟩ := y
  cases d with
  | lst xs =>
    cases e with
    | lst ys =>
      rw [catV_eq] at hq
      by_cases h : k ≤ 1 ∧ l ≤ 1 ∧ xs.length + ys.length ≤ 10000
      · rw [if_pos h] at hq
        obtain ⟨p, vs, rfl, hS, rl⟩ := Own.flat h.1 o1 gh
        obtain ⟨p2, vs2, rfl, hS2, rl2⟩ := Own.flat h.2.1 o2 gh
        exact ⟨p, p2, vs, vs2, rfl, rfl, hS, hS2, by rw [rl.1, rl2.1]; exact le_line2 h.2.2, fun q hl => hq _ G _ _ (px_new gh hl) (own1 upd_same (rl.app rl2)) (foo1 gh hl)⟩
      · rw [if_neg h] at hq
        exact hq.elim
    | _ => exact hq.elim
  | _ => exact hq.elim
theorem catV_x (x y : Vl) (c : Str) : catV x y ≠ .ex c := by
  obtain ⟨b, k, d⟩ := x
  obtain ⟨b2, l, e⟩ := y
  cases d <;> cases e <;> intro h <;> first | cases h | skip
  rw [catV_eq] at h
  split at h <;> cases h
/-- texts: + -/
def scatD : D → D → Option D
  | .str a, .str b => if a.length + b.length ≤ 10000 then some (.str (a ++ b)) else none
  | _, _ => none
@[simp] theorem scatD_eq (a b : Str) : scatD (.str a) (.str b) = if a.length + b.length ≤ 10000 then some (.str (a ++ b)) else none := rfl
theorem os_scat {K : PySem.W.Frag} : OpS K cl (fun x y H Q => ∃ i j, x = .str i ∧ y = .str j ∧ i.length + j.length ≤ sizeLine ∧ Q (.str (i ++ j)) H) scatD := by
  intro k l x y dx dy d F1 F2 G H Q gh o1 o2 e q
  cases dx with
  | str i =>
    cases dy with
    | str j =>
      rw [scatD_eq] at e
      by_cases h : i.length + j.length ≤ 10000
      · rw [if_pos h] at e
        cases e
        exact ⟨i, j, o1.str, o2.str, le_line2 h, q _ (.str _)⟩
      · rw [if_neg h] at e
        cases e
    | _ => cases e
  | _ => cases e
/-- xs[a:b] of a list -/
def cutD (xs : List D) (lo hi : Option Int) : List D := (xs.drop (HT.sIx xs.length 0 lo)).take (HT.sIx xs.length xs.length hi - HT.sIx xs.length 0 lo)
def OF := Env → R (Option Int)
def oNone : OF := fun _ => .ok none
def oSome (f : EF) : OF := fun ρ => (f ρ).bind fun x => match x.d with
  | .int i => .ok (some i)
  | _ => .bad
@[simp] theorem oNone_eq (ρ : Env) : oNone ρ = .ok none := rfl
@[simp] theorem oSome_eq (f : EF) (ρ : Env) : oSome f ρ = (f ρ).bind fun x => match x.d with
  | .int i => .ok (some i)
  | _ => .bad := rfl
def PO2 (Q : Option Int → Hp → Prop) (b : Option Int) (G H : Hp) : Prop := ∀ G' H', Px G H G' H' → Q b H'
theorem PO2.mono {Q : Option Int → Hp → Prop} : Mono (PO2 Q) := fun x G H G' H' p h G2 H2 p2 => h G2 H2 (p.trans p2)
def SemO (K : PySem.W.Frag) (cl : Clx) (W : WX) (t : TO) (F : OF) : Prop := ∀ ρ σ G H Fs, EnvR K cl ρ σ G H Fs → ∀ Q, PostG cl W σ G H (PO2 Q) (F ρ) → t σ H Q
def EvO (X : Cx) (cl : Clx) (W : WX) (e : Option Expr) (F : OF) : Prop := ∃ t, PO X e t ∧ SemO X.K cl W t F
theorem eo_some {e : Expr} {f : EF} (h : EvE X cl W e f) : EvO X cl W (some e) (oSome f) := by
  obtain ⟨t, p, s⟩ := h
  refine ⟨_, po_some p, fun ρ σ G H Fs env Q hq => ?_⟩
  refine s.use env PO2.mono hq fun x v G1 H1 F1 _ p1 env1 o1 f1 hq1 => ?_
  obtain ⟨b, k, d⟩ := x
  cases d with
  | int i => exact ⟨i, o1.int, hq1 G1 H1 (Px.refl env1.gh)⟩
  | _ => exact hq1.elim
theorem SemO.use {K : PySem.W.Frag} {ρ : Env} {σ : L2.St} {G H : Hp} {Fs : Foot} {t : TO} {F : OF} (h : SemO K cl W t F) (env : EnvR K cl ρ σ G H Fs) {α : Type} {g : Option Int → R α} {P : α → Hp → Hp → Prop} (hm : Mono P) (hq : PostG cl W σ G H P ((F ρ).bind g)) {C : Option Int → Hp → Prop}
    (step : ∀ x G' H', F ρ = .ok x → Px G H G' H' → EnvR K cl ρ σ G' H' Fs → PostG cl W σ G' H' P (g x) → C x H') : t σ H C := by
  refine h ρ σ G H Fs env C ?_
  cases e : F ρ with
  | ok x =>
    rw [e] at hq
    exact fun G' H' p => step x G' H' e p (env.px p) (PostG.mono hm p hq)
  | ex c =>
    rw [e] at hq
    exact hq
  | bad =>
    rw [e] at hq
    exact hq
def cutL (x : Vl) (lo hi : Option Int) : R Vl := match x.d with
  | .lst ds => if x.k ≤ 1 then .ok ⟨false, 1, .lst (cutD ds lo hi)⟩ else .bad
  | _ => .bad
@[simp] theorem cutL_0 (b : Bool) (ds : List D) (lo hi : Option Int) : cutL ⟨b, 0, .lst ds⟩ lo hi = .ok ⟨false, 1, .lst (cutD ds lo hi)⟩ := rfl
@[simp] theorem cutL_1 (b : Bool) (ds : List D) (lo hi : Option Int) : cutL ⟨b, 1, .lst ds⟩ lo hi = .ok ⟨false, 1, .lst (cutD ds lo hi)⟩ := rfl
def eCut (a : EF) (lo hi : OF) : EF := fun ρ => (a ρ).bind fun x => (lo ρ).bind fun l => (hi ρ).bind fun h => cutL x l h
@[simp] theorem eCut_eq (a : EF) (lo hi : OF) (ρ : Env) : eCut a lo hi ρ = (a ρ).bind fun x => (lo ρ).bind fun l => (hi ρ).bind fun h => cutL x l h := rfl
theorem RepL.cut {cl : Str → Addr} {K : PySem.W.Frag} {G : Hp} {vs : List V} {ds : List D} (h : RepL K cl G vs ds) (lo hi : Option Int) : RepL K cl G (cutV vs lo hi) (cutD ds lo hi) := by
  unfold cutV cutD
  rw [h.1]
  refine ⟨by simp [h.1], fun i v d e1 e2 => ?_⟩
  rw [List.getElem?_take] at e1 e2
  split at e1
  · rename_i hi
    rw [if_pos hi] at e2
    rw [List.getElem?_drop] at e1 e2
    exact h.2 _ v d e1 e2
  · cases e1
theorem ev_cut {a : Expr} {lo hi : Option Expr} {p2 : Pos} {f : EF} {l u : OF} (ha : EvE X cl W a f) (hl : EvO X cl W lo l) (hu : EvO X cl W hi u) : EvE X cl W (.Subscript a (.Slice lo hi none p2) pos) (eCut f l u) := by
  obtain ⟨t, p, s⟩ := ha
  obtain ⟨t1, q1, s1⟩ := hl
  obtain ⟨t2, q2, s2⟩ := hu
  refine ⟨_, pe_slice sl_list p q1 q2, fun ρ σ G H Fs env Q hq => ?_⟩
  refine s.use env PV.mono hq fun x v G1 H1 F1 _ p1 env1 o1 f1 hq1 => ?_
  refine s1.use env1 PV.mono hq1 fun i G2 H2 _ p2 env2 hq2 => ?_
  refine s2.use env2 PV.mono hq2 fun j G3 H3 _ p3 env3 hq3 => ?_
  have o3 := (o1.px p2).px p3
  obtain ⟨b, k, d⟩ := x
  cases d with
  | lst ds =>
    by_cases hk : k ≤ 1
    · have e1 : cutL ⟨b, k, .lst ds⟩ i j = .ok ⟨false, 1, .lst (cutD ds i j)⟩ := if_pos hk
      rw [e1] at hq3
      obtain ⟨p, vs, rfl, hS, rl⟩ := Own.flat hk o3 env3.gh
      exact ⟨p, vs, rfl, .inl hS, fun q hl => hq3 _ G3 _ _ (px_new env3.gh hl) (own1 upd_same (rl.cut i j)) (foo1 env3.gh hl)⟩
    · have e1 : cutL ⟨b, k, .lst ds⟩ i j = .bad := if_neg hk
      rw [e1] at hq3
      exact hq3.elim
  | _ => exact hq3.elim
end
end B
namespace B
open PySem L2
section
variable {X : Cx} {cl : Clx} {W : WX} {pos : Pos}
/-! ### operators by what they meet -/
def ofD {α : Type} (o : Option D) : R Vl := ofO o
/-- + -/
def addV (x y : Vl) : R Vl := match x.d, y.d with
  | .int i, .int j => .ok (sh (.int (i + j)))
  | .str a, .str b => ofO (scatD (.str a) (.str b))
  | .lst _, .lst _ => catV x y
  | _, _ => .bad
@[simp] theorem addV_i (b c : Bool) (k l : Nat) (i j : Int) : addV ⟨b, k, .int i⟩ ⟨c, l, .int j⟩ = .ok (sh (.int (i + j))) := rfl
@[simp] theorem addV_s (b c : Bool) (k l : Nat) (i j : Str) : addV ⟨b, k, .str i⟩ ⟨c, l, .str j⟩ = ofO (scatD (.str i) (.str j)) := rfl
@[simp] theorem addV_l (b c : Bool) (k l : Nat) (i j : List D) : addV ⟨b, k, .lst i⟩ ⟨c, l, .lst j⟩ = catV ⟨b, k, .lst i⟩ ⟨c, l, .lst j⟩ := rfl
abbrev rAddA : R2 := fun x y H Q => (∃ i j, x = .int i ∧ y = .int j ∧ Q (.int (i + j)) H) ∨ (∃ i j, x = .str i ∧ y = .str j ∧ i.length + j.length ≤ sizeLine ∧ Q (.str (i ++ j)) H) ∨ rCatS x y H Q
theorem op_addA : OpR X (binaryOp .Add) rAddA := OpR.or op_add (OpR.or op_add_str op_catS)
theorem ofO_post {K : PySem.W.Frag} {σ : L2.St} {G H : Hp} {Q : VK} {o : Option D} (h : PostG cl W σ G H (PV K cl Q) (ofO o)) (gh : Same G H) : ∃ d, o = some d ∧ ∀ v, Rep K cl G v d → Q v H := by
  cases o with
  | none => exact h.elim
  | some d => exact ⟨d, rfl, fun v r => h v G H (fun _ => False) (Px.refl gh) r noFoo⟩
theorem oa_add {K : PySem.W.Frag} : OpA K cl rAddA addV := by
  intro x y v u F1 F2 G H Q W σ gh o1 o2 hq hx
  obtain ⟨b, k, d⟩ := x
  obtain ⟨c, l, e⟩ := y
  cases d with
  | int i =>
    cases e with
    | int j => exact .inl ⟨i, j, o1.int, o2.int, hq _ G H (fun _ => False) (Px.refl gh) (Rep.int _) noFoo⟩
    | _ => exact hq.elim
  | str i =>
    cases e with
    | str j =>
      obtain ⟨d, e, q⟩ := ofO_post hq gh
      exact .inr (.inl (os_scat (K := K) (k := k) (l := l) gh o1 o2 e q))
    | _ => exact hq.elim
  | lst i =>
    cases e with
    | lst j => exact .inr (.inr (oa_cat _ _ v u F1 F2 G H Q W σ gh o1 o2 hq hx))
    | _ => exact hq.elim
  | _ => exact hq.elim
theorem addV_x (x y : Vl) (c : Str) : addV x y ≠ .ex c := by
  obtain ⟨b, k, d⟩ := x
  obtain ⟨b2, l, e⟩ := y
  cases d <;> cases e <;> intro h <;> first | cases h | skip
  · rw [addV_s] at h
    rw [scatD_eq] at h
    split at h <;> cases h
  · rw [addV_l] at h
    exact catV_x _ _ _ h
theorem ev_add {a b : Expr} {fa fb : EF} (ha : EvE X cl W a fa) (hb : EvE X cl W b fb) : EvE X cl W (.BinOp a .Add b pos) (eO2 addV fa fb) := ev_o2 op_addA oa_add addV_x ha hb
/-- values by an operator on data alone -/
def o2D (f : D → D → Option D) (x y : Vl) : R Vl := ofO (f x.d y.d)
@[simp] theorem o2D_eq (f : D → D → Option D) (b c : Bool) (k l : Nat) (x y : D) : o2D f ⟨b, k, x⟩ ⟨c, l, y⟩ = ofO (f x y) := rfl
theorem ev_sub {a b : Expr} {fa fb : EF} (ha : EvE X cl W a fa) (hb : EvE X cl W b fb) : EvE X cl W (.BinOp a .Sub b pos) (eOp subD fa fb) := ev_op op_sub os_sub ha hb
theorem ev_fdiv {a b : Expr} {fa fb : EF} (ha : EvE X cl W a fa) (hb : EvE X cl W b fb) : EvE X cl W (.BinOp a .FloorDiv b pos) (eOp fdivD fa fb) := ev_op op_fdivW os_fdiv ha hb
theorem ev_mod {a b : Expr} {fa fb : EF} (ha : EvE X cl W a fa) (hb : EvE X cl W b fb) : EvE X cl W (.BinOp a .Mod b pos) (eOp modD fa fb) := ev_op op_mod os_mod ha hb
theorem ev_pow {a b : Expr} {fa fb : EF} (ha : EvE X cl W a fa) (hb : EvE X cl W b fb) : EvE X cl W (.BinOp a .Pow b pos) (eOp powD fa fb) := ev_op op_pow os_pow ha hb
/-- * : ints, a list by an int, a text by an int -/
def rRepS : R2 := fun x y H Q => ∃ l k xs, x = .ref l ∧ y = .int k ∧ H l = some (.lst xs) ∧ -(2 ^ 63) ≤ k ∧ k < 2 ^ 63 ∧ xs.length * k.toNat ≤ sizeLine ∧ ∀ p, H p = none → Q (.ref p) (upd H p (.lst (List.replicate k.toNat xs).flatten))
noncomputable def repV (x y : Vl) : R Vl := match x, y.d with
  | ⟨false, 1, .lst a⟩, .int k => if small62 k ∧ a.length * k.toNat ≤ 10000 then .ok ⟨false, 1, .lst (List.replicate k.toNat a).flatten⟩ else .bad
  | _, _ => .bad
@[simp] theorem repV_eq (c : Bool) (l : Nat) (a : List D) (k : Int) : repV ⟨false, 1, .lst a⟩ ⟨c, l, .int k⟩ = if small62 k ∧ a.length * k.toNat ≤ 10000 then .ok ⟨false, 1, .lst (List.replicate k.toNat a).flatten⟩ else .bad := rfl
noncomputable def mulV (x y : Vl) : R Vl := match x.d, y.d with
  | .int i, .int j => ofO (mulD (.int i) (.int j))
  | .lst _, .int _ => repV x y
  | _, _ => .bad
@[simp] theorem mulV_i (b c : Bool) (k l : Nat) (i j : Int) : mulV ⟨b, k, .int i⟩ ⟨c, l, .int j⟩ = ofO (if mulOk i j then some (.int (i * j)) else none) := rfl
@[simp] theorem mulV_l (b c : Bool) (k l : Nat) (a : List D) (j : Int) : mulV ⟨b, k, .lst a⟩ ⟨c, l, .int j⟩ = repV ⟨b, k, .lst a⟩ ⟨c, l, .int j⟩ := rfl
abbrev rMulA : R2 := fun x y H Q => rI mulOk (fun i j => .int (i * j)) x y H Q ∨ rRep x y H Q
theorem op_mulAA : OpR X (binaryOp .Mult) rMulA := OpR.or op_mulA op_rep
theorem RepL.rep {cl : Str → Addr} {K : PySem.W.Frag} {G : Hp} {vs : List V} {ds : List D} (h : RepL K cl G vs ds) : ∀ n : Nat, RepL K cl G (List.replicate n vs).flatten (List.replicate n ds).flatten
  | 0 => RepL.nil
  | n + 1 => by
    rw [List.replicate_succ, List.replicate_succ, List.flatten_cons, List.flatten_cons]
    exact h.app (RepL.rep h n)
theorem oa_mul {K : PySem.W.Frag} : OpA K cl rMulA mulV := by
  intro x y v u F1 F2 G H Q W σ gh o1 o2 hq hx
  obtain ⟨b, k, d⟩ := x
  obtain ⟨c, l, e⟩ := y
  cases d with
  | int i =>
    cases e with
    | int j =>
      obtain ⟨d, e, q⟩ := ofO_post hq gh
      exact .inl (os_mul (K := K) (k := k) (l := l) gh o1 o2 e q)
    | _ => exact hq.elim
  | lst a =>
    cases e with
    | int j =>
      cases b with
      | true => exact hq.elim
      | false =>
        match k, o1, hq with
        | 0, o1, hq => exact hq.elim
        | 1, o1, hq =>
          have hq : PostG cl W σ G H (PV K cl Q) (if small62 j ∧ a.length * j.toNat ≤ 10000 then .ok ⟨false, 1, .lst (List.replicate j.toNat a).flatten⟩ else .bad) := hq
          by_cases h : small62 j ∧ a.length * j.toNat ≤ 10000
          · rw [if_pos h] at hq
            obtain ⟨p, vs, Fs, rfl, hp, fp, hl, hr, hs, hd⟩ := o1
            have hj := h.1
            unfold small62 at hj
            have ej := o2.int
            exact .inr ⟨p, j, vs, rfl, ej, hp, by omega, by omega, by rw [hl]; exact le_line2 h.2, fun q hl' => hq _ G _ _ (px_new gh hl') (own1 upd_same ((show RepL K cl G vs a from ⟨hl, hr⟩).rep _)) (foo1 gh hl')⟩
          · rw [if_neg h] at hq
            exact hq.elim
        | k + 2, o1, hq => exact hq.elim
    | _ => exact hq.elim
  | _ => exact hq.elim
theorem mulV_x (x y : Vl) (c : Str) : mulV x y ≠ .ex c := by
  obtain ⟨b, k, d⟩ := x
  obtain ⟨b2, l, e⟩ := y
  cases d <;> cases e <;> intro h <;> first | cases h | skip
  · rw [mulV_i] at h
    split at h <;> cases h
  · rename_i a j
    cases b with
    | true => cases h
    | false =>
      match k, h with
      | 0, h => cases h
      | 1, h =>
        have h : (if small62 j ∧ a.length * j.toNat ≤ 10000 then R.ok (⟨false, 1, .lst (List.replicate j.toNat a).flatten⟩ : Vl) else R.bad) = R.ex c := h
        split at h <;> cases h
      | k + 2, h => cases h
theorem ev_mul {a b : Expr} {fa fb : EF} (ha : EvE X cl W a fa) (hb : EvE X cl W b fb) : EvE X cl W (.BinOp a .Mult b pos) (eO2 mulV fa fb) := ev_o2 op_mulAA oa_mul mulV_x ha hb
/-! comparisons of ints -/
theorem et_lt {a b : Expr} {fa fb : EF} (ha : EvE X cl W a fa) (hb : EvE X cl W b fb) : EvT X cl W (.Compare a [.Lt] [b] pos) (tV (eOp ltD fa fb)) := et_cmp op_lt os_lt ha hb (nomark _)
theorem et_le {a b : Expr} {fa fb : EF} (ha : EvE X cl W a fa) (hb : EvE X cl W b fb) : EvT X cl W (.Compare a [.LtE] [b] pos) (tV (eOp leD fa fb)) := et_cmp op_le os_le ha hb (nomark _)
theorem et_gt {a b : Expr} {fa fb : EF} (ha : EvE X cl W a fa) (hb : EvE X cl W b fb) : EvT X cl W (.Compare a [.Gt] [b] pos) (tV (eOp gtD fa fb)) := et_cmp op_gt os_gt ha hb (nomark _)
theorem et_ge {a b : Expr} {fa fb : EF} (ha : EvE X cl W a fa) (hb : EvE X cl W b fb) : EvT X cl W (.Compare a [.GtE] [b] pos) (tV (eOp geD fa fb)) := et_cmp op_ge os_ge ha hb (nomark _)
theorem ev_isN {a b : Expr} {fa fb : EF} (ha : EvE X cl W a fa) (hb : EvE X cl W b fb) : EvE X cl W (.Compare a [.Is] [b] pos) (eOp isD fa fb) := ev_cmp op_isN os_isN ha hb (nomark _)
/-! == and != of data -/
mutual
def toPy : D → PyData
  | .non => .none
  | .bl b => .bool b
  | .int i => .int i
  | .str s => .str s
  | .lst xs => .list (toPyL xs)
  | .tup xs => .tuple (toPyL xs)
  | .obj _ _ => .none
  | .exo _ => .none
  | .dct _ => .none
  | .dci _ => .none
def toPyL : List D → List PyData
  | [] => []
  | d :: ds => toPy d :: toPyL ds
end
mutual
def noObj : D → Bool
  | .obj _ _ => false
  | .exo _ => false
  | .dct _ => false
  | .dci _ => false
  | .lst xs => noObjL xs
  | .tup xs => noObjL xs
  | _ => true
def noObjL : List D → Bool
  | [] => true
  | d :: ds => noObj d && noObjL ds
end
theorem toPyL_len : ∀ ds : List D, (toPyL ds).length = ds.length
  | [] => rfl
  | d :: ds => by simp [toPyL, toPyL_len ds]
theorem toPyL_get : ∀ (ds : List D) (i : Nat), (toPyL ds)[i]? = ds[i]?.map toPy
  | [], i => by simp [toPyL]
  | d :: ds, 0 => by simp [toPyL]
  | d :: ds, i + 1 => by simp [toPyL, toPyL_get ds i]
theorem noObjL_get : ∀ {ds : List D} {i : Nat} {d : D}, noObjL ds = true → ds[i]? = some d → noObj d = true
  | [], i, d, _, h => by simp at h
  | e :: ds, 0, d, hn, h => by
    cases h
    simp only [noObjL, Bool.and_eq_true] at hn
    exact hn.1
  | e :: ds, i + 1, d, hn, h => by
    simp only [noObjL, Bool.and_eq_true] at hn
    exact noObjL_get hn.2 (by simpa using h)
theorem dpAll_of {K : PySem.W.Frag} {H : Hp} : ∀ {vs : List V} {ps : List PyData}, vs.length = ps.length → (∀ (i : Nat) v p, vs[i]? = some v → ps[i]? = some p → Dp K H v p) → DpAll K H vs ps
  | [], [], _, _ => .nil
  | v :: vs, p :: ps, hl, h => .cons (h 0 v p rfl rfl) (dpAll_of (by simpa using hl) fun i v' p' h1 h2 => h (i + 1) v' p' (by simpa using h1) (by simpa using h2))
  | [], _ :: _, hl, _ => by simp at hl
  | _ :: _, [], hl, _ => by simp at hl
theorem dp_rep {K : PySem.W.Frag} {G H : Hp} {v : V} {d : D} (gh : Same G H) (r : Rep K cl G v d) : noObj d = true → Dp K H v (toPy d) := by
  induction r with
  | non => exact fun _ => .non
  | bl b => exact fun _ => .bl b
  | int i => exact fun _ => .int i
  | str i => exact fun _ => .str i
  | lst h hl _ ih =>
    intro hn
    refine .lst (.inl (rdEx gh h)) (dpAll_of (by rw [toPyL_len]; exact hl) fun i v p h1 h2 => ?_)
    rw [toPyL_get] at h2
    cases e : (_ : List D)[i]? with
    | none => rw [e] at h2; cases h2
    | some d =>
      rw [e] at h2
      cases h2
      exact ih i v d h1 e (noObjL_get hn e)
  | tup h hl _ ih =>
    intro hn
    refine .tup (.inl (rdEx gh h)) (dpAll_of (by rw [toPyL_len]; exact hl) fun i v p h1 h2 => ?_)
    rw [toPyL_get] at h2
    cases e : (_ : List D)[i]? with
    | none => rw [e] at h2; cases h2
    | some d =>
      rw [e] at h2
      cases h2
      exact ih i v d h1 e (noObjL_get hn e)
  | obj h hl _ ih => intro hn; cases hn
  | exo h => intro hn; cases hn
  | dct h hl hk _ _ ih1 ih2 => intro hn; cases hn
  | dci h => intro hn; cases hn
theorem dp_own {K : PySem.W.Frag} {G H : Hp} (gh : Same G H) : ∀ {k : Nat} {v : V} {d : D} {F : Addr → Prop}, Own K cl H G k v d F → noObj d = true → Dp K H v (toPy d)
  | 0, v, d, F, o, hn => dp_rep gh o hn
  | k + 1, v, .lst ds, F, o, hn => by
    obtain ⟨p, vs, Fs, rfl, hp, fp, hl, hr, hs, hd⟩ := o
    refine .lst (.inl (.inl hp)) (dpAll_of (by rw [toPyL_len]; exact hl) fun i v p h1 h2 => ?_)
    rw [toPyL_get] at h2
    cases e : ds[i]? with
    | none => rw [e] at h2; cases h2
    | some d =>
      rw [e] at h2
      cases h2
      exact dp_own gh (hr i v d h1 e) (noObjL_get hn e)
  | k + 1, v, .obj C fs, F, o, hn => by cases hn
  | k + 1, v, .non, F, o, hn => dp_rep gh o hn
  | k + 1, v, .bl _, F, o, hn => dp_rep gh o hn
  | k + 1, v, .int _, F, o, hn => dp_rep gh o hn
  | k + 1, v, .str _, F, o, hn => dp_rep gh o hn
  | k + 1, v, .tup ds, F, o, hn => by
    by_cases hf : flatL ds = true
    · exact dp_rep gh (o.tupF hf) hn
    · obtain ⟨p, vs, Fs, rfl, hp, fp, hl, hr, hs, hd⟩ := o.tupN hf
      refine .tup (.inl (.inl hp)) (dpAll_of (by rw [toPyL_len]; exact hl) fun i v p h1 h2 => ?_)
      rw [toPyL_get] at h2
      cases e : ds[i]? with
      | none => rw [e] at h2; cases h2
      | some d =>
        rw [e] at h2
        cases h2
        exact dp_own gh (hr i v d h1 e) (noObjL_get hn e)
  | k + 1, v, .exo _, F, o, hn => by cases hn
  | k + 1, v, .dct _, F, o, hn => by cases hn
  | k + 1, v, .dci _, F, o, hn => by cases hn
/-- data that == takes -/
def dat (d : D) : Bool := noObj d && SeqAt.shaped (toPy d)
def eqA (x y : D) : Option Bool := match eqF x y with
  | some b => some b
  | none => if dat x && dat y then some (PyData.eqv (toPy x) (toPy y)) else none
@[simp] theorem eqA_int (i j : Int) : eqA (.int i) (.int j) = some (decide (i = j)) := rfl
@[simp] theorem eqA_str (i j : Str) : eqA (.str i) (.str j) = some (decide (i = j)) := rfl
@[simp] theorem eqA_bl (i j : Bool) : eqA (.bl i) (.bl j) = some (decide (i = j)) := rfl
theorem eqA_self {d : D} (h : dat d = true) : eqA d d = some true := by
  have hd : (dat d && dat d) = true := by rw [h]; rfl
  unfold eqA
  cases e : eqF d d with
  | some b =>
    cases d <;> first | (cases e; done) | skip
    all_goals
      simp only [eqF, Option.some.injEq, decide_true] at e
      rw [← e]
  | none =>
    dsimp only
    rw [if_pos hd, SeqAt.eqv_refl _ (SeqAt.canLay_of_shaped (Bool.and_eq_true_iff.mp h).2)]
def eqV (x y : Vl) : R Vl := match eqA x.d y.d with
  | some b => .ok (sh (.bl b))
  | none => .bad
def neV (x y : Vl) : R Vl := match eqA x.d y.d with
  | some b => .ok (sh (.bl (!b)))
  | none => .bad
@[simp] theorem eqV_i (b c : Bool) (k l : Nat) (i j : Int) : eqV ⟨b, k, .int i⟩ ⟨c, l, .int j⟩ = .ok (sh (.bl (decide (i = j)))) := rfl
@[simp] theorem neV_i (b c : Bool) (k l : Nat) (i j : Int) : neV ⟨b, k, .int i⟩ ⟨c, l, .int j⟩ = .ok (sh (.bl (!decide (i = j)))) := rfl
@[simp] theorem eqV_s (b c : Bool) (k l : Nat) (i j : Str) : eqV ⟨b, k, .str i⟩ ⟨c, l, .str j⟩ = .ok (sh (.bl (decide (i = j)))) := rfl
@[simp] theorem neV_s (b c : Bool) (k l : Nat) (i j : Str) : neV ⟨b, k, .str i⟩ ⟨c, l, .str j⟩ = .ok (sh (.bl (!decide (i = j)))) := rfl
@[simp] theorem eqV_b (b c : Bool) (k l : Nat) (i j : Bool) : eqV ⟨b, k, .bl i⟩ ⟨c, l, .bl j⟩ = .ok (sh (.bl (decide (i = j)))) := rfl
@[simp] theorem neV_b (b c : Bool) (k l : Nat) (i j : Bool) : neV ⟨b, k, .bl i⟩ ⟨c, l, .bl j⟩ = .ok (sh (.bl (!decide (i = j)))) := rfl
theorem eqV_self {b c : Bool} {k l : Nat} {d : D} (h : dat d = true) : eqV ⟨b, k, d⟩ ⟨c, l, d⟩ = .ok (sh (.bl true)) := by unfold eqV; dsimp only; rw [eqA_self h]
abbrev rEqA (K : PySem.W.Frag) : R2 := fun x y H Q => rEq x y H Q ∨ rEqD K x y H Q
abbrev rNeA (K : PySem.W.Frag) : R2 := fun x y H Q => rNe x y H Q ∨ rNeD K x y H Q
theorem oa_eq {K : PySem.W.Frag} : OpA K cl (rEqA K) eqV := by
  intro x y v u F1 F2 G H Q W σ gh o1 o2 hq hx
  obtain ⟨b, k, d⟩ := x
  obtain ⟨c, l, e⟩ := y
  unfold eqV eqA at hq
  dsimp only at hq
  cases ef : eqF d e with
  | some r =>
    rw [ef] at hq
    obtain ⟨s1, s2⟩ := eqF_of o1 o2 ef
    exact .inl ⟨s1, by rw [s2]; exact hq _ G H (fun _ => False) (Px.refl gh) (Rep.bl _) noFoo⟩
  | none =>
    rw [ef] at hq
    dsimp only at hq
    by_cases h : (dat d && dat e) = true
    · rw [if_pos h] at hq
      obtain ⟨h1, h2⟩ := Bool.and_eq_true_iff.mp h
      obtain ⟨a1, a2⟩ := Bool.and_eq_true_iff.mp h1
      obtain ⟨b1, b2⟩ := Bool.and_eq_true_iff.mp h2
      exact .inr ⟨_, _, dp_own gh o1 a1, dp_own gh o2 b1, a2, b2, hq _ G H (fun _ => False) (Px.refl gh) (Rep.bl _) noFoo⟩
    · rw [if_neg h] at hq
      exact hq.elim
theorem oa_ne {K : PySem.W.Frag} : OpA K cl (rNeA K) neV := by
  intro x y v u F1 F2 G H Q W σ gh o1 o2 hq hx
  obtain ⟨b, k, d⟩ := x
  obtain ⟨c, l, e⟩ := y
  unfold neV eqA at hq
  dsimp only at hq
  cases ef : eqF d e with
  | some r =>
    rw [ef] at hq
    obtain ⟨s1, s2⟩ := eqF_of o1 o2 ef
    exact .inl ⟨s1, by rw [s2]; exact hq _ G H (fun _ => False) (Px.refl gh) (Rep.bl _) noFoo⟩
  | none =>
    rw [ef] at hq
    dsimp only at hq
    by_cases h : (dat d && dat e) = true
    · rw [if_pos h] at hq
      obtain ⟨h1, h2⟩ := Bool.and_eq_true_iff.mp h
      obtain ⟨a1, a2⟩ := Bool.and_eq_true_iff.mp h1
      obtain ⟨b1, b2⟩ := Bool.and_eq_true_iff.mp h2
      exact .inr ⟨_, _, dp_own gh o1 a1, dp_own gh o2 b1, a2, b2, hq _ G H (fun _ => False) (Px.refl gh) (Rep.bl _) noFoo⟩
    · rw [if_neg h] at hq
      exact hq.elim
theorem eqV_x (x y : Vl) (c : Str) : eqV x y ≠ .ex c := by
  unfold eqV
  cases eqA x.d y.d <;> intro h <;> cases h
theorem neV_x (x y : Vl) (c : Str) : neV x y ≠ .ex c := by
  unfold neV
  cases eqA x.d y.d <;> intro h <;> cases h
theorem ev_eq {a b : Expr} {fa fb : EF} (hu : X.A.units + 64 < cLine) (ha : EvE X cl W a fa) (hb : EvE X cl W b fb) : EvE X cl W (.Compare a [.Eq] [b] pos) (eO2 eqV fa fb) := by
  obtain ⟨ta, pa, sa⟩ := ha
  obtain ⟨tb, pb, sb⟩ := hb
  exact ⟨_, pe_cmpR (OpR.or op_eq (op_eqD hu)) pa pb (nomark _), semO2 oa_eq eqV_x sa sb⟩
theorem et_eq {a b : Expr} {fa fb : EF} (hu : X.A.units + 64 < cLine) (ha : EvE X cl W a fa) (hb : EvE X cl W b fb) : EvT X cl W (.Compare a [.Eq] [b] pos) (tV (eO2 eqV fa fb)) := by
  obtain ⟨ta, pa, sa⟩ := ha
  obtain ⟨tb, pb, sb⟩ := hb
  exact ⟨_, pt_cmpR (OpR.or op_eq (op_eqD hu)) pa pb (nomark _), semTest (semO2 oa_eq eqV_x sa sb)⟩
theorem et_ne {a b : Expr} {fa fb : EF} (hu : X.A.units + 64 < cLine) (ha : EvE X cl W a fa) (hb : EvE X cl W b fb) : EvT X cl W (.Compare a [.NotEq] [b] pos) (tV (eO2 neV fa fb)) := by
  obtain ⟨ta, pa, sa⟩ := ha
  obtain ⟨tb, pb, sb⟩ := hb
  exact ⟨_, pt_cmpR (OpR.or op_ne (op_neD hu)) pa pb (nomark _), semTest (semO2 oa_ne neV_x sa sb)⟩
end
end B
namespace B
open PySem L2
section
variable {K : PySem.W.Frag} {cl : Clx} {W : WX} {ρ : Env} {σ : L2.St} {G H G' H' : Hp} {Fs Fs' : Foot}
/-! ### a name's own list changes -/
/-- slot i's list becomes another, at its place -/
theorem EnvR.put (e : EnvR K cl ρ σ G H Fs) {i : Nat} {ds : List D} (h : ρ[i]? = some (some (1, .lst ds))) : ∃ p vs, σ[i]? = some (some (.ref p)) ∧ H p = some (.lst vs) ∧ RepL K cl G vs ds ∧
    ∀ us es, RepL K cl G us es → EnvR K cl (ρ.set i (some (1, .lst es))) σ G (upd H p (.lst us)) Fs ∧ Sx (Un Fs) G H (Un Fs) G (upd H p (.lst us)) := by
  obtain ⟨v, hv, o⟩ := e.own i 1 _ h
  obtain ⟨p, vs, F, rfl, hp, fp, hl, hr, hs, hd⟩ := o
  refine ⟨p, vs, hv, hp, ⟨hl, hr⟩, fun us es r => ?_⟩
  have gp : G p = none := (e.dom i p fp).2
  have gh' : Same G (upd H p (.lst us)) := fun a o ho => by
    rw [upd_ne (fun z => by rw [z, gp] at ho; cases ho)]
    exact e.gh a o ho
  have th : ∀ a o, H a = some o → ∃ o', upd H p (.lst us) a = some o' := fun a o ho => by
    by_cases ha : a = p
    · subst ha; exact ⟨_, upd_same⟩
    · exact ⟨o, by rw [upd_ne ha]; exact ho⟩
  refine ⟨⟨by simp [e.len], gh', fun j k d hj => ?_, e.dis, fun j a f => ?_, e.fx⟩, ⟨Same.refl _, gh', fun a o ho n => ?_, th, fun a u => .inl u, fun a o ho => .inl ho⟩⟩
  · by_cases hji : j = i
    · subst hji
      have hlt : j < ρ.length := (List.getElem?_eq_some_iff.mp h).1
      rw [List.getElem?_set_self hlt] at hj
      cases hj
      exact ⟨_, hv, p, us, fun _ _ => False, rfl, upd_same, fp, r.1, fun i v d h1 h2 => r.2 i v d h1 h2, fun _ _ z => z.elim, fun _ _ _ z => z.elim⟩
    · rw [List.getElem?_set_ne (Ne.symm hji)] at hj
      obtain ⟨w, hw, o⟩ := e.own j k d hj
      refine ⟨w, hw, o.step (Same.refl _) fun a ob fa ha => ?_⟩
      rw [upd_ne (show a ≠ p from fun z => hji (e.dis j i a fa (by rw [z]; exact fp)))]
      exact ha
  · obtain ⟨⟨o, ho⟩, g⟩ := e.dom j a f
    exact ⟨th a o ho, g⟩
  · rw [upd_ne (show a ≠ p from fun z => n ⟨i, by rw [z]; exact fp⟩)]
    exact ho
/-- slot i's own things join the frozen part -/
theorem EnvR.fz (e : EnvR K cl ρ σ G H Fs) {i k : Nat} {d : D} (h : ρ[i]? = some (some (k, d))) : ∃ G' Fs', EnvR K cl (ρ.set i (some (0, d))) σ G' H Fs' ∧ Sx (Un Fs) G H (Un Fs') G' H := by
  classical
  obtain ⟨v, hv, o⟩ := e.own i k d h
  have gg : Same G (fun a => if Fs i a then H a else G a) := fun a o ho => by
    by_cases f : Fs i a
    · rw [(e.dom i a f).2] at ho; cases ho
    · simp only [if_neg f]; exact ho
  have gh' : Same (fun a => if Fs i a then H a else G a) H := fun a o ho => by
    by_cases f : Fs i a
    · simp only [if_pos f] at ho; exact ho
    · simp only [if_neg f] at ho; exact e.gh a o ho
  refine ⟨fun a => if Fs i a then H a else G a, fun j => if j = i then (fun _ => False) else Fs j, ⟨by simp [e.len], gh', fun j k' d' hj => ?_, fun j l a h1 h2 => ?_, fun j a f => ?_, e.fx⟩, ⟨gg, gh', fun _ _ e _ => e, fun _ o e => ⟨o, e⟩, fun a ⟨j, z⟩ => ?_, fun a o ho => ?_⟩⟩
  · by_cases hji : j = i
    · subst hji
      have hlt : j < ρ.length := (List.getElem?_eq_some_iff.mp h).1
      rw [List.getElem?_set_self hlt] at hj
      cases hj
      exact ⟨v, hv, o.rep gg fun a ob fa ha => by simp only [if_pos fa]; exact ha⟩
    · rw [List.getElem?_set_ne (Ne.symm hji)] at hj
      obtain ⟨w, hw, o⟩ := e.own j k' d' hj
      exact ⟨w, hw, by simp only [if_neg hji]; exact o.step gg fun a ob fa ha => ha⟩
  · by_cases hj : j = i
    · simp only [if_pos hj] at h1
    · by_cases hl : l = i
      · simp only [if_pos hl] at h2
      · simp only [if_neg hj] at h1
        simp only [if_neg hl] at h2
        exact e.dis j l a h1 h2
  · by_cases hj : j = i
    · simp only [if_pos hj] at f
    · simp only [if_neg hj] at f
      refine ⟨(e.dom j a f).1, ?_⟩
      have : ¬ Fs i a := fun z => hj (e.dis j i a f z)
      simp only [if_neg this]
      exact (e.dom j a f).2
  · by_cases hj : j = i
    · simp only [if_pos hj] at z
    · simp only [if_neg hj] at z
      exact .inl ⟨j, z⟩
  · by_cases f : Fs i a
    · exact .inr (.inl ⟨i, f⟩)
    · simp only [if_neg f] at ho; exact .inl ho
/-- what a name owns is frozen ahead of a statement -/
def sFz (i : Nat) (f : SF) : SF := fun ρ => match ρ[i]? with
  | some (some (_, d)) => f (ρ.set i (some (0, d)))
  | _ => .bad
theorem semFz {i : Nat} {t : TS} {f : SF} (h : SemS K cl W t f) : SemS K cl W t (sFz i f) := by
  intro ρ σ G H Fs env D hq
  unfold sFz at hq
  cases e : ρ[i]? with
  | none => rw [e] at hq; exact hq.elim
  | some s =>
    cases s with
    | none => rw [e] at hq; exact hq.elim
    | some kd =>
      obtain ⟨k, d⟩ := kd
      rw [e] at hq
      obtain ⟨G', Fs', env', s⟩ := env.fz e
      exact h _ σ G' H Fs' env' D (PostS.mono s hq)
/-- xs.append(e) and its like: slot i's list by its items and a value -/
def lsOf : Option Slot → Option (List D)
  | some (some (1, .lst ds)) => some ds
  | _ => none
@[simp] theorem lsOf_l (ds : List D) : lsOf (some (some (1, .lst ds))) = some ds := rfl
theorem lsOf_some {o : Option Slot} {ds : List D} (h : lsOf o = some ds) : o = some (some (1, .lst ds)) := by
  unfold lsOf at h
  split at h
  · cases h; rfl
  · cases h
def lsUp (i : Nat) (ρ : Env) : Option (List D) → RS
  | some es => .ok .nx (ρ.set i (some (1, .lst es)))
  | none => .bad
@[simp] theorem lsUp_some (i : Nat) (ρ : Env) (es : List D) : lsUp i ρ (some es) = .ok .nx (ρ.set i (some (1, .lst es))) := rfl
@[simp] theorem lsUp_none (i : Nat) (ρ : Env) : lsUp i ρ none = .bad := rfl
def withL (i : Nat) (ρ : Env) (g : List D → RS) : RS := match lsOf ρ[i]? with
  | some ds => g ds
  | none => .bad
def sMt (i : Nat) (g : List D → D → Option (List D)) (f : EF) : SF := fun ρ => withL i ρ fun ds => toS (f ρ) ρ fun x => toS (frz x) ρ fun y => lsUp i ρ (g ds y.d)
@[simp] theorem sMt_eq (i : Nat) (g : List D → D → Option (List D)) (f : EF) (ρ : Env) : sMt i g f ρ = withL i ρ fun ds => toS (f ρ) ρ fun x => toS (frz x) ρ fun y => lsUp i ρ (g ds y.d) := rfl
def MtL (K : PySem.W.Frag) (cl : Str → Addr) (r : V → List V → Hp → VK → Prop) (g : List D → D → Option (List D)) : Prop := ∀ (p : Addr) (vs : List V) (ds es : List D) (y : V) (d : D) (G H : Hp) (Q : VK), Same G H → H p = some (.lst vs) → RepL K cl G vs ds → Rep K cl G y d → g ds d = some es →
  (∀ us, RepL K cl G us es → Q .non (upd H p (.lst us))) → r (.ref p) [y] H Q
/-- .. without arguments: reverse, clear -/
def sMt0 (i : Nat) (g : List D → Option (List D)) : SF := fun ρ => withL i ρ fun ds => lsUp i ρ (g ds)
@[simp] theorem sMt0_eq (i : Nat) (g : List D → Option (List D)) (ρ : Env) : sMt0 i g ρ = withL i ρ fun ds => lsUp i ρ (g ds) := rfl
def MtL0 (K : PySem.W.Frag) (cl : Str → Addr) (r : V → List V → Hp → VK → Prop) (g : List D → Option (List D)) : Prop := ∀ (p : Addr) (vs : List V) (ds es : List D) (G H : Hp) (Q : VK), Same G H → H p = some (.lst vs) → RepL K cl G vs ds → g ds = some es →
  (∀ us, RepL K cl G us es → Q .non (upd H p (.lst us))) → r (.ref p) [] H Q
def appL (ds : List D) (d : D) : Option (List D) := if ds.length < 10000 then some (ds ++ [d]) else none
def extL (ds : List D) : D → Option (List D)
  | .lst es => if ds.length + es.length ≤ 10000 then some (ds ++ es) else none
  | _ => none
def revL (ds : List D) : Option (List D) := some ds.reverse
def clrL (_ : List D) : Option (List D) := some []
theorem lt_line2 {n : Nat} (h : n < 10000) : n < sizeLine := Nat.lt_trans h (by decide)
theorem ml_app : MtL K cl rAppend appL := by
  intro p vs ds es y d G H Q gh hp rl r e q
  unfold appL at e
  split at e
  · rename_i h
    cases e
    exact ⟨p, vs, y, rfl, rfl, hp, by rw [rl.1]; exact lt_line2 h, q _ (rl.app (.cons r .nil))⟩
  · cases e
def rExtS : V → List V → Hp → VK → Prop := fun x vs H Q => ∃ l b xs zs, x = .ref l ∧ vs = [.ref b] ∧ H l = some (.lst xs) ∧ Rd H b (.lst zs) ∧ xs.length + zs.length ≤ sizeLine ∧ Q .non (upd H l (.lst (xs ++ zs)))
theorem ml_ext : MtL K cl rExtS extL := by
  intro p vs ds es y d G H Q gh hp rl r e q
  cases d with
  | lst fs =>
    have e : (if ds.length + fs.length ≤ 10000 then some (ds ++ fs) else none) = some es := e
    split at e
    · rename_i h
      cases e
      obtain ⟨b, us, rfl, hS, rl2⟩ := r.lstR
      exact ⟨p, b, vs, us, rfl, rfl, hp, rdEx gh hS, by rw [rl.1, rl2.1]; exact le_line2 h, q _ (rl.app rl2)⟩
    · cases e
  | _ => cases e
theorem ml_clr : MtL0 K cl rClear clrL := by
  intro p vs ds es G H Q gh hp rl e q
  cases e
  exact ⟨p, vs, rfl, rfl, hp, q _ .nil⟩
end
section
variable {X : Cx} {cl : Clx} {W : WX} {pos : Pos}
theorem mt_extS : MtM X "list.extend" rExtS := by
  intro pins s σ H x vs v us Q I rx rv h
  obtain ⟨l, b, xs, zs, rfl, rfl, hH, hB, hz, q⟩ := h
  cases rx
  obtain ⟨u, rfl, ru⟩ := rv.one
  cases ru
  obtain ⟨z, its, n, r, hl, e⟩ := I.lstM hH
  obtain ⟨z2, its2, n2, r2, hl2, e2⟩ := lsRd I hB
  have hsz : its.toArray.size + its2.toArray.size ≤ sizeLine := by rw [List.size_toArray, List.size_toArray]; omega
  have hlong : ¬ (!its.toArray.isEmpty && Builtin.List.listTooLong (its.toArray.size + its2.toArray.size)) = true := by
    rw [notLongL hsz, Bool.and_false]
    exact Bool.false_ne_true
  refine call_meets F.slot_list_extend ⟨_, e, rfl⟩ F.entry_list_extend (F.args_list_extend_2 _ _)
    (AutoSeq1.list_extend_list_list_0 l its.toArray n b its2.toArray n2 hlong (by rw [List.size_toArray]; omega) (by omega)) ⟨e, e2, ?_⟩
  refine ⟨.non, _, I.lset (its' := its ++ its2) hH e (by simp) (r.append r2) ?_, rfl, q⟩
  rw [List.length_append]
  omega
theorem es_fz (i : Nat) {s : Stmt} {f : SF} (h : EvS X cl W s f) : EvS X cl W s (sFz i f) := by
  obtain ⟨t, p, q⟩ := h
  exact ⟨t, p, semFz q⟩
end
end B
namespace B
open PySem L2
/-! ### list comprehensions -/
def wipeE (ρ : Env) : List Nat → Env
  | [] => ρ
  | v :: vs => (wipeE ρ vs).set v none
@[simp] theorem wipeE_nil (ρ : Env) : wipeE ρ [] = ρ := rfl
@[simp] theorem wipeE_cons (ρ : Env) (v : Nat) (vs : List Nat) : wipeE ρ (v :: vs) = (wipeE ρ vs).set v none := rfl
def lcItems (g : GF) (t : TF) (e : EF) (ρ : Env) : List D → R (List D)
  | [] => .ok []
  | d :: ds => match g d ρ with
    | none => .bad
    | some ρ1 => (t ρ1).bind fun b => if b then (e ρ1).bind fun x => (frz x).bind fun y => (lcItems g t e ρ ds).bind fun r => .ok (y.d :: r) else lcItems g t e ρ ds
@[simp] theorem lcItems_nil (g : GF) (t : TF) (e : EF) (ρ : Env) : lcItems g t e ρ [] = .ok [] := rfl
def lcEnd (n : Nat) : R (List D) → R Vl
  | .ok es => if n ≤ 10000 then .ok ⟨false, 1, .lst es⟩ else .bad
  | _ => .bad
def eLc (w : IF) (g : GF) (t : TF) (e : EF) (us : List Nat) : EF := fun ρ => (w ρ).bind fun ds => lcEnd ds.length (lcItems g t e (wipeE ρ us) ds)
@[simp] theorem eLc_eq (w : IF) (g : GF) (t : TF) (e : EF) (us : List Nat) (ρ : Env) : eLc w g t e us ρ = (w ρ).bind fun ds => lcEnd ds.length (lcItems g t e (wipeE ρ us) ds) := rfl
def tYesF : TF := fun _ => .ok true
@[simp] theorem tYesF_eq (ρ : Env) : tYesF ρ = .ok true := rfl
abbrev W0 : WX := fun _ _ _ _ => False
section
variable {K : PySem.W.Frag} {cl : Clx} {W : WX} {ρ : Env} {σ : L2.St} {G H G' H' : Hp} {Fs Fs' : Foot}
theorem EnvR.wipe (e : EnvR K cl ρ σ G H Fs) : ∀ us : List Nat, (∀ u ∈ us, cl.fix u = none) → EnvR K cl (wipeE ρ us) (L2.wipe σ us) G H Fs
  | [], _ => e
  | u :: us, hx => by
    have e1 := EnvR.wipe e us fun u h => hx u (List.mem_cons_of_mem _ h)
    refine ⟨by simp [wipeE, L2.wipe, e1.len], e1.gh, fun i k d h => ?_, e1.dis, e1.dom, fun i v h => ?_⟩
    rotate_left
    · unfold L2.wipe
      have hi : i ≠ u := fun z => by rw [z, hx u List.mem_cons_self] at h; cases h
      rw [List.getElem?_set_ne (Ne.symm hi)]
      exact e1.fx i v h
    unfold wipeE at h
    unfold L2.wipe
    by_cases hi : i = u
    · subst hi
      have hlt : i < (wipeE ρ us).length := by
        have := (List.getElem?_eq_some_iff.mp h).1
        simpa using this
      rw [List.getElem?_set_self hlt] at h
      cases h
    · rw [List.getElem?_set_ne (Ne.symm hi)] at h
      rw [List.getElem?_set_ne (Ne.symm hi)]
      exact e1.own i k d h
theorem SemI.useE {t : TI} {F : IF} (h : SemI K cl W t F) (env : EnvR K cl ρ σ G H Fs) {α : Type} {g : List D → R α} {P : α → Hp → Hp → Prop} (hm : Mono P) (hq : PostG cl W σ G H P ((F ρ).bind g)) {C : It → Hp → Prop}
    (step : ∀ x J G' H', F ρ = .ok x → Px G H G' H' → EnvR K cl ρ σ G' H' Fs → Yields K cl G' J x → PostG cl W σ G' H' P (g x) → C J H') : t σ H C := by
  refine h ρ σ G H Fs env C ?_
  cases e : F ρ with
  | ok x =>
    rw [e] at hq
    exact fun J G' H' p y => step x J G' H' e p (env.px p) y (PostG.mono hm p hq)
  | ex c =>
    rw [e] at hq
    exact hq
  | bad =>
    rw [e] at hq
    exact hq
theorem none_of_px {G H G' H' : Hp} {D : Addr} {o : HO} (p : Px G H G' H') (g : G D = none) (h : H D = some o) : G' D = none := by
  cases q : G' D with
  | none => rfl
  | some u =>
    rcases p.gn D u q with z | z
    · rw [g] at z; cases z
    · rw [h] at z; cases z
end
section
variable {X : Cx} {cl : Clx} {W : WX} {pos : Pos}
def EvTs (X : Cx) (cl : Clx) (W : WX) (e : List Expr) (F : TF) : Prop := ∃ t, PTs X e t ∧ SemT X.K cl W t F
theorem ets_nil : EvTs X cl W [] tYesF := ⟨_, pts_nil, fun ρ σ G H Fs env Q hq => hq G H (Px.refl env.gh)⟩
/-- what stands within a comprehension has one reading for all its frames -/
structure Fr5 where
  s : Shared
  H : Hp
  C : Addr
  cl : List (Str × Addr)
  fp : List Addr
abbrev blk5 (X : Cx) (scope : Scope) (z : Fr5) : Cx := X.blk z.s z.H scope (compEnvC scope z.cl z.C X.env) z.fp
theorem uniE {scope : Scope} {e : Expr} {f : EF} (h : ∀ s H C c fp, EvE (X.blk s H scope (compEnvC scope c C X.env) fp) cl W e f) : ∃ t, (∀ s H C c fp, PE (X.blk s H scope (compEnvC scope c C X.env) fp) e t) ∧ SemE X.K cl W t f := by
  have h' : ∀ z : Fr5, ∃ t, PE (blk5 X scope z) e t ∧ SemE X.K cl W t f := fun z => h z.s z.H z.C z.cl z.fp
  have hc : ∃ t : Fr5 → TE, ∀ z, PE (blk5 X scope z) e (t z) ∧ SemE X.K cl W (t z) f := ⟨fun z => Classical.choose (h' z), fun z => Classical.choose_spec (h' z)⟩
  obtain ⟨t, ht⟩ := hc
  exact ⟨fun σ H Q => ∀ z, t z σ H Q, fun s H C c fp => ⟨fun pins s' σ H' Q I q => (ht ⟨s, H, C, c, fp⟩).1.run pins s' σ H' Q I (q _)⟩, fun ρ σ G H Fs env Q hq z => (ht z).2 ρ σ G H Fs env Q hq⟩
theorem uniG {scope : Scope} {e : Expr} {g : GF} {T : List Nat} (h : ∀ s H C c fp, EvG (X.blk s H scope (compEnvC scope c C X.env) fp) cl e g T) : ∃ t, (∀ s H C c fp, PG (X.blk s H scope (compEnvC scope c C X.env) fp) e t) ∧ SemG X.K cl t g T := by
  have h' : ∀ z : Fr5, ∃ t, PG (blk5 X scope z) e t ∧ SemG X.K cl t g T := fun z => h z.s z.H z.C z.cl z.fp
  have hc : ∃ t : Fr5 → TG, ∀ z, PG (blk5 X scope z) e (t z) ∧ SemG X.K cl (t z) g T := ⟨fun z => Classical.choose (h' z), fun z => Classical.choose_spec (h' z)⟩
  obtain ⟨t, ht⟩ := hc
  exact ⟨fun v σ H Q => ∀ z, t z v σ H Q, fun s H C c fp => ⟨fun pins s' σ H' v u Q I r q => (ht ⟨s, H, C, c, fp⟩).1.run pins s' σ H' v u Q I r (q _)⟩, fun ρ σ G H Fs v d env r Q hq z => (ht z).2 ρ σ G H Fs v d env r Q hq⟩
theorem uniT {scope : Scope} {e : List Expr} {f : TF} (h : ∀ s H C c fp, EvTs (X.blk s H scope (compEnvC scope c C X.env) fp) cl W e f) : ∃ t, (∀ s H C c fp, PTs (X.blk s H scope (compEnvC scope c C X.env) fp) e t) ∧ SemT X.K cl W t f := by
  have h' : ∀ z : Fr5, ∃ t, PTs (blk5 X scope z) e t ∧ SemT X.K cl W t f := fun z => h z.s z.H z.C z.cl z.fp
  have hc : ∃ t : Fr5 → TT, ∀ z, PTs (blk5 X scope z) e (t z) ∧ SemT X.K cl W (t z) f := ⟨fun z => Classical.choose (h' z), fun z => Classical.choose_spec (h' z)⟩
  obtain ⟨t, ht⟩ := hc
  exact ⟨fun σ H Q => ∀ z, t z σ H Q, fun s H C c fp => ⟨fun pins s' σ H' Q I q => (ht ⟨s, H, C, c, fp⟩).1.run pins s' σ H' Q I (q _)⟩, fun ρ σ G H Fs env Q hq z => (ht z).2 ρ σ G H Fs env Q hq⟩
end
end B
namespace B
open PySem L2
/-! ### the end of a law -/
theorem noList_lookup {a : Addr} {o : Obj} : ∀ {K : PySem.W.Frag}, noList K = true → K.lookup a = some o → o.cls ≠ .type "list"
  | [], _, h => nomatch h
  | (b, u) :: r, hn, h => by
    unfold noList at hn
    rw [List.all_cons, Bool.and_eq_true] at hn
    have h2 : (match a == b with | true => some u | false => r.lookup a) = some o := h
    cases q : (a == b) with
    | true =>
      rw [q] at h2
      cases h2
      exact of_decide_eq_true hn.1
    | false =>
      rw [q] at h2
      exact noList_lookup (K := r) hn.2 h2
theorem pxAll_list {px : List (PySem.W.Frag → Bool)} {K : PySem.W.Frag} (h : pxAll px K = true) : noList K = true := (Bool.and_eq_true_iff.mp h).1
theorem pxAll_get {px : List (PySem.W.Frag → Bool)} {K : PySem.W.Frag} (h : pxAll px K = true) (i : Nat) {f : PySem.W.Frag → Bool} (e : px[i]? = some f) : f K = true := List.all_eq_true.mp (Bool.and_eq_true_iff.mp h).2 f (List.mem_of_getElem? e)
theorem obB_eq {n : List Addr} {fa : List He.Fa} {fn : List He.DefD} {px : List (PySem.W.Frag → Bool)} {g : Addr → Option Obj} {s : Shared} (h : ∀ a, g a = s.heap.get? a) : obB n fa fn px g = (hookB n fa fn px).obs s := by
  have e : g = s.heap.get? := funext h
  rw [e] <;> rfl
abbrev intsD (ns : List Int) : D := .lst (ns.map .int)
theorem repL_ints {K : PySem.W.Frag} {cl : Str → Addr} {G : Hp} (ns : List Int) : RepL K cl G (ns.map V.int) (ns.map D.int) := by
  refine ⟨by simp, fun i v d h1 h2 => ?_⟩
  rw [List.getElem?_map] at h1 h2
  cases e : ns[i]? with
  | none => rw [e] at h1; cases h1
  | some n =>
    rw [e] at h1 h2
    cases h1
    cases h2
    exact .int n
/-- the law as data: True for each script -/
def LawTrue (f : Fn) : Prop := ∀ ns : List Int, ns.length ≤ 63 → (∀ k ∈ ns, Builtin.Int.intBits k ≤ 1048576) → ∃ k, f [intsD ns] = .ok ⟨false, k, .bl true⟩
theorem law_sp {K : PySem.W.Frag} {cl : Str → Addr} {f : Fn} {ns : List Int} {H : Hp} {a : Addr} (hk : noList K = true) (hS : SqL K H a (ns.map V.int)) (ht : ∃ k, f [intsD ns] = .ok ⟨false, k, .bl true⟩) :
    spP K cl 1 f [.ref a] H (fun v _ => v = .bl true) fun _ _ _ => False := by
  have hR : Rd H a (.lst (ns.map V.int)) := by
    rcases hS with h | ⟨o, its, n, h1, h2, _⟩
    · exact h
    · exact absurd h2 (noList_lookup hk h1)
  obtain ⟨k, e⟩ := ht
  refine ⟨rfl, H, [intsD ns], Same.refl _, .cons (.lst hR (repL_ints (cl := cl) (K := K) (G := H) ns).1 (repL_ints ns).2) .nil, ?_⟩
  rw [e]
  exact ⟨rfl, fun v G' H' F p o fo => o.bl⟩
theorem law_walk {l : PySem.W.OpenLaw} {n : List Addr} {k : Nat} {q : Program} {loose : List Str} {XP : (Str → Option Value) → Heap → Prop} {fa : List He.Fa} {fn : List He.DefD} {px : List (PySem.W.Frag → Bool)} {d : DefRec} {x : Str} (f : Fn) (cl : PySem.W.Frag → Str → Addr)
    (hn : l.most = some 63) (hdf : d.params.defaults = []) (hr : Room k callerA) (ht : LawTrue f)
    (F : ∀ (w : World) (mg : Str → Option Value) (g : Addr) (h : Heap) (K : PySem.W.Frag), K.In h → He.SaysD fa fn K → pxAll px K = true → h.Ns mainGlobals mg → mg d.name = some (.ref g) →
      ∃ fd : FuncData, (∀ (s : Shared) (u : Value), BindsTo s fd ⟨[u], []⟩ [(x, u)]) ∧ ∀ base : Heap, K.In base → base.Ns mainGlobals mg → FnOk l.prog w K mg base (L2.CX l.prog w) k g fd [x] (spP K (cl K) 1 f)) :
    PySem.W.WalkO q loose XP (hookB n fa fn px).says l.row.toRowW d [] (fun f vs => PySem.call f vs) := by
  refine Att.attach_callB hn hdf fun w s0 s1 mg mb g o pm cd doc a vs ns G Y ho hd hcd hmg hobj hints hlen hbits hg => ?_
  obtain ⟨K, KX, hc, hk⟩ := Y
  obtain ⟨fd, hb, hF⟩ := F w mg g _ K KX hc hk G.T.g hmg
  refine law_call KX G.T.g G.T.b G.T.builtins G.T.nolimit hg hobj hints (Nat.le_trans hlen (by decide)) hr hF hb (fun H hO hS => law_sp (pxAll_list hk) hS (ht ns hlen hbits)) fun H e s' z => ?_
  obtain ⟨_, _, _, _, _, _, _, _, _, _, _, _, z⟩ := z
  exact z
end B
namespace B
open PySem L2 HandSHeadRun PySem.W PySem.Calls PyProof.Rows
/-- the same in four parts: the frame, the names' facts, what else is asked, the defs -/
theorem run_parts4 {r : OpenRow} {q : Program} {M : Nat} {n : List Addr} {loose : List PySem.Str} {w : World} {fa : List He.Fa} {fn : List He.DefD} {px : List (PySem.W.Frag → Bool)}
    (h1 : RunEq r q (hookB n [] [] []) (fun s => obB n [] [] [] (getT s)) M loose w) (h2 : RunP r M w (fun s => fa.all fun f => f.ok (kB n s)) true) (h3 : RunP r M w (fun s => px.all fun f => f (kB n s)) true)
    (h4 : RunP r M w (fun s => He.obsD [] fn (kB n s)) (He.valD fn)) : RunEq r q (hookB n fa fn px) (fun s => obB n fa fn px (getT s)) M loose w := by
  intro os
  have a := h1 os
  have b := h2 os
  have d := h3 os
  have c := h4 os
  cases e : endF (stepQ (denQ tabQ) r.prog w) M r.prog w os with
  | none => rw [e] at a; cases a
  | some s =>
    rw [e] at a b c d
    simp only [Option.map_some, Option.some.injEq] at a b c d ⊢
    have a1 := (Prod.mk.inj a).1
    have a5 := (Prod.mk.inj (Prod.mk.inj a).2)
    have a2 := a5.1
    have a6 : obB n [] [] [] (getT s) = (He.valD [], true) := a5.2
    have a4 : pxAll [] (kB n s) = true := by
      have z : (obB n [] [] [] (getT s)).2 = true := by rw [a6]
      exact z
    have nl : noList (kB n s) = true := pxAll_list a4
    have c1 : (He.obsD [] fn (kB n s)).1 = true := by rw [c]; rfl
    have c2 : (He.obsD [] fn (kB n s)).2 = fn.map He.DefD.val := by rw [c]; rfl
    refine Prod.ext a1 (Prod.ext a2 (Prod.ext (Prod.ext ?_ ?_) ?_))
    · show ((fa.all fun f => f.ok (kB n s)) && fn.all fun d => d.ok (kB n s)) = true
      have e3 : (fn.all fun d => d.ok (kB n s)) = true := c1
      rw [b, e3]
      rfl
    · exact c2
    · show (noList (kB n s) && px.all fun f => f (kB n s)) = true
      rw [nl, d]
      rfl
end B
namespace B
open PySem L2
section
variable {X : Cx} {cl : Clx} {W : WX} {pos : Pos}
/-! ### a < b < c -/
def eChn (f g : D → D → Option D) (a b c : EF) : EF := fun ρ => (a ρ).bind fun x => (b ρ).bind fun y => (ofO (f x.d y.d)).bind fun r => (asB r.d).bind fun k => if k then (c ρ).bind fun z => ofO (g y.d z.d) else .ok (sh (.bl false))
@[simp] theorem eChn_eq (f g : D → D → Option D) (a b c : EF) (ρ : Env) : eChn f g a b c ρ = (a ρ).bind fun x => (b ρ).bind fun y => (ofO (f x.d y.d)).bind fun r => (asB r.d).bind fun k => if k then (c ρ).bind fun z => ofO (g y.d z.d) else .ok (sh (.bl false)) := rfl
def isBl : D → Prop
  | .bl _ => True
  | _ => False
theorem semChn {K : PySem.W.Frag} {r r' : R2} {f g : D → D → Option D} (hf : OpS K cl r f) (hg : OpS K cl r' g) (hb1 : ∀ x y d, f x y = some d → isBl d) {ta tb tc : TE} {a b c : EF} (ha : SemE K cl W ta a) (hb : SemE K cl W tb b) (hc : SemE K cl W tc c) :
    SemE K cl W (tChain r r' ta tb tc) (eChn f g a b c) := by
  intro ρ σ G H Fs env Q hq
  refine ha.use env PV.mono hq fun x v G1 H1 F1 _ p1 env1 o1 f1 hq1 => ?_
  refine hb.use env1 PV.mono hq1 fun y u G2 H2 F2 _ p2 env2 o2 f2 hq2 => ?_
  cases e : f x.d y.d with
  | none => rw [e] at hq2; exact hq2.elim
  | some d =>
    have hbl := hb1 _ _ _ e
    rw [e] at hq2
    cases d with
    | bl k =>
      refine hf env2.gh (o1.px p2) o2 e fun w rw' => ?_
      cases rw'
      refine ⟨k, rfl, ?_⟩
      cases k with
      | true =>
        refine iteT (hc.use env2 PV.mono hq2 fun z w G3 H3 F3 _ p3 env3 o3 f3 hq3 => ?_)
        cases e2 : g y.d z.d with
        | none => rw [e2] at hq3; exact hq3.elim
        | some d2 =>
          rw [e2] at hq3
          exact hg env3.gh (o2.px p3) o3 e2 fun v rv => hq3 v G3 H3 (fun _ => False) (Px.refl env3.gh) rv noFoo
      | false => exact iteF (hq2 _ G2 H2 (fun _ => False) (Px.refl env2.gh) (Rep.bl false) noFoo)
    | _ => exact hbl.elim
theorem bl_le (x y d : D) (h : leD x y = some d) : isBl d := by
  cases x <;> cases y <;> first | (cases h; done) | (cases h; trivial)
theorem ev_le_lt {a b c : Expr} {fa fb fc : EF} (ha : EvE X cl W a fa) (hb : EvE X cl W b fb) (hc : EvE X cl W c fc) (hm : lastMarks [.LtE, .Lt] [b, c] = false := by with_unfolding_all rfl) : EvE X cl W (.Compare a [.LtE, .Lt] [b, c] pos) (eChn leD ltD fa fb fc) := by
  obtain ⟨ta, pa, sa⟩ := ha
  obtain ⟨tb, pb, sb⟩ := hb
  obtain ⟨tc, pc, sc⟩ := hc
  exact ⟨_, pe_chain op_le op_lt pa pb pc hm, semChn os_le os_lt bl_le sa sb sc⟩
theorem et_le_le {a b c : Expr} {fa fb fc : EF} (ha : EvE X cl W a fa) (hb : EvE X cl W b fb) (hc : EvE X cl W c fc) (hm : lastMarks [.LtE, .LtE] [b, c] = false := by with_unfolding_all rfl) : EvT X cl W (.Compare a [.LtE, .LtE] [b, c] pos) (tV (eChn leD leD fa fb fc)) := by
  obtain ⟨ta, pa, sa⟩ := ha
  obtain ⟨tb, pb, sb⟩ := hb
  obtain ⟨tc, pc, sc⟩ := hc
  exact ⟨_, pt_chain op_le op_le pa pb pc hm, semTest (semChn os_le os_le bl_le sa sb sc)⟩
/-! ### a for over a list, a tuple or a text -/
def itD : D → R (List D)
  | .lst ds => .ok ds
  | .tup ds => .ok ds
  | .str x => .ok (signs x)
  | _ => .bad
@[simp] theorem itD_l (ds : List D) : itD (.lst ds) = .ok ds := rfl
@[simp] theorem itD_t (ds : List D) : itD (.tup ds) = .ok ds := rfl
@[simp] theorem itD_s (x : Str) : itD (.str x) = .ok (signs x) := rfl
def iX (f : EF) : IF := fun ρ => (f ρ).bind fun x => (frz x).bind fun y => itD y.d
@[simp] theorem iX_eq (f : EF) (ρ : Env) : iX f ρ = (f ρ).bind fun x => (frz x).bind fun y => itD y.d := rfl
theorem PI.or {tg e : Expr} {t u : TI} (h : PI X tg e t) (h2 : PI X tg e u) : PI X tg e (fun σ H R => t σ H R ∨ u σ H R) := ⟨fun pins s σ H R I q => q.elim (h.run pins s σ H R I) (h2.run pins s σ H R I)⟩
theorem ei_any {tg e : Expr} {f : EF} (h : EvE X cl W e f) : EvI X cl W tg e (iX f) := by
  obtain ⟨t, p, s⟩ := h
  refine ⟨_, PI.or (pi_list p) (PI.or (pi_tup p) (pi_str p)), fun ρ σ G H Fs env Q hq => ?_⟩
  have hq' : PostG cl W σ G H (PY X.K cl Q) ((eS f ρ).bind fun y => itD y.d) := by
    rw [eS_eq, R.bind_assoc]
    exact hq
  cases e : eS f ρ with
  | bad => rw [e] at hq'; exact hq'.elim
  | ex c => exact .inl ((semS s).use env PY.mono hq' fun x v G1 H1 F1 e1 => by rw [e] at e1; cases e1)
  | ok y =>
    obtain ⟨b, k, d⟩ := y
    cases d with
    | lst ds =>
      refine .inl ((semS s).use env PY.mono hq' fun x v G1 H1 F1 e1 p1 env1 o1 f1 hq1 => ?_)
      have r := frz_rep e1 o1
      rw [e] at e1
      cases e1
      obtain ⟨a, vs, rfl, hS, rl⟩ := r.lstR
      exact ⟨a, rfl, ⟨vs, .inl (rdEx env1.gh hS)⟩, hq1 _ G1 H1 (Px.refl env1.gh) (yl_list (.inl hS) rl)⟩
    | tup ds =>
      refine .inr (.inl ((semS s).use env PY.mono hq' fun x v G1 H1 F1 e1 p1 env1 o1 f1 hq1 => ?_))
      have r := frz_rep e1 o1
      rw [e] at e1
      cases e1
      obtain ⟨a, vs, rfl, hS, rl⟩ := r.tupR
      exact ⟨a, rfl, ⟨vs, .inl (rdEx env1.gh hS)⟩, hq1 _ G1 H1 (Px.refl env1.gh) (yl_tup (.inl hS) rl)⟩
    | str z =>
      refine .inr (.inr ((semS s).use env PY.mono hq' fun x v G1 H1 F1 e1 p1 env1 o1 f1 hq1 => ?_))
      have r := frz_rep e1 o1
      rw [e] at e1
      cases e1
      cases r
      exact ⟨z, rfl, hq1 _ G1 H1 (Px.refl env1.gh) yl_str⟩
    | _ => rw [e] at hq'; exact hq'.elim
/-! ### x op= e -/
def sAug (i : Nat) (g : Vl → Vl → R Vl) (f : EF) : SF := fun ρ => toS ((eV i ρ).bind fun x => (f ρ).bind fun y => (g x y).bind frz) ρ (stV i ρ)
@[simp] theorem sAug_eq (i : Nat) (g : Vl → Vl → R Vl) (f : EF) (ρ : Env) : sAug i g f ρ = toS ((eV i ρ).bind fun x => (f ρ).bind fun y => (g x y).bind frz) ρ (stV i ρ) := rfl
end
section
variable {P : Program} {w : World} {K : PySem.W.Frag} {mg : Str → Option Value} {base : Heap} {N : List Str} {qual : Str} {sc : Scope} {f : Addr} {cdv : Value} {A : Around} {outer : List PySem.Env} {s : Shared} {H : Hp} {E : XK}
theorem tkB : Takes (cxB P w K mg base N qual sc f cdv A outer s H E) (wB E) := takes_of rfl rfl rfl rfl
theorem poB : PassesOwn (model (cxB P w K mg base N qual sc f cdv A outer s H E).prog (cxB P w K mg base N qual sc f cdv A outer s H E).w) (cxB P w K mg base N qual sc f cdv A outer s H E).A (cxB P w K mg base N qual sc f cdv A outer s H E).env (cxB P w K mg base N qual sc f cdv A outer s H E).xe := passes_of rfl
end
end B
namespace B
open PySem L2
abbrev Sl : Type := B.Slot
/-! ### numbers: small helpers -/
theorem mulOk_r {i j : Int} (h : j.natAbs < 18446744073709551616) : mulOk i j := .inl (.inr h)
theorem mulOk_l {i j : Int} (h : i.natAbs < 18446744073709551616) : mulOk i j := .inl (.inl h)
theorem mulOk_w {i j : Int} (a b : Nat) (ha : i.natAbs < 2 ^ a) (hb : j.natAbs < 2 ^ b) (h0 : 0 < a) (h1 : 0 < b) (h : a + b ≤ 1000000) : mulOk i j := .inr (wide_mul ha hb h0 h1 h)
theorem divOk_w {j : Int} (b : Nat) (h : 0 < j) (hb : j.natAbs < 2 ^ b) (h0 : 0 < b) (h9 : b ≤ 9000) : divOk j := wide_div (i := 0) h hb h0 h9
theorem powOk_s {i j : Int} (h0 : 0 ≤ j) (h1 : j ≤ 1000000) (h2 : i.natAbs < 18446744073709551616) : powOk i j := ⟨h0, h1, h2⟩
theorem divOk_s {j : Int} (h : 0 < j) (h2 : j < 18446744073709551616) : divOk j := by
  have e : (2 : Nat) ^ 64 = 18446744073709551616 := by decide
  exact divOk_w 64 h (by rw [e]; omega) (by decide) (by decide)
@[simp] theorem atI_c0 {α : Type} (x : α) (xs : List α) : atI (x :: xs) 0 = some x := by
  have := atI_nat (xs := x :: xs) (j := 0) (v := x) rfl
  simpa using this
@[simp] theorem atI_c1 {α : Type} (x y : α) (xs : List α) : atI (x :: y :: xs) 1 = some y := by
  have := atI_nat (xs := x :: y :: xs) (j := 1) (v := y) rfl
  simpa using this
@[simp] theorem atI_c2 {α : Type} (x y z : α) (xs : List α) : atI (x :: y :: z :: xs) 2 = some z := by
  have := atI_nat (xs := x :: y :: z :: xs) (j := 2) (v := z) rfl
  simpa using this
@[simp] theorem atI_c3 {α : Type} (x y z w : α) (xs : List α) : atI (x :: y :: z :: w :: xs) 3 = some w := by
  have := atI_nat (xs := x :: y :: z :: w :: xs) (j := 3) (v := w) rfl
  simpa using this
theorem atI_n {α : Type} (xs : List α) (j : Nat) : atI xs (j : Int) = xs[j]? := by
  by_cases h : j < xs.length
  · rw [List.getElem?_eq_getElem h]
    exact atI_nat (List.getElem?_eq_getElem h)
  · rw [List.getElem?_eq_none_iff.mpr (by omega)]
    unfold atI ixN
    rw [if_pos (by omega), if_neg (by omega)]
    rfl
theorem small_of {i : Int} (h0 : -1000000000 ≤ i) (h1 : i ≤ 1000000000) : small62 i := by
  have e : (2 : Int) ^ 62 = 4611686018427387904 := by decide
  unfold small62
  rw [e]
  exact ⟨by omega, by omega⟩
theorem cutD_mid (xs : List D) (k l : Nat) : cutD xs (some (k : Int)) (some (l : Int)) = (xs.drop k).take (l - k) := by
  unfold cutD
  rw [HT.sIx_nat, HT.sIx_nat]
  by_cases h : k ≤ xs.length
  · rw [Nat.min_eq_left h]
    by_cases h2 : l ≤ xs.length
    · rw [Nat.min_eq_left h2]
    · rw [Nat.min_eq_right (by omega), List.take_of_length_le (by simp), List.take_of_length_le (by simp; omega)]
  · have e : min k xs.length = xs.length := Nat.min_eq_right (by omega)
    rw [e, List.drop_eq_nil_of_le (Nat.le_refl _), List.drop_eq_nil_of_le (show xs.length ≤ k by omega)]
    simp
/-! lists from a number on -/
def enumK : Int → List D → List D
  | _, [] => []
  | k, d :: ds => .tup [.int k, d] :: enumK (k + 1) ds
theorem enumK_eq : ∀ (ds : List D) (k : Nat), (ds.mapIdx fun i d => D.tup [.int ((i + k : Nat) : Int), d]) = enumK (k : Int) ds
  | [], _ => rfl
  | d :: ds, k => by
    have ih := enumK_eq ds (k + 1)
    have e1 : ((k + 1 : Nat) : Int) = (k : Int) + 1 := by omega
    rw [e1] at ih
    rw [List.mapIdx_cons]
    show _ :: _ = _ :: _
    congr 1
    · simp
    · rw [← ih]
      congr 1
      funext i e
      congr 3
      omega
@[simp] theorem enumD_eq (ds : List D) : enumD ds = enumK 0 ds := enumK_eq ds 0
@[simp] theorem enumK_nil (k : Int) : enumK k [] = [] := rfl
@[simp] theorem enumK_cons (k : Int) (d : D) (ds : List D) : enumK k (d :: ds) = .tup [.int k, d] :: enumK (k + 1) ds := rfl
@[simp] theorem zipD_cons (d e : D) (ds es : List D) : zipD (d :: ds) (e :: es) = .tup [d, e] :: zipD ds es := rfl
@[simp] theorem zipD_nil (es : List D) : zipD [] es = [] := by cases es <;> rfl
@[simp] theorem zipD_nil2 (ds : List D) : zipD ds [] = [] := by cases ds <;> rfl
theorem rng_succ (lo : Int) (n : Nat) : rng lo (n + 1) = .int lo :: rng (lo + 1) n := by
  unfold rng
  rw [List.range_succ_eq_map, List.map_cons, List.map_map]
  congr 1
  · simp
  · apply List.map_congr_left
    intro i _
    show D.int (lo + ((i + 1 : Nat) : Int)) = D.int (lo + 1 + (i : Int))
    congr 1
    omega
/-! data that == takes -/
theorem depthAll_le {k : Nat} : ∀ {ds : List D}, (∀ d ∈ ds, (toPy d).depth ≤ k) → PyData.depthAll (toPyL ds) ≤ k
  | [], _ => by simp [toPyL, PyData.depthAll]
  | d :: ds, h => by
    simp only [toPyL, PyData.depthAll]
    exact Nat.max_le.mpr ⟨h d List.mem_cons_self, depthAll_le fun e he => h e (List.mem_cons_of_mem _ he)⟩
theorem layAll : ∀ {ds : List D}, (∀ d ∈ ds, (toPy d).canLay0 = true) → PyData.canLayAll0 (toPyL ds) = true
  | [], _ => rfl
  | d :: ds, h => by
    simp only [toPyL, PyData.canLayAll0, Bool.and_eq_true]
    exact ⟨h d List.mem_cons_self, layAll fun e he => h e (List.mem_cons_of_mem _ he)⟩
theorem noObjAll : ∀ {ds : List D}, (∀ d ∈ ds, noObj d = true) → noObjL ds = true
  | [], _ => rfl
  | d :: ds, h => by
    simp only [noObjL, Bool.and_eq_true]
    exact ⟨h d List.mem_cons_self, noObjAll fun e he => h e (List.mem_cons_of_mem _ he)⟩
/-- plain data of at most k floors -/
structure Flat (k : Nat) (d : D) : Prop where
  no : noObj d = true
  lay : (toPy d).canLay0 = true
  dep : (toPy d).depth ≤ k
theorem Flat.int (i : Int) : Flat 0 (.int i) := ⟨rfl, rfl, by simp [toPy, PyData.depth]⟩
theorem Flat.bl (i : Bool) : Flat 0 (.bl i) := ⟨rfl, rfl, by simp [toPy, PyData.depth]⟩
theorem Flat.non : Flat 0 .non := ⟨rfl, rfl, by simp [toPy, PyData.depth]⟩
theorem Flat.lst {k : Nat} {ds : List D} (h : ∀ d ∈ ds, Flat k d) : Flat (k + 1) (.lst ds) :=
  ⟨noObjAll fun d m => (h d m).no, layAll fun d m => (h d m).lay, by simp only [toPy, PyData.depth]; exact Nat.succ_le_succ (depthAll_le fun d m => (h d m).dep)⟩
theorem Flat.tup {k : Nat} {ds : List D} (h : ∀ d ∈ ds, Flat k d) : Flat (k + 1) (.tup ds) :=
  ⟨noObjAll fun d m => (h d m).no, layAll fun d m => (h d m).lay, by simp only [toPy, PyData.depth]; exact Nat.succ_le_succ (depthAll_le fun d m => (h d m).dep)⟩
theorem Flat.up {k l : Nat} {d : D} (h : Flat k d) (hl : k ≤ l) : Flat l d := ⟨h.no, h.lay, Nat.le_trans h.dep hl⟩
theorem Flat.dat {k : Nat} {d : D} (h : Flat k d) (hk : k ≤ 64) : dat d = true := by
  unfold B.dat SeqAt.shaped
  rw [h.no, h.lay]
  simp
  exact Nat.le_trans h.dep hk
theorem dat_ints (ns : List Int) : B.dat (.lst (ns.map .int)) = true := (Flat.lst (k := 0) fun d m => by
  obtain ⟨i, _, rfl⟩ := List.mem_map.mp m
  exact .int i).dat (by decide)
theorem sWhile_inl {c : TF} {f : SF} {ρ ρ1 : Env} (h : wTurn c f ρ = .inl ρ1) : sWhile c f ρ = sWhile c f ρ1 := by rw [sWhile_eq, h]
theorem sWhile_inr {c : TF} {f : SF} {ρ : Env} {r : RS} (h : wTurn c f ρ = .inr r) : sWhile c f ρ = r := by rw [sWhile_eq, h]
theorem sItems_inl {g : GF} {f : SF} {d : D} {ds : List D} {ρ ρ1 : Env} (h : fTurn g f d ρ = .inl ρ1) : sItems g f (d :: ds) ρ = sItems g f ds ρ1 := by rw [sItems_cons, h]
theorem sItems_inr {g : GF} {f : SF} {d : D} {ds : List D} {ρ : Env} {r : RS} (h : fTurn g f d ρ = .inr r) : sItems g f (d :: ds) ρ = r := by rw [sItems_cons, h]
end B
namespace B
open PySem L2 PySem.Spec PyProof.Rows
/-! ### raise -/
/-- an error class of the program, over ValueError, without own __init__ -/
structure ExcK (K : PySem.W.Frag) (mg : Str → Option Value) (c : Str → Addr) (x : Str) : Prop where
  g : mg x = some (.ref (c x))
  q : PySem.W.excIn K (c x) He.veBase "ValueError.__new__" = true
  kp : PySem.W.keepIn K (.ref (c x)) = true
  sb : PySem.W.subIn K (.ref (c x)) (.type "BaseException") = some true
  ty : PySem.W.typeIn K (.ref (c x)) = some (.type "type")
theorem ExcK.of {K : PySem.W.Frag} {mg : Str → Option Value} {x : Str} (g : mg x = some (.ref (He.ga K x))) (c : (He.Fa.exc x).ok K = true) : ExcK K mg (He.ga K) x :=
  let ⟨a, b, d, e⟩ := He.exc_ok c
  ⟨g, a, b, d, e⟩
def sRaise (x : Str) : SF := fun ρ => .ex x ρ
@[simp] theorem sRaise_eq (x : Str) (ρ : Env) : sRaise x ρ = .ex x ρ := rfl
section
variable {X : Cx} {cl : Clx} {W : WX} {pos : Pos}
theorem es_raise {c : Str → Addr} {x m : Str} {j : Nat} {p p2 p3 : Pos} (E : ExcK X.K X.mg c x) (hc : X.calm = true) (tk : Takes X W) (hg : Gl X x := by rfl) (hd : (x == ("__debug__" : Str)) = false := by decide) (hcc : cl.c = c := by rfl) :
    EvS X cl W (.Raise (some (.Call (.Name x p) [.Constant (.str m) j p2] [] p3)) none pos) (sRaise x) := by
  subst hcc
  refine ⟨_, ps_raise hc tk (pmk_own PySem.F.excBase_ValueError E.q E.g E.kp (raises_own E.sb E.ty) hg hd), fun ρ σ G H Fs env D hq => ?_⟩
  exact hq σ G H Fs env (Sx.refl env.gh)
end
/-! ### try: the error that is caught is known behind it too -/
section
variable {X : Cx} {pins : List (Addr × Obj)} {σ : L2.St} {H : Hp} {s sI : Shared}
/-- a thing that was made behind the entry becomes known -/
theorem track {a : Addr} {o : HO} (I : Inv X pins σ H s) (J : Inv X pins σ H sI) (nI : sI.heap.get? a = none) (na : H a = none) (nL : a ≠ X.env.locals) (hx : X.ex = []) (new : ObjOk X.prog X.w (upd H a o) s.heap a o) : Inv X pins σ (upd H a o) s := by
  have ne : ∀ {b : Addr} {u : Obj}, sI.heap.get? b = some u → b ≠ a := fun e z => by
    rw [z, nI] at e
    cases e
  have n0 : ∀ {b : Addr} {u : Obj}, X.s_0.heap.get? b = some u → b ≠ a := fun {b u} e => by
    obtain ⟨_, e2⟩ := J.base.there b u e (by rw [hx]; exact fun z => nomatch z)
    exact ne e2
  have nh : ∀ {b : Addr} {u : HO}, H b = some u → b ≠ a := fun e z => by
    rw [z, na] at e
    cases e
  have b0 := I.base
  refine ⟨I.ok, I.os, I.bare, ⟨b0.keep, b0.slot, fun b u e n q => ?_, b0.there, fun b xs e => ?_, fun b u w e => ?_, fun b ps e => ?_⟩, I.loc, I.cell, ?_, fun x c e => ?_, fun p hp => ?_, fun b u e => ?_, I.len⟩
  · rw [upd_ne (n0 e)]
    exact b0.free b u e n q
  · have z := b0.tups b xs e
    rw [upd_ne (nh z)]
    exact z
  · have z := b0.frzs b u w e
    rw [upd_ne (nh z)]
    exact z
  · obtain ⟨m, z⟩ := b0.tbls b ps e
    exact ⟨m, by rw [upd_ne (nh z)]; exact z⟩
  · rw [upd_ne (Ne.symm nL)]
    exact I.free
  · obtain ⟨v, o', ho, _⟩ := J.cell x c e
    rw [upd_ne (ne ho)]
    exact I.freeC x c e
  · obtain ⟨h1, h2, h3⟩ := I.pin p hp
    have hn := ne (J.pin p hp).1
    exact ⟨h1, by rw [upd_ne hn]; exact h2, h3⟩
  · by_cases hb : b = a
    · subst hb
      rw [upd_same] at e
      cases e
      exact new
    · rw [upd_ne hb] at e
      exact (I.hok b u e).stay (fun _ _ _ q => q) (fun c q => by rw [upd_ne (nh q)]; exact q) fun c xs q => by rw [upd_ne (nh q)]; exact q
theorem exo_ok {P : Program} {w : World} {h : Heap} {a : Addr} {cls : Value} {oe : Obj} {vs : Array Value} (e : h.get? a = some oe) (z : Zc cls none oe) (d : oe.data = .fields vs) : ObjOk P w H h a (EXO cls a) :=
  ⟨⟨oe, vs, e, z, d⟩, ⟨oe, e⟩, fun _ _ ⟨o, v, q, r⟩ k => ⟨o, v, k o q, r⟩⟩
/-- the context of a clause's suite: what it handles stands in the air, nothing leaves it -/
abbrev cxS (X : Cx) (a : Addr) (pn : List (Addr × Obj)) : Cx := { X with A := X.A.mark (some (.ref a)), calm := false, pn := pn, xe := fun _ _ => False }
theorem toS_inv (I : Inv X pins σ H s) (a : Addr) : Inv (cxS X a (X.pn ++ pins)) [] σ H s :=
  ⟨I.ok.suite _ _, I.os, I.bare, I.base, I.loc, I.cell, I.free, I.freeC, fun p hp => I.pin p (by simpa using hp), I.hok, I.len⟩
theorem ofS_inv {a : Addr} {pn' : List (Addr × Obj)} (I : Inv (cxS X a (X.pn ++ pins)) pn' σ H s) (ok : X.Ok) : Inv X pins σ H s :=
  ⟨ok, I.os, I.bare, I.base, I.loc, I.cell, I.free, I.freeC, fun p hp => I.pin p (List.mem_append_left _ hp), I.hok, I.len⟩
end
/-- the ends of a suite behind which slot i goes -/
def endsT (D : Ends) (i : Nat) : Ends := { nx := fun σ' H' => D.nx (σ'.set i none) H', rt := D.rt, bk := fun σ' H' => D.bk (σ'.set i none) H', ct := fun σ' H' => D.ct (σ'.set i none) H' }
/-- what the clause wishes of an error of the body -/
def wT (K : PySem.W.Frag) (c : Value) (i : Nat) (ts : TS) (Wo : WX) (D : Ends) : WX := fun cls d σ H =>
  ∃ b, PySem.W.exmOne K cls c = some b ∧ (b = true → d = none ∧ ∀ a, H a = none → ts (endsT D i) (σ.set i (some (.ref a))) (upd H a (EXO cls a))) ∧ (b = false → Wo cls d σ H)
section
variable {X : Cx} {x n : Str} {c : Value} {i : Nat} {body suite : List Stmt} {b₀ : Stmt} {np pos pos' : Pos} {tb : WX → TS} {ts : TS} {Wo : WX}
theorem ps_tryT (hs : X.stack = X.env :: X.outer) (hf : X.env.frame = some X.env.locals) (hex : X.ex = []) (hN : X.N.Nodup) (hi : X.N[i]? = some n) (hln : X.env.kindOf n = some .local) (hc : Names X x c) (tk : Takes X Wo)
    (hb : ∀ (W : WX) (pn : List (Addr × Obj)) (xe : Value → Shared → Prop), Takes (X.tr pn xe) W → PassesOwn (model X.prog X.w) X.A X.env xe → PSs (X.tr pn xe) body (tb W))
    (hsu : ∀ (a : Addr) (pn : List (Addr × Obj)), PSs (cxS X a pn) (b₀ :: suite) ts) :
    PS X (.Try body [.ExceptHandler (some (.Name x np)) (some n) (b₀ :: suite) pos'] [] [] pos) (fun D σ H => tb (wT X.K c i ts Wo D) D σ H) := by
  constructor
  intro pins s σ H D I h
  have frA : X.A.frames = some (X.env :: X.outer) := I.ok.frames.trans (by rw [hs])
  have hcl := I.ok
  refine wpAny_Try_except ?_
  let hdl : List ExceptHandler := [.ExceptHandler (some (.Name x np)) (some n) (b₀ :: suite) pos']
  let xb : Value → Shared → Prop := fun e t => wpAny (model X.prog X.w) X.A (noteFrame e X.env)
    (fun _ t => wpAny (model X.prog X.w) X.A (setFlight e none) (fun _ t => wpAny (model X.prog X.w) X.A (handleBy e X.env hdl) (SP X pins D) X.xe t) X.xe t) X.xe t
  have bdy := hb (wT X.K c i ts Wo D) (X.pn ++ pins) xb ?_ PassesOwn.looking
  · refine wpAny_mono (bdy.run [] s σ H D (I.toTry _) h) ?_ fun _ _ z => z
    intro fl t z
    cases fl with
    | next => let ⟨σ', H', J, q⟩ := z; exact wpAny_execs_nil ⟨σ', H', J.ofTry hcl, q⟩
    | brk => let ⟨σ', H', J, q⟩ := z; exact ⟨σ', H', J.ofTry hcl, q⟩
    | cont => let ⟨σ', H', J, q⟩ := z; exact ⟨σ', H', J.ofTry hcl, q⟩
    | ret u => let ⟨v, σ', H', J, r, q⟩ := z; exact ⟨v, σ', H', J.ofTry hcl, r, q⟩
  intro u t air
  obtain ⟨a, B, sI, p', σ', H', cls, d, rfl, J0, nb, up, sky, na, os, ag, b, hm, yes, no⟩ := air
  have J : Inv X pins σ' H' sI := J0.ofTry hcl
  have sky2 : Sky B (X.env :: X.outer) a (Zc cls d) X.env.locals t.heap := by rw [← hs]; exact sky
  refine Sky.land Zc.steady frA hf sky2 fun g fl ug => ?_
  have Jg : Inv X pins σ' H' { t with heap := g } := J.landed nb fl.1 (up.trans ug) os ag
  have away : ∀ {g : Heap}, HandSPX.FlyingZ B (X.env :: X.outer) a (Zc cls d) g → a ∉ frs (X.env :: X.outer) := fun {g} fl hm => by
    obtain ⟨o1, v1, e1, _, d1⟩ := fl.there
    obtain ⟨_, o2, e2, hno⟩ := fl.2.2.1.mem hm
    rw [e1] at e2
    cases e2
    exact hno _ d1
  have aw := away fl
  have nL : a ≠ X.env.locals := fun z => aw (List.mem_filterMap.mpr ⟨X.env, List.mem_cons_self, by rw [hf, z]⟩)
  have nI : sI.heap.get? a = none := by
    cases q : sI.heap.get? a with
    | none => rfl
    | some o =>
      have z := nb a o q (by rw [hs]; exact aw)
      rw [fl.2.1] at z
      cases z
  have Sg : Inv (cxS X a (X.pn ++ pins)) [] σ' H' { t with heap := g } := toS_inv Jg a
  refine wpAny_handleBy_cons (codeAny_handlers_test ?_) (by intro q; cases q)
  obtain ⟨oe, vs, he, hz, hd⟩ := fl.there
  have seen : PySem.W.Looks (model X.prog X.w) g (typeOf (.ref a)) cls := fun A Q E t k q => wpAny_typeOf_ref (k _ _ he) (by rw [hz.1]; exact q)
  have asked := PySem.W.exm_one (M := model X.prog X.w) Jg.kIn seen hm
  have name : ∀ {Q : Value → Shared → Prop} {E : Value → Shared → Prop}, Q c { t with heap := g } → wpAny (model X.prog X.w) (X.A.mark (some (.ref a))) (eval (.Name x np) X.env) Q E { t with heap := g } := fun {Q E} q => by
    rcases hc with ⟨hg, hdb, h1 | ⟨h1, h2, h3⟩⟩
    · exact ld_glob (X := cxS X a (X.pn ++ pins)) Sg hg h1 q hdb
    · exact ld_blt (X := cxS X a (X.pn ++ pins)) Sg hg h1 h2 q h3 hdb
  refine name (asked.here ?_)
  cases b with
  | false =>
    refine wpAny_handleBy_nil (A := X.A) ?_
    obtain ⟨k1, k2, k3, o5, v5, T, oT, t5, e5, z5, d5, f5, r5⟩ := id fl
    unfold PySem.passOn
    refine wpAny_bind (wpAny_field e5 d5 f5 ?_)
    rw [if_neg (by simp)]
    have out : wpAny (model X.prog X.w) X.A (setFlight (.ref a) X.env.frame) (fun _ t4 => wpAny (model X.prog X.w) X.A (throw (.ref a) : Sem Flow) (SP X pins D) X.xe t4) X.xe { t with heap := g } := by
      rw [hf]
      refine HandSPX.setFlight_upZ fl fun g4 held u4 => wpAny_throw (tk _ _ ⟨a, B, sI, pins, σ', H', cls, d, rfl, J, nb, (up.trans ug).trans u4, .inr (.inr (by rw [hs]; exact held)), na, os, ag, no rfl⟩)
    first
      | exact wpAny_bind (wpAny_pure (wpAny_bind out))
      | exact wpAny_bind out
  | true =>
    obtain ⟨rfl, go⟩ := yes rfl
    refine codeAny_handlers_suite_as (HandSPX.lands_againZ fl fun g4 fl4 u4 => ?_)
    obtain ⟨o4, v4, e4, z4, d4⟩ := fl4.there
    have J4 : Inv X pins σ' H' { t with heap := g4 } := J.landed nb fl4.1 ((up.trans ug).trans u4) os ag
    have T4 : Inv X pins σ' (upd H' a (EXO cls a)) { t with heap := g4 } := track J4 J nI na nL hex (exo_ok e4 z4 d4)
    refine store_ok (X := cxS X a (X.pn ++ pins)) (v := .ref a) (toS_inv T4 a) hN hi (.inl hln) rfl (fun t5 S5 => ?_) (.inr hln)
    have gone : ∀ {σ6 : L2.St} {H6 : Hp} {t6 : Shared} {Q : Shared → Prop}, Inv (cxS X a (X.pn ++ pins)) [] σ6 H6 t6 → (∀ t7, Inv X pins (σ6.set i none) H6 t7 → Q t7) →
        wpAny (model X.prog X.w) X.A (do bindName X.env n .none; unbindBehindTheSuite X.env n pos') (fun _ t7 => Q t7) X.xe t6 := fun S6 q => gone_ok (ofS_inv S6 hcl) hN hi hln q
    refine wpAny_mono ((hsu a (X.pn ++ pins)).run [] t5 _ _ _ S5 (go a na)) ?_ fun _ _ z => z.elim
    intro fl6 t6 z
    cases fl6 with
    | next => let ⟨σ6, H6, S6, q⟩ := z; exact gone S6 fun t7 J7 => ⟨_, _, J7, q⟩
    | brk => let ⟨σ6, H6, S6, q⟩ := z; exact gone S6 fun t7 J7 => ⟨_, _, J7, q⟩
    | cont => let ⟨σ6, H6, S6, q⟩ := z; exact gone S6 fun t7 J7 => ⟨_, _, J7, q⟩
    | ret u => let ⟨v6, σ6, H6, S6, r, q⟩ := z; exact gone S6 fun t7 J7 => ⟨_, _, _, J7, r, q⟩
end
end B
namespace B
open PySem L2
theorem cMem_of {ys : List Str} {c : Str} (h : cMem ys c = true) : c ∈ ys := by
  unfold cMem at h
  exact List.contains_iff_mem.mp h
def tEnd (i : Nat) : RS → RS
  | .ok .nx ρ => .ok .nx (ρ.set i none)
  | .ok .bk ρ => .ok .bk (ρ.set i none)
  | .ok .ct ρ => .ok .ct (ρ.set i none)
  | .ok (.rt k d) ρ => .ok (.rt k d) ρ
  | _ => .bad
@[simp] theorem tEnd_nx (i : Nat) (ρ : Env) : tEnd i (.ok .nx ρ) = .ok .nx (ρ.set i none) := rfl
@[simp] theorem tEnd_bk (i : Nat) (ρ : Env) : tEnd i (.ok .bk ρ) = .ok .bk (ρ.set i none) := rfl
@[simp] theorem tEnd_ct (i : Nat) (ρ : Env) : tEnd i (.ok .ct ρ) = .ok .ct (ρ.set i none) := rfl
@[simp] theorem tEnd_rt (i k : Nat) (d : D) (ρ : Env) : tEnd i (.ok (.rt k d) ρ) = .ok (.rt k d) ρ := rfl
def tryR (ys : List Str) (i : Nat) (fs : SF) : RS → RS
  | .ok fl ρ => .ok fl ρ
  | .ex c ρ => if cMem ys c then tEnd i (fs (ρ.set i (some (0, .exo c)))) else .bad
  | .bad => .bad
@[simp] theorem tryR_ok (ys : List Str) (i : Nat) (fs : SF) (fl : Fl) (ρ : Env) : tryR ys i fs (.ok fl ρ) = .ok fl ρ := rfl
@[simp] theorem tryR_ex (ys : List Str) (i : Nat) (fs : SF) (c : Str) (ρ : Env) : tryR ys i fs (.ex c ρ) = if cMem ys c then tEnd i (fs (ρ.set i (some (0, .exo c)))) else .bad := rfl
def sTry (fb : SF) (ys : List Str) (i : Nat) (fs : SF) : SF := fun ρ => tryR ys i fs (fb ρ)
@[simp] theorem sTry_eq (fb : SF) (ys : List Str) (i : Nat) (fs : SF) (ρ : Env) : sTry fb ys i fs ρ = tryR ys i fs (fb ρ) := rfl
section
variable {K : PySem.W.Frag} {cl : Clx} {W : WX} {ρ : Env} {σ : L2.St} {G H G' H' : Hp} {Fs Fs' : Foot}
theorem semTry {tb : WX → TS} {ts : TS} {fb fs : SF} {ys : List Str} {i : Nat} {x : Str} (hb : ∀ W, SemS K cl W (tb W) fb) (hs : SemS K cl W0 ts fs) (hfx : cl.fix i = none) (hm : ∀ z, cMem ys z = true → PySem.W.exmOne K (.ref (cl z)) (.ref (cl x)) = some true) :
    SemS K cl W (fun D σ H => tb (wT K (.ref (cl x)) i ts W D) D σ H) (sTry fb ys i fs) := by
  intro ρ σ G H Fs env D hq
  refine hb _ ρ σ G H Fs env D ?_
  rw [sTry_eq] at hq
  cases e : fb ρ with
  | bad => rw [e] at hq; exact hq
  | ok fl ρ1 =>
    rw [e] at hq
    cases fl with
    | nx => exact hq
    | bk => exact hq
    | ct => exact hq
    | rt k d => exact hq
  | ex c ρ1 =>
    rw [e, tryR_ex] at hq
    cases ec : cMem ys c with
    | false => rw [ec] at hq; exact hq.elim
    | true =>
      rw [ec, if_pos rfl] at hq
      intro σ1 G1 H1 F1 env1 sx1
      refine ⟨true, hm c ec, fun _ => ⟨rfl, fun a ha => ?_⟩, fun z => by cases z⟩
      have px : Px G1 H1 (upd G1 a (EXO (.ref (cl c)) a)) (upd H1 a (EXO (.ref (cl c)) a)) := px_frozen env1.gh ha
      have env2 := setEnv env1 px (F := fun _ => False) (i := i) (k := 0) (v := .ref a) (d := .exo c) noFoo (Rep.exo (cl := cl.c) upd_same) hfx
      have sx2 : Sx (Un Fs) G H _ _ _ := sx1.trans (sx_set env1 px (F := fun _ => False) noFoo i)
      refine hs _ _ _ _ _ env2 _ ?_
      have stop : ∀ {ρ' : Env} {C : L2.St → Hp → Prop} {U : Addr → Prop} {G H : Hp}, PE1 K cl U G H (ρ'.set i none) C → PE1 K cl U G H ρ' fun σ' H' => C (σ'.set i none) H' := fun h σ3 G3 H3 F3 env3 sx3 => by
        have e4 := env3.drop i
        refine h _ G3 H3 F3 ⟨by simpa using e4.len, e4.gh, fun j k d hj => ?_, e4.dis, e4.dom, fun j v hj => ?_⟩ sx3
        · obtain ⟨v, hv, o⟩ := e4.own j k d hj
          have hne : i ≠ j := fun z => by
            subst z
            have hlt : i < (List.set _ i none : Env).length := (List.getElem?_eq_some_iff.mp hj).1
            rw [List.getElem?_set_self (by simpa using hlt)] at hj
            cases hj
          exact ⟨v, by rw [List.getElem?_set_ne hne]; exact hv, o⟩
        · have hne : i ≠ j := fun z => by
            subst z
            rw [hfx] at hj
            cases hj
          rw [List.getElem?_set_ne hne]
          exact e4.fx j v hj
      cases ef : fs (ρ1.set i (some (0, .exo c))) with
      | bad => rw [ef] at hq; exact hq
      | ex c2 ρ2 => rw [ef] at hq; exact hq.elim
      | ok fl ρ2 =>
        rw [ef] at hq
        have hq2 := PostS.mono sx2 hq
        cases fl with
        | nx => exact stop hq2
        | bk => exact stop hq2
        | ct => exact stop hq2
        | rt k d => exact hq2
end
section
variable {X : Cx} {cl : Clx} {W : WX} {pos : Pos}
structure Frt (X : Cx) (W : WX) where
  pn : List (Addr × Obj)
  xe : Value → Shared → Prop
  tk : Takes (X.tr pn xe) W
  po : PassesOwn (model X.prog X.w) X.A X.env xe
theorem es_try {x n : Str} (i : Nat) {ys : List Str} {c : Str → Addr} {b₀ : Stmt} {body suite : List Stmt} {np pos' : Pos} {fb fs : SF} (hg : X.mg x = some (.ref (c x))) (tk : Takes X W)
    (hb : ∀ (W : WX) (pn : List (Addr × Obj)) (xe : Value → Shared → Prop), Takes (X.tr pn xe) W → PassesOwn (model X.prog X.w) X.A X.env xe → EvB (X.tr pn xe) cl W body fb)
    (hsu : ∀ (a : Addr) (pn : List (Addr × Obj)), EvB (cxS X a pn) cl W0 (b₀ :: suite) fs)
    (hm : ∀ z, cMem ys z = true → PySem.W.exmOne X.K (.ref (c z)) (.ref (c x)) = some true) (hN : X.N.Nodup)
    (hs : X.stack = X.env :: X.outer := by rfl) (hf : X.env.frame = some X.env.locals := by rfl) (hex : X.ex = [] := by rfl) (hi : X.N[i]? = some n := by rfl) (hln : X.env.kindOf n = some .local := by rfl)
    (hgl : Gl X x := by rfl) (hd : (x == ("__debug__" : Str)) = false := by decide) (hfx : cl.fix i = none := by rfl) (hcc : cl.c = c := by rfl) :
    EvS X cl W (.Try body [.ExceptHandler (some (.Name x np)) (some n) (b₀ :: suite) pos'] [] [] pos) (sTry fb ys i fs) := by
  subst hcc
  have h1 : ∀ W, ∃ t : Frt X W → TS, ∀ z, PSs (X.tr z.pn z.xe) body (t z) ∧ SemS X.K cl W (t z) fb := fun W => ⟨fun z => Classical.choose (hb W z.pn z.xe z.tk z.po), fun z => Classical.choose_spec (hb W z.pn z.xe z.tk z.po)⟩
  have h2 : ∃ t : ∀ W, Frt X W → TS, ∀ W z, PSs (X.tr z.pn z.xe) body (t W z) ∧ SemS X.K cl W (t W z) fb := ⟨fun W => Classical.choose (h1 W), fun W => Classical.choose_spec (h1 W)⟩
  obtain ⟨t, ht⟩ := h2
  have h3 : ∃ u : Addr → List (Addr × Obj) → TS, ∀ a pn, PSs (cxS X a pn) (b₀ :: suite) (u a pn) ∧ SemS X.K cl W0 (u a pn) fs := ⟨fun a pn => Classical.choose (hsu a pn), fun a pn => Classical.choose_spec (hsu a pn)⟩
  obtain ⟨u, hu⟩ := h3
  refine ⟨_, ps_tryT (tb := fun W D σ H => ∀ z, t W z D σ H) (ts := fun D σ H => ∀ a pn, u a pn D σ H) (c := .ref (cl x)) hs hf hex hN hi hln ⟨hgl, hd, .inl hg⟩ tk (fun W pn xe tk po => ?_) (fun a pn => ?_),
    semTry (fun W ρ σ G H Fs env D hq z => (ht W z).2 ρ σ G H Fs env D hq) (fun ρ σ G H Fs env D hq a pn => (hu a pn).2 ρ σ G H Fs env D hq) hfx hm⟩
  · exact ⟨fun pins s σ H D I q => (ht W ⟨pn, xe, tk, po⟩).1.run pins s σ H D I (q _)⟩
  · exact ⟨fun pins s σ H D I q => (hu a pn).1.run pins s σ H D I (q _ _)⟩
end
end B
namespace B
open PySem L2
/-! ### isinstance of the program's own classes -/
/-- a class of the program, for its instances -/
structure OwnC (K : PySem.W.Frag) (C : Addr) : Prop where
  cl : Cls K C
  ha : PySem.W.findIn K (.ref C) "__class__" = some (some (.builtin "object.__class__"))
  hn : PySem.W.specialIn K (.builtin "object.__class__") "__get__" = some (some (.builtin "getset_descriptor.__get__"))
  ht : PySem.W.takesIn K (.builtin "object.__class__") = some true
  hm : PySem.W.mroIn K C (.type "object") = some true
theorem oB_ok {x : Option Bool} (h : oB x = true) : x = some true := of_decide_eq_true h
theorem ownB_ok {K : PySem.W.Frag} {C : Addr} (h : ownB K C = true) : OwnC K C := by
  obtain ⟨h1, h⟩ := He.ba h
  obtain ⟨h2, h⟩ := He.ba h
  obtain ⟨h3, h⟩ := He.ba h
  obtain ⟨h4, h⟩ := He.ba h
  obtain ⟨h5, h⟩ := He.ba h
  obtain ⟨h6, h⟩ := He.ba h
  obtain ⟨h7, h8⟩ := He.ba h
  exact ⟨⟨h1, h2, h3, He.eqO_ok h4⟩, He.eqO_ok h5, He.eqO_ok h6, oB_ok h7, oB_ok h8⟩
theorem excB_ok {K : PySem.W.Frag} {C : Addr} (h : excB K C = true) : ExcC K C := by
  obtain ⟨h1, h⟩ := He.ba h
  obtain ⟨h2, h⟩ := He.ba h
  obtain ⟨h3, h⟩ := He.ba h
  obtain ⟨h4, h⟩ := He.ba h
  obtain ⟨h5, h⟩ := He.ba h
  obtain ⟨h6, h⟩ := He.ba h
  obtain ⟨h7, h8⟩ := He.ba h
  exact ⟨He.eqO_ok h1, He.eqO_ok h2, oB_ok h3, h4, He.eqO_ok h5, He.eqO_ok h6, oB_ok h7, oB_ok h8⟩
def Tk.v (c : Str → Addr) : Tk → V
  | .own x => .ref (c x)
  | .blt n => .ty n
theorem Tk.cls (c : Str → Addr) : ∀ t : Tk, ClsV (t.v c) (t.u c)
  | .own x => .own _
  | .blt n => .ty n
/-- what the classes T say of the instances of os, of the errors es: ys -/
structure IsF (K : PySem.W.Frag) (c : Str → Addr) (T : List Tk) (os es ys : List Str) : Prop where
  ob : ∀ C, cMem os C = true → OwnC K (c C) ∧ PySem.W.kitAny K (.ref (c C)) (T.map (Tk.u c)) = some (cMem ys C)
  ex : ∀ C, cMem es C = true → ExcC K (c C) ∧ PySem.W.kitAny K (.ref (c C)) (T.map (Tk.u c)) = some (cMem ys C)
  bl : ∀ n, n ∈ bltN → PySem.W.kitAny K (.type n) (T.map (Tk.u c)) = some false
theorem isB_ok {T : List Tk} {os es ys : List Str} {K : PySem.W.Frag} (h : isB T os es ys K = true) : IsF K (He.ga K) T os es ys := by
  obtain ⟨h1, h⟩ := He.ba h
  obtain ⟨h2, h3⟩ := He.ba h
  refine ⟨fun C hC => ?_, fun C hC => ?_, fun n hn => of_decide_eq_true (List.all_eq_true.mp h3 n hn)⟩
  · obtain ⟨a, b⟩ := He.ba (List.all_eq_true.mp h1 C (cMem_of hC))
    exact ⟨ownB_ok a, of_decide_eq_true b⟩
  · obtain ⟨a, b⟩ := He.ba (List.all_eq_true.mp h2 C (cMem_of hC))
    exact ⟨excB_ok a, of_decide_eq_true b⟩
def isR (os es ys : List Str) : D → R Vl
  | .obj C _ => if cMem os C then .ok (sh (.bl (cMem ys C))) else .bad
  | .exo C => if cMem es C then .ok (sh (.bl (cMem ys C))) else .bad
  | .dct _ => .bad
  | .dci _ => .bad
  | _ => .ok (sh (.bl false))
@[simp] theorem isR_obj (os es ys : List Str) (C : Str) (fs : List (Str × D)) : isR os es ys (.obj C fs) = if cMem os C then .ok (sh (.bl (cMem ys C))) else .bad := rfl
@[simp] theorem isR_exo (os es ys : List Str) (C : Str) : isR os es ys (.exo C) = if cMem es C then .ok (sh (.bl (cMem ys C))) else .bad := rfl
@[simp] theorem isR_non (os es ys : List Str) : isR os es ys .non = .ok (sh (.bl false)) := rfl
@[simp] theorem isR_int (os es ys : List Str) (i : Int) : isR os es ys (.int i) = .ok (sh (.bl false)) := rfl
@[simp] theorem isR_bl (os es ys : List Str) (i : Bool) : isR os es ys (.bl i) = .ok (sh (.bl false)) := rfl
@[simp] theorem isR_str (os es ys : List Str) (i : Str) : isR os es ys (.str i) = .ok (sh (.bl false)) := rfl
@[simp] theorem isR_lst (os es ys : List Str) (i : List D) : isR os es ys (.lst i) = .ok (sh (.bl false)) := rfl
@[simp] theorem isR_tup (os es ys : List Str) (i : List D) : isR os es ys (.tup i) = .ok (sh (.bl false)) := rfl
def eIs (os es ys : List Str) (a : EF) : EF := fun ρ => (a ρ).bind fun x => isR os es ys x.d
@[simp] theorem eIs_eq (os es ys : List Str) (a : EF) (ρ : Env) : eIs os es ys a ρ = (a ρ).bind fun x => isR os es ys x.d := rfl
/-- a value's kind, an error's too -/
inductive TyY (K : PySem.W.Frag) (H : Hp) : V → Value → Prop where
  | base {x : V} {t : Value} (h : TyX K H x t) : TyY K H x t
  | exo {a D : Addr} (e : H a = some (EXO (.ref D) a)) (k : ExcC K D) : TyY K H (.ref a) (.ref D)
def rIsY (K : PySem.W.Frag) : List V → Hp → VK → Prop := fun xs H Q => ∃ (x c : V) (t u : Value) (b : Bool), xs = [x, c] ∧ ClsV c u ∧ TyY K H x t ∧ PySem.W.kitOne K t u = some b ∧ Q (.bl b) H
def rIsYT (K : PySem.W.Frag) : List V → Hp → VK → Prop := fun xs H Q => ∃ (x : V) (tp : Addr) (cs : List V) (t : Value) (us : List Value) (b : Bool), xs = [x, .ref tp] ∧ H tp = some (.tup cs) ∧ Paired ClsV cs us ∧ TyY K H x t ∧ PySem.W.kitAny K t us = some b ∧ Q (.bl b) H
section
variable {X : Cx} {pins : List (Addr × Obj)} {σ : L2.St} {H : Hp} {s : Shared}
theorem kit_ofY {x : V} {u t : Value} (I : Inv X pins σ H s) (rx : RelV x u) (ty : TyY X.K H x t) : ∃ P : Heap → Prop, PySem.W.KitX X.K u t P ∧ P s.heap ∧ u ≠ .builtin "__main__.__loader__#opaque" := by
  cases ty with
  | base h => exact kit_of I rx h
  | @exo a D e k =>
    cases (show u = Value.ref a from rx)
    obtain ⟨⟨oe, vs, h1, h2, h3⟩, _, _⟩ := (show ObjOk X.prog X.w H s.heap a (EXO (.ref D) a) from I.hok a _ e)
    have J : PySem.W.InstAt s.heap a oe D none := by
      obtain ⟨oc, od, oda, osl⟩ := oe
      obtain ⟨z1, z2⟩ := h2
      dsimp only at z1 z2 h3
      subst z1 z2 h3
      exact ⟨h1, rfl, rfl, trivial⟩
    exact ⟨_, PySem.W.handS_kitx_exc k.hg k.hk k.hs k.hd k.ha k.hn k.ht k.hm, J, fun z => nomatch z⟩
theorem call_isY : CallR X (.builtin "isinstance") (rIsY X.K) := by
  rintro pins s σ H xs us Q I r ⟨x, c, t, u, b, rfl, k, ty, e, q⟩
  obtain ⟨u1, u2, rfl, r1, r2⟩ := vals2 r
  obtain rfl := k.eq r2
  obtain ⟨P, Z, p, hx⟩ := kit_ofY I r1 ty
  exact PySem.W.kia_one Z I.kIn p e hx fun tk => ⟨.bl b, H, I.tok tk, rfl, q⟩
theorem call_isYT : CallR X (.builtin "isinstance") (rIsYT X.K) := by
  rintro pins s σ H xs us Q I r ⟨x, tp, cs, t, ws, b, rfl, hT, k, ty, e, q⟩
  obtain ⟨u1, u2, rfl, r1, r2⟩ := vals2 r
  cases (show u2 = Value.ref tp from r2)
  obtain ⟨P, Z, p, hx⟩ := kit_ofY I r1 ty
  have ht := (show ObjOk X.prog X.w H s.heap tp (.tup cs) from I.hok tp _ hT)
  obtain ⟨_, its, rv, ⟨oc, od, dt, sl⟩, h1, h2, n, h3⟩ := ht
  obtain rfl := ClsV.all k rv
  simp only at h2 h3
  subst h2 h3
  exact PySem.W.kia_tup Z I.kIn p h1 e hx fun tk => ⟨.bl b, H, I.tok tk, rfl, q⟩
end
section
variable {X : Cx} {cl : Clx} {W : WX} {pos : Pos}
theorem tyy_of {K : PySem.W.Frag} {T : List Tk} {os es ys : List Str} {k : Nat} {v : V} {d : D} {F : Addr → Prop} {G H : Hp} {y : Vl} (f : IsF K cl.c T os es ys) (o : Own K cl H G k v d F) (gh : Same G H) (h : isR os es ys d = .ok y) : ∃ t b, TyY K H v t ∧ PySem.W.kitAny K t (T.map (Tk.u cl.c)) = some b ∧ y = sh (.bl b) := by
  have blt : ∀ n, tyN d = some n → n ∈ bltN → isR os es ys d = .ok (sh (.bl false)) → ∃ t b, TyY K H v t ∧ PySem.W.kitAny K t (T.map (Tk.u cl.c)) = some b ∧ y = sh (.bl b) := fun n hn hb hr => by
    rw [h] at hr
    cases hr
    exact ⟨_, false, .base (tyx_of o gh hn), f.bl n hb, rfl⟩
  cases d with
  | non => exact blt "NoneType" rfl (by decide) rfl
  | bl b => exact blt "bool" rfl (by decide) rfl
  | int b => exact blt "int" rfl (by decide) rfl
  | str b => exact blt "str" rfl (by decide) rfl
  | lst b => exact blt "list" rfl (by decide) rfl
  | tup b => exact blt "tuple" rfl (by decide) rfl
  | obj C fs =>
    rw [isR_obj] at h
    cases e : cMem os C with
    | false => rw [e] at h; cases h
    | true =>
      rw [e] at h
      cases h
      obtain ⟨q, kk⟩ := f.ob C e
      obtain ⟨p, dx, gs, rfl, hp, _⟩ := o.objR gh
      exact ⟨_, _, .base (.base (.ins hp q.cl q.ha q.hn q.ht q.hm)), kk, rfl⟩
  | exo C =>
    rw [isR_exo] at h
    cases e : cMem es C with
    | false => rw [e] at h; cases h
    | true =>
      rw [e] at h
      cases h
      obtain ⟨q, kk⟩ := f.ex C e
      cases Own.scal o (by simp) with
      | exo hg => exact ⟨_, _, .exo (gh _ _ hg) q, kk, rfl⟩
  | dct ps => cases h
  | dci ks => cases h
/-- a name that tells a class -/
def ClN (X : Cx) (c : Str → Addr) (e : Expr) (t : Tk) : Prop := PE X e (tC (t.v c))
theorem cn_own {c : Str → Addr} {x : Str} (g : X.mg x = some (.ref (c x))) (hg : Gl X x := by rfl) (hd : (x == ("__debug__" : Str)) = false := by decide) : ClN X c (.Name x pos) (.own x) := pe_glob (v := .ref (c x)) hg g rfl hd
theorem cn_blt {c : Str → Addr} {x : Str} (n : String) (hm : X.mg x = none) (hg : Gl X x := by rfl) (hv : bootBuiltins x = some (.type n) := by rfl) (hn : x ≠ "__name__" := by decide) (hd : (x == ("__debug__" : Str)) = false := by decide) : ClN X c (.Name x pos) (.blt n) := pe_bltn (v := .ty n) hg hm hv rfl hn hd
def ClNs (X : Cx) (c : Str → Addr) (es : List Expr) (ts : List Tk) : Prop := ∃ t, PA X es t ∧ ∀ σ H Q, Q (ts.map (Tk.v c)) H → t σ H Q
theorem cns_nil {c : Str → Addr} : ClNs X c [] [] := ⟨_, pa_nil, fun σ H Q q => q⟩
theorem cns_cons {c : Str → Addr} {e : Expr} {es : List Expr} {k : Tk} {ks : List Tk} (h : ClN X c e k) (h2 : ClNs X c es ks) (hs : starEach (e :: es) X.env = (false, eval e X.env) :: starEach es X.env := by rfl) : ClNs X c (e :: es) (k :: ks) := by
  obtain ⟨t, p, q⟩ := h2
  exact ⟨_, pa_cons h p hs, fun σ H Q q2 => q σ H _ q2⟩
theorem paired_tk (c : Str → Addr) : ∀ ts : List Tk, Paired ClsV (ts.map (Tk.v c)) (ts.map (Tk.u c))
  | [] => .nil
  | t :: ts => .cons (t.cls c) (paired_tk c ts)
theorem ev_is1 {c : Str → Addr} {k : Tk} {os es ys : List Str} {p : Pos} {e e2 : Expr} {a : EF} (f : IsF X.K c [k] os es ys) (hk : ClN X c e2 k) (hm : X.mg "isinstance" = none) (ha : EvE X cl W e a) (hg : Gl X "isinstance" := by rfl)
    (hs : starEach [e, e2] X.env = (false, eval e X.env) :: starEach [e2] X.env := by rfl) (hs2 : starEach [e2] X.env = (false, eval e2 X.env) :: starEach [] X.env := by rfl) (hpl : (backTo pos (starEach [e2] X.env)).any (·.1) = false := by rfl) (hcc : cl.c = c := by rfl) :
    EvE X cl W (.Call (.Name "isinstance" p) [e, e2] [] pos) (eIs os es ys a) := by
  subst hcc
  obtain ⟨t, pt, st⟩ := ha
  refine ⟨_, pe_callB call_isY hg hm PyProof.Rows.boot_isinstance (pa_cons pt (pa_cons hk pa_nil hs2) hs) (by decide) (by decide) hs hpl, fun ρ σ G H Fs env Q hq => ?_⟩
  refine st.use env PV.mono hq fun y v G1 H1 F1 e1 p1 env1 o1 f1 hq1 => ?_
  cases er : isR os es ys y.d with
  | bad => rw [er] at hq1; exact hq1.elim
  | ex z => rw [er] at hq1; unfold isR at er; split at er <;> first | cases er | (split at er <;> cases er)
  | ok z =>
    rw [er] at hq1
    obtain ⟨t, b, ty, kk, rfl⟩ := tyy_of f o1 env1.gh er
    refine ⟨v, _, t, _, b, rfl, k.cls cl.c, ty, ?_, hq1 _ G1 H1 (fun _ => False) (Px.refl env1.gh) (Rep.bl _) noFoo⟩
    have kk : PySem.W.kitAny X.K t [k.u cl.c] = some b := kk
    unfold PySem.W.kitAny at kk
    cases q : PySem.W.kitOne X.K t (k.u cl.c) with
    | none => rw [q] at kk; cases kk
    | some r =>
      rw [q] at kk
      cases r with
      | true => cases kk; rfl
      | false =>
        have kk : PySem.W.kitAny X.K t [] = some b := kk
        rw [kitAny_nil] at kk
        cases kk
        rfl
theorem ev_isT {c : Str → Addr} {ks : List Tk} {os es ys : List Str} {p pT : Pos} {e : Expr} {ns : List Expr} {x1} {a : EF} (f : IsF X.K c ks os es ys) (hk : ClNs X c ns ks) (hm : X.mg "isinstance" = none) (ha : EvE X cl W e a) (hl : ks.length ≤ 1000 := by decide) (hg : Gl X "isinstance" := by rfl)
    (hs : starEach [e, .Tuple ns x1 pT] X.env = (false, eval e X.env) :: starEach [.Tuple ns x1 pT] X.env := by rfl) (hs2 : starEach [.Tuple ns x1 pT] X.env = (false, eval (.Tuple ns x1 pT) X.env) :: starEach [] X.env := by rfl) (hpl : (backTo pos (starEach [.Tuple ns x1 pT] X.env)).any (·.1) = false := by rfl) (hcc : cl.c = c := by rfl) :
    EvE X cl W (.Call (.Name "isinstance" p) [e, .Tuple ns x1 pT] [] pos) (eIs os es ys a) := by
  subst hcc
  obtain ⟨t, pt, st⟩ := ha
  obtain ⟨u, pu, su⟩ := hk
  refine ⟨_, pe_callB call_isYT hg hm PyProof.Rows.boot_isinstance (pa_cons pt (pa_cons (pe_tup pu) pa_nil hs2) hs) (by decide) (by decide) hs hpl, fun ρ σ G H Fs env Q hq => ?_⟩
  refine st.use env PV.mono hq fun y v G1 H1 F1 e1 p1 env1 o1 f1 hq1 => ?_
  refine su _ _ _ ⟨le_line (by simpa using hl), fun tp hp => ?_⟩
  have px : Px G1 H1 G1 (upd H1 tp (.tup (ks.map (Tk.v cl.c)))) := px_new env1.gh hp
  cases er : isR os es ys y.d with
  | bad => rw [er] at hq1; exact hq1.elim
  | ex z => rw [er] at hq1; unfold isR at er; split at er <;> first | cases er | (split at er <;> cases er)
  | ok z =>
    rw [er] at hq1
    obtain ⟨t, b, ty, kk, rfl⟩ := tyy_of f (o1.px px) px.gh er
    exact ⟨v, tp, _, t, _, b, rfl, upd_same, paired_tk cl.c ks, ty, kk, hq1 _ G1 _ (fun _ => False) px (Rep.bl _) noFoo⟩
end
end B
namespace B
open PySem L2 PySem.Spec PyProof.Rows
/-! ### a new instance, a base's method called through its class: what is raised is wished for at the caller's slots -/
def tMkS (C : Addr) (sp : Sp) (E : L2.St → XK) (t : TA) : TE := fun σ H Q => t σ H fun vs H1 => ∀ x dx, H1 x = none → H1 dx = none → dx ≠ x →
  sp (.ref x :: vs) (upd (upd H1 dx (.own x)) x (.ins C dx [])) (fun v H2 => v = .non ∧ Q (.ref x) H2) (E σ)
section
variable {X : Cx} {k : Nat} {f C : Addr} {fd : FuncData} {ps : List Str} {sp : Sp} {E : L2.St → XK} {x : Str} {p pos : Pos} {e : Expr} {es : List Expr} {t : TA}
theorem pe_mkS (M : Mk X.K C f) (F : FnOk X.prog X.w X.K X.mg X.base (L2.CX X.prog X.w) k f fd ps sp) (hr : Room (k + 1) X.A) (hg : Gl X x) (hm : X.mg x = some (.ref C)) (hb : Binds X.K fd ps []) (hx : ∀ σ, PassesAt (L2.CX X.prog X.w) X σ (E σ))
    (ha : PA X (e :: es) t) (hdb : (x == ("__debug__" : Str)) = false := by decide) (he : starEach (e :: es) X.env = (false, eval e X.env) :: starEach es X.env := by rfl) (hpl : (backTo pos (starEach es X.env)).any (·.1) = false := by rfl) :
    PE X (.Call (.Name x p) (e :: es) [] pos) (tMkS C sp E t) := by
  constructor
  intro pins s σ H Q I h
  refine wpAny_Call_Name_kw (ld_glob I hg hm ?_ hdb)
  refine PySem.W.callWith_K (h₀ := X.base) I.ok.mod.kin M.kp (thn (ha.run pos pins s σ H _ I h) fun us s1 ⟨vs, H1, I1, r, q⟩ => ⟨I1.kIn, ?_⟩) he hpl
  let n := s1.heap.objs.size
  have made := Inv.made (C := C) I1
  have sp1 := q (n + 1) n (I1.hok.fresh (Nat.le_succ _)) (I1.hok.fresh (Nat.le_refl _)) (Nat.ne_of_lt (Nat.lt_succ_self _))
  have rel : Vals (V.ref (n + 1) :: vs) (Value.ref (n + 1) :: us) := .cons rfl r
  have len : (Value.ref (n + 1) :: us).length = ps.length := by rw [← rel.length]; exact F.len _ _ _ _ sp1
  have bd := hb { s1 with heap := (s1.heap.push PySem.W.emptyDict).push (PySem.W.instObj C n) } (Value.ref (n + 1) :: us) made.kIn (by rw [List.append_nil]; exact len)
  rw [List.append_nil] at bd
  refine wpAny_call (make_map (f := f) I1.kIn M.makes M.init (beq_iff_eq.mp M.fn) (codeAny_mono (F.run _ X.stack _ _ ⟨_ :: us, []⟩ _ _ _ (E σ) (hr.make C us []) (made.env0.make C us []) bd rel sp1) fun res s2 z => ?_))
  cases res with
  | error e => exact hx σ pins _ _ e s2 made z
  | ok fl =>
    cases fl with
    | ret u =>
      obtain ⟨v, H', I3, rv, ev, q3⟩ := made.after z
      subst ev
      exact ⟨rv, .ref (n + 1), H', I3, rfl, q3⟩
    | next => exact z.elim
    | brk => exact z.elim
    | cont => exact z.elim
/-- C.m(..): a def of the class at C, called through its class -/
theorem pe_baseS {m : Str} {p2 : Pos} {mc : Value} {pl : Sem Bool} (r : ClX.CRead X.K C mc) (c : PySem.W.findCls X.K (.ref C) mc m = some (.val (.ref f))) (hk : PySem.W.keepIn X.K (.ref f) = true) (F : FnOk X.prog X.w X.K X.mg X.base (L2.CX X.prog X.w) k f fd ps sp) (hr : Room k X.A)
    (hg : Gl X x) (hm : X.mg x = some (.ref C)) (hb : Binds X.K fd ps []) (hx : ∀ σ, PassesAt (L2.CX X.prog X.w) X σ (E σ)) (ha : PA X (e :: es) t) (hdb : (x == ("__debug__" : Str)) = false := by decide)
    (he : starEach (e :: es) X.env = (false, eval e X.env) :: starEach es X.env := by rfl) (hpl : (backTo pos (starEach es X.env)).any (·.1) = false := by rfl)
    (ht : eval (.Call (.Attribute (.Name x p) m p2) (e :: es) [] pos) X.env = (do
      let ov ← eval (.Name x p) X.env
      standAt p2.atName
      let (g, first) ← holding [ov] (getMethod ov m pl)
      callWith pos g first (backTo pos (starEach (e :: es) X.env)) (backToKw pos (keywordEach [] X.env))) := by rfl) :
    PE X (.Call (.Attribute (.Name x p) m p2) (e :: es) [] pos) (tCallS sp E t) := by
  constructor
  intro pins s σ H Q I h
  refine PySem.W.methodCall_KW (ld_glob I hg hm ?_ hdb) ht
  refine PySem.W.method_cls I.kIn r.ga (PySem.W.cls_value I.kIn r.rd c rfl ?_)
  have I0 := I.tok (s.toks + 1)
  refine PySem.W.callWith_K (h₀ := X.base) I.ok.mod.kin hk (thn (ha.run pos pins _ σ H _ (I.tok _) h) fun us s1 ⟨vs, H1, I1, rv, q⟩ => ⟨I1.kIn, ?_⟩) he hpl
  exact run_fnS F hr hb (hx σ) I1 rv q
end
end B
namespace B
open PySem L2
/-! ### defs that change what they are handed -/
inductive RM where
  | ok (x : Vl) (o : Env)
  | ex (c : Str) (o : Env)
  | bad
abbrev FnM := List (Nat × D) → RM
def Fre (Fs : Foot) (G' H' : Hp) (F : Addr → Prop) : Prop := ∀ a, F a → (∃ o, H' a = some o) ∧ G' a = none ∧ ¬ Un Fs a
def PFM (K : PySem.W.Frag) (c : Str → Addr) (vs : List V) (Fs : Foot) (G H : Hp) (Q : VK) (E : XK) : RM → Prop
  | .ok x o => x.b = false ∧ ∀ v G' H' Fs' F, EnvR K (cl0 c) o (vs.map some) G' H' Fs' → Own K c H' G' x.k v x.d F → Fre Fs' G' H' F → Sx (Un Fs) G H (fun a => Un Fs' a ∨ F a) G' H' → Q v H'
  | .ex z o => ∀ G' H' Fs', EnvR K (cl0 c) o (vs.map some) G' H' Fs' → Sx (Un Fs) G H (Un Fs') G' H' → E (.ref (c z)) none H'
  | .bad => False
def spM (K : PySem.W.Frag) (c : Str → Addr) (n : Nat) (f : FnM) : Sp := fun vs H Q E => vs.length = n ∧ ∃ G as Fs, EnvR K (cl0 c) (as.map some) (vs.map some) G H Fs ∧ PFM K c vs Fs G H Q E (f as)
/-- what is handed back: the slots ms of the first n -/
def outs (ms : List Nat) (n : Nat) (ρ : Env) : Env := (List.range n).map fun i => if ms.contains i then (ρ[i]?).getD none else none
def outM (ms : List Nat) (n : Nat) : RS → RM
  | .ok .nx ρ => .ok (sh .non) (outs ms n ρ)
  | .ok (.rt k d) ρ => .ok ⟨false, k, d⟩ (outs ms n ρ)
  | .ex c ρ => .ex c (outs ms n ρ)
  | _ => .bad
@[simp] theorem outM_nx (ms : List Nat) (n : Nat) (ρ : Env) : outM ms n (.ok .nx ρ) = .ok (sh .non) (outs ms n ρ) := rfl
@[simp] theorem outM_rt (ms : List Nat) (n k : Nat) (d : D) (ρ : Env) : outM ms n (.ok (.rt k d) ρ) = .ok ⟨false, k, d⟩ (outs ms n ρ) := rfl
@[simp] theorem outM_ex (ms : List Nat) (n : Nat) (c : Str) (ρ : Env) : outM ms n (.ex c ρ) = .ex c (outs ms n ρ) := rfl
def rhoM (n : Nat) (as : List (Nat × D)) : Env := as.map some ++ List.replicate (n - as.length) none
/-- a def of n parameters, N slots; ms: the parameters that it changes -/
def runM (N n : Nat) (ms : List Nat) (b : SF) : FnM := fun as => outM ms n (b (rhoM N as))
def fixOf (ms : List Nat) (vs : List V) : Nat → Option V := fun i => if ms.contains i then vs[i]? else none
def clM (c : Str → Addr) (ms : List Nat) (vs : List V) : Clx := ⟨c, fixOf ms vs⟩
def BodyM (P : Program) (w : World) (K : PySem.W.Frag) (mg : Str → Option Value) (base : Heap) (c : Str → Addr) (ms : List Nat) (k : Nat) (N : List Str) (qual : Str) (st : Stmt) (b : SF) : Prop := ∀ vs : List V, BodyOk P w K mg base (clM c ms vs) k N qual st b
section
variable {K : PySem.W.Frag} {c : Str → Addr} {cl : Clx}
theorem getElem?_outs {ms : List Nat} {n : Nat} {ρ : Env} {i : Nat} {q : Nat × D} (h : (outs ms n ρ)[i]? = some (some q)) : i < n ∧ ms.contains i = true ∧ ρ[i]? = some (some q) := by
  unfold outs at h
  rw [List.getElem?_map] at h
  cases e : (List.range n)[i]? with
  | none => rw [e] at h; cases h
  | some j =>
    obtain ⟨h1, h2⟩ := List.getElem?_eq_some_iff.mp e
    have hj : j = i := by rw [← h2, List.getElem_range]
    subst hj
    rw [e] at h
    simp only [Option.map_some, Option.some.injEq] at h
    cases em : ms.contains j with
    | false => rw [em] at h; cases h
    | true =>
      rw [em, if_pos rfl] at h
      refine ⟨by simpa using h1, rfl, ?_⟩
      cases er : ρ[j]? with
      | none => rw [er] at h; cases h
      | some s =>
        rw [er] at h
        exact congrArg some h
theorem start_get {N : List Str} {vs : List V} {i : Nat} {v : V} (h : vs[i]? = some v) : (L2.start N vs)[i]? = some (some v) := by
  unfold L2.start
  have hi : i < vs.length := (List.getElem?_eq_some_iff.mp h).1
  rw [List.getElem?_append_left (by simpa using hi), List.getElem?_map, h]
  rfl
theorem envM {N : List Str} {vs : List V} {as : List (Nat × D)} {G H : Hp} {Fs : Foot} (ms : List Nat) (e : EnvR K (cl0 c) (as.map some) (vs.map some) G H Fs) : EnvR K (clM c ms vs) (rhoM N.length as) (L2.start N vs) G H Fs := by
  have hl : as.length = vs.length := by simpa using e.len
  refine ⟨by simp only [rhoM, L2.start, List.length_append, List.length_map, List.length_replicate, hl], e.gh, fun i k d h => ?_, e.dis, e.dom, fun i v h => ?_⟩
  · unfold rhoM at h
    by_cases hi : i < as.length
    · rw [List.getElem?_append_left (by simpa using hi)] at h
      obtain ⟨v, hv, o⟩ := e.own i k d h
      rw [List.getElem?_map] at hv
      cases ev : vs[i]? with
      | none => rw [ev] at hv; cases hv
      | some v' =>
        rw [ev] at hv
        cases hv
        exact ⟨_, start_get ev, o⟩
    · rw [List.getElem?_append_right (by simpa using hi), List.getElem?_replicate] at h
      split at h <;> cases h
  · have h : (if ms.contains i then vs[i]? else none) = some v := h
    cases em : ms.contains i with
    | false => rw [em] at h; cases h
    | true =>
      rw [em, if_pos rfl] at h
      exact start_get h
/-- behind the body: the caller's view -/
theorem envOut {N : List Str} {vs : List V} {ρ : Env} {σ : L2.St} {G H : Hp} {Fs : Foot} {ms : List Nat} (e : EnvR K (clM c ms vs) ρ σ G H Fs) : EnvR K (cl0 c) (outs ms vs.length ρ) (vs.map some) G H (fun i a => i < vs.length ∧ ms.contains i = true ∧ Fs i a) := by
  refine ⟨by simp [outs], e.gh, fun i k d h => ?_, fun i j a h1 h2 => e.dis i j a h1.2.2 h2.2.2, fun i a h => e.dom i a h.2.2, fun i v h => nomatch h⟩
  obtain ⟨hi, hm, hr⟩ := getElem?_outs h
  obtain ⟨v, hv, o⟩ := e.own i k d hr
  have hf : (clM c ms vs).fix i = some vs[i] := by
    show (if ms.contains i then vs[i]? else none) = _
    rw [hm, if_pos rfl, List.getElem?_eq_getElem hi]
  have h2 := e.fx i _ hf
  rw [hv] at h2
  cases h2
  exact ⟨_, by rw [List.getElem?_map, List.getElem?_eq_getElem hi]; rfl, o.weak fun a fa => ⟨hi, hm, fa⟩⟩
theorem Sx.less {U U1 U2 : Addr → Prop} {G H G' H' : Hp} (s : Sx U G H U1 G' H') (h : ∀ a, U2 a → U1 a) : Sx U G H U2 G' H' := ⟨s.gg, s.gh, s.fr, s.th, fun a u => s.un a (h a u), s.gn⟩
theorem fn_mut {P : Program} {w : World} {mg : Str → Option Value} {base : Heap} {x qual : Str} {st : Stmt} {f : Addr} {fd : FuncData} {N ps : List Str} {k : Nat} {ms : List Nat} {b : SF} (F : FunD K x qual (defArgs st) (defBody st) (defScope st) [] [] f fd) (S : FnScope N ps (defScope st))
    (hb : BodyM P w K mg base c ms k N qual st b) : FnOk P w K mg base (L2.CX P w) (k + 1) f fd ps (spM K c ps.length (runM N.length ps.length ms b)) := by
  refine F.ok S (fun vs H Q E h => h.1) fun cdv A outer s H vs Q E hr h => ?_
  obtain ⟨hl, G, as, Fs, e0, q⟩ := h
  obtain ⟨t, pt, sm⟩ := hb vs f cdv A outer s H E hr
  refine ⟨t, pt, sm _ _ G H _ (envM ms e0) _ ?_⟩
  unfold runM at q
  rw [← hl] at q
  cases e : b (rhoM N.length as) with
  | bad => rw [e] at q; exact q
  | ex z ρ =>
    rw [e] at q
    exact fun σ' G' H' Fs' e' s => q G' H' _ (envOut (N := N) e') (s.less fun a ⟨i, _, _, z⟩ => ⟨i, z⟩)
  | ok fl ρ =>
    rw [e] at q
    cases fl with
    | bk => exact q.elim
    | ct => exact q.elim
    | nx => exact fun σ' G' H' Fs' e' s => q.2 .non G' H' _ (fun _ => False) (envOut (N := N) e') Rep.non (fun a z => z.elim) (s.less fun a h => h.elim (fun ⟨i, _, _, z⟩ => ⟨i, z⟩) False.elim)
    | rt k d =>
      intro σ' v G' H' Fs' F e' o fr s
      refine q.2 v G' H' _ F (envOut (N := N) e') o (fun a fa => ⟨(fr a fa).1, (fr a fa).2.1, fun ⟨i, _, _, z⟩ => (fr a fa).2.2 ⟨i, z⟩⟩) (s.less fun a h => h.elim (fun ⟨i, _, _, z⟩ => .inl ⟨i, z⟩) .inr)
end
/-- such a def as its callers know it -/
structure CalleeM (P : Program) (w : World) (K : PySem.W.Frag) (mg : Str → Option Value) (base : Heap) (c : Str → Addr) (fa : Addr) (k n : Nat) (f : FnM) : Prop where
  nb : ∀ as x o, f as = .ok x o → x.b = false
  ex : ∃ fd ps, FnOk P w K mg base (L2.CX P w) k fa fd ps (spM K c n f) ∧ PySem.W.keepIn K (.ref fa) = true ∧ Binds K fd ps []
theorem runM_nb {N n : Nat} {ms : List Nat} {b : SF} {as : List (Nat × D)} {x : Vl} {o : Env} (h : runM N n ms b as = .ok x o) : x.b = false := by
  unfold runM at h
  cases e : b (rhoM N as) with
  | bad => rw [e] at h; cases h
  | ex c ρ => rw [e] at h; cases h
  | ok fl ρ =>
    rw [e] at h
    cases fl with
    | bk => cases h
    | ct => cases h
    | nx => cases h; rfl
    | rt k d => cases h; rfl
theorem CalleeM.of {P : Program} {w : World} {K : PySem.W.Frag} {mg : Str → Option Value} {base : Heap} {c : Str → Addr} {x qual : Str} {st : Stmt} {fa : Addr} {fd : FuncData} {N ps : List Str} {k : Nat} {ms : List Nat} {b : SF} (F : FunD K x qual (defArgs st) (defBody st) (defScope st) [] [] fa fd) (S : FnScope N ps (defScope st))
    (hb : BodyM P w K mg base c ms k N qual st b)
    (h : ∀ (kV doc pm : Value) (an : Option Addr) (cdv ct : Value) (us : List Value), us.length = ps.length → bindArgs (PySem.W.fnOf x qual (defArgs st) (defBody st) (defScope st) .none kV doc pm an cdv ct) ⟨us, []⟩ = pure (ps.zip us)) :
    CalleeM P w K mg base c fa (k + 1) ps.length (runM N.length ps.length ms b) := ⟨fun _ _ _ => runM_nb, fd, ps, fn_mut F S hb, F.kp, F.bindsN h⟩
/-! ### C(..) -/
def newR : RM → R Vl
  | .ok x ((some (k, d)) :: _) => match x.d with
    | .non => .ok ⟨false, k, d⟩
    | _ => .bad
  | .ex c _ => .ex c
  | _ => .bad
@[simp] theorem newR_ok (k : Nat) (d : D) (b : Bool) (l : Nat) (o : Env) : newR (.ok ⟨b, l, .non⟩ (some (k, d) :: o)) = .ok ⟨false, k, d⟩ := rfl
@[simp] theorem newR_ex (c : Str) (o : Env) : newR (.ex c o) = .ex c := rfl
def eNewK (k : Nat) (C : Str) (f : FnM) (g : AF) : EF := fun ρ => (g ρ).bind fun ds => newR (f ((k + 1, .obj C []) :: ds.map fun d => (0, d)))
@[simp] theorem eNewK_eq (k : Nat) (C : Str) (f : FnM) (g : AF) (ρ : Env) : eNewK k C f g ρ = (g ρ).bind fun ds => newR (f ((k + 1, .obj C []) :: ds.map fun d => (0, d))) := rfl
def eNew (C : Str) (f : FnM) (g : AF) : EF := eNewK 0 C f g
@[simp] theorem eNew_eq (C : Str) (f : FnM) (g : AF) (ρ : Env) : eNew C f g ρ = (g ρ).bind fun ds => newR (f ((1, .obj C []) :: ds.map fun d => (0, d))) := rfl
section
variable {X : Cx} {cl : Clx} {W : WX} {pos : Pos}
theorem envNew {K : PySem.W.Frag} {c : Str → Addr} {G H : Hp} {k : Nat} {C : Str} {x dx : Addr} {vs : List V} {ds : List D} (gh : Same G H) (hx : H x = none) (r : RepL K c G vs ds) (hH : H x = none) (hd : H dx = none) (hne : dx ≠ x) :
    EnvR K (cl0 c) (((k + 1, D.obj C []) :: ds.map fun d => (0, d)).map some) ((V.ref x :: vs).map some) G (upd (upd H dx (.own x)) x (.ins (c C) dx [])) (fun i a => i = 0 ∧ a = x) := by
  have same : Same H (upd (upd H dx (.own x)) x (.ins (c C) dx [])) := (same_new hd).trans (same_new (by rw [upd_ne (Ne.symm hne)]; exact hx))
  refine ⟨by simp [r.1], gh.trans same, fun i k d h => ?_, fun i j a h1 h2 => h1.1.trans h2.1.symm, fun i a ⟨_, ha⟩ => ?_, fun i v h => nomatch h⟩
  · cases i with
    | zero =>
      cases h
      refine ⟨.ref x, rfl, x, dx, [], fun _ _ => False, rfl, upd_same, ⟨rfl, rfl⟩, rfl, fun i v d h1 => by simp at h1, fun _ _ z => z.elim, fun _ _ _ z => z.elim⟩
    | succ i =>
      simp only [List.map_cons, List.map_map, List.getElem?_cons_succ, List.getElem?_map] at h
      cases e : ds[i]? with
      | none => rw [e] at h; cases h
      | some d' =>
        rw [e] at h
        cases h
        have hi : i < vs.length := by rw [r.1]; exact (List.getElem?_eq_some_iff.mp e).1
        exact ⟨vs[i], by simp [List.getElem?_eq_getElem hi], r.2 i _ _ (List.getElem?_eq_getElem hi) e⟩
  · subst ha
    exact ⟨⟨_, upd_same⟩, gh.free hx⟩
theorem ev_newK (fl : Nat) {c : Str → Addr} {x : Str} {k n : Nat} {f : FnM} {fi : Addr} {p : Pos} {e : Expr} {es : List Expr} {g : AF} (C : CalleeM X.prog X.w X.K X.mg X.base c fi k n f) (M : Mk X.K (c x) fi) (hm : X.mg x = some (.ref (c x))) (hr : Room (k + 1) X.A) (tk : Takes X W) (ha : EvA X cl W (e :: es) g) (hn : (e :: es).length + 1 = n := by rfl) (hg : Gl X x := by rfl)
    (hdb : (x == ("__debug__" : Str)) = false := by decide) (he : starEach (e :: es) X.env = (false, eval e X.env) :: starEach es X.env := by rfl) (hpl : (backTo pos (starEach es X.env)).any (·.1) = false := by rfl) (hcc : cl.c = c := by rfl) : EvE X cl W (.Call (.Name x p) (e :: es) [] pos) (eNewK fl x f g) := by
  subst hcc
  obtain ⟨nb, fd, ps, F, kp, bi⟩ := C
  obtain ⟨t, pt, st, hlen⟩ := ha
  refine ⟨_, pe_mkS M F hr hg hm bi (fun σ => passAt tk σ) pt hdb he hpl, fun ρ σ G H Fs env Q hq => ?_⟩
  refine st.use env PV.mono hq fun ds vs G1 H1 e1 p1 env1 r1 hq1 => ?_
  intro x' dx hx hd hne
  have e0 := envNew (k := fl) (C := x) env1.gh hx r1 hx hd hne
  have same : Same H1 (upd (upd H1 dx (.own x')) x' (.ins (cl x) dx [])) := (same_new hd).trans (same_new (by rw [upd_ne (Ne.symm hne)]; exact hx))
  refine ⟨by rw [List.length_cons, r1.1, hlen ρ ds e1]; exact hn, G1, _, _, e0, ?_⟩
  have back : ∀ {G' H' : Hp} {U' : Addr → Prop}, Sx (Un fun i a => i = 0 ∧ a = x') G1 (upd (upd H1 dx (.own x')) x' (.ins (cl x) dx [])) U' G' H' → Px G1 H1 G' H' := fun {G' H' U'} s => by
    refine ⟨fun a o ha => s.fr a o (same a o ha) fun ⟨i, _, z⟩ => ?_, s.gg, s.gh, fun a o ha => ?_⟩
    · rw [z, hx] at ha; cases ha
    · rcases s.gn a o ha with h | ⟨i, _, h⟩ | h
      · exact .inl h
      · exact .inr (by rw [h]; exact hx)
      · exact .inr (same.free h)
  cases ef : f ((fl + 1, .obj x []) :: ds.map fun d => (0, d)) with
  | bad => rw [ef] at hq1; exact hq1
  | ex z o =>
    rw [ef] at hq1
    exact fun G' H' Fs' _ s => hq1 G' H' (back s)
  | ok y o =>
    rw [ef] at hq1
    obtain ⟨yb, yk, yd⟩ := y
    cases o with
    | nil => exact hq1.elim
    | cons s0 o =>
      cases s0 with
      | none => exact hq1.elim
      | some kd =>
        obtain ⟨k0, d0⟩ := kd
        cases yd with
        | non =>
          rw [newR_ok] at hq1
          refine ⟨?_, fun v G' H' Fs' F e' o' fr s => ⟨o'.non, ?_⟩⟩
          · exact nb _ _ _ ef
          · obtain ⟨v0, hv0, o0⟩ := e'.own 0 k0 d0 rfl
            cases hv0
            have px := back s
            refine hq1 _ G' H' (Fs' 0) px o0 fun a fa => ⟨(e'.dom 0 a fa).1, (e'.dom 0 a fa).2, fun _ => ?_⟩
            rcases s.un a (.inl ⟨0, fa⟩) with ⟨i, _, z⟩ | z
            · rw [z]; exact hx
            · exact same.free z
        | _ => exact hq1.elim
theorem ev_new {c : Str → Addr} {x : Str} {k n : Nat} {f : FnM} {fi : Addr} {p : Pos} {e : Expr} {es : List Expr} {g : AF} (C : CalleeM X.prog X.w X.K X.mg X.base c fi k n f) (M : Mk X.K (c x) fi) (hm : X.mg x = some (.ref (c x))) (hr : Room (k + 1) X.A) (tk : Takes X W) (ha : EvA X cl W (e :: es) g) (hn : (e :: es).length + 1 = n := by rfl) (hg : Gl X x := by rfl)
    (hdb : (x == ("__debug__" : Str)) = false := by decide) (he : starEach (e :: es) X.env = (false, eval e X.env) :: starEach es X.env := by rfl) (hpl : (backTo pos (starEach es X.env)).any (·.1) = false := by rfl) (hcc : cl.c = c := by rfl) : EvE X cl W (.Call (.Name x p) (e :: es) [] pos) (eNew x f g) := ev_newK 0 C M hm hr tk ha hn hg hdb he hpl hcc
end
end B
namespace B
open PySem L2
/-! ### fields -/
def getF (f : Str) : List (Str × D) → Option D
  | [] => none
  | (g, d) :: r => if g = f then some d else getF f r
@[simp] theorem getF_nil (f : Str) : getF f [] = none := rfl
@[simp] theorem getF_cons (f g : Str) (d : D) (r : List (Str × D)) : getF f ((g, d) :: r) = if g = f then some d else getF f r := rfl
def putD (f : Str) (d : D) : List (Str × D) → List (Str × D)
  | [] => [(f, d)]
  | (g, e) :: r => if g = f then (g, d) :: r else (g, e) :: putD f d r
@[simp] theorem putD_nil (f : Str) (d : D) : putD f d [] = [(f, d)] := rfl
@[simp] theorem putD_cons (f g : Str) (d e : D) (r : List (Str × D)) : putD f d ((g, e) :: r) = if g = f then (g, d) :: r else (g, e) :: putD f d r := rfl
theorem look_rel {f : Str} {d : D} : ∀ {gs : List (Str × V)} {fs : List (Str × D)}, gs.map (·.1) = fs.map (·.1) → getF f fs = some d → ∃ (i : Nat) (v : V), fs[i]? = some (f, d) ∧ gs[i]? = some (f, v) ∧ gs.lookup f = some v
  | [], [], _, h => by cases h
  | [], _ :: _, h, _ => by simp at h
  | _ :: _, [], h, _ => by simp at h
  | (g, v) :: gs, (g2, e) :: fs, h, hf => by
    simp only [List.map_cons, List.cons.injEq] at h
    obtain ⟨rfl, h⟩ := h
    rw [getF_cons] at hf
    by_cases hg : g = f
    · subst hg
      rw [if_pos rfl] at hf
      cases hf
      exact ⟨0, v, rfl, rfl, by simp [List.lookup]⟩
    · rw [if_neg hg] at hf
      obtain ⟨i, u, h1, h2, h3⟩ := look_rel h hf
      refine ⟨i + 1, u, h1, h2, ?_⟩
      rw [List.lookup_cons]
      have hb : (f == g) = false := by
        rw [beq_eq_false_iff_ne]
        exact fun z => hg z.symm
      rw [hb]
      exact h3
/-- the classes os take the field f -/
def FldF (K : PySem.W.Frag) (c : Str → Addr) (os : List Str) (f : Str) : Prop := ∀ C, cMem os C = true → Cls K (c C) ∧ NoAttr K (c C) f
theorem fldB_ok {os : List Str} {f : Str} {K : PySem.W.Frag} (h : fldB os f K = true) : FldF K (He.ga K) os f := fun C hC => by
  obtain ⟨a, b⟩ := He.ba (List.all_eq_true.mp h C (cMem_of hC))
  exact ⟨(ownB_ok a).cl, He.eqO_ok b⟩
def fldV (os : List Str) (f : Str) : Vl → R Vl
  | ⟨b, k, .obj C fs⟩ => if cMem os C then ixL b k (getF f fs) else .bad
  | _ => .bad
@[simp] theorem fldV_obj (os : List Str) (f : Str) (b : Bool) (k : Nat) (C : Str) (fs : List (Str × D)) : fldV os f ⟨b, k, .obj C fs⟩ = if cMem os C then ixL b k (getF f fs) else .bad := rfl
def eFld (os : List Str) (f : Str) (a : EF) : EF := fun ρ => (a ρ).bind (fldV os f)
@[simp] theorem eFld_eq (os : List Str) (f : Str) (a : EF) (ρ : Env) : eFld os f a ρ = (a ρ).bind (fldV os f) := rfl
section
variable {X : Cx} {cl : Clx} {W : WX} {pos : Pos}
theorem ev_fld {c : Str → Addr} {os : List Str} {f : Str} {e : Expr} {a : EF} (hf : FldF X.K c os f) (ha : EvE X cl W e a) (hb : attributeBase e f X.env (eval e X.env) = eval e X.env := by rfl) (hcc : cl.c = c := by rfl) : EvE X cl W (.Attribute e f pos) (eFld os f a) := by
  subst hcc
  obtain ⟨t, pt, st⟩ := ha
  refine ⟨_, pe_fld pt hb, fun ρ σ G H Fs env Q hq => ?_⟩
  refine st.use env PV.mono hq fun x v G1 H1 F1 e1 p1 env1 o1 f1 hq1 => ?_
  have hq0 : PostG cl W σ G H (PV X.K cl Q) (fldV os f x) := by
    rw [eFld_eq, e1, R.bind_ok] at hq
    exact hq
  obtain ⟨b, k, d⟩ := x
  cases d with
  | obj C fs =>
    rw [fldV_obj] at hq0
    cases ec : cMem os C with
    | false => rw [ec] at hq0; exact hq0.elim
    | true =>
      rw [ec, if_pos rfl] at hq0
      obtain ⟨h1, h2⟩ := hf C ec
      obtain ⟨p, dx, gs, rfl, hp, hm, hr⟩ := o1.objR env1.gh
      cases eg : getF f fs with
      | none => rw [eg] at hq0; exact hq0.elim
      | some d =>
        obtain ⟨i, w, i1, i2, i3⟩ := look_rel hm eg
        refine ⟨p, _, dx, gs, w, rfl, hp, h1, h2, i3, ?_⟩
        obtain ⟨F', o', hF'⟩ := hr i _ _ i2 i1
        rw [eg] at hq0
        obtain ⟨F2', o2', f2'⟩ := elV_own o' hF' f1
        exact hq0 w G1 H1 F2' p1 o2' f2'
  | _ => exact hq0.elim
/-! ### self.f = e -/
def putO (i : Nat) (os : List Str) (f : Str) (ρ : Env) (y : D) : RS := match ρ[i]? with
  | some (some (1, .obj C fs)) => if cMem os C ∧ fs.length < 1000 then .ok .nx (ρ.set i (some (1, .obj C (putD f y fs)))) else .bad
  | _ => .bad
def sFldS (i : Nat) (os : List Str) (f : Str) (a : EF) : SF := fun ρ => toS (eS a ρ) ρ fun x => putO i os f ρ x.d
@[simp] theorem sFldS_eq (i : Nat) (os : List Str) (f : Str) (a : EF) (ρ : Env) : sFldS i os f a ρ = toS (eS a ρ) ρ fun x => putO i os f ρ x.d := rfl
theorem putO_eq {i : Nat} {os : List Str} {f : Str} {ρ : Env} {y : D} {C : Str} {fs : List (Str × D)} (h : ρ[i]? = some (some (1, .obj C fs))) (hc : cMem os C = true) (hl : fs.length < 1000) : putO i os f ρ y = .ok .nx (ρ.set i (some (1, .obj C (putD f y fs)))) := by
  unfold putO
  rw [h]
  exact if_pos ⟨hc, hl⟩
theorem put_names {f : Str} {v : V} {d : D} : ∀ {gs : List (Str × V)} {fs : List (Str × D)}, gs.map (·.1) = fs.map (·.1) → (putF f v gs).map (·.1) = (putD f d fs).map (·.1)
  | [], [], _ => rfl
  | [], _ :: _, h => by simp at h
  | _ :: _, [], h => by simp at h
  | (g, u) :: gs, (g2, e) :: fs, h => by
    simp only [List.map_cons, List.cons.injEq] at h
    obtain ⟨rfl, h⟩ := h
    have ih := put_names (f := f) (v := v) (d := d) h
    rw [putD_cons]
    unfold putF
    by_cases hg : g = f
    · simp [hg, h]
    · simp [hg, ih]
theorem put_rep {K : PySem.W.Frag} {c : Str → Addr} {G : Hp} {f : Str} {v : V} {d : D} (r : Rep K c G v d) : ∀ {gs : List (Str × V)} {fs : List (Str × D)}, gs.map (·.1) = fs.map (·.1) → (∀ (i : Nat) v d, gs[i]? = some v → fs[i]? = some d → Rep K c G v.2 d.2) →
    ∀ (i : Nat) v' d', (putF f v gs)[i]? = some v' → (putD f d fs)[i]? = some d' → Rep K c G v'.2 d'.2
  | [], [], _, _, i, v', d', h1, h2 => by
    cases i with
    | zero => cases h1; cases h2; exact r
    | succ i => simp [putF] at h1
  | [], _ :: _, h, _, _, _, _, _, _ => by simp at h
  | _ :: _, [], h, _, _, _, _, _, _ => by simp at h
  | (g, u) :: gs, (g2, e) :: fs, h, hr, i, v', d', h1, h2 => by
    simp only [List.map_cons, List.cons.injEq] at h
    obtain ⟨rfl, h⟩ := h
    rw [putD_cons] at h2
    unfold putF at h1
    by_cases hg : g = f
    · simp only [hg, if_true] at h1 h2
      cases i with
      | zero => cases h1; cases h2; exact r
      | succ i => exact hr (i + 1) v' d' h1 h2
    · simp only [if_neg hg] at h1 h2
      cases i with
      | zero => cases h1; cases h2; exact hr 0 _ _ rfl rfl
      | succ i => exact put_rep r h (fun j v d a b => hr (j + 1) v d a b) i v' d' h1 h2
theorem EnvR.putO {K : PySem.W.Frag} {ρ : Env} {σ : L2.St} {G H : Hp} {Fs : Foot} (e : EnvR K cl ρ σ G H Fs) {i : Nat} {C : Str} {fs : List (Str × D)} (h : ρ[i]? = some (some (1, .obj C fs))) : ∃ p dx gs, σ[i]? = some (some (.ref p)) ∧ H p = some (.ins (cl C) dx gs) ∧ gs.map (·.1) = fs.map (·.1) ∧
    (∀ (i : Nat) v d, gs[i]? = some v → fs[i]? = some d → Rep K cl.c G v.2 d.2) ∧
    ∀ us es, us.map (·.1) = es.map (·.1) → (∀ (i : Nat) v d, us[i]? = some v → es[i]? = some d → Rep K cl.c G v.2 d.2) → EnvR K cl (ρ.set i (some (1, .obj C es))) σ G (upd H p (.ins (cl C) dx us)) Fs ∧ Sx (Un Fs) G H (Un Fs) G (upd H p (.ins (cl C) dx us)) := by
  obtain ⟨v, hv, o⟩ := e.own i 1 _ h
  obtain ⟨p, dx, gs, F, rfl, hp, fp, hl, hr, hs, hd⟩ := o
  refine ⟨p, dx, gs, hv, hp, hl, hr, fun us es hu r => ?_⟩
  have gp : G p = none := (e.dom i p fp).2
  have gh' : Same G (upd H p (.ins (cl C) dx us)) := fun a o ho => by
    rw [upd_ne (fun z => by rw [z, gp] at ho; cases ho)]
    exact e.gh a o ho
  have th : ∀ a o, H a = some o → ∃ o', upd H p (.ins (cl C) dx us) a = some o' := fun a o ho => by
    by_cases ha : a = p
    · subst ha; exact ⟨_, upd_same⟩
    · exact ⟨o, by rw [upd_ne ha]; exact ho⟩
  refine ⟨⟨by simp [e.len], gh', fun j k d hj => ?_, e.dis, fun j a f => ?_, e.fx⟩, ⟨Same.refl _, gh', fun a o ho n => ?_, th, fun a u => .inl u, fun a o ho => .inl ho⟩⟩
  · by_cases hji : j = i
    · subst hji
      have hlt : j < ρ.length := (List.getElem?_eq_some_iff.mp h).1
      rw [List.getElem?_set_self hlt] at hj
      cases hj
      exact ⟨_, hv, p, dx, us, fun _ _ => False, rfl, upd_same, fp, hu, fun i v d h1 h2 => r i v d h1 h2, fun _ _ z => z.elim, fun _ _ _ z => z.elim⟩
    · rw [List.getElem?_set_ne (Ne.symm hji)] at hj
      obtain ⟨w, hw, o⟩ := e.own j k d hj
      refine ⟨w, hw, o.step (Same.refl _) fun a ob fa ha => ?_⟩
      rw [upd_ne (show a ≠ p from fun z => hji (e.dis j i a fa (by rw [z]; exact fp)))]
      exact ha
  · obtain ⟨⟨o, ho⟩, g⟩ := e.dom j a f
    exact ⟨th a o ho, g⟩
  · rw [upd_ne (show a ≠ p from fun z => n ⟨i, by rw [z]; exact fp⟩)]
    exact ho
theorem putO_some {i : Nat} {os : List Str} {f : Str} {ρ : Env} {y : D} (h : putO i os f ρ y ≠ .bad) : ∃ C fs, ρ[i]? = some (some (1, .obj C fs)) ∧ cMem os C = true ∧ fs.length < 1000 := by
  unfold putO at h
  split at h
  · rename_i C fs e
    by_cases hc : cMem os C = true ∧ fs.length < 1000
    · exact ⟨C, fs, e, hc.1, hc.2⟩
    · rw [if_neg hc] at h; exact (h rfl).elim
  · exact (h rfl).elim
theorem es_fld (i : Nat) {c : Str → Addr} {os : List Str} {f n : Str} {e : Expr} {p p2 : Pos} {a : EF} (hf : FldF X.K c os f) (ha : EvE X cl W e a) (hN : X.N[i]? = some n := by rfl) (hv : Vis X.env.scope n := by first | exact Or.inl rfl | exact Or.inr (Or.inl rfl) | exact Or.inr (Or.inr rfl))
    (hs : swapsWith e (some (.Attribute (.Name n p) f p2)) pos.line X.env = pure false := by rfl) (hd : (n == ("__debug__" : Str)) = false := by decide) (hcd : (n == ("__classdict__" : Str)) = false := by decide) (hcc : cl.c = c := by rfl) : EvS X cl W (.Assign [.Attribute (.Name n p) f p2] e pos) (sFldS i os f a) := by
  subst hcc
  obtain ⟨t, pt, st⟩ := ha
  refine ⟨_, ps_fld (pe_var hN hv hd hcd) pt hs, fun ρ σ G H Fs env D hq => ?_⟩
  refine (semS st).useS env hq fun x v G1 H1 F1 e1 p1 env1 o1 f1 hq1 => ?_
  have r1 := frz_rep e1 o1
  have hne : putO i os f ρ x.d ≠ .bad := fun z => by rw [z] at hq1; exact hq1.elim
  obtain ⟨C, fs, hi, hc, hl⟩ := putO_some hne
  rw [putO_eq hi hc hl] at hq1
  obtain ⟨p, dx, gs, h1, h2, h3, h4, h5⟩ := env1.putO hi
  obtain ⟨k1, k2⟩ := hf C hc
  have hlg : gs.length < 1000 := by
    have := congrArg List.length h3
    simp only [List.length_map] at this
    omega
  refine ⟨_, h1, p, _, dx, gs, rfl, h2, k1, k2, hlg, ?_⟩
  obtain ⟨e2, s2⟩ := h5 _ _ (put_names (f := f) (v := v) (d := x.d) h3) (put_rep r1 h3 h4)
  exact hq1 σ G1 _ Fs e2 (p1.sx.trans s2)
end
end B
namespace B
open PySem L2
/-! ### methods that read -/
structure CalleeA (P : Program) (w : World) (K : PySem.W.Frag) (mg : Str → Option Value) (base : Heap) (c : Str → Addr) (fa : Addr) (k n : Nat) (f : Fn) : Prop where
  nb : ∀ ds x, f ds = .ok x → x.b = false
  ex : ∃ fd ps, FnOk P w K mg base (L2.CX P w) k fa fd ps (spP K c n f) ∧ PySem.W.keepIn K (.ref fa) = true ∧ Binds K fd ps []
theorem CalleeA.of {P : Program} {w : World} {K : PySem.W.Frag} {mg : Str → Option Value} {base : Heap} {c : Str → Addr} {x qual : Str} {st : Stmt} {fa : Addr} {fd : FuncData} {N ps : List Str} {k : Nat} {b : SF} (F : FunD K x qual (defArgs st) (defBody st) (defScope st) [] [] fa fd) (S : FnScope N ps (defScope st)) (hb : BodyOk P w K mg base (cl0 c) k N qual st b)
    (h : ∀ (kV doc pm : Value) (an : Option Addr) (cdv ct : Value) (us : List Value), us.length = ps.length → bindArgs (PySem.W.fnOf x qual (defArgs st) (defBody st) (defScope st) .none kV doc pm an cdv ct) ⟨us, []⟩ = pure (ps.zip us)) :
    CalleeA P w K mg base c fa (k + 1) ps.length (runF N.length b) := ⟨fun _ _ => runF_nb, fd, ps, fn_pure F S hb, F.kp, F.bindsN h⟩
theorem CalleeA.mono {P : Program} {w : World} {K : PySem.W.Frag} {mg : Str → Option Value} {base : Heap} {c : Str → Addr} {fa : Addr} {k l n : Nat} {f : Fn} (C : CalleeA P w K mg base c fa k n f) (h : k ≤ l) : CalleeA P w K mg base c fa l n f :=
  let ⟨nb, fd, ps, F, q⟩ := C
  ⟨nb, fd, ps, F.mono h, q⟩
def getM (C : Str) : List (Str × Fn) → Option Fn
  | [] => none
  | (g, d) :: r => if g = C then some d else getM C r
@[simp] theorem getM_nil (C : Str) : getM C [] = none := rfl
@[simp] theorem getM_cons (C g : Str) (d : Fn) (r : List (Str × Fn)) : getM C ((g, d) :: r) = if g = C then some d else getM C r := rfl
/-- the method m of the classes of ms -/
def MethsK (P : Program) (w : World) (K : PySem.W.Frag) (mg : Str → Option Value) (base : Heap) (c : Str → Addr) (m : Str) (k n : Nat) (ms : List (Str × Fn)) : Prop := ∀ C f, getM C ms = some f → ∃ fi, Cls K (c C) ∧ Meth K (c C) m fi ∧ CalleeA P w K mg base c fi k n f
def noEx : R Vl → R Vl
  | .ex _ => .bad
  | r => r
@[simp] theorem noEx_ok (x : Vl) : noEx (.ok x) = .ok x := rfl
def selM (m : Str) (ms : List (Str × Fn)) : D → Option Fn
  | .obj C fs => if (getF m fs).isNone then getM C ms else none
  | _ => none
@[simp] theorem selM_obj (m : Str) (ms : List (Str × Fn)) (C : Str) (fs : List (Str × D)) : selM m ms (.obj C fs) = if (getF m fs).isNone then getM C ms else none := rfl
def mthR (r : R (List D)) (d : D) : Option Fn → R Vl
  | some f => r.bind fun ds => noEx (f (d :: ds))
  | none => .bad
@[simp] theorem mthR_some (r : R (List D)) (d : D) (f : Fn) : mthR r d (some f) = r.bind fun ds => noEx (f (d :: ds)) := rfl
@[simp] theorem mthR_none (r : R (List D)) (d : D) : mthR r d none = .bad := rfl
def eMeth (m : Str) (ms : List (Str × Fn)) (a : EF) (g : AF) : EF := fun ρ => (noEx (a ρ)).bind fun x => (frz x).bind fun y => mthR (g ρ) y.d (selM m ms y.d)
@[simp] theorem eMeth_eq (m : Str) (ms : List (Str × Fn)) (a : EF) (g : AF) (ρ : Env) : eMeth m ms a g ρ = (noEx (a ρ)).bind fun x => (frz x).bind fun y => mthR (g ρ) y.d (selM m ms y.d) := rfl
section
variable {X : Cx} {cl : Clx} {W : WX} {pos : Pos}
theorem PE.any {ι : Type} {e : Expr} {t : ι → TE} (h : ∀ i, PE X e (t i)) : PE X e (fun σ H Q => ∃ i, t i σ H Q) := ⟨fun pins s σ H Q I ⟨i, q⟩ => (h i).run pins s σ H Q I q⟩
end
end B
namespace B
open PySem L2
/-! ### arguments, some of them handed over to be changed -/
def ArgM (K : PySem.W.Frag) (c : Str → Addr) (G : Hp) (ρ : Env) (σ : L2.St) : List (Option Nat) → List V → List (Nat × D) → Prop
  | [], [], [] => True
  | none :: mo, v :: vs, a :: as => (a.1 = 0 ∧ Rep K c G v a.2) ∧ ArgM K c G ρ σ mo vs as
  | some s :: mo, v :: vs, a :: as => (ρ[s]? = some (some a) ∧ σ[s]? = some (some v)) ∧ ArgM K c G ρ σ mo vs as
  | _, _, _ => False
theorem ArgM.mono {K : PySem.W.Frag} {c : Str → Addr} {G G' : Hp} {ρ : Env} {σ : L2.St} (e : Same G G') : ∀ {mo : List (Option Nat)} {vs : List V} {as : List (Nat × D)}, ArgM K c G ρ σ mo vs as → ArgM K c G' ρ σ mo vs as
  | [], [], [], _ => trivial
  | none :: mo, v :: vs, a :: as, h => ⟨⟨h.1.1, h.1.2.mono e⟩, ArgM.mono e h.2⟩
  | some s :: mo, v :: vs, a :: as, h => ⟨h.1, ArgM.mono e h.2⟩
  | [], [], _ :: _, h => h.elim
  | [], _ :: _, _, h => h.elim
  | none :: _, [], _, h => h.elim
  | none :: _, _ :: _, [], h => h.elim
  | some _ :: _, [], _, h => h.elim
  | some _ :: _, _ :: _, [], h => h.elim
theorem ArgM.len {K : PySem.W.Frag} {c : Str → Addr} {G : Hp} {ρ : Env} {σ : L2.St} : ∀ {mo : List (Option Nat)} {vs : List V} {as : List (Nat × D)}, ArgM K c G ρ σ mo vs as → vs.length = mo.length ∧ as.length = mo.length
  | [], [], [], _ => ⟨rfl, rfl⟩
  | none :: mo, v :: vs, a :: as, h => by have := ArgM.len h.2; simp [this.1, this.2]
  | some s :: mo, v :: vs, a :: as, h => by have := ArgM.len h.2; simp [this.1, this.2]
  | [], [], _ :: _, h => h.elim
  | [], _ :: _, _, h => h.elim
  | none :: _, [], _, h => h.elim
  | none :: _, _ :: _, [], h => h.elim
  | some _ :: _, [], _, h => h.elim
  | some _ :: _, _ :: _, [], h => h.elim
theorem ArgM.get {K : PySem.W.Frag} {c : Str → Addr} {G : Hp} {ρ : Env} {σ : L2.St} : ∀ {mo : List (Option Nat)} {vs : List V} {as : List (Nat × D)}, ArgM K c G ρ σ mo vs as → ∀ (i : Nat) (a : Nat × D), as[i]? = some a → ∃ v, vs[i]? = some v ∧
    ((mo[i]? = some none ∧ a.1 = 0 ∧ Rep K c G v a.2) ∨ ∃ s, mo[i]? = some (some s) ∧ ρ[s]? = some (some a) ∧ σ[s]? = some (some v))
  | [], [], [], _, i, a, h => by simp at h
  | none :: mo, v :: vs, b :: as, h, i, a, ha => by
    cases i with
    | zero => cases ha; exact ⟨v, rfl, .inl ⟨rfl, h.1⟩⟩
    | succ i => exact ArgM.get h.2 i a ha
  | some s :: mo, v :: vs, b :: as, h, i, a, ha => by
    cases i with
    | zero => cases ha; exact ⟨v, rfl, .inr ⟨s, rfl, h.1⟩⟩
    | succ i => exact ArgM.get h.2 i a ha
  | [], [], _ :: _, h, _, _, _ => h.elim
  | [], _ :: _, _, h, _, _, _ => h.elim
  | none :: _, [], _, h, _, _, _ => h.elim
  | none :: _, _ :: _, [], h, _, _, _ => h.elim
  | some _ :: _, [], _, h, _, _, _ => h.elim
  | some _ :: _, _ :: _, [], h, _, _, _ => h.elim
theorem ArgM.slot {K : PySem.W.Frag} {c : Str → Addr} {G : Hp} {ρ : Env} {σ : L2.St} {mo : List (Option Nat)} {vs : List V} {as : List (Nat × D)} (h : ArgM K c G ρ σ mo vs as) {i s : Nat} {v : V} (hm : mo[i]? = some (some s)) (hv : vs[i]? = some v) : σ[s]? = some (some v) := by
  have hi : i < as.length := by rw [h.len.2]; exact (List.getElem?_eq_some_iff.mp hm).1
  obtain ⟨u, h1, h2 | ⟨s2, h2, _, h4⟩⟩ := h.get i as[i] (List.getElem?_eq_getElem hi)
  · rw [hm] at h2; cases h2.1
  · rw [hm] at h2
    cases h2
    rw [hv] at h1
    cases h1
    exact h4
/-- no name is handed over twice -/
def nodM : List (Option Nat) → Bool
  | [] => true
  | none :: r => nodM r
  | some s :: r => !r.contains (some s) && nodM r
theorem nodM_ix : ∀ {mo : List (Option Nat)}, nodM mo = true → ∀ (i j s : Nat), mo[i]? = some (some s) → mo[j]? = some (some s) → i = j
  | [], _, i, j, s, h, _ => by simp at h
  | none :: r, hn, i, j, s, h1, h2 => by
    cases i with
    | zero => cases h1
    | succ i =>
      cases j with
      | zero => cases h2
      | succ j => rw [nodM_ix (mo := r) hn i j s h1 h2]
  | some t :: r, hn, i, j, s, h1, h2 => by
    unfold nodM at hn
    rw [Bool.and_eq_true, Bool.not_eq_true'] at hn
    have off : ∀ {k : Nat}, r[k]? = some (some t) → False := fun {k} hk => by
      have := List.contains_iff_mem.mpr (List.mem_of_getElem? hk)
      rw [hn.1] at this
      cases this
    cases i with
    | zero =>
      cases h1
      cases j with
      | zero => rfl
      | succ j => exact (off h2).elim
    | succ i =>
      cases j with
      | zero => cases h2; exact (off h1).elim
      | succ j => rw [nodM_ix hn.2 i j s h1 h2]
def putOuts : List (Option Nat) → Env → Env → Env
  | some s :: mo, o :: os, ρ => putOuts mo os (ρ.set s o)
  | none :: mo, _ :: os, ρ => putOuts mo os ρ
  | _, _, ρ => ρ
@[simp] theorem putOuts_some (s : Nat) (mo : List (Option Nat)) (o : Slot) (os ρ : Env) : putOuts (some s :: mo) (o :: os) ρ = putOuts mo os (ρ.set s o) := rfl
@[simp] theorem putOuts_none (mo : List (Option Nat)) (o : Slot) (os ρ : Env) : putOuts (none :: mo) (o :: os) ρ = putOuts mo os ρ := rfl
@[simp] theorem putOuts_nil (os ρ : Env) : putOuts [] os ρ = ρ := by cases os <;> rfl
theorem putOuts_len : ∀ (mo : List (Option Nat)) (os ρ : Env), (putOuts mo os ρ).length = ρ.length
  | [], os, ρ => by simp
  | none :: mo, [], ρ => rfl
  | some s :: mo, [], ρ => rfl
  | none :: mo, o :: os, ρ => putOuts_len mo os ρ
  | some s :: mo, o :: os, ρ => by rw [putOuts_some, putOuts_len, List.length_set]
theorem putOuts_get : ∀ {mo : List (Option Nat)} {os ρ : Env}, os.length = mo.length → ∀ {j : Nat} {q : Nat × D}, (putOuts mo os ρ)[j]? = some (some q) →
    (∃ i : Nat, mo[i]? = some (some j) ∧ os[i]? = some (some q)) ∨ (ρ[j]? = some (some q) ∧ ∀ i : Nat, mo[i]? ≠ some (some j))
  | [], os, ρ, _, j, q, h => .inr ⟨by rw [putOuts_nil] at h; exact h, fun i z => by simp at z⟩
  | none :: mo, [], ρ, hl, j, q, h => by simp at hl
  | some s :: mo, [], ρ, hl, j, q, h => by simp at hl
  | none :: mo, o :: os, ρ, hl, j, q, h => by
    rcases putOuts_get (mo := mo) (os := os) (by simpa using hl) h with ⟨i, h1, h2⟩ | ⟨h1, h2⟩
    · exact .inl ⟨i + 1, h1, h2⟩
    · refine .inr ⟨h1, fun i z => ?_⟩
      cases i with
      | zero => cases z
      | succ i => exact h2 i z
  | some s :: mo, o :: os, ρ, hl, j, q, h => by
    rcases putOuts_get (mo := mo) (os := os) (by simpa using hl) h with ⟨i, h1, h2⟩ | ⟨h1, h2⟩
    · exact .inl ⟨i + 1, h1, h2⟩
    · by_cases hj : j = s
      · subst hj
        have hlt : j < ρ.length := by
          have := (List.getElem?_eq_some_iff.mp h1).1
          simpa using this
        rw [List.getElem?_set_self hlt] at h1
        exact .inl ⟨0, rfl, h1⟩
      · rw [List.getElem?_set_ne (Ne.symm hj)] at h1
        refine .inr ⟨h1, fun i z => ?_⟩
        cases i with
        | zero => cases z; exact hj rfl
        | succ i => exact h2 i z
def FsA (mo : List (Option Nat)) (Fs : Foot) : Foot := fun i a => ∃ s, mo[i]? = some (some s) ∧ Fs s a
def FsB (mo : List (Option Nat)) (Fs Fs' : Foot) : Foot := fun j a => (∃ i : Nat, mo[i]? = some (some j) ∧ Fs' i a) ∨ ((∀ i : Nat, mo[i]? ≠ some (some j)) ∧ Fs j a)
section
variable {K : PySem.W.Frag} {cl : Clx} {ρ : Env} {σ : L2.St} {G H G' H' : Hp} {Fs Fs' : Foot} {mo : List (Option Nat)} {vs : List V} {as : List (Nat × D)}
/-- what the callee sees -/
theorem callIn (env : EnvR K cl ρ σ G H Fs) (am : ArgM K cl.c G ρ σ mo vs as) (nd : nodM mo = true) : EnvR K (cl0 cl.c) (as.map some) (vs.map some) G H (FsA mo Fs) := by
  refine ⟨by simp [am.len.1, am.len.2], env.gh, fun i k d h => ?_, fun i j a ⟨s, h1, h2⟩ ⟨t, h3, h4⟩ => ?_, fun i a ⟨s, _, h⟩ => env.dom s a h, fun i v h => nomatch h⟩
  · rw [List.getElem?_map] at h
    cases e : as[i]? with
    | none => rw [e] at h; cases h
    | some a =>
      rw [e] at h
      cases h
      obtain ⟨v, hv, ⟨h1, h2, h3⟩ | ⟨s, h1, h2, h3⟩⟩ := am.get i _ e
      · simp only at h2
        subst h2
        exact ⟨v, by rw [List.getElem?_map, hv]; rfl, h3⟩
      · obtain ⟨v2, hv2, o⟩ := env.own s k d h2
        rw [h3] at hv2
        cases hv2
        exact ⟨v, by rw [List.getElem?_map, hv]; rfl, o.weak fun a fa => ⟨s, h1, fa⟩⟩
  · have hs := env.dis s t a h2 h4
    subst hs
    exact nodM_ix nd i j s h1 h3
/-- what the caller has behind it -/
theorem callOut (env : EnvR K cl ρ σ G H Fs) (am : ArgM K cl.c G ρ σ mo vs as) (nd : nodM mo = true) {os : Env} {F : Addr → Prop} (e : EnvR K (cl0 cl.c) os (vs.map some) G' H' Fs') (fr : Fre Fs' G' H' F) (s : Sx (Un (FsA mo Fs)) G H (fun a => Un Fs' a ∨ F a) G' H') :
    EnvR K cl (putOuts mo os ρ) σ G' H' (FsB mo Fs Fs') ∧ Fre (FsB mo Fs Fs') G' H' F ∧ Sx (Un Fs) G H (fun a => Un (FsB mo Fs Fs') a ∨ F a) G' H' := by
  have hl : os.length = mo.length := by have := e.len; simp [am.len.1] at this; exact this
  have keep : ∀ {j : Nat} {a : Addr}, (∀ i : Nat, mo[i]? ≠ some (some j)) → Fs j a → ¬ Un (FsA mo Fs) a := fun {j a} hn fa ⟨i, s, h1, h2⟩ => by
    have := env.dis j s a fa h2
    subst this
    exact hn i h1
  have news : ∀ {a : Addr}, (Un Fs' a ∨ F a) → ∀ {j : Nat}, (∀ i : Nat, mo[i]? ≠ some (some j)) → ¬ Fs j a := fun {a} hu {j} hn fa => by
    rcases s.un a hu with h | h
    · exact keep hn fa h
    · obtain ⟨⟨o, ho⟩, _⟩ := env.dom j a fa
      rw [ho] at h; cases h
  refine ⟨⟨by rw [putOuts_len]; exact env.len, s.gh, fun j k d h => ?_, fun i j a h1 h2 => ?_, fun j a h => ?_, env.fx⟩, fun a fa => ⟨(fr a fa).1, (fr a fa).2.1, fun ⟨j, h⟩ => ?_⟩, ⟨s.gg, s.gh, fun a o ha n => s.fr a o ha fun ⟨i, t, _, z⟩ => n ⟨t, z⟩, s.th, fun a h => ?_, fun a o ha => ?_⟩⟩
  · rcases putOuts_get hl h with ⟨i, h1, h2⟩ | ⟨h1, h2⟩
    · obtain ⟨v, hv, o⟩ := e.own i k d h2
      rw [List.getElem?_map] at hv
      cases ev : vs[i]? with
      | none => rw [ev] at hv; cases hv
      | some v' =>
        rw [ev] at hv
        cases hv
        exact ⟨_, am.slot h1 ev, o.weak fun a fa => .inl ⟨i, h1, fa⟩⟩
    · obtain ⟨v, hv, o⟩ := env.own j k d h1
      exact ⟨v, hv, (o.step s.gg fun a o fa ha => s.fr a o ha (keep h2 fa)).weak fun a fa => .inr ⟨h2, fa⟩⟩
  · rcases h1 with ⟨i1, a1, b1⟩ | ⟨a1, b1⟩
    · rcases h2 with ⟨i2, a2, b2⟩ | ⟨a2, b2⟩
      · have := e.dis i1 i2 a b1 b2
        subst this
        rw [a1] at a2
        cases a2
        rfl
      · exact (news (.inl ⟨i1, b1⟩) a2 b2).elim
    · rcases h2 with ⟨i2, a2, b2⟩ | ⟨a2, b2⟩
      · exact (news (.inl ⟨i2, b2⟩) a1 b1).elim
      · exact env.dis i j a b1 b2
  · rcases h with ⟨i, _, h⟩ | ⟨hn, h⟩
    · exact e.dom i a h
    · obtain ⟨⟨o, ho⟩, hg⟩ := env.dom j a h
      refine ⟨⟨o, s.fr a o ho (keep hn h)⟩, ?_⟩
      cases q : G' a with
      | none => rfl
      | some u =>
        rcases s.gn a u q with z | z | z
        · rw [hg] at z; cases z
        · exact (keep hn h z).elim
        · rw [ho] at z; cases z
  · rcases h with ⟨i, _, h⟩ | ⟨hn, h⟩
    · exact (fr a fa).2.2 ⟨i, h⟩
    · exact news (.inr fa) hn h
  · rcases h with ⟨j, ⟨i, h1, h2⟩ | ⟨h1, h2⟩⟩ | h
    · rcases s.un a (.inl ⟨i, h2⟩) with ⟨_, t, _, z⟩ | z
      · exact .inl ⟨t, z⟩
      · exact .inr z
    · exact .inl ⟨j, h2⟩
    · rcases s.un a (.inr h) with ⟨_, t, _, z⟩ | z
      · exact .inl ⟨t, z⟩
      · exact .inr z
  · rcases s.gn a o ha with z | ⟨_, t, _, z⟩ | z
    · exact .inl z
    · exact .inr (.inl ⟨t, z⟩)
    · exact .inr (.inr z)
end
end B
namespace B
open PySem L2
/-! ### expressions that change what the names hold -/
inductive RV where
  | ok (k : Nat) (d : D) (ρ : Env)
  | ex (c : Str) (ρ : Env)
  | bad
inductive RVs where
  | ok (ds : List D) (ρ : Env)
  | ex (c : Str) (ρ : Env)
  | bad
abbrev MF := Env → RV
abbrev MsF := Env → RVs
section
variable (K : PySem.W.Frag) (cl : Clx) (W : WX)
def PostM (U : Addr → Prop) (σ : L2.St) (G H : Hp) (Q : VK) : RV → Prop
  | .ok k d ρ => ∀ v G' H' Fs' F, EnvR K cl ρ σ G' H' Fs' → Own K cl H' G' k v d F → Fre Fs' G' H' F → Sx U G H (fun a => Un Fs' a ∨ F a) G' H' → Q v H'
  | .ex c ρ => ∀ G' H' Fs', EnvR K cl ρ σ G' H' Fs' → Sx U G H (Un Fs') G' H' → W (.ref (cl c)) none σ H'
  | .bad => False
def PostMs (U : Addr → Prop) (σ : L2.St) (G H : Hp) (Q : List V → Hp → Prop) : RVs → Prop
  | .ok ds ρ => ∀ vs G' H' Fs', EnvR K cl ρ σ G' H' Fs' → RepL K cl G' vs ds → Sx U G H (Un Fs') G' H' → Q vs H'
  | .ex c ρ => ∀ G' H' Fs', EnvR K cl ρ σ G' H' Fs' → Sx U G H (Un Fs') G' H' → W (.ref (cl c)) none σ H'
  | .bad => False
def SemM (t : TE) (F : MF) : Prop := ∀ ρ σ G H Fs, EnvR K cl ρ σ G H Fs → ∀ Q, PostM K cl W (Un Fs) σ G H Q (F ρ) → t σ H Q
def SemMs (t : TA) (F : MsF) : Prop := ∀ ρ σ G H Fs, EnvR K cl ρ σ G H Fs → ∀ Q, PostMs K cl W (Un Fs) σ G H Q (F ρ) → t σ H Q
end
def EvM (X : Cx) (cl : Clx) (W : WX) (e : Expr) (F : MF) : Prop := ∃ t, PE X e t ∧ SemM X.K cl W t F
def EvMs (X : Cx) (cl : Clx) (W : WX) (es : List Expr) (F : MsF) : Prop := ∃ t, PA X es t ∧ SemMs X.K cl W t F
section
variable {K : PySem.W.Frag} {cl : Clx} {W : WX} {ρ : Env} {σ : L2.St} {G H G' H' : Hp} {Fs Fs' : Foot} {U U' : Addr → Prop}
theorem PostM.mono {Q : VK} {r : RV} (s : Sx U G H U' G' H') (h : PostM K cl W U σ G H Q r) : PostM K cl W U' σ G' H' Q r := by
  cases r with
  | ok k d ρ => exact fun v G2 H2 F2 F e o f s2 => h v G2 H2 F2 F e o f (s.trans s2)
  | ex c ρ => exact fun G2 H2 F2 e s2 => h G2 H2 F2 e (s.trans s2)
  | bad => exact h
theorem PostMs.mono {Q : List V → Hp → Prop} {r : RVs} (s : Sx U G H U' G' H') (h : PostMs K cl W U σ G H Q r) : PostMs K cl W U' σ G' H' Q r := by
  cases r with
  | ok ds ρ => exact fun v G2 H2 F2 e o s2 => h v G2 H2 F2 e o (s.trans s2)
  | ex c ρ => exact fun G2 H2 F2 e s2 => h G2 H2 F2 e (s.trans s2)
  | bad => exact h
/-- a value of one's own joins the frozen part -/
theorem frzM {k : Nat} {v : V} {d : D} {F : Addr → Prop} (e : EnvR K cl ρ σ G' H' Fs') (o : Own K cl H' G' k v d F) (f : Fre Fs' G' H' F) (s : Sx U G H (fun a => Un Fs' a ∨ F a) G' H') : ∃ G2, EnvR K cl ρ σ G2 H' Fs' ∧ Rep K cl G2 v d ∧ Sx U G H (Un Fs') G2 H' := by
  classical
  have gg : Same G' (fun a => if F a then H' a else G' a) := fun a u ha => by
    by_cases fa : F a
    · rw [(f a fa).2.1] at ha; cases ha
    · simp only [if_neg fa]; exact ha
  have gh : Same (fun a => if F a then H' a else G' a) H' := fun a u ha => by
    by_cases fa : F a
    · simp only [if_pos fa] at ha; exact ha
    · simp only [if_neg fa] at ha; exact e.gh a u ha
  refine ⟨fun a => if F a then H' a else G' a, ⟨e.len, gh, fun i k d h => ?_, e.dis, fun i a fa => ?_, e.fx⟩, o.rep gg fun a u fa ha => by simp only [if_pos fa]; exact ha, ⟨s.gg.trans gg, gh, s.fr, s.th, fun a u => s.un a (.inl u), fun a u ha => ?_⟩⟩
  · obtain ⟨w, hw, ow⟩ := e.own i k d h
    exact ⟨w, hw, ow.step gg fun a u _ q => q⟩
  · obtain ⟨h1, h2⟩ := e.dom i a fa
    refine ⟨h1, ?_⟩
    have : ¬ F a := fun z => (f a z).2.2 ⟨i, fa⟩
    simp only [if_neg this]
    exact h2
  · by_cases fa : F a
    · exact .inr (s.un a (.inr fa))
    · simp only [if_neg fa] at ha
      exact s.gn a u ha
end
/-- a value that is not borrowed -/
def toM (ρ : Env) : Vl → RV
  | ⟨false, k, d⟩ => .ok k d ρ
  | ⟨true, _, d⟩ => if scal d then .ok 0 d ρ else .bad
@[simp] theorem toM_f (ρ : Env) (k : Nat) (d : D) : toM ρ ⟨false, k, d⟩ = .ok k d ρ := rfl
@[simp] theorem toM_t (ρ : Env) (k : Nat) (d : D) : toM ρ ⟨true, k, d⟩ = if scal d then .ok 0 d ρ else .bad := rfl
def mOf (r : R Vl) (ρ : Env) : RV := match r with
  | .ok x => toM ρ x
  | .ex c => .ex c ρ
  | .bad => .bad
@[simp] theorem mOf_ok (x : Vl) (ρ : Env) : mOf (.ok x) ρ = toM ρ x := rfl
@[simp] theorem mOf_ex (c : Str) (ρ : Env) : mOf (.ex c) ρ = .ex c ρ := rfl
@[simp] theorem mOf_bad (ρ : Env) : mOf .bad ρ = .bad := rfl
def mP (f : EF) : MF := fun ρ => mOf (f ρ) ρ
@[simp] theorem mP_eq (f : EF) (ρ : Env) : mP f ρ = mOf (f ρ) ρ := rfl
def RV.then (r : RV) (g : Nat → D → Env → RV) : RV := match r with
  | .ok k d ρ => g k d ρ
  | .ex c ρ => .ex c ρ
  | .bad => .bad
@[simp] theorem RV.then_ok (k : Nat) (d : D) (ρ : Env) (g : Nat → D → Env → RV) : (RV.ok k d ρ).then g = g k d ρ := rfl
@[simp] theorem RV.then_ex (c : Str) (ρ : Env) (g : Nat → D → Env → RV) : (RV.ex c ρ).then g = .ex c ρ := rfl
@[simp] theorem RV.then_bad (g : Nat → D → Env → RV) : RV.bad.then g = .bad := rfl
def RVs.then (r : RVs) (g : List D → Env → RV) : RV := match r with
  | .ok ds ρ => g ds ρ
  | .ex c ρ => .ex c ρ
  | .bad => .bad
@[simp] theorem RVs.then_ok (ds : List D) (ρ : Env) (g : List D → Env → RV) : (RVs.ok ds ρ).then g = g ds ρ := rfl
@[simp] theorem RVs.then_ex (c : Str) (ρ : Env) (g : List D → Env → RV) : (RVs.ex c ρ).then g = .ex c ρ := rfl
@[simp] theorem RVs.then_bad (g : List D → Env → RV) : RVs.bad.then g = .bad := rfl
def consM (d : D) : RVs → RVs
  | .ok ds ρ => .ok (d :: ds) ρ
  | r => r
@[simp] theorem consM_ok (d : D) (ds : List D) (ρ : Env) : consM d (.ok ds ρ) = .ok (d :: ds) ρ := rfl
def msNil : MsF := fun ρ => .ok [] ρ
def consMs (r : RV) (g : MsF) : RVs := match r with
  | .ok _ d ρ => consM d (g ρ)
  | .ex c ρ => .ex c ρ
  | .bad => .bad
@[simp] theorem consMs_ok (k : Nat) (d : D) (ρ : Env) (g : MsF) : consMs (.ok k d ρ) g = consM d (g ρ) := rfl
@[simp] theorem consMs_ex (c : Str) (ρ : Env) (g : MsF) : consMs (.ex c ρ) g = .ex c ρ := rfl
def msCons (f : MF) (g : MsF) : MsF := fun ρ => consMs (f ρ) g
@[simp] theorem msNil_eq (ρ : Env) : msNil ρ = .ok [] ρ := rfl
@[simp] theorem msCons_eq (f : MF) (g : MsF) (ρ : Env) : msCons f g ρ = consMs (f ρ) g := rfl
def mTup (g : MsF) : MF := fun ρ => (g ρ).then fun ds ρ => if ds.length ≤ 1000 then .ok 0 (.tup ds) ρ else .bad
def mLst (g : MsF) : MF := fun ρ => (g ρ).then fun ds ρ => if ds.length ≤ 1000 then .ok 1 (.lst ds) ρ else .bad
@[simp] theorem mTup_eq (g : MsF) (ρ : Env) : mTup g ρ = (g ρ).then fun ds ρ => if ds.length ≤ 1000 then .ok 0 (.tup ds) ρ else .bad := rfl
@[simp] theorem mLst_eq (g : MsF) (ρ : Env) : mLst g ρ = (g ρ).then fun ds ρ => if ds.length ≤ 1000 then .ok 1 (.lst ds) ρ else .bad := rfl
section
variable {X : Cx} {cl : Clx} {W : WX} {pos : Pos}
theorem em_pure {e : Expr} {f : EF} (h : EvE X cl W e f) : EvM X cl W e (mP f) := by
  obtain ⟨t, p, s⟩ := h
  refine ⟨t, p, fun ρ σ G H Fs env Q hq => s ρ σ G H Fs env Q ?_⟩
  rw [mP_eq] at hq
  cases e1 : f ρ with
  | bad => rw [e1] at hq; exact hq
  | ex c =>
    rw [e1] at hq
    exact fun G' H' px => hq G' H' Fs (env.px px) px.sx
  | ok x =>
    rw [e1, mOf_ok] at hq
    obtain ⟨b, k, d⟩ := x
    intro v G' H' F px o fo
    cases b with
    | false => exact hq v G' H' Fs F (env.px px) o (fun a fa => ⟨(fo a fa).1, (fo a fa).2.1, foo_un env fo a fa⟩) (sx_ret px fo)
    | true =>
      rw [toM_t] at hq
      cases hs : B.scal d with
      | false => rw [hs] at hq; exact hq.elim
      | true =>
        rw [hs] at hq
        exact hq v G' H' Fs (fun _ => False) (env.px px) (o.scal' hs) (fun a fa => fa.elim) (sx_ret px noFoo)
theorem ems_nil : EvMs X cl W [] msNil := ⟨_, pa_nil, fun ρ σ G H Fs env Q hq => hq [] G H Fs env .nil (Sx.refl env.gh)⟩
theorem ems_cons {e : Expr} {es : List Expr} {f : MF} {g : MsF} (h : EvM X cl W e f) (h2 : EvMs X cl W es g) (hs : starEach (e :: es) X.env = (false, eval e X.env) :: starEach es X.env := by rfl) : EvMs X cl W (e :: es) (msCons f g) := by
  obtain ⟨t, p, s⟩ := h
  obtain ⟨u, q, s2⟩ := h2
  refine ⟨_, pa_cons p q hs, fun ρ σ G H Fs env Q hq => s ρ σ G H Fs env _ ?_⟩
  rw [msCons_eq] at hq
  cases e1 : f ρ with
  | bad => rw [e1] at hq; exact hq
  | ex c ρ1 => rw [e1] at hq; exact hq
  | ok k d ρ1 =>
    rw [e1, consMs_ok] at hq
    intro v G1 H1 F1 F env1 o1 f1 sx1
    obtain ⟨G2, env2, r2, sx2⟩ := frzM env1 o1 f1 sx1
    refine s2 ρ1 σ G2 H1 F1 env2 _ ?_
    cases e2 : g ρ1 with
    | bad => rw [e2] at hq; exact hq
    | ex c ρ2 => rw [e2] at hq; exact PostMs.mono (r := .ex c ρ2) sx2 hq
    | ok ds ρ2 =>
      rw [e2, consM_ok] at hq
      exact fun vs G3 H3 F3 env3 r3 sx3 => hq _ G3 H3 F3 env3 (.cons (r2.mono sx3.gg) r3) (sx2.trans sx3)
theorem em_lst {es : List Expr} {g : MsF} (h : EvMs X cl W es g) : EvM X cl W (.List es pos) (mLst g) := by
  obtain ⟨t, p, s⟩ := h
  refine ⟨_, pe_lst p, fun ρ σ G H Fs env Q hq => s ρ σ G H Fs env _ ?_⟩
  rw [mLst_eq] at hq
  cases e1 : g ρ with
  | bad => rw [e1] at hq; exact hq
  | ex c ρ1 => rw [e1] at hq; exact hq
  | ok ds ρ1 =>
    rw [e1, RVs.then_ok] at hq
    intro vs G1 H1 F1 env1 r1 sx1
    by_cases hl : ds.length ≤ 1000
    · rw [if_pos hl] at hq
      refine ⟨le_line (by rw [r1.1]; exact hl), fun p hp => ?_⟩
      have px : Px G1 H1 G1 (upd H1 p (.lst vs)) := px_new env1.gh hp
      have fo : Foo H1 G1 (upd H1 p (.lst vs)) false (fun a => a = p) := foo1 env1.gh hp
      exact hq _ _ _ F1 _ (env1.px px) (own1 upd_same r1) (fun a fa => ⟨(fo a fa).1, (fo a fa).2.1, foo_un env1 fo a fa⟩) (sx1.trans (sx_ret px fo))
    · rw [if_neg hl] at hq; exact hq.elim
/-! the statements over such -/
def toSM (r : RV) (g : Nat → D → Env → RS) : RS := match r with
  | .ok k d ρ => g k d ρ
  | .ex c ρ => .ex c ρ
  | .bad => .bad
@[simp] theorem toSM_ok (k : Nat) (d : D) (ρ : Env) (g : Nat → D → Env → RS) : toSM (.ok k d ρ) g = g k d ρ := rfl
@[simp] theorem toSM_ex (c : Str) (ρ : Env) (g : Nat → D → Env → RS) : toSM (.ex c ρ) g = .ex c ρ := rfl
@[simp] theorem toSM_bad (g : Nat → D → Env → RS) : toSM .bad g = .bad := rfl
theorem SemM.useS {K : PySem.W.Frag} {t : TE} {F : MF} {ρ : Env} {σ : L2.St} {G H : Hp} {Fs : Foot} (h : SemM K cl W t F) (env : EnvR K cl ρ σ G H Fs) {g : Nat → D → Env → RS} {D : Ends} (hq : PostS K cl W (Un Fs) G H D (toSM (F ρ) g)) {C : VK}
    (step : ∀ k d ρ' v G' H' Fs' F', F ρ = .ok k d ρ' → EnvR K cl ρ' σ G' H' Fs' → Own K cl H' G' k v d F' → Fre Fs' G' H' F' → Sx (Un Fs) G H (fun a => Un Fs' a ∨ F' a) G' H' → PostS K cl W (Un Fs) G H D (g k d ρ') → C v H') : t σ H C := by
  refine h ρ σ G H Fs env C ?_
  cases e : F ρ with
  | ok k d ρ' =>
    rw [e] at hq
    exact fun v G' H' Fs' F' e' o f s => step k d ρ' v G' H' Fs' F' e e' o f s hq
  | ex c ρ' =>
    rw [e] at hq
    exact fun G' H' Fs' e' s => hq σ G' H' Fs' e' s
  | bad => rw [e] at hq; exact hq
def sExM (f : MF) : SF := fun ρ => toSM (f ρ) fun _ _ ρ => .ok .nx ρ
def sSetM (i : Nat) (f : MF) : SF := fun ρ => toSM (f ρ) fun k d ρ => .ok .nx (ρ.set i (some (k, d)))
def sRetM (f : MF) : SF := fun ρ => toSM (f ρ) fun k d ρ => .ok (.rt k d) ρ
@[simp] theorem sExM_eq (f : MF) (ρ : Env) : sExM f ρ = toSM (f ρ) fun _ _ ρ => .ok .nx ρ := rfl
@[simp] theorem sSetM_eq (i : Nat) (f : MF) (ρ : Env) : sSetM i f ρ = toSM (f ρ) fun k d ρ => .ok .nx (ρ.set i (some (k, d))) := rfl
@[simp] theorem sRetM_eq (f : MF) (ρ : Env) : sRetM f ρ = toSM (f ρ) fun k d ρ => .ok (.rt k d) ρ := rfl
theorem es_exM {e : Expr} {f : MF} (h : EvM X cl W e f) (hs : swapsWith e none pos.line X.env = pure false := by rfl) : EvS X cl W (.Expr e pos) (sExM f) := by
  obtain ⟨t, p, q⟩ := h
  refine ⟨_, ps_expr p hs, fun ρ σ G H Fs env D hq => q.useS env hq fun k d ρ' v G' H' Fs' F' _ e' o f s hq1 => hq1 σ G' H' Fs' e' (s.less fun a u => .inl u)⟩
theorem es_retM {e : Expr} {f : MF} (h : EvM X cl W e f) : EvS X cl W (.Return (some e) pos) (sRetM f) := by
  obtain ⟨t, p, q⟩ := h
  refine ⟨_, ps_ret p, fun ρ σ G H Fs env D hq => q.useS env hq fun k d ρ' v G' H' Fs' F' _ e' o f s hq1 => hq1 σ v G' H' Fs' F' e' o (fun a fa => ⟨(f a fa).1, (f a fa).2.1, (f a fa).2.2⟩) s⟩
theorem es_setM (i : Nat) {x : Str} {e : Expr} {f : MF} {pos' : Pos} (h : EvM X cl W e f) (hN : X.N.Nodup) (hi : X.N[i]? = some x := by rfl) (hx : Loc X.env.scope x := by first | exact Or.inl rfl | exact Or.inr rfl) (hs : swapsWith e (some (.Name x pos')) pos.line X.env = pure false := by rfl)
    (hf : X.fn x = true ∨ X.env.scope.names.lookup x = some .local := by first | exact .inl rfl | exact .inr rfl) (hfx : cl.fix i = none := by rfl) : EvS X cl W (.Assign [.Name x pos'] e pos) (sSetM i f) := by
  obtain ⟨t, p, q⟩ := h
  refine ⟨_, ps_set hN hi hx p hs hf, fun ρ σ G H Fs env D hq => q.useS env hq fun k d ρ' v G' H' Fs' F' _ e' o f s hq1 => ?_⟩
  refine hq1 _ G' H' _ (e'.set o (fun a fa => ⟨(f a fa).1, (f a fa).2.1, fun j _ z => (f a fa).2.2 ⟨j, z⟩⟩) fun u h => by rw [hfx] at h; cases h) (s.less fun a ⟨j, h⟩ => ?_)
  by_cases hj : j = i
  · simp only [if_pos hj] at h
    exact .inr h
  · simp only [if_neg hj] at h
    exact .inl ⟨j, h⟩
/-- xs.append(e), e with effects -/
def sMtM (i : Nat) (g : List D → D → Option (List D)) (f : MF) : SF := fun ρ => withL i ρ fun _ => toSM (f ρ) fun _ d ρ => withL i ρ fun ds => lsUp i ρ (g ds d)
@[simp] theorem sMtM_eq (i : Nat) (g : List D → D → Option (List D)) (f : MF) (ρ : Env) : sMtM i g f ρ = withL i ρ fun _ => toSM (f ρ) fun _ d ρ => withL i ρ fun ds => lsUp i ρ (g ds d) := rfl
theorem es_mtM (i : Nat) {c e : Expr} {f : MF} {r : V → List V → Hp → VK → Prop} {g : List D → D → Option (List D)} (hr : MtL X.K cl r g) (hpe : ∀ t, PE X e t → PE X c (tBM X.K "list" r (tVar i) (tCons t tNil))) (h : EvM X cl W e f)
    (hs : swapsWith c none pos.line X.env = pure false := by rfl) : EvS X cl W (.Expr c pos) (sMtM i g f) := by
  obtain ⟨t, p, q⟩ := h
  refine ⟨_, ps_expr (hpe t p) hs, fun ρ σ G H Fs env D hq => ?_⟩
  rw [sMtM_eq] at hq
  unfold withL at hq
  cases e0 : lsOf ρ[i]? with
  | none => rw [e0] at hq; exact hq.elim
  | some ds0 =>
    rw [e0] at hq
    obtain ⟨p0, vs0, hσ, hp0, _, _⟩ := env.put (lsOf_some e0)
    refine ⟨.ref p0, hσ, .inl ⟨rfl, vs0, .inl (.inl hp0)⟩, ?_⟩
    refine q.useS env hq fun k d ρ' v G' H' Fs' F' _ e' o f s hq1 => ?_
    obtain ⟨G2, env2, r2, sx2⟩ := frzM e' o f s
    cases e1 : lsOf ρ'[i]? with
    | none => rw [e1] at hq1; exact hq1.elim
    | some ds =>
      rw [e1] at hq1
      obtain ⟨p', vs', hσ', hp', rl', up⟩ := env2.put (lsOf_some e1)
      have ep : p' = p0 := by
        rw [hσ] at hσ'
        cases hσ'
        rfl
      subst ep
      cases eg : g ds d with
      | none => simp only [eg] at hq1; exact hq1.elim
      | some es =>
        simp only [eg] at hq1
        refine hr p' vs' ds es v d G2 H' _ env2.gh hp' rl' r2 eg fun us ru => ?_
        obtain ⟨env3, s3⟩ := up us es ru
        exact hq1 σ G2 _ Fs' env3 (sx2.trans s3)
end
end B
namespace B
open PySem L2
/-! ### f(a, .., xs, ..): xs handed over to be changed -/
abbrev AMF := Env → R (List (Nat × D))
def amNil : AMF := fun _ => .ok []
def amCons (f : EF) (g : AMF) : AMF := fun ρ => (f ρ).bind fun x => (frz x).bind fun y => (g ρ).bind fun as => .ok ((0, y.d) :: as)
def amV (g : R (List (Nat × D))) : Option Slot → R (List (Nat × D))
  | some (some a) => g.bind fun as => .ok (a :: as)
  | _ => .bad
@[simp] theorem amV_some (g : R (List (Nat × D))) (a : Nat × D) : amV g (some (some a)) = g.bind fun as => .ok (a :: as) := rfl
def amOwn (i : Nat) (g : AMF) : AMF := fun ρ => amV (g ρ) ρ[i]?
@[simp] theorem amNil_eq (ρ : Env) : amNil ρ = .ok [] := rfl
@[simp] theorem amCons_eq (f : EF) (g : AMF) (ρ : Env) : amCons f g ρ = (f ρ).bind fun x => (frz x).bind fun y => (g ρ).bind fun as => .ok ((0, y.d) :: as) := rfl
@[simp] theorem amOwn_eq (i : Nat) (g : AMF) (ρ : Env) : amOwn i g ρ = amV (g ρ) ρ[i]? := rfl
def PLM (K : PySem.W.Frag) (c : Str → Addr) (ρ : Env) (σ : L2.St) (mo : List (Option Nat)) (Q : List V → Hp → Prop) (as : List (Nat × D)) (G H : Hp) : Prop := ∀ vs G' H', Px G H G' H' → ArgM K c G' ρ σ mo vs as → Q vs H'
theorem PLM.mono {K : PySem.W.Frag} {c : Str → Addr} {ρ : Env} {σ : L2.St} {mo : List (Option Nat)} {Q : List V → Hp → Prop} : Mono (PLM K c ρ σ mo Q) := fun x G H G' H' p h vs G2 H2 p2 o => h vs G2 H2 (p.trans p2) o
def SemAM (K : PySem.W.Frag) (cl : Clx) (W : WX) (t : TA) (mo : List (Option Nat)) (F : AMF) : Prop := ∀ ρ σ G H Fs, EnvR K cl ρ σ G H Fs → ∀ Q, PostG cl W σ G H (PLM K cl ρ σ mo Q) (F ρ) → t σ H Q
def EvAM (X : Cx) (cl : Clx) (W : WX) (es : List Expr) (mo : List (Option Nat)) (F : AMF) : Prop := ∃ t, PA X es t ∧ SemAM X.K cl W t mo F ∧ mo.length = es.length
def callR (mo : List (Option Nat)) (ρ : Env) : RM → RV
  | .ok x o => .ok x.k x.d (putOuts mo o ρ)
  | .ex c o => .ex c (putOuts mo o ρ)
  | .bad => .bad
@[simp] theorem callR_ok (mo : List (Option Nat)) (ρ : Env) (x : Vl) (o : Env) : callR mo ρ (.ok x o) = .ok x.k x.d (putOuts mo o ρ) := rfl
@[simp] theorem callR_ex (mo : List (Option Nat)) (ρ : Env) (c : Str) (o : Env) : callR mo ρ (.ex c o) = .ex c (putOuts mo o ρ) := rfl
def callG (mo : List (Option Nat)) (ρ : Env) (f : FnM) (r : R (List (Nat × D))) : RV := match r with
  | .ok as => callR mo ρ (f as)
  | .ex c => .ex c ρ
  | .bad => .bad
@[simp] theorem callG_ok (mo : List (Option Nat)) (ρ : Env) (f : FnM) (as : List (Nat × D)) : callG mo ρ f (.ok as) = callR mo ρ (f as) := rfl
@[simp] theorem callG_ex (mo : List (Option Nat)) (ρ : Env) (f : FnM) (c : Str) : callG mo ρ f (.ex c) = .ex c ρ := rfl
def mCall (f : FnM) (mo : List (Option Nat)) (g : AMF) : MF := fun ρ => callG mo ρ f (g ρ)
@[simp] theorem mCall_eq (f : FnM) (mo : List (Option Nat)) (g : AMF) (ρ : Env) : mCall f mo g ρ = callG mo ρ f (g ρ) := rfl
section
variable {X : Cx} {cl : Clx} {W : WX} {pos : Pos}
theorem eam_nil : EvAM X cl W [] [] amNil := ⟨_, pa_nil, fun ρ σ G H Fs env Q hq => hq [] G H (Px.refl env.gh) trivial, rfl⟩
theorem eam_cons {e : Expr} {es : List Expr} {mo : List (Option Nat)} {f : EF} {g : AMF} (h : EvE X cl W e f) (h2 : EvAM X cl W es mo g) (hs : starEach (e :: es) X.env = (false, eval e X.env) :: starEach es X.env := by rfl) : EvAM X cl W (e :: es) (none :: mo) (amCons f g) := by
  obtain ⟨t, p, s⟩ := h
  obtain ⟨u, q, s2, hl⟩ := h2
  refine ⟨_, pa_cons p q hs, fun ρ σ G H Fs env Q hq => ?_, by simp [hl]⟩
  have hq' : PostG cl W σ G H (PLM X.K cl ρ σ (none :: mo) Q) ((eS f ρ).bind fun y => (g ρ).bind fun as => .ok ((0, y.d) :: as)) := by
    rw [eS_eq, R.bind_assoc]
    exact hq
  refine (semS s).use env PLM.mono hq' fun x v G1 H1 F1 e1 p1 env1 o1 f1 hq1 => ?_
  have r1 := frz_rep e1 o1
  refine s2 ρ σ G1 H1 Fs env1 _ ?_
  cases e2 : g ρ with
  | bad => rw [e2] at hq1; exact hq1
  | ex c => rw [e2] at hq1; exact hq1
  | ok as =>
    rw [e2] at hq1
    exact fun vs G2 H2 p2 am => hq1 (v :: vs) G2 H2 p2 ⟨⟨rfl, r1.mono p2.gg⟩, am⟩
theorem eam_own (i : Nat) {x : Str} {p : Pos} {es : List Expr} {mo : List (Option Nat)} {g : AMF} (h2 : EvAM X cl W es mo g) (hN : X.N[i]? = some x := by rfl) (hv : Vis X.env.scope x := by first | exact Or.inl rfl | exact Or.inr (Or.inl rfl) | exact Or.inr (Or.inr rfl)) (hd : (x == ("__debug__" : Str)) = false := by decide)
    (hcd : (x == ("__classdict__" : Str)) = false := by decide) (hs : starEach (.Name x p :: es) X.env = (false, eval (.Name x p) X.env) :: starEach es X.env := by rfl) : EvAM X cl W (.Name x p :: es) (some i :: mo) (amOwn i g) := by
  obtain ⟨u, q, s2, hl⟩ := h2
  refine ⟨_, pa_cons (pe_var hN hv hd hcd) q hs, fun ρ σ G H Fs env Q hq => ?_, by simp [hl]⟩
  rw [amOwn_eq] at hq
  cases e0 : ρ[i]? with
  | none => rw [e0] at hq; exact hq.elim
  | some sl =>
    cases sl with
    | none => rw [e0] at hq; exact hq.elim
    | some a =>
      rw [e0, amV_some] at hq
      obtain ⟨v, hv, o⟩ := env.own i a.1 a.2 e0
      refine ⟨v, hv, ?_⟩
      refine s2 ρ σ G H Fs env _ ?_
      cases e2 : g ρ with
      | bad => rw [e2] at hq; exact hq
      | ex c => rw [e2] at hq; exact hq
      | ok as =>
        rw [e2] at hq
        exact fun vs G2 H2 p2 am => hq (v :: vs) G2 H2 p2 ⟨⟨e0, hv⟩, am⟩
theorem semCallM {K : PySem.W.Frag} {t : TA} {mo : List (Option Nat)} {g : AMF} {f : FnM} {n : Nat} (st : SemAM K cl W t mo g) (hn : mo.length = n) (nd : nodM mo = true) (nb : ∀ as x o, f as = .ok x o → x.b = false) :
    SemM K cl W (tCallS (spM K cl.c n f) (WE W) t) (mCall f mo g) := by
  intro ρ σ G H Fs env Q hq
  refine st ρ σ G H Fs env _ ?_
  rw [mCall_eq] at hq
  cases e1 : g ρ with
  | bad => rw [e1] at hq; exact hq
  | ex c =>
    rw [e1] at hq
    exact fun G' H' px => hq G' H' Fs (env.px px) px.sx
  | ok as =>
    rw [e1, callG_ok] at hq
    intro vs G1 H1 p1 am
    have env1 := env.px p1
    refine ⟨by rw [am.len.1]; exact hn, G1, as, _, callIn env1 am nd, ?_⟩
    cases ef : f as with
    | bad => rw [ef] at hq; exact hq
    | ex z o =>
      rw [ef] at hq
      intro G' H' Fs' e' s
      obtain ⟨e2, _, s2⟩ := callOut env1 am nd (F := fun _ => False) e' (fun a z => z.elim) (s.less fun a h => h.elim id False.elim)
      exact hq G' H' _ e2 (p1.sx.trans (s2.less fun a u => .inl u))
    | ok x o =>
      rw [ef] at hq
      refine ⟨nb _ _ _ ef, fun v G' H' Fs' F e' o' fr s => ?_⟩
      obtain ⟨e2, f2, s2⟩ := callOut env1 am nd e' fr s
      exact hq v G' H' _ F e2 o' f2 (p1.sx.trans s2)
theorem em_call {x : Str} {c : Str → Addr} {k n : Nat} {f : FnM} {fi : Addr} {p : Pos} {e : Expr} {es : List Expr} {mo : List (Option Nat)} {g : AMF} (C : CalleeM X.prog X.w X.K X.mg X.base c fi k n f) (hm : X.mg x = some (.ref fi)) (hr : Room k X.A) (tk : Takes X W) (ha : EvAM X cl W (e :: es) mo g) (nd : nodM mo = true := by rfl) (hn : (e :: es).length = n := by rfl) (hg : Gl X x := by rfl)
    (hdb : (x == ("__debug__" : Str)) = false := by decide) (he : starEach (e :: es) X.env = (false, eval e X.env) :: starEach es X.env := by rfl) (hpl : (backTo pos (starEach es X.env)).any (·.1) = false := by rfl) (hcc : cl.c = c := by rfl) : EvM X cl W (.Call (.Name x p) (e :: es) [] pos) (mCall f mo g) := by
  subst hcc
  obtain ⟨nb, fd, ps, F, kp, bi⟩ := C
  obtain ⟨t, pt, st, hl⟩ := ha
  exact ⟨_, pe_callS F hr hg hm kp bi (fun σ => passAt tk σ) pt hdb he hpl, semCallM st (hl.trans hn) nd nb⟩
/-- a def of a class reached through the class -/
structure BaseK (K : PySem.W.Frag) (C : Addr) (m : Str) (fi : Addr) : Prop where
  mc : ∃ mc, ClX.CRead K C mc ∧ PySem.W.findCls K (.ref C) mc m = some (.val (.ref fi))
theorem baseB_ok {x m : Str} {K : PySem.W.Frag} (h : baseB x m K = true) : BaseK K (He.ga K x) m (He.ma K (He.ga K x) m) := by
  obtain ⟨h1, h⟩ := He.ba h
  obtain ⟨h2, h3⟩ := He.ba h
  refine ⟨.type "type", ⟨h1, He.eqO_ok h2⟩, ?_⟩
  cases e : PySem.W.findCls K (.ref (He.ga K x)) (.type "type") m with
  | none => rw [e] at h3; cases h3
  | some r =>
    rw [e] at h3
    cases r with
    | val v =>
      have : v = _ := of_decide_eq_true h3
      rw [this]
    | get a b c d => cases h3
theorem em_base {x m : Str} {c : Str → Addr} {k n : Nat} {f : FnM} {fi : Addr} {p p2 : Pos} {e : Expr} {es : List Expr} {mo : List (Option Nat)} {g : AMF} {pl : Sem Bool} (C : CalleeM X.prog X.w X.K X.mg X.base c fi k n f) (hb : BaseK X.K (c x) m fi) (hm : X.mg x = some (.ref (c x))) (hr : Room k X.A) (tk : Takes X W) (ha : EvAM X cl W (e :: es) mo g) (nd : nodM mo = true := by rfl) (hn : (e :: es).length = n := by rfl) (hg : Gl X x := by rfl)
    (hdb : (x == ("__debug__" : Str)) = false := by decide) (he : starEach (e :: es) X.env = (false, eval e X.env) :: starEach es X.env := by rfl) (hpl : (backTo pos (starEach es X.env)).any (·.1) = false := by rfl)
    (ht : eval (.Call (.Attribute (.Name x p) m p2) (e :: es) [] pos) X.env = (do
      let ov ← eval (.Name x p) X.env
      standAt p2.atName
      let (g, first) ← holding [ov] (getMethod ov m pl)
      callWith pos g first (backTo pos (starEach (e :: es) X.env)) (backToKw pos (keywordEach [] X.env))) := by rfl) (hcc : cl.c = c := by rfl) : EvM X cl W (.Call (.Attribute (.Name x p) m p2) (e :: es) [] pos) (mCall f mo g) := by
  subst hcc
  obtain ⟨nb, fd, ps, F, kp, bi⟩ := C
  obtain ⟨t, pt, st, hl⟩ := ha
  obtain ⟨mc, r, fc⟩ := hb.mc
  exact ⟨_, pe_baseS r fc kp F hr hg hm bi (fun σ => passAt tk σ) pt hdb he hpl ht, semCallM st (hl.trans hn) nd nb⟩
end
end B
namespace B
open PySem L2
/-! ### list(range(..)) -/
def rgD (a b : Int) : List D := (List.range (b - a).toNat).map fun i => .int (a + (i : Nat))
open Classical in
noncomputable def lrR (a b : Int) : R Vl := if RgOk a b then .ok ⟨false, 1, .lst (rgD a b)⟩ else .bad
theorem lrR_ok {a b : Int} (h : 0 ≤ a) (h2 : a ≤ 16777216) (h3 : 0 ≤ b) (h4 : b ≤ 16777216) : lrR a b = .ok ⟨false, 1, .lst (rgD a b)⟩ := if_pos (RgOk.of_le h h4 h2 h3)
noncomputable def lrD (x y : D) : R Vl := match x, y with
  | .int a, .int b => lrR a b
  | _, _ => .bad
@[simp] theorem lrD_int (a b : Int) : lrD (.int a) (.int b) = lrR a b := rfl
noncomputable def eLr (a b : EF) : EF := fun ρ => (a ρ).bind fun x => (b ρ).bind fun y => lrD x.d y.d
@[simp] theorem eLr_eq (a b : EF) (ρ : Env) : eLr a b ρ = (a ρ).bind fun x => (b ρ).bind fun y => lrD x.d y.d := rfl
theorem repL_rg {K : PySem.W.Frag} {c : Str → Addr} {G : Hp} (a b : Int) : RepL K c G (rgV a b) (rgD a b) := by
  refine ⟨by simp [rgV, rgD], fun i v d h1 h2 => ?_⟩
  unfold rgV at h1
  unfold rgD at h2
  rw [List.getElem?_map] at h1 h2
  cases e : (List.range (b - a).toNat)[i]? with
  | none => rw [e] at h1; cases h1
  | some n =>
    rw [e] at h1 h2
    cases h1
    cases h2
    exact .int _
section
variable {X : Cx} {cl : Clx} {W : WX} {pos : Pos}
theorem ev_lr2 {p p2 pos2 : Pos} {e1 e2 : Expr} {a b : EF} (hc : X.calm = true) (hl : X.mg "list" = none) (hm : X.mg "range" = none) (ha : EvE X cl W e1 a) (hb : EvE X cl W e2 b) (hg : Gl X "list" := by rfl) (hg2 : Gl X "range" := by rfl)
    (n0 : starEach [.Call (.Name "range" p2) [e1, e2] [] pos2] X.env = (false, eval (.Call (.Name "range" p2) [e1, e2] [] pos2) X.env) :: starEach [] X.env := by rfl)
    (n1 : starEach [e1, e2] X.env = (false, eval e1 X.env) :: starEach [e2] X.env := by rfl) (n2 : starEach [e2] X.env = (false, eval e2 X.env) :: starEach [] X.env := by rfl) (hp : (backTo pos2 (starEach [e2] X.env)).any (·.1) = false := by rfl) :
    EvE X cl W (.Call (.Name "list" p) [.Call (.Name "range" p2) [e1, e2] [] pos2] [] pos) (eLr a b) := by
  obtain ⟨ta, pa, sa⟩ := ha
  obtain ⟨tb, pb, sb⟩ := hb
  refine ⟨_, pe_listRg hc hg hl (prg_2 hg2 hm pa pb n1 n2 hp) n0, fun ρ σ G H Fs env Q hq => ?_⟩
  refine sa.use env PV.mono hq fun x v G1 H1 F1 _ p1 env1 o1 f1 hq1 => ?_
  refine sb.use env1 PV.mono hq1 fun y u G2 H2 F2 _ p2 env2 o2 f2 hq2 => ?_
  obtain ⟨b1, k, d⟩ := x
  obtain ⟨b2, l, e⟩ := y
  cases d with
  | int i =>
    cases e with
    | int j =>
      have hv := o1.int
      have hu := o2.int
      refine ⟨i, j, hv, hu, ?_⟩
      replace hq2 : PostG cl W σ G2 H2 (PV X.K cl Q) (lrR i j) := hq2
      unfold lrR at hq2
      by_cases h : RgOk i j
      · rw [if_pos h] at hq2
        exact ⟨h, fun q hq => hq2 _ G2 _ _ (px_new env2.gh hq) (own1 upd_same (repL_rg i j)) (foo1 env2.gh hq)⟩
      · rw [if_neg h] at hq2
        exact hq2.elim
    | _ => exact hq2.elim
  | _ => cases e <;> exact hq2.elim
theorem ev_lr1 {p p2 pos2 : Pos} {e1 : Expr} {a : EF} (hc : X.calm = true) (hl : X.mg "list" = none) (hm : X.mg "range" = none) (ha : EvE X cl W e1 a) (hg : Gl X "list" := by rfl) (hg2 : Gl X "range" := by rfl)
    (n0 : starEach [.Call (.Name "range" p2) [e1] [] pos2] X.env = (false, eval (.Call (.Name "range" p2) [e1] [] pos2) X.env) :: starEach [] X.env := by rfl)
    (n1 : starEach [e1] X.env = (false, eval e1 X.env) :: starEach [] X.env := by rfl) :
    EvE X cl W (.Call (.Name "list" p) [.Call (.Name "range" p2) [e1] [] pos2] [] pos) (eLr (eC (.int 0)) a) := by
  obtain ⟨ta, pa, sa⟩ := ha
  refine ⟨_, pe_listRg hc hg hl (prg_1 hg2 hm pa n1) n0, fun ρ σ G H Fs env Q hq => ?_⟩
  rw [eLr_eq] at hq
  refine sa.use env PV.mono hq fun x v G1 H1 F1 _ p1 env1 o1 f1 hq1 => ?_
  obtain ⟨b1, k, d⟩ := x
  cases d with
  | int i =>
    have hv := o1.int
    refine ⟨i, hv, ?_⟩
    replace hq2 : PostG cl W σ G1 H1 (PV X.K cl Q) (lrR 0 i) := hq1
    unfold lrR at hq2
    by_cases h : RgOk 0 i
    · rw [if_pos h] at hq2
      exact ⟨h, fun q hq => hq2 _ G1 _ _ (px_new env1.gh hq) (own1 upd_same (repL_rg 0 i)) (foo1 env1.gh hq)⟩
    · rw [if_neg h] at hq2
      exact hq2.elim
  | _ => exact hq1.elim
end
@[simp] theorem outs0_1 (s : Slot) (ρ : Env) : outs [0] 1 (s :: ρ) = [s] := rfl
@[simp] theorem outs0_2 (s : Slot) (ρ : Env) : outs [0] 2 (s :: ρ) = [s, none] := rfl
@[simp] theorem outs0_3 (s : Slot) (ρ : Env) : outs [0] 3 (s :: ρ) = [s, none, none] := rfl
@[simp] theorem outs0_4 (s : Slot) (ρ : Env) : outs [0] 4 (s :: ρ) = [s, none, none, none] := rfl
@[simp] theorem outs0_5 (s : Slot) (ρ : Env) : outs [0] 5 (s :: ρ) = [s, none, none, none, none] := rfl
theorem exmB_ok {ys : List Str} {x : Str} {K : PySem.W.Frag} (h : exmB ys x K = true) : ∀ z, cMem ys z = true → PySem.W.exmOne K (.ref (He.ga K z)) (.ref (He.ga K x)) = some true := fun z hz => of_decide_eq_true (List.all_eq_true.mp h z (cMem_of hz))
end B
namespace B
open PySem L2
/-! ### xs[i] = e -/
def stL (n : Nat) (ρ : Env) (ds : List D) (v : D) : D → RS
  | .int k => match ixN ds.length k with
    | some j => .ok .nx (ρ.set n (some (1, .lst (ds.set j v))))
    | none => .bad
  | _ => .bad
theorem ixN_nat {n j : Nat} (h : j < n) : ixN n (j : Int) = some j := by
  unfold ixN
  rw [if_pos (by omega), if_pos (by omega)]
  rfl
def sStI (n : Nat) (i f : EF) : SF := fun ρ => toS (eS f ρ) ρ fun x => withL n ρ fun ds => toS (i ρ) ρ fun y => stL n ρ ds x.d y.d
@[simp] theorem sStI_eq (n : Nat) (i f : EF) (ρ : Env) : sStI n i f ρ = toS (eS f ρ) ρ fun x => withL n ρ fun ds => toS (i ρ) ρ fun y => stL n ρ ds x.d y.d := rfl
section
variable {X : Cx} {cl : Clx} {W : WX} {pos : Pos}
theorem RepL.set {K : PySem.W.Frag} {c : Str → Addr} {G : Hp} {vs : List V} {ds : List D} {v : V} {d : D} (r : RepL K c G vs ds) (h : Rep K c G v d) (j : Nat) : RepL K c G (vs.set j v) (ds.set j d) := by
  refine ⟨by simp [r.1], fun i u e h1 h2 => ?_⟩
  by_cases hj : i = j
  · subst hj
    have l1 : i < vs.length := by
      have := (List.getElem?_eq_some_iff.mp h1).1
      simpa using this
    rw [List.getElem?_set_self l1] at h1
    rw [List.getElem?_set_self (by rw [← r.1]; exact l1)] at h2
    cases h1
    cases h2
    exact h
  · rw [List.getElem?_set_ne (Ne.symm hj)] at h1 h2
    exact r.2 i u e h1 h2
end
end B
namespace B
open PySem L2
/-! ### x += e, x -= e of numbers, x += e of texts -/
section
variable {X : Cx} {cl : Clx} {W : WX} {pos : Pos}
def augV (x y : Vl) : R Vl := match x.d, y.d with
  | .int i, .int j => .ok (sh (.int (i + j)))
  | .str a, .str b => ofO (scatD (.str a) (.str b))
  | _, _ => .bad
@[simp] theorem augV_i (b c : Bool) (k l : Nat) (i j : Int) : augV ⟨b, k, .int i⟩ ⟨c, l, .int j⟩ = .ok (sh (.int (i + j))) := rfl
@[simp] theorem augV_s (b c : Bool) (k l : Nat) (i j : Str) : augV ⟨b, k, .str i⟩ ⟨c, l, .str j⟩ = ofO (scatD (.str i) (.str j)) := rfl
def sAdd (i : Nat) (f : EF) : SF := fun ρ => toS ((eV i ρ).bind fun x => (eS f ρ).bind fun y => augV x y) ρ (stV i ρ)
@[simp] theorem sAdd_eq (i : Nat) (f : EF) (ρ : Env) : sAdd i f ρ = toS ((eV i ρ).bind fun x => (eS f ρ).bind fun y => augV x y) ρ (stV i ρ) := rfl
abbrev rAug : R2 := fun x y H Q => (∃ i j, x = .int i ∧ y = .int j ∧ Q (.int (i + j)) H) ∨ (∃ i j, x = .str i ∧ y = .str j ∧ i.length + j.length ≤ sizeLine ∧ Q (.str (i ++ j)) H)
/-! x *= e -/
open Classical in
noncomputable def mulA (x y : Vl) : R Vl := match x.d, y.d with
  | .int i, .int j => if CMul i j then .ok (sh (.int (i * j))) else .bad
  | _, _ => .bad
noncomputable def sMul (i : Nat) (f : EF) : SF := fun ρ => toS ((eV i ρ).bind fun x => (eS f ρ).bind fun y => mulA x y) ρ (stV i ρ)
@[simp] theorem sMul_eq (i : Nat) (f : EF) (ρ : Env) : sMul i f ρ = toS ((eV i ρ).bind fun x => (eS f ρ).bind fun y => mulA x y) ρ (stV i ρ) := rfl
end
end B
namespace B
open PySem L2
/-! ### texts: in, not in -/
def inS (i j : Str) : Bool := !(Builtin.Str.occurrences j i 0 j.length 1).isEmpty
def inD : D → D → Option D
  | .str i, .str j => some (.bl (inS i j))
  | _, _ => none
def ninD : D → D → Option D
  | .str i, .str j => some (.bl (!inS i j))
  | _, _ => none
@[simp] theorem inD_s (i j : Str) : inD (.str i) (.str j) = some (.bl (inS i j)) := rfl
@[simp] theorem ninD_s (i j : Str) : ninD (.str i) (.str j) = some (.bl (!inS i j)) := rfl
section
variable {X : Cx} {cl : Clx} {W : WX} {pos : Pos}
/-! s.startswith(t), s.find(t) -/
def smV (g : Str → Str → D) (s : Str) : D → R Vl
  | .str b => .ok (sh (g s b))
  | _ => .bad
@[simp] theorem smV_s (g : Str → Str → D) (a b : Str) : smV g a (.str b) = .ok (sh (g a b)) := rfl
def smR (g : Str → Str → D) (r : R Vl) : D → R Vl
  | .str s => r.bind fun y => smV g s y.d
  | _ => .bad
@[simp] theorem smR_s (g : Str → Str → D) (r : R Vl) (s : Str) : smR g r (.str s) = r.bind fun y => smV g s y.d := rfl
def eSm (g : Str → Str → D) (a b : EF) : EF := fun ρ => (a ρ).bind fun x => smR g (b ρ) x.d
@[simp] theorem eSm_eq (g : Str → Str → D) (a b : EF) (ρ : Env) : eSm g a b ρ = (a ρ).bind fun x => smR g (b ρ) x.d := rfl
def swD (a b : Str) : D := .bl (Txt.startswith a b)
def fdD (a b : Str) : D := .int (Txt.find a b)
end
end B
namespace B
open PySem L2
/-! ### paths into what a name owns -/
inductive Stp where
  | ix (j : Nat)
  | fd (f : Str)
abbrev Pth := List Stp
def getS : Stp → D → Option D
  | .ix j, .lst ds => ds[j]?
  | .fd f, .obj _ fs => getF f fs
  | _, _ => none
def putS : Stp → D → D → D
  | .ix j, .lst ds, e => .lst (ds.set j e)
  | .fd f, .obj C fs, e => .obj C (putD f e fs)
  | _, d, _ => d
@[simp] theorem getS_ix (j : Nat) (ds : List D) : getS (.ix j) (.lst ds) = ds[j]? := rfl
@[simp] theorem getS_fd (f : Str) (C : Str) (fs : List (Str × D)) : getS (.fd f) (.obj C fs) = getF f fs := rfl
@[simp] theorem putS_ix (j : Nat) (ds : List D) (e : D) : putS (.ix j) (.lst ds) e = .lst (ds.set j e) := rfl
@[simp] theorem putS_fd (f : Str) (C : Str) (fs : List (Str × D)) (e : D) : putS (.fd f) (.obj C fs) e = .obj C (putD f e fs) := rfl
def getP : Pth → D → Option D
  | [], d => some d
  | s :: p, d => (getS s d).bind (getP p)
def putM (s : Stp) (d : D) (g : D → D) : Option D → D
  | some c => putS s d (g c)
  | none => d
@[simp] theorem putM_some (s : Stp) (d : D) (g : D → D) (c : D) : putM s d g (some c) = putS s d (g c) := rfl
def putP : Pth → D → D → D
  | [], _, e => e
  | s :: p, d, e => putM s d (fun c => putP p c e) (getS s d)
@[simp] theorem putP_c (s : Stp) (p : Pth) (d e : D) : putP (s :: p) d e = putM s d (fun c => putP p c e) (getS s d) := rfl
@[simp] theorem getP_nil (d : D) : getP [] d = some d := rfl
@[simp] theorem getP_cons (s : Stp) (p : Pth) (d : D) : getP (s :: p) d = (getS s d).bind (getP p) := rfl
@[simp] theorem putP_nil (d e : D) : putP [] d e = e := rfl
theorem putP_cons {s : Stp} {d c : D} (h : getS s d = some c) (p : Pth) (e : D) : putP (s :: p) d e = putS s d (putP p c e) := by
  rw [putP_c, h, putM_some]
def PathS (H : Hp) : Stp → V → V → Prop
  | .ix j, v, w => ∃ a vs, v = .ref a ∧ H a = some (.lst vs) ∧ vs[j]? = some w
  | .fd f, v, w => ∃ a C dx gs, v = .ref a ∧ H a = some (.ins C dx gs) ∧ gs.lookup f = some w
def PathOf (H : Hp) : Pth → V → V → Prop
  | [], v, u => u = v
  | s :: p, v, u => ∃ w, PathS H s v w ∧ PathOf H p w u
theorem PathS.det {H : Hp} {s : Stp} {v w u : V} (h1 : PathS H s v w) (h2 : PathS H s v u) : w = u := by
  cases s with
  | ix j =>
    obtain ⟨a, vs, rfl, h, e⟩ := h1
    obtain ⟨b, us, q, h', e'⟩ := h2
    cases q
    rw [h] at h'
    cases h'
    rw [e] at e'
    exact Option.some.inj e'
  | fd f =>
    obtain ⟨a, C, dx, vs, rfl, h, e⟩ := h1
    obtain ⟨b, C', dx', us, q, h', e'⟩ := h2
    cases q
    rw [h] at h'
    cases h'
    rw [e] at e'
    exact Option.some.inj e'
theorem PathOf.det {H : Hp} : ∀ {p : Pth} {v w u : V}, PathOf H p v w → PathOf H p v u → w = u
  | [], _, _, _, h1, h2 => h1.trans h2.symm
  | s :: p, v, w, u, ⟨x, a, b⟩, ⟨y, c, d⟩ => by
    have := a.det c
    subst this
    exact PathOf.det b d
theorem PathS.mono {H H' : Hp} (e : Same H H') {s : Stp} {v w : V} (h : PathS H s v w) : PathS H' s v w := by
  cases s with
  | ix j =>
    obtain ⟨a, vs, rfl, h, i⟩ := h
    exact ⟨a, vs, rfl, e _ _ h, i⟩
  | fd f =>
    obtain ⟨a, C, dx, vs, rfl, h, i⟩ := h
    exact ⟨a, C, dx, vs, rfl, e _ _ h, i⟩
theorem PathOf.mono {H H' : Hp} (e : Same H H') : ∀ {p : Pth} {v w : V}, PathOf H p v w → PathOf H' p v w
  | [], _, _, h => h
  | s :: p, v, w, ⟨x, a, b⟩ => ⟨x, a.mono e, PathOf.mono e b⟩
theorem look_put {f : Str} {d : D} : ∀ {gs : List (Str × V)} {fs : List (Str × D)}, gs.map (·.1) = fs.map (·.1) → getF f fs = some d → ∃ (i : Nat) (v : V), fs[i]? = some (f, d) ∧ gs[i]? = some (f, v) ∧ gs.lookup f = some v ∧ ∀ e, putD f e fs = fs.set i (f, e)
  | [], [], _, h => by cases h
  | [], _ :: _, h, _ => by simp at h
  | _ :: _, [], h, _ => by simp at h
  | (g, v) :: gs, (g2, e) :: fs, h, hf => by
    simp only [List.map_cons, List.cons.injEq] at h
    obtain ⟨rfl, h⟩ := h
    rw [getF_cons] at hf
    by_cases hg : g = f
    · subst hg
      rw [if_pos rfl] at hf
      cases hf
      exact ⟨0, v, rfl, rfl, by simp [List.lookup], fun e => by simp [putD]⟩
    · rw [if_neg hg] at hf
      obtain ⟨i, u, h1, h2, h3, h4⟩ := look_put h hf
      refine ⟨i + 1, u, h1, h2, ?_, fun e => by simp [putD, hg, h4]⟩
      rw [List.lookup_cons]
      have hb : (f == g) = false := by
        rw [beq_eq_false_iff_ne]
        exact fun z => hg z.symm
      rw [hb]
      exact h3
section
variable {K : PySem.W.Frag} {cl : Clx} {W : WX} {ρ : Env} {σ : L2.St} {G H G' H' : Hp} {Fs Fs' : Foot} {c0 : Str → Addr}
theorem Own.focusS {s : Stp} {k : Nat} {v : V} {d c : D} {F : Addr → Prop} (o : Own K c0 H G (k + 1) v d F) (g : getS s d = some c) : ∃ w F', PathS H s v w ∧ Own K c0 H G k w c F' ∧ (∀ a, F' a → F a ∧ v ≠ .ref a) ∧
    ∀ (H' G' : Hp) (e : D) (F2 : Addr → Prop), Same G G' → (∀ a o, F a → ¬ F' a → H a = some o → H' a = some o) → Own K c0 H' G' k w e F2 → (∀ a, F2 a → F' a ∨ ¬ F a) → Own K c0 H' G' (k + 1) v (putS s d e) (fun a => (F a ∧ ¬ F' a) ∨ F2 a) := by
  classical
  cases s with
  | ix j =>
    cases d with
    | lst ds =>
      obtain ⟨p, vs, Fs, rfl, hp, fp, hl, hr, hs, hd⟩ := o
      rw [getS_ix] at g
      have hj : j < ds.length := (List.getElem?_eq_some_iff.mp g).1
      have hv : vs[j]? = some vs[j] := List.getElem?_eq_getElem (by rw [hl]; exact hj)
      refine ⟨vs[j], Fs j, ⟨p, vs, rfl, hp, hv⟩, hr j _ _ hv g, fun a z => ⟨(hs j a z).1, fun e => (hs j a z).2 (V.ref.inj e).symm⟩, fun H' G' e F2 gg fr o2 h2 => ?_⟩
      refine ⟨p, vs, fun i a => if i = j then F2 a else Fs i a, rfl, fr p _ fp (fun z => (hs j p z).2 rfl) hp, .inl ⟨fp, fun z => (hs j p z).2 rfl⟩, by simpa using hl, fun i v d h1 h3 => ?_, fun i a z => ?_, fun i l a z1 z2 => ?_⟩
      · by_cases hi : i = j
        · subst hi
          rw [List.getElem?_set_self hj] at h3
          cases h3
          rw [hv] at h1
          cases h1
          simp only [if_pos rfl]
          exact o2
        · rw [List.getElem?_set_ne (Ne.symm hi)] at h3
          simp only [if_neg hi]
          exact (hr i v d h1 h3).step gg fun a o f q => fr a o (hs i a f).1 (fun z => hi (hd i j a f z)) q
      · by_cases hi : i = j
        · simp only [if_pos hi] at z
          refine ⟨.inr z, fun e => ?_⟩
          subst e
          rcases h2 _ z with y | y
          · exact (hs j _ y).2 rfl
          · exact y fp
        · simp only [if_neg hi] at z
          exact ⟨.inl ⟨(hs i a z).1, fun y => hi (hd i j a z y)⟩, (hs i a z).2⟩
      · by_cases hi : i = j
        · by_cases hk : l = j
          · rw [hi, hk]
          · simp only [if_pos hi] at z1
            simp only [if_neg hk] at z2
            rcases h2 _ z1 with y | y
            · exact (hk (hd l j a z2 y)).elim
            · exact (y (hs l a z2).1).elim
        · by_cases hk : l = j
          · simp only [if_neg hi] at z1
            simp only [if_pos hk] at z2
            rcases h2 _ z2 with y | y
            · exact (hi (hd i j a z1 y)).elim
            · exact (y (hs i a z1).1).elim
          · simp only [if_neg hi] at z1
            simp only [if_neg hk] at z2
            exact hd i l a z1 z2
    | _ => cases g
  | fd f =>
    cases d with
    | obj C ds =>
      obtain ⟨p, dx, vs, Fs, rfl, hp, fp, hl, hr, hs, hd⟩ := o
      rw [getS_fd] at g
      obtain ⟨j, w, j1, j2, j3, j4⟩ := look_put hl g
      have hj : j < ds.length := (List.getElem?_eq_some_iff.mp j1).1
      refine ⟨w, Fs j, ⟨p, _, dx, vs, rfl, hp, j3⟩, hr j _ _ j2 j1, fun a z => ⟨(hs j a z).1, fun e => (hs j a z).2 (V.ref.inj e).symm⟩, fun H' G' e F2 gg fr o2 h2 => ?_⟩
      rw [putS_fd, j4 e]
      refine ⟨p, dx, vs, fun i a => if i = j then F2 a else Fs i a, rfl, fr p _ fp (fun z => (hs j p z).2 rfl) hp, .inl ⟨fp, fun z => (hs j p z).2 rfl⟩, ?_, fun i v d h1 h3 => ?_, fun i a z => ?_, fun i l a z1 z2 => ?_⟩
      · rw [List.map_set, hl]
        apply List.ext_getElem?
        intro i
        by_cases hi : i = j
        · subst hi
          rw [List.getElem?_set_self (by simpa using hj), List.getElem?_map, j1]
          rfl
        · rw [List.getElem?_set_ne (Ne.symm hi)]
      · by_cases hi : i = j
        · subst hi
          rw [List.getElem?_set_self hj] at h3
          cases h3
          rw [j2] at h1
          cases h1
          simp only [if_pos rfl]
          exact o2
        · rw [List.getElem?_set_ne (Ne.symm hi)] at h3
          simp only [if_neg hi]
          exact (hr i v d h1 h3).step gg fun a o f q => fr a o (hs i a f).1 (fun z => hi (hd i j a f z)) q
      · by_cases hi : i = j
        · simp only [if_pos hi] at z
          refine ⟨.inr z, fun e => ?_⟩
          subst e
          rcases h2 _ z with y | y
          · exact (hs j _ y).2 rfl
          · exact y fp
        · simp only [if_neg hi] at z
          exact ⟨.inl ⟨(hs i a z).1, fun y => hi (hd i j a z y)⟩, (hs i a z).2⟩
      · by_cases hi : i = j
        · by_cases hk : l = j
          · rw [hi, hk]
          · simp only [if_pos hi] at z1
            simp only [if_neg hk] at z2
            rcases h2 _ z1 with y | y
            · exact (hk (hd l j a z2 y)).elim
            · exact (y (hs l a z2).1).elim
        · by_cases hk : l = j
          · simp only [if_neg hi] at z1
            simp only [if_pos hk] at z2
            rcases h2 _ z2 with y | y
            · exact (hi (hd i j a z1 y)).elim
            · exact (y (hs i a z1).1).elim
          · simp only [if_neg hi] at z1
            simp only [if_neg hk] at z2
            exact hd i l a z1 z2
    | _ => cases g
theorem Own.focus : ∀ (p : Pth) {k : Nat} {v : V} {d c : D} {F : Addr → Prop}, Own K c0 H G (k + p.length) v d F → getP p d = some c → ∃ w F', PathOf H p v w ∧ Own K c0 H G k w c F' ∧ (∀ a, F' a → F a) ∧
    ∀ (H' G' : Hp) (e : D) (F2 : Addr → Prop), Same G G' → (∀ a o, F a → ¬ F' a → H a = some o → H' a = some o) → Own K c0 H' G' k w e F2 → (∀ a, F2 a → F' a ∨ ¬ F a) → Own K c0 H' G' (k + p.length) v (putP p d e) (fun a => (F a ∧ ¬ F' a) ∨ F2 a)
  | [], k, v, d, c, F, o, g => by
    cases g
    exact ⟨v, F, rfl, o, fun _ z => z, fun H' G' e F2 gg fr o2 h2 => o2.weak fun a z => .inr z⟩
  | s :: p, k, v, d, c, F, o, g => by
    rw [getP_cons] at g
    cases e1 : getS s d with
    | none => rw [e1] at g; cases g
    | some c1 =>
      rw [e1] at g
      have o' : Own K c0 H G ((k + p.length) + 1) v d F := o
      obtain ⟨w1, F1, p1, o1, s1, put1⟩ := o'.focusS e1
      obtain ⟨w, F', p2, o2, s2, put2⟩ := Own.focus p o1 g
      refine ⟨w, F', ⟨w1, p1, p2⟩, o2, fun a z => (s1 a (s2 a z)).1, fun H' G' e F2 gg fr oe h2 => ?_⟩
      rw [putP_cons e1]
      have a1 := put2 H' G' e F2 gg (fun a o f n q => fr a o (s1 a f).1 n q) oe (fun a z => (h2 a z).elim .inl fun n => .inr fun q => n (s1 a q).1)
      have a2 := put1 H' G' _ _ gg (fun a o f n q => fr a o f (fun z => n (s2 a z)) q) a1 (fun a z => by
        rcases z with ⟨z, _⟩ | z
        · exact .inl z
        · exact (h2 a z).elim (fun y => .inl (s2 a y)) .inr)
      refine Own.weak a2 fun a z => ?_
      rcases z with ⟨z, n⟩ | ⟨z, n⟩ | z
      · exact .inl ⟨z, fun y => n (s2 a y)⟩
      · exact .inl ⟨(s1 a z).1, n⟩
      · exact .inr z
/-- slot i at the path p: what stands there may be changed in place -/
def FsP (i : Nat) (F' F2 : Addr → Prop) (Fs : Foot) : Foot := fun j a => if j = i then (Fs i a ∧ ¬ F' a) ∨ F2 a else Fs j a
/-- a change in place of what U holds; G0 H0 stood ahead of the reading that went before -/
structure Inp (U : Addr → Prop) (H0 G H : Hp) (U' : Addr → Prop) (G' H' : Hp) : Prop where
  gg : Same G G'
  gh : Same G' H'
  fr : ∀ a o, H a = some o → ¬ U a → H' a = some o
  th : ∀ a o, H a = some o → ∃ o', H' a = some o'
  un : ∀ a, U' a → U a ∨ H0 a = none
  gn : ∀ a o, G' a = some o → G a = some o ∨ U a ∨ H a = none
theorem EnvR.focus {G0 H0 : Hp} (env0 : EnvR K cl ρ σ G0 H0 Fs) (p0 : Px G0 H0 G H) {i n k : Nat} {d c : D} {p : Pth} (h : ρ[i]? = some (some (n, d))) (hn : n = k + p.length) (g : getP p d = some c) : ∃ v w F', σ[i]? = some (some v) ∧ PathOf H p v w ∧ Own K cl.c H G k w c F' ∧ (∀ a, F' a → Fs i a) ∧
    ∀ (H' G' : Hp) (e : D) (F2 : Addr → Prop), Own K cl.c H' G' k w e F2 → (∀ a, F2 a → (∃ o, H' a = some o) ∧ G' a = none) → Inp F' H0 G H F2 G' H' → EnvR K cl (ρ.set i (some (n, putP p d e))) σ G' H' (FsP i F' F2 Fs) ∧ Sx (Un Fs) G0 H0 (Un (FsP i F' F2 Fs)) G' H' := by
  have env := env0.px p0
  obtain ⟨v, hv, o⟩ := env.own i n d h
  subst hn
  obtain ⟨w, F', pt, o', sb, put⟩ := o.focus p g
  refine ⟨v, w, F', hv, pt, o', sb, fun H' G' e F2 oe dm sx => ?_⟩
  have hi : i < ρ.length := (List.getElem?_eq_some_iff.mp h).1
  have news : ∀ a, F2 a → F' a ∨ ∀ j, ¬ Fs j a := fun a z => by
    rcases sx.un a z with y | y
    · exact .inl y
    · refine .inr fun j f => ?_
      obtain ⟨⟨o, ho⟩, _⟩ := env0.dom j a f
      rw [ho] at y; cases y
  have keep : ∀ j a, Fs j a → j ≠ i → ¬ F' a := fun j a f hj z => hj (env.dis j i a f (sb a z))
  refine ⟨⟨by simp [env.len], sx.gh, fun j k' d' hj => ?_, fun j l a h1 h2 => ?_, fun j a f => ?_, env.fx⟩, ⟨p0.gg.trans sx.gg, sx.gh, fun a o ha n => sx.fr a o (p0.hh a o ha) fun z => n ⟨i, sb a z⟩, fun a o ha => sx.th a o (p0.hh a o ha), fun a ⟨j, z⟩ => ?_, fun a o ha => ?_⟩⟩
  · by_cases hji : j = i
    · subst hji
      rw [List.getElem?_set_self hi] at hj
      cases hj
      refine ⟨v, hv, ?_⟩
      have := put H' G' e F2 sx.gg (fun a o f n q => sx.fr a o q n) oe (fun a z => (news a z).imp id fun y => y j)
      refine Own.weak this fun a z => ?_
      unfold FsP
      rw [if_pos rfl]
      exact z
    · rw [List.getElem?_set_ne (Ne.symm hji)] at hj
      obtain ⟨u, hu, o⟩ := env.own j k' d' hj
      refine ⟨u, hu, ?_⟩
      refine Own.weak (o.step sx.gg fun a o f q => sx.fr a o q (keep j a f hji)) fun a z => ?_
      unfold FsP
      rw [if_neg hji]
      exact z
  · unfold FsP at h1 h2
    by_cases hj : j = i
    · by_cases hl : l = i
      · rw [hj, hl]
      · rw [if_pos hj] at h1
        rw [if_neg hl] at h2
        rcases h1 with ⟨z, _⟩ | z
        · exact (hl (env.dis l i a h2 z)).elim
        · rcases news a z with y | y
          · exact (hl (env.dis l i a h2 (sb a y))).elim
          · exact (y l h2).elim
    · by_cases hl : l = i
      · rw [if_neg hj] at h1
        rw [if_pos hl] at h2
        rcases h2 with ⟨z, _⟩ | z
        · exact (hj (env.dis j i a h1 z)).elim
        · rcases news a z with y | y
          · exact (hj (env.dis j i a h1 (sb a y))).elim
          · exact (y j h1).elim
      · rw [if_neg hj] at h1
        rw [if_neg hl] at h2
        exact env.dis j l a h1 h2
  · have old : ∀ j a, Fs j a → ¬ F' a → (∃ o, H' a = some o) ∧ G' a = none := fun j a f n => by
      obtain ⟨⟨o, ho⟩, hg⟩ := env.dom j a f
      refine ⟨⟨o, sx.fr a o ho n⟩, ?_⟩
      cases q : G' a with
      | none => rfl
      | some u =>
        rcases sx.gn a u q with z | z | z
        · rw [hg] at z; cases z
        · exact (n z).elim
        · rw [ho] at z; cases z
    unfold FsP at f
    by_cases hj : j = i
    · rw [if_pos hj] at f
      rcases f with ⟨f, n⟩ | f
      · exact old i a f n
      · exact dm a f
    · rw [if_neg hj] at f
      exact old j a f (keep j a f hj)
  · unfold FsP at z
    by_cases hj : j = i
    · rw [if_pos hj] at z
      rcases z with ⟨z, _⟩ | z
      · exact .inl ⟨i, z⟩
      · exact (sx.un a z).imp (fun y => ⟨i, sb a y⟩) id
    · rw [if_neg hj] at z
      exact .inl ⟨j, z⟩
  · rcases sx.gn a o ha with z | z | z
    · exact (p0.gn a o z).imp id .inr
    · exact .inr (.inl ⟨i, sb a z⟩)
    · exact .inr (.inr (p0.hh.free z))
end
end B
namespace B
open PySem L2
/-! ### what a name owns is read by those that want frozen things: frozen for a while -/
def flatK : Nat → D → Bool
  | 0, d => flat d
  | k + 1, .lst ds => ds.all (flatK k)
  | k + 1, .obj _ fs => fs.all fun f => flatK k f.2
  | k + 1, .tup ds => ds.all (flatK k)
  | _ + 1, d => flat d
@[simp] theorem flatK_0 (d : D) : flatK 0 d = flat d := rfl
@[simp] theorem flatK_l (k : Nat) (ds : List D) : flatK (k + 1) (.lst ds) = ds.all (flatK k) := rfl
@[simp] theorem flatK_t (k : Nat) (ds : List D) : flatK (k + 1) (.tup ds) = ds.all (flatK k) := rfl
@[simp] theorem flatK_o (k : Nat) (C : Str) (fs : List (Str × D)) : flatK (k + 1) (.obj C fs) = fs.all fun f => flatK k f.2 := rfl
@[simp] theorem flatK_i (k : Nat) (i : Int) : flatK k (.int i) = true := by cases k <;> simp [flatK]
@[simp] theorem flatK_b (k : Nat) (i : Bool) : flatK k (.bl i) = true := by cases k <;> simp [flatK]
@[simp] theorem flatK_s (k : Nat) (i : Str) : flatK k (.str i) = true := by cases k <;> simp [flatK]
@[simp] theorem flatK_n (k : Nat) : flatK k .non = true := by cases k <;> simp [flatK]
/-- a list, an instance, or a tuple that holds such -/
inductive Big (H : Hp) : V → Prop
  | lst {a : Addr} {xs : List V} (h : Rd H a (.lst xs)) : Big H (.ref a)
  | ins {a C dx : Addr} {gs : List (Str × V)} (h : H a = some (.ins C dx gs)) : Big H (.ref a)
  | tup {a : Addr} {vs : List V} {i : Nat} {w : V} (h : Rd H a (.tup vs)) (e : vs[i]? = some w) (b : Big H w) : Big H (.ref a)
  | dct {p : Addr} {nks : List (NestedKey × Addr × V)} (h : H p = some (DctO p nks)) : Big H (.ref p)
  | dci {p : Addr} {ks : List Int} (h : H p = some (DciO ks)) : Big H (.ref p)
/-- an exception is no dict -/
theorem EXO_ne (cls : Value) (p : Addr) (nks : List (NestedKey × Addr × V)) : EXO cls p ≠ DctO p nks := by
  intro e
  unfold EXO DctO at e
  injection e with e
  have e1 := congrFun e { objs := Array.replicate (p + 1) { cls := cls, data := .fields #[] } }
  have g : Heap.get? { objs := Array.replicate (p + 1) ({ cls := cls, data := .fields #[] } : Obj) } p = some { cls := cls, data := .fields #[] } := by
    unfold Heap.get?
    simp
  obtain ⟨_, _, _, _, _, o, es, ep, ho, _, hd, _⟩ := e1.mp ⟨_, #[], g, ⟨rfl, rfl⟩, rfl⟩
  rw [g] at ho
  cases ho
  cases hd
section
variable {K : PySem.W.Frag} {cl : Clx} {W : WX} {ρ : Env} {σ : L2.St} {G H G' H' : Hp} {Fs Fs' : Foot} {c0 : Str → Addr}
theorem rd_det {H : Hp} {a : Addr} {u w : HO} (h1 : Rd H a u) (h2 : Rd H a w) (n1 : ∀ o z, u ≠ .frz o z) (n2 : ∀ o z, w ≠ .frz o z) : u = w := by
  rcases h1 with h1 | ⟨o, h1⟩
  · rcases h2 with h2 | ⟨o', h2⟩
    · rw [h1] at h2; exact Option.some.inj h2
    · rw [h1] at h2; exact (n1 _ _ (Option.some.inj h2)).elim
  · rcases h2 with h2 | ⟨o', h2⟩
    · rw [h1] at h2; exact (n2 _ _ (Option.some.inj h2).symm).elim
    · rw [h1] at h2
      cases h2
      rfl
theorem Big.mono (e : Same H H') {v : V} (b : Big H v) : Big H' v := by
  induction b with
  | lst h => exact .lst (rdEx e h)
  | ins h => exact .ins (e _ _ h)
  | tup h i _ ih => exact .tup (rdEx e h) i ih
  | dct h => exact .dct (e _ _ h)
  | dci h => exact .dci (e _ _ h)
theorem Rep.small {v : V} (b : Big H v) (gh : Same G H) : ∀ {d : D}, Rep K c0 G v d → flat d = true → False := by
  induction b with
  | lst h =>
    intro d r hf
    cases r with
    | lst _ _ _ => simp at hf
    | obj _ _ _ => simp at hf
    | dct _ _ _ _ _ => simp at hf
    | dci _ => simp at hf
    | tup h2 _ _ => cases rd_det h (rdEx gh h2) (fun _ _ => nofun) (fun _ _ => nofun)
    | exo h2 =>
      rcases h with h | ⟨o, h⟩
      · rw [gh _ _ h2] at h; cases h
      · rw [gh _ _ h2] at h; cases h
  | dct h =>
    intro d r hf
    cases r with
    | lst _ _ _ => simp at hf
    | obj _ _ _ => simp at hf
    | dct _ _ _ _ _ => simp at hf
    | dci _ => simp at hf
    | tup h2 _ _ => cases rd_det (.inl h) (rdEx gh h2) (fun _ _ => by unfold DctO; nofun) (fun _ _ => nofun)
    | exo h2 =>
      rw [gh _ _ h2] at h
      exact (EXO_ne _ _ _ (Option.some.inj h)).elim
  | dci h =>
    intro d r hf
    cases r with
    | lst _ _ _ => simp at hf
    | obj _ _ _ => simp at hf
    | dct _ _ _ _ _ => simp at hf
    | dci _ => simp at hf
    | tup h2 _ _ => cases rd_det (.inl h) (rdEx gh h2) (fun _ _ => by unfold DciO; nofun) (fun _ _ => nofun)
    | exo h2 => rw [gh _ _ h2] at h; cases h
  | ins h =>
    intro d r hf
    cases r with
    | lst _ _ _ => simp at hf
    | obj _ _ _ => simp at hf
    | dct _ _ _ _ _ => simp at hf
    | dci _ => simp at hf
    | tup h2 _ _ => cases rd_det (.inl h) (rdEx gh h2) (fun _ _ => nofun) (fun _ _ => nofun)
    | exo h2 => rw [gh _ _ h2] at h; cases h
  | @tup a vs i w h e _ ih =>
    intro d r hf
    cases r with
    | lst _ _ _ => simp at hf
    | obj _ _ _ => simp at hf
    | dct _ _ _ _ _ => simp at hf
    | dci _ => simp at hf
    | exo h2 =>
      rcases h with h | ⟨o, h⟩
      · rw [gh _ _ h2] at h; cases h
      · rw [gh _ _ h2] at h; cases h
    | @tup _ us ds h2 hl hr =>
      cases rd_det h (rdEx gh h2) (fun _ _ => nofun) (fun _ _ => nofun)
      have hi := (List.getElem?_eq_some_iff.mp e).1
      rw [hl] at hi
      have hd : ds[i]? = some ds[i] := List.getElem?_eq_getElem hi
      exact ih (hr _ _ _ e hd) (flatL_get (by simpa using hf) hd)
theorem flatL_not {ds : List D} (h : ¬ flatL ds = true) : ∃ (i : Nat) (d : D), ds[i]? = some d ∧ ¬ flat d = true := by
  by_cases hh : ∃ (i : Nat) (d : D), ds[i]? = some d ∧ ¬ flat d = true
  · exact hh
  · exfalso
    refine h (flatL_iff.mpr fun d hd => ?_)
    obtain ⟨i, hi⟩ := List.getElem?_of_mem hd
    by_cases hf : flat d = true
    · exact hf
    · exact (hh ⟨i, d, hi, hf⟩).elim
theorem Rep.big {v : V} {d : D} (gh : Same G H) (r : Rep K c0 G v d) : ¬ flat d = true → Big H v := by
  induction r with
  | lst h _ _ _ => exact fun _ => .lst (rdEx gh h)
  | obj h _ _ _ => exact fun _ => .ins (gh _ _ h)
  | dct h _ _ _ _ _ _ => exact fun _ => .dct (gh _ _ h)
  | dci h => exact fun _ => .dci (gh _ _ h)
  | tup h hl hr ih =>
    intro hf
    obtain ⟨i, d, hi, hd⟩ := flatL_not (by simpa using hf)
    have hlt := (List.getElem?_eq_some_iff.mp hi).1
    have hv := List.getElem?_eq_getElem (l := _) (i := i) (show i < _ by rw [hl]; exact hlt)
    exact .tup (rdEx gh h) hv (ih i _ _ hv hi hd)
  | _ => intro hf; simp at hf
theorem Own.big (gh : Same G H) : ∀ {k : Nat} {v : V} {d : D} {F : Addr → Prop}, Own K c0 H G k v d F → ¬ B.flat d = true → Big H v
  | 0, v, d, F, o, hf => Rep.big gh o hf
  | k + 1, v, .lst ds, F, o, hf => by
    obtain ⟨p, vs, Fs, rfl, hp, _⟩ := o
    exact .lst (.inl hp)
  | k + 1, v, .obj C ds, F, o, hf => by
    obtain ⟨p, dx, vs, Fs, rfl, hp, _⟩ := o
    exact .ins hp
  | k + 1, v, .tup ds, F, o, hf => by
    obtain ⟨p, vs, Fs, rfl, hp, fp, hl, hr, _⟩ := o.tupN (by simpa using hf)
    obtain ⟨i, d, hi, hd⟩ := flatL_not (by simpa using hf)
    have hlt := (List.getElem?_eq_some_iff.mp hi).1
    have hv : vs[i]? = some vs[i] := List.getElem?_eq_getElem (by rw [hl]; exact hlt)
    exact .tup (.inl hp) hv (Own.big gh (hr i _ _ hv hi) hd)
  | k + 1, v, .non, F, o, hf => by simp at hf
  | k + 1, v, .bl _, F, o, hf => by simp at hf
  | k + 1, v, .int _, F, o, hf => by simp at hf
  | k + 1, v, .str _, F, o, hf => by simp at hf
  | k + 1, v, .exo _, F, o, hf => by simp at hf
  | k + 1, v, .dct _, F, o, hf => by
    obtain ⟨p, nks, rfl, hp, _⟩ := o
    exact .dct hp
  | k + 1, v, .dci _, F, o, hf => by
    obtain ⟨p, rfl, hp, _⟩ := o
    exact .dci hp
/-- flat data does not stand on what is unfrozen again -/
theorem Rep.unf {M : Addr → Prop} {G2 : Hp} (gh : Same G H) (hM : ∀ a, M a → Big H (.ref a)) (h2 : ∀ a o, G a = some o → ¬ M a → G2 a = some o) {v : V} {d : D} (r : Rep K c0 G v d) : flat d = true → Rep K c0 G2 v d := by
  induction r with
  | non => exact fun _ => .non
  | bl b => exact fun _ => .bl b
  | int b => exact fun _ => .int b
  | str b => exact fun _ => .str b
  | lst h hl hr _ => intro hf; simp at hf
  | obj h hl hr _ => intro hf; simp at hf
  | dct h hl hk _ _ _ _ => intro hf; simp at hf
  | dci h => intro hf; simp at hf
  | exo h =>
    intro hf
    refine .exo (h2 _ _ h fun m => ?_)
    exact Rep.small (hM _ m) gh (Rep.exo (K := K) (cl := c0) h) hf
  | @tup a vs ds h hl hr ih =>
    intro hf
    have nm : ¬ M a := fun m => Rep.small (hM _ m) gh (Rep.tup h hl hr) hf
    refine .tup ?_ hl fun i v d e1 e2 => ih i v d e1 e2 (flatL_get (by simpa using hf) e2)
    rcases h with h | ⟨o, h⟩
    · exact .inl (h2 _ _ h nm)
    · exact .inr ⟨o, h2 _ _ h nm⟩
theorem Own.unf {M : Addr → Prop} {G2 : Hp} (gh : Same G H) (hM : ∀ a, M a → Big H (.ref a)) (h2 : ∀ a o, G a = some o → ¬ M a → G2 a = some o) : ∀ {k : Nat} {v : V} {d : D} {F : Addr → Prop}, Own K c0 H G k v d F → flatK k d = true → Own K c0 H G2 k v d F
  | 0, v, d, F, o, hf => Rep.unf gh hM h2 o hf
  | k + 1, v, .lst ds, F, o, hf => by
    obtain ⟨p, vs, Fs, rfl, hp, fp, hl, hr, hs, hd⟩ := o
    exact ⟨p, vs, Fs, rfl, hp, fp, hl, fun i v d e1 e2 => Own.unf gh hM h2 (hr i v d e1 e2) (List.all_eq_true.mp hf d (List.mem_of_getElem? e2)), hs, hd⟩
  | k + 1, v, .obj C ds, F, o, hf => by
    obtain ⟨p, dx, vs, Fs, rfl, hp, fp, hl, hr, hs, hd⟩ := o
    exact ⟨p, dx, vs, Fs, rfl, hp, fp, hl, fun i v d e1 e2 => Own.unf gh hM h2 (hr i v d e1 e2) (List.all_eq_true.mp hf d (List.mem_of_getElem? e2)), hs, hd⟩
  | k + 1, v, .tup ds, F, o, hf => by
    refine Own.mkT (fun hl => Rep.unf gh hM h2 (o.tupF hl) (by simpa using hl)) fun hl => ?_
    obtain ⟨p, vs, Fs, rfl, hp, fp, hl, hr, hs, hd⟩ := o.tupN hl
    exact ⟨p, vs, Fs, rfl, hp, fp, hl, fun i v d e1 e2 => Own.unf gh hM h2 (hr i v d e1 e2) (List.all_eq_true.mp hf d (List.mem_of_getElem? e2)), hs, hd⟩
  | k + 1, v, .non, F, o, hf => Rep.unf gh hM h2 o hf
  | k + 1, v, .bl _, F, o, hf => Rep.unf gh hM h2 o hf
  | k + 1, v, .int _, F, o, hf => Rep.unf gh hM h2 o hf
  | k + 1, v, .str _, F, o, hf => Rep.unf gh hM h2 o hf
  | k + 1, v, .exo _, F, o, hf => Rep.unf gh hM h2 o hf
def FsO (i : Nat) (Fs : Foot) : Foot := fun j a => j ≠ i ∧ Fs j a
def flatC (x : Vl) : R Vl := if flatK x.k x.d = true then .ok x else .bad
@[simp] theorem flatC_eq (b : Bool) (k : Nat) (d : D) : flatC ⟨b, k, d⟩ = if flatK k d = true then .ok ⟨b, k, d⟩ else .bad := rfl
def borV (i : Nat) (f : EF) (ρ : Env) : Option Slot → R Vl
  | some (some (0, _)) => f ρ
  | some (some (_ + 1, d)) => (f (ρ.set i (some (0, d)))).bind flatC
  | _ => .bad
@[simp] theorem borV_0 (i : Nat) (f : EF) (ρ : Env) (d : D) : borV i f ρ (some (some (0, d))) = f ρ := rfl
@[simp] theorem borV_1 (i : Nat) (f : EF) (ρ : Env) (k : Nat) (d : D) : borV i f ρ (some (some (k + 1, d))) = (f (ρ.set i (some (0, d)))).bind flatC := rfl
def eBor (i : Nat) (f : EF) : EF := fun ρ => borV i f ρ ρ[i]?
@[simp] theorem eBor_eq (i : Nat) (f : EF) (ρ : Env) : eBor i f ρ = borV i f ρ ρ[i]? := rfl
def borT (i : Nat) (f : TF) (ρ : Env) : Option Slot → R Bool
  | some (some (0, _)) => f ρ
  | some (some (_ + 1, d)) => f (ρ.set i (some (0, d)))
  | _ => .bad
@[simp] theorem borT_0 (i : Nat) (f : TF) (ρ : Env) (d : D) : borT i f ρ (some (some (0, d))) = f ρ := rfl
@[simp] theorem borT_1 (i : Nat) (f : TF) (ρ : Env) (k : Nat) (d : D) : borT i f ρ (some (some (k + 1, d))) = f (ρ.set i (some (0, d))) := rfl
def tBor (i : Nat) (f : TF) : TF := fun ρ => borT i f ρ ρ[i]?
@[simp] theorem tBor_eq (i : Nat) (f : TF) (ρ : Env) : tBor i f ρ = borT i f ρ ρ[i]? := rfl
end
section
variable {X : Cx} {cl : Clx} {W : WX} {pos : Pos}
end
end B
namespace B
open PySem L2
/-! ### a value as its place wants it: k floors of its own -/
def fitS (k : Nat) (x : Vl) : R Vl := if flat x.d = true then .ok ⟨false, k, x.d⟩ else if x.b = false ∧ (x.k = k ∨ (x.k < k ∧ flatK x.k x.d = true) ∨ (k < x.k ∧ flatK k x.d = true)) then .ok ⟨false, k, x.d⟩ else .bad
def fitX : Nat → Vl → R Vl
  | 0, x => frz x
  | k + 1, x => fitS (k + 1) x
theorem fitX_s (k : Nat) (x : Vl) : fitX (k + 1) x = fitS (k + 1) x := rfl
@[simp] theorem fitX_0 (x : Vl) : fitX 0 x = frz x := rfl
@[simp] theorem fitX_same (k : Nat) (d : D) : fitX (k + 1) ⟨false, k + 1, d⟩ = .ok ⟨false, k + 1, d⟩ := by
  rw [fitX_s]
  unfold fitS
  by_cases h : flat d = true
  · rw [if_pos h]
  · rw [if_neg h, if_pos ⟨rfl, .inl rfl⟩]
theorem fitX_flat (k : Nat) (b : Bool) (l : Nat) {d : D} (h : flat d = true) : fitX (k + 1) ⟨b, l, d⟩ = .ok ⟨false, k + 1, d⟩ := by
  rw [fitX_s]
  unfold fitS
  rw [if_pos h]
@[simp] theorem fitX_int (k : Nat) (b : Bool) (l : Nat) (i : Int) : fitX (k + 1) ⟨b, l, .int i⟩ = .ok ⟨false, k + 1, .int i⟩ := fitX_flat k b l (by simp)
@[simp] theorem fitX_non (k : Nat) (b : Bool) (l : Nat) : fitX (k + 1) ⟨b, l, .non⟩ = .ok ⟨false, k + 1, .non⟩ := fitX_flat k b l (by simp)
def eFit (k : Nat) (f : EF) : EF := fun ρ => (f ρ).bind (fitX k)
@[simp] theorem eFit_eq (k : Nat) (f : EF) (ρ : Env) : eFit k f ρ = (f ρ).bind (fitX k) := rfl
theorem fitX_is {k : Nat} {x y : Vl} (h : fitX k x = .ok y) : y.b = false ∧ y.k = k ∧ y.d = x.d := by
  cases k with
  | zero =>
    have := frz_k h
    subst this
    exact ⟨rfl, rfl, rfl⟩
  | succ k =>
    rw [fitX_s] at h
    unfold fitS at h
    split at h
    · cases h; exact ⟨rfl, rfl, rfl⟩
    · split at h
      · cases h; exact ⟨rfl, rfl, rfl⟩
      · cases h
theorem eFit_is {k : Nat} {f : EF} {ρ : Env} {y : Vl} (h : eFit k f ρ = .ok y) : y.b = false ∧ y.k = k := by
  rw [eFit_eq] at h
  cases e : f ρ with
  | bad => rw [e] at h; cases h
  | ex c => rw [e] at h; cases h
  | ok x =>
    rw [e] at h
    exact ⟨(fitX_is h).1, (fitX_is h).2.1⟩
section
variable {K : PySem.W.Frag} {cl : Clx} {W : WX} {ρ : Env} {σ : L2.St} {G H G' H' : Hp} {Fs Fs' : Foot} {c0 : Str → Addr}
theorem Own.ofFlat {k : Nat} {v : V} {d : D} {F : Addr → Prop} (r : Rep K c0 G v d) (h : B.flat d = true) : Own K c0 H G k v d F := by
  cases k with
  | zero => exact r
  | succ k =>
    cases d with
    | lst _ => simp at h
    | obj _ _ => simp at h
    | dct _ => simp at h
    | dci _ => simp at h
    | tup ds => exact Own.mkT (fun _ => r) fun hf => (hf (by simpa using h)).elim
    | _ => exact r
theorem Own.up : ∀ {l k : Nat} {v : V} {d : D} {F : Addr → Prop}, l ≤ k → Own K c0 H G l v d F → flatK l d = true → Own K c0 H G k v d F
  | 0, k, v, d, F, _, o, h => Own.ofFlat o h
  | l + 1, 0, v, d, F, h, _, _ => by omega
  | l + 1, k + 1, v, .lst ds, F, hl, o, h => by
    obtain ⟨p, vs, Fs, e, hp, fp, hn, hr, hs, hd⟩ := o
    exact ⟨p, vs, Fs, e, hp, fp, hn, fun i v d h1 h2 => Own.up (by omega) (hr i v d h1 h2) (List.all_eq_true.mp h d (List.mem_of_getElem? h2)), hs, hd⟩
  | l + 1, k + 1, v, .obj C ds, F, hl, o, h => by
    obtain ⟨p, dx, vs, Fs, e, hp, fp, hn, hr, hs, hd⟩ := o
    exact ⟨p, dx, vs, Fs, e, hp, fp, hn, fun i v d h1 h2 => Own.up (by omega) (hr i v d h1 h2) (List.all_eq_true.mp h d (List.mem_of_getElem? h2)), hs, hd⟩
  | l + 1, k + 1, v, .tup ds, F, hl, o, h => by
    refine Own.mkT (fun hf => o.tupF hf) fun hf => ?_
    obtain ⟨p, vs, Fs, e, hp, fp, hn, hr, hs, hd⟩ := o.tupN hf
    exact ⟨p, vs, Fs, e, hp, fp, hn, fun i v d h1 h2 => Own.up (by omega) (hr i v d h1 h2) (List.all_eq_true.mp h d (List.mem_of_getElem? h2)), hs, hd⟩
  | l + 1, k + 1, v, .non, F, _, o, _ => o
  | l + 1, k + 1, v, .bl _, F, _, o, _ => o
  | l + 1, k + 1, v, .int _, F, _, o, _ => o
  | l + 1, k + 1, v, .str _, F, _, o, _ => o
  | l + 1, k + 1, v, .exo _, F, _, o, _ => o
theorem Own.down : ∀ {k l : Nat} {v : V} {d : D} {F : Addr → Prop}, k ≤ l → Own K c0 H G l v d F → flatK k d = true → Own K c0 H G k v d F
  | 0, l, v, d, F, _, o, h => Own.ofFlat (o.scal h) h
  | k + 1, 0, v, d, F, h, _, _ => by omega
  | k + 1, l + 1, v, .lst ds, F, hl, o, h => by
    obtain ⟨p, vs, Fs, e, hp, fp, hn, hr, hs, hd⟩ := o
    exact ⟨p, vs, Fs, e, hp, fp, hn, fun i v d h1 h2 => Own.down (by omega) (hr i v d h1 h2) (List.all_eq_true.mp h d (List.mem_of_getElem? h2)), hs, hd⟩
  | k + 1, l + 1, v, .obj C ds, F, hl, o, h => by
    obtain ⟨p, dx, vs, Fs, e, hp, fp, hn, hr, hs, hd⟩ := o
    exact ⟨p, dx, vs, Fs, e, hp, fp, hn, fun i v d h1 h2 => Own.down (by omega) (hr i v d h1 h2) (List.all_eq_true.mp h d (List.mem_of_getElem? h2)), hs, hd⟩
  | k + 1, l + 1, v, .tup ds, F, hl, o, h => by
    refine Own.mkT (fun hf => o.tupF hf) fun hf => ?_
    obtain ⟨p, vs, Fs, e, hp, fp, hn, hr, hs, hd⟩ := o.tupN hf
    exact ⟨p, vs, Fs, e, hp, fp, hn, fun i v d h1 h2 => Own.down (by omega) (hr i v d h1 h2) (List.all_eq_true.mp h d (List.mem_of_getElem? h2)), hs, hd⟩
  | k + 1, l + 1, v, .non, F, _, o, _ => o
  | k + 1, l + 1, v, .bl _, F, _, o, _ => o
  | k + 1, l + 1, v, .int _, F, _, o, _ => o
  | k + 1, l + 1, v, .str _, F, _, o, _ => o
  | k + 1, l + 1, v, .exo _, F, _, o, _ => o
theorem semFit {t : TE} {f : EF} (k : Nat) (h : SemE K cl W t f) : SemE K cl W t (eFit k f) := by
  cases k with
  | zero => exact semS h
  | succ k =>
    intro ρ σ G H Fs env Q hq
    refine h ρ σ G H Fs env Q ?_
    rw [eFit_eq] at hq
    cases e : f ρ with
    | bad => rw [e] at hq; exact hq
    | ex c => rw [e] at hq; exact hq
    | ok x =>
      rw [e, R.bind_ok] at hq
      intro v G' H' F p o fo
      obtain ⟨b, l, d⟩ := x
      by_cases hf : flat d = true
      · rw [fitX_flat k b l hf] at hq
        exact hq v G' H' (fun _ => False) p (Own.ofFlat (o.scal hf) hf) noFoo
      · have e2 : fitX (k + 1) ⟨b, l, d⟩ = if b = false ∧ (l = k + 1 ∨ (l < k + 1 ∧ flatK l d = true) ∨ (k + 1 < l ∧ flatK (k + 1) d = true)) then .ok ⟨false, k + 1, d⟩ else .bad := by rw [fitX_s]; unfold fitS; rw [if_neg hf]
        rw [e2] at hq
        by_cases hc : b = false ∧ (l = k + 1 ∨ (l < k + 1 ∧ flatK l d = true) ∨ (k + 1 < l ∧ flatK (k + 1) d = true))
        · rw [if_pos hc] at hq
          obtain ⟨rfl, hc⟩ := hc
          rcases hc with rfl | ⟨h1, h2⟩ | ⟨h1, h2⟩
          · exact hq v G' H' F p o fo
          · exact hq v G' H' F p (Own.up (Nat.le_of_lt h1) o h2) fo
          · exact hq v G' H' F p (Own.down (Nat.le_of_lt h1) o h2) fo
        · rw [if_neg hc] at hq
          exact hq.elim
/-! ### paths -/
abbrev PaF := Env → R (Nat × Pth)
def PP (Q : VK) (σ : L2.St) (x : Nat × Pth) (G H : Hp) : Prop := ∀ v G' H', Px G H G' H' → (∃ u, σ[x.1]? = some (some u) ∧ PathOf H' x.2 u v) → Q v H'
theorem PP.mono {Q : VK} {σ : L2.St} : Mono (PP Q σ) := fun x G H G' H' p h v G2 H2 p2 o => h v G2 H2 (p.trans p2) o
def SemP (K : PySem.W.Frag) (cl : Clx) (W : WX) (t : TE) (F : PaF) : Prop := ∀ ρ σ G H Fs, EnvR K cl ρ σ G H Fs → ∀ Q, PostG cl W σ G H (PP Q σ) (F ρ) → t σ H Q
def EvP (X : Cx) (cl : Clx) (W : WX) (e : Expr) (F : PaF) : Prop := ∃ t, PE X e t ∧ SemP X.K cl W t F
/-- what stands at a path: the floors left, the data -/
def ownP (p : Pth) : Option Slot → Option (Nat × D)
  | some (some (n, d)) => if p.length < n then (getP p d).map fun c => (n - p.length, c) else none
  | _ => none
@[simp] theorem ownP_some (p : Pth) (n : Nat) (d : D) : ownP p (some (some (n, d))) = if p.length < n then (getP p d).map fun c => (n - p.length, c) else none := rfl
theorem ownP_of {p : Pth} {o : Option Slot} {k : Nat} {c : D} (h : ownP p o = some (k, c)) : ∃ n d, o = some (some (n, d)) ∧ n = k + p.length ∧ getP p d = some c ∧ 1 ≤ k := by
  unfold ownP at h
  split at h
  · rename_i n d
    split at h
    · rename_i hl
      cases e : getP p d with
      | none => rw [e] at h; cases h
      | some c' =>
        rw [e] at h
        cases h
        exact ⟨n, d, rfl, by omega, e, by omega⟩
    · cases h
  · cases h
def putSl (ρ : Env) (q : Nat × Pth) (e : D) : Option Slot → Env
  | some (some (n, d)) => ρ.set q.1 (some (n, putP q.2 d e))
  | _ => ρ
@[simp] theorem putSl_some (ρ : Env) (q : Nat × Pth) (e : D) (n : Nat) (d : D) : putSl ρ q e (some (some (n, d))) = ρ.set q.1 (some (n, putP q.2 d e)) := rfl
theorem SemP.useS {t : TE} {F : PaF} (h : SemP K cl W t F) (env : EnvR K cl ρ σ G H Fs) {g : Nat × Pth → RS} {D : Ends} (hq : PostS K cl W (Un Fs) G H D (toS (F ρ) ρ g)) {C : VK}
    (step : ∀ x v G' H', F ρ = .ok x → Px G H G' H' → EnvR K cl ρ σ G' H' Fs → (∃ u, σ[x.1]? = some (some u) ∧ PathOf H' x.2 u v) → PostS K cl W (Un Fs) G' H' D (g x) → C v H') : t σ H C := by
  refine h ρ σ G H Fs env C ?_
  cases e : F ρ with
  | ok x =>
    rw [e] at hq
    exact fun v G' H' p o => step x v G' H' e p (env.px p) o (PostS.mono p.sx hq)
  | ex c =>
    rw [e] at hq
    exact fun G' H' p => hq σ G' H' Fs (env.px p) p.sx
  | bad =>
    rw [e] at hq
    exact hq
theorem SemP.use {t : TE} {F : PaF} (h : SemP K cl W t F) (env : EnvR K cl ρ σ G H Fs) {α : Type} {g : Nat × Pth → R α} {P : α → Hp → Hp → Prop} (hm : Mono P) (hq : PostG cl W σ G H P ((F ρ).bind g)) {C : VK}
    (step : ∀ x v G' H', F ρ = .ok x → Px G H G' H' → EnvR K cl ρ σ G' H' Fs → (∃ u, σ[x.1]? = some (some u) ∧ PathOf H' x.2 u v) → PostG cl W σ G' H' P (g x) → C v H') : t σ H C := by
  refine h ρ σ G H Fs env C ?_
  cases e : F ρ with
  | ok x =>
    rw [e] at hq
    exact fun v G' H' p o => step x v G' H' e p (env.px p) o (PostG.mono hm p hq)
  | ex c =>
    rw [e] at hq
    exact hq
  | bad =>
    rw [e] at hq
    exact hq
/-- the thing at a path, from the path's value -/
theorem EnvR.atP {G0 H0 : Hp} (env0 : EnvR K cl ρ σ G0 H0 Fs) (p0 : Px G0 H0 G H) {q : Nat × Pth} {k : Nat} {c : D} {w : V} (h : ownP q.2 ρ[q.1]? = some (k, c)) (hw : ∃ u, σ[q.1]? = some (some u) ∧ PathOf H q.2 u w) : ∃ n d F', ρ[q.1]? = some (some (n, d)) ∧ Own K cl.c H G k w c F' ∧ (∀ a, F' a → Fs q.1 a) ∧ 1 ≤ k ∧
    ∀ (H' G' : Hp) (e : D) (F2 : Addr → Prop), Own K cl.c H' G' k w e F2 → (∀ a, F2 a → (∃ o, H' a = some o) ∧ G' a = none) → Inp F' H0 G H F2 G' H' → EnvR K cl (putSl ρ q e ρ[q.1]?) σ G' H' (FsP q.1 F' F2 Fs) ∧ Sx (Un Fs) G0 H0 (Un (FsP q.1 F' F2 Fs)) G' H' := by
  obtain ⟨n, d, e0, hn, hg, h1⟩ := ownP_of h
  obtain ⟨v, w', F', hv, pt, o, sb, put⟩ := env0.focus p0 e0 hn hg
  obtain ⟨u, hu, pu⟩ := hw
  rw [hv] at hu
  cases hu
  have := pt.det pu
  subst this
  refine ⟨n, d, F', e0, o, sb, h1, ?_⟩
  rw [e0]
  exact put
def pV (i : Nat) : PaF := fun _ => .ok (i, [])
@[simp] theorem pV_eq (i : Nat) (ρ : Env) : pV i ρ = .ok (i, []) := rfl
def pfV (os : List Str) (f : Str) (x : Nat × Pth) : Option (Nat × D) → R (Nat × Pth)
  | some (_, .obj C fs) => if cMem os C = true ∧ (getF f fs).isSome = true then .ok (x.1, x.2 ++ [.fd f]) else .bad
  | _ => .bad
@[simp] theorem pfV_obj (os : List Str) (f : Str) (x : Nat × Pth) (k : Nat) (C : Str) (fs : List (Str × D)) : pfV os f x (some (k, .obj C fs)) = if cMem os C = true ∧ (getF f fs).isSome = true then .ok (x.1, x.2 ++ [.fd f]) else .bad := rfl
def pFld (os : List Str) (f : Str) (P : PaF) : PaF := fun ρ => (P ρ).bind fun x => pfV os f x (ownP x.2 ρ[x.1]?)
@[simp] theorem pFld_eq (os : List Str) (f : Str) (P : PaF) (ρ : Env) : pFld os f P ρ = (P ρ).bind fun x => pfV os f x (ownP x.2 ρ[x.1]?) := rfl
def piJ (x : Nat × Pth) : Option Nat → R (Nat × Pth)
  | some j => .ok (x.1, x.2 ++ [.ix j])
  | none => .bad
@[simp] theorem piJ_some (x : Nat × Pth) (j : Nat) : piJ x (some j) = .ok (x.1, x.2 ++ [.ix j]) := rfl
def piV (x : Nat × Pth) : Option (Nat × D) → D → R (Nat × Pth)
  | some (_, .lst ds), .int k => piJ x (ixN ds.length k)
  | _, _ => .bad
@[simp] theorem piV_lst (x : Nat × Pth) (k : Nat) (ds : List D) (i : Int) : piV x (some (k, .lst ds)) (.int i) = piJ x (ixN ds.length i) := rfl
def pIx (P : PaF) (b : EF) : PaF := fun ρ => (P ρ).bind fun x => (b ρ).bind fun y => piV x (ownP x.2 ρ[x.1]?) y.d
@[simp] theorem pIx_eq (P : PaF) (b : EF) (ρ : Env) : pIx P b ρ = (P ρ).bind fun x => (b ρ).bind fun y => piV x (ownP x.2 ρ[x.1]?) y.d := rfl
end
section
variable {X : Cx} {cl : Clx} {W : WX} {pos : Pos}
theorem evp_var (i : Nat) {x : Str} (hN : X.N[i]? = some x := by rfl) (hv : Vis X.env.scope x := by first | exact Or.inl rfl | exact Or.inr (Or.inl rfl) | exact Or.inr (Or.inr rfl)) (hd : (x == ("__debug__" : Str)) = false := by decide)
    (hcd : (x == ("__classdict__" : Str)) = false := by decide) : ∃ t, PE X (.Name x pos) t ∧ ∀ ρ σ G H Fs, EnvR X.K cl ρ σ G H Fs → ∀ Q, (∃ k d, ρ[i]? = some (some (k, d)) ∧ PP Q σ (i, []) G H) → t σ H Q :=
  ⟨_, pe_var hN hv hd hcd, fun ρ σ G H Fs env Q ⟨k, d, h, hq⟩ => by
    obtain ⟨v, hv, _⟩ := env.own i k d h
    exact ⟨v, hv, hq v G H (Px.refl env.gh) ⟨v, hv, rfl⟩⟩⟩
def pS (i : Nat) (ρ : Env) : Option Slot → R (Nat × Pth)
  | some (some _) => .ok (i, [])
  | _ => .bad
@[simp] theorem pS_some (i : Nat) (ρ : Env) (a : Nat × D) : pS i ρ (some (some a)) = .ok (i, []) := rfl
def pN (i : Nat) : PaF := fun ρ => pS i ρ ρ[i]?
@[simp] theorem pN_eq (i : Nat) (ρ : Env) : pN i ρ = pS i ρ ρ[i]? := rfl
theorem evp_n (i : Nat) {x : Str} (hN : X.N[i]? = some x := by rfl) (hv : Vis X.env.scope x := by first | exact Or.inl rfl | exact Or.inr (Or.inl rfl) | exact Or.inr (Or.inr rfl)) (hd : (x == ("__debug__" : Str)) = false := by decide)
    (hcd : (x == ("__classdict__" : Str)) = false := by decide) : EvP X cl W (.Name x pos) (pN i) := by
  obtain ⟨t, p, s⟩ := evp_var (X := X) (cl := cl) (pos := pos) i hN hv hd hcd
  refine ⟨t, p, fun ρ σ G H Fs env Q hq => s ρ σ G H Fs env Q ?_⟩
  rw [pN_eq] at hq
  cases e : ρ[i]? with
  | none => rw [e] at hq; exact hq.elim
  | some s0 =>
    cases s0 with
    | none => rw [e] at hq; exact hq.elim
    | some kd =>
      rw [e] at hq
      exact ⟨kd.1, kd.2, rfl, hq⟩
theorem ev_fit (k : Nat) {e : Expr} {f : EF} (h : EvE X cl W e f) : EvE X cl W e (eFit k f) := by
  obtain ⟨t, p, s⟩ := h
  exact ⟨t, p, semFit k s⟩
end
end B
namespace B
open PySem L2
section
variable {K : PySem.W.Frag} {cl : Clx} {W : WX} {ρ : Env} {σ : L2.St} {G H G' H' : Hp} {Fs Fs' : Foot} {c0 : Str → Addr}
/-! ### a list of one's own takes another item -/
theorem own_setL {k j : Nat} {p : Addr} {vs : List V} {ds : List D} {u : V} {x : D} {F' Fx : Addr → Prop} (o : Own K c0 H G (k + 1) (.ref p) (.lst ds) F') (hp : H p = some (.lst vs)) (ox : Own K c0 H G k u x Fx) (dj : ∀ a, Fx a → ¬ F' a) :
    F' p ∧ vs.length = ds.length ∧ Own K c0 (upd H p (.lst (vs.set j u))) G (k + 1) (.ref p) (.lst (ds.set j x)) (fun a => F' a ∨ Fx a) := by
  classical
  obtain ⟨q, vs', Fs, e, hq, fp, hl, hr, hs, hd⟩ := o
  cases e
  rw [hp] at hq
  cases hq
  have st : ∀ {F : Addr → Prop}, (∀ a, F a → a ≠ p) → ∀ a o, F a → H a = some o → upd H p (.lst (vs.set j u)) a = some o := fun h a o f q => by rw [upd_ne (h a f)]; exact q
  refine ⟨fp, hl, p, vs.set j u, fun i a => if i = j then Fx a else Fs i a, rfl, upd_same, .inl fp, by simpa using hl, fun i v d h1 h2 => ?_, fun i a z => ?_, fun i l a z1 z2 => ?_⟩
  · by_cases hi : i = j
    · subst hi
      have l1 : i < vs.length := by
        have := (List.getElem?_eq_some_iff.mp h1).1
        simpa using this
      rw [List.getElem?_set_self l1] at h1
      rw [List.getElem?_set_self (by rw [← hl]; exact l1)] at h2
      cases h1
      cases h2
      simp only [if_pos rfl]
      exact ox.step (Same.refl _) (st fun a f e => dj a f (by rw [e]; exact fp))
    · rw [List.getElem?_set_ne (Ne.symm hi)] at h1 h2
      simp only [if_neg hi]
      exact (hr i v d h1 h2).step (Same.refl _) (st fun a f => (hs i a f).2)
  · by_cases hi : i = j
    · simp only [if_pos hi] at z
      exact ⟨.inr z, fun e => dj a z (by rw [e]; exact fp)⟩
    · simp only [if_neg hi] at z
      exact ⟨.inl (hs i a z).1, (hs i a z).2⟩
  · by_cases hi : i = j
    · by_cases hk : l = j
      · rw [hi, hk]
      · simp only [if_pos hi] at z1
        simp only [if_neg hk] at z2
        exact (dj a z1 (hs l a z2).1).elim
    · by_cases hk : l = j
      · simp only [if_neg hi] at z1
        simp only [if_pos hk] at z2
        exact (dj a z2 (hs i a z1).1).elim
      · simp only [if_neg hi] at z1
        simp only [if_neg hk] at z2
        exact hd i l a z1 z2
theorem own_appL {k : Nat} {p : Addr} {vs : List V} {ds : List D} {u : V} {x : D} {F' Fx : Addr → Prop} (o : Own K c0 H G (k + 1) (.ref p) (.lst ds) F') (hp : H p = some (.lst vs)) (ox : Own K c0 H G k u x Fx) (dj : ∀ a, Fx a → ¬ F' a) :
    F' p ∧ vs.length = ds.length ∧ Own K c0 (upd H p (.lst (vs ++ [u]))) G (k + 1) (.ref p) (.lst (ds ++ [x])) (fun a => F' a ∨ Fx a) := by
  classical
  obtain ⟨q, vs', Fs, e, hq, fp, hl, hr, hs, hd⟩ := o
  cases e
  rw [hp] at hq
  cases hq
  have st : ∀ {F : Addr → Prop}, (∀ a, F a → a ≠ p) → ∀ a o, F a → H a = some o → upd H p (.lst (vs ++ [u])) a = some o := fun h a o f q => by rw [upd_ne (h a f)]; exact q
  refine ⟨fp, hl, p, vs ++ [u], fun i a => if i = ds.length then Fx a else Fs i a, rfl, upd_same, .inl fp, by simp [hl], fun i v d h1 h2 => ?_, fun i a z => ?_, fun i l a z1 z2 => ?_⟩
  · by_cases hi : i = ds.length
    · subst hi
      rw [← hl, List.getElem?_append_right (Nat.le_refl _), Nat.sub_self] at h1
      rw [List.getElem?_append_right (Nat.le_refl _), Nat.sub_self] at h2
      cases h1
      cases h2
      simp only [if_pos rfl]
      exact ox.step (Same.refl _) (st fun a f e => dj a f (by rw [e]; exact fp))
    · have l2 : i < ds.length := by
        have := (List.getElem?_eq_some_iff.mp h2).1
        simp only [List.length_append, List.length_singleton] at this
        omega
      rw [List.getElem?_append_left (by rw [hl]; exact l2)] at h1
      rw [List.getElem?_append_left l2] at h2
      simp only [if_neg hi]
      exact (hr i v d h1 h2).step (Same.refl _) (st fun a f => (hs i a f).2)
  · by_cases hi : i = ds.length
    · simp only [if_pos hi] at z
      exact ⟨.inr z, fun e => dj a z (by rw [e]; exact fp)⟩
    · simp only [if_neg hi] at z
      exact ⟨.inl (hs i a z).1, (hs i a z).2⟩
  · by_cases hi : i = ds.length
    · by_cases hk : l = ds.length
      · rw [hi, hk]
      · simp only [if_pos hi] at z1
        simp only [if_neg hk] at z2
        exact (dj a z1 (hs l a z2).1).elim
    · by_cases hk : l = ds.length
      · simp only [if_neg hi] at z1
        simp only [if_pos hk] at z2
        exact (dj a z2 (hs i a z1).1).elim
      · simp only [if_neg hi] at z1
        simp only [if_neg hk] at z2
        exact hd i l a z1 z2
/-- an item is taken out: it goes on alone -/
theorem own_delL {k m : Nat} {p : Addr} {vs : List V} {ds : List D} {u : V} {x : D} {F' : Addr → Prop} (o : Own K c0 H G (k + 1) (.ref p) (.lst ds) F') (hp : H p = some (.lst vs)) (hu : vs[m]? = some u) (hx : ds[m]? = some x) :
    F' p ∧ ∃ F1 F2, Own K c0 (upd H p (.lst (vs.eraseIdx m))) G (k + 1) (.ref p) (.lst (ds.eraseIdx m)) F1 ∧ Own K c0 (upd H p (.lst (vs.eraseIdx m))) G k u x F2 ∧ (∀ a, F1 a → F' a) ∧ (∀ a, F2 a → F' a) ∧ ∀ a, F1 a → ¬ F2 a := by
  obtain ⟨q, vs', Fs, e, hq, fp, hl, hr, hs, hd⟩ := o
  cases e
  rw [hp] at hq
  cases hq
  have st : ∀ {F : Addr → Prop}, (∀ a, F a → a ≠ p) → ∀ a o, F a → H a = some o → upd H p (.lst (vs.eraseIdx m)) a = some o := fun h a o f q => by rw [upd_ne (h a f)]; exact q
  have hm : m < ds.length := (List.getElem?_eq_some_iff.mp hx).1
  refine ⟨fp, fun a => F' a ∧ ¬ Fs m a, Fs m, ⟨p, vs.eraseIdx m, fun i => Fs (if i < m then i else i + 1), rfl, upd_same, ⟨fp, fun z => (hs m p z).2 rfl⟩, by simp [List.length_eraseIdx, hl], fun i v d h1 h2 => ?_, fun i a z => ?_, fun i l a z1 z2 => ?_⟩, (hr m u x hu hx).step (Same.refl _) (st fun a f => (hs m a f).2), fun a z => z.1, fun a z => (hs m a z).1, fun a z => z.2⟩
  · rw [List.getElem?_eraseIdx] at h1 h2
    by_cases hi : i < m
    · rw [if_pos hi] at h1 h2
      simp only [if_pos hi]
      exact (hr i v d h1 h2).step (Same.refl _) (st fun a f => (hs i a f).2)
    · rw [if_neg hi] at h1 h2
      simp only [if_neg hi]
      exact (hr (i + 1) v d h1 h2).step (Same.refl _) (st fun a f => (hs (i + 1) a f).2)
  · refine ⟨⟨(hs _ a z).1, fun y => ?_⟩, (hs _ a z).2⟩
    have := hd _ _ a z y
    split at this <;> omega
  · have := hd _ _ a z1 z2
    split at this <;> split at this <;> omega
theorem inp_upd {p : Addr} {o : HO} {H0 : Hp} {F' Fx : Addr → Prop} (gh : Same G H) (fp : F' p) (gp : G p = none) (hx : ∀ a, Fx a → H0 a = none) : Inp F' H0 G H (fun a => F' a ∨ Fx a) G (upd H p o) :=
  ⟨Same.refl _, fun a u h => by rw [upd_ne (fun e => by rw [e, gp] at h; cases h)]; exact gh a u h, fun a u h n => by rw [upd_ne (fun e => n (by rw [e]; exact fp))]; exact h,
    fun a u h => by
      by_cases e : a = p
      · rw [e]; exact ⟨_, upd_same⟩
      · exact ⟨u, by rw [upd_ne e]; exact h⟩, fun a z => z.imp id (hx a), fun a u h => .inl h⟩
theorem dom_upd {p : Addr} {o : HO} {F : Addr → Prop} (h : ∀ a, F a → (∃ o, H a = some o) ∧ G a = none) : ∀ a, F a → (∃ u, upd H p o a = some u) ∧ G a = none := fun a f => by
  obtain ⟨⟨u, hu⟩, g⟩ := h a f
  refine ⟨?_, g⟩
  by_cases e : a = p
  · rw [e]; exact ⟨_, upd_same⟩
  · exact ⟨u, by rw [upd_ne e]; exact hu⟩
/-! ### P[i] = e -/
def stJ (ρ : Env) (q : Nat × Pth) (ds : List D) (v : D) : Option Nat → RS
  | some m => .ok .nx (putSl ρ q (.lst (ds.set m v)) ρ[q.1]?)
  | none => .bad
@[simp] theorem stJ_some (ρ : Env) (q : Nat × Pth) (ds : List D) (v : D) (m : Nat) : stJ ρ q ds v (some m) = .ok .nx (putSl ρ q (.lst (ds.set m v)) ρ[q.1]?) := rfl
def stP (k : Nat) (ρ : Env) (q : Nat × Pth) (v : D) : Option (Nat × D) → D → RS
  | some (l, .lst ds), .int j => if l = k + 1 then stJ ρ q ds v (ixN ds.length j) else .bad
  | _, _ => .bad
@[simp] theorem stP_eq (k : Nat) (ρ : Env) (q : Nat × Pth) (v : D) (l : Nat) (ds : List D) (j : Int) : stP k ρ q v (some (l, .lst ds)) (.int j) = if l = k + 1 then stJ ρ q ds v (ixN ds.length j) else .bad := rfl
def sStP (k : Nat) (P : PaF) (i f : EF) : SF := fun ρ => toS (eFit k f ρ) ρ fun x => toS (P ρ) ρ fun q => toS (i ρ) ρ fun y => stP k ρ q x.d (ownP q.2 ρ[q.1]?) y.d
@[simp] theorem sStP_eq (k : Nat) (P : PaF) (i f : EF) (ρ : Env) : sStP k P i f ρ = toS (eFit k f ρ) ρ fun x => toS (P ρ) ρ fun q => toS (i ρ) ρ fun y => stP k ρ q x.d (ownP q.2 ρ[q.1]?) y.d := rfl
end
section
variable {X : Cx} {cl : Clx} {W : WX} {pos : Pos}
theorem es_stP (k : Nat) {o i e : Expr} {P : PaF} {a f : EF} {pS : Pos} (hf : EvE X cl W e f) (ho : EvP X cl W o P) (hi : EvE X cl W i a) (hs : swapsWithSole [.Subscript o i pS] e pos.line X.env = pure false := by rfl) (hw : swappedStores [.Subscript o i pS] e X.env = pure none := by rfl)
    (h1 : (assignEach [.Subscript o i pS] X.env).map (·.2) = [assign (.Subscript o i pS) X.env] := by rfl)
    (ha : ∀ v, assign (.Subscript o i pS) X.env v = (do
      let ov ← holding [v] (eval o X.env)
      let iv ← holding [v, ov] (eval i X.env)
      standAt pS
      holding [v, ov, iv] (setItem ov iv v)
      release [v, ov, iv] []) := by intro _; rfl) : EvS X cl W (.Assign [.Subscript o i pS] e pos) (sStP k P a f) := by
  obtain ⟨t, pt, st⟩ := hf
  obtain ⟨tp, pp, sp⟩ := ho
  obtain ⟨ti, pi, si⟩ := hi
  refine ⟨_, ps_asg pt (pg_sub pp pi set_list ha) hs hw h1, fun ρ σ G H Fs env D hq => ?_⟩
  have hq0 := hq
  rw [sStP_eq] at hq
  refine (semFit k st).useS env hq fun x v G1 H1 F1 e1 p1 env1 o1 f1 hq1 => ?_
  obtain ⟨xb, xk⟩ := eFit_is e1
  refine sp.useS env1 (PostS.mono p1.sx hq1) fun q w G2 H2 e2 p2 env2 pa hq2 => ?_
  refine si.useS env2 hq2 fun y u G3 H3 F3 e3 p3 env3 o3 f3 hq3 => ?_
  rw [sStP_eq, e1, toS_ok, e2, toS_ok, e3, toS_ok] at hq0
  have px := (p1.trans p2).trans p3
  have pa3 : ∃ u, σ[q.1]? = some (some u) ∧ PathOf H3 q.2 u w := let ⟨u, hu, pu⟩ := pa; ⟨u, hu, pu.mono p3.hh⟩
  have ox := (o1.px p2).px p3
  have fx := (f1.px p2).px p3
  rw [xk] at ox
  rw [xb] at fx
  cases eo : ownP q.2 ρ[q.1]? with
  | none => rw [eo] at hq0; exact hq0.elim
  | some kc =>
    obtain ⟨l, c⟩ := kc
    rw [eo] at hq0
    obtain ⟨yb, yk, yd⟩ := y
    cases c with
    | lst ds =>
      cases yd with
      | int j =>
        rw [stP_eq] at hq0
        by_cases hl : l = k + 1
        · rw [if_pos hl] at hq0
          subst hl
          obtain ⟨n, d, F', h0, o, sb, _, put⟩ := env.atP px eo pa3
          cases ej : ixN ds.length j with
          | none => rw [ej] at hq0; exact hq0.elim
          | some m =>
            rw [ej, stJ_some] at hq0
            have o' := o
            obtain ⟨p, vs, Fs', rfl, hp, fp, hn, _⟩ := o'
            have dj : ∀ a, F1 a → ¬ F' a := fun a f z => foo_un env fx a f ⟨_, sb a z⟩
            obtain ⟨_, _, on⟩ := own_setL (j := m) o hp ox dj
            obtain ⟨env4, s4⟩ := put _ G3 _ _ on (dom_upd fun a z => by
              rcases z with z | z
              · exact env3.dom _ a (sb a z)
              · exact ⟨(fx a z).1, (fx a z).2.1⟩) (inp_upd env3.gh fp (env3.dom _ p (sb p fp)).2 fun a z => (fx a z).2.2 rfl)
            exact ⟨p, vs, j, m, rfl, o3.int, hp, by rw [hn]; exact ej, hq0 σ G3 _ _ env4 s4⟩
        · rw [if_neg hl] at hq0; exact hq0.elim
      | _ => exact hq0.elim
    | _ => cases yd <;> exact hq0.elim
/-! ### P[i] += e, of ints -/
def agA (ρ : Env) (q : Nat × Pth) (ds : List D) (m : Nat) : Option D → (D → RS) → RS
  | some (.int a), g => g (.int a)
  | _, _ => .bad
def agV (ρ : Env) (q : Nat × Pth) (ds : List D) (m : Nat) : D → D → RS
  | .int a, .int b => .ok .nx (putSl ρ q (.lst (ds.set m (.int (a + b)))) ρ[q.1]?)
  | _, _ => .bad
def agJ (ρ : Env) (q : Nat × Pth) (ds : List D) (f : EF) : Option Nat → RS
  | some m => agA ρ q ds m ds[m]? fun a => toS (eS f ρ) ρ fun z => agV ρ q ds m a z.d
  | none => .bad
def agP (ρ : Env) (q : Nat × Pth) (f : EF) : Option (Nat × D) → D → RS
  | some (_, .lst ds), .int j => agJ ρ q ds f (ixN ds.length j)
  | _, _ => .bad
@[simp] theorem agA_int (ρ : Env) (q : Nat × Pth) (ds : List D) (m : Nat) (a : Int) (g : D → RS) : agA ρ q ds m (some (.int a)) g = g (.int a) := rfl
@[simp] theorem agV_int (ρ : Env) (q : Nat × Pth) (ds : List D) (m : Nat) (a b : Int) : agV ρ q ds m (.int a) (.int b) = .ok .nx (putSl ρ q (.lst (ds.set m (.int (a + b)))) ρ[q.1]?) := rfl
@[simp] theorem agJ_some (ρ : Env) (q : Nat × Pth) (ds : List D) (f : EF) (m : Nat) : agJ ρ q ds f (some m) = agA ρ q ds m ds[m]? fun a => toS (eS f ρ) ρ fun z => agV ρ q ds m a z.d := rfl
@[simp] theorem agP_eq (ρ : Env) (q : Nat × Pth) (f : EF) (l : Nat) (ds : List D) (j : Int) : agP ρ q f (some (l, .lst ds)) (.int j) = agJ ρ q ds f (ixN ds.length j) := rfl
def sAgP (P : PaF) (i f : EF) : SF := fun ρ => toS (P ρ) ρ fun q => toS (i ρ) ρ fun y => agP ρ q f (ownP q.2 ρ[q.1]?) y.d
@[simp] theorem sAgP_eq (P : PaF) (i f : EF) (ρ : Env) : sAgP P i f ρ = toS (P ρ) ρ fun q => toS (i ρ) ρ fun y => agP ρ q f (ownP q.2 ρ[q.1]?) y.d := rfl
theorem get_list : PGet X (rIxL X.K) := by
  intro pins s σ H o i ov iv Q I rx ry h
  obtain ⟨p, xs, i, z, rfl, rfl, hq, he, q⟩ := h
  cases rx
  obtain ⟨t, rfl⟩ := ry
  obtain ⟨its, r, pl, hz⟩ := I.list hq
  obtain ⟨j, h1, h2, h3, h4, h5⟩ := atI_get he
  obtain ⟨w, ew, rw'⟩ := r.get h2
  have hl := r.length
  have hn := line63
  have fin : EP X pins σ Q w s := ⟨z, H, I, rw', q⟩
  by_cases h0 : 0 ≤ i
  · have hj : i.toNat = j := by
      rw [seqIndex_of h0 h5] at h1
      exact Option.some.inj h1
    exact wpAny_getItem_list pl.isList h0 (by omega) (by rw [hj]; simpa using ew) fin
  · have hj : (i + (its.toArray.size : Int)).toNat = j := by
      rw [seqIndex_neg (by omega) h4] at h1
      rw [List.size_toArray, ← hl]
      exact Option.some.inj h1
    exact wpAny_getItem_list_neg pl.isList (by omega) (by rw [List.size_toArray] <;> omega) (by omega) (by rw [hj]; simpa using ew) fin
theorem es_agP {o i e : Expr} {P : PaF} {a f : EF} {pS : Pos} (ho : EvP X cl W o P) (hi : EvE X cl W i a) (hf : EvE X cl W e f)
    (ha : ∀ ov iv new, augStore i ov iv new = (do holding [new, ov, iv] (setItem ov iv new); release [new, ov, iv] []; pure .next) := by intros; rfl) : EvS X cl W (.AugAssign (.Subscript o i pS) .Add e pos) (sAgP P a f) := by
  obtain ⟨tp, pp, sp⟩ := ho
  obtain ⟨ti, pi, si⟩ := hi
  obtain ⟨t, pt, st⟩ := hf
  refine ⟨_, ps_augS pp pi get_list pt ip_add set_list ha, fun ρ σ G H Fs env D hq => ?_⟩
  have hq0 := hq
  rw [sAgP_eq] at hq
  refine sp.useS env hq fun q w G2 H2 e2 p2 env2 pa hq2 => ?_
  refine si.useS env2 hq2 fun y u G3 H3 F3 e3 p3 env3 o3 f3 hq3 => ?_
  rw [sAgP_eq, e2, toS_ok, e3, toS_ok] at hq0
  have px := p2.trans p3
  have pa3 : ∃ u, σ[q.1]? = some (some u) ∧ PathOf H3 q.2 u w := let ⟨u, hu, pu⟩ := pa; ⟨u, hu, pu.mono p3.hh⟩
  cases eo : ownP q.2 ρ[q.1]? with
  | none => rw [eo] at hq0; exact hq0.elim
  | some kc =>
    obtain ⟨l, c⟩ := kc
    rw [eo] at hq0 hq3
    obtain ⟨yb, yk, yd⟩ := y
    cases c with
    | lst ds =>
      cases yd with
      | int j =>
        rw [agP_eq] at hq0 hq3
        cases ej : ixN ds.length j with
        | none => rw [ej] at hq0; exact hq0.elim
        | some m =>
          rw [ej, agJ_some] at hq0 hq3
          have hm := (ixN_seq ej).2.1
          obtain ⟨d0, hd0⟩ : ∃ d0, ds[m]? = some d0 := ⟨_, List.getElem?_eq_getElem hm⟩
          rw [hd0] at hq0 hq3
          cases d0 with
          | int b =>
            rw [agA_int] at hq0 hq3
            obtain ⟨n, d, F', h0, o, sb, k1, _⟩ := env.atP px eo pa3
            obtain ⟨l', rfl⟩ : ∃ k', l = k' + 1 := ⟨l - 1, by omega⟩
            obtain ⟨p, vs, Fs', rfl, hp, fp, hn, hr, _⟩ := o
            obtain ⟨v0, hv0⟩ : ∃ v0, vs[m]? = some v0 := ⟨_, List.getElem?_eq_getElem (by rw [hn]; exact hm)⟩
            have ev0 : v0 = .int b := (hr m _ _ hv0 hd0).int
            subst ev0
            refine ⟨p, vs, j, .int b, rfl, o3.int, .inl (.inl hp), ?_, ?_⟩
            · unfold atI
              rw [hn, ej]
              exact hv0
            refine (semS st).useS env3 (PostS.mono p3.sx hq3) fun z v4 G4 H4 F4 e4 p4 env4 o4 f4 hq4 => ?_
            rw [e4, toS_ok] at hq0
            obtain ⟨zb, zk, zd⟩ := z
            cases zd with
            | int b2 =>
              rw [agV_int] at hq0
              obtain ⟨_, _, F5, _, o5, sb5, _, put⟩ := env.atP (px.trans p4) eo (let ⟨u, hu, pu⟩ := pa3; ⟨u, hu, pu.mono p4.hh⟩)
              obtain ⟨_, _, on⟩ := own_setL (j := m) (u := .int (b + b2)) (x := .int (b + b2)) (Fx := fun _ => False) o5 (p4.hh _ _ hp) (Own.ofFlat (Rep.int _) (by simp)) (fun a z => z.elim)
              have fp5 : F5 p := (own_setL (j := m) (u := .int (b + b2)) (x := .int (b + b2)) (Fx := fun _ => False) o5 (p4.hh _ _ hp) (Own.ofFlat (Rep.int _) (by simp)) (fun a z => z.elim)).1
              obtain ⟨env6, s6⟩ := put _ G4 _ _ on (dom_upd fun a z => z.elim (fun z => env4.dom _ a (sb5 a z)) False.elim) (inp_upd env4.gh fp5 (env4.dom _ p (sb5 p fp5)).2 fun a z => z.elim)
              exact ⟨b, b2, rfl, o4.int, p, vs, j, m, rfl, o3.int, p4.hh _ _ hp, by rw [hn]; exact ej, hq0 σ G4 _ _ env6 s6⟩
            | _ => exact hq0.elim
          | _ => exact hq0.elim
      | _ => exact hq0.elim
    | _ => cases yd <;> exact hq0.elim
end
end B
namespace B
open PySem L2
section
variable {K : PySem.W.Frag} {cl : Clx} {W : WX} {ρ : Env} {σ : L2.St} {G H G' H' : Hp} {Fs Fs' : Foot} {c0 : Str → Addr}
/-! ### P.f = e -/
def sfP (k : Nat) (os : List Str) (f : Str) (ρ : Env) (q : Nat × Pth) (v : D) : Option (Nat × D) → RS
  | some (l, .obj C fs) => if l = k + 1 ∧ cMem os C = true ∧ fs.length < 1000 then .ok .nx (putSl ρ q (.obj C (putD f v fs)) ρ[q.1]?) else .bad
  | _ => .bad
@[simp] theorem sfP_eq (k : Nat) (os : List Str) (f : Str) (ρ : Env) (q : Nat × Pth) (v : D) (l : Nat) (C : Str) (fs : List (Str × D)) : sfP k os f ρ q v (some (l, .obj C fs)) = if l = k + 1 ∧ cMem os C = true ∧ fs.length < 1000 then .ok .nx (putSl ρ q (.obj C (putD f v fs)) ρ[q.1]?) else .bad := rfl
def sFdP (k : Nat) (os : List Str) (f : Str) (P : PaF) (a : EF) : SF := fun ρ => toS (eFit k a ρ) ρ fun x => toS (P ρ) ρ fun q => sfP k os f ρ q x.d (ownP q.2 ρ[q.1]?)
@[simp] theorem sFdP_eq (k : Nat) (os : List Str) (f : Str) (P : PaF) (a : EF) (ρ : Env) : sFdP k os f P a ρ = toS (eFit k a ρ) ρ fun x => toS (P ρ) ρ fun q => sfP k os f ρ q x.d (ownP q.2 ρ[q.1]?) := rfl
/-! ### P.f += e, of ints -/
def sgV (f : Str) (C : Str) (fs : List (Str × D)) (ρ : Env) (q : Nat × Pth) : D → D → RS
  | .int a, .int b => .ok .nx (putSl ρ q (.obj C (putD f (.int (a + b)) fs)) ρ[q.1]?)
  | _, _ => .bad
@[simp] theorem sgV_int (f : Str) (C : Str) (fs : List (Str × D)) (ρ : Env) (q : Nat × Pth) (a b : Int) : sgV f C fs ρ q (.int a) (.int b) = .ok .nx (putSl ρ q (.obj C (putD f (.int (a + b)) fs)) ρ[q.1]?) := rfl
def sgO (f : Str) (C : Str) (fs : List (Str × D)) (ρ : Env) (q : Nat × Pth) (e : EF) : Option D → RS
  | some (.int a) => toS (eS e ρ) ρ fun z => sgV f C fs ρ q (.int a) z.d
  | _ => .bad
@[simp] theorem sgO_int (f : Str) (C : Str) (fs : List (Str × D)) (ρ : Env) (q : Nat × Pth) (e : EF) (a : Int) : sgO f C fs ρ q e (some (.int a)) = toS (eS e ρ) ρ fun z => sgV f C fs ρ q (.int a) z.d := rfl
def sgP (os : List Str) (f : Str) (ρ : Env) (q : Nat × Pth) (e : EF) : Option (Nat × D) → RS
  | some (_, .obj C fs) => if cMem os C = true ∧ fs.length < 999 then sgO f C fs ρ q e (getF f fs) else .bad
  | _ => .bad
@[simp] theorem sgP_eq (os : List Str) (f : Str) (ρ : Env) (q : Nat × Pth) (e : EF) (l : Nat) (C : Str) (fs : List (Str × D)) : sgP os f ρ q e (some (l, .obj C fs)) = if cMem os C = true ∧ fs.length < 999 then sgO f C fs ρ q e (getF f fs) else .bad := rfl
def sFgP (os : List Str) (f : Str) (P : PaF) (e : EF) : SF := fun ρ => toS (P ρ) ρ fun q => sgP os f ρ q e (ownP q.2 ρ[q.1]?)
@[simp] theorem sFgP_eq (os : List Str) (f : Str) (P : PaF) (e : EF) (ρ : Env) : sFgP os f P e ρ = toS (P ρ) ρ fun q => sgP os f ρ q e (ownP q.2 ρ[q.1]?) := rfl
/-! ### P.append(e) and its like -/
def mtP (ρ : Env) (q : Nat × Pth) : Option (List D) → RS
  | some es => .ok .nx (putSl ρ q (.lst es) ρ[q.1]?)
  | none => .bad
@[simp] theorem mtP_some (ρ : Env) (q : Nat × Pth) (es : List D) : mtP ρ q (some es) = .ok .nx (putSl ρ q (.lst es) ρ[q.1]?) := rfl
def atL1 : Option (Nat × D) → (List D → RS) → RS
  | some (1, .lst ds), g => g ds
  | _, _ => .bad
@[simp] theorem atL1_eq (ds : List D) (g : List D → RS) : atL1 (some (1, .lst ds)) g = g ds := rfl
theorem atL1_of {o : Option (Nat × D)} {g : List D → RS} (h : atL1 o g ≠ .bad) : ∃ ds, o = some (1, .lst ds) := by
  unfold atL1 at h
  split at h
  · exact ⟨_, rfl⟩
  · exact (h rfl).elim
def sMtP (g : List D → D → Option (List D)) (P : PaF) (f : EF) : SF := fun ρ => toS (P ρ) ρ fun q => atL1 (ownP q.2 ρ[q.1]?) fun ds => toS (eS f ρ) ρ fun y => mtP ρ q (g ds y.d)
@[simp] theorem sMtP_eq (g : List D → D → Option (List D)) (P : PaF) (f : EF) (ρ : Env) : sMtP g P f ρ = toS (P ρ) ρ fun q => atL1 (ownP q.2 ρ[q.1]?) fun ds => toS (eS f ρ) ρ fun y => mtP ρ q (g ds y.d) := rfl
def sMt0P (g : List D → Option (List D)) (P : PaF) : SF := fun ρ => toS (P ρ) ρ fun q => atL1 (ownP q.2 ρ[q.1]?) fun ds => mtP ρ q (g ds)
@[simp] theorem sMt0P_eq (g : List D → Option (List D)) (P : PaF) (ρ : Env) : sMt0P g P ρ = toS (P ρ) ρ fun q => atL1 (ownP q.2 ρ[q.1]?) fun ds => mtP ρ q (g ds) := rfl
theorem Own.repL {p : Addr} {vs : List V} {ds : List D} {F : Addr → Prop} (o : Own K c0 H G 1 (.ref p) (.lst ds) F) (hp : H p = some (.lst vs)) : RepL K c0 G vs ds := by
  obtain ⟨q, vs', Fs, e, hq, fp, hl, hr, hs, hd⟩ := o
  cases e
  rw [hp] at hq
  cases hq
  exact ⟨hl, hr⟩
theorem own1' {p : Addr} {vs : List V} {ds : List D} {F : Addr → Prop} (hp : H p = some (.lst vs)) (r : RepL K c0 G vs ds) (fp : F p) : Own K c0 H G 1 (.ref p) (.lst ds) F :=
  ⟨p, vs, fun _ _ => False, rfl, hp, fp, r.1, fun i v d h1 h2 => r.2 i v d h1 h2, fun _ _ z => z.elim, fun _ _ _ z => z.elim⟩
/-- the owned list at a path takes other items (all frozen) -/
theorem EnvR.putL1 {G0 H0 : Hp} (env0 : EnvR K cl ρ σ G0 H0 Fs) (p0 : Px G0 H0 G H) {q : Nat × Pth} {ds : List D} {w : V} (h : ownP q.2 ρ[q.1]? = some (1, .lst ds)) (hw : ∃ u, σ[q.1]? = some (some u) ∧ PathOf H q.2 u w) :
    ∃ p vs, w = .ref p ∧ H p = some (.lst vs) ∧ RepL K cl.c G vs ds ∧ ∀ us es, RepL K cl.c G us es → ∃ Fs2, EnvR K cl (putSl ρ q (.lst es) ρ[q.1]?) σ G (upd H p (.lst us)) Fs2 ∧ Sx (Un Fs) G0 H0 (Un Fs2) G (upd H p (.lst us)) := by
  have env := env0.px p0
  obtain ⟨n, d, F', h0, o, sb, _, put⟩ := env0.atP p0 h hw
  have o' := o
  obtain ⟨p, vs, Fs', rfl, hp, fp, hn, _⟩ := o'
  refine ⟨p, vs, rfl, hp, o.repL hp, fun us es r => ?_⟩
  exact ⟨_, put _ G (.lst es) (fun a => F' a ∨ False) (own1' upd_same r (.inl fp)) (dom_upd fun a z => z.elim (fun z => env.dom _ a (sb a z)) False.elim) (inp_upd env.gh fp (env.dom _ p (sb p fp)).2 fun a z => z.elim)⟩
end
section
variable {X : Cx} {cl : Clx} {W : WX} {pos : Pos}
theorem es_mtP {c o e : Expr} {P : PaF} {f : EF} {r : V → List V → Hp → VK → Prop} {g : List D → D → Option (List D)} (hr : MtL X.K cl r g) (hpe : ∀ t u, PE X o t → PE X e u → PE X c (tBM X.K "list" r t (tCons u tNil))) (ho : EvP X cl W o P) (h : EvE X cl W e f)
    (hs : swapsWith c none pos.line X.env = pure false := by rfl) : EvS X cl W (.Expr c pos) (sMtP g P f) := by
  obtain ⟨t, pt, st⟩ := h
  obtain ⟨tp, pp, sp⟩ := ho
  refine ⟨_, ps_expr (hpe tp t pp pt) hs, fun ρ σ G H Fs env D hq => ?_⟩
  have hq0 := hq
  rw [sMtP_eq] at hq
  refine sp.useS env hq fun q w G2 H2 e2 p2 env2 pa hq2 => ?_
  rw [sMtP_eq, e2, toS_ok] at hq0
  obtain ⟨ds, eo⟩ := atL1_of (fun z => by rw [z] at hq0; exact hq0)
  rw [eo, atL1_eq] at hq0 hq2
  obtain ⟨p, vs, rfl, hp, _⟩ := env.putL1 p2 eo pa
  refine ⟨.inl ⟨rfl, vs, .inl (.inl hp)⟩, ?_⟩
  refine (semS st).useS env2 hq2 fun z v4 G4 H4 F4 e4 p4 env4 o4 f4 hq4 => ?_
  rw [e4, toS_ok] at hq0
  have r4 := frz_rep e4 o4
  obtain ⟨p', vs', e, hp', rl, up⟩ := env.putL1 (p2.trans p4) eo (let ⟨u, hu, pu⟩ := pa; ⟨u, hu, pu.mono p4.hh⟩)
  cases e
  cases eg : g ds z.d with
  | none => rw [eg] at hq0; exact hq0.elim
  | some es =>
    rw [eg, mtP_some] at hq0
    refine hr p vs' ds es v4 z.d G4 H4 _ env4.gh hp' rl r4 eg fun us ru => ?_
    obtain ⟨Fs2, env5, s5⟩ := up us es ru
    exact hq0 σ G4 _ _ env5 s5
theorem es_mt0P {c o : Expr} {P : PaF} {r : V → List V → Hp → VK → Prop} {g : List D → Option (List D)} (hr : MtL0 X.K cl r g) (hpe : ∀ t, PE X o t → PE X c (tBM0 X.K "list" r t)) (ho : EvP X cl W o P)
    (hs : swapsWith c none pos.line X.env = pure false := by rfl) : EvS X cl W (.Expr c pos) (sMt0P g P) := by
  obtain ⟨tp, pp, sp⟩ := ho
  refine ⟨_, ps_expr (hpe tp pp) hs, fun ρ σ G H Fs env D hq => ?_⟩
  have hq0 := hq
  rw [sMt0P_eq] at hq
  refine sp.useS env hq fun q w G2 H2 e2 p2 env2 pa hq2 => ?_
  rw [sMt0P_eq, e2, toS_ok] at hq0
  obtain ⟨ds, eo⟩ := atL1_of (fun z => by rw [z] at hq0; exact hq0)
  rw [eo, atL1_eq] at hq0
  obtain ⟨p, vs, rfl, hp, rl, up⟩ := env.putL1 p2 eo pa
  refine ⟨.inl ⟨rfl, vs, .inl (.inl hp)⟩, ?_⟩
  cases eg : g ds with
  | none => rw [eg] at hq0; exact hq0.elim
  | some es =>
    rw [eg, mtP_some] at hq0
    refine hr p vs ds es G2 H2 _ env2.gh hp rl eg fun us ru => ?_
    obtain ⟨Fs2, env5, s5⟩ := up us es ru
    exact hq0 σ G2 _ _ env5 s5
/-! ### P.append(e), the item with floors of its own -/
def apP (k : Nat) (ρ : Env) (q : Nat × Pth) (v : D) : Option (Nat × D) → RS
  | some (l, .lst ds) => if l = k + 1 ∧ ds.length < 10000 then .ok .nx (putSl ρ q (.lst (ds ++ [v])) ρ[q.1]?) else .bad
  | _ => .bad
@[simp] theorem apP_eq (k : Nat) (ρ : Env) (q : Nat × Pth) (v : D) (l : Nat) (ds : List D) : apP k ρ q v (some (l, .lst ds)) = if l = k + 1 ∧ ds.length < 10000 then .ok .nx (putSl ρ q (.lst (ds ++ [v])) ρ[q.1]?) else .bad := rfl
def isL : Option (Nat × D) → RS → RS
  | some (_, .lst _), r => r
  | _, _ => .bad
@[simp] theorem isL_eq (l : Nat) (ds : List D) (r : RS) : isL (some (l, .lst ds)) r = r := rfl
def sApP (k : Nat) (P : PaF) (f : EF) : SF := fun ρ => toS (P ρ) ρ fun q => isL (ownP q.2 ρ[q.1]?) (toS (eFit k f ρ) ρ fun y => apP k ρ q y.d (ownP q.2 ρ[q.1]?))
@[simp] theorem sApP_eq (k : Nat) (P : PaF) (f : EF) (ρ : Env) : sApP k P f ρ = toS (P ρ) ρ fun q => isL (ownP q.2 ρ[q.1]?) (toS (eFit k f ρ) ρ fun y => apP k ρ q y.d (ownP q.2 ρ[q.1]?)) := rfl
end
end B
namespace B
open PySem L2
/-! ### list comprehensions over what is owned, with items that stay owned -/
def YieldsH (K : PySem.W.Frag) (cl : Str → Addr) (G0 H0 : Hp) (J : It) (ds : List D) : Prop := ∀ (G H : Hp) (i : Nat), Same G0 G → Same H0 H → Same G H →
  (∀ d, ds[i]? = some d → J.go i H ∧ ∀ v H', J.yld i H v H' → ∃ G', Px G H G' H' ∧ Rep K cl G' v d) ∧ (ds[i]? = none → J.stop i H)
def PYH (K : PySem.W.Frag) (cl : Str → Addr) (Q : It → Hp → Prop) (ds : List D) (G H : Hp) : Prop := ∀ J G' H', Px G H G' H' → YieldsH K cl G' H' J ds → Q J H'
def SemIH (K : PySem.W.Frag) (cl : Clx) (W : WX) (t : TI) (F : IF) : Prop := ∀ ρ σ G H Fs, EnvR K cl ρ σ G H Fs → ∀ Q, PostG cl W σ G H (PYH K cl Q) (F ρ) → t σ H Q
def EvIH (X : Cx) (cl : Clx) (W : WX) (tg e : Expr) (F : IF) : Prop := ∃ t, PI X tg e t ∧ SemIH X.K cl W t F
theorem PYH.mono {K : PySem.W.Frag} {cl : Str → Addr} {Q : It → Hp → Prop} : Mono (PYH K cl Q) := fun x G H G' H' p h J G2 H2 p2 y => h J G2 H2 (p.trans p2) y
theorem EvI.h {X : Cx} {cl : Clx} {W : WX} {tg e : Expr} {F : IF} (h : EvI X cl W tg e F) : EvIH X cl W tg e F := by
  obtain ⟨t, p, s⟩ := h
  refine ⟨t, p, fun ρ σ G H Fs env Q hq => s ρ σ G H Fs env Q ?_⟩
  cases e : F ρ with
  | ok ds =>
    rw [e] at hq
    exact fun J G' H' px y => hq J G' H' px fun G2 H2 i g h gh => y G2 H2 i g gh
  | ex c => rw [e] at hq; exact hq
  | bad => rw [e] at hq; exact hq
/-- a list of floors up to one, borrowed or not -/
def asL1 (x : Vl) : R (List D) := match x.d with
  | .lst ds => if x.k ≤ 1 then .ok ds else .bad
  | _ => .bad
@[simp] theorem asL1_0 (b : Bool) (ds : List D) : asL1 ⟨b, 0, .lst ds⟩ = .ok ds := rfl
@[simp] theorem asL1_1 (b : Bool) (ds : List D) : asL1 ⟨b, 1, .lst ds⟩ = .ok ds := rfl
def iO (f : EF) : IF := fun ρ => (f ρ).bind asL1
@[simp] theorem iO_eq (f : EF) (ρ : Env) : iO f ρ = (f ρ).bind asL1 := rfl
section
variable {K : PySem.W.Frag} {cl : Clx} {W : WX} {ρ : Env} {σ : L2.St} {G H G' H' : Hp} {Fs Fs' : Foot} {c0 : Str → Addr}
theorem SemIH.useE {t : TI} {F : IF} (h : SemIH K cl W t F) (env : EnvR K cl ρ σ G H Fs) {α : Type} {g : List D → R α} {P : α → Hp → Hp → Prop} (hm : Mono P) (hq : PostG cl W σ G H P ((F ρ).bind g)) {C : It → Hp → Prop}
    (step : ∀ x J G' H', F ρ = .ok x → Px G H G' H' → EnvR K cl ρ σ G' H' Fs → YieldsH K cl G' H' J x → PostG cl W σ G' H' P (g x) → C J H') : t σ H C := by
  refine h ρ σ G H Fs env C ?_
  cases e : F ρ with
  | ok x =>
    rw [e] at hq
    exact fun J G' H' p y => step x J G' H' e p (env.px p) y (PostG.mono hm p hq)
  | ex c =>
    rw [e] at hq
    exact hq
  | bad =>
    rw [e] at hq
    exact hq
def lcItK (k : Nat) (g : GF) (t : TF) (e : EF) (ρ : Env) : List D → R (List D)
  | [] => .ok []
  | d :: ds => match g d ρ with
    | none => .bad
    | some ρ1 => (t ρ1).bind fun b => if b then (eFit k e ρ1).bind fun y => (lcItK k g t e ρ ds).bind fun r => .ok (y.d :: r) else lcItK k g t e ρ ds
@[simp] theorem lcItK_nil (k : Nat) (g : GF) (t : TF) (e : EF) (ρ : Env) : lcItK k g t e ρ [] = .ok [] := rfl
theorem lcItK_cons (k : Nat) (g : GF) (t : TF) (e : EF) (ρ : Env) (d : D) (ds : List D) : lcItK k g t e ρ (d :: ds) = match g d ρ with
    | none => .bad
    | some ρ1 => (t ρ1).bind fun b => if b then (eFit k e ρ1).bind fun y => (lcItK k g t e ρ ds).bind fun r => .ok (y.d :: r) else lcItK k g t e ρ ds := rfl
def lcEndK (k n : Nat) : R (List D) → R Vl
  | .ok es => if n ≤ 10000 then .ok ⟨false, k + 1, .lst es⟩ else .bad
  | _ => .bad
theorem lcEndK_ok {k n : Nat} (h : n ≤ 10000) (es : List D) : lcEndK k n (.ok es) = .ok ⟨false, k + 1, .lst es⟩ := if_pos h
def eLcK (k : Nat) (w : IF) (g : GF) (t : TF) (e : EF) (us : List Nat) : EF := fun ρ => (w ρ).bind fun ds => lcEndK k ds.length (lcItK k g t e (wipeE ρ us) ds)
@[simp] theorem eLcK_eq (k : Nat) (w : IF) (g : GF) (t : TF) (e : EF) (us : List Nat) (ρ : Env) : eLcK k w g t e us ρ = (w ρ).bind fun ds => lcEndK k ds.length (lcItK k g t e (wipeE ρ us) ds) := rfl
theorem EnvR.upd_out (env : EnvR K cl ρ σ G H Fs) {D : Addr} {o : HO} (gD : G D = none) (nD : ∀ i a, Fs i a → a ≠ D) : EnvR K cl ρ σ G (upd H D o) Fs := by
  refine ⟨env.len, fun a u ha => ?_, fun i k d hk => ?_, env.dis, fun i a fa => ?_, env.fx⟩
  · have hne : a ≠ D := fun z => by rw [z, gD] at ha; cases ha
    rw [upd_ne hne]
    exact env.gh a u ha
  · obtain ⟨w', hw', o'⟩ := env.own i k d hk
    exact ⟨w', hw', o'.step (Same.refl _) fun a ob fa ha => by rw [upd_ne (nD i a fa)]; exact ha⟩
  · obtain ⟨⟨u, hu⟩, g'⟩ := env.dom i a fa
    exact ⟨⟨u, by rw [upd_ne (nD i a fa)]; exact hu⟩, g'⟩
theorem wipe_idem : ∀ (us2 : List Nat) (σ : L2.St), L2.wipe (L2.wipe σ us2) us2 = L2.wipe σ us2
  | [], σ => rfl
  | u :: us2, σ => by
    show (L2.wipe ((L2.wipe σ us2).set u none) us2).set u none = (L2.wipe σ us2).set u none
    rw [wipe_set, wipe_idem us2]
    split
    · rfl
    · rw [List.set_set]
theorem semLcK {k : Nat} {wi : TI} {tg : TG} {tt : TT} {te : TE} {w : IF} {g : GF} {t : TF} {e : EF} {us T : List Nat} (h : SemIH K cl W wi w) (hg : SemG K cl tg g T) (hT : ∀ j ∈ T, j ∈ us) (ht : SemT K cl W0 tt t) (he : SemE K cl W0 te e) (hx : ∀ u ∈ us, cl.fix u = none) :
    SemE K cl W (tLc wi tg tt te us) (eLcK k w g t e us) := by
  intro ρ σ G H Fs env Q hq
  refine h.useE env PV.mono hq fun ds J G1 H1 _ p1 env1 y hq1 => ?_
  intro D hD
  have fr1 : ∀ i a, Fs i a → ∃ o, H1 a = some o := fun i a f => (env1.dom i a f).1
  cases el : lcItK k g t e (wipeE ρ us) ds with
  | bad => rw [el] at hq1; exact hq1.elim
  | ex c => rw [el] at hq1; exact hq1.elim
  | ok es =>
    rw [el] at hq1
    by_cases hlen : ds.length ≤ 10000
    · rw [lcEndK_ok hlen] at hq1
      refine ⟨fun i m H => m = ds.length - i ∧ i ≤ ds.length ∧ ∃ G acc dn rest FA, Px G1 H1 G H ∧ H D = some (.lst acc) ∧ Own K cl.c H G (k + 1) (.ref D) (.lst dn) FA ∧ (∀ a, FA a → H1 a = none ∧ (∃ o, H a = some o) ∧ G a = none) ∧ dn.length ≤ i ∧ EnvR K cl (wipeE ρ us) (L2.wipe σ us) G H Fs ∧ lcItK k g t e (wipeE ρ us) (ds.drop i) = .ok rest ∧ dn ++ rest = es,
        ⟨ds.length, rfl, Nat.zero_le _, G1, [], [], es, fun a => a = D, px_new env1.gh hD, upd_same, ⟨D, [], fun _ _ => False, rfl, upd_same, rfl, rfl, fun i v d h => by simp at h, fun _ _ z => z.elim, fun _ _ _ z => z.elim⟩, fun a ea => by subst ea; exact ⟨hD, ⟨_, upd_same⟩, env1.gh.free hD⟩, Nat.zero_le _, (env1.px (px_new env1.gh hD)).wipe us hx, el, rfl⟩, ?_⟩
      rintro i m H ⟨rfl, hi, G, acc, dn, rest, FA, px, hDa, oA, fA, hdn, envw, hl, hes⟩
      have fD : FA D := by
        obtain ⟨q, _, _, e, _, fp, _⟩ := oA
        cases e
        exact fp
      have gD : G D = none := (fA D fD).2.2
      obtain ⟨y1, y2⟩ := y G H i px.gg px.hh envw.gh
      cases ed : ds[i]? with
      | none =>
        refine .inl ⟨y2 ed, ?_⟩
        have hd : ds.drop i = [] := List.drop_eq_nil_of_le (List.getElem?_eq_none_iff.mp ed)
        rw [hd] at hl
        cases hl
        rw [List.append_nil] at hes
        subst hes
        exact hq1 _ G H FA px oA fun a ea => ⟨(fA a ea).2.1, (fA a ea).2.2, fun _ => (fA a ea).1⟩
      | some d =>
        have hlt : i < ds.length := (List.getElem?_eq_some_iff.mp ed).1
        have hd : ds.drop i = d :: ds.drop (i + 1) := by
          rw [List.drop_eq_getElem_cons hlt]
          congr 1
          exact (List.getElem?_eq_some_iff.mp ed).2
        rw [hd, lcItK_cons] at hl
        obtain ⟨go, yl⟩ := y1 d ed
        refine .inr ⟨go, fun H' => i + 1 ≤ ds.length ∧ ∃ G acc dn rest FA, Px G1 H1 G H' ∧ H' D = some (.lst acc) ∧ Own K cl.c H' G (k + 1) (.ref D) (.lst dn) FA ∧ (∀ a, FA a → H1 a = none ∧ (∃ o, H' a = some o) ∧ G a = none) ∧ dn.length ≤ i + 1 ∧ EnvR K cl (wipeE ρ us) (L2.wipe σ us) G H' Fs ∧ lcItK k g t e (wipeE ρ us) (ds.drop (i + 1)) = .ok rest ∧ dn ++ rest = es, fun H' n => ⟨ds.length - (i + 1), by omega, rfl, n⟩, fun v H' hy => ?_⟩
        obtain ⟨G2, p2, r2⟩ := yl v H' hy
        have env2 := envw.px p2
        refine hg _ _ G2 H' Fs v d env2 r2 _ ?_
        cases eg : g d (wipeE ρ us) with
        | none => rw [eg] at hl; cases hl
        | some ρ1 =>
          rw [eg] at hl
          intro σ2 F2 env3 hsub hw
          refine ⟨?_, ?_⟩
          · have h1 := hw us hT
            rw [h1]
            exact wipe_idem us σ
          · dsimp only at hl
            refine ht ρ1 σ2 G2 H' F2 env3 _ ?_
            cases et : t ρ1 with
            | bad => rw [et] at hl; cases hl
            | ex c => rw [et] at hl; cases hl
            | ok b =>
              rw [et] at hl
              intro G3 H3 p3
              have env4 := env3.px p3
              have p23 := p2.trans p3
              have px3 := px.trans p23
              have hD3 : H3 D = some (.lst acc) := p23.hh _ _ hDa
              have oA3 := oA.px p23
              have fA3 : ∀ a, FA a → H1 a = none ∧ (∃ o, H3 a = some o) ∧ G3 a = none := fun a fa => by
                obtain ⟨h1, ⟨o, ho⟩, hg⟩ := fA a fa
                exact ⟨h1, ⟨o, p23.hh _ _ ho⟩, none_of_px p23 hg ho⟩
              cases b with
              | false =>
                exact iteF ⟨hlt, G3, acc, dn, rest, FA, px3, hD3, oA3, fA3, Nat.le_succ_of_le hdn, envw.px p23, hl, hes⟩
              | true =>
                refine iteT ?_
                have hl : (eFit k e ρ1).bind (fun y => (lcItK k g t e (wipeE ρ us) (ds.drop (i + 1))).bind fun r => .ok (y.d :: r)) = .ok rest := hl
                refine semFit k he ρ1 σ2 G3 H3 F2 env4 _ ?_
                cases ee : eFit k e ρ1 with
                | bad => rw [ee] at hl; cases hl
                | ex c => rw [ee] at hl; cases hl
                | ok x =>
                  rw [ee, R.bind_ok] at hl
                  obtain ⟨xb, xk⟩ := eFit_is ee
                  intro u G4 H4 F4 p4 o4 f4
                  rw [xk] at o4
                  rw [xb] at f4
                  cases er : lcItK k g t e (wipeE ρ us) (ds.drop (i + 1)) with
                  | bad => rw [er] at hl; cases hl
                  | ex c => rw [er] at hl; cases hl
                  | ok rest' =>
                    rw [er, R.bind_ok] at hl
                    cases hl
                    have hD4 : H4 D = some (.lst acc) := p4.hh _ _ hD3
                    have px4 := px3.trans p4
                    have oA4 := oA3.px p4
                    have fA4 : ∀ a, FA a → H1 a = none ∧ (∃ o, H4 a = some o) ∧ G4 a = none := fun a fa => by
                      obtain ⟨h1, ⟨o, ho⟩, hg⟩ := fA3 a fa
                      exact ⟨h1, ⟨o, p4.hh _ _ ho⟩, none_of_px p4 hg ho⟩
                    have dj : ∀ a, F4 a → ¬ FA a := fun a fa z => by
                      obtain ⟨_, ⟨o, ho⟩, _⟩ := fA3 a z
                      rw [(f4 a fa).2.2 rfl] at ho
                      cases ho
                    obtain ⟨_, hlA, oN⟩ := own_appL oA4 hD4 o4 dj
                    have gD4 := (fA4 D fD).2.2
                    have nD : ∀ i a, Fs i a → a ≠ D := fun i a fa z => by
                      obtain ⟨o, ho⟩ := fr1 i a fa
                      rw [z, hD] at ho
                      cases ho
                    refine ⟨acc, hD4, lt_line2 (by rw [hlA]; omega), hlt, G4, acc ++ [u], dn ++ [x.d], rest', fun a => FA a ∨ F4 a, ?_, upd_same, oN, fun a z => ?_, by simp; omega, (((envw.px p2).px p3).px p4).upd_out gD4 nD, rfl, by simpa using hes⟩
                    · refine ⟨fun a o ha => ?_, px4.gg, fun a o ha => ?_, px4.gn⟩
                      · rw [upd_ne (ne_of_none ha hD)]
                        exact px4.hh a o ha
                      · have hne : a ≠ D := fun z => by rw [z, gD4] at ha; cases ha
                        rw [upd_ne hne]
                        exact px4.gh a o ha
                    · have e1 : (∃ o, H4 a = some o) ∧ G4 a = none ∧ H1 a = none := by
                        rcases z with z | z
                        · exact ⟨(fA4 a z).2.1, (fA4 a z).2.2, (fA4 a z).1⟩
                        · exact ⟨(f4 a z).1, (f4 a z).2.1, px3.hh.free ((f4 a z).2.2 rfl)⟩
                      refine ⟨e1.2.2, ?_, e1.2.1⟩
                      by_cases ea : a = D
                      · rw [ea]; exact ⟨_, upd_same⟩
                      · rw [upd_ne ea]; exact e1.1
    · have : lcEndK k ds.length (.ok es) = .bad := if_neg hlen
      rw [this] at hq1
      exact hq1.elim
end
section
variable {X : Cx} {cl : Clx} {W : WX} {pos : Pos} {tg : Expr}
theorem eih_list {e : Expr} {f : EF} (h : EvE X cl W e f) : EvIH X cl W tg e (iO f) := by
  obtain ⟨t, p, s⟩ := h
  refine ⟨_, pi_list p, fun ρ σ G H Fs env Q hq => ?_⟩
  refine s.use env PYH.mono hq fun x v G1 H1 F1 e1 p1 env1 o1 f1 hq1 => ?_
  obtain ⟨b, k, d⟩ := x
  cases d with
  | lst ds =>
    have e2 : asL1 ⟨b, k, .lst ds⟩ = if k ≤ 1 then .ok ds else .bad := rfl
    rw [e2] at hq1
    by_cases hk : k ≤ 1
    · rw [if_pos hk] at hq1
      obtain ⟨a, vs, rfl, hS, rl⟩ := Own.flat hk o1 env1.gh
      refine ⟨a, rfl, ⟨vs, .inl hS⟩, hq1 _ G1 H1 (Px.refl env1.gh) fun G2 H2 i g h gh => ?_⟩
      have h1 : SqL X.K H2 a vs := .inl (rdEx h hS)
      refine ⟨fun d hd => ?_, fun hd => ⟨vs, h1, rl.none hd⟩⟩
      obtain ⟨v, hv, rv⟩ := rl.some hd
      refine ⟨⟨vs, v, h1, hv⟩, fun u H' hy => ?_⟩
      obtain ⟨rfl, hy⟩ := hy
      have eu : v = u := Option.some.inj (hv.symm.trans (hy vs h1))
      subst eu
      exact ⟨G2, Px.refl gh, rv.mono g⟩
    · rw [if_neg hk] at hq1
      exact hq1.elim
  | _ => exact hq1.elim
theorem ev_lcK (k : Nat) {elt tg iter : Expr} {ifs : List Expr} {scope : Scope} {own : List (Str × Nat)} {w : IF} {g : GF} {T : List Nat} {t : TF} {e : EF} (hc : X.calm = true) (hN : X.N.Nodup) (hi : EvIH X cl W tg iter w) (ok : BlkOk X.N X.env.scope scope own)
    (hg : ∀ s H C c fp, EvG (X.blk s H scope (compEnvC scope c C X.env) fp) cl tg g T) (ht : ∀ s H C c fp, EvTs (X.blk s H scope (compEnvC scope c C X.env) fp) cl W0 ifs t) (he : ∀ s H C c fp, EvE (X.blk s H scope (compEnvC scope c C X.env) fp) cl W0 elt e)
    (hT : ∀ j ∈ T, j ∈ own.map (·.2) := by decide) (hs : ∀ x, foldedSetIterable iter X.env x = pure x := by intro _; rfl) (hfo : ∀ u ∈ own.map (·.2), cl.fix u = none := by intro u _; rfl) : EvE X cl W (.ListComp elt [⟨tg, iter, ifs, 0⟩] scope pos) (eLcK k w g t e (own.map (·.2))) := by
  obtain ⟨ti, pi, si⟩ := hi
  obtain ⟨tg', pg, sg⟩ := uniG hg
  obtain ⟨tt, pt, st⟩ := uniT ht
  obtain ⟨te, pe, se⟩ := uniE he
  exact ⟨_, pe_lc hc hN pi ok pg pt pe hs, semLcK si sg hT st se hfo⟩
/-- y = [..], by a change F of the value ahead of the store -/
theorem es_setLcF (i : Nat) {y : Str} {py spos : Pos} {elt tg iter : Expr} {ifs : List Expr} {scope : Scope} {own : List (Str × Nat)} {w : IF} {g : GF} {T : List Nat} {t : TF} {e : EF} {k : Nat} {F : EF → EF} (hF : ∀ {K : PySem.W.Frag} {t : TE} {f : EF}, SemE K cl W t f → SemE K cl W t (F f)) (hc : X.calm = true) (hN : X.N.Nodup) (hi : EvIH X cl W tg iter w) (ok : BlkOk X.N X.env.scope scope own)
    (hg : ∀ s H C c fp, EvG (X.blk s H scope (compEnvC scope c C X.env) fp) cl tg g T) (ht : ∀ s H C c fp, EvTs (X.blk s H scope (compEnvC scope c C X.env) fp) cl W0 ifs t) (he : ∀ s H C c fp, EvE (X.blk s H scope (compEnvC scope c C X.env) fp) cl W0 elt e)
    (hsw : swapsWith (.ListComp elt [⟨tg, iter, ifs, 0⟩] scope pos) (some (.Name y py)) spos.line X.env = pure true) (hy : X.N[i]? = some y := by rfl) (hyl : X.env.scope.names.lookup y = some .local := by rfl) (hfx : cl.fix i = none := by rfl)
    (hT : ∀ j ∈ T, j ∈ own.map (·.2) := by decide) (hs : ∀ x, foldedSetIterable iter X.env x = pure x := by intro _; rfl) (hfo : ∀ u ∈ own.map (·.2), cl.fix u = none := by intro u _; rfl) : EvS X cl W (.Assign [.Name y py] (.ListComp elt [⟨tg, iter, ifs, 0⟩] scope pos) spos) (sSet i (F (eLcK k w g t e (own.map (·.2))))) := by
  obtain ⟨ti, pi, si⟩ := hi
  obtain ⟨tg', pg, sg⟩ := uniG hg
  obtain ⟨tt, pt, st⟩ := uniT ht
  obtain ⟨te, pe, se⟩ := uniE he
  exact ⟨_, ps_setLc hc hN hy hyl hsw pi ok pg pt pe hs, semSet (hF (semLcK si sg hT st se hfo)) hfx⟩
/-! ### [a, b, ..] whose items stay owned -/
end
end B
namespace B
open PySem L2
/-! ### for v in xs: v changes (xs a list of one's own, with floors under it) -/
def Clx.fx (cl : Clx) (j : Nat) (v : V) : Clx := ⟨cl.c, fun n => if n = j then some v else cl.fix n⟩
def fmJ (k : Nat) (dn : List D) (j : Nat) (ρ : Env) (go : List D → Env → RS) : Option Slot → RS
  | some (some (k', d')) => if k' = k then go (dn ++ [d']) (ρ.set j none) else .bad
  | _ => .bad
@[simp] theorem fmJ_eq (k : Nat) (dn : List D) (j : Nat) (ρ : Env) (go : List D → Env → RS) (k' : Nat) (d' : D) : fmJ k dn j ρ go (some (some (k', d'))) = if k' = k then go (dn ++ [d']) (ρ.set j none) else .bad := rfl
def fmR (k : Nat) (dn : List D) (j : Nat) (go : List D → Env → RS) : RS → RS
  | .ok .nx ρ => fmJ k dn j ρ go ρ[j]?
  | .ok .ct ρ => fmJ k dn j ρ go ρ[j]?
  | .ok .bk ρ => .ok .nx ρ
  | r => r
@[simp] theorem fmR_nx (k : Nat) (dn : List D) (j : Nat) (go : List D → Env → RS) (ρ : Env) : fmR k dn j go (.ok .nx ρ) = fmJ k dn j ρ go ρ[j]? := rfl
@[simp] theorem fmR_ct (k : Nat) (dn : List D) (j : Nat) (go : List D → Env → RS) (ρ : Env) : fmR k dn j go (.ok .ct ρ) = fmJ k dn j ρ go ρ[j]? := rfl
@[simp] theorem fmR_bk (k : Nat) (dn : List D) (j : Nat) (go : List D → Env → RS) (ρ : Env) : fmR k dn j go (.ok .bk ρ) = .ok .nx ρ := rfl
@[simp] theorem fmR_rt (k : Nat) (dn : List D) (j : Nat) (go : List D → Env → RS) (l : Nat) (d : D) (ρ : Env) : fmR k dn j go (.ok (.rt l d) ρ) = .ok (.rt l d) ρ := rfl
@[simp] theorem fmR_ex (k : Nat) (dn : List D) (j : Nat) (go : List D → Env → RS) (c : Str) (ρ : Env) : fmR k dn j go (.ex c ρ) = .ex c ρ := rfl
def fmIt (i j k : Nat) (f : SF) : List D → List D → Env → RS
  | [], dn, ρ => .ok .nx (ρ.set i (some (k + 1, .lst dn)))
  | d :: ds, dn, ρ => fmR k dn j (fun dn ρ => fmIt i j k f ds dn ρ) (f (ρ.set j (some (k, d))))
@[simp] theorem fmIt_nil (i j k : Nat) (f : SF) (dn : List D) (ρ : Env) : fmIt i j k f [] dn ρ = .ok .nx (ρ.set i (some (k + 1, .lst dn))) := rfl
def fmS (i j k : Nat) (f : SF) (ρ : Env) : Option Slot → RS
  | some (some (l, .lst ds)) => if l = k + 1 ∧ j < ρ.length then fmIt i j k f ds [] ((ρ.set i none).set j none) else .bad
  | _ => .bad
@[simp] theorem fmS_eq (i j k : Nat) (f : SF) (ρ : Env) (l : Nat) (ds : List D) : fmS i j k f ρ (some (some (l, .lst ds))) = if l = k + 1 ∧ j < ρ.length then fmIt i j k f ds [] ((ρ.set i none).set j none) else .bad := rfl
def sForM (i j k : Nat) (f : SF) : SF := fun ρ => fmS i j k f ρ ρ[i]?
@[simp] theorem sForM_eq (i j k : Nat) (f : SF) (ρ : Env) : sForM i j k f ρ = fmS i j k f ρ ρ[i]? := rfl
section
variable {K : PySem.W.Frag} {cl : Clx} {W : WX} {ρ : Env} {σ : L2.St} {G H G' H' : Hp} {Fs Fs' : Foot} {c0 : Str → Addr}
def FsD (i : Nat) (Fs : Foot) : Foot := fun j a => j ≠ i ∧ Fs j a
theorem EnvR.hide (env : EnvR K cl ρ σ G H Fs) (i : Nat) : EnvR K cl (ρ.set i none) σ G H (FsD i Fs) := by
  refine ⟨by simp [env.len], env.gh, fun j k d h => ?_, fun j l a h1 h2 => env.dis j l a h1.2 h2.2, fun j a h => env.dom j a h.2, env.fx⟩
  by_cases hj : j = i
  · subst hj
    have hlt : j < ρ.length := by
      have := (List.getElem?_eq_some_iff.mp h).1
      simpa using this
    rw [List.getElem?_set_self hlt] at h
    cases h
  · rw [List.getElem?_set_ne (Ne.symm hj)] at h
    obtain ⟨v, hv, o⟩ := env.own j k d h
    exact ⟨v, hv, o.weak fun a z => ⟨hj, z⟩⟩
theorem EnvR.unfx {j : Nat} {v : V} (env : EnvR K (cl.fx j v) ρ σ G H Fs) (hx : cl.fix j = none) : EnvR K cl ρ σ G H Fs := by
  refine ⟨env.len, env.gh, env.own, env.dis, env.dom, fun n u h => env.fx n u ?_⟩
  show (if n = j then some v else cl.fix n) = some u
  have : n ≠ j := fun e => by rw [e, hx] at h; cases h
  rw [if_neg this]
  exact h
theorem PostS.unfx {j : Nat} {v : V} {U : Addr → Prop} {D : Ends} {r : RS} (hx : cl.fix j = none) (h : PostS K cl W U G H D r) : PostS K (cl.fx j v) W U G H D r := by
  cases r with
  | bad => exact h
  | ex c ρ => exact fun σ' G' H' Fs' e s => h σ' G' H' Fs' (e.unfx hx) s
  | ok fl ρ =>
    cases fl with
    | nx => exact fun σ' G' H' Fs' e s => h σ' G' H' Fs' (e.unfx hx) s
    | bk => exact fun σ' G' H' Fs' e s => h σ' G' H' Fs' (e.unfx hx) s
    | ct => exact fun σ' G' H' Fs' e s => h σ' G' H' Fs' (e.unfx hx) s
    | rt k d => exact fun σ' w G' H' Fs' F e o f s => h σ' w G' H' Fs' F (e.unfx hx) o f s
/-- slot j takes what F owns (free of the others); its value stays -/
theorem EnvR.take (env : EnvR K cl ρ σ G H Fs) {j k : Nat} {v : V} {d : D} {F : Addr → Prop} (hj : j < ρ.length) (o : Own K cl.c H G k v d F) (hF : ∀ a, F a → (∃ o, H a = some o) ∧ G a = none ∧ ¬ Un Fs a) (hx : cl.fix j = none) :
    EnvR K (cl.fx j v) (ρ.set j (some (k, d))) (σ.set j (some v)) G H (fun l => if l = j then F else Fs l) := by
  have e := env.set (i := j) o (fun a fa => ⟨(hF a fa).1, (hF a fa).2.1, fun l _ z => (hF a fa).2.2 ⟨l, z⟩⟩) (fun u h => by rw [hx] at h; cases h)
  refine ⟨e.len, e.gh, e.own, e.dis, e.dom, fun n u h => ?_⟩
  have h : (if n = j then some v else cl.fix n) = some u := h
  by_cases hn : n = j
  · rw [if_pos hn] at h
    cases h
    subst hn
    exact List.getElem?_set_self (by rw [← env.len]; exact hj)
  · rw [if_neg hn] at h
    rw [List.getElem?_set_ne (Ne.symm hn)]
    exact env.fx n u h
theorem EnvR.addfx (env : EnvR K cl ρ σ G H Fs) {i : Nat} {v : V} (h : σ[i]? = some (some v)) : EnvR K (cl.fx i v) ρ σ G H Fs := by
  refine ⟨env.len, env.gh, env.own, env.dis, env.dom, fun n u hn => ?_⟩
  have hn : (if n = i then some v else cl.fix n) = some u := hn
  by_cases e : n = i
  · rw [if_pos e] at hn; cases hn; rw [e]; exact h
  · rw [if_neg e] at hn; exact env.fx n u hn
end
section
variable {X : Cx} {cl : Clx} {W : WX} {pos : Pos}
theorem PSs.any {ι : Type} {b : List Stmt} {t : ι → TS} (h : ∀ i, PSs X b (t i)) : PSs X b (fun D σ H => ∃ i, t i D σ H) := ⟨fun pins s σ H D I ⟨i, q⟩ => (h i).run pins s σ H D I q⟩
end
end B
namespace B
open PySem L2
/-! ### what a name owns goes on -/
def mvV (j : Nat) (ρ : Env) : Option Slot → RV
  | some (some (k, d)) => .ok k d (ρ.set j none)
  | _ => .bad
@[simp] theorem mvV_some (j : Nat) (ρ : Env) (k : Nat) (d : D) : mvV j ρ (some (some (k, d))) = .ok k d (ρ.set j none) := rfl
def mMv (j : Nat) : MF := fun ρ => mvV j ρ ρ[j]?
@[simp] theorem mMv_eq (j : Nat) (ρ : Env) : mMv j ρ = mvV j ρ ρ[j]? := rfl
section
variable {K : PySem.W.Frag} {cl : Clx} {W : WX} {ρ : Env} {σ : L2.St} {G H G' H' : Hp} {Fs Fs' : Foot} {c0 : Str → Addr}
theorem FsD_fre (env : EnvR K cl ρ σ G H Fs) (j : Nat) : Fre (FsD j Fs) G H (Fs j) := fun a fa => ⟨(env.dom j a fa).1, (env.dom j a fa).2, fun ⟨l, z⟩ => z.1 (env.dis l j a z.2 fa)⟩
theorem FsD_sx (env : EnvR K cl ρ σ G H Fs) (j : Nat) : Sx (Un Fs) G H (fun a => Un (FsD j Fs) a ∨ Fs j a) G H := sx_sub env.gh fun a z => z.elim (fun ⟨l, y⟩ => ⟨l, y.2⟩) fun y => ⟨j, y⟩
theorem semMv {j : Nat} : SemM K cl W (tVar j) (mMv j) := by
  intro ρ σ G H Fs env Q hq
  rw [mMv_eq] at hq
  cases e : ρ[j]? with
  | none => rw [e] at hq; exact hq.elim
  | some s =>
    cases s with
    | none => rw [e] at hq; exact hq.elim
    | some kd =>
      obtain ⟨k, d⟩ := kd
      rw [e] at hq
      obtain ⟨v, hv, o⟩ := env.own j k d e
      exact ⟨v, hv, hq v G H _ (Fs j) (env.hide j) o (FsD_fre env j) (FsD_sx env j)⟩
end
/-! ### P.pop(), P.pop(i) -/
def popJ (q : Nat × Pth) (ρ : Env) (l : Nat) (ds : List D) (m : Nat) : Option D → RV
  | some d => .ok (l - 1) d (putSl ρ q (.lst (ds.eraseIdx m)) ρ[q.1]?)
  | none => .bad
@[simp] theorem popJ_some (q : Nat × Pth) (ρ : Env) (l : Nat) (ds : List D) (m : Nat) (d : D) : popJ q ρ l ds m (some d) = .ok (l - 1) d (putSl ρ q (.lst (ds.eraseIdx m)) ρ[q.1]?) := rfl
def popI (q : Nat × Pth) (ρ : Env) (l : Nat) (ds : List D) : Option Nat → RV
  | some m => popJ q ρ l ds m ds[m]?
  | none => .bad
@[simp] theorem popI_some (q : Nat × Pth) (ρ : Env) (l : Nat) (ds : List D) (m : Nat) : popI q ρ l ds (some m) = popJ q ρ l ds m ds[m]? := rfl
def popV (q : Nat × Pth) (ρ : Env) : Option (Nat × D) → D → RV
  | some (l, .lst ds), .int i => if ds.length ≤ 10000 then popI q ρ l ds (ixN ds.length i) else .bad
  | _, _ => .bad
@[simp] theorem popV_eq (q : Nat × Pth) (ρ : Env) (l : Nat) (ds : List D) (i : Int) : popV q ρ (some (l, .lst ds)) (.int i) = if ds.length ≤ 10000 then popI q ρ l ds (ixN ds.length i) else .bad := rfl
def toRV {α : Type} (r : R α) (ρ : Env) (g : α → RV) : RV := match r with
  | .ok a => g a
  | .ex c => .ex c ρ
  | .bad => .bad
@[simp] theorem toRV_ok {α : Type} (a : α) (ρ : Env) (g : α → RV) : toRV (.ok a) ρ g = g a := rfl
@[simp] theorem toRV_ex {α : Type} (c : Str) (ρ : Env) (g : α → RV) : toRV (.ex c : R α) ρ g = .ex c ρ := rfl
@[simp] theorem toRV_bad {α : Type} (ρ : Env) (g : α → RV) : toRV (.bad : R α) ρ g = .bad := rfl
def lastV (q : Nat × Pth) (ρ : Env) : Option (Nat × D) → RV
  | some (l, .lst ds) => popJ q ρ l ds (ds.length - 1) ds[ds.length - 1]?
  | _ => .bad
@[simp] theorem lastV_eq (q : Nat × Pth) (ρ : Env) (l : Nat) (ds : List D) : lastV q ρ (some (l, .lst ds)) = popJ q ρ l ds (ds.length - 1) ds[ds.length - 1]? := rfl
def isLR : Option (Nat × D) → RV → RV
  | some (_, .lst _), r => r
  | _, _ => .bad
@[simp] theorem isLR_eq (l : Nat) (ds : List D) (r : RV) : isLR (some (l, .lst ds)) r = r := rfl
theorem isLR_of {o : Option (Nat × D)} {r : RV} (h : isLR o r ≠ .bad) : ∃ l ds, o = some (l, .lst ds) := by
  unfold isLR at h
  split at h
  · exact ⟨_, _, rfl⟩
  · exact (h rfl).elim
def mPop (P : PaF) : MF := fun ρ => toRV (P ρ) ρ fun q => lastV q ρ (ownP q.2 ρ[q.1]?)
def mPopI (P : PaF) (i : EF) : MF := fun ρ => toRV (P ρ) ρ fun q => isLR (ownP q.2 ρ[q.1]?) (toRV (i ρ) ρ fun y => popV q ρ (ownP q.2 ρ[q.1]?) y.d)
@[simp] theorem mPop_eq (P : PaF) (ρ : Env) : mPop P ρ = toRV (P ρ) ρ fun q => lastV q ρ (ownP q.2 ρ[q.1]?) := rfl
@[simp] theorem mPopI_eq (P : PaF) (i : EF) (ρ : Env) : mPopI P i ρ = toRV (P ρ) ρ fun q => isLR (ownP q.2 ρ[q.1]?) (toRV (i ρ) ρ fun y => popV q ρ (ownP q.2 ρ[q.1]?) y.d) := rfl
section
variable {K : PySem.W.Frag} {cl : Clx} {W : WX} {ρ : Env} {σ : L2.St} {G H G' H' : Hp} {Fs Fs' : Foot} {c0 : Str → Addr}
theorem SemP.useM {t : TE} {F : PaF} (h : SemP K cl W t F) (env : EnvR K cl ρ σ G H Fs) {Q : VK} {g : Nat × Pth → RV} (hq : PostM K cl W (Un Fs) σ G H Q (toRV (F ρ) ρ g)) {C : VK}
    (step : ∀ x v G' H', F ρ = .ok x → Px G H G' H' → EnvR K cl ρ σ G' H' Fs → (∃ u, σ[x.1]? = some (some u) ∧ PathOf H' x.2 u v) → PostM K cl W (Un Fs) σ G' H' Q (g x) → C v H') : t σ H C := by
  refine h ρ σ G H Fs env C ?_
  cases e : F ρ with
  | ok x =>
    rw [e] at hq
    exact fun v G' H' p o => step x v G' H' e p (env.px p) o (PostM.mono p.sx hq)
  | ex c =>
    rw [e] at hq
    exact fun G' H' p => hq G' H' Fs (env.px p) p.sx
  | bad =>
    rw [e] at hq
    exact hq
theorem SemE.useM {t : TE} {F : EF} (h : SemE K cl W t F) (env : EnvR K cl ρ σ G H Fs) {Q : VK} {g : Vl → RV} (hq : PostM K cl W (Un Fs) σ G H Q (toRV (F ρ) ρ g)) {C : VK}
    (step : ∀ x v G' H' F', F ρ = .ok x → Px G H G' H' → EnvR K cl ρ σ G' H' Fs → Own K cl H' G' x.k v x.d F' → Foo H G' H' x.b F' → PostM K cl W (Un Fs) σ G' H' Q (g x) → C v H') : t σ H C := by
  refine h ρ σ G H Fs env C ?_
  cases e : F ρ with
  | ok x =>
    rw [e] at hq
    exact fun v G' H' F' p o f => step x v G' H' F' e p (env.px p) o f (PostM.mono p.sx hq)
  | ex c =>
    rw [e] at hq
    exact fun G' H' p => hq G' H' Fs (env.px p) p.sx
  | bad =>
    rw [e] at hq
    exact hq
/-- the m-th item of the list at a path is taken out -/
theorem EnvR.pop {G0 H0 : Hp} (env0 : EnvR K cl ρ σ G0 H0 Fs) (p0 : Px G0 H0 G H) {q : Nat × Pth} {l m : Nat} {ds : List D} {d : D} {w : V} (h : ownP q.2 ρ[q.1]? = some (l, .lst ds)) (hd : ds[m]? = some d) (hw : ∃ u, σ[q.1]? = some (some u) ∧ PathOf H q.2 u w) :
    ∃ p vs u Fs2 F2, w = .ref p ∧ H p = some (.lst vs) ∧ vs.length = ds.length ∧ vs[m]? = some u ∧ EnvR K cl (putSl ρ q (.lst (ds.eraseIdx m)) ρ[q.1]?) σ G (upd H p (.lst (vs.eraseIdx m))) Fs2 ∧ Own K cl.c (upd H p (.lst (vs.eraseIdx m))) G (l - 1) u d F2 ∧ Fre Fs2 G (upd H p (.lst (vs.eraseIdx m))) F2 ∧ Sx (Un Fs) G0 H0 (fun a => Un Fs2 a ∨ F2 a) G (upd H p (.lst (vs.eraseIdx m))) := by
  have env := env0.px p0
  obtain ⟨n, dd, F', h0, o, sb, k1, put⟩ := env0.atP p0 h hw
  obtain ⟨l', rfl⟩ : ∃ k', l = k' + 1 := ⟨l - 1, by omega⟩
  have o' := o
  obtain ⟨p, vs, Fs', rfl, hp, fp, hn, hr, _⟩ := o'
  obtain ⟨u, hu⟩ : ∃ u, vs[m]? = some u := ⟨_, List.getElem?_eq_getElem (by rw [hn]; exact (List.getElem?_eq_some_iff.mp hd).1)⟩
  obtain ⟨_, F1, F2, o1, o2, s1, s2, d12⟩ := own_delL o hp hu hd
  have dm : ∀ a, F' a → (∃ z, upd H p (.lst (vs.eraseIdx m)) a = some z) ∧ G a = none := dom_upd fun a z => env.dom _ a (sb a z)
  have ip := inp_upd (o := .lst (vs.eraseIdx m)) (H0 := H0) (Fx := fun _ => False) env.gh fp (env.dom _ p (sb p fp)).2 (fun a z => z.elim)
  obtain ⟨env4, s4⟩ := put _ G (.lst (ds.eraseIdx m)) F1 o1 (fun a z => dm a (s1 a z)) ⟨ip.gg, ip.gh, ip.fr, ip.th, fun a z => .inl (s1 a z), ip.gn⟩
  refine ⟨p, vs, u, _, F2, rfl, hp, hn, hu, env4, o2, fun a z => ⟨(dm a (s2 a z)).1, (dm a (s2 a z)).2, fun ⟨l, y⟩ => ?_⟩, ⟨s4.gg, s4.gh, s4.fr, s4.th, fun a z => ?_, s4.gn⟩⟩
  · unfold FsP at y
    by_cases hl : l = q.1
    · rw [if_pos hl] at y
      rcases y with ⟨_, y⟩ | y
      · exact y (s2 a z)
      · exact d12 a y z
    · rw [if_neg hl] at y
      exact hl (env.dis l q.1 a y (sb a (s2 a z)))
  · rcases z with z | z
    · exact s4.un a z
    · exact .inl ⟨_, sb a (s2 a z)⟩
end
section
variable {X : Cx} {cl : Clx} {W : WX} {pos : Pos}
theorem em_mv (j : Nat) {x : Str} (hN : X.N[j]? = some x := by rfl) (hv : Vis X.env.scope x := by first | exact Or.inl rfl | exact Or.inr (Or.inl rfl) | exact Or.inr (Or.inr rfl)) (hd : (x == ("__debug__" : Str)) = false := by decide)
    (hcd : (x == ("__classdict__" : Str)) = false := by decide) : EvM X cl W (.Name x pos) (mMv j) := ⟨_, pe_var hN hv hd hcd, semMv⟩
theorem em_pop {o : Expr} {P : PaF} {apos : Pos} (ho : EvP X cl W o P) (hbase : attributeBase o "pop" X.env (eval o X.env) = eval o X.env := by rfl) (hline : (apos.endLine == pos.line) = true := by rfl) : EvM X cl W (.Call (.Attribute o "pop" apos) [] [] pos) (mPop P) := by
  obtain ⟨tp, pp, sp⟩ := ho
  refine ⟨_, pe_bm0 PySem.F.plainAttrs_list PySem.F.slot_list_pop PySem.F.type_list_pop mt_pop pp hbase hline, fun ρ σ G H Fs env Q hq => ?_⟩
  have hq0 := hq
  rw [mPop_eq] at hq
  refine sp.useM env hq fun q w G2 H2 e2 p2 env2 pa hq2 => ?_
  rw [mPop_eq, e2, toRV_ok] at hq0
  cases eo : ownP q.2 ρ[q.1]? with
  | none => rw [eo] at hq0; exact hq0.elim
  | some kc =>
    obtain ⟨l, c⟩ := kc
    rw [eo] at hq0
    cases c with
    | lst ds =>
      rw [lastV_eq] at hq0
      cases hd : ds[ds.length - 1]? with
      | none => rw [hd] at hq0; exact hq0.elim
      | some d =>
        rw [hd, popJ_some] at hq0
        obtain ⟨p, vs, u, Fs2, F2, rfl, hp, hn, hu, env4, o4, f4, s4⟩ := env.pop p2 eo hd pa
        refine ⟨.inl ⟨rfl, vs, .inl (.inl hp)⟩, p, vs, u, rfl, rfl, hp, by rw [hn]; exact hu, ?_⟩
        have e1 : vs.dropLast = vs.eraseIdx (ds.length - 1) := by rw [← hn, List.eraseIdx_length_sub_one]
        rw [e1]
        exact hq0 u G2 _ Fs2 F2 env4 o4 f4 s4
    | _ => exact hq0.elim
theorem em_popI {o e : Expr} {P : PaF} {a : EF} {apos : Pos} (ho : EvP X cl W o P) (hi : EvE X cl W e a) (hbase : attributeBase o "pop" X.env (eval o X.env) = eval o X.env := by rfl)
    (hfew : ((backTo pos (starEach (e :: []) X.env)).all (fun x => !x.1) && (backToKw pos (keywordEach [] X.env)).all (fun x => x.1.isSome)
      && decide ((e :: ([] : List Expr)).length + ([] : List Keyword).length + (if ([] : List Keyword).isEmpty then 0 else 1) < 30)) = true := by rfl) (hline : (apos.endLine == pos.line) = true := by rfl) (hs : starEach (e :: []) X.env = (false, eval e X.env) :: starEach [] X.env := by rfl) (hplain : (backTo pos (starEach [] X.env)).any (·.1) = false := by rfl) : EvM X cl W (.Call (.Attribute o "pop" apos) [e] [] pos) (mPopI P a) := by
  obtain ⟨tp, pp, sp⟩ := ho
  obtain ⟨ti, pi, si⟩ := hi
  refine ⟨_, pe_bm PySem.F.plainAttrs_list PySem.F.slot_list_pop PySem.F.type_list_pop mt_popAt pp (pa_cons pi pa_nil hs) hbase hfew hline hs hplain, fun ρ σ G H Fs env Q hq => ?_⟩
  have hq0 := hq
  rw [mPopI_eq] at hq
  refine sp.useM env hq fun q w G2 H2 e2 p2 env2 pa hq2 => ?_
  rw [mPopI_eq, e2, toRV_ok] at hq0
  obtain ⟨l, ds, eo⟩ := isLR_of (fun z => by rw [z] at hq0; exact hq0)
  rw [eo, isLR_eq] at hq0 hq2
  obtain ⟨n, d, F', h0, o, sb, k1, _⟩ := env.atP p2 eo pa
  obtain ⟨l', rfl⟩ : ∃ k', l = k' + 1 := ⟨l - 1, by omega⟩
  obtain ⟨p, vs, Fs', rfl, hp, fp, hn, hr, _⟩ := o
  refine ⟨.inl ⟨rfl, vs, .inl (.inl hp)⟩, ?_⟩
  refine si.useM env2 hq2 fun y v4 G4 H4 F4 e4 p4 env4 o4 f4 hq4 => ?_
  rw [e4, toRV_ok] at hq0
  obtain ⟨yb, yk, yd⟩ := y
  cases yd with
  | int j =>
    rw [popV_eq] at hq0
    by_cases h4 : ds.length ≤ 10000
    case neg => rw [if_neg h4] at hq0; exact hq0.elim
    rw [if_pos h4] at hq0
    cases ej : ixN ds.length j with
    | none => rw [ej] at hq0; exact hq0.elim
    | some m =>
      rw [ej, popI_some] at hq0
      obtain ⟨hsi, hm, hlo, hhi⟩ := ixN_seq ej
      cases hd : ds[m]? with
      | none => rw [hd] at hq0; exact hq0.elim
      | some d1 =>
        rw [hd, popJ_some] at hq0
        obtain ⟨p', vs', u, Fs2, F2, e, hp', hn', hu, env5, o5, f5, s5⟩ := env.pop (p2.trans p4) eo hd (let ⟨u, hu, pu⟩ := pa; ⟨u, hu, pu.mono p4.hh⟩)
        cases e
        refine ⟨p, vs', j, m, u, rfl, by rw [o4.int], hp', by omega, by omega, by rw [hn']; exact hsi, hu, hq0 u G4 _ Fs2 F2 env5 o5 f5 s5⟩
  | _ => exact hq0.elim
/-! ### P.insert(i, e) -/
noncomputable def insI (q : Nat × Pth) (ρ : Env) (ds : List D) (d : D) : D → RS
  | .int i => if 0 ≤ i ∧ small62 i ∧ ds.length < 10000 then .ok .nx (putSl ρ q (.lst (ds.take i.toNat ++ [d] ++ ds.drop i.toNat)) ρ[q.1]?) else .bad
  | _ => .bad
@[simp] theorem insI_int (q : Nat × Pth) (ρ : Env) (ds : List D) (d : D) (i : Int) : insI q ρ ds d (.int i) = if 0 ≤ i ∧ small62 i ∧ ds.length < 10000 then .ok .nx (putSl ρ q (.lst (ds.take i.toNat ++ [d] ++ ds.drop i.toNat)) ρ[q.1]?) else .bad := rfl
noncomputable def sIns (P : PaF) (i f : EF) : SF := fun ρ => toS (P ρ) ρ fun q => atL1 (ownP q.2 ρ[q.1]?) fun ds => toS (i ρ) ρ fun y => toS (eS f ρ) ρ fun z => insI q ρ ds z.d y.d
@[simp] theorem sIns_eq (P : PaF) (i f : EF) (ρ : Env) : sIns P i f ρ = toS (P ρ) ρ fun q => atL1 (ownP q.2 ρ[q.1]?) fun ds => toS (i ρ) ρ fun y => toS (eS f ρ) ρ fun z => insI q ρ ds z.d y.d := rfl
theorem RepL.take {cl : Str → Addr} {K : PySem.W.Frag} {G : Hp} {vs : List V} {ds : List D} (h : RepL K cl G vs ds) (n : Nat) : RepL K cl G (vs.take n) (ds.take n) := by
  refine ⟨by simp [h.1], fun i v d e1 e2 => ?_⟩
  rw [List.getElem?_take] at e1 e2
  split at e1
  · rename_i hi
    rw [if_pos hi] at e2
    exact h.2 i v d e1 e2
  · cases e1
theorem RepL.drop {cl : Str → Addr} {K : PySem.W.Frag} {G : Hp} {vs : List V} {ds : List D} (h : RepL K cl G vs ds) (n : Nat) : RepL K cl G (vs.drop n) (ds.drop n) := by
  refine ⟨by simp [h.1], fun i v d e1 e2 => ?_⟩
  rw [List.getElem?_drop] at e1 e2
  exact h.2 _ v d e1 e2
theorem es_ins {o i e : Expr} {P : PaF} {a f : EF} {apos p2 : Pos} (ho : EvP X cl W o P) (hi : EvE X cl W i a) (hf : EvE X cl W e f) (hbase : attributeBase o "insert" X.env (eval o X.env) = eval o X.env := by rfl)
    (hfew : ((backTo p2 (starEach (i :: [e]) X.env)).all (fun x => !x.1) && (backToKw p2 (keywordEach [] X.env)).all (fun x => x.1.isSome)
      && decide ((i :: [e]).length + ([] : List Keyword).length + (if ([] : List Keyword).isEmpty then 0 else 1) < 30)) = true := by rfl) (hline : (apos.endLine == p2.line) = true := by rfl) (hs1 : starEach (i :: [e]) X.env = (false, eval i X.env) :: starEach [e] X.env := by rfl) (hs2 : starEach (e :: []) X.env = (false, eval e X.env) :: starEach [] X.env := by rfl) (hplain : (backTo p2 (starEach [e] X.env)).any (·.1) = false := by rfl)
    (hs : swapsWith (.Call (.Attribute o "insert" apos) [i, e] [] p2) none pos.line X.env = pure false := by rfl) : EvS X cl W (.Expr (.Call (.Attribute o "insert" apos) [i, e] [] p2) pos) (sIns P a f) := by
  obtain ⟨tp, pp, sp⟩ := ho
  obtain ⟨ti, pi, si⟩ := hi
  obtain ⟨te, pe, se⟩ := hf
  refine ⟨_, ps_expr (pe_bm PySem.F.plainAttrs_list PySem.F.slot_list_insert PySem.F.type_list_insert mt_insert pp (pa_cons pi (pa_cons pe pa_nil hs2) hs1) hbase hfew hline hs1 hplain) hs, fun ρ σ G H Fs env D hq => ?_⟩
  have hq0 := hq
  rw [sIns_eq] at hq
  refine sp.useS env hq fun q w G2 H2 e2 p2 env2 pa hq2 => ?_
  rw [sIns_eq, e2, toS_ok] at hq0
  obtain ⟨ds, eo⟩ := atL1_of (fun z => by rw [z] at hq0; exact hq0)
  rw [eo, atL1_eq] at hq0 hq2
  obtain ⟨p, vs, rfl, hp, _⟩ := env.putL1 p2 eo pa
  refine ⟨.inl ⟨rfl, vs, .inl (.inl hp)⟩, ?_⟩
  refine si.useS env2 hq2 fun y v3 G3 H3 F3 e3 p3 env3 o3 f3 hq3 => ?_
  rw [e3, toS_ok] at hq0
  refine (semS se).useS env3 (PostS.mono p3.sx hq3) fun z v4 G4 H4 F4 e4 p4 env4 o4 f4 hq4 => ?_
  rw [e4, toS_ok] at hq0
  have r4 := frz_rep e4 o4
  have o3' := o3.px p4
  obtain ⟨yb, yk, yd⟩ := y
  cases yd with
  | int j =>
    rw [insI_int] at hq0
    by_cases hc : 0 ≤ j ∧ small62 j ∧ ds.length < 10000
    · rw [if_pos hc] at hq0
      obtain ⟨p', vs', e, hp', rl, up⟩ := env.putL1 ((p2.trans p3).trans p4) eo (let ⟨u, hu, pu⟩ := pa; ⟨u, hu, (pu.mono p3.hh).mono p4.hh⟩)
      cases e
      obtain ⟨Fs2, env5, s5⟩ := up (vs'.take j.toNat ++ [v4] ++ vs'.drop j.toNat) (ds.take j.toNat ++ [z.d] ++ ds.drop j.toNat) (((rl.take _).app (.cons r4 .nil)).app (rl.drop _))
      have hsm := hc.2.1
      unfold small62 at hsm
      exact ⟨p, vs', j, v4, rfl, by rw [o3'.int], hp', by rw [rl.1]; exact lt_line2 hc.2.2, hc.1, by omega, hq0 σ G4 _ _ env5 s5⟩
    · rw [if_neg hc] at hq0; exact hq0.elim
  | _ => exact hq0.elim
/-! ### P.append(x), x's own thing goes over -/
def apMV (k : Nat) (ρ : Env) (q : Nat × Pth) (j : Nat) : Option Slot → RS
  | some (some (l, d)) => if (flat d || decide (l = k) || (decide (l < k) && flatK l d)) = true then apP k (ρ.set j none) q d (ownP q.2 (ρ.set j none)[q.1]?) else .bad
  | _ => .bad
@[simp] theorem apMV_eq (k : Nat) (ρ : Env) (q : Nat × Pth) (j : Nat) (l : Nat) (d : D) : apMV k ρ q j (some (some (l, d))) = if (flat d || decide (l = k) || (decide (l < k) && flatK l d)) = true then apP k (ρ.set j none) q d (ownP q.2 (ρ.set j none)[q.1]?) else .bad := rfl
def sApMv (k : Nat) (P : PaF) (j : Nat) : SF := fun ρ => toS (P ρ) ρ fun q => isL (ownP q.2 ρ[q.1]?) (apMV k ρ q j ρ[j]?)
@[simp] theorem sApMv_eq (k : Nat) (P : PaF) (j : Nat) (ρ : Env) : sApMv k P j ρ = toS (P ρ) ρ fun q => isL (ownP q.2 ρ[q.1]?) (apMV k ρ q j ρ[j]?) := rfl
end
end B
namespace B
open PySem L2
/-! ### (a, b, ..) of what names own -/
def NmV (σ : L2.St) : List Nat → List V → Prop
  | [], [] => True
  | j :: js, v :: vs => σ[j]? = some (some v) ∧ NmV σ js vs
  | _, _ => False
def okF (k l : Nat) (d : D) : Bool := flat d || decide (l = k) || (decide (l < k) && flatK l d)
def tkJ (k : Nat) (j : Nat) (ρ : Env) (go : Env → Option (List D × Env)) : Option Slot → Option (List D × Env)
  | some (some (l, d)) => if okF k l d = true then (go (ρ.set j none)).map fun r => (d :: r.1, r.2) else none
  | _ => none
@[simp] theorem tkJ_eq (k : Nat) (j : Nat) (ρ : Env) (go : Env → Option (List D × Env)) (l : Nat) (d : D) : tkJ k j ρ go (some (some (l, d))) = if okF k l d = true then (go (ρ.set j none)).map fun r => (d :: r.1, r.2) else none := rfl
def takeO (k : Nat) : List Nat → Env → Option (List D × Env)
  | [], ρ => some ([], ρ)
  | j :: js, ρ => tkJ k j ρ (takeO k js) ρ[j]?
@[simp] theorem takeO_nil (k : Nat) (ρ : Env) : takeO k [] ρ = some ([], ρ) := rfl
@[simp] theorem takeO_cons (k : Nat) (j : Nat) (js : List Nat) (ρ : Env) : takeO k (j :: js) ρ = tkJ k j ρ (takeO k js) ρ[j]? := rfl
def tupR (k : Nat) : Option (List D × Env) → RV
  | some (ds, ρ) => if ds.length ≤ 1000 then .ok (k + 1) (.tup ds) ρ else .bad
  | none => .bad
@[simp] theorem tupR_some (k : Nat) (ds : List D) (ρ : Env) : tupR k (some (ds, ρ)) = if ds.length ≤ 1000 then .ok (k + 1) (.tup ds) ρ else .bad := rfl
def mTupO (k : Nat) (js : List Nat) : MF := fun ρ => tupR k (takeO k js ρ)
@[simp] theorem mTupO_eq (k : Nat) (js : List Nat) (ρ : Env) : mTupO k js ρ = tupR k (takeO k js ρ) := rfl
section
variable {K : PySem.W.Frag} {cl : Clx} {W : WX} {ρ : Env} {σ : L2.St} {G H G' H' : Hp} {Fs Fs' : Foot} {c0 : Str → Addr}
theorem okF_own {k l : Nat} {v : V} {d : D} {F : Addr → Prop} (h : okF k l d = true) (o : Own K c0 H G l v d F) : Own K c0 H G k v d F := by
  unfold okF at h
  rw [Bool.or_eq_true, Bool.or_eq_true, Bool.and_eq_true, decide_eq_true_eq, decide_eq_true_eq] at h
  rcases h with (h | h) | ⟨h1, h2⟩
  · exact Own.ofFlat (o.scal h) h
  · subst h; exact o
  · exact Own.up (Nat.le_of_lt h1) o h2
theorem takeO_env {k : Nat} : ∀ {js : List Nat} {ρ ρ' : Env} {ds : List D} {Fs : Foot}, takeO k js ρ = some (ds, ρ') → EnvR K cl ρ σ G H Fs → ∃ vs, ∃ Fs' : Foot, ∃ Fi : Nat → Addr → Prop, NmV σ js vs ∧ vs.length = ds.length ∧ EnvR K cl ρ' σ G H Fs' ∧
    (∀ (i : Nat) v d, vs[i]? = some v → ds[i]? = some d → Own K cl.c H G k v d (Fi i)) ∧ (∀ (i : Nat) a, Fi i a → Un Fs a ∧ ¬ Un Fs' a) ∧ (∀ (i l : Nat) a, Fi i a → Fi l a → i = l) ∧ ∀ a, Un Fs' a → Un Fs a
  | [], ρ, ρ', ds, Fs, h, env => by
    cases h
    exact ⟨[], Fs, fun _ _ => False, trivial, rfl, env, fun i v d h => by simp at h, fun _ _ z => z.elim, fun _ _ _ z => z.elim, fun _ z => z⟩
  | j :: js, ρ, ρ', ds, Fs, h, env => by
    rw [takeO_cons] at h
    cases e : ρ[j]? with
    | none => rw [e] at h; cases h
    | some s =>
      cases s with
      | none => rw [e] at h; cases h
      | some kd =>
        obtain ⟨l, d⟩ := kd
        rw [e, tkJ_eq] at h
        by_cases hk : okF k l d = true
        · rw [if_pos hk] at h
          cases e2 : takeO k js (ρ.set j none) with
          | none => rw [e2] at h; cases h
          | some r =>
            obtain ⟨ds1, ρ1⟩ := r
            rw [e2] at h
            cases h
            obtain ⟨v, hv, o⟩ := env.own j l d e
            obtain ⟨vs, Fs', Fi, n1, n2, env1, ow, un, di, sb⟩ := takeO_env e2 (env.hide j)
            refine ⟨v :: vs, Fs', fun i => match i with | 0 => Fs j | i + 1 => Fi i, ⟨hv, n1⟩, by simp [n2], env1, fun i v' d' h1 h2 => ?_, fun i a z => ?_, fun i l a z1 z2 => ?_, fun a z => ?_⟩
            · cases i with
              | zero => cases h1; cases h2; exact okF_own hk o
              | succ i => exact ow i v' d' h1 h2
            · cases i with
              | zero => exact ⟨⟨j, z⟩, fun y => by
                  obtain ⟨m, y1, y2⟩ := sb a y
                  exact y1 (env.dis m j a y2 z)⟩
              | succ i => exact ⟨let ⟨m, y⟩ := (un i a z).1; ⟨m, y.2⟩, (un i a z).2⟩
            · cases i with
              | zero =>
                cases l with
                | zero => rfl
                | succ l =>
                  obtain ⟨m, y1, y2⟩ := (un l a z2).1
                  exact (y1 (env.dis m j a y2 z1)).elim
              | succ i =>
                cases l with
                | zero =>
                  obtain ⟨m, y1, y2⟩ := (un i a z1).1
                  exact (y1 (env.dis m j a y2 z2)).elim
                | succ l => rw [di i l a z1 z2]
            · obtain ⟨m, y⟩ := sb a z
              exact ⟨m, y.2⟩
        · rw [if_neg hk] at h; cases h
/-- a new tuple of one's own -/
theorem own_tup {k : Nat} {p : Addr} {vs : List V} {ds : List D} {Fi : Nat → Addr → Prop} (gh : Same G H) (hp : H p = none) (hl : vs.length = ds.length) (ow : ∀ (i : Nat) v d, vs[i]? = some v → ds[i]? = some d → Own K c0 H G k v d (Fi i)) (lv : ∀ (i : Nat) a, Fi i a → (∃ o, H a = some o) ∧ G a = none) (di : ∀ (i l : Nat) a, Fi i a → Fi l a → i = l) :
    ∃ G' F, Px G H G' (upd H p (.tup vs)) ∧ Own K c0 (upd H p (.tup vs)) G' (k + 1) (.ref p) (.tup ds) F ∧ (∀ a, F a → a = p ∨ ∃ i, Fi i a) ∧ ∀ a, F a → G' a = none ∧ ∃ o, upd H p (.tup vs) a = some o := by
  by_cases hf : flatL ds = true
  · refine ⟨upd G p (.tup vs), fun _ => False, px_frozen gh hp, Own.mkT (fun _ => ?_) fun n => (n hf).elim, fun _ z => z.elim, fun _ z => z.elim⟩
    refine Rep.tup (.inl upd_same) hl fun i v d h1 h2 => ?_
    exact ((ow i v d h1 h2).scal (flatL_get hf h2)).mono (same_new (gh.free hp))
  · refine ⟨G, fun a => a = p ∨ ∃ i, Fi i a, px_new gh hp, Own.mkT (fun h => (hf h).elim) fun _ => ?_, fun a z => z, fun a z => ?_⟩
    · refine ⟨p, vs, Fi, rfl, upd_same, .inl rfl, hl, fun i v d h1 h2 => (ow i v d h1 h2).step (Same.refl _) fun a o f q => ?_, fun i a z => ⟨.inr ⟨i, z⟩, fun e => ?_⟩, di⟩
      · rw [upd_ne (fun e => by rw [e, hp] at q; cases q)]; exact q
      · obtain ⟨⟨o, ho⟩, _⟩ := lv i a z
        rw [e, hp] at ho; cases ho
    · rcases z with z | ⟨i, z⟩
      · rw [z]; exact ⟨gh.free hp, _, upd_same⟩
      · obtain ⟨⟨o, ho⟩, g⟩ := lv i a z
        exact ⟨g, o, by rw [upd_ne (fun e => by rw [e, hp] at ho; cases ho)]; exact ho⟩
end
section
variable {X : Cx} {cl : Clx} {W : WX} {pos : Pos}
def EvNs (X : Cx) (es : List Expr) (js : List Nat) : Prop := ∃ t, PA X es t ∧ ∀ (σ : L2.St) (H : Hp) (Q : List V → Hp → Prop) (vs : List V), NmV σ js vs → Q vs H → t σ H Q
theorem ens_nil : EvNs X [] [] := ⟨_, pa_nil, fun σ H Q vs h q => by
  cases vs with
  | nil => exact q
  | cons v vs => exact h.elim⟩
theorem ens_cons (j : Nat) {x : Str} {p : Pos} {es : List Expr} {js : List Nat} (h2 : EvNs X es js) (hN : X.N[j]? = some x := by rfl) (hv : Vis X.env.scope x := by first | exact Or.inl rfl | exact Or.inr (Or.inl rfl) | exact Or.inr (Or.inr rfl)) (hd : (x == ("__debug__" : Str)) = false := by decide)
    (hcd : (x == ("__classdict__" : Str)) = false := by decide) (hs : starEach (.Name x p :: es) X.env = (false, eval (.Name x p) X.env) :: starEach es X.env := by rfl) : EvNs X (.Name x p :: es) (j :: js) := by
  obtain ⟨t, pt, s⟩ := h2
  refine ⟨_, pa_cons (pe_var hN hv hd hcd) pt hs, fun σ H Q vs h q => ?_⟩
  cases vs with
  | nil => exact h.elim
  | cons v vs => exact ⟨v, h.1, s σ H _ vs h.2 q⟩
theorem em_tupO (k : Nat) {es : List Expr} {x1} {js : List Nat} (h : EvNs X es js) : EvM X cl W (.Tuple es x1 pos) (mTupO k js) := by
  obtain ⟨t, pt, s⟩ := h
  refine ⟨_, pe_tup pt, fun ρ σ G H Fs env Q hq => ?_⟩
  rw [mTupO_eq] at hq
  cases e : takeO k js ρ with
  | none => rw [e] at hq; exact hq.elim
  | some r =>
    obtain ⟨ds, ρ'⟩ := r
    rw [e, tupR_some] at hq
    by_cases hlen : ds.length ≤ 1000
    · rw [if_pos hlen] at hq
      obtain ⟨vs, Fs', Fi, n1, n2, env1, ow, un, di, sb⟩ := takeO_env e env
      refine s σ H _ vs n1 ⟨le_line (by rw [n2]; exact hlen), fun p hp => ?_⟩
      obtain ⟨G', F, px, oT, sT, dT⟩ := own_tup env.gh hp n2 ow (fun i a z => by
        obtain ⟨m, y⟩ := (un i a z).1
        exact env.dom m a y) di
      refine hq (.ref p) G' _ Fs' F (env1.px px) oT (fun a fa => ⟨(dT a fa).2, (dT a fa).1, fun y => ?_⟩) ?_
      · rcases sT a fa with z | ⟨i, z⟩
        · obtain ⟨m, y⟩ := y
          obtain ⟨⟨o, ho⟩, _⟩ := env1.dom m a y
          rw [z, hp] at ho; cases ho
        · exact (un i a z).2 y
      · have s0 := px.sx (U := Un Fs)
        refine ⟨s0.gg, s0.gh, s0.fr, s0.th, fun a z => ?_, s0.gn⟩
        rcases z with z | z
        · exact .inl (sb a z)
        · rcases sT a z with y | ⟨i, y⟩
          · exact .inr (by rw [y]; exact hp)
          · exact .inl (un i a y).1
    · rw [if_neg hlen] at hq; exact hq.elim
/-! ### a, b = e, each with floors of its own -/
def setAll (k : Nat) : List Nat → List D → Env → Option Env
  | [], [], ρ => some ρ
  | i :: is, d :: ds, ρ => setAll k is ds (ρ.set i (some (k, d)))
  | _, _, _ => none
@[simp] theorem setAll_nil (k : Nat) (ρ : Env) : setAll k [] [] ρ = some ρ := rfl
@[simp] theorem setAll_cons (k : Nat) (i : Nat) (is : List Nat) (d : D) (ds : List D) (ρ : Env) : setAll k (i :: is) (d :: ds) ρ = setAll k is ds (ρ.set i (some (k, d))) := rfl
def asgR : Option Env → RS
  | some ρ => .ok .nx ρ
  | none => .bad
@[simp] theorem asgR_some (ρ : Env) : asgR (some ρ) = .ok .nx ρ := rfl
def asgT (k : Nat) (is : List Nat) (ρ : Env) : D → RS
  | .tup ds => asgR (setAll k is ds ρ)
  | _ => .bad
@[simp] theorem asgT_eq (k : Nat) (is : List Nat) (ρ : Env) (ds : List D) : asgT k is ρ (.tup ds) = asgR (setAll k is ds ρ) := rfl
def sAsgK (k : Nat) (is : List Nat) (f : EF) : SF := fun ρ => toS (eFit (k + 1) f ρ) ρ fun x => asgT k is ρ x.d
@[simp] theorem sAsgK_eq (k : Nat) (is : List Nat) (f : EF) (ρ : Env) : sAsgK k is f ρ = toS (eFit (k + 1) f ρ) ρ fun x => asgT k is ρ x.d := rfl
def gNs : List Nat → TGs
  | [] => gNil
  | i :: is => gCons (gName i) (gNs is)
def EvNg (X : Cx) (cl : Clx) (es : List Expr) (is : List Nat) : Prop := PGs X es (gNs is) ∧ ∀ i ∈ is, cl.fix i = none
theorem eng_nil : EvNg X cl [] [] := ⟨pgs_nil, fun _ h => by simp at h⟩
theorem eng_cons (i : Nat) {x : Str} {p : Pos} {es : List Expr} {is : List Nat} (h2 : EvNg X cl es is) (hN : X.N.Nodup) (hi : X.N[i]? = some x := by rfl) (hx : Loc X.env.scope x := by first | exact Or.inl rfl | exact Or.inr rfl) (hf : X.fn x = true ∨ X.env.scope.names.lookup x = some .local := by first | exact .inl rfl | exact .inr rfl) (hfx : cl.fix i = none := by rfl)
    (hs : (assignEach (.Name x p :: es) X.env).map (·.2) = assign (.Name x p) X.env :: (assignEach es X.env).map (·.2) := by rfl) : EvNg X cl (.Name x p :: es) (i :: is) :=
  ⟨pgs_cons (pg_name hN hi hx hf) h2.1 hs, fun j hj => by
    rcases List.mem_cons.mp hj with h | h
    · rw [h]; exact hfx
    · exact h2.2 j h⟩
theorem setAll_env {K : PySem.W.Frag} {k : Nat} {G H : Hp} {QQ : L2.St → Hp → Prop} : ∀ {is : List Nat} {ds : List D} {vs : List V} {ρ ρ' : Env} {σ : L2.St} {Fs : Foot} {Fi : Nat → Addr → Prop}, (∀ i ∈ is, cl.fix i = none) → setAll k is ds ρ = some ρ' → EnvR K cl ρ σ G H Fs → vs.length = ds.length → (∀ (i : Nat) v d, vs[i]? = some v → ds[i]? = some d → Own K cl.c H G k v d (Fi i)) →
    (∀ (i : Nat) a, Fi i a → (∃ o, H a = some o) ∧ G a = none ∧ ¬ Un Fs a) → (∀ (i l : Nat) a, Fi i a → Fi l a → i = l) → (∀ σ' Fs', EnvR K cl ρ' σ' G H Fs' → (∀ a, Un Fs' a → Un Fs a ∨ ∃ i, Fi i a) → QQ σ' H) → gNs is vs σ H QQ
  | [], [], vs, ρ, ρ', σ, Fs, Fi, _, h, env, hl, _, _, _, q => by
    cases h
    exact ⟨List.length_eq_zero_iff.mp hl, q σ Fs env fun a z => .inl z⟩
  | i :: is, d :: ds, [], ρ, ρ', σ, Fs, Fi, _, h, env, hl, _, _, _, q => by simp at hl
  | i :: is, d :: ds, v :: vs, ρ, ρ', σ, Fs, Fi, hx, h, env, hl, ow, lv, di, q => by
    rw [setAll_cons] at h
    refine ⟨v, vs, rfl, ?_⟩
    have env1 := env.set (i := i) (ow 0 v d rfl rfl) (fun a fa => ⟨(lv 0 a fa).1, (lv 0 a fa).2.1, fun j _ z => (lv 0 a fa).2.2 ⟨j, z⟩⟩) (fun u hu => by rw [hx i List.mem_cons_self] at hu; cases hu)
    refine setAll_env (Fi := fun i => Fi (i + 1)) (fun j hj => hx j (List.mem_cons_of_mem _ hj)) h env1 (by simpa using hl) (fun n v d h1 h2 => ow (n + 1) v d h1 h2) (fun n a z => ⟨(lv _ a z).1, (lv _ a z).2.1, fun ⟨l, y⟩ => ?_⟩) (fun n l a z1 z2 => by have := di _ _ a z1 z2; omega) fun σ' Fs' e s => q σ' Fs' e fun a z => ?_
    · by_cases hl : l = i
      · simp only [if_pos hl] at y
        have := di _ _ a z y
        omega
      · simp only [if_neg hl] at y
        exact (lv _ a z).2.2 ⟨l, y⟩
    · rcases s a z with ⟨l, y⟩ | ⟨n, y⟩
      · by_cases hl : l = i
        · simp only [if_pos hl] at y
          exact .inr ⟨0, y⟩
        · simp only [if_neg hl] at y
          exact .inl ⟨l, y⟩
      · exact .inr ⟨n + 1, y⟩
  | [], _ :: _, _, _, _, _, _, _, _, h, _, _, _, _, _, _ => by cases h
  | _ :: _, [], _, _, _, _, _, _, _, h, _, _, _, _, _, _ => by cases h
theorem Own.tupK {K : PySem.W.Frag} {c0 : Str → Addr} {G H : Hp} {k : Nat} {v : V} {ds : List D} {F : Addr → Prop} (o : Own K c0 H G (k + 1) v (.tup ds) F) (gh : Same G H) : ∃ p vs, ∃ Fi : Nat → Addr → Prop, v = .ref p ∧ Rd H p (.tup vs) ∧ vs.length = ds.length ∧ (∀ (i : Nat) v d, vs[i]? = some v → ds[i]? = some d → Own K c0 H G k v d (Fi i)) ∧ (∀ (i : Nat) a, Fi i a → F a) ∧ ∀ (i l : Nat) a, Fi i a → Fi l a → i = l := by
  by_cases hf : flatL ds = true
  · cases o.tupF hf with
    | tup h2 hl hr => exact ⟨_, _, fun _ _ => False, rfl, rdEx gh h2, hl, fun i v d h1 h3 => Own.ofFlat (hr i v d h1 h3) (flatL_get hf h3), fun _ _ z => z.elim, fun _ _ _ z => z.elim⟩
  · obtain ⟨p, vs, Fi, rfl, hp, fp, hl, hr, hs, hd⟩ := o.tupN hf
    exact ⟨p, vs, Fi, rfl, .inl hp, hl, hr, fun i a z => (hs i a z).1, hd⟩
theorem setAll_len {k : Nat} : ∀ {is : List Nat} {ds : List D} {ρ ρ' : Env}, setAll k is ds ρ = some ρ' → ds.length = is.length
  | [], [], _, _, _ => rfl
  | i :: is, d :: ds, ρ, ρ', h => by simp [setAll_len (ρ := ρ.set i (some (k, d))) (by simpa using h)]
  | [], _ :: _, _, _, h => by cases h
  | _ :: _, [], _, _, h => by cases h
theorem es_asgK (k : Nat) {es : List Expr} {kk} {tpos : Pos} {e : Expr} {f : EF} {is : List Nat} (hc : X.calm = true) (h : EvE X cl W e f) (hg : EvNg X cl es is) (hn : (assignEach es X.env).length = is.length := by rfl) (hst : (assignEach es X.env).findIdx? (·.1) = none := by rfl) (hs : swapsWithSole [.Tuple es kk tpos] e pos.line X.env = pure false := by rfl) (hw : swappedStores [.Tuple es kk tpos] e X.env = pure none := by rfl)
    (h1 : (assignEach [.Tuple es kk tpos] X.env).map (·.2) = [assign (.Tuple es kk tpos) X.env] := by rfl) : EvS X cl W (.Assign [.Tuple es kk tpos] e pos) (sAsgK k is f) := by
  obtain ⟨t, p, q⟩ := h
  refine ⟨_, ps_asg p (pg_tup hc hg.1 hn hst) hs hw h1, fun ρ σ G H Fs env D hq => ?_⟩
  rw [sAsgK_eq] at hq
  refine (semFit (k + 1) q).useS env hq fun x v G' H' F' e1 p' env' o fo hq1 => ?_
  obtain ⟨xb, xk⟩ := eFit_is e1
  obtain ⟨b, l, d⟩ := x
  simp only at xb xk
  subst xb xk
  cases d with
  | tup ds =>
    rw [asgT_eq] at hq1
    obtain ⟨a, vs, Fi, rfl, hr, hl, ow, sb, di⟩ := Own.tupK o env'.gh
    cases es : setAll k is ds ρ with
    | none => rw [es] at hq1; exact hq1.elim
    | some ρ' =>
      rw [es, asgR_some] at hq1
      refine ⟨a, vs, rfl, .inl hr, by rw [hl, setAll_len es], ?_⟩
      refine setAll_env hg.2 es env' hl ow (fun i a z => ⟨(fo a (sb i a z)).1, (fo a (sb i a z)).2.1, foo_un env fo a (sb i a z)⟩) di fun σ' Fs' e2 s => hq1 σ' G' H' Fs' e2 ?_
      have s0 := p'.sx (U := Un Fs)
      refine ⟨s0.gg, s0.gh, s0.fr, s0.th, fun a z => ?_, s0.gn⟩
      rcases s a z with y | ⟨i, y⟩
      · exact .inl y
      · exact .inr ((fo a (sb i a y)).2.2 rfl)
  | _ => exact hq1.elim
/-! ### [a, b, ..] with items of one's own -/
def PLK (K : PySem.W.Frag) (c : Str → Addr) (k : Nat) (Q : List V → Hp → Prop) (ds : List D) (G H : Hp) : Prop := ∀ vs G' H', ∀ Fi : Nat → Addr → Prop, Px G H G' H' → vs.length = ds.length → (∀ (i : Nat) v d, vs[i]? = some v → ds[i]? = some d → Own K c H' G' k v d (Fi i)) →
  (∀ (i : Nat) a, Fi i a → (∃ o, H' a = some o) ∧ G' a = none ∧ H a = none) → (∀ (i l : Nat) a, Fi i a → Fi l a → i = l) → Q vs H'
theorem PLK.mono {K : PySem.W.Frag} {c : Str → Addr} {k : Nat} {Q : List V → Hp → Prop} : Mono (PLK K c k Q) := fun x G H G' H' p h vs G2 H2 Fi p2 hl ow lv di => h vs G2 H2 Fi (p.trans p2) hl ow (fun i a z => ⟨(lv i a z).1, (lv i a z).2.1, p.hh.free (lv i a z).2.2⟩) di
def SemAK (K : PySem.W.Frag) (cl : Clx) (W : WX) (k : Nat) (t : TA) (F : AF) : Prop := ∀ ρ σ G H Fs, EnvR K cl ρ σ G H Fs → ∀ Q, PostG cl W σ G H (PLK K cl k Q) (F ρ) → t σ H Q
def EvAK (X : Cx) (cl : Clx) (W : WX) (k : Nat) (es : List Expr) (F : AF) : Prop := ∃ t, PA X es t ∧ SemAK X.K cl W k t F
def aConsK (k : Nat) (f : EF) (g : AF) : AF := fun ρ => (eFit k f ρ).bind fun y => (g ρ).bind fun ds => .ok (y.d :: ds)
@[simp] theorem aConsK_eq (k : Nat) (f : EF) (g : AF) (ρ : Env) : aConsK k f g ρ = (eFit k f ρ).bind fun y => (g ρ).bind fun ds => .ok (y.d :: ds) := rfl
def eLstK (k : Nat) (g : AF) : EF := fun ρ => (g ρ).bind fun ds => if ds.length ≤ 1000 then .ok ⟨false, k + 1, .lst ds⟩ else .bad
@[simp] theorem eLstK_eq (k : Nat) (g : AF) (ρ : Env) : eLstK k g ρ = (g ρ).bind fun ds => if ds.length ≤ 1000 then .ok ⟨false, k + 1, .lst ds⟩ else .bad := rfl
end
end B
namespace B
open PySem L2
/-! ### f(P): one thing of one's own, by its path, handed over to be changed -/
def cpR (q : Nat × Pth) (ρ : Env) (k : Nat) : RM → RV
  | .ok x (some (k', d') :: _) => if k' = k then .ok x.k x.d (putSl ρ q d' ρ[q.1]?) else .bad
  | .ex c (some (k', d') :: _) => if k' = k then .ex c (putSl ρ q d' ρ[q.1]?) else .bad
  | _ => .bad
@[simp] theorem cpR_ok (q : Nat × Pth) (ρ : Env) (k k' : Nat) (d' : D) (x : Vl) (o : Env) : cpR q ρ k (.ok x (some (k', d') :: o)) = if k' = k then .ok x.k x.d (putSl ρ q d' ρ[q.1]?) else .bad := rfl
@[simp] theorem cpR_ex (q : Nat × Pth) (ρ : Env) (k k' : Nat) (d' : D) (c : Str) (o : Env) : cpR q ρ k (.ex c (some (k', d') :: o)) = if k' = k then .ex c (putSl ρ q d' ρ[q.1]?) else .bad := rfl
def cpV (f : FnM) (q : Nat × Pth) (ρ : Env) : Option (Nat × D) → RV
  | some (k, d) => cpR q ρ k (f [(k, d)])
  | none => .bad
@[simp] theorem cpV_some (f : FnM) (q : Nat × Pth) (ρ : Env) (k : Nat) (d : D) : cpV f q ρ (some (k, d)) = cpR q ρ k (f [(k, d)]) := rfl
def mCallP (f : FnM) (P : PaF) : MF := fun ρ => toRV (P ρ) ρ fun q => cpV f q ρ (ownP q.2 ρ[q.1]?)
@[simp] theorem mCallP_eq (f : FnM) (P : PaF) (ρ : Env) : mCallP f P ρ = toRV (P ρ) ρ fun q => cpV f q ρ (ownP q.2 ρ[q.1]?) := rfl
section
variable {X : Cx} {cl : Clx} {W : WX} {pos : Pos}
/-! ### C(.., xs, ..): a new instance, xs handed over -/
def nwR (mo : List (Option Nat)) (ρ : Env) : RM → RV
  | .ok x (some (k, d) :: o) => match x.d with
    | .non => .ok k d (putOuts mo o ρ)
    | _ => .bad
  | .ex c (_ :: o) => .ex c (putOuts mo o ρ)
  | _ => .bad
@[simp] theorem nwR_ok (mo : List (Option Nat)) (ρ : Env) (b : Bool) (l k : Nat) (d : D) (o : Env) : nwR mo ρ (.ok ⟨b, l, .non⟩ (some (k, d) :: o)) = .ok k d (putOuts mo o ρ) := rfl
@[simp] theorem nwR_ex (mo : List (Option Nat)) (ρ : Env) (c : Str) (s : Slot) (o : Env) : nwR mo ρ (.ex c (s :: o)) = .ex c (putOuts mo o ρ) := rfl
def nwG (fl : Nat) (C : Str) (f : FnM) (mo : List (Option Nat)) (ρ : Env) : R (List (Nat × D)) → RV
  | .ok as => nwR mo ρ (f ((fl + 1, .obj C []) :: as))
  | .ex c => .ex c ρ
  | .bad => .bad
@[simp] theorem nwG_ok (fl : Nat) (C : Str) (f : FnM) (mo : List (Option Nat)) (ρ : Env) (as : List (Nat × D)) : nwG fl C f mo ρ (.ok as) = nwR mo ρ (f ((fl + 1, .obj C []) :: as)) := rfl
def mNew (fl : Nat) (C : Str) (f : FnM) (mo : List (Option Nat)) (g : AMF) : MF := fun ρ => nwG fl C f mo ρ (g ρ)
@[simp] theorem mNew_eq (fl : Nat) (C : Str) (f : FnM) (mo : List (Option Nat)) (g : AMF) (ρ : Env) : mNew fl C f mo g ρ = nwG fl C f mo ρ (g ρ) := rfl
theorem EnvR.tail {K : PySem.W.Frag} {c : Str → Addr} {s : Slot} {o : Env} {v : Option V} {vs : List (Option V)} {G H : Hp} {Fs : Foot} (e : EnvR K (cl0 c) (s :: o) (v :: vs) G H Fs) : EnvR K (cl0 c) o vs G H (fun i => Fs (i + 1)) :=
  ⟨by simpa using e.len, e.gh, fun i k d h => e.own (i + 1) k d h, fun i j a h1 h2 => by have := e.dis _ _ a h1 h2; omega, fun i a h => e.dom _ a h, fun i v h => nomatch h⟩
theorem em_new (fl : Nat) {c : Str → Addr} {x : Str} {k n : Nat} {f : FnM} {fi : Addr} {p : Pos} {e : Expr} {es : List Expr} {mo : List (Option Nat)} {g : AMF} (C : CalleeM X.prog X.w X.K X.mg X.base c fi k n f) (M : Mk X.K (c x) fi) (hm : X.mg x = some (.ref (c x))) (hr : Room (k + 1) X.A) (tk : Takes X W) (ha : EvAM X cl W (e :: es) mo g) (nd : nodM mo = true := by rfl) (hn : (e :: es).length + 1 = n := by rfl) (hg : Gl X x := by rfl)
    (hdb : (x == ("__debug__" : Str)) = false := by decide) (he : starEach (e :: es) X.env = (false, eval e X.env) :: starEach es X.env := by rfl) (hpl : (backTo pos (starEach es X.env)).any (·.1) = false := by rfl) (hcc : cl.c = c := by rfl) : EvM X cl W (.Call (.Name x p) (e :: es) [] pos) (mNew fl x f mo g) := by
  subst hcc
  obtain ⟨nb, fd, ps, F, kp, bi⟩ := C
  obtain ⟨t, pt, st, hl⟩ := ha
  refine ⟨_, pe_mkS M F hr hg hm bi (fun σ => passAt tk σ) pt hdb he hpl, fun ρ σ G H Fs env Q hq => ?_⟩
  refine st ρ σ G H Fs env _ ?_
  rw [mNew_eq] at hq
  cases e1 : g ρ with
  | bad => rw [e1] at hq; exact hq
  | ex z => rw [e1] at hq; exact fun G' H' px => hq G' H' Fs (env.px px) px.sx
  | ok as =>
    rw [e1, nwG_ok] at hq
    intro vs G1 H1 p1 am x' dx hx hd hne
    have env1 := env.px p1
    have e0 := callIn env1 am nd
    have same : Same H1 (upd (upd H1 dx (.own x')) x' (.ins (cl x) dx [])) := (same_new hd).trans (same_new (by rw [upd_ne (Ne.symm hne)]; exact hx))
    have gx : G1 x' = none := env1.gh.free hx
    have lvx : ∀ i a, FsA mo Fs i a → a ≠ x' := fun i a ⟨s, _, z⟩ ea => by
      obtain ⟨⟨o, ho⟩, _⟩ := env1.dom s a z
      rw [ea, hx] at ho; cases ho
    have envC : EnvR X.K (cl0 cl.c) (((fl + 1, D.obj x []) :: as).map some) ((V.ref x' :: vs).map some) G1 (upd (upd H1 dx (.own x')) x' (.ins (cl x) dx [])) (fun i a => match i with | 0 => a = x' | i + 1 => FsA mo Fs i a) := by
      refine ⟨by simp [am.len.1, am.len.2], env1.gh.trans same, fun i k d h => ?_, fun i j a h1 h2 => ?_, fun i a h => ?_, fun i v h => nomatch h⟩
      · cases i with
        | zero =>
          cases h
          exact ⟨.ref x', rfl, x', dx, [], fun _ _ => False, rfl, upd_same, rfl, rfl, fun i v d h1 => by simp at h1, fun _ _ z => z.elim, fun _ _ _ z => z.elim⟩
        | succ i =>
          obtain ⟨v, hv, o⟩ := e0.own i k d h
          exact ⟨v, hv, o.step (Same.refl _) fun a o _ q => same a o q⟩
      · cases i with
        | zero =>
          cases j with
          | zero => rfl
          | succ j => exact (lvx j a h2 h1).elim
        | succ i =>
          cases j with
          | zero => exact (lvx i a h1 h2).elim
          | succ j => rw [e0.dis i j a h1 h2]
      · cases i with
        | zero =>
          have h : a = x' := h
          rw [h]
          exact ⟨⟨_, upd_same⟩, gx⟩
        | succ i =>
          obtain ⟨⟨o, ho⟩, hg⟩ := e0.dom i a h
          exact ⟨⟨o, same a o ho⟩, hg⟩
    have unC : ∀ a, (Un fun i a => match i with | 0 => a = x' | i + 1 => FsA mo Fs i a) a → a = x' ∨ Un (FsA mo Fs) a := fun a ⟨i, z⟩ => by
      cases i with
      | zero => exact .inl z
      | succ i => exact .inr ⟨i, z⟩
    have back : ∀ {G' H' : Hp} {U U2 : Addr → Prop}, (∀ a, U2 a → U a) → Sx (Un fun i a => match i with | 0 => a = x' | i + 1 => FsA mo Fs i a) G1 (upd (upd H1 dx (.own x')) x' (.ins (cl x) dx [])) U G' H' → Sx (Un (FsA mo Fs)) G1 H1 U2 G' H' := fun {G' H' U U2} hu s => by
      refine ⟨s.gg, s.gh, fun a o ha n => s.fr a o (same a o ha) fun z => ?_, fun a o ha => s.th a o (same a o ha), fun a z => ?_, fun a o ha => ?_⟩
      · rcases unC a z with y | y
        · rw [y, hx] at ha; cases ha
        · exact n y
      · rcases s.un a (hu a z) with y | y
        · rcases unC a y with y | y
          · exact .inr (by rw [y]; exact hx)
          · exact .inl y
        · exact .inr (same.free y)
      · rcases s.gn a o ha with y | y | y
        · exact .inl y
        · rcases unC a y with y | y
          · exact .inr (.inr (by rw [y]; exact hx))
          · exact .inr (.inl y)
        · exact .inr (.inr (same.free y))
    refine ⟨by rw [List.length_cons, am.len.1, hl]; exact hn, G1, _, _, envC, ?_⟩
    cases ef : f ((fl + 1, .obj x []) :: as) with
    | bad => rw [ef] at hq; exact hq.elim
    | ex z oo =>
      rw [ef] at hq
      match oo, ef, hq with
      | s0 :: o, ef, hq =>
        rw [nwR_ex] at hq
        intro G' H' Fs' e' s
        have e' : EnvR X.K (cl0 cl.c) (s0 :: o) (some (V.ref x') :: vs.map some) G' H' Fs' := e'
        obtain ⟨e2, _, s2⟩ := callOut env1 am nd (F := fun _ => False) e'.tail (fun a z => z.elim) (back (fun a z => z.elim (fun ⟨i, y⟩ => ⟨i + 1, y⟩) False.elim) s)
        exact hq G' H' _ e2 (p1.sx.trans (s2.less fun a u => .inl u))
      | [], ef, hq => exact hq.elim
    | ok y oo =>
      rw [ef] at hq
      match oo, ef, hq with
      | some (k0, d0) :: o, ef, hq =>
        obtain ⟨yb, yk, yd⟩ := y
        cases yd with
        | non =>
          rw [nwR_ok] at hq
          refine ⟨nb _ _ _ ef, fun v G' H' Fs' F e' o' fr s => ⟨o'.non, ?_⟩⟩
          have e' : EnvR X.K (cl0 cl.c) (some (k0, d0) :: o) (some (V.ref x') :: vs.map some) G' H' Fs' := e'
          obtain ⟨v0, hv0, o0⟩ := e'.own 0 k0 d0 rfl
          cases hv0
          obtain ⟨e2, f2, s2⟩ := callOut env1 am nd (F := Fs' 0) e'.tail (fun a z => ⟨(e'.dom 0 a z).1, (e'.dom 0 a z).2, fun ⟨i, y⟩ => by have := e'.dis _ _ a z y; omega⟩) (back (fun a z => .inl (z.elim (fun ⟨i, y⟩ => ⟨i + 1, y⟩) fun y => ⟨0, y⟩)) s)
          exact hq _ G' H' _ (Fs' 0) e2 o0 f2 (p1.sx.trans s2)
        | _ => exact hq.elim
      | none :: _, ef, hq => exact hq.elim
      | [], ef, hq => exact hq.elim
/-! ### f(..), f reads alone, the arguments with effects -/
def mcR (ρ : Env) : R Vl → RV
  | .ok x => .ok x.k x.d ρ
  | .ex c => .ex c ρ
  | .bad => .bad
@[simp] theorem mcR_ok (ρ : Env) (x : Vl) : mcR ρ (.ok x) = .ok x.k x.d ρ := rfl
@[simp] theorem mcR_ex (ρ : Env) (c : Str) : mcR ρ (.ex c) = .ex c ρ := rfl
def mcG (f : Fn) : RVs → RV
  | .ok ds ρ => mcR ρ (f ds)
  | .ex c ρ => .ex c ρ
  | .bad => .bad
@[simp] theorem mcG_ok (f : Fn) (ds : List D) (ρ : Env) : mcG f (.ok ds ρ) = mcR ρ (f ds) := rfl
@[simp] theorem mcG_ex (f : Fn) (c : Str) (ρ : Env) : mcG f (.ex c ρ) = .ex c ρ := rfl
def mCallF (f : Fn) (g : MsF) : MF := fun ρ => mcG f (g ρ)
@[simp] theorem mCallF_eq (f : Fn) (g : MsF) (ρ : Env) : mCallF f g ρ = mcG f (g ρ) := rfl
theorem em_callF {x : Str} {k n : Nat} {f : Fn} {p : Pos} {e : Expr} {es : List Expr} {g : MsF} {c : Str → Addr} (C : Callee X.prog X.w X.K X.mg X.base c x k n f) (hr : Room k X.A) (tk : Takes X W) (ha : EvMs X cl W (e :: es) g) (hl : ∀ ρ ds ρ', g ρ = .ok ds ρ' → ds.length = n) (hg : Gl X x := by rfl)
    (hdb : (x == ("__debug__" : Str)) = false := by decide) (he : starEach (e :: es) X.env = (false, eval e X.env) :: starEach es X.env := by rfl) (hpl : (backTo pos (starEach es X.env)).any (·.1) = false := by rfl) (hcc : cl.c = c := by rfl) : EvM X cl W (.Call (.Name x p) (e :: es) [] pos) (mCallF f g) := by
  subst hcc
  obtain ⟨nb, fa, fd, ps, F, gm, kp, bi⟩ := C
  obtain ⟨t, pt, st⟩ := ha
  refine ⟨_, pe_callS F hr hg gm kp bi (fun σ => passAt tk σ) pt hdb he hpl, fun ρ σ G H Fs env Q hq => ?_⟩
  refine st ρ σ G H Fs env _ ?_
  rw [mCallF_eq] at hq
  cases e1 : g ρ with
  | bad => rw [e1] at hq; exact hq
  | ex z ρ1 => rw [e1] at hq; exact hq
  | ok ds ρ1 =>
    rw [e1, mcG_ok] at hq
    intro vs G1 H1 F1 env1 r1 sx1
    refine ⟨by rw [r1.1, hl ρ ds ρ1 e1], G1, ds, env1.gh, r1, ?_⟩
    cases ef : f ds with
    | bad => rw [ef] at hq; exact hq
    | ex z =>
      rw [ef] at hq
      exact fun G' H' px => hq G' H' F1 (env1.px px) (sx1.trans px.sx)
    | ok y =>
      rw [ef, mcR_ok] at hq
      have hb := nb ds y ef
      refine ⟨hb, fun v G' H' F px o fo => ?_⟩
      rw [hb] at fo
      exact hq v G' H' F1 F (env1.px px) o (fun a fa => ⟨(fo a fa).1, (fo a fa).2.1, foo_un env1 fo a fa⟩) (sx1.trans (sx_ret px fo))
theorem msl_nil : ∀ ρ ds ρ', msNil ρ = .ok ds ρ' → ds.length = 0 := fun ρ ds ρ' h => by cases h; rfl
theorem msl_cons {f : MF} {g : MsF} {n : Nat} (h : ∀ ρ ds ρ', g ρ = .ok ds ρ' → ds.length = n) : ∀ ρ ds ρ', msCons f g ρ = .ok ds ρ' → ds.length = n + 1 := fun ρ ds ρ' e => by
  rw [msCons_eq] at e
  cases e1 : f ρ with
  | bad => rw [e1] at e; cases e
  | ex c ρ1 => rw [e1] at e; cases e
  | ok k d ρ1 =>
    rw [e1, consMs_ok] at e
    cases e2 : g ρ1 with
    | bad => rw [e2] at e; cases e
    | ex c ρ2 => rw [e2] at e; cases e
    | ok es ρ2 =>
      rw [e2, consM_ok] at e
      cases e
      simp [h ρ1 es _ e2]
/-! ### tests with effects -/
inductive RT where
  | ok (b : Bool) (ρ : Env)
  | ex (c : Str) (ρ : Env)
  | bad
abbrev TMF := Env → RT
def PostT (K : PySem.W.Frag) (cl : Clx) (W : WX) (U : Addr → Prop) (σ : L2.St) (G H : Hp) (Q : Bool → Hp → Prop) : RT → Prop
  | .ok b ρ => ∀ G' H' Fs', EnvR K cl ρ σ G' H' Fs' → Sx U G H (Un Fs') G' H' → Q b H'
  | .ex c ρ => ∀ G' H' Fs', EnvR K cl ρ σ G' H' Fs' → Sx U G H (Un Fs') G' H' → W (.ref (cl c)) none σ H'
  | .bad => False
def SemTM (K : PySem.W.Frag) (cl : Clx) (W : WX) (t : TT) (F : TMF) : Prop := ∀ ρ σ G H Fs, EnvR K cl ρ σ G H Fs → ∀ Q, PostT K cl W (Un Fs) σ G H Q (F ρ) → t σ H Q
def EvTM (X : Cx) (cl : Clx) (W : WX) (e : Expr) (F : TMF) : Prop := ∃ t, PT X e t ∧ SemTM X.K cl W t F
def EvWM (X : Cx) (cl : Clx) (W : WX) (e : Expr) (F : TMF) : Prop := ∃ t, PW X e t ∧ SemTM X.K cl W t F
theorem PostT.mono {K : PySem.W.Frag} {U U' : Addr → Prop} {σ : L2.St} {G H G' H' : Hp} {Q : Bool → Hp → Prop} {r : RT} (s : Sx U G H U' G' H') (h : PostT K cl W U σ G H Q r) : PostT K cl W U' σ G' H' Q r := by
  cases r with
  | ok b ρ => exact fun G2 H2 F2 e s2 => h G2 H2 F2 e (s.trans s2)
  | ex c ρ => exact fun G2 H2 F2 e s2 => h G2 H2 F2 e (s.trans s2)
  | bad => exact h
def tmR (ρ : Env) : R Bool → RT
  | .ok b => .ok b ρ
  | .ex c => .ex c ρ
  | .bad => .bad
@[simp] theorem tmR_ok (ρ : Env) (b : Bool) : tmR ρ (.ok b) = .ok b ρ := rfl
@[simp] theorem tmR_ex (ρ : Env) (c : Str) : tmR ρ (.ex c) = .ex c ρ := rfl
def tmP (f : TF) : TMF := fun ρ => tmR ρ (f ρ)
@[simp] theorem tmP_eq (f : TF) (ρ : Env) : tmP f ρ = tmR ρ (f ρ) := rfl
def tmB (ρ : Env) : D → RT
  | .bl b => .ok b ρ
  | _ => .bad
@[simp] theorem tmB_bl (ρ : Env) (b : Bool) : tmB ρ (.bl b) = .ok b ρ := rfl
def tmV (r : RV) : RT := match r with
  | .ok _ d ρ => tmB ρ d
  | .ex c ρ => .ex c ρ
  | .bad => .bad
@[simp] theorem tmV_ok (k : Nat) (d : D) (ρ : Env) : tmV (.ok k d ρ) = tmB ρ d := rfl
@[simp] theorem tmV_ex (c : Str) (ρ : Env) : tmV (.ex c ρ) = .ex c ρ := rfl
def tmE (f : MF) : TMF := fun ρ => tmV (f ρ)
@[simp] theorem tmE_eq (f : MF) (ρ : Env) : tmE f ρ = tmV (f ρ) := rfl
def tmT (r : RT) (g : Bool → Env → RT) : RT := match r with
  | .ok b ρ => g b ρ
  | .ex c ρ => .ex c ρ
  | .bad => .bad
@[simp] theorem tmT_ok (b : Bool) (ρ : Env) (g : Bool → Env → RT) : tmT (.ok b ρ) g = g b ρ := rfl
@[simp] theorem tmT_ex (c : Str) (ρ : Env) (g : Bool → Env → RT) : tmT (.ex c ρ) g = .ex c ρ := rfl
@[simp] theorem tmT_bad (g : Bool → Env → RT) : tmT .bad g = .bad := rfl
def tmNot (a : TMF) : TMF := fun ρ => tmT (a ρ) fun b ρ => .ok (!b) ρ
def tmAnd (a b : TMF) : TMF := fun ρ => tmT (a ρ) fun x ρ => if x then b ρ else .ok false ρ
def tmOr (a b : TMF) : TMF := fun ρ => tmT (a ρ) fun x ρ => if x then .ok true ρ else b ρ
@[simp] theorem tmNot_eq (a : TMF) (ρ : Env) : tmNot a ρ = tmT (a ρ) fun b ρ => .ok (!b) ρ := rfl
@[simp] theorem tmAnd_eq (a b : TMF) (ρ : Env) : tmAnd a b ρ = tmT (a ρ) fun x ρ => if x then b ρ else .ok false ρ := rfl
@[simp] theorem tmOr_eq (a b : TMF) (ρ : Env) : tmOr a b ρ = tmT (a ρ) fun x ρ => if x then .ok true ρ else b ρ := rfl
theorem SemTM.then {K : PySem.W.Frag} {ρ : Env} {σ : L2.St} {G H : Hp} {Fs : Foot} {t : TT} {F : TMF} (h : SemTM K cl W t F) (env : EnvR K cl ρ σ G H Fs) {Q : Bool → Hp → Prop} {g : Bool → Env → RT} (hq : PostT K cl W (Un Fs) σ G H Q (tmT (F ρ) g)) {C : Bool → Hp → Prop}
    (step : ∀ b ρ' G' H' Fs', EnvR K cl ρ' σ G' H' Fs' → PostT K cl W (Un Fs') σ G' H' Q (g b ρ') → C b H') : t σ H C := by
  refine h ρ σ G H Fs env C ?_
  cases e : F ρ with
  | ok b ρ' =>
    rw [e] at hq
    exact fun G' H' Fs' e' s => step b ρ' G' H' Fs' e' (PostT.mono s hq)
  | ex c ρ' => rw [e] at hq; exact hq
  | bad => rw [e] at hq; exact hq
theorem EvWM.t {e : Expr} {f : TMF} (h : EvWM X cl W e f) : EvTM X cl W e f := by
  obtain ⟨t, p, s⟩ := h
  exact ⟨t, p.pt, s⟩
def toST (r : RT) (g : Bool → Env → RS) : RS := match r with
  | .ok b ρ => g b ρ
  | .ex c ρ => .ex c ρ
  | .bad => .bad
@[simp] theorem toST_ok (b : Bool) (ρ : Env) (g : Bool → Env → RS) : toST (.ok b ρ) g = g b ρ := rfl
@[simp] theorem toST_ex (c : Str) (ρ : Env) (g : Bool → Env → RS) : toST (.ex c ρ) g = .ex c ρ := rfl
@[simp] theorem toST_bad (g : Bool → Env → RS) : toST .bad g = .bad := rfl
def sIfM (c : TMF) (f g : SF) : SF := fun ρ => toST (c ρ) fun b ρ => if b then f ρ else g ρ
@[simp] theorem sIfM_eq (c : TMF) (f g : SF) (ρ : Env) : sIfM c f g ρ = toST (c ρ) fun b ρ => if b then f ρ else g ρ := rfl
end
end B
namespace RSm
open PySem PySem.Spec PyProof.Rows L2
section
variable {prog : Program} {w : World} {A : Around} {E : Value → Shared → Prop} {s : Shared}
/-- the walk with one item more ahead -/
def upP (P : Nat → Value → Prop) : Nat → Value → Prop
  | 0 => fun _ => False
  | i + 1 => P i
def upS (St : Nat → Heap → Prop) : Nat → Heap → Prop
  | 0 => fun _ => False
  | i + 1 => St i
def upV (c : Int) (val : Nat → Int) : Nat → Int
  | 0 => c
  | i + 1 => val i
end
end RSm
namespace B
open PySem L2
def rSumS (K : PySem.W.Frag) : List V → List V → Hp → VK → Prop := fun vs zs H Q => ∃ (a : Addr) (ns : List Int) (c : Int), vs = [V.ref a] ∧ zs = [V.int c] ∧ SqL K H a (ns.map V.int) ∧ Q (.int (c + ns.sum)) H
def intsOf : List D → Option (List Int)
  | [] => some []
  | .int i :: r => (intsOf r).map (i :: ·)
  | _ => none
@[simp] theorem intsOf_map : ∀ xs : List Int, intsOf (xs.map .int) = some xs
  | [] => rfl
  | x :: xs => by simp [intsOf, intsOf_map xs]
@[simp] theorem intsOf_nil : intsOf [] = some [] := rfl
theorem intsOf_eq : ∀ {ds : List D} {ns : List Int}, intsOf ds = some ns → ds = ns.map .int
  | [], ns, h => by cases h; rfl
  | .int i :: r, ns, h => by
    unfold intsOf at h
    cases e : intsOf r with
    | none => rw [e] at h; cases h
    | some ms => rw [e] at h; cases h; rw [intsOf_eq e]; rfl
  | .non :: r, ns, h => by cases h
  | .bl _ :: r, ns, h => by cases h
  | .str _ :: r, ns, h => by cases h
  | .lst _ :: r, ns, h => by cases h
  | .tup _ :: r, ns, h => by cases h
  | .obj _ _ :: r, ns, h => by cases h
  | .exo _ :: r, ns, h => by cases h
  | .dct _ :: r, ns, h => by cases h
  | .dci _ :: r, ns, h => by cases h
def sumD : List D → Vl → R Vl
  | [.lst ds], ⟨_, _, .int c⟩ => match intsOf ds with
    | some ns => .ok (sh (.int (c + ns.sum)))
    | none => .bad
  | _, _ => .bad
@[simp] theorem sumD_eq (ds : List D) (b : Bool) (k : Nat) (c : Int) : sumD [.lst ds] ⟨b, k, .int c⟩ = match intsOf ds with
    | some ns => .ok (sh (.int (c + ns.sum)))
    | none => .bad := rfl
def eSumS (a : AF) (s : EF) : EF := fun ρ => (a ρ).bind fun ds => (s ρ).bind (sumD ds)
@[simp] theorem eSumS_eq (a : AF) (s : EF) (ρ : Env) : eSumS a s ρ = (a ρ).bind fun ds => (s ρ).bind (sumD ds) := rfl
theorem repL_intsV {K : PySem.W.Frag} {cl : Str → Addr} {G : Hp} : ∀ {ns : List Int} {vs : List V}, vs.length = (ns.map D.int).length → (∀ (i : Nat) v d, vs[i]? = some v → (ns.map D.int)[i]? = some d → Rep K cl G v d) → vs = ns.map V.int
  | [], [], _, _ => rfl
  | n :: ns, v :: vs, hl, hr => by
    have h0 := hr 0 v (.int n) rfl rfl
    cases h0
    rw [List.map_cons, repL_intsV (ns := ns) (vs := vs) (by simpa using hl) fun i v d h1 h2 => hr (i + 1) v d (by simpa using h1) (by simpa using h2)]
  | n :: ns, [], hl, _ => by simp at hl
  | [], v :: vs, hl, _ => by simp at hl
section
variable {X : Cx} {cl : Clx} {W : WX} {pos : Pos}
end
end B
namespace B
open PySem L2
/-! ### defs with defaults -/
section
variable {X : Cx} {CX : CXT} {k : Nat} {f : Addr} {fd : FuncData} {ps : List Str} {sp : Sp} {E : L2.St → XK} {x : Str} {p pos : Pos} {e : Expr} {es : List Expr} {t : TA}
def tCallD (sp : Sp) (dvs : List V) (E : L2.St → XK) (t : TA) : TE := fun σ H Q => t σ H fun vs H1 => sp (vs ++ dvs) H1 Q (E σ)
end
section
variable {P : Program} {w : World} {K : PySem.W.Frag} {mg : Str → Option Value} {base : Heap} {cl : Str → Addr}
/-- a def called with its last values left out: they are dd -/
structure CalleeD (P : Program) (w : World) (K : PySem.W.Frag) (mg : Str → Option Value) (base : Heap) (cl : Str → Addr) (x : Str) (k m : Nat) (dd : List D) (f : Fn) : Prop where
  nb : ∀ ds x, f ds = .ok x → x.b = false
  ex : ∃ fa fd ps n vv us, FnOk P w K mg base (L2.CX P w) k fa fd ps (spP K cl n f) ∧ mg x = some (.ref fa) ∧ PySem.W.keepIn K (.ref fa) = true ∧ Binds K fd ps us ∧ Vals vv us ∧ (∀ G, RepL K cl G vv dd) ∧ m + dd.length = n
theorem CalleeD.of {x : Str} {st : Stmt} {fa : Addr} {fd : FuncData} {N ps : List Str} {k m : Nat} {b : SF} {vv : List V} {dd : List D} (F : FunD K x x (defArgs st) (defBody st) (defScope st) vv [] fa fd) (g : mg x = some (.ref fa)) (S : FnScope N ps (defScope st)) (hb : BodyOk P w K mg base (cl0 cl) k N x st b)
    (hn : m + dd.length = ps.length) (hne : vv ≠ []) (hrep : ∀ G, RepL K cl G vv dd)
    (h : ∀ (T : Addr) (kV doc pm : Value) (an : Option Addr) (cdv ct : Value) (us its : List Value), us.length = m → its.length = vv.length →
      ∃ k, bindArgs (PySem.W.fnOf x x (defArgs st) (defBody st) (defScope st) (.ref T) kV doc pm an cdv ct) ⟨us, []⟩ = seqItems? (.ref T) >>= k ∧ k (some its.toArray) = pure (ps.zip (us ++ its.drop 0))) :
    CalleeD P w K mg base cl x (k + 1) m dd (runF N.length b) := by
  have hl : vv.length = dd.length := (hrep (fun _ => none)).1
  obtain ⟨us, hv, hbi⟩ := F.binds1 m 0 hne (by omega) h
  rw [List.drop_zero] at hv
  exact ⟨fun _ _ => runF_nb, fa, fd, ps, ps.length, vv, us, fn_pure F S hb, g, F.kp, hbi, hv, hrep, hn⟩
theorem Callee.ofD {x : Str} {st : Stmt} {fa : Addr} {fd : FuncData} {N ps : List Str} {k : Nat} {b : SF} {vv : List V} (F : FunD K x x (defArgs st) (defBody st) (defScope st) vv [] fa fd) (g : mg x = some (.ref fa)) (S : FnScope N ps (defScope st)) (hb : BodyOk P w K mg base (cl0 cl) k N x st b)
    (hne : vv ≠ [])
    (h : ∀ (T : Addr) (kV doc pm : Value) (an : Option Addr) (cdv ct : Value) (us its : List Value), us.length = ps.length → its.length = vv.length →
      ∃ k, bindArgs (PySem.W.fnOf x x (defArgs st) (defBody st) (defScope st) (.ref T) kV doc pm an cdv ct) ⟨us, []⟩ = seqItems? (.ref T) >>= k ∧ k (some its.toArray) = pure (ps.zip (us ++ its.drop vv.length))) :
    Callee P w K mg base cl x (k + 1) ps.length (runF N.length b) := by
  obtain ⟨us, hv, hbi⟩ := F.binds1 ps.length vv.length hne (by omega) h
  rw [List.drop_length] at hv
  cases hv
  exact ⟨fun _ _ => runF_nb, fa, fd, ps, fn_pure F S hb, g, F.kp, hbi⟩
end
section
variable {X : Cx} {cl : Clx} {W : WX} {pos : Pos}
def eCallD (f : Fn) (dd : List D) (g : AF) : EF := fun ρ => (g ρ).bind fun ds => f (ds ++ dd)
@[simp] theorem eCallD_eq (f : Fn) (dd : List D) (g : AF) (ρ : Env) : eCallD f dd g ρ = (g ρ).bind fun ds => f (ds ++ dd) := rfl
end
/-! ### sums, all, any, sorted of a list -/
def boolsOf : List D → Option (List Bool)
  | [] => some []
  | .bl i :: r => (boolsOf r).map (i :: ·)
  | _ => none
@[simp] theorem boolsOf_map : ∀ xs : List Bool, boolsOf (xs.map .bl) = some xs
  | [] => rfl
  | x :: xs => by simp [boolsOf, boolsOf_map xs]
@[simp] theorem boolsOf_nil : boolsOf [] = some [] := rfl
def ins (x : Int) : List Int → List Int
  | [] => [x]
  | y :: ys => if x ≤ y then x :: y :: ys else y :: ins x ys
def srt : List Int → List Int
  | [] => []
  | x :: xs => ins x (srt xs)
theorem ins_perm (x : Int) : ∀ ys, (ins x ys).Perm (x :: ys)
  | [] => List.Perm.refl _
  | y :: ys => by
    unfold ins
    split
    · exact List.Perm.refl _
    · exact ((ins_perm x ys).cons y).trans (List.Perm.swap x y ys)
theorem srt_perm : ∀ xs, (srt xs).Perm xs
  | [] => List.Perm.refl _
  | x :: xs => (ins_perm x _).trans ((srt_perm xs).cons x)
theorem ins_sorted (x : Int) : ∀ ys, ys.Pairwise (· ≤ ·) → (ins x ys).Pairwise (· ≤ ·)
  | [], _ => by simp [ins]
  | y :: ys, h => by
    unfold ins
    split
    · rename_i hxy
      refine List.Pairwise.cons (fun z hz => ?_) h
      rcases List.mem_cons.mp hz with rfl | hz
      · exact hxy
      · exact Int.le_trans hxy ((List.pairwise_cons.mp h).1 z hz)
    · rename_i hxy
      refine List.Pairwise.cons (fun z hz => ?_) (ins_sorted x ys (List.pairwise_cons.mp h).2)
      rcases List.mem_cons.mp ((ins_perm x ys).mem_iff.mp hz) with rfl | hz
      · omega
      · exact (List.pairwise_cons.mp h).1 z hz
theorem srt_sorted : ∀ xs, (srt xs).Pairwise (· ≤ ·)
  | [] => List.Pairwise.nil
  | x :: xs => ins_sorted x _ (srt_sorted xs)
theorem sorted_unique : ∀ {xs ys : List Int}, xs.Perm ys → xs.Pairwise (· ≤ ·) → ys.Pairwise (· ≤ ·) → xs = ys
  | [], ys, p, _, _ => p.nil_eq
  | x :: xs, [], p, _, _ => by have := p.length_eq; simp at this
  | x :: xs, y :: ys, p, hx, hy => by
    have h1 : x ≤ y := by
      rcases List.mem_cons.mp (p.symm.mem_iff.mp (List.mem_cons_self (a := y) (l := ys))) with h | h
      · omega
      · exact (List.pairwise_cons.mp hx).1 y h
    have h2 : y ≤ x := by
      rcases List.mem_cons.mp (p.mem_iff.mp (List.mem_cons_self (a := x) (l := xs))) with h | h
      · omega
      · exact (List.pairwise_cons.mp hy).1 x h
    have e : x = y := by omega
    subst e
    rw [sorted_unique p.cons_inv (List.pairwise_cons.mp hx).2 (List.pairwise_cons.mp hy).2]
def sum1 : List D → R Vl
  | [.lst ds] => match intsOf ds with
    | some ns => .ok (sh (.int ns.sum))
    | none => .bad
  | _ => .bad
def all1 : List D → R Vl
  | [.lst ds] => match boolsOf ds with
    | some ns => .ok (sh (.bl (ns.all id)))
    | none => .bad
  | _ => .bad
def any1 : List D → R Vl
  | [.lst ds] => match boolsOf ds with
    | some ns => .ok (sh (.bl (ns.any id)))
    | none => .bad
  | _ => .bad
def srt1 : List D → R Vl
  | [.lst ds] => match intsOf ds with
    | some ns => .ok ⟨false, 1, .lst ((srt ns).map .int)⟩
    | none => .bad
  | _ => .bad
@[simp] theorem sum1_eq (ds : List D) : sum1 [.lst ds] = match intsOf ds with
    | some ns => .ok (sh (.int ns.sum))
    | none => .bad := rfl
@[simp] theorem all1_eq (ds : List D) : all1 [.lst ds] = match boolsOf ds with
    | some ns => .ok (sh (.bl (ns.all id)))
    | none => .bad := rfl
@[simp] theorem any1_eq (ds : List D) : any1 [.lst ds] = match boolsOf ds with
    | some ns => .ok (sh (.bl (ns.any id)))
    | none => .bad := rfl
@[simp] theorem srt1_eq (ds : List D) : srt1 [.lst ds] = match intsOf ds with
    | some ns => .ok ⟨false, 1, .lst ((srt ns).map .int)⟩
    | none => .bad := rfl
section
variable {X : Cx} {cl : Clx} {W : WX} {pos : Pos}
/-- one list as the only argument -/
theorem one_lst {K : PySem.W.Frag} {G : Hp} {c : Str → Addr} {vs : List V} {es : List D} (r1 : RepL K c G vs [.lst es]) : ∃ (a : Addr) (us : List V), vs = [.ref a] ∧ Rd G a (.lst us) ∧ us.length = es.length ∧ ∀ (i : Nat) v d, us[i]? = some v → es[i]? = some d → Rep K c G v d := by
  obtain ⟨v0, hv0, rv0⟩ := r1.some (i := 0) rfl
  have hlen := r1.1
  match vs, hlen, hv0 with
  | [w], _, hv0 =>
    cases hv0
    cases rv0 with
    | lst hS hl2 hr => exact ⟨_, _, rfl, hS, hl2, hr⟩
theorem ev_srt1 {p : Pos} {a : Expr} {g : AF} (hm : X.mg "sorted" = none) (ha : EvA X cl W [a] g) (hg : Gl X "sorted" := by rfl) (hs : starEach [a] X.env = (false, eval a X.env) :: starEach [] X.env := by rfl) (hpl : (backTo pos (starEach [] X.env)).any (·.1) = false := by rfl) : EvE X cl W (.Call (.Name "sorted" p) [a] [] pos) (eCall srt1 g) := by
  obtain ⟨t, pt, st, hl⟩ := ha
  refine ⟨_, pe_callB cr_sortedI hg hm PyProof.Rows.boot_sorted pt (by decide) (by decide) hs hpl, fun ρ σ G H Fs env Q hq => ?_⟩
  refine st.use env PV.mono hq fun ds vs G1 H1 e1 p1 env1 r1 hq1 => ?_
  match ds, r1, hq1 with
  | [.lst es], r1, hq1 =>
    rw [srt1_eq] at hq1
    cases ei : intsOf es with
    | none => rw [ei] at hq1; exact hq1.elim
    | some ns =>
      rw [ei] at hq1
      obtain rfl := intsOf_eq ei
      obtain ⟨a0, us, rfl, hS, hl2, hr⟩ := one_lst r1
      obtain rfl := repL_intsV hl2 hr
      refine ⟨_, ns, rfl, .inl (rdEx env1.gh hS), fun ns' q hp hpw hq0 => ?_⟩
      obtain rfl : ns' = srt ns := sorted_unique (hp.trans (srt_perm ns).symm) hpw (srt_sorted ns)
      exact hq1 _ G1 _ _ (px_new env1.gh hq0) (own1 upd_same (repL_ints (srt ns))) (foo1 env1.gh hq0)
end
end B
namespace RT
open PySem PySem.Spec PyProof.Rows L2
section
variable {prog : Program} {w : World} {A : Around} {E : Value → Shared → Prop} {s : Shared}
/-- list(reversed(xs)): the new list takes the items from the end on -/
theorem extend_rev {R : Result → Shared → Prop} {it l : Addr} {items : Array Value} (hh : A.handled = none) (S : Addr) (res : Value) (c₀ : Nat) (hit : s.heap.IsRevIter it l ((items.size : Int) - 1)) (hl : s.heap.IsList l items) (hne : l ≠ it) (hSi : S ≠ it) (hSl : S ≠ l) (hS : s.heap.get? S = some { cls := .type "list", data := .seq #[] c₀ })
    (hR : ∀ h' tk acc' c', (∀ b o, b ≠ S → b ≠ it → s.heap.get? b = some o → h'.get? b = some o) → h'.get? S = some { cls := .type "list", dict := none, data := .seq acc' c', slots := #[] } →
      ItemsOf (fun i v => items[items.size - 1 - i]? = some v) acc' items.size → R (.ok (.ret res)) { s with heap := h', toks := tk }) (hn : items.size ≤ sizeLine) :
    wpAny (model prog w) A.in1 (Builtin.List.listExtendWith (.ref S) (.ref it) res)
      (fun fin s' => match fin with | .done f => R (.ok f) s' | .again c' => c'.quiet = true ∧ codeAny (model prog w) A c' R s') (fun e s' => R (.error e) s') s := by
  have W := (Walks.listRev (prog := prog) (w := w) (A := A.in1) hh it l hne items).toS
  have hSf : S ∉ [it, l] := by simp only [List.mem_cons, List.not_mem_nil, or_false, not_or]; exact ⟨hSi, hSl⟩
  have hT : s.TypeIs (.ref it) "list_reverseiterator" := Heap.IsRevIter.typeIs (s := s) hit
  have h1 : Builtin.List.listSameRef (.ref S) (.ref it) = false := by simp [Builtin.List.listSameRef, hSi]
  unfold Builtin.List.listExtendWith
  refine wpAny_bind (wpAny_typeOf hT ?_)
  rw [if_neg (by rw [h1]; decide)]
  refine wpAny_bind (wpAny_pyIter_revIter (s := s) hit ?_)
  refine wpAny_bind (wpAny_holding ?_)
  unfold Builtin.List.listLengthHint
  refine wpAny_bind (wpAny_specialOf hT nolen_lri ?_)
  show wpAny _ A.in1 (specialOf (Value.ref it) (Str.ofString "__length_hint__") >>= _) _ _ _
  refine wpAny_bind (wpAny_specialOf hT hint_lri ?_)
  generalize hid : ("list_reverseiterator.__length_hint__" : String) = id0
  wp_delta
  rw [show splitId id0 = some ("list_reverseiterator", "__length_hint__") from by subst hid; decide +kernel]
  subst hid
  refine wpAny_bind (wpAny_isInstance (b := true) hT (by rw [isSubtype_type]; kernel_rfl) ?_)
  refine wpAny_pure ?_
  rw [if_neg (by decide)]
  have e0 : ((items.size : Nat) : Int) - 1 - ((0 : Nat) : Int) = (items.size : Int) - 1 := by omega
  refine wpAny_pure ⟨plainId_quiet F.plain_extend_loop _, codeAny_extend_loopS W hn _ hSf _ items.size 0 _ _ _ rfl (Nat.zero_le _) ⟨Nat.zero_le _, by rw [e0]; exact hit, hl⟩ hS (ItemsOf.nil _) fun s' acc' c' hm hS' hacc => ?_⟩
  rw [Moved.eq_with hm]
  refine hR s'.heap s'.toks acc' c' (fun b o hb hb2 e => hm.heap b o (fun hmem => ?_) e) hS' hacc
  rcases List.mem_cons.mp hmem with e' | hmem
  · exact hb e'
  · exact hb2 (List.mem_singleton.mp hmem)
theorem list_init_rev {R : Result → Shared → Prop} {it l : Addr} {items : Array Value} (hh : A.handled = none) (S : Addr) (hit : s.heap.IsRevIter it l ((items.size : Int) - 1)) (hl : s.heap.IsList l items) (hne : l ≠ it) (hSi : S ≠ it) (hSl : S ≠ l) (hS : s.heap.get? S = some { cls := .type "list", data := .seq #[] })
    (hR : ∀ h' tk acc' c', (∀ b o, b ≠ S → b ≠ it → s.heap.get? b = some o → h'.get? b = some o) → h'.get? S = some { cls := .type "list", dict := none, data := .seq acc' c', slots := #[] } →
      ItemsOf (fun i v => items[items.size - 1 - i]? = some v) acc' items.size → R (.ok (.ret .none)) { s with heap := h', toks := tk }) (hn : items.size ≤ sizeLine) :
    wpAny (model prog w) A.in1 (Builtin.«list.__init__» ⟨[.ref S, .ref it], []⟩)
      (fun fin s' => match fin with | .done f => R (.ok f) s' | .again c' => c'.quiet = true ∧ codeAny (model prog w) A c' R s') (fun e s' => R (.error e) s') s := by
  show wpAny _ _ (do let old ← Builtin.List.listItems (.ref S); Builtin.List.listUpdate (.ref S) (fun _ => #[]); letGo old.toList.reverse; Builtin.List.listExtendWith (.ref S) (.ref it) .none) _ _ s
  refine wpAny_bind ?_
  unfold Builtin.List.listItems
  refine wpAny_bind (wpAny_seqItems hS rfl (wpAny_pure ?_))
  show wpAny _ _ (updateSeq S (fun _ => #[]) >>= fun _ => letGo (#[] : Array Value).toList.reverse >>= fun _ => Builtin.List.listExtendWith (.ref S) (.ref it) .none) _ _ s
  refine wpAny_bind (wpAny_updateSeq hS rfl ?_)
  have hS₂ := Heap.get?_update_self (Obj.mapSeq (fun _ => (#[] : Array Value))) hS rfl
  have oth : ∀ b o, b ≠ S → s.heap.get? b = some o → (s.heap.update S (Obj.mapSeq (fun _ => (#[] : Array Value)))).get? b = some o :=
    fun b o hb e => (Heap.get?_update_other _ _ (Ne.symm hb)).trans e
  refine wpAny_bind (wpAny_letGo ?_)
  refine extend_rev (s := { s with heap := s.heap.update S (Obj.mapSeq (fun _ => (#[] : Array Value))) }) hh S .none _ (hit.at fun o e => oth _ o (Ne.symm hSi) e) (hl.at fun o e => oth _ o (Ne.symm hSl) e) hne hSi hSl hS₂ (fun h' tk acc' c' hk hS' hacc => ?_) hn
  exact hR h' tk acc' c' (fun b o hb hb2 e => hk b o hb hb2 (oth b o hb e)) hS' hacc
theorem call_list_rev {it l : Addr} {items : Array Value} {Q : Value → Shared → Prop} (hh : A.handled = none) (hit : s.heap.IsRevIter it l ((items.size : Int) - 1)) (hl : s.heap.IsList l items) (hne : l ≠ it) (hn : items.size ≤ sizeLine)
    (hQ : ∀ h' tk acc' c', (∀ b o, b ≠ it → s.heap.get? b = some o → h'.get? b = some o) → h'.get? s.heap.objs.size = some { cls := .type "list", dict := none, data := .seq acc' c', slots := #[] } → ItemsOf (fun i v => items[items.size - 1 - i]? = some v) acc' items.size → Q (.ref s.heap.objs.size) { s with heap := h', toks := tk }) :
    wpAny (model prog w) A (call (.type "list") [.ref it]) Q E s := by
  obtain ⟨oi, hoi, _⟩ := id hit
  obtain ⟨ol, hol, _⟩ := id hl
  have hSi : s.heap.objs.size ≠ it := Nat.ne_of_gt (Heap.lt_size hoi)
  have hSl : s.heap.objs.size ≠ l := Nat.ne_of_gt (Heap.lt_size hol)
  refine callType_codes (Q₁ := fun obj s₁ => obj = .ref s.heap.objs.size ∧ s₁ = { s with heap := s.heap.push { cls := .type "list", data := .seq #[] } }) PySem.F.called_list (PySem.F.typeCall_list_1 _) PySem.F.entry_list_init
    (code_list_new _ ⟨rfl, rfl⟩) fun obj s₁ h₁ => ?_
  obtain ⟨rfl, rfl⟩ := h₁
  have hS : (s.heap.push { cls := .type "list", data := .seq #[] }).get? s.heap.objs.size = some { cls := .type "list", data := .seq #[] } := Heap.get?_push_size _ rfl
  refine ⟨⟨_, hS, rfl⟩, PySem.F.args_list_init_2 _ _, list_init_rev (A := A.in1) (s := { s with heap := s.heap.push { cls := .type "list", data := .seq #[] } }) hh _ (hit.at fun o e => Heap.get?_push_of_some _ e) (hl.push _) hne hSi hSl hS (fun h' tk acc' c' hk hS' hacc => ?_) hn⟩
  exact ⟨rfl, hQ h' tk acc' c' (fun b o hb e => hk b o (Nat.ne_of_lt (Heap.lt_size e)) hb (Heap.get?_push_of_some _ e)) hS' hacc⟩
end
section
variable {X : Cx}
/-- list(reversed(x)), x a list: a new list -/
def tLstRev (K : PySem.W.Frag) (te : TE) : TE := fun σ H Q => te σ H fun v H1 => ∃ (a : Addr) (xs : List V), v = .ref a ∧ SqL K H1 a xs ∧ ∀ q, H1 q = none → Q (.ref q) (upd H1 q (.lst xs.reverse))
theorem pe_lstRev {e : Expr} {te : TE} {p p2 pos pos2 : Pos} (hc : X.calm = true) (hg : Gl X "list") (hm : X.mg "list" = none) (hg2 : Gl X "reversed") (hm2 : X.mg "reversed" = none) (he : PE X e te)
    (hs : starEach [e] X.env = (false, eval e X.env) :: starEach [] X.env := by rfl)
    (hs2 : starEach [.Call (.Name "reversed" p2) [e] [] pos2] X.env = (false, eval (.Call (.Name "reversed" p2) [e] [] pos2) X.env) :: starEach [] X.env := by rfl) :
    PE X (.Call (.Name "list" p) [.Call (.Name "reversed" p2) [e] [] pos2] [] pos) (tLstRev X.K te) := by
  refine ⟨fun pins s σ H Q I h => ?_⟩
  refine Call_ (ld_blt I hg hm PyProof.Rows.boot_list (PyProof.Rows.callWith_type1 (args_cons (Call_ (ld_blt I hg2 hm2 PyProof.Rows.boot_reversed (PyProof.Rows.callWith_type1 (args_cons (thn (he.run pins s σ H _ I h) fun u s1 ⟨v, H1, I1, r1, q1⟩ => args_nil ?_) hs) hs rfl))) hs2) hs2 rfl))
  obtain ⟨a, xs, ev, hq, q⟩ := q1
  subst ev
  obtain rfl : u = Value.ref a := r1
  obtain ⟨its, rv, p', hz⟩ := I1.list hq
  refine call_reversed_list p'.isList (args_nil ?_)
  have k0 : ∀ b o, s1.heap.get? b = some o → (s1.heap.push (revObj a ((its.toArray.size : Int) - 1))).get? b = some o := fun b o e => Heap.get?_push_of_some _ e
  have I2 : Inv X pins σ H1 { s1 with heap := s1.heap.push (revObj a ((its.toArray.size : Int) - 1)) } := I1.kept (t' := s1.toks) k0
  have hfp := I1.fpOk (H' := H1) (b := s1.heap.objs.size) (Nat.le_refl _) (I1.hok.fresh (Nat.le_refl _))
  have hl := p'.isList
  obtain ⟨ol, hol, _⟩ := id hl
  have hne : a ≠ s1.heap.objs.size := Nat.ne_of_lt (Heap.lt_size hol)
  have hn : its.toArray.size ≤ sizeLine := by rw [List.size_toArray, ← rv.length]; exact hz
  refine call_list_rev (s := { s1 with heap := s1.heap.push (revObj a ((its.toArray.size : Int) - 1)) }) (I1.ok.hd hc) ⟨_, Heap.get?_push_size _ rfl, rfl, rfl⟩ (hl.push _) hne hn fun h' tk acc c hk hS hi => ?_
  have fre : H1 (s1.heap.push (revObj a ((its.toArray.size : Int) - 1))).objs.size = none := I2.hok.fresh (Nat.le_refl _)
  have hlen : xs.reverse.length ≤ sizeLine := by rw [List.length_reverse]; exact hz
  refine ⟨.ref _, upd H1 _ (.lst xs.reverse), I2.turnedNew (t' := tk) (ch := [s1.heap.objs.size]) (fun b o hb e => hk b o (fun z => hb (by rw [z]; exact List.mem_singleton.mpr rfl)) e) (fun b hb => by rw [List.mem_singleton.mp hb]; exact hfp) (Nat.le_refl _) ⟨hlen, acc.toList, c, ?_, by rw [Array.toArray_toList]; exact hS⟩, rfl, q _ fre⟩
  exact vals_rev rv hi
end
end RT
namespace B
open PySem L2
section
variable {X : Cx} {cl : Clx} {W : WX} {pos : Pos}
def rvV (x : Vl) : R Vl := match x.d with
  | .lst ds => if x.k ≤ 1 then .ok ⟨false, 1, .lst ds.reverse⟩ else .bad
  | _ => .bad
@[simp] theorem rvV_eq (b : Bool) (k : Nat) (ds : List D) : rvV ⟨b, k, .lst ds⟩ = if k ≤ 1 then .ok ⟨false, 1, .lst ds.reverse⟩ else .bad := rfl
theorem RepL.rev {c : Str → Addr} {K : PySem.W.Frag} {G : Hp} {vs : List V} {ds : List D} (h : RepL K c G vs ds) : RepL K c G vs.reverse ds.reverse := by
  refine ⟨by rw [List.length_reverse, List.length_reverse]; exact h.1, fun i v d h1 h2 => ?_⟩
  have l1 := (List.getElem?_eq_some_iff.mp h1).1
  rw [List.length_reverse] at l1
  have l2 := h.1
  rw [List.getElem?_reverse l1] at h1
  rw [List.getElem?_reverse (by omega)] at h2
  rw [← l2] at h2
  exact h.2 _ v d h1 h2
theorem ev_rv {p p2 pos2 : Pos} {e : Expr} {f : EF} (hm : X.mg "list" = none) (hm2 : X.mg "reversed" = none) (hc : X.calm = true) (ha : EvE X cl W e f) (hg : Gl X "list" := by rfl) (hg2 : Gl X "reversed" := by rfl)
    (hs : starEach [e] X.env = (false, eval e X.env) :: starEach [] X.env := by rfl)
    (hs2 : starEach [.Call (.Name "reversed" p2) [e] [] pos2] X.env = (false, eval (.Call (.Name "reversed" p2) [e] [] pos2) X.env) :: starEach [] X.env := by rfl) :
    EvE X cl W (.Call (.Name "list" p) [.Call (.Name "reversed" p2) [e] [] pos2] [] pos) (eB1 rvV f) := by
  obtain ⟨t, pt, st⟩ := ha
  refine ⟨_, RT.pe_lstRev hc hg hm hg2 hm2 pt hs hs2, fun ρ σ G H Fs env Q hq => ?_⟩
  refine st.use env PV.mono hq fun x v G1 H1 F1 e1 p1 env1 o1 f1 hq1 => ?_
  obtain ⟨b, k, d⟩ := x
  cases d with
  | lst ds =>
    rw [rvV_eq] at hq1
    by_cases h : k ≤ 1
    · rw [if_pos h] at hq1
      obtain ⟨q, vs, rfl, hS, rl⟩ := Own.flat h o1 env1.gh
      exact ⟨q, vs, rfl, .inl hS, fun q0 hq0 => hq1 _ G1 _ _ (px_new env1.gh hq0) (own1 upd_same rl.rev) (foo1 env1.gh hq0)⟩
    · rw [if_neg h] at hq1
      exact hq1.elim
  | _ => exact hq1.elim
end
end B
namespace B
open PySem L2
/-! ### texts: index, slice, times, int -/
def repS (z : Str) (n : Int) : Str := if n < 1 then Str.empty else if (n == 1 || z.length == 0) = true then z else ⟨(List.replicate n.toNat z.cps).foldl (· ++ ·) #[]⟩
def rMulS : R2 := fun x y H Q => ∃ z n, x = .str z ∧ y = .int n ∧ small62 n ∧ z.length * n.toNat ≤ 10000 ∧ Q (.str (repS z n)) H
section
variable {X : Cx} {cl : Clx} {W : WX} {pos : Pos}
open Classical in
noncomputable def mulS (x y : D) : Option D := match x, y with
  | .str z, .int n => if small62 n ∧ z.length * n.toNat ≤ 10000 then some (.str (repS z n)) else none
  | _, _ => none
def ixS (x y : D) : Option D := match x, y with
  | .str z, .int i => if z.length ≤ 10000 then (atI z.cps.toList i).map fun c => .str ⟨#[c]⟩ else none
  | _, _ => none
def cutT (x : Vl) (lo hi : Option Int) : R Vl := match x.d with
  | .str z => if z.length ≤ 10000 then .ok (sh (.str (cutS z lo hi))) else .bad
  | _ => .bad
def eCutS (a : EF) (lo hi : OF) : EF := fun ρ => (a ρ).bind fun x => (lo ρ).bind fun l => (hi ρ).bind fun h => cutT x l h
@[simp] theorem eCutS_eq (a : EF) (lo hi : OF) (ρ : Env) : eCutS a lo hi ρ = (a ρ).bind fun x => (lo ρ).bind fun l => (hi ρ).bind fun h => cutT x l h := rfl
@[simp] theorem cutT_eq (b : Bool) (k : Nat) (z : Str) (lo hi : Option Int) : cutT ⟨b, k, .str z⟩ lo hi = if z.length ≤ 10000 then .ok (sh (.str (cutS z lo hi))) else .bad := rfl
def intT (x : Vl) : R Vl := match x.d with
  | .str z => if z.length ≤ 640 then (match PySem.intText? z with
    | some n => .ok (sh (.int n))
    | none => .bad) else .bad
  | _ => .bad
@[simp] theorem intT_eq (b : Bool) (k : Nat) (z : Str) : intT ⟨b, k, .str z⟩ = if z.length ≤ 640 then (match PySem.intText? z with
    | some n => .ok (sh (.int n))
    | none => .bad) else .bad := rfl
end
end B
namespace B
open PySem L2
/-! ### x in xs: texts, lists and tuples of ints or of texts -/
def strsOf : List D → Option (List Str)
  | [] => some []
  | .str i :: r => (strsOf r).map (i :: ·)
  | _ => none
@[simp] theorem strsOf_map : ∀ xs : List Str, strsOf (xs.map .str) = some xs
  | [] => rfl
  | x :: xs => by simp [strsOf, strsOf_map xs]
@[simp] theorem strsOf_nil : strsOf [] = some [] := rfl
theorem strsOf_eq : ∀ {ds : List D} {ns : List Str}, strsOf ds = some ns → ds = ns.map .str
  | [], ns, h => by cases h; rfl
  | .str i :: r, ns, h => by
    unfold strsOf at h
    cases e : strsOf r with
    | none => rw [e] at h; cases h
    | some ms => rw [e] at h; cases h; rw [strsOf_eq e]; rfl
  | .non :: r, ns, h => by cases h
  | .bl _ :: r, ns, h => by cases h
  | .int _ :: r, ns, h => by cases h
  | .lst _ :: r, ns, h => by cases h
  | .tup _ :: r, ns, h => by cases h
  | .obj _ _ :: r, ns, h => by cases h
  | .exo _ :: r, ns, h => by cases h
  | .dct _ :: r, ns, h => by cases h
  | .dci _ :: r, ns, h => by cases h
def inL (x : D) (ds : List D) : Option Bool := match x with
  | .int i => (intsOf ds).map fun ns => decide (i ∈ ns)
  | .str i => (strsOf ds).map fun ns => decide (i ∈ ns)
  | _ => none
@[simp] theorem inL_int (i : Int) (ds : List D) : inL (.int i) ds = (intsOf ds).map fun ns => decide (i ∈ ns) := rfl
@[simp] theorem inL_str (i : Str) (ds : List D) : inL (.str i) ds = (strsOf ds).map fun ns => decide (i ∈ ns) := rfl
def inB (x : D) : D → Option Bool
  | .str j => match x with
    | .str i => some (inS i j)
    | _ => none
  | .lst ds => inL x ds
  | .tup ds => inL x ds
  | _ => none
@[simp] theorem inB_s (i j : Str) : inB (.str i) (.str j) = some (inS i j) := rfl
@[simp] theorem inB_l (x : D) (ds : List D) : inB x (.lst ds) = inL x ds := rfl
@[simp] theorem inB_t (x : D) (ds : List D) : inB x (.tup ds) = inL x ds := rfl
def inX (x y : D) : Option D := (inB x y).map .bl
def ninX (x y : D) : Option D := (inB x y).map fun b => .bl (!b)
@[simp] theorem inX_eq (x y : D) : inX x y = (inB x y).map .bl := rfl
@[simp] theorem ninX_eq (x y : D) : ninX x y = (inB x y).map fun b => .bl (!b) := rfl
theorem inV_ints (i : Int) : ∀ ns : List Int, inV (.int i) (ns.map .int) = decide (i ∈ ns)
  | [] => rfl
  | n :: ns => by
    have ih := inV_ints i ns
    unfold inV at ih ⊢
    rw [List.map_cons, List.any_cons, ih]
    have e : L2.eqV (.int n) (.int i) = decide (n = i) := rfl
    rw [e]
    by_cases h : i = n
    · subst h; simp
    · have : ¬ n = i := fun z => h z.symm
      simp [h, this]
theorem inV_strs (i : Str) : ∀ ns : List Str, inV (.str i) (ns.map .str) = decide (i ∈ ns)
  | [] => rfl
  | n :: ns => by
    have ih := inV_strs i ns
    unfold inV at ih ⊢
    rw [List.map_cons, List.any_cons, ih]
    have e : L2.eqV (.str n) (.str i) = decide (n = i) := rfl
    rw [e]
    by_cases h : i = n
    · subst h; simp
    · have : ¬ n = i := fun z => h z.symm
      simp [h, this]
abbrev rInX (K : PySem.W.Frag) (neg : Bool) : R2 := fun x y H Q => (∃ i j, x = .str i ∧ y = .str j ∧ Q (.bl (if neg then !inS i j else inS i j)) H) ∨ rIn K neg x y H Q
theorem own_items {K : PySem.W.Frag} {cl : Str → Addr} {H G : Hp} {α : Type} {d : α → D} {u : α → V} (hu : ∀ v a m F, Own K cl H G m v (d a) F → v = u a) : ∀ {ns : List α} {vs : List V}, vs.length = (ns.map d).length → (∀ (i : Nat) v e, vs[i]? = some v → (ns.map d)[i]? = some e → ∃ m F', Own K cl H G m v e F') → vs = ns.map u
  | [], [], _, _ => rfl
  | n :: ns, v :: vs, hl, hr => by
    obtain ⟨m, F', h0⟩ := hr 0 v (d n) rfl rfl
    rw [List.map_cons, hu v n m F' h0, own_items hu (ns := ns) (vs := vs) (by simpa using hl) fun i v e h1 h2 => hr (i + 1) v e (by simpa using h1) (by simpa using h2)]
  | n :: ns, [], hl, _ => by simp at hl
  | [], v :: vs, hl, _ => by simp at hl
theorem all_flat_i : ∀ ns : List Int, (ns.map V.int).all flatV = true
  | [] => rfl
  | n :: ns => by rw [List.map_cons, List.all_cons, all_flat_i ns]; rfl
theorem all_flat_s : ∀ ns : List Str, (ns.map V.str).all flatV = true
  | [] => rfl
  | n :: ns => by rw [List.map_cons, List.all_cons, all_flat_s ns]; rfl
theorem in_core {K : PySem.W.Frag} {c : Str → Addr} {neg : Bool} {k l : Nat} {x y : V} {dx dy : D} {b : Bool} {F1 F2 : Addr → Prop} {G H : Hp} {Q : VK} (gh : Same G H) (o1 : Own K c H G k x dx F1) (o2 : Own K c H G l y dy F2) (e : inB dx dy = some b) (q : Q (.bl (if neg then !b else b)) H) : rInX K neg x y H Q := by
  have seq : ∀ (p : Addr) (vs : List V) (ds : List D), y = .ref p → (SqL K H p vs ∨ SqT K H p vs) → vs.length = ds.length → (∀ (i : Nat) v d, vs[i]? = some v → ds[i]? = some d → ∃ m F', Own K c H G m v d F') → inL dx ds = some b → rInX K neg x y H Q := by
    intro p vs ds hy hs hl hr hin
    cases dx with
    | int i =>
      rw [inL_int] at hin
      cases ei : intsOf ds with
      | none => rw [ei] at hin; cases hin
      | some ns =>
        rw [ei] at hin
        cases hin
        obtain rfl := intsOf_eq ei
        have hv : vs = ns.map V.int := own_items (fun _ _ _ _ o => o.int) hl hr
        subst hv
        exact .inr ⟨p, _, hy, hs, by rw [o1.int]; rfl, all_flat_i ns, by rw [o1.int, inV_ints]; exact q⟩
    | str i =>
      rw [inL_str] at hin
      cases ei : strsOf ds with
      | none => rw [ei] at hin; cases hin
      | some ns =>
        rw [ei] at hin
        cases hin
        obtain rfl := strsOf_eq ei
        have hv : vs = ns.map V.str := own_items (fun _ _ _ _ o => o.str) hl hr
        subst hv
        exact .inr ⟨p, _, hy, hs, by rw [o1.str]; rfl, all_flat_s ns, by rw [o1.str, inV_strs]; exact q⟩
    | _ => cases hin
  cases dy with
  | str j =>
    cases dx with
    | str i => cases e; exact .inl ⟨i, j, o1.str, o2.str, q⟩
    | _ => cases e
  | lst ds =>
    obtain ⟨p, vs, hy, hS, hl, hr⟩ := o2.lstR gh
    exact seq p vs ds hy (.inl (.inl hS)) hl (fun i v d h1 h2 => by obtain ⟨F', o', _⟩ := hr i v d h1 h2; exact ⟨_, F', o'⟩) e
  | tup ds =>
    obtain ⟨p, vs, hy, hS, hl, hr⟩ := o2.tupR gh
    exact seq p vs ds hy (.inr (.inl hS)) hl (fun i v d h1 h2 => by obtain ⟨F', o', _⟩ := hr i v d h1 h2; exact ⟨_, F', o'⟩) e
  | _ => cases e
section
variable {X : Cx} {cl : Clx} {W : WX} {pos : Pos}
theorem os_inX {K : PySem.W.Frag} {c : Str → Addr} : OpS K c (rInX K false) inX := by
  intro k l x y dx dy d F1 F2 G H Q gh o1 o2 e q
  cases eb : inB dx dy with
  | none => rw [inX_eq, eb] at e; cases e
  | some b =>
    rw [inX_eq, eb] at e
    cases e
    exact in_core gh o1 o2 eb (q _ (.bl b))
theorem op_inX : OpR X (compareOp .In) (rInX X.K false) := OpR.or (op_in_str) op_in_seq
theorem et_inX {a b : Expr} {f g : EF} (ha : EvE X cl W a f) (hb : EvE X cl W b g) (hm : behindInMarks .In b = false := by rfl) : EvT X cl W (.Compare a [.In] [b] pos) (tV (eOp inX f g)) := by
  obtain ⟨ta, pa, sa⟩ := ha
  obtain ⟨tb, pb, sb⟩ := hb
  exact ⟨_, pt_cmpR op_inX pa pb hm, semTest (semOp os_inX sa sb)⟩
end
end B
namespace B
open PySem L2
/-! ### xs.index(x), s.join(xs), s.split(t) -/
def fstI (x : Int) : List Int → Option Nat
  | [] => none
  | y :: ys => if y = x then some 0 else (fstI x ys).map (· + 1)
/-- the first place of the number in the list of numbers -/
def ixO (ds : List D) : D → Option Nat
  | .int x => (intsOf ds).bind (fstI x)
  | _ => none
@[simp] theorem ixO_int (ds : List D) (x : Int) : ixO ds (.int x) = (intsOf ds).bind (fstI x) := rfl
def natR : Option Nat → R Vl
  | some j => .ok (sh (.int (j : Nat)))
  | none => .bad
@[simp] theorem natR_some (j : Nat) : natR (some j) = .ok (sh (.int (j : Nat))) := rfl
def mthL (f : List D → D → R Vl) (r : R Vl) : D → R Vl
  | .lst ds => r.bind fun y => f ds y.d
  | _ => .bad
@[simp] theorem mthL_l (f : List D → D → R Vl) (r : R Vl) (ds : List D) : mthL f r (.lst ds) = r.bind fun y => f ds y.d := rfl
def eIxO (a b : EF) : EF := fun ρ => (a ρ).bind fun x => mthL (fun ds y => natR (ixO ds y)) (b ρ) x.d
@[simp] theorem eIxO_eq (a b : EF) (ρ : Env) : eIxO a b ρ = (a ρ).bind fun x => mthL (fun ds y => natR (ixO ds y)) (b ρ) x.d := rfl
section
variable {X : Cx} {cl : Clx} {W : WX} {pos : Pos}
end
/-! join -/
def joinO (a : Str) (ds : List D) : Option Str := (strsOf ds).bind fun ys => if (ys.map (·.length)).sum + ys.length * a.length ≤ 10000 then some (Txt.join a ys) else none
def strR : Option Str → R Vl
  | some j => .ok (sh (.str j))
  | none => .bad
@[simp] theorem strR_some (j : Str) : strR (some j) = .ok (sh (.str j)) := rfl
def mthS (f : Str → D → R Vl) (r : R Vl) : D → R Vl
  | .str s => r.bind fun y => f s y.d
  | _ => .bad
@[simp] theorem mthS_s (f : Str → D → R Vl) (r : R Vl) (s : Str) : mthS f r (.str s) = r.bind fun y => f s y.d := rfl
def joinV (s : Str) : D → R Vl
  | .lst ds => strR (joinO s ds)
  | .tup ds => strR (joinO s ds)
  | _ => .bad
@[simp] theorem joinV_l (s : Str) (ds : List D) : joinV s (.lst ds) = strR (joinO s ds) := rfl
@[simp] theorem joinV_t (s : Str) (ds : List D) : joinV s (.tup ds) = strR (joinO s ds) := rfl
def eJoin (a b : EF) : EF := fun ρ => (a ρ).bind fun x => mthS joinV (b ρ) x.d
@[simp] theorem eJoin_eq (a b : EF) (ρ : Env) : eJoin a b ρ = (a ρ).bind fun x => mthS joinV (b ρ) x.d := rfl
section
variable {X : Cx} {cl : Clx} {W : WX} {pos : Pos}
end
/-! split -/
def splR (a : Str) : D → R Vl
  | .str b => if b.length ≠ 0 ∧ a.length ≤ 10000 then .ok ⟨false, 1, .lst ((Txt.split a b).map .str)⟩ else .bad
  | _ => .bad
@[simp] theorem splR_s (a b : Str) : splR a (.str b) = if b.length ≠ 0 ∧ a.length ≤ 10000 then .ok ⟨false, 1, .lst ((Txt.split a b).map .str)⟩ else .bad := rfl
def eSpl (a b : EF) : EF := fun ρ => (a ρ).bind fun x => mthS splR (b ρ) x.d
@[simp] theorem eSpl_eq (a b : EF) (ρ : Env) : eSpl a b ρ = (a ρ).bind fun x => mthS splR (b ρ) x.d := rfl
section
variable {X : Cx} {cl : Clx} {W : WX} {pos : Pos}
end
end B
namespace B
open PySem L2
/-! ### for over numbers of one's own that the loop only reads -/
open Classical in
noncomputable def itL (i : Nat) (es : List D) (g : GF) (f : SF) : List D → Env → RS
  | [], ρ => .ok .nx ρ
  | d :: ds, ρ => match fTurn g f d ρ with
    | .inl ρ1 => if ρ1[i]? = some (some (1, .lst es)) then itL i es g f ds ρ1 else .bad
    | .inr r => r
@[simp] theorem itL_nil (i : Nat) (es : List D) (g : GF) (f : SF) (ρ : Env) : itL i es g f [] ρ = .ok .nx ρ := rfl
open Classical in
noncomputable def lvS (i : Nat) (w : List D → IF) (g : GF) (f : SF) (ρ : Env) : Option Slot → RS
  | some (some (l, .lst es)) => if l = 1 ∧ (intsOf es).isSome = true then toS (w es ρ) ρ fun ds => itL i es g f ds ρ else .bad
  | _ => .bad
@[simp] theorem lvS_eq (i : Nat) (w : List D → IF) (g : GF) (f : SF) (ρ : Env) (l : Nat) (es : List D) : lvS i w g f ρ (some (some (l, .lst es))) = if l = 1 ∧ (intsOf es).isSome = true then toS (w es ρ) ρ fun ds => itL i es g f ds ρ else .bad := rfl
noncomputable def sForL (i : Nat) (w : List D → IF) (g : GF) (f : SF) : SF := fun ρ => lvS i w g f ρ ρ[i]?
@[simp] theorem sForL_eq (i : Nat) (w : List D → IF) (g : GF) (f : SF) (ρ : Env) : sForL i w g f ρ = lvS i w g f ρ ρ[i]? := rfl
def YieldsL (K : PySem.W.Frag) (cl : Str → Addr) (G0 : Hp) (J : It) (ds : List D) (C : Hp → Prop) : Prop := ∀ (G H : Hp) (i : Nat), Same G0 G → Same G H → C H →
  (∀ d, ds[i]? = some d → J.go i H ∧ ∀ v H', J.yld i H v H' → ∃ G', Px G H G' H' ∧ Rep K cl G' v d) ∧ (ds[i]? = none → J.stop i H)
def PYL (K : PySem.W.Frag) (cl : Str → Addr) (C : Hp → Prop) (Q : It → Hp → Prop) (ds : List D) (G H : Hp) : Prop := ∀ J G' H', Px G H G' H' → YieldsL K cl G' J ds C → Q J H'
theorem PYL.mono {K : PySem.W.Frag} {cl : Str → Addr} {C : Hp → Prop} {Q : It → Hp → Prop} : Mono (PYL K cl C Q) := fun x G H G' H' p h J G2 H2 p2 y => h J G2 H2 (p.trans p2) y
def SemIL (K : PySem.W.Frag) (cl : Clx) (W : WX) (i : Nat) (t : TI) (w : List D → IF) : Prop := ∀ ρ σ G H Fs p vs es, EnvR K cl ρ σ G H Fs → σ[i]? = some (some (.ref p)) → H p = some (.lst vs) → RepL K cl.c G vs es →
  ∀ Q, PostG cl W σ G H (PYL K cl.c (fun H => H p = some (.lst vs)) Q) (w es ρ) → t σ H Q
def EvIL (X : Cx) (cl : Clx) (W : WX) (i : Nat) (tg e : Expr) (w : List D → IF) : Prop := ∃ t, PI X tg e t ∧ SemIL X.K cl W i t w
section
variable {K : PySem.W.Frag} {cl : Clx} {W : WX} {ρ : Env} {σ : L2.St} {G H G' H' : Hp} {Fs Fs' : Foot} {c0 : Str → Addr}
theorem EnvR.unfx' {j : Nat} {v : V} (env : EnvR K (cl.fx j v) ρ σ G H Fs) (hx : cl.fix j = none ∨ cl.fix j = some v) : EnvR K cl ρ σ G H Fs := by
  rcases hx with hx | hx
  · exact env.unfx hx
  · refine ⟨env.len, env.gh, env.own, env.dis, env.dom, fun n u h => env.fx n u ?_⟩
    show (if n = j then some v else cl.fix n) = some u
    by_cases e : n = j
    · rw [if_pos e]; rw [e, hx] at h; exact h
    · rw [if_neg e]; exact h
theorem PostS.unfx' {j : Nat} {v : V} {U : Addr → Prop} {D : Ends} {r : RS} (hx : cl.fix j = none ∨ cl.fix j = some v) (h : PostS K cl W U G H D r) : PostS K (cl.fx j v) W U G H D r := by
  cases r with
  | bad => exact h
  | ex c ρ => exact fun σ' G' H' Fs' e s => h σ' G' H' Fs' (e.unfx' hx) s
  | ok fl ρ =>
    cases fl with
    | nx => exact fun σ' G' H' Fs' e s => h σ' G' H' Fs' (e.unfx' hx) s
    | bk => exact fun σ' G' H' Fs' e s => h σ' G' H' Fs' (e.unfx' hx) s
    | ct => exact fun σ' G' H' Fs' e s => h σ' G' H' Fs' (e.unfx' hx) s
    | rt k d => exact fun σ' w G' H' Fs' F e o f s => h σ' w G' H' Fs' F (e.unfx' hx) o f s
end
def wSelf : List D → IF := fun es _ => .ok es
def wEnum : List D → IF := fun es _ => .ok (enumD es)
def wZip (a : EF) : List D → IF := fun es ρ => (eS a ρ).bind fun x => (asL x.d).bind fun ds => .ok (zipD ds es)
@[simp] theorem wSelf_eq (es : List D) (ρ : Env) : wSelf es ρ = .ok es := rfl
@[simp] theorem wEnum_eq (es : List D) (ρ : Env) : wEnum es ρ = .ok (enumD es) := rfl
@[simp] theorem wZip_eq (a : EF) (es : List D) (ρ : Env) : wZip a es ρ = (eS a ρ).bind fun x => (asL x.d).bind fun ds => .ok (zipD ds es) := rfl
section
variable {X : Cx} {cl : Clx} {W : WX} {pos : Pos} {tg : Expr}
end
end B
namespace B
open PySem L2
/-! ### tuple(x) of a list or a tuple -/
def tupV (x : Vl) : R Vl := match x.d with
  | .lst ds => if x.k ≤ 1 then .ok (sh (.tup ds)) else .bad
  | .tup ds => if x.k = 0 then .ok (sh (.tup ds)) else .bad
  | _ => .bad
@[simp] theorem tupV_0 (b : Bool) (ds : List D) : tupV ⟨b, 0, .lst ds⟩ = .ok (sh (.tup ds)) := rfl
@[simp] theorem tupV_1 (b : Bool) (ds : List D) : tupV ⟨b, 1, .lst ds⟩ = .ok (sh (.tup ds)) := rfl
@[simp] theorem tupV_t (b : Bool) (ds : List D) : tupV ⟨b, 0, .tup ds⟩ = .ok (sh (.tup ds)) := rfl
section
variable {X : Cx} {cl : Clx} {W : WX} {pos : Pos}
end
end B
namespace B
open PySem L2
/-! ### xs == [], xs != [] -/
def rE0 (K : PySem.W.Frag) : R2 := fun x y H Q => ∃ a b xs, x = .ref a ∧ y = .ref b ∧ SqL K H a xs ∧ SqL K H b [] ∧ Q (.bl xs.isEmpty) H
def rN0 (K : PySem.W.Frag) : R2 := fun x y H Q => ∃ a b xs, x = .ref a ∧ y = .ref b ∧ SqL K H a xs ∧ SqL K H b [] ∧ Q (.bl (!xs.isEmpty)) H
section
variable {X : Cx}
end
/-- what == says of a list and [] -/
def eqE (x y : Vl) : R Vl := match x.d, y.d with
  | .lst ds, .lst [] => .ok (sh (.bl ds.isEmpty))
  | _, _ => .bad
def neE (x y : Vl) : R Vl := match x.d, y.d with
  | .lst ds, .lst [] => .ok (sh (.bl (!ds.isEmpty)))
  | _, _ => .bad
@[simp] theorem eqE_l (b c : Bool) (k l : Nat) (ds : List D) : eqE ⟨b, k, .lst ds⟩ ⟨c, l, .lst []⟩ = .ok (sh (.bl ds.isEmpty)) := rfl
@[simp] theorem neE_l (b c : Bool) (k l : Nat) (ds : List D) : neE ⟨b, k, .lst ds⟩ ⟨c, l, .lst []⟩ = .ok (sh (.bl (!ds.isEmpty))) := rfl
section
variable {cl : Clx}
end
section
variable {X : Cx} {cl : Clx} {W : WX} {pos : Pos}
end
end B
namespace B
open PySem L2
/-! ### is True, is not True: two bools -/
section
variable {X : Cx}
end
def sameB : D → D → Option D
  | .bl b, .bl c => some (.bl (decide (b = c)))
  | _, _ => none
def diffB : D → D → Option D
  | .bl b, .bl c => some (.bl (!decide (b = c)))
  | _, _ => none
@[simp] theorem sameB_eq (b c : Bool) : sameB (.bl b) (.bl c) = some (.bl (decide (b = c))) := rfl
@[simp] theorem diffB_eq (b c : Bool) : diffB (.bl b) (.bl c) = some (.bl (!decide (b = c))) := rfl
section
variable {cl : Str → Addr}
end
section
variable {X : Cx} {cl : Clx} {W : WX} {pos : Pos}
end
end B
namespace B
open PySem L2
/-! ### dicts whose keys are tuples -/
mutual
/-- keys without texts: their hash is the same in each world -/
def nkP : NestedKey → Bool
  | .text _ => false
  | .tup ks => nkPL ks
  | _ => true
def nkPL : List NestedKey → Bool
  | [] => true
  | k :: ks => nkP k && nkPL ks
end
mutual
theorem hash_plain (w w' : World) : ∀ k : NestedKey, nkP k = true → k.hash w = k.hash w'
  | .none, _ => rfl
  | .num _, _ => rfl
  | .text _, h => by simp [nkP] at h
  | .tup ks, h => by
    rw [NestedKey.hash, NestedKey.hash, hashes_plain w w' ks (by simpa [nkP] using h)]
theorem hashes_plain (w w' : World) : ∀ ks : List NestedKey, nkPL ks = true → NestedKey.hashes w ks = NestedKey.hashes w' ks
  | [], _ => rfl
  | k :: ks, h => by
    simp only [nkPL, Bool.and_eq_true] at h
    rw [NestedKey.hashes, NestedKey.hashes, hash_plain w w' k h.1, hashes_plain w w' ks h.2]
end
/-- what is a key, by the heap -/
inductive NKH (H : Hp) : V → NestedKey → Prop
  | non : NKH H .non .none
  | bl (b : Bool) : NKH H (.bl b) (.num (if b = true then 1 else 0))
  | int (i : Int) : NKH H (.int i) (.num i)
  | tup {a : Addr} {vs : List V} {ks : List NestedKey} (h : Rd H a (.tup vs)) (hl : vs.length = ks.length) (hr : ∀ (i : Nat) v k, vs[i]? = some v → ks[i]? = some k → NKH H v k) : NKH H (.ref a) (.tup ks)
theorem nkPL_of {ks : List NestedKey} (h : ∀ (i : Nat) k, ks[i]? = some k → nkP k = true) : nkPL ks = true := by
  induction ks with
  | nil => rfl
  | cons k ks ih =>
    rw [nkPL, h 0 k rfl, ih fun i k e => h (i + 1) k (by simpa using e)]
    rfl
theorem NKH.plain {H : Hp} {v : V} {k : NestedKey} (h : NKH H v k) : nkP k = true := by
  induction h with
  | non => rfl
  | bl b => rfl
  | int i => rfl
  | tup h hl hr ih =>
    rw [nkP]
    refine nkPL_of fun i k e => ?_
    have hi := (List.getElem?_eq_some_iff.mp e).1
    rw [← hl] at hi
    exact ih i _ k (List.getElem?_eq_getElem hi) e
theorem NKH.mono {H H' : Hp} (e : Same H H') {v : V} {k : NestedKey} (h : NKH H v k) : NKH H' v k := by
  induction h with
  | non => exact .non
  | bl b => exact .bl b
  | int i => exact .int i
  | tup h hl hr ih => exact .tup (rdEx e h) hl ih
/-! ### entries -/
def nkAt (nks : List (NestedKey × Addr × V)) (k : NestedKey) : Option (Addr × V) := (nks.find? fun x => decide (x.1 = k)).map (·.2)
def nkPutAt (k : NestedKey) (v : V) (x : NestedKey × Addr × V) : NestedKey × Addr × V := if x.1 = k then (x.1, x.2.1, v) else x
def nkPut (nks : List (NestedKey × Addr × V)) (k : NestedKey) (a : Addr) (v : V) : List (NestedKey × Addr × V) := if (nkAt nks k).isSome then nks.map (nkPutAt k v) else nks ++ [(k, a, v)]
/-! ### the dict in the heap -/
/-- a dict at p, its keys there -/
structure DcAt (H : Hp) (p : Addr) (nks : List (NestedKey × Addr × V)) : Prop where
  at' : H p = some (DctO p nks)
  ks : ∀ x ∈ nks, NKH H (.ref x.2.1) x.1 ∧ x.1.depth ≤ 8
section
variable {P : Program} {w : World} {H : Hp} {h : Heap} {p : Addr} {nks : List (NestedKey × Addr × V)}
end

/-! ### k in d, d[k], d[k] = v -/
def rDin (neg : Bool) : R2 := fun x y H Q => ∃ a p nks k, x = .ref a ∧ y = .ref p ∧ DcAt H p nks ∧ NKH H (.ref a) k ∧ k.depth ≤ 8 ∧ Q (.bl (if neg then !(nkAt nks k).isSome else (nkAt nks k).isSome)) H
def rDix : R2 := fun x y H Q => ∃ p a nks k b v, x = .ref p ∧ y = .ref a ∧ DcAt H p nks ∧ NKH H (.ref a) k ∧ k.depth ≤ 8 ∧ nkAt nks k = some (b, v) ∧ Q v H
section
variable {X : Cx} {pins : List (Addr × Obj)} {σ : L2.St} {H : Hp} {s : Shared}
/-- d[k] = v -/
def tDst (td ty tv : TE) : TS := fun D σ H => tv σ H fun v H1 => td σ H1 fun x H2 => ty σ H2 fun y H3 => ∃ p a nks k, x = .ref p ∧ y = .ref a ∧ DcAt H3 p nks ∧ NKH H3 (.ref a) k ∧ k.depth ≤ 8 ∧ nks.length < 1000000 ∧ D.nx σ (upd H3 p (DctO p (nkPut nks k a v)))
/-- {} -/
def tDnew : TE := fun _ H Q => ∀ p, H p = none → Q (.ref p) (upd H p (DctO p []))
end

/-! ### the entries as data -/
def dAt (ps : List (D × D)) (n : NestedKey) : Option D := (ps.find? fun e => decide (nkOf e.1 = n)).map (·.2)
def dPutAt (n : NestedKey) (v : D) (e : D × D) : D × D := if nkOf e.1 = n then (e.1, v) else e
def dPut (ps : List (D × D)) (k v : D) : List (D × D) := if (dAt ps (nkOf k)).isSome then ps.map (dPutAt (nkOf k) v) else ps ++ [(k, v)]
/-- an entry stands for another -/
def DP (K : PySem.W.Frag) (cl : Str → Addr) (G : Hp) (x : NestedKey × Addr × V) (y : D × D) : Prop := (x.1 = nkOf y.1 ∧ keyB y.1 = true) ∧ Rep K cl G (.ref x.2.1) y.1 ∧ Rep K cl G x.2.2 y.2
section
variable {K : PySem.W.Frag} {cl : Str → Addr} {G H : Hp}
theorem dp_of : ∀ {nks : List (NestedKey × Addr × V)} {ps : List (D × D)}, nks.length = ps.length → (∀ (i : Nat) x y, nks[i]? = some x → ps[i]? = some y → x.1 = nkOf y.1 ∧ keyB y.1 = true) →
    (∀ (i : Nat) x y, nks[i]? = some x → ps[i]? = some y → Rep K cl G (.ref x.2.1) y.1) → (∀ (i : Nat) x y, nks[i]? = some x → ps[i]? = some y → Rep K cl G x.2.2 y.2) → Paired (DP K cl G) nks ps
  | [], [], _, _, _, _ => .nil
  | x :: nks, [], h, _, _, _ => by simp at h
  | [], y :: ps, h, _, _, _ => by simp at h
  | x :: nks, y :: ps, h, h0, h1, h2 => .cons ⟨h0 0 x y rfl rfl, h1 0 x y rfl rfl, h2 0 x y rfl rfl⟩ (dp_of (by simpa using h) (fun i x y a b => h0 (i + 1) x y (by simpa using a) (by simpa using b)) (fun i x y a b => h1 (i + 1) x y (by simpa using a) (by simpa using b)) (fun i x y a b => h2 (i + 1) x y (by simpa using a) (by simpa using b)))
theorem dp_ix {nks : List (NestedKey × Addr × V)} {ps : List (D × D)} (r : Paired (DP K cl G) nks ps) : ∀ (i : Nat) x y, nks[i]? = some x → ps[i]? = some y → DP K cl G x y := by
  induction r with
  | nil => intro i x y h; simp at h
  | @cons x0 y0 nks ps h t ih =>
    intro i x y a b
    cases i with
    | zero => cases a; cases b; exact h
    | succ i => exact ih i x y (by simpa using a) (by simpa using b)
mutual
theorem keyI_flat : ∀ d : D, keyI d = true → flat d = true
  | .non, _ => by simp
  | .bl _, _ => by simp
  | .int _, _ => by simp
  | .str _, h => by simp [keyI] at h
  | .lst _, h => by simp [keyI] at h
  | .obj _ _, h => by simp [keyI] at h
  | .exo _, h => by simp [keyI] at h
  | .dct _, h => by simp [keyI] at h
  | .tup ds, h => by
    rw [flat_tup]
    exact keyL_flat ds (by simpa [keyI] using h)
theorem keyL_flat : ∀ ds : List D, keyL ds = true → flatL ds = true
  | [], _ => by simp
  | d :: ds, h => by
    simp only [keyL, Bool.and_eq_true] at h
    simp [keyI_flat d h.1, keyL_flat ds h.2]
end
end
/-! ### the rules -/
def inDc (x y : Vl) : R Vl := match y.d with
  | .dct ps => if keyB x.d = true then .ok (sh (.bl (dAt ps (nkOf x.d)).isSome)) else .bad
  | _ => .bad
def ninDc (x y : Vl) : R Vl := match y.d with
  | .dct ps => if keyB x.d = true then .ok (sh (.bl (!(dAt ps (nkOf x.d)).isSome))) else .bad
  | _ => .bad
def getA : Option D → R Vl
  | some d => .ok (sh d)
  | none => .bad
@[simp] theorem getA_some (d : D) : getA (some d) = .ok (sh d) := rfl
def getDc (x y : Vl) : R Vl := match x.d with
  | .dct ps => if keyB y.d = true then getA (dAt ps (nkOf y.d)) else .bad
  | _ => .bad
@[simp] theorem inDc_eq (x : Vl) (b : Bool) (k : Nat) (ps : List (D × D)) : inDc x ⟨b, k, .dct ps⟩ = if keyB x.d = true then .ok (sh (.bl (dAt ps (nkOf x.d)).isSome)) else .bad := rfl
@[simp] theorem ninDc_eq (x : Vl) (b : Bool) (k : Nat) (ps : List (D × D)) : ninDc x ⟨b, k, .dct ps⟩ = if keyB x.d = true then .ok (sh (.bl (!(dAt ps (nkOf x.d)).isSome))) else .bad := rfl
@[simp] theorem getDc_eq (b : Bool) (k : Nat) (ps : List (D × D)) (y : Vl) : getDc ⟨b, k, .dct ps⟩ y = if keyB y.d = true then getA (dAt ps (nkOf y.d)) else .bad := rfl
section
variable {cl : Clx}
end
section
variable {X : Cx} {cl : Clx} {W : WX} {pos : Pos}
end
/-! ### {} and d[k] = v -/
def eDct : EF := fun _ => .ok ⟨false, 1, .dct []⟩
@[simp] theorem eDct_eq (ρ : Env) : eDct ρ = .ok ⟨false, 1, .dct []⟩ := rfl
def dcOf : Option Slot → Option (List (D × D))
  | some (some (1, .dct ps)) => some ps
  | _ => none
@[simp] theorem dcOf_d (ps : List (D × D)) : dcOf (some (some (1, .dct ps))) = some ps := rfl
def withD (i : Nat) (ρ : Env) (g : List (D × D) → RS) : RS := match dcOf ρ[i]? with
  | some ps => g ps
  | none => .bad
def dstR (i : Nat) (ρ : Env) (ps : List (D × D)) (k v : D) : RS := if keyB k = true ∧ ps.length < 10000 then .ok .nx (ρ.set i (some (1, .dct (dPut ps k v)))) else .bad
def sDst (i : Nat) (f e : EF) : SF := fun ρ => withD i ρ fun ps => toS (eS e ρ) ρ fun x => toS (eS f ρ) ρ fun y => dstR i ρ ps y.d x.d
@[simp] theorem sDst_eq (i : Nat) (f e : EF) (ρ : Env) : sDst i f e ρ = withD i ρ fun ps => toS (eS e ρ) ρ fun x => toS (eS f ρ) ρ fun y => dstR i ρ ps y.d x.d := rfl
section
variable {K : PySem.W.Frag} {cl : Clx} {W : WX} {ρ : Env} {σ : L2.St} {G H G' H' : Hp} {Fs Fs' : Foot}
theorem EnvR.putD (e : EnvR K cl ρ σ G H Fs) {i : Nat} {ps : List (D × D)} (h : ρ[i]? = some (some (1, .dct ps))) : ∃ p nks, σ[i]? = some (some (.ref p)) ∧ H p = some (DctO p nks) ∧ Paired (DP K cl G) nks ps ∧
    ∀ nks' ps', Paired (DP K cl G) nks' ps' → EnvR K cl (ρ.set i (some (1, .dct ps'))) σ G (upd H p (DctO p nks')) Fs ∧ Sx (Un Fs) G H (Un Fs) G (upd H p (DctO p nks')) := by
  obtain ⟨v, hv, o⟩ := e.own i 1 _ h
  obtain ⟨p, nks, rfl, hp, fp, hl, h0, h1, h2⟩ := o
  refine ⟨p, nks, hv, hp, dp_of hl h0 h1 h2, fun us es r => ?_⟩
  have gp : G p = none := (e.dom i p fp).2
  have gh' : Same G (upd H p (DctO p us)) := fun a o ho => by
    rw [upd_ne (fun z => by rw [z, gp] at ho; cases ho)]
    exact e.gh a o ho
  have th : ∀ a o, H a = some o → ∃ o', upd H p (DctO p us) a = some o' := fun a o ho => by
    by_cases ha : a = p
    · subst ha; exact ⟨_, upd_same⟩
    · exact ⟨o, by rw [upd_ne ha]; exact ho⟩
  refine ⟨⟨by simp [e.len], gh', fun j k d hj => ?_, e.dis, fun j a f => ?_, e.fx⟩, ⟨Same.refl _, gh', fun a o ho n => ?_, th, fun a u => .inl u, fun a o ho => .inl ho⟩⟩
  · by_cases hji : j = i
    · subst hji
      have hlt : j < ρ.length := (List.getElem?_eq_some_iff.mp h).1
      rw [List.getElem?_set_self hlt] at hj
      cases hj
      exact ⟨_, hv, p, us, rfl, upd_same, fp, Paired.length r, fun i x y a b => (dp_ix r i x y a b).1, fun i x y a b => (dp_ix r i x y a b).2.1, fun i x y a b => (dp_ix r i x y a b).2.2⟩
    · rw [List.getElem?_set_ne (Ne.symm hji)] at hj
      obtain ⟨w, hw, o⟩ := e.own j k d hj
      refine ⟨w, hw, o.step (Same.refl _) fun a ob fa ha => ?_⟩
      rw [upd_ne (show a ≠ p from fun z => hji (e.dis j i a fa (by rw [z]; exact fp)))]
      exact ha
  · obtain ⟨⟨o, ho⟩, g⟩ := e.dom j a f
    exact ⟨th a o ho, g⟩
  · rw [upd_ne (show a ≠ p from fun z => n ⟨i, by rw [z]; exact fp⟩)]
    exact ho
end
section
variable {X : Cx} {cl : Clx} {W : WX} {pos : Pos}
end
end B
namespace B
open PySem L2
/-! ### try .. except X: without a name -/
def noXS : RS → RS
  | .ok fl ρ => .ok fl ρ
  | _ => .bad
@[simp] theorem noXS_ok (fl : Fl) (ρ : Env) : noXS (.ok fl ρ) = .ok fl ρ := rfl
def tryN (ys : List Str) (fs : SF) : RS → RS
  | .ok fl ρ => .ok fl ρ
  | .ex c ρ => if cMem ys c then noXS (fs ρ) else .bad
  | .bad => .bad
@[simp] theorem tryN_ok (ys : List Str) (fs : SF) (fl : Fl) (ρ : Env) : tryN ys fs (.ok fl ρ) = .ok fl ρ := rfl
@[simp] theorem tryN_ex (ys : List Str) (fs : SF) (c : Str) (ρ : Env) : tryN ys fs (.ex c ρ) = if cMem ys c then noXS (fs ρ) else .bad := rfl
def sTry0 (fb : SF) (ys : List Str) (fs : SF) : SF := fun ρ => tryN ys fs (fb ρ)
@[simp] theorem sTry0_eq (fb : SF) (ys : List Str) (fs : SF) (ρ : Env) : sTry0 fb ys fs ρ = tryN ys fs (fb ρ) := rfl
section
variable {K : PySem.W.Frag} {cl : Clx} {W : WX} {ρ : Env} {σ : L2.St} {G H G' H' : Hp} {Fs Fs' : Foot}
end
section
variable {X : Cx} {cl : Clx} {W : WX} {pos : Pos}
end
end B
namespace B
open PySem L2
/-! ### divmod of two ints -/
def dm2 : List D → R Vl
  | [.int i, .int j] => if 0 < j ∧ j < 1073741824 then .ok (sh (.tup [.int (i / j), .int (i % j)])) else .bad
  | _ => .bad
@[simp] theorem dm2_eq (i j : Int) : dm2 [.int i, .int j] = if 0 < j ∧ j < 1073741824 then .ok (sh (.tup [.int (i / j), .int (i % j)])) else .bad := rfl
section
variable {X : Cx} {cl : Clx} {W : WX} {pos : Pos}
end

/-! ### x -= e of ints -/
section
variable {X : Cx} {cl : Clx} {W : WX} {pos : Pos}
def subA (x y : Vl) : R Vl := match x.d, y.d with
  | .int i, .int j => .ok (sh (.int (i - j)))
  | _, _ => .bad
@[simp] theorem subA_i (b c : Bool) (k l : Nat) (i j : Int) : subA ⟨b, k, .int i⟩ ⟨c, l, .int j⟩ = .ok (sh (.int (i - j))) := rfl
def sSub (i : Nat) (f : EF) : SF := fun ρ => toS ((eV i ρ).bind fun x => (eS f ρ).bind fun y => subA x y) ρ (stV i ρ)
@[simp] theorem sSub_eq (i : Nat) (f : EF) (ρ : Env) : sSub i f ρ = toS ((eV i ρ).bind fun x => (eS f ρ).bind fun y => subA x y) ρ (stV i ρ) := rfl
end

/-! ### an int with effects plus an int -/
def addI : D → Vl → R Vl
  | .int i, ⟨_, _, .int j⟩ => .ok (sh (.int (i + j)))
  | _, _ => .bad
@[simp] theorem addI_i (i : Int) (b : Bool) (k : Nat) (j : Int) : addI (.int i) ⟨b, k, .int j⟩ = .ok (sh (.int (i + j))) := rfl
def mAddI (a : MF) (b : EF) : MF := fun ρ => (a ρ).then fun _ d ρ => mOf ((b ρ).bind fun y => addI d y) ρ
@[simp] theorem mAddI_eq (a : MF) (b : EF) (ρ : Env) : mAddI a b ρ = (a ρ).then fun _ d ρ => mOf ((b ρ).bind fun y => addI d y) ρ := rfl
section
variable {X : Cx} {cl : Clx} {W : WX} {pos : Pos}
end
end B
namespace B
open PySem L2
end B
namespace B
open PySem L2
@[simp] theorem rngC_zero (lo c : Int) : rngC lo c 0 = [] := rfl
abbrev intsL (xs : List Int) : D := .lst (xs.map .int)
theorem at_ints (m : List Int) (k : Nat) (x : Int) (h : m[k]? = some x) : atI (m.map D.int) (k : Int) = some (.int x) := by
  rw [atI_n, List.getElem?_map, h]; rfl
@[simp] theorem atI_c4 {α : Type} (xs : List α) : atI xs 4 = xs[4]? := atI_n xs 4
@[simp] theorem atI_c5 {α : Type} (xs : List α) : atI xs 5 = xs[5]? := atI_n xs 5
@[simp] theorem atI_c6 {α : Type} (xs : List α) : atI xs 6 = xs[6]? := atI_n xs 6
@[simp] theorem atI_c7 {α : Type} (xs : List α) : atI xs 7 = xs[7]? := atI_n xs 7
@[simp] theorem atI_c8 {α : Type} (xs : List α) : atI xs 8 = xs[8]? := atI_n xs 8
@[simp] theorem atI_c9 {α : Type} (xs : List α) : atI xs 9 = xs[9]? := atI_n xs 9
@[simp] theorem atI_c10 {α : Type} (xs : List α) : atI xs 10 = xs[10]? := atI_n xs 10
@[simp] theorem atI_c11 {α : Type} (xs : List α) : atI xs 11 = xs[11]? := atI_n xs 11
/-- each item gives h of it -/
theorem lc_map {α : Type} {i : Nat} {e : EF} {ρ : B.Env} (d : α → D) (h : α → D) : ∀ xs : List α, (∀ x ∈ xs, (e (ρ.set i (some (0, d x)))).bind (fitX 0) = .ok (sh (h x))) → lcItK 0 (gN i) tYesF e ρ (xs.map d) = .ok (xs.map h) := by
  intro xs
  induction xs with
  | nil => intro _; rfl
  | cons x xs ih =>
    intro hx
    have e1 := hx x (List.mem_cons_self ..)
    have e2 := ih fun y hy => hx y (List.mem_cons_of_mem _ hy)
    rw [List.map_cons, lcItK_cons]
    simp only [gN_eq, tYesF, eFit_eq, e1, e2, R.bind_ok, if_true, List.map_cons]
end B
namespace B
open PySem L2
/-! == of lists of ints, of lists of such -/
theorem eqvAll_map {α : Type} [DecidableEq α] (f : α → D) (h : ∀ x y : α, PyData.eqv (toPy (f x)) (toPy (f y)) = decide (x = y)) : ∀ xs ys : List α, PyData.eqvAll (toPyL (xs.map f)) (toPyL (ys.map f)) = decide (xs = ys)
  | [], [] => by simp [toPyL, PyData.eqvAll]
  | [], y :: ys => by simp [toPyL, PyData.eqvAll]
  | x :: xs, [] => by simp [toPyL, PyData.eqvAll]
  | x :: xs, y :: ys => by
    rw [List.map_cons, List.map_cons, toPyL, toPyL, PyData.eqvAll, h, eqvAll_map f h xs ys]
    by_cases h1 : x = y <;> by_cases h2 : xs = ys <;> simp [h1, h2]
theorem eqv_lst {α : Type} [DecidableEq α] (f : α → D) (h : ∀ x y : α, PyData.eqv (toPy (f x)) (toPy (f y)) = decide (x = y)) (xs ys : List α) : PyData.eqv (toPy (.lst (xs.map f))) (toPy (.lst (ys.map f))) = decide (xs = ys) := by
  show PyData.eqv (.list (toPyL (xs.map f))) (.list (toPyL (ys.map f))) = _
  rw [PyData.eqv]
  exact eqvAll_map f h xs ys
theorem eqv_int (x y : Int) : PyData.eqv (toPy (.int x)) (toPy (.int y)) = decide (x = y) := by
  show PyData.eqv (.int x) (.int y) = _
  rw [PyData.eqv]
  by_cases h : x = y <;> simp [h]
theorem eqA_lst {α : Type} [DecidableEq α] (f : α → D) (h : ∀ x y : α, PyData.eqv (toPy (f x)) (toPy (f y)) = decide (x = y)) (xs ys : List α) (hx : dat (.lst (xs.map f)) = true) (hy : dat (.lst (ys.map f)) = true) : eqA (.lst (xs.map f)) (.lst (ys.map f)) = some (decide (xs = ys)) := by
  have hd : (dat (.lst (xs.map f)) && dat (.lst (ys.map f))) = true := by rw [hx, hy]; rfl
  unfold eqA
  show (match eqF (.lst (xs.map f)) (.lst (ys.map f)) with | some b => some b | none => _) = _
  have e : eqF (.lst (xs.map f)) (.lst (ys.map f)) = none := rfl
  rw [e]
  dsimp only
  rw [if_pos hd, eqv_lst f h]
end B
namespace B
open PySem L2
/-! ### z = y; if c: z = x; (a statement that changes what z names): x, y own lists; z is gone behind -/
def alO : Option Slot → Option (List D)
  | some (some (1, .lst xs)) => some xs
  | _ => none
@[simp] theorem alO_l (xs : List D) : alO (some (some (1, .lst xs))) = some xs := rfl
theorem alO_some {o : Option Slot} {xs : List D} (h : alO o = some xs) : o = some (some (1, .lst xs)) := by
  unfold alO at h
  split at h
  · cases h; rfl
  · cases h
def alQ (k src : Nat) (ρ : Env) : Option (List D) → RS
  | some xs => .ok .nx ((ρ.set src (some (1, .lst xs))).set k none)
  | none => .bad
@[simp] theorem alQ_some (k src : Nat) (ρ : Env) (xs : List D) : alQ k src ρ (some xs) = .ok .nx ((ρ.set src (some (1, .lst xs))).set k none) := rfl
def alR (k src : Nat) : RS → RS
  | .ok .nx ρ => alQ k src ρ (alO ρ[k]?)
  | _ => .bad
@[simp] theorem alR_nx (k src : Nat) (ρ : Env) : alR k src (.ok .nx ρ) = alQ k src ρ (alO ρ[k]?) := rfl
def alS (i j k : Nat) (c : TF) (f : SF) (ρ : Env) : Option (List D) → Option (List D) → RS
  | some xs, some ys => if k < ρ.length then toS (c (ρ.set k none)) (ρ.set k none) fun b => if b = true then alR k i (f (((ρ.set k none).set i none).set k (some (1, .lst xs)))) else alR k j (f (((ρ.set k none).set j none).set k (some (1, .lst ys)))) else .bad
  | _, _ => .bad
@[simp] theorem alS_some (i j k : Nat) (c : TF) (f : SF) (ρ : Env) (xs ys : List D) : alS i j k c f ρ (some xs) (some ys) = if k < ρ.length then toS (c (ρ.set k none)) (ρ.set k none) fun b => if b = true then alR k i (f (((ρ.set k none).set i none).set k (some (1, .lst xs)))) else alR k j (f (((ρ.set k none).set j none).set k (some (1, .lst ys)))) else .bad := rfl
def sAlias (i j k : Nat) (c : TF) (f : SF) : SF := fun ρ => alS i j k c f ρ (alO ρ[i]?) (alO ρ[j]?)
@[simp] theorem sAlias_eq (i j k : Nat) (c : TF) (f : SF) (ρ : Env) : sAlias i j k c f ρ = alS i j k c f ρ (alO ρ[i]?) (alO ρ[j]?) := rfl
section
variable {K : PySem.W.Frag} {cl : Clx} {W : WX} {ρ : Env} {σ : L2.St} {G H G' H' : Hp} {Fs Fs' : Foot}
theorem EnvR.lose2 (e : EnvR K cl ρ σ G H Fs) {k : Nat} (x : Option V) (hx : cl.fix k = none) : EnvR K cl (ρ.set k none) (σ.set k x) G H Fs := by
  refine ⟨by simp [e.len], e.gh, fun i l d hi => ?_, e.dis, e.dom, fun i v hv => ?_⟩
  · by_cases q : i = k
    · subst q
      by_cases hl : i < ρ.length
      · rw [List.getElem?_set_self hl] at hi; cases hi
      · rw [List.getElem?_eq_none (by simpa using hl)] at hi; cases hi
    · rw [List.getElem?_set_ne (Ne.symm q)] at hi
      obtain ⟨v, hv, o⟩ := e.own i l d hi
      exact ⟨v, by rw [List.getElem?_set_ne (Ne.symm q)]; exact hv, o⟩
  · have q : i ≠ k := fun z => by rw [z, hx] at hv; cases hv
    rw [List.getElem?_set_ne (Ne.symm q)]
    exact e.fx i v hv
/-- the third statement, once z names what src owns -/
theorem alias_one {i j k src : Nat} {tc : V × V × V → TS} {f : SF} (hf : ∀ v, SemS K (((cl.fx k v.1).fx i v.2.1).fx j v.2.2) W (tc v) f) (hxk : cl.fix k = none) (hxi : cl.fix i = none) (hxj : cl.fix j = none) (hki : k ≠ i) (hkj : k ≠ j) (hij : i ≠ j) (hs : src = i ∨ src = j)
    (env : EnvR K cl ρ σ G H Fs) {xs : List D} {v vi vj : V} (hk : k < ρ.length) (hr : ρ[src]? = some (some (1, .lst xs))) (hv : σ[src]? = some (some v)) (hvk : σ[k]? = some (some v)) (hvi : σ[i]? = some (some vi)) (hvj : σ[j]? = some (some vj))
    {D : Ends} (hq : PostS K cl W (Un Fs) G H D (alR k src (f ((ρ.set src none).set k (some (1, .lst xs)))))) : (fun D σ H => ∃ v, tc v D σ H) D σ H := by
  have hks : k ≠ src := by rcases hs with rfl | rfl <;> assumption
  obtain ⟨v', hv', o⟩ := env.own src 1 _ hr
  rw [hv] at hv'
  cases hv'
  have e1 := env.hide src
  have e2 := e1.take (j := k) (by simpa using hk) o (fun a fa => ⟨(env.dom src a fa).1, (env.dom src a fa).2, fun ⟨l, z1, z2⟩ => z1 (env.dis l src a z2 fa)⟩) hxk
  have eσ : σ.set k (some v) = σ := by
    refine List.ext_getElem? fun n => ?_
    by_cases hn : n = k
    · subst hn
      rw [List.getElem?_set_self (by rw [← env.len]; exact hk), hvk]
    · rw [List.getElem?_set_ne (Ne.symm hn)]
  rw [eσ] at e2
  have e3 := (e2.addfx hvi).addfx hvj
  refine ⟨(v, vi, vj), hf (v, vi, vj) _ σ G H _ e3 D ?_⟩
  have sub : ∀ a, Un (fun l => if l = k then Fs src else FsD src Fs l) a → Un Fs a := fun a ⟨l, z⟩ => by
    dsimp only at z
    by_cases hl : l = k
    · rw [if_pos hl] at z; exact ⟨src, z⟩
    · rw [if_neg hl] at z; exact ⟨l, z.2⟩
  cases ef : f ((ρ.set src none).set k (some (1, .lst xs))) with
  | bad => rw [ef] at hq; exact hq.elim
  | ex c ρ3 => rw [ef] at hq; exact hq.elim
  | ok fl ρ3 =>
    rw [ef] at hq
    cases fl with
    | bk => exact hq.elim
    | ct => exact hq.elim
    | rt l d => exact hq.elim
    | nx =>
      rw [alR_nx] at hq
      cases eo : alO ρ3[k]? with
      | none => rw [eo] at hq; exact hq.elim
      | some xs' =>
        rw [eo, alQ_some] at hq
        have hr3 := alO_some eo
        intro σ' G' H' Fs3 e4 s4
        have k4 : σ'[k]? = some (some v) := e4.fx k v (by
          show (if k = j then some vj else (if k = i then some vi else (if k = k then some v else cl.fix k))) = some v
          rw [if_neg hkj, if_neg hki, if_pos rfl])
        have i4 : σ'[i]? = some (some vi) := e4.fx i vi (by
          show (if i = j then some vj else (if i = i then some vi else _)) = some vi
          rw [if_neg hij, if_pos rfl])
        have j4 : σ'[j]? = some (some vj) := e4.fx j vj (by
          show (if j = j then some vj else _) = some vj
          rw [if_pos rfl])
        have src4 : σ'[src]? = some (some v) := by
          rcases hs with rfl | rfl
          · rw [i4]; rw [hv] at hvi; cases hvi; rfl
          · rw [j4]; rw [hv] at hvj; cases hvj; rfl
        obtain ⟨v2, hv2, o2⟩ := e4.own k 1 _ hr3
        rw [k4] at hv2
        cases hv2
        have un4 : ∀ a, Un (fun l a => if l = src then Fs3 k a else if l = k then False else Fs3 l a) a → Un Fs3 a := fun a ⟨l, z⟩ => by
          dsimp only at z
          by_cases hl : l = src
          · rw [if_pos hl] at z; exact ⟨k, z⟩
          · rw [if_neg hl] at z
            by_cases hl2 : l = k
            · rw [if_pos hl2] at z; exact z.elim
            · rw [if_neg hl2] at z; exact ⟨l, z⟩
        refine hq σ' G' H' (fun l a => if l = src then Fs3 k a else if l = k then False else Fs3 l a) ?_ ?_
        · refine ⟨by simp [e4.len], e4.gh, fun n l d hn => ?_, fun n m a z1 z2 => ?_, fun n a z => ?_, fun n u hn => ?_⟩
          · by_cases h1 : n = k
            · subst h1
              by_cases hl : n < (ρ3.set src (some (1, B.D.lst xs'))).length
              · rw [List.getElem?_set_self hl] at hn; cases hn
              · rw [List.getElem?_eq_none (by simpa using hl)] at hn; cases hn
            · rw [List.getElem?_set_ne (Ne.symm h1)] at hn
              by_cases h2 : n = src
              · subst h2
                have hl : n < ρ3.length := by
                  have := (List.getElem?_eq_some_iff.mp hn).1
                  simpa using this
                rw [List.getElem?_set_self hl] at hn
                cases hn
                refine ⟨v, src4, ?_⟩
                simp only [if_pos rfl]
                exact o2
              · rw [List.getElem?_set_ne (Ne.symm h2)] at hn
                obtain ⟨w, hw, ow⟩ := e4.own n l d hn
                refine ⟨w, hw, ?_⟩
                have : (fun a => if n = src then Fs3 k a else if n = k then False else Fs3 n a) = Fs3 n := by
                  funext a
                  rw [if_neg h2, if_neg h1]
                rw [this]
                exact ow
          · by_cases h1 : n = src
            · rw [if_pos h1] at z1
              by_cases h2 : m = src
              · rw [h1, h2]
              · rw [if_neg h2] at z2
                by_cases h3 : m = k
                · rw [if_pos h3] at z2; exact z2.elim
                · rw [if_neg h3] at z2
                  exact absurd (e4.dis k m a z1 z2).symm h3
            · rw [if_neg h1] at z1
              by_cases h4 : n = k
              · rw [if_pos h4] at z1; exact z1.elim
              · rw [if_neg h4] at z1
                by_cases h2 : m = src
                · rw [if_pos h2] at z2
                  exact absurd (e4.dis n k a z1 z2) h4
                · rw [if_neg h2] at z2
                  by_cases h3 : m = k
                  · rw [if_pos h3] at z2; exact z2.elim
                  · rw [if_neg h3] at z2
                    exact e4.dis n m a z1 z2
          · obtain ⟨l, z⟩ := un4 a ⟨n, z⟩
            exact e4.dom l a z
          · refine e4.fx n u ?_
            show (if n = j then some vj else (if n = i then some vi else (if n = k then some v else cl.fix n))) = some u
            have h1 : n ≠ j := fun z => by rw [z, hxj] at hn; cases hn
            have h2 : n ≠ i := fun z => by rw [z, hxi] at hn; cases hn
            have h3 : n ≠ k := fun z => by rw [z, hxk] at hn; cases hn
            rw [if_neg h1, if_neg h2, if_neg h3]
            exact hn
        · refine ⟨s4.gg, s4.gh, fun a ob e n => s4.fr a ob e fun z => n (sub a z), s4.th, fun a z => ?_, fun a ob e => ?_⟩
          · rcases s4.un a (un4 a z) with h | h
            · exact .inl (sub a h)
            · exact .inr h
          · rcases s4.gn a ob e with h | h | h
            · exact .inl h
            · exact .inr (.inl (sub a h))
            · exact .inr (.inr h)
theorem semAlias {i j k : Nat} {t : TT} {c : TF} {tc : V × V × V → TS} {f : SF} (hc : SemT K cl W t c) (hf : ∀ v, SemS K (((cl.fx k v.1).fx i v.2.1).fx j v.2.2) W (tc v) f) (hxk : cl.fix k = none) (hxi : cl.fix i = none) (hxj : cl.fix j = none) (hki : k ≠ i) (hkj : k ≠ j) (hij : i ≠ j) :
    SemS K cl W (tSeq (tAsg (tVar j) (gName k)) (tSeq (tIfS t (tAsg (tVar i) (gName k)) tNext) (fun D σ H => ∃ v, tc v D σ H))) (sAlias i j k c f) := by
  intro ρ σ G H Fs env D hq
  rw [sAlias_eq] at hq
  cases ei : alO ρ[i]? with
  | none => rw [ei] at hq; exact hq.elim
  | some xs =>
    cases ej : alO ρ[j]? with
    | none => rw [ei, ej] at hq; exact hq.elim
    | some ys =>
      rw [ei, ej, alS_some] at hq
      by_cases hk : k < ρ.length
      · rw [if_pos hk] at hq
        have hi := alO_some ei
        have hj := alO_some ej
        obtain ⟨vi, hvi, _⟩ := env.own i 1 _ hi
        obtain ⟨vj, hvj, _⟩ := env.own j 1 _ hj
        have hks : k < σ.length := by rw [← env.len]; exact hk
        refine ⟨vj, hvj, ?_⟩
        have env0 := env.lose2 (some vj) hxk
        refine hc.useS env0 hq fun b G1 H1 _ p1 env1 hq1 => ?_
        have i0 : (ρ.set k none)[i]? = some (some (1, .lst xs)) := by rw [List.getElem?_set_ne hki]; exact hi
        have j0 : (ρ.set k none)[j]? = some (some (1, .lst ys)) := by rw [List.getElem?_set_ne hkj]; exact hj
        have k0 : k < (ρ.set k none).length := by simpa using hk
        cases b with
        | true =>
          refine iteT ?_
          refine ⟨vi, by rw [List.getElem?_set_ne hki]; exact hvi, ?_⟩
          have env2 := env1.lose2 (some vi) hxk
          rw [List.set_set, List.set_set] at env2
          have hq2 : PostS K cl W (Un Fs) G1 H1 D (alR k i (f (((ρ.set k none).set i none).set k (some (1, .lst xs))))) := hq1
          show (fun D σ H => ∃ v, tc v D σ H) D ((σ.set k (some vj)).set k (some vi)) H1
          rw [List.set_set]
          exact alias_one (src := i) hf hxk hxi hxj hki hkj hij (.inl rfl) env2 k0 i0 (by rw [List.getElem?_set_ne hki]; exact hvi) (List.getElem?_set_self hks) (by rw [List.getElem?_set_ne hki]; exact hvi) (by rw [List.getElem?_set_ne hkj]; exact hvj) hq2
        | false =>
          refine iteF ?_
          have hq2 : PostS K cl W (Un Fs) G1 H1 D (alR k j (f (((ρ.set k none).set j none).set k (some (1, .lst ys))))) := hq1
          exact alias_one (src := j) hf hxk hxi hxj hki hkj hij (.inr rfl) env1 k0 j0 (by rw [List.getElem?_set_ne hkj]; exact hvj) (List.getElem?_set_self hks) (by rw [List.getElem?_set_ne hki]; exact hvi) (by rw [List.getElem?_set_ne hkj]; exact hvj) hq2
      · rw [if_neg hk] at hq; exact hq.elim
end
section
variable {X : Cx} {cl : Clx} {W : WX} {pos : Pos}
theorem eb_alias (i j k : Nat) {x y z : Str} {p1 p2 p3 p4 p5 p6 p7 : Pos} {ct : Expr} {s3 : Stmt} {rest : List Stmt} {c : TF} {f g : SF} (hN : X.N.Nodup) (hc : EvT X cl W ct c) (hf : ∀ v : V × V × V, EvS X (((cl.fx k v.1).fx i v.2.1).fx j v.2.2) W s3 f) (hr : EvB X cl W rest g)
    (hki : k ≠ i := by decide) (hkj : k ≠ j := by decide) (hij : i ≠ j := by decide) (hi : X.N[i]? = some x := by rfl) (hj : X.N[j]? = some y := by rfl) (hk : X.N[k]? = some z := by rfl)
    (hv : Vis X.env.scope x := by first | exact Or.inl rfl | exact Or.inr (Or.inl rfl) | exact Or.inr (Or.inr rfl)) (hd : (x == ("__debug__" : Str)) = false := by decide) (hcd : (x == ("__classdict__" : Str)) = false := by decide)
    (hv2 : Vis X.env.scope y := by first | exact Or.inl rfl | exact Or.inr (Or.inl rfl) | exact Or.inr (Or.inr rfl)) (hd2 : (y == ("__debug__" : Str)) = false := by decide) (hcd2 : (y == ("__classdict__" : Str)) = false := by decide)
    (hxl : Loc X.env.scope z := by first | exact Or.inl rfl | exact Or.inr rfl) (hfz : X.fn z = true ∨ X.env.scope.names.lookup z = some .local := by first | exact .inl rfl | exact .inr rfl)
    (hxk : cl.fix k = none := by rfl) (hxi : cl.fix i = none := by rfl) (hxj : cl.fix j = none := by rfl)
    (hs1 : swapsWithSole [.Name z p1] (.Name y p2) p3.line X.env = pure false := by rfl) (hw1 : swappedStores [.Name z p1] (.Name y p2) X.env = pure none := by rfl) (ha1 : (assignEach [.Name z p1] X.env).map (·.2) = [assign (.Name z p1) X.env] := by rfl)
    (hs2 : swapsWithSole [.Name z p4] (.Name x p5) p6.line X.env = pure false := by rfl) (hw2 : swappedStores [.Name z p4] (.Name x p5) X.env = pure none := by rfl) (ha2 : (assignEach [.Name z p4] X.env).map (·.2) = [assign (.Name z p4) X.env] := by rfl) :
    EvB X cl W (.Assign [.Name z p1] (.Name y p2) p3 :: .If ct [.Assign [.Name z p4] (.Name x p5) p6] [] p7 :: s3 :: rest) (sSeq (sAlias i j k c f) g) := by
  obtain ⟨t, pt, st⟩ := hc
  have h : ∃ tc : V × V × V → TS, ∀ v, PS X s3 (tc v) ∧ SemS X.K (((cl.fx k v.1).fx i v.2.1).fx j v.2.2) W (tc v) f := ⟨fun v => Classical.choose (hf v), fun v => Classical.choose_spec (hf v)⟩
  obtain ⟨tc, htc⟩ := h
  obtain ⟨u, pu, su⟩ := hr
  have p3s : PS X s3 (fun D σ H => ∃ v, tc v D σ H) := ⟨fun pins s σ H D I ⟨v, q⟩ => (htc v).1.run pins s σ H D I q⟩
  have pa := ps_asg (X := X) (pos := p3) (pe_var (pos := p2) hj hv2 hd2 hcd2) (pg_name (pos := p1) hN hk hxl hfz) hs1 hw1 ha1
  have pb := ps_asg (X := X) (pos := p6) (pe_var (pos := p5) hi hv hd hcd) (pg_name (pos := p4) hN hk hxl hfz) hs2 hw2 ha2
  refine ⟨_, pss_cons pa (pss_cons (ps_if (pos := p7) pt (pss_one pb) pss_nil) (pss_cons p3s pu)), fun ρ σ G H Fs env D hq => ?_⟩
  exact semSeq (semAlias st (fun v => (htc v).2) hxk hxi hxj hki hkj hij) su ρ σ G H Fs env D hq
end
end B
namespace K11
open PySem L2 B
@[simp] theorem osA_Knot : cMem osA "Knot" = true := by decide +kernel
@[simp] theorem esA_Knot : cMem esA "Knot" = false := by decide +kernel
@[simp] theorem osA_Source : cMem osA "Source" = true := by decide +kernel
@[simp] theorem esA_Source : cMem esA "Source" = false := by decide +kernel
@[simp] theorem osA_Drain : cMem osA "Drain" = true := by decide +kernel
@[simp] theorem esA_Drain : cMem esA "Drain" = false := by decide +kernel
@[simp] theorem osA_Parter : cMem osA "Parter" = true := by decide +kernel
@[simp] theorem esA_Parter : cMem esA "Parter" = false := by decide +kernel
@[simp] theorem osA_FirstParter : cMem osA "FirstParter" = true := by decide +kernel
@[simp] theorem esA_FirstParter : cMem esA "FirstParter" = false := by decide +kernel
@[simp] theorem osA_Sieve : cMem osA "Sieve" = true := by decide +kernel
@[simp] theorem esA_Sieve : cMem esA "Sieve" = false := by decide +kernel
@[simp] theorem osA_Joiner : cMem osA "Joiner" = true := by decide +kernel
@[simp] theorem esA_Joiner : cMem esA "Joiner" = false := by decide +kernel
@[simp] theorem osA_Work : cMem osA "Work" = true := by decide +kernel
@[simp] theorem esA_Work : cMem esA "Work" = false := by decide +kernel
@[simp] theorem osA_Belt : cMem osA "Belt" = true := by decide +kernel
@[simp] theorem esA_Belt : cMem esA "Belt" = false := by decide +kernel
@[simp] theorem osA_WorkError : cMem osA "WorkError" = false := by decide +kernel
@[simp] theorem esA_WorkError : cMem esA "WorkError" = true := by decide +kernel
@[simp] theorem osA_NoRatio : cMem osA "NoRatio" = false := by decide +kernel
@[simp] theorem esA_NoRatio : cMem esA "NoRatio" = true := by decide +kernel
@[simp] theorem osA_BadBelt : cMem osA "BadBelt" = false := by decide +kernel
@[simp] theorem esA_BadBelt : cMem esA "BadBelt" = true := by decide +kernel
@[simp] theorem osA_BadKnot : cMem osA "BadKnot" = false := by decide +kernel
@[simp] theorem esA_BadKnot : cMem esA "BadKnot" = true := by decide +kernel
@[simp] theorem osA_BadWork : cMem osA "BadWork" = false := by decide +kernel
@[simp] theorem esA_BadWork : cMem esA "BadWork" = true := by decide +kernel
@[simp] theorem osA_BadRow : cMem osA "BadRow" = false := by decide +kernel
@[simp] theorem esA_BadRow : cMem esA "BadRow" = true := by decide +kernel
@[simp] theorem osA_TooLong : cMem osA "TooLong" = false := by decide +kernel
@[simp] theorem esA_TooLong : cMem esA "TooLong" = true := by decide +kernel
@[simp] theorem osA_BadPaces : cMem osA "BadPaces" = false := by decide +kernel
@[simp] theorem esA_BadPaces : cMem esA "BadPaces" = true := by decide +kernel
@[simp] theorem osA_TooMany : cMem osA "TooMany" = false := by decide +kernel
@[simp] theorem esA_TooMany : cMem esA "TooMany" = true := by decide +kernel
@[simp] theorem osA_Moving : cMem osA "Moving" = false := by decide +kernel
@[simp] theorem esA_Moving : cMem esA "Moving" = true := by decide +kernel
@[simp] theorem zt_WorkError__WorkError : cMem z_WorkError "WorkError" = true := by decide +kernel
@[simp] theorem zt_WorkError__NoRatio : cMem z_WorkError "NoRatio" = true := by decide +kernel
@[simp] theorem zt_WorkError__BadBelt : cMem z_WorkError "BadBelt" = true := by decide +kernel
@[simp] theorem zt_WorkError__BadKnot : cMem z_WorkError "BadKnot" = true := by decide +kernel
@[simp] theorem zt_WorkError__BadWork : cMem z_WorkError "BadWork" = true := by decide +kernel
@[simp] theorem zt_WorkError__BadRow : cMem z_WorkError "BadRow" = true := by decide +kernel
@[simp] theorem zt_WorkError__TooLong : cMem z_WorkError "TooLong" = true := by decide +kernel
@[simp] theorem zt_WorkError__BadPaces : cMem z_WorkError "BadPaces" = true := by decide +kernel
@[simp] theorem zt_WorkError__TooMany : cMem z_WorkError "TooMany" = true := by decide +kernel
@[simp] theorem zt_WorkError__Moving : cMem z_WorkError "Moving" = true := by decide +kernel
@[simp] theorem yt_BadWork__Knot : cMem y_BadWork "Knot" = false := by decide +kernel
@[simp] theorem yt_BadWork__Source : cMem y_BadWork "Source" = false := by decide +kernel
@[simp] theorem yt_BadWork__Drain : cMem y_BadWork "Drain" = false := by decide +kernel
@[simp] theorem yt_BadWork__Parter : cMem y_BadWork "Parter" = false := by decide +kernel
@[simp] theorem yt_BadWork__FirstParter : cMem y_BadWork "FirstParter" = false := by decide +kernel
@[simp] theorem yt_BadWork__Sieve : cMem y_BadWork "Sieve" = false := by decide +kernel
@[simp] theorem yt_BadWork__Joiner : cMem y_BadWork "Joiner" = false := by decide +kernel
@[simp] theorem yt_BadWork__Work : cMem y_BadWork "Work" = false := by decide +kernel
@[simp] theorem yt_BadWork__Belt : cMem y_BadWork "Belt" = false := by decide +kernel
@[simp] theorem yt_BadWork__WorkError : cMem y_BadWork "WorkError" = false := by decide +kernel
@[simp] theorem yt_BadWork__NoRatio : cMem y_BadWork "NoRatio" = false := by decide +kernel
@[simp] theorem yt_BadWork__BadBelt : cMem y_BadWork "BadBelt" = false := by decide +kernel
@[simp] theorem yt_BadWork__BadKnot : cMem y_BadWork "BadKnot" = false := by decide +kernel
@[simp] theorem yt_BadWork__BadWork : cMem y_BadWork "BadWork" = true := by decide +kernel
@[simp] theorem yt_BadWork__BadRow : cMem y_BadWork "BadRow" = false := by decide +kernel
@[simp] theorem yt_BadWork__TooLong : cMem y_BadWork "TooLong" = false := by decide +kernel
@[simp] theorem yt_BadWork__BadPaces : cMem y_BadWork "BadPaces" = false := by decide +kernel
@[simp] theorem yt_BadWork__TooMany : cMem y_BadWork "TooMany" = false := by decide +kernel
@[simp] theorem yt_BadWork__Moving : cMem y_BadWork "Moving" = false := by decide +kernel
@[simp] theorem yt_ValueError__Knot : cMem y_ValueError "Knot" = false := by decide +kernel
@[simp] theorem yt_ValueError__Source : cMem y_ValueError "Source" = false := by decide +kernel
@[simp] theorem yt_ValueError__Drain : cMem y_ValueError "Drain" = false := by decide +kernel
@[simp] theorem yt_ValueError__Parter : cMem y_ValueError "Parter" = false := by decide +kernel
@[simp] theorem yt_ValueError__FirstParter : cMem y_ValueError "FirstParter" = false := by decide +kernel
@[simp] theorem yt_ValueError__Sieve : cMem y_ValueError "Sieve" = false := by decide +kernel
@[simp] theorem yt_ValueError__Joiner : cMem y_ValueError "Joiner" = false := by decide +kernel
@[simp] theorem yt_ValueError__Work : cMem y_ValueError "Work" = false := by decide +kernel
@[simp] theorem yt_ValueError__Belt : cMem y_ValueError "Belt" = false := by decide +kernel
@[simp] theorem yt_ValueError__WorkError : cMem y_ValueError "WorkError" = true := by decide +kernel
@[simp] theorem yt_ValueError__NoRatio : cMem y_ValueError "NoRatio" = true := by decide +kernel
@[simp] theorem yt_ValueError__BadBelt : cMem y_ValueError "BadBelt" = true := by decide +kernel
@[simp] theorem yt_ValueError__BadKnot : cMem y_ValueError "BadKnot" = true := by decide +kernel
@[simp] theorem yt_ValueError__BadWork : cMem y_ValueError "BadWork" = true := by decide +kernel
@[simp] theorem yt_ValueError__BadRow : cMem y_ValueError "BadRow" = true := by decide +kernel
@[simp] theorem yt_ValueError__TooLong : cMem y_ValueError "TooLong" = true := by decide +kernel
@[simp] theorem yt_ValueError__BadPaces : cMem y_ValueError "BadPaces" = true := by decide +kernel
@[simp] theorem yt_ValueError__TooMany : cMem y_ValueError "TooMany" = true := by decide +kernel
@[simp] theorem yt_ValueError__Moving : cMem y_ValueError "Moving" = true := by decide +kernel
@[simp] theorem yt_all_but_BadWork__Knot : cMem y_all_but_BadWork "Knot" = false := by decide +kernel
@[simp] theorem yt_all_but_BadWork__Source : cMem y_all_but_BadWork "Source" = false := by decide +kernel
@[simp] theorem yt_all_but_BadWork__Drain : cMem y_all_but_BadWork "Drain" = false := by decide +kernel
@[simp] theorem yt_all_but_BadWork__Parter : cMem y_all_but_BadWork "Parter" = false := by decide +kernel
@[simp] theorem yt_all_but_BadWork__FirstParter : cMem y_all_but_BadWork "FirstParter" = false := by decide +kernel
@[simp] theorem yt_all_but_BadWork__Sieve : cMem y_all_but_BadWork "Sieve" = false := by decide +kernel
@[simp] theorem yt_all_but_BadWork__Joiner : cMem y_all_but_BadWork "Joiner" = false := by decide +kernel
@[simp] theorem yt_all_but_BadWork__Work : cMem y_all_but_BadWork "Work" = false := by decide +kernel
@[simp] theorem yt_all_but_BadWork__Belt : cMem y_all_but_BadWork "Belt" = false := by decide +kernel
@[simp] theorem yt_all_but_BadWork__WorkError : cMem y_all_but_BadWork "WorkError" = false := by decide +kernel
@[simp] theorem yt_all_but_BadWork__NoRatio : cMem y_all_but_BadWork "NoRatio" = true := by decide +kernel
@[simp] theorem yt_all_but_BadWork__BadBelt : cMem y_all_but_BadWork "BadBelt" = true := by decide +kernel
@[simp] theorem yt_all_but_BadWork__BadKnot : cMem y_all_but_BadWork "BadKnot" = true := by decide +kernel
@[simp] theorem yt_all_but_BadWork__BadWork : cMem y_all_but_BadWork "BadWork" = false := by decide +kernel
@[simp] theorem yt_all_but_BadWork__BadRow : cMem y_all_but_BadWork "BadRow" = true := by decide +kernel
@[simp] theorem yt_all_but_BadWork__TooLong : cMem y_all_but_BadWork "TooLong" = true := by decide +kernel
@[simp] theorem yt_all_but_BadWork__BadPaces : cMem y_all_but_BadWork "BadPaces" = true := by decide +kernel
@[simp] theorem yt_all_but_BadWork__TooMany : cMem y_all_but_BadWork "TooMany" = true := by decide +kernel
@[simp] theorem yt_all_but_BadWork__Moving : cMem y_all_but_BadWork "Moving" = true := by decide +kernel
@[simp] theorem yt_Work__Knot : cMem y_Work "Knot" = false := by decide +kernel
@[simp] theorem yt_Work__Source : cMem y_Work "Source" = false := by decide +kernel
@[simp] theorem yt_Work__Drain : cMem y_Work "Drain" = false := by decide +kernel
@[simp] theorem yt_Work__Parter : cMem y_Work "Parter" = false := by decide +kernel
@[simp] theorem yt_Work__FirstParter : cMem y_Work "FirstParter" = false := by decide +kernel
@[simp] theorem yt_Work__Sieve : cMem y_Work "Sieve" = false := by decide +kernel
@[simp] theorem yt_Work__Joiner : cMem y_Work "Joiner" = false := by decide +kernel
@[simp] theorem yt_Work__Work : cMem y_Work "Work" = true := by decide +kernel
@[simp] theorem yt_Work__Belt : cMem y_Work "Belt" = false := by decide +kernel
@[simp] theorem yt_Work__WorkError : cMem y_Work "WorkError" = false := by decide +kernel
@[simp] theorem yt_Work__NoRatio : cMem y_Work "NoRatio" = false := by decide +kernel
@[simp] theorem yt_Work__BadBelt : cMem y_Work "BadBelt" = false := by decide +kernel
@[simp] theorem yt_Work__BadKnot : cMem y_Work "BadKnot" = false := by decide +kernel
@[simp] theorem yt_Work__BadWork : cMem y_Work "BadWork" = false := by decide +kernel
@[simp] theorem yt_Work__BadRow : cMem y_Work "BadRow" = false := by decide +kernel
@[simp] theorem yt_Work__TooLong : cMem y_Work "TooLong" = false := by decide +kernel
@[simp] theorem yt_Work__BadPaces : cMem y_Work "BadPaces" = false := by decide +kernel
@[simp] theorem yt_Work__TooMany : cMem y_Work "TooMany" = false := by decide +kernel
@[simp] theorem yt_Work__Moving : cMem y_Work "Moving" = false := by decide +kernel
@[simp] theorem yt_Belt__Knot : cMem y_Belt "Knot" = false := by decide +kernel
@[simp] theorem yt_Belt__Source : cMem y_Belt "Source" = false := by decide +kernel
@[simp] theorem yt_Belt__Drain : cMem y_Belt "Drain" = false := by decide +kernel
@[simp] theorem yt_Belt__Parter : cMem y_Belt "Parter" = false := by decide +kernel
@[simp] theorem yt_Belt__FirstParter : cMem y_Belt "FirstParter" = false := by decide +kernel
@[simp] theorem yt_Belt__Sieve : cMem y_Belt "Sieve" = false := by decide +kernel
@[simp] theorem yt_Belt__Joiner : cMem y_Belt "Joiner" = false := by decide +kernel
@[simp] theorem yt_Belt__Work : cMem y_Belt "Work" = false := by decide +kernel
@[simp] theorem yt_Belt__Belt : cMem y_Belt "Belt" = true := by decide +kernel
@[simp] theorem yt_Belt__WorkError : cMem y_Belt "WorkError" = false := by decide +kernel
@[simp] theorem yt_Belt__NoRatio : cMem y_Belt "NoRatio" = false := by decide +kernel
@[simp] theorem yt_Belt__BadBelt : cMem y_Belt "BadBelt" = false := by decide +kernel
@[simp] theorem yt_Belt__BadKnot : cMem y_Belt "BadKnot" = false := by decide +kernel
@[simp] theorem yt_Belt__BadWork : cMem y_Belt "BadWork" = false := by decide +kernel
@[simp] theorem yt_Belt__BadRow : cMem y_Belt "BadRow" = false := by decide +kernel
@[simp] theorem yt_Belt__TooLong : cMem y_Belt "TooLong" = false := by decide +kernel
@[simp] theorem yt_Belt__BadPaces : cMem y_Belt "BadPaces" = false := by decide +kernel
@[simp] theorem yt_Belt__TooMany : cMem y_Belt "TooMany" = false := by decide +kernel
@[simp] theorem yt_Belt__Moving : cMem y_Belt "Moving" = false := by decide +kernel
@[simp] theorem yt_Source__Knot : cMem y_Source "Knot" = false := by decide +kernel
@[simp] theorem yt_Source__Source : cMem y_Source "Source" = true := by decide +kernel
@[simp] theorem yt_Source__Drain : cMem y_Source "Drain" = false := by decide +kernel
@[simp] theorem yt_Source__Parter : cMem y_Source "Parter" = false := by decide +kernel
@[simp] theorem yt_Source__FirstParter : cMem y_Source "FirstParter" = false := by decide +kernel
@[simp] theorem yt_Source__Sieve : cMem y_Source "Sieve" = false := by decide +kernel
@[simp] theorem yt_Source__Joiner : cMem y_Source "Joiner" = false := by decide +kernel
@[simp] theorem yt_Source__Work : cMem y_Source "Work" = false := by decide +kernel
@[simp] theorem yt_Source__Belt : cMem y_Source "Belt" = false := by decide +kernel
@[simp] theorem yt_Source__WorkError : cMem y_Source "WorkError" = false := by decide +kernel
@[simp] theorem yt_Source__NoRatio : cMem y_Source "NoRatio" = false := by decide +kernel
@[simp] theorem yt_Source__BadBelt : cMem y_Source "BadBelt" = false := by decide +kernel
@[simp] theorem yt_Source__BadKnot : cMem y_Source "BadKnot" = false := by decide +kernel
@[simp] theorem yt_Source__BadWork : cMem y_Source "BadWork" = false := by decide +kernel
@[simp] theorem yt_Source__BadRow : cMem y_Source "BadRow" = false := by decide +kernel
@[simp] theorem yt_Source__TooLong : cMem y_Source "TooLong" = false := by decide +kernel
@[simp] theorem yt_Source__BadPaces : cMem y_Source "BadPaces" = false := by decide +kernel
@[simp] theorem yt_Source__TooMany : cMem y_Source "TooMany" = false := by decide +kernel
@[simp] theorem yt_Source__Moving : cMem y_Source "Moving" = false := by decide +kernel
@[simp] theorem yt_Drain__Knot : cMem y_Drain "Knot" = false := by decide +kernel
@[simp] theorem yt_Drain__Source : cMem y_Drain "Source" = false := by decide +kernel
@[simp] theorem yt_Drain__Drain : cMem y_Drain "Drain" = true := by decide +kernel
@[simp] theorem yt_Drain__Parter : cMem y_Drain "Parter" = false := by decide +kernel
@[simp] theorem yt_Drain__FirstParter : cMem y_Drain "FirstParter" = false := by decide +kernel
@[simp] theorem yt_Drain__Sieve : cMem y_Drain "Sieve" = false := by decide +kernel
@[simp] theorem yt_Drain__Joiner : cMem y_Drain "Joiner" = false := by decide +kernel
@[simp] theorem yt_Drain__Work : cMem y_Drain "Work" = false := by decide +kernel
@[simp] theorem yt_Drain__Belt : cMem y_Drain "Belt" = false := by decide +kernel
@[simp] theorem yt_Drain__WorkError : cMem y_Drain "WorkError" = false := by decide +kernel
@[simp] theorem yt_Drain__NoRatio : cMem y_Drain "NoRatio" = false := by decide +kernel
@[simp] theorem yt_Drain__BadBelt : cMem y_Drain "BadBelt" = false := by decide +kernel
@[simp] theorem yt_Drain__BadKnot : cMem y_Drain "BadKnot" = false := by decide +kernel
@[simp] theorem yt_Drain__BadWork : cMem y_Drain "BadWork" = false := by decide +kernel
@[simp] theorem yt_Drain__BadRow : cMem y_Drain "BadRow" = false := by decide +kernel
@[simp] theorem yt_Drain__TooLong : cMem y_Drain "TooLong" = false := by decide +kernel
@[simp] theorem yt_Drain__BadPaces : cMem y_Drain "BadPaces" = false := by decide +kernel
@[simp] theorem yt_Drain__TooMany : cMem y_Drain "TooMany" = false := by decide +kernel
@[simp] theorem yt_Drain__Moving : cMem y_Drain "Moving" = false := by decide +kernel
@[simp] theorem yt_Parter__Knot : cMem y_Parter "Knot" = false := by decide +kernel
@[simp] theorem yt_Parter__Source : cMem y_Parter "Source" = false := by decide +kernel
@[simp] theorem yt_Parter__Drain : cMem y_Parter "Drain" = false := by decide +kernel
@[simp] theorem yt_Parter__Parter : cMem y_Parter "Parter" = true := by decide +kernel
@[simp] theorem yt_Parter__FirstParter : cMem y_Parter "FirstParter" = false := by decide +kernel
@[simp] theorem yt_Parter__Sieve : cMem y_Parter "Sieve" = false := by decide +kernel
@[simp] theorem yt_Parter__Joiner : cMem y_Parter "Joiner" = false := by decide +kernel
@[simp] theorem yt_Parter__Work : cMem y_Parter "Work" = false := by decide +kernel
@[simp] theorem yt_Parter__Belt : cMem y_Parter "Belt" = false := by decide +kernel
@[simp] theorem yt_Parter__WorkError : cMem y_Parter "WorkError" = false := by decide +kernel
@[simp] theorem yt_Parter__NoRatio : cMem y_Parter "NoRatio" = false := by decide +kernel
@[simp] theorem yt_Parter__BadBelt : cMem y_Parter "BadBelt" = false := by decide +kernel
@[simp] theorem yt_Parter__BadKnot : cMem y_Parter "BadKnot" = false := by decide +kernel
@[simp] theorem yt_Parter__BadWork : cMem y_Parter "BadWork" = false := by decide +kernel
@[simp] theorem yt_Parter__BadRow : cMem y_Parter "BadRow" = false := by decide +kernel
@[simp] theorem yt_Parter__TooLong : cMem y_Parter "TooLong" = false := by decide +kernel
@[simp] theorem yt_Parter__BadPaces : cMem y_Parter "BadPaces" = false := by decide +kernel
@[simp] theorem yt_Parter__TooMany : cMem y_Parter "TooMany" = false := by decide +kernel
@[simp] theorem yt_Parter__Moving : cMem y_Parter "Moving" = false := by decide +kernel
@[simp] theorem yt_FirstParter__Knot : cMem y_FirstParter "Knot" = false := by decide +kernel
@[simp] theorem yt_FirstParter__Source : cMem y_FirstParter "Source" = false := by decide +kernel
@[simp] theorem yt_FirstParter__Drain : cMem y_FirstParter "Drain" = false := by decide +kernel
@[simp] theorem yt_FirstParter__Parter : cMem y_FirstParter "Parter" = false := by decide +kernel
@[simp] theorem yt_FirstParter__FirstParter : cMem y_FirstParter "FirstParter" = true := by decide +kernel
@[simp] theorem yt_FirstParter__Sieve : cMem y_FirstParter "Sieve" = false := by decide +kernel
@[simp] theorem yt_FirstParter__Joiner : cMem y_FirstParter "Joiner" = false := by decide +kernel
@[simp] theorem yt_FirstParter__Work : cMem y_FirstParter "Work" = false := by decide +kernel
@[simp] theorem yt_FirstParter__Belt : cMem y_FirstParter "Belt" = false := by decide +kernel
@[simp] theorem yt_FirstParter__WorkError : cMem y_FirstParter "WorkError" = false := by decide +kernel
@[simp] theorem yt_FirstParter__NoRatio : cMem y_FirstParter "NoRatio" = false := by decide +kernel
@[simp] theorem yt_FirstParter__BadBelt : cMem y_FirstParter "BadBelt" = false := by decide +kernel
@[simp] theorem yt_FirstParter__BadKnot : cMem y_FirstParter "BadKnot" = false := by decide +kernel
@[simp] theorem yt_FirstParter__BadWork : cMem y_FirstParter "BadWork" = false := by decide +kernel
@[simp] theorem yt_FirstParter__BadRow : cMem y_FirstParter "BadRow" = false := by decide +kernel
@[simp] theorem yt_FirstParter__TooLong : cMem y_FirstParter "TooLong" = false := by decide +kernel
@[simp] theorem yt_FirstParter__BadPaces : cMem y_FirstParter "BadPaces" = false := by decide +kernel
@[simp] theorem yt_FirstParter__TooMany : cMem y_FirstParter "TooMany" = false := by decide +kernel
@[simp] theorem yt_FirstParter__Moving : cMem y_FirstParter "Moving" = false := by decide +kernel
@[simp] theorem yt_Sieve__Knot : cMem y_Sieve "Knot" = false := by decide +kernel
@[simp] theorem yt_Sieve__Source : cMem y_Sieve "Source" = false := by decide +kernel
@[simp] theorem yt_Sieve__Drain : cMem y_Sieve "Drain" = false := by decide +kernel
@[simp] theorem yt_Sieve__Parter : cMem y_Sieve "Parter" = false := by decide +kernel
@[simp] theorem yt_Sieve__FirstParter : cMem y_Sieve "FirstParter" = false := by decide +kernel
@[simp] theorem yt_Sieve__Sieve : cMem y_Sieve "Sieve" = true := by decide +kernel
@[simp] theorem yt_Sieve__Joiner : cMem y_Sieve "Joiner" = false := by decide +kernel
@[simp] theorem yt_Sieve__Work : cMem y_Sieve "Work" = false := by decide +kernel
@[simp] theorem yt_Sieve__Belt : cMem y_Sieve "Belt" = false := by decide +kernel
@[simp] theorem yt_Sieve__WorkError : cMem y_Sieve "WorkError" = false := by decide +kernel
@[simp] theorem yt_Sieve__NoRatio : cMem y_Sieve "NoRatio" = false := by decide +kernel
@[simp] theorem yt_Sieve__BadBelt : cMem y_Sieve "BadBelt" = false := by decide +kernel
@[simp] theorem yt_Sieve__BadKnot : cMem y_Sieve "BadKnot" = false := by decide +kernel
@[simp] theorem yt_Sieve__BadWork : cMem y_Sieve "BadWork" = false := by decide +kernel
@[simp] theorem yt_Sieve__BadRow : cMem y_Sieve "BadRow" = false := by decide +kernel
@[simp] theorem yt_Sieve__TooLong : cMem y_Sieve "TooLong" = false := by decide +kernel
@[simp] theorem yt_Sieve__BadPaces : cMem y_Sieve "BadPaces" = false := by decide +kernel
@[simp] theorem yt_Sieve__TooMany : cMem y_Sieve "TooMany" = false := by decide +kernel
@[simp] theorem yt_Sieve__Moving : cMem y_Sieve "Moving" = false := by decide +kernel
@[simp] theorem yt_Joiner__Knot : cMem y_Joiner "Knot" = false := by decide +kernel
@[simp] theorem yt_Joiner__Source : cMem y_Joiner "Source" = false := by decide +kernel
@[simp] theorem yt_Joiner__Drain : cMem y_Joiner "Drain" = false := by decide +kernel
@[simp] theorem yt_Joiner__Parter : cMem y_Joiner "Parter" = false := by decide +kernel
@[simp] theorem yt_Joiner__FirstParter : cMem y_Joiner "FirstParter" = false := by decide +kernel
@[simp] theorem yt_Joiner__Sieve : cMem y_Joiner "Sieve" = false := by decide +kernel
@[simp] theorem yt_Joiner__Joiner : cMem y_Joiner "Joiner" = true := by decide +kernel
@[simp] theorem yt_Joiner__Work : cMem y_Joiner "Work" = false := by decide +kernel
@[simp] theorem yt_Joiner__Belt : cMem y_Joiner "Belt" = false := by decide +kernel
@[simp] theorem yt_Joiner__WorkError : cMem y_Joiner "WorkError" = false := by decide +kernel
@[simp] theorem yt_Joiner__NoRatio : cMem y_Joiner "NoRatio" = false := by decide +kernel
@[simp] theorem yt_Joiner__BadBelt : cMem y_Joiner "BadBelt" = false := by decide +kernel
@[simp] theorem yt_Joiner__BadKnot : cMem y_Joiner "BadKnot" = false := by decide +kernel
@[simp] theorem yt_Joiner__BadWork : cMem y_Joiner "BadWork" = false := by decide +kernel
@[simp] theorem yt_Joiner__BadRow : cMem y_Joiner "BadRow" = false := by decide +kernel
@[simp] theorem yt_Joiner__TooLong : cMem y_Joiner "TooLong" = false := by decide +kernel
@[simp] theorem yt_Joiner__BadPaces : cMem y_Joiner "BadPaces" = false := by decide +kernel
@[simp] theorem yt_Joiner__TooMany : cMem y_Joiner "TooMany" = false := by decide +kernel
@[simp] theorem yt_Joiner__Moving : cMem y_Joiner "Moving" = false := by decide +kernel
@[simp] theorem ne_room_pace : ((("room" : Str) = ("pace" : Str)) = False) := by decide
@[simp] theorem ne_room_kinds : ((("room" : Str) = ("kinds" : Str)) = False) := by decide
@[simp] theorem ne_room_ins : ((("room" : Str) = ("ins" : Str)) = False) := by decide
@[simp] theorem ne_room_outs : ((("room" : Str) = ("outs" : Str)) = False) := by decide
@[simp] theorem ne_room_kind : ((("room" : Str) = ("kind" : Str)) = False) := by decide
@[simp] theorem ne_room_belts : ((("room" : Str) = ("belts" : Str)) = False) := by decide
@[simp] theorem ne_room_knots : ((("room" : Str) = ("knots" : Str)) = False) := by decide
@[simp] theorem ne_pace_room : ((("pace" : Str) = ("room" : Str)) = False) := by decide
@[simp] theorem ne_pace_kinds : ((("pace" : Str) = ("kinds" : Str)) = False) := by decide
@[simp] theorem ne_pace_ins : ((("pace" : Str) = ("ins" : Str)) = False) := by decide
@[simp] theorem ne_pace_outs : ((("pace" : Str) = ("outs" : Str)) = False) := by decide
@[simp] theorem ne_pace_kind : ((("pace" : Str) = ("kind" : Str)) = False) := by decide
@[simp] theorem ne_pace_belts : ((("pace" : Str) = ("belts" : Str)) = False) := by decide
@[simp] theorem ne_pace_knots : ((("pace" : Str) = ("knots" : Str)) = False) := by decide
@[simp] theorem ne_kinds_room : ((("kinds" : Str) = ("room" : Str)) = False) := by decide
@[simp] theorem ne_kinds_pace : ((("kinds" : Str) = ("pace" : Str)) = False) := by decide
@[simp] theorem ne_kinds_ins : ((("kinds" : Str) = ("ins" : Str)) = False) := by decide
@[simp] theorem ne_kinds_outs : ((("kinds" : Str) = ("outs" : Str)) = False) := by decide
@[simp] theorem ne_kinds_kind : ((("kinds" : Str) = ("kind" : Str)) = False) := by decide
@[simp] theorem ne_kinds_belts : ((("kinds" : Str) = ("belts" : Str)) = False) := by decide
@[simp] theorem ne_kinds_knots : ((("kinds" : Str) = ("knots" : Str)) = False) := by decide
@[simp] theorem ne_ins_room : ((("ins" : Str) = ("room" : Str)) = False) := by decide
@[simp] theorem ne_ins_pace : ((("ins" : Str) = ("pace" : Str)) = False) := by decide
@[simp] theorem ne_ins_kinds : ((("ins" : Str) = ("kinds" : Str)) = False) := by decide
@[simp] theorem ne_ins_outs : ((("ins" : Str) = ("outs" : Str)) = False) := by decide
@[simp] theorem ne_ins_kind : ((("ins" : Str) = ("kind" : Str)) = False) := by decide
@[simp] theorem ne_ins_belts : ((("ins" : Str) = ("belts" : Str)) = False) := by decide
@[simp] theorem ne_ins_knots : ((("ins" : Str) = ("knots" : Str)) = False) := by decide
@[simp] theorem ne_outs_room : ((("outs" : Str) = ("room" : Str)) = False) := by decide
@[simp] theorem ne_outs_pace : ((("outs" : Str) = ("pace" : Str)) = False) := by decide
@[simp] theorem ne_outs_kinds : ((("outs" : Str) = ("kinds" : Str)) = False) := by decide
@[simp] theorem ne_outs_ins : ((("outs" : Str) = ("ins" : Str)) = False) := by decide
@[simp] theorem ne_outs_kind : ((("outs" : Str) = ("kind" : Str)) = False) := by decide
@[simp] theorem ne_outs_belts : ((("outs" : Str) = ("belts" : Str)) = False) := by decide
@[simp] theorem ne_outs_knots : ((("outs" : Str) = ("knots" : Str)) = False) := by decide
@[simp] theorem ne_kind_room : ((("kind" : Str) = ("room" : Str)) = False) := by decide
@[simp] theorem ne_kind_pace : ((("kind" : Str) = ("pace" : Str)) = False) := by decide
@[simp] theorem ne_kind_kinds : ((("kind" : Str) = ("kinds" : Str)) = False) := by decide
@[simp] theorem ne_kind_ins : ((("kind" : Str) = ("ins" : Str)) = False) := by decide
@[simp] theorem ne_kind_outs : ((("kind" : Str) = ("outs" : Str)) = False) := by decide
@[simp] theorem ne_kind_belts : ((("kind" : Str) = ("belts" : Str)) = False) := by decide
@[simp] theorem ne_kind_knots : ((("kind" : Str) = ("knots" : Str)) = False) := by decide
@[simp] theorem ne_belts_room : ((("belts" : Str) = ("room" : Str)) = False) := by decide
@[simp] theorem ne_belts_pace : ((("belts" : Str) = ("pace" : Str)) = False) := by decide
@[simp] theorem ne_belts_kinds : ((("belts" : Str) = ("kinds" : Str)) = False) := by decide
@[simp] theorem ne_belts_ins : ((("belts" : Str) = ("ins" : Str)) = False) := by decide
@[simp] theorem ne_belts_outs : ((("belts" : Str) = ("outs" : Str)) = False) := by decide
@[simp] theorem ne_belts_kind : ((("belts" : Str) = ("kind" : Str)) = False) := by decide
@[simp] theorem ne_belts_knots : ((("belts" : Str) = ("knots" : Str)) = False) := by decide
@[simp] theorem ne_knots_room : ((("knots" : Str) = ("room" : Str)) = False) := by decide
@[simp] theorem ne_knots_pace : ((("knots" : Str) = ("pace" : Str)) = False) := by decide
@[simp] theorem ne_knots_kinds : ((("knots" : Str) = ("kinds" : Str)) = False) := by decide
@[simp] theorem ne_knots_ins : ((("knots" : Str) = ("ins" : Str)) = False) := by decide
@[simp] theorem ne_knots_outs : ((("knots" : Str) = ("outs" : Str)) = False) := by decide
@[simp] theorem ne_knots_kind : ((("knots" : Str) = ("kind" : Str)) = False) := by decide
@[simp] theorem ne_knots_belts : ((("knots" : Str) = ("belts" : Str)) = False) := by decide
/-! _law_fold -/
noncomputable def l1_law_fold : SF :=
    sSet 1 (eS (eOp modD (eO2 addV (eO2 mulV (eV 1) (eC (.int 48271))) (eOp modD (eV 2) (eC (.int 2147483647)))) (eC (.int 2147483629))))
noncomputable def b_law_fold : SF :=
    sSeq (sSet 1 (eS (eC (.int 1))))
    (sSeq (sFor (iX (eV 0)) (gN 2) l1_law_fold)
    (sRet (eV 1)))
noncomputable def f_law_fold : Fn := runF 3 b_law_fold
/-! _law_mix -/
noncomputable def b_law_mix : SF :=
    sSeq (sSet 2 (eS (eOp modD (eO2 mulV (eO2 addV (eO2 addV (eOp modD (eV 0) (eC (.int 2147483647))) (eC (.int 1))) (eO2 mulV (eO2 mulV (eC (.int 7919)) (eV 1)) (eV 1))) (eC (.int 48271))) (eC (.int 2147483629)))))
    (sRet (eOp modD (eO2 mulV (eV 2) (eV 2)) (eC (.int 998244353))))
noncomputable def f_law_mix : Fn := runF 3 b_law_mix
/-! _law_cell -/
noncomputable def b_law_cell : SF :=
    sSeq (sIf (tV (eOp ltD (eV 1) (eB1 lenV (eV 0)))) (sRet (eIx (eV 0) (eV 1))) (sNil))
    (sRet (eC (.int 0)))
noncomputable def f_law_cell : Fn := runF 2 b_law_cell
/-! _law_belt -/
noncomputable def b_law_belt : SF :=
    sSeq (sSet 2 (eS (eCall f_law_mix (aCons (eV 0) (aCons (eV 1) (aNil))))))
    (sSeq (sSet 3 (eS (eO2 addV (eC (.int 1)) (eOp modD (eV 2) (eC (.int 3))))))
    (sSeq (sIf (tV (eO2 eqV (eOp modD (eOp fdivD (eV 2) (eC (.int 3))) (eC (.int 5))) (eC (.int 0)))) (sSet 3 (eS (eO2 addV (eC (.int 1)) (eOp modD (eOp fdivD (eV 2) (eC (.int 15))) (eC (.int 6)))))) (sNil))
    (sSeq (sSet 4 (eS (eC (.int 1))))
    (sSeq (sIf (tV (eO2 eqV (eOp modD (eOp fdivD (eV 2) (eC (.int 90))) (eC (.int 2))) (eC (.int 0)))) (sSet 4 (eS (eO2 addV (eC (.int 1)) (eOp modD (eOp fdivD (eV 2) (eC (.int 180))) (eC (.int 4)))))) (sNil))
    (sRet (eTup (aCons (eV 3) (aCons (eV 4) (aNil)))))))))
noncomputable def f_law_belt : Fn := runF 5 b_law_belt
/-! _law_lanes -/
noncomputable def l1_law_lanes : SF :=
    sSeq (sMtP appL (pN 3) (eTup (aCons (eC (.str "source")) (aCons (eLst (aNil)) (aCons (eLst (aCons (eV 4) (aNil))) (aCons (eO2 addV (eC (.int 1)) (eOp modD (eV 4) (eC (.int 4)))) (aCons (eLst (aCons (eV 4) (aNil))) (aNil))))))))
  (sMtP appL (pN 3) (eTup (aCons (eC (.str "drain")) (aCons (eLst (aCons (eV 4) (aNil))) (aCons (eLst (aNil)) (aCons (eOp modD (eV 4) (eC (.int 5))) (aCons (eLst (aNil)) (aNil))))))))
noncomputable def b_law_lanes : SF :=
    sSeq (sSet 2 (eFit 1 (eLcK 0 (iA rng1 (aCons (eV 1) (aNil))) (gN 4) (tYesF) (eCall f_law_belt (aCons (eCall f_law_cell (aCons (eV 0) (aCons (eV 4) (aNil)))) (aCons (eV 4) (aNil)))) [4])))
    (sSeq (sSet 3 (eFit 1 (eLst (aNil))))
    (sSeq (sFor (iA rng1 (aCons (eV 1) (aNil))) (gN 4) l1_law_lanes)
    (sRetM (mTupO 1 [2, 3]))))
noncomputable def f_law_lanes : Fn := runF 5 b_law_lanes
/-! _law_comb -/
noncomputable def c1_law_comb : TF :=
    tV (eOp leD (eB1 lenV (eV 1)) (eV 3))
noncomputable def l1_law_comb : SF :=
    sMtP appL (pN 1) (eCall f_law_belt (aCons (eV 5) (aCons (eB1 lenV (eV 1)) (aNil))))
noncomputable def l2_law_comb : SF :=
    sSeq (sIf (tV (eO2 eqV (eB1 lenV (eV 1)) (eV 4))) (sBk) (sNil))
  (sSeq (sSet 6 (eS (eO2 addV (eC (.int 2)) (eOp modD (eCall f_law_mix (aCons (eV 5) (aCons (eC (.int 6)) (aNil)))) (eC (.int 3))))))
  (sSeq (sIf (tV (eChn leD leD (eC (.int 3)) (eOp subD (eV 4) (eB1 lenV (eV 1))) (eC (.int 5)))) (sSet 6 (eS (eOp subD (eOp subD (eV 4) (eB1 lenV (eV 1))) (eC (.int 1))))) (sNil))
  (sSeq (sSet 7 (eS (eLr (eO2 addV (eV 3) (eC (.int 1))) (eO2 addV (eO2 addV (eV 3) (eC (.int 1))) (eV 6)))))
  (sSeq (sMtP appL (pN 2) (eTup (aCons (eC (.str "parter")) (aCons (eLst (aCons (eV 3) (aNil))) (aCons (eV 7) (aCons (eC (.int 0)) (aCons (eLst (aNil)) (aNil))))))))
  (sSeq (sSet 3 (eS (eO2 addV (eIx (eV 7) (eUn negD (eC (.int 1)))) (eC (.int 1)))))
  (sSeq (sMtP appL (pN 2) (eTup (aCons (eC (.str "joiner")) (aCons (eV 7) (aCons (eLst (aCons (eV 3) (aNil))) (aCons (eC (.int 0)) (aCons (eLst (aNil)) (aNil))))))))
  (sWhile c1_law_comb l1_law_comb)))))))
noncomputable def b_law_comb : SF :=
    sSeq (sSet 1 (eFit 1 (eLst (aCons (eTup (aCons (eC (.int 1)) (aCons (eC (.int 1)) (aNil)))) (aNil)))))
    (sSeq (sSet 2 (eFit 1 (eLst (aCons (eTup (aCons (eC (.str "source")) (aCons (eLst (aNil)) (aCons (eLst (aCons (eC (.int 0)) (aNil))) (aCons (eC (.int 2)) (aCons (eLst (aCons (eC (.int 5)) (aCons (eC (.int 6)) (aNil)))) (aNil))))))) (aNil)))))
    (sSeq (sSet 3 (eS (eC (.int 0))))
    (sSeq (sSet 4 (eS (eO2 addV (eC (.int 24)) (eOp modD (eCall f_law_mix (aCons (eCall f_law_cell (aCons (eV 0) (aCons (eC (.int 1)) (aNil)))) (aCons (eC (.int 5)) (aNil)))) (eC (.int 2))))))
    (sSeq (sFor (iX (eCut (eV 0) (oSome (eC (.int 2))) (oSome (eC (.int 9))))) (gN 5) l2_law_comb)
    (sSeq (sMtP appL (pN 2) (eTup (aCons (eC (.str "drain")) (aCons (eLst (aCons (eV 3) (aNil))) (aCons (eLst (aNil)) (aCons (eC (.int 1)) (aCons (eLst (aNil)) (aNil))))))))
    (sRetM (mTupO 1 [1, 2])))))))
noncomputable def f_law_comb : Fn := runF 8 b_law_comb
/-! _law_kind -/
noncomputable def b_law_kind : SF :=
    sRet (eOp modD (eO2 mulV (eO2 addV (eO2 addV (eOp modD (eV 0) (eOp powD (eC (.int 10)) (eC (.int 30)))) (eC (.int 1))) (eV 1)) (eC (.int 618033988749894848204586834367))) (eOp powD (eC (.int 10)) (eC (.int 30))))
noncomputable def f_law_kind : Fn := runF 2 b_law_kind
/-! _law_row -/
noncomputable def b_law_row : SF :=
    sSeq (sSet 5 (eS (eC (.int 1))))
    (sSeq (sIf (tV (eO2 eqV (eOp modD (eOp fdivD (eV 0) (eC (.int 7))) (eC (.int 2))) (eC (.int 0)))) (sSet 5 (eS (eO2 addV (eC (.int 1)) (eOp modD (eOp fdivD (eV 0) (eC (.int 14))) (eC (.int 4)))))) (sNil))
    (sSeq (sIf (tAndF (tV (eO2 eqV (eV 1) (eC (.str "drain")))) (tV (eO2 eqV (eOp modD (eOp fdivD (eV 0) (eC (.int 56))) (eC (.int 5))) (eC (.int 0))))) (sSet 5 (eS (eC (.int 0)))) (sNil))
    (sSeq (sSet 6 (eS (eLst (aNil))))
    (sSeq (sIf (tV (eO2 eqV (eV 1) (eC (.str "source")))) (sSet 6 (eS (eLcK 0 (iA rng1 (aCons (eO2 addV (eC (.int 1)) (eOp modD (eOp fdivD (eV 0) (eC (.int 3))) (eC (.int 6)))) (aNil))) (gN 7) (tYesF) (eIx (eV 4) (eOp modD (eOp fdivD (eV 0) (eO2 addV (eC (.int 9)) (eV 7))) (eC (.int 4)))) [7]))) (sNil))
    (sSeq (sIf (tV (eO2 eqV (eV 1) (eC (.str "sieve")))) (sSet 6 (eS (eLst (aCons (eIx (eV 4) (eOp modD (eOp fdivD (eV 0) (eC (.int 11))) (eC (.int 4)))) (aNil))))) (sNil))
    (sRet (eTup (aCons (eV 1) (aCons (eV 2) (aCons (eV 3) (aCons (eV 5) (aCons (eV 6) (aNil)))))))))))))
noncomputable def f_law_row : Fn := runF 8 b_law_row
/-! _law_word -/
noncomputable def b_law_word : SF :=
    sSeq (sSet 2 (eS (eIx (eLst (aCons (eC (.str "parter")) (aCons (eC (.str "joiner")) (aCons (eC (.str "first")) (aCons (eC (.str "sieve")) (aCons (eC (.str "parter")) (aCons (eC (.str "joiner")) (aCons (eC (.str "drain")) (aCons (eC (.str "joiner")) (aNil)))))))))) (eOp modD (eV 0) (eC (.int 8))))))
    (sSeq (sIf (tAndF (tV (eO2 eqV (eV 2) (eC (.str "joiner")))) (tV (eOp ltD (eB1 lenV (eV 1)) (eC (.int 2))))) (sRet (eC (.str "parter"))) (sNil))
    (sRet (eV 2)))
noncomputable def f_law_word : Fn := runF 3 b_law_word
/-! _law_outs -/
noncomputable def l1_law_outs : SF :=
    sIf (tAndF (tV (eOp gtD (eB1 lenV (eV 3)) (eC (.int 0)))) (tV (eO2 eqV (eOp modD (eOp fdivD (eV 0) (eO2 addV (eV 6) (eC (.int 2)))) (eC (.int 3))) (eC (.int 0))))) (sMtM 5 appL (mPop (pN 3))) (sSeq (sMtP appL (pN 5) (eB1 lenV (eV 4)))
    (sSeq (sMtP appL (pN 2) (eB1 lenV (eV 4)))
    (sMtP appL (pN 4) (eCall f_law_belt (aCons (eV 0) (aCons (eV 6) (aNil)))))))
noncomputable def b_law_outs : SF :=
    sSeq (sSet 5 (eFit 1 (eLst (aNil))))
    (sSeq (sFor (iA rng1 (aCons (eV 1) (aNil))) (gN 6) l1_law_outs)
    (sSeq (sFz 5 (sIf (tV (eO2 eqV (eOp modD (eOp fdivD (eV 0) (eC (.int 29))) (eC (.int 2))) (eC (.int 0)))) (sRet (eB1 rvV (eV 5))) (sNil)))
    (sRet (eV 5))))
noncomputable def f_law_outs : FnM := runM 7 5 [2, 3, 4] b_law_outs
/-! _law_web -/
noncomputable def l1_law_web : SF :=
    sSeq (sMtP appL (pN 6) (eV 9))
  (sSeq (sMtP appL (pN 4) (eCall f_law_belt (aCons (eCall f_law_mix (aCons (eV 2) (aCons (eC (.int 3)) (aNil)))) (aCons (eV 9) (aNil)))))
  (sIf (tV (eOp ltD (eV 9) (eV 8))) (sMtP appL (pN 5) (eCall f_law_row (aCons (eCall f_law_mix (aCons (eV 2) (aCons (eO2 addV (eC (.int 20)) (eV 9)) (aNil)))) (aCons (eC (.str "source")) (aCons (eLst (aNil)) (aCons (eLst (aCons (eV 9) (aNil))) (aCons (eV 3) (aNil)))))))) (sMtP appL (pN 7) (eV 9))))
noncomputable def c2_law_web : TF :=
    tAndF (tV (eOp inX (eOp modD (eV 13) (eC (.int 8))) (eTup (aCons (eC (.int 1)) (aCons (eC (.int 5)) (aCons (eC (.int 7)) (aNil))))))) (tAndF (tV (eOp gtD (eB1 lenV (eV 6)) (eC (.int 0)))) (tV (eOp ltD (eB1 lenV (eV 15)) (eV 14))))
noncomputable def l2_law_web : SF :=
    sMtM 15 appL (mPopI (pN 6) (eOp modD (eOp fdivD (eV 13) (eC (.int 19))) (eB1 lenV (eV 6))))
noncomputable def l3_law_web : SF :=
    sSeq (sIf (tOrF (tV (eO2 eqV (eB1 lenV (eV 6)) (eC (.int 0)))) (tOrF (tV (eOp gtD (eO2 addV (eB1 lenV (eV 4)) (eC (.int 4))) (eV 1))) (tV (eOp gtD (eO2 addV (eO2 addV (eB1 lenV (eV 5)) (eB1 lenV (eV 6))) (eB1 lenV (eV 7))) (eC (.int 20)))))) (sBk) (sNil))
  (sSeq (sSet 13 (eS (eCall f_law_mix (aCons (eV 10) (aCons (eC (.int 4)) (aNil))))))
  (sSeq (sSet 14 (eS (eO2 addV (eC (.int 2)) (eOp modD (eOp fdivD (eV 13) (eC (.int 17))) (eC (.int 3))))))
  (sSeq (sSetM 15 (mLst (msCons (mPopI (pN 6) (eOp modD (eOp fdivD (eV 13) (eC (.int 8))) (eB1 lenV (eV 6)))) (msNil))))
  (sSeq (sWhile c2_law_web l2_law_web)
  (sSeq (sFz 15 (sSet 16 (eS (eCall f_law_word (aCons (eV 13) (aCons (eV 15) (aNil)))))))
  (sSeq (sIf (tV (eO2 eqV (eV 16) (eC (.str "sieve")))) (sSet 14 (eS (eC (.int 2)))) (sNil))
  (sSeq (sIf (tOrF (tV (eO2 eqV (eV 16) (eC (.str "joiner")))) (tV (eO2 eqV (eV 16) (eC (.str "drain"))))) (sSet 14 (eS (eB1 intV (eO2 eqV (eV 16) (eC (.str "joiner")))))) (sNil))
  (sMtM 5 appL (mCallF f_law_row (msCons (mP (eV 13)) (msCons (mP (eV 16)) (msCons (mP (eV 15)) (msCons (mCall f_law_outs [none, none, some 6, some 7, some 4] (amCons (eV 13) (amCons (eV 14) (amOwn 6 (amOwn 7 (amOwn 4 (amNil))))))) (msCons (mP (eV 3)) (msNil)))))))))))))))
noncomputable def l4_law_web : SF :=
    sMtP appL (pN 5) (eCall f_law_row (aCons (eCall f_law_mix (aCons (eV 2) (aCons (eO2 addV (eC (.int 40)) (eV 11)) (aNil)))) (aCons (eC (.str "drain")) (aCons (eLst (aCons (eV 11) (aNil))) (aCons (eLst (aNil)) (aCons (eV 3) (aNil)))))))
noncomputable def l5_law_web : SF :=
    sMtP appL (pN 5) (eCall f_law_row (aCons (eCall f_law_mix (aCons (eV 2) (aCons (eO2 addV (eC (.int 70)) (eV 12)) (aNil)))) (aCons (eC (.str "source")) (aCons (eLst (aNil)) (aCons (eLst (aCons (eV 12) (aNil))) (aCons (eV 3) (aNil)))))))
noncomputable def b_law_web : SF :=
    sSeq (sSet 2 (eS (eCall f_law_cell (aCons (eV 0) (aCons (eC (.int 0)) (aNil))))))
    (sSeq (sSet 3 (eS (eLcK 0 (iA rng1 (aCons (eC (.int 4)) (aNil))) (gN 9) (tYesF) (eCall f_law_kind (aCons (eCall f_law_cell (aCons (eV 0) (aCons (eV 9) (aNil)))) (aCons (eV 9) (aNil)))) [9])))
    (sSeq (sSet 4 (eFit 1 (eLst (aNil))))
    (sSeq (sSet 5 (eFit 1 (eLst (aNil))))
    (sSeq (sSet 6 (eFit 1 (eLst (aNil))))
    (sSeq (sSet 7 (eFit 1 (eLst (aNil))))
    (sSeq (sSet 8 (eS (eOp modD (eCall f_law_mix (aCons (eV 2) (aCons (eC (.int 1)) (aNil)))) (eC (.int 4)))))
    (sSeq (sFor (iA rng1 (aCons (eCall max2 (aCons (eC (.int 1)) (aCons (eO2 addV (eV 8) (eOp modD (eCall f_law_mix (aCons (eV 2) (aCons (eC (.int 2)) (aNil)))) (eC (.int 3)))) (aNil)))) (aNil))) (gN 9) l1_law_web)
    (sSeq (sFor (iX (eCut (eV 0) (oSome (eC (.int 1))) (oSome (eC (.int 25))))) (gN 10) l3_law_web)
    (sSeq (sFz 6 (sFor (iX (eV 6)) (gN 11) l4_law_web))
    (sSeq (sFz 7 (sFor (iX (eV 7)) (gN 12) l5_law_web))
    (sRetM (mTupO 1 [4, 5]))))))))))))
noncomputable def f_law_web : Fn := runF 17 b_law_web
/-! _law_parts -/
noncomputable def b_law_parts : SF :=
    sSeq (sSet 1 (eS (eOp modD (eCall f_law_mix (aCons (eCall f_law_cell (aCons (eV 0) (aCons (eC (.int 0)) (aNil)))) (aCons (eC (.int 8)) (aNil)))) (eC (.int 4)))))
    (sSeq (sIf (tV (eO2 eqV (eV 1) (eC (.int 0)))) (sSeq (sSet 2 (eS (eO2 addV (eC (.int 1)) (eOp modD (eCall f_law_mix (aCons (eCall f_law_cell (aCons (eV 0) (aCons (eC (.int 1)) (aNil)))) (aCons (eC (.int 9)) (aNil)))) (eC (.int 28))))))
      (sSeq (sIf (tV (eOp gtD (eV 2) (eC (.int 14)))) (sSet 2 (eS (eO2 addV (eC (.int 11)) (eOp modD (eV 2) (eC (.int 4)))))) (sNil))
      (sRet (eCall f_law_lanes (aCons (eV 0) (aCons (eV 2) (aNil))))))) (sNil))
    (sSeq (sIf (tV (eO2 eqV (eV 1) (eC (.int 1)))) (sRet (eCall f_law_comb (aCons (eV 0) (aNil)))) (sNil))
    (sRet (eCall f_law_web (aCons (eV 0) (aCons (eC (.int 24)) (aNil)))))))
noncomputable def f_law_parts : Fn := runF 3 b_law_parts
/-! _law_dealt -/
noncomputable def l1_law_dealt : SF :=
    sSeq (sSet 5 (eS (eB1 lenV (eV 2))))
  (sSeq (sIf (tV (eO2 eqV (eOp modD (eOp fdivD (eV 1) (eC (.int 16))) (eC (.int 2))) (eC (.int 0)))) (sSet 5 (eS (eOp modD (eCall f_law_mix (aCons (eV 1) (aCons (eO2 addV (eC (.int 100)) (eV 3)) (aNil)))) (eO2 addV (eB1 lenV (eV 2)) (eC (.int 1)))))) (sNil))
  (sIns (pN 2) (eV 5) (eV 4)))
noncomputable def b_law_dealt : SF :=
    sSeq (sSet 2 (eFit 1 (eLst (aNil))))
    (sSeq (sFor (iA enum1 (aCons (eV 0) (aNil))) (gT 2 (gsC (gN 3) (gsC (gN 4) (gsN)))) l1_law_dealt)
    (sRetM (mMv 2)))
noncomputable def f_law_dealt : Fn := runF 6 b_law_dealt
/-! _law_spoilt -/
noncomputable def b_law_spoilt : SF :=
    sSeq (sSet 4 (eS (eOp modD (eV 2) (eC (.int 14)))))
    (sSeq (sSet 5 (eS (eOp modD (eOp fdivD (eV 2) (eC (.int 14))) (eB1 lenV (eV 1)))))
    (sSeq (sIf (tV (eO2 eqV (eV 4) (eC (.int 0)))) (sMtP appL (pN 0) (eTup (aCons (eC (.int 2)) (aCons (eC (.int 3)) (aNil))))) (sNil))
    (sSeq (sIf (tV (eO2 eqV (eV 4) (eC (.int 1)))) (sExM (mPop (pN 0))) (sNil))
    (sSeq (sIf (tV (eO2 eqV (eV 4) (eC (.int 2)))) (sExM (mPopI (pN 1) (eV 5))) (sNil))
    (sSeq (sIf (tV (eO2 eqV (eV 4) (eC (.int 3)))) (sMt0P clrL (pN 0)) (sNil))
    (sSeq (sIf (tV (eO2 eqV (eV 4) (eC (.int 4)))) (sMt0P clrL (pN 1)) (sNil))
    (sIf (tV (eOp inX (eV 4) (eTup (aCons (eC (.int 5)) (aCons (eC (.int 6)) (aCons (eC (.int 7)) (aNil))))))) (sSeq (sSet 6 (eS (eIx (eLst (aCons (eOp modD (eOp fdivD (eV 2) (eC (.int 200))) (eB1 lenV (eV 0))) (aCons (eUn negD (eC (.int 1))) (aCons (eB1 lenV (eV 0)) (aCons (eO2 addV (eB1 lenV (eV 0)) (eV 3)) (aCons (eOp subD (eUn negD (eC (.int 1))) (eV 3)) (aCons (eC (.int 0)) (aNil)))))))) (eOp modD (eOp fdivD (eV 2) (eC (.int 900))) (eC (.int 6))))))
      (sSeq (sSet 7 (eFit 1 (eB1 listV (eIx (eIx (eV 1) (eV 5)) (eC (.int 1))))))
      (sSeq (sSet 8 (eFit 1 (eB1 listV (eIx (eIx (eV 1) (eV 5)) (eC (.int 2))))))
      (sSeq (sAlias 7 8 9 (tOrF (tV (eO2 eqV (eB1 lenV (eV 8)) (eC (.int 0)))) (tAndF (tV (eOp gtD (eB1 lenV (eV 7)) (eC (.int 0)))) (tV (eO2 eqV (eOp modD (eOp fdivD (eV 2) (eC (.int 5))) (eC (.int 2))) (eC (.int 0)))))) (sStP 0 (pN 9) (eOp modD (eOp fdivD (eV 2) (eC (.int 7))) (eB1 lenV (eV 9))) (eV 6)))
      (sFz 8 (sFz 7 (sStP 0 (pN 1) (eV 5) (eTup (aCons (eIx (eIx (eV 1) (eV 5)) (eC (.int 0))) (aCons (eV 7) (aCons (eV 8) (aCons (eIx (eIx (eV 1) (eV 5)) (eC (.int 3))) (aCons (eIx (eIx (eV 1) (eV 5)) (eC (.int 4))) (aNil)))))))))))))) (sNil))))))))
noncomputable def f_law_spoilt : FnM := runM 10 4 [0, 1] b_law_spoilt
/-! Belt.__init__ -/
noncomputable def b_Belt_init : SF :=
    sSeq (sIf (tOrF (tV (eOp ltD (eV 1) (eC (.int 1)))) (tV (eOp gtD (eV 1) (eC (.int 6))))) (sRaise "BadBelt") (sNil))
    (sSeq (sIf (tOrF (tV (eOp ltD (eV 2) (eC (.int 1)))) (tV (eOp gtD (eV 2) (eC (.int 4))))) (sRaise "BadBelt") (sNil))
    (sSeq (sFldS 0 osA "room" (eV 1))
    (sFldS 0 osA "pace" (eV 2))))
noncomputable def f_Belt_init : FnM := runM 3 3 [0] b_Belt_init
/-! is_kind -/
noncomputable def b_is_kind : SF :=
    sRet (eChn leD ltD (eC (.int 0)) (eV 0) (eOp powD (eC (.int 10)) (eC (.int 30))))
noncomputable def f_is_kind : Fn := runF 1 b_is_kind
/-! Knot.__init__ -/
noncomputable def b_Knot_init : SF :=
    sSeq (sFldS 0 osA "ins" (eB1 listV (eV 1)))
    (sFldS 0 osA "outs" (eB1 listV (eV 2)))
noncomputable def f_Knot_init : FnM := runM 3 3 [0] b_Knot_init
/-! Source.__init__ -/
noncomputable def l1_Source_init : SF :=
    sIf (tNotF (tV (eCall f_is_kind (aCons (eV 4) (aNil))))) (sRaise "BadKnot") (sNil)
noncomputable def b_Source_init : SF :=
    sSeq (sIf (tOrF (tV (eOp ltD (eV 2) (eC (.int 1)))) (tV (eOp gtD (eV 2) (eC (.int 4))))) (sRaise "BadKnot") (sNil))
    (sSeq (sIf (tOrF (tV (eOp ltD (eB1 lenV (eV 3)) (eC (.int 1)))) (tV (eOp gtD (eB1 lenV (eV 3)) (eC (.int 6))))) (sRaise "BadKnot") (sNil))
    (sSeq (sFor (iX (eV 3)) (gN 4) l1_Source_init)
    (sSeq (sExM (mCall f_Knot_init [some 0, none, none] (amOwn 0 (amCons (eLst (aNil)) (amCons (eLst (aCons (eV 1) (aNil))) (amNil))))))
    (sSeq (sFldS 0 osA "pace" (eV 2))
    (sFldS 0 osA "kinds" (eB1 listV (eV 3)))))))
noncomputable def f_Source_init : FnM := runM 5 4 [0] b_Source_init
/-! Drain.__init__ -/
noncomputable def b_Drain_init : SF :=
    sSeq (sIf (tOrF (tV (eOp ltD (eV 2) (eC (.int 0)))) (tV (eOp gtD (eV 2) (eC (.int 4))))) (sRaise "BadKnot") (sNil))
    (sSeq (sExM (mCall f_Knot_init [some 0, none, none] (amOwn 0 (amCons (eLst (aCons (eV 1) (aNil))) (amCons (eLst (aNil)) (amNil))))))
    (sFldS 0 osA "pace" (eV 2)))
noncomputable def f_Drain_init : FnM := runM 3 3 [0] b_Drain_init
/-! Parter.__init__ -/
noncomputable def b_Parter_init : SF :=
    sSeq (sIf (tOrF (tV (eOp ltD (eB1 lenV (eV 2)) (eC (.int 2)))) (tV (eOp gtD (eB1 lenV (eV 2)) (eC (.int 4))))) (sRaise "BadKnot") (sNil))
    (sExM (mCall f_Knot_init [some 0, none, none] (amOwn 0 (amCons (eLst (aCons (eV 1) (aNil))) (amCons (eV 2) (amNil))))))
noncomputable def f_Parter_init : FnM := runM 3 3 [0] b_Parter_init
/-! FirstParter.__init__ -/
noncomputable def b_FirstParter_init : SF :=
    sSeq (sIf (tOrF (tV (eOp ltD (eB1 lenV (eV 2)) (eC (.int 2)))) (tV (eOp gtD (eB1 lenV (eV 2)) (eC (.int 4))))) (sRaise "BadKnot") (sNil))
    (sExM (mCall f_Knot_init [some 0, none, none] (amOwn 0 (amCons (eLst (aCons (eV 1) (aNil))) (amCons (eV 2) (amNil))))))
noncomputable def f_FirstParter_init : FnM := runM 3 3 [0] b_FirstParter_init
/-! Sieve.__init__ -/
noncomputable def b_Sieve_init : SF :=
    sSeq (sIf (tV (eO2 neV (eB1 lenV (eV 2)) (eC (.int 2)))) (sRaise "BadKnot") (sNil))
    (sSeq (sIf (tNotF (tV (eCall f_is_kind (aCons (eV 3) (aNil))))) (sRaise "BadKnot") (sNil))
    (sSeq (sExM (mCall f_Knot_init [some 0, none, none] (amOwn 0 (amCons (eLst (aCons (eV 1) (aNil))) (amCons (eV 2) (amNil))))))
    (sFldS 0 osA "kind" (eV 3))))
noncomputable def f_Sieve_init : FnM := runM 4 4 [0] b_Sieve_init
/-! Joiner.__init__ -/
noncomputable def b_Joiner_init : SF :=
    sSeq (sIf (tOrF (tV (eOp ltD (eB1 lenV (eV 1)) (eC (.int 2)))) (tV (eOp gtD (eB1 lenV (eV 1)) (eC (.int 4))))) (sRaise "BadKnot") (sNil))
    (sExM (mCall f_Knot_init [some 0, none, none] (amOwn 0 (amCons (eV 1) (amCons (eLst (aCons (eV 2) (aNil))) (amNil))))))
noncomputable def f_Joiner_init : FnM := runM 3 3 [0] b_Joiner_init
/-! _law_make -/
noncomputable def b_law_make : SF :=
    sSeq (sIf (tV (eO2 eqV (eIx (eV 0) (eC (.int 0))) (eC (.str "source")))) (sRet (eNew "Source" f_Source_init (aCons (eIx (eIx (eV 0) (eC (.int 2))) (eC (.int 0))) (aCons (eIx (eV 0) (eC (.int 3))) (aCons (eB1 listV (eIx (eV 0) (eC (.int 4)))) (aNil)))))) (sNil))
    (sSeq (sIf (tV (eO2 eqV (eIx (eV 0) (eC (.int 0))) (eC (.str "drain")))) (sRet (eNew "Drain" f_Drain_init (aCons (eIx (eIx (eV 0) (eC (.int 1))) (eC (.int 0))) (aCons (eIx (eV 0) (eC (.int 3))) (aNil))))) (sNil))
    (sSeq (sIf (tV (eO2 eqV (eIx (eV 0) (eC (.int 0))) (eC (.str "parter")))) (sRet (eNew "Parter" f_Parter_init (aCons (eIx (eIx (eV 0) (eC (.int 1))) (eC (.int 0))) (aCons (eB1 listV (eIx (eV 0) (eC (.int 2)))) (aNil))))) (sNil))
    (sSeq (sIf (tV (eO2 eqV (eIx (eV 0) (eC (.int 0))) (eC (.str "first")))) (sRet (eNew "FirstParter" f_FirstParter_init (aCons (eIx (eIx (eV 0) (eC (.int 1))) (eC (.int 0))) (aCons (eB1 listV (eIx (eV 0) (eC (.int 2)))) (aNil))))) (sNil))
    (sSeq (sIf (tV (eO2 eqV (eIx (eV 0) (eC (.int 0))) (eC (.str "sieve")))) (sRet (eNew "Sieve" f_Sieve_init (aCons (eIx (eIx (eV 0) (eC (.int 1))) (eC (.int 0))) (aCons (eB1 listV (eIx (eV 0) (eC (.int 2)))) (aCons (eIx (eIx (eV 0) (eC (.int 4))) (eC (.int 0))) (aNil)))))) (sNil))
    (sRet (eNew "Joiner" f_Joiner_init (aCons (eB1 listV (eIx (eV 0) (eC (.int 1)))) (aCons (eIx (eIx (eV 0) (eC (.int 2))) (eC (.int 0))) (aNil)))))))))
noncomputable def f_law_make : Fn := runF 1 b_law_make
/-! stand_once -/
noncomputable def l1_stand_once : SF :=
    sMtP extL (pN 2) (eV 3)
noncomputable def b_stand_once : SF :=
    sSeq (sSet 2 (eFit 1 (eLst (aNil))))
    (sSeq (sFor (iX (eV 0)) (gN 3) l1_stand_once)
    (sFz 2 (sRet (eO2 eqV (eCall srt1 (aCons (eV 2) (aNil))) (eLr (eC (.int 0)) (eV 1))))))
noncomputable def f_stand_once : Fn := runF 4 b_stand_once
/-! Work.__init__ -/
noncomputable def b_Work_init : SF :=
    sSeq (sIf (tOrF (tV (eOp ltD (eB1 lenV (eV 1)) (eC (.int 1)))) (tV (eOp gtD (eB1 lenV (eV 1)) (eC (.int 24))))) (sRaise "BadWork") (sNil))
    (sSeq (sIf (tOrF (tV (eOp ltD (eB1 lenV (eV 2)) (eC (.int 1)))) (tV (eOp gtD (eB1 lenV (eV 2)) (eC (.int 24))))) (sRaise "BadWork") (sNil))
    (sSeq (sIf (tNotF (tV (eCall f_stand_once (aCons (eLcK 0 (iO (eV 2)) (gN 3) (tYesF) (eFld osA "outs" (eV 3)) [3]) (aCons (eB1 lenV (eV 1)) (aNil)))))) (sRaise "BadWork") (sNil))
    (sSeq (sIf (tNotF (tV (eCall f_stand_once (aCons (eLcK 0 (iO (eV 2)) (gN 3) (tYesF) (eFld osA "ins" (eV 3)) [3]) (aCons (eB1 lenV (eV 1)) (aNil)))))) (sRaise "BadWork") (sNil))
    (sSeq (sFldS 0 osA "belts" (eB1 listV (eV 1)))
    (sFldS 0 osA "knots" (eB1 listV (eV 2)))))))
noncomputable def f_Work_init : FnM := runM 4 3 [0, 1, 2] b_Work_init
/-! _law_once -/
noncomputable def l1_law_once : SF :=
    sSeq (sIf (tOrF (tV (eOp ltD (eV 4) (eC (.int 0)))) (tV (eOp geD (eV 4) (eV 1)))) (sRet (eC (.bl false))) (sNil))
  (sAgP (pN 2) (eV 4) (eC (.int 1)))
noncomputable def l2_law_once : SF :=
    sFor (iX (eV 3)) (gN 4) l1_law_once
noncomputable def b_law_once : SF :=
    sSeq (sSet 2 (eFit 1 (eO2 mulV (eLst (aCons (eC (.int 0)) (aNil))) (eV 1))))
    (sSeq (sFor (iX (eV 0)) (gN 3) l2_law_once)
    (sFz 2 (sRet (eO2 eqV (eV 2) (eO2 mulV (eLst (aCons (eC (.int 1)) (aNil))) (eV 1))))))
noncomputable def f_law_once : Fn := runF 5 b_law_once
/-! _law_good -/
noncomputable def b_law_good : SF :=
    sSeq (sIf (tOrF (tNotF (tV (eChn leD leD (eC (.int 1)) (eB1 lenV (eV 0)) (eC (.int 24))))) (tNotF (tV (eChn leD leD (eC (.int 1)) (eB1 lenV (eV 1)) (eC (.int 24)))))) (sRet (eC (.bl false))) (sNil))
    (sSeq (sIf (tNotF (tV (eCall f_law_once (aCons (eLcK 0 (iX (eV 1)) (gN 2) (tYesF) (eIx (eV 2) (eC (.int 1))) [2]) (aCons (eB1 lenV (eV 0)) (aNil)))))) (sRet (eC (.bl false))) (sNil))
    (sRet (eCall f_law_once (aCons (eLcK 0 (iX (eV 1)) (gN 2) (tYesF) (eIx (eV 2) (eC (.int 2))) [2]) (aCons (eB1 lenV (eV 0)) (aNil))))))
noncomputable def f_law_good : Fn := runF 3 b_law_good
/-! _law_whole -/
noncomputable def b_law_whole : SF :=
    sRet (eAnd (eB1 (isiV "int") (eV 0)) (eNot (eB1 (isiV "bool") (eV 0))))
noncomputable def f_law_whole : Fn := runF 1 b_law_whole
/-! _law_belt_is -/
noncomputable def b_law_belt_is : SF :=
    sSeq (sIf (tOrF (tNotF (tV (eIs osA esA y_Belt (eV 0)))) (tOrF (tNotF (tV (eCall f_law_whole (aCons (eFld osA "room" (eV 0)) (aNil))))) (tNotF (tV (eCall f_law_whole (aCons (eFld osA "pace" (eV 0)) (aNil))))))) (sRet (eC (.bl false))) (sNil))
    (sRet (eO2 eqV (eTup (aCons (eFld osA "room" (eV 0)) (aCons (eFld osA "pace" (eV 0)) (aNil)))) (eV 1)))
noncomputable def f_law_belt_is : Fn := runF 2 b_law_belt_is
/-! _law_numbers_are -/
noncomputable def l1_law_numbers_are : SF :=
    sIf (tOrF (tNotF (tV (eCall f_law_whole (aCons (eV 2) (aNil))))) (tV (eO2 neV (eV 2) (eV 3)))) (sRet (eC (.bl false))) (sNil)
noncomputable def b_law_numbers_are : SF :=
    sSeq (sIf (tOrF (tNotF (tV (eB1 (isiV "list") (eV 0)))) (tV (eO2 neV (eB1 lenV (eV 0)) (eB1 lenV (eV 1))))) (sRet (eC (.bl false))) (sNil))
    (sSeq (sFor (iA zip2 (aCons (eV 0) (aCons (eV 1) (aNil)))) (gT 2 (gsC (gN 2) (gsC (gN 3) (gsN)))) l1_law_numbers_are)
    (sRet (eC (.bl true))))
noncomputable def f_law_numbers_are : Fn := runF 4 b_law_numbers_are
/-! _law_knot_is -/
noncomputable def b_law_knot_is : SF :=
    sSeq (sIf (tOrF (tNotF (tV (eCall f_law_numbers_are (aCons (eFld osA "ins" (eV 0)) (aCons (eIx (eV 1) (eC (.int 1))) (aNil)))))) (tNotF (tV (eCall f_law_numbers_are (aCons (eFld osA "outs" (eV 0)) (aCons (eIx (eV 1) (eC (.int 2))) (aNil))))))) (sRet (eC (.bl false))) (sNil))
    (sSeq (sIf (tV (eO2 eqV (eIx (eV 1) (eC (.int 0))) (eC (.str "source")))) (sRet (eAnd (eIs osA esA y_Source (eV 0)) (eCall f_law_numbers_are (aCons (eO2 addV (eLst (aCons (eFld osA "pace" (eV 0)) (aNil))) (eFld osA "kinds" (eV 0))) (aCons (eO2 addV (eLst (aCons (eIx (eV 1) (eC (.int 3))) (aNil))) (eIx (eV 1) (eC (.int 4)))) (aNil)))))) (sNil))
    (sSeq (sIf (tV (eO2 eqV (eIx (eV 1) (eC (.int 0))) (eC (.str "drain")))) (sRet (eAnd (eIs osA esA y_Drain (eV 0)) (eCall f_law_numbers_are (aCons (eLst (aCons (eFld osA "pace" (eV 0)) (aNil))) (aCons (eLst (aCons (eIx (eV 1) (eC (.int 3))) (aNil))) (aNil)))))) (sNil))
    (sSeq (sIf (tV (eO2 eqV (eIx (eV 1) (eC (.int 0))) (eC (.str "parter")))) (sRet (eIs osA esA y_Parter (eV 0))) (sNil))
    (sSeq (sIf (tV (eO2 eqV (eIx (eV 1) (eC (.int 0))) (eC (.str "first")))) (sRet (eIs osA esA y_FirstParter (eV 0))) (sNil))
    (sSeq (sIf (tV (eO2 eqV (eIx (eV 1) (eC (.int 0))) (eC (.str "sieve")))) (sRet (eAnd (eIs osA esA y_Sieve (eV 0)) (eCall f_law_numbers_are (aCons (eLst (aCons (eFld osA "kind" (eV 0)) (aNil))) (aCons (eIx (eV 1) (eC (.int 4))) (aNil)))))) (sNil))
    (sRet (eIs osA esA y_Joiner (eV 0))))))))
noncomputable def f_law_knot_is : Fn := runF 2 b_law_knot_is
/-! _law_work_is -/
noncomputable def l1_law_work_is : SF :=
    sIf (tNotF (tV (eCall f_law_belt_is (aCons (eV 3) (aCons (eV 4) (aNil)))))) (sRet (eC (.bl false))) (sNil)
noncomputable def l2_law_work_is : SF :=
    sIf (tNotF (tV (eCall f_law_knot_is (aCons (eV 5) (aCons (eV 6) (aNil)))))) (sRet (eC (.bl false))) (sNil)
noncomputable def b_law_work_is : SF :=
    sSeq (sIf (tOrF (tNotF (tV (eIs osA esA y_Work (eV 0)))) (tOrF (tNotF (tV (eB1 (isiV "list") (eFld osA "belts" (eV 0))))) (tNotF (tV (eB1 (isiV "list") (eFld osA "knots" (eV 0))))))) (sRet (eC (.bl false))) (sNil))
    (sSeq (sIf (tOrF (tV (eO2 neV (eB1 lenV (eFld osA "belts" (eV 0))) (eB1 lenV (eV 1)))) (tV (eO2 neV (eB1 lenV (eFld osA "knots" (eV 0))) (eB1 lenV (eV 2))))) (sRet (eC (.bl false))) (sNil))
    (sSeq (sFor (iA zip2 (aCons (eFld osA "belts" (eV 0)) (aCons (eV 1) (aNil)))) (gT 2 (gsC (gN 3) (gsC (gN 4) (gsN)))) l1_law_work_is)
    (sSeq (sFor (iA zip2 (aCons (eFld osA "knots" (eV 0)) (aCons (eV 2) (aNil)))) (gT 2 (gsC (gN 5) (gsC (gN 6) (gsN)))) l2_law_work_is)
    (sRet (eC (.bl true))))))
noncomputable def f_law_work_is : Fn := runF 7 b_law_work_is
/-! law -/
noncomputable def t1_law : SF :=
    sSetM 5 (mNew 0 "Work" f_Work_init [some 3, some 4] (amOwn 3 (amOwn 4 (amNil))))
noncomputable def u1_law : SF :=
    sSet 6 (eS (eAnd (eIs osA esA y_BadWork (eV 7)) (eAnd (eIs osA esA y_ValueError (eV 7)) (eNot (eIs osA esA y_all_but_BadWork (eV 7))))))
noncomputable def b_law : SF :=
    sSeq (sSet 1 (eS (eCall f_law_fold (aCons (eV 0) (aNil)))))
    (sSeq (sAsgK 1 [8, 2] (eCall f_law_parts (aCons (eV 0) (aNil))))
    (sSeq (sFz 2 (sSet 2 (eFit 1 (eCall f_law_dealt (aCons (eV 2) (aCons (eV 1) (aNil)))))))
    (sSeq (sExM (mCall f_law_spoilt [some 8, some 2, none, none] (amOwn 8 (amOwn 2 (amCons (eCall f_law_mix (aCons (eV 1) (aCons (eC (.int 3)) (aNil)))) (amCons (eOp modD (eCall f_law_cell (aCons (eV 0) (aCons (eC (.int 2)) (aNil)))) (eOp powD (eC (.int 10)) (eC (.int 30)))) (amNil)))))))
    (sSeq (sFz 8 (sSet 3 (eFit 1 (eLcK 0 (iX (eV 8)) (gT 2 (gsC (gN 10) (gsC (gN 11) (gsN)))) (tYesF) (eNew "Belt" f_Belt_init (aCons (eV 10) (aCons (eV 11) (aNil)))) [10, 11]))))
    (sSeq (sFz 2 (sSet 4 (eFit 1 (eLcK 0 (iX (eV 2)) (gN 9) (tYesF) (eCall f_law_make (aCons (eV 9) (aNil))) [9]))))
    (sSeq (sSet 5 (eFit 1 (eC .non)))
    (sSeq (sSet 6 (eS (eC (.bl false))))
    (sSeq (sTry t1_law z_WorkError 7 u1_law)
    (sSeq (sIf (tOrF (tV (eO2 neV (eB1 lenV (eV 3)) (eB1 lenV (eV 8)))) (tV (eO2 neV (eB1 lenV (eV 4)) (eB1 lenV (eV 2))))) (sRet (eC (.bl false))) (sNil))
    (sSeq (sFz 5 (sIf (tNotF (tV (eCall f_law_good (aCons (eV 8) (aCons (eV 2) (aNil)))))) (sRet (eAnd (eOp isD (eV 5) (eC .non)) (eV 6))) (sNil)))
    (sSeq (sMt0P clrL (pN 3))
    (sSeq (sMtP appL (pN 4) (eNew "Drain" f_Drain_init (aCons (eC (.int 0)) (aCons (eC (.int 1)) (aNil)))))
    (sRet (eCall f_law_work_is (aCons (eV 5) (aCons (eV 8) (aCons (eV 2) (aNil))))))))))))))))))
noncomputable def f_law : Fn := runF 12 b_law
end K11
namespace K11
open PySem L2 B
theorem sc_law_fold : FnScope n_law_fold ["_law_script"] (defScope st_law_fold) := ⟨rfl, rfl, rfl, by decide +kernel, rfl, by decide +kernel, by decide +kernel⟩
theorem sc_law_mix : FnScope n_law_mix ["_law_cell_here", "_law_k"] (defScope st_law_mix) := ⟨rfl, rfl, rfl, by decide +kernel, rfl, by decide +kernel, by decide +kernel⟩
theorem sc_law_cell : FnScope n_law_cell ["_law_script", "_law_k"] (defScope st_law_cell) := ⟨rfl, rfl, rfl, by decide +kernel, rfl, by decide +kernel, by decide +kernel⟩
theorem sc_law_belt : FnScope n_law_belt ["_law_cell_here", "_law_k"] (defScope st_law_belt) := ⟨rfl, rfl, rfl, by decide +kernel, rfl, by decide +kernel, by decide +kernel⟩
theorem sc_law_lanes : FnScope n_law_lanes ["_law_script", "_law_many"] (defScope st_law_lanes) := ⟨rfl, rfl, rfl, by decide +kernel, rfl, by decide +kernel, by decide +kernel⟩
theorem sc_law_comb : FnScope n_law_comb ["_law_script"] (defScope st_law_comb) := ⟨rfl, rfl, rfl, by decide +kernel, rfl, by decide +kernel, by decide +kernel⟩
theorem sc_law_kind : FnScope n_law_kind ["_law_cell_here", "_law_k"] (defScope st_law_kind) := ⟨rfl, rfl, rfl, by decide +kernel, rfl, by decide +kernel, by decide +kernel⟩
theorem sc_law_row : FnScope n_law_row ["_law_seed", "_law_word_here", "_law_ins", "_law_outs_here", "_law_base"] (defScope st_law_row) := ⟨rfl, rfl, rfl, by decide +kernel, rfl, by decide +kernel, by decide +kernel⟩
theorem sc_law_word : FnScope n_law_word ["_law_seed", "_law_ins"] (defScope st_law_word) := ⟨rfl, rfl, rfl, by decide +kernel, rfl, by decide +kernel, by decide +kernel⟩
theorem sc_law_outs : FnScope n_law_outs ["_law_seed", "_law_count", "_law_ends", "_law_backs", "_law_belts"] (defScope st_law_outs) := ⟨rfl, rfl, rfl, by decide +kernel, rfl, by decide +kernel, by decide +kernel⟩
theorem sc_law_web : FnScope n_law_web ["_law_script", "_law_most"] (defScope st_law_web) := ⟨rfl, rfl, rfl, by decide +kernel, rfl, by decide +kernel, by decide +kernel⟩
theorem sc_law_parts : FnScope n_law_parts ["_law_script"] (defScope st_law_parts) := ⟨rfl, rfl, rfl, by decide +kernel, rfl, by decide +kernel, by decide +kernel⟩
theorem sc_law_dealt : FnScope n_law_dealt ["_law_rows", "_law_fold_here"] (defScope st_law_dealt) := ⟨rfl, rfl, rfl, by decide +kernel, rfl, by decide +kernel, by decide +kernel⟩
theorem sc_law_spoilt : FnScope n_law_spoilt ["_law_belts", "_law_rows", "_law_seed", "_law_far"] (defScope st_law_spoilt) := ⟨rfl, rfl, rfl, by decide +kernel, rfl, by decide +kernel, by decide +kernel⟩
theorem sc_Belt_init : FnScope n_Belt_init ["self", "room", "pace"] (defScope st_Belt_init) := ⟨rfl, rfl, rfl, by decide +kernel, rfl, by decide +kernel, by decide +kernel⟩
theorem sc_is_kind : FnScope n_is_kind ["kind"] (defScope st_is_kind) := ⟨rfl, rfl, rfl, by decide +kernel, rfl, by decide +kernel, by decide +kernel⟩
theorem sc_Knot_init : FnScope n_Knot_init ["self", "ins", "outs"] (defScope st_Knot_init) := ⟨rfl, rfl, rfl, by decide +kernel, rfl, by decide +kernel, by decide +kernel⟩
theorem sc_Source_init : FnScope n_Source_init ["self", "out", "pace", "kinds"] (defScope st_Source_init) := ⟨rfl, rfl, rfl, by decide +kernel, rfl, by decide +kernel, by decide +kernel⟩
theorem sc_Drain_init : FnScope n_Drain_init ["self", "into", "pace"] (defScope st_Drain_init) := ⟨rfl, rfl, rfl, by decide +kernel, rfl, by decide +kernel, by decide +kernel⟩
theorem sc_Parter_init : FnScope n_Parter_init ["self", "into", "outs"] (defScope st_Parter_init) := ⟨rfl, rfl, rfl, by decide +kernel, rfl, by decide +kernel, by decide +kernel⟩
theorem sc_FirstParter_init : FnScope n_FirstParter_init ["self", "into", "outs"] (defScope st_FirstParter_init) := ⟨rfl, rfl, rfl, by decide +kernel, rfl, by decide +kernel, by decide +kernel⟩
theorem sc_Sieve_init : FnScope n_Sieve_init ["self", "into", "outs", "kind"] (defScope st_Sieve_init) := ⟨rfl, rfl, rfl, by decide +kernel, rfl, by decide +kernel, by decide +kernel⟩
theorem sc_Joiner_init : FnScope n_Joiner_init ["self", "ins", "out"] (defScope st_Joiner_init) := ⟨rfl, rfl, rfl, by decide +kernel, rfl, by decide +kernel, by decide +kernel⟩
theorem sc_law_make : FnScope n_law_make ["_law_row_here"] (defScope st_law_make) := ⟨rfl, rfl, rfl, by decide +kernel, rfl, by decide +kernel, by decide +kernel⟩
theorem sc_stand_once : FnScope n_stand_once ["rows", "many"] (defScope st_stand_once) := ⟨rfl, rfl, rfl, by decide +kernel, rfl, by decide +kernel, by decide +kernel⟩
theorem sc_Work_init : FnScope n_Work_init ["self", "belts", "knots"] (defScope st_Work_init) := ⟨rfl, rfl, rfl, by decide +kernel, rfl, by decide +kernel, by decide +kernel⟩
theorem sc_law_once : FnScope n_law_once ["_law_lists", "_law_many"] (defScope st_law_once) := ⟨rfl, rfl, rfl, by decide +kernel, rfl, by decide +kernel, by decide +kernel⟩
theorem sc_law_good : FnScope n_law_good ["_law_belts", "_law_rows"] (defScope st_law_good) := ⟨rfl, rfl, rfl, by decide +kernel, rfl, by decide +kernel, by decide +kernel⟩
theorem sc_law_whole : FnScope n_law_whole ["_law_found"] (defScope st_law_whole) := ⟨rfl, rfl, rfl, by decide +kernel, rfl, by decide +kernel, by decide +kernel⟩
theorem sc_law_belt_is : FnScope n_law_belt_is ["_law_made", "_law_due"] (defScope st_law_belt_is) := ⟨rfl, rfl, rfl, by decide +kernel, rfl, by decide +kernel, by decide +kernel⟩
theorem sc_law_numbers_are : FnScope n_law_numbers_are ["_law_found", "_law_due"] (defScope st_law_numbers_are) := ⟨rfl, rfl, rfl, by decide +kernel, rfl, by decide +kernel, by decide +kernel⟩
theorem sc_law_knot_is : FnScope n_law_knot_is ["_law_made", "_law_row_here"] (defScope st_law_knot_is) := ⟨rfl, rfl, rfl, by decide +kernel, rfl, by decide +kernel, by decide +kernel⟩
theorem sc_law_work_is : FnScope n_law_work_is ["_law_made", "_law_belts", "_law_rows"] (defScope st_law_work_is) := ⟨rfl, rfl, rfl, by decide +kernel, rfl, by decide +kernel, by decide +kernel⟩
theorem sc_law : FnScope n_law ["_law_script"] (defScope st_law) := ⟨rfl, rfl, rfl, by decide +kernel, rfl, by decide +kernel, by decide +kernel⟩
section
variable {P : Program} {w : World} {K : PySem.W.Frag} {mg : Str → Option Value} {base : Heap} {cl : Str → Addr}
theorem bo_law_fold : BodyOk P w K mg base (cl0 cl) 0 n_law_fold "_law_fold" st_law_fold b_law_fold := by
  intro f cdv A outer s H E hr
  exact eb_cons (es_set 1 (ev_int) sc_law_fold.nd)
    (eb_cons (es_for poB rfl (ei_any (ev_var 0)) (eg_name 2 sc_law_fold.nd) (eb_one (es_set 1 (ev_mod (ev_add (ev_mul (ev_var 1) (ev_int)) (ev_mod (ev_var 2) (ev_int))) (ev_int)) sc_law_fold.nd)))
    (eb_one (es_ret (ev_var 1))))
theorem bo_law_mix : BodyOk P w K mg base (cl0 cl) 0 n_law_mix "_law_mix" st_law_mix b_law_mix := by
  intro f cdv A outer s H E hr
  exact eb_cons (es_set 2 (ev_mod (ev_mul (ev_add (ev_add (ev_mod (ev_var 0) (ev_int)) (ev_int)) (ev_mul (ev_mul (ev_int) (ev_var 1)) (ev_var 1))) (ev_int)) (ev_int)) sc_law_mix.nd)
    (eb_one (es_ret (ev_mod (ev_mul (ev_var 2) (ev_var 2)) (ev_int))))
theorem bo_law_cell (h_len : mg "len" = none) : BodyOk P w K mg base (cl0 cl) 0 n_law_cell "_law_cell" st_law_cell b_law_cell := by
  intro f cdv A outer s H E hr
  exact eb_cons (es_if (et_lt (ev_var 1) (ev_len h_len (ev_var 0))) (eb_one (es_ret (ev_ix (ev_var 0) (ev_var 1)))) (eb_nil))
    (eb_one (es_ret (ev_int)))
theorem bo_law_belt (c_law_mix : Callee P w K mg base cl "_law_mix" 1 2 f_law_mix) : BodyOk P w K mg base (cl0 cl) 1 n_law_belt "_law_belt" st_law_belt b_law_belt := by
  intro f cdv A outer s H E hr
  exact eb_cons (es_set 2 (ev_call c_law_mix (hr.mono (by decide)) tkB (ea_cons (ev_var 0) (ea_cons (ev_var 1) (ea_nil)))) sc_law_belt.nd)
    (eb_cons (es_set 3 (ev_add (ev_int) (ev_mod (ev_var 2) (ev_int))) sc_law_belt.nd)
    (eb_cons (es_if (et_eq hr.units (ev_mod (ev_fdiv (ev_var 2) (ev_int)) (ev_int)) (ev_int)) (eb_one (es_set 3 (ev_add (ev_int) (ev_mod (ev_fdiv (ev_var 2) (ev_int)) (ev_int))) sc_law_belt.nd)) (eb_nil))
    (eb_cons (es_set 4 (ev_int) sc_law_belt.nd)
    (eb_cons (es_if (et_eq hr.units (ev_mod (ev_fdiv (ev_var 2) (ev_int)) (ev_int)) (ev_int)) (eb_one (es_set 4 (ev_add (ev_int) (ev_mod (ev_fdiv (ev_var 2) (ev_int)) (ev_int))) sc_law_belt.nd)) (eb_nil))
    (eb_one (es_ret (ev_tup (ea_cons (ev_var 3) (ea_cons (ev_var 4) (ea_nil))))))))))
theorem bo_law_lanes (h_range : mg "range" = none) (c_law_belt : Callee P w K mg base cl "_law_belt" 2 2 f_law_belt) (c_law_cell : Callee P w K mg base cl "_law_cell" 1 2 f_law_cell) : BodyOk P w K mg base (cl0 cl) 2 n_law_lanes "_law_lanes" st_law_lanes b_law_lanes := by
  intro f cdv A outer s H E hr
  exact eb_cons (es_setLcF 2 (k := 0) (F := fun f => eFit 1 (f)) (fun h => semFit 1 (h)) (own := [("_law_k", 4)]) rfl sc_law_lanes.nd ((ei_range1 h_range (ea_cons (ev_var 1) (ea_nil))).h) (blkOk_by (by first | decide +kernel | kernel_rfl | rfl)) (fun _ _ _ _ _ => eg_name 4 sc_law_lanes.nd) (fun _ _ _ _ _ => ets_nil) (fun _ _ _ _ _ => ev_call c_law_belt (hr.mono (by decide)) takes0 (ea_cons (ev_call c_law_cell (hr.mono (by decide)) takes0 (ea_cons (ev_var 0) (ea_cons (ev_var 4) (ea_nil)))) (ea_cons (ev_var 4) (ea_nil)))) (sw_true rfl rfl rfl (by decide +kernel)))
    (eb_cons (es_setO 3 (ev_fit 1 (ev_lst (ea_nil))) sc_law_lanes.nd)
    (eb_cons (es_for poB rfl (ei_range1 h_range (ea_cons (ev_var 1) (ea_nil))) (eg_name 4 sc_law_lanes.nd) (eb_cons (es_mtP ml_app (fun _ _ p u => pe_bm PySem.F.plainAttrs_list PySem.F.slot_list_append PySem.F.type_list_append mt_append p (pa_cons u pa_nil)) (evp_n 3) (ev_tup (ea_cons (ev_str) (ea_cons (ev_lst (ea_nil)) (ea_cons (ev_lst (ea_cons (ev_var 4) (ea_nil))) (ea_cons (ev_add (ev_int) (ev_mod (ev_var 4) (ev_int))) (ea_cons (ev_lst (ea_cons (ev_var 4) (ea_nil))) (ea_nil))))))))
  (eb_one (es_mtP ml_app (fun _ _ p u => pe_bm PySem.F.plainAttrs_list PySem.F.slot_list_append PySem.F.type_list_append mt_append p (pa_cons u pa_nil)) (evp_n 3) (ev_tup (ea_cons (ev_str) (ea_cons (ev_lst (ea_cons (ev_var 4) (ea_nil))) (ea_cons (ev_lst (ea_nil)) (ea_cons (ev_mod (ev_var 4) (ev_int)) (ea_cons (ev_lst (ea_nil)) (ea_nil)))))))))))
    (eb_one (es_retM (em_tupO 1 (ens_cons 2 (ens_cons 3 (ens_nil))))))))
theorem bo_law_comb (h_len : mg "len" = none) (h_list : mg "list" = none) (h_range : mg "range" = none) (c_law_mix : Callee P w K mg base cl "_law_mix" 1 2 f_law_mix) (c_law_cell : Callee P w K mg base cl "_law_cell" 1 2 f_law_cell) (c_law_belt : Callee P w K mg base cl "_law_belt" 2 2 f_law_belt) : BodyOk P w K mg base (cl0 cl) 2 n_law_comb "_law_comb" st_law_comb b_law_comb := by
  intro f cdv A outer s H E hr
  exact eb_cons (es_setO 1 (ev_fit 1 (ev_lst (ea_cons (ev_tup (ea_cons (ev_int) (ea_cons (ev_int) (ea_nil)))) (ea_nil)))) sc_law_comb.nd)
    (eb_cons (es_setO 2 (ev_fit 1 (ev_lst (ea_cons (ev_tup (ea_cons (ev_str) (ea_cons (ev_lst (ea_nil)) (ea_cons (ev_lst (ea_cons (ev_int) (ea_nil))) (ea_cons (ev_int) (ea_cons (ev_lst (ea_cons (ev_int) (ea_cons (ev_int) (ea_nil)))) (ea_nil))))))) (ea_nil)))) sc_law_comb.nd)
    (eb_cons (es_set 3 (ev_int) sc_law_comb.nd)
    (eb_cons (es_set 4 (ev_add (ev_int) (ev_mod (ev_call c_law_mix (hr.mono (by decide)) tkB (ea_cons (ev_call c_law_cell (hr.mono (by decide)) tkB (ea_cons (ev_var 0) (ea_cons (ev_int) (ea_nil)))) (ea_cons (ev_int) (ea_nil)))) (ev_int))) sc_law_comb.nd)
    (eb_cons (es_for poB rfl (ei_any (ev_cut (ev_var 0) (eo_some (ev_int)) (eo_some (ev_int)))) (eg_name 5 sc_law_comb.nd) (eb_cons (es_if (et_eq hr.units (ev_len h_len (ev_var 1)) (ev_var 4)) (eb_one (es_break)) (eb_nil))
  (eb_cons (es_set 6 (ev_add (ev_int) (ev_mod (ev_call c_law_mix (hr.mono (by decide)) tkB (ea_cons (ev_var 5) (ea_cons (ev_int) (ea_nil)))) (ev_int))) sc_law_comb.nd)
  (eb_cons (es_if (et_le_le (ev_int) (ev_sub (ev_var 4) (ev_len h_len (ev_var 1))) (ev_int)) (eb_one (es_set 6 (ev_sub (ev_sub (ev_var 4) (ev_len h_len (ev_var 1))) (ev_int)) sc_law_comb.nd)) (eb_nil))
  (eb_cons (es_set 7 (ev_lr2 rfl h_list h_range (ev_add (ev_var 3) (ev_int)) (ev_add (ev_add (ev_var 3) (ev_int)) (ev_var 6))) sc_law_comb.nd)
  (eb_cons (es_mtP ml_app (fun _ _ p u => pe_bm PySem.F.plainAttrs_list PySem.F.slot_list_append PySem.F.type_list_append mt_append p (pa_cons u pa_nil)) (evp_n 2) (ev_tup (ea_cons (ev_str) (ea_cons (ev_lst (ea_cons (ev_var 3) (ea_nil))) (ea_cons (ev_var 7) (ea_cons (ev_int) (ea_cons (ev_lst (ea_nil)) (ea_nil))))))))
  (eb_cons (es_set 3 (ev_add (ev_ix (ev_var 7) (ev_neg (ev_int))) (ev_int)) sc_law_comb.nd)
  (eb_cons (es_mtP ml_app (fun _ _ p u => pe_bm PySem.F.plainAttrs_list PySem.F.slot_list_append PySem.F.type_list_append mt_append p (pa_cons u pa_nil)) (evp_n 2) (ev_tup (ea_cons (ev_str) (ea_cons (ev_var 7) (ea_cons (ev_lst (ea_cons (ev_var 3) (ea_nil))) (ea_cons (ev_int) (ea_cons (ev_lst (ea_nil)) (ea_nil))))))))
  (eb_one (es_while poB (et_le (ev_len h_len (ev_var 1)) (ev_var 3)) (eb_one (es_mtP ml_app (fun _ _ p u => pe_bm PySem.F.plainAttrs_list PySem.F.slot_list_append PySem.F.type_list_append mt_append p (pa_cons u pa_nil)) (evp_n 1) (ev_call c_law_belt (hr.mono (by decide)) tkB (ea_cons (ev_var 5) (ea_cons (ev_len h_len (ev_var 1)) (ea_nil))))))))))))))))
    (eb_cons (es_mtP ml_app (fun _ _ p u => pe_bm PySem.F.plainAttrs_list PySem.F.slot_list_append PySem.F.type_list_append mt_append p (pa_cons u pa_nil)) (evp_n 2) (ev_tup (ea_cons (ev_str) (ea_cons (ev_lst (ea_cons (ev_var 3) (ea_nil))) (ea_cons (ev_lst (ea_nil)) (ea_cons (ev_int) (ea_cons (ev_lst (ea_nil)) (ea_nil))))))))
    (eb_one (es_retM (em_tupO 1 (ens_cons 1 (ens_cons 2 (ens_nil)))))))))))
theorem bo_law_kind : BodyOk P w K mg base (cl0 cl) 0 n_law_kind "_law_kind" st_law_kind b_law_kind := by
  intro f cdv A outer s H E hr
  exact eb_one (es_ret (ev_mod (ev_mul (ev_add (ev_add (ev_mod (ev_var 0) (ev_pow (ev_int) (ev_int))) (ev_int)) (ev_var 1)) (ev_int)) (ev_pow (ev_int) (ev_int))))
theorem bo_law_row (h_range : mg "range" = none) : BodyOk P w K mg base (cl0 cl) 0 n_law_row "_law_row" st_law_row b_law_row := by
  intro f cdv A outer s H E hr
  exact eb_cons (es_set 5 (ev_int) sc_law_row.nd)
    (eb_cons (es_if (et_eq hr.units (ev_mod (ev_fdiv (ev_var 0) (ev_int)) (ev_int)) (ev_int)) (eb_one (es_set 5 (ev_add (ev_int) (ev_mod (ev_fdiv (ev_var 0) (ev_int)) (ev_int))) sc_law_row.nd)) (eb_nil))
    (eb_cons (es_if ((ew_and (et_eq hr.units (ev_var 1) (ev_str)) (ew_and1 (et_eq hr.units (ev_mod (ev_fdiv (ev_var 0) (ev_int)) (ev_int)) (ev_int)))).t) (eb_one (es_set 5 (ev_int) sc_law_row.nd)) (eb_nil))
    (eb_cons (es_set 6 (ev_lst (ea_nil)) sc_law_row.nd)
    (eb_cons (es_if (et_eq hr.units (ev_var 1) (ev_str)) (eb_one (es_setLcF 6 (k := 0) (F := fun f => eS (f)) (fun h => semS (h)) (own := [("_law_k", 7)]) rfl sc_law_row.nd ((ei_range1 h_range (ea_cons (ev_add (ev_int) (ev_mod (ev_fdiv (ev_var 0) (ev_int)) (ev_int))) (ea_nil))).h) (blkOk_by (by first | decide +kernel | kernel_rfl | rfl)) (fun _ _ _ _ _ => eg_name 7 sc_law_row.nd) (fun _ _ _ _ _ => ets_nil) (fun _ _ _ _ _ => ev_ix (ev_var 4) (ev_mod (ev_fdiv (ev_var 0) (ev_add (ev_int) (ev_var 7))) (ev_int))) (sw_true rfl rfl rfl (by decide +kernel)))) (eb_nil))
    (eb_cons (es_if (et_eq hr.units (ev_var 1) (ev_str)) (eb_one (es_set 6 (ev_lst (ea_cons (ev_ix (ev_var 4) (ev_mod (ev_fdiv (ev_var 0) (ev_int)) (ev_int))) (ea_nil))) sc_law_row.nd)) (eb_nil))
    (eb_one (es_ret (ev_tup (ea_cons (ev_var 1) (ea_cons (ev_var 2) (ea_cons (ev_var 3) (ea_cons (ev_var 5) (ea_cons (ev_var 6) (ea_nil))))))))))))))
theorem bo_law_word (h_len : mg "len" = none) : BodyOk P w K mg base (cl0 cl) 0 n_law_word "_law_word" st_law_word b_law_word := by
  intro f cdv A outer s H E hr
  exact eb_cons (es_set 2 (ev_ix (ev_lst (ea_cons (ev_str) (ea_cons (ev_str) (ea_cons (ev_str) (ea_cons (ev_str) (ea_cons (ev_str) (ea_cons (ev_str) (ea_cons (ev_str) (ea_cons (ev_str) (ea_nil)))))))))) (ev_mod (ev_var 0) (ev_int))) sc_law_word.nd)
    (eb_cons (es_if ((ew_and (et_eq hr.units (ev_var 2) (ev_str)) (ew_and1 (et_lt (ev_len h_len (ev_var 1)) (ev_int)))).t) (eb_one (es_ret (ev_str))) (eb_nil))
    (eb_one (es_ret (ev_var 2))))
theorem bo_law_outs (h_len : mg "len" = none) (h_list : mg "list" = none) (h_range : mg "range" = none) (h_reversed : mg "reversed" = none) (c_law_belt : Callee P w K mg base cl "_law_belt" 2 2 f_law_belt) : BodyM P w K mg base cl [2, 3, 4] 2 n_law_outs "_law_outs" st_law_outs b_law_outs := by
  intro vs f cdv A outer s H E hr
  exact eb_cons (es_setO 5 (ev_fit 1 (ev_lst (ea_nil))) sc_law_outs.nd)
    (eb_cons (es_for poB rfl (ei_range1 h_range (ea_cons (ev_var 1) (ea_nil))) (eg_name 6 sc_law_outs.nd) (eb_one (es_if ((ew_and (et_gt (ev_len h_len (ev_var 3)) (ev_int)) (ew_and1 (et_eq hr.units (ev_mod (ev_fdiv (ev_var 0) (ev_add (ev_var 6) (ev_int))) (ev_int)) (ev_int)))).t) (eb_one (es_mtM 5 ml_app (fun _ p => pe_bm PySem.F.plainAttrs_list PySem.F.slot_list_append PySem.F.type_list_append mt_append (pv 5) (pa_cons p pa_nil)) (em_pop (evp_n 3)))) (eb_cons (es_mtP ml_app (fun _ _ p u => pe_bm PySem.F.plainAttrs_list PySem.F.slot_list_append PySem.F.type_list_append mt_append p (pa_cons u pa_nil)) (evp_n 5) (ev_len h_len (ev_var 4)))
    (eb_cons (es_mtP ml_app (fun _ _ p u => pe_bm PySem.F.plainAttrs_list PySem.F.slot_list_append PySem.F.type_list_append mt_append p (pa_cons u pa_nil)) (evp_n 2) (ev_len h_len (ev_var 4)))
    (eb_one (es_mtP ml_app (fun _ _ p u => pe_bm PySem.F.plainAttrs_list PySem.F.slot_list_append PySem.F.type_list_append mt_append p (pa_cons u pa_nil)) (evp_n 4) (ev_call c_law_belt (hr.mono (by decide)) tkB (ea_cons (ev_var 0) (ea_cons (ev_var 6) (ea_nil)))))))))))
    (eb_cons (es_fz 5 (es_if (et_eq hr.units (ev_mod (ev_fdiv (ev_var 0) (ev_int)) (ev_int)) (ev_int)) (eb_one (es_ret (ev_rv h_list h_reversed rfl (ev_var 5)))) (eb_nil)))
    (eb_one (es_ret (ev_var 5)))))
theorem bo_law_web (h_int : mg "int" = none) (h_len : mg "len" = none) (h_max : mg "max" = none) (h_range : mg "range" = none) (fi_law_outs : Addr) (c_law_cell : Callee P w K mg base cl "_law_cell" 1 2 f_law_cell) (c_law_kind : Callee P w K mg base cl "_law_kind" 1 2 f_law_kind) (c_law_mix : Callee P w K mg base cl "_law_mix" 1 2 f_law_mix) (c_law_belt : Callee P w K mg base cl "_law_belt" 2 2 f_law_belt) (c_law_row : Callee P w K mg base cl "_law_row" 1 5 f_law_row) (c_law_word : Callee P w K mg base cl "_law_word" 1 2 f_law_word) (m_law_outs : CalleeM P w K mg base cl fi_law_outs 3 5 f_law_outs) (gf_law_outs : mg "_law_outs" = some (.ref fi_law_outs)) : BodyOk P w K mg base (cl0 cl) 3 n_law_web "_law_web" st_law_web b_law_web := by
  intro f cdv A outer s H E hr
  exact eb_cons (es_set 2 (ev_call c_law_cell (hr.mono (by decide)) tkB (ea_cons (ev_var 0) (ea_cons (ev_int) (ea_nil)))) sc_law_web.nd)
    (eb_cons (es_setLcF 3 (k := 0) (F := fun f => eS (f)) (fun h => semS (h)) (own := [("_law_k", 9)]) rfl sc_law_web.nd ((ei_range1 h_range (ea_cons (ev_int) (ea_nil))).h) (blkOk_by (by first | decide +kernel | kernel_rfl | rfl)) (fun _ _ _ _ _ => eg_name 9 sc_law_web.nd) (fun _ _ _ _ _ => ets_nil) (fun _ _ _ _ _ => ev_call c_law_kind (hr.mono (by decide)) takes0 (ea_cons (ev_call c_law_cell (hr.mono (by decide)) takes0 (ea_cons (ev_var 0) (ea_cons (ev_var 9) (ea_nil)))) (ea_cons (ev_var 9) (ea_nil)))) (sw_true rfl rfl rfl (by decide +kernel)))
    (eb_cons (es_setO 4 (ev_fit 1 (ev_lst (ea_nil))) sc_law_web.nd)
    (eb_cons (es_setO 5 (ev_fit 1 (ev_lst (ea_nil))) sc_law_web.nd)
    (eb_cons (es_setO 6 (ev_fit 1 (ev_lst (ea_nil))) sc_law_web.nd)
    (eb_cons (es_setO 7 (ev_fit 1 (ev_lst (ea_nil))) sc_law_web.nd)
    (eb_cons (es_set 8 (ev_mod (ev_call c_law_mix (hr.mono (by decide)) tkB (ea_cons (ev_var 2) (ea_cons (ev_int) (ea_nil)))) (ev_int)) sc_law_web.nd)
    (eb_cons (es_for poB rfl (ei_range1 h_range (ea_cons (ev_max2 rfl h_max (ea_cons (ev_int) (ea_cons (ev_add (ev_var 8) (ev_mod (ev_call c_law_mix (hr.mono (by decide)) tkB (ea_cons (ev_var 2) (ea_cons (ev_int) (ea_nil)))) (ev_int))) (ea_nil)))) (ea_nil))) (eg_name 9 sc_law_web.nd) (eb_cons (es_mtP ml_app (fun _ _ p u => pe_bm PySem.F.plainAttrs_list PySem.F.slot_list_append PySem.F.type_list_append mt_append p (pa_cons u pa_nil)) (evp_n 6) (ev_var 9))
  (eb_cons (es_mtP ml_app (fun _ _ p u => pe_bm PySem.F.plainAttrs_list PySem.F.slot_list_append PySem.F.type_list_append mt_append p (pa_cons u pa_nil)) (evp_n 4) (ev_call c_law_belt (hr.mono (by decide)) tkB (ea_cons (ev_call c_law_mix (hr.mono (by decide)) tkB (ea_cons (ev_var 2) (ea_cons (ev_int) (ea_nil)))) (ea_cons (ev_var 9) (ea_nil)))))
  (eb_one (es_if (et_lt (ev_var 9) (ev_var 8)) (eb_one (es_mtP ml_app (fun _ _ p u => pe_bm PySem.F.plainAttrs_list PySem.F.slot_list_append PySem.F.type_list_append mt_append p (pa_cons u pa_nil)) (evp_n 5) (ev_call c_law_row (hr.mono (by decide)) tkB (ea_cons (ev_call c_law_mix (hr.mono (by decide)) tkB (ea_cons (ev_var 2) (ea_cons (ev_add (ev_int) (ev_var 9)) (ea_nil)))) (ea_cons (ev_str) (ea_cons (ev_lst (ea_nil)) (ea_cons (ev_lst (ea_cons (ev_var 9) (ea_nil))) (ea_cons (ev_var 3) (ea_nil))))))))) (eb_one (es_mtP ml_app (fun _ _ p u => pe_bm PySem.F.plainAttrs_list PySem.F.slot_list_append PySem.F.type_list_append mt_append p (pa_cons u pa_nil)) (evp_n 7) (ev_var 9))))))))
    (eb_cons (es_for poB rfl (ei_any (ev_cut (ev_var 0) (eo_some (ev_int)) (eo_some (ev_int)))) (eg_name 10 sc_law_web.nd) (eb_cons (es_if ((ew_or (et_eq hr.units (ev_len h_len (ev_var 6)) (ev_int)) (ew_or (et_gt (ev_add (ev_len h_len (ev_var 4)) (ev_int)) (ev_var 1)) (ew_or1 (et_gt (ev_add (ev_add (ev_len h_len (ev_var 5)) (ev_len h_len (ev_var 6))) (ev_len h_len (ev_var 7))) (ev_int))))).t) (eb_one (es_break)) (eb_nil))
  (eb_cons (es_set 13 (ev_call c_law_mix (hr.mono (by decide)) tkB (ea_cons (ev_var 10) (ea_cons (ev_int) (ea_nil)))) sc_law_web.nd)
  (eb_cons (es_set 14 (ev_add (ev_int) (ev_mod (ev_fdiv (ev_var 13) (ev_int)) (ev_int))) sc_law_web.nd)
  (eb_cons (es_setM 15 (em_lst (ems_cons (em_popI (evp_n 6) (ev_mod (ev_fdiv (ev_var 13) (ev_int)) (ev_len h_len (ev_var 6)))) (ems_nil))) sc_law_web.nd)
  (eb_cons (es_while poB ((ew_and (et_inX (ev_mod (ev_var 13) (ev_int)) (ev_tup (ea_cons (ev_int) (ea_cons (ev_int) (ea_cons (ev_int) (ea_nil)))))) (ew_and (et_gt (ev_len h_len (ev_var 6)) (ev_int)) (ew_and1 (et_lt (ev_len h_len (ev_var 15)) (ev_var 14))))).t) (eb_one (es_mtM 15 ml_app (fun _ p => pe_bm PySem.F.plainAttrs_list PySem.F.slot_list_append PySem.F.type_list_append mt_append (pv 15) (pa_cons p pa_nil)) (em_popI (evp_n 6) (ev_mod (ev_fdiv (ev_var 13) (ev_int)) (ev_len h_len (ev_var 6)))))))
  (eb_cons (es_fz 15 (es_set 16 (ev_call c_law_word (hr.mono (by decide)) tkB (ea_cons (ev_var 13) (ea_cons (ev_var 15) (ea_nil)))) sc_law_web.nd))
  (eb_cons (es_if (et_eq hr.units (ev_var 16) (ev_str)) (eb_one (es_set 14 (ev_int) sc_law_web.nd)) (eb_nil))
  (eb_cons (es_if ((ew_or (et_eq hr.units (ev_var 16) (ev_str)) (ew_or1 (et_eq hr.units (ev_var 16) (ev_str)))).t) (eb_one (es_set 14 (ev_int1 h_int (ev_eq hr.units (ev_var 16) (ev_str))) sc_law_web.nd)) (eb_nil))
  (eb_one (es_mtM 5 ml_app (fun _ p => pe_bm PySem.F.plainAttrs_list PySem.F.slot_list_append PySem.F.type_list_append mt_append (pv 5) (pa_cons p pa_nil)) (em_callF c_law_row (hr.mono (by decide)) tkB (ems_cons (em_pure (ev_var 13)) (ems_cons (em_pure (ev_var 16)) (ems_cons (em_pure (ev_var 15)) (ems_cons (em_call m_law_outs gf_law_outs (hr.mono (by decide)) tkB (eam_cons (ev_var 13) (eam_cons (ev_var 14) (eam_own 6 (eam_own 7 (eam_own 4 (eam_nil))))))) (ems_cons (em_pure (ev_var 3)) (ems_nil)))))) (msl_cons (msl_cons (msl_cons (msl_cons (msl_cons (msl_nil))))))))))))))))))
    (eb_cons (es_fz 6 (es_for poB rfl (ei_any (ev_var 6)) (eg_name 11 sc_law_web.nd) (eb_one (es_mtP ml_app (fun _ _ p u => pe_bm PySem.F.plainAttrs_list PySem.F.slot_list_append PySem.F.type_list_append mt_append p (pa_cons u pa_nil)) (evp_n 5) (ev_call c_law_row (hr.mono (by decide)) tkB (ea_cons (ev_call c_law_mix (hr.mono (by decide)) tkB (ea_cons (ev_var 2) (ea_cons (ev_add (ev_int) (ev_var 11)) (ea_nil)))) (ea_cons (ev_str) (ea_cons (ev_lst (ea_cons (ev_var 11) (ea_nil))) (ea_cons (ev_lst (ea_nil)) (ea_cons (ev_var 3) (ea_nil)))))))))))
    (eb_cons (es_fz 7 (es_for poB rfl (ei_any (ev_var 7)) (eg_name 12 sc_law_web.nd) (eb_one (es_mtP ml_app (fun _ _ p u => pe_bm PySem.F.plainAttrs_list PySem.F.slot_list_append PySem.F.type_list_append mt_append p (pa_cons u pa_nil)) (evp_n 5) (ev_call c_law_row (hr.mono (by decide)) tkB (ea_cons (ev_call c_law_mix (hr.mono (by decide)) tkB (ea_cons (ev_var 2) (ea_cons (ev_add (ev_int) (ev_var 12)) (ea_nil)))) (ea_cons (ev_str) (ea_cons (ev_lst (ea_nil)) (ea_cons (ev_lst (ea_cons (ev_var 12) (ea_nil))) (ea_cons (ev_var 3) (ea_nil)))))))))))
    (eb_one (es_retM (em_tupO 1 (ens_cons 4 (ens_cons 5 (ens_nil))))))))))))))))
theorem bo_law_parts (c_law_mix : Callee P w K mg base cl "_law_mix" 1 2 f_law_mix) (c_law_cell : Callee P w K mg base cl "_law_cell" 1 2 f_law_cell) (c_law_lanes : Callee P w K mg base cl "_law_lanes" 3 2 f_law_lanes) (c_law_comb : Callee P w K mg base cl "_law_comb" 3 1 f_law_comb) (c_law_web : Callee P w K mg base cl "_law_web" 4 2 f_law_web) : BodyOk P w K mg base (cl0 cl) 4 n_law_parts "_law_parts" st_law_parts b_law_parts := by
  intro f cdv A outer s H E hr
  exact eb_cons (es_set 1 (ev_mod (ev_call c_law_mix (hr.mono (by decide)) tkB (ea_cons (ev_call c_law_cell (hr.mono (by decide)) tkB (ea_cons (ev_var 0) (ea_cons (ev_int) (ea_nil)))) (ea_cons (ev_int) (ea_nil)))) (ev_int)) sc_law_parts.nd)
    (eb_cons (es_if (et_eq hr.units (ev_var 1) (ev_int)) (eb_cons (es_set 2 (ev_add (ev_int) (ev_mod (ev_call c_law_mix (hr.mono (by decide)) tkB (ea_cons (ev_call c_law_cell (hr.mono (by decide)) tkB (ea_cons (ev_var 0) (ea_cons (ev_int) (ea_nil)))) (ea_cons (ev_int) (ea_nil)))) (ev_int))) sc_law_parts.nd)
      (eb_cons (es_if (et_gt (ev_var 2) (ev_int)) (eb_one (es_set 2 (ev_add (ev_int) (ev_mod (ev_var 2) (ev_int))) sc_law_parts.nd)) (eb_nil))
      (eb_one (es_ret (ev_call c_law_lanes (hr.mono (by decide)) tkB (ea_cons (ev_var 0) (ea_cons (ev_var 2) (ea_nil)))))))) (eb_nil))
    (eb_cons (es_if (et_eq hr.units (ev_var 1) (ev_int)) (eb_one (es_ret (ev_call c_law_comb (hr.mono (by decide)) tkB (ea_cons (ev_var 0) (ea_nil))))) (eb_nil))
    (eb_one (es_ret (ev_call c_law_web (hr.mono (by decide)) tkB (ea_cons (ev_var 0) (ea_cons (ev_int) (ea_nil))))))))
theorem bo_law_dealt (h_enumerate : mg "enumerate" = none) (h_len : mg "len" = none) (c_law_mix : Callee P w K mg base cl "_law_mix" 1 2 f_law_mix) : BodyOk P w K mg base (cl0 cl) 1 n_law_dealt "_law_dealt" st_law_dealt b_law_dealt := by
  intro f cdv A outer s H E hr
  exact eb_cons (es_setO 2 (ev_fit 1 (ev_lst (ea_nil))) sc_law_dealt.nd)
    (eb_cons (es_for poB rfl (ei_enum h_enumerate (ea_cons (ev_var 0) (ea_nil))) (eg_tup rfl (egs_cons (eg_name 3 sc_law_dealt.nd) (egs_cons (eg_name 4 sc_law_dealt.nd) (egs_nil)))) (eb_cons (es_set 5 (ev_len h_len (ev_var 2)) sc_law_dealt.nd)
  (eb_cons (es_if (et_eq hr.units (ev_mod (ev_fdiv (ev_var 1) (ev_int)) (ev_int)) (ev_int)) (eb_one (es_set 5 (ev_mod (ev_call c_law_mix (hr.mono (by decide)) tkB (ea_cons (ev_var 1) (ea_cons (ev_add (ev_int) (ev_var 3)) (ea_nil)))) (ev_add (ev_len h_len (ev_var 2)) (ev_int))) sc_law_dealt.nd)) (eb_nil))
  (eb_one (es_ins (evp_n 2) (ev_var 5) (ev_var 4))))))
    (eb_one (es_retM (em_mv 2))))
theorem bo_law_spoilt (h_len : mg "len" = none) (h_list : mg "list" = none) : BodyM P w K mg base cl [0, 1] 0 n_law_spoilt "_law_spoilt" st_law_spoilt b_law_spoilt := by
  intro vs f cdv A outer s H E hr
  exact eb_cons (es_set 4 (ev_mod (ev_var 2) (ev_int)) sc_law_spoilt.nd)
    (eb_cons (es_set 5 (ev_mod (ev_fdiv (ev_var 2) (ev_int)) (ev_len h_len (ev_var 1))) sc_law_spoilt.nd)
    (eb_cons (es_if (et_eq hr.units (ev_var 4) (ev_int)) (eb_one (es_mtP ml_app (fun _ _ p u => pe_bm PySem.F.plainAttrs_list PySem.F.slot_list_append PySem.F.type_list_append mt_append p (pa_cons u pa_nil)) (evp_n 0) (ev_tup (ea_cons (ev_int) (ea_cons (ev_int) (ea_nil)))))) (eb_nil))
    (eb_cons (es_if (et_eq hr.units (ev_var 4) (ev_int)) (eb_one (es_exM (em_pop (evp_n 0)))) (eb_nil))
    (eb_cons (es_if (et_eq hr.units (ev_var 4) (ev_int)) (eb_one (es_exM (em_popI (evp_n 1) (ev_var 5)))) (eb_nil))
    (eb_cons (es_if (et_eq hr.units (ev_var 4) (ev_int)) (eb_one (es_mt0P ml_clr (fun _ p => pe_bm0 PySem.F.plainAttrs_list PySem.F.slot_list_clear PySem.F.type_list_clear mt_clear p) (evp_n 0))) (eb_nil))
    (eb_cons (es_if (et_eq hr.units (ev_var 4) (ev_int)) (eb_one (es_mt0P ml_clr (fun _ p => pe_bm0 PySem.F.plainAttrs_list PySem.F.slot_list_clear PySem.F.type_list_clear mt_clear p) (evp_n 1))) (eb_nil))
    (eb_one (es_if (et_inX (ev_var 4) (ev_tup (ea_cons (ev_int) (ea_cons (ev_int) (ea_cons (ev_int) (ea_nil)))))) (eb_cons (es_set 6 (ev_ix (ev_lst (ea_cons (ev_mod (ev_fdiv (ev_var 2) (ev_int)) (ev_len h_len (ev_var 0))) (ea_cons (ev_neg (ev_int)) (ea_cons (ev_len h_len (ev_var 0)) (ea_cons (ev_add (ev_len h_len (ev_var 0)) (ev_var 3)) (ea_cons (ev_sub (ev_neg (ev_int)) (ev_var 3)) (ea_cons (ev_int) (ea_nil)))))))) (ev_mod (ev_fdiv (ev_var 2) (ev_int)) (ev_int))) sc_law_spoilt.nd)
      (eb_cons (es_setO 7 (ev_fit 1 (ev_list1 h_list (ev_ix (ev_ix (ev_var 1) (ev_var 5)) (ev_int)))) sc_law_spoilt.nd)
      (eb_cons (es_setO 8 (ev_fit 1 (ev_list1 h_list (ev_ix (ev_ix (ev_var 1) (ev_var 5)) (ev_int)))) sc_law_spoilt.nd)
      (eb_alias 7 8 9 sc_law_spoilt.nd ((ew_or (et_eq hr.units (ev_len h_len (ev_var 8)) (ev_int)) (ew_or1 ((ew_and (et_gt (ev_len h_len (ev_var 7)) (ev_int)) (ew_and1 (et_eq hr.units (ev_mod (ev_fdiv (ev_var 2) (ev_int)) (ev_int)) (ev_int)))).t))).t) (fun v => es_stP 0 (ev_var 6) (evp_n 9) (ev_mod (ev_fdiv (ev_var 2) (ev_int)) (ev_len h_len (ev_var 9))))
      (eb_one (es_fz 8 (es_fz 7 (es_stP 0 (ev_tup (ea_cons (ev_ix (ev_ix (ev_var 1) (ev_var 5)) (ev_int)) (ea_cons (ev_var 7) (ea_cons (ev_var 8) (ea_cons (ev_ix (ev_ix (ev_var 1) (ev_var 5)) (ev_int)) (ea_cons (ev_ix (ev_ix (ev_var 1) (ev_var 5)) (ev_int)) (ea_nil))))))) (evp_n 1) (ev_var 5))))))))) (eb_nil)))))))))
theorem bo_Belt_init (x_BadBelt : ExcK K mg cl "BadBelt") (fl_room : FldF K cl osA "room") (fl_pace : FldF K cl osA "pace") : BodyM P w K mg base cl [0] 0 n_Belt_init "Belt.__init__" st_Belt_init b_Belt_init := by
  intro vs f cdv A outer s H E hr
  exact eb_cons (es_if ((ew_or (et_lt (ev_var 1) (ev_int)) (ew_or1 (et_gt (ev_var 1) (ev_int)))).t) (eb_one (es_raise x_BadBelt rfl tkB)) (eb_nil))
    (eb_cons (es_if ((ew_or (et_lt (ev_var 2) (ev_int)) (ew_or1 (et_gt (ev_var 2) (ev_int)))).t) (eb_one (es_raise x_BadBelt rfl tkB)) (eb_nil))
    (eb_cons (es_fld 0 fl_room (ev_var 1))
    (eb_one (es_fld 0 fl_pace (ev_var 2)))))
theorem bo_is_kind : BodyOk P w K mg base (cl0 cl) 0 n_is_kind "is_kind" st_is_kind b_is_kind := by
  intro f cdv A outer s H E hr
  exact eb_one (es_ret (ev_le_lt (ev_int) (ev_var 0) (ev_pow (ev_int) (ev_int))))
theorem bo_Knot_init (h_list : mg "list" = none) (fl_ins : FldF K cl osA "ins") (fl_outs : FldF K cl osA "outs") : BodyM P w K mg base cl [0] 0 n_Knot_init "Knot.__init__" st_Knot_init b_Knot_init := by
  intro vs f cdv A outer s H E hr
  exact eb_cons (es_fld 0 fl_ins (ev_list1 h_list (ev_var 1)))
    (eb_one (es_fld 0 fl_outs (ev_list1 h_list (ev_var 2))))
theorem bo_Source_init (h_len : mg "len" = none) (h_list : mg "list" = none) (fi_Knot : Addr) (c_is_kind : Callee P w K mg base cl "is_kind" 1 1 f_is_kind) (m_Knot : CalleeM P w K mg base cl fi_Knot 1 3 f_Knot_init) (x_BadKnot : ExcK K mg cl "BadKnot") (g_Knot : mg "Knot" = some (.ref (cl "Knot"))) (b_Knot : BaseK K (cl "Knot") "__init__" fi_Knot) (fl_pace : FldF K cl osA "pace") (fl_kinds : FldF K cl osA "kinds") : BodyM P w K mg base cl [0] 2 n_Source_init "Source.__init__" st_Source_init b_Source_init := by
  intro vs f cdv A outer s H E hr
  exact eb_cons (es_if ((ew_or (et_lt (ev_var 2) (ev_int)) (ew_or1 (et_gt (ev_var 2) (ev_int)))).t) (eb_one (es_raise x_BadKnot rfl tkB)) (eb_nil))
    (eb_cons (es_if ((ew_or (et_lt (ev_len h_len (ev_var 3)) (ev_int)) (ew_or1 (et_gt (ev_len h_len (ev_var 3)) (ev_int)))).t) (eb_one (es_raise x_BadKnot rfl tkB)) (eb_nil))
    (eb_cons (es_for poB rfl (ei_any (ev_var 3)) (eg_name 4 sc_Source_init.nd) (eb_one (es_if (et_not (et_val (ev_call c_is_kind (hr.mono (by decide)) tkB (ea_cons (ev_var 4) (ea_nil))))) (eb_one (es_raise x_BadKnot rfl tkB)) (eb_nil))))
    (eb_cons (es_exM (em_base m_Knot b_Knot g_Knot (hr.mono (by decide)) tkB (eam_own 0 (eam_cons (ev_lst (ea_nil)) (eam_cons (ev_lst (ea_cons (ev_var 1) (ea_nil))) (eam_nil))))))
    (eb_cons (es_fld 0 fl_pace (ev_var 2))
    (eb_one (es_fld 0 fl_kinds (ev_list1 h_list (ev_var 3))))))))
theorem bo_Drain_init (fi_Knot : Addr) (m_Knot : CalleeM P w K mg base cl fi_Knot 1 3 f_Knot_init) (x_BadKnot : ExcK K mg cl "BadKnot") (g_Knot : mg "Knot" = some (.ref (cl "Knot"))) (b_Knot : BaseK K (cl "Knot") "__init__" fi_Knot) (fl_pace : FldF K cl osA "pace") : BodyM P w K mg base cl [0] 2 n_Drain_init "Drain.__init__" st_Drain_init b_Drain_init := by
  intro vs f cdv A outer s H E hr
  exact eb_cons (es_if ((ew_or (et_lt (ev_var 2) (ev_int)) (ew_or1 (et_gt (ev_var 2) (ev_int)))).t) (eb_one (es_raise x_BadKnot rfl tkB)) (eb_nil))
    (eb_cons (es_exM (em_base m_Knot b_Knot g_Knot (hr.mono (by decide)) tkB (eam_own 0 (eam_cons (ev_lst (ea_cons (ev_var 1) (ea_nil))) (eam_cons (ev_lst (ea_nil)) (eam_nil))))))
    (eb_one (es_fld 0 fl_pace (ev_var 2))))
theorem bo_Parter_init (h_len : mg "len" = none) (fi_Knot : Addr) (m_Knot : CalleeM P w K mg base cl fi_Knot 1 3 f_Knot_init) (x_BadKnot : ExcK K mg cl "BadKnot") (g_Knot : mg "Knot" = some (.ref (cl "Knot"))) (b_Knot : BaseK K (cl "Knot") "__init__" fi_Knot) : BodyM P w K mg base cl [0] 2 n_Parter_init "Parter.__init__" st_Parter_init b_Parter_init := by
  intro vs f cdv A outer s H E hr
  exact eb_cons (es_if ((ew_or (et_lt (ev_len h_len (ev_var 2)) (ev_int)) (ew_or1 (et_gt (ev_len h_len (ev_var 2)) (ev_int)))).t) (eb_one (es_raise x_BadKnot rfl tkB)) (eb_nil))
    (eb_one (es_exM (em_base m_Knot b_Knot g_Knot (hr.mono (by decide)) tkB (eam_own 0 (eam_cons (ev_lst (ea_cons (ev_var 1) (ea_nil))) (eam_cons (ev_var 2) (eam_nil)))))))
theorem bo_FirstParter_init (h_len : mg "len" = none) (fi_Knot : Addr) (m_Knot : CalleeM P w K mg base cl fi_Knot 1 3 f_Knot_init) (x_BadKnot : ExcK K mg cl "BadKnot") (g_Knot : mg "Knot" = some (.ref (cl "Knot"))) (b_Knot : BaseK K (cl "Knot") "__init__" fi_Knot) : BodyM P w K mg base cl [0] 2 n_FirstParter_init "FirstParter.__init__" st_FirstParter_init b_FirstParter_init := by
  intro vs f cdv A outer s H E hr
  exact eb_cons (es_if ((ew_or (et_lt (ev_len h_len (ev_var 2)) (ev_int)) (ew_or1 (et_gt (ev_len h_len (ev_var 2)) (ev_int)))).t) (eb_one (es_raise x_BadKnot rfl tkB)) (eb_nil))
    (eb_one (es_exM (em_base m_Knot b_Knot g_Knot (hr.mono (by decide)) tkB (eam_own 0 (eam_cons (ev_lst (ea_cons (ev_var 1) (ea_nil))) (eam_cons (ev_var 2) (eam_nil)))))))
theorem bo_Sieve_init (h_len : mg "len" = none) (fi_Knot : Addr) (c_is_kind : Callee P w K mg base cl "is_kind" 1 1 f_is_kind) (m_Knot : CalleeM P w K mg base cl fi_Knot 1 3 f_Knot_init) (x_BadKnot : ExcK K mg cl "BadKnot") (g_Knot : mg "Knot" = some (.ref (cl "Knot"))) (b_Knot : BaseK K (cl "Knot") "__init__" fi_Knot) (fl_kind : FldF K cl osA "kind") : BodyM P w K mg base cl [0] 2 n_Sieve_init "Sieve.__init__" st_Sieve_init b_Sieve_init := by
  intro vs f cdv A outer s H E hr
  exact eb_cons (es_if (et_ne hr.units (ev_len h_len (ev_var 2)) (ev_int)) (eb_one (es_raise x_BadKnot rfl tkB)) (eb_nil))
    (eb_cons (es_if (et_not (et_val (ev_call c_is_kind (hr.mono (by decide)) tkB (ea_cons (ev_var 3) (ea_nil))))) (eb_one (es_raise x_BadKnot rfl tkB)) (eb_nil))
    (eb_cons (es_exM (em_base m_Knot b_Knot g_Knot (hr.mono (by decide)) tkB (eam_own 0 (eam_cons (ev_lst (ea_cons (ev_var 1) (ea_nil))) (eam_cons (ev_var 2) (eam_nil))))))
    (eb_one (es_fld 0 fl_kind (ev_var 3)))))
theorem bo_Joiner_init (h_len : mg "len" = none) (fi_Knot : Addr) (m_Knot : CalleeM P w K mg base cl fi_Knot 1 3 f_Knot_init) (x_BadKnot : ExcK K mg cl "BadKnot") (g_Knot : mg "Knot" = some (.ref (cl "Knot"))) (b_Knot : BaseK K (cl "Knot") "__init__" fi_Knot) : BodyM P w K mg base cl [0] 2 n_Joiner_init "Joiner.__init__" st_Joiner_init b_Joiner_init := by
  intro vs f cdv A outer s H E hr
  exact eb_cons (es_if ((ew_or (et_lt (ev_len h_len (ev_var 1)) (ev_int)) (ew_or1 (et_gt (ev_len h_len (ev_var 1)) (ev_int)))).t) (eb_one (es_raise x_BadKnot rfl tkB)) (eb_nil))
    (eb_one (es_exM (em_base m_Knot b_Knot g_Knot (hr.mono (by decide)) tkB (eam_own 0 (eam_cons (ev_var 1) (eam_cons (ev_lst (ea_cons (ev_var 2) (ea_nil))) (eam_nil)))))))
theorem bo_law_make (h_list : mg "list" = none) (fi_Source : Addr) (fi_Drain : Addr) (fi_Parter : Addr) (fi_FirstParter : Addr) (fi_Sieve : Addr) (fi_Joiner : Addr) (m_Source : CalleeM P w K mg base cl fi_Source 3 4 f_Source_init) (m_Drain : CalleeM P w K mg base cl fi_Drain 3 3 f_Drain_init) (m_Parter : CalleeM P w K mg base cl fi_Parter 3 3 f_Parter_init) (m_FirstParter : CalleeM P w K mg base cl fi_FirstParter 3 3 f_FirstParter_init) (m_Sieve : CalleeM P w K mg base cl fi_Sieve 3 4 f_Sieve_init) (m_Joiner : CalleeM P w K mg base cl fi_Joiner 3 3 f_Joiner_init) (g_Source : mg "Source" = some (.ref (cl "Source"))) (k_Source : Mk K (cl "Source") fi_Source) (g_Drain : mg "Drain" = some (.ref (cl "Drain"))) (k_Drain : Mk K (cl "Drain") fi_Drain) (g_Parter : mg "Parter" = some (.ref (cl "Parter"))) (k_Parter : Mk K (cl "Parter") fi_Parter) (g_FirstParter : mg "FirstParter" = some (.ref (cl "FirstParter"))) (k_FirstParter : Mk K (cl "FirstParter") fi_FirstParter) (g_Sieve : mg "Sieve" = some (.ref (cl "Sieve"))) (k_Sieve : Mk K (cl "Sieve") fi_Sieve) (g_Joiner : mg "Joiner" = some (.ref (cl "Joiner"))) (k_Joiner : Mk K (cl "Joiner") fi_Joiner) : BodyOk P w K mg base (cl0 cl) 4 n_law_make "_law_make" st_law_make b_law_make := by
  intro f cdv A outer s H E hr
  exact eb_cons (es_if (et_eq hr.units (ev_ix (ev_var 0) (ev_int)) (ev_str)) (eb_one (es_ret (ev_new m_Source k_Source g_Source (hr.mono (by decide)) tkB (ea_cons (ev_ix (ev_ix (ev_var 0) (ev_int)) (ev_int)) (ea_cons (ev_ix (ev_var 0) (ev_int)) (ea_cons (ev_list1 h_list (ev_ix (ev_var 0) (ev_int))) (ea_nil))))))) (eb_nil))
    (eb_cons (es_if (et_eq hr.units (ev_ix (ev_var 0) (ev_int)) (ev_str)) (eb_one (es_ret (ev_new m_Drain k_Drain g_Drain (hr.mono (by decide)) tkB (ea_cons (ev_ix (ev_ix (ev_var 0) (ev_int)) (ev_int)) (ea_cons (ev_ix (ev_var 0) (ev_int)) (ea_nil)))))) (eb_nil))
    (eb_cons (es_if (et_eq hr.units (ev_ix (ev_var 0) (ev_int)) (ev_str)) (eb_one (es_ret (ev_new m_Parter k_Parter g_Parter (hr.mono (by decide)) tkB (ea_cons (ev_ix (ev_ix (ev_var 0) (ev_int)) (ev_int)) (ea_cons (ev_list1 h_list (ev_ix (ev_var 0) (ev_int))) (ea_nil)))))) (eb_nil))
    (eb_cons (es_if (et_eq hr.units (ev_ix (ev_var 0) (ev_int)) (ev_str)) (eb_one (es_ret (ev_new m_FirstParter k_FirstParter g_FirstParter (hr.mono (by decide)) tkB (ea_cons (ev_ix (ev_ix (ev_var 0) (ev_int)) (ev_int)) (ea_cons (ev_list1 h_list (ev_ix (ev_var 0) (ev_int))) (ea_nil)))))) (eb_nil))
    (eb_cons (es_if (et_eq hr.units (ev_ix (ev_var 0) (ev_int)) (ev_str)) (eb_one (es_ret (ev_new m_Sieve k_Sieve g_Sieve (hr.mono (by decide)) tkB (ea_cons (ev_ix (ev_ix (ev_var 0) (ev_int)) (ev_int)) (ea_cons (ev_list1 h_list (ev_ix (ev_var 0) (ev_int))) (ea_cons (ev_ix (ev_ix (ev_var 0) (ev_int)) (ev_int)) (ea_nil))))))) (eb_nil))
    (eb_one (es_ret (ev_new m_Joiner k_Joiner g_Joiner (hr.mono (by decide)) tkB (ea_cons (ev_list1 h_list (ev_ix (ev_var 0) (ev_int))) (ea_cons (ev_ix (ev_ix (ev_var 0) (ev_int)) (ev_int)) (ea_nil))))))))))
theorem bo_stand_once (h_list : mg "list" = none) (h_range : mg "range" = none) (h_sorted : mg "sorted" = none) : BodyOk P w K mg base (cl0 cl) 0 n_stand_once "stand_once" st_stand_once b_stand_once := by
  intro f cdv A outer s H E hr
  exact eb_cons (es_setO 2 (ev_fit 1 (ev_lst (ea_nil))) sc_stand_once.nd)
    (eb_cons (es_for poB rfl (ei_any (ev_var 0)) (eg_name 3 sc_stand_once.nd) (eb_one (es_mtP ml_ext (fun _ _ p u => pe_bm PySem.F.plainAttrs_list PySem.F.slot_list_extend PySem.F.type_list_extend mt_extS p (pa_cons u pa_nil)) (evp_n 2) (ev_var 3))))
    (eb_one (es_fz 2 (es_ret (ev_eq hr.units (ev_srt1 h_sorted (ea_cons (ev_var 2) (ea_nil))) (ev_lr1 rfl h_list h_range (ev_var 1)))))))
theorem bo_Work_init (h_len : mg "len" = none) (h_list : mg "list" = none) (c_stand_once : Callee P w K mg base cl "stand_once" 1 2 f_stand_once) (x_BadWork : ExcK K mg cl "BadWork") (fl_outs : FldF K cl osA "outs") (fl_ins : FldF K cl osA "ins") (fl_belts : FldF K cl osA "belts") (fl_knots : FldF K cl osA "knots") : BodyM P w K mg base cl [0, 1, 2] 1 n_Work_init "Work.__init__" st_Work_init b_Work_init := by
  intro vs f cdv A outer s H E hr
  exact eb_cons (es_if ((ew_or (et_lt (ev_len h_len (ev_var 1)) (ev_int)) (ew_or1 (et_gt (ev_len h_len (ev_var 1)) (ev_int)))).t) (eb_one (es_raise x_BadWork rfl tkB)) (eb_nil))
    (eb_cons (es_if ((ew_or (et_lt (ev_len h_len (ev_var 2)) (ev_int)) (ew_or1 (et_gt (ev_len h_len (ev_var 2)) (ev_int)))).t) (eb_one (es_raise x_BadWork rfl tkB)) (eb_nil))
    (eb_cons (es_if (et_not (et_val (ev_call c_stand_once (hr.mono (by decide)) tkB (ea_cons (ev_lcK 0 (hfo := fun u hu => by simp only [List.map_cons, List.map_nil, List.mem_cons, List.not_mem_nil, or_false] at hu; first | (subst hu; rfl) | (rcases hu with rfl | rfl <;> rfl)) (own := [("knot", 3)]) rfl sc_Work_init.nd (eih_list (ev_var 2)) (blkOk_by (by first | decide +kernel | kernel_rfl | rfl)) (fun _ _ _ _ _ => eg_name 3 sc_Work_init.nd) (fun _ _ _ _ _ => ets_nil) (fun _ _ _ _ _ => ev_fld fl_outs (ev_var 3))) (ea_cons (ev_len h_len (ev_var 1)) (ea_nil)))))) (eb_one (es_raise x_BadWork rfl tkB)) (eb_nil))
    (eb_cons (es_if (et_not (et_val (ev_call c_stand_once (hr.mono (by decide)) tkB (ea_cons (ev_lcK 0 (hfo := fun u hu => by simp only [List.map_cons, List.map_nil, List.mem_cons, List.not_mem_nil, or_false] at hu; first | (subst hu; rfl) | (rcases hu with rfl | rfl <;> rfl)) (own := [("knot", 3)]) rfl sc_Work_init.nd (eih_list (ev_var 2)) (blkOk_by (by first | decide +kernel | kernel_rfl | rfl)) (fun _ _ _ _ _ => eg_name 3 sc_Work_init.nd) (fun _ _ _ _ _ => ets_nil) (fun _ _ _ _ _ => ev_fld fl_ins (ev_var 3))) (ea_cons (ev_len h_len (ev_var 1)) (ea_nil)))))) (eb_one (es_raise x_BadWork rfl tkB)) (eb_nil))
    (eb_cons (es_fld 0 fl_belts (ev_list1 h_list (ev_var 1)))
    (eb_one (es_fld 0 fl_knots (ev_list1 h_list (ev_var 2))))))))
theorem bo_law_once : BodyOk P w K mg base (cl0 cl) 0 n_law_once "_law_once" st_law_once b_law_once := by
  intro f cdv A outer s H E hr
  exact eb_cons (es_setO 2 (ev_fit 1 (ev_mul (ev_lst (ea_cons (ev_int) (ea_nil))) (ev_var 1))) sc_law_once.nd)
    (eb_cons (es_for poB rfl (ei_any (ev_var 0)) (eg_name 3 sc_law_once.nd) (eb_one (es_for poB rfl (ei_any (ev_var 3)) (eg_name 4 sc_law_once.nd) (eb_cons (es_if ((ew_or (et_lt (ev_var 4) (ev_int)) (ew_or1 (et_ge (ev_var 4) (ev_var 1)))).t) (eb_one (es_ret (ev_bl))) (eb_nil))
  (eb_one (es_agP (evp_n 2) (ev_var 4) (ev_int)))))))
    (eb_one (es_fz 2 (es_ret (ev_eq hr.units (ev_var 2) (ev_mul (ev_lst (ea_cons (ev_int) (ea_nil))) (ev_var 1)))))))
theorem bo_law_good (h_len : mg "len" = none) (c_law_once : Callee P w K mg base cl "_law_once" 1 2 f_law_once) : BodyOk P w K mg base (cl0 cl) 1 n_law_good "_law_good" st_law_good b_law_good := by
  intro f cdv A outer s H E hr
  exact eb_cons (es_if ((ew_or (et_not (et_le_le (ev_int) (ev_len h_len (ev_var 0)) (ev_int))) (ew_or1 (et_not (et_le_le (ev_int) (ev_len h_len (ev_var 1)) (ev_int))))).t) (eb_one (es_ret (ev_bl))) (eb_nil))
    (eb_cons (es_if (et_not (et_val (ev_call c_law_once (hr.mono (by decide)) tkB (ea_cons (ev_lcK 0 (own := [("_law_row_here", 2)]) rfl sc_law_good.nd ((ei_any (ev_var 1)).h) (blkOk_by (by first | decide +kernel | kernel_rfl | rfl)) (fun _ _ _ _ _ => eg_name 2 sc_law_good.nd) (fun _ _ _ _ _ => ets_nil) (fun _ _ _ _ _ => ev_ix (ev_var 2) (ev_int))) (ea_cons (ev_len h_len (ev_var 0)) (ea_nil)))))) (eb_one (es_ret (ev_bl))) (eb_nil))
    (eb_one (es_ret (ev_call c_law_once (hr.mono (by decide)) tkB (ea_cons (ev_lcK 0 (own := [("_law_row_here", 2)]) rfl sc_law_good.nd ((ei_any (ev_var 1)).h) (blkOk_by (by first | decide +kernel | kernel_rfl | rfl)) (fun _ _ _ _ _ => eg_name 2 sc_law_good.nd) (fun _ _ _ _ _ => ets_nil) (fun _ _ _ _ _ => ev_ix (ev_var 2) (ev_int))) (ea_cons (ev_len h_len (ev_var 0)) (ea_nil)))))))
theorem bo_law_whole (h_bool : mg "bool" = none) (h_int : mg "int" = none) (h_isinstance : mg "isinstance" = none) : BodyOk P w K mg base (cl0 cl) 0 n_law_whole "_law_whole" st_law_whole b_law_whole := by
  intro f cdv A outer s H E hr
  exact eb_one (es_ret (ev_and (ev_isi (x := "isinstance") h_isinstance h_int (by decide +kernel) (ev_var 0)) (ev_one (ev_not (ev_isi (x := "isinstance") h_isinstance h_bool (by decide +kernel) (ev_var 0))))))
theorem bo_law_belt_is (h_isinstance : mg "isinstance" = none) (c_law_whole : Callee P w K mg base cl "_law_whole" 1 1 f_law_whole) (g_Belt : mg "Belt" = some (.ref (cl "Belt"))) (is_Belt : IsF K cl tk_Belt osA esA y_Belt) (fl_room : FldF K cl osA "room") (fl_pace : FldF K cl osA "pace") : BodyOk P w K mg base (cl0 cl) 1 n_law_belt_is "_law_belt_is" st_law_belt_is b_law_belt_is := by
  intro f cdv A outer s H E hr
  exact eb_cons (es_if ((ew_or (et_not (et_val (ev_is1 is_Belt (cn_own g_Belt) h_isinstance (ev_var 0)))) (ew_or (et_not (et_val (ev_call c_law_whole (hr.mono (by decide)) tkB (ea_cons (ev_fld fl_room (ev_var 0)) (ea_nil))))) (ew_or1 (et_not (et_val (ev_call c_law_whole (hr.mono (by decide)) tkB (ea_cons (ev_fld fl_pace (ev_var 0)) (ea_nil)))))))).t) (eb_one (es_ret (ev_bl))) (eb_nil))
    (eb_one (es_ret (ev_eq hr.units (ev_tup (ea_cons (ev_fld fl_room (ev_var 0)) (ea_cons (ev_fld fl_pace (ev_var 0)) (ea_nil)))) (ev_var 1))))
theorem bo_law_numbers_are (h_isinstance : mg "isinstance" = none) (h_len : mg "len" = none) (h_list : mg "list" = none) (h_zip : mg "zip" = none) (c_law_whole : Callee P w K mg base cl "_law_whole" 1 1 f_law_whole) : BodyOk P w K mg base (cl0 cl) 1 n_law_numbers_are "_law_numbers_are" st_law_numbers_are b_law_numbers_are := by
  intro f cdv A outer s H E hr
  exact eb_cons (es_if ((ew_or (et_not (et_val (ev_isi (x := "isinstance") h_isinstance h_list (by decide +kernel) (ev_var 0)))) (ew_or1 (et_ne hr.units (ev_len h_len (ev_var 0)) (ev_len h_len (ev_var 1))))).t) (eb_one (es_ret (ev_bl))) (eb_nil))
    (eb_cons (es_for poB rfl (ei_zip h_zip (ea_cons (ev_var 0) (ea_cons (ev_var 1) (ea_nil)))) (eg_tup rfl (egs_cons (eg_name 2 sc_law_numbers_are.nd) (egs_cons (eg_name 3 sc_law_numbers_are.nd) (egs_nil)))) (eb_one (es_if ((ew_or (et_not (et_val (ev_call c_law_whole (hr.mono (by decide)) tkB (ea_cons (ev_var 2) (ea_nil))))) (ew_or1 (et_ne hr.units (ev_var 2) (ev_var 3)))).t) (eb_one (es_ret (ev_bl))) (eb_nil))))
    (eb_one (es_ret (ev_bl))))
theorem bo_law_knot_is (h_isinstance : mg "isinstance" = none) (c_law_numbers_are : Callee P w K mg base cl "_law_numbers_are" 2 2 f_law_numbers_are) (fl_ins : FldF K cl osA "ins") (fl_outs : FldF K cl osA "outs") (g_Source : mg "Source" = some (.ref (cl "Source"))) (is_Source : IsF K cl tk_Source osA esA y_Source) (fl_pace : FldF K cl osA "pace") (fl_kinds : FldF K cl osA "kinds") (g_Drain : mg "Drain" = some (.ref (cl "Drain"))) (is_Drain : IsF K cl tk_Drain osA esA y_Drain) (g_Parter : mg "Parter" = some (.ref (cl "Parter"))) (is_Parter : IsF K cl tk_Parter osA esA y_Parter) (g_FirstParter : mg "FirstParter" = some (.ref (cl "FirstParter"))) (is_FirstParter : IsF K cl tk_FirstParter osA esA y_FirstParter) (g_Sieve : mg "Sieve" = some (.ref (cl "Sieve"))) (is_Sieve : IsF K cl tk_Sieve osA esA y_Sieve) (fl_kind : FldF K cl osA "kind") (g_Joiner : mg "Joiner" = some (.ref (cl "Joiner"))) (is_Joiner : IsF K cl tk_Joiner osA esA y_Joiner) : BodyOk P w K mg base (cl0 cl) 2 n_law_knot_is "_law_knot_is" st_law_knot_is b_law_knot_is := by
  intro f cdv A outer s H E hr
  exact eb_cons (es_if ((ew_or (et_not (et_val (ev_call c_law_numbers_are (hr.mono (by decide)) tkB (ea_cons (ev_fld fl_ins (ev_var 0)) (ea_cons (ev_ix (ev_var 1) (ev_int)) (ea_nil)))))) (ew_or1 (et_not (et_val (ev_call c_law_numbers_are (hr.mono (by decide)) tkB (ea_cons (ev_fld fl_outs (ev_var 0)) (ea_cons (ev_ix (ev_var 1) (ev_int)) (ea_nil)))))))).t) (eb_one (es_ret (ev_bl))) (eb_nil))
    (eb_cons (es_if (et_eq hr.units (ev_ix (ev_var 1) (ev_int)) (ev_str)) (eb_one (es_ret (ev_and (ev_is1 is_Source (cn_own g_Source) h_isinstance (ev_var 0)) (ev_one (ev_call c_law_numbers_are (hr.mono (by decide)) tkB (ea_cons (ev_add (ev_lst (ea_cons (ev_fld fl_pace (ev_var 0)) (ea_nil))) (ev_fld fl_kinds (ev_var 0))) (ea_cons (ev_add (ev_lst (ea_cons (ev_ix (ev_var 1) (ev_int)) (ea_nil))) (ev_ix (ev_var 1) (ev_int))) (ea_nil)))))))) (eb_nil))
    (eb_cons (es_if (et_eq hr.units (ev_ix (ev_var 1) (ev_int)) (ev_str)) (eb_one (es_ret (ev_and (ev_is1 is_Drain (cn_own g_Drain) h_isinstance (ev_var 0)) (ev_one (ev_call c_law_numbers_are (hr.mono (by decide)) tkB (ea_cons (ev_lst (ea_cons (ev_fld fl_pace (ev_var 0)) (ea_nil))) (ea_cons (ev_lst (ea_cons (ev_ix (ev_var 1) (ev_int)) (ea_nil))) (ea_nil)))))))) (eb_nil))
    (eb_cons (es_if (et_eq hr.units (ev_ix (ev_var 1) (ev_int)) (ev_str)) (eb_one (es_ret (ev_is1 is_Parter (cn_own g_Parter) h_isinstance (ev_var 0)))) (eb_nil))
    (eb_cons (es_if (et_eq hr.units (ev_ix (ev_var 1) (ev_int)) (ev_str)) (eb_one (es_ret (ev_is1 is_FirstParter (cn_own g_FirstParter) h_isinstance (ev_var 0)))) (eb_nil))
    (eb_cons (es_if (et_eq hr.units (ev_ix (ev_var 1) (ev_int)) (ev_str)) (eb_one (es_ret (ev_and (ev_is1 is_Sieve (cn_own g_Sieve) h_isinstance (ev_var 0)) (ev_one (ev_call c_law_numbers_are (hr.mono (by decide)) tkB (ea_cons (ev_lst (ea_cons (ev_fld fl_kind (ev_var 0)) (ea_nil))) (ea_cons (ev_ix (ev_var 1) (ev_int)) (ea_nil)))))))) (eb_nil))
    (eb_one (es_ret (ev_is1 is_Joiner (cn_own g_Joiner) h_isinstance (ev_var 0)))))))))
theorem bo_law_work_is (h_isinstance : mg "isinstance" = none) (h_len : mg "len" = none) (h_list : mg "list" = none) (h_zip : mg "zip" = none) (c_law_belt_is : Callee P w K mg base cl "_law_belt_is" 2 2 f_law_belt_is) (c_law_knot_is : Callee P w K mg base cl "_law_knot_is" 3 2 f_law_knot_is) (g_Work : mg "Work" = some (.ref (cl "Work"))) (is_Work : IsF K cl tk_Work osA esA y_Work) (fl_belts : FldF K cl osA "belts") (fl_knots : FldF K cl osA "knots") : BodyOk P w K mg base (cl0 cl) 3 n_law_work_is "_law_work_is" st_law_work_is b_law_work_is := by
  intro f cdv A outer s H E hr
  exact eb_cons (es_if ((ew_or (et_not (et_val (ev_is1 is_Work (cn_own g_Work) h_isinstance (ev_var 0)))) (ew_or (et_not (et_val (ev_isi (x := "isinstance") h_isinstance h_list (by decide +kernel) (ev_fld fl_belts (ev_var 0))))) (ew_or1 (et_not (et_val (ev_isi (x := "isinstance") h_isinstance h_list (by decide +kernel) (ev_fld fl_knots (ev_var 0)))))))).t) (eb_one (es_ret (ev_bl))) (eb_nil))
    (eb_cons (es_if ((ew_or (et_ne hr.units (ev_len h_len (ev_fld fl_belts (ev_var 0))) (ev_len h_len (ev_var 1))) (ew_or1 (et_ne hr.units (ev_len h_len (ev_fld fl_knots (ev_var 0))) (ev_len h_len (ev_var 2))))).t) (eb_one (es_ret (ev_bl))) (eb_nil))
    (eb_cons (es_for poB rfl (ei_zip h_zip (ea_cons (ev_fld fl_belts (ev_var 0)) (ea_cons (ev_var 1) (ea_nil)))) (eg_tup rfl (egs_cons (eg_name 3 sc_law_work_is.nd) (egs_cons (eg_name 4 sc_law_work_is.nd) (egs_nil)))) (eb_one (es_if (et_not (et_val (ev_call c_law_belt_is (hr.mono (by decide)) tkB (ea_cons (ev_var 3) (ea_cons (ev_var 4) (ea_nil)))))) (eb_one (es_ret (ev_bl))) (eb_nil))))
    (eb_cons (es_for poB rfl (ei_zip h_zip (ea_cons (ev_fld fl_knots (ev_var 0)) (ea_cons (ev_var 2) (ea_nil)))) (eg_tup rfl (egs_cons (eg_name 5 sc_law_work_is.nd) (egs_cons (eg_name 6 sc_law_work_is.nd) (egs_nil)))) (eb_one (es_if (et_not (et_val (ev_call c_law_knot_is (hr.mono (by decide)) tkB (ea_cons (ev_var 5) (ea_cons (ev_var 6) (ea_nil)))))) (eb_one (es_ret (ev_bl))) (eb_nil))))
    (eb_one (es_ret (ev_bl))))))
theorem bo_law (h_ValueError : mg "ValueError" = none) (h_isinstance : mg "isinstance" = none) (h_len : mg "len" = none) (fi_law_spoilt : Addr) (fi_Belt : Addr) (fi_Work : Addr) (fi_Drain : Addr) (c_law_fold : Callee P w K mg base cl "_law_fold" 1 1 f_law_fold) (c_law_parts : Callee P w K mg base cl "_law_parts" 5 1 f_law_parts) (c_law_dealt : Callee P w K mg base cl "_law_dealt" 2 2 f_law_dealt) (m_law_spoilt : CalleeM P w K mg base cl fi_law_spoilt 1 4 f_law_spoilt) (c_law_cell : Callee P w K mg base cl "_law_cell" 1 2 f_law_cell) (c_law_mix : Callee P w K mg base cl "_law_mix" 1 2 f_law_mix) (m_Belt : CalleeM P w K mg base cl fi_Belt 1 3 f_Belt_init) (c_law_make : Callee P w K mg base cl "_law_make" 5 1 f_law_make) (m_Work : CalleeM P w K mg base cl fi_Work 2 3 f_Work_init) (c_law_good : Callee P w K mg base cl "_law_good" 2 2 f_law_good) (m_Drain : CalleeM P w K mg base cl fi_Drain 3 3 f_Drain_init) (c_law_work_is : Callee P w K mg base cl "_law_work_is" 4 3 f_law_work_is) (gf_law_spoilt : mg "_law_spoilt" = some (.ref fi_law_spoilt)) (g_Belt : mg "Belt" = some (.ref (cl "Belt"))) (k_Belt : Mk K (cl "Belt") fi_Belt) (g_Work : mg "Work" = some (.ref (cl "Work"))) (k_Work : Mk K (cl "Work") fi_Work) (g_BadWork : mg "BadWork" = some (.ref (cl "BadWork"))) (is_BadWork : IsF K cl tk_BadWork osA esA y_BadWork) (is_ValueError : IsF K cl tk_ValueError osA esA y_ValueError) (g_BadBelt : mg "BadBelt" = some (.ref (cl "BadBelt"))) (g_BadKnot : mg "BadKnot" = some (.ref (cl "BadKnot"))) (g_BadPaces : mg "BadPaces" = some (.ref (cl "BadPaces"))) (g_BadRow : mg "BadRow" = some (.ref (cl "BadRow"))) (g_Moving : mg "Moving" = some (.ref (cl "Moving"))) (g_NoRatio : mg "NoRatio" = some (.ref (cl "NoRatio"))) (g_TooLong : mg "TooLong" = some (.ref (cl "TooLong"))) (g_TooMany : mg "TooMany" = some (.ref (cl "TooMany"))) (is_all_but_BadWork : IsF K cl tk_all_but_BadWork osA esA y_all_but_BadWork) (g_WorkError : mg "WorkError" = some (.ref (cl "WorkError"))) (t_WorkError : ∀ z, cMem z_WorkError z = true → PySem.W.exmOne K (.ref (cl z)) (.ref (cl "WorkError")) = some true) (g_Drain : mg "Drain" = some (.ref (cl "Drain"))) (k_Drain : Mk K (cl "Drain") fi_Drain) : BodyOk P w K mg base (cl0 cl) 5 n_law "law" st_law b_law := by
  intro f cdv A outer s H E hr
  exact eb_cons (es_set 1 (ev_call c_law_fold (hr.mono (by decide)) tkB (ea_cons (ev_var 0) (ea_nil))) sc_law.nd)
    (eb_cons (es_asgK 1 rfl (ev_call c_law_parts (hr.mono (by decide)) tkB (ea_cons (ev_var 0) (ea_nil))) (eng_cons 8 (eng_cons 2 (eng_nil) sc_law.nd) sc_law.nd))
    (eb_cons (es_fz 2 (es_setO 2 (ev_fit 1 (ev_call c_law_dealt (hr.mono (by decide)) tkB (ea_cons (ev_var 2) (ea_cons (ev_var 1) (ea_nil))))) sc_law.nd))
    (eb_cons (es_exM (em_call m_law_spoilt gf_law_spoilt (hr.mono (by decide)) tkB (eam_own 8 (eam_own 2 (eam_cons (ev_call c_law_mix (hr.mono (by decide)) tkB (ea_cons (ev_var 1) (ea_cons (ev_int) (ea_nil)))) (eam_cons (ev_mod (ev_call c_law_cell (hr.mono (by decide)) tkB (ea_cons (ev_var 0) (ea_cons (ev_int) (ea_nil)))) (ev_pow (ev_int) (ev_int))) (eam_nil)))))))
    (eb_cons (es_fz 8 (es_setLcF 3 (k := 0) (F := fun f => eFit 1 (f)) (fun h => semFit 1 (h)) (own := [("_law_room", 10), ("_law_pace", 11)]) rfl sc_law.nd ((ei_any (ev_var 8)).h) (blkOk_by (by first | decide +kernel | kernel_rfl | rfl)) (fun _ _ _ _ _ => eg_tup rfl (egs_cons (eg_name 10 sc_law.nd) (egs_cons (eg_name 11 sc_law.nd) (egs_nil)))) (fun _ _ _ _ _ => ets_nil) (fun _ _ _ _ _ => ev_new m_Belt k_Belt g_Belt (hr.mono (by decide)) takes0 (ea_cons (ev_var 10) (ea_cons (ev_var 11) (ea_nil)))) (sw_true rfl rfl rfl (by decide +kernel))))
    (eb_cons (es_fz 2 (es_setLcF 4 (k := 0) (F := fun f => eFit 1 (f)) (fun h => semFit 1 (h)) (own := [("_law_row_here", 9)]) rfl sc_law.nd ((ei_any (ev_var 2)).h) (blkOk_by (by first | decide +kernel | kernel_rfl | rfl)) (fun _ _ _ _ _ => eg_name 9 sc_law.nd) (fun _ _ _ _ _ => ets_nil) (fun _ _ _ _ _ => ev_call c_law_make (hr.mono (by decide)) takes0 (ea_cons (ev_var 9) (ea_nil))) (sw_true rfl rfl rfl (by decide +kernel))))
    (eb_cons (es_setO 5 (ev_fit 1 (ev_non)) sc_law.nd)
    (eb_cons (es_set 6 (ev_bl) sc_law.nd)
    (eb_cons (es_try 7 g_WorkError tkB (fun W pn xe tk po => eb_one (es_setM 5 (em_new 0 m_Work k_Work g_Work (hr.mono (by decide)) tk (eam_own 3 (eam_own 4 (eam_nil)))) sc_law.nd)) (fun a pn => eb_one (es_set 6 (ev_and (ev_is1 is_BadWork (cn_own g_BadWork) h_isinstance (ev_var 7)) (ev_and (ev_is1 is_ValueError (cn_blt "ValueError" h_ValueError) h_isinstance (ev_var 7)) (ev_one (ev_not (ev_isT (ks := tk_all_but_BadWork) is_all_but_BadWork (cns_cons (cn_own g_BadBelt) (cns_cons (cn_own g_BadKnot) (cns_cons (cn_own g_BadPaces) (cns_cons (cn_own g_BadRow) (cns_cons (cn_own g_Moving) (cns_cons (cn_own g_NoRatio) (cns_cons (cn_own g_TooLong) (cns_cons (cn_own g_TooMany) (cns_nil))))))))) h_isinstance (ev_var 7)))))) sc_law.nd)) t_WorkError sc_law.nd)
    (eb_cons (es_if ((ew_or (et_ne hr.units (ev_len h_len (ev_var 3)) (ev_len h_len (ev_var 8))) (ew_or1 (et_ne hr.units (ev_len h_len (ev_var 4)) (ev_len h_len (ev_var 2))))).t) (eb_one (es_ret (ev_bl))) (eb_nil))
    (eb_cons (es_fz 5 (es_if (et_not (et_val (ev_call c_law_good (hr.mono (by decide)) tkB (ea_cons (ev_var 8) (ea_cons (ev_var 2) (ea_nil)))))) (eb_one (es_ret (ev_and (ev_isN (ev_var 5) (ev_non)) (ev_one (ev_var 6))))) (eb_nil)))
    (eb_cons (es_mt0P ml_clr (fun _ p => pe_bm0 PySem.F.plainAttrs_list PySem.F.slot_list_clear PySem.F.type_list_clear mt_clear p) (evp_n 3))
    (eb_cons (es_mtP ml_app (fun _ _ p u => pe_bm PySem.F.plainAttrs_list PySem.F.slot_list_append PySem.F.type_list_append mt_append p (pa_cons u pa_nil)) (evp_n 4) (ev_new m_Drain k_Drain g_Drain (hr.mono (by decide)) tkB (ea_cons (ev_int) (ea_cons (ev_int) (ea_nil)))))
    (eb_one (es_ret (ev_call c_law_work_is (hr.mono (by decide)) tkB (ea_cons (ev_var 5) (ea_cons (ev_var 8) (ea_cons (ev_var 2) (ea_nil)))))))))))))))))))
end
abbrev hk : PySem.W.Hook := hookB ad fa fn px
def ob (s : PySem.W.SharedT) : He.AlD × Bool := obB ad fa fn px (HandSHeadRun.getT s)
theorem ob_eq (s : PySem.W.SharedT) : ob s = hk.obs s.abs := obB_eq (HandSHeadRun.getT_eq s)
theorem run (w : World) : HandSHeadRun.RunEq Rw (PySem.W.view Rw.prog [49]) hk ob 30000 loose w := run_parts4 (run1 w) (run2 w) (run3 w) (run4 w)
theorem facts {P : Program} {w : World} {K : PySem.W.Frag} {h : Heap} {mg : Str → Option Value} {g : Addr} (X : K.In h) (G : h.Ns mainGlobals mg) (hg : mg ("law" : Str) = some (.ref g)) (c : He.SaysD fa fn K) (hx : pxAll px K = true) :
    ∃ fd : FuncData, (∀ (s : Shared) (u : Value), BindsTo s fd ⟨[u], []⟩ [("_law_script", u)]) ∧ ∀ base : Heap, K.In base → base.Ns mainGlobals mg → FnOk P w K mg base (L2.CX P w) 6 g fd ["_law_script"] (spP K (He.ga K) 1 f_law) := by
  have h_ValueError := He.free_ok X G (c.fact 44 (f := .free "ValueError") rfl)
  have h_bool := He.free_ok X G (c.fact 45 (f := .free "bool") rfl)
  have h_enumerate := He.free_ok X G (c.fact 46 (f := .free "enumerate") rfl)
  have h_int := He.free_ok X G (c.fact 47 (f := .free "int") rfl)
  have h_isinstance := He.free_ok X G (c.fact 48 (f := .free "isinstance") rfl)
  have h_len := He.free_ok X G (c.fact 49 (f := .free "len") rfl)
  have h_list := He.free_ok X G (c.fact 50 (f := .free "list") rfl)
  have h_max := He.free_ok X G (c.fact 51 (f := .free "max") rfl)
  have h_range := He.free_ok X G (c.fact 52 (f := .free "range") rfl)
  have h_reversed := He.free_ok X G (c.fact 53 (f := .free "reversed") rfl)
  have h_sorted := He.free_ok X G (c.fact 54 (f := .free "sorted") rfl)
  have h_zip := He.free_ok X G (c.fact 55 (f := .free "zip") rfl)
  have g_BadBelt := He.glo_ok X G (c.fact 25 (f := .glo "BadBelt") rfl)
  have g_BadKnot := He.glo_ok X G (c.fact 26 (f := .glo "BadKnot") rfl)
  have g_BadPaces := He.glo_ok X G (c.fact 27 (f := .glo "BadPaces") rfl)
  have g_BadRow := He.glo_ok X G (c.fact 28 (f := .glo "BadRow") rfl)
  have g_BadWork := He.glo_ok X G (c.fact 29 (f := .glo "BadWork") rfl)
  have g_Belt := He.glo_ok X G (c.fact 30 (f := .glo "Belt") rfl)
  have g_Drain := He.glo_ok X G (c.fact 31 (f := .glo "Drain") rfl)
  have g_FirstParter := He.glo_ok X G (c.fact 32 (f := .glo "FirstParter") rfl)
  have g_Joiner := He.glo_ok X G (c.fact 33 (f := .glo "Joiner") rfl)
  have g_Knot := He.glo_ok X G (c.fact 34 (f := .glo "Knot") rfl)
  have g_Moving := He.glo_ok X G (c.fact 35 (f := .glo "Moving") rfl)
  have g_NoRatio := He.glo_ok X G (c.fact 36 (f := .glo "NoRatio") rfl)
  have g_Parter := He.glo_ok X G (c.fact 37 (f := .glo "Parter") rfl)
  have g_Sieve := He.glo_ok X G (c.fact 38 (f := .glo "Sieve") rfl)
  have g_Source := He.glo_ok X G (c.fact 39 (f := .glo "Source") rfl)
  have g_TooLong := He.glo_ok X G (c.fact 40 (f := .glo "TooLong") rfl)
  have g_TooMany := He.glo_ok X G (c.fact 41 (f := .glo "TooMany") rfl)
  have g_Work := He.glo_ok X G (c.fact 42 (f := .glo "Work") rfl)
  have g_WorkError := He.glo_ok X G (c.fact 43 (f := .glo "WorkError") rfl)
  let fi_law_outs : Addr := He.ga K "_law_outs"
  have gf_law_outs : mg "_law_outs" = some (.ref fi_law_outs) := He.glo_ok X G (c.fact 9 (f := .glo "_law_outs") rfl)
  have x_BadBelt := ExcK.of g_BadBelt (c.fact 56 (f := .exc "BadBelt") rfl)
  have x_BadKnot := ExcK.of g_BadKnot (c.fact 57 (f := .exc "BadKnot") rfl)
  let fi_Knot : Addr := He.ma K (He.ga K "Knot") "__init__"
  let fi_Source : Addr := He.ma K (He.ga K "Source") "__init__"
  have k_Source := He.mkr_ok (c.fact 58 (f := .mkr "Source") rfl)
  let fi_Drain : Addr := He.ma K (He.ga K "Drain") "__init__"
  have k_Drain := He.mkr_ok (c.fact 59 (f := .mkr "Drain") rfl)
  let fi_Parter : Addr := He.ma K (He.ga K "Parter") "__init__"
  have k_Parter := He.mkr_ok (c.fact 60 (f := .mkr "Parter") rfl)
  let fi_FirstParter : Addr := He.ma K (He.ga K "FirstParter") "__init__"
  have k_FirstParter := He.mkr_ok (c.fact 61 (f := .mkr "FirstParter") rfl)
  let fi_Sieve : Addr := He.ma K (He.ga K "Sieve") "__init__"
  have k_Sieve := He.mkr_ok (c.fact 62 (f := .mkr "Sieve") rfl)
  let fi_Joiner : Addr := He.ma K (He.ga K "Joiner") "__init__"
  have k_Joiner := He.mkr_ok (c.fact 63 (f := .mkr "Joiner") rfl)
  have x_BadWork := ExcK.of g_BadWork (c.fact 64 (f := .exc "BadWork") rfl)
  let fi_law_spoilt : Addr := He.ga K "_law_spoilt"
  have gf_law_spoilt : mg "_law_spoilt" = some (.ref fi_law_spoilt) := He.glo_ok X G (c.fact 13 (f := .glo "_law_spoilt") rfl)
  let fi_Belt : Addr := He.ma K (He.ga K "Belt") "__init__"
  have k_Belt := He.mkr_ok (c.fact 65 (f := .mkr "Belt") rfl)
  let fi_Work : Addr := He.ma K (He.ga K "Work") "__init__"
  have k_Work := He.mkr_ok (c.fact 66 (f := .mkr "Work") rfl)
  have fl_room := fldB_ok (pxAll_get hx 0 (f := fldB osA "room") rfl)
  have fl_pace := fldB_ok (pxAll_get hx 1 (f := fldB osA "pace") rfl)
  have fl_ins := fldB_ok (pxAll_get hx 2 (f := fldB osA "ins") rfl)
  have fl_outs := fldB_ok (pxAll_get hx 3 (f := fldB osA "outs") rfl)
  have b_Knot := baseB_ok (pxAll_get hx 4 (f := baseB "Knot" "__init__") rfl)
  have fl_kinds := fldB_ok (pxAll_get hx 5 (f := fldB osA "kinds") rfl)
  have fl_kind := fldB_ok (pxAll_get hx 6 (f := fldB osA "kind") rfl)
  have fl_belts := fldB_ok (pxAll_get hx 7 (f := fldB osA "belts") rfl)
  have fl_knots := fldB_ok (pxAll_get hx 8 (f := fldB osA "knots") rfl)
  have is_Belt := isB_ok (pxAll_get hx 9 (f := isB tk_Belt osA esA y_Belt) rfl)
  have is_Source := isB_ok (pxAll_get hx 10 (f := isB tk_Source osA esA y_Source) rfl)
  have is_Drain := isB_ok (pxAll_get hx 11 (f := isB tk_Drain osA esA y_Drain) rfl)
  have is_Parter := isB_ok (pxAll_get hx 12 (f := isB tk_Parter osA esA y_Parter) rfl)
  have is_FirstParter := isB_ok (pxAll_get hx 13 (f := isB tk_FirstParter osA esA y_FirstParter) rfl)
  have is_Sieve := isB_ok (pxAll_get hx 14 (f := isB tk_Sieve osA esA y_Sieve) rfl)
  have is_Joiner := isB_ok (pxAll_get hx 15 (f := isB tk_Joiner osA esA y_Joiner) rfl)
  have is_Work := isB_ok (pxAll_get hx 16 (f := isB tk_Work osA esA y_Work) rfl)
  have is_BadWork := isB_ok (pxAll_get hx 17 (f := isB tk_BadWork osA esA y_BadWork) rfl)
  have is_ValueError := isB_ok (pxAll_get hx 18 (f := isB tk_ValueError osA esA y_ValueError) rfl)
  have is_all_but_BadWork := isB_ok (pxAll_get hx 19 (f := isB tk_all_but_BadWork osA esA y_all_but_BadWork) rfl)
  have t_WorkError := exmB_ok (pxAll_get hx 20 (f := exmB z_WorkError "WorkError") rfl)
  obtain ⟨fd_law_fold, F_law_fold⟩ := c.def_ 0 (d := d_law_fold) rfl
  have c_law_fold : ∀ base : Heap, Callee P w K mg base (He.ga K) "_law_fold" 1 1 f_law_fold := fun base => Callee.of F_law_fold (He.glo_ok X G (c.fact 0 (f := .glo "_law_fold") rfl)) sc_law_fold (bo_law_fold ) fun _ _ _ _ _ _ us hl => match us, hl with | [_], _ => rfl
  obtain ⟨fd_law_mix, F_law_mix⟩ := c.def_ 1 (d := d_law_mix) rfl
  have c_law_mix : ∀ base : Heap, Callee P w K mg base (He.ga K) "_law_mix" 1 2 f_law_mix := fun base => Callee.of F_law_mix (He.glo_ok X G (c.fact 1 (f := .glo "_law_mix") rfl)) sc_law_mix (bo_law_mix ) fun _ _ _ _ _ _ us hl => match us, hl with | [_, _], _ => rfl
  obtain ⟨fd_law_cell, F_law_cell⟩ := c.def_ 2 (d := d_law_cell) rfl
  have c_law_cell : ∀ base : Heap, Callee P w K mg base (He.ga K) "_law_cell" 1 2 f_law_cell := fun base => Callee.of F_law_cell (He.glo_ok X G (c.fact 2 (f := .glo "_law_cell") rfl)) sc_law_cell (bo_law_cell h_len) fun _ _ _ _ _ _ us hl => match us, hl with | [_, _], _ => rfl
  obtain ⟨fd_law_belt, F_law_belt⟩ := c.def_ 3 (d := d_law_belt) rfl
  have c_law_belt : ∀ base : Heap, Callee P w K mg base (He.ga K) "_law_belt" 2 2 f_law_belt := fun base => Callee.of F_law_belt (He.glo_ok X G (c.fact 3 (f := .glo "_law_belt") rfl)) sc_law_belt (bo_law_belt (c_law_mix base)) fun _ _ _ _ _ _ us hl => match us, hl with | [_, _], _ => rfl
  obtain ⟨fd_law_lanes, F_law_lanes⟩ := c.def_ 4 (d := d_law_lanes) rfl
  have c_law_lanes : ∀ base : Heap, Callee P w K mg base (He.ga K) "_law_lanes" 3 2 f_law_lanes := fun base => Callee.of F_law_lanes (He.glo_ok X G (c.fact 4 (f := .glo "_law_lanes") rfl)) sc_law_lanes (bo_law_lanes h_range (c_law_belt base) (c_law_cell base)) fun _ _ _ _ _ _ us hl => match us, hl with | [_, _], _ => rfl
  obtain ⟨fd_law_comb, F_law_comb⟩ := c.def_ 5 (d := d_law_comb) rfl
  have c_law_comb : ∀ base : Heap, Callee P w K mg base (He.ga K) "_law_comb" 3 1 f_law_comb := fun base => Callee.of F_law_comb (He.glo_ok X G (c.fact 5 (f := .glo "_law_comb") rfl)) sc_law_comb (bo_law_comb h_len h_list h_range (c_law_mix base) (c_law_cell base) (c_law_belt base)) fun _ _ _ _ _ _ us hl => match us, hl with | [_], _ => rfl
  obtain ⟨fd_law_kind, F_law_kind⟩ := c.def_ 6 (d := d_law_kind) rfl
  have c_law_kind : ∀ base : Heap, Callee P w K mg base (He.ga K) "_law_kind" 1 2 f_law_kind := fun base => Callee.of F_law_kind (He.glo_ok X G (c.fact 6 (f := .glo "_law_kind") rfl)) sc_law_kind (bo_law_kind ) fun _ _ _ _ _ _ us hl => match us, hl with | [_, _], _ => rfl
  obtain ⟨fd_law_row, F_law_row⟩ := c.def_ 7 (d := d_law_row) rfl
  have c_law_row : ∀ base : Heap, Callee P w K mg base (He.ga K) "_law_row" 1 5 f_law_row := fun base => Callee.of F_law_row (He.glo_ok X G (c.fact 7 (f := .glo "_law_row") rfl)) sc_law_row (bo_law_row h_range) fun _ _ _ _ _ _ us hl => match us, hl with | [_, _, _, _, _], _ => rfl
  obtain ⟨fd_law_word, F_law_word⟩ := c.def_ 8 (d := d_law_word) rfl
  have c_law_word : ∀ base : Heap, Callee P w K mg base (He.ga K) "_law_word" 1 2 f_law_word := fun base => Callee.of F_law_word (He.glo_ok X G (c.fact 8 (f := .glo "_law_word") rfl)) sc_law_word (bo_law_word h_len) fun _ _ _ _ _ _ us hl => match us, hl with | [_, _], _ => rfl
  obtain ⟨fd_law_outs, F_law_outs⟩ := c.def_ 9 (d := d_law_outs) rfl
  have m_law_outs : ∀ base : Heap, CalleeM P w K mg base (He.ga K) (He.ga K "_law_outs") 3 5 f_law_outs := fun base => CalleeM.of F_law_outs sc_law_outs (bo_law_outs h_len h_list h_range h_reversed (c_law_belt base)) fun _ _ _ _ _ _ us hl => match us, hl with | [_, _, _, _, _], _ => rfl
  obtain ⟨fd_law_web, F_law_web⟩ := c.def_ 10 (d := d_law_web) rfl
  have c_law_web : ∀ base : Heap, Callee P w K mg base (He.ga K) "_law_web" 4 2 f_law_web := fun base => Callee.of F_law_web (He.glo_ok X G (c.fact 10 (f := .glo "_law_web") rfl)) sc_law_web (bo_law_web h_int h_len h_max h_range fi_law_outs (c_law_cell base) (c_law_kind base) (c_law_mix base) (c_law_belt base) (c_law_row base) (c_law_word base) (m_law_outs base) gf_law_outs) fun _ _ _ _ _ _ us hl => match us, hl with | [_, _], _ => rfl
  obtain ⟨fd_law_parts, F_law_parts⟩ := c.def_ 11 (d := d_law_parts) rfl
  have c_law_parts : ∀ base : Heap, Callee P w K mg base (He.ga K) "_law_parts" 5 1 f_law_parts := fun base => Callee.of F_law_parts (He.glo_ok X G (c.fact 11 (f := .glo "_law_parts") rfl)) sc_law_parts (bo_law_parts (c_law_mix base) (c_law_cell base) (c_law_lanes base) (c_law_comb base) (c_law_web base)) fun _ _ _ _ _ _ us hl => match us, hl with | [_], _ => rfl
  obtain ⟨fd_law_dealt, F_law_dealt⟩ := c.def_ 12 (d := d_law_dealt) rfl
  have c_law_dealt : ∀ base : Heap, Callee P w K mg base (He.ga K) "_law_dealt" 2 2 f_law_dealt := fun base => Callee.of F_law_dealt (He.glo_ok X G (c.fact 12 (f := .glo "_law_dealt") rfl)) sc_law_dealt (bo_law_dealt h_enumerate h_len (c_law_mix base)) fun _ _ _ _ _ _ us hl => match us, hl with | [_, _], _ => rfl
  obtain ⟨fd_law_spoilt, F_law_spoilt⟩ := c.def_ 13 (d := d_law_spoilt) rfl
  have m_law_spoilt : ∀ base : Heap, CalleeM P w K mg base (He.ga K) (He.ga K "_law_spoilt") 1 4 f_law_spoilt := fun base => CalleeM.of F_law_spoilt sc_law_spoilt (bo_law_spoilt h_len h_list) fun _ _ _ _ _ _ us hl => match us, hl with | [_, _, _, _], _ => rfl
  obtain ⟨fd_Belt_init, F_Belt_init⟩ := c.def_ 14 (d := d_Belt_init) rfl
  have m_Belt : ∀ base : Heap, CalleeM P w K mg base (He.ga K) (He.ma K (He.ga K "Belt") "__init__") 1 3 f_Belt_init := fun base => CalleeM.of F_Belt_init sc_Belt_init (bo_Belt_init x_BadBelt fl_room fl_pace) fun _ _ _ _ _ _ us hl => match us, hl with | [_, _, _], _ => rfl
  obtain ⟨fd_is_kind, F_is_kind⟩ := c.def_ 15 (d := d_is_kind) rfl
  have c_is_kind : ∀ base : Heap, Callee P w K mg base (He.ga K) "is_kind" 1 1 f_is_kind := fun base => Callee.of F_is_kind (He.glo_ok X G (c.fact 14 (f := .glo "is_kind") rfl)) sc_is_kind (bo_is_kind ) fun _ _ _ _ _ _ us hl => match us, hl with | [_], _ => rfl
  obtain ⟨fd_Knot_init, F_Knot_init⟩ := c.def_ 16 (d := d_Knot_init) rfl
  have m_Knot : ∀ base : Heap, CalleeM P w K mg base (He.ga K) (He.ma K (He.ga K "Knot") "__init__") 1 3 f_Knot_init := fun base => CalleeM.of F_Knot_init sc_Knot_init (bo_Knot_init h_list fl_ins fl_outs) fun _ _ _ _ _ _ us hl => match us, hl with | [_, _, _], _ => rfl
  obtain ⟨fd_Source_init, F_Source_init⟩ := c.def_ 17 (d := d_Source_init) rfl
  have m_Source : ∀ base : Heap, CalleeM P w K mg base (He.ga K) (He.ma K (He.ga K "Source") "__init__") 3 4 f_Source_init := fun base => CalleeM.of F_Source_init sc_Source_init (bo_Source_init h_len h_list fi_Knot (c_is_kind base) (m_Knot base) x_BadKnot g_Knot b_Knot fl_pace fl_kinds) fun _ _ _ _ _ _ us hl => match us, hl with | [_, _, _, _], _ => rfl
  obtain ⟨fd_Drain_init, F_Drain_init⟩ := c.def_ 18 (d := d_Drain_init) rfl
  have m_Drain : ∀ base : Heap, CalleeM P w K mg base (He.ga K) (He.ma K (He.ga K "Drain") "__init__") 3 3 f_Drain_init := fun base => CalleeM.of F_Drain_init sc_Drain_init (bo_Drain_init fi_Knot (m_Knot base) x_BadKnot g_Knot b_Knot fl_pace) fun _ _ _ _ _ _ us hl => match us, hl with | [_, _, _], _ => rfl
  obtain ⟨fd_Parter_init, F_Parter_init⟩ := c.def_ 19 (d := d_Parter_init) rfl
  have m_Parter : ∀ base : Heap, CalleeM P w K mg base (He.ga K) (He.ma K (He.ga K "Parter") "__init__") 3 3 f_Parter_init := fun base => CalleeM.of F_Parter_init sc_Parter_init (bo_Parter_init h_len fi_Knot (m_Knot base) x_BadKnot g_Knot b_Knot) fun _ _ _ _ _ _ us hl => match us, hl with | [_, _, _], _ => rfl
  obtain ⟨fd_FirstParter_init, F_FirstParter_init⟩ := c.def_ 20 (d := d_FirstParter_init) rfl
  have m_FirstParter : ∀ base : Heap, CalleeM P w K mg base (He.ga K) (He.ma K (He.ga K "FirstParter") "__init__") 3 3 f_FirstParter_init := fun base => CalleeM.of F_FirstParter_init sc_FirstParter_init (bo_FirstParter_init h_len fi_Knot (m_Knot base) x_BadKnot g_Knot b_Knot) fun _ _ _ _ _ _ us hl => match us, hl with | [_, _, _], _ => rfl
  obtain ⟨fd_Sieve_init, F_Sieve_init⟩ := c.def_ 21 (d := d_Sieve_init) rfl
  have m_Sieve : ∀ base : Heap, CalleeM P w K mg base (He.ga K) (He.ma K (He.ga K "Sieve") "__init__") 3 4 f_Sieve_init := fun base => CalleeM.of F_Sieve_init sc_Sieve_init (bo_Sieve_init h_len fi_Knot (c_is_kind base) (m_Knot base) x_BadKnot g_Knot b_Knot fl_kind) fun _ _ _ _ _ _ us hl => match us, hl with | [_, _, _, _], _ => rfl
  obtain ⟨fd_Joiner_init, F_Joiner_init⟩ := c.def_ 22 (d := d_Joiner_init) rfl
  have m_Joiner : ∀ base : Heap, CalleeM P w K mg base (He.ga K) (He.ma K (He.ga K "Joiner") "__init__") 3 3 f_Joiner_init := fun base => CalleeM.of F_Joiner_init sc_Joiner_init (bo_Joiner_init h_len fi_Knot (m_Knot base) x_BadKnot g_Knot b_Knot) fun _ _ _ _ _ _ us hl => match us, hl with | [_, _, _], _ => rfl
  obtain ⟨fd_law_make, F_law_make⟩ := c.def_ 23 (d := d_law_make) rfl
  have c_law_make : ∀ base : Heap, Callee P w K mg base (He.ga K) "_law_make" 5 1 f_law_make := fun base => Callee.of F_law_make (He.glo_ok X G (c.fact 15 (f := .glo "_law_make") rfl)) sc_law_make (bo_law_make h_list fi_Source fi_Drain fi_Parter fi_FirstParter fi_Sieve fi_Joiner (m_Source base) (m_Drain base) (m_Parter base) (m_FirstParter base) (m_Sieve base) (m_Joiner base) g_Source k_Source g_Drain k_Drain g_Parter k_Parter g_FirstParter k_FirstParter g_Sieve k_Sieve g_Joiner k_Joiner) fun _ _ _ _ _ _ us hl => match us, hl with | [_], _ => rfl
  obtain ⟨fd_stand_once, F_stand_once⟩ := c.def_ 24 (d := d_stand_once) rfl
  have c_stand_once : ∀ base : Heap, Callee P w K mg base (He.ga K) "stand_once" 1 2 f_stand_once := fun base => Callee.of F_stand_once (He.glo_ok X G (c.fact 16 (f := .glo "stand_once") rfl)) sc_stand_once (bo_stand_once h_list h_range h_sorted) fun _ _ _ _ _ _ us hl => match us, hl with | [_, _], _ => rfl
  obtain ⟨fd_Work_init, F_Work_init⟩ := c.def_ 25 (d := d_Work_init) rfl
  have m_Work : ∀ base : Heap, CalleeM P w K mg base (He.ga K) (He.ma K (He.ga K "Work") "__init__") 2 3 f_Work_init := fun base => CalleeM.of F_Work_init sc_Work_init (bo_Work_init h_len h_list (c_stand_once base) x_BadWork fl_outs fl_ins fl_belts fl_knots) fun _ _ _ _ _ _ us hl => match us, hl with | [_, _, _], _ => rfl
  obtain ⟨fd_law_once, F_law_once⟩ := c.def_ 26 (d := d_law_once) rfl
  have c_law_once : ∀ base : Heap, Callee P w K mg base (He.ga K) "_law_once" 1 2 f_law_once := fun base => Callee.of F_law_once (He.glo_ok X G (c.fact 17 (f := .glo "_law_once") rfl)) sc_law_once (bo_law_once ) fun _ _ _ _ _ _ us hl => match us, hl with | [_, _], _ => rfl
  obtain ⟨fd_law_good, F_law_good⟩ := c.def_ 27 (d := d_law_good) rfl
  have c_law_good : ∀ base : Heap, Callee P w K mg base (He.ga K) "_law_good" 2 2 f_law_good := fun base => Callee.of F_law_good (He.glo_ok X G (c.fact 18 (f := .glo "_law_good") rfl)) sc_law_good (bo_law_good h_len (c_law_once base)) fun _ _ _ _ _ _ us hl => match us, hl with | [_, _], _ => rfl
  obtain ⟨fd_law_whole, F_law_whole⟩ := c.def_ 28 (d := d_law_whole) rfl
  have c_law_whole : ∀ base : Heap, Callee P w K mg base (He.ga K) "_law_whole" 1 1 f_law_whole := fun base => Callee.of F_law_whole (He.glo_ok X G (c.fact 19 (f := .glo "_law_whole") rfl)) sc_law_whole (bo_law_whole h_bool h_int h_isinstance) fun _ _ _ _ _ _ us hl => match us, hl with | [_], _ => rfl
  obtain ⟨fd_law_belt_is, F_law_belt_is⟩ := c.def_ 29 (d := d_law_belt_is) rfl
  have c_law_belt_is : ∀ base : Heap, Callee P w K mg base (He.ga K) "_law_belt_is" 2 2 f_law_belt_is := fun base => Callee.of F_law_belt_is (He.glo_ok X G (c.fact 20 (f := .glo "_law_belt_is") rfl)) sc_law_belt_is (bo_law_belt_is h_isinstance (c_law_whole base) g_Belt is_Belt fl_room fl_pace) fun _ _ _ _ _ _ us hl => match us, hl with | [_, _], _ => rfl
  obtain ⟨fd_law_numbers_are, F_law_numbers_are⟩ := c.def_ 30 (d := d_law_numbers_are) rfl
  have c_law_numbers_are : ∀ base : Heap, Callee P w K mg base (He.ga K) "_law_numbers_are" 2 2 f_law_numbers_are := fun base => Callee.of F_law_numbers_are (He.glo_ok X G (c.fact 21 (f := .glo "_law_numbers_are") rfl)) sc_law_numbers_are (bo_law_numbers_are h_isinstance h_len h_list h_zip (c_law_whole base)) fun _ _ _ _ _ _ us hl => match us, hl with | [_, _], _ => rfl
  obtain ⟨fd_law_knot_is, F_law_knot_is⟩ := c.def_ 31 (d := d_law_knot_is) rfl
  have c_law_knot_is : ∀ base : Heap, Callee P w K mg base (He.ga K) "_law_knot_is" 3 2 f_law_knot_is := fun base => Callee.of F_law_knot_is (He.glo_ok X G (c.fact 22 (f := .glo "_law_knot_is") rfl)) sc_law_knot_is (bo_law_knot_is h_isinstance (c_law_numbers_are base) fl_ins fl_outs g_Source is_Source fl_pace fl_kinds g_Drain is_Drain g_Parter is_Parter g_FirstParter is_FirstParter g_Sieve is_Sieve fl_kind g_Joiner is_Joiner) fun _ _ _ _ _ _ us hl => match us, hl with | [_, _], _ => rfl
  obtain ⟨fd_law_work_is, F_law_work_is⟩ := c.def_ 32 (d := d_law_work_is) rfl
  have c_law_work_is : ∀ base : Heap, Callee P w K mg base (He.ga K) "_law_work_is" 4 3 f_law_work_is := fun base => Callee.of F_law_work_is (He.glo_ok X G (c.fact 23 (f := .glo "_law_work_is") rfl)) sc_law_work_is (bo_law_work_is h_isinstance h_len h_list h_zip (c_law_belt_is base) (c_law_knot_is base) g_Work is_Work fl_belts fl_knots) fun _ _ _ _ _ _ us hl => match us, hl with | [_, _, _], _ => rfl
  obtain ⟨fd, F⟩ := c.def_ 33 (d := d_law) rfl
  have e := hg.symm.trans (He.glo_ok X G (c.fact 24 (f := .glo "law") rfl))
  cases e
  have b := FunD.bindsA (ps := ["_law_script"]) F fun _ _ _ _ _ _ us hl => match us, hl with | [_], _ => rfl
  exact ⟨fd, fun s u => b s [u] rfl, fun base _ _ => fn_pure F sc_law (bo_law h_ValueError h_isinstance h_len fi_law_spoilt fi_Belt fi_Work fi_Drain (c_law_fold base) (c_law_parts base) (c_law_dealt base) (m_law_spoilt base) (c_law_cell base) (c_law_mix base) (m_Belt base) (c_law_make base) (m_Work base) (c_law_good base) (m_Drain base) (c_law_work_is base) gf_law_spoilt g_Belt k_Belt g_Work k_Work g_BadWork is_BadWork is_ValueError g_BadBelt g_BadKnot g_BadPaces g_BadRow g_Moving g_NoRatio g_TooLong g_TooMany is_all_but_BadWork g_WorkError t_WorkError g_Drain k_Drain)⟩
end K11
namespace K11
open PySem L2 B
theorem cell_eq (ns : List Int) (k : Nat) : ∃ c : Int, f_law_cell [intsL ns, .int k] = .ok (sh (.int c)) := by
  by_cases h : k < ns.length
  · have ha : atI (ns.map D.int) (k : Int) = some (.int ns[k]) := by
      rw [atI_n, List.getElem?_map, List.getElem?_eq_getElem h]; rfl
    exact ⟨ns[k], by simp [f_law_cell, runF, b_law_cell, rho0, intsL, h, ha]⟩
  · exact ⟨0, by simp [f_law_cell, runF, b_law_cell, rho0, intsL, h]⟩
theorem mix_eq (c k : Int) (hk : 0 ≤ k ∧ k ≤ 1000) : ∃ m : Int, f_law_mix [.int c, .int k] = .ok (sh (.int m)) ∧ 0 ≤ m ∧ m < 998244353 := by
  have m1 : mulOk 7919 k := mulOk_l (by decide)
  have m2 : mulOk (7919 * k) k := mulOk_r (by omega)
  have m3 : ∀ x : Int, mulOk x 48271 := fun x => mulOk_r (by decide)
  generalize hs : (c % 2147483647 + 1 + 7919 * k * k) * 48271 % 2147483629 = s
  have s0 : 0 ≤ s ∧ s < 2147483629 := by omega
  have m4 : mulOk s s := mulOk_r (by omega)
  refine ⟨s * s % 998244353, by simp [f_law_mix, runF, b_law_mix, rho0, m1, m2, m3, hs, m4], by omega, by omega⟩
def kOk (k : Int) : Bool := decide (0 ≤ k) && decide (k < 10 ^ 30)
theorem kind_eq (c k : Int) (hk : 0 ≤ k ∧ k ≤ 1000) : ∃ m : Int, kOk m = true ∧ f_law_kind [.int c, .int k] = .ok (sh (.int m)) := by
  have p30 : powOk 10 30 := powOk_s (by decide) (by decide) (by decide)
  have e30 : (10 : Int) ^ 30 = 1000000000000000000000000000000 := by decide
  have v6 : (1000000000000000000000000000000 + 1001 : Nat) < 2 ^ 128 := by decide
  have w6 : (618033988749894848204586834367 : Int).natAbs < 2 ^ 128 := by decide
  have m5 : mulOk (c % 1000000000000000000000000000000 + 1 + k) 618033988749894848204586834367 := mulOk_w 128 128 (by omega) w6 (by decide) (by decide) (by decide)
  refine ⟨(c % 1000000000000000000000000000000 + 1 + k) * 618033988749894848204586834367 % 1000000000000000000000000000000, ?_, by simp [f_law_kind, runF, b_law_kind, rho0, p30, m5]⟩
  unfold kOk
  rw [e30, Bool.and_eq_true, decide_eq_true_eq, decide_eq_true_eq]
  omega
/-! belts -/
abbrev bD (b : Int × Int) : D := .tup [.int b.1, .int b.2]
def bOk (b : Int × Int) : Prop := (1 ≤ b.1 ∧ b.1 ≤ 6) ∧ 1 ≤ b.2 ∧ b.2 ≤ 4
theorem belt_eq (c k : Int) (hk : 0 ≤ k ∧ k ≤ 1000) : ∃ b : Int × Int, bOk b ∧ f_law_belt [.int c, .int k] = .ok (sh (bD b)) := by
  obtain ⟨m, e, p, q⟩ := mix_eq c k hk
  have d3 : divOk 3 := divOk_s (by decide) (by decide)
  have d15 : divOk 15 := divOk_s (by decide) (by decide)
  have d90 : divOk 90 := divOk_s (by decide) (by decide)
  have d180 : divOk 180 := divOk_s (by decide) (by decide)
  by_cases h1 : m / 3 % 5 = 0
  · by_cases h2 : m / 90 % 2 = 0
    · exact ⟨(1 + m / 15 % 6, 1 + m / 180 % 4), ⟨by dsimp only; omega, by dsimp only; omega⟩, by simp [f_law_belt, runF, b_law_belt, rho0, e, d3, d15, d90, d180, h1, h2]⟩
    · exact ⟨(1 + m / 15 % 6, 1), ⟨by dsimp only; omega, by dsimp only; omega⟩, by simp [f_law_belt, runF, b_law_belt, rho0, e, d3, d15, d90, d180, h1, h2]⟩
  · by_cases h2 : m / 90 % 2 = 0
    · exact ⟨(1 + m % 3, 1 + m / 180 % 4), ⟨by dsimp only; omega, by dsimp only; omega⟩, by simp [f_law_belt, runF, b_law_belt, rho0, e, d3, d15, d90, d180, h1, h2]⟩
    · exact ⟨(1 + m % 3, 1), ⟨by dsimp only; omega, by dsimp only; omega⟩, by simp [f_law_belt, runF, b_law_belt, rho0, e, d3, d15, d90, d180, h1, h2]⟩
/-! rows -/
inductive Wd where | source | drain | parter | first | sieve | joiner
  deriving DecidableEq
def Wd.s : Wd → Str
  | .source => "source"
  | .drain => "drain"
  | .parter => "parter"
  | .first => "first"
  | .sieve => "sieve"
  | .joiner => "joiner"
structure Row where
  w : Wd
  i : List Int
  o : List Int
  p : Int
  k : List Int
abbrev Row.d (r : Row) : D := .tup [.str r.w.s, intsL r.i, intsL r.o, .int r.p, intsL r.k]
def Row.Sh (w : Wd) (i o : List Int) : Prop := match w with
  | .source => i = [] ∧ o.length = 1
  | .drain => i.length = 1 ∧ o = []
  | .parter => i.length = 1 ∧ 2 ≤ o.length ∧ o.length ≤ 4
  | .first => i.length = 1 ∧ 2 ≤ o.length ∧ o.length ≤ 4
  | .sieve => i.length = 1 ∧ o.length = 2
  | .joiner => (2 ≤ i.length ∧ i.length ≤ 4) ∧ o.length = 1
structure Row.Ok (r : Row) : Prop where
  sh : Row.Sh r.w r.i r.o
  p : 0 ≤ r.p ∧ r.p ≤ 4
  p1 : r.w = .source → 1 ≤ r.p
  k : r.k.all kOk = true
  ks : r.w = .source → 1 ≤ r.k.length ∧ r.k.length ≤ 6
  kv : r.w = .sieve → r.k.length = 1
  ko : r.w ≠ .source → r.w ≠ .sieve → r.k = []
@[simp] theorem nq_source_drain : (("source" : Str) = ("drain" : Str)) = False := by decide
@[simp] theorem nq_source_parter : (("source" : Str) = ("parter" : Str)) = False := by decide
@[simp] theorem nq_source_first : (("source" : Str) = ("first" : Str)) = False := by decide
@[simp] theorem nq_source_sieve : (("source" : Str) = ("sieve" : Str)) = False := by decide
@[simp] theorem nq_source_joiner : (("source" : Str) = ("joiner" : Str)) = False := by decide
@[simp] theorem nq_drain_source : (("drain" : Str) = ("source" : Str)) = False := by decide
@[simp] theorem nq_drain_parter : (("drain" : Str) = ("parter" : Str)) = False := by decide
@[simp] theorem nq_drain_first : (("drain" : Str) = ("first" : Str)) = False := by decide
@[simp] theorem nq_drain_sieve : (("drain" : Str) = ("sieve" : Str)) = False := by decide
@[simp] theorem nq_drain_joiner : (("drain" : Str) = ("joiner" : Str)) = False := by decide
@[simp] theorem nq_parter_source : (("parter" : Str) = ("source" : Str)) = False := by decide
@[simp] theorem nq_parter_drain : (("parter" : Str) = ("drain" : Str)) = False := by decide
@[simp] theorem nq_parter_first : (("parter" : Str) = ("first" : Str)) = False := by decide
@[simp] theorem nq_parter_sieve : (("parter" : Str) = ("sieve" : Str)) = False := by decide
@[simp] theorem nq_parter_joiner : (("parter" : Str) = ("joiner" : Str)) = False := by decide
@[simp] theorem nq_first_source : (("first" : Str) = ("source" : Str)) = False := by decide
@[simp] theorem nq_first_drain : (("first" : Str) = ("drain" : Str)) = False := by decide
@[simp] theorem nq_first_parter : (("first" : Str) = ("parter" : Str)) = False := by decide
@[simp] theorem nq_first_sieve : (("first" : Str) = ("sieve" : Str)) = False := by decide
@[simp] theorem nq_first_joiner : (("first" : Str) = ("joiner" : Str)) = False := by decide
@[simp] theorem nq_sieve_source : (("sieve" : Str) = ("source" : Str)) = False := by decide
@[simp] theorem nq_sieve_drain : (("sieve" : Str) = ("drain" : Str)) = False := by decide
@[simp] theorem nq_sieve_parter : (("sieve" : Str) = ("parter" : Str)) = False := by decide
@[simp] theorem nq_sieve_first : (("sieve" : Str) = ("first" : Str)) = False := by decide
@[simp] theorem nq_sieve_joiner : (("sieve" : Str) = ("joiner" : Str)) = False := by decide
@[simp] theorem nq_joiner_source : (("joiner" : Str) = ("source" : Str)) = False := by decide
@[simp] theorem nq_joiner_drain : (("joiner" : Str) = ("drain" : Str)) = False := by decide
@[simp] theorem nq_joiner_parter : (("joiner" : Str) = ("parter" : Str)) = False := by decide
@[simp] theorem nq_joiner_first : (("joiner" : Str) = ("first" : Str)) = False := by decide
@[simp] theorem nq_joiner_sieve : (("joiner" : Str) = ("sieve" : Str)) = False := by decide
theorem base_at (ks : List Int) (h : ks.length = 4) (hk : ks.all kOk = true) (x : Int) : ∃ y, kOk y = true ∧ atI (ks.map D.int) (x % 4) = some (.int y) := by
  obtain ⟨j, hj⟩ : ∃ j : Nat, x % 4 = j := ⟨(x % 4).toNat, by omega⟩
  have hjl : j < ks.length := by omega
  exact ⟨ks[j], List.all_eq_true.mp hk _ (List.getElem_mem hjl), by rw [hj]; exact at_ints ks j _ (List.getElem?_eq_getElem hjl)⟩
theorem lc_kinds (s : Int) (w i o : D) (ks : List Int) (h : ks.length = 4) (hk : ks.all kOk = true) (a b : B.Slot) : ∀ (n lo : Nat), lo + n ≤ 100 → ∃ ys : List Int, ys.length = n ∧ ys.all kOk = true ∧
    lcItK 0 (gN 7) tYesF (eIx (eV 4) (eOp modD (eOp fdivD (eV 0) (eO2 addV (eC (.int 9)) (eV 7))) (eC (.int 4)))) [some (0, .int s), some (0, w), some (0, i), some (0, o), some (0, intsL ks), a, b, none] (rng lo n) = .ok (ys.map .int) := by
  intro n
  induction n with
  | zero => intro lo _; exact ⟨[], rfl, rfl, rfl⟩
  | succ n ih =>
    intro lo hn
    have d : divOk (9 + (lo : Int)) := divOk_s (by omega) (by omega)
    obtain ⟨y, ky, hy⟩ := base_at ks h hk (s / (9 + (lo : Int)))
    obtain ⟨ys, l, k, e⟩ := ih (lo + 1) (by omega)
    refine ⟨y :: ys, by rw [List.length_cons, l], by rw [List.all_cons, ky, k]; rfl, ?_⟩
    rw [show ((lo + 1 : Nat) : Int) = (lo : Int) + 1 by omega] at e
    rw [rng_succ, lcItK_cons]
    simp [tYesF, d, hy, e]
theorem row_eq (w : Wd) (s : Int) (i o ks : List Int) (h : ks.length = 4) (hk : ks.all kOk = true) (hs : Row.Sh w i o) : ∃ r : Row, r.Ok ∧ r.w = w ∧ r.i = i ∧ r.o = o ∧ f_law_row [.int s, .str w.s, intsL i, intsL o, intsL ks] = .ok (sh r.d) := by
  have d3 : divOk 3 := divOk_s (by decide) (by decide)
  have d7 : divOk 7 := divOk_s (by decide) (by decide)
  have d11 : divOk 11 := divOk_s (by decide) (by decide)
  have d14 : divOk 14 := divOk_s (by decide) (by decide)
  have d56 : divOk 56 := divOk_s (by decide) (by decide)
  obtain ⟨p, hp, hpd⟩ : ∃ p : Int, (1 ≤ p ∧ p ≤ 4) ∧ p = if s / 7 % 2 = 0 then 1 + s / 14 % 4 else 1 := ⟨if s / 7 % 2 = 0 then 1 + s / 14 % 4 else 1, by split <;> omega, rfl⟩
  obtain ⟨n, hn⟩ : ∃ n : Nat, 1 + s / 3 % 6 = n := ⟨(1 + s / 3 % 6).toNat, by omega⟩
  have sm : small62 (n : Int) := small_of (by omega) (by omega)
  have rl : (rng 0 n).length = n := by unfold rng; simp
  have nl : n ≤ 10000 := by omega
  obtain ⟨y, ky, hy⟩ := base_at ks h hk (s / 11)
  cases w with
  | source =>
    obtain ⟨ys, yl, yk, e⟩ := lc_kinds s (.str "source") (intsL i) (intsL o) ks h hk (some (0, .int p)) (some (0, .lst [])) n 0 (by omega)
    refine ⟨⟨.source, i, o, p, ys⟩, ⟨hs, by dsimp only; omega, fun _ => hp.1, yk, fun _ => ?_, fun z => (by cases z), fun z => absurd rfl z⟩, rfl, rfl, rfl, ?_⟩
    · dsimp only; omega
    · simp only [intsL, Int.natCast_zero] at e
      by_cases h7 : s / 7 % 2 = 0
      · rw [if_pos h7] at hpd
        simp [f_law_row, runF, b_law_row, rho0, Wd.s, d3, d7, d11, d14, d56, h7, hn, sm, wipeE, ← hpd, e, rl, lcEndK_ok nl, Row.d]
      · rw [if_neg h7] at hpd
        subst hpd
        simp [f_law_row, runF, b_law_row, rho0, Wd.s, d3, d7, d11, d14, d56, h7, hn, sm, wipeE, e, rl, lcEndK_ok nl, Row.d]
  | sieve =>
    refine ⟨⟨.sieve, i, o, p, [y]⟩, ⟨hs, by dsimp only; omega, fun _ => hp.1, by simp [ky], fun z => (by cases z), fun _ => rfl, fun _ z => absurd rfl z⟩, rfl, rfl, rfl, ?_⟩
    by_cases h7 : s / 7 % 2 = 0
    · rw [if_pos h7] at hpd
      simp [f_law_row, runF, b_law_row, rho0, Wd.s, d3, d7, d11, d14, d56, h7, ← hpd, hy, Row.d]
    · rw [if_neg h7] at hpd
      subst hpd
      simp [f_law_row, runF, b_law_row, rho0, Wd.s, d3, d7, d11, d14, d56, h7, hy, Row.d]
  | drain =>
    by_cases h56 : s / 56 % 5 = 0
    · refine ⟨⟨.drain, i, o, 0, []⟩, ⟨hs, by dsimp only; omega, fun z => (by cases z), rfl, fun z => (by cases z), fun z => (by cases z), fun _ _ => rfl⟩, rfl, rfl, rfl, ?_⟩
      by_cases h7 : s / 7 % 2 = 0
      · simp [f_law_row, runF, b_law_row, rho0, Wd.s, d3, d7, d11, d14, d56, h7, h56, Row.d]
      · simp [f_law_row, runF, b_law_row, rho0, Wd.s, d3, d7, d11, d14, d56, h7, h56, Row.d]
    · refine ⟨⟨.drain, i, o, p, []⟩, ⟨hs, by dsimp only; omega, fun z => (by cases z), rfl, fun z => (by cases z), fun z => (by cases z), fun _ _ => rfl⟩, rfl, rfl, rfl, ?_⟩
      by_cases h7 : s / 7 % 2 = 0
      · rw [if_pos h7] at hpd
        simp [f_law_row, runF, b_law_row, rho0, Wd.s, d3, d7, d11, d14, d56, h7, h56, hpd, Row.d]
      · rw [if_neg h7] at hpd
        subst hpd
        simp [f_law_row, runF, b_law_row, rho0, Wd.s, d3, d7, d11, d14, d56, h7, h56, Row.d]
  | parter =>
    refine ⟨⟨.parter, i, o, p, []⟩, ⟨hs, by dsimp only; omega, fun _ => hp.1, rfl, fun z => (by cases z), fun z => (by cases z), fun _ _ => rfl⟩, rfl, rfl, rfl, ?_⟩
    by_cases h7 : s / 7 % 2 = 0
    · rw [if_pos h7] at hpd
      simp [f_law_row, runF, b_law_row, rho0, Wd.s, d3, d7, d11, d14, d56, h7, hpd, Row.d]
    · rw [if_neg h7] at hpd
      subst hpd
      simp [f_law_row, runF, b_law_row, rho0, Wd.s, d3, d7, d11, d14, d56, h7, Row.d]
  | first =>
    refine ⟨⟨.first, i, o, p, []⟩, ⟨hs, by dsimp only; omega, fun _ => hp.1, rfl, fun z => (by cases z), fun z => (by cases z), fun _ _ => rfl⟩, rfl, rfl, rfl, ?_⟩
    by_cases h7 : s / 7 % 2 = 0
    · rw [if_pos h7] at hpd
      simp [f_law_row, runF, b_law_row, rho0, Wd.s, d3, d7, d11, d14, d56, h7, hpd, Row.d]
    · rw [if_neg h7] at hpd
      subst hpd
      simp [f_law_row, runF, b_law_row, rho0, Wd.s, d3, d7, d11, d14, d56, h7, Row.d]
  | joiner =>
    refine ⟨⟨.joiner, i, o, p, []⟩, ⟨hs, by dsimp only; omega, fun _ => hp.1, rfl, fun z => (by cases z), fun z => (by cases z), fun _ _ => rfl⟩, rfl, rfl, rfl, ?_⟩
    by_cases h7 : s / 7 % 2 = 0
    · rw [if_pos h7] at hpd
      simp [f_law_row, runF, b_law_row, rho0, Wd.s, d3, d7, d11, d14, d56, h7, hpd, Row.d]
    · rw [if_neg h7] at hpd
      subst hpd
      simp [f_law_row, runF, b_law_row, rho0, Wd.s, d3, d7, d11, d14, d56, h7, Row.d]
/-! the word -/
def jn (s : Int) : Bool := decide (s % 8 = 1) || (decide (s % 8 = 5) || decide (s % 8 = 7))
theorem word_eq (s : Int) (ins : List Int) (h1 : 1 ≤ ins.length) (h4 : ins.length ≤ 4) (hj : jn s = false → ins.length = 1) : ∃ w : Wd, f_law_word [.int s, intsL ins] = .ok (sh (.str w.s)) ∧ w ≠ .source ∧ (w = .joiner → 2 ≤ ins.length) ∧ (w ≠ .joiner → ins.length = 1) := by
  have h8 : s % 8 = 0 ∨ s % 8 = 1 ∨ s % 8 = 2 ∨ s % 8 = 3 ∨ s % 8 = 4 ∨ s % 8 = 5 ∨ s % 8 = 6 ∨ s % 8 = 7 := by omega
  by_cases h2 : (ins.length : Int) < 2
  · have h2' : ins.length < 2 := by omega
    have i1 : ins.length = 1 := by omega
    rcases h8 with h | h | h | h | h | h | h | h
    · exact ⟨.parter, by simp [f_law_word, runF, b_law_word, rho0, h, Wd.s], by simp, by simp, fun _ => i1⟩
    · exact ⟨.parter, by simp [f_law_word, runF, b_law_word, rho0, h, Wd.s, h2, h2'], by simp, by simp, fun _ => i1⟩
    · exact ⟨.first, by simp [f_law_word, runF, b_law_word, rho0, h, Wd.s], by simp, by simp, fun _ => i1⟩
    · exact ⟨.sieve, by simp [f_law_word, runF, b_law_word, rho0, h, Wd.s], by simp, by simp, fun _ => i1⟩
    · exact ⟨.parter, by simp [f_law_word, runF, b_law_word, rho0, h, Wd.s], by simp, by simp, fun _ => i1⟩
    · exact ⟨.parter, by simp [f_law_word, runF, b_law_word, rho0, h, Wd.s, h2, h2'], by simp, by simp, fun _ => i1⟩
    · exact ⟨.drain, by simp [f_law_word, runF, b_law_word, rho0, h, Wd.s], by simp, by simp, fun _ => i1⟩
    · exact ⟨.parter, by simp [f_law_word, runF, b_law_word, rho0, h, Wd.s, h2, h2'], by simp, by simp, fun _ => i1⟩
  · have h2' : ¬ ins.length < 2 := by omega
    have nj : jn s = true := by
      cases e : jn s with
      | true => rfl
      | false => have := hj e; omega
    have i2 : 2 ≤ ins.length := by omega
    rcases h8 with h | h | h | h | h | h | h | h
    · simp [jn, h] at nj
    · exact ⟨.joiner, by simp [f_law_word, runF, b_law_word, rho0, h, Wd.s, h2, h2'], by simp, fun _ => i2, fun z => absurd rfl z⟩
    · simp [jn, h] at nj
    · simp [jn, h] at nj
    · simp [jn, h] at nj
    · exact ⟨.joiner, by simp [f_law_word, runF, b_law_word, rho0, h, Wd.s, h2, h2'], by simp, fun _ => i2, fun z => absurd rfl z⟩
    · simp [jn, h] at nj
    · exact ⟨.joiner, by simp [f_law_word, runF, b_law_word, rho0, h, Wd.s, h2, h2'], by simp, fun _ => i2, fun z => absurd rfl z⟩
/-! the outs -/
def rgI (n : Nat) : List Int := (List.range n).map fun (i : Nat) => (i : Int)
theorem rgI_succ (n : Nat) : rgI (n + 1) = rgI n ++ [(n : Int)] := by
  unfold rgI
  rw [List.range_succ, List.map_append]; rfl
theorem rgI_len (n : Nat) : (rgI n).length = n := by unfold rgI; simp
abbrev bsD (bs : List (Int × Int)) : D := .lst (bs.map bD)
theorem erase_last {α : Type} (x : α) : ∀ xs : List α, (xs ++ [x]).eraseIdx xs.length = xs
  | [] => rfl
  | y :: ys => by rw [List.cons_append, List.length_cons, List.eraseIdx_cons_succ, erase_last x ys]
theorem outs_turn (s c : Int) (ends backs os : List Int) (belts : List (Int × Int)) (k : Nat) (hk : k ≤ 100) (l1 : ends.length ≤ 1000) (l2 : backs.length ≤ 1000) (l3 : os.length ≤ 1000) (l4 : belts.length ≤ 1000) (s6 : B.Slot) :
    (∃ b bs, backs = bs ++ [b] ∧ fTurn (gN 6) l1_law_outs (.int k) [some (0, .int s), some (0, .int c), some (1, intsL ends), some (1, intsL backs), some (1, bsD belts), some (1, intsL os), s6] =
      .inl [some (0, .int s), some (0, .int c), some (1, intsL ends), some (1, intsL bs), some (1, bsD belts), some (1, intsL (os ++ [b])), some (0, .int k)]) ∨
    (∃ b, bOk b ∧ fTurn (gN 6) l1_law_outs (.int k) [some (0, .int s), some (0, .int c), some (1, intsL ends), some (1, intsL backs), some (1, bsD belts), some (1, intsL os), s6] =
      .inl [some (0, .int s), some (0, .int c), some (1, intsL (ends ++ [(belts.length : Int)])), some (1, intsL backs), some (1, bsD (belts ++ [b])), some (1, intsL (os ++ [(belts.length : Int)])), some (0, .int k)]) := by
  have d : divOk ((k : Int) + 2) := divOk_s (by omega) (by omega)
  obtain ⟨b, hb, eb⟩ := belt_eq s k (by omega)
  have a1 : ends.length < 10000 := by omega
  have a3 : os.length < 10000 := by omega
  have a4 : belts.length < 10000 := by omega
  rcases List.eq_nil_or_concat backs with rfl | ⟨bs, x, hb0⟩
  · exact .inr ⟨b, hb, by simp [fTurn, l1_law_outs, eb, appL, a1, a3, a4]⟩
  · rw [List.concat_eq_append] at hb0
    subst hb0
    by_cases h : s / ((k : Int) + 2) % 3 = 0
    · refine .inl ⟨x, bs, rfl, ?_⟩
      have hp : (0 : Int) < ((bs ++ [x]).length : Int) := by rw [List.length_append]; simp only [List.length_cons, List.length_nil]; omega
      have hg : ((bs ++ [x]).map D.int)[bs.length]? = some (.int x) := by simp
      have he : ((bs ++ [x]).map D.int).eraseIdx bs.length = bs.map .int := by
        have := erase_last (D.int x) (bs.map D.int)
        rw [List.length_map] at this
        rw [List.map_append]; exact this
      have hl : ((bs ++ [x]).map D.int).length - 1 = bs.length := by simp
      have hl0 : ((bs ++ [x]).map D.int).length = (bs ++ [x]).length := by simp
      simp only [intsL]
      generalize (bs ++ [x]).map D.int = BX at *
      generalize (bs ++ [x]).length = nx at *
      have hp' : 0 < nx := by omega
      simp [fTurn, l1_law_outs, d, h, hl0, hp, hp', withL, appL, a3]
      rw [hl0] at hl
      simp [hl, hg, he, withL, lsOf, appL, a3]
    · exact .inr ⟨b, hb, by
        have hp : (0 : Int) < ((bs ++ [x]).length : Int) := by rw [List.length_append]; simp only [List.length_cons, List.length_nil]; omega
        simp only [intsL]
        generalize (bs ++ [x]).map D.int = BX at *
        simp [fTurn, l1_law_outs, d, h, eb, appL, a1, a3, a4]⟩
structure Inv (F G os ends backs : List Int) (belts : List (Int × Int)) : Prop where
  o : (F ++ (os ++ backs)).Perm (rgI belts.length)
  i : (G ++ ends).Perm (rgI belts.length)
  b : ∀ b ∈ belts, bOk b
theorem Inv.lo {F G os ends backs : List Int} {belts : List (Int × Int)} (h : Inv F G os ends backs belts) : F.length + (os.length + backs.length) = belts.length := by
  have := h.o.length_eq
  rw [List.length_append, List.length_append, rgI_len] at this
  exact this
theorem Inv.li {F G os ends backs : List Int} {belts : List (Int × Int)} (h : Inv F G os ends backs belts) : G.length + ends.length = belts.length := by
  have := h.i.length_eq
  rw [List.length_append, rgI_len] at this
  exact this
theorem Inv.pop {F G os ends bs : List Int} {belts : List (Int × Int)} {b : Int} (h : Inv F G os ends (bs ++ [b]) belts) : Inv F G (os ++ [b]) ends bs belts := by
  refine ⟨?_, h.i, h.b⟩
  refine List.Perm.trans (List.Perm.append_left F ?_) h.o
  rw [List.append_assoc]
  exact List.Perm.append_left os List.perm_append_comm
theorem Inv.new {F G os ends backs : List Int} {belts : List (Int × Int)} {b : Int × Int} (h : Inv F G os ends backs belts) (hb : bOk b) : Inv F G (os ++ [(belts.length : Int)]) (ends ++ [(belts.length : Int)]) backs (belts ++ [b]) := by
  refine ⟨?_, ?_, fun x hx => ?_⟩
  · rw [List.length_append, List.length_singleton, rgI_succ]
    have h1 : (F ++ (os ++ [(belts.length : Int)] ++ backs)).Perm ((F ++ (os ++ backs)) ++ [(belts.length : Int)]) := by
      rw [List.append_assoc, List.append_assoc, List.append_assoc]
      exact List.Perm.append_left F (List.Perm.append_left os List.perm_append_comm)
    exact h1.trans (h.o.append_right _)
  · rw [List.length_append, List.length_singleton, rgI_succ, ← List.append_assoc]
    exact h.i.append_right _
  · rcases List.mem_append.mp hx with hx | hx
    · exact h.b x hx
    · rw [List.mem_singleton.mp hx]; exact hb
theorem outs_loop (s c : Int) (F G : List Int) : ∀ (n lo : Nat) (ends backs os : List Int) (belts : List (Int × Int)) (s6 : B.Slot), lo + n ≤ 100 → belts.length + n ≤ 900 → Inv F G os ends backs belts → ∃ (ends' backs' os' : List Int) (belts' : List (Int × Int)) (t6 : B.Slot), Inv F G os' ends' backs' belts' ∧ os'.length = os.length + n ∧ belts'.length ≤ belts.length + n ∧ ends'.length + backs'.length ≤ ends.length + backs.length + n ∧
    sItems (gN 6) l1_law_outs (rng lo n) [some (0, .int s), some (0, .int c), some (1, intsL ends), some (1, intsL backs), some (1, bsD belts), some (1, intsL os), s6] =
      .ok .nx [some (0, .int s), some (0, .int c), some (1, intsL ends'), some (1, intsL backs'), some (1, bsD belts'), some (1, intsL os'), t6] := by
  intro n
  induction n with
  | zero => intro lo ends backs os belts s6 _ _ h; exact ⟨ends, backs, os, belts, s6, h, rfl, Nat.le_refl _, Nat.le_refl _, rfl⟩
  | succ n ih =>
    intro lo ends backs os belts s6 h1 h2 h
    have lo' := h.lo
    have li' := h.li
    have ec : (lo : Int) + 1 = ((lo + 1 : Nat) : Int) := by omega
    rcases outs_turn s c ends backs os belts lo (by omega) (by omega) (by omega) (by omega) (by omega) s6 with ⟨b, bs, rfl, ht⟩ | ⟨b, hb, ht⟩
    · obtain ⟨e', b', o', bl', t6, i', q1, q2, q3, e⟩ := ih (lo + 1) ends bs (os ++ [b]) belts (some (0, .int lo)) (by omega) (by omega) h.pop
      refine ⟨e', b', o', bl', t6, i', by rw [q1]; simp; omega, by omega, ?_, ?_⟩
      · rw [List.length_append, List.length_singleton]; omega
      · rw [rng_succ, sItems_inl ht, ec]; exact e
    · obtain ⟨e', b', o', bl', t6, i', q1, q2, q3, e⟩ := ih (lo + 1) (ends ++ [(belts.length : Int)]) backs (os ++ [(belts.length : Int)]) (belts ++ [b]) (some (0, .int lo)) (by omega) (by simp; omega) (h.new hb)
      refine ⟨e', b', o', bl', t6, i', by rw [q1]; simp; omega, by simp at q2; omega, ?_, ?_⟩
      · rw [List.length_append, List.length_singleton] at q3; omega
      · rw [rng_succ, sItems_inl ht, ec]; exact e
theorem Inv.perm {F G os os' ends backs : List Int} {belts : List (Int × Int)} (h : Inv F G os ends backs belts) (p : os'.Perm os) : Inv F G os' ends backs belts :=
  ⟨(List.Perm.append_left F (p.append_right backs)).trans h.o, h.i, h.b⟩
theorem outs_eq (s : Int) (F G ends backs : List Int) (belts : List (Int × Int)) (n : Nat) (hn : n ≤ 10) (hl : belts.length ≤ 800) (h : Inv F G [] ends backs belts) : ∃ (ends' backs' os : List Int) (belts' : List (Int × Int)) (k : Nat), Inv F G os ends' backs' belts' ∧ os.length = n ∧ belts'.length ≤ belts.length + n ∧ ends'.length + backs'.length ≤ ends.length + backs.length + n ∧
    f_law_outs [(0, .int s), (0, .int n), (1, intsL ends), (1, intsL backs), (1, bsD belts)] = .ok ⟨false, k, intsL os⟩ [none, none, some (1, intsL ends'), some (1, intsL backs'), some (1, bsD belts')] := by
  obtain ⟨e', b', o', bl', t6, i', q1, q2, q3, e⟩ := outs_loop s n F G n 0 ends backs [] belts none (by omega) (by omega) h
  have sm : small62 (n : Int) := small_of (by omega) (by omega)
  have d29 : divOk 29 := divOk_s (by decide) (by decide)
  simp only [List.length_nil, Nat.zero_add] at q1
  replace e : sItems _ _ _ [some (0, .int s), some (0, .int n), some (1, intsL ends), some (1, intsL backs), some (1, bsD belts), some (1, .lst []), none] = _ := e
  by_cases h29 : s / 29 % 2 = 0
  · refine ⟨e', b', o'.reverse, bl', 1, i'.perm (List.reverse_perm _), by rw [List.length_reverse]; exact q1, q2, q3, ?_⟩
    simp only [intsL, bsD, Int.natCast_zero, List.map_reverse] at e ⊢
    generalize o'.map D.int = OD at *
    simp [f_law_outs, runM, b_law_outs, rhoM, sm]
    rw [e]
    simp [sFz, d29, h29]
    rfl
  · refine ⟨e', b', o', bl', 0, i', q1, q2, q3, ?_⟩
    simp only [intsL, bsD, Int.natCast_zero] at e ⊢
    generalize o'.map D.int = OD at *
    simp [f_law_outs, runM, b_law_outs, rhoM, sm]
    rw [e]
    simp [sFz, d29, h29]
    rfl
/-! the ins -/
theorem erase_perm : ∀ (xs : List Int) (m : Nat) (h : m < xs.length), (xs[m] :: xs.eraseIdx m).Perm xs
  | x :: xs, 0, _ => List.Perm.refl _
  | x :: xs, m + 1, h => by
    have ih := erase_perm xs m (by simpa using h)
    exact (List.Perm.swap x _ _).trans (ih.cons x)
theorem erase_map : ∀ (xs : List Int) (m : Nat), (xs.map D.int).eraseIdx m = (xs.eraseIdx m).map .int
  | [], m => by simp
  | x :: xs, 0 => rfl
  | x :: xs, m + 1 => by
    have ih := erase_map xs m
    rw [List.map_cons, List.eraseIdx_cons_succ, List.eraseIdx_cons_succ, List.map_cons, ih]
theorem Inv.popE {F G os ends backs : List Int} {belts : List (Int × Int)} (h : Inv F G os ends backs belts) {m : Nat} (hm : m < ends.length) : Inv F (G ++ [ends[m]]) os (ends.eraseIdx m) backs belts := by
  refine ⟨h.o, ?_, h.b⟩
  refine List.Perm.trans ?_ h.i
  rw [List.append_assoc]
  exact List.Perm.append_left G (erase_perm ends m hm)
theorem pop_at (ends : List Int) (hp : 0 < ends.length) (x : Int) : ∃ m, ∃ hm : m < ends.length, ixN ends.length (x % (ends.length : Int)) = some m ∧ (ends.map D.int)[m]? = some (.int ends[m]) ∧ (ends.map D.int).eraseIdx m = (ends.eraseIdx m).map .int := by
  obtain ⟨m, hm⟩ : ∃ m : Nat, x % (ends.length : Int) = m := ⟨(x % (ends.length : Int)).toNat, by
    have := Int.emod_nonneg x (show (ends.length : Int) ≠ 0 by omega); omega⟩
  have hml : m < ends.length := by have := Int.emod_lt_of_pos x (show (0 : Int) < ends.length by omega); omega
  refine ⟨m, hml, by rw [hm]; exact ixN_nat hml, by rw [List.getElem?_map, List.getElem?_eq_getElem hml]; rfl, ?_⟩
  exact erase_map ends m
theorem w_ins (F G : List Int) (backs : List Int) (belts : List (Int × Int)) (s0 s1 s2 s3 s5 s8 s9 s10 s11 s12 s16 : B.Slot) (s : Int) (c : Nat) (hc : c ≤ 4) : ∀ (n : Nat) (ins ends : List Int), ends.length ≤ n → ends.length ≤ 1000 → ins.length ≤ c → Inv F (G ++ ins) [] ends backs belts → ∃ ins' ends' : List Int, Inv F (G ++ ins') [] ends' backs belts ∧ ins.length ≤ ins'.length ∧ ins'.length ≤ c ∧ ends'.length + ins'.length = ends.length + ins.length ∧ (jn s = false → ins' = ins) ∧
    sWhile c2_law_web l2_law_web [s0, s1, s2, s3, some (1, bsD belts), s5, some (1, intsL ends), some (1, intsL backs), s8, s9, s10, s11, s12, some (0, .int s), some (0, .int c), some (1, intsL ins), s16] =
      .ok .nx [s0, s1, s2, s3, some (1, bsD belts), s5, some (1, intsL ends'), some (1, intsL backs), s8, s9, s10, s11, s12, some (0, .int s), some (0, .int c), some (1, intsL ins'), s16] := by
  have stop : ∀ (ins ends : List Int), (jn s && (decide (0 < ends.length) && decide (ins.length < c))) = false → sWhile c2_law_web l2_law_web [s0, s1, s2, s3, some (1, bsD belts), s5, some (1, intsL ends), some (1, intsL backs), s8, s9, s10, s11, s12, some (0, .int s), some (0, .int c), some (1, intsL ins), s16] =
      .ok .nx [s0, s1, s2, s3, some (1, bsD belts), s5, some (1, intsL ends), some (1, intsL backs), s8, s9, s10, s11, s12, some (0, .int s), some (0, .int c), some (1, intsL ins), s16] := by
    intro ins ends h
    refine sWhile_inr ?_
    generalize bsD belts = BD
    cases hj : jn s with
    | false =>
      simp only [jn, Bool.or_eq_false_iff, decide_eq_false_iff_not] at hj
      simp [wTurn, c2_law_web, intsOf, hj]
    | true =>
      rw [hj, Bool.true_and] at h
      simp only [jn, Bool.or_eq_true, decide_eq_true_eq] at hj
      by_cases h0 : 0 < ends.length
      · rw [decide_eq_true h0, Bool.true_and] at h
        have h1 : ¬ ins.length < c := of_decide_eq_false h
        have h0' : (0 : Int) < ends.length := by omega
        have h1' : ¬ (ins.length : Int) < (c : Int) := by omega
        simp [wTurn, c2_law_web, intsOf, hj, h0, h0', h1, h1']
      · have h0' : ¬ (0 : Int) < ends.length := by omega
        simp [wTurn, c2_law_web, intsOf, hj, h0, h0']
  intro n
  induction n with
  | zero =>
    intro ins ends hn hl hi h
    have h0 : ¬ 0 < ends.length := by omega
    exact ⟨ins, ends, h, Nat.le_refl _, hi, rfl, fun _ => rfl, stop ins ends (by rw [decide_eq_false h0]; simp)⟩
  | succ n ih =>
    intro ins ends hn hl hi h
    cases hg : (jn s && (decide (0 < ends.length) && decide (ins.length < c))) with
    | false => exact ⟨ins, ends, h, Nat.le_refl _, hi, rfl, fun _ => rfl, stop ins ends hg⟩
    | true =>
      rw [Bool.and_eq_true, Bool.and_eq_true, decide_eq_true_eq, decide_eq_true_eq] at hg
      obtain ⟨hj, h0, h1⟩ := hg
      have hj' := hj
      simp only [jn, Bool.or_eq_true, decide_eq_true_eq] at hj'
      have h0' : (0 : Int) < ends.length := by omega
      have h1' : (ins.length : Int) < (c : Int) := by omega
      have d19 : divOk 19 := divOk_s (by decide) (by decide)
      obtain ⟨m, hm, e1, e2, e3⟩ := pop_at ends h0 (s / 19)
      have hel : (ends.eraseIdx m).length = ends.length - 1 := List.length_eraseIdx_of_lt hm
      have h2 : Inv F (G ++ (ins ++ [ends[m]])) [] (ends.eraseIdx m) backs belts := by
        rw [← List.append_assoc]; exact h.popE hm
      obtain ⟨ins', ends', i', q1, q2, q3, q4, e⟩ := ih (ins ++ [ends[m]]) (ends.eraseIdx m) (by omega) (by omega) (by rw [List.length_append, List.length_singleton]; omega) h2
      rw [List.length_append, List.length_singleton] at q1 q3
      refine ⟨ins', ends', i', by omega, q2, by omega, (fun z => by rw [hj] at z; cases z), ?_⟩
      have hil : ins.length < 10000 := by omega
      have hl1 : ends.length ≤ 10000 := by omega
      rw [sWhile_inl (ρ1 := [s0, s1, s2, s3, some (1, bsD belts), s5, some (1, intsL (ends.eraseIdx m)), some (1, intsL backs), s8, s9, s10, s11, s12, some (0, .int s), some (0, .int c), some (1, intsL (ins ++ [ends[m]])), s16]) ?_]
      · exact e
      · generalize ends[m] = x at *
        simp only [intsL] at *
        have hlm : (ends.map D.int).length = ends.length := by simp
        rw [← e3]
        generalize bsD belts = BD
        generalize ends.map D.int = ED at *
        rw [← hlm] at e1 h0 h0' hl1
        simp [wTurn, c2_law_web, l2_law_web, intsOf, hj', h0, h0', h1, h1', withL, appL, hil, d19, e1, e2, hl1]
/-! one knot more -/
def Fo (rs : List Row) : List Int := (rs.map Row.o).flatten
def Gi (rs : List Row) : List Int := (rs.map Row.i).flatten
abbrev rsD (rs : List Row) : D := .lst (rs.map Row.d)
structure Web (rs : List Row) (ends backs : List Int) (belts : List (Int × Int)) : Prop where
  v : Inv (Fo rs) (Gi rs) [] ends backs belts
  r : ∀ r ∈ rs, r.Ok
  n : rs.length + ends.length + backs.length ≤ 24
  b : belts.length ≤ 24
  ne : 1 ≤ rs.length + ends.length
theorem then_seq (r : RS) (B L : SF) : r.then (sSeq B L) = (r.then B).then L := by
  cases r with
  | ok f ρ => cases f <;> rfl
  | _ => rfl
theorem Web.row {rs : List Row} {r : Row} {ends' backs' : List Int} {belts' : List (Int × Int)} (hr : ∀ r ∈ rs, r.Ok) (h : r.Ok) (v : Inv (Fo rs) (Gi rs ++ r.i) r.o ends' backs' belts') (hn : rs.length + 1 + ends'.length + backs'.length ≤ 24) (hb : belts'.length ≤ 24) : Web (rs ++ [r]) ends' backs' belts' := by
  have ef : Fo (rs ++ [r]) = Fo rs ++ r.o := by simp [Fo]
  have eg : Gi (rs ++ [r]) = Gi rs ++ r.i := by simp [Gi]
  refine ⟨⟨?_, ?_, v.b⟩, fun x hx => ?_, by rw [List.length_append, List.length_singleton]; exact hn, hb, by rw [List.length_append, List.length_singleton]; omega⟩
  · rw [ef, List.nil_append, List.append_assoc]; exact v.o
  · rw [eg]; exact v.i
  · rcases List.mem_append.mp hx with hx | hx
    · exact hr x hx
    · rw [List.mem_singleton.mp hx]; exact h
theorem brk_no (S0 hd bs s8 s9 s10 s11 s12 s13 s14 s15 s16 : B.Slot) (most : Int) (BD RD ED KD : List D) (h1 : 0 < ED.length) (h2 : (BD.length : Int) + 4 ≤ most) (h3 : RD.length + ED.length + KD.length ≤ 20) :
    sIf (tOrF (tV (eO2 eqV (eB1 lenV (eV 6)) (eC (.int 0)))) (tOrF (tV (eOp gtD (eO2 addV (eB1 lenV (eV 4)) (eC (.int 4))) (eV 1))) (tV (eOp gtD (eO2 addV (eO2 addV (eB1 lenV (eV 5)) (eB1 lenV (eV 6))) (eB1 lenV (eV 7))) (eC (.int 20)))))) sBk sNil
      [S0, some (0, .int most), hd, bs, some (1, .lst BD), some (1, .lst RD), some (1, .lst ED), some (1, .lst KD), s8, s9, s10, s11, s12, s13, s14, s15, s16] =
    .ok .nx [S0, some (0, .int most), hd, bs, some (1, .lst BD), some (1, .lst RD), some (1, .lst ED), some (1, .lst KD), s8, s9, s10, s11, s12, s13, s14, s15, s16] := by
  have a1 : ¬ ED.length = 0 := by omega
  have a1' : ¬ ED = [] := fun z => by rw [z] at h1; simp at h1
  have a2 : ¬ most < (BD.length : Int) + 4 := by omega
  have a3 : ¬ (20 : Int) < (RD.length : Int) + ED.length + KD.length := by omega
  simp [a1, a1', a2, a3]
theorem brk_yes (S0 hd bs s8 s9 s10 s11 s12 s13 s14 s15 s16 : B.Slot) (most : Int) (BD RD ED KD : List D) (h : ¬ (0 < ED.length ∧ (BD.length : Int) + 4 ≤ most ∧ RD.length + ED.length + KD.length ≤ 20)) :
    sIf (tOrF (tV (eO2 eqV (eB1 lenV (eV 6)) (eC (.int 0)))) (tOrF (tV (eOp gtD (eO2 addV (eB1 lenV (eV 4)) (eC (.int 4))) (eV 1))) (tV (eOp gtD (eO2 addV (eO2 addV (eB1 lenV (eV 5)) (eB1 lenV (eV 6))) (eB1 lenV (eV 7))) (eC (.int 20)))))) sBk sNil
      [S0, some (0, .int most), hd, bs, some (1, .lst BD), some (1, .lst RD), some (1, .lst ED), some (1, .lst KD), s8, s9, s10, s11, s12, s13, s14, s15, s16] =
    .ok .bk [S0, some (0, .int most), hd, bs, some (1, .lst BD), some (1, .lst RD), some (1, .lst ED), some (1, .lst KD), s8, s9, s10, s11, s12, s13, s14, s15, s16] := by
  by_cases a1 : ED.length = 0
  · have a1' : ED = [] := List.eq_nil_of_length_eq_zero a1
    subst a1'
    simp
  · have a1' : ¬ ED = [] := fun z => a1 (by rw [z]; rfl)
    by_cases a2 : most < (BD.length : Int) + 4
    · simp [a1, a1', a2]
    · have a3 : (20 : Int) < (RD.length : Int) + ED.length + KD.length := by omega
      simp [a1, a1', a2, a3]
/-- how many outs -/
def cnt (w : Wd) (n : Nat) : Nat := match w with
  | .sieve => 2
  | .joiner => 1
  | .drain => 0
  | _ => n
theorem sh_ok (w : Wd) (n : Nat) (hn : 2 ≤ n ∧ n ≤ 4) (ins os : List Int) (hs : w ≠ .source) (h1 : w = .joiner → 2 ≤ ins.length) (h2 : w ≠ .joiner → ins.length = 1) (h4 : ins.length ≤ 4) (ho : os.length = cnt w n) : Row.Sh w ins os := by
  cases w with
  | source => exact absurd rfl hs
  | drain => exact ⟨h2 (by simp), List.eq_nil_of_length_eq_zero ho⟩
  | parter => exact ⟨h2 (by simp), by rw [ho]; exact hn⟩
  | first => exact ⟨h2 (by simp), by rw [ho]; exact hn⟩
  | sieve => exact ⟨h2 (by simp), ho⟩
  | joiner => exact ⟨⟨h1 rfl, h4⟩, ho⟩
theorem cnt_step (w : Wd) (hs : w ≠ .source) (n : Nat) (a0 a1 a2 a3 a4 a5 a6 a7 a8 a9 a10 a11 a12 a13 a15 : B.Slot) :
    (sIf (tV (eO2 eqV (eV 16) (eC (.str "sieve")))) (sSet 14 (eS (eC (.int 2)))) sNil [a0, a1, a2, a3, a4, a5, a6, a7, a8, a9, a10, a11, a12, a13, some (0, .int n), a15, some (0, .str w.s)]).then
      (sIf (tOrF (tV (eO2 eqV (eV 16) (eC (.str "joiner")))) (tV (eO2 eqV (eV 16) (eC (.str "drain"))))) (sSet 14 (eS (eB1 intV (eO2 eqV (eV 16) (eC (.str "joiner")))))) sNil) =
    .ok .nx [a0, a1, a2, a3, a4, a5, a6, a7, a8, a9, a10, a11, a12, a13, some (0, .int (cnt w n)), a15, some (0, .str w.s)] := by
  cases w with
  | source => exact absurd rfl hs
  | drain => simp [Wd.s, cnt]
  | parter => simp [Wd.s, cnt]
  | first => simp [Wd.s, cnt]
  | sieve => simp [Wd.s, cnt]
  | joiner => simp [Wd.s, cnt]
noncomputable def lastS : SF := sMtM 5 appL (mCallF f_law_row (msCons (mP (eV 13)) (msCons (mP (eV 16)) (msCons (mP (eV 15)) (msCons (mCall f_law_outs [none, none, some 6, some 7, some 4] (amCons (eV 13) (amCons (eV 14) (amOwn 6 (amOwn 7 (amOwn 4 (amNil))))))) (msCons (mP (eV 3)) (msNil)))))))
theorem last_step (S0 s1 s2 s8 s9 s10 s11 s12 : B.Slot) (ks : List Int) (hb : ks.length = 4) (hk : ks.all kOk = true) (m : Int) (w : Wd) (n : Nat) (hn : n ≤ 10) (rs : List Row) (ins ends backs : List Int) (belts : List (Int × Int)) (hrl : rs.length ≤ 1000) (hbl : belts.length ≤ 800)
    (v : Inv (Fo rs) (Gi rs ++ ins) [] ends backs belts) (hsh : ∀ os : List Int, os.length = n → Row.Sh w ins os) : ∃ (r : Row) (ends' backs' : List Int) (belts' : List (Int × Int)), r.Ok ∧ r.i = ins ∧ Inv (Fo rs) (Gi rs ++ r.i) r.o ends' backs' belts' ∧ belts'.length ≤ belts.length + n ∧ ends'.length + backs'.length ≤ ends.length + backs.length + n ∧
    lastS [S0, s1, s2, some (0, intsL ks), some (1, bsD belts), some (1, rsD rs), some (1, intsL ends), some (1, intsL backs), s8, s9, s10, s11, s12, some (0, .int m), some (0, .int n), some (0, intsL ins), some (0, .str w.s)] =
      .ok .nx [S0, s1, s2, some (0, intsL ks), some (1, bsD belts'), some (1, rsD (rs ++ [r])), some (1, intsL ends'), some (1, intsL backs'), s8, s9, s10, s11, s12, some (0, .int m), some (0, .int n), some (0, intsL ins), some (0, .str w.s)] := by
  obtain ⟨ends', backs', os, belts', k, i', q1, q2, q3, e⟩ := outs_eq m (Fo rs) (Gi rs ++ ins) ends backs belts n hn hbl v
  obtain ⟨r, ro, rw', ri, rO, er⟩ := row_eq w m ins os ks hb hk (hsh os q1)
  refine ⟨r, ends', backs', belts', ro, ri, by rw [ri, rO]; exact i', q2, q3, ?_⟩
  have hl : (rs.map Row.d).length < 10000 := by simp; omega
  have hm : (rs ++ [r]).map Row.d = rs.map Row.d ++ [r.d] := by simp
  simp only [rsD]
  rw [hm]
  generalize r.d = RDD at *
  generalize rs.map Row.d = RL at *
  generalize w.s = WS at *
  generalize intsL ins = I1 at *
  generalize intsL os = O1 at *
  generalize intsL ks = K1 at *
  simp [lastS, withL, lsOf, e, er, appL, hl]
theorem web_turn (S0 s2 s8 s9 s11 s12 s10 s13 s14 s15 s16 : B.Slot) (most : Int) (hmost : most ≤ 24) (ks : List Int) (hb : ks.length = 4) (hk : ks.all kOk = true) (c : Int) (rs : List Row) (ends backs : List Int) (belts : List (Int × Int)) (W : Web rs ends backs belts) :
    (∃ t10, fTurn (gN 10) l3_law_web (.int c) [S0, some (0, .int most), s2, some (0, intsL ks), some (1, bsD belts), some (1, rsD rs), some (1, intsL ends), some (1, intsL backs), s8, s9, s10, s11, s12, s13, s14, s15, s16] =
      .inr (.ok .nx [S0, some (0, .int most), s2, some (0, intsL ks), some (1, bsD belts), some (1, rsD rs), some (1, intsL ends), some (1, intsL backs), s8, s9, t10, s11, s12, s13, s14, s15, s16])) ∨
    (∃ rs' ends' backs' belts' t10 t13 t14 t15 t16, Web rs' ends' backs' belts' ∧ fTurn (gN 10) l3_law_web (.int c) [S0, some (0, .int most), s2, some (0, intsL ks), some (1, bsD belts), some (1, rsD rs), some (1, intsL ends), some (1, intsL backs), s8, s9, s10, s11, s12, s13, s14, s15, s16] =
      .inl [S0, some (0, .int most), s2, some (0, intsL ks), some (1, bsD belts'), some (1, rsD rs'), some (1, intsL ends'), some (1, intsL backs'), s8, s9, t10, s11, s12, t13, t14, t15, t16]) := by
  by_cases hg : 0 < ends.length ∧ (belts.length : Int) + 4 ≤ most ∧ rs.length + ends.length + backs.length ≤ 20
  · refine .inr ?_
    obtain ⟨g1, g2, g3⟩ := hg
    obtain ⟨m, em, _, _⟩ := mix_eq c 4 (by omega)
    obtain ⟨n, hn⟩ : ∃ n : Nat, 2 + m / 17 % 3 = n := ⟨(2 + m / 17 % 3).toNat, by omega⟩
    have n2 : 2 ≤ n ∧ n ≤ 4 := by omega
    obtain ⟨j, hj, e1, e2, e3⟩ := pop_at ends g1 (m / 8)
    have hel : (ends.eraseIdx j).length = ends.length - 1 := List.length_eraseIdx_of_lt hj
    have W1 : Inv (Fo rs) (Gi rs ++ [ends[j]]) [] (ends.eraseIdx j) backs belts := W.v.popE hj
    have hWb := W.b
    have hWn := W.n
    obtain ⟨ins, ends1, v1, q1, q2, q3, q4, e4⟩ := w_ins (Fo rs) (Gi rs) backs belts S0 (some (0, .int most)) s2 (some (0, intsL ks)) (some (1, rsD rs)) s8 s9 (some (0, .int c)) s11 s12 s16 m n (by omega) (ends.eraseIdx j).length [ends[j]] (ends.eraseIdx j) (Nat.le_refl _) (by omega) (by simp; omega) W1
    simp only [List.length_singleton] at q1 q3
    obtain ⟨w, ew, w1, w2, w3⟩ := word_eq m ins q1 (by omega) (fun z => by rw [q4 z]; rfl)
    have cn : cnt w n ≤ 4 := by cases w <;> simp [cnt] <;> omega
    obtain ⟨r, ends', backs', belts', ro, ri, v', p1, p2, e5⟩ := last_step S0 (some (0, .int most)) s2 s8 s9 (some (0, .int c)) s11 s12 ks hb hk m w (cnt w n) (by omega) rs ins ends1 backs belts (by omega) (by omega) v1 (fun os ho => sh_ok w n n2 ins os w1 w2 w3 (by omega) ho)
    have WW := Web.row W.r ro v' (by omega) (by omega)
    refine ⟨rs ++ [r], ends', backs', belts', some (0, .int c), some (0, .int m), some (0, .int (cnt w n)), some (0, intsL ins), some (0, .str w.s), WW, ?_⟩
    have d17 : divOk 17 := divOk_s (by decide) (by decide)
    have d8 : divOk 8 := divOk_s (by decide) (by decide)
    have f0 := brk_no S0 s2 (some (0, intsL ks)) s8 s9 (some (0, .int c)) s11 s12 s13 s14 s15 s16 most (belts.map bD) (rs.map Row.d) (ends.map .int) (backs.map .int) (by simpa using g1) (by simpa using g2) (by simpa using g3)
    have f1 : ∀ x, sSet 13 (eS (eCall f_law_mix (aCons (eV 10) (aCons (eC (.int 4)) aNil)))) [S0, some (0, .int most), s2, some (0, intsL ks), some (1, bsD belts), some (1, rsD rs), some (1, intsL ends), some (1, intsL backs), s8, s9, some (0, .int c), s11, s12, x, s14, s15, s16] =
        .ok .nx [S0, some (0, .int most), s2, some (0, intsL ks), some (1, bsD belts), some (1, rsD rs), some (1, intsL ends), some (1, intsL backs), s8, s9, some (0, .int c), s11, s12, some (0, .int m), s14, s15, s16] := by
      intro x
      simp [em]
    have f2 : sSet 14 (eS (eO2 addV (eC (.int 2)) (eOp modD (eOp fdivD (eV 13) (eC (.int 17))) (eC (.int 3))))) [S0, some (0, .int most), s2, some (0, intsL ks), some (1, bsD belts), some (1, rsD rs), some (1, intsL ends), some (1, intsL backs), s8, s9, some (0, .int c), s11, s12, some (0, .int m), s14, s15, s16] =
        .ok .nx [S0, some (0, .int most), s2, some (0, intsL ks), some (1, bsD belts), some (1, rsD rs), some (1, intsL ends), some (1, intsL backs), s8, s9, some (0, .int c), s11, s12, some (0, .int m), some (0, .int n), s15, s16] := by
      simp [d17, hn]
    have f3 : sSetM 15 (mLst (msCons (mPopI (pN 6) (eOp modD (eOp fdivD (eV 13) (eC (.int 8))) (eB1 lenV (eV 6)))) msNil)) [S0, some (0, .int most), s2, some (0, intsL ks), some (1, bsD belts), some (1, rsD rs), some (1, intsL ends), some (1, intsL backs), s8, s9, some (0, .int c), s11, s12, some (0, .int m), some (0, .int n), s15, s16] =
        .ok .nx [S0, some (0, .int most), s2, some (0, intsL ks), some (1, bsD belts), some (1, rsD rs), some (1, intsL (ends.eraseIdx j)), some (1, intsL backs), s8, s9, some (0, .int c), s11, s12, some (0, .int m), some (0, .int n), some (1, intsL [ends[j]]), s16] := by
      have g1' : (0 : Int) < ends.length := by omega
      have hl1 : ends.length ≤ 10000 := by omega
      generalize ends[j] = x at *
      simp only [intsL] at *
      have hlm : (ends.map D.int).length = ends.length := by simp
      rw [← e3]
      generalize bsD belts = BD
      generalize rsD rs = RD
      generalize ends.map D.int = ED at *
      rw [← hlm] at e1 g1 g1' hl1
      simp [d8, e1, e2, g1, g1', hl1]
    have f5 : sFz 15 (sSet 16 (eS (eCall f_law_word (aCons (eV 13) (aCons (eV 15) aNil))))) [S0, some (0, .int most), s2, some (0, intsL ks), some (1, bsD belts), some (1, rsD rs), some (1, intsL ends1), some (1, intsL backs), s8, s9, some (0, .int c), s11, s12, some (0, .int m), some (0, .int n), some (1, intsL ins), s16] =
        .ok .nx [S0, some (0, .int most), s2, some (0, intsL ks), some (1, bsD belts), some (1, rsD rs), some (1, intsL ends1), some (1, intsL backs), s8, s9, some (0, .int c), s11, s12, some (0, .int m), some (0, .int n), some (0, intsL ins), some (0, .str w.s)] := by
      generalize intsL ins = I1 at *
      simp [sFz, ew]
    unfold fTurn
    rw [gN_eq]
    simp only [List.set_cons_succ, List.set_cons_zero]
    unfold l3_law_web
    unfold lastS at e5
    rw [sSeq_eq, f0, RS.then_nx, sSeq_eq, f1, RS.then_nx, sSeq_eq, f2, RS.then_nx, sSeq_eq, f3, RS.then_nx, sSeq_eq, e4, RS.then_nx, sSeq_eq, f5, RS.then_nx, sSeq_eq, then_seq, cnt_step w w1, RS.then_nx, e5]
  · refine .inl ⟨some (0, .int c), ?_⟩
    have f0 := brk_yes S0 s2 (some (0, intsL ks)) s8 s9 (some (0, .int c)) s11 s12 s13 s14 s15 s16 most (belts.map bD) (rs.map Row.d) (ends.map .int) (backs.map .int) (by simpa using hg)
    unfold fTurn
    rw [gN_eq]
    simp only [List.set_cons_succ, List.set_cons_zero]
    unfold l3_law_web
    rw [sSeq_eq, f0, RS.then_bk]
theorem web_loop (S0 s2 s8 s9 s11 s12 : B.Slot) (most : Int) (hmost : most ≤ 24) (ks : List Int) (hb : ks.length = 4) (hk : ks.all kOk = true) : ∀ (cs : List Int) (rs : List Row) (ends backs : List Int) (belts : List (Int × Int)) (s10 s13 s14 s15 s16 : B.Slot), Web rs ends backs belts →
    ∃ rs' ends' backs' belts' t10 t13 t14 t15 t16, Web rs' ends' backs' belts' ∧ sItems (gN 10) l3_law_web (cs.map .int) [S0, some (0, .int most), s2, some (0, intsL ks), some (1, bsD belts), some (1, rsD rs), some (1, intsL ends), some (1, intsL backs), s8, s9, s10, s11, s12, s13, s14, s15, s16] =
      .ok .nx [S0, some (0, .int most), s2, some (0, intsL ks), some (1, bsD belts'), some (1, rsD rs'), some (1, intsL ends'), some (1, intsL backs'), s8, s9, t10, s11, s12, t13, t14, t15, t16] := by
  intro cs
  induction cs with
  | nil => intro rs ends backs belts s10 s13 s14 s15 s16 W; exact ⟨rs, ends, backs, belts, s10, s13, s14, s15, s16, W, rfl⟩
  | cons c cs ih =>
    intro rs ends backs belts s10 s13 s14 s15 s16 W
    rcases web_turn S0 s2 s8 s9 s11 s12 s10 s13 s14 s15 s16 most hmost ks hb hk c rs ends backs belts W with ⟨t10, ht⟩ | ⟨rs', ends', backs', belts', t10, t13, t14, t15, t16, W', ht⟩
    · exact ⟨rs, ends, backs, belts, t10, s13, s14, s15, s16, W, by rw [List.map_cons, sItems_inr ht]⟩
    · obtain ⟨r2, e2, b2, l2, u10, u13, u14, u15, u16, W2, e⟩ := ih rs' ends' backs' belts' t10 t13 t14 t15 t16 W'
      exact ⟨r2, e2, b2, l2, u10, u13, u14, u15, u16, W2, by rw [List.map_cons, sItems_inl ht]; exact e⟩
/-! the begin -/
theorem ini_loop (S0 s1 : B.Slot) (hd : Int) (ks : List Int) (hb : ks.length = 4) (hk : ks.all kOk = true) (many : Int) (s10 s11 s12 s13 s14 s15 s16 : B.Slot) : ∀ (n : Nat) (rs : List Row) (ends backs : List Int) (belts : List (Int × Int)) (s9 : B.Slot), belts.length + n ≤ 10 → Inv (Fo rs) (Gi rs) [] ends backs belts → (∀ r ∈ rs, r.Ok) → rs.length + backs.length = belts.length → ends.length = belts.length →
    ∃ rs' ends' backs' belts' t9, Inv (Fo rs') (Gi rs') [] ends' backs' belts' ∧ (∀ r ∈ rs', r.Ok) ∧ rs'.length + backs'.length = belts'.length ∧ ends'.length = belts'.length ∧ belts'.length = belts.length + n ∧
    sItems (gN 9) l1_law_web (rng belts.length n) [S0, s1, some (0, .int hd), some (0, intsL ks), some (1, bsD belts), some (1, rsD rs), some (1, intsL ends), some (1, intsL backs), some (0, .int many), s9, s10, s11, s12, s13, s14, s15, s16] =
      .ok .nx [S0, s1, some (0, .int hd), some (0, intsL ks), some (1, bsD belts'), some (1, rsD rs'), some (1, intsL ends'), some (1, intsL backs'), some (0, .int many), t9, s10, s11, s12, s13, s14, s15, s16] := by
  intro n
  induction n with
  | zero => intro rs ends backs belts s9 _ v hr h1 h2; exact ⟨rs, ends, backs, belts, s9, v, hr, h1, h2, rfl, rfl⟩
  | succ n ih =>
    intro rs ends backs belts s9 hl v hr h1 h2
    obtain ⟨m3, e3, _, _⟩ := mix_eq hd 3 (by omega)
    obtain ⟨mk, ek, _, _⟩ := mix_eq hd (20 + (belts.length : Int)) (by omega)
    obtain ⟨b, hbk, eb⟩ := belt_eq m3 belts.length (by omega)
    have vn := v.new hbk
    have a1 : ends.length < 10000 := by omega
    have a2 : belts.length < 10000 := by omega
    have a3 : rs.length < 10000 := by omega
    have a4 : backs.length < 10000 := by omega
    by_cases hm : (belts.length : Int) < many
    · obtain ⟨r, ro, rw', ri, rO, er⟩ := row_eq .source mk [] [(belts.length : Int)] ks hb hk ⟨rfl, rfl⟩
      have ht : fTurn (gN 9) l1_law_web (.int belts.length) [S0, s1, some (0, .int hd), some (0, intsL ks), some (1, bsD belts), some (1, rsD rs), some (1, intsL ends), some (1, intsL backs), some (0, .int many), s9, s10, s11, s12, s13, s14, s15, s16] =
          .inl [S0, s1, some (0, .int hd), some (0, intsL ks), some (1, bsD (belts ++ [b])), some (1, rsD (rs ++ [r])), some (1, intsL (ends ++ [(belts.length : Int)])), some (1, intsL backs), some (0, .int many), some (0, .int belts.length), s10, s11, s12, s13, s14, s15, s16] := by
        have hmm : (rs ++ [r]).map Row.d = rs.map Row.d ++ [r.d] := by simp
        simp only [rsD]
        rw [hmm]
        simp only [intsL, List.map_cons, List.map_nil, Wd.s] at er
        have a3' : (rs.map Row.d).length < 10000 := by simpa using a3
        generalize r.d = RDD at *
        generalize rs.map Row.d = RL at *
        simp [fTurn, l1_law_web, e3, ek, eb, hm, er, appL, a1, a2, a3']
      have v2 : Inv (Fo (rs ++ [r])) (Gi (rs ++ [r])) [] (ends ++ [(belts.length : Int)]) backs (belts ++ [b]) := by
        have ef : Fo (rs ++ [r]) = Fo rs ++ [(belts.length : Int)] := by simp [Fo, rO]
        have eg : Gi (rs ++ [r]) = Gi rs := by simp [Gi, ri]
        refine ⟨?_, by rw [eg]; exact vn.i, vn.b⟩
        have := vn.o
        rw [List.nil_append] at this
        rw [ef, List.nil_append, List.append_assoc]
        exact this
      obtain ⟨r2, e2, b2, l2, t9, v', hr', q1, q2, q3, e⟩ := ih (rs ++ [r]) (ends ++ [(belts.length : Int)]) backs (belts ++ [b]) (some (0, .int belts.length)) (by simp; omega) v2 (fun x hx => by
        rcases List.mem_append.mp hx with hx | hx
        · exact hr x hx
        · rw [List.mem_singleton.mp hx]; exact ro) (by simp; omega) (by simp; omega)
      refine ⟨r2, e2, b2, l2, t9, v', hr', q1, q2, by rw [q3]; simp; omega, ?_⟩
      rw [rng_succ, sItems_inl ht]
      rw [List.length_append, List.length_singleton] at e
      rw [show (belts.length : Int) + 1 = ((belts.length + 1 : Nat) : Int) by omega]
      exact e
    · have ht : fTurn (gN 9) l1_law_web (.int belts.length) [S0, s1, some (0, .int hd), some (0, intsL ks), some (1, bsD belts), some (1, rsD rs), some (1, intsL ends), some (1, intsL backs), some (0, .int many), s9, s10, s11, s12, s13, s14, s15, s16] =
          .inl [S0, s1, some (0, .int hd), some (0, intsL ks), some (1, bsD (belts ++ [b])), some (1, rsD rs), some (1, intsL (ends ++ [(belts.length : Int)])), some (1, intsL (backs ++ [(belts.length : Int)])), some (0, .int many), some (0, .int belts.length), s10, s11, s12, s13, s14, s15, s16] := by
        generalize rsD rs = RL at *
        simp [fTurn, l1_law_web, e3, eb, hm, appL, a1, a2, a4]
      have v2 : Inv (Fo rs) (Gi rs) [] (ends ++ [(belts.length : Int)]) (backs ++ [(belts.length : Int)]) (belts ++ [b]) := by
        refine ⟨?_, vn.i, vn.b⟩
        have := vn.o
        rw [List.nil_append] at this ⊢
        exact (List.Perm.append_left _ List.perm_append_comm).trans this
      obtain ⟨r2, e2, b2, l2, t9, v', hr', q1, q2, q3, e⟩ := ih rs (ends ++ [(belts.length : Int)]) (backs ++ [(belts.length : Int)]) (belts ++ [b]) (some (0, .int belts.length)) (by simp; omega) v2 hr (by simp; omega) (by simp; omega)
      refine ⟨r2, e2, b2, l2, t9, v', hr', q1, q2, by rw [q3]; simp; omega, ?_⟩
      rw [rng_succ, sItems_inl ht]
      rw [List.length_append, List.length_singleton] at e
      rw [show (belts.length : Int) + 1 = ((belts.length + 1 : Nat) : Int) by omega]
      exact e
/-! the end -/
theorem fin_ends (S0 s1 s4 s6 s7 s8 s9 s10 s12 s13 s14 s15 s16 : B.Slot) (hd : Int) (ks : List Int) (hb : ks.length = 4) (hk : ks.all kOk = true) : ∀ (es : List Int) (rs : List Row) (s11 : B.Slot), (∀ e ∈ es, 0 ≤ e ∧ e ≤ 100) → (∀ r ∈ rs, r.Ok) → rs.length + es.length ≤ 1000 →
    ∃ rs' t11, (∀ r ∈ rs', r.Ok) ∧ Fo rs' = Fo rs ∧ Gi rs' = Gi rs ++ es ∧ rs'.length = rs.length + es.length ∧
    sItems (gN 11) l4_law_web (es.map .int) [S0, s1, some (0, .int hd), some (0, intsL ks), s4, some (1, rsD rs), s6, s7, s8, s9, s10, s11, s12, s13, s14, s15, s16] =
      .ok .nx [S0, s1, some (0, .int hd), some (0, intsL ks), s4, some (1, rsD rs'), s6, s7, s8, s9, s10, t11, s12, s13, s14, s15, s16] := by
  intro es
  induction es with
  | nil => intro rs s11 _ hr _; exact ⟨rs, s11, hr, rfl, by simp, rfl, rfl⟩
  | cons x es ih =>
    intro rs s11 he hr hl
    have hx := he x (List.mem_cons_self ..)
    rw [List.length_cons] at hl
    obtain ⟨m, em, _, _⟩ := mix_eq hd (40 + x) (by omega)
    obtain ⟨r, ro, rw', ri, rO, er⟩ := row_eq .drain m [x] [] ks hb hk ⟨rfl, rfl⟩
    have hmm : (rs ++ [r]).map Row.d = rs.map Row.d ++ [r.d] := by simp
    have a3 : (rs.map Row.d).length < 10000 := by simp; omega
    have ht : fTurn (gN 11) l4_law_web (.int x) [S0, s1, some (0, .int hd), some (0, intsL ks), s4, some (1, rsD rs), s6, s7, s8, s9, s10, s11, s12, s13, s14, s15, s16] =
        .inl [S0, s1, some (0, .int hd), some (0, intsL ks), s4, some (1, rsD (rs ++ [r])), s6, s7, s8, s9, s10, some (0, .int x), s12, s13, s14, s15, s16] := by
      simp only [rsD]
      rw [hmm]
      simp only [intsL, List.map_cons, List.map_nil, Wd.s] at er
      generalize r.d = RDD at *
      generalize rs.map Row.d = RL at *
      simp [fTurn, l4_law_web, em, er, appL, a3]
    obtain ⟨rs', t11, h1, h2, h3, h4, e⟩ := ih (rs ++ [r]) (some (0, .int x)) (fun y hy => he y (List.mem_cons_of_mem _ hy)) (fun y hy => by
      rcases List.mem_append.mp hy with hy | hy
      · exact hr y hy
      · rw [List.mem_singleton.mp hy]; exact ro) (by simp; omega)
    refine ⟨rs', t11, h1, ?_, ?_, by rw [h4]; simp; omega, by rw [List.map_cons, sItems_inl ht]; exact e⟩
    · rw [h2]; simp [Fo, rO]
    · rw [h3]; simp [Gi, ri]
theorem fin_backs (S0 s1 s4 s6 s7 s8 s9 s10 s11 s13 s14 s15 s16 : B.Slot) (hd : Int) (ks : List Int) (hb : ks.length = 4) (hk : ks.all kOk = true) : ∀ (es : List Int) (rs : List Row) (s12 : B.Slot), (∀ e ∈ es, 0 ≤ e ∧ e ≤ 100) → (∀ r ∈ rs, r.Ok) → rs.length + es.length ≤ 1000 →
    ∃ rs' t12, (∀ r ∈ rs', r.Ok) ∧ Fo rs' = Fo rs ++ es ∧ Gi rs' = Gi rs ∧ rs'.length = rs.length + es.length ∧
    sItems (gN 12) l5_law_web (es.map .int) [S0, s1, some (0, .int hd), some (0, intsL ks), s4, some (1, rsD rs), s6, s7, s8, s9, s10, s11, s12, s13, s14, s15, s16] =
      .ok .nx [S0, s1, some (0, .int hd), some (0, intsL ks), s4, some (1, rsD rs'), s6, s7, s8, s9, s10, s11, t12, s13, s14, s15, s16] := by
  intro es
  induction es with
  | nil => intro rs s12 _ hr _; exact ⟨rs, s12, hr, by simp, rfl, rfl, rfl⟩
  | cons x es ih =>
    intro rs s12 he hr hl
    have hx := he x (List.mem_cons_self ..)
    rw [List.length_cons] at hl
    obtain ⟨m, em, _, _⟩ := mix_eq hd (70 + x) (by omega)
    obtain ⟨r, ro, rw', ri, rO, er⟩ := row_eq .source m [] [x] ks hb hk ⟨rfl, rfl⟩
    have hmm : (rs ++ [r]).map Row.d = rs.map Row.d ++ [r.d] := by simp
    have a3 : (rs.map Row.d).length < 10000 := by simp; omega
    have ht : fTurn (gN 12) l5_law_web (.int x) [S0, s1, some (0, .int hd), some (0, intsL ks), s4, some (1, rsD rs), s6, s7, s8, s9, s10, s11, s12, s13, s14, s15, s16] =
        .inl [S0, s1, some (0, .int hd), some (0, intsL ks), s4, some (1, rsD (rs ++ [r])), s6, s7, s8, s9, s10, s11, some (0, .int x), s13, s14, s15, s16] := by
      simp only [rsD]
      rw [hmm]
      simp only [intsL, List.map_cons, List.map_nil, Wd.s] at er
      generalize r.d = RDD at *
      generalize rs.map Row.d = RL at *
      simp [fTurn, l5_law_web, em, er, appL, a3]
    obtain ⟨rs', t12, h1, h2, h3, h4, e⟩ := ih (rs ++ [r]) (some (0, .int x)) (fun y hy => he y (List.mem_cons_of_mem _ hy)) (fun y hy => by
      rcases List.mem_append.mp hy with hy | hy
      · exact hr y hy
      · rw [List.mem_singleton.mp hy]; exact ro) (by simp; omega)
    refine ⟨rs', t12, h1, ?_, ?_, by rw [h4]; simp; omega, by rw [List.map_cons, sItems_inl ht]; exact e⟩
    · rw [h2]; simp [Fo, rO]
    · rw [h3]; simp [Gi, ri]
theorem lc_base (ns : List Int) (s1 s2 : B.Slot) : ∀ (n lo : Nat), lo + n ≤ 100 → ∃ ks : List Int, ks.length = n ∧ ks.all kOk = true ∧
    lcItK 0 (gN 9) tYesF (eCall f_law_kind (aCons (eCall f_law_cell (aCons (eV 0) (aCons (eV 9) aNil))) (aCons (eV 9) aNil))) [some (0, intsL ns), s1, s2, none, none, none, none, none, none, none, none, none, none, none, none, none, none] (rng lo n) = .ok (ks.map .int) := by
  intro n
  induction n with
  | zero => intro lo _; exact ⟨[], rfl, rfl, rfl⟩
  | succ n ih =>
    intro lo hn
    obtain ⟨c, hc⟩ := cell_eq ns lo
    obtain ⟨m, km, hm⟩ := kind_eq c lo (by omega)
    obtain ⟨ks, l, k, e⟩ := ih (lo + 1) (by omega)
    refine ⟨m :: ks, by rw [List.length_cons, l], by rw [List.all_cons, km, k]; rfl, ?_⟩
    rw [show ((lo + 1 : Nat) : Int) = (lo : Int) + 1 by omega] at e
    rw [rng_succ, lcItK_cons]
    generalize intsL ns = NS at *
    simp [tYesF, hc, hm, e]
theorem mem_rg {n : Nat} {x : Int} (h : x ∈ rgI n) : 0 ≤ x ∧ x < n := by
  unfold rgI at h
  obtain ⟨i, hi, rfl⟩ := List.mem_map.mp h
  have := List.mem_range.mp hi
  omega
structure Good (rs : List Row) (belts : List (Int × Int)) : Prop where
  b : ∀ b ∈ belts, bOk b
  r : ∀ r ∈ rs, r.Ok
  o : (Fo rs).Perm (rgI belts.length)
  i : (Gi rs).Perm (rgI belts.length)
  n : 1 ≤ rs.length ∧ rs.length ≤ 24
  l : belts.length ≤ 24
theorem web_eq (ns : List Int) (hl : ns.length ≤ 63) (most : Int) (hmost : most ≤ 24) : ∃ (rs : List Row) (belts : List (Int × Int)), Good rs belts ∧ f_law_web [intsL ns, .int most] = .ok ⟨false, 2, .tup [bsD belts, rsD rs]⟩ := by
  obtain ⟨hd, hh⟩ := cell_eq ns 0
  replace hh : f_law_cell [intsL ns, .int 0] = _ := hh
  obtain ⟨m1, e1, _, _⟩ := mix_eq hd 1 (by omega)
  obtain ⟨m2, e2, _, _⟩ := mix_eq hd 2 (by omega)
  obtain ⟨ks, kl, kk, ek⟩ := lc_base ns (some (0, .int most)) (some (0, .int hd)) 4 0 (by omega)
  obtain ⟨n, hn, n1, n5⟩ : ∃ n : Nat, (if m1 % 4 + m2 % 3 > 1 then m1 % 4 + m2 % 3 else 1) = (n : Int) ∧ 1 ≤ n ∧ n ≤ 5 := ⟨(if m1 % 4 + m2 % 3 > 1 then m1 % 4 + m2 % 3 else 1).toNat, by split <;> omega, by split <;> omega, by split <;> omega⟩
  obtain ⟨rs1, ends1, backs1, belts1, t9, v1, hr1, q1, q2, q3, e3⟩ := ini_loop (some (0, intsL ns)) (some (0, .int most)) hd ks kl kk (m1 % 4) none none none none none none none n [] [] [] [] none (by simp; omega) ⟨List.Perm.refl _, List.Perm.refl _, fun b hb => by cases hb⟩ (fun r hr => by cases hr) rfl rfl
  simp only [List.length_nil, Nat.zero_add] at q3
  have W1 : Web rs1 ends1 backs1 belts1 := ⟨v1, hr1, by omega, by omega, by omega⟩
  obtain ⟨us, hu⟩ : ∃ us : List Int, cutD (ns.map D.int) (some 1) (some 25) = us.map .int := ⟨_, by unfold cutD; rw [← List.map_drop, ← List.map_take]⟩
  obtain ⟨rs2, ends2, backs2, belts2, t10, t13, t14, t15, t16, W2, e4⟩ := web_loop (some (0, intsL ns)) (some (0, .int hd)) (some (0, .int (m1 % 4))) t9 none none most hmost ks kl kk us rs1 ends1 backs1 belts1 none none none none none W1
  have W2n := W2.n
  have W2b := W2.b
  have W2e := W2.ne
  obtain ⟨rs3, t11, hr3, f3, g3, l3, e5⟩ := fin_ends (some (0, intsL ns)) (some (0, .int most)) (some (1, bsD belts2)) (some (0, intsL ends2)) (some (1, intsL backs2)) (some (0, .int (m1 % 4))) t9 t10 none t13 t14 t15 t16 hd ks kl kk ends2 rs2 none (fun x hx => by
    have := mem_rg (W2.v.i.mem_iff.mp (List.mem_append_right _ hx)); omega) W2.r (by omega)
  obtain ⟨rs4, t12, hr4, f4, g4, l4, e6⟩ := fin_backs (some (0, intsL ns)) (some (0, .int most)) (some (1, bsD belts2)) (some (0, intsL ends2)) (some (0, intsL backs2)) (some (0, .int (m1 % 4))) t9 t10 t11 t13 t14 t15 t16 hd ks kl kk backs2 rs3 none (fun x hx => by
    have := mem_rg (W2.v.o.mem_iff.mp (List.mem_append_right _ hx)); omega) hr3 (by omega)
  have G : Good rs4 belts2 := by
    refine ⟨W2.v.b, hr4, ?_, ?_, ⟨by omega, by omega⟩, W2b⟩
    · rw [f4, f3]; have := W2.v.o; rwa [List.nil_append] at this
    · rw [g4, g3]; exact W2.v.i
  replace e3 : sItems (gN 9) l1_law_web (rng 0 n) [some (0, intsL ns), some (0, .int most), some (0, .int hd), some (0, intsL ks), some (1, .lst []), some (1, .lst []), some (1, .lst []), some (1, .lst []), some (0, .int (m1 % 4)), none, none, none, none, none, none, none, none] = _ := e3
  replace ek : lcItK 0 (gN 9) tYesF _ _ (rng 0 4) = _ := ek
  have sm : small62 (n : Int) := small_of (by omega) (by omega)
  have rl : (rng 0 4).length = 4 := rfl
  have sm4 : small62 4 := small_of (by omega) (by omega)
  have hn' : (if 1 < m1 % 4 + m2 % 3 then m1 % 4 + m2 % 3 else 1) = (n : Int) := hn
  have nl : ns.length ≤ 10000 := by omega
  refine ⟨rs4, belts2, G, ?_⟩
  simp only [intsL, bsD, rsD] at *
  generalize rs1.map Row.d = R1 at *
  generalize rs2.map Row.d = R2 at *
  generalize rs3.map Row.d = R3 at *
  generalize rs4.map Row.d = R4 at *
  generalize belts1.map bD = B1 at *
  generalize belts2.map bD = B2 at *
  simp [f_law_web, runF, b_law_web, rho0, hh, wipeE, ek, rl, sm4, lcEndK_ok (show 4 ≤ 10000 by omega), e1, e2, hn', sm]
  rw [e3]
  simp [hu]
  rw [e4]
  simp [sFz]
  rw [e5]
  simp [sFz]
  rw [e6]
  simp [okF]
/-! dealt -/
theorem dealt_turn (S0 s3 s4 s5 : B.Slot) (f : Int) (dl : List Row) (r : Row) (k : Nat) (hk : k ≤ 500) (hl : dl.length ≤ 500) : ∃ (dl' : List Row) (t5 : B.Slot), dl'.Perm (dl ++ [r]) ∧
    fTurn (gT 2 (gsC (gN 3) (gsC (gN 4) gsN))) l1_law_dealt (.tup [.int k, r.d]) [S0, some (0, .int f), some (1, rsD dl), s3, s4, s5] =
      .inl [S0, some (0, .int f), some (1, rsD dl'), some (0, .int k), some (0, r.d), t5] := by
  have d16 : divOk 16 := divOk_s (by decide) (by decide)
  obtain ⟨m, em, m0, _⟩ := mix_eq f (100 + (k : Int)) (by omega)
  have a1 : (dl.map Row.d).length < 10000 := by simp; omega
  have key : ∀ p : Nat, p ≤ dl.length → (dl.take p ++ [r] ++ dl.drop p).Perm (dl ++ [r]) := fun p hp => by
    rw [List.append_assoc]
    refine (List.Perm.append_left _ List.perm_append_comm).trans ?_
    rw [← List.append_assoc, List.take_append_drop]
  have mp : ∀ p : Nat, (dl.take p ++ [r] ++ dl.drop p).map Row.d = (dl.map Row.d).take p ++ [r.d] ++ (dl.map Row.d).drop p := fun p => by
    rw [List.map_append, List.map_append, List.map_take, List.map_drop]; rfl
  by_cases h : f / 16 % 2 = 0
  · obtain ⟨p, hp⟩ : ∃ p : Nat, m % ((dl.length : Int) + 1) = p := ⟨(m % ((dl.length : Int) + 1)).toNat, by
      have := Int.emod_nonneg m (show ((dl.length : Int) + 1) ≠ 0 by omega); omega⟩
    have hp2 : p ≤ dl.length := by have := Int.emod_lt_of_pos m (show (0 : Int) < (dl.length : Int) + 1 by omega); omega
    have sm : small62 (p : Int) := small_of (by omega) (by omega)
    have hl1 : (0 : Int) < (dl.length : Int) + 1 := by omega
    have hl2 : 0 < dl.length + 1 := by omega
    refine ⟨_, some (0, .int p), key p hp2, ?_⟩
    simp only [rsD]
    rw [mp p]
    have hlen : (dl.map Row.d).length = dl.length := by simp
    generalize r.d = RDD at *
    generalize dl.map Row.d = DL at *
    rw [← hlen] at hp hl1 hl2
    simp [fTurn, l1_law_dealt, d16, h, em, hp, hl1, hl2, sm, a1]
  · have sm : small62 (dl.length : Int) := small_of (by omega) (by omega)
    refine ⟨_, some (0, .int dl.length), key dl.length (Nat.le_refl _), ?_⟩
    simp only [rsD]
    rw [mp dl.length]
    have hlen : (dl.map Row.d).length = dl.length := by simp
    generalize r.d = RDD at *
    generalize dl.map Row.d = DL at *
    rw [← hlen] at sm ⊢
    simp [fTurn, l1_law_dealt, d16, h, sm, a1]
theorem dealt_loop (S0 : B.Slot) (f : Int) : ∀ (rs dl : List Row) (k : Nat) (s3 s4 s5 : B.Slot), k + rs.length ≤ 400 → dl.length + rs.length ≤ 400 → ∃ (dl' : List Row) (t3 t4 t5 : B.Slot), dl'.Perm (dl ++ rs) ∧
    sItems (gT 2 (gsC (gN 3) (gsC (gN 4) gsN))) l1_law_dealt (enumK k (rs.map Row.d)) [S0, some (0, .int f), some (1, rsD dl), s3, s4, s5] =
      .ok .nx [S0, some (0, .int f), some (1, rsD dl'), t3, t4, t5] := by
  intro rs
  induction rs with
  | nil => intro dl k s3 s4 s5 _ _; exact ⟨dl, s3, s4, s5, by simp, rfl⟩
  | cons r rs ih =>
    intro dl k s3 s4 s5 h1 h2
    rw [List.length_cons] at h1 h2
    obtain ⟨d1, t5, p1, ht⟩ := dealt_turn S0 s3 s4 s5 f dl r k (by omega) (by omega)
    have l1 := p1.length_eq
    rw [List.length_append, List.length_singleton] at l1
    obtain ⟨d2, u3, u4, u5, p2, e⟩ := ih d1 (k + 1) (some (0, .int k)) (some (0, r.d)) t5 (by omega) (by omega)
    refine ⟨d2, u3, u4, u5, p2.trans ?_, ?_⟩
    · refine (p1.append_right rs).trans ?_
      rw [List.append_assoc]; exact List.Perm.refl _
    · rw [List.map_cons, enumK_cons, sItems_inl ht, show (k : Int) + 1 = ((k + 1 : Nat) : Int) by omega]
      exact e
theorem dealt_eq (f : Int) (rs : List Row) (hl : rs.length ≤ 100) : ∃ (dl : List Row), dl.Perm rs ∧ f_law_dealt [rsD rs, .int f] = .ok ⟨false, 1, rsD dl⟩ := by
  obtain ⟨dl, t3, t4, t5, p, e⟩ := dealt_loop (some (0, rsD rs)) f rs [] 0 none none none (by omega) (by simpa using (by omega : rs.length ≤ 400))
  replace e : sItems _ _ (enumK 0 (rs.map Row.d)) [some (0, rsD rs), some (0, .int f), some (1, .lst []), none, none, none] = _ := e
  refine ⟨dl, by simpa using p, ?_⟩
  simp only [rsD] at e ⊢
  generalize rs.map Row.d = R1 at *
  generalize dl.map Row.d = R2 at *
  simp [f_law_dealt, runF, b_law_dealt, rho0]
  rw [e]
  simp
theorem flat_perm {g : Row → List Int} {rs dl : List Row} (p : dl.Perm rs) : (dl.map g).flatten.Perm (rs.map g).flatten := (p.map g).flatten
theorem Good.dealt {rs dl : List Row} {belts : List (Int × Int)} (h : Good rs belts) (p : dl.Perm rs) : Good dl belts :=
  ⟨h.b, fun r hr => h.r r (p.mem_iff.mp hr), (flat_perm p).trans h.o, (flat_perm p).trans h.i, by rw [p.length_eq]; exact h.n, h.l⟩
/-! knots made -/
theorem knot_eq (C : Str) (hC : cMem osA C = true) (is os : List Int) : f_Knot_init [(1, .obj C []), (0, intsL is), (0, intsL os)] = .ok (sh .non) [some (1, .obj C [("ins", intsL is), ("outs", intsL os)]), none, none] := by
  simp [f_Knot_init, runM, b_Knot_init, rhoM, putO, hC]
theorem is_eq (k : Int) : f_is_kind [.int k] = .ok (sh (.bl (kOk k))) := by
  have pw : powOk 10 30 := powOk_s (by decide) (by decide) (by decide)
  by_cases h : 0 ≤ k
  · simp [f_is_kind, runF, b_is_kind, rho0, pw, h, kOk]
  · simp [f_is_kind, runF, b_is_kind, rho0, pw, h, kOk]
theorem w_src (S o p ks : B.Slot) : ∀ (xs : List Int) (s4 : B.Slot), (xs.all kOk = true → ∃ t4, sItems (gN 4) l1_Source_init (xs.map .int) [S, o, p, ks, s4] = .ok .nx [S, o, p, ks, t4]) ∧
    (xs.all kOk = false → ∃ t4, sItems (gN 4) l1_Source_init (xs.map .int) [S, o, p, ks, s4] = .ex "BadKnot" [S, o, p, ks, t4]) := by
  intro xs
  induction xs with
  | nil => intro s4; exact ⟨fun _ => ⟨s4, rfl⟩, fun h => by simp at h⟩
  | cons x xs ih =>
    intro s4
    have e := is_eq x
    cases h : kOk x with
    | true =>
      rw [h] at e
      have ht : fTurn (gN 4) l1_Source_init (.int x) [S, o, p, ks, s4] = .inl [S, o, p, ks, some (0, .int x)] := by simp [fTurn, l1_Source_init, e]
      obtain ⟨a, b⟩ := ih (some (0, .int x))
      rw [List.all_cons, h, Bool.true_and, List.map_cons, sItems_inl ht]
      exact ⟨a, b⟩
    | false =>
      rw [h] at e
      have ht : fTurn (gN 4) l1_Source_init (.int x) [S, o, p, ks, s4] = .inr (.ex "BadKnot" [S, o, p, ks, some (0, .int x)]) := by simp [fTurn, l1_Source_init, e]
      rw [List.all_cons, h, Bool.false_and, List.map_cons, sItems_inr ht]
      exact ⟨fun z => (Bool.noConfusion z), fun _ => ⟨_, rfl⟩⟩
def Wd.C : Wd → Str
  | .source => "Source"
  | .drain => "Drain"
  | .parter => "Parter"
  | .first => "FirstParter"
  | .sieve => "Sieve"
  | .joiner => "Joiner"
def Row.x (r : Row) : List (Str × D) := match r.w with
  | .source => [("pace", .int r.p), ("kinds", intsL r.k)]
  | .drain => [("pace", .int r.p)]
  | .sieve => [("kind", .int (r.k.headD 0))]
  | _ => []
abbrev Row.ob (r : Row) : D := .obj r.w.C (("ins", intsL r.i) :: ("outs", intsL r.o) :: r.x)
theorem len1 {xs : List Int} (h : xs.length = 1) : ∃ x, xs = [x] := by
  match xs, h with
  | [x], _ => exact ⟨x, rfl⟩
theorem make_eq (r : Row) (h : r.Ok) : f_law_make [r.d] = .ok ⟨false, 1, r.ob⟩ := by
  obtain ⟨w, i, o, p, k⟩ := r
  obtain ⟨sh, hp, hp1, hk, hs, hv, ho⟩ := h
  dsimp only at sh hp hp1 hk hs hv ho
  cases w with
  | source =>
    obtain ⟨rfl, ol⟩ := sh
    obtain ⟨x, rfl⟩ := len1 ol
    have p1 := hp1 (by simp)
    have kl := hs rfl
    have kn := knot_eq "Source" (by simp) [] [x]
    obtain ⟨t, ht⟩ := (w_src (some (1, .obj "Source" [])) (some (0, .int x)) (some (0, .int p)) (some (0, intsL k)) k none).1 hk
    have n1 : ¬ p < 1 := by omega
    have n2 : ¬ 4 < p := by omega
    have n3 : ¬ (k.length : Int) < 1 := by omega
    have n4 : ¬ (6 : Int) < k.length := by omega
    have n3' : ¬ k.length = 0 := by omega
    have n4' : ¬ 6 < k.length := by omega
    simp only [intsL, List.map_cons, List.map_nil] at kn ht
    simp [f_law_make, runF, b_law_make, rho0, Row.d, Wd.s, Row.ob, Wd.C, Row.x, f_Source_init, runM, b_Source_init, rhoM, n1, n2, n3, n4, n3', n4', ht, kn, putO]
  | drain =>
    obtain ⟨il, rfl⟩ := sh
    obtain ⟨x, rfl⟩ := len1 il
    have kn := knot_eq "Drain" (by simp) [x] []
    have n1 : ¬ p < 0 := by omega
    have n2 : ¬ 4 < p := by omega
    simp only [intsL, List.map_cons, List.map_nil] at kn
    simp [f_law_make, runF, b_law_make, rho0, Row.d, Wd.s, Row.ob, Wd.C, Row.x, f_Drain_init, runM, b_Drain_init, rhoM, n1, n2, kn, putO]
  | parter =>
    obtain ⟨il, o2, o4⟩ := sh
    obtain ⟨x, rfl⟩ := len1 il
    have kn := knot_eq "Parter" (by simp) [x] o
    have n1 : ¬ (o.length : Int) < 2 := by omega
    have n2 : ¬ (4 : Int) < o.length := by omega
    have n3 : ¬ o.length < 2 := by omega
    have n4 : ¬ 4 < o.length := by omega
    simp only [intsL, List.map_cons, List.map_nil] at kn
    simp [f_law_make, runF, b_law_make, rho0, Row.d, Wd.s, Row.ob, Wd.C, Row.x, f_Parter_init, runM, b_Parter_init, rhoM, n1, n2, n3, n4, kn]
  | first =>
    obtain ⟨il, o2, o4⟩ := sh
    obtain ⟨x, rfl⟩ := len1 il
    have kn := knot_eq "FirstParter" (by simp) [x] o
    have n1 : ¬ (o.length : Int) < 2 := by omega
    have n2 : ¬ (4 : Int) < o.length := by omega
    have n3 : ¬ o.length < 2 := by omega
    have n4 : ¬ 4 < o.length := by omega
    simp only [intsL, List.map_cons, List.map_nil] at kn
    simp [f_law_make, runF, b_law_make, rho0, Row.d, Wd.s, Row.ob, Wd.C, Row.x, f_FirstParter_init, runM, b_FirstParter_init, rhoM, n1, n2, n3, n4, kn]
  | sieve =>
    obtain ⟨il, o2⟩ := sh
    obtain ⟨x, rfl⟩ := len1 il
    obtain ⟨y, rfl⟩ := len1 (hv rfl)
    have kn := knot_eq "Sieve" (by simp) [x] o
    have ke := is_eq y
    have ky : kOk y = true := by simpa using hk
    rw [ky] at ke
    have n1 : (o.length : Int) = 2 := by omega
    simp only [intsL, List.map_cons, List.map_nil] at kn
    simp [f_law_make, runF, b_law_make, rho0, Row.d, Wd.s, Row.ob, Wd.C, Row.x, f_Sieve_init, runM, b_Sieve_init, rhoM, n1, o2, ke, kn, putO]
  | joiner =>
    obtain ⟨⟨i2, i4⟩, ol⟩ := sh
    obtain ⟨x, rfl⟩ := len1 ol
    have kn := knot_eq "Joiner" (by simp) i [x]
    have n1 : ¬ (i.length : Int) < 2 := by omega
    have n2 : ¬ (4 : Int) < i.length := by omega
    have n3 : ¬ i.length < 2 := by omega
    have n4 : ¬ 4 < i.length := by omega
    simp only [intsL, List.map_cons, List.map_nil] at kn
    simp [f_law_make, runF, b_law_make, rho0, Row.d, Wd.s, Row.ob, Wd.C, Row.x, f_Joiner_init, runM, b_Joiner_init, rhoM, n1, n2, n3, n4, kn]
/-! the work -/
theorem rgD_eq (n : Nat) : rgD 0 n = (rgI n).map .int := by
  unfold rgD rgI
  rw [List.map_map]
  simp
theorem w_once (S n : B.Slot) : ∀ (rows : List (List Int)) (acc : List Int) (s3 : B.Slot), acc.length + rows.flatten.length ≤ 9000 → ∃ t3, sItems (gN 3) l1_stand_once (rows.map intsL) [S, n, some (1, intsL acc), s3] = .ok .nx [S, n, some (1, intsL (acc ++ rows.flatten)), t3] := by
  intro rows
  induction rows with
  | nil => intro acc s3 _; exact ⟨s3, by simp⟩
  | cons r rows ih =>
    intro acc s3 hl
    rw [List.flatten_cons, List.length_append] at hl
    obtain ⟨t3, e⟩ := ih (acc ++ r) (some (0, intsL r)) (by rw [List.length_append]; omega)
    have l1 : acc.length + r.length ≤ 10000 := by omega
    have ht : fTurn (gN 3) l1_stand_once (intsL r) [S, n, some (1, intsL acc), s3] = .inl [S, n, some (1, intsL (acc ++ r)), some (0, intsL r)] := by
      simp [fTurn, l1_stand_once, extL, l1]
    exact ⟨t3, by rw [List.map_cons, sItems_inl ht, e]; simp⟩
theorem lc_outs (i : Nat) (ρ : B.Env) (hi : i < ρ.length) (kn : List Row) : lcItK 0 (gN i) tYesF (eFld osA "outs" (eV i)) ρ (kn.map Row.ob) = .ok ((kn.map Row.o).map intsL) := by
  rw [List.map_map]
  refine lc_map Row.ob (intsL ∘ Row.o) kn fun k _ => ?_
  simp only [eFld_eq, eV_eq, List.getElem?_set_self hi, slotV_sh, R.bind_ok]
  obtain ⟨w, i, o, p, kk⟩ := k
  cases w <;> simp [Row.ob, Wd.C, Row.x]
theorem lc_ins (i : Nat) (ρ : B.Env) (hi : i < ρ.length) (kn : List Row) : lcItK 0 (gN i) tYesF (eFld osA "ins" (eV i)) ρ (kn.map Row.ob) = .ok ((kn.map Row.i).map intsL) := by
  rw [List.map_map]
  refine lc_map Row.ob (intsL ∘ Row.i) kn fun k _ => ?_
  simp only [eFld_eq, eV_eq, List.getElem?_set_self hi, slotV_sh, R.bind_ok]
  obtain ⟨w, i, o, p, kk⟩ := k
  cases w <;> simp [Row.ob, Wd.C, Row.x]
abbrev blD (b : Int × Int) : D := .obj "Belt" [("room", .int b.1), ("pace", .int b.2)]
theorem belt_new (b : Int × Int) (h : bOk b) : newR (f_Belt_init [(1, .obj "Belt" []), (0, .int b.1), (0, .int b.2)]) = .ok ⟨false, 1, blD b⟩ := by
  obtain ⟨⟨a, b'⟩, c, d⟩ := h
  have n1 : ¬ b.1 < 1 := by omega
  have n2 : ¬ 6 < b.1 := by omega
  have n3 : ¬ b.2 < 1 := by omega
  have n4 : ¬ 4 < b.2 := by omega
  simp [f_Belt_init, runM, b_Belt_init, rhoM, n1, n2, n3, n4, putO]
abbrev workD (rs : List Row) (belts : List (Int × Int)) : D := .obj "Work" [("belts", .lst (belts.map blD)), ("knots", .lst (rs.map Row.ob))]
theorem srt_rg {xs : List Int} {n : Nat} (p : xs.Perm (rgI n)) : srt xs = rgI n := by
  refine sorted_unique ((srt_perm xs).trans p) (srt_sorted xs) ?_
  unfold rgI
  rw [List.pairwise_map]
  exact List.pairwise_lt_range.imp fun h => by omega
theorem lc_knots (i : Nat) (ρ : B.Env) (hi : i < ρ.length) (rs : List Row) (h : ∀ r ∈ rs, r.Ok) : lcItK 0 (gN i) tYesF (eCall f_law_make (aCons (eV i) aNil)) ρ (rs.map Row.d) = .ok (rs.map Row.ob) := by
  refine lc_map Row.d Row.ob rs fun r hr => ?_
  have e := make_eq r (h r hr)
  have hs : (ρ.set i (some (0, r.d)))[i]? = some (some (0, r.d)) := by rw [List.getElem?_set_self hi]
  generalize r.d = RD at *
  generalize r.ob = RO at *
  simp only [eCall_eq, aCons_eq, eV_eq, aNil_eq, hs, slotV_sh, R.bind_ok, frz_f, e, fitX_0]
end K11
namespace K11
open PySem L2 B
/-! parts: lanes, a comb, a web -/
structure Pre (rs : List Row) (belts : List (Int × Int)) : Prop where
  b : ∀ b ∈ belts, bOk b
  r : ∀ r ∈ rs, r.Ok
  bl : 1 ≤ belts.length ∧ belts.length ≤ 60
  rl : 1 ≤ rs.length ∧ rs.length ≤ 60
def srcL (k : Nat) : Row := ⟨.source, [], [(k : Int)], 1 + (k : Int) % 4, [(k : Int)]⟩
def drnL (k : Nat) : Row := ⟨.drain, [(k : Int)], [], (k : Int) % 5, []⟩
theorem srcL_ok (k : Nat) (hk : k ≤ 100) : (srcL k).Ok := by
  refine ⟨⟨rfl, rfl⟩, ?_, fun _ => ?_, ?_, fun _ => ⟨by simp [srcL], by simp [srcL]⟩, fun h => (by cases h), fun h => absurd rfl h⟩
  · show 0 ≤ 1 + (k : Int) % 4 ∧ 1 + (k : Int) % 4 ≤ 4
    omega
  · show 1 ≤ 1 + (k : Int) % 4
    omega
  · simp [srcL, kOk]
    omega
theorem drnL_ok (k : Nat) : (drnL k).Ok := by
  refine ⟨⟨rfl, rfl⟩, ?_, fun h => (by cases h), rfl, fun h => (by cases h), fun h => (by cases h), fun _ _ => rfl⟩
  show 0 ≤ (k : Int) % 5 ∧ (k : Int) % 5 ≤ 4
  omega
def lanesR (lo n : Nat) : List Row := ((List.range' lo n).map fun k => [srcL k, drnL k]).flatten
theorem lanes_loop (a0 a1 a2 : B.Slot) : ∀ (n lo : Nat) (acc : List D) (s4 : B.Slot), acc.length + 2 * n ≤ 1000 → lo + n ≤ 100 → ∃ t4 : B.Slot, sItems (gN 4) l1_law_lanes (rng lo n) [a0, a1, a2, some (1, .lst acc), s4] = .ok .nx [a0, a1, a2, some (1, .lst (acc ++ (lanesR lo n).map Row.d)), t4] := by
  intro n
  induction n with
  | zero => intro lo acc s4 _ _; exact ⟨s4, by rw [show lanesR lo 0 = [] from rfl, List.map_nil, List.append_nil]; rfl⟩
  | succ n ih =>
    intro lo acc s4 hl hn
    obtain ⟨t4, e⟩ := ih (lo + 1) (acc ++ [(srcL lo).d, (drnL lo).d]) (some (0, .int lo)) (by simp; omega) (by omega)
    refine ⟨t4, ?_⟩
    have l1 : acc.length ≤ 9998 := by omega
    have l2 : acc.length < 10000 := by omega
    have ht : fTurn (gN 4) l1_law_lanes (.int lo) [a0, a1, a2, some (1, .lst acc), s4] = .inl [a0, a1, a2, some (1, .lst (acc ++ [(srcL lo).d, (drnL lo).d])), some (0, .int lo)] := by
      clear e ih
      have l3 : acc.length + 1 < 10000 := by omega
      simp [fTurn, l1_law_lanes, appL, l2, l3, l1, srcL, drnL, Wd.s]
    rw [rng_succ, sItems_inl ht, show (lo : Int) + 1 = ((lo + 1 : Nat) : Int) by omega, e]
    have : lanesR lo (n + 1) = [srcL lo, drnL lo] ++ lanesR (lo + 1) n := by unfold lanesR; rw [List.range'_succ]; rfl
    rw [this]
    simp
theorem lanesR_ok : ∀ (n lo : Nat), lo + n ≤ 100 → ∀ r ∈ lanesR lo n, r.Ok := fun n lo hn r hr => by
  unfold lanesR at hr
  obtain ⟨l, hl, hr⟩ := List.mem_flatten.mp hr
  obtain ⟨k, hk, rfl⟩ := List.mem_map.mp hl
  have := List.mem_range'.mp hk
  obtain ⟨i, hi, rfl⟩ := this
  simp at hr
  rcases hr with rfl | rfl
  · exact srcL_ok _ (by omega)
  · exact drnL_ok _
theorem lanesR_len : ∀ (n lo : Nat), (lanesR lo n).length = 2 * n
  | 0, lo => rfl
  | n + 1, lo => by
    have : lanesR lo (n + 1) = [srcL lo, drnL lo] ++ lanesR (lo + 1) n := by unfold lanesR; rw [List.range'_succ]; rfl
    rw [this, List.length_append, lanesR_len n]
    simp
    omega
theorem lc_belts (ns : List Int) (ρ : B.Env) (hl : 4 < ρ.length) (h0 : ρ[0]? = some (some (0, intsL ns))) : ∀ (n lo : Nat), lo + n ≤ 100 → ∃ bs : List (Int × Int), bs.length = n ∧ (∀ b ∈ bs, bOk b) ∧ lcItK 0 (gN 4) (tYesF) (eCall f_law_belt (aCons (eCall f_law_cell (aCons (eV 0) (aCons (eV 4) (aNil)))) (aCons (eV 4) (aNil)))) ρ (rng lo n) = .ok (bs.map bD) := by
  intro n
  induction n with
  | zero => intro lo _; exact ⟨[], rfl, fun b hb => (by cases hb), rfl⟩
  | succ n ih =>
    intro lo hn
    obtain ⟨bs, b1, b2, e⟩ := ih (lo + 1) (by omega)
    obtain ⟨c, ec⟩ := cell_eq ns lo
    obtain ⟨b, hb, eb⟩ := belt_eq c (lo : Int) (by omega)
    refine ⟨b :: bs, by simp [b1], fun x hx => ?_, ?_⟩
    · rcases List.mem_cons.mp hx with rfl | hx
      · exact hb
      · exact b2 x hx
    · have e0 : (ρ.set 4 (some (0, .int (lo : Int))))[0]? = some (some (0, intsL ns)) := by rw [List.getElem?_set_ne (by decide)]; exact h0
      rw [rng_succ, lcItK_cons, show (lo : Int) + 1 = ((lo + 1 : Nat) : Int) by omega, e]
      simp only [intsL] at *
      generalize ns.map D.int = ND at *
      simp [e0, List.getElem?_set_self hl, ec, eb]
theorem lanes_eq (ns : List Int) (m : Nat) (hm : 1 ≤ m ∧ m ≤ 14) : ∃ (rs : List Row) (belts : List (Int × Int)), Pre rs belts ∧ f_law_lanes [intsL ns, .int m] = .ok ⟨false, 2, .tup [bsD belts, rsD rs]⟩ := by
  obtain ⟨bs, b1, b2, e1⟩ := lc_belts ns [some (0, intsL ns), some (0, .int m), none, none, none] (by simp) rfl m 0 (by omega)
  obtain ⟨t4, e2⟩ := lanes_loop (some (0, intsL ns)) (some (0, .int m)) (some (1, bsD bs)) m 0 [] none (by simp; omega) (by omega)
  refine ⟨lanesR 0 m, bs, ⟨b2, lanesR_ok m 0 (by omega), by omega, by rw [lanesR_len]; omega⟩, ?_⟩
  have sm : small62 (m : Int) := small_of (by omega) (by omega)
  have ml : (rng 0 m).length ≤ 10000 := by unfold rng; rw [List.length_map, List.length_range]; omega
  rw [List.nil_append] at e2
  simp only [intsL, bsD, rsD] at *
  generalize (lanesR 0 m).map Row.d = RD at *
  generalize bs.map bD = BD at *
  generalize ns.map D.int = ND at *
  replace e1 : lcItK 0 (gN 4) (tYesF) _ _ (rng 0 m) = _ := e1
  replace e2 : sItems (gN 4) l1_law_lanes (rng 0 m) _ = _ := e2
  simp [f_law_lanes, runF, b_law_lanes, rho0, sm, wipeE, e1, lcEndK_ok ml]
  rw [e2]
  simp [okF]
/-! the comb -/
def rgF (a n : Nat) : List Int := (List.range' a n).map fun (i : Nat) => (i : Int)
theorem rgF_len (a n : Nat) : (rgF a n).length = n := by unfold rgF; simp
def parC (e c : Nat) : Row := ⟨.parter, [(e : Int)], rgF (e + 1) c, 0, []⟩
def joiC (e c : Nat) : Row := ⟨.joiner, rgF (e + 1) c, [((e + 1 + c : Nat) : Int)], 0, []⟩
theorem parC_ok (e c : Nat) (hc : 2 ≤ c ∧ c ≤ 4) : (parC e c).Ok := by
  refine ⟨⟨rfl, ?_, ?_⟩, ⟨show (0 : Int) ≤ 0 by decide, show (0 : Int) ≤ 4 by decide⟩, fun h => (by cases h), rfl, fun h => (by cases h), fun h => (by cases h), fun _ _ => rfl⟩
  · show 2 ≤ (rgF (e + 1) c).length
    rw [rgF_len]; omega
  · show (rgF (e + 1) c).length ≤ 4
    rw [rgF_len]; omega
theorem joiC_ok (e c : Nat) (hc : 2 ≤ c ∧ c ≤ 4) : (joiC e c).Ok := by
  refine ⟨⟨⟨?_, ?_⟩, rfl⟩, ⟨show (0 : Int) ≤ 0 by decide, show (0 : Int) ≤ 4 by decide⟩, fun h => (by cases h), rfl, fun h => (by cases h), fun h => (by cases h), fun _ _ => rfl⟩
  · show 2 ≤ (rgF (e + 1) c).length
    rw [rgF_len]; omega
  · show (rgF (e + 1) c).length ≤ 4
    rw [rgF_len]; omega
theorem rg_F (a n : Nat) : rng (a : Int) n = (rgF a n).map .int := by
  unfold rng rgF
  rw [List.map_map, List.range'_eq_map_range, List.map_map]
  refine List.map_congr_left fun i _ => ?_
  show D.int ((a : Int) + (i : Int)) = D.int ((a + i : Nat) : Int)
  rw [Int.natCast_add]
theorem belts_while (c : Int) (a0 a2 a4 a6 a7 : B.Slot) (E : Nat) : ∀ (n : Nat) (bs : List (Int × Int)), bs.length + n = E + 1 → E ≤ 200 → (∀ b ∈ bs, bOk b) → ∃ bs' : List (Int × Int), bs'.length = E + 1 ∧ (∀ b ∈ bs', bOk b) ∧
    sWhile c1_law_comb l1_law_comb [a0, some (1, bsD bs), a2, some (0, .int E), a4, some (0, .int c), a6, a7] = .ok .nx [a0, some (1, bsD bs'), a2, some (0, .int E), a4, some (0, .int c), a6, a7] := by
  intro n
  induction n with
  | zero =>
    intro bs hn hE hb
    refine ⟨bs, by omega, hb, sWhile_inr ?_⟩
    have bl : (bs.map bD).length = bs.length := by simp
    have h : ¬ (bs.length : Int) ≤ (E : Int) := by omega
    simp only [bsD]
    generalize bs.map bD = BD at *
    simp [wTurn, c1_law_comb, bl, h]
  | succ n ih =>
    intro bs hn hE hb
    obtain ⟨b, hb2, eb⟩ := belt_eq c (bs.length : Int) (by omega)
    obtain ⟨bs', h1, h2, e⟩ := ih (bs ++ [b]) (by simp; omega) hE (fun x hx => by
      rcases List.mem_append.mp hx with hx | hx
      · exact hb x hx
      · rw [List.mem_singleton.mp hx]; exact hb2)
    refine ⟨bs', h1, h2, ?_⟩
    rw [sWhile_inl (ρ1 := [a0, some (1, bsD (bs ++ [b])), a2, some (0, .int E), a4, some (0, .int c), a6, a7]) ?_]
    · exact e
    · have bl : (bs.map bD).length = bs.length := by simp
      have h : (bs.length : Int) ≤ (E : Int) := by omega
      have hl : bs.length < 10000 := by omega
      simp only [bsD, List.map_append, List.map_cons, List.map_nil]
      rw [← bl] at eb
      rw [← bl] at h hl
      generalize bs.map bD = BD at *
      simp [wTurn, c1_law_comb, l1_law_comb, h, appL, hl, eb]
theorem comb_turn (c : Int) (a0 s5 s6 s7 : B.Slot) (aim : Nat) (ha : 24 ≤ aim ∧ aim ≤ 25) (E : Nat) (bs : List (Int × Int)) (rs : List Row) (hb : bs.length = E + 1) (hE : E ≤ 100) (hbo : ∀ b ∈ bs, bOk b) (hr : rs.length ≤ 900) (hne : bs.length ≠ aim) :
    ∃ (k : Nat) (bs' : List (Int × Int)) (t6 t7 : B.Slot), (2 ≤ k ∧ k ≤ 4) ∧ bs'.length = E + k + 2 ∧ (∀ b ∈ bs', bOk b) ∧
    fTurn (gN 5) l2_law_comb (.int c) [a0, some (1, bsD bs), some (1, rsD rs), some (0, .int E), some (0, .int aim), s5, s6, s7] =
      .inl [a0, some (1, bsD bs'), some (1, rsD (rs ++ [parC E k, joiC E k])), some (0, .int (E + k + 1 : Nat)), some (0, .int aim), some (0, .int c), t6, t7] := by
  obtain ⟨m, em, m1, m2⟩ := mix_eq c 6 (by omega)
  -- the number of outs
  obtain ⟨k, hk, ek⟩ : ∃ k : Nat, (2 ≤ k ∧ k ≤ 4) ∧ (if 3 ≤ (aim : Int) - (bs.length : Int) ∧ (aim : Int) - (bs.length : Int) ≤ 5 then (aim : Int) - (bs.length : Int) - 1 else 2 + m % 3) = (k : Int) := by
    split
    · rename_i h
      exact ⟨((aim : Int) - (bs.length : Int) - 1).toNat, by omega, by omega⟩
    · exact ⟨(2 + m % 3).toNat, by omega, by omega⟩
  obtain ⟨bs', h1, h2, ew⟩ := belts_while c a0 (some (1, rsD (rs ++ [parC E k, joiC E k]))) (some (0, .int aim)) (some (0, .int k)) (some (0, intsL (rgF (E + 1) k))) (E + k + 1) (k + 1) bs (by omega) (by omega) hbo
  refine ⟨k, bs', some (0, .int k), some (0, intsL (rgF (E + 1) k)), hk, by omega, h2, ?_⟩
  have bl : (bs.map bD).length = bs.length := by simp
  have rl : (rs.map Row.d).length = rs.length := by simp
  have hne' : ¬ (bs.length : Int) = (aim : Int) := by omega
  have d3 : divOk 3 := divOk_s (by decide) (by decide)
  have rg : rng ((E : Int) + 1) k = (rgF (E + 1) k).map .int := by rw [← rg_F]; rfl
  have last : atI ((rgF (E + 1) k).map D.int) (-1) = some (.int ((E : Int) + (k : Int))) := by
    have e0 : (rgF (E + 1) k)[k - 1]? = some ((E : Int) + (k : Int)) := by
      unfold rgF
      rw [List.getElem?_map, List.getElem?_range' (by omega)]
      simp
      omega
    unfold atI
    have : ixN ((rgF (E + 1) k).map D.int).length (-1) = some (k - 1) := by
      rw [List.length_map, rgF_len]
      unfold ixN
      simp
      omega
    rw [this]
    show ((rgF (E + 1) k).map D.int)[k - 1]? = _
    rw [List.getElem?_map, e0]
    rfl
  have sm1 : small62 ((E : Int) + 1) := small_of (by omega) (by omega)
  have sm2 : small62 ((E : Int) + 1 + (k : Int)) := small_of (by omega) (by omega)
  have tn : ((E : Int) + 1 + (k : Int) - ((E : Int) + 1)).toNat = k := by omega
  have lr : lrR ((E : Int) + 1) ((E : Int) + 1 + (k : Int)) = .ok ⟨false, 1, .lst ((rgF (E + 1) k).map .int)⟩ := by
    rw [lrR_ok (by omega) (by omega) (by omega) (by omega), ← rg]
    unfold rgD rng
    rw [tn]
  have eE : ((E + k + 1 : Nat) : Int) = (E : Int) + (k : Int) + 1 := by omega
  have eE2 : ((E + 1 + k : Nat) : Int) = (E : Int) + (k : Int) + 1 := by omega
  have k4 : k ≤ 10000 := by omega
  have l1 : rs.length < 10000 := by omega
  have l2 : rs.length + 1 < 10000 := by omega
  have rF := rgF_len (E + 1) k
  rw [eE] at ew ⊢
  simp only [bsD, rsD, intsL, List.map_append, List.map_cons, List.map_nil, parC, joiC, Row.d, Wd.s, eE2] at *
  rw [← bl] at ek hne'
  rw [← rl] at l1 l2
  generalize (rgF (E + 1) k).map D.int = OD at *
  generalize bs.map bD = BD at *
  generalize bs'.map bD = BD2 at *
  generalize rs.map (fun r => D.tup _) = RD at *
  clear rg rF tn sm1 sm2 eE eE2 h1 h2 hbo
  by_cases cd : 3 ≤ (aim : Int) - (BD.length : Int) ∧ (aim : Int) - (BD.length : Int) ≤ 5
  · rw [if_pos cd] at ek
    simp [fTurn, l2_law_comb, hne', em, d3, cd.1, cd.2, ek, lr, appL, l1, l2, last]
    rw [ew]
  · rw [if_neg cd] at ek
    by_cases c1 : 3 ≤ (aim : Int) - (BD.length : Int)
    · have c2 : ¬ (aim : Int) - (BD.length : Int) ≤ 5 := fun z => cd ⟨c1, z⟩
      simp [fTurn, l2_law_comb, hne', em, d3, c1, c2, ek, lr, appL, l1, l2, last]
      rw [ew]
    · simp [fTurn, l2_law_comb, hne', em, d3, c1, ek, lr, appL, l1, l2, last]
      rw [ew]
theorem comb_loop (a0 : B.Slot) (aim : Nat) (ha : 24 ≤ aim ∧ aim ≤ 25) : ∀ (cs : List Int) (bs : List (Int × Int)) (rs : List Row) (E : Nat) (s5 s6 s7 : B.Slot), bs.length = E + 1 → (∀ b ∈ bs, bOk b) → (∀ r ∈ rs, r.Ok) → E + 5 * cs.length ≤ 95 → rs.length + 2 * cs.length ≤ 100 →
    ∃ (bs' : List (Int × Int)) (rs' : List Row) (E' : Nat) (t5 t6 t7 : B.Slot), sItems (gN 5) l2_law_comb (cs.map .int) [a0, some (1, bsD bs), some (1, rsD rs), some (0, .int E), some (0, .int aim), s5, s6, s7] = .ok .nx [a0, some (1, bsD bs'), some (1, rsD rs'), some (0, .int E'), some (0, .int aim), t5, t6, t7] ∧
      bs'.length = E' + 1 ∧ (∀ b ∈ bs', bOk b) ∧ (∀ r ∈ rs', r.Ok) ∧ E' ≤ E + 5 * cs.length ∧ rs'.length ≤ rs.length + 2 * cs.length ∧ rs.length ≤ rs'.length := by
  intro cs
  induction cs with
  | nil => intro bs rs E s5 s6 s7 h1 h2 h3 _ _; exact ⟨bs, rs, E, s5, s6, s7, rfl, h1, h2, h3, by omega, by omega, by omega⟩
  | cons c cs ih =>
    intro bs rs E s5 s6 s7 h1 h2 h3 hE hr
    rw [List.length_cons] at hE hr
    by_cases c0 : bs.length = aim
    · refine ⟨bs, rs, E, some (0, .int c), s6, s7, ?_, h1, h2, h3, by omega, by omega, by omega⟩
      have bl : (bs.map bD).length = bs.length := by simp
      have c0' : (bs.length : Int) = (aim : Int) := by omega
      have ht : fTurn (gN 5) l2_law_comb (.int c) [a0, some (1, bsD bs), some (1, rsD rs), some (0, .int E), some (0, .int aim), s5, s6, s7] = .inr (.ok .nx [a0, some (1, bsD bs), some (1, rsD rs), some (0, .int E), some (0, .int aim), some (0, .int c), s6, s7]) := by
        clear ih
        simp only [bsD, rsD] at *
        rw [← bl] at c0'
        generalize bs.map bD = BD at *
        generalize rs.map Row.d = RD at *
        simp [fTurn, l2_law_comb, c0']
      rw [List.map_cons, sItems_inr ht]
    · obtain ⟨k, bs1, t6, t7, hk, b1, b2, ht⟩ := comb_turn c a0 s5 s6 s7 aim ha E bs rs h1 (by omega) h2 (by omega) c0
      obtain ⟨bs', rs', E', u5, u6, u7, e, q1, q2, q3, q4, q5, q6⟩ := ih bs1 (rs ++ [parC E k, joiC E k]) (E + k + 1) (some (0, .int c)) t6 t7 (by omega) b2 (fun r hr => by
        rcases List.mem_append.mp hr with hr | hr
        · exact h3 r hr
        · simp at hr
          rcases hr with rfl | rfl
          · exact parC_ok E k hk
          · exact joiC_ok E k hk) (by omega) (by simp; omega)
      refine ⟨bs', rs', E', u5, u6, u7, ?_, q1, q2, q3, by rw [List.length_cons]; omega, by rw [List.length_cons]; simp at q5; omega, by simp at q6; omega⟩
      rw [List.map_cons, sItems_inl ht]
      exact e
def src0 : Row := ⟨.source, [], [0], 2, [5, 6]⟩
theorem src0_ok : src0.Ok := ⟨⟨rfl, rfl⟩, ⟨by decide, by decide⟩, fun _ => by decide, by decide, fun _ => ⟨by decide, by decide⟩, fun h => (by cases h), fun h => absurd rfl h⟩
def drnE (E : Nat) : Row := ⟨.drain, [(E : Int)], [], 1, []⟩
theorem drnE_ok (E : Nat) : (drnE E).Ok := ⟨⟨rfl, rfl⟩, ⟨show (0 : Int) ≤ 1 by decide, show (1 : Int) ≤ 4 by decide⟩, fun h => (by cases h), rfl, fun h => (by cases h), fun h => (by cases h), fun _ _ => rfl⟩
theorem comb_eq (ns : List Int) : ∃ (rs : List Row) (belts : List (Int × Int)), Pre rs belts ∧ f_law_comb [intsL ns] = .ok ⟨false, 2, .tup [bsD belts, rsD rs]⟩ := by
  obtain ⟨c, ec⟩ := cell_eq ns 1
  replace ec : f_law_cell [intsL ns, .int 1] = _ := ec
  obtain ⟨m, em, m1, m2⟩ := mix_eq c 5 (by omega)
  obtain ⟨aim, ea, ha⟩ : ∃ aim : Nat, 24 + m % 2 = (aim : Int) ∧ (24 ≤ aim ∧ aim ≤ 25) := ⟨(24 + m % 2).toNat, by omega, by omega⟩
  obtain ⟨us, hu, ul⟩ : ∃ us : List Int, cutD (ns.map D.int) (some 2) (some 9) = us.map .int ∧ us.length ≤ 7 := by
    refine ⟨(ns.drop 2).take 7, ?_, by simp; omega⟩
    have := cutD_mid (ns.map D.int) 2 9
    rw [← List.map_drop, ← List.map_take] at this
    exact this
  obtain ⟨bs, rs, E, t5, t6, t7, e, q1, q2, q3, q4, q5, q6⟩ := comb_loop (some (0, intsL ns)) aim ha us [(1, 1)] [src0] 0 none none none rfl (fun b hb => by rw [List.mem_singleton.mp hb]; exact ⟨by decide, by decide⟩) (fun r hr => by rw [List.mem_singleton.mp hr]; exact src0_ok) (by omega) (by simp; omega)
  simp at q5 q6
  refine ⟨rs ++ [drnE E], bs, ⟨q2, fun r hr => ?_, by omega, by simp; omega⟩, ?_⟩
  · rcases List.mem_append.mp hr with hr | hr
    · exact q3 r hr
    · rw [List.mem_singleton.mp hr]; exact drnE_ok E
  have rl : (rs.map Row.d).length = rs.length := by simp
  have rl' : rs.length < 10000 := by omega
  replace e : sItems (gN 5) l2_law_comb (us.map .int) [some (0, .lst (ns.map .int)), some (1, .lst [.tup [.int 1, .int 1]]), some (1, .lst [.tup [.str "source", .lst [], .lst [.int 0], .int 2, .lst [.int 5, .int 6]]]), some (0, .int 0), some (0, .int aim), none, none, none] = _ := e
  rw [← rl] at rl'
  simp only [intsL, bsD, rsD, List.map_append, List.map_cons, List.map_nil, drnE, Row.d, Wd.s] at *
  generalize rs.map (fun r => D.tup _) = RD at *
  generalize bs.map bD = BD at *
  generalize us.map D.int = UD at *
  generalize ns.map D.int = ND at *
  simp [f_law_comb, runF, b_law_comb, rho0, ec, em, ea, hu]
  rw [e]
  simp [appL, rl', okF]
theorem Good.b1 {rs : List Row} {belts : List (Int × Int)} (h : Good rs belts) : 1 ≤ belts.length := by
  have lo' := h.o.length_eq
  have li' := h.i.length_eq
  rw [rgI_len] at lo' li'
  have hl := h.l
  obtain ⟨c, d⟩ := h.n
  have hb1 : 1 ≤ belts.length := by
    cases rs with
    | nil => simp at c
    | cons r rs =>
      have ro := h.r r (List.mem_cons_self ..)
      have e1 : (Fo (r :: rs)).length = r.o.length + (Fo rs).length := by simp [Fo]
      have e2 : (Gi (r :: rs)).length = r.i.length + (Gi rs).length := by simp [Gi]
      have sh := ro.sh
      cases hw : r.w <;> rw [hw] at sh
      · have := sh.2; omega
      · have := sh.1; omega
      · have := sh.1; omega
      · have := sh.1; omega
      · have := sh.1; omega
      · have := sh.2; omega
  exact hb1
theorem Good.pre {rs : List Row} {belts : List (Int × Int)} (h : Good rs belts) : Pre rs belts := ⟨h.b, h.r, ⟨h.b1, by have := h.l; omega⟩, ⟨h.n.1, by have := h.n; omega⟩⟩
theorem parts_eq (ns : List Int) (hl : ns.length ≤ 63) : ∃ (rs : List Row) (belts : List (Int × Int)), Pre rs belts ∧ f_law_parts [intsL ns] = .ok ⟨false, 2, .tup [bsD belts, rsD rs]⟩ := by
  obtain ⟨c, ec⟩ := cell_eq ns 0
  replace ec : f_law_cell [intsL ns, .int 0] = _ := ec
  obtain ⟨m, em, m1, m2⟩ := mix_eq c 8 (by omega)
  obtain ⟨c1, ec1⟩ := cell_eq ns 1
  replace ec1 : f_law_cell [intsL ns, .int 1] = _ := ec1
  obtain ⟨m9, em9, m91, m92⟩ := mix_eq c1 9 (by omega)
  have d28 : divOk 28 := divOk_s (by decide) (by decide)
  have d4 : divOk 4 := divOk_s (by decide) (by decide)
  by_cases h0 : m % 4 = 0
  · obtain ⟨n, hn, en⟩ : ∃ n : Nat, (1 ≤ n ∧ n ≤ 14) ∧ (if 14 < 1 + m9 % 28 then 11 + (1 + m9 % 28) % 4 else 1 + m9 % 28) = (n : Int) := by
      split
      · exact ⟨(11 + (1 + m9 % 28) % 4).toNat, by omega, by omega⟩
      · exact ⟨(1 + m9 % 28).toNat, by omega, by omega⟩
    obtain ⟨rs, belts, P, e⟩ := lanes_eq ns n hn
    refine ⟨rs, belts, P, ?_⟩
    simp only [intsL, bsD, rsD] at *
    generalize rs.map Row.d = RD at *
    generalize belts.map bD = BD at *
    generalize ns.map D.int = ND at *
    by_cases h14 : 14 < 1 + m9 % 28
    · rw [if_pos h14] at en
      simp [f_law_parts, runF, b_law_parts, rho0, ec, em, h0, ec1, em9, d28, d4, h14, en, e]
    · rw [if_neg h14] at en
      have h14n : ¬ (14 : Int) < (n : Int) := by rw [← en]; exact h14
      simp [f_law_parts, runF, b_law_parts, rho0, ec, em, h0, ec1, em9, d28, d4, h14n, en, e]
  · by_cases h1 : m % 4 = 1
    · obtain ⟨rs, belts, P, e⟩ := comb_eq ns
      refine ⟨rs, belts, P, ?_⟩
      simp only [intsL, bsD, rsD] at *
      generalize rs.map Row.d = RD at *
      generalize belts.map bD = BD at *
      generalize ns.map D.int = ND at *
      simp [f_law_parts, runF, b_law_parts, rho0, ec, em, h0, h1, d4, e]
    · obtain ⟨rs, belts, G, e⟩ := web_eq ns hl 24 (by omega)
      refine ⟨rs, belts, G.pre, ?_⟩
      simp only [intsL, bsD, rsD] at *
      generalize rs.map Row.d = RD at *
      generalize belts.map bD = BD at *
      generalize ns.map D.int = ND at *
      simp [f_law_parts, runF, b_law_parts, rho0, ec, em, h0, h1, d4, e]
end K11
namespace K11
open PySem L2 B
theorem at_rows {α : Type} (g : α → D) (rs : List α) (j : Nat) (r : α) (h : rs[j]? = some r) : atI (rs.map g) (j : Int) = some (g r) := by
  rw [atI_n, List.getElem?_map, h]; rfl
theorem set_map {α : Type} (g : α → D) (rs : List α) (j : Nat) (r : α) : (rs.map g).set j (g r) = (rs.set j r).map g := by
  rw [List.map_set]
theorem at_some {α : Type} (g : α → D) (l : List α) (y : Int) (hl : 0 < l.length) : ∃ (j : Nat) (r : α), y % (l.length : Int) = (j : Int) ∧ l[j]? = some r := by
  have a := Int.emod_nonneg y (show (l.length : Int) ≠ 0 by omega)
  have b := Int.emod_lt_of_pos y (show (0 : Int) < (l.length : Int) by omega)
  have hj : (y % (l.length : Int)).toNat < l.length := by omega
  exact ⟨(y % (l.length : Int)).toNat, l[(y % (l.length : Int)).toNat], by omega, List.getElem?_eq_getElem hj⟩
theorem Row.Ok.sets {r : Row} (h : r.Ok) {i o : List Int} (hi : i.length = r.i.length) (ho : o.length = r.o.length) : Row.Ok { r with i := i, o := o } := by
  refine ⟨?_, h.p, h.p1, h.k, h.ks, h.kv, h.ko⟩
  have sh := h.sh
  obtain ⟨w, i0, o0, p, k⟩ := r
  dsimp only at *
  cases w with
  | source => exact ⟨by rw [sh.1] at hi; exact List.length_eq_zero_iff.mp hi, by rw [ho]; exact sh.2⟩
  | drain => exact ⟨by rw [hi]; exact sh.1, by rw [sh.2] at ho; exact List.length_eq_zero_iff.mp ho⟩
  | parter => exact ⟨by rw [hi]; exact sh.1, by rw [ho]; exact sh.2⟩
  | first => exact ⟨by rw [hi]; exact sh.1, by rw [ho]; exact sh.2⟩
  | sieve => exact ⟨by rw [hi]; exact sh.1, by rw [ho]; exact sh.2⟩
  | joiner => exact ⟨by rw [hi]; exact sh.1, by rw [ho]; exact sh.2⟩
theorem row_one {r : Row} (h : r.Ok) : r.i.length + r.o.length ≥ 1 := by
  have sh := h.sh
  obtain ⟨w, i0, o0, p, k⟩ := r
  dsimp only at *
  cases w with
  | source => have := sh.2; omega
  | drain => have := sh.1; omega
  | parter => have := sh.1; omega
  | first => have := sh.1; omega
  | sieve => have := sh.1; omega
  | joiner => have := sh.2; omega
/-- the number put in -/
theorem other_eq (m x : Int) (BD RD : List D) (hb : 0 < BD.length) (hb2 : BD.length ≤ 1000) (s4 s5 s6 s7 s8 s9 : B.Slot) : ∃ y : Int, (sSet 6 (eS (eIx (eLst (aCons (eOp modD (eOp fdivD (eV 2) (eC (.int 200))) (eB1 lenV (eV 0))) (aCons (eUn negD (eC (.int 1))) (aCons (eB1 lenV (eV 0)) (aCons (eO2 addV (eB1 lenV (eV 0)) (eV 3)) (aCons (eOp subD (eUn negD (eC (.int 1))) (eV 3)) (aCons (eC (.int 0)) (aNil)))))))) (eOp modD (eOp fdivD (eV 2) (eC (.int 900))) (eC (.int 6)))))) [some (1, .lst BD), some (1, .lst RD), some (0, .int m), some (0, .int x), s4, s5, s6, s7, s8, s9] = .ok .nx [some (1, .lst BD), some (1, .lst RD), some (0, .int m), some (0, .int x), s4, s5, some (0, .int y), s7, s8, s9] := by
  have d2 : divOk 200 := divOk_s (by decide) (by decide)
  have d9 : divOk 900 := divOk_s (by decide) (by decide)
  · have db : divOk (BD.length : Int) := divOk_s (by omega) (by omega)
    have h6 : m / 900 % 6 = 0 ∨ m / 900 % 6 = 1 ∨ m / 900 % 6 = 2 ∨ m / 900 % 6 = 3 ∨ m / 900 % 6 = 4 ∨ m / 900 % 6 = 5 := by omega
    rcases h6 with h | h | h | h | h | h
    · exact ⟨m / 200 % (BD.length : Int), by simp [d2, d9, db, h, hb]⟩
    · exact ⟨-1, by simp [d2, d9, db, h, hb]⟩
    · exact ⟨(BD.length : Int), by simp [d2, d9, db, h, hb]⟩
    · exact ⟨(BD.length : Int) + x, by simp [d2, d9, db, h, hb]⟩
    · exact ⟨-1 - x, by simp [d2, d9, db, h, hb]⟩
    · exact ⟨0, by simp [d2, d9, db, h, hb]⟩
/-- one number of a row is put otherwise -/
theorem put_eq (m x y : Int) (BD : List D) (rs : List Row) (j : Nat) (r : Row) (hr : r.Ok) (hj : rs[j]? = some r) (hl : rs.length ≤ 1000) (s4 : B.Slot) : ∃ i o : List Int, i.length = r.i.length ∧ o.length = r.o.length ∧ ∃ t7 t8 t9 : B.Slot,
    (sSeq (sSet 7 (eFit 1 (eB1 listV (eIx (eIx (eV 1) (eV 5)) (eC (.int 1)))))) (sSeq (sSet 8 (eFit 1 (eB1 listV (eIx (eIx (eV 1) (eV 5)) (eC (.int 2)))))) (sSeq (sAlias 7 8 9 (tOrF (tV (eO2 eqV (eB1 lenV (eV 8)) (eC (.int 0)))) (tAndF (tV (eOp gtD (eB1 lenV (eV 7)) (eC (.int 0)))) (tV (eO2 eqV (eOp modD (eOp fdivD (eV 2) (eC (.int 5))) (eC (.int 2))) (eC (.int 0)))))) (sStP 0 (pN 9) (eOp modD (eOp fdivD (eV 2) (eC (.int 7))) (eB1 lenV (eV 9))) (eV 6))) (sFz 8 (sFz 7 (sStP 0 (pN 1) (eV 5) (eTup (aCons (eIx (eIx (eV 1) (eV 5)) (eC (.int 0))) (aCons (eV 7) (aCons (eV 8) (aCons (eIx (eIx (eV 1) (eV 5)) (eC (.int 3))) (aCons (eIx (eIx (eV 1) (eV 5)) (eC (.int 4))) (aNil))))))))))))) [some (1, .lst BD), some (1, .lst (rs.map Row.d)), some (0, .int m), some (0, .int x), s4, some (0, .int (j : Int)), some (0, .int y), none, none, none] = .ok .nx [some (1, .lst BD), some (1, .lst ((rs.set j { r with i := i, o := o }).map Row.d)), some (0, .int m), some (0, .int x), s4, some (0, .int (j : Int)), some (0, .int y), t7, t8, t9] := by
  have hR := at_rows Row.d rs j r hj
  have hd : r.d = .tup [.str r.w.s, intsL r.i, intsL r.o, .int r.p, intsL r.k] := rfl
  rw [hd] at hR
  have jl := (List.getElem?_eq_some_iff.mp hj).1
  have x0 : ixN (rs.map Row.d).length (j : Int) = some j := ixN_nat (by rw [List.length_map]; exact jl)
  have one := row_one hr
  have sh := hr.sh
  have il4 : r.i.length ≤ 4 ∧ r.o.length ≤ 4 := by
    obtain ⟨w, i, o, p, k⟩ := r
    cases w <;> simp [Row.Sh] at sh <;> simp <;> first | omega | (rw [sh.2]; simp; omega) | (rw [sh.1]; simp; omega)
  have d7 : divOk 7 := divOk_s (by decide) (by decide)
  have d5 : divOk 5 := divOk_s (by decide) (by decide)
  have ilm : (r.i.map D.int).length = r.i.length := by simp
  have olm : (r.o.map D.int).length = r.o.length := by simp
  have pick : ∀ xs : List Int, 0 < xs.length → xs.length ≤ 4 → ∃ n : Nat, m / 7 % (xs.length : Int) = (n : Int) ∧ n < xs.length ∧ ixN xs.length (n : Int) = some n ∧ divOk (xs.length : Int) := fun xs h h4 => by
    have a := Int.emod_nonneg (m / 7) (show (xs.length : Int) ≠ 0 by omega)
    have b := Int.emod_lt_of_pos (m / 7) (show (0 : Int) < (xs.length : Int) by omega)
    have hn : (m / 7 % (xs.length : Int)).toNat < xs.length := by omega
    exact ⟨(m / 7 % (xs.length : Int)).toNat, by omega, hn, ixN_nat hn, divOk_s (by omega) (by omega)⟩
  by_cases c : r.o.length = 0 ∨ (0 < r.i.length ∧ m / 5 % 2 = 0)
  · have i0 : 0 < r.i.length := by
      rcases c with c | c
      · omega
      · exact c.1
    obtain ⟨n, n1, n2, n3, dn⟩ := pick r.i i0 il4.1
    refine ⟨r.i.set n y, r.o, by simp, rfl, some (0, intsL (r.i.set n y)), some (0, intsL r.o), none, ?_⟩
    have sd : (rs.map Row.d).set j (.tup [.str r.w.s, intsL (r.i.set n y), intsL r.o, .int r.p, intsL r.k]) = (rs.set j { r with i := r.i.set n y, o := r.o }).map Row.d := by rw [← set_map]
    have si : (r.i.map D.int).set n (.int y) = (r.i.set n y).map D.int := by rw [set_map]
    rw [← sd]
    simp only [intsL] at *
    rw [← si]
    have i0' : (0 : Int) < (r.i.length : Int) := by omega
    rw [← ilm] at n1 n3 dn i0 i0'
    rw [← olm, ← ilm] at c
    clear sd si hj hd pick one sh il4 hr
    generalize r.i.map D.int = ID at *
    generalize r.o.map D.int = OD at *
    generalize r.k.map D.int = KD at *
    generalize rs.map Row.d = RD at *
    have e1 : (sSet 7 (eFit 1 (eB1 listV (eIx (eIx (eV 1) (eV 5)) (eC (.int 1)))))) [some (1, .lst BD), some (1, .lst RD), some (0, .int m), some (0, .int x), s4, some (0, .int (j : Int)), some (0, .int y), none, none, none] = .ok .nx [some (1, .lst BD), some (1, .lst RD), some (0, .int m), some (0, .int x), s4, some (0, .int (j : Int)), some (0, .int y), some (1, .lst ID), none, none] := by simp [hR]
    have e2 : (sSet 8 (eFit 1 (eB1 listV (eIx (eIx (eV 1) (eV 5)) (eC (.int 2)))))) [some (1, .lst BD), some (1, .lst RD), some (0, .int m), some (0, .int x), s4, some (0, .int (j : Int)), some (0, .int y), some (1, .lst ID), none, none] = .ok .nx [some (1, .lst BD), some (1, .lst RD), some (0, .int m), some (0, .int x), s4, some (0, .int (j : Int)), some (0, .int y), some (1, .lst ID), some (1, .lst OD), none] := by simp [hR]
    have e3 : (sAlias 7 8 9 (tOrF (tV (eO2 eqV (eB1 lenV (eV 8)) (eC (.int 0)))) (tAndF (tV (eOp gtD (eB1 lenV (eV 7)) (eC (.int 0)))) (tV (eO2 eqV (eOp modD (eOp fdivD (eV 2) (eC (.int 5))) (eC (.int 2))) (eC (.int 0)))))) (sStP 0 (pN 9) (eOp modD (eOp fdivD (eV 2) (eC (.int 7))) (eB1 lenV (eV 9))) (eV 6))) [some (1, .lst BD), some (1, .lst RD), some (0, .int m), some (0, .int x), s4, some (0, .int (j : Int)), some (0, .int y), some (1, .lst ID), some (1, .lst OD), none] = .ok .nx [some (1, .lst BD), some (1, .lst RD), some (0, .int m), some (0, .int x), s4, some (0, .int (j : Int)), some (0, .int y), some (1, .lst (ID.set n (.int y))), some (1, .lst OD), none] := by
      by_cases c1 : OD.length = 0
      · have c1' : (OD.length : Int) = 0 := by omega
        have c1n : OD = [] := List.length_eq_zero_iff.mp c1
        simp [c1, c1', c1n, d7, dn, n1, n3, i0, i0']
      · have c2 := (c.resolve_left c1).2
        have c1' : ¬ (OD.length : Int) = 0 := by omega
        have c1n : ¬ OD = [] := fun z => c1 (by rw [z]; rfl)
        simp [c1, c1', c1n, c2, d5, d7, dn, n1, n3, i0, i0']
    have e4 : (sFz 8 (sFz 7 (sStP 0 (pN 1) (eV 5) (eTup (aCons (eIx (eIx (eV 1) (eV 5)) (eC (.int 0))) (aCons (eV 7) (aCons (eV 8) (aCons (eIx (eIx (eV 1) (eV 5)) (eC (.int 3))) (aCons (eIx (eIx (eV 1) (eV 5)) (eC (.int 4))) (aNil)))))))))) [some (1, .lst BD), some (1, .lst RD), some (0, .int m), some (0, .int x), s4, some (0, .int (j : Int)), some (0, .int y), some (1, .lst (ID.set n (.int y))), some (1, .lst OD), none] = .ok .nx [some (1, .lst BD), some (1, .lst (RD.set j (.tup [.str r.w.s, .lst (ID.set n (.int y)), .lst OD, .int r.p, .lst KD]))), some (0, .int m), some (0, .int x), s4, some (0, .int (j : Int)), some (0, .int y), some (0, .lst (ID.set n (.int y))), some (0, .lst OD), none] := by simp [hR, x0, sFz]
    rw [sSeq_eq, e1, RS.then_nx, sSeq_eq, e2, RS.then_nx, sSeq_eq, e3, RS.then_nx, e4]
  · have o0 : 0 < r.o.length := by
      rcases Nat.eq_zero_or_pos r.o.length with z | z
      · exact absurd (.inl z) c
      · exact z
    obtain ⟨n, n1, n2, n3, dn⟩ := pick r.o o0 il4.2
    refine ⟨r.i, r.o.set n y, rfl, by simp, some (0, intsL r.i), some (0, intsL (r.o.set n y)), none, ?_⟩
    have sd : (rs.map Row.d).set j (.tup [.str r.w.s, intsL r.i, intsL (r.o.set n y), .int r.p, intsL r.k]) = (rs.set j { r with i := r.i, o := r.o.set n y }).map Row.d := by rw [← set_map]
    have si : (r.o.map D.int).set n (.int y) = (r.o.set n y).map D.int := by rw [set_map]
    rw [← sd]
    simp only [intsL] at *
    rw [← si]
    have o0' : (0 : Int) < (r.o.length : Int) := by omega
    rw [← olm] at n1 n3 dn o0 o0'
    rw [← olm, ← ilm] at c
    clear sd si hj hd pick one sh il4 hr
    generalize r.i.map D.int = ID at *
    generalize r.o.map D.int = OD at *
    generalize r.k.map D.int = KD at *
    generalize rs.map Row.d = RD at *
    have e1 : (sSet 7 (eFit 1 (eB1 listV (eIx (eIx (eV 1) (eV 5)) (eC (.int 1)))))) [some (1, .lst BD), some (1, .lst RD), some (0, .int m), some (0, .int x), s4, some (0, .int (j : Int)), some (0, .int y), none, none, none] = .ok .nx [some (1, .lst BD), some (1, .lst RD), some (0, .int m), some (0, .int x), s4, some (0, .int (j : Int)), some (0, .int y), some (1, .lst ID), none, none] := by simp [hR]
    have e2 : (sSet 8 (eFit 1 (eB1 listV (eIx (eIx (eV 1) (eV 5)) (eC (.int 2)))))) [some (1, .lst BD), some (1, .lst RD), some (0, .int m), some (0, .int x), s4, some (0, .int (j : Int)), some (0, .int y), some (1, .lst ID), none, none] = .ok .nx [some (1, .lst BD), some (1, .lst RD), some (0, .int m), some (0, .int x), s4, some (0, .int (j : Int)), some (0, .int y), some (1, .lst ID), some (1, .lst OD), none] := by simp [hR]
    have c1' : ¬ (OD.length : Int) = 0 := by omega
    have c1n : ¬ OD = [] := fun z => by rw [z] at o0; simp at o0
    have e3 : (sAlias 7 8 9 (tOrF (tV (eO2 eqV (eB1 lenV (eV 8)) (eC (.int 0)))) (tAndF (tV (eOp gtD (eB1 lenV (eV 7)) (eC (.int 0)))) (tV (eO2 eqV (eOp modD (eOp fdivD (eV 2) (eC (.int 5))) (eC (.int 2))) (eC (.int 0)))))) (sStP 0 (pN 9) (eOp modD (eOp fdivD (eV 2) (eC (.int 7))) (eB1 lenV (eV 9))) (eV 6))) [some (1, .lst BD), some (1, .lst RD), some (0, .int m), some (0, .int x), s4, some (0, .int (j : Int)), some (0, .int y), some (1, .lst ID), some (1, .lst OD), none] = .ok .nx [some (1, .lst BD), some (1, .lst RD), some (0, .int m), some (0, .int x), s4, some (0, .int (j : Int)), some (0, .int y), some (1, .lst ID), some (1, .lst (OD.set n (.int y))), none] := by
      by_cases c2 : 0 < ID.length
      · have c3 : ¬ m / 5 % 2 = 0 := fun z => c (.inr ⟨c2, z⟩)
        have c2' : (0 : Int) < (ID.length : Int) := by omega
        simp [c1', c1n, c2, c2', c3, d5, d7, dn, n1, n3, o0, o0']
      · have c2' : ¬ (0 : Int) < (ID.length : Int) := by omega
        simp [c1', c1n, c2, c2', d5, d7, dn, n1, n3, o0, o0']
    have e4 : (sFz 8 (sFz 7 (sStP 0 (pN 1) (eV 5) (eTup (aCons (eIx (eIx (eV 1) (eV 5)) (eC (.int 0))) (aCons (eV 7) (aCons (eV 8) (aCons (eIx (eIx (eV 1) (eV 5)) (eC (.int 3))) (aCons (eIx (eIx (eV 1) (eV 5)) (eC (.int 4))) (aNil)))))))))) [some (1, .lst BD), some (1, .lst RD), some (0, .int m), some (0, .int x), s4, some (0, .int (j : Int)), some (0, .int y), some (1, .lst ID), some (1, .lst (OD.set n (.int y))), none] = .ok .nx [some (1, .lst BD), some (1, .lst (RD.set j (.tup [.str r.w.s, .lst ID, .lst (OD.set n (.int y)), .int r.p, .lst KD]))), some (0, .int m), some (0, .int x), s4, some (0, .int (j : Int)), some (0, .int y), some (0, .lst ID), some (0, .lst (OD.set n (.int y))), none] := by simp [hR, x0, sFz]
    rw [sSeq_eq, e1, RS.then_nx, sSeq_eq, e2, RS.then_nx, sSeq_eq, e3, RS.then_nx, e4]
theorem map_erase {α : Type} (g : α → D) : ∀ (xs : List α) (m : Nat), (xs.map g).eraseIdx m = (xs.eraseIdx m).map g
  | [], m => by simp
  | x :: xs, 0 => rfl
  | x :: xs, m + 1 => by
    show g x :: (xs.map g).eraseIdx m = g x :: (xs.eraseIdx m).map g
    rw [map_erase g xs m]
theorem mem_erase {α : Type} : ∀ (xs : List α) (m : Nat) (x : α), x ∈ xs.eraseIdx m → x ∈ xs
  | [], m, x, h => by simp at h
  | y :: xs, 0, x, h => List.mem_cons_of_mem _ h
  | y :: xs, m + 1, x, h => by
    rcases List.mem_cons.mp h with rfl | h
    · exact List.mem_cons_self ..
    · exact List.mem_cons_of_mem _ (mem_erase xs m x h)
structure Pre0 (rs : List Row) (belts : List (Int × Int)) : Prop where
  b : ∀ b ∈ belts, bOk b
  r : ∀ r ∈ rs, r.Ok
  bl : belts.length ≤ 61
  rl : rs.length ≤ 60
theorem spoilt_eq (m x : Int) (hm : 0 ≤ m) (rs : List Row) (belts : List (Int × Int)) (P : Pre rs belts) : ∃ (rs' : List Row) (belts' : List (Int × Int)), Pre0 rs' belts' ∧
    f_law_spoilt [(1, bsD belts), (1, rsD rs), (0, .int m), (0, .int x)] = .ok (sh .non) [some (1, bsD belts'), some (1, rsD rs'), none, none] := by
  obtain ⟨b0, b1⟩ := P.bl
  obtain ⟨r0, r1⟩ := P.rl
  obtain ⟨j, r, ej, hj⟩ := at_some Row.d rs (m / 14) (by omega)
  have hr := P.r r (List.mem_of_getElem? hj)
  have jl := (List.getElem?_eq_some_iff.mp hj).1
  have d14 : divOk 14 := divOk_s (by decide) (by decide)
  have dr : divOk (rs.length : Int) := divOk_s (by omega) (by omega)
  have rlm : (rs.map Row.d).length = rs.length := by simp
  have blm : (belts.map bD).length = belts.length := by simp
  have rpos : (0 : Int) < (rs.length : Int) := by omega
  have rpos' : 0 < rs.length := by omega
  suffices h : ∃ (rs' : List Row) (belts' : List (Int × Int)) (ρ : B.Env), Pre0 rs' belts' ∧ b_law_spoilt [some (1, .lst (belts.map bD)), some (1, .lst (rs.map Row.d)), some (0, .int m), some (0, .int x), none, none, none, none, none, none] = .ok .nx ρ ∧ ρ[0]? = some (some (1, bsD belts')) ∧ ρ[1]? = some (some (1, rsD rs')) by
    obtain ⟨rs', belts', ρ, P', e, e0, e1⟩ := h
    refine ⟨rs', belts', P', ?_⟩
    show outM [0, 1] 4 (b_law_spoilt [some (1, .lst (belts.map bD)), some (1, .lst (rs.map Row.d)), some (0, .int m), some (0, .int x), none, none, none, none, none, none]) = _
    rw [e]
    simp [outs, show List.range 4 = [0, 1, 2, 3] from rfl, e0, e1]
  have q0 : (sSet 4 (eS (eOp modD (eV 2) (eC (.int 14))))) [some (1, .lst (belts.map bD)), some (1, .lst (rs.map Row.d)), some (0, .int m), some (0, .int x), none, none, none, none, none, none] = .ok .nx [some (1, .lst (belts.map bD)), some (1, .lst (rs.map Row.d)), some (0, .int m), some (0, .int x), some (0, .int (m % 14)), none, none, none, none, none] := by simp [d14]
  have q1 : (sSet 5 (eS (eOp modD (eOp fdivD (eV 2) (eC (.int 14))) (eB1 lenV (eV 1))))) [some (1, .lst (belts.map bD)), some (1, .lst (rs.map Row.d)), some (0, .int m), some (0, .int x), some (0, .int (m % 14)), none, none, none, none, none] = .ok .nx [some (1, .lst (belts.map bD)), some (1, .lst (rs.map Row.d)), some (0, .int m), some (0, .int x), some (0, .int (m % 14)), some (0, .int (j : Int)), none, none, none, none] := by
    have : m / 14 % (rs.length : Int) = (j : Int) := ej

    rw [← rlm] at this dr rpos rpos'
    generalize rs.map Row.d = RD at *
    simp [d14, dr, this, rpos, rpos']
  have pre : ∀ n : Int, m % 14 = n → True := fun _ _ => trivial
  have keep : Pre0 rs belts := ⟨P.b, P.r, by omega, by omega⟩
  have h14 : m % 14 = 0 ∨ m % 14 = 1 ∨ m % 14 = 2 ∨ m % 14 = 3 ∨ m % 14 = 4 ∨ (m % 14 = 5 ∨ m % 14 = 6 ∨ m % 14 = 7) ∨ 8 ≤ m % 14 := by omega
  rw [b_law_spoilt, sSeq_eq, q0, RS.then_nx, sSeq_eq, q1, RS.then_nx]
  clear q0 q1 pre
  rcases h14 with h | h | h | h | h | h | h
  · refine ⟨rs, belts ++ [(2, 3)], [some (1, .lst ((belts ++ [(2, 3)]).map bD)), some (1, .lst (rs.map Row.d)), some (0, .int m), some (0, .int x), some (0, .int (m % 14)), some (0, .int (j : Int)), none, none, none, none], ⟨fun b hb => ?_, P.r, by simp; omega, by omega⟩, ?_, rfl, rfl⟩
    · rcases List.mem_append.mp hb with hb | hb
      · exact P.b b hb
      · rw [List.mem_singleton.mp hb]; exact ⟨by decide, by decide⟩
    · have bl : belts.length < 10000 := by omega
      simp only [List.map_append, List.map_cons, List.map_nil] at *
      rw [← blm] at bl
      clear hj ej hr P
      generalize rs.map Row.d = RD at *
      generalize belts.map bD = BD at *
      simp [h, appL, bl, intsOf]
  · refine ⟨rs, belts.eraseIdx (belts.length - 1), [some (1, .lst ((belts.eraseIdx (belts.length - 1)).map bD)), some (1, .lst (rs.map Row.d)), some (0, .int m), some (0, .int x), some (0, .int (m % 14)), some (0, .int (j : Int)), none, none, none, none], ⟨fun b hb => P.b b (mem_erase _ _ _ hb), P.r, by rw [List.length_eraseIdx]; split <;> omega, by omega⟩, ?_, rfl, rfl⟩
    have bl : belts.length ≤ 10000 := by omega
    have bp : 0 < belts.length := by omega
    obtain ⟨bb, hbb⟩ : ∃ bb, belts[belts.length - 1]? = some bb := ⟨belts[belts.length - 1], List.getElem?_eq_getElem (by omega)⟩
    have hbb' : (belts.map bD)[belts.length - 1]? = some (bD bb) := by rw [List.getElem?_map, hbb]; rfl

    rw [← map_erase]
    rw [← blm] at bl bp hbb' ⊢
    clear hj ej hr P hbb
    generalize rs.map Row.d = RD at *
    generalize belts.map bD = BD at *
    simp [h, intsOf, bl, bp, hbb']
  · refine ⟨rs.eraseIdx j, belts, [some (1, .lst (belts.map bD)), some (1, .lst ((rs.eraseIdx j).map Row.d)), some (0, .int m), some (0, .int x), some (0, .int (m % 14)), some (0, .int (j : Int)), none, none, none, none], ⟨P.b, fun r hr => P.r r (mem_erase _ _ _ hr), by omega, by rw [List.length_eraseIdx]; split <;> omega⟩, ?_, rfl, rfl⟩
    have rl : rs.length ≤ 10000 := by omega
    have hj' : (rs.map Row.d)[j]? = some r.d := by rw [List.getElem?_map, hj]; rfl
    have x0 : ixN rs.length (j : Int) = some j := ixN_nat jl
    have jl2 : (j : Int) < (rs.length : Int) := by omega
    rw [← map_erase]
    rw [← rlm] at rl x0 jl jl2 rpos rpos'
    clear hj ej hr P
    generalize r.d = RW at *
    generalize rs.map Row.d = RD at *
    generalize belts.map bD = BD at *
    simp [h, intsOf, rl, x0, hj', jl, jl2, rpos']
  · refine ⟨rs, [], [some (1, .lst []), some (1, .lst (rs.map Row.d)), some (0, .int m), some (0, .int x), some (0, .int (m % 14)), some (0, .int (j : Int)), none, none, none, none], ⟨fun b hb => (by cases hb), P.r, by simp, by omega⟩, ?_, rfl, rfl⟩
    clear hj ej hr P
    generalize rs.map Row.d = RD at *
    generalize belts.map bD = BD at *
    simp [h, intsOf, clrL]
  · refine ⟨[], belts, [some (1, .lst (belts.map bD)), some (1, .lst []), some (0, .int m), some (0, .int x), some (0, .int (m % 14)), some (0, .int (j : Int)), none, none, none, none], ⟨P.b, fun r hr => (by cases hr), by omega, by simp⟩, ?_, rfl, rfl⟩
    clear hj ej hr P
    generalize rs.map Row.d = RD at *
    generalize belts.map bD = BD at *
    simp [h, intsOf, clrL]
  · obtain ⟨y, ey⟩ := other_eq m x (belts.map bD) (rs.map Row.d) (by omega) (by omega) (some (0, .int (m % 14))) (some (0, .int (j : Int))) none none none none
    obtain ⟨i, o, hi, ho, t7, t8, t9, ep⟩ := put_eq m x y (belts.map bD) rs j r hr hj (by omega) (some (0, .int (m % 14)))
    refine ⟨rs.set j { r with i := i, o := o }, belts, [some (1, .lst (belts.map bD)), some (1, .lst ((rs.set j { r with i := i, o := o }).map Row.d)), some (0, .int m), some (0, .int x), some (0, .int (m % 14)), some (0, .int (j : Int)), some (0, .int y), t7, t8, t9], ⟨P.b, fun z hz => ?_, by omega, by rw [List.length_set]; omega⟩, ?_, rfl, rfl⟩
    · rcases List.mem_or_eq_of_mem_set hz with hz | rfl
      · exact P.r z hz
      · exact hr.sets hi ho
    · have n0 : ¬ m % 14 = 0 := by omega
      have n1 : ¬ m % 14 = 1 := by omega
      have n2 : ¬ m % 14 = 2 := by omega
      have n3 : ¬ m % 14 = 3 := by omega
      have n4 : ¬ m % 14 = 4 := by omega
      have n5 : (m % 14 = 5 ∨ m % 14 = 6 ∨ m % 14 = 7) = True := eq_true h
      have inn : (intsOf [.int 5, .int 6, .int 7]).map (fun ns => decide (m % 14 ∈ ns)) = some true := by
        simp [intsOf]
        omega
      have rest : ∀ ρ ρ' : B.Env, (sSeq (sSet 6 (eS (eIx (eLst (aCons (eOp modD (eOp fdivD (eV 2) (eC (.int 200))) (eB1 lenV (eV 0))) (aCons (eUn negD (eC (.int 1))) (aCons (eB1 lenV (eV 0)) (aCons (eO2 addV (eB1 lenV (eV 0)) (eV 3)) (aCons (eOp subD (eUn negD (eC (.int 1))) (eV 3)) (aCons (eC (.int 0)) (aNil)))))))) (eOp modD (eOp fdivD (eV 2) (eC (.int 900))) (eC (.int 6)))))) (sSeq (sSet 7 (eFit 1 (eB1 listV (eIx (eIx (eV 1) (eV 5)) (eC (.int 1)))))) (sSeq (sSet 8 (eFit 1 (eB1 listV (eIx (eIx (eV 1) (eV 5)) (eC (.int 2)))))) (sSeq (sAlias 7 8 9 (tOrF (tV (eO2 eqV (eB1 lenV (eV 8)) (eC (.int 0)))) (tAndF (tV (eOp gtD (eB1 lenV (eV 7)) (eC (.int 0)))) (tV (eO2 eqV (eOp modD (eOp fdivD (eV 2) (eC (.int 5))) (eC (.int 2))) (eC (.int 0)))))) (sStP 0 (pN 9) (eOp modD (eOp fdivD (eV 2) (eC (.int 7))) (eB1 lenV (eV 9))) (eV 6))) (sFz 8 (sFz 7 (sStP 0 (pN 1) (eV 5) (eTup (aCons (eIx (eIx (eV 1) (eV 5)) (eC (.int 0))) (aCons (eV 7) (aCons (eV 8) (aCons (eIx (eIx (eV 1) (eV 5)) (eC (.int 3))) (aCons (eIx (eIx (eV 1) (eV 5)) (eC (.int 4))) (aNil)))))))))))))) ρ = .ok .nx ρ' → True := fun _ _ _ => trivial
      have whole : (sSeq (sSet 6 (eS (eIx (eLst (aCons (eOp modD (eOp fdivD (eV 2) (eC (.int 200))) (eB1 lenV (eV 0))) (aCons (eUn negD (eC (.int 1))) (aCons (eB1 lenV (eV 0)) (aCons (eO2 addV (eB1 lenV (eV 0)) (eV 3)) (aCons (eOp subD (eUn negD (eC (.int 1))) (eV 3)) (aCons (eC (.int 0)) (aNil)))))))) (eOp modD (eOp fdivD (eV 2) (eC (.int 900))) (eC (.int 6)))))) (sSeq (sSet 7 (eFit 1 (eB1 listV (eIx (eIx (eV 1) (eV 5)) (eC (.int 1)))))) (sSeq (sSet 8 (eFit 1 (eB1 listV (eIx (eIx (eV 1) (eV 5)) (eC (.int 2)))))) (sSeq (sAlias 7 8 9 (tOrF (tV (eO2 eqV (eB1 lenV (eV 8)) (eC (.int 0)))) (tAndF (tV (eOp gtD (eB1 lenV (eV 7)) (eC (.int 0)))) (tV (eO2 eqV (eOp modD (eOp fdivD (eV 2) (eC (.int 5))) (eC (.int 2))) (eC (.int 0)))))) (sStP 0 (pN 9) (eOp modD (eOp fdivD (eV 2) (eC (.int 7))) (eB1 lenV (eV 9))) (eV 6))) (sFz 8 (sFz 7 (sStP 0 (pN 1) (eV 5) (eTup (aCons (eIx (eIx (eV 1) (eV 5)) (eC (.int 0))) (aCons (eV 7) (aCons (eV 8) (aCons (eIx (eIx (eV 1) (eV 5)) (eC (.int 3))) (aCons (eIx (eIx (eV 1) (eV 5)) (eC (.int 4))) (aNil)))))))))))))) [some (1, .lst (belts.map bD)), some (1, .lst (rs.map Row.d)), some (0, .int m), some (0, .int x), some (0, .int (m % 14)), some (0, .int (j : Int)), none, none, none, none] = .ok .nx [some (1, .lst (belts.map bD)), some (1, .lst ((rs.set j { r with i := i, o := o }).map Row.d)), some (0, .int m), some (0, .int x), some (0, .int (m % 14)), some (0, .int (j : Int)), some (0, .int y), t7, t8, t9] := by
        rw [sSeq_eq, ey, RS.then_nx]
        exact ep
      clear ey ep rest
      generalize (rs.set j { r with i := i, o := o }).map Row.d = RD2 at *
      clear hj hr P
      generalize rs.map Row.d = RD at *
      generalize belts.map bD = BD at *
      have s7 : (sIf (tV (eOp inX (eV 4) (eTup (aCons (eC (.int 5)) (aCons (eC (.int 6)) (aCons (eC (.int 7)) (aNil))))))) (sSeq (sSet 6 (eS (eIx (eLst (aCons (eOp modD (eOp fdivD (eV 2) (eC (.int 200))) (eB1 lenV (eV 0))) (aCons (eUn negD (eC (.int 1))) (aCons (eB1 lenV (eV 0)) (aCons (eO2 addV (eB1 lenV (eV 0)) (eV 3)) (aCons (eOp subD (eUn negD (eC (.int 1))) (eV 3)) (aCons (eC (.int 0)) (aNil)))))))) (eOp modD (eOp fdivD (eV 2) (eC (.int 900))) (eC (.int 6)))))) (sSeq (sSet 7 (eFit 1 (eB1 listV (eIx (eIx (eV 1) (eV 5)) (eC (.int 1)))))) (sSeq (sSet 8 (eFit 1 (eB1 listV (eIx (eIx (eV 1) (eV 5)) (eC (.int 2)))))) (sSeq (sAlias 7 8 9 (tOrF (tV (eO2 eqV (eB1 lenV (eV 8)) (eC (.int 0)))) (tAndF (tV (eOp gtD (eB1 lenV (eV 7)) (eC (.int 0)))) (tV (eO2 eqV (eOp modD (eOp fdivD (eV 2) (eC (.int 5))) (eC (.int 2))) (eC (.int 0)))))) (sStP 0 (pN 9) (eOp modD (eOp fdivD (eV 2) (eC (.int 7))) (eB1 lenV (eV 9))) (eV 6))) (sFz 8 (sFz 7 (sStP 0 (pN 1) (eV 5) (eTup (aCons (eIx (eIx (eV 1) (eV 5)) (eC (.int 0))) (aCons (eV 7) (aCons (eV 8) (aCons (eIx (eIx (eV 1) (eV 5)) (eC (.int 3))) (aCons (eIx (eIx (eV 1) (eV 5)) (eC (.int 4))) (aNil)))))))))))))) (sNil)) [some (1, .lst BD), some (1, .lst RD), some (0, .int m), some (0, .int x), some (0, .int (m % 14)), some (0, .int (j : Int)), none, none, none, none] = .ok .nx [some (1, .lst BD), some (1, .lst RD2), some (0, .int m), some (0, .int x), some (0, .int (m % 14)), some (0, .int (j : Int)), some (0, .int y), t7, t8, t9] := by
        have ct : ((tV (eOp inX (eV 4) (eTup (aCons (eC (.int 5)) (aCons (eC (.int 6)) (aCons (eC (.int 7)) (aNil)))))))) [some (1, .lst BD), some (1, .lst RD), some (0, .int m), some (0, .int x), some (0, .int (m % 14)), some (0, .int (j : Int)), none, none, none, none] = .ok true := by
          rcases h with h | h | h <;> simp [h, intsOf]
        rw [sIf_eq, ct]
        exact whole
      rw [sSeq_eq, show (sIf (tV (eO2 eqV (eV 4) (eC (.int 0)))) (sMtP appL (pN 0) (eTup (aCons (eC (.int 2)) (aCons (eC (.int 3)) (aNil))))) (sNil)) [some (1, .lst BD), some (1, .lst RD), some (0, .int m), some (0, .int x), some (0, .int (m % 14)), some (0, .int (j : Int)), none, none, none, none] = .ok .nx [some (1, .lst BD), some (1, .lst RD), some (0, .int m), some (0, .int x), some (0, .int (m % 14)), some (0, .int (j : Int)), none, none, none, none] by simp [n0], RS.then_nx, sSeq_eq, show (sIf (tV (eO2 eqV (eV 4) (eC (.int 1)))) (sExM (mPop (pN 0))) (sNil)) [some (1, .lst BD), some (1, .lst RD), some (0, .int m), some (0, .int x), some (0, .int (m % 14)), some (0, .int (j : Int)), none, none, none, none] = .ok .nx [some (1, .lst BD), some (1, .lst RD), some (0, .int m), some (0, .int x), some (0, .int (m % 14)), some (0, .int (j : Int)), none, none, none, none] by simp [n1], RS.then_nx, sSeq_eq, show (sIf (tV (eO2 eqV (eV 4) (eC (.int 2)))) (sExM (mPopI (pN 1) (eV 5))) (sNil)) [some (1, .lst BD), some (1, .lst RD), some (0, .int m), some (0, .int x), some (0, .int (m % 14)), some (0, .int (j : Int)), none, none, none, none] = .ok .nx [some (1, .lst BD), some (1, .lst RD), some (0, .int m), some (0, .int x), some (0, .int (m % 14)), some (0, .int (j : Int)), none, none, none, none] by simp [n2], RS.then_nx, sSeq_eq, show (sIf (tV (eO2 eqV (eV 4) (eC (.int 3)))) (sMt0P clrL (pN 0)) (sNil)) [some (1, .lst BD), some (1, .lst RD), some (0, .int m), some (0, .int x), some (0, .int (m % 14)), some (0, .int (j : Int)), none, none, none, none] = .ok .nx [some (1, .lst BD), some (1, .lst RD), some (0, .int m), some (0, .int x), some (0, .int (m % 14)), some (0, .int (j : Int)), none, none, none, none] by simp [n3], RS.then_nx, sSeq_eq, show (sIf (tV (eO2 eqV (eV 4) (eC (.int 4)))) (sMt0P clrL (pN 1)) (sNil)) [some (1, .lst BD), some (1, .lst RD), some (0, .int m), some (0, .int x), some (0, .int (m % 14)), some (0, .int (j : Int)), none, none, none, none] = .ok .nx [some (1, .lst BD), some (1, .lst RD), some (0, .int m), some (0, .int x), some (0, .int (m % 14)), some (0, .int (j : Int)), none, none, none, none] by simp [n4], RS.then_nx]
      exact s7
  · refine ⟨rs, belts, [some (1, .lst (belts.map bD)), some (1, .lst (rs.map Row.d)), some (0, .int m), some (0, .int x), some (0, .int (m % 14)), some (0, .int (j : Int)), none, none, none, none], keep, ?_, rfl, rfl⟩
    have n0 : ¬ m % 14 = 0 := by omega
    have n1 : ¬ m % 14 = 1 := by omega
    have n2 : ¬ m % 14 = 2 := by omega
    have n3 : ¬ m % 14 = 3 := by omega
    have n4 : ¬ m % 14 = 4 := by omega
    have n5 : ¬ m % 14 = 5 := by omega
    have n6 : ¬ m % 14 = 6 := by omega
    have n7 : ¬ m % 14 = 7 := by omega

    clear hj ej hr P
    generalize rs.map Row.d = RD at *
    generalize belts.map bD = BD at *
    simp [n0, n1, n2, n3, n4, n5, n6, n7, intsOf]
end K11
namespace K11
open PySem L2 B
/-! each number once -/
def onceB (xs : List Int) (n : Nat) : Bool := decide (srt xs = rgI n)
theorem rg_nd (n : Nat) : (rgI n).Nodup := by
  unfold rgI
  exact List.pairwise_map.mpr (List.nodup_range.imp fun h e => h (by omega))
theorem once_perm (xs : List Int) (n : Nat) : onceB xs n = true ↔ xs.Perm (rgI n) := by
  unfold onceB
  rw [decide_eq_true_eq]
  exact ⟨fun h => by rw [← h]; exact (srt_perm xs).symm, fun p => srt_rg p⟩
theorem eq_ints (xs ys : List Int) (b c : Bool) (k l : Nat) : B.eqV ⟨b, k, .lst (xs.map D.int)⟩ ⟨c, l, .lst (ys.map D.int)⟩ = .ok (sh (.bl (decide (xs = ys)))) := by
  unfold B.eqV
  dsimp only
  rw [eqA_lst D.int eqv_int xs ys (dat_ints xs) (dat_ints ys)]
theorem stand_eq (rows : List (List Int)) (n : Nat) (hl : rows.flatten.length ≤ 9000) (hn : n ≤ 1000) : f_stand_once [.lst (rows.map intsL), .int n] = .ok (sh (.bl (onceB rows.flatten n))) := by
  obtain ⟨t3, e⟩ := w_once (some (0, .lst (rows.map intsL))) (some (0, .int n)) rows [] none (by simpa using hl)
  rw [List.nil_append] at e
  replace e : sItems _ _ _ [some (0, .lst (rows.map intsL)), some (0, .int n), some (1, .lst []), none] = _ := e
  have r0 : lrR 0 (n : Int) = _ := lrR_ok (by omega) (by omega) (by omega) (by omega)
  have eq := eq_ints (srt rows.flatten) (rgI n) false false 1 1
  rw [rgD_eq] at r0
  unfold onceB
  generalize rows.flatten = F at *
  simp [f_stand_once, runF, b_stand_once, rho0]
  rw [e]
  simp [sFz, r0, eq]
/-! the law's own count -/
def bump (c : List Int) (k : Nat) : List Int := c.set k (((c[k]?).getD 0) + 1)
theorem once_in (S n0 : B.Slot) (n : Nat) : ∀ (xs : List Int) (c : List Int) (s3 s4 : B.Slot), c.length = n → ∃ t4 : B.Slot,
    (∀ x ∈ xs, 0 ≤ x ∧ x < (n : Int)) ∧ sItems (gN 4) l1_law_once (xs.map .int) [S, some (0, .int n), some (1, intsL c), s3, s4] = .ok .nx [S, some (0, .int n), some (1, intsL (xs.foldl (fun c x => bump c x.toNat) c)), s3, t4] ∨
    (∃ x ∈ xs, ¬ (0 ≤ x ∧ x < (n : Int))) ∧ ∃ ρ, sItems (gN 4) l1_law_once (xs.map .int) [S, some (0, .int n), some (1, intsL c), s3, s4] = .ok (.rt 0 (.bl false)) ρ := by
  intro xs
  induction xs with
  | nil => intro c s3 s4 _; exact ⟨s4, .inl ⟨fun x hx => (by cases hx), rfl⟩⟩
  | cons x xs ih =>
    intro c s3 s4 hc
    by_cases h : 0 ≤ x ∧ x < (n : Int)
    · obtain ⟨k, rfl⟩ : ∃ k : Nat, x = (k : Int) := ⟨x.toNat, by omega⟩
      have hk : k < c.length := by omega
      have hx : c[k]? = some c[k] := List.getElem?_eq_getElem hk
      have x0 : ixN (c.map D.int).length (k : Int) = some k := ixN_nat (by rw [List.length_map]; exact hk)
      have x1 := at_ints c k _ hx
      have x2 : (c.map D.int)[k]? = some (.int c[k]) := by rw [List.getElem?_map, hx]; rfl
      have x3 : (c.map D.int).set k (.int (c[k] + 1)) = (bump c k).map D.int := by
        unfold bump
        rw [hx, ← List.map_set]
        rfl
      have n1 : ¬ (k : Int) < 0 := by omega
      have n2 : ¬ (n : Int) ≤ (k : Int) := by omega
      have n3 : ¬ n ≤ k := by omega
      have ht : fTurn (gN 4) l1_law_once (.int (k : Int)) [S, some (0, .int n), some (1, intsL c), s3, s4] = .inl [S, some (0, .int n), some (1, intsL (bump c k)), s3, some (0, .int k)] := by
        clear ih
        simp only [intsL] at *
        rw [← x3]
        generalize c[k] = v at *
        generalize c.map D.int = CD at *
        simp [fTurn, l1_law_once, n1, n2, n3, x0, x1, x2]
      obtain ⟨t4, e⟩ := ih (bump c k) s3 (some (0, .int k)) (by unfold bump; rw [List.length_set]; exact hc)
      refine ⟨t4, ?_⟩
      rcases e with ⟨e1, e2⟩ | ⟨⟨y, hy, hyn⟩, ρ, e2⟩
      · refine .inl ⟨fun y hy => ?_, ?_⟩
        · rcases List.mem_cons.mp hy with rfl | hy
          · exact h
          · exact e1 y hy
        · rw [List.map_cons, sItems_inl ht, e2]
          rfl
      · exact .inr ⟨⟨y, List.mem_cons_of_mem _ hy, hyn⟩, ρ, by rw [List.map_cons, sItems_inl ht, e2]⟩
    · refine ⟨s4, .inr ⟨⟨x, List.mem_cons_self .., h⟩, [S, some (0, .int n), some (1, intsL c), s3, some (0, .int x)], ?_⟩⟩
      have ht : fTurn (gN 4) l1_law_once (.int x) [S, some (0, .int n), some (1, intsL c), s3, s4] = .inr (.ok (.rt 0 (.bl false)) [S, some (0, .int n), some (1, intsL c), s3, some (0, .int x)]) := by
        clear ih
        simp only [intsL] at *
        generalize c.map D.int = CD at *
        by_cases h1 : x < 0
        · simp [fTurn, l1_law_once, h1]
        · have h2 : (n : Int) ≤ x := by omega
          simp [fTurn, l1_law_once, h1, h2]
      rw [List.map_cons, sItems_inr ht]
theorem once_out (S : B.Slot) (n : Nat) : ∀ (rows : List (List Int)) (c : List Int) (s3 s4 : B.Slot), c.length = n → ∃ t3 t4 : B.Slot,
    (∀ x ∈ rows.flatten, 0 ≤ x ∧ x < (n : Int)) ∧ sItems (gN 3) l2_law_once (rows.map intsL) [S, some (0, .int n), some (1, intsL c), s3, s4] = .ok .nx [S, some (0, .int n), some (1, intsL (rows.flatten.foldl (fun c x => bump c x.toNat) c)), t3, t4] ∨
    (∃ x ∈ rows.flatten, ¬ (0 ≤ x ∧ x < (n : Int))) ∧ ∃ ρ, sItems (gN 3) l2_law_once (rows.map intsL) [S, some (0, .int n), some (1, intsL c), s3, s4] = .ok (.rt 0 (.bl false)) ρ := by
  intro rows
  induction rows with
  | nil => intro c s3 s4 _; exact ⟨s3, s4, .inl ⟨fun x hx => (by cases hx), rfl⟩⟩
  | cons r rows ih =>
    intro c s3 s4 hc
    obtain ⟨u4, h⟩ := once_in S s3 n r c (some (0, intsL r)) s4 hc
    have fl : (r :: rows).flatten = r ++ rows.flatten := rfl
    rcases h with ⟨h1, h2⟩ | ⟨⟨y, hy, hyn⟩, ρ, h2⟩
    · have lc : (r.foldl (fun c x => bump c x.toNat) c).length = n := by
        have : ∀ (xs c : List Int), (xs.foldl (fun c x => bump c x.toNat) c).length = c.length := by
          intro xs
          induction xs with
          | nil => intro c; rfl
          | cons x xs ih => intro c; rw [List.foldl_cons, ih]; unfold bump; rw [List.length_set]
        rw [this, hc]
      have ht : fTurn (gN 3) l2_law_once (intsL r) [S, some (0, .int n), some (1, intsL c), s3, s4] = .inl [S, some (0, .int n), some (1, intsL (r.foldl (fun c x => bump c x.toNat) c)), some (0, intsL r), u4] := by
        clear ih
        simp only [intsL] at *
        generalize r.map D.int = RD at *
        simp [fTurn, l2_law_once]
        rw [h2]
      obtain ⟨t3, t4, e⟩ := ih _ (some (0, intsL r)) u4 lc
      refine ⟨t3, t4, ?_⟩
      rcases e with ⟨e1, e2⟩ | ⟨⟨y, hy, hyn⟩, ρ, e2⟩
      · refine .inl ⟨fun y hy => ?_, ?_⟩
        · rw [fl] at hy
          rcases List.mem_append.mp hy with hy | hy
          · exact h1 y hy
          · exact e1 y hy
        · rw [List.map_cons, sItems_inl ht, e2, fl, List.foldl_append]
      · exact .inr ⟨⟨y, by rw [fl]; exact List.mem_append_right _ hy, hyn⟩, ρ, by rw [List.map_cons, sItems_inl ht, e2]⟩
    · refine ⟨s3, s4, .inr ⟨⟨y, by rw [fl]; exact List.mem_append_left _ hy, hyn⟩, ρ, ?_⟩⟩
      have ht : fTurn (gN 3) l2_law_once (intsL r) [S, some (0, .int n), some (1, intsL c), s3, s4] = .inr (.ok (.rt 0 (.bl false)) ρ) := by
        clear ih
        simp only [intsL] at *
        generalize r.map D.int = RD at *
        simp [fTurn, l2_law_once]
        rw [h2]
      rw [List.map_cons, sItems_inr ht]
theorem bump_at (n : Nat) : ∀ (xs c : List Int), c.length = n → (∀ x ∈ xs, 0 ≤ x ∧ x < (n : Int)) → ∀ k, k < n → ((xs.foldl (fun c x => bump c x.toNat) c)[k]?).getD 0 = ((c[k]?).getD 0) + (xs.count (k : Int) : Int)
  | [], c, _, _, k, _ => by simp
  | x :: xs, c, hc, h, k, hk => by
    have hx := h x (List.mem_cons_self ..)
    rw [List.foldl_cons, bump_at n xs (bump c x.toNat) (by unfold bump; rw [List.length_set]; exact hc) (fun y hy => h y (List.mem_cons_of_mem _ hy)) k hk, List.count_cons]
    unfold bump
    by_cases e : x.toNat = k
    · have ex : x = (k : Int) := by omega
      rw [e, List.getElem?_set_self (by omega), ex]
      simp
      omega
    · have ex : ¬ x = (k : Int) := by omega
      rw [List.getElem?_set_ne e]
      simp [ex]
theorem bump_len : ∀ (xs c : List Int), (xs.foldl (fun c x => bump c x.toNat) c).length = c.length
  | [], c => rfl
  | x :: xs, c => by rw [List.foldl_cons, bump_len xs]; unfold bump; rw [List.length_set]
theorem rg_mem {n : Nat} {x : Int} : x ∈ rgI n ↔ 0 ≤ x ∧ x < (n : Int) := by
  unfold rgI
  rw [List.mem_map]
  constructor
  · rintro ⟨k, hk, rfl⟩
    have := List.mem_range.mp hk
    omega
  · rintro ⟨h1, h2⟩
    exact ⟨x.toNat, List.mem_range.mpr (by omega), by omega⟩
theorem once_count (xs : List Int) (n : Nat) (h : ∀ x ∈ xs, 0 ≤ x ∧ x < (n : Int)) : decide (xs.foldl (fun c x => bump c x.toNat) (List.replicate n 0) = List.replicate n 1) = onceB xs n := by
  rw [Bool.eq_iff_iff, decide_eq_true_eq, once_perm, List.perm_iff_count]
  have at' := bump_at n xs (List.replicate n 0) (by simp) h
  have ln := bump_len xs (List.replicate n 0)
  rw [List.length_replicate] at ln
  have cr : ∀ a : Int, (rgI n).count a = if a ∈ rgI n then 1 else 0 := fun a => (rg_nd n).count
  constructor
  · intro e a
    rw [cr]
    by_cases ha : a ∈ rgI n
    · rw [if_pos ha]
      obtain ⟨h1, h2⟩ := rg_mem.mp ha
      have := at' a.toNat (by omega)
      rw [e, List.getElem?_replicate, if_pos (by omega), List.getElem?_replicate, if_pos (by omega)] at this
      have ea : ((a.toNat : Nat) : Int) = a := by omega
      rw [ea] at this
      simp at this
      omega
    · rw [if_neg ha, List.count_eq_zero]
      exact fun z => ha (rg_mem.mpr (h a z))
  · intro e
    refine List.ext_getElem? fun k => ?_
    by_cases hk : k < n
    · have := at' k hk
      rw [e (k : Int), cr, if_pos (rg_mem.mpr ⟨by omega, by omega⟩), List.getElem?_replicate, if_pos hk] at this
      rw [List.getElem?_replicate, if_pos hk]
      have hk' : k < (xs.foldl (fun c x => bump c x.toNat) (List.replicate n 0)).length := by rw [ln]; exact hk
      rw [List.getElem?_eq_getElem hk'] at this ⊢
      simp at this
      rw [this]
    · rw [List.getElem?_eq_none (by rw [ln]; omega), List.getElem?_replicate, if_neg hk]
theorem once_no (xs : List Int) (n : Nat) (h : ∃ x ∈ xs, ¬ (0 ≤ x ∧ x < (n : Int))) : onceB xs n = false := by
  cases e : onceB xs n with
  | false => rfl
  | true =>
    obtain ⟨x, hx, hn⟩ := h
    exact absurd (rg_mem.mp (((once_perm xs n).mp e).mem_iff.mp hx)) hn
theorem law_once_eq (rows : List (List Int)) (n : Nat) (hn : n ≤ 1000) : f_law_once [.lst (rows.map intsL), .int n] = .ok (sh (.bl (onceB rows.flatten n))) := by
  have sm : small62 (n : Int) := small_of (by omega) (by omega)
  have n4 : n ≤ 10000 := by omega
  have e0 : intsL (List.replicate n 0) = .lst (List.replicate n (.int 0)) := by simp
  have e1 : (List.replicate n (1 : Int)).map D.int = List.replicate n (.int 1) := by simp
  obtain ⟨t3, t4, h⟩ := once_out (some (0, .lst (rows.map intsL))) n rows (List.replicate n 0) none none (by simp)
  rcases h with ⟨h1, h2⟩ | ⟨h1, ρ, h2⟩
  · rw [e0] at h2
    have eq := eq_ints (rows.flatten.foldl (fun c x => bump c x.toNat) (List.replicate n 0)) (List.replicate n 1) false false 0 1
    rw [e1, once_count rows.flatten n h1] at eq
    simp only [intsL] at *
    generalize rows.map (fun l => D.lst (l.map D.int)) = RD at *
    generalize (rows.flatten.foldl (fun c x => bump c x.toNat) (List.replicate n 0)).map D.int = CD at *
    simp [f_law_once, runF, b_law_once, rho0, sm, n4]
    rw [h2]
    simp [sFz, sm, n4, eq]
  · rw [e0] at h2
    rw [once_no _ _ h1]
    simp only [intsL] at *
    generalize rows.map (fun l => D.lst (l.map D.int)) = RD at *
    simp [f_law_once, runF, b_law_once, rho0, sm, n4]
    rw [h2]
    simp
end K11
namespace K11
open PySem L2 B
def lenB (n : Nat) : Bool := decide (1 ≤ n ∧ n ≤ 24)
def gB (rs : List Row) (belts : List (Int × Int)) : Bool := lenB belts.length && lenB rs.length && onceB (Gi rs) belts.length && onceB (Fo rs) belts.length
theorem lc_row1 (ρ : B.Env) (hl : 2 < ρ.length) (rs : List Row) : lcItK 0 (gN 2) (tYesF) (eIx (eV 2) (eC (.int 1))) ρ (rs.map Row.d) = .ok ((rs.map Row.i).map intsL) := by
  rw [List.map_map]
  refine lc_map Row.d (fun r => intsL r.i) rs fun r _ => ?_
  have hd : r.d = .tup [.str r.w.s, intsL r.i, intsL r.o, .int r.p, intsL r.k] := rfl
  rw [hd]
  generalize intsL r.i = ID at *
  generalize intsL r.o = OD at *
  generalize intsL r.k = KD at *
  simp [List.getElem?_set_self hl]
theorem lc_row2 (ρ : B.Env) (hl : 2 < ρ.length) (rs : List Row) : lcItK 0 (gN 2) (tYesF) (eIx (eV 2) (eC (.int 2))) ρ (rs.map Row.d) = .ok ((rs.map Row.o).map intsL) := by
  rw [List.map_map]
  refine lc_map Row.d (fun r => intsL r.o) rs fun r _ => ?_
  have hd : r.d = .tup [.str r.w.s, intsL r.i, intsL r.o, .int r.p, intsL r.k] := rfl
  rw [hd]
  generalize intsL r.i = ID at *
  generalize intsL r.o = OD at *
  generalize intsL r.k = KD at *
  simp [List.getElem?_set_self hl]
theorem flat_len (g : Row → List Int) (rs : List Row) (h : ∀ r ∈ rs, (g r).length ≤ 4) : ((rs.map g).flatten).length ≤ 4 * rs.length := by
  induction rs with
  | nil => simp
  | cons r rs ih =>
    have a := h r (List.mem_cons_self ..)
    have b := ih fun x hx => h x (List.mem_cons_of_mem _ hx)
    simp only [List.map_cons, List.flatten_cons, List.length_append, List.length_cons]
    omega
theorem four {r : Row} (h : r.Ok) : r.i.length ≤ 4 ∧ r.o.length ≤ 4 := by
  have sh := h.sh
  obtain ⟨w, i, o, p, k⟩ := r
  cases w <;> simp [Row.Sh] at sh <;> simp <;> first | omega | (rw [sh.2]; simp; omega) | (rw [sh.1]; simp; omega)
theorem good_eq (rs : List Row) (belts : List (Int × Int)) (P : Pre0 rs belts) : f_law_good [bsD belts, rsD rs] = .ok (sh (.bl (gB rs belts))) := by
  have hb := P.bl
  have hr := P.rl
  have oi := law_once_eq (rs.map Row.i) belts.length (by omega)
  have oo := law_once_eq (rs.map Row.o) belts.length (by omega)
  have li := lc_row1 [some (0, bsD belts), some (0, rsD rs), none] (by simp) rs
  have lo := lc_row2 [some (0, bsD belts), some (0, rsD rs), none] (by simp) rs
  have blm : (belts.map bD).length = belts.length := by simp
  have rlm : (rs.map Row.d).length = rs.length := by simp
  have l2 : (rs.map Row.d).length ≤ 10000 := by omega
  have el := lcEndK_ok (k := 0) l2
  unfold gB lenB
  show _ = R.ok (sh (.bl (decide (1 ≤ belts.length ∧ belts.length ≤ 24) && decide (1 ≤ rs.length ∧ rs.length ≤ 24) && onceB ((rs.map Row.i).flatten) belts.length && onceB ((rs.map Row.o).flatten) belts.length)))
  generalize onceB ((rs.map Row.i).flatten) belts.length = bi at *
  generalize onceB ((rs.map Row.o).flatten) belts.length = bo at *
  simp only [bsD, rsD] at *
  generalize (rs.map Row.i).map intsL = II at *
  generalize (rs.map Row.o).map intsL = OO at *
  rw [← blm] at oi oo ⊢
  rw [← rlm]
  generalize belts.map bD = BD at *
  generalize rs.map Row.d = RD at *
  by_cases c1 : 1 ≤ BD.length ∧ BD.length ≤ 24
  · by_cases c2 : 1 ≤ RD.length ∧ RD.length ≤ 24
    · have a1 : (1 : Int) ≤ (BD.length : Int) := by omega
      have a2 : (BD.length : Int) ≤ 24 := by omega
      have a3 : (1 : Int) ≤ (RD.length : Int) := by omega
      have a4 : (RD.length : Int) ≤ 24 := by omega
      have b1 : 0 < BD.length := c1.1
      have b3 : 0 < RD.length := c2.1
      have n1 : BD ≠ [] := fun z => by rw [z] at b1; simp at b1
      have n3 : RD ≠ [] := fun z => by rw [z] at b3; simp at b3
      simp [f_law_good, runF, b_law_good, rho0, a1, a2, a3, a4, b1, b3, c1.2, c2.2, wipeE, li, lo, el, oi, oo, n1, n3]
      cases bi <;> simp [c1, c2, wipeE, lo, el, oo, n1, n3]
    · rw [decide_eq_false c2]
      have a1 : (1 : Int) ≤ (BD.length : Int) := by omega
      have a2 : (BD.length : Int) ≤ 24 := by omega
      by_cases a3 : (1 : Int) ≤ (RD.length : Int)
      · have a4 : ¬ (RD.length : Int) ≤ 24 := by omega
        simp [f_law_good, runF, b_law_good, rho0, a1, a2, a3, a4]
      · simp [f_law_good, runF, b_law_good, rho0, a1, a2, a3]
  · rw [decide_eq_false c1]
    by_cases a1 : (1 : Int) ≤ (BD.length : Int)
    · have a2 : ¬ (BD.length : Int) ≤ 24 := by omega
      simp [f_law_good, runF, b_law_good, rho0, a1, a2]
    · simp [f_law_good, runF, b_law_good, rho0, a1]
/-! the work: made or refused -/
theorem work_or (rs : List Row) (belts : List (Int × Int)) (P : Pre0 rs belts) : f_Work_init [(1, .obj "Work" []), (1, .lst (belts.map blD)), (1, .lst (rs.map Row.ob))] = if gB rs belts = true then .ok (sh .non) [some (1, workD rs belts), some (1, .lst (belts.map blD)), some (1, .lst (rs.map Row.ob))] else .ex "BadWork" [some (1, .obj "Work" []), some (1, .lst (belts.map blD)), some (1, .lst (rs.map Row.ob))] := by
  have hb := P.bl
  have hr := P.rl
  have flo := flat_len Row.o rs fun r h => (four (P.r r h)).2
  have fli := flat_len Row.i rs fun r h => (four (P.r r h)).1
  have o1 := stand_eq (rs.map Row.o) belts.length (by omega) (by omega)
  have i1 := stand_eq (rs.map Row.i) belts.length (by omega) (by omega)
  have lo := lc_outs 3 [some (1, .obj "Work" []), some (1, .lst (belts.map blD)), some (1, .lst (rs.map Row.ob)), none] (by simp) rs
  have li := lc_ins 3 [some (1, .obj "Work" []), some (1, .lst (belts.map blD)), some (1, .lst (rs.map Row.ob)), none] (by simp) rs
  have bl : (belts.map blD).length = belts.length := by simp
  have kl : (rs.map Row.ob).length = rs.length := by simp
  have ll : (rs.map Row.ob).length ≤ 10000 := by omega
  have el := lcEndK_ok (k := 0) ll
  unfold gB lenB
  show _ = if (decide (1 ≤ belts.length ∧ belts.length ≤ 24) && decide (1 ≤ rs.length ∧ rs.length ≤ 24) && onceB ((rs.map Row.i).flatten) belts.length && onceB ((rs.map Row.o).flatten) belts.length) = true then _ else _
  simp only [workD]
  generalize onceB ((rs.map Row.i).flatten) belts.length = bi at *
  generalize onceB ((rs.map Row.o).flatten) belts.length = bo at *
  generalize (rs.map Row.i).map intsL = II at *
  generalize (rs.map Row.o).map intsL = OO at *
  rw [← bl] at o1 i1 ⊢
  rw [← kl]
  generalize belts.map blD = BL at *
  generalize rs.map Row.ob = KL at *
  by_cases c1 : 1 ≤ BL.length ∧ BL.length ≤ 24
  · have n1 : ¬ (BL.length : Int) < 1 := by omega
    have n2 : ¬ (24 : Int) < BL.length := by omega
    have m2 : ¬ 24 < BL.length := by omega
    have m1 : BL ≠ [] := fun z => by rw [z] at c1; simp at c1
    by_cases c2 : 1 ≤ KL.length ∧ KL.length ≤ 24
    · have n3 : ¬ (KL.length : Int) < 1 := by omega
      have n4 : ¬ (24 : Int) < KL.length := by omega
      have m4 : ¬ 24 < KL.length := by omega
      have m3 : KL ≠ [] := fun z => by rw [z] at c2; simp at c2
      cases bo with
      | false => (simp [f_Work_init, runM, b_Work_init, rhoM, n1, n2, n3, n4, m1, m2, m3, m4, wipeE, lo, el, o1]; rfl)
      | true =>
        cases bi with
        | false => (simp [f_Work_init, runM, b_Work_init, rhoM, n1, n2, n3, n4, m1, m2, m3, m4, wipeE, lo, el, o1, li, i1]; rfl)
        | true =>
          rw [decide_eq_true c1, decide_eq_true c2]
          (simp [f_Work_init, runM, b_Work_init, rhoM, n1, n2, n3, n4, m1, m2, m3, m4, wipeE, lo, el, o1, li, i1, putO]; rfl)
    · rw [decide_eq_false c2]
      by_cases n3 : (KL.length : Int) < 1
      · have m3 : KL = [] := List.length_eq_zero_iff.mp (by omega)
        (simp [f_Work_init, runM, b_Work_init, rhoM, n1, n2, m1, m2, m3]; rfl)
      · have n4 : (24 : Int) < KL.length := by omega
        have m4 : 24 < KL.length := by omega
        have m3 : KL ≠ [] := fun z => by rw [z] at m4; simp at m4
        (simp [f_Work_init, runM, b_Work_init, rhoM, n1, n2, n3, n4, m1, m2, m3, m4]; rfl)
  · rw [decide_eq_false c1]
    by_cases n1 : (BL.length : Int) < 1
    · have m1 : BL = [] := List.length_eq_zero_iff.mp (by omega)
      (simp [f_Work_init, runM, b_Work_init, rhoM, m1]; rfl)
    · have n2 : (24 : Int) < BL.length := by omega
      have m2 : 24 < BL.length := by omega
      have m1 : BL ≠ [] := fun z => by rw [z] at m2; simp at m2
      (simp [f_Work_init, runM, b_Work_init, rhoM, n1, n2, m1, m2]; rfl)
end K11
namespace K11
open PySem L2 B
theorem whole_i (i : Int) : f_law_whole [.int i] = .ok (sh (.bl true)) := by simp [f_law_whole, runF, b_law_whole, rho0]
theorem nums_loop (S T : B.Slot) : ∀ (xs : List Int) (s2 s3 : B.Slot), ∃ t2 t3, sItems (gT 2 (gsC (gN 2) (gsC (gN 3) gsN))) l1_law_numbers_are (zipD (xs.map .int) (xs.map .int)) [S, T, s2, s3] = .ok .nx [S, T, t2, t3] := by
  intro xs
  induction xs with
  | nil => intro s2 s3; exact ⟨s2, s3, rfl⟩
  | cons x xs ih =>
    intro s2 s3
    obtain ⟨t2, t3, e⟩ := ih (some (0, .int x)) (some (0, .int x))
    have ht : fTurn (gT 2 (gsC (gN 2) (gsC (gN 3) gsN))) l1_law_numbers_are (.tup [.int x, .int x]) [S, T, s2, s3] = .inl [S, T, some (0, .int x), some (0, .int x)] := by
      simp [fTurn, l1_law_numbers_are, whole_i]
    have hz : zipD ((x :: xs).map D.int) ((x :: xs).map D.int) = .tup [.int x, .int x] :: zipD (xs.map .int) (xs.map .int) := rfl
    exact ⟨t2, t3, by rw [hz, sItems_inl ht]; exact e⟩
theorem nums_eq (xs : List Int) : f_law_numbers_are [intsL xs, intsL xs] = .ok (sh (.bl true)) := by
  obtain ⟨t2, t3, e⟩ := nums_loop (some (0, intsL xs)) (some (0, intsL xs)) xs none none
  simp only [intsL] at e ⊢
  simp [f_law_numbers_are, runF, b_law_numbers_are, rho0, e]
theorem belt_is_eq (b : Int × Int) : f_law_belt_is [blD b, bD b] = .ok (sh (.bl true)) := by
  obtain ⟨x, y⟩ := b
  have w1 := whole_i x
  have w2 := whole_i y
  have eq : ∀ k l b c, B.eqV ⟨b, k, .tup [.int x, .int y]⟩ ⟨c, l, .tup [.int x, .int y]⟩ = .ok (sh (.bl true)) := fun _ _ _ _ => B.eqV_self rfl
  simp [f_law_belt_is, runF, b_law_belt_is, rho0, w1, w2, eq]
theorem knot_is_eq (r : Row) (hr : r.Ok) : f_law_knot_is [r.ob, r.d] = .ok (sh (.bl true)) := by
  have ni := nums_eq r.i
  have no := nums_eq r.o
  have nk := nums_eq (r.p :: r.k)
  have np := nums_eq [r.p]
  have nk1 := nums_eq r.k
  have kv := hr.kv
  obtain ⟨w, i, o, p, k⟩ := r
  have hk : k.length ≤ 6 ∨ True := .inr trivial
  have hkl : w = .source → k.length ≤ 6 := fun e => (hr.ks e).2
  dsimp only at ni no nk np nk1 kv hkl
  have klm : (k.map D.int).length = k.length := by simp
  simp only [Row.ob, Row.d, Row.x, intsL, List.map_cons, List.map_nil] at *
  cases w with
  | sieve =>
    obtain ⟨x, rfl⟩ := len1 (kv rfl)
    simp only [List.map_cons, List.map_nil] at nk1
    generalize i.map D.int = ID at *
    generalize o.map D.int = OD at *
    simp [f_law_knot_is, runF, b_law_knot_is, rho0, Wd.C, Wd.s, ni, no, nk1]
  | source =>
    have k6 := hkl rfl
    have k6' : 1 + k.length ≤ 10000 := by omega
    rw [← klm] at k6'
    generalize i.map D.int = ID at *
    generalize o.map D.int = OD at *
    generalize k.map D.int = KD at *
    simp [f_law_knot_is, runF, b_law_knot_is, rho0, Wd.C, Wd.s, ni, no, nk, k6']
  | _ =>
    generalize i.map D.int = ID at *
    generalize o.map D.int = OD at *
    generalize k.map D.int = KD at *
    simp [f_law_knot_is, runF, b_law_knot_is, rho0, Wd.C, Wd.s, ni, no, np]
theorem drain_new : newR (f_Drain_init [(1, .obj "Drain" []), (0, .int 0), (0, .int 1)]) = .ok ⟨false, 1, .obj "Drain" [("ins", .lst [.int 0]), ("outs", .lst []), ("pace", .int 1)]⟩ := by
  simp [f_Drain_init, runM, b_Drain_init, rhoM, f_Knot_init, b_Knot_init, putO]
theorem belts_is (a0 a1 a2 a5 a6 : B.Slot) : ∀ (bs : List (Int × Int)) (s3 s4 : B.Slot), ∃ t3 t4 : B.Slot, sItems (gT 2 (gsC (gN 3) (gsC (gN 4) (gsN)))) l1_law_work_is (zipD (bs.map blD) (bs.map bD)) [a0, a1, a2, s3, s4, a5, a6] = .ok .nx [a0, a1, a2, t3, t4, a5, a6] := by
  intro bs
  induction bs with
  | nil => intro s3 s4; exact ⟨s3, s4, rfl⟩
  | cons b bs ih =>
    intro s3 s4
    obtain ⟨t3, t4, e⟩ := ih (some (0, blD b)) (some (0, bD b))
    refine ⟨t3, t4, ?_⟩
    have be := belt_is_eq b
    have ht : fTurn (gT 2 (gsC (gN 3) (gsC (gN 4) (gsN)))) l1_law_work_is (.tup [blD b, bD b]) [a0, a1, a2, s3, s4, a5, a6] = .inl [a0, a1, a2, some (0, blD b), some (0, bD b), a5, a6] := by
      clear e ih
      generalize blD b = X at *
      generalize bD b = Y at *
      simp [fTurn, l1_law_work_is, be]
    have hz : zipD ((b :: bs).map blD) ((b :: bs).map bD) = .tup [blD b, bD b] :: zipD (bs.map blD) (bs.map bD) := rfl
    rw [hz, sItems_inl ht]
    exact e
theorem knots_is (a0 a1 a2 a3 a4 : B.Slot) : ∀ (rs : List Row) (s5 s6 : B.Slot), (∀ r ∈ rs, r.Ok) → ∃ t5 t6 : B.Slot, sItems (gT 2 (gsC (gN 5) (gsC (gN 6) (gsN)))) l2_law_work_is (zipD (rs.map Row.ob) (rs.map Row.d)) [a0, a1, a2, a3, a4, s5, s6] = .ok .nx [a0, a1, a2, a3, a4, t5, t6] := by
  intro rs
  induction rs with
  | nil => intro s5 s6 _; exact ⟨s5, s6, rfl⟩
  | cons r rs ih =>
    intro s5 s6 h
    obtain ⟨t5, t6, e⟩ := ih (some (0, r.ob)) (some (0, r.d)) fun x hx => h x (List.mem_cons_of_mem _ hx)
    refine ⟨t5, t6, ?_⟩
    have be := knot_is_eq r (h r (List.mem_cons_self ..))
    have ht : fTurn (gT 2 (gsC (gN 5) (gsC (gN 6) (gsN)))) l2_law_work_is (.tup [r.ob, r.d]) [a0, a1, a2, a3, a4, s5, s6] = .inl [a0, a1, a2, a3, a4, some (0, r.ob), some (0, r.d)] := by
      clear e ih
      generalize r.ob = X at *
      generalize r.d = Y at *
      simp [fTurn, l2_law_work_is, be]
    have hz : zipD ((r :: rs).map Row.ob) ((r :: rs).map Row.d) = .tup [r.ob, r.d] :: zipD (rs.map Row.ob) (rs.map Row.d) := rfl
    rw [hz, sItems_inl ht]
    exact e
theorem work_is_eq (rs : List Row) (belts : List (Int × Int)) (h : ∀ r ∈ rs, r.Ok) : f_law_work_is [workD rs belts, bsD belts, rsD rs] = .ok (sh (.bl true)) := by
  obtain ⟨t3, t4, e1⟩ := belts_is (some (0, workD rs belts)) (some (0, bsD belts)) (some (0, rsD rs)) none none belts none none
  obtain ⟨t5, t6, e2⟩ := knots_is (some (0, workD rs belts)) (some (0, bsD belts)) (some (0, rsD rs)) t3 t4 rs none none h
  have bl : (belts.map bD).length = (belts.map blD).length := by simp
  have rl : (rs.map Row.d).length = (rs.map Row.ob).length := by simp
  simp only [workD, bsD, rsD] at *
  generalize belts.map bD = BD at *
  generalize belts.map blD = BL at *
  generalize rs.map Row.d = RD at *
  generalize rs.map Row.ob = KL at *
  simp [f_law_work_is, runF, b_law_work_is, rho0, bl, rl]
  rw [e1]
  simp
  rw [e2]
  simp
theorem lc_blts (ρ : B.Env) (hl : 11 < ρ.length) : ∀ bs : List (Int × Int), (∀ b ∈ bs, bOk b) → lcItK 0 (gT 2 (gsC (gN 10) (gsC (gN 11) (gsN)))) (tYesF) (eNew "Belt" f_Belt_init (aCons (eV 10) (aCons (eV 11) (aNil)))) ρ (bs.map bD) = .ok (bs.map blD) := by
  intro bs
  induction bs with
  | nil => intro _; rfl
  | cons b bs ih =>
    intro h
    have e1 := belt_new b (h b (List.mem_cons_self ..))
    have e2 := ih fun x hx => h x (List.mem_cons_of_mem _ hx)
    have l10 : 10 < ρ.length := by omega
    have g10 : ((ρ.set 10 (some (0, .int b.1))).set 11 (some (0, .int b.2)))[10]? = some (some (0, .int b.1)) := by rw [List.getElem?_set_ne (by decide), List.getElem?_set_self l10]
    have g11 : ((ρ.set 10 (some (0, .int b.1))).set 11 (some (0, .int b.2)))[11]? = some (some (0, .int b.2)) := List.getElem?_set_self (by simpa using hl)
    rw [List.map_cons, List.map_cons, lcItK_cons, e2]
    simp [tYesF, g10, g11, List.getElem?_set_self l10, e1]
theorem law_bad (ND BD0 RD0 RD1 BD RD BL KL : List D) (WD : D) (f m3 c2 : Int) (gb : Bool) (fe : f_law_fold [.lst ND] = .ok (sh (.int f))) (pe : f_law_parts [.lst ND] = .ok ⟨false, 2, .tup [.lst BD0, .lst RD0]⟩) (de : f_law_dealt [.lst RD0, .int f] = .ok ⟨false, 1, .lst RD1⟩) (me : f_law_mix [.int f, .int 3] = .ok (sh (.int m3))) (ce : f_law_cell [.lst ND, .int 2] = .ok (sh (.int c2)))
    (se : f_law_spoilt [(1, .lst BD0), (1, .lst RD1), (0, .int m3), (0, .int (c2 % 1000000000000000000000000000000))] = .ok (sh .non) [some (1, .lst BD), some (1, .lst RD), none, none])
    (lb : ∀ ρ : B.Env, 11 < ρ.length → lcItK 0 (gT 2 (gsC (gN 10) (gsC (gN 11) (gsN)))) (tYesF) (eNew "Belt" f_Belt_init (aCons (eV 10) (aCons (eV 11) (aNil)))) ρ BD = .ok BL) (lk : ∀ ρ : B.Env, 9 < ρ.length → lcItK 0 (gN 9) tYesF (eCall f_law_make (aCons (eV 9) aNil)) ρ RD = .ok KL) (lbd : BD.length ≤ 10000) (lrd : RD.length ≤ 10000)
    (bl : BL.length = BD.length) (kl : KL.length = RD.length) (kl2 : KL.length < 10000) (ge : f_law_good [.lst BD, .lst RD] = .ok (sh (.bl gb))) (hg : gb = false) (wn : f_Work_init [(1, .obj "Work" []), (1, .lst BL), (1, .lst KL)] = .ex "BadWork" [some (1, .obj "Work" []), some (1, .lst BL), some (1, .lst KL)]) : f_law [.lst ND] = .ok (sh (.bl true)) := by
  have po : powOk 10 30 := powOk_s (by decide) (by decide) (by decide)
  have d30 : divOk 1000000000000000000000000000000 := divOk_w 200 (by decide) (by decide) (by decide) (by decide)
  show outF (b_law [some (0, .lst ND), none, none, none, none, none, none, none, none, none, none, none]) = _
  rw [b_law]
  have q0 : (sSet 1 (eS (eCall f_law_fold (aCons (eV 0) (aNil))))) [some (0, .lst ND), none, none, none, none, none, none, none, none, none, none, none] = .ok .nx [some (0, .lst ND), some (0, .int f), none, none, none, none, none, none, none, none, none, none] := by
    simp [fe]
  rw [sSeq_eq, q0, RS.then_nx]
  have q1 : (sAsgK 1 [8, 2] (eCall f_law_parts (aCons (eV 0) (aNil)))) [some (0, .lst ND), some (0, .int f), none, none, none, none, none, none, none, none, none, none] = .ok .nx [some (0, .lst ND), some (0, .int f), some (1, .lst RD0), none, none, none, none, none, some (1, .lst BD0), none, none, none] := by
    simp [pe, setAll]
  rw [sSeq_eq, q1, RS.then_nx]
  have q2 : (sFz 2 (sSet 2 (eFit 1 (eCall f_law_dealt (aCons (eV 2) (aCons (eV 1) (aNil))))))) [some (0, .lst ND), some (0, .int f), some (1, .lst RD0), none, none, none, none, none, some (1, .lst BD0), none, none, none] = .ok .nx [some (0, .lst ND), some (0, .int f), some (1, .lst RD1), none, none, none, none, none, some (1, .lst BD0), none, none, none] := by
    simp [sFz, de]
  rw [sSeq_eq, q2, RS.then_nx]
  have q3 : (sExM (mCall f_law_spoilt [some 8, some 2, none, none] (amOwn 8 (amOwn 2 (amCons (eCall f_law_mix (aCons (eV 1) (aCons (eC (.int 3)) (aNil)))) (amCons (eOp modD (eCall f_law_cell (aCons (eV 0) (aCons (eC (.int 2)) (aNil)))) (eOp powD (eC (.int 10)) (eC (.int 30)))) (amNil))))))) [some (0, .lst ND), some (0, .int f), some (1, .lst RD1), none, none, none, none, none, some (1, .lst BD0), none, none, none] = .ok .nx [some (0, .lst ND), some (0, .int f), some (1, .lst RD), none, none, none, none, none, some (1, .lst BD), none, none, none] := by
    simp [me, ce, po, d30, se]
  rw [sSeq_eq, q3, RS.then_nx]
  have q4 : (sFz 8 (sSet 3 (eFit 1 (eLcK 0 (iX (eV 8)) (gT 2 (gsC (gN 10) (gsC (gN 11) (gsN)))) (tYesF) (eNew "Belt" f_Belt_init (aCons (eV 10) (aCons (eV 11) (aNil)))) [10, 11])))) [some (0, .lst ND), some (0, .int f), some (1, .lst RD), none, none, none, none, none, some (1, .lst BD), none, none, none] = .ok .nx [some (0, .lst ND), some (0, .int f), some (1, .lst RD), some (1, .lst BL), none, none, none, none, some (0, .lst BD), none, none, none] := by
    have q := lb [some (0, .lst ND), some (0, .int f), some (1, .lst RD), none, none, none, none, none, some (0, .lst BD), none, none, none] (by simp)
    simp [sFz, wipeE]
    rw [q]
    simp [lcEndK_ok lbd]
  rw [sSeq_eq, q4, RS.then_nx]
  have q5 : (sFz 2 (sSet 4 (eFit 1 (eLcK 0 (iX (eV 2)) (gN 9) (tYesF) (eCall f_law_make (aCons (eV 9) (aNil))) [9])))) [some (0, .lst ND), some (0, .int f), some (1, .lst RD), some (1, .lst BL), none, none, none, none, some (0, .lst BD), none, none, none] = .ok .nx [some (0, .lst ND), some (0, .int f), some (0, .lst RD), some (1, .lst BL), some (1, .lst KL), none, none, none, some (0, .lst BD), none, none, none] := by
    have q := lk [some (0, .lst ND), some (0, .int f), some (0, .lst RD), some (1, .lst BL), none, none, none, none, some (0, .lst BD), none, none, none] (by simp)
    simp [sFz, wipeE]
    rw [q]
    simp [lcEndK_ok lrd]
  rw [sSeq_eq, q5, RS.then_nx]
  have q6 : (sSet 5 (eFit 1 (eC .non))) [some (0, .lst ND), some (0, .int f), some (0, .lst RD), some (1, .lst BL), some (1, .lst KL), none, none, none, some (0, .lst BD), none, none, none] = .ok .nx [some (0, .lst ND), some (0, .int f), some (0, .lst RD), some (1, .lst BL), some (1, .lst KL), some (1, .non), none, none, some (0, .lst BD), none, none, none] := by
    simp
  rw [sSeq_eq, q6, RS.then_nx]
  have q7 : (sSet 6 (eS (eC (.bl false)))) [some (0, .lst ND), some (0, .int f), some (0, .lst RD), some (1, .lst BL), some (1, .lst KL), some (1, .non), none, none, some (0, .lst BD), none, none, none] = .ok .nx [some (0, .lst ND), some (0, .int f), some (0, .lst RD), some (1, .lst BL), some (1, .lst KL), some (1, .non), some (0, .bl false), none, some (0, .lst BD), none, none, none] := by
    simp
  rw [sSeq_eq, q7, RS.then_nx]
  subst hg
  have hz : cMem z_WorkError "BadWork" = true := by decide
  have q8 : (sTry t1_law z_WorkError 7 u1_law) [some (0, .lst ND), some (0, .int f), some (0, .lst RD), some (1, .lst BL), some (1, .lst KL), some (1, .non), some (0, .bl false), none, some (0, .lst BD), none, none, none] = .ok .nx [some (0, .lst ND), some (0, .int f), some (0, .lst RD), some (1, .lst BL), some (1, .lst KL), some (1, .non), some (0, .bl true), none, some (0, .lst BD), none, none, none] := by
    simp [t1_law, u1_law, wn, hz]
  rw [sSeq_eq, q8, RS.then_nx]
  have q9 : (sIf (tOrF (tV (eO2 neV (eB1 lenV (eV 3)) (eB1 lenV (eV 8)))) (tV (eO2 neV (eB1 lenV (eV 4)) (eB1 lenV (eV 2))))) (sRet (eC (.bl false))) (sNil)) [some (0, .lst ND), some (0, .int f), some (0, .lst RD), some (1, .lst BL), some (1, .lst KL), some (1, .non), some (0, .bl true), none, some (0, .lst BD), none, none, none] = .ok .nx [some (0, .lst ND), some (0, .int f), some (0, .lst RD), some (1, .lst BL), some (1, .lst KL), some (1, .non), some (0, .bl true), none, some (0, .lst BD), none, none, none] := by
    simp [bl, kl]
  rw [sSeq_eq, q9, RS.then_nx]
  have q10 : (sFz 5 (sIf (tNotF (tV (eCall f_law_good (aCons (eV 8) (aCons (eV 2) (aNil)))))) (sRet (eAnd (eOp isD (eV 5) (eC .non)) (eV 6))) (sNil))) [some (0, .lst ND), some (0, .int f), some (0, .lst RD), some (1, .lst BL), some (1, .lst KL), some (1, .non), some (0, .bl true), none, some (0, .lst BD), none, none, none] = .ok (.rt 0 (.bl true)) [some (0, .lst ND), some (0, .int f), some (0, .lst RD), some (1, .lst BL), some (1, .lst KL), some (0, .non), some (0, .bl true), none, some (0, .lst BD), none, none, none] := by
    simp [sFz, ge]
  rw [sSeq_eq, q10]
  rfl
theorem law_ok (ND BD0 RD0 RD1 BD RD BL KL : List D) (WD DD : D) (f m3 c2 : Int) (gb : Bool) (fe : f_law_fold [.lst ND] = .ok (sh (.int f))) (pe : f_law_parts [.lst ND] = .ok ⟨false, 2, .tup [.lst BD0, .lst RD0]⟩) (de : f_law_dealt [.lst RD0, .int f] = .ok ⟨false, 1, .lst RD1⟩) (me : f_law_mix [.int f, .int 3] = .ok (sh (.int m3))) (ce : f_law_cell [.lst ND, .int 2] = .ok (sh (.int c2)))
    (se : f_law_spoilt [(1, .lst BD0), (1, .lst RD1), (0, .int m3), (0, .int (c2 % 1000000000000000000000000000000))] = .ok (sh .non) [some (1, .lst BD), some (1, .lst RD), none, none])
    (lb : ∀ ρ : B.Env, 11 < ρ.length → lcItK 0 (gT 2 (gsC (gN 10) (gsC (gN 11) (gsN)))) (tYesF) (eNew "Belt" f_Belt_init (aCons (eV 10) (aCons (eV 11) (aNil)))) ρ BD = .ok BL) (lk : ∀ ρ : B.Env, 9 < ρ.length → lcItK 0 (gN 9) tYesF (eCall f_law_make (aCons (eV 9) aNil)) ρ RD = .ok KL) (lbd : BD.length ≤ 10000) (lrd : RD.length ≤ 10000)
    (bl : BL.length = BD.length) (kl : KL.length = RD.length) (kl2 : KL.length < 10000) (ge : f_law_good [.lst BD, .lst RD] = .ok (sh (.bl gb))) (hg : gb = true) (wn : f_Work_init [(1, .obj "Work" []), (1, .lst BL), (1, .lst KL)] = .ok (sh .non) [some (1, WD), some (1, .lst BL), some (1, .lst KL)]) (wi : f_law_work_is [WD, .lst BD, .lst RD] = .ok (sh (.bl true))) (dn : newR (f_Drain_init [(1, .obj "Drain" []), (0, .int 0), (0, .int 1)]) = .ok ⟨false, 1, DD⟩) : f_law [.lst ND] = .ok (sh (.bl true)) := by
  have po : powOk 10 30 := powOk_s (by decide) (by decide) (by decide)
  have d30 : divOk 1000000000000000000000000000000 := divOk_w 200 (by decide) (by decide) (by decide) (by decide)
  show outF (b_law [some (0, .lst ND), none, none, none, none, none, none, none, none, none, none, none]) = _
  rw [b_law]
  have q0 : (sSet 1 (eS (eCall f_law_fold (aCons (eV 0) (aNil))))) [some (0, .lst ND), none, none, none, none, none, none, none, none, none, none, none] = .ok .nx [some (0, .lst ND), some (0, .int f), none, none, none, none, none, none, none, none, none, none] := by
    simp [fe]
  rw [sSeq_eq, q0, RS.then_nx]
  have q1 : (sAsgK 1 [8, 2] (eCall f_law_parts (aCons (eV 0) (aNil)))) [some (0, .lst ND), some (0, .int f), none, none, none, none, none, none, none, none, none, none] = .ok .nx [some (0, .lst ND), some (0, .int f), some (1, .lst RD0), none, none, none, none, none, some (1, .lst BD0), none, none, none] := by
    simp [pe, setAll]
  rw [sSeq_eq, q1, RS.then_nx]
  have q2 : (sFz 2 (sSet 2 (eFit 1 (eCall f_law_dealt (aCons (eV 2) (aCons (eV 1) (aNil))))))) [some (0, .lst ND), some (0, .int f), some (1, .lst RD0), none, none, none, none, none, some (1, .lst BD0), none, none, none] = .ok .nx [some (0, .lst ND), some (0, .int f), some (1, .lst RD1), none, none, none, none, none, some (1, .lst BD0), none, none, none] := by
    simp [sFz, de]
  rw [sSeq_eq, q2, RS.then_nx]
  have q3 : (sExM (mCall f_law_spoilt [some 8, some 2, none, none] (amOwn 8 (amOwn 2 (amCons (eCall f_law_mix (aCons (eV 1) (aCons (eC (.int 3)) (aNil)))) (amCons (eOp modD (eCall f_law_cell (aCons (eV 0) (aCons (eC (.int 2)) (aNil)))) (eOp powD (eC (.int 10)) (eC (.int 30)))) (amNil))))))) [some (0, .lst ND), some (0, .int f), some (1, .lst RD1), none, none, none, none, none, some (1, .lst BD0), none, none, none] = .ok .nx [some (0, .lst ND), some (0, .int f), some (1, .lst RD), none, none, none, none, none, some (1, .lst BD), none, none, none] := by
    simp [me, ce, po, d30, se]
  rw [sSeq_eq, q3, RS.then_nx]
  have q4 : (sFz 8 (sSet 3 (eFit 1 (eLcK 0 (iX (eV 8)) (gT 2 (gsC (gN 10) (gsC (gN 11) (gsN)))) (tYesF) (eNew "Belt" f_Belt_init (aCons (eV 10) (aCons (eV 11) (aNil)))) [10, 11])))) [some (0, .lst ND), some (0, .int f), some (1, .lst RD), none, none, none, none, none, some (1, .lst BD), none, none, none] = .ok .nx [some (0, .lst ND), some (0, .int f), some (1, .lst RD), some (1, .lst BL), none, none, none, none, some (0, .lst BD), none, none, none] := by
    have q := lb [some (0, .lst ND), some (0, .int f), some (1, .lst RD), none, none, none, none, none, some (0, .lst BD), none, none, none] (by simp)
    simp [sFz, wipeE]
    rw [q]
    simp [lcEndK_ok lbd]
  rw [sSeq_eq, q4, RS.then_nx]
  have q5 : (sFz 2 (sSet 4 (eFit 1 (eLcK 0 (iX (eV 2)) (gN 9) (tYesF) (eCall f_law_make (aCons (eV 9) (aNil))) [9])))) [some (0, .lst ND), some (0, .int f), some (1, .lst RD), some (1, .lst BL), none, none, none, none, some (0, .lst BD), none, none, none] = .ok .nx [some (0, .lst ND), some (0, .int f), some (0, .lst RD), some (1, .lst BL), some (1, .lst KL), none, none, none, some (0, .lst BD), none, none, none] := by
    have q := lk [some (0, .lst ND), some (0, .int f), some (0, .lst RD), some (1, .lst BL), none, none, none, none, some (0, .lst BD), none, none, none] (by simp)
    simp [sFz, wipeE]
    rw [q]
    simp [lcEndK_ok lrd]
  rw [sSeq_eq, q5, RS.then_nx]
  have q6 : (sSet 5 (eFit 1 (eC .non))) [some (0, .lst ND), some (0, .int f), some (0, .lst RD), some (1, .lst BL), some (1, .lst KL), none, none, none, some (0, .lst BD), none, none, none] = .ok .nx [some (0, .lst ND), some (0, .int f), some (0, .lst RD), some (1, .lst BL), some (1, .lst KL), some (1, .non), none, none, some (0, .lst BD), none, none, none] := by
    simp
  rw [sSeq_eq, q6, RS.then_nx]
  have q7 : (sSet 6 (eS (eC (.bl false)))) [some (0, .lst ND), some (0, .int f), some (0, .lst RD), some (1, .lst BL), some (1, .lst KL), some (1, .non), none, none, some (0, .lst BD), none, none, none] = .ok .nx [some (0, .lst ND), some (0, .int f), some (0, .lst RD), some (1, .lst BL), some (1, .lst KL), some (1, .non), some (0, .bl false), none, some (0, .lst BD), none, none, none] := by
    simp
  rw [sSeq_eq, q7, RS.then_nx]
  subst hg
  have q8 : (sTry t1_law z_WorkError 7 u1_law) [some (0, .lst ND), some (0, .int f), some (0, .lst RD), some (1, .lst BL), some (1, .lst KL), some (1, .non), some (0, .bl false), none, some (0, .lst BD), none, none, none] = .ok .nx [some (0, .lst ND), some (0, .int f), some (0, .lst RD), some (1, .lst BL), some (1, .lst KL), some (1, WD), some (0, .bl false), none, some (0, .lst BD), none, none, none] := by
    simp [t1_law, wn]
  rw [sSeq_eq, q8, RS.then_nx]
  have q9 : (sIf (tOrF (tV (eO2 neV (eB1 lenV (eV 3)) (eB1 lenV (eV 8)))) (tV (eO2 neV (eB1 lenV (eV 4)) (eB1 lenV (eV 2))))) (sRet (eC (.bl false))) (sNil)) [some (0, .lst ND), some (0, .int f), some (0, .lst RD), some (1, .lst BL), some (1, .lst KL), some (1, WD), some (0, .bl false), none, some (0, .lst BD), none, none, none] = .ok .nx [some (0, .lst ND), some (0, .int f), some (0, .lst RD), some (1, .lst BL), some (1, .lst KL), some (1, WD), some (0, .bl false), none, some (0, .lst BD), none, none, none] := by
    simp [bl, kl]
  rw [sSeq_eq, q9, RS.then_nx]
  have q10 : (sFz 5 (sIf (tNotF (tV (eCall f_law_good (aCons (eV 8) (aCons (eV 2) (aNil)))))) (sRet (eAnd (eOp isD (eV 5) (eC .non)) (eV 6))) (sNil))) [some (0, .lst ND), some (0, .int f), some (0, .lst RD), some (1, .lst BL), some (1, .lst KL), some (1, WD), some (0, .bl false), none, some (0, .lst BD), none, none, none] = .ok .nx [some (0, .lst ND), some (0, .int f), some (0, .lst RD), some (1, .lst BL), some (1, .lst KL), some (0, WD), some (0, .bl false), none, some (0, .lst BD), none, none, none] := by
    simp [sFz, ge]
  rw [sSeq_eq, q10, RS.then_nx]
  have q11 : (sMt0P clrL (pN 3)) [some (0, .lst ND), some (0, .int f), some (0, .lst RD), some (1, .lst BL), some (1, .lst KL), some (0, WD), some (0, .bl false), none, some (0, .lst BD), none, none, none] = .ok .nx [some (0, .lst ND), some (0, .int f), some (0, .lst RD), some (1, .lst []), some (1, .lst KL), some (0, WD), some (0, .bl false), none, some (0, .lst BD), none, none, none] := by
    simp [clrL]
  rw [sSeq_eq, q11, RS.then_nx]
  have q12 : (sMtP appL (pN 4) (eNew "Drain" f_Drain_init (aCons (eC (.int 0)) (aCons (eC (.int 1)) (aNil))))) [some (0, .lst ND), some (0, .int f), some (0, .lst RD), some (1, .lst []), some (1, .lst KL), some (0, WD), some (0, .bl false), none, some (0, .lst BD), none, none, none] = .ok .nx [some (0, .lst ND), some (0, .int f), some (0, .lst RD), some (1, .lst []), some (1, .lst (KL ++ [DD])), some (0, WD), some (0, .bl false), none, some (0, .lst BD), none, none, none] := by
    simp [dn, appL, kl2]
  rw [sSeq_eq, q12, RS.then_nx]
  simp [wi]
theorem fold_eq (ns : List Int) : ∃ f : Int, f_law_fold [intsL ns] = .ok (sh (.int f)) := by
  have m1 : ∀ x : Int, mulOk x 48271 := fun x => mulOk_r (by decide)
  have lp : ∀ (cs : List Int) (S s2 : B.Slot) (a : Int), ∃ a' t2, sItems (gN 2) l1_law_fold (cs.map .int) [S, some (0, .int a), s2] = .ok .nx [S, some (0, .int a'), t2] := by
    intro cs
    induction cs with
    | nil => intro S s2 a; exact ⟨a, s2, rfl⟩
    | cons c cs ih =>
      intro S s2 a
      have ht : fTurn (gN 2) l1_law_fold (.int c) [S, some (0, .int a), s2] = .inl [S, some (0, .int ((a * 48271 + c % 2147483647) % 2147483629)), some (0, .int c)] := by
        simp [fTurn, l1_law_fold, m1]
      obtain ⟨a', t2, e⟩ := ih S (some (0, .int c)) ((a * 48271 + c % 2147483647) % 2147483629)
      exact ⟨a', t2, by rw [List.map_cons, sItems_inl ht]; exact e⟩
  obtain ⟨a', t2, e⟩ := lp ns (some (0, intsL ns)) none 1
  refine ⟨a', ?_⟩
  simp only [intsL] at e ⊢
  generalize ns.map D.int = ND at *
  simp [f_law_fold, runF, b_law_fold, rho0]
  rw [e]
  simp
theorem law_true : LawTrue f_law := by
  intro ns hl _
  obtain ⟨f, fe⟩ := fold_eq ns
  obtain ⟨m3, me, m1, _⟩ := mix_eq f 3 (by omega)
  obtain ⟨c2, ce⟩ := cell_eq ns 2
  replace ce : f_law_cell [intsL ns, .int 2] = _ := ce
  replace me : f_law_mix [.int f, .int 3] = _ := me
  obtain ⟨rs0, bs0, P0, pe⟩ := parts_eq ns hl
  obtain ⟨rs1, p, de⟩ := dealt_eq f rs0 (by have := P0.rl; omega)
  have P1 : Pre rs1 bs0 := ⟨P0.b, fun r hr => P0.r r (p.mem_iff.mp hr), P0.bl, by rw [p.length_eq]; exact P0.rl⟩
  obtain ⟨rs, bs, P, se⟩ := spoilt_eq m3 (c2 % 1000000000000000000000000000000) m1 rs1 bs0 P1
  have hb := P.bl
  have hr := P.rl
  have lb := fun (ρ : B.Env) (h : 11 < ρ.length) => lc_blts ρ h bs P.b
  have lk := fun (ρ : B.Env) (h : 9 < ρ.length) => lc_knots 9 ρ h rs P.r
  have ge := good_eq rs bs P
  have wo := work_or rs bs P
  have wi := work_is_eq rs bs P.r
  have dn := drain_new
  refine ⟨0, ?_⟩
  cases hg : gB rs bs with
  | false =>
    rw [hg] at ge wo
    exact law_bad _ _ _ _ _ _ _ _ (.int 0) f m3 c2 false fe pe de me ce se lb lk (by simp; omega) (by simp; omega) (by simp) (by simp) (by simp; omega) ge rfl wo
  | true =>
    rw [hg] at ge wo
    exact law_ok _ _ _ _ _ _ _ _ _ _ f m3 c2 true fe pe de me ce se lb lk (by simp; omega) (by simp; omega) (by simp) (by simp) (by simp; omega) ge rfl wo wi dn
end K11
open PySem PySem.W PySem.Calls PyProof.Rows
set_option maxRecDepth 100000 in
set_option maxHeartbeats 0 in
theorem PySem.Challenge.cw_beltshares_k11_works_holds : PySem.Challenge.rw_beltshares_k11_works.Holds := by
  w_on; o_law
  refine HandSHeadRun.head_any (r := K11.Rw) (q := view K11.Rw.prog [49]) (H := K11.hk) (ob := K11.ob)
    (M := 30000) (loose := K11.loose) (d := HandSHeadRun.topDef K11.Rw.prog 49) (kwd := []) K11.ob_eq
    (by kernel_rfl) (fun s => by kernel_rfl) K11.run (by kernel_rfl) (by kernel_rfl) (by kernel_rfl) (by rfl)
    (by first | assumption | decide +kernel) (by decide +kernel) ⟨rfl, rfl, rfl, rfl, rfl, by decide +kernel⟩ ?hw ?hc
  case hw => w_witness2
  case hc =>
    refine B.law_walk (l := PySem.Challenge.rw_beltshares_k11_works) (k := 6) (x := "_law_script") K11.f_law He.ga rfl (by kernel_rfl)
      ⟨rfl, by decide, by decide⟩ K11.law_true fun w mg g h K KX c hx G hmg0 => ?_
    have hmg : mg ("law" : PySem.Str) = some (.ref g) := by
      have e : (HandSHeadRun.topDef K11.Rw.prog 49).name = ("law" : PySem.Str) := by kernel_rfl
      rw [← e]
      exact hmg0
    exact K11.facts KX G hmg c hx
#print axioms PySem.Challenge.cw_beltshares_k11_works_holds
