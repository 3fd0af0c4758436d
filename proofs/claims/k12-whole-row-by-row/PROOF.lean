import PyProof.Rows.All
import Wide.All
import OpenK.AllK
import Wide.FinOn
import HandS.ForMost
import HandS.Exc
import HandS.ExcOwn
import HandS.ExcInit
import HandS.TryOnly
import HandS.ExcField
import HandS.ExcIs
import HandS.IsInst
import HandS.SetKeys
import HandS.Strs
import HandS.Wide
import HandS.Zip
import HandS.Evl
import HandS.Flow
import HandS.Style
import HandS.Conv
import HandS.RaiseMore
import HandS.Deep
import HandS.TupAny
import HandS.Replace
import HandS.TupSets
import HandS.SetFor
import HandS.Defaults
import HandS.ClsMeth
import HandS.WordsExc
import HandS.HeadHook1
import HandS.HeadHook2
import HandS.Head0
import HandS.Head1
import HandS.Head2
import HandS.HeadEnd
import KE.KDictPairs
import PyProof.ReprRoads
import KE.GoesEnumKw
import PySem.Challenge.RW_boundsmith_k12_whole_row_by_row
import HandS.Walk
import HandS.Text
import HandS.Set
import HandS.Codes
import KE.DataMinMax
import KE.KExcIs
import KE.DataFind
import PyProof.ReprLen
import KE.GoesZip
import PyProof.ReprText
import KE.KStateDown
import Lean
set_option Elab.async false
set_option linter.all false
set_option maxRecDepth 100000

namespace Bk
open PySem PySem.Spec PyProof.Rows L2
def top (i : Nat) : Stmt := PySem.Challenge.pw_boundsmith_k12_whole_row_by_row.main.body.getD i (.Pass ⟨0, 0, 0, 0⟩)
abbrev sIsWhole : Stmt := top 20
abbrev sIsAmong : Stmt := top 21
abbrev sIsName : Stmt := top 22
abbrev sNumberOf : Stmt := top 23
abbrev sAreTuples : Stmt := top 36
abbrev sAreNames : Stmt := top 37
abbrev sAreCounts : Stmt := top 38
abbrev sIsTask : Stmt := top 39
abbrev sIsWait : Stmt := top 40
abbrev sHasForm : Stmt := top 41
abbrev sAreUnlike : Stmt := top 42
abbrev sAreAllUnlike : Stmt := top 43
abbrev sAreAllThere : Stmt := top 44
abbrev sAreNeedsMet : Stmt := top 45
abbrev sGoesRound : Stmt := top 46
abbrev sWrongIn : Stmt := top 47
abbrev sNeedBook : Stmt := top 48
abbrev sMachineWord : Stmt := top 53
abbrev sTaskRow : Stmt := top 54
abbrev sBookText : Stmt := top 55
abbrev sAreNumbers : Stmt := top 56
abbrev sNeedBy : Stmt := top 57
abbrev sTaskBy : Stmt := top 58
abbrev sBookOf : Stmt := top 60
abbrev sLawMixed : Stmt := top 62
abbrev sLawDraw : Stmt := top 63
abbrev sLawNext : Stmt := top 64
abbrev sLawSome : Stmt := top 65
abbrev sLawTask : Stmt := top 66
abbrev sLawWaits : Stmt := top 67
abbrev sLawShifted : Stmt := top 68
abbrev sLawBook : Stmt := top 69
abbrev sLawText : Stmt := top 70
abbrev sLawKind : Stmt := top 71
abbrev sLawSaid : Stmt := top 72
abbrev sLaw : Stmt := top 73
abbrev sBadBookInit : Stmt := inClass (top 7) 0
abbrev sReadingInit : Stmt := inClass (top 59) 0
abbrev sReadingRowBy : Stmt := inClass (top 59) 1
abbrev sReadingTake : Stmt := inClass (top 59) 2
def dIsWhole : He.DefD := ⟨("is_whole", none), "is_whole", "is_whole", defArgs sIsWhole, defBody sIsWhole, defScope sIsWhole, [], []⟩
def dIsAmong : He.DefD := ⟨("is_among", none), "is_among", "is_among", defArgs sIsAmong, defBody sIsAmong, defScope sIsAmong, [], []⟩
def dIsName : He.DefD := ⟨("is_name", none), "is_name", "is_name", defArgs sIsName, defBody sIsName, defScope sIsName, [], []⟩
def dNumberOf : He.DefD := ⟨("number_of", none), "number_of", "number_of", defArgs sNumberOf, defBody sNumberOf, defScope sNumberOf, [], []⟩
def dAreTuples : He.DefD := ⟨("are_tuples", none), "are_tuples", "are_tuples", defArgs sAreTuples, defBody sAreTuples, defScope sAreTuples, [], []⟩
def dAreNames : He.DefD := ⟨("are_names", none), "are_names", "are_names", defArgs sAreNames, defBody sAreNames, defScope sAreNames, [], []⟩
def dAreCounts : He.DefD := ⟨("are_counts", none), "are_counts", "are_counts", defArgs sAreCounts, defBody sAreCounts, defScope sAreCounts, [], []⟩
def dIsTask : He.DefD := ⟨("is_task", none), "is_task", "is_task", defArgs sIsTask, defBody sIsTask, defScope sIsTask, [], []⟩
def dIsWait : He.DefD := ⟨("is_wait", none), "is_wait", "is_wait", defArgs sIsWait, defBody sIsWait, defScope sIsWait, [], []⟩
def dHasForm : He.DefD := ⟨("has_form", none), "has_form", "has_form", defArgs sHasForm, defBody sHasForm, defScope sHasForm, [], []⟩
def dAreUnlike : He.DefD := ⟨("are_unlike", none), "are_unlike", "are_unlike", defArgs sAreUnlike, defBody sAreUnlike, defScope sAreUnlike, [], []⟩
def dAreAllUnlike : He.DefD := ⟨("are_all_unlike", none), "are_all_unlike", "are_all_unlike", defArgs sAreAllUnlike, defBody sAreAllUnlike, defScope sAreAllUnlike, [], []⟩
def dAreAllThere : He.DefD := ⟨("are_all_there", none), "are_all_there", "are_all_there", defArgs sAreAllThere, defBody sAreAllThere, defScope sAreAllThere, [], []⟩
def dAreNeedsMet : He.DefD := ⟨("are_needs_met", none), "are_needs_met", "are_needs_met", defArgs sAreNeedsMet, defBody sAreNeedsMet, defScope sAreNeedsMet, [], []⟩
def dGoesRound : He.DefD := ⟨("goes_round", none), "goes_round", "goes_round", defArgs sGoesRound, defBody sGoesRound, defScope sGoesRound, [], []⟩
def dWrongIn : He.DefD := ⟨("wrong_in", none), "wrong_in", "wrong_in", defArgs sWrongIn, defBody sWrongIn, defScope sWrongIn, [], []⟩
def dNeedBook : He.DefD := ⟨("need_book", none), "need_book", "need_book", defArgs sNeedBook, defBody sNeedBook, defScope sNeedBook, [], []⟩
def dMachineWord : He.DefD := ⟨("machine_word", none), "machine_word", "machine_word", defArgs sMachineWord, defBody sMachineWord, defScope sMachineWord, [], []⟩
def dTaskRow : He.DefD := ⟨("task_row", none), "task_row", "task_row", defArgs sTaskRow, defBody sTaskRow, defScope sTaskRow, [], []⟩
def dBookText : He.DefD := ⟨("book_text", none), "book_text", "book_text", defArgs sBookText, defBody sBookText, defScope sBookText, [], []⟩
def dAreNumbers : He.DefD := ⟨("are_numbers", none), "are_numbers", "are_numbers", defArgs sAreNumbers, defBody sAreNumbers, defScope sAreNumbers, [], []⟩
def dNeedBy : He.DefD := ⟨("need_by", none), "need_by", "need_by", defArgs sNeedBy, defBody sNeedBy, defScope sNeedBy, [], []⟩
def dTaskBy : He.DefD := ⟨("task_by", none), "task_by", "task_by", defArgs sTaskBy, defBody sTaskBy, defScope sTaskBy, [], []⟩
def dBookOf : He.DefD := ⟨("book_of", none), "book_of", "book_of", defArgs sBookOf, defBody sBookOf, defScope sBookOf, [], []⟩
def dLawMixed : He.DefD := ⟨("_law_mixed", none), "_law_mixed", "_law_mixed", defArgs sLawMixed, defBody sLawMixed, defScope sLawMixed, [], []⟩
def dLawDraw : He.DefD := ⟨("_law_draw", none), "_law_draw", "_law_draw", defArgs sLawDraw, defBody sLawDraw, defScope sLawDraw, [], []⟩
def dLawNext : He.DefD := ⟨("_law_next", none), "_law_next", "_law_next", defArgs sLawNext, defBody sLawNext, defScope sLawNext, [], []⟩
def dLawSome : He.DefD := ⟨("_law_some", none), "_law_some", "_law_some", defArgs sLawSome, defBody sLawSome, defScope sLawSome, [], []⟩
def dLawTask : He.DefD := ⟨("_law_task", none), "_law_task", "_law_task", defArgs sLawTask, defBody sLawTask, defScope sLawTask, [], []⟩
def dLawWaits : He.DefD := ⟨("_law_waits", none), "_law_waits", "_law_waits", defArgs sLawWaits, defBody sLawWaits, defScope sLawWaits, [], []⟩
def dLawShifted : He.DefD := ⟨("_law_shifted", none), "_law_shifted", "_law_shifted", defArgs sLawShifted, defBody sLawShifted, defScope sLawShifted, [], []⟩
def dLawBook : He.DefD := ⟨("_law_book", none), "_law_book", "_law_book", defArgs sLawBook, defBody sLawBook, defScope sLawBook, [], []⟩
def dLawText : He.DefD := ⟨("_law_text", none), "_law_text", "_law_text", defArgs sLawText, defBody sLawText, defScope sLawText, [], []⟩
def dLawKind : He.DefD := ⟨("_law_kind", none), "_law_kind", "_law_kind", defArgs sLawKind, defBody sLawKind, defScope sLawKind, [], []⟩
def dLawSaid : He.DefD := ⟨("_law_said", none), "_law_said", "_law_said", defArgs sLawSaid, defBody sLawSaid, defScope sLawSaid, [], []⟩
def dLaw : He.DefD := ⟨("law", none), "law", "law", defArgs sLaw, defBody sLaw, defScope sLaw, [], []⟩
def dBadBookInit : He.DefD := ⟨("BadBook", some "__init__"), "__init__", "BadBook.__init__", defArgs sBadBookInit, defBody sBadBookInit, defScope sBadBookInit, [], []⟩
def dReadingInit : He.DefD := ⟨("Reading", some "__init__"), "__init__", "Reading.__init__", defArgs sReadingInit, defBody sReadingInit, defScope sReadingInit, [], []⟩
def dReadingRowBy : He.DefD := ⟨("Reading", some "row_by"), "row_by", "Reading.row_by", defArgs sReadingRowBy, defBody sReadingRowBy, defScope sReadingRowBy, [], []⟩
def dReadingTake : He.DefD := ⟨("Reading", some "take"), "take", "Reading.take", defArgs sReadingTake, defBody sReadingTake, defScope sReadingTake, [], []⟩
def fn : List He.DefD := [dIsWhole, dIsAmong, dIsName, dNumberOf, dAreTuples, dAreNames, dAreCounts, dIsTask, dIsWait, dHasForm, dAreUnlike, dAreAllUnlike, dAreAllThere, dAreNeedsMet, dGoesRound, dWrongIn, dNeedBook, dMachineWord, dTaskRow, dBookText, dAreNumbers, dNeedBy, dTaskBy, dBookOf, dLawMixed, dLawDraw, dLawNext, dLawSome, dLawTask, dLawWaits, dLawShifted, dLawBook, dLawText, dLawKind, dLawSaid, dLaw, dBadBookInit, dReadingInit, dReadingRowBy, dReadingTake]
def fa0 : List He.Fa := [.glo "is_whole", .glo "is_among", .glo "is_name", .glo "number_of", .glo "are_tuples", .glo "are_names", .glo "are_counts", .glo "is_task", .glo "is_wait", .glo "has_form", .glo "are_unlike", .glo "are_all_unlike", .glo "are_all_there", .glo "are_needs_met", .glo "goes_round", .glo "wrong_in", .glo "need_book", .glo "machine_word", .glo "task_row", .glo "book_text", .glo "are_numbers", .glo "need_by", .glo "task_by", .glo "book_of"]
def fa1 : List He.Fa := [.glo "_law_mixed", .glo "_law_draw", .glo "_law_next", .glo "_law_some", .glo "_law_task", .glo "_law_waits", .glo "_law_shifted", .glo "_law_book", .glo "_law_text", .glo "_law_kind", .glo "_law_said", .glo "law", .glo "PlanError", .glo "BadArcs", .glo "BadPlan", .glo "BadRows", .glo "BadWorth", .glo "BadTasks", .glo "BadBook", .glo "BadText", .glo "BadPaper", .glo "BadMost", .glo "NoDeed", .glo "BadDeed"]
def fa2 : List He.Fa := [.glo "BadLine", .glo "NoPlan", .glo "Reading", .glo "SORTS", .free "len", .free "isinstance", .free "all", .free "set", .free "dict", .free "list", .free "range", .free "max", .free "min", .free "str", .free "int", .free "enumerate", .free "tuple", .free "zip", .free "repr", .free "bool", .free "ValueError", .int "MOST_SIGNS" 8, .int "MOST_FIGURES" 7, .int "MOST_MACHINES" 6]
def fa3 : List He.Fa := [.int "MOST_GOODS" 4, .int "MOST_MANY" 99, .int "MOST_TASKS" 30, .int "MOST_LENGTH" 1000, .int "MOST_HOUR" 1000000, .int "MOST_WEIGHT" 1000, .int "MOST_WAITS" 60, .int "MOST_GAP" 1000, .int "PARTS" 5, .int "TASK_PARTS" 7, .int "LEAST_TASK" 7, .str "SMALL" "abcdefghijklmnopqrstuvwxyz", .str "FIGURES" "0123456789", .str "NOTHING" "-", .cls "Reading", .noat "Reading" "parts", .noat "Reading" "last", .noat "Reading" "numbers", .meth "Reading" "row_by", .meth "Reading" "take", .mkr "Reading", .exm "BadBook" "PlanError" true]
def fa : List He.Fa := fa0 ++ fa1 ++ fa2 ++ fa3
def lo0 : List PySem.Str := ["PlanError", "BadArcs", "BadPlan", "BadRows", "BadWorth", "BadTasks", "BadBook", "BadText", "BadPaper", "BadMost", "NoDeed", "BadDeed", "BadLine", "NoPlan", "SMALL", "FIGURES", "MOST_SIGNS", "MOST_FIGURES", "is_whole", "is_among", "is_name", "number_of", "MOST_MACHINES", "MOST_GOODS", "MOST_MANY", "MOST_TASKS", "MOST_LENGTH", "MOST_HOUR", "MOST_WEIGHT", "MOST_WAITS"]
def lo1 : List PySem.Str := ["MOST_GAP", "PARTS", "TASK_PARTS", "are_tuples", "are_names", "are_counts", "is_task", "is_wait", "has_form", "are_unlike", "are_all_unlike", "are_all_there", "are_needs_met", "goes_round", "wrong_in", "need_book", "SORTS", "NOTHING", "LEAST_TASK", "machine_word", "task_row", "book_text", "are_numbers", "need_by", "task_by", "Reading", "book_of", "_law_mixed", "_law_draw", "_law_next"]
def lo2 : List PySem.Str := ["_law_some", "_law_task", "_law_waits", "_law_shifted", "_law_book", "_law_text", "_law_kind", "_law_said"]
def loose : List PySem.Str := lo0 ++ lo1 ++ lo2
/-! ### more facts, by a Bool -/
def oexB (K : PySem.W.Frag) (C : Addr) : Bool := match K.lookup C with
  | some ⟨.type "type", _, .cls cd, sl⟩ => (match cd.mro, sl.toList with
    | .ref C' :: bm, [_, _, _, _, some (.builtin n), _] => decide (C' = C) && (decide (n = "ValueError.__new__") && (!cd.hasDel && (cd.hasDict && PySem.HandSPX.refsVE bm)))
    | _, _ => false)
  | _ => false
def isoB (K : PySem.W.Frag) (c : Value) (b : Bool) : Bool := decide (PySem.W.kitOne K (.ref (He.ga K "BadBook")) c = some b)
def nodB (K : PySem.W.Frag) (x : PySem.Str) : Bool := match K.lookup (He.ga K x) with
  | some ⟨.type c, none, .seq _ _, _⟩ => decide (c = "tuple")
  | _ => false
def exB (K : PySem.W.Frag) : Bool :=
  nodB K "SORTS" && (
  He.tupB K "SORTS" [.str "machine", .str "good", .str "task", .str "wait", .str "fixed"] && (oexB K (He.ga K "BadBook") && (
  He.eqO (PySem.W.findIn K (.ref (He.ga K "BadBook")) "__setattr__") (some (some (.builtin "object.__setattr__"))) && (
  decide (PySem.W.subIn K (.ref (He.ga K "BadBook")) (.type "BaseException") = some true) && (
  decide (PySem.W.typeIn K (.ref (He.ga K "BadBook")) = some (.type "type")) && (
  PySem.W.keepIn K (.ref (He.ga K "BadBook")) && (
  He.eqO (PySem.W.findIn K (.ref (He.ga K "BadBook")) "what") (some none) && (
  He.eqO (PySem.W.findIn K (.ref (He.ga K "BadBook")) "__init__") (some (some (.ref (He.ma K (He.ga K "BadBook") "__init__")))) && (
  decide (PySem.W.typeIn K (.ref (He.ma K (He.ga K "BadBook") "__init__")) = some (.type "function")) && (
  He.eqO (PySem.W.findIn K (.ref (He.ga K "BadBook")) "__getattribute__") (some (some (.builtin "BaseException.__getattribute__"))) && (
  He.eqO (PySem.W.findIn K (.ref (He.ga K "BadBook")) "__getattr__") (some none) && (
  PySem.W.hasDictIn K (He.ga K "BadBook") && (
  He.eqO (PySem.W.findIn K (.ref (He.ga K "BadBook")) "__class__") (some (some (.builtin "object.__class__"))) && (
  He.eqO (PySem.W.specialIn K (.builtin "object.__class__") "__get__") (some (some (.builtin "getset_descriptor.__get__"))) && (
  decide (PySem.W.takesIn K (.builtin "object.__class__") = some true) && (
  decide (PySem.W.mroIn K (He.ga K "BadBook") (.type "object") = some true) && (
  PySem.W.readsIn K (He.ga K "PlanError") (.type "type") && (
  He.eqO (PySem.W.specialIn K (.ref (He.ga K "PlanError")) "__getattribute__") (some (some (.builtin "type.__getattribute__"))) && (
  (match PySem.W.findCls K (.ref (He.ga K "PlanError")) (.type "type") "__init__" with
    | some (.val (.builtin n)) => decide (n = "ValueError.__init__")
    | _ => false) && (
  isoB K (.ref (He.ga K "BadArcs")) false && (isoB K (.ref (He.ga K "BadBook")) true && (isoB K (.ref (He.ga K "BadDeed")) false && (isoB K (.ref (He.ga K "BadLine")) false && (
  isoB K (.ref (He.ga K "BadMost")) false && (isoB K (.ref (He.ga K "BadPaper")) false && (isoB K (.ref (He.ga K "BadPlan")) false && (isoB K (.ref (He.ga K "BadRows")) false && (
  isoB K (.ref (He.ga K "BadTasks")) false && (isoB K (.ref (He.ga K "BadText")) false && (isoB K (.ref (He.ga K "BadWorth")) false && (isoB K (.ref (He.ga K "NoDeed")) false && (
  isoB K (.ref (He.ga K "NoPlan")) false && isoB K (.type "ValueError") true))))))))))))))))))))))))))))))))
/-! ### the Hook -/
abbrev AlB : Type := He.AlD × Bool
def adrs (g : Addr → Option Obj) (n : Nat) : List Addr := PySem.cStatics :: He.asD g n
def obsB (K : PySem.W.Frag) : AlB := (He.obsD fa fn K, exB K)
def valB : AlB := (He.valD fn, true)
def SaysB (K : PySem.W.Frag) : Prop := obsB K = valB
def obsBG (n : Nat) (g : Addr → Option Obj) : AlB := obsB (He.frG g (adrs g n))
def hookB (n : Nat) : PySem.W.Hook where
  α := AlB
  obs := fun s => obsBG n s.heap.get?
  val := fun _ => valB
  says := fun _ h => ∃ K : PySem.W.Frag, K.In h ∧ SaysB K
  of := fun _ _ e => ⟨_, He.frG_in, e⟩
  keeps := fun _ _ _ ⟨K, hK, c⟩ k => ⟨K, PySem.W.Frag.In.keeps hK k, c⟩
theorem obsBG_eq {n : Nat} {g : Addr → Option Obj} {s : Shared} (h : ∀ a, g a = s.heap.get? a) : obsBG n g = (hookB n).obs s := by
  have e : g = s.heap.get? := funext h
  rw [e] <;> rfl
end Bk
set_option Elab.async false
set_option linter.all false
set_option maxRecDepth 100000
set_option maxHeartbeats 2000000
/-! The pure walk: a state is told by plain data, slot by slot. -/
namespace Bw
open PySem PySem.Spec L2 Evl
abbrev Pd := PyData
/-- a word of what stands still and a value -/
structure Mo where
  p : Hp → V → Prop
  m : ∀ F F' v, Ex F F' → p F v → p F' v
/-- what a slot holds: nothing known, data, a list of its own, a script's draws (at most n taken), a dict that stands -/
inductive Sl where
  | n | d (x : Pd) | l (xs : List Pd) | r (p : Bool) (n : Nat) | k (kvs : List (Key × Pd)) | q (Φ : Mo)
abbrev Es := List Sl
/-- the growth of what stands still (F) and of the whole (H) -/
structure Gr (F H F' H' : Hp) : Prop where
  f : Ex F F'
  h : Ex H H'
  s : Ex F' H'
  o : ∀ a, F a = none → H a ≠ none → F' a = none
theorem Gr.refl {F H : Hp} (s : Ex F H) : Gr F H F H := ⟨Ex.refl _, Ex.refl _, s, fun _ h _ => h⟩
theorem Gr.trans {F H F1 H1 F2 H2 : Hp} (a : Gr F H F1 H1) (b : Gr F1 H1 F2 H2) : Gr F H F2 H2 :=
  ⟨a.f.trans b.f, a.h.trans b.h, b.s, fun x h1 h2 => b.o x (a.o x h1 h2) (fun z => by
    cases e : H x with
    | none => exact h2 e
    | some u => rw [a.h x u e] at z; cases z)⟩
theorem none_of {F H : Hp} (s : Ex F H) {a : Addr} (h : H a = none) : F a = none := fresh_back s h
theorem Gr.new {F H : Hp} (s : Ex F H) {p : Addr} {o : HO} (h : H p = none) : Gr F H (upd F p o) (upd H p o) :=
  ⟨Ex.new (none_of s h), Ex.new h, fun a u e => by
    by_cases z : a = p
    · rw [z, upd_same] at e ⊢; exact e
    · rw [upd_ne z] at e ⊢; exact s a u e,
  fun a h1 h2 => by rw [upd_ne (fun z => h2 (by rw [z]; exact h))]; exact h1⟩
/-- a new thing of one's own: it stays outside F -/
theorem Gr.newOwn {F H : Hp} (s : Ex F H) {p : Addr} {o : HO} (h : H p = none) : Gr F H F (upd H p o) :=
  ⟨Ex.refl _, Ex.new h, s.trans (Ex.new h), fun a h1 _ => h1⟩
section
variable {K : PySem.W.Frag} {F F' : Hp}
mutual
theorem Dpm (e : Ex F F') : ∀ (d : Pd) (v : V), Dp K F v d → Dp K F' v d
  | .none, _, h => by cases h; exact .non
  | .bool b, _, h => by cases h; exact .bl b
  | .int i, _, h => by cases h; exact .int i
  | .str x, _, h => by cases h; exact .str x
  | .list ds, _, h => by
    cases h with
    | lst hs ha => exact .lst (ex_l e hs) (Dpms e ds _ ha)
  | .tuple ds, _, h => by
    cases h with
    | tup hs ha => exact .tup (ex_t e hs) (Dpms e ds _ ha)
  | .dict _, _, h => by cases h
theorem Dpms (e : Ex F F') : ∀ (ds : List Pd) (vs : List V), DpAll K F vs ds → DpAll K F' vs ds
  | [], _, h => by cases h; exact .nil
  | d :: ds, _, h => by
    cases h with
    | cons h1 h2 => exact .cons (Dpm e d _ h1) (Dpms e ds _ h2)
end
theorem _root_.L2.Dp.mono {v : V} {d : Pd} (h : Dp K F v d) (e : Ex F F') : Dp K F' v d := Dpm e d v h
theorem _root_.L2.DpAll.mono {vs : List V} {ds : List Pd} (h : DpAll K F vs ds) (e : Ex F F') : DpAll K F' vs ds := Dpms e ds vs h
theorem da_len : ∀ {vs : List V} {ds : List Pd}, DpAll K F vs ds → vs.length = ds.length
  | _, _, .nil => rfl
  | _, _, .cons _ h => congrArg Nat.succ (da_len h)
theorem da_append : ∀ {vs us : List V} {ds es : List Pd}, DpAll K F vs ds → DpAll K F us es → DpAll K F (vs ++ us) (ds ++ es)
  | _, _, _, _, .nil, h => h
  | _, _, _, _, .cons h1 h2, h => .cons h1 (da_append h2 h)
theorem da_get : ∀ {vs : List V} {ds : List Pd} {i : Nat} {v : V}, DpAll K F vs ds → vs[i]? = some v → ∃ d, ds[i]? = some d ∧ Dp K F v d
  | _, _, i, v, .nil, e => by simp at e
  | _, _, 0, v, .cons h _, e => by
    have e' := Option.some.inj e
    subst e'
    exact ⟨_, rfl, h⟩
  | _, _, i + 1, v, .cons _ h, e => by
    obtain ⟨d, h1, h2⟩ := da_get (i := i) h (by simpa using e)
    exact ⟨d, by simpa using h1, h2⟩
theorem da_get' : ∀ {vs : List V} {ds : List Pd} {i : Nat} {d : Pd}, DpAll K F vs ds → ds[i]? = some d → ∃ v, vs[i]? = some v ∧ Dp K F v d
  | _, _, i, v, .nil, e => by simp at e
  | _, _, 0, v, .cons h _, e => by
    have e' := Option.some.inj e
    subst e'
    exact ⟨_, rfl, h⟩
  | _, _, i + 1, v, .cons _ h, e => by
    obtain ⟨d, h1, h2⟩ := da_get' (i := i) h (by simpa using e)
    exact ⟨d, by simpa using h1, h2⟩
theorem da_take {vs : List V} {ds : List Pd} (h : DpAll K F vs ds) : ∀ n, DpAll K F (vs.take n) (ds.take n) := by
  intro n
  induction n generalizing vs ds with
  | zero => simp; exact .nil
  | succ n ih =>
    cases h with
    | nil => simp; exact .nil
    | cons h1 h2 => exact .cons h1 (ih h2)
theorem da_drop {vs : List V} {ds : List Pd} (h : DpAll K F vs ds) : ∀ n, DpAll K F (vs.drop n) (ds.drop n) := by
  intro n
  induction n generalizing vs ds with
  | zero => simpa using h
  | succ n ih =>
    cases h with
    | nil => simp; exact .nil
    | cons h1 h2 => simpa using ih h2
theorem da_rev : ∀ {vs : List V} {ds : List Pd}, DpAll K F vs ds → DpAll K F vs.reverse ds.reverse
  | _, _, .nil => .nil
  | _, _, .cons h1 h2 => by rw [List.reverse_cons, List.reverse_cons]; exact da_append (da_rev h2) (.cons h1 .nil)
end

theorem pair_imp {α β : Type} {R R' : α → β → Prop} (h : ∀ a b, R a b → R' a b) : ∀ {xs : List α} {ys : List β}, Paired R xs ys → Paired R' xs ys
  | _, _, .nil => .nil
  | _, _, .cons p q => .cons (h _ _ p) (pair_imp h q)
/-- one slot -/
def Rs (K : PySem.W.Frag) (F H : Hp) (v : Option V) : Sl → Prop
  | .n => True
  | .d x => ∃ u, v = some u ∧ Dp K F u x
  | .l xs => ∃ a vs, v = some (.ref a) ∧ F a = none ∧ H a = some (.lst vs) ∧ DpAll K F vs xs
  | .r _ n => ∃ a c k o, v = some (.ref a) ∧ F a = none ∧ H a = some (.lst [.int c, .int k, .int o]) ∧ 0 ≤ k ∧ k ≤ (n : Int) ∧ 0 ≤ o
  | .k kvs => ∃ a us, v = some (.ref a) ∧ F a = some (.dK us) ∧ Paired (fun (p : Key × V) (q : Key × Pd) => p.1 = q.1 ∧ Dp K F p.2 q.2) us kvs
  | .q Φ => ∃ u, v = some u ∧ Φ.p F u
/-- a slot's own thing -/
def Own : Option V → Sl → Option Addr
  | some (.ref a), .l _ => some a
  | some (.ref a), .r _ _ => some a
  | _, _ => none
theorem ex_ne {H H' : Hp} (e : Ex H H') {a : Addr} (h : H a ≠ none) : H' a ≠ none := fun z => by
  cases q : H a with
  | none => exact h q
  | some u => rw [e a u q] at z; cases z
/-- where one began: what may be changed, what stood -/
structure Bs where
  A : Addr → Prop
  F : Hp
  H : Hp
  p : Option Addr := none
structure Rel (K : PySem.W.Frag) (B : Bs) (σ : L2.St) (ρ : Es) (F H : Hp) : Prop where
  sub : Ex F H
  len : σ.length = ρ.length
  slot : ∀ (i : Nat) (s : Sl), ρ[i]? = some s → Rs K F H (σ[i]?.join) s
  sep : ∀ (i j : Nat) (s t : Sl) (a : Addr), ρ[i]? = some s → ρ[j]? = some t → Own (σ[i]?.join) s = some a → Own (σ[j]?.join) t = some a → i = j
  own : ∀ (i : Nat) (s : Sl) (a : Addr), ρ[i]? = some s → Own (σ[i]?.join) s = some a → B.A a ∨ B.H a = none
  f : Ex B.F F
  h : ∀ a o, ¬ B.A a → B.H a = some o → H a = some o
  o : ∀ a, B.F a = none → B.H a ≠ none → F a = none
  dom : ∀ a, B.H a ≠ none → H a ≠ none
  par : ∀ (i n : Nat), ρ[i]? = some (.r true n) → ∃ a, (σ[i]?).join = some (.ref a) ∧ B.p = some a
section
variable {K : PySem.W.Frag} {B : Bs} {σ : L2.St} {ρ : Es} {F H F' H' : Hp}
theorem Rs.gr {v : Option V} {s : Sl} (g : Gr F H F' H') (h : Rs K F H v s) : Rs K F' H' v s := by
  cases s with
  | n => trivial
  | d x =>
    obtain ⟨u, e, h⟩ := h
    exact ⟨u, e, h.mono g.f⟩
  | l xs =>
    obtain ⟨a, vs, e, h1, h2, h3⟩ := h
    exact ⟨a, vs, e, g.o a h1 (by rw [h2]; nofun), g.h a _ h2, h3.mono g.f⟩
  | r _ n =>
    obtain ⟨a, c, k, o, e, h1, h2, h3⟩ := h
    exact ⟨a, c, k, o, e, g.o a h1 (by rw [h2]; nofun), g.h a _ h2, h3⟩
  | k kvs =>
    obtain ⟨a, us, e, h1, h2⟩ := h
    exact ⟨a, us, e, g.f a _ h1, pair_imp (fun _ _ q => ⟨q.1, q.2.mono g.f⟩) h2⟩
  | q Φ =>
    obtain ⟨u, e, h⟩ := h
    exact ⟨u, e, Φ.m _ _ _ g.f h⟩
theorem Rel.gr (r : Rel K B σ ρ F H) (g : Gr F H F' H') : Rel K B σ ρ F' H' where
  sub := g.s
  len := r.len
  slot := fun i s e => (r.slot i s e).gr g
  sep := r.sep
  own := r.own
  f := r.f.trans g.f
  h := fun a o h1 h2 => g.h a o (r.h a o h1 h2)
  o := fun a h1 h2 => g.o a (r.o a h1 h2) (r.dom a h2)
  dom := fun a h => ex_ne g.h (r.dom a h)
  par := r.par
/-- at the start -/
theorem set_join {σ : L2.St} {i j : Nat} {v : V} (hi : i < σ.length) : ((σ.set i (some v))[j]?).join = if j = i then some v else (σ[j]?).join := by
  by_cases e : j = i
  · rw [if_pos e, e, List.getElem?_set_self hi] <;> rfl
  · rw [if_neg e, List.getElem?_set_ne (Ne.symm e)]
theorem set_slot {ρ : Es} {i j : Nat} {s t : Sl} (h : (ρ.set i s)[j]? = some t) : (j = i ∧ t = s) ∨ (j ≠ i ∧ ρ[j]? = some t) := by
  by_cases e : j = i
  · left
    refine ⟨e, ?_⟩
    subst e
    by_cases hl : j < ρ.length
    · rw [List.getElem?_set_self hl] at h
      exact (Option.some.inj h).symm
    · rw [List.getElem?_eq_none (by rw [List.length_set]; omega)] at h
      cases h
  · right
    rw [List.getElem?_set_ne (Ne.symm e)] at h
    exact ⟨e, h⟩
theorem slot_lt {ρ : Es} {i : Nat} {s : Sl} (h : ρ[i]? = some s) : i < ρ.length := (List.getElem?_eq_some_iff.mp h).1
/-- a slot is set: the new value's own thing is apart from all others, and the walk's own -/
theorem Rel.put (r : Rel K B σ ρ F H) {i : Nat} {v : V} {s : Sl} (hi : i < ρ.length) (hs : Rs K F H (some v) s) (hn : ∀ a, Own (some v) s = some a → (B.A a ∨ B.H a = none) ∧ ∀ (j : Nat) (t : Sl), j ≠ i → ρ[j]? = some t → Own (σ[j]?.join) t ≠ some a) (hp : ∀ n, s ≠ .r true n := by nofun) :
    Rel K B (σ.set i (some v)) (ρ.set i s) F H := by
  have hi' : i < σ.length := by rw [r.len]; exact hi
  refine ⟨r.sub, by rw [List.length_set, List.length_set, r.len], fun j t e => ?_, fun j k t u a e1 e2 o1 o2 => ?_, fun j t a e o => ?_, r.f, r.h, r.o, r.dom, fun j n e => ?_⟩
  · rw [set_join hi']
    rcases set_slot e with ⟨h1, h2⟩ | ⟨h1, h2⟩
    · rw [if_pos h1, h2]; exact hs
    · rw [if_neg h1]; exact r.slot j t h2
  · rw [set_join hi'] at o1 o2
    rcases set_slot e1 with ⟨h1, h2⟩ | ⟨h1, h2⟩
    · rcases set_slot e2 with ⟨h3, h4⟩ | ⟨h3, h4⟩
      · rw [h1, h3]
      · rw [if_pos h1, h2] at o1
        rw [if_neg h3] at o2
        exact absurd o2 ((hn a o1).2 k u h3 h4)
    · rcases set_slot e2 with ⟨h3, h4⟩ | ⟨h3, h4⟩
      · rw [if_neg h1] at o1
        rw [if_pos h3, h4] at o2
        exact absurd o1 ((hn a o2).2 j t h1 h2)
      · rw [if_neg h1] at o1
        rw [if_neg h3] at o2
        exact r.sep j k t u a h2 h4 o1 o2
  · rw [set_join hi'] at o
    rcases set_slot e with ⟨h1, h2⟩ | ⟨h1, h2⟩
    · rw [if_pos h1, h2] at o
      exact (hn a o).1
    · rw [if_neg h1] at o
      exact r.own j t a h2 o
  · rw [set_join hi']
    rcases set_slot e with ⟨h1, h2⟩ | ⟨h1, h2⟩
    · exact absurd h2.symm (hp n)
    · rw [if_neg h1]; exact r.par j n h2
theorem own_d {v : Option V} {x : Pd} : Own v (.d x) = none := by
  cases v with
  | none => rfl
  | some v => cases v <;> rfl
theorem own_n {v : Option V} : Own v .n = none := by
  cases v with
  | none => rfl
  | some v => cases v <;> rfl
theorem own_k {v : Option V} {x : List (Key × Pd)} : Own v (.k x) = none := by
  cases v with
  | none => rfl
  | some v => cases v <;> rfl
theorem own_q {v : Option V} {x : Mo} : Own v (.q x) = none := by
  cases v with
  | none => rfl
  | some v => cases v <;> rfl
theorem Rel.putD (r : Rel K B σ ρ F H) {i : Nat} {v : V} {x : Pd} (hi : i < ρ.length) (h : Dp K F v x) : Rel K B (σ.set i (some v)) (ρ.set i (.d x)) F H :=
  r.put hi ⟨v, rfl, h⟩ (fun a o => by rw [own_d] at o; cases o)
/-- an own thing's object is there -/
theorem Rs.own {v : Option V} {s : Sl} {a : Addr} (h : Rs K F H v s) (o : Own v s = some a) : F a = none ∧ ∃ vs, H a = some (.lst vs) ∧ v = some (.ref a) := by
  cases s with
  | n => rw [own_n] at o; cases o
  | d x => rw [own_d] at o; cases o
  | k x => rw [own_k] at o; cases o
  | q x => rw [own_q] at o; cases o
  | l xs =>
    obtain ⟨b, vs, e, h1, h2, h3⟩ := h
    subst e
    cases o
    exact ⟨h1, vs, h2, rfl⟩
  | r _ n =>
    obtain ⟨b, c, k, o', e, h1, h2, h3⟩ := h
    subst e
    cases o
    exact ⟨h1, _, h2, rfl⟩
theorem Rs.keep {v : Option V} {s : Sl} (h : Rs K F H v s) (k : ∀ a, Own v s = some a → H' a = H a) : Rs K F H' v s := by
  cases s with
  | n => trivial
  | d x => exact h
  | k x => exact h
  | q x => exact h
  | l xs =>
    obtain ⟨b, vs, e, h1, h2, h3⟩ := h
    subst e
    exact ⟨b, vs, rfl, h1, by rw [k b rfl]; exact h2, h3⟩
  | r _ n =>
    obtain ⟨b, c, k', o', e, h1, h2, h3⟩ := h
    subst e
    exact ⟨b, c, k', o', rfl, h1, by rw [k b rfl]; exact h2, h3⟩
/-- the own thing of slot i changes -/
theorem Rel.mut (r : Rel K B σ ρ F H) {i : Nat} {s s' : Sl} {a : Addr} {o : HO} (hi : ρ[i]? = some s) (ho : Own (σ[i]?.join) s = some a) (hs : Rs K F (upd H a o) (σ[i]?.join) s') (ho' : Own (σ[i]?.join) s' = some a) (hp : ∀ n, s' = .r true n → ∃ m, s = .r true m := by nofun) :
    Rel K B σ (ρ.set i s') F (upd H a o) := by
  obtain ⟨hF, vs, hH, hv⟩ := (r.slot i s hi).own ho
  have hA := r.own i s a hi ho
  refine ⟨fun b u e => ?_, by rw [List.length_set]; exact r.len, fun j t e => ?_, fun j k t u b e1 e2 o1 o2 => ?_, fun j t b e o => ?_, r.f, fun b u h1 h2 => ?_, r.o, fun b h => ?_, fun j n e => ?_⟩
  · rw [upd_ne (ne_of_none e hF)]
    exact r.sub b u e
  · rcases set_slot e with ⟨h1, h2⟩ | ⟨h1, h2⟩
    · rw [h1, h2]; exact hs
    · exact (r.slot j t h2).keep fun b hb => upd_ne fun z => h1 (r.sep j i t s a h2 hi (by rw [← z]; exact hb) ho)
  · rcases set_slot e1 with ⟨h1, h2⟩ | ⟨h1, h2⟩
    · rcases set_slot e2 with ⟨h3, h4⟩ | ⟨h3, h4⟩
      · rw [h1, h3]
      · rw [h1, h2, ho'] at o1
        cases o1
        exact absurd (r.sep k i u s _ h4 hi o2 ho) h3
    · rcases set_slot e2 with ⟨h3, h4⟩ | ⟨h3, h4⟩
      · rw [h3, h4, ho'] at o2
        cases o2
        exact absurd (r.sep j i t s _ h2 hi o1 ho) h1
      · exact r.sep j k t u b h2 h4 o1 o2
  · rcases set_slot e with ⟨h1, h2⟩ | ⟨h1, h2⟩
    · rw [h1, h2, ho'] at o
      cases o
      exact hA
    · exact r.own j t b h2 o
  · have q := r.h b u h1 h2
    rw [upd_ne (fun z => by
      subst z
      rcases hA with w | w
      · exact h1 w
      · rw [w] at h2; cases h2)]
    exact q
  · by_cases z : b = a
    · rw [z, upd_same]; nofun
    · rw [upd_ne z]; exact r.dom b h
  · rcases set_slot e with ⟨h1, h2⟩ | ⟨h1, h2⟩
    · obtain ⟨m, hm⟩ := hp n h2.symm
      rw [h1]
      exact r.par i m (by rw [hi, hm])
    · exact r.par j n h2
end
theorem tru_mono {v : V} {b : Bool} (e : Ex F H) (h : TruV K v F b) : TruV K v H b := by
  cases v with
  | ref p =>
    rcases h with ⟨xs, q, w⟩ | ⟨xs, q, w⟩ | ⟨kvs, q, w⟩
    · exact .inl ⟨xs, ex_l e q, w⟩
    · exact .inr (.inl ⟨xs, ex_t e q, w⟩)
    · exact .inr (.inr ⟨kvs, e _ _ q, w⟩)
  | _ => exact h
/-- t in ρ: every way out is P's -/
def W {α β : Type} (K : PySem.W.Frag) (B : Bs) (R : Hp → α → β → Prop) (t : L2.St → Hp → (α → Hp → Prop) → Prop) (ρ : Es) (P : β → Es → Prop) : Prop :=
  ∀ σ F H, Rel K B σ ρ F H → ∀ Q : α → Hp → Prop, (∀ v x ρ' F' H', P x ρ' → Ex F F' → R F' v x → Rel K B σ ρ' F' H' → Q v H') → t σ H Q
abbrev WE (K : PySem.W.Frag) (B : Bs) (t : TE) (ρ : Es) (P : Pd → Es → Prop) : Prop := W K B (Dp K) t ρ P
abbrev WT (K : PySem.W.Frag) (B : Bs) (t : TT) (ρ : Es) (P : Bool → Es → Prop) : Prop := W K B (fun _ a b => a = b) t ρ P
abbrev WA (K : PySem.W.Frag) (B : Bs) (t : TA) (ρ : Es) (P : List Pd → Es → Prop) : Prop := W K B (DpAll K) t ρ P
abbrev WO (K : PySem.W.Frag) (B : Bs) (t : TO) (ρ : Es) (P : Option Int → Es → Prop) : Prop := W K B (fun _ a b => a = b) t ρ P
/-- an operation on data -/
def OpD (K : PySem.W.Frag) (r : R2) (x y z : Pd) : Prop := ∀ F H v u, Ex F H → Dp K F v x → Dp K F u y → ∀ Q : VK, (∀ w F' H', Gr F H F' H' → Dp K F' w z → Q w H') → r v u H Q
/-- a call on data -/
def CaD (K : PySem.W.Frag) (r : List V → Hp → VK → Prop) (xs : List Pd) (z : Pd) : Prop := ∀ F H vs, Ex F H → DpAll K F vs xs → ∀ Q : VK, (∀ w F' H', Gr F H F' H' → Dp K F' w z → Q w H') → r vs H Q
/-- a method of data -/
def TyD (K : PySem.W.Frag) (T : String) (o : Pd) : Prop := ∀ F v, Dp K F v o → tyV K T v F
def MeD (K : PySem.W.Frag) (r : V → List V → Hp → VK → Prop) (o : Pd) (xs : List Pd) (z : Pd) : Prop := ∀ F H v vs, Ex F H → Dp K F v o → DpAll K F vs xs → ∀ Q : VK, (∀ w F' H', Gr F H F' H' → Dp K F' w z → Q w H') → r v vs H Q
section
variable {K : PySem.W.Frag} {B : Bs} {ρ : Es} {ta tb te tc : TE} {tt tu : TT} {P : Pd → Es → Prop} {PT' : Bool → Es → Prop}
theorem W.mono {α β : Type} {R : Hp → α → β → Prop} {t : L2.St → Hp → (α → Hp → Prop) → Prop} {P P' : β → Es → Prop} (h : W K B R t ρ P) (k : ∀ x ρ', P x ρ' → P' x ρ') : W K B R t ρ P' :=
  fun σ F H r Q q => h σ F H r Q fun v x ρ' F' H' p => q v x ρ' F' H' (k x ρ' p)
theorem w_var {i : Nat} {x : Pd} (h : ρ[i]? = some (.d x)) (p : P x ρ) : WE K B (tVar i) ρ P := fun σ F H r Q q => by
  obtain ⟨u, e, d⟩ := r.slot i _ h
  have e' : σ[i]? = some (some u) := by
    cases z : σ[i]? with
    | none => rw [z] at e; cases e
    | some w => rw [z] at e; exact congrArg some e
  exact ⟨u, e', q u x ρ F H p (Ex.refl _) d r⟩
theorem w_int {i : Int} (p : P (.int i) ρ) : WE K B (tC (.int i)) ρ P := fun σ F H r Q q => q _ _ ρ F H p (Ex.refl _) (.int i) r
theorem w_str {i : Str} (p : P (.str i) ρ) : WE K B (tC (.str i)) ρ P := fun σ F H r Q q => q _ _ ρ F H p (Ex.refl _) (.str i) r
theorem w_bl {i : Bool} (p : P (.bool i) ρ) : WE K B (tC (.bl i)) ρ P := fun σ F H r Q q => q _ _ ρ F H p (Ex.refl _) (.bl i) r
theorem w_non (p : P .none ρ) : WE K B (tC .non) ρ P := fun σ F H r Q q => q _ _ ρ F H p (Ex.refl _) .non r
theorem w_c {v : V} {x : Pd} (hv : ∀ F, Dp K F v x) (p : P x ρ) : WE K B (tC v) ρ P := fun σ F H r Q q => q _ _ ρ F H p (Ex.refl _) (hv F) r
theorem w_op {r : R2} (h : WE K B ta ρ fun x ρ1 => WE K B tb ρ1 fun y ρ2 => ∃ z, OpD K r x y z ∧ P z ρ2) : WE K B (tOp r ta tb) ρ P := fun σ F H rl Q q =>
  h σ F H rl _ fun v x ρ1 F1 H1 p1 e1 d1 r1 => p1 σ F1 H1 r1 _ fun u y ρ2 F2 H2 p2 e2 d2 r2 => by
    obtain ⟨z, o, p⟩ := p2
    exact o F2 H2 v u r2.sub (d1.mono e2) d2 Q fun w F3 H3 g d3 => q w z ρ2 F3 H3 p ((e1.trans e2).trans g.f) d3 (r2.gr g)
theorem w_and (h : WE K B ta ρ fun x ρ1 => ∃ b, x = .bool b ∧ (b = true → WE K B tb ρ1 P) ∧ (b = false → P (.bool false) ρ1)) : WE K B (tAndV ta tb) ρ P := fun σ F H rl Q q =>
  h σ F H rl _ fun v x ρ1 F1 H1 p1 e1 d1 r1 => by
    obtain ⟨b, e, h1, h2⟩ := p1
    subst e
    cases d1
    refine ⟨b, rfl, ?_⟩
    cases b with
    | true => exact h1 rfl σ F1 H1 r1 Q fun u y ρ2 F2 H2 p2 e2 => q u y ρ2 F2 H2 p2 (e1.trans e2)
    | false => exact q _ _ ρ1 F1 H1 (h2 rfl) e1 (.bl false) r1
theorem w_or (h : WE K B ta ρ fun x ρ1 => ∃ b, x = .bool b ∧ (b = false → WE K B tb ρ1 P) ∧ (b = true → P (.bool true) ρ1)) : WE K B (tOrV ta tb) ρ P := fun σ F H rl Q q =>
  h σ F H rl _ fun v x ρ1 F1 H1 p1 e1 d1 r1 => by
    obtain ⟨b, e, h1, h2⟩ := p1
    subst e
    cases d1
    refine ⟨b, rfl, ?_⟩
    cases b with
    | false => exact h1 rfl σ F1 H1 r1 Q fun u y ρ2 F2 H2 p2 e2 => q u y ρ2 F2 H2 p2 (e1.trans e2)
    | true => exact q _ _ ρ1 F1 H1 (h2 rfl) e1 (.bl true) r1
theorem w_not (h : WE K B ta ρ fun x ρ1 => ∃ b, x = .bool b ∧ P (.bool (!b)) ρ1) : WE K B (tNotV ta) ρ P := fun σ F H rl Q q =>
  h σ F H rl _ fun v x ρ1 F1 H1 p1 e1 d1 r1 => by
    obtain ⟨b, e, h1⟩ := p1
    subst e
    cases d1
    exact ⟨b, rfl, q _ _ ρ1 F1 H1 h1 e1 (.bl _) r1⟩
theorem w_if (h : WT K B tt ρ fun b ρ1 => (b = true → WE K B ta ρ1 P) ∧ (b = false → WE K B tb ρ1 P)) : WE K B (tIf tt ta tb) ρ P := fun σ F H rl Q q =>
  h σ F H rl _ fun v x ρ1 F1 H1 p1 e1 d1 r1 => by
    subst d1
    cases v with
    | true => exact p1.1 rfl σ F1 H1 r1 Q fun u y ρ2 F2 H2 p2 e2 => q u y ρ2 F2 H2 p2 (e1.trans e2)
    | false => exact p1.2 rfl σ F1 H1 r1 Q fun u y ρ2 F2 H2 p2 e2 => q u y ρ2 F2 H2 p2 (e1.trans e2)
theorem w_chain {r r' : R2} (h : WE K B ta ρ fun x ρ1 => WE K B tb ρ1 fun y ρ2 => ∃ b, OpD K r x y (.bool b) ∧ (b = true → WE K B tc ρ2 fun z ρ3 => ∃ w, OpD K r' y z w ∧ P w ρ3) ∧ (b = false → P (.bool false) ρ2)) : WE K B (tChain r r' ta tb tc) ρ P := fun σ F H rl Q q =>
  h σ F H rl _ fun v x ρ1 F1 H1 p1 e1 d1 r1 => p1 σ F1 H1 r1 _ fun u y ρ2 F2 H2 p2 e2 d2 r2 => by
    obtain ⟨b, o, h1, h2⟩ := p2
    refine o F2 H2 v u r2.sub (d1.mono e2) d2 _ fun w F3 H3 g d3 => ?_
    cases d3
    refine ⟨b, rfl, ?_⟩
    cases b with
    | true =>
      refine h1 rfl σ F3 H3 (r2.gr g) _ fun u' y' ρ4 F4 H4 p4 e4 d4 r4 => ?_
      obtain ⟨w, o', p⟩ := p4
      exact o' F4 H4 u u' r4.sub ((d2.mono g.f).mono e4) d4 Q fun w' F5 H5 g5 d5 => q w' w ρ4 F5 H5 p ((((e1.trans e2).trans g.f).trans e4).trans g5.f) d5 (r4.gr g5)
    | false => exact q _ _ ρ2 F3 H3 (h2 rfl) ((e1.trans e2).trans g.f) (.bl false) (r2.gr g)
/-! tests -/
theorem wt_test (h : WE K B te ρ fun x ρ1 => ∃ b, x = .bool b ∧ PT' b ρ1) : WT K B (tTest te) ρ PT' := fun σ F H rl Q q =>
  h σ F H rl _ fun v x ρ1 F1 H1 p1 e1 d1 r1 => by
    obtain ⟨b, e, h1⟩ := p1
    subst e
    cases d1
    exact ⟨b, rfl, q _ _ ρ1 F1 H1 h1 e1 rfl r1⟩
theorem wt_B (h : WE K B te ρ fun x ρ1 => ∃ b, x = .bool b ∧ PT' b ρ1) : WT K B (tB te) ρ PT' := wt_test h
theorem wt_and (h : WT K B tt ρ fun b ρ1 => (b = true → WT K B tu ρ1 PT') ∧ (b = false → PT' false ρ1)) : WT K B (tAnd tt tu) ρ PT' := fun σ F H rl Q q =>
  h σ F H rl _ fun v x ρ1 F1 H1 p1 e1 d1 r1 => by
    subst d1
    cases v with
    | true => exact p1.1 rfl σ F1 H1 r1 Q fun u y ρ2 F2 H2 p2 e2 => q u y ρ2 F2 H2 p2 (e1.trans e2)
    | false => exact q _ _ ρ1 F1 H1 (p1.2 rfl) e1 rfl r1
theorem wt_or (h : WT K B tt ρ fun b ρ1 => (b = false → WT K B tu ρ1 PT') ∧ (b = true → PT' true ρ1)) : WT K B (tOr tt tu) ρ PT' := fun σ F H rl Q q =>
  h σ F H rl _ fun v x ρ1 F1 H1 p1 e1 d1 r1 => by
    subst d1
    cases v with
    | false => exact p1.1 rfl σ F1 H1 r1 Q fun u y ρ2 F2 H2 p2 e2 => q u y ρ2 F2 H2 p2 (e1.trans e2)
    | true => exact q _ _ ρ1 F1 H1 (p1.2 rfl) e1 rfl r1
theorem wt_not (h : WT K B tt ρ fun b ρ1 => PT' (!b) ρ1) : WT K B (tNot tt) ρ PT' := fun σ F H rl Q q =>
  h σ F H rl _ fun v x ρ1 F1 H1 p1 e1 d1 r1 => by
    subst d1
    exact q _ _ ρ1 F1 H1 p1 e1 rfl r1
/-! lists of arguments, displays, calls -/
variable {tl : TA} {PA' : List Pd → Es → Prop}
theorem wa_nil (p : PA' [] ρ) : WA K B tNil ρ PA' := fun σ F H r Q q => q _ _ ρ F H p (Ex.refl _) .nil r
theorem wa_cons (h : WE K B te ρ fun x ρ1 => WA K B tl ρ1 fun xs ρ2 => PA' (x :: xs) ρ2) : WA K B (tCons te tl) ρ PA' := fun σ F H rl Q q =>
  h σ F H rl _ fun v x ρ1 F1 H1 p1 e1 d1 r1 => p1 σ F1 H1 r1 _ fun u y ρ2 F2 H2 p2 e2 d2 r2 => q _ _ ρ2 F2 H2 p2 (e1.trans e2) (.cons (d1.mono e2) d2) r2
theorem w_tup (h : WA K B tl ρ fun xs ρ1 => xs.length ≤ sizeLine ∧ P (.tuple xs) ρ1) : WE K B (tTup tl) ρ P := fun σ F H rl Q q =>
  h σ F H rl _ fun vs xs ρ1 F1 H1 p1 e1 d1 r1 => ⟨by rw [da_len d1]; exact p1.1, fun p hp => by
    have g := Gr.new r1.sub (o := .tup vs) hp
    exact q _ _ ρ1 _ _ p1.2 (e1.trans g.f) (.tup (.inl (.inl upd_same)) (d1.mono g.f)) (r1.gr g)⟩
theorem w_lst (h : WA K B tl ρ fun xs ρ1 => xs.length ≤ sizeLine ∧ P (.list xs) ρ1) : WE K B (tLst tl) ρ P := fun σ F H rl Q q =>
  h σ F H rl _ fun vs xs ρ1 F1 H1 p1 e1 d1 r1 => ⟨by rw [da_len d1]; exact p1.1, fun p hp => by
    have g := Gr.new r1.sub (o := .lst vs) hp
    exact q _ _ ρ1 _ _ p1.2 (e1.trans g.f) (.lst (.inl (.inl upd_same)) (d1.mono g.f)) (r1.gr g)⟩
theorem w_cb {r : List V → Hp → VK → Prop} (h : WA K B tl ρ fun xs ρ1 => ∃ z, CaD K r xs z ∧ P z ρ1) : WE K B (tCB r tl) ρ P := fun σ F H rl Q q =>
  h σ F H rl _ fun vs xs ρ1 F1 H1 p1 e1 d1 r1 => by
    obtain ⟨z, c, p⟩ := p1
    exact c F1 H1 vs r1.sub d1 Q fun w F2 H2 g d2 => q _ _ ρ1 F2 H2 p (e1.trans g.f) d2 (r1.gr g)
theorem tyV_mono {T : String} {v : V} (e : Ex F H) (h : tyV K T v F) : tyV K T v H := by
  cases v with
  | ref p =>
    rcases h with ⟨h, xs, q⟩ | h | ⟨h, q⟩ | ⟨h, S, n, q⟩
    · exact .inl ⟨h, xs, ex_l e q⟩
    · exact .inr (.inl h)
    · refine .inr (.inr (.inl ⟨h, ?_⟩))
      rcases q with ⟨a, q⟩ | ⟨a, q⟩
      · exact .inl ⟨a, e _ _ q⟩
      · exact .inr ⟨a, e _ _ q⟩
    · exact .inr (.inr (.inr ⟨h, S, n, e _ _ q⟩))
  | _ => exact h
theorem w_bm {T : String} {r : V → List V → Hp → VK → Prop} (h : WE K B te ρ fun o ρ1 => TyD K T o ∧ WA K B tl ρ1 fun xs ρ2 => ∃ z, MeD K r o xs z ∧ P z ρ2) : WE K B (tBM K T r te tl) ρ P := fun σ F H rl Q q =>
  h σ F H rl _ fun v o ρ1 F1 H1 p1 e1 d1 r1 => by
    refine ⟨tyV_mono r1.sub (p1.1 F1 v d1), p1.2 σ F1 H1 r1 _ fun vs xs ρ2 F2 H2 p2 e2 d2 r2 => ?_⟩
    obtain ⟨z, m, p⟩ := p2
    exact m F2 H2 v vs r2.sub (d1.mono e2) d2 Q fun w F3 H3 g d3 => q _ _ ρ2 F3 H3 p ((e1.trans e2).trans g.f) d3 (r2.gr g)
theorem ty_str {s : Str} : TyD K "str" (.str s) := fun F v d => by cases d; rfl
theorem ty_list {s : List Pd} : TyD K "list" (.list s) := fun F v d => by
  cases d with
  | lst h _ => exact .inl ⟨rfl, _, h⟩
/-! slices' parts -/
variable {PO' : Option Int → Es → Prop} {tlo thi : TO}
theorem wo_none (p : PO' none ρ) : WO K B tNoPart ρ PO' := fun σ F H r Q q => q _ _ ρ F H p (Ex.refl _) rfl r
theorem wo_some (h : WE K B te ρ fun x ρ1 => ∃ i, x = .int i ∧ PO' (some i) ρ1) : WO K B (tPart te) ρ PO' := fun σ F H rl Q q =>
  h σ F H rl _ fun v x ρ1 F1 H1 p1 e1 d1 r1 => by
    obtain ⟨i, e, p⟩ := p1
    subst e
    cases d1
    exact ⟨i, rfl, q _ _ ρ1 F1 H1 p e1 rfl r1⟩
def SlD (K : PySem.W.Frag) (r : V → Option Int → Option Int → Hp → VK → Prop) (x : Pd) (lo hi : Option Int) (z : Pd) : Prop := ∀ F H v, Ex F H → Dp K F v x → ∀ Q : VK, (∀ w F' H', Gr F H F' H' → Dp K F' w z → Q w H') → r v lo hi H Q
theorem w_sl {r : V → Option Int → Option Int → Hp → VK → Prop} (h : WE K B te ρ fun x ρ1 => WO K B tlo ρ1 fun lo ρ2 => WO K B thi ρ2 fun hi ρ3 => ∃ z, SlD K r x lo hi z ∧ P z ρ3) : WE K B (tSl r te tlo thi) ρ P := fun σ F H rl Q q =>
  h σ F H rl _ fun v x ρ1 F1 H1 p1 e1 d1 r1 => p1 σ F1 H1 r1 _ fun u lo ρ2 F2 H2 p2 e2 d2 r2 => p2 σ F2 H2 r2 _ fun u' hi ρ3 F3 H3 p3 e3 d3 r3 => by
    subst d2 d3
    obtain ⟨z, m, p⟩ := p3
    exact m F3 H3 v r3.sub ((d1.mono e2).mono e3) Q fun w F4 H4 g d4 => q _ _ ρ3 F4 H4 p (((e1.trans e2).trans e3).trans g.f) d4 (r3.gr g)
/-! or by truth -/
theorem w_orT (h : WE K B ta ρ fun x ρ1 => ∃ b, (∀ F v, Dp K F v x → TruV K v F b) ∧ (b = false → WE K B tb ρ1 P) ∧ (b = true → P x ρ1)) : WE K B (tOrT K ta tb) ρ P := fun σ F H rl Q q =>
  h σ F H rl _ fun v x ρ1 F1 H1 p1 e1 d1 r1 => by
    obtain ⟨b, e, h1, h2⟩ := p1
    refine ⟨b, tru_mono r1.sub (e F1 v d1), ?_⟩
    cases b with
    | false => exact h1 rfl σ F1 H1 r1 Q fun u y ρ2 F2 H2 p2 e2 => q u y ρ2 F2 H2 p2 (e1.trans e2)
    | true => exact q _ _ ρ1 F1 H1 (h2 rfl) e1 d1 r1
/-! a def that changes nothing: R says what it answers -/
def spP (K : PySem.W.Frag) (R : List Pd → Pd → Prop) : Sp := fun vs H Q _ => ∃ F xs y, Ex F H ∧ DpAll K F vs xs ∧ R xs y ∧ ∀ v F' H', Gr F H F' H' → Dp K F' v y → Q v H'
theorem w_call {R : List Pd → Pd → Prop} {E : XK} (h : WA K B tl ρ fun xs ρ1 => ∃ z, R xs z ∧ P z ρ1) : WE K B (tCall (spP K R) [] E tl) ρ P := fun σ F H rl Q q =>
  h σ F H rl _ fun vs xs ρ1 F1 H1 p1 e1 d1 r1 => by
    obtain ⟨z, c, p⟩ := p1
    exact ⟨F1, xs, z, r1.sub, by rw [List.append_nil]; exact d1, c, fun v F2 H2 g d2 => q _ _ ρ1 F2 H2 p (e1.trans g.f) d2 (r1.gr g)⟩
end
end Bw
set_option Elab.async false
set_option linter.all false
set_option maxRecDepth 100000
set_option maxHeartbeats 2000000
/-! The pure walk: statements, targets, loops, comprehensions. -/
namespace Bw
open PySem PySem.Spec L2 Evl
structure En where
  nx : Es → Prop
  rt : Pd → Es → Prop := fun _ _ => False
  bk : Es → Prop := fun _ => False
  ct : Es → Prop := fun _ => False
structure EnOk (K : PySem.W.Frag) (B : Bs) (F : Hp) (e : En) (D : Ends) : Prop where
  nx : ∀ σ' ρ' F' H', e.nx ρ' → Ex F F' → Rel K B σ' ρ' F' H' → D.nx σ' H'
  rt : ∀ v x σ' ρ' F' H', e.rt x ρ' → Ex F F' → Dp K F' v x → Rel K B σ' ρ' F' H' → D.rt v H'
  bk : ∀ σ' ρ' F' H', e.bk ρ' → Ex F F' → Rel K B σ' ρ' F' H' → D.bk σ' H'
  ct : ∀ σ' ρ' F' H', e.ct ρ' → Ex F F' → Rel K B σ' ρ' F' H' → D.ct σ' H'
def S (K : PySem.W.Frag) (B : Bs) (t : TS) (ρ : Es) (e : En) : Prop := ∀ σ F H, Rel K B σ ρ F H → ∀ D : Ends, EnOk K B F e D → t D σ H
/-- a target: the slots out of vs stay -/
def G (K : PySem.W.Frag) (B : Bs) (vs : Nat → Prop) (g : TG) (x : Pd) (ρ : Es) (N : Es → Prop) : Prop :=
  ∀ σ F H v, Rel K B σ ρ F H → Dp K F v x → ∀ Q : L2.St → Hp → Prop, (∀ σ' ρ', N ρ' → Rel K B σ' ρ' F H → σ'.length = σ.length → (∀ j, ¬ vs j → σ'[j]? = σ[j]?) → Q σ' H) → g v σ H Q
def Gs (K : PySem.W.Frag) (B : Bs) (vs : Nat → Prop) (g : TGs) (xs : List Pd) (ρ : Es) (N : Es → Prop) : Prop :=
  ∀ σ F H us, Rel K B σ ρ F H → DpAll K F us xs → ∀ Q : L2.St → Hp → Prop, (∀ σ' ρ', N ρ' → Rel K B σ' ρ' F H → σ'.length = σ.length → (∀ j, ¬ vs j → σ'[j]? = σ[j]?) → Q σ' H) → g us σ H Q
/-- a new list of one's own -/
def WL (K : PySem.W.Frag) (B : Bs) (t : TE) (ρ : Es) (P : List Pd → Es → Prop) : Prop :=
  ∀ σ F H, Rel K B σ ρ F H → ∀ Q : VK, (∀ a vs xs ρ' F' H', P xs ρ' → Ex F F' → Rel K B σ ρ' F' H' → F' a = none → H' a = some (.lst vs) → DpAll K F' vs xs → B.H a = none →
    (∀ (j : Nat) (s : Sl), ρ'[j]? = some s → Own (σ[j]?.join) s ≠ some a) → Q (.ref a) H') → t σ H Q
/-- what is walked -/
def WI (K : PySem.W.Frag) (B : Bs) (wi : TI) (ρ : Es) (P : List Pd → Es → Prop) : Prop :=
  ∀ σ F H, Rel K B σ ρ F H → ∀ R : It → Hp → Prop, (∀ J xs ρ1 F1 H1 (Gd : Hp → Prop) (Y : Nat → Hp → V → Hp → Prop), P xs ρ1 → Ex F F1 → Rel K B σ ρ1 F1 H1 → Walk J xs.length Gd Y → (∀ F2 H2, Ex F1 F2 → Ex F2 H2 → Gd H2) →
    (∀ i H v H' F2, i < xs.length → Y i H v H' → Ex F1 F2 → Ex F2 H → ∃ F' x, xs[i]? = some x ∧ Gr F2 H F' H' ∧ Dp K F' v x) → R J H1) → wi σ H R
section
variable {K : PySem.W.Frag} {B : Bs} {σ : L2.St} {ρ : Es} {F H F' H' F1 H1 : Hp} {e : En} {D : Ends} {te ta tb : TE} {tt : TT} {tl : TA} {t u : TS} {g : TG} {gs : TGs} {x : Pd} {N : Es → Prop} {vs : Nat → Prop}
theorem EnOk.mono (h : EnOk K B F e D) (x : Ex F F') : EnOk K B F' e D :=
  ⟨fun σ' ρ' F1 H1 a b => h.nx σ' ρ' F1 H1 a (x.trans b), fun v y σ' ρ' F1 H1 a b => h.rt v y σ' ρ' F1 H1 a (x.trans b), fun σ' ρ' F1 H1 a b => h.bk σ' ρ' F1 H1 a (x.trans b), fun σ' ρ' F1 H1 a b => h.ct σ' ρ' F1 H1 a (x.trans b)⟩
theorem s_seq (h : S K B t ρ { e with nx := fun ρ' => S K B u ρ' e }) : S K B (tSeq t u) ρ e := fun σ F H r D k =>
  h σ F H r _ ⟨fun σ' ρ' F' H' q x r' => q σ' F' H' r' D (k.mono x), k.rt, k.bk, k.ct⟩
theorem s_cut {M : Es → Prop} (h : S K B t ρ { e with nx := M }) (h2 : ∀ ρ', M ρ' → S K B u ρ' e) : S K B (tSeq t u) ρ e := fun σ F H r D k =>
  h σ F H r _ ⟨fun σ' ρ' F' H' q x r' => h2 ρ' q σ' F' H' r' D (k.mono x), k.rt, k.bk, k.ct⟩
theorem s_next (h : e.nx ρ) : S K B tNext ρ e := fun σ F H r D k => k.nx σ ρ F H h (Ex.refl _) r
theorem s_ret (h : WE K B te ρ e.rt) : S K B (tRet te) ρ e := fun σ F H r D k => h σ F H r D.rt fun v x ρ' F' H' p ex d r' => k.rt v x σ ρ' F' H' p ex d r'
theorem s_retN (h : e.rt .none ρ) : S K B tRetN ρ e := fun σ F H r D k => k.rt .non .none σ ρ F H h (Ex.refl _) .non r
theorem s_if (h : WT K B tt ρ fun b ρ1 => (b = true → S K B t ρ1 e) ∧ (b = false → S K B u ρ1 e)) : S K B (tIfS tt t u) ρ e := fun σ F H r D k =>
  h σ F H r _ fun v b ρ' F' H' p ex d r' => by
    subst d
    cases v with
    | true => exact p.1 rfl σ F' H' r' D (k.mono ex)
    | false => exact p.2 rfl σ F' H' r' D (k.mono ex)
theorem s_drop (h : WE K B te ρ fun _ ρ1 => e.nx ρ1) : S K B (tDrop te) ρ e := fun σ F H r D k => h σ F H r _ fun v x ρ' F' H' p ex d r' => k.nx σ ρ' F' H' p ex r'
theorem s_asg (h : WE K B te ρ fun x ρ1 => G K B (fun _ => True) g x ρ1 e.nx) : S K B (tAsg te g) ρ e := fun σ F H r D k =>
  h σ F H r _ fun v x ρ' F' H' p ex d r' => p σ F' H' v r' d D.nx fun σ' ρ2 q r2 _ _ => k.nx σ' ρ2 F' H' q ex r2
theorem s_set {i : Nat} (h : WE K B te ρ fun x ρ1 => Nat.ble (i + 1) ρ1.length = true ∧ e.nx (ρ1.set i (.d x))) : S K B (tAsg te (gName i)) ρ e := fun σ F H r D k =>
  h σ F H r _ fun v x ρ' F' H' p ex d r' => k.nx _ _ F' H' p.2 ex (r'.putD (Nat.le_of_ble_eq_true p.1) d)
theorem g_name {i : Nat} (hi : vs i) (hl : Nat.ble (i + 1) ρ.length = true) (h : N (ρ.set i (.d x))) : G K B vs (gName i) x ρ N := fun σ F H v r d Q q =>
  q _ _ h (r.putD (Nat.le_of_ble_eq_true hl) d) (by rw [List.length_set]) fun j hj => List.getElem?_set_ne fun z => hj (by rw [← z]; exact hi)
theorem g_tup {n : Nat} {xs : List Pd} (hx : x = .tuple xs) (hn : xs.length = n) (h : Gs K B vs gs xs ρ N) : G K B vs (gTup K n gs) x ρ N := fun σ F H v r d Q q => by
  subst hx
  cases d with
  | tup hs ha => exact ⟨_, _, rfl, ex_t r.sub hs, by rw [da_len ha]; exact hn, h σ F H _ r ha Q q⟩
theorem gs_nil (h : N ρ) : Gs K B vs gNil [] ρ N := fun σ F H us r d Q q => by
  cases d
  exact ⟨rfl, q σ ρ h r rfl fun _ _ => rfl⟩
theorem gs_cons {xs : List Pd} (h : G K B vs g x ρ fun ρ1 => Gs K B vs gs xs ρ1 N) : Gs K B vs (gCons g gs) (x :: xs) ρ N := fun σ F H us r d Q q => by
  cases d with
  | cons d1 d2 =>
    refine ⟨_, _, rfl, h σ F H _ r d1 _ fun σ' ρ' k r' hl hj => ?_⟩
    exact k σ' F H _ r' d2 Q fun σ2 ρ2 k2 r2 hl2 hj2 => q σ2 ρ2 k2 r2 (hl2.trans hl) fun j z => (hj2 j z).trans (hj j z)
/-! ### bases -/
def owns (σ : L2.St) (ρ : Es) : Addr → Prop := fun a => ∃ (i : Nat) (s : Sl), ρ[i]? = some s ∧ Own (σ[i]?.join) s = some a
theorem Rel.inner (r : Rel K B σ ρ F H) : Rel K ⟨owns σ ρ, F, H, B.p⟩ σ ρ F H :=
  ⟨r.sub, r.len, r.slot, r.sep, fun i s a h1 h2 => .inl ⟨i, s, h1, h2⟩, Ex.refl _, fun _ _ _ h => h, fun _ h _ => h, fun _ h => h, r.par⟩
theorem Rel.outer {σ' : L2.St} {ρ' : Es} (r : Rel K B σ ρ F H) (r' : Rel K ⟨owns σ ρ, F, H, B.p⟩ σ' ρ' F' H') : Rel K B σ' ρ' F' H' := by
  have key : ∀ a, owns σ ρ a → B.A a ∨ B.H a = none := fun a ⟨i, s, h1, h2⟩ => r.own i s a h1 h2
  refine ⟨r'.sub, r'.len, r'.slot, r'.sep, fun i s a h1 h2 => ?_, r.f.trans r'.f, fun a o h1 h2 => ?_, fun a h1 h2 => r'.o a (r.o a h1 h2) (r.dom a h2), fun a h => r'.dom a (r.dom a h), r'.par⟩
  · rcases r'.own i s a h1 h2 with h | h
    · exact key a h
    · right
      cases z : B.H a with
      | none => rfl
      | some o => exact absurd h (r.dom a (by rw [z]; nofun))
  · refine r'.h a o (fun h => ?_) (r.h a o h1 h2)
    rcases key a h with w | w
    · exact h1 w
    · rw [w] at h2; cases h2
/-- a thing beside changes: none of ours, nothing that stands -/
theorem Rel.side {a : Addr} {o : HO} (r : Rel K B σ ρ F H) (hF : F a = none) (hB : B.H a = none) (hn : ∀ (j : Nat) (s : Sl), ρ[j]? = some s → Own (σ[j]?.join) s ≠ some a) : Rel K B σ ρ F (upd H a o) := by
  refine ⟨fun b u e => ?_, r.len, fun j t e => (r.slot j t e).keep fun b hb => upd_ne fun z => hn j t e (by rw [← z]; exact hb), r.sep, r.own, r.f, fun b u h1 h2 => ?_, r.o, fun b h => ?_, r.par⟩
  · rw [upd_ne (ne_of_none e hF)]; exact r.sub b u e
  · rw [upd_ne (ne_of_none h2 hB)]; exact r.h b u h1 h2
  · by_cases z : b = a
    · rw [z, upd_same]; nofun
    · rw [upd_ne z]; exact r.dom b h
/-- what is one's own stands still from now on -/
theorem Rel.freeze {a : Addr} {o : HO} (r : Rel K B σ ρ F H) (hF : F a = none) (hH : H a = some o) (hB : B.H a = none) (hn : ∀ (j : Nat) (s : Sl), ρ[j]? = some s → Own (σ[j]?.join) s ≠ some a) : Rel K B σ ρ (upd F a o) H := by
  refine ⟨fun b u e => ?_, r.len, fun j t e => ?_, r.sep, r.own, r.f.trans (Ex.new hF), r.h, fun b h1 h2 => ?_, r.dom, r.par⟩
  · by_cases z : b = a
    · rw [z, upd_same] at e; rw [z, hH]; exact e
    · rw [upd_ne z] at e; exact r.sub b u e
  · have q := r.slot j t e
    have nx := hn j t e
    cases t with
    | n => trivial
    | d x =>
      obtain ⟨u, h1, h2⟩ := q
      exact ⟨u, h1, h2.mono (Ex.new hF)⟩
    | l xs =>
      obtain ⟨b, us, h1, h2, h3, h4⟩ := q
      refine ⟨b, us, h1, ?_, h3, h4.mono (Ex.new hF)⟩
      rw [upd_ne fun z => nx (by rw [h1, z]; rfl)]; exact h2
    | r _ n =>
      obtain ⟨b, c, k, o', h1, h2, h3⟩ := q
      refine ⟨b, c, k, o', h1, ?_, h3⟩
      rw [upd_ne fun z => nx (by rw [h1, z]; rfl)]; exact h2
    | k kvs =>
      obtain ⟨b, us, h1, h2, h3⟩ := q
      exact ⟨b, us, h1, Ex.new hF b _ h2, pair_imp (fun _ _ q => ⟨q.1, q.2.mono (Ex.new hF)⟩) h3⟩
    | q Φ =>
      obtain ⟨u, h1, h2⟩ := q
      exact ⟨u, h1, Φ.m _ _ _ (Ex.new hF) h2⟩
  · rw [upd_ne (fun z => h2 (by rw [z]; exact hB))]; exact r.o b h1 h2
/-- a new address is none of ours -/
theorem Rel.notOwn {a : Addr} (r : Rel K B σ ρ F H) (h : H a = none) : ∀ (j : Nat) (s : Sl), ρ[j]? = some s → Own (σ[j]?.join) s ≠ some a := fun j s e z => by
  obtain ⟨_, us, q, _⟩ := (r.slot j s e).own z
  rw [h] at q; cases q
theorem Rel.notB {a : Addr} (r : Rel K B σ ρ F H) (h : H a = none) : B.H a = none := by
  cases z : B.H a with
  | none => rfl
  | some o => exact absurd h (r.dom a (by rw [z]; nofun))
/-! ### new lists -/
variable {P : Pd → Es → Prop} {PL : List Pd → Es → Prop}
theorem wl_lst (h : WA K B tl ρ fun xs ρ1 => xs.length ≤ sizeLine ∧ PL xs ρ1) : WL K B (tLst tl) ρ PL := fun σ F H rl Q q =>
  h σ F H rl _ fun vs xs ρ1 F1 H1 p1 e1 d1 r1 => ⟨by rw [da_len d1]; exact p1.1, fun p hp => by
    have g := Gr.newOwn r1.sub (o := .lst vs) hp
    exact q p vs xs ρ1 _ _ p1.2 e1 (r1.gr g) (none_of r1.sub hp) upd_same d1 (r1.notB hp) (r1.notOwn hp)⟩
theorem w_fr (h : WL K B te ρ fun xs ρ1 => P (.list xs) ρ1) : WE K B te ρ P := fun σ F H rl Q q =>
  h σ F H rl Q fun a vs xs ρ1 F1 H1 p1 e1 r1 hF hH d hB hn => q (.ref a) (.list xs) ρ1 (upd F1 a (.lst vs)) H1 p1 (e1.trans (Ex.new hF)) (.lst (.inl (.inl upd_same)) (d.mono (Ex.new hF))) (r1.freeze hF hH hB hn)
theorem own_l {a : Addr} {xs : List Pd} : Own (some (.ref a)) (.l xs) = some a := rfl
theorem s_setL {i : Nat} (h : WL K B te ρ fun xs ρ1 => Nat.ble (i + 1) ρ1.length = true ∧ e.nx (ρ1.set i (.l xs))) : S K B (tAsg te (gName i)) ρ e := fun σ F H r D k =>
  h σ F H r _ fun a vs xs ρ1 F1 H1 p1 e1 r1 hF hH d hB hn => k.nx _ _ F1 H1 p1.2 e1 (r1.put (Nat.le_of_ble_eq_true p1.1) ⟨a, vs, rfl, hF, hH, d⟩ fun b hb => by
    cases hb
    exact ⟨.inr hB, fun j t _ ht => hn j t ht⟩)
/-- the list of slot j grows -/
theorem slot_l {j : Nat} {xs : List Pd} (r : Rel K B σ ρ F H) (h : ρ[j]? = some (.l xs)) : ∃ a vs, σ[j]? = some (some (.ref a)) ∧ F a = none ∧ H a = some (.lst vs) ∧ DpAll K F vs xs := by
  obtain ⟨a, vs, h1, h2⟩ := r.slot j _ h
  refine ⟨a, vs, ?_, h2⟩
  cases z : σ[j]? with
  | none => rw [z] at h1; cases h1
  | some w => rw [z] at h1; exact congrArg some h1
theorem Rel.putL {j : Nat} {xs ys : List Pd} {a : Addr} {vs : List V} (r : Rel K B σ ρ F H) (h : ρ[j]? = some (.l xs)) (ha : σ[j]? = some (some (.ref a))) (d : DpAll K F vs ys) : Rel K B σ (ρ.set j (.l ys)) F (upd H a (.lst vs)) := by
  obtain ⟨b, us, e, hF, hH, _⟩ := slot_l r h
  rw [ha] at e
  cases e
  refine r.mut (s := .l xs) h (by rw [ha]; rfl) ⟨a, vs, by rw [ha]; rfl, hF, upd_same, d⟩ (by rw [ha]; rfl)
theorem s_app {j : Nat} {ys : List Pd} (hj : ρ[j]? = some (.l ys)) (h : WE K B te ρ fun x ρ1 => ∃ xs, ρ1[j]? = some (.l xs) ∧ xs.length < sizeLine ∧ e.nx (ρ1.set j (.l (xs ++ [x])))) :
    S K B (tDrop (tBM K "list" rAppend (tVar j) (tCons te tNil))) ρ e := fun σ F H r D k => by
  obtain ⟨a, vs, ha, hF, hH, _⟩ := slot_l r hj
  refine ⟨.ref a, ha, .inl ⟨rfl, vs, .inl (.inl hH)⟩, h σ F H r _ fun v x ρ1 F1 H1 p1 e1 d1 r1 => ?_⟩
  obtain ⟨xs, h1, h2, h3⟩ := p1
  obtain ⟨b, us, hb, hF1, hH1, d⟩ := slot_l r1 h1
  rw [ha] at hb
  cases hb
  exact ⟨a, us, v, rfl, rfl, hH1, by rw [da_len d]; exact h2, k.nx _ _ F1 _ h3 e1 (r1.putL h1 ha (da_append d (.cons d1 .nil)))⟩
end
end Bw
set_option Elab.async false
set_option linter.all false
set_option maxRecDepth 100000
set_option maxHeartbeats 2000000
/-! The pure walk: loops, comprehensions, defs. -/
namespace Bw
open PySem PySem.Spec L2 Evl
section
variable {K : PySem.W.Frag} {B : Bs} {σ : L2.St} {ρ : Es} {F H F' H' F1 H1 : Hp} {e : En} {D : Ends} {te ta tb : TE} {tt : TT} {tl : TA} {t u : TS} {g : TG} {gs : TGs} {x : Pd} {N : Es → Prop} {wi : TI}
theorem s_for {ts : TS} (h : WI K B wi ρ fun xs ρ1 => ∃ Inv : Nat → Es → Prop, Inv 0 ρ1 ∧ (∀ i x ρ2, xs[i]? = some x → Inv i ρ2 → G K B (fun _ => True) g x ρ2 fun ρ3 => S K B ts ρ3 { e with nx := Inv (i + 1), ct := Inv (i + 1), bk := e.nx }) ∧ ∀ ρ2, Inv xs.length ρ2 → e.nx ρ2) :
    S K B (tFor wi g ts) ρ e := fun σ F H r D k => h σ F H r _ fun J xs ρ1 F1 H1 Gd Y p1 e1 r1 w st yl => by
  obtain ⟨Inv, i0, hs, hd⟩ := p1
  refine for_it w (fun i σ' H' => ∃ ρ2 F2, Inv i ρ2 ∧ Ex F1 F2 ∧ Rel K B σ' ρ2 F2 H') ⟨ρ1, F1, i0, Ex.refl _, r1⟩ (fun i σ' H' _ ⟨ρ2, F2, _, e2, r2⟩ => st F2 H' e2 r2.sub) ?_ ?_
  · rintro i x σ' H' H'' hi ⟨ρ2, F2, iv, e2, r2⟩ y
    obtain ⟨F3, xd, hx, g3, d3⟩ := yl i H' x H'' F2 hi y e2 r2.sub
    refine hs i xd ρ2 hx iv σ' F3 H'' x (r2.gr g3) d3 _ fun σ3 ρ3 k3 r3 _ _ => k3 σ3 F3 H'' r3 _ ?_
    have e3 : Ex F1 F3 := e2.trans g3.f
    exact ⟨fun σ4 ρ4 F4 H4 q x4 r4 => ⟨ρ4, F4, q, e3.trans x4, r4⟩, fun v z σ4 ρ4 F4 H4 q x4 d4 r4 => k.rt v z σ4 ρ4 F4 H4 q ((e1.trans e3).trans x4) d4 r4,
      fun σ4 ρ4 F4 H4 q x4 r4 => k.nx σ4 ρ4 F4 H4 q ((e1.trans e3).trans x4) r4, fun σ4 ρ4 F4 H4 q x4 r4 => ⟨ρ4, F4, q, e3.trans x4, r4⟩⟩
  · rintro σ' H' ⟨ρ2, F2, iv, e2, r2⟩
    exact k.nx σ' ρ2 F2 H' (hd ρ2 iv) (e1.trans e2) r2
theorem s_while {ts : TS} (Inv : Nat → Es → Prop) (m0 : Nat) (h0 : Inv m0 ρ) (h : ∀ m ρ2, Inv m ρ2 → WT K B tt ρ2 fun b ρ3 => (b = true → S K B ts ρ3 { e with nx := fun ρ4 => ∃ m', m' < m ∧ Inv m' ρ4, ct := fun ρ4 => ∃ m', m' < m ∧ Inv m' ρ4, bk := e.nx }) ∧ (b = false → e.nx ρ3)) :
    S K B (tWhile tt ts) ρ e := fun σ F H r D k => by
  refine ⟨fun m σ' H' => ∃ ρ2 F2, Inv m ρ2 ∧ Ex F F2 ∧ Rel K B σ' ρ2 F2 H', ⟨m0, ρ, F, h0, Ex.refl _, r⟩, ?_⟩
  rintro m σ' H' ⟨ρ2, F2, iv, e2, r2⟩
  refine h m ρ2 iv σ' F2 H' r2 _ fun b b' ρ3 F3 H3 p3 e3 d3 r3 => ?_
  subst d3
  have e4 : Ex F F3 := e2.trans e3
  cases b with
  | true =>
    refine ⟨fun σ4 H4 => ∃ m', m' < m ∧ ∃ ρ4 F4, Inv m' ρ4 ∧ Ex F F4 ∧ Rel K B σ4 ρ4 F4 H4, fun σ4 H4 ⟨m', l, q⟩ => ⟨m', l, q⟩, p3.1 rfl σ' F3 H3 r3 _ ?_⟩
    exact ⟨fun σ4 ρ4 F4 H4 ⟨m', l, q⟩ x4 r4 => ⟨m', l, ρ4, F4, q, e4.trans x4, r4⟩, fun v z σ4 ρ4 F4 H4 q x4 d4 r4 => k.rt v z σ4 ρ4 F4 H4 q (e4.trans x4) d4 r4,
      fun σ4 ρ4 F4 H4 q x4 r4 => k.nx σ4 ρ4 F4 H4 q (e4.trans x4) r4, fun σ4 ρ4 F4 H4 ⟨m', l, q⟩ x4 r4 => ⟨m', l, ρ4, F4, q, e4.trans x4, r4⟩⟩
  | false => exact k.nx σ' ρ3 F3 H3 (p3.2 rfl) e4 r3
/-! ### what is walked -/
variable {PL : List Pd → Es → Prop}
theorem wi_tup (h : WE K B te ρ fun x ρ1 => ∃ xs, x = .tuple xs ∧ PL xs ρ1) : WI K B (iTup K te) ρ PL := fun σ F H r R q =>
  h σ F H r _ fun v x ρ1 F1 H1 p1 e1 d1 r1 => by
    obtain ⟨xs, ex, p⟩ := p1
    subst ex
    cases d1 with
    | tup hs ha =>
      rename_i a vs
      refine ⟨a, rfl, ⟨vs, ex_t r1.sub hs⟩, q (Itt K a) xs ρ1 F1 H1 (fun H => SqT K H a vs) (YAt vs) p e1 r1 (by rw [← da_len ha]; exact walk_tup) (fun F2 H2 x1 x2 => ex_t (x1.trans x2) hs) fun i H v H' F2 hi y x1 x2 => ?_⟩
      obtain ⟨rfl, hv⟩ := y
      obtain ⟨d, hd, dd⟩ := da_get ha hv
      exact ⟨F2, d, hd, Gr.refl x2, dd.mono x1⟩
theorem wi_list (h : WE K B te ρ fun x ρ1 => ∃ xs, x = .list xs ∧ PL xs ρ1) : WI K B (iList K te) ρ PL := fun σ F H r R q =>
  h σ F H r _ fun v x ρ1 F1 H1 p1 e1 d1 r1 => by
    obtain ⟨xs, ex, p⟩ := p1
    subst ex
    cases d1 with
    | lst hs ha =>
      rename_i a vs
      refine ⟨a, rfl, ⟨vs, ex_l r1.sub hs⟩, q (Itl K a) xs ρ1 F1 H1 (fun H => SqL K H a vs) (YAt vs) p e1 r1 (by rw [← da_len ha]; exact walk_list) (fun F2 H2 x1 x2 => ex_l (x1.trans x2) hs) fun i H v H' F2 hi y x1 x2 => ?_⟩
      obtain ⟨rfl, hv⟩ := y
      obtain ⟨d, hd, dd⟩ := da_get ha hv
      exact ⟨F2, d, hd, Gr.refl x2, dd.mono x1⟩
def intsD (lo : Int) (n : Nat) : List Pd := (List.range n).map fun i => .int (lo + (i : Nat))
theorem intsD_len {lo : Int} {n : Nat} : (intsD lo n).length = n := by unfold intsD; simp
theorem intsD_get {lo : Int} {n i : Nat} (h : i < n) : (intsD lo n)[i]? = some (.int (lo + (i : Nat))) := by unfold intsD; simp [h]
theorem wi_range (h : WA K B tl ρ fun ys ρ1 => ∃ n : Int, ys = [.int n] ∧ -(2 ^ 62) ≤ n ∧ n < 2 ^ 62 ∧ PL (intsD 0 n.toNat) ρ1) : WI K B (iRng1 tl) ρ PL := fun σ F H r R q =>
  h σ F H r _ fun vs ys ρ1 F1 H1 p1 e1 d1 r1 => by
    obtain ⟨n, ex, h1, h2, p⟩ := p1
    subst ex
    cases d1 with
    | cons d1 d2 =>
      cases d1
      cases d2
      refine ⟨n, rfl, h1, h2, q (Itr 0 n.toNat) (intsD 0 n.toNat) ρ1 F1 H1 (fun _ => True) (YFn fun i => .int (0 + (i : Nat))) p e1 r1 (by rw [intsD_len]; exact walk_range) (fun _ _ _ _ => trivial) fun i H v H' F2 hi y x1 x2 => ?_⟩
      obtain ⟨rfl, rfl⟩ := y
      rw [intsD_len] at hi
      exact ⟨F2, _, intsD_get hi, Gr.refl x2, .int _⟩
def enumd (lo : Int) (xs : List Pd) : List Pd := xs.zipIdx.map fun p => .tuple [.int (lo + (p.2 : Nat)), p.1]
theorem enumd_len {lo : Int} {xs : List Pd} : (enumd lo xs).length = xs.length := by unfold enumd; simp
theorem enumd_get {lo : Int} {xs : List Pd} {i : Nat} {x : Pd} (h : xs[i]? = some x) : (enumd lo xs)[i]? = some (.tuple [.int (lo + (i : Nat)), x]) := by unfold enumd; simp [h]
/-- a new pair -/
theorem pair_new {T : Addr} {a b : V} {x y : Pd} {F2 : Hp} (hT : H T = none) (s : Ex F2 H) (d1 : Dp K F2 a x) (d2 : Dp K F2 b y) : ∃ F', Gr F2 H F' (upd H T (.tup [a, b])) ∧ Dp K F' (.ref T) (.tuple [x, y]) := by
  have g := Gr.new s (o := .tup [a, b]) hT
  exact ⟨_, g, .tup (.inl (.inl upd_same)) (.cons (d1.mono g.f) (.cons (d2.mono g.f) .nil))⟩
theorem wi_enum (h : WA K B tl ρ fun ys ρ1 => ∃ xs, ys = [.list xs] ∧ PL (enumd 0 xs) ρ1) : WI K B (iEnum K tl) ρ PL := fun σ F H r R q =>
  h σ F H r _ fun vs ys ρ1 F1 H1 p1 e1 d1 r1 => by
    obtain ⟨xs, ex, p⟩ := p1
    subst ex
    cases d1 with
    | cons d1 d2 =>
      cases d2
      cases d1 with
      | lst hs ha =>
        rename_i a us
        refine ⟨a, us, rfl, ex_l r1.sub hs, q (Ite K a) (enumd 0 xs) ρ1 F1 H1 (fun H => SqL K H a us) (YPair (fun i => some (.int (i : Nat))) (fun i => us[i]?)) p e1 r1 (by rw [enumd_len, ← da_len ha]; exact walk_enum) (fun F2 H2 x1 x2 => ex_l (x1.trans x2) hs) fun i H v H' F2 hi y x1 x2 => ?_⟩
        obtain ⟨T, a1, b1, rfl, hT, rfl, h1, h2⟩ := y
        obtain ⟨d, hd, dd⟩ := da_get ha h2
        cases h1
        obtain ⟨F', g, dp⟩ := pair_new (K := K) (x := .int (i : Nat)) hT x2 (.int _) (dd.mono x1)
        have z : (0 : Int) + (i : Nat) = (i : Nat) := Int.zero_add _
        exact ⟨F', _, enumd_get hd, g, by rw [z]; exact dp⟩
/-! ### comprehensions -/
def wipeE : List Nat → Es → Es
  | [], ρ => ρ
  | v :: vs, ρ => (wipeE vs ρ).set v .n
def unw : List Nat → Es → Es → Es
  | [], _, ρ => ρ
  | v :: vs, ρ0, ρ => (unw vs ρ0 ρ).set v (ρ0.getD v .n)
def flatS : Sl → Bool
  | .n => true
  | .d _ => true
  | _ => false
theorem wipeE_len {ρ : Es} : ∀ {vs : List Nat}, (wipeE vs ρ).length = ρ.length
  | [] => rfl
  | v :: vs => by unfold wipeE; rw [List.length_set, wipeE_len]
theorem unw_len {ρ0 ρ : Es} : ∀ {vs : List Nat}, (unw vs ρ0 ρ).length = ρ.length
  | [] => rfl
  | v :: vs => by unfold unw; rw [List.length_set, unw_len]
theorem wipeE_get {ρ : Es} {i : Nat} {s : Sl} : ∀ {vs : List Nat}, (wipeE vs ρ)[i]? = some s → (i ∈ vs ∧ s = .n) ∨ (i ∉ vs ∧ ρ[i]? = some s)
  | [], h => .inr ⟨by simp, h⟩
  | v :: vs, h => by
    rcases set_slot (show ((wipeE vs ρ).set v .n)[i]? = some s from h) with ⟨h1, h2⟩ | ⟨h1, h2⟩
    · exact .inl ⟨by simp [h1], h2⟩
    · rcases wipeE_get h2 with ⟨h3, h4⟩ | ⟨h3, h4⟩
      · exact .inl ⟨by simp [h3], h4⟩
      · exact .inr ⟨by simp [h1, h3], h4⟩
theorem unw_get {ρ0 ρ : Es} {i : Nat} {s : Sl} : ∀ {vs : List Nat}, (unw vs ρ0 ρ)[i]? = some s → (i ∈ vs ∧ s = ρ0.getD i .n) ∨ (i ∉ vs ∧ ρ[i]? = some s)
  | [], h => .inr ⟨by simp, h⟩
  | v :: vs, h => by
    rcases set_slot (show ((unw vs ρ0 ρ).set v (ρ0.getD v .n))[i]? = some s from h) with ⟨h1, h2⟩ | ⟨h1, h2⟩
    · exact .inl ⟨by simp [h1], by rw [h2, h1]⟩
    · rcases unw_get h2 with ⟨h3, h4⟩ | ⟨h3, h4⟩
      · exact .inl ⟨by simp [h3], h4⟩
      · exact .inr ⟨by simp [h1, h3], h4⟩
theorem wipe_in {σ : L2.St} {i : Nat} : ∀ {vs : List Nat}, i ∈ vs → i < σ.length → (wipe σ vs)[i]? = some none
  | v :: vs, h, hl => by
    show ((wipe σ vs).set v none)[i]? = some none
    by_cases e : i = v
    · rw [e, List.getElem?_set_self (by rw [wipe_length, ← e]; exact hl)]
    · rw [List.getElem?_set_ne (Ne.symm e)]
      exact wipe_in ((List.mem_cons.mp h).resolve_left e) hl
theorem wipe_eq {σ σ' : L2.St} {vs : List Nat} (hl : σ'.length = (wipe σ vs).length) (h : ∀ j, ¬ j ∈ vs → σ'[j]? = (wipe σ vs)[j]?) : wipe σ' vs = wipe σ vs := by
  apply List.ext_getElem?
  intro j
  by_cases hj : j ∈ vs
  · by_cases hlt : j < σ.length
    · rw [wipe_in hj hlt, wipe_in hj (by rw [hl, wipe_length]; exact hlt)]
    · rw [List.getElem?_eq_none (by rw [wipe_length, hl, wipe_length]; omega), List.getElem?_eq_none (by rw [wipe_length]; omega)]
  · rw [wipe_out hj]; exact h j hj
theorem rel_wipe {vs : List Nat} (r : Rel K B σ ρ F H) : Rel K B (wipe σ vs) (wipeE vs ρ) F H := by
  refine ⟨r.sub, by rw [wipe_length, wipeE_len]; exact r.len, fun i s h => ?_, fun i j s t a h1 h2 o1 o2 => ?_, fun i s a h o => ?_, r.f, r.h, r.o, r.dom, fun i n h => ?_⟩
  · rcases wipeE_get h with ⟨h1, h2⟩ | ⟨h1, h2⟩
    · rw [h2]; trivial
    · rw [wipe_out h1]; exact r.slot i s h2
  · rcases wipeE_get h1 with ⟨a1, a2⟩ | ⟨a1, a2⟩
    · rw [a2, own_n] at o1; cases o1
    · rcases wipeE_get h2 with ⟨b1, b2⟩ | ⟨b1, b2⟩
      · rw [b2, own_n] at o2; cases o2
      · rw [wipe_out a1] at o1
        rw [wipe_out b1] at o2
        exact r.sep i j s t a a2 b2 o1 o2
  · rcases wipeE_get h with ⟨h1, h2⟩ | ⟨h1, h2⟩
    · rw [h2, own_n] at o; cases o
    · rw [wipe_out h1] at o; exact r.own i s a h2 o
  · rcases wipeE_get h with ⟨h1, h2⟩ | ⟨h1, h2⟩
    · cases h2
    · rw [wipe_out h1]; exact r.par i n h2
theorem flat_own {v : Option V} {s : Sl} (h : flatS s = true) : Own v s = none := by
  cases s with
  | n => exact own_n
  | d x => exact own_d
  | _ => cases h
theorem flat_ex {v : Option V} {s : Sl} (h : flatS s = true) (x : Ex F F') (r : Rs K F H v s) : Rs K F' H' v s := by
  cases s with
  | n => trivial
  | d y =>
    obtain ⟨u, h1, h2⟩ := r
    exact ⟨u, h1, h2.mono x⟩
  | _ => cases h
theorem rel_unw {vs : List Nat} {σ' : L2.St} {ρ' : Es} (r : Rel K B σ ρ F H) (hB : B.F = F) (fl : (vs.all fun v => flatS (ρ.getD v .n)) = true) (r' : Rel K B σ' ρ' F' H') (hl : σ'.length = (wipe σ vs).length) (h : ∀ j, ¬ j ∈ vs → σ'[j]? = (wipe σ vs)[j]?) :
    Rel K B σ (unw vs ρ ρ') F' H' := by
  have hf : ∀ v ∈ vs, flatS (ρ.getD v .n) = true := List.all_eq_true.mp fl
  have hs : ∀ j, ¬ j ∈ vs → σ'[j]? = σ[j]? := fun j hj => (h j hj).trans (wipe_out hj)
  have ls : σ'.length = σ.length := by rw [hl, wipe_length]
  refine ⟨r'.sub, by rw [unw_len, ← r'.len, ls], fun i s e => ?_, fun i j s t a h1 h2 o1 o2 => ?_, fun i s a e o => ?_, r'.f, r'.h, r'.o, r'.dom, fun i n e => ?_⟩
  · rcases unw_get e with ⟨h1, h2⟩ | ⟨h1, h2⟩
    · have hi : i < ρ.length := by
        have q := slot_lt e
        rw [unw_len, ← r'.len, ls, r.len] at q
        exact q
      have q : ρ[i]? = some (ρ.getD i .n) := by
        rw [List.getD_eq_getElem?_getD, List.getElem?_eq_getElem hi] <;> rfl
      rw [h2]
      exact flat_ex (hf i h1) (by rw [← hB]; exact r'.f) (r.slot i _ q)
    · rw [← hs i h1]; exact r'.slot i s h2
  · rcases unw_get h1 with ⟨a1, a2⟩ | ⟨a1, a2⟩
    · rw [a2, flat_own (hf i a1)] at o1; cases o1
    · rcases unw_get h2 with ⟨b1, b2⟩ | ⟨b1, b2⟩
      · rw [b2, flat_own (hf j b1)] at o2; cases o2
      · rw [← hs i a1] at o1
        rw [← hs j b1] at o2
        exact r'.sep i j s t a a2 b2 o1 o2
  · rcases unw_get e with ⟨h1, h2⟩ | ⟨h1, h2⟩
    · rw [h2, flat_own (hf i h1)] at o; cases o
    · rw [← hs i h1] at o
      exact r'.own i s a h2 o
  · rcases unw_get e with ⟨h1, h2⟩ | ⟨h1, h2⟩
    · have q := hf i h1
      rw [← h2] at q; cases q
    · rw [← hs i h1]; exact r'.par i n h2
theorem wl_lc {vs : List Nat} (h : WI K B wi ρ fun xs ρ1 => ∃ Inv : Nat → List Pd → Es → Prop, Inv 0 [] ρ1 ∧ xs.length ≤ sizeLine ∧ (∀ i x acc ρ2, xs[i]? = some x → Inv i acc ρ2 → (vs.all fun v => flatS (ρ2.getD v .n)) = true ∧
      ∀ B', G K B' (fun j => j ∈ vs) g x (wipeE vs ρ2) fun ρ3 => WT K B' tt ρ3 fun b ρ4 => (b = true → WE K B' te ρ4 fun y ρ5 => Inv (i + 1) (acc ++ [y]) (unw vs ρ2 ρ5)) ∧ (b = false → Inv (i + 1) acc (unw vs ρ2 ρ4))) ∧ ∀ acc ρ2, Inv xs.length acc ρ2 → PL acc ρ2) :
    WL K B (tLc wi g tt te vs) ρ PL := fun σ F H r Q q => h σ F H r _ fun J xs ρ1 F1 H1 Gd Y p1 e1 r1 w st yl => by
  obtain ⟨Inv, i0, hz, hs, hd⟩ := p1
  intro Dl hD
  have hB : B.H Dl = none := r1.notB hD
  refine lc_it w (fun i H' => ∃ ρ2 F2 acc us, Inv i acc ρ2 ∧ Ex F1 F2 ∧ Rel K B σ ρ2 F2 H' ∧ F2 Dl = none ∧ H' Dl = some (.lst us) ∧ DpAll K F2 us acc ∧ acc.length ≤ i ∧ ∀ (j : Nat) (s : Sl), ρ2[j]? = some s → Own (σ[j]?.join) s ≠ some Dl)
    ⟨ρ1, F1, [], [], i0, Ex.refl _, r1.gr (Gr.newOwn r1.sub hD), none_of r1.sub hD, upd_same, .nil, Nat.le_refl _, r1.notOwn hD⟩ (fun i H' _ ⟨ρ2, F2, _, _, _, e2, r2, _⟩ => st F2 H' e2 r2.sub) ?_ ?_
  · rintro i x H' H'' hi ⟨ρ2, F2, acc, us, iv, e2, r2, fD, hDl, da, hlen, no⟩ y
    obtain ⟨F3, xd, hx, g3, d3⟩ := yl i H' x H'' F2 hi y e2 r2.sub
    have r3 := r2.gr g3
    have f3 : F3 Dl = none := g3.o Dl fD (by rw [hDl]; nofun)
    have h3 : H'' Dl = some (.lst us) := g3.h Dl _ hDl
    obtain ⟨fl, tr⟩ := hs i xd acc ρ2 hx iv
    refine tr ⟨owns σ ρ2, F3, H'', B.p⟩ _ F3 H'' x (rel_wipe r3.inner) d3 _ fun σ4 ρ4 k4 r4 l4 j4 => ⟨wipe_eq l4 j4, ?_⟩
    have back : ∀ {ρ6 : Es} {F6 H6 : Hp}, Rel K ⟨owns σ ρ2, F3, H'', B.p⟩ σ4 ρ6 F6 H6 → Rel K B σ (unw vs ρ2 ρ6) F6 H6 ∧ F6 Dl = none ∧ H6 Dl = some (.lst us) ∧ Ex F3 F6 ∧ ∀ (j : Nat) (s : Sl), (unw vs ρ2 ρ6)[j]? = some s → Own (σ[j]?.join) s ≠ some Dl := fun {ρ6 F6 H6} r6 => by
      have r7 := rel_unw r3.inner rfl fl r6 l4 j4
      refine ⟨r3.outer r7, r6.o Dl f3 (by show H'' Dl ≠ none; rw [h3]; nofun), r6.h Dl _ (fun ⟨j, s, a1, a2⟩ => no j s a1 a2) h3, r6.f, fun j s a1 a2 => ?_⟩
      rcases r7.own j s Dl a1 a2 with ⟨j', s', b1, b2⟩ | b
      · exact no j' s' b1 b2
      · have b' : H'' Dl = none := b
        rw [h3] at b'; cases b'
    refine k4 σ4 F3 H'' r4 _ fun b b' ρ5 F5 H5 p5 e5 db r5 => ?_
    subst db
    cases b with
    | true =>
      show te σ4 H5 _
      refine p5.1 rfl σ4 F5 H5 r5 _ fun v yd ρ6 F6 H6 p6 e6 d6 r6 => ?_
      obtain ⟨b1, b2, b3, b4, b5⟩ := back r6
      have hl : acc.length < sizeLine := by omega
      refine ⟨us, b3, by rw [da_len da]; exact hl, unw vs ρ2 ρ6, F6, acc ++ [yd], us ++ [v], p6, (e2.trans g3.f).trans b4, b1.side b2 hB b5, b2, upd_same, da_append (da.mono (g3.f.trans b4)) (.cons d6 .nil), ?_, b5⟩
      rw [List.length_append, List.length_singleton]
      omega
    | false =>
      obtain ⟨b1, b2, b3, b4, b5⟩ := back r5
      exact ⟨unw vs ρ2 ρ5, F5, acc, us, p5.2 rfl, (e2.trans g3.f).trans b4, b1, b2, b3, da.mono (g3.f.trans b4), by omega, b5⟩
  · rintro H' ⟨ρ2, F2, acc, us, iv, e2, r2, fD, hDl, da, hlen, no⟩
    exact q Dl us acc ρ2 F2 H' (hd acc ρ2 iv) (e1.trans e2) r2 fD hDl da hB no
end
end Bw
set_option Elab.async false
set_option linter.all false
set_option maxRecDepth 100000
set_option maxHeartbeats 2000000
/-! Operations on data: what the layer's readings give of plain data. -/
namespace Bw
open PySem PySem.Spec L2 Evl
section
variable {X : Cx}
/-- list + list, each a list that may be read -/
def rCatS (K : PySem.W.Frag) : R2 := fun x y H Q => ∃ a b us ws, x = .ref a ∧ y = .ref b ∧ SqL K H a us ∧ SqL K H b ws ∧ us.length + ws.length ≤ sizeLine ∧ ∀ p, H p = none → Q (.ref p) (upd H p (.lst (us ++ ws)))
theorem op_catS : OpR X (binaryOp .Add) (rCatS X.K) := fun pins s σ H x y v u Q I rx ry h => by
  obtain ⟨a, b, us, ws, ex, ey, h1, h2, hz, q⟩ := h
  subst ex ey
  obtain rfl : v = Value.ref a := rx
  obtain rfl : u = Value.ref b := ry
  obtain ⟨is1, v1, ⟨⟨c1, d1, t1, l1⟩, n1, g1, k1, z1, e1⟩, m1⟩ := I.list h1
  obtain ⟨is2, v2, ⟨⟨c2, d2, t2, l2⟩, n2, g2, k2, z2, e2⟩, m2⟩ := I.list h2
  dsimp only at k1 k2 e1 e2
  subst k1 k2
  have w1 := v1.length
  have w2 := v2.length
  have e1' : t1 = .seq is1.toArray n1 := by first | exact e1 | exact e1.1
  have e2' : t2 = .seq is2.toArray n2 := by first | exact e2 | exact e2.1
  subst e1' e2'
  refine concat_meets ⟨_, g1, rfl⟩ ⟨_, g2, rfl⟩ noFill_list_add seq_list_add PySem.F.slot_list_add PySem.F.entry_list_add (PySem.F.args_list_add_2 _ _)
    (PyProof.Rows.list_addW a b is1.toArray is2.toArray n1 n2 d1 d2 l1 l2 (by rw [List.size_toArray, List.size_toArray]; omega)) ⟨g1, g2, ?_⟩
  have z : is1.toArray ++ is2.toArray = (is1 ++ is2).toArray := by simp
  rw [z]
  exact ⟨.ref _, _, I.lnew (t' := s.toks) (v1.append v2) (by rw [List.length_append]; omega), rfl, q _ I.fresh⟩
end

section
variable {K : PySem.W.Frag} {B : Bs} {ρ : Es} {te ta tb : TE} {tl : TA} {P : Pd → Es → Prop}
/-- nothing new: the answer is a value -/
theorem gr_id {F H : Hp} {Q : VK} {z : Pd} {v : V} (s : Ex F H) (d : Dp K F v z) (k : ∀ w F' H', Gr F H F' H' → Dp K F' w z → Q w H') : Q v H := k v F H (Gr.refl s) d
theorem gr_lst {F H : Hp} {Q : VK} {xs : List Pd} {vs : List V} {p : Addr} (s : Ex F H) (hp : H p = none) (a : DpAll K F vs xs) (k : ∀ w F' H', Gr F H F' H' → Dp K F' w (.list xs) → Q w H') : Q (.ref p) (upd H p (.lst vs)) :=
  k _ _ _ (Gr.new s hp) (.lst (.inl (.inl upd_same)) (a.mono (Gr.new s (o := .lst vs) hp).f))
theorem gr_tup {F H : Hp} {Q : VK} {xs : List Pd} {vs : List V} {p : Addr} (s : Ex F H) (hp : H p = none) (a : DpAll K F vs xs) (k : ∀ w F' H', Gr F H F' H' → Dp K F' w (.tuple xs) → Q w H') : Q (.ref p) (upd H p (.tup vs)) :=
  k _ _ _ (Gr.new s hp) (.tup (.inl (.inl upd_same)) (a.mono (Gr.new s (o := .tup vs) hp).f))
theorem od_I0 {g : Int → Int → V} {i j : Int} {z : Pd} (hz : ∀ F, Dp K F (g i j) z) : OpD K (rI0 g) (.int i) (.int j) z := fun F H v u s d1 d2 Q k => by
  cases d1
  cases d2
  exact ⟨i, j, rfl, rfl, gr_id s (hz F) k⟩
theorem od_I {C : Int → Int → Prop} {g : Int → Int → V} {i j : Int} {z : Pd} (hc : C i j) (hz : ∀ F, Dp K F (g i j) z) : OpD K (rI C g) (.int i) (.int j) z := fun F H v u s d1 d2 Q k => by
  cases d1
  cases d2
  exact ⟨i, j, rfl, rfl, hc, gr_id s (hz F) k⟩
theorem od_int {g : Int → Int → Int} {i j : Int} : OpD K (rI0 fun i j => .int (g i j)) (.int i) (.int j) (.int (g i j)) := od_I0 fun _ => .int _
theorem od_cmp {g : Int → Int → Bool} {i j : Int} : OpD K (rI0 fun i j => .bl (g i j)) (.int i) (.int j) (.bool (g i j)) := od_I0 fun _ => .bl _
theorem od_intC {C : Int → Int → Prop} {g : Int → Int → Int} {i j : Int} (hc : C i j) : OpD K (rI C fun i j => .int (g i j)) (.int i) (.int j) (.int (g i j)) := od_I hc fun _ => .int _
theorem dec_str {a b : Str} : decide (V.str a = V.str b) = decide (a = b) := by by_cases h : a = b <;> simp [h]
theorem dec_int {a b : Int} : decide (V.int a = V.int b) = decide (a = b) := by by_cases h : a = b <;> simp [h]
theorem od_eqS {a b : Str} : OpD K rEq (.str a) (.str b) (.bool (decide (a = b))) := fun F H v u s d1 d2 Q k => by
  cases d1
  cases d2
  exact ⟨rfl, gr_id s (by rw [dec_str]; exact .bl _) k⟩
theorem od_neS {a b : Str} : OpD K rNe (.str a) (.str b) (.bool (!decide (a = b))) := fun F H v u s d1 d2 Q k => by
  cases d1
  cases d2
  exact ⟨rfl, gr_id s (by rw [dec_str]; exact .bl _) k⟩
theorem od_eqI {a b : Int} : OpD K rEq (.int a) (.int b) (.bool (decide (a = b))) := fun F H v u s d1 d2 Q k => by
  cases d1
  cases d2
  exact ⟨rfl, gr_id s (by rw [dec_int]; exact .bl _) k⟩
theorem od_neI {a b : Int} : OpD K rNe (.int a) (.int b) (.bool (!decide (a = b))) := fun F H v u s d1 d2 Q k => by
  cases d1
  cases d2
  exact ⟨rfl, gr_id s (by rw [dec_int]; exact .bl _) k⟩
theorem od_eqD {x y : Pd} (hx : SeqAt.shaped x = true) (hy : SeqAt.shaped y = true) : OpD K (rEqD K) x y (.bool (PyData.eqv x y)) := fun F H v u s d1 d2 Q k =>
  ⟨x, y, d1.mono s, d2.mono s, hx, hy, gr_id s (.bl _) k⟩
theorem od_neD {x y : Pd} (hx : SeqAt.shaped x = true) (hy : SeqAt.shaped y = true) : OpD K (rNeD K) x y (.bool (!PyData.eqv x y)) := fun F H v u s d1 d2 Q k =>
  ⟨x, y, d1.mono s, d2.mono s, hx, hy, gr_id s (.bl _) k⟩
theorem od_inD {x : Pd} {ys : List Pd} (hx : SeqAt.shaped x = true) (hy : SeqAt.shaped (.list ys) = true) : OpD K (rInD K) x (.list ys) (.bool (ys.any fun z => PyData.eqv z x)) := fun F H v u s d1 d2 Q k =>
  ⟨x, ys, d1.mono s, d2.mono s, hx, hy, gr_id s (.bl _) k⟩
abbrev rAddT : R2 := fun x y H Q => ∃ i j, x = .str i ∧ y = .str j ∧ i.length + j.length ≤ sizeLine ∧ Q (.str (i ++ j)) H
theorem od_addS {a b : Str} (h : a.length + b.length ≤ sizeLine) : OpD K rAddT (.str a) (.str b) (.str (a ++ b)) := fun F H v u s d1 d2 Q k => by
  cases d1
  cases d2
  exact ⟨a, b, rfl, rfl, h, gr_id s (.str _) k⟩
theorem od_cat {xs ys : List Pd} (h : xs.length + ys.length ≤ sizeLine) : OpD K (rCatS K) (.list xs) (.list ys) (.list (xs ++ ys)) := fun F H v u s d1 d2 Q k => by
  cases d1 with
  | lst h1 a1 =>
    cases d2 with
    | lst h2 a2 =>
      refine ⟨_, _, _, _, rfl, rfl, ex_l s h1, ex_l s h2, by rw [da_len a1, da_len a2]; exact h, fun p hp => ?_⟩
      exact gr_lst s hp (da_append a1 a2) k
abbrev rInSg : R2 := fun x y H Q => ∃ (c : Nat) (z : Str), x = .str ⟨#[c]⟩ ∧ y = .str z ∧ Q (.bl (decide (c ∈ z.cps.toList))) H
theorem od_inSg {c : Nat} {z : Str} : OpD K rInSg (.str ⟨#[c]⟩) (.str z) (.bool (decide (c ∈ z.cps.toList))) := fun F H v u s d1 d2 Q k => by
  cases d1
  cases d2
  exact ⟨c, z, rfl, rfl, gr_id s (.bl _) k⟩
theorem strs_of {F : Hp} : ∀ {vs : List V} {ss : List Str}, DpAll K F vs (ss.map .str) → vs = ss.map V.str
  | _, [], h => by cases h; rfl
  | _, z :: ss, h => by
    cases h with
    | cons h1 h2 =>
      cases h1
      rw [strs_of (ss := ss) h2]
      rfl
theorem ints_of {F : Hp} : ∀ {vs : List V} {ss : List Int}, DpAll K F vs (ss.map .int) → vs = ss.map V.int
  | _, [], h => by cases h; rfl
  | _, z :: ss, h => by
    cases h with
    | cons h1 h2 =>
      cases h1
      rw [ints_of (ss := ss) h2]
      rfl
theorem bls_of {F : Hp} : ∀ {vs : List V} {ss : List Bool}, DpAll K F vs (ss.map .bool) → vs = ss.map V.bl
  | _, [], h => by cases h; rfl
  | _, z :: ss, h => by
    cases h with
    | cons h1 h2 =>
      cases h1
      rw [bls_of (ss := ss) h2]
      rfl
theorem da_strs {F : Hp} : ∀ {ss : List Str}, DpAll K F (ss.map V.str) (ss.map .str)
  | [] => .nil
  | _ :: _ => .cons (.str _) da_strs
theorem inV_str {a : Str} : ∀ {ss : List Str}, inV (.str a) (ss.map V.str) = decide (a ∈ ss)
  | [] => by simp [inV]
  | z :: ss => by
    have ih := inV_str (a := a) (ss := ss)
    unfold inV at ih ⊢
    rw [List.map_cons, List.any_cons, ih]
    show ((z == a) || decide (a ∈ ss)) = decide (a ∈ z :: ss)
    by_cases h : z = a
    · subst h; simp
    · have h' : ¬ a = z := fun e => h e.symm
      simp [h, h']
theorem flat_strs {ss : List Str} : (ss.map V.str).all flatV = true := by simp [flatV]
/-- a text in, not in a tuple of texts -/
theorem od_inT {neg : Bool} {a : Str} {ss : List Str} : OpD K (rIn K neg) (.str a) (.tuple (ss.map .str)) (.bool (if neg then !decide (a ∈ ss) else decide (a ∈ ss))) := fun F H v u s d1 d2 Q k => by
  cases d1
  cases d2 with
  | tup h a2 =>
    have e := strs_of a2
    subst e
    exact ⟨_, _, rfl, .inr (ex_t s h), rfl, flat_strs, gr_id s (by rw [inV_str]; exact .bl _) k⟩
theorem da_atI {F : Hp} {vs : List V} {ds : List Pd} {i : Int} {d : Pd} (h : DpAll K F vs ds) (e : atI ds i = some d) : ∃ v, atI vs i = some v ∧ Dp K F v d := by
  unfold atI at e ⊢
  rw [da_len h]
  cases z : ixN ds.length i with
  | none => rw [z] at e; cases e
  | some j =>
    rw [z] at e
    exact da_get' h e
theorem od_ixL {xs : List Pd} {i : Int} {x : Pd} (e : atI xs i = some x) : OpD K (rIxL K) (.list xs) (.int i) x := fun F H v u s d1 d2 Q k => by
  cases d2
  cases d1 with
  | lst h a =>
    obtain ⟨w, h1, h2⟩ := da_atI a e
    exact ⟨_, _, i, w, rfl, rfl, ex_l s h, h1, gr_id s h2 k⟩
theorem od_ixT {xs : List Pd} {i : Int} {x : Pd} (e : atI xs i = some x) : OpD K (rIxT K) (.tuple xs) (.int i) x := fun F H v u s d1 d2 Q k => by
  cases d2
  cases d1 with
  | tup h a =>
    obtain ⟨w, h1, h2⟩ := da_atI a e
    exact ⟨_, _, i, w, rfl, rfl, ex_t s h, h1, gr_id s h2 k⟩
theorem od_ixS {z : Str} {i : Int} {c : Nat} (hz : z.length ≤ sizeLine) (e : atI z.cps.toList i = some c) : OpD K rIxS (.str z) (.int i) (.str ⟨#[c]⟩) := fun F H v u s d1 d2 Q k => by
  cases d2
  cases d1
  exact ⟨z, i, c, rfl, rfl, hz, e, gr_id s (.str _) k⟩
theorem atI_n {α : Type} {xs : List α} {j : Nat} {x : α} (h : xs[j]? = some x) : atI xs (j : Int) = some x := by
  unfold atI
  rw [ixN_nat (List.getElem?_eq_some_iff.mp h).1]
  exact h
/-! ### slices -/
def cutP {α : Type} (xs : List α) (lo hi : Option Int) : List α := (xs.drop (HT.sIx xs.length 0 lo)).take (HT.sIx xs.length xs.length hi - HT.sIx xs.length 0 lo)
theorem da_cut {F : Hp} {vs : List V} {ds : List Pd} (h : DpAll K F vs ds) (lo hi : Option Int) : DpAll K F (cutV vs lo hi) (cutP ds lo hi) := by
  unfold cutV cutP
  rw [da_len h]
  exact da_take (da_drop h _) _
theorem sd_list {xs : List Pd} {lo hi : Option Int} : SlD K (rSlL K) (.list xs) lo hi (.list (cutP xs lo hi)) := fun F H v s d Q k => by
  cases d with
  | lst h a =>
    refine ⟨_, _, rfl, ex_l s h, fun p hp => ?_⟩
    exact gr_lst s hp (da_cut a lo hi) k
theorem cutP_whole {α : Type} {xs : List α} {lo hi : Option Int} (h : HT.sIx xs.length 0 lo = 0 ∧ HT.sIx xs.length xs.length hi = xs.length) : cutP xs lo hi = xs := by
  unfold cutP
  rw [h.1, h.2]
  simp
theorem sd_tup {xs : List Pd} {lo hi : Option Int} : SlD K (rSlA K) (.tuple xs) lo hi (.tuple (cutP xs lo hi)) := fun F H v s d Q k => by
  cases d with
  | tup h a =>
    have l := da_len a
    refine ⟨_, _, rfl, ex_t s h, fun w => ?_, fun w p hp => ?_⟩
    · rw [l] at w
      rw [cutP_whole w] at k
      exact gr_id s (.tup h a) k
    · exact gr_tup s hp (da_cut a lo hi) k
theorem sd_str {z : Str} {lo hi : Option Int} (hz : z.length ≤ sizeLine) : SlD K rSlS (.str z) lo hi (.str (cutS z lo hi)) := fun F H v s d Q k => by
  cases d
  exact ⟨z, rfl, hz, gr_id s (.str _) k⟩
theorem cutP_to {α : Type} {xs : List α} {n : Nat} : cutP xs none (some (n : Int)) = xs.take n := by
  unfold cutP
  rw [HT.sIx_none, HT.sIx_nat]
  simp [List.take_eq_take_iff]
theorem cutP_from {α : Type} {xs : List α} {n : Nat} : cutP xs (some (n : Int)) none = xs.drop n := by
  unfold cutP
  rw [HT.sIx_none, HT.sIx_nat]
  by_cases h : n ≤ xs.length
  · rw [Nat.min_eq_left h, List.take_of_length_le (by rw [List.length_drop]; omega)]
  · rw [Nat.min_eq_right (by omega), List.drop_of_length_le (Nat.le_refl _), List.drop_of_length_le (by omega), List.take_nil]
/-! ### calls -/
abbrev rLenT : List V → Hp → VK → Prop := fun xs H Q => ∃ z, xs = [.str z] ∧ z.length ≤ sizeLine ∧ Q (.int z.length) H
abbrev rLenQ (K : PySem.W.Frag) : List V → Hp → VK → Prop := fun xs H Q => ∃ p ys, xs = [.ref p] ∧ (SqL K H p ys ∨ SqT K H p ys) ∧ Q (.int ys.length) H
theorem cd_lenT {z : Str} (hz : z.length ≤ sizeLine) : CaD K rLenT [.str z] (.int z.length) := fun F H vs s d Q k => by
  cases d with
  | cons d1 d2 =>
    cases d2
    cases d1
    exact ⟨z, rfl, hz, gr_id s (.int _) k⟩
theorem cd_lenL {xs : List Pd} : CaD K (rLenQ K) [.list xs] (.int xs.length) := fun F H vs s d Q k => by
  cases d with
  | cons d1 d2 =>
    cases d2
    cases d1 with
    | lst h a => exact ⟨_, _, rfl, .inl (ex_l s h), gr_id s (by rw [da_len a]; exact .int _) k⟩
theorem cd_lenU {xs : List Pd} : CaD K (rLenQ K) [.tuple xs] (.int xs.length) := fun F H vs s d Q k => by
  cases d with
  | cons d1 d2 =>
    cases d2
    cases d1 with
    | tup h a => exact ⟨_, _, rfl, .inr (ex_t s h), gr_id s (by rw [da_len a]; exact .int _) k⟩
theorem cd_all {bs : List Bool} : CaD K (rAll K) [.list (bs.map .bool)] (.bool (bs.all id)) := fun F H vs s d Q k => by
  cases d with
  | cons d1 d2 =>
    cases d2
    cases d1 with
    | lst h a =>
      have e := bls_of a
      subst e
      exact ⟨_, bs, rfl, ex_l s h, gr_id s (.bl _) k⟩
theorem cd_allT {α : Type} {xs : List α} : CaD K (rAll K) [.list (xs.map fun _ => .bool true)] (.bool true) := by
  have h := cd_all (K := K) (bs := xs.map fun _ => true)
  have e : (xs.map fun _ => true).all id = true := by rw [List.all_map, List.all_eq_true]; exact fun _ _ => rfl
  rw [e, List.map_map] at h
  exact h
abbrev rListO (K : PySem.W.Frag) : List V → Hp → VK → Prop := fun xs H Q => ∃ p ys, xs = [.ref p] ∧ (SqL K H p ys ∨ SqT K H p ys) ∧ ∀ l, H l = none → Q (.ref l) (upd H l (.lst ys))
def rTupZ (K : PySem.W.Frag) : List V → Hp → VK → Prop := fun xs H Q => ∃ p ys, xs = [.ref p] ∧ SqL K H p ys ∧ ∀ l o, H l = none → o.dict = none → Q (.ref l) (upd H l (.frz o (.tup ys)))
theorem cd_listU {xs : List Pd} : CaD K (rListO K) [.tuple xs] (.list xs) := fun F H vs s d Q k => by
  cases d with
  | cons d1 d2 =>
    cases d2
    cases d1 with
    | tup h a =>
      refine ⟨_, _, rfl, .inr (ex_t s h), fun l hl => ?_⟩
      exact gr_lst s hl a k
theorem cd_tupL {xs : List Pd} : CaD K (rTupZ K) [.list xs] (.tuple xs) := fun F H vs s d Q k => by
  cases d with
  | cons d1 d2 =>
    cases d2
    cases d1 with
    | lst h a =>
      refine ⟨_, _, rfl, ex_l s h, fun l o hl _ => ?_⟩
      exact k _ _ _ (Gr.new s hl) (.tup (.inl (.inr ⟨o, upd_same⟩)) (a.mono (Gr.new s hl).f))
abbrev rMx2 : List V → Hp → VK → Prop := fun xs H Q => ∃ i j, xs = [.int i, .int j] ∧ Q (.int (if j > i then j else i)) H
abbrev rMn2 : List V → Hp → VK → Prop := fun xs H Q => ∃ i j, xs = [.int i, .int j] ∧ Q (.int (if j < i then j else i)) H
theorem cd_max2 {i j : Int} : CaD K rMx2 [.int i, .int j] (.int (if j > i then j else i)) := fun F H vs s d Q k => by
  cases d with
  | cons d1 d2 =>
    cases d2 with
    | cons d2 d3 =>
      cases d3
      cases d1
      cases d2
      exact ⟨i, j, rfl, gr_id s (.int _) k⟩
theorem cd_min2 {i j : Int} : CaD K rMn2 [.int i, .int j] (.int (if j < i then j else i)) := fun F H vs s d Q k => by
  cases d with
  | cons d1 d2 =>
    cases d2 with
    | cons d2 d3 =>
      cases d3
      cases d1
      cases d2
      exact ⟨i, j, rfl, gr_id s (.int _) k⟩
abbrev rStrI : List V → Hp → VK → Prop := fun xs H Q => ∃ i, xs = [.int i] ∧ i.natAbs.log2 < 1920 ∧ Q (.str (toString i)) H
abbrev rStrS : List V → Hp → VK → Prop := fun xs H Q => ∃ a, xs = [.str a] ∧ Q (.str a) H
abbrev rIntS : List V → Hp → VK → Prop := fun xs H Q => ∃ a n, xs = [.str a] ∧ PySem.intText? a = some n ∧ a.length ≤ 640 ∧ Q (.int n) H
theorem cd_strI {i : Int} (h : i.natAbs.log2 < 1920) : CaD K rStrI [.int i] (.str (Str.ofString (toString i))) := fun F H vs s d Q k => by
  cases d with
  | cons d1 d2 =>
    cases d2
    cases d1
    exact ⟨i, rfl, h, gr_id s (.str _) k⟩
theorem cd_strS {a : Str} : CaD K rStrS [.str a] (.str a) := fun F H vs s d Q k => by
  cases d with
  | cons d1 d2 =>
    cases d2
    cases d1
    exact ⟨a, rfl, gr_id s (.str _) k⟩
theorem cd_intS {a : Str} {n : Int} (h : PySem.intText? a = some n) (hl : a.length ≤ 640) : CaD K rIntS [.str a] (.int n) := fun F H vs s d Q k => by
  cases d with
  | cons d1 d2 =>
    cases d2
    cases d1
    exact ⟨a, n, rfl, h, hl, gr_id s (.int _) k⟩
/-! ### methods of texts -/
theorem w_m1 {r : V → List V → Hp → VK → Prop} {a : Str} (h : WE K B ta ρ fun o ρ1 => o = .str a ∧ WE K B tb ρ1 fun x ρ2 => ∃ z, MeD K r (.str a) [x] z ∧ P z ρ2) : WE K B (tM1 r ta tb) ρ P := fun σ F H rl Q q =>
  h σ F H rl _ fun v o ρ1 F1 H1 p1 e1 d1 r1 => by
    obtain ⟨eo, p1⟩ := p1
    subst eo
    cases d1
    refine ⟨⟨a, rfl⟩, p1 σ F1 H1 r1 _ fun u x ρ2 F2 H2 p2 e2 d2 r2 => ?_⟩
    obtain ⟨z, m, p⟩ := p2
    exact m F2 H2 (.str a) [u] r2.sub (.str a) (.cons d2 .nil) Q fun w F3 H3 g d3 => q _ _ ρ2 F3 H3 p ((e1.trans e2).trans g.f) d3 (r2.gr g)
abbrev rSplit : V → List V → Hp → VK → Prop := fun x xs H Q => ∃ a b, x = .str a ∧ xs = [.str b] ∧ (b.length == 0) = false ∧ a.length + 2 ≤ sizeLine ∧ rNewStrs (Txt.split a b) H Q
theorem md_split {a b : Str} (hb : (b.length == 0) = false) (ha : a.length + 2 ≤ sizeLine) : MeD K rSplit (.str a) [.str b] (.list ((Txt.split a b).map .str)) := fun F H v vs s d1 d2 Q k => by
  cases d1
  cases d2 with
  | cons d2 d3 =>
    cases d3
    cases d2
    refine ⟨a, b, rfl, rfl, hb, ha, fun p hp => ?_⟩
    exact gr_lst s hp da_strs k
abbrev rJoin (K : PySem.W.Frag) : V → List V → Hp → VK → Prop := fun x xs H Q => ∃ a p, ∃ ys : List Str, x = .str a ∧ xs = [.ref p] ∧ (SqL K H p (ys.map V.str) ∨ SqT K H p (ys.map V.str)) ∧
  (ys.map (·.length)).sum + ys.length * a.length ≤ 16777216 ∧ Q (.str (Txt.join a ys)) H
theorem md_join {a : Str} {ys : List Str} (h : (ys.map (·.length)).sum + ys.length * a.length ≤ 16777216) : MeD K (rJoin K) (.str a) [.list (ys.map .str)] (.str (Txt.join a ys)) := fun F H v vs s d1 d2 Q k => by
  cases d1
  cases d2 with
  | cons d2 d3 =>
    cases d3
    cases d2 with
    | lst hs ha =>
      have e := strs_of ha
      subst e
      exact ⟨a, _, ys, rfl, rfl, .inl (ex_l s hs), h, gr_id s (.str _) k⟩
/-! ### isinstance -/
inductive TyC (K : PySem.W.Frag) : Pd → String → Prop where
  | int (i : Int) : TyC K (.int i) "int"
  | str (x : Str) : TyC K (.str x) "str"
  | tup (xs : List Pd) : TyC K (.tuple xs) "tuple"
theorem w_isi {T C : String} {x : Pd} {b : Bool} (hT : TyC K x T) (hb : kitB T C = some b) (h : WE K B te ρ fun y ρ1 => y = x ∧ P (.bool b) ρ1) : WE K B (tCB (rIsi K) (tCons te (tCons (tC (.ty C)) tNil))) ρ P := fun σ F H rl Q q =>
  h σ F H rl _ fun v y ρ1 F1 H1 p1 e1 d1 r1 => by
    obtain ⟨ey, p⟩ := p1
    subst ey
    have ty : TyX K H1 v (.type T) := by
      cases hT with
      | int i => cases d1; exact .base (.int i)
      | str z => cases d1; exact .base (.str z)
      | tup xs =>
        cases d1 with
        | tup hs ha =>
          rcases ex_t r1.sub hs with (h | ⟨o, h⟩) | ⟨o, its, n, h1, h2, _⟩
          · exact .base (.tup h)
          · exact .fTuple h
          · exact .kTuple h1 h2
    exact ⟨v, .ty C, .type T, .type C, b, rfl, .ty C, ty, kit_ty hb, q _ _ ρ1 F1 H1 p e1 (.bl _) r1⟩
/-- by a name for None -/
theorem w_notN {b : Bool} (h : WE K B te ρ fun y ρ1 => (b = true → y ≠ .none) ∧ (b = false → y = .none) ∧ P (.bool b) ρ1) : WE K B (tNotN te) ρ P := fun σ F H rl Q q =>
  h σ F H rl _ fun v y ρ1 F1 H1 p1 e1 d1 r1 => by
    obtain ⟨h1, h2, p⟩ := p1
    cases b with
    | false =>
      have e := h2 rfl
      subst e
      cases d1
      exact q _ _ ρ1 F1 H1 p e1 (.bl false) r1
    | true =>
      have e : decide (v = V.non) = false := decide_eq_false fun z => by
        subst z
        cases d1
        exact h1 rfl rfl
      show Q (.bl (!decide (v = V.non))) H1
      rw [e]
      exact q _ _ ρ1 F1 H1 p e1 (.bl true) r1
theorem w_isN {b : Bool} (h : WE K B te ρ fun y ρ1 => (b = false → y ≠ .none) ∧ (b = true → y = .none) ∧ P (.bool b) ρ1) : WE K B (tIsN te) ρ P := fun σ F H rl Q q =>
  h σ F H rl _ fun v y ρ1 F1 H1 p1 e1 d1 r1 => by
    obtain ⟨h1, h2, p⟩ := p1
    cases b with
    | true =>
      have e := h2 rfl
      subst e
      cases d1
      exact q _ _ ρ1 F1 H1 p e1 (.bl true) r1
    | false =>
      have e : decide (v = V.non) = false := decide_eq_false fun z => by
        subst z
        cases d1
        exact h1 rfl rfl
      show Q (.bl (decide (v = V.non))) H1
      rw [e]
      exact q _ _ ρ1 F1 H1 p e1 (.bl false) r1
end
section
variable {X : Cx}
/-- tuple(l), a list: the new tuple is known to have no dict -/
theorem call_tupleZ : CallR X (.type "tuple") (rTupZ X.K) := fun pins s σ H xs us Q I r h => by
  obtain ⟨p, ys, ex, hq, q⟩ := h
  subst ex
  obtain ⟨u, eu, rx⟩ := vals1 r
  subst eu
  obtain rfl : u = Value.ref p := rx
  obtain ⟨its, rv, pl, hz⟩ := I.list hq
  have n := rv.length
  refine call_tuple_list pl.isList (fun g kp => ?_) (by rw [List.size_toArray]; omega)
  have J : L2.Inv X pins σ H { s with heap := g } := I.kept (t' := s.toks) kp
  let o : Obj := { cls := .type "tuple", data := .seq its.toArray }
  have at_ : (g.push o).get? g.objs.size = some o := Heap.get?_push_size _ rfl
  have new : ObjOk X.prog X.w (upd H g.objs.size (.frz o (.tup ys))) (g.push o) g.objs.size (.frz o (.tup ys)) := ⟨at_, hz, its, rv, o, at_, rfl, _, rfl⟩
  exact ⟨.ref g.objs.size, _, J.laid (t' := s.toks) (fun b o' e => Heap.get?_push_of_some _ e) (Nat.le_refl _) new, rfl, q _ o (J.hok.fresh (Nat.le_refl _)) rfl⟩
end
end Bw
set_option Elab.async false
set_option linter.all false
set_option maxRecDepth 100000
/-! set(..) of a list whose items are unlike ints or texts, and its length. -/
namespace Bw
open PySem PySem.Spec PyProof.Rows L2
section
variable {prog : Program} {w : World} {A : Around}
/-- what stands in the set behind i turns -/
def hasK (ks : List L2.Key) (i : Nat) : L2.Key → Bool := fun q => (ks.take i).any fun z => decide (q = z)
theorem hasK_not {ks : List L2.Key} (nd : ks.Nodup) {i : Nat} (hi : i < ks.length) : hasK ks i ks[i] = false := by
  refine List.any_eq_false.mpr fun z hz q => ?_
  obtain ⟨j, hj, e⟩ := List.mem_iff_getElem.mp hz
  rw [List.length_take] at hj
  rw [List.getElem_take] at e
  have e2 := of_decide_eq_true q
  have := (List.getElem_inj nd).mp (e.trans e2.symm)
  omega
theorem hasK_succ {ks : List L2.Key} {i : Nat} (hi : i < ks.length) : (fun q => hasK ks i q || decide (q = ks[i])) = hasK ks (i + 1) := by
  funext q
  unfold hasK
  rw [List.take_succ_eq_append_getElem hi, List.any_append, List.any_cons, List.any_nil, Bool.or_false]
variable {I : Addr} {fp wr : List Addr} {G : Array GenState → Array GenState → Prop} {n : Nat} {P : Nat → Value → Prop} {St : Nat → Shared → Prop} {R : Result → Shared → Prop}
/-- the set's own loop over an iterator of such items -/
theorem loopKeys (Wk : WalksS prog w A.in1 I fp wr G n P St) (Z : Addr) (hZ : Z ∉ fp) (ks : List L2.Key) (hn : ks.length = n) (nd : ks.Nodup) (few : n + 1 < scanBound)
    (look : ∀ i v, P i v → ∀ hi : i < ks.length, (mixKind prog w).is ks[i] v = true ∧ v.scannable = true) : ∀ (k i : Nat) (s : Shared), n - i = k → i ≤ n → St i s → s.heap.SetOf (mixKind prog w) Z (hasK ks i) i →
      (∀ t, Moved (Z :: wr) G s t → t.heap.SetOf (mixKind prog w) Z (hasK ks n) n → R (.ok (.ret .none)) t) →
      codeAny (model prog w) A (.builtin "set.update.loop" ⟨[.ref Z, .ref I], []⟩) R s := by
  have nZ : Z ∉ wr := fun h => hZ (Wk.sub _ h)
  have inc : ∀ b ∈ wr, b ∈ Z :: wr := fun b hb => List.mem_cons_of_mem _ hb
  have over : ∀ {s t : Shared} {i : Nat}, Moved wr G s t → s.heap.SetOf (mixKind prog w) Z (hasK ks i) i → t.heap.SetOf (mixKind prog w) Z (hasK ks i) i := fun {s t i} m ⟨o, es, ep, tb, ho, more⟩ => ⟨o, es, ep, tb, m.heap Z _ nZ ho, more⟩
  intro k
  induction k with
  | zero =>
    intro i s e1 e2 st hS fin
    obtain rfl : i = n := by omega
    refine codeAny_builtin F.entry_set_update_loop ?_
    rw [Around.under_plainId F.plain_set_update_loop _]
    show wpAny _ A.in1 (pyNext (.ref I) >>= _) _ _ s
    exact wpAny_bind (Wk.done s _ _ st fun t m => wpAny_pure (fin t (m.mono inc) (over m hS)))
  | succ k ih =>
    intro i s e1 e2 st hS fin
    have lt : i < n := by omega
    have lt' : i < ks.length := by omega
    refine codeAny_builtin F.entry_set_update_loop ?_
    rw [Around.under_plainId F.plain_set_update_loop _]
    show wpAny _ A.in1 (pyNext (.ref I) >>= _) _ _ s
    refine wpAny_bind (Wk.item i s _ _ lt st fun v t hP st1 m => ?_)
    obtain ⟨isk, sc⟩ := look i v hP lt'
    have hS1 := over m hS
    show wpAny _ A.in1 (holding [v] (setAdd Z v) >>= _) _ _ t
    refine wpAny_bind (wpAny_holding ?_)
    unfold setAdd
    refine wpAny_holding (wpAny_bind ((mixKind prog w).pyHash (k := ks[i]) isk ?_))
    have out : ∀ (h' : Heap) (tk : Nat), t.toks ≤ tk → Heap.SameBut Z t.heap h' → h'.SetOf (mixKind prog w) Z (fun q => hasK ks i q || decide (q = ks[i])) (if hasK ks i ks[i] then i else i + 1) →
        codeAny (model prog w) A (.builtin "set.update.loop" ⟨[.ref Z, .ref I], []⟩) R { t with heap := h', toks := tk } := fun h' tk htk sb hS2 => by
      have hS3 : h'.SetOf (mixKind prog w) Z (hasK ks (i + 1)) (i + 1) := by
        rw [hasK_succ lt', hasK_not nd lt'] at hS2
        exact hS2
      refine ih (i + 1) _ (by omega) lt (Wk.frame _ t _ _ st1 htk fun b hb o q => ?_) hS3 fun u m2 hS4 => fin u (Moved.trans Wk.gtrans ((m.mono inc).then_heap htk fun b o hb q => ?_) m2) hS4
      · rw [sb.2 b fun z => hZ (z ▸ hb)]
        exact q
      · rw [sb.2 b fun z => hb (z ▸ List.mem_cons_self)]
        exact q
    first
      | exact wpAny_setAddHashed_of (knd := mixKind prog w) isk sc hS1 (by omega) fun h' sb hS2 => wpAny_pure ⟨plainId_quiet F.plain_set_update_loop _, out h' _ (Nat.le_refl _) sb hS2⟩
      | exact wpAny_setAddHashed_of (knd := mixKind prog w) (s := { t with toks := t.toks + 1 }) isk sc hS1 (by omega) fun h' sb hS2 => wpAny_pure ⟨plainId_quiet F.plain_set_update_loop _, out h' _ (Nat.le_succ _) sb hS2⟩
end
section
variable {prog : Program} {w : World} {A : Around} {E : Value → Shared → Prop} {s : Shared}
/-- an empty set, just laid -/
abbrev emptyS (led : Bool) : Obj := { cls := .type "set", dict := none, data := .set #[] 0 (.fresh 0 0 led) }
set_option maxHeartbeats 3200000 in
/-- set(l): l's items are unlike keys -/
theorem setOfKeys {l : Addr} {its : Array Value} {ks : List L2.Key} {Q : Value → Shared → Prop} (calm : A.handled = none) (li : s.heap.IsList l its) (kl : ks.length = its.size) (nd : ks.Nodup) (few : its.size + 1 < scanBound)
    (look : ∀ i v, its[i]? = some v → ∀ hi : i < ks.length, (mixKind prog w).is ks[i] v = true ∧ v.scannable = true)
    (fin : ∀ (g : Heap) (tk : Nat), g.SetOf (mixKind prog w) s.heap.objs.size (hasK ks its.size) its.size → (∀ b o, b < s.heap.objs.size → s.heap.get? b = some o → g.get? b = some o) → Q (.ref s.heap.objs.size) { s with heap := g, toks := tk }) :
    wpAny (model prog w) A (call (.type "set") [.ref l]) Q E s := by
  obtain ⟨mc, mt, e_mro⟩ := PySem.F.called_set.mro
  have e_made := PySem.F.called_set.made
  have e_sub := PySem.F.called_set.sub
  have e_nt := PySem.F.called_set.notType
  have e_cc := PySem.F.called_set.canCreate
  have e_ct := PySem.F.typeCall_set_1 (.ref l)
  refine wpAny_call (codeAny_of_tree ?_)
  show wpAny _ _ (callAny (.type "set") _) _ _ _
  refine wpAny_pure ⟨Code.quiet_builtin _ (by decide +kernel), codeAny_builtin PySem.F.entry_type_call ?_⟩
  rw [Around.under_plain (weight_type_call_type "set" [.ref l] []) rfl]
  repeat (any_goals (first | assumption | wp_step))
  let W1 : Value → Shared → Prop := fun u t => ∃ led : Bool, u = .ref s.heap.objs.size ∧ t = { s with heap := s.heap.push (emptyS led) }
  refine codeAny_mono (code_set_new_1 (.ref l) (E := E) (Q₁ := W1) fun led => ⟨led, rfl, rfl⟩) fun r t hr => ?_
  cases r with
  | error e => exact hr
  | ok fl =>
    cases fl with
    | ret u =>
      obtain ⟨led, rfl, rfl⟩ := hr
      have at0 : (s.heap.push (emptyS led)).get? s.heap.objs.size = some (emptyS led) := Heap.get?_push_size _ rfl
      have ty0 : Shared.TypeIs { s with heap := s.heap.push (emptyS led) } (.ref s.heap.objs.size) "set" := ⟨_, at0, rfl⟩
      have e_li := PySem.F.called_set.init.lookup
      have e_bi := PySem.F.called_set.init.bind (.ref s.heap.objs.size)
      repeat (any_goals (first | assumption | wp_step))
      let W2 : Value → Shared → Prop := fun u t => u = .none ∧ ∃ g tk, t = { s with heap := g, toks := tk } ∧ g.SetOf (mixKind prog w) s.heap.objs.size (hasK ks its.size) its.size ∧ ∀ b o, b < s.heap.objs.size → s.heap.get? b = some o → g.get? b = some o
      refine codeAny_mono (codeAny_call_builtin (R := wants W2 E) PySem.F.called_set.init.plain PySem.F.entry_set_init (check_set_init_1 ty0 ?_)) fun r2 t2 hr2 => ?_
      · obtain ⟨⟨oc, od, odt, osl⟩, g_l, c_l, n_l, d_l⟩ := li
        simp only at c_l d_l
        subst c_l d_l
        have l0 : (s.heap.push (emptyS led)).get? l = some { cls := .type "list", dict := od, data := .seq its n_l, slots := osl } := Heap.get?_push_of_some _ g_l
        have li1 : (s.heap.push (emptyS led)).IsList l its := ⟨_, l0, rfl, n_l, rfl⟩
        have li0 : s.heap.IsList l its := ⟨_, g_l, rfl, n_l, rfl⟩
        have q_1 := PySem.F.sub_list_set
        have q_2 := PySem.F.sub_list_frozenset
        have q_3 : (Value.type "list" == Value.type "dict") = false := by decide
        unfold Builtin.«set.__init__» noKeywords Builtin.Frozenset.updateFrom
        generalize e_it : pyIter = IT
        wp_walk
        subst e_it
        refine wpAny_pyIter_list li1 (wpAny_bind (wpAny_runValue ?_))
        have lt_l : l < s.heap.objs.size := Heap.lt_size g_l
        have sz1 : (s.heap.push (emptyS led)).objs.size = s.heap.objs.size + 1 := Heap.size_push ..
        have apart : l ≠ (s.heap.push (emptyS led)).objs.size := Nat.ne_of_lt (by rw [sz1]; exact Nat.lt_succ_of_lt lt_l)
        have off : s.heap.objs.size ∉ [(s.heap.push (emptyS led)).objs.size, l] := by
          intro z
          rw [sz1] at z
          rcases List.mem_cons.mp z with z | z
          · exact absurd z (Nat.ne_of_lt (Nat.lt_succ_self _))
          · exact absurd (List.mem_singleton.mp z) (Nat.ne_of_gt lt_l)
        refine loopKeys ((Walks.list (show A.in1.in1.in1.handled = none by simp [calm]) _ l apart its).toS) s.heap.objs.size off ks kl nd few look (its.size - 0) 0 _ (by omega) (Nat.zero_le _)
          ⟨⟨_, Heap.get?_push_size _ rfl, rfl, rfl⟩, li1.push _⟩ ?start ?ends
        case start =>
          exact ⟨_, #[], 0, _, Heap.get?_push_of_some _ at0, ⟨rfl, rfl, rfl⟩, rfl, fun e he => by simp at he, fun k => by simp [hasK], by unfold scanBound; decide, rfl, rfl⟩
        case ends =>
          rintro ⟨g, gg, gd, gt, go⟩ mv st
          obtain rfl : gg = s.gens := mv.gens
          obtain rfl : gd = s.drawn := mv.drawn
          obtain rfl : go = s.os := mv.os
          show wpAny _ _ _ _ _ _
          refine wpAny_pure ?_
          show wpAny _ _ (ret Value.none) _ _ _
          refine wpAny_pure ⟨rfl, g, gt, rfl, st, fun b o hb eb => ?_⟩
          refine mv.heap b o ?_ (Heap.get?_push_of_some _ (Heap.get?_push_of_some _ eb))
          intro z
          rcases List.mem_cons.mp z with z | z
          · exact absurd z (Nat.ne_of_lt hb)
          · rw [List.mem_singleton.mp z, sz1] at hb
            exact absurd hb (Nat.not_lt_of_le (Nat.le_succ _))
      · cases r2 with
        | error e => exact hr2
        | ok f2 =>
          cases f2 with
          | ret u2 =>
            obtain ⟨rfl, g, tk, rfl, st, kp⟩ := hr2
            repeat (any_goals (first | assumption | wp_step))
            exact fin _ _ st kp
          | _ => exact hr2.elim
    | _ => exact hr.elim
end
section
variable {X : Cx}
theorem scan_kV {k : L2.Key} {u : Value} (r : RelV (kV k) u) : u.scannable = true := by
  cases k with
  | inl i =>
    obtain ⟨t, rfl⟩ := r
    rfl
  | inr z =>
    obtain ⟨t, rfl⟩ := r
    rfl
/-- len(set(e)), e a list of unlike ints or texts -/
def tLenK (K : PySem.W.Frag) (te : TE) : TE := fun σ H Q => te σ H fun x H1 => ∃ (l : Addr) (ks : List L2.Key), x = .ref l ∧ SqL K H1 l (ks.map kV) ∧ ks.Nodup ∧ ks.length ≤ 60 ∧ Q (.int ks.length) H1
theorem pe_lenSet {a : Expr} {ta : TE} {p p2 q pos : Pos} (calm : X.calm = true) (fl : X.mg "len" = none) (fs : X.mg "set" = none) (ha : PE X a ta) (gl : Gl X "len" := by rfl) (gs : Gl X "set" := by rfl)
    (one : starEach [a] X.env = (false, eval a X.env) :: starEach [] X.env := by rfl) : PE X (.Call (.Name "len" p) [.Call (.Name "set" p2) [a] [] q] [] pos) (tLenK X.K ta) := by
  refine ⟨fun pins s σ H Q I h => Call_ (ld_blt I gl fl PySem.boot_len (PyProof.Rows.callWith_builtin1 (PyProof.Rows.args_cons ?_ rfl) rfl rfl))⟩
  refine Call_ (ld_blt I gs fs PyProof.Rows.boot_set (PyProof.Rows.callWith_type1 (PyProof.Rows.args_cons (thn (ha.run pins s σ H _ I h) fun v t ⟨x, H1, I1, r1, q1⟩ => PyProof.Rows.args_nil ?_) one) one rfl))
  obtain ⟨l, ks, rfl, hq, nd, few, q1⟩ := q1
  obtain rfl : v = Value.ref l := r1
  obtain ⟨its, rv, pl, hz⟩ := I1.list hq
  have hn : its.length = ks.length := by rw [← rv.length, List.length_map]
  refine setOfKeys (I1.ok.hd calm) pl.isList (ks := ks) (by rw [List.size_toArray, hn]) nd (by rw [List.size_toArray, hn]; unfold scanBound; omega) (fun i u hu hi => ?_) fun g tk st kp => ?_
  · obtain ⟨u', h1, h2⟩ := rv.get (i := i) (x := kV ks[i]) (by rw [List.getElem?_map, List.getElem?_eq_getElem hi] <;> rfl)
    have e : u' = u := by
      have z : its[i]? = some u := by simpa using hu
      rw [h1] at z
      exact Option.some.inj z
    rw [← e]
    exact ⟨kV_is h2, scan_kV h2⟩
  · obtain ⟨o, es, ep, tb, ho, hex, hd, _, _, _, hf, cnt⟩ := st
    have I2 : Inv X pins σ H1 { t with heap := g, toks := tk } := I1.kept fun b o e => kp b o (Heap.lt_size e) e
    have c2 : es.size = ks.length := by rw [cnt, List.size_toArray, hn]
    exact PyProof.Rows.args_nil (call_len_set ho hex hd hf (by omega) ⟨.int ks.length, H1, I2.tok _, ⟨_, by rw [c2]⟩, q1⟩)
end
section
variable {K : PySem.W.Frag} {B : Bs} {ρ : Es} {te : TE} {P : Pd → Es → Prop}
def kD : L2.Key → Pd
  | .inl i => .int i
  | .inr x => .str x
theorem keys_of {F : Hp} : ∀ {vs : List V} {ks : List L2.Key}, DpAll K F vs (ks.map kD) → vs = ks.map kV
  | _, [], h => by cases h; rfl
  | _, .inl i :: ks, h => by
    cases h with
    | cons h1 h2 =>
      cases h1
      rw [keys_of (ks := ks) h2]
      rfl
  | _, .inr i :: ks, h => by
    cases h with
    | cons h1 h2 =>
      cases h1
      rw [keys_of (ks := ks) h2]
      rfl
theorem w_lenSet (h : WE K B te ρ fun x ρ1 => ∃ ks : List L2.Key, x = .list (ks.map kD) ∧ ks.Nodup ∧ ks.length ≤ 60 ∧ P (.int ks.length) ρ1) : WE K B (tLenK K te) ρ P := fun σ F H rl Q q =>
  h σ F H rl _ fun v x ρ1 F1 H1 p1 e1 d1 r1 => by
    obtain ⟨ks, ex, nd, few, p⟩ := p1
    subst ex
    cases d1 with
    | lst hs ha =>
      have e := keys_of ha
      subst e
      exact ⟨_, ks, rfl, Evl.ex_l r1.sub hs, nd, few, q _ _ ρ1 F1 H1 p e1 (.int _) r1⟩
end
end Bw
set_option Elab.async false
set_option linter.all false
set_option maxRecDepth 100000
set_option maxHeartbeats 2000000
/-! The written part by names; defs by their bodies. -/
namespace Bw
open PySem PySem.Spec L2 Evl
structure Tx (K : PySem.W.Frag) (mg : Str → Option Value) : Prop where
  ex : ∃ h : Heap, K.In h ∧ h.Ns mainGlobals mg
  says : Bk.SaysB K
section
variable {K : PySem.W.Frag} {mg : Str → Option Value}
theorem Tx.sd (T : Tx K mg) : He.SaysD Bk.fa Bk.fn K := congrArg Prod.fst T.says
theorem Tx.xb (T : Tx K mg) : Bk.exB K = true := congrArg Prod.snd T.says
theorem Tx.glo (T : Tx K mg) (i : Nat) {x : Str} (h : Bk.fa[i]? = some (.glo x) := by rfl) : mg x = some (.ref (He.ga K x)) := by
  obtain ⟨hp, X, G⟩ := T.ex
  exact He.glo_ok X G (T.sd.fact i h)
theorem Tx.fr (T : Tx K mg) (i : Nat) {x : Str} (h : Bk.fa[i]? = some (.free x) := by rfl) : mg x = none := by
  obtain ⟨hp, X, G⟩ := T.ex
  exact He.free_ok X G (T.sd.fact i h)
theorem Tx.gci (T : Tx K mg) (i : Nat) {x : Str} {n : Int} (h : Bk.fa[i]? = some (.int x n) := by rfl) : ∃ u, mg x = some u ∧ RelV (.int n) u := by
  obtain ⟨hp, X, G⟩ := T.ex
  obtain ⟨t, e⟩ := He.int_ok X G (T.sd.fact i h)
  exact ⟨_, e, t, rfl⟩
theorem Tx.gcs (T : Tx K mg) (i : Nat) {x z : Str} (h : Bk.fa[i]? = some (.str x z) := by rfl) : ∃ u, mg x = some u ∧ RelV (.str z) u := by
  obtain ⟨hp, X, G⟩ := T.ex
  obtain ⟨t, e⟩ := He.str_ok X G (T.sd.fact i h)
  exact ⟨_, e, t, rfl⟩
theorem Tx.gcr (T : Tx K mg) (i : Nat) {x : Str} (h : Bk.fa[i]? = some (.glo x) := by rfl) : ∃ u, mg x = some u ∧ RelV (.ref (He.ga K x)) u := ⟨_, T.glo i h, rfl⟩
theorem Tx.def_ (T : Tx K mg) (i : Nat) {d : He.DefD} (h : Bk.fn[i]? = some d := by rfl) : ∃ fd, FunD K d.name d.qual d.params d.body d.scope (d.dvs K) (d.kws K) (He.fAd K d.at_) fd := T.sd.def_ i h
end
theorem u65 {A : Around} {k : Nat} (hr : Room k A) : A.units + 65 < cLine := by have := hr.un; omega
/-- a def, by its body -/
theorem cal_of {P : Program} {w : World} {K : PySem.W.Frag} {mg : Str → Option Value} {base : Heap} {x : Str} {st : Stmt} {f : Addr} {N ps : List Str} {k : Nat} {sp : Sp}
    (F : ∃ fd, FunD K x x (defArgs st) (defBody st) (defScope st) [] [] f fd) (g : mg x = some (.ref f)) (S : FnScope N ps (defScope st))
    (hb : ∀ (kV doc pm : Value) (an : Option Addr) (cdv ct : Value) (us : List Value), us.length = ps.length → bindArgs (PySem.W.fnOf x x (defArgs st) (defBody st) (defScope st) .none kV doc pm an cdv ct) ⟨us, []⟩ = pure (ps.zip us))
    (len : ∀ vs H Q E, sp vs H Q E → vs.length = ps.length)
    (hbody : ∀ (cdv : Value) (A : Around) (outer : List Env) (s : Shared) (H : Hp) (vs : List V) (Q : VK) (E : XK), Room k (A.deeper (PyProof.Rows.envOfC x (defScope st) s.heap.objs.size f cdv)) → sp vs H Q E →
      ∃ t, PSs (cxOf C8.CX0 P w K mg base N x (defScope st) f cdv A outer s H E).nox (defBody st) t ∧ t { nx := fun _ H' => Q .non H', rt := Q } (L2.start N vs) H) : C8.Cal P w K mg base (k + 1) x sp [] := by
  obtain ⟨fd, F⟩ := F
  refine ⟨f, fd, ps, [], FunD.ok F S len fun cdv A outer s H vs Q E hr h => ?_, g, F.kp, F.bindsN hb, .nil⟩
  obtain ⟨t, h1, h2⟩ := hbody cdv A outer s H vs Q E hr h
  exact ⟨t, PSs.nox h1, h2⟩
/-! ### a body that changes nothing -/
def args (N : List Str) (xs : List Pd) : Es := xs.map Sl.d ++ List.replicate (N.length - xs.length) .n
section
variable {K : PySem.W.Frag}
theorem rel0 {F H : Hp} {N : List Str} {vs : List V} {xs : List Pd} (s : Ex F H) (d : DpAll K F vs xs) : Rel K ⟨fun _ => False, F, H, none⟩ (L2.start N vs) (args N xs) F H := by
  have l := da_len d
  have key : ∀ (i : Nat) (t : Sl), (args N xs)[i]? = some t → (t = .n) ∨ ∃ x v, t = .d x ∧ xs[i]? = some x ∧ vs[i]? = some v ∧ Dp K F v x := fun i t e => by
    unfold args at e
    by_cases hi : i < xs.length
    · rw [List.getElem?_append_left (by rw [List.length_map]; exact hi), List.getElem?_map, List.getElem?_eq_getElem hi] at e
      obtain ⟨v, h1, h2⟩ := da_get' d (List.getElem?_eq_getElem hi)
      exact .inr ⟨xs[i], v, (Option.some.inj e).symm, List.getElem?_eq_getElem hi, h1, h2⟩
    · rw [List.getElem?_append_right (by rw [List.length_map]; omega), List.getElem?_replicate] at e
      left
      split at e
      · exact (Option.some.inj e).symm
      · cases e
  refine ⟨s, ?_, fun i t e => ?_, fun i j t u a e1 e2 o1 o2 => ?_, fun i t a e o => ?_, Ex.refl _, fun _ _ _ h => h, fun _ h _ => h, fun _ h => h, fun i n e => ?_⟩
  · unfold L2.start args
    simp [l]
  · rcases key i t e with h | ⟨x, v, h1, h2, h3, h4⟩
    · rw [h]; trivial
    · rw [h1]
      refine ⟨v, ?_, h4⟩
      unfold L2.start
      rw [List.getElem?_append_left (by rw [List.length_map]; exact (List.getElem?_eq_some_iff.mp h3).1), List.getElem?_map, h3]
      rfl
  · rcases key i t e1 with h | ⟨x, v, h1, _⟩
    · rw [h, own_n] at o1; cases o1
    · rw [h1, own_d] at o1; cases o1
  · rcases key i t e with h | ⟨x, v, h1, _⟩
    · rw [h, own_n] at o; cases o
    · rw [h1, own_d] at o; cases o
  · rcases key i _ e with h | ⟨x, v, h1, _⟩
    · cases h
    · cases h1
theorem Rel.out {F H F' H' : Hp} {σ : L2.St} {ρ : Es} (r : Rel K ⟨fun _ => False, F, H, none⟩ σ ρ F' H') : Gr F H F' H' := ⟨r.f, fun a o h => r.h a o id h, r.sub, r.o⟩
theorem bodyP {R : List Pd → Pd → Prop} {N : List Str} {vs : List V} {H : Hp} {Q : VK} {E : XK} {t : TS} (h : spP K R vs H Q E) (k : ∀ B xs y, R xs y → S K B t (args N xs) { nx := fun _ => y = .none, rt := fun z _ => z = y }) : t { nx := fun _ H' => Q .non H', rt := Q } (L2.start N vs) H := by
  obtain ⟨F, xs, y, s, d, hR, q⟩ := h
  refine k ⟨fun _ => False, F, H, none⟩ xs y hR (L2.start N vs) F H (rel0 s d) _ ⟨fun σ' ρ' F' H' e x r => ?_, fun v z σ' ρ' F' H' e x dd r => ?_, fun _ _ _ _ e => e.elim, fun _ _ _ _ e => e.elim⟩
  · have e' : y = .none := e
    subst e'
    exact q .non F' H' r.out .non
  · have e' : z = y := e
    subst e'
    exact q v F' H' r.out dd
theorem lenP {R : List Pd → Pd → Prop} {n : Nat} (hR : ∀ xs y, R xs y → xs.length = n) : ∀ (vs : List V) (H : Hp) (Q : VK) (E : XK), spP K R vs H Q E → vs.length = n := fun vs H Q E h => by
  obtain ⟨F, xs, y, s, d, r, q⟩ := h
  rw [da_len d]
  exact hR xs y r
end
end Bw
set_option Elab.async false
set_option linter.all false
set_option maxRecDepth 100000
set_option maxHeartbeats 2000000
/-! More of the pure walk: texts sign by sign; numbers and names as texts. -/
namespace Bw
open PySem PySem.Spec L2 Evl
section
variable {K : PySem.W.Frag} {B : Bs} {ρ : Es} {te : TE} {PL : List Pd → Es → Prop} {PT' : Bool → Es → Prop} {P : Pd → Es → Prop}
def sgs (z : Str) : List Pd := z.cps.toList.map fun c => .str ⟨#[c]⟩
theorem wi_str (h : WE K B te ρ fun x ρ1 => ∃ z, x = .str z ∧ PL (sgs z) ρ1) : WI K B (iStr te) ρ PL := fun σ F H r R q =>
  h σ F H r _ fun v x ρ1 F1 H1 p1 e1 d1 r1 => by
    obtain ⟨z, ex, p⟩ := p1
    subst ex
    cases d1
    refine ⟨z, rfl, q (Its z) (sgs z) ρ1 F1 H1 (fun _ => True) (fun i H v H' => H' = H ∧ ∃ c, z.cps[i]? = some c ∧ v = .str ⟨#[c]⟩) p e1 r1 (by unfold sgs; rw [List.length_map, Array.length_toList]; exact walk_str) (fun _ _ _ _ => trivial) fun i H v H' F2 hi y x1 x2 => ?_⟩
    obtain ⟨rfl, c, hc, rfl⟩ := y
    refine ⟨F2, _, ?_, Gr.refl x2, .str _⟩
    unfold sgs
    rw [List.getElem?_map]
    have : z.cps.toList[i]? = some c := by simpa using hc
    rw [this]
    rfl
theorem wt_yes (h : PT' true ρ) : WT K B tYes ρ PT' := fun σ F H r Q q => q true true ρ F H h (Ex.refl _) rfl r
/-- a comprehension that keeps all, its item a plain function of what is walked, and leaves the rest as it is -/
theorem wl_map {vs : List Nat} {wi : TI} {g : TG} {te : TE} (h : WI K B wi ρ fun xs ρ1 => ∃ f : Pd → Pd, xs.length ≤ sizeLine ∧ (vs.all fun v => flatS (ρ1.getD v .n)) = true ∧
      (∀ x, x ∈ xs → ∀ B', G K B' (fun j => j ∈ vs) g x (wipeE vs ρ1) fun ρ3 => WE K B' te ρ3 fun y ρ5 => y = f x ∧ unw vs ρ1 ρ5 = ρ1) ∧ PL (xs.map f) ρ1) : WL K B (tLc wi g tYes te vs) ρ PL :=
  wl_lc fun σ F H r R q => h σ F H r R fun J xs ρ1 F1 H1 Gd Y p1 => q J xs ρ1 F1 H1 Gd Y (by
    obtain ⟨f, hz, fl, hs, hp⟩ := p1
    refine ⟨fun i acc ρ2 => acc = (xs.take i).map f ∧ ρ2 = ρ1, ⟨by simp, rfl⟩, hz, fun i x acc ρ2 hx ⟨ha, hr⟩ => ?_, fun acc ρ2 ⟨ha, hr⟩ => ?_⟩
    · subst hr
      refine ⟨fl, fun B' σ' F' H' v r' d' Q' q' => hs x (List.mem_of_getElem? hx) B' σ' F' H' v r' d' Q' fun σ2 ρ3 k => q' σ2 ρ3 (wt_yes ⟨fun _ => k.mono fun y ρ5 ⟨h1, h2⟩ => ⟨?_, h2⟩, nofun⟩)⟩
      rw [h1, ha]
      obtain ⟨hi, he⟩ := List.getElem?_eq_some_iff.mp hx
      rw [← he, List.take_succ_eq_append_getElem hi, List.map_append]
      rfl
    · rw [ha, hr, List.take_length]
      exact hp)
/-- .. with a test -/
theorem wl_filter {vs : List Nat} {wi : TI} {g : TG} {tt : TT} {te : TE} (h : WI K B wi ρ fun xs ρ1 => ∃ (p : Pd → Bool) (f : Pd → Pd), xs.length ≤ sizeLine ∧ (vs.all fun v => flatS (ρ1.getD v .n)) = true ∧
      (∀ x, x ∈ xs → ∀ B', G K B' (fun j => j ∈ vs) g x (wipeE vs ρ1) fun ρ3 => WT K B' tt ρ3 fun b ρ4 => b = p x ∧ (b = true → WE K B' te ρ4 fun y ρ5 => y = f x ∧ unw vs ρ1 ρ5 = ρ1) ∧ (b = false → unw vs ρ1 ρ4 = ρ1)) ∧ PL ((xs.filter p).map f) ρ1) : WL K B (tLc wi g tt te vs) ρ PL :=
  wl_lc fun σ F H r R q => h σ F H r R fun J xs ρ1 F1 H1 Gd Y p1 => q J xs ρ1 F1 H1 Gd Y (by
    obtain ⟨p, f, hz, fl, hs, hp⟩ := p1
    refine ⟨fun i acc ρ2 => acc = ((xs.take i).filter p).map f ∧ ρ2 = ρ1, ⟨by simp, rfl⟩, hz, fun i x acc ρ2 hx ⟨ha, hr⟩ => ?_, fun acc ρ2 ⟨ha, hr⟩ => ?_⟩
    · subst hr
      obtain ⟨hi, he⟩ := List.getElem?_eq_some_iff.mp hx
      have st : (xs.take (i + 1)).filter p = (xs.take i).filter p ++ (if p x = true then [x] else []) := by
        rw [List.take_succ_eq_append_getElem hi, List.filter_append, he]
        cases hpx : p x <;> simp [hpx]
      refine ⟨fl, fun B' σ' F' H' v r' d' Q' q' => hs x (List.mem_of_getElem? hx) B' σ' F' H' v r' d' Q' fun σ2 ρ3 k => q' σ2 ρ3 (k.mono fun b ρ4 ⟨hb, k1, k2⟩ => ⟨fun hb' => (k1 hb').mono fun y ρ5 ⟨h1, h2⟩ => ⟨?_, h2⟩, fun hb' => ⟨?_, k2 hb'⟩⟩)⟩
      · rw [st, h1, ha, ← hb, hb', if_pos rfl, List.map_append]
        rfl
      · rw [st, ha, ← hb, hb', if_neg Bool.false_ne_true, List.append_nil]
    · rw [ha, hr, List.take_length]
      exact hp)
/-- the same walk, the other way round: what a for leaves -/
theorem all_map {α : Type} {xs : List α} {f : α → Bool} (h : ∀ x ∈ xs, f x = true) : ((xs.map f).all id) = true := by
  rw [List.all_map, List.all_eq_true]
  exact h
end
end Bw
set_option Elab.async false
set_option linter.all false
set_option maxRecDepth 100000
set_option maxHeartbeats 2000000
/-! Books as plain data; names and numbers as texts. -/
namespace Bw
open PySem PySem.Spec L2 Evl
/-- one to eight small letters -/
structure NameOk (w : Str) : Prop where
  lo : 1 ≤ w.length
  hi : w.length ≤ 8
  sg : ∀ c ∈ w.cps.toList, 97 ≤ c ∧ c ≤ 122
theorem small_has {c : Nat} (h : 97 ≤ c ∧ c ≤ 122) : decide (c ∈ ("abcdefghijklmnopqrstuvwxyz" : Str).cps.toList) = true := by
  have key : ∀ d : Fin 123, 97 ≤ d.val → decide (d.val ∈ ("abcdefghijklmnopqrstuvwxyz" : Str).cps.toList) = true := by decide +kernel
  exact key ⟨c, by omega⟩ h.1
theorem figure_has {c : Nat} (h : 48 ≤ c ∧ c ≤ 57) : decide (c ∈ ("0123456789" : Str).cps.toList) = true := by
  have key : ∀ d : Fin 58, 48 ≤ d.val → decide (d.val ∈ ("0123456789" : Str).cps.toList) = true := by decide +kernel
  exact key ⟨c, by omega⟩ h.1
def numS (n : Nat) : Str := Str.ofString (toString ((n : Nat) : Int))
theorem numS_tl (n : Nat) : (numS n).cps.toList = TL.numL n := TL.tl_num n
theorem numS_len {n k : Nat} (hk : 0 < k) (h : n < 10 ^ k) : (numS n).length ≤ k := by
  rw [TL.len_tl, show TL.tl (numS n) = TL.numL n from numS_tl n]
  exact TL.numL_len hk h
theorem numS_pos (n : Nat) : 1 ≤ (numS n).length := by
  rw [TL.len_tl, show TL.tl (numS n) = TL.numL n from numS_tl n]
  have := TL.numL_ne n
  cases h : TL.numL n with
  | nil => exact absurd h this
  | cons a b => simp
/-- no number but 0 begins by 0 -/
theorem num_head : ∀ n : Nat, (TL.numL n).head? = some 48 → n = 0 := by
  intro n
  induction n using Nat.strongRecOn with
  | _ n ih =>
    intro h
    by_cases hn : n < 10
    · rw [TL.numL_lt hn] at h
      have := Option.some.inj h
      omega
    · rw [TL.numL_step (by omega)] at h
      have hne := TL.numL_ne (n / 10)
      cases e : TL.numL (n / 10) with
      | nil => exact absurd e hne
      | cons a r =>
        rw [e] at h
        have q := ih (n / 10) (by omega) (by rw [e]; exact h)
        omega
structure Tk where
  name : Str
  len : Nat
  mach : Str
  needs : List (Str × Nat)
  first : Nat
  due : Option Nat
  wt : Nat
structure Bd where
  ms : List Str
  gs : List (Str × Nat)
  ts : List Tk
  ws : List (Nat × Nat × Nat)
  fx : List (Nat × Nat)
def pN (p : Str × Nat) : Pd := .tuple [.str p.1, .int p.2]
def pD : Option Nat → Pd
  | none => .none
  | some n => .int n
def pT (t : Tk) : Pd := .tuple [.str t.name, .int t.len, .str t.mach, .tuple (t.needs.map pN), .int t.first, pD t.due, .int t.wt]
def pW (p : Nat × Nat × Nat) : Pd := .tuple [.int p.1, .int p.2.1, .int p.2.2]
def pF (p : Nat × Nat) : Pd := .tuple [.int p.1, .int p.2]
def pB (b : Bd) : Pd := .tuple [.tuple (b.ms.map .str), .tuple (b.gs.map pN), .tuple (b.ts.map pT), .tuple (b.ws.map pW), .tuple (b.fx.map pF)]
structure TkOk (b : Bd) (t : Tk) : Prop where
  name : NameOk t.name
  len : 1 ≤ t.len ∧ t.len ≤ 1000
  mach : t.mach = Str.empty ∨ (NameOk t.mach ∧ t.mach ∈ b.ms)
  needs : ∀ p ∈ t.needs, NameOk p.1 ∧ 1 ≤ p.2 ∧ p.2 ≤ 99 ∧ ∃ m, (p.1, m) ∈ b.gs ∧ p.2 ≤ m
  few : t.needs.length ≤ 4
  unl : (t.needs.map (·.1)).Nodup
  first : t.first ≤ 1000000
  due : ∀ d, t.due = some d → d ≤ 1000000
  wt : t.wt ≤ 1000
structure BdOk (b : Bd) : Prop where
  ms : b.ms.length ≤ 6 ∧ (∀ m ∈ b.ms, NameOk m) ∧ b.ms.Nodup
  gs : b.gs.length ≤ 4 ∧ (∀ p ∈ b.gs, NameOk p.1 ∧ 1 ≤ p.2 ∧ p.2 ≤ 99) ∧ (b.gs.map (·.1)).Nodup
  ts : b.ts.length ≤ 30 ∧ (∀ t ∈ b.ts, TkOk b t) ∧ (b.ts.map (·.name)).Nodup
  ws : b.ws.length ≤ 60 ∧ ∀ p ∈ b.ws, p.1 < p.2.1 ∧ p.2.1 < b.ts.length ∧ p.2.2 ≤ 1000
  fx : b.fx.length ≤ 30 ∧ (∀ p ∈ b.fx, p.2 ≤ 1000000 ∧ ∃ t, b.ts[p.1]? = some t ∧ t.first ≤ p.2) ∧ (b.fx.map (·.1)).Nodup
end Bw
set_option Elab.async false
set_option linter.all false
set_option maxRecDepth 100000
set_option maxHeartbeats 2000000
/-! More calls: max of two in a tuple, dict of pairs, str of a word, list(range(n)); dicts in slots. -/
namespace Bw
open PySem PySem.Spec L2 Evl
section
variable {X : Cx}
/-- max((i, j)), i < j -/
def rMaxT (K : PySem.W.Frag) : List V → Hp → VK → Prop := fun xs H Q => ∃ a i j, xs = [.ref a] ∧ SqT K H a [.int i, .int j] ∧ i < j ∧ Q (.int j) H
theorem cr_maxT (calm : X.calm = true) (hu : X.A.units + 65 < cLine) : CallR X (.builtin "max") (rMaxT X.K) := fun pins s σ H xs us Q I r h => by
  obtain ⟨a, i, j, ex, hs, lt, q⟩ := h
  subst ex
  obtain ⟨u, eu, rx⟩ := vals1 r
  subst eu
  obtain rfl : u = Value.ref a := rx
  obtain ⟨its, rv, pl, hz⟩ := I.tuple hs
  obtain ⟨u1, u2, e12, ⟨t1, e1⟩, ⟨t2, e2⟩⟩ := vals2 rv
  subst e12 e1 e2
  have rd : ReadsAll s.heap [Value.int i t1, Value.int j t2] [PyData.int i, PyData.int j] _ := .cons (.int i t1) (.cons (.int j t2) .nil)
  have dp : PyData.depthAll [PyData.int i, PyData.int j] = 0 := by simp [PyData.depthAll, PyData.depth]
  refine PySem.W.max_tuple_data (x := .int i) (xs := [.int j]) (I.ok.hd calm) pl rd ?_ (by rw [dp]; omega) fun n v h' tk bs hv hr hk => ?_
  · first
      | exact PySem.W.alikeAll_ints [i, j]
      | decide
      | exact ⟨fun x hx y hy => by
          have al : ∀ a b : Int, PySem.W.alike (.int a) (.int b) = true := fun a b => by unfold PySem.W.alike; rfl
          simp only [List.mem_cons, List.not_mem_nil, or_false] at hx hy
          rcases hx with hx | hx <;> rcases hy with hy | hy <;> (rw [hx, hy]; exact al _ _), fun x hx => by
          simp only [List.mem_cons, List.not_mem_nil, or_false] at hx
          rcases hx with hx | hx <;> (rw [hx]; nofun)⟩
  · have e : PySem.W.maxD (.int i) [.int j] = .int j := by
      have z := PySem.W.maxD_ints i [j]
      rw [show ([j].map PyData.int) = [.int j] from rfl] at z
      rw [z]
      show PyData.int (max i j) = .int j
      rw [show max i j = j by omega]
    rw [e] at hr
    cases hr with
    | int n t => exact ⟨.int j, H, I.kept hk, ⟨t, rfl⟩, q⟩
end
section
variable {X : Cx}
/-- dict(t), t a tuple without a dict of its own, its items pairs -/
def rDictT (K : PySem.W.Frag) : List V → Hp → VK → Prop := fun xs H Q => ∃ (a : Addr) (o : Obj) (ps : List Addr) (kvs : List (L2.Key × V)), xs = [.ref a] ∧ H a = some (.frz o (.tup (ps.map V.ref))) ∧ o.dict = none ∧
  Paired (fun p kv => SqT K H p [kV kv.1, kv.2]) ps kvs ∧ ∀ p, H p = none → Q (.ref p) (upd H p (.dK (mergeK [] kvs)))
theorem pairsV {pins : List (Addr × Obj)} {σ : L2.St} {H : Hp} {s : Shared} (I : L2.Inv X pins σ H s) : ∀ {ps : List Addr} {kvs : List (L2.Key × V)}, Paired (fun p kv => SqT X.K H p [kV kv.1, kv.2]) ps kvs →
    ∃ (pvs : List (Value × Value)) (prs : List (L2.Key × Value)), pvs.length = ps.length ∧ prs.length = ps.length ∧ KV kvs prs ∧
      ∀ (j : Nat) (k v : Value), pvs[j]? = some (k, v) → ∃ p key, ps[j]? = some p ∧ PyProof.Rows.IsTup s.heap p #[k, v] ∧ prs[j]? = some (key, v) ∧ keyIs key k = true
  | _, _, .nil => ⟨[], [], rfl, rfl, .nil, fun j k v e => by simp at e⟩
  | _, _, .cons (a := p) (b := kv) h t => by
    obtain ⟨pvs, prs, l1, l2, r, hp⟩ := pairsV I t
    obtain ⟨its, rv, ht, _⟩ := I.tuple h
    obtain ⟨u, y, ei, ru, ry⟩ := vals2 rv
    subst ei
    refine ⟨(u, y) :: pvs, (kv.1, y) :: prs, congrArg Nat.succ l1, congrArg Nat.succ l2, .cons ⟨rfl, ry⟩ r, fun j k v e => ?_⟩
    cases j with
    | zero =>
      have e' : (u, y) = (k, v) := Option.some.inj e
      cases e'
      exact ⟨p, kv.1, rfl, ht, rfl, kV_is (P := X.prog) (w := X.w) ru⟩
    | succ j =>
      obtain ⟨p', key, e1, e2, e3, e4⟩ := hp j k v (by simpa using e)
      exact ⟨p', key, by simpa using e1, e2, by simpa using e3, e4⟩
theorem call_dictT (calm : X.calm = true) : CallR X (.type "dict") (rDictT X.K) := fun pins s σ H xs us Q I r h => by
  obtain ⟨a, o, ps, kvs, ex, ha, od, hp, q⟩ := h
  subst ex
  obtain ⟨u, eu, rx⟩ := vals1 r
  subst eu
  obtain rfl : u = Value.ref a := rx
  obtain ⟨ho, hz, its, rv, o', ho', hc, n, hd⟩ := I.hok a _ ha
  obtain rfl : o' = o := by
    rw [ho] at ho'
    exact (Option.some.inj ho').symm
  have ei := refs_at rv
  subst ei
  obtain ⟨pvs, prs, l1, l2, rel, hpr⟩ := pairsV I hp
  rw [List.length_map] at hz
  refine PySem.call_dict_pairs (knd := mixKind X.prog X.w) (kvs := prs) (PairArg.tuple a (ps.map Value.ref).toArray (fun j => ps.getD j 0) pvs) (I.ok.hd calm) ⟨⟨o', n, ho, hc, od, hd⟩, by simp [l1], fun j k v e => ?_⟩ ⟨by omega, fun j k v e => ?_⟩ (by omega) fun g tk hd' kp => ?_
  · obtain ⟨p, key, e1, e2, _, _⟩ := hpr j k v e
    have e3 : ps.getD j 0 = p := by rw [List.getD_eq_getElem?_getD, e1]; rfl
    exact ⟨by simp [e1], by
      show PairAt s.heap (ps.getD j 0) k v
      rw [e3]
      exact .inl e2⟩
  · obtain ⟨p, key, _, _, e3, e4⟩ := hpr j k v e
    exact ⟨key, e3, e4⟩
  · have hm : (s.heap.objs.size == sysModules) = false := beq_eq_false_iff_ne.mpr (Nat.ne_of_gt I.big)
    have hlen : (mergeK [] kvs).length ≤ sizeLine := by
      have z := length_mergeK kvs []
      have y := rel.length
      rw [List.length_nil] at z
      omega
    have new : ObjOk X.prog X.w (upd H s.heap.objs.size (.dK (mergeK [] kvs))) g s.heap.objs.size (.dK (mergeK [] kvs)) := ⟨hlen, hm, merged [] prs, KV.merge rel .nil, hd'⟩
    exact ⟨.ref s.heap.objs.size, _, I.laid (t' := tk) (fun b o e => kp b o (by simp) e) (Nat.le_refl _) new, rfl, q _ (I.hok.fresh (Nat.le_refl _))⟩
/-- str(e), an int or a text -/
def rStrA : List V → Hp → VK → Prop := fun xs H Q => (∃ i, xs = [.int i] ∧ i.natAbs.log2 < 1920 ∧ Q (.str (toString i)) H) ∨ ∃ a, xs = [.str a] ∧ Q (.str a) H
theorem call_strA : CallR X (.type "str") rStrA := fun pins s σ H xs us Q I r h => by
  rcases h with h | h
  · exact call_str_int pins s σ H xs us Q I r h
  · exact SkE.call_str_str pins s σ H xs us Q I r h
end
/-! ### dicts in slots -/
section
variable {K : PySem.W.Frag} {B : Bs} {ρ : Es} {te ta tb : TE} {tl : TA} {P : Pd → Es → Prop} {e : En}
def sameO (R : V → Pd → Prop) : Option V → Option Pd → Prop
  | some u, some d => R u d
  | none, none => True
  | _, _ => False
/-- a dict that stands: what it answers -/
def dictMo (K : PySem.W.Frag) (f : L2.Key → Option Pd) : Mo where
  p := fun F v => ∃ a us, v = .ref a ∧ F a = some (.dK us) ∧ ∀ k, sameO (Dp K F) (valV us k) (f k)
  m := fun F F' v x ⟨a, us, h1, h2, h3⟩ => ⟨a, us, h1, x a _ h2, fun k => by
    have z := h3 k
    cases e1 : valV us k with
    | none =>
      rw [e1] at z
      cases e2 : f k with
      | none => trivial
      | some d => rw [e2] at z; exact z.elim
    | some u =>
      rw [e1] at z
      cases e2 : f k with
      | none => rw [e2] at z; exact z.elim
      | some d => rw [e2] at z; exact Dp.mono z x⟩
def dputD (f : L2.Key → Option Pd) (p : L2.Key × Pd) : L2.Key → Option Pd := fun k => if k = p.1 then some p.2 else f k
def dfold (f : L2.Key → Option Pd) (kvs : List (L2.Key × Pd)) : L2.Key → Option Pd := kvs.foldl dputD f
theorem dfold_rel {F : Hp} : ∀ {us : List (L2.Key × V)} {ds : List (L2.Key × Pd)} {g : List (L2.Key × V)} {f : L2.Key → Option Pd}, Paired (fun (p : L2.Key × V) (q : L2.Key × Pd) => p.1 = q.1 ∧ Dp K F p.2 q.2) us ds → (∀ k, sameO (Dp K F) (valV g k) (f k)) →
    ∀ k, sameO (Dp K F) (valV (mergeK g us) k) (dfold f ds k)
  | _, _, g, f, .nil, h => h
  | _, _, g, f, .cons (a := p) (b := q) hp ht, h => dfold_rel (g := putK g p.1 p.2) (f := dputD f q) ht fun k => by
    rw [valV_put]
    unfold dputD
    rw [hp.1]
    by_cases z : k = q.1
    · rw [if_pos z, if_pos z]; exact hp.2
    · rw [if_neg z, if_neg z]; exact h k
theorem dfold_out : ∀ {ds : List (L2.Key × Pd)} {f : L2.Key → Option Pd} {k : L2.Key}, (∀ q ∈ ds, q.1 ≠ k) → dfold f ds k = f k
  | [], _, _, _ => rfl
  | q :: ds, f, k, h => by
    show dfold (dputD f q) ds k = f k
    rw [dfold_out fun r hr => h r (List.mem_cons_of_mem _ hr)]
    exact if_neg fun z => h q List.mem_cons_self z.symm
theorem dfold_in : ∀ {ds : List (L2.Key × Pd)} {f : L2.Key → Option Pd} {k : L2.Key} {d : Pd}, (ds.map (·.1)).Nodup → (k, d) ∈ ds → dfold f ds k = some d
  | q :: ds, f, k, d, nd, h => by
    rw [List.map_cons, List.nodup_cons] at nd
    show dfold (dputD f q) ds k = some d
    rcases List.mem_cons.mp h with z | z
    · rw [← z] at nd ⊢
      rw [dfold_out fun r hr e => nd.1 (List.mem_map.mpr ⟨r, hr, e⟩)]
      exact if_pos rfl
    · exact dfold_in nd.2 z
theorem dfold_some : ∀ {ds : List (L2.Key × Pd)} {f : L2.Key → Option Pd} {k : L2.Key}, (dfold f ds k).isSome = ((f k).isSome || ds.any fun q => decide (q.1 = k))
  | [], f, k => by simp [dfold]
  | q :: ds, f, k => by
    show (dfold (dputD f q) ds k).isSome = _
    rw [dfold_some, List.any_cons]
    unfold dputD
    by_cases z : k = q.1
    · rw [if_pos z, decide_eq_true z.symm]; simp
    · rw [if_neg z, decide_eq_false fun y => z y.symm]; simp
def pK (q : L2.Key × Pd) : Pd := .tuple [kD q.1, q.2]
theorem kD_kV {F : Hp} {v : V} {k : L2.Key} (h : Dp K F v (kD k)) : v = kV k := by
  cases k with
  | inl i => cases h; rfl
  | inr i => cases h; rfl
theorem pairsD {F : Hp} : ∀ {vs : List V} {kvs : List (L2.Key × Pd)}, DpAll K F vs (kvs.map pK) → ∃ (ps : List Addr) (us : List (L2.Key × V)), vs = ps.map V.ref ∧ Paired (fun p kv => SqT K F p [kV kv.1, kv.2]) ps us ∧ Paired (fun (p : L2.Key × V) (q : L2.Key × Pd) => p.1 = q.1 ∧ Dp K F p.2 q.2) us kvs
  | _, [], h => by
    cases h
    exact ⟨[], [], rfl, .nil, .nil⟩
  | _, q :: kvs, h => by
    cases h with
    | cons h1 h2 =>
      obtain ⟨ps, us, e1, e2, e3⟩ := pairsD h2
      cases h1 with
      | tup hs ha =>
        cases ha with
        | cons a1 a2 =>
          cases a2 with
          | cons a2 a3 =>
            cases a3
            have z := kD_kV a1
            subst z
            exact ⟨_ :: ps, (q.1, _) :: us, by rw [e1] <;> rfl, .cons hs e2, .cons ⟨rfl, a2⟩ e3⟩
abbrev rDictL (K : PySem.W.Frag) : List V → Hp → VK → Prop := fun xs H Q => ∃ (a : Addr) (ps : List Addr) (kvs : List (L2.Key × V)), xs = [.ref a] ∧ SqL K H a (ps.map V.ref) ∧ Paired (fun p kv => SqT K H p [kV kv.1, kv.2]) ps kvs ∧
    ∀ p, H p = none → Q (.ref p) (upd H p (.dK (mergeK [] kvs)))
theorem dict_new {F H : Hp} {σ : L2.St} {us : List (L2.Key × V)} {kvs : List (L2.Key × Pd)} {p : Addr} (r : Rel K B σ ρ F H) (hp : H p = none) (h : Paired (fun (p : L2.Key × V) (q : L2.Key × Pd) => p.1 = q.1 ∧ Dp K F p.2 q.2) us kvs) :
    Rel K B σ ρ (upd F p (.dK (mergeK [] us))) (upd H p (.dK (mergeK [] us))) ∧ (dictMo K (dfold (fun _ => none) kvs)).p (upd F p (.dK (mergeK [] us))) (.ref p) := by
  have g := Gr.new r.sub (o := .dK (mergeK [] us)) hp
  refine ⟨r.gr g, p, mergeK [] us, rfl, upd_same, ?_⟩
  exact dfold_rel (pair_imp (fun _ _ z => ⟨z.1, z.2.mono g.f⟩) h) fun k => trivial
theorem Rel.putQ {F H : Hp} {σ : L2.St} {Φ : Mo} {v : V} (r : Rel K B σ ρ F H) {i : Nat} (hi : Nat.ble (i + 1) ρ.length = true) (h : Φ.p F v) : Rel K B (σ.set i (some v)) (ρ.set i (.q Φ)) F H :=
  r.put (Nat.le_of_ble_eq_true hi) ⟨v, rfl, h⟩ (fun a o => by rw [own_q] at o; cases o)
theorem s_dictL {i : Nat} (h : WE K B te ρ fun x ρ1 => ∃ kvs : List (L2.Key × Pd), x = .list (kvs.map pK) ∧ Nat.ble (i + 1) ρ1.length = true ∧ e.nx (ρ1.set i (.q (dictMo K (dfold (fun _ => none) kvs))))) :
    S K B (tAsg (tCB (rDictL K) (tCons te tNil)) (gName i)) ρ e := fun σ F H r D k => h σ F H r _ fun v x ρ1 F1 H1 p1 e1 d1 r1 => by
  obtain ⟨kvs, ex, hi, hx⟩ := p1
  subst ex
  cases d1 with
  | lst hs ha =>
    obtain ⟨ps, us, ev, q1, q2⟩ := pairsD ha
    subst ev
    refine ⟨_, ps, us, rfl, ex_l r1.sub hs, pair_imp (fun _ _ z => ex_t r1.sub z) q1, fun p hp => ?_⟩
    obtain ⟨r2, d2⟩ := dict_new r1 hp q2
    exact k.nx _ _ _ _ hx (e1.trans (Ex.new (none_of r1.sub hp))) (r2.putQ hi d2)
theorem slot_q {i : Nat} {Φ : Mo} {σ : L2.St} {F H : Hp} (r : Rel K B σ ρ F H) (h : ρ[i]? = some (.q Φ)) : ∃ u, σ[i]? = some (some u) ∧ Φ.p F u := by
  obtain ⟨u, h1, h2⟩ := r.slot i _ h
  refine ⟨u, ?_, h2⟩
  cases z : σ[i]? with
  | none => rw [z] at h1; cases h1
  | some w => rw [z] at h1; exact congrArg some h1
theorem w_dget {i : Nat} {f : L2.Key → Option Pd} (h0 : ρ[i]? = some (.q (dictMo K f))) (h : WE K B te ρ fun y ρ1 => ∃ k d, y = kD k ∧ f k = some d ∧ P d ρ1) : WE K B (tDGet (tVar i) te) ρ P := fun σ F H r Q q => by
  obtain ⟨u, hu, hΦ⟩ := slot_q r h0
  refine ⟨u, hu, h σ F H r _ fun v y ρ1 F1 H1 p1 e1 d1 r1 => ?_⟩
  obtain ⟨k, d, ey, hf, p⟩ := p1
  subst ey
  have ev := kD_kV d1
  subst ev
  obtain ⟨a, us, rfl, h2, h3⟩ := (dictMo K f).m _ _ _ e1 hΦ
  have z := h3 k
  rw [hf] at z
  cases e2 : valV us k with
  | none => rw [e2] at z; exact z.elim
  | some w =>
    rw [e2] at z
    exact ⟨a, w, rfl, .inl ⟨us, k, .inl (r1.sub a _ h2), rfl, e2.symm⟩, q w d ρ1 F1 H1 p e1 z r1⟩
theorem w_din {i : Nat} {f : L2.Key → Option Pd} (h0 : ρ[i]? = some (.q (dictMo K f))) (h : WE K B te ρ fun y ρ1 => ∃ k, y = kD k ∧ P (.bool (f k).isSome) ρ1) : WE K B (tDIn te (tVar i)) ρ P := fun σ F H r Q q => by
  obtain ⟨u, hu, hΦ⟩ := slot_q r h0
  refine h σ F H r _ fun v y ρ1 F1 H1 p1 e1 d1 r1 => ⟨u, hu, ?_⟩
  obtain ⟨k, ey, p⟩ := p1
  subst ey
  have ev := kD_kV d1
  subst ev
  obtain ⟨a, us, rfl, h2, h3⟩ := (dictMo K f).m _ _ _ e1 hΦ
  have z := h3 k
  refine ⟨a, valV us k, rfl, .inl ⟨us, k, .inl (r1.sub a _ h2), rfl, rfl⟩, q _ _ ρ1 F1 H1 p e1 ?_ r1⟩
  have e : (valV us k).isSome = (f k).isSome := by
    cases e1 : valV us k <;> cases e2 : f k <;> (rw [e1, e2] at z) <;> first | rfl | exact z.elim
  rw [e]
  exact .bl _
theorem w_dnin {i : Nat} {f : L2.Key → Option Pd} (h0 : ρ[i]? = some (.q (dictMo K f))) (h : WE K B te ρ fun y ρ1 => ∃ k, y = kD k ∧ P (.bool (!(f k).isSome)) ρ1) : WE K B (tDNotIn te (tVar i)) ρ P := fun σ F H r Q q => by
  obtain ⟨u, hu, hΦ⟩ := slot_q r h0
  refine h σ F H r _ fun v y ρ1 F1 H1 p1 e1 d1 r1 => ⟨u, hu, ?_⟩
  obtain ⟨k, ey, p⟩ := p1
  subst ey
  have ev := kD_kV d1
  subst ev
  obtain ⟨a, us, rfl, h2, h3⟩ := (dictMo K f).m _ _ _ e1 hΦ
  have z := h3 k
  refine ⟨a, valV us k, rfl, .inl ⟨us, k, .inl (r1.sub a _ h2), rfl, rfl⟩, q _ _ ρ1 F1 H1 p e1 ?_ r1⟩
  have e : (valV us k).isSome = (f k).isSome := by
    cases e1 : valV us k <;> cases e2 : f k <;> (rw [e1, e2] at z) <;> first | rfl | exact z.elim
  rw [e]
  exact .bl _
/-! ### a book whose goods may be looked up -/
def bookMo (K : PySem.W.Frag) (b : Bd) : Mo where
  p := fun F v => Dp K F v (pB b) ∧ ∃ a xs g o ys, v = .ref a ∧ SqT K F a xs ∧ xs[1]? = some (.ref g) ∧ F g = some (.frz o (.tup ys)) ∧ o.dict = none ∧ DpAll K F ys (b.gs.map pN)
  m := fun F F' v x ⟨h, a, xs, g, o, ys, h1, h2, h3, h4, h5, h6⟩ => ⟨h.mono x, a, xs, g, o, ys, h1, ex_t x h2, h3, x g _ h4, h5, h6.mono x⟩
theorem w_varB {i : Nat} {b : Bd} (h : ρ[i]? = some (.q (bookMo K b))) (p : P (pB b) ρ) : WE K B (tVar i) ρ P := fun σ F H r Q q => by
  obtain ⟨u, hu, hΦ⟩ := slot_q r h
  exact ⟨u, hu, q u _ ρ F H p (Ex.refl _) hΦ.1 r⟩
def gKey (p : Str × Nat) : L2.Key × Pd := (.inr p.1, .int p.2)
theorem gs_pK {gs : List (Str × Nat)} : gs.map pN = (gs.map gKey).map pK := by rw [List.map_map]; rfl
/-- there = dict(book[1]) -/
theorem s_dictB {i j : Nat} {b : Bd} (h : ρ[j]? = some (.q (bookMo K b))) (hi : Nat.ble (i + 1) ρ.length = true) (hx : e.nx (ρ.set i (.q (dictMo K (dfold (fun _ => none) (b.gs.map gKey)))))) :
    S K B (tAsg (tCB (rDictT K) (tCons (tOp (rIxT K) (tVar j) (tC (.int 1))) tNil)) (gName i)) ρ e := fun σ F H r D k => by
  obtain ⟨u, hu, hd, a, xs, g, o, ys, eu, hs, hg, hF, od, ha⟩ := slot_q r h
  subst eu
  rw [gs_pK] at ha
  obtain ⟨ps, us, ev, q1, q2⟩ := pairsD ha
  subst ev
  refine ⟨_, hu, a, xs, 1, _, rfl, rfl, ex_t r.sub hs, atI_n (j := 1) hg, g, o, ps, us, rfl, r.sub _ _ hF, od, pair_imp (fun _ _ z => ex_t r.sub z) q1, fun p hp => ?_⟩
  obtain ⟨r2, d2⟩ := dict_new r hp q2
  exact k.nx _ _ _ _ hx (Ex.new (none_of r.sub hp)) (r2.putQ hi d2)
end
end Bw
set_option Elab.async false
set_option linter.all false
set_option maxRecDepth 100000
set_option maxHeartbeats 2000000
namespace Bw
open PySem PySem.Spec L2 Evl
open Bk (sIsWhole sIsAmong sIsName sNumberOf)
section
variable {P : Program} {w : World} {K : PySem.W.Frag} {mg : Str → Option Value} {base : Heap}
theorem scIsWhole : FnScope ["thing"] ["thing"] (defScope sIsWhole) := ⟨rfl, rfl, rfl, by decide +kernel, rfl, by decide +kernel, by decide +kernel⟩
def RisWhole : List Pd → Pd → Prop := fun xs y => ∃ i, xs = [.int i] ∧ y = .bool true
theorem calIsWhole (T : Tx K mg) : C8.Cal P w K mg base 1 "is_whole" (spP K RisWhole) [] :=
  cal_of (st := sIsWhole) (T.def_ 0 (d := Bk.dIsWhole) rfl) (T.glo 0) scIsWhole (fun _ _ _ _ _ _ us hl => match us, hl with | [_], _ => rfl) (lenP fun xs y ⟨_, e, _⟩ => by rw [e]; rfl) fun cdv A outer s H vs Q E hr h => ⟨_, (pss_one (ps_ret (pe_and (pe_callB (id := "isinstance") call_isi rfl (T.fr 53) (by decide +kernel) (pa_cons (pv 0) (pa_cons (pe_bltn (v := .ty "int") rfl (T.fr 62) (by decide +kernel) rfl) pa_nil))) (pe_one (pe_not (pe_callB (id := "isinstance") call_isi rfl (T.fr 53) (by decide +kernel) (pa_cons (pv 0) (pa_cons (pe_bltn (v := .ty "bool") rfl (T.fr 67) (by decide +kernel) rfl) pa_nil)))))))), bodyP h fun B xs y hR => by
    obtain ⟨i, rfl, rfl⟩ := hR
    refine s_ret (w_and ?_)
    refine w_isi (.int i) (b := true) (by decide +kernel) (w_var rfl ⟨rfl, true, rfl, fun _ => ?_, nofun⟩)
    refine w_not ?_
    exact w_isi (.int i) (b := false) (by decide +kernel) (w_var rfl ⟨rfl, false, rfl, rfl⟩)⟩
theorem scIsAmong : FnScope ["thing", "least", "most"] ["thing", "least", "most"] (defScope sIsAmong) := ⟨rfl, rfl, rfl, by decide +kernel, rfl, by decide +kernel, by decide +kernel⟩
def RisAmong : List Pd → Pd → Prop := fun xs y => ∃ i a b : Int, xs = [.int i, .int a, .int b] ∧ a ≤ i ∧ i ≤ b ∧ y = .bool true
theorem calIsAmong (T : Tx K mg) : C8.Cal P w K mg base 2 "is_among" (spP K RisAmong) [] :=
  cal_of (st := sIsAmong) (T.def_ 1 (d := Bk.dIsAmong) rfl) (T.glo 1) scIsAmong (fun _ _ _ _ _ _ us hl => match us, hl with | [_, _, _], _ => rfl) (lenP fun xs y ⟨_, _, _, e, _⟩ => by rw [e]; rfl) fun cdv A outer s H vs Q E hr h => ⟨_, (pss_one (ps_ret (pe_and (C8.pe_c (calIsWhole T) hr (by decide) rfl (pa_cons (pv 0) pa_nil)) (pe_one (pe_chain op_le op_le (pv 1) (pv 0) (pv 2)))))), bodyP h fun B xs y hR => by
    obtain ⟨i, a, b, rfl, h1, h2, rfl⟩ := hR
    refine s_ret (w_and ?_)
    refine w_call (wa_cons (w_var rfl (wa_nil ?_)))
    refine ⟨.bool true, ⟨i, rfl, rfl⟩, true, rfl, fun _ => ?_, nofun⟩
    refine w_chain (w_var rfl (w_var rfl ⟨_, od_cmp, fun _ => w_var rfl ⟨_, od_cmp, ?_⟩, fun z => ?_⟩))
    · exact congrArg PyData.bool (decide_eq_true h2)
    · exact absurd h1 (of_decide_eq_false z)⟩
theorem scIsName : FnScope ["thing", "sign"] ["thing"] (defScope sIsName) := ⟨rfl, rfl, rfl, by decide +kernel, rfl, by decide +kernel, by decide +kernel⟩
def RisName : List Pd → Pd → Prop := fun xs y => ∃ z, xs = [.str z] ∧ NameOk z ∧ y = .bool true
theorem calIsName (T : Tx K mg) : C8.Cal P w K mg base 1 "is_name" (spP K RisName) [] :=
  cal_of (st := sIsName) (T.def_ 2 (d := Bk.dIsName) rfl) (T.glo 2) scIsName (fun _ _ _ _ _ _ us hl => match us, hl with | [_], _ => rfl) (lenP fun xs y ⟨_, e, _⟩ => by rw [e]; rfl) fun cdv A outer s H vs Q E hr h => ⟨_, (pss_one (ps_ret (pe_and (pe_callB (id := "isinstance") call_isi rfl (T.fr 53) (by decide +kernel) (pa_cons (pv 0) (pa_cons (pe_bltn (v := .ty "str") rfl (T.fr 61) (by decide +kernel) rfl) pa_nil))) (pe_and (pe_chain op_le op_le pe_int (pe_callB (id := "len") call_len_str rfl (T.fr 52) (by decide +kernel) (pa_cons (pv 0) pa_nil)) (C8.pe_gc rfl (T.gci 69))) (pe_one (pe_callB (id := "all") (cr_all rfl) rfl (T.fr 54) (by decide +kernel) (pa_cons (pe_lc (own := [("sign", 1)]) (g := gName 1) rfl scIsName.nd (pi_str (pv 0)) (blkOk_by (own := [("sign", 1)]) (N := ["thing", "sign"]) (sc := (defScope sIsName)) (by decide +kernel)) (fun _ _ _ _ _ => (pg_name (i := 1) scIsName.nd rfl (by first | exact Or.inl rfl | exact Or.inr rfl))) (fun _ _ _ _ _ => pts_nil) (fun _ _ _ _ _ => (pe_cmpR op_in_sign (pv 1) (C8.pe_gc rfl (T.gcs 83)) (by rfl)))) pa_nil))))))), bodyP h fun B xs y hR => by
    obtain ⟨z, rfl, hz, rfl⟩ := hR
    have hl : z.length ≤ sizeLine := Nat.le_trans hz.hi (by decide)
    refine s_ret (w_and ?_)
    refine w_isi (.str z) (b := true) (by decide +kernel) (w_var rfl ⟨rfl, true, rfl, fun _ => ?_, nofun⟩)
    refine w_and (w_chain (w_int (w_cb (wa_cons (w_var rfl (wa_nil ⟨_, cd_lenT hl, _, od_cmp, fun _ => w_int ⟨_, od_cmp, _, rfl, fun _ => ?_, fun q => ?_⟩, fun q => ?_⟩))))))
    · refine w_cb (wa_cons (w_fr (wl_map (wi_str (w_var rfl ⟨z, rfl, fun _ => .bool true, ?_, rfl, fun x hx B' => ?_, ?_⟩)))))
      · unfold sgs
        rw [List.length_map]
        exact hl
      · unfold sgs at hx
        obtain ⟨c, hc, rfl⟩ := List.mem_map.mp hx
        refine g_name (by decide) rfl (w_op (w_var rfl (w_str ⟨_, od_inSg, ?_, rfl⟩)))
        exact congrArg PyData.bool (small_has (hz.sg c hc))
      · exact wa_nil ⟨_, cd_allT, rfl⟩
    · have := of_decide_eq_false q
      have := hz.hi
      omega
    · have := of_decide_eq_false q
      have := hz.lo
      omega⟩
end
end Bw
set_option Elab.async false
set_option linter.all false
set_option maxRecDepth 100000
set_option maxHeartbeats 2000000
namespace Bw
open PySem PySem.Spec L2 Evl
open Bk (sNumberOf sAreTuples sAreNames sAreCounts sIsTask sIsWait sHasForm)
section
variable {P : Program} {w : World} {K : PySem.W.Frag} {mg : Str → Option Value} {base : Heap}
theorem scNumberOf : FnScope ["word", "sign"] ["word"] (defScope sNumberOf) := ⟨rfl, rfl, rfl, by decide +kernel, rfl, by decide +kernel, by decide +kernel⟩
def RnumberOf : List Pd → Pd → Prop := fun xs y => ∃ n : Nat, xs = [.str (numS n)] ∧ n < 10 ^ 7 ∧ y = .int n
theorem calNumberOf (T : Tx K mg) : C8.Cal P w K mg base 1 "number_of" (spP K RnumberOf) [] :=
  cal_of (st := sNumberOf) (T.def_ 3 (d := Bk.dNumberOf) rfl) (T.glo 3) scNumberOf (fun _ _ _ _ _ _ us hl => match us, hl with | [_], _ => rfl) (lenP fun xs y ⟨_, e, _⟩ => by rw [e]; rfl) fun cdv A outer s H vs Q E hr h => ⟨_, (pss_cons (ps_if (PW.pt (pw_or (pt_not (pt_chain op_le op_le pe_int (pe_callB (id := "len") call_len_str rfl (T.fr 52) (by decide +kernel) (pa_cons (pv 0) pa_nil)) (C8.pe_gc rfl (T.gci 70)))) (pw_or1 (pt_not (pt_val (pe_callB (id := "all") (cr_all rfl) rfl (T.fr 54) (by decide +kernel) (pa_cons (pe_lc (own := [("sign", 1)]) (g := gName 1) rfl scNumberOf.nd (pi_str (pv 0)) (blkOk_by (own := [("sign", 1)]) (N := ["word", "sign"]) (sc := (defScope sNumberOf)) (by decide +kernel)) (fun _ _ _ _ _ => (pg_name (i := 1) scNumberOf.nd rfl (by first | exact Or.inl rfl | exact Or.inr rfl))) (fun _ _ _ _ _ => pts_nil) (fun _ _ _ _ _ => (pe_cmpR op_in_sign (pv 1) (C8.pe_gc rfl (T.gcs 84)) (by rfl)))) pa_nil))))))) (pss_one (ps_ret pe_non)) pss_nil)
      (pss_cons (ps_if (PW.pt (pw_and (pt_cmpR op_eq (pe_ix ix_str (pv 0) pe_int (fun _ _ => rfl)) pe_str (nomark _)) (pw_and1 (pt_cmpR op_ne (pv 0) pe_str (nomark _))))) (pss_one (ps_ret pe_non)) pss_nil)
      (pss_one (ps_ret (pe_callTy (T := "int") call_int_str rfl (T.fr 62) (by decide +kernel) (pa_cons (pv 0) pa_nil)))))), bodyP h fun B xs y hR => by
    obtain ⟨n, rfl, hn, rfl⟩ := hR
    have h7 : (numS n).length ≤ 7 := numS_len (by decide) hn
    have hl : (numS n).length ≤ sizeLine := Nat.le_trans h7 (by decide)
    refine s_seq (s_if (wt_or (wt_not (wt_test (w_chain (w_int (w_cb (wa_cons (w_var rfl (wa_nil ⟨_, cd_lenT hl, _, od_cmp, fun _ => w_int ⟨_, od_cmp, _, rfl, ⟨fun q => ?_, fun q => ?_⟩⟩, fun q => ?_⟩))))))))))
    · refine wt_not (wt_B (w_cb (wa_cons (w_fr (wl_map (wi_str (w_var rfl ⟨numS n, rfl, fun _ => .bool true, ?_, rfl, fun x hx B' => ?_, ?_⟩)))))))
      · unfold sgs
        rw [List.length_map]
        exact hl
      · unfold sgs at hx
        obtain ⟨c, hc, rfl⟩ := List.mem_map.mp hx
        refine g_name (by decide) rfl (w_op (w_var rfl (w_str ⟨_, od_inSg, ?_, rfl⟩)))
        rw [numS_tl] at hc
        exact congrArg PyData.bool (figure_has (TL.numL_digits n c hc))
      · refine wa_nil ⟨_, cd_allT, _, rfl, nofun, fun _ => ?_⟩
        obtain ⟨c, r, hcr⟩ : ∃ c r, TL.numL n = c :: r := by
          cases e : TL.numL n with
          | nil => exact absurd e (TL.numL_ne n)
          | cons c r => exact ⟨c, r, rfl⟩
        refine s_next (s_seq (s_if (wt_and (wt_test (w_op (w_op (w_var rfl (w_int ⟨_, od_ixS (c := c) hl ?_, w_str ⟨_, od_eqS, _, rfl, fun q => ?_, fun _ => ⟨nofun, fun _ => ?_⟩⟩⟩))))))))
        · rw [numS_tl, hcr]
          exact atI_n (j := 0) rfl
        · refine wt_test (w_op (w_var rfl (w_str ⟨_, od_neS, _, rfl, fun q2 => ?_, fun _ => ?_⟩)))
          · have e1 := of_decide_eq_true q
            have e2 : c = 48 := by
              have z := congrArg (fun s : Str => s.cps.toList) e1
              have z2 : [c] = [48] := z
              exact List.cons.inj z2 |>.1
            have e3 : n = 0 := num_head n (by rw [hcr, e2] <;> rfl)
            subst e3
            exact absurd q2 (by decide +kernel)
          · refine s_next (s_ret (w_cb (wa_cons (w_var rfl (wa_nil ⟨_, cd_intS (TL.int_num (Nat.le_trans (TL.numL_len (k := 7) (by decide) hn) (by decide))) (Nat.le_trans h7 (by decide)), rfl⟩)))))
        · refine s_next (s_ret (w_cb (wa_cons (w_var rfl (wa_nil ⟨_, cd_intS (TL.int_num (Nat.le_trans (TL.numL_len (k := 7) (by decide) hn) (by decide))) (Nat.le_trans h7 (by decide)), rfl⟩)))))
    · have q1 : decide (((numS n).length : Int) ≤ 7) = false := by simpa using q
      have := of_decide_eq_false q1
      omega
    · have := of_decide_eq_false q
      have := numS_pos n
      omega⟩
end
end Bw
set_option Elab.async false
set_option linter.all false
set_option maxRecDepth 100000
set_option maxHeartbeats 2000000
namespace Bw
open PySem PySem.Spec L2 Evl
open Bk (sNumberOf sAreTuples sAreNames sAreCounts sIsTask sIsWait sHasForm)
theorem mem_map_ex {α : Type} {f : α → Pd} {xs : List α} {x : Pd} (h : x ∈ xs.map f) : ∃ a, a ∈ xs ∧ x = f a := by
  obtain ⟨a, h1, h2⟩ := List.mem_map.mp h
  exact ⟨a, h1, h2.symm⟩
section
variable {P : Program} {w : World} {K : PySem.W.Frag} {mg : Str → Option Value} {base : Heap}
theorem scAreTuples : FnScope ["thing", "most", "size", "one"] ["thing", "most", "size"] (defScope sAreTuples) := ⟨rfl, rfl, rfl, by decide +kernel, rfl, by decide +kernel, by decide +kernel⟩
def RareTuples : List Pd → Pd → Prop := fun xs y => ∃ (zs : List Pd) (most size : Int), xs = [.tuple zs, .int most, .int size] ∧ (zs.length : Int) ≤ most ∧ zs.length ≤ sizeLine ∧ (∀ z ∈ zs, ∃ us, z = .tuple us ∧ (us.length : Int) = size) ∧ y = .bool true
theorem calAreTuples (T : Tx K mg) : C8.Cal P w K mg base 1 "are_tuples" (spP K RareTuples) [] :=
  cal_of (st := sAreTuples) (T.def_ 4 (d := Bk.dAreTuples) rfl) (T.glo 4) scAreTuples (fun _ _ _ _ _ _ us hl => match us, hl with | [_, _, _], _ => rfl) (lenP fun xs y ⟨_, _, _, e, _⟩ => by rw [e]; rfl) fun cdv A outer s H vs Q E hr h => ⟨_, (pss_cons (ps_if (PW.pt (pw_or (pt_not (pt_val (pe_callB (id := "isinstance") call_isi rfl (T.fr 53) (by decide +kernel) (pa_cons (pv 0) (pa_cons (pe_bltn (v := .ty "tuple") rfl (T.fr 64) (by decide +kernel) rfl) pa_nil))))) (pw_or1 (pt_cmpR op_gt (pe_callB (id := "len") call_len_seq rfl (T.fr 52) (by decide +kernel) (pa_cons (pv 0) pa_nil)) (pv 1) (nomark _))))) (pss_one (ps_ret pe_bl)) pss_nil)
      (pss_one (ps_ret (pe_callB (id := "all") (cr_all rfl) rfl (T.fr 54) (by decide +kernel) (pa_cons (pe_lc (own := [("one", 3)]) (g := gName 3) rfl scAreTuples.nd (pi_tup (pv 0)) (blkOk_by (own := [("one", 3)]) (N := ["thing", "most", "size", "one"]) (sc := (defScope sAreTuples)) (by decide +kernel)) (fun _ _ _ _ _ => (pg_name (i := 3) scAreTuples.nd rfl (by first | exact Or.inl rfl | exact Or.inr rfl))) (fun _ _ _ _ _ => pts_nil) (fun _ _ _ _ _ => (pe_and (pe_callB (id := "isinstance") call_isi rfl (T.fr 53) (by decide +kernel) (pa_cons (pv 3) (pa_cons (pe_bltn (v := .ty "tuple") rfl (T.fr 64) (by decide +kernel) rfl) pa_nil))) (pe_one (pe_cmpR op_eq (pe_callB (id := "len") call_len_seq rfl (T.fr 52) (by decide +kernel) (pa_cons (pv 3) pa_nil)) (pv 2) (nomark _)))))) pa_nil))))), bodyP h fun B xs y hR => by
    obtain ⟨zs, most, size, rfl, hm, hl, hz, rfl⟩ := hR
    refine s_seq (s_if (wt_or (wt_not (wt_B (w_isi (.tup zs) (b := true) (by decide +kernel) (w_var rfl ⟨rfl, _, rfl, ⟨fun _ => ?_, nofun⟩⟩))))))
    refine wt_test (w_op (w_cb (wa_cons (w_var rfl (wa_nil ⟨_, cd_lenU, w_var rfl ⟨_, od_cmp, _, rfl, ⟨fun q => ?_, fun _ => s_next (s_ret ?_)⟩⟩⟩)))))
    · have := of_decide_eq_true q
      omega
    · refine w_cb (wa_cons (w_fr (wl_map (wi_tup (w_var rfl ⟨zs, rfl, fun _ => .bool true, hl, rfl, fun x hx B' => ?_, wa_nil ⟨_, cd_allT, rfl⟩⟩)))))
      obtain ⟨us, rfl, hu⟩ := hz x hx
      refine g_name (by decide) rfl (w_and (w_isi (.tup us) (b := true) (by decide +kernel) (w_var rfl ⟨rfl, _, rfl, fun _ => ?_, nofun⟩)))
      refine w_op (w_cb (wa_cons (w_var rfl (wa_nil ⟨_, cd_lenU, w_var rfl ⟨_, od_eqI, ?_, rfl⟩⟩))))
      exact congrArg PyData.bool (decide_eq_true hu)⟩
theorem scAreNames : FnScope ["thing", "one"] ["thing"] (defScope sAreNames) := ⟨rfl, rfl, rfl, by decide +kernel, rfl, by decide +kernel, by decide +kernel⟩
def RareNames : List Pd → Pd → Prop := fun xs y => ∃ ms : List Str, xs = [.tuple (ms.map .str)] ∧ ms.length ≤ 6 ∧ (∀ m ∈ ms, NameOk m) ∧ y = .bool true
theorem calAreNames (T : Tx K mg) : C8.Cal P w K mg base 2 "are_names" (spP K RareNames) [] :=
  cal_of (st := sAreNames) (T.def_ 5 (d := Bk.dAreNames) rfl) (T.glo 5) scAreNames (fun _ _ _ _ _ _ us hl => match us, hl with | [_], _ => rfl) (lenP fun xs y ⟨_, e, _⟩ => by rw [e]; rfl) fun cdv A outer s H vs Q E hr h => ⟨_, (pss_one (ps_ret (pe_and (pe_callB (id := "isinstance") call_isi rfl (T.fr 53) (by decide +kernel) (pa_cons (pv 0) (pa_cons (pe_bltn (v := .ty "tuple") rfl (T.fr 64) (by decide +kernel) rfl) pa_nil))) (pe_and (pe_cmpR op_le (pe_callB (id := "len") call_len_seq rfl (T.fr 52) (by decide +kernel) (pa_cons (pv 0) pa_nil)) (C8.pe_gc rfl (T.gci 71)) (nomark _)) (pe_one (pe_callB (id := "all") (cr_all rfl) rfl (T.fr 54) (by decide +kernel) (pa_cons (pe_lc (own := [("one", 1)]) (g := gName 1) rfl scAreNames.nd (pi_tup (pv 0)) (blkOk_by (own := [("one", 1)]) (N := ["thing", "one"]) (sc := (defScope sAreNames)) (by decide +kernel)) (fun _ _ _ _ _ => (pg_name (i := 1) scAreNames.nd rfl (by first | exact Or.inl rfl | exact Or.inr rfl))) (fun _ _ _ _ _ => pts_nil) (fun _ _ _ _ _ => (C8.pe_c (calIsName T) hr (by decide) rfl (pa_cons (pv 1) pa_nil)))) pa_nil))))))), bodyP h fun B xs y hR => by
    obtain ⟨ms, rfl, hm, hz, rfl⟩ := hR
    have hl : (ms.map PyData.str).length ≤ sizeLine := by rw [List.length_map]; exact Nat.le_trans hm (by decide)
    refine s_ret (w_and (w_isi (.tup _) (b := true) (by decide +kernel) (w_var rfl ⟨rfl, _, rfl, fun _ => ?_, nofun⟩)))
    refine w_and (w_op (w_cb (wa_cons (w_var rfl (wa_nil ⟨_, cd_lenU, w_int ⟨_, od_cmp, _, rfl, fun _ => ?_, fun q => ?_⟩⟩)))))
    · refine w_cb (wa_cons (w_fr (wl_map (wi_tup (w_var rfl ⟨_, rfl, fun _ => .bool true, hl, rfl, fun x hx B' => ?_, wa_nil ⟨_, cd_allT, rfl⟩⟩)))))
      obtain ⟨m, h1, rfl⟩ := mem_map_ex hx
      exact g_name (by decide) rfl (w_call (wa_cons (w_var rfl (wa_nil ⟨.bool true, ⟨m, rfl, hz m h1, rfl⟩, rfl, rfl⟩))))
    · have := of_decide_eq_false q
      rw [List.length_map] at this
      omega⟩
theorem scAreCounts : FnScope ["thing", "most", "name", "many"] ["thing", "most"] (defScope sAreCounts) := ⟨rfl, rfl, rfl, by decide +kernel, rfl, by decide +kernel, by decide +kernel⟩
def RareCounts : List Pd → Pd → Prop := fun xs y => ∃ (gs : List (Str × Nat)) (most : Int), xs = [.tuple (gs.map pN), .int most] ∧ (gs.length : Int) ≤ most ∧ gs.length ≤ sizeLine ∧ (∀ p ∈ gs, NameOk p.1 ∧ 1 ≤ p.2 ∧ p.2 ≤ 99) ∧ y = .bool true
theorem calAreCounts (T : Tx K mg) : C8.Cal P w K mg base 3 "are_counts" (spP K RareCounts) [] :=
  cal_of (st := sAreCounts) (T.def_ 6 (d := Bk.dAreCounts) rfl) (T.glo 6) scAreCounts (fun _ _ _ _ _ _ us hl => match us, hl with | [_, _], _ => rfl) (lenP fun xs y ⟨_, _, e, _⟩ => by rw [e]; rfl) fun cdv A outer s H vs Q E hr h => ⟨_, (pss_cons (ps_if (pt_not (pt_val (C8.pe_c (calAreTuples T) hr (by decide) rfl (pa_cons (pv 0) (pa_cons (pv 1) (pa_cons pe_int pa_nil)))))) (pss_one (ps_ret pe_bl)) pss_nil)
      (pss_one (ps_ret (pe_callB (id := "all") (cr_all rfl) rfl (T.fr 54) (by decide +kernel) (pa_cons (pe_lc (own := [("name", 2), ("many", 3)]) (g := gTup K 2 (gCons (gName 2) (gCons (gName 3) gNil))) rfl scAreCounts.nd (pi_tup (pv 0)) (blkOk_by (own := [("name", 2), ("many", 3)]) (N := ["thing", "most", "name", "many"]) (sc := (defScope sAreCounts)) (by decide +kernel)) (fun _ _ _ _ _ => (pg_tup rfl (pgs_cons (pg_name (i := 2) scAreCounts.nd rfl (by first | exact Or.inl rfl | exact Or.inr rfl)) (pgs_cons (pg_name (i := 3) scAreCounts.nd rfl (by first | exact Or.inl rfl | exact Or.inr rfl)) pgs_nil)))) (fun _ _ _ _ _ => pts_nil) (fun _ _ _ _ _ => (pe_and (C8.pe_c (calIsName T) hr (by decide) rfl (pa_cons (pv 2) pa_nil)) (pe_one (C8.pe_c (calIsAmong T) hr (by decide) rfl (pa_cons (pv 3) (pa_cons pe_int (pa_cons (C8.pe_gc rfl (T.gci 73)) pa_nil)))))))) pa_nil))))), bodyP h fun B xs y hR => by
    obtain ⟨gs, most, rfl, hm, hz, hg, rfl⟩ := hR
    have hl : (gs.map pN).length ≤ sizeLine := by rw [List.length_map]; exact hz
    refine s_seq (s_if (wt_not (wt_B (w_call (wa_cons (w_var rfl (wa_cons (w_var rfl (wa_cons (w_int (wa_nil ⟨.bool true, ⟨gs.map pN, most, 2, rfl, by rw [List.length_map]; exact hm, hl, fun z hz' => ?_, rfl⟩, _, rfl, nofun, fun _ => s_next (s_ret ?_)⟩)))))))))))
    · obtain ⟨p, _, rfl⟩ := mem_map_ex hz'
      exact ⟨_, rfl, rfl⟩
    · refine w_cb (wa_cons (w_fr (wl_map (wi_tup (w_var rfl ⟨_, rfl, fun _ => .bool true, hl, rfl, fun x hx B' => ?_, wa_nil ⟨_, cd_allT, rfl⟩⟩)))))
      obtain ⟨p, h1, rfl⟩ := mem_map_ex hx
      obtain ⟨a1, a2, a3⟩ := hg p h1
      refine g_tup rfl rfl (gs_cons (g_name (by decide) rfl (gs_cons (g_name (by decide) rfl (gs_nil ?_)))))
      refine w_and (w_call (wa_cons (w_var rfl (wa_nil ⟨.bool true, ⟨_, rfl, a1, rfl⟩, _, rfl, fun _ => ?_, nofun⟩))))
      exact w_call (wa_cons (w_var rfl (wa_cons (w_int (wa_cons (w_int (wa_nil ⟨.bool true, ⟨_, _, _, rfl, by omega, by omega, rfl⟩, rfl, rfl⟩)))))))⟩
/-- a task's form -/
structure TkForm (t : Tk) : Prop where
  name : NameOk t.name
  len : 1 ≤ t.len ∧ t.len ≤ 1000
  mach : t.mach = Str.empty ∨ NameOk t.mach
  needs : t.needs.length ≤ 4 ∧ ∀ p ∈ t.needs, NameOk p.1 ∧ 1 ≤ p.2 ∧ p.2 ≤ 99
  first : t.first ≤ 1000000
  due : ∀ d, t.due = some d → d ≤ 1000000
  wt : t.wt ≤ 1000
theorem scIsTask : FnScope ["thing", "name", "length", "machine", "needs", "first", "due", "weight"] ["thing"] (defScope sIsTask) := ⟨rfl, rfl, rfl, by decide +kernel, rfl, by decide +kernel, by decide +kernel⟩
def RisTask : List Pd → Pd → Prop := fun xs y => ∃ t : Tk, xs = [pT t] ∧ TkForm t ∧ y = .bool true
theorem calIsTask (T : Tx K mg) : C8.Cal P w K mg base 4 "is_task" (spP K RisTask) [] :=
  cal_of (st := sIsTask) (T.def_ 7 (d := Bk.dIsTask) rfl) (T.glo 7) scIsTask (fun _ _ _ _ _ _ us hl => match us, hl with | [_], _ => rfl) (lenP fun xs y ⟨_, e, _⟩ => by rw [e]; rfl) fun cdv A outer s H vs Q E hr h => ⟨_, (pss_cons (ps_asg (pv 0) (pg_tup rfl (pgs_cons (pg_name (i := 1) scIsTask.nd rfl (by first | exact Or.inl rfl | exact Or.inr rfl)) (pgs_cons (pg_name (i := 2) scIsTask.nd rfl (by first | exact Or.inl rfl | exact Or.inr rfl)) (pgs_cons (pg_name (i := 3) scIsTask.nd rfl (by first | exact Or.inl rfl | exact Or.inr rfl)) (pgs_cons (pg_name (i := 4) scIsTask.nd rfl (by first | exact Or.inl rfl | exact Or.inr rfl)) (pgs_cons (pg_name (i := 5) scIsTask.nd rfl (by first | exact Or.inl rfl | exact Or.inr rfl)) (pgs_cons (pg_name (i := 6) scIsTask.nd rfl (by first | exact Or.inl rfl | exact Or.inr rfl)) (pgs_cons (pg_name (i := 7) scIsTask.nd rfl (by first | exact Or.inl rfl | exact Or.inr rfl)) pgs_nil)))))))))
      (pss_cons (ps_if (PW.pt (pw_or (pt_not (pt_val (C8.pe_c (calIsName T) hr (by decide) rfl (pa_cons (pv 1) pa_nil)))) (pw_or (pt_not (pt_val (C8.pe_c (calIsAmong T) hr (by decide) rfl (pa_cons (pv 2) (pa_cons pe_int (pa_cons (C8.pe_gc rfl (T.gci 75)) pa_nil)))))) (pw_or1 (PW.pt (pw_and (pt_cmpR op_ne (pv 3) pe_str (nomark _)) (pw_and1 (pt_not (pt_val (C8.pe_c (calIsName T) hr (by decide) rfl (pa_cons (pv 3) pa_nil))))))))))) (pss_one (ps_ret pe_bl)) pss_nil)
      (pss_cons (ps_if (PW.pt (pw_or (pt_not (pt_val (C8.pe_c (calAreCounts T) hr (by decide) rfl (pa_cons (pv 4) (pa_cons (C8.pe_gc rfl (T.gci 76)) pa_nil))))) (pw_or1 (pt_not (pt_val (C8.pe_c (calIsAmong T) hr (by decide) rfl (pa_cons (pv 5) (pa_cons pe_int (pa_cons (C8.pe_gc rfl (T.gci 76)) pa_nil))))))))) (pss_one (ps_ret pe_bl)) pss_nil)
      (pss_one (ps_ret (pe_and (pe_or (pe_cmp (pc_isN (pv 6)) rfl) (pe_one (C8.pe_c (calIsAmong T) hr (by decide) rfl (pa_cons (pv 6) (pa_cons pe_int (pa_cons (C8.pe_gc rfl (T.gci 76)) pa_nil)))))) (pe_one (C8.pe_c (calIsAmong T) hr (by decide) rfl (pa_cons (pv 7) (pa_cons pe_int (pa_cons (C8.pe_gc rfl (T.gci 77)) pa_nil))))))))))), bodyP h fun B xs y hR => by
    obtain ⟨t, rfl, ht, rfl⟩ := hR
    have h1 := ht.len
    have h2 := ht.first
    have h3 := ht.wt
    refine s_seq <| s_asg <| w_var rfl <| g_tup rfl rfl <| gs_cons <| g_name trivial rfl <| gs_cons <| g_name trivial rfl <| gs_cons <| g_name trivial rfl <| gs_cons <| g_name trivial rfl <| gs_cons <| g_name trivial rfl <| gs_cons <| g_name trivial rfl <| gs_cons <| g_name trivial rfl <| gs_nil ?_
    refine s_cut (M := fun r => r = [.d (pT t), .d (.str t.name), .d (.int t.len), .d (.str t.mach), .d (.tuple (t.needs.map pN)), .d (.int t.first), .d (pD t.due), .d (.int t.wt)]) (s_if <| wt_or <| wt_not <| wt_B <| w_call <| wa_cons <| w_var rfl <| wa_nil ⟨.bool true, ⟨_, rfl, ht.name, rfl⟩, _, rfl, fun _ => ?_, nofun⟩) ?_
    · refine wt_or <| wt_not <| wt_B <| w_call <| wa_cons <| w_var rfl <| wa_cons <| w_int <| wa_cons <| w_int <| wa_nil ⟨.bool true, ⟨_, _, _, rfl, by omega, by omega, rfl⟩, _, rfl, fun _ => ?_, nofun⟩
      refine wt_and <| wt_test <| w_op <| w_var rfl <| w_str ⟨_, od_neS, _, rfl, fun q => ?_, fun q => ?_⟩
      · rcases ht.mach with hm | hm
        · rw [hm] at q
          exact absurd q (by decide +kernel)
        · exact wt_not <| wt_B <| w_call <| wa_cons <| w_var rfl <| wa_nil ⟨.bool true, ⟨_, rfl, hm, rfl⟩, _, rfl, nofun, fun _ => s_next rfl⟩
      · exact ⟨nofun, fun _ => s_next rfl⟩
    rintro r rfl
    refine s_seq <| s_if <| wt_or <| wt_not <| wt_B <| w_call <| wa_cons <| w_var rfl <| wa_cons <| w_int <| wa_nil ⟨.bool true, ⟨t.needs, _, rfl, by have := ht.needs.1; omega, Nat.le_trans ht.needs.1 (by decide), ht.needs.2, rfl⟩, _, rfl, fun _ => ?_, nofun⟩
    refine wt_not <| wt_B <| w_call <| wa_cons <| w_var rfl <| wa_cons <| w_int <| wa_cons <| w_int <| wa_nil ⟨.bool true, ⟨_, _, _, rfl, by omega, by omega, rfl⟩, _, rfl, nofun, fun _ => s_next <| s_ret ?_⟩
    refine w_and ?_
    have last : ∀ ρ1 : Es, ρ1[7]? = some (.d (.int t.wt)) → WE K B (tCall (spP K RisAmong) [] C8.E0 (tCons (tVar 7) (tCons (tC (.int 0)) (tCons (tC (.int 1000)) tNil)))) ρ1 (fun z _ => z = PyData.bool true) := fun ρ1 e =>
      w_call <| wa_cons <| w_var e <| wa_cons <| w_int <| wa_cons <| w_int <| wa_nil ⟨.bool true, ⟨_, _, _, rfl, by omega, by omega, rfl⟩, rfl⟩
    cases hd : t.due with
    | none =>
      refine w_or <| w_isN (b := true) <| w_var (x := .none) rfl ⟨nofun, fun _ => rfl, _, rfl, nofun, fun _ => ⟨_, rfl, fun _ => last _ rfl, nofun⟩⟩
    | some d =>
      have h4 := ht.due d hd
      refine w_or <| w_isN (b := false) <| w_var (x := .int d) rfl ⟨nofun, nofun, _, rfl, fun _ => ?_, nofun⟩
      exact w_call <| wa_cons <| w_var (x := .int d) rfl <| wa_cons <| w_int <| wa_cons <| w_int <| wa_nil ⟨.bool true, ⟨_, _, _, rfl, by omega, by omega, rfl⟩, _, rfl, fun _ => last _ rfl, nofun⟩⟩
theorem scIsWait : FnScope ["thing", "one"] ["thing"] (defScope sIsWait) := ⟨rfl, rfl, rfl, by decide +kernel, rfl, by decide +kernel, by decide +kernel⟩
def RisWait : List Pd → Pd → Prop := fun xs y => ∃ p : Nat × Nat × Nat, xs = [pW p] ∧ p.1 < p.2.1 ∧ p.2.1 ≤ 1000000 ∧ p.2.2 ≤ 1000 ∧ y = .bool true
theorem calIsWait (T : Tx K mg) : C8.Cal P w K mg base 3 "is_wait" (spP K RisWait) [] :=
  cal_of (st := sIsWait) (T.def_ 8 (d := Bk.dIsWait) rfl) (T.glo 8) scIsWait (fun _ _ _ _ _ _ us hl => match us, hl with | [_], _ => rfl) (lenP fun xs y ⟨_, e, _⟩ => by rw [e]; rfl) fun cdv A outer s H vs Q E hr h => ⟨_, (pss_one (ps_ret (pe_and (pe_callB (id := "all") (cr_all rfl) rfl (T.fr 54) (by decide +kernel) (pa_cons (pe_lc (own := [("one", 1)]) (g := gName 1) rfl scIsWait.nd (pi_tup (pv 0)) (blkOk_by (own := [("one", 1)]) (N := ["thing", "one"]) (sc := (defScope sIsWait)) (by decide +kernel)) (fun _ _ _ _ _ => (pg_name (i := 1) scIsWait.nd rfl (by first | exact Or.inl rfl | exact Or.inr rfl))) (fun _ _ _ _ _ => pts_nil) (fun _ _ _ _ _ => (C8.pe_c (calIsAmong T) hr (by decide) rfl (pa_cons (pv 1) (pa_cons pe_int (pa_cons (C8.pe_gc rfl (T.gci 76)) pa_nil)))))) pa_nil)) (pe_and (pe_cmpR op_ne (pe_ix ix_tup (pv 0) pe_int (fun _ _ => rfl)) (pe_ix ix_tup (pv 0) pe_int (fun _ _ => rfl)) (nomark _)) (pe_one (pe_cmpR op_le (pe_ix ix_tup (pv 0) pe_int (fun _ _ => rfl)) (C8.pe_gc rfl (T.gci 79)) (nomark _))))))), bodyP h fun B xs y hR => by
    obtain ⟨p, rfl, h1, h2, h3, rfl⟩ := hR
    refine s_ret <| w_and <| w_cb <| wa_cons <| w_fr <| wl_map <| wi_tup <| w_var rfl ⟨_, rfl, fun _ => .bool true, by show 3 ≤ sizeLine; decide, rfl, fun x hx B' => ?_, wa_nil ⟨_, cd_allT, _, rfl, fun _ => ?_, nofun⟩⟩
    · have hx' : ∃ n : Nat, x = .int n ∧ n ≤ 1000000 := by
        have q : x ∈ [PyData.int p.1, PyData.int p.2.1, PyData.int p.2.2] := hx
        simp only [List.mem_cons, List.mem_nil_iff, or_false] at q
        rcases q with q | q | q
        · exact ⟨_, q, by omega⟩
        · exact ⟨_, q, by omega⟩
        · exact ⟨_, q, by omega⟩
      obtain ⟨n, rfl, hn⟩ := hx'
      exact g_name (by decide) rfl <| w_call <| wa_cons <| w_var rfl <| wa_cons <| w_int <| wa_cons <| w_int <| wa_nil ⟨.bool true, ⟨_, _, _, rfl, by omega, by omega, rfl⟩, rfl, rfl⟩
    · refine w_and <| w_op <| w_op <| w_var rfl <| w_int ⟨_, od_ixT (atI_n (j := 0) rfl), w_op <| w_var rfl <| w_int ⟨_, od_ixT (atI_n (j := 1) rfl), _, od_neI, _, rfl, fun _ => ?_, fun q => ?_⟩⟩
      · refine w_op <| w_op <| w_var rfl <| w_int ⟨_, od_ixT (atI_n (j := 2) rfl), w_int ⟨_, od_cmp, ?_⟩⟩
        exact congrArg PyData.bool (decide_eq_true (by omega))
      · have : ¬ ((p.1 : Int) = (p.2.1 : Int)) := by omega
        rw [decide_eq_false this] at q
        cases q⟩
end
end Bw
set_option Elab.async false
set_option linter.all false
set_option maxRecDepth 100000
set_option maxHeartbeats 2000000
/-! Data that may be compared. -/
namespace Bw
open PySem PySem.Spec L2 Evl
/-- it can be laid, and is at most n deep -/
def Sh (n : Nat) (d : Pd) : Prop := d.canLay0 = true ∧ d.depth ≤ n
def Shs (n : Nat) (ds : List Pd) : Prop := PyData.canLayAll0 ds = true ∧ PyData.depthAll ds ≤ n
theorem Sh.shaped {n : Nat} {d : Pd} (h : Sh n d) (hn : n ≤ 64 := by decide) : SeqAt.shaped d = true := by
  unfold SeqAt.shaped
  rw [h.1, decide_eq_true (Nat.le_trans h.2 hn)]
  rfl
theorem sh_non : Sh 0 .none := ⟨by simp [PyData.canLay0], by simp [PyData.depth]⟩
theorem sh_int {i : Int} : Sh 0 (.int i) := ⟨by simp [PyData.canLay0], by simp [PyData.depth]⟩
theorem sh_bl {i : Bool} : Sh 0 (.bool i) := ⟨by simp [PyData.canLay0], by simp [PyData.depth]⟩
theorem sh_str {x : Str} (h : ∀ c ∈ x.cps.toList, c < 0x110000) : Sh 0 (.str x) := by
  refine ⟨?_, by simp [PyData.depth]⟩
  simp only [PyData.canLay0, PyData.strOk]
  rw [Array.all_eq_true]
  intro i hi
  have := h x.cps[i] (by simp)
  simpa using this
theorem shs_nil {n : Nat} : Shs n [] := ⟨by simp [PyData.canLayAll0], by simp [PyData.depthAll]⟩
theorem shs_cons {n : Nat} {d : Pd} {ds : List Pd} (h : Sh n d) (hs : Shs n ds) : Shs n (d :: ds) :=
  ⟨by simp only [PyData.canLayAll0, h.1, hs.1]; rfl, by simp only [PyData.depthAll]; have := h.2; have := hs.2; omega⟩
theorem Sh.up {n m : Nat} {d : Pd} (h : Sh n d) (hn : n ≤ m := by omega) : Sh m d := ⟨h.1, Nat.le_trans h.2 hn⟩
theorem shs_all {n : Nat} : ∀ {ds : List Pd}, (∀ d ∈ ds, Sh n d) → Shs n ds
  | [], _ => shs_nil
  | d :: ds, h => shs_cons (h d (by simp)) (shs_all fun e he => h e (by simp [he]))
theorem shs_map {α : Type} {n : Nat} {f : α → Pd} {xs : List α} (h : ∀ x ∈ xs, Sh n (f x)) : Shs n (xs.map f) := shs_all fun d hd => by
  obtain ⟨x, h1, rfl⟩ := List.mem_map.mp hd
  exact h x h1
theorem sh_tup {n : Nat} {ds : List Pd} (h : Shs n ds) : Sh (n + 1) (.tuple ds) := ⟨by simp only [PyData.canLay0]; exact h.1, by simp only [PyData.depth]; have := h.2; omega⟩
theorem sh_list {n : Nat} {ds : List Pd} (h : Shs n ds) : Sh (n + 1) (.list ds) := ⟨by simp only [PyData.canLay0]; exact h.1, by simp only [PyData.depth]; have := h.2; omega⟩
theorem eqv_tup_nil {ds : List Pd} : PyData.eqv (.tuple ds) (.tuple []) = ds.isEmpty := by
  cases ds <;> simp [PyData.eqv, PyData.eqvAll]
theorem eqv_list_nil {ds : List Pd} : PyData.eqv (.list ds) (.list []) = ds.isEmpty := by
  cases ds <;> simp [PyData.eqv, PyData.eqvAll]
theorem NameOk.cp {w : Str} (h : NameOk w) : ∀ c ∈ w.cps.toList, c < 0x110000 := fun c hc => by have := h.sg c hc; omega
theorem sh_name {w : Str} (h : NameOk w) : Sh 0 (.str w) := sh_str h.cp
theorem sh_N {p : Str × Nat} (h : NameOk p.1) : Sh 1 (pN p) := sh_tup (shs_cons (sh_name h) (shs_cons sh_int shs_nil))
theorem sh_D {d : Option Nat} : Sh 0 (pD d) := by
  cases d
  · exact sh_non
  · exact sh_int
theorem sh_mach {b : Bd} {t : Tk} (h : TkOk b t) : Sh 0 (.str t.mach) := by
  rcases h.mach with e | e
  · rw [e]
    exact sh_str (fun c hc => absurd hc (by simp [Str.empty]))
  · exact sh_name e.1
theorem sh_T {b : Bd} {t : Tk} (h : TkOk b t) : Sh 3 (pT t) :=
  sh_tup (n := 2) (shs_cons (sh_name h.name).up (shs_cons sh_int.up (shs_cons (sh_mach h).up (shs_cons (sh_tup (n := 1) (shs_map fun p hp => sh_N (h.needs p hp).1)) (shs_cons sh_int.up (shs_cons sh_D.up (shs_cons sh_int.up shs_nil)))))))
theorem sh_B {b : Bd} (h : BdOk b) : Sh 5 (pB b) :=
  sh_tup (n := 4) (shs_cons (sh_tup (n := 3) (shs_map fun m hm => (sh_name (h.ms.2.1 m hm)).up)) (shs_cons (sh_tup (n := 3) (shs_map fun p hp => (sh_N (h.gs.2.1 p hp).1).up)) (shs_cons (sh_tup (n := 3) (shs_map fun t ht => (sh_T (h.ts.2.1 t ht)).up))
    (shs_cons (sh_tup (n := 3) (shs_map fun p _ => (sh_tup (n := 0) (shs_cons sh_int (shs_cons sh_int (shs_cons sh_int shs_nil)))).up)) (shs_cons (sh_tup (n := 3) (shs_map fun p _ => (sh_tup (n := 0) (shs_cons sh_int (shs_cons sh_int shs_nil))).up)) shs_nil)))))
end Bw
set_option Elab.async false
set_option linter.all false
set_option maxRecDepth 100000
set_option maxHeartbeats 2000000
namespace Bw
open PySem PySem.Spec L2 Evl
open Bk (sHasForm)
theorem TkOk.form {b : Bd} {t : Tk} (h : TkOk b t) : TkForm t := ⟨h.name, h.len, h.mach.imp id (·.1), ⟨h.few, fun p hp => ⟨(h.needs p hp).1, (h.needs p hp).2.1, (h.needs p hp).2.2.1⟩⟩, h.first, h.due, h.wt⟩
theorem isE_map {α β : Type} {f : α → β} {xs : List α} : (xs.map f).isEmpty = xs.isEmpty := by cases xs <;> rfl
section
variable {P : Program} {w : World} {K : PySem.W.Frag} {mg : Str → Option Value} {base : Heap}
theorem scHasForm : FnScope ["thing", "machines", "goods", "tasks", "waits", "fixed", "task", "wait", "begin"] ["thing"] (defScope sHasForm) := ⟨rfl, rfl, rfl, by decide +kernel, rfl, by decide +kernel, by decide +kernel⟩
def RhasForm : List Pd → Pd → Prop := fun xs y => ∃ b : Bd, xs = [pB b] ∧ BdOk b ∧ y = .bool (!b.ts.isEmpty)
theorem calHasForm (T : Tx K mg) : C8.Cal P w K mg base 5 "has_form" (spP K RhasForm) [] :=
  cal_of (st := sHasForm) (T.def_ 9 (d := Bk.dHasForm) rfl) (T.glo 9) scHasForm (fun _ _ _ _ _ _ us hl => match us, hl with | [_], _ => rfl) (lenP fun xs y ⟨_, e, _⟩ => by rw [e]; rfl) fun cdv A outer s H vs Q E hr h => ⟨_, (pss_cons (ps_if (PW.pt (pw_or (pt_not (pt_val (pe_callB (id := "isinstance") call_isi rfl (T.fr 53) (by decide +kernel) (pa_cons (pv 0) (pa_cons (pe_bltn (v := .ty "tuple") rfl (T.fr 64) (by decide +kernel) rfl) pa_nil))))) (pw_or1 (pt_cmpR op_ne (pe_callB (id := "len") call_len_seq rfl (T.fr 52) (by decide +kernel) (pa_cons (pv 0) pa_nil)) (C8.pe_gc rfl (T.gci 80)) (nomark _))))) (pss_one (ps_ret pe_bl)) pss_nil)
      (pss_cons (ps_asg (pv 0) (pg_tup rfl (pgs_cons (pg_name (i := 1) scHasForm.nd rfl (by first | exact Or.inl rfl | exact Or.inr rfl)) (pgs_cons (pg_name (i := 2) scHasForm.nd rfl (by first | exact Or.inl rfl | exact Or.inr rfl)) (pgs_cons (pg_name (i := 3) scHasForm.nd rfl (by first | exact Or.inl rfl | exact Or.inr rfl)) (pgs_cons (pg_name (i := 4) scHasForm.nd rfl (by first | exact Or.inl rfl | exact Or.inr rfl)) (pgs_cons (pg_name (i := 5) scHasForm.nd rfl (by first | exact Or.inl rfl | exact Or.inr rfl)) pgs_nil)))))))
      (pss_cons (ps_if (PW.pt (pw_or (pt_not (pt_val (C8.pe_c (calAreNames T) hr (by decide) rfl (pa_cons (pv 1) pa_nil)))) (pw_or (pt_not (pt_val (C8.pe_c (calAreCounts T) hr (by decide) rfl (pa_cons (pv 2) (pa_cons (C8.pe_gc rfl (T.gci 72)) pa_nil))))) (pw_or1 (pt_not (pt_val (C8.pe_c (calAreTuples T) hr (by decide) rfl (pa_cons (pv 3) (pa_cons (C8.pe_gc rfl (T.gci 74)) (pa_cons (C8.pe_gc rfl (T.gci 81)) pa_nil)))))))))) (pss_one (ps_ret pe_bl)) pss_nil)
      (pss_cons (ps_if (PW.pt (pw_or (pt_cmpR (op_eqD hr.units) (pv 3) (pe_tup pa_nil) (nomark _)) (pw_or (pt_not (pt_val (pe_callB (id := "all") (cr_all rfl) rfl (T.fr 54) (by decide +kernel) (pa_cons (pe_lc (own := [("task", 6)]) (g := gName 6) rfl scHasForm.nd (pi_tup (pv 3)) (blkOk_by (own := [("task", 6)]) (N := ["thing", "machines", "goods", "tasks", "waits", "fixed", "task", "wait", "begin"]) (sc := (defScope sHasForm)) (by decide +kernel)) (fun _ _ _ _ _ => (pg_name (i := 6) scHasForm.nd rfl (by first | exact Or.inl rfl | exact Or.inr rfl))) (fun _ _ _ _ _ => pts_nil) (fun _ _ _ _ _ => (C8.pe_c (calIsTask T) hr (by decide) rfl (pa_cons (pv 6) pa_nil)))) pa_nil)))) (pw_or1 (pt_not (pt_val (C8.pe_c (calAreTuples T) hr (by decide) rfl (pa_cons (pv 4) (pa_cons (C8.pe_gc rfl (T.gci 78)) (pa_cons pe_int pa_nil)))))))))) (pss_one (ps_ret pe_bl)) pss_nil)
      (pss_cons (ps_if (PW.pt (pw_or (pt_not (pt_val (pe_callB (id := "all") (cr_all rfl) rfl (T.fr 54) (by decide +kernel) (pa_cons (pe_lc (own := [("wait", 7)]) (g := gName 7) rfl scHasForm.nd (pi_tup (pv 4)) (blkOk_by (own := [("wait", 7)]) (N := ["thing", "machines", "goods", "tasks", "waits", "fixed", "task", "wait", "begin"]) (sc := (defScope sHasForm)) (by decide +kernel)) (fun _ _ _ _ _ => (pg_name (i := 7) scHasForm.nd rfl (by first | exact Or.inl rfl | exact Or.inr rfl))) (fun _ _ _ _ _ => pts_nil) (fun _ _ _ _ _ => (C8.pe_c (calIsWait T) hr (by decide) rfl (pa_cons (pv 7) pa_nil)))) pa_nil)))) (pw_or1 (pt_not (pt_val (C8.pe_c (calAreTuples T) hr (by decide) rfl (pa_cons (pv 5) (pa_cons (C8.pe_gc rfl (T.gci 74)) (pa_cons pe_int pa_nil))))))))) (pss_one (ps_ret pe_bl)) pss_nil)
      (pss_one (ps_ret (pe_callB (id := "all") (cr_all rfl) rfl (T.fr 54) (by decide +kernel) (pa_cons (pe_lc (own := [("task", 6), ("begin", 8)]) (g := gTup K 2 (gCons (gName 6) (gCons (gName 8) gNil))) rfl scHasForm.nd (pi_tup (pv 5)) (blkOk_by (own := [("task", 6), ("begin", 8)]) (N := ["thing", "machines", "goods", "tasks", "waits", "fixed", "task", "wait", "begin"]) (sc := (defScope sHasForm)) (by decide +kernel)) (fun _ _ _ _ _ => (pg_tup rfl (pgs_cons (pg_name (i := 6) scHasForm.nd rfl (by first | exact Or.inl rfl | exact Or.inr rfl)) (pgs_cons (pg_name (i := 8) scHasForm.nd rfl (by first | exact Or.inl rfl | exact Or.inr rfl)) pgs_nil)))) (fun _ _ _ _ _ => pts_nil) (fun _ _ _ _ _ => (pe_and (C8.pe_c (calIsAmong T) hr (by decide) rfl (pa_cons (pv 6) (pa_cons pe_int (pa_cons (C8.pe_gc rfl (T.gci 76)) pa_nil)))) (pe_one (C8.pe_c (calIsAmong T) hr (by decide) rfl (pa_cons (pv 8) (pa_cons pe_int (pa_cons (C8.pe_gc rfl (T.gci 76)) pa_nil)))))))) pa_nil))))))))), bodyP h fun B xs y hR => by
    obtain ⟨b, rfl, hb, rfl⟩ := hR
    have lm : (b.ms.map PyData.str).length ≤ sizeLine := by rw [List.length_map]; exact Nat.le_trans hb.ms.1 (by decide)
    have lt : (b.ts.map pT).length ≤ sizeLine := by rw [List.length_map]; exact Nat.le_trans hb.ts.1 (by decide)
    have lw : (b.ws.map pW).length ≤ sizeLine := by rw [List.length_map]; exact Nat.le_trans hb.ws.1 (by decide)
    have lf : (b.fx.map pF).length ≤ sizeLine := by rw [List.length_map]; exact Nat.le_trans hb.fx.1 (by decide)
    have h1 := hb.gs.1
    have h2 := hb.ts.1
    have h3 := hb.ws.1
    have h4 := hb.fx.1
    refine s_cut (M := fun r => r = args ["thing", "machines", "goods", "tasks", "waits", "fixed", "task", "wait", "begin"] [pB b]) (s_if <| wt_or <| wt_not <| wt_B <| w_isi (.tup _) (b := true) (by decide +kernel) <| w_var rfl ⟨rfl, _, rfl, fun _ => wt_test <| w_op <| w_cb <| wa_cons <| w_var rfl <| wa_nil ⟨_, cd_lenU, w_int ⟨_, od_neI, _, rfl, ?_⟩⟩, nofun⟩) ?_
    · exact ⟨nofun, fun _ => s_next rfl⟩
    rintro r rfl
    refine s_seq <| s_asg <| w_var rfl <| g_tup rfl rfl <| gs_cons <| g_name trivial rfl <| gs_cons <| g_name trivial rfl <| gs_cons <| g_name trivial rfl <| gs_cons <| g_name trivial rfl <| gs_cons <| g_name trivial rfl <| gs_nil ?_
    refine s_seq <| s_if <| wt_or <| wt_not <| wt_B <| w_call <| wa_cons <| w_var rfl <| wa_nil ⟨.bool true, ⟨b.ms, rfl, hb.ms.1, hb.ms.2.1, rfl⟩, _, rfl, fun _ => ?_, nofun⟩
    refine wt_or <| wt_not <| wt_B <| w_call <| wa_cons <| w_var rfl <| wa_cons <| w_int <| wa_nil ⟨.bool true, ⟨b.gs, _, rfl, by omega, Nat.le_trans h1 (by decide), hb.gs.2.1, rfl⟩, _, rfl, fun _ => ?_, nofun⟩
    refine wt_not <| wt_B <| w_call <| wa_cons <| w_var rfl <| wa_cons <| w_int <| wa_cons <| w_int <| wa_nil ⟨.bool true, ⟨b.ts.map pT, _, _, rfl, by rw [List.length_map]; omega, lt, fun z hz => ?_, rfl⟩, _, rfl, nofun, fun _ => s_next ?_⟩
    · obtain ⟨t, _, rfl⟩ := mem_map_ex hz
      exact ⟨_, rfl, rfl⟩
    refine s_seq <| s_if <| wt_or <| wt_test <| w_op <| w_var rfl <| w_tup <| wa_nil ⟨Nat.zero_le _, _, od_eqD (sh_tup (n := 3) (shs_map fun t ht => sh_T (hb.ts.2.1 t ht))).shaped (sh_tup (n := 0) shs_nil).shaped, _, rfl, fun q => ?_, fun q => ⟨fun _ => ?_, nofun⟩⟩
    · rw [eqv_tup_nil, isE_map] at q
      rw [q]
      refine wt_or <| wt_not <| wt_B <| w_cb <| wa_cons <| w_fr <| wl_map <| wi_tup <| w_var rfl ⟨_, rfl, fun _ => .bool true, lt, rfl, fun x hx B' => ?_, wa_nil ⟨_, cd_allT, _, rfl, fun _ => ?_, nofun⟩⟩
      · obtain ⟨t, h5, rfl⟩ := mem_map_ex hx
        exact g_name (by decide) rfl <| w_call <| wa_cons <| w_var rfl <| wa_nil ⟨.bool true, ⟨t, rfl, (hb.ts.2.1 t h5).form, rfl⟩, rfl, rfl⟩
      refine wt_not <| wt_B <| w_call <| wa_cons <| w_var rfl <| wa_cons <| w_int <| wa_cons <| w_int <| wa_nil ⟨.bool true, ⟨b.ws.map pW, _, _, rfl, by rw [List.length_map]; omega, lw, fun z hz => ?_, rfl⟩, _, rfl, nofun, fun _ => s_next ?_⟩
      · obtain ⟨t, _, rfl⟩ := mem_map_ex hz
        exact ⟨_, rfl, rfl⟩
      refine s_seq <| s_if <| wt_or <| wt_not <| wt_B <| w_cb <| wa_cons <| w_fr <| wl_map <| wi_tup <| w_var rfl ⟨_, rfl, fun _ => .bool true, lw, rfl, fun x hx B' => ?_, wa_nil ⟨_, cd_allT, _, rfl, fun _ => ?_, nofun⟩⟩
      · obtain ⟨t, h5, rfl⟩ := mem_map_ex hx
        have h6 := hb.ws.2 t h5
        exact g_name (by decide) rfl <| w_call <| wa_cons <| w_var rfl <| wa_nil ⟨.bool true, ⟨t, rfl, h6.1, by omega, h6.2.2, rfl⟩, rfl, rfl⟩
      refine wt_not <| wt_B <| w_call <| wa_cons <| w_var rfl <| wa_cons <| w_int <| wa_cons <| w_int <| wa_nil ⟨.bool true, ⟨b.fx.map pF, _, _, rfl, by rw [List.length_map]; omega, lf, fun z hz => ?_, rfl⟩, _, rfl, nofun, fun _ => s_next ?_⟩
      · obtain ⟨t, _, rfl⟩ := mem_map_ex hz
        exact ⟨_, rfl, rfl⟩
      refine s_ret <| w_cb <| wa_cons <| w_fr <| wl_map <| wi_tup <| w_var rfl ⟨_, rfl, fun _ => .bool true, lf, rfl, fun x hx B' => ?_, wa_nil ⟨_, cd_allT, rfl⟩⟩
      obtain ⟨p, h5, rfl⟩ := mem_map_ex hx
      obtain ⟨h6, t, h7, _⟩ := hb.fx.2.1 p h5
      have h8 := (List.getElem?_eq_some_iff.mp h7).1
      refine g_tup rfl rfl <| gs_cons <| g_name (by decide) rfl <| gs_cons <| g_name (by decide) rfl <| gs_nil ?_
      refine w_and <| w_call <| wa_cons <| w_var rfl <| wa_cons <| w_int <| wa_cons <| w_int <| wa_nil ⟨.bool true, ⟨_, _, _, rfl, by omega, by omega, rfl⟩, _, rfl, fun _ => ?_, nofun⟩
      exact w_call <| wa_cons <| w_var rfl <| wa_cons <| w_int <| wa_cons <| w_int <| wa_nil ⟨.bool true, ⟨_, _, _, rfl, by omega, by omega, rfl⟩, rfl, rfl⟩
    · rw [eqv_tup_nil, isE_map] at q
      rw [q]
      exact s_ret <| w_bl rfl⟩
end
end Bw
set_option Elab.async false
set_option linter.all false
set_option maxRecDepth 100000
set_option maxHeartbeats 2000000
/-! Typed comprehensions; defs of a book. -/
namespace Bw
open PySem PySem.Spec L2 Evl
section
variable {K : PySem.W.Frag} {B : Bs} {ρ : Es} {te ta tb : TE} {tl : TA} {P : Pd → Es → Prop} {PL : List Pd → Es → Prop} {e : En} {wi : TI} {g : TG} {tt : TT}
/-- over the data of plain things, with a test -/
theorem wl_filterA {α : Type} {vs : List Nat} (h : WI K B wi ρ fun xs ρ1 => ∃ (as : List α) (enc : α → Pd) (p : α → Bool) (f : α → Pd), xs = as.map enc ∧ as.length ≤ sizeLine ∧ (vs.all fun v => flatS (ρ1.getD v .n)) = true ∧
      (∀ a, a ∈ as → ∀ B', G K B' (fun j => j ∈ vs) g (enc a) (wipeE vs ρ1) fun ρ3 => WT K B' tt ρ3 fun b ρ4 => b = p a ∧ (b = true → WE K B' te ρ4 fun y ρ5 => y = f a ∧ unw vs ρ1 ρ5 = ρ1) ∧ (b = false → unw vs ρ1 ρ4 = ρ1)) ∧ PL ((as.filter p).map f) ρ1) : WL K B (tLc wi g tt te vs) ρ PL :=
  wl_lc fun σ F H r R q => h σ F H r R fun J xs ρ1 F1 H1 Gd Y p1 => q J xs ρ1 F1 H1 Gd Y (by
    obtain ⟨as, enc, p, f, hxs, hz, fl, hs, hp⟩ := p1
    subst hxs
    refine ⟨fun i acc ρ2 => acc = ((as.take i).filter p).map f ∧ ρ2 = ρ1, ⟨by simp, rfl⟩, by rw [List.length_map]; exact hz, fun i x acc ρ2 hx ⟨ha, hr⟩ => ?_, fun acc ρ2 ⟨ha, hr⟩ => ?_⟩
    · subst hr
      rw [List.getElem?_map] at hx
      cases e1 : as[i]? with
      | none => rw [e1] at hx; cases hx
      | some a =>
        rw [e1] at hx
        obtain rfl : enc a = x := Option.some.inj hx
        obtain ⟨hi, he⟩ := List.getElem?_eq_some_iff.mp e1
        have st : (as.take (i + 1)).filter p = (as.take i).filter p ++ (if p a = true then [a] else []) := by
          rw [List.take_succ_eq_append_getElem hi, List.filter_append, he]
          cases hpx : p a <;> simp [hpx]
        refine ⟨fl, fun B' σ' F' H' v r' d' Q' q' => hs a (List.mem_of_getElem? e1) B' σ' F' H' v r' d' Q' fun σ2 ρ3 k => q' σ2 ρ3 (k.mono fun b ρ4 ⟨hb, k1, k2⟩ => ⟨fun hb' => (k1 hb').mono fun y ρ5 ⟨h1, h2⟩ => ⟨?_, h2⟩, fun hb' => ⟨?_, k2 hb'⟩⟩)⟩
        · rw [st, h1, ha, ← hb, hb', if_pos rfl, List.map_append]
          rfl
        · rw [st, ha, ← hb, hb', if_neg Bool.false_ne_true, List.append_nil]
    · rw [ha, hr, List.length_map, List.take_length]
      exact hp)
theorem wl_mapA {α : Type} {vs : List Nat} (h : WI K B wi ρ fun xs ρ1 => ∃ (as : List α) (enc : α → Pd) (f : α → Pd), xs = as.map enc ∧ as.length ≤ sizeLine ∧ (vs.all fun v => flatS (ρ1.getD v .n)) = true ∧
      (∀ a, a ∈ as → ∀ B', G K B' (fun j => j ∈ vs) g (enc a) (wipeE vs ρ1) fun ρ3 => WE K B' te ρ3 fun y ρ5 => y = f a ∧ unw vs ρ1 ρ5 = ρ1) ∧ PL (as.map f) ρ1) : WL K B (tLc wi g tYes te vs) ρ PL :=
  wl_filterA fun σ F H r R q => h σ F H r R fun J xs ρ1 F1 H1 Gd Y p1 => q J xs ρ1 F1 H1 Gd Y (by
    obtain ⟨as, enc, f, hxs, hz, fl, hs, hp⟩ := p1
    refine ⟨as, enc, fun _ => true, f, hxs, hz, fl, fun a ha B' σ' F' H' v r' d' Q' q' => hs a ha B' σ' F' H' v r' d' Q' fun σ2 ρ3 k => q' σ2 ρ3 (wt_yes ⟨rfl, fun _ => k, nofun⟩), ?_⟩
    rw [show as.filter (fun _ => true) = as from List.filter_eq_self.mpr fun _ _ => rfl]
    exact hp)
theorem w_listRg (h : WE K B ta ρ fun x ρ1 => ∃ n : Nat, x = .int n ∧ n ≤ 1000 ∧ P (.list ((List.range n).map fun i => .int (i : Nat))) ρ1) : WE K B (tLstRg (tRg1 ta)) ρ P := fun σ F H r Q q =>
  h σ F H r _ fun v x ρ1 F1 H1 p1 e1 d1 r1 => by
    obtain ⟨n, ex, hn, p⟩ := p1
    subst ex
    cases d1
    refine ⟨n, rfl, RgOk.of_le (by omega) (by omega) (by omega) (by omega), fun a ha => ?_⟩
    have e : rgV 0 (n : Int) = (List.range n).map fun i => V.int (i : Nat) := by
      unfold rgV
      rw [show ((n : Int) - 0).toNat = n by omega]
      refine List.map_congr_left fun i _ => ?_
      rw [Int.zero_add]
    rw [e]
    have hd : ∀ l : List Nat, DpAll K F1 (l.map fun i => V.int (i : Nat)) (l.map fun i => PyData.int (i : Nat)) := fun l => by
      induction l with
      | nil => exact .nil
      | cons i l ih => exact .cons (.int _) ih
    exact gr_lst r1.sub ha (hd (List.range n)) fun w F2 H2 g d2 => q w _ ρ1 F2 H2 p (e1.trans g.f) d2 (r1.gr g)
/-! ### defs of a book -/
def spBk (K : PySem.W.Frag) (R : Bd → Pd → Prop) : Sp := fun vs H Q _ => ∃ F v b y, vs = [v] ∧ Ex F H ∧ (bookMo K b).p F v ∧ R b y ∧ ∀ u F' H', Gr F H F' H' → Dp K F' u y → Q u H'
theorem w_callB {R : Bd → Pd → Prop} {E : XK} {i : Nat} {b : Bd} {y : Pd} (h : ρ[i]? = some (.q (bookMo K b))) (hR : R b y) (p : P y ρ) : WE K B (tCall (spBk K R) [] E (tCons (tVar i) tNil)) ρ P := fun σ F H r Q q => by
  obtain ⟨u, hu, hΦ⟩ := slot_q r h
  exact ⟨u, hu, F, u, b, y, rfl, r.sub, hΦ, hR, fun v F2 H2 g d2 => q _ _ ρ F2 H2 p g.f d2 (r.gr g)⟩
theorem relQ {F H : Hp} {N : List Str} {v : V} {Φ : Mo} (hN : 1 ≤ N.length) (s : Ex F H) (h : Φ.p F v) : Rel K ⟨fun _ => False, F, H, none⟩ (L2.start N [v]) (.q Φ :: List.replicate (N.length - 1) .n) F H := by
  have r0 := rel0 (K := K) (N := N) (vs := []) (xs := []) s .nil
  have e1 : L2.start N [v] = (L2.start N []).set 0 (some v) := by
    unfold L2.start
    obtain ⟨n, hn⟩ : ∃ n, N.length = n + 1 := ⟨N.length - 1, by omega⟩
    simp [hn, List.replicate_succ]
  have e2 : (.q Φ :: List.replicate (N.length - 1) .n : Es) = (args N []).set 0 (.q Φ) := by
    unfold args
    obtain ⟨n, hn⟩ : ∃ n, N.length = n + 1 := ⟨N.length - 1, by omega⟩
    simp [hn, List.replicate_succ]
  rw [e1, e2]
  refine r0.putQ ?_ h
  refine Nat.ble_eq_true_of_le ?_
  unfold args
  simpa using hN
theorem bodyB {R : Bd → Pd → Prop} {N : List Str} {vs : List V} {H : Hp} {Q : VK} {E : XK} {t : TS} (h : spBk K R vs H Q E) (hN : 1 ≤ N.length) (k : ∀ B b y, R b y → S K B t (.q (bookMo K b) :: List.replicate (N.length - 1) .n) { nx := fun _ => y = .none, rt := fun z _ => z = y }) : t { nx := fun _ H' => Q .non H', rt := Q } (L2.start N vs) H := by
  obtain ⟨F, v, b, y, ev, s, hΦ, hR, q⟩ := h
  subst ev
  refine k ⟨fun _ => False, F, H, none⟩ b y hR (L2.start N [v]) F H (relQ hN s hΦ) _ ⟨fun σ' ρ' F' H' e x r => ?_, fun v z σ' ρ' F' H' e x dd r => ?_, fun _ _ _ _ e => e.elim, fun _ _ _ _ e => e.elim⟩
  · have e' : y = .none := e
    subst e'
    exact q .non F' H' r.out .non
  · have e' : z = y := e
    subst e'
    exact q v F' H' r.out dd
theorem lenB {R : Bd → Pd → Prop} : ∀ (vs : List V) (H : Hp) (Q : VK) (E : XK), spBk K R vs H Q E → vs.length = 1 := fun vs H Q E ⟨_, _, _, _, e, _⟩ => by rw [e]; rfl
end
theorem any_int {ls : List Nat} {a : Nat} : ((ls.map fun n => PyData.int (n : Nat)).any fun z => PyData.eqv z (.int (a : Nat))) = decide (a ∈ ls) := by
  induction ls with
  | nil => simp
  | cons n ls ih =>
    rw [List.map_cons, List.any_cons, ih]
    show (((n : Int) == (a : Int)) || decide (a ∈ ls)) = decide (a ∈ n :: ls)
    by_cases h : n = a
    · subst h; simp
    · have h1 : ¬ (n : Int) = (a : Int) := by omega
      have h2 : ¬ a = n := fun e => h e.symm
      simp [h1, h2]
theorem any_str {ls : List Str} {a : Str} : ((ls.map PyData.str).any fun z => PyData.eqv z (.str a)) = decide (a ∈ ls) := by
  induction ls with
  | nil => simp
  | cons n ls ih =>
    rw [List.map_cons, List.any_cons, ih]
    show ((n == a) || decide (a ∈ ls)) = decide (a ∈ n :: ls)
    by_cases h : n = a
    · subst h; simp
    · have h2 : ¬ a = n := fun e => h e.symm
      simp [h, h2]
theorem sh_ints {ls : List Nat} : Sh 1 (.list (ls.map fun n => .int (n : Nat))) := sh_list (n := 0) (shs_map fun _ _ => sh_int)
end Bw
set_option Elab.async false
set_option linter.all false
set_option maxRecDepth 100000
set_option maxHeartbeats 2000000
namespace Bk
open PySem
/-- the scope of the comprehension that is all's argument -/
def lcScopeAreAllUnlike1 : Scope := match (L2.defBody sAreAllUnlike).getD 3 (.Pass ⟨0, 0, 0, 0⟩) with
  | .Return (some (.Call _ [.ListComp _ _ sc _] _ _)) _ => sc
  | _ => ⟨.function, [], false, false, []⟩
end Bk
namespace Bw
open PySem PySem.Spec L2 Evl
open Bk (sAreUnlike sAreAllUnlike sAreAllThere sAreNeedsMet sGoesRound sWrongIn)
theorem nodup_map {α β : Type} {f : α → β} (inj : ∀ a b, f a = f b → a = b) {xs : List α} (h : xs.Nodup) : (xs.map f).Nodup := List.Pairwise.map f (fun a b hab z => hab (inj a b z)) h
section
variable {P : Program} {w : World} {K : PySem.W.Frag} {mg : Str → Option Value} {base : Heap}
theorem scAreUnlike : FnScope ["things"] ["things"] (defScope sAreUnlike) := ⟨rfl, rfl, rfl, by decide +kernel, rfl, by decide +kernel, by decide +kernel⟩
def RareUnlike : List Pd → Pd → Prop := fun xs y => ∃ ks : List L2.Key, xs = [.list (ks.map kD)] ∧ ks.Nodup ∧ ks.length ≤ 60 ∧ y = .bool true
theorem calAreUnlike (T : Tx K mg) : C8.Cal P w K mg base 1 "are_unlike" (spP K RareUnlike) [] :=
  cal_of (st := sAreUnlike) (T.def_ 10 (d := Bk.dAreUnlike) rfl) (T.glo 10) scAreUnlike (fun _ _ _ _ _ _ us hl => match us, hl with | [_], _ => rfl) (lenP fun xs y ⟨_, e, _⟩ => by rw [e]; rfl) fun cdv A outer s H vs Q E hr h => ⟨_, (pss_one (ps_ret (pe_cmpR op_eq (Bw.pe_lenSet rfl (T.fr 52) (T.fr 55) (pv 0)) (pe_callB (id := "len") call_len_seq rfl (T.fr 52) (by decide +kernel) (pa_cons (pv 0) pa_nil)) (nomark _)))), bodyP h fun B xs y hR => by
    obtain ⟨ks, rfl, nd, few, rfl⟩ := hR
    refine s_ret <| w_op <| w_lenSet <| w_var rfl ⟨ks, rfl, nd, few, w_cb <| wa_cons <| w_var rfl <| wa_nil ⟨_, cd_lenL, _, od_eqI, ?_⟩⟩
    rw [List.length_map]
    exact congrArg PyData.bool (decide_eq_true rfl)⟩
theorem unlS {ss : List Str} (nd : ss.Nodup) (few : ss.length ≤ 60) : RareUnlike [.list (ss.map .str)] (.bool true) :=
  ⟨ss.map .inr, by rw [List.map_map]; rfl, nodup_map (fun a b z => Sum.inr.inj z) nd, by rw [List.length_map]; exact few, rfl⟩
theorem unlI {ss : List Nat} (nd : ss.Nodup) (few : ss.length ≤ 60) : RareUnlike [.list (ss.map fun n => .int (n : Nat))] (.bool true) :=
  ⟨ss.map fun n => .inl (n : Nat), by rw [List.map_map]; rfl, nodup_map (fun a b z => Int.ofNat.inj (Sum.inl.inj z)) nd, by rw [List.length_map]; exact few, rfl⟩
theorem scAreAllUnlike : FnScope ["book", "machines", "goods", "tasks", "waits", "fixed", "name", "many", "task", "number", "begin", "good"] ["book"] (defScope sAreAllUnlike) := ⟨rfl, rfl, rfl, by decide +kernel, rfl, by decide +kernel, by decide +kernel⟩
def RareAllUnlike : List Pd → Pd → Prop := fun xs y => ∃ b, xs = [pB b] ∧ BdOk b ∧ y = .bool true
theorem calAreAllUnlike (T : Tx K mg) : C8.Cal P w K mg base 2 "are_all_unlike" (spP K RareAllUnlike) [] :=
  cal_of (st := sAreAllUnlike) (T.def_ 11 (d := Bk.dAreAllUnlike) rfl) (T.glo 11) scAreAllUnlike (fun _ _ _ _ _ _ us hl => match us, hl with | [_], _ => rfl) (lenP fun xs y ⟨_, e, _⟩ => by rw [e]; rfl) fun cdv A outer s H vs Q E hr h => ⟨_, (pss_cons (ps_asg (pv 0) (pg_tup rfl (pgs_cons (pg_name (i := 1) scAreAllUnlike.nd rfl (by first | exact Or.inl rfl | exact Or.inr rfl)) (pgs_cons (pg_name (i := 2) scAreAllUnlike.nd rfl (by first | exact Or.inl rfl | exact Or.inr rfl)) (pgs_cons (pg_name (i := 3) scAreAllUnlike.nd rfl (by first | exact Or.inl rfl | exact Or.inr rfl)) (pgs_cons (pg_name (i := 4) scAreAllUnlike.nd rfl (by first | exact Or.inl rfl | exact Or.inr rfl)) (pgs_cons (pg_name (i := 5) scAreAllUnlike.nd rfl (by first | exact Or.inl rfl | exact Or.inr rfl)) pgs_nil)))))))
      (pss_cons (ps_if (PW.pt (pw_or (pt_not (pt_val (C8.pe_c (calAreUnlike T) hr (by decide) rfl (pa_cons (pe_callTy (T := "list") call_list_of rfl (T.fr 57) (by decide +kernel) (pa_cons (pv 1) pa_nil)) pa_nil)))) (pw_or1 (pt_not (pt_val (C8.pe_c (calAreUnlike T) hr (by decide) rfl (pa_cons (pe_lc (own := [("name", 6), ("many", 7)]) (g := gTup K 2 (gCons (gName 6) (gCons (gName 7) gNil))) rfl scAreAllUnlike.nd (pi_tup (pv 2)) (blkOk_by (own := [("name", 6), ("many", 7)]) (N := ["book", "machines", "goods", "tasks", "waits", "fixed", "name", "many", "task", "number", "begin", "good"]) (sc := (defScope sAreAllUnlike)) (by decide +kernel)) (fun _ _ _ _ _ => (pg_tup rfl (pgs_cons (pg_name (i := 6) scAreAllUnlike.nd rfl (by first | exact Or.inl rfl | exact Or.inr rfl)) (pgs_cons (pg_name (i := 7) scAreAllUnlike.nd rfl (by first | exact Or.inl rfl | exact Or.inr rfl)) pgs_nil)))) (fun _ _ _ _ _ => pts_nil) (fun _ _ _ _ _ => (pv 6))) pa_nil))))))) (pss_one (ps_ret pe_bl)) pss_nil)
      (pss_cons (ps_if (PW.pt (pw_or (pt_not (pt_val (C8.pe_c (calAreUnlike T) hr (by decide) rfl (pa_cons (pe_lc (own := [("task", 8)]) (g := gName 8) rfl scAreAllUnlike.nd (pi_tup (pv 3)) (blkOk_by (own := [("task", 8)]) (N := ["book", "machines", "goods", "tasks", "waits", "fixed", "name", "many", "task", "number", "begin", "good"]) (sc := (defScope sAreAllUnlike)) (by decide +kernel)) (fun _ _ _ _ _ => (pg_name (i := 8) scAreAllUnlike.nd rfl (by first | exact Or.inl rfl | exact Or.inr rfl))) (fun _ _ _ _ _ => pts_nil) (fun _ _ _ _ _ => (pe_ix ix_tup (pv 8) pe_int (fun _ _ => rfl)))) pa_nil)))) (pw_or1 (pt_not (pt_val (C8.pe_c (calAreUnlike T) hr (by decide) rfl (pa_cons (pe_lc (own := [("number", 9), ("begin", 10)]) (g := gTup K 2 (gCons (gName 9) (gCons (gName 10) gNil))) rfl scAreAllUnlike.nd (pi_tup (pv 5)) (blkOk_by (own := [("number", 9), ("begin", 10)]) (N := ["book", "machines", "goods", "tasks", "waits", "fixed", "name", "many", "task", "number", "begin", "good"]) (sc := (defScope sAreAllUnlike)) (by decide +kernel)) (fun _ _ _ _ _ => (pg_tup rfl (pgs_cons (pg_name (i := 9) scAreAllUnlike.nd rfl (by first | exact Or.inl rfl | exact Or.inr rfl)) (pgs_cons (pg_name (i := 10) scAreAllUnlike.nd rfl (by first | exact Or.inl rfl | exact Or.inr rfl)) pgs_nil)))) (fun _ _ _ _ _ => pts_nil) (fun _ _ _ _ _ => (pv 9))) pa_nil))))))) (pss_one (ps_ret pe_bl)) pss_nil)
      (pss_one (ps_ret (pe_callB (id := "all") (cr_all rfl) rfl (T.fr 54) (by decide +kernel) (pa_cons (pe_lc (own := [("task", 8)]) (g := gName 8) rfl scAreAllUnlike.nd (pi_tup (pv 3)) (blkOk_by (own := [("task", 8)]) (N := ["book", "machines", "goods", "tasks", "waits", "fixed", "name", "many", "task", "number", "begin", "good"]) (sc := (defScope sAreAllUnlike)) (by decide +kernel)) (fun _ _ _ _ _ => (pg_name (i := 8) scAreAllUnlike.nd rfl (by first | exact Or.inl rfl | exact Or.inr rfl))) (fun _ _ _ _ _ => pts_nil) (fun _ _ _ _ _ => (by exact (C8.pe_c (calAreUnlike T) hr (by decide) rfl (pa_cons (by exact (pe_lc (wi := iTup K (tOp (rIxT K) (tVar 8) (tC (.int 3)))) (own := [("good", 11), ("many", 7)]) (g := gTup K 2 (gCons (gName 11) (gCons (gName 7) gNil))) rfl scAreAllUnlike.nd (pi_tup (pe_ix ix_tup (pv 8) pe_int (fun _ _ => rfl))) (blkOk_by (own := [("good", 11), ("many", 7)]) (N := ["book", "machines", "goods", "tasks", "waits", "fixed", "name", "many", "task", "number", "begin", "good"]) (sc := Bk.lcScopeAreAllUnlike1) (by decide +kernel)) (fun _ _ _ _ _ => (pg_tup rfl (pgs_cons (pg_name (i := 11) scAreAllUnlike.nd rfl (by first | exact Or.inl rfl | exact Or.inr rfl)) (pgs_cons (pg_name (i := 7) scAreAllUnlike.nd rfl (by first | exact Or.inl rfl | exact Or.inr rfl)) pgs_nil)))) (fun _ _ _ _ _ => pts_nil) (fun _ _ _ _ _ => (pv 11)))) pa_nil))))) pa_nil))))))), bodyP h fun B xs y hR => by
    obtain ⟨b, rfl, hb, rfl⟩ := hR
    refine s_seq <| s_asg <| w_var rfl <| g_tup rfl rfl <| gs_cons <| g_name trivial rfl <| gs_cons <| g_name trivial rfl <| gs_cons <| g_name trivial rfl <| gs_cons <| g_name trivial rfl <| gs_cons <| g_name trivial rfl <| gs_nil ?_
    refine s_seq <| s_if <| wt_or <| wt_not <| wt_B <| w_call <| wa_cons <| w_cb <| wa_cons <| w_var rfl <| wa_nil ⟨_, cd_listU, wa_nil ⟨.bool true, unlS hb.ms.2.2 (Nat.le_trans hb.ms.1 (by decide)), _, rfl, fun _ => ?_, nofun⟩⟩
    refine wt_not <| wt_B <| w_call <| wa_cons <| w_fr <| wl_mapA <| wi_tup <| w_var rfl ⟨_, rfl, b.gs, pN, fun p => .str p.1, rfl, Nat.le_trans hb.gs.1 (by decide), rfl, fun p hp B' => ?_, ?_⟩
    · exact g_tup rfl rfl <| gs_cons <| g_name (by decide) rfl <| gs_cons <| g_name (by decide) rfl <| gs_nil <| w_var rfl ⟨rfl, rfl⟩
    rw [show b.gs.map (fun p => PyData.str p.1) = (b.gs.map (·.1)).map .str by rw [List.map_map]; rfl]
    refine wa_nil ⟨.bool true, unlS hb.gs.2.2 (by rw [List.length_map]; exact Nat.le_trans hb.gs.1 (by decide)), _, rfl, nofun, fun _ => s_next ?_⟩
    refine s_seq <| s_if <| wt_or <| wt_not <| wt_B <| w_call <| wa_cons <| w_fr <| wl_mapA <| wi_tup <| w_var rfl ⟨_, rfl, b.ts, pT, fun t => .str t.name, rfl, Nat.le_trans hb.ts.1 (by decide), rfl, fun p hp B' => ?_, ?_⟩
    · exact g_name (by decide) rfl <| w_op <| w_var rfl <| w_int ⟨_, od_ixT (atI_n (j := 0) rfl), rfl, rfl⟩
    rw [show b.ts.map (fun t => PyData.str t.name) = (b.ts.map (·.name)).map .str by rw [List.map_map]; rfl]
    refine wa_nil ⟨.bool true, unlS hb.ts.2.2 (by rw [List.length_map]; exact Nat.le_trans hb.ts.1 (by decide)), _, rfl, fun _ => ?_, nofun⟩
    refine wt_not <| wt_B <| w_call <| wa_cons <| w_fr <| wl_mapA <| wi_tup <| w_var rfl ⟨_, rfl, b.fx, pF, fun p => .int p.1, rfl, Nat.le_trans hb.fx.1 (by decide), rfl, fun p hp B' => ?_, ?_⟩
    · exact g_tup rfl rfl <| gs_cons <| g_name (by decide) rfl <| gs_cons <| g_name (by decide) rfl <| gs_nil <| w_var rfl ⟨rfl, rfl⟩
    rw [show b.fx.map (fun p => PyData.int p.1) = (b.fx.map (·.1)).map fun n => .int (n : Nat) by rw [List.map_map]; rfl]
    refine wa_nil ⟨.bool true, unlI hb.fx.2.2 (by rw [List.length_map]; exact Nat.le_trans hb.fx.1 (by decide)), _, rfl, nofun, fun _ => s_next ?_⟩
    refine s_ret <| w_cb <| wa_cons <| w_fr <| wl_mapA <| wi_tup <| w_var rfl ⟨_, rfl, b.ts, pT, fun _ => .bool true, rfl, Nat.le_trans hb.ts.1 (by decide), rfl, fun t ht B' => ?_, wa_nil ⟨_, cd_allT, rfl⟩⟩
    have hk := hb.ts.2.1 t ht
    refine g_name (by decide) rfl <| w_call <| wa_cons <| w_fr <| wl_mapA <| wi_tup <| w_op <| w_var rfl <| w_int ⟨_, od_ixT (atI_n (j := 3) rfl), _, rfl, t.needs, pN, fun p => .str p.1, rfl, Nat.le_trans hk.few (by decide), rfl, fun p hp B2 => ?_, ?_⟩
    · exact g_tup rfl rfl <| gs_cons <| g_name (by decide) rfl <| gs_cons <| g_name (by decide) rfl <| gs_nil <| w_var rfl ⟨rfl, rfl⟩
    rw [show t.needs.map (fun p => PyData.str p.1) = (t.needs.map (·.1)).map .str by rw [List.map_map]; rfl]
    exact wa_nil ⟨.bool true, unlS hk.unl (by rw [List.length_map]; exact Nat.le_trans hk.few (by decide)), rfl, rfl⟩⟩
end
end Bw
set_option Elab.async false
set_option linter.all false
set_option maxRecDepth 100000
set_option maxHeartbeats 2000000
namespace Bw
open PySem PySem.Spec L2 Evl
open Bk (sAreUnlike sAreAllUnlike sAreAllThere sAreNeedsMet sGoesRound sWrongIn)
section
variable {P : Program} {w : World} {K : PySem.W.Frag} {mg : Str → Option Value} {base : Heap}
theorem w_maxT {B : Bs} {ρ : Es} {te : TE} {i j : Int} {Pq : Pd → Es → Prop} (lt : i < j) (h : WE K B te ρ fun x ρ1 => x = .tuple [.int i, .int j] ∧ Pq (.int j) ρ1) : WE K B (tCB (rMaxT K) (tCons te tNil)) ρ Pq := fun σ F H rl Q q =>
  h σ F H rl _ fun v x ρ1 F1 H1 p1 e1 d1 r1 => by
    obtain ⟨ex, p⟩ := p1
    subst ex
    cases d1 with
    | tup hs ha =>
      have e := ints_of (ss := [i, j]) ha
      subst e
      exact ⟨_, i, j, rfl, ex_t r1.sub hs, lt, q _ _ ρ1 F1 H1 p e1 (.int _) r1⟩
theorem scAreAllThere : FnScope ["book", "machines", "goods", "tasks", "waits", "fixed", "known", "name", "many", "task", "good", "wait", "pair"] ["book"] (defScope sAreAllThere) := ⟨rfl, rfl, rfl, by decide +kernel, rfl, by decide +kernel, by decide +kernel⟩
def RareAllThere : List Pd → Pd → Prop := fun xs y => ∃ b, xs = [pB b] ∧ BdOk b ∧ y = .bool true
theorem calAreAllThere (T : Tx K mg) : C8.Cal P w K mg base 1 "are_all_there" (spP K RareAllThere) [] :=
  cal_of (st := sAreAllThere) (T.def_ 12 (d := Bk.dAreAllThere) rfl) (T.glo 12) scAreAllThere (fun _ _ _ _ _ _ us hl => match us, hl with | [_], _ => rfl) (lenP fun xs y ⟨_, e, _⟩ => by rw [e]; rfl) fun cdv A outer s H vs Q E hr h => ⟨_, (pss_cons (ps_asg (pv 0) (pg_tup rfl (pgs_cons (pg_name (i := 1) scAreAllThere.nd rfl (by first | exact Or.inl rfl | exact Or.inr rfl)) (pgs_cons (pg_name (i := 2) scAreAllThere.nd rfl (by first | exact Or.inl rfl | exact Or.inr rfl)) (pgs_cons (pg_name (i := 3) scAreAllThere.nd rfl (by first | exact Or.inl rfl | exact Or.inr rfl)) (pgs_cons (pg_name (i := 4) scAreAllThere.nd rfl (by first | exact Or.inl rfl | exact Or.inr rfl)) (pgs_cons (pg_name (i := 5) scAreAllThere.nd rfl (by first | exact Or.inl rfl | exact Or.inr rfl)) pgs_nil)))))))
      (pss_cons (ps_set (i := 6) scAreAllThere.nd rfl (by first | exact Or.inl rfl | exact Or.inr rfl) (pe_lc (own := [("name", 7), ("many", 8)]) (g := gTup K 2 (gCons (gName 7) (gCons (gName 8) gNil))) rfl scAreAllThere.nd (pi_tup (pv 2)) (blkOk_by (own := [("name", 7), ("many", 8)]) (N := ["book", "machines", "goods", "tasks", "waits", "fixed", "known", "name", "many", "task", "good", "wait", "pair"]) (sc := (defScope sAreAllThere)) (by decide +kernel)) (fun _ _ _ _ _ => (pg_tup rfl (pgs_cons (pg_name (i := 7) scAreAllThere.nd rfl (by first | exact Or.inl rfl | exact Or.inr rfl)) (pgs_cons (pg_name (i := 8) scAreAllThere.nd rfl (by first | exact Or.inl rfl | exact Or.inr rfl)) pgs_nil)))) (fun _ _ _ _ _ => pts_nil) (fun _ _ _ _ _ => (pv 7))))
      (pss_cons (ps_for PassesOwn.never rfl (pi_tup (pv 3)) (pg_name (i := 9) scAreAllThere.nd rfl (by first | exact Or.inl rfl | exact Or.inr rfl)) (pss_one (ps_if (PW.pt (pw_or (PW.pt (pw_and (pt_cmpR op_ne (pe_ix ix_tup (pv 9) pe_int (fun _ _ => rfl)) pe_str (nomark _)) (pw_and1 (pt_cmpR op_notIn_seq (pe_ix ix_tup (pv 9) pe_int (fun _ _ => rfl)) (pv 1) (by rfl))))) (pw_or1 (pt_not (pt_val (pe_callB (id := "all") (cr_all rfl) rfl (T.fr 54) (by decide +kernel) (pa_cons (pe_lc (own := [("good", 10), ("many", 8)]) (g := gTup K 2 (gCons (gName 10) (gCons (gName 8) gNil))) rfl scAreAllThere.nd (pi_tup (pe_ix ix_tup (pv 9) pe_int (fun _ _ => rfl))) (blkOk_by (own := [("good", 10), ("many", 8)]) (N := ["book", "machines", "goods", "tasks", "waits", "fixed", "known", "name", "many", "task", "good", "wait", "pair"]) (sc := (defScope sAreAllThere)) (by decide +kernel)) (fun _ _ _ _ _ => (pg_tup rfl (pgs_cons (pg_name (i := 10) scAreAllThere.nd rfl (by first | exact Or.inl rfl | exact Or.inr rfl)) (pgs_cons (pg_name (i := 8) scAreAllThere.nd rfl (by first | exact Or.inl rfl | exact Or.inr rfl)) pgs_nil)))) (fun _ _ _ _ _ => pts_nil) (fun _ _ _ _ _ => (pe_cmpR (op_inD (Bw.u65 hr)) (pv 10) (pv 6) (by rfl)))) pa_nil))))))) (pss_one (ps_ret pe_bl)) pss_nil)))
      (pss_one (ps_ret (pe_and (pe_callB (id := "all") (cr_all rfl) rfl (T.fr 54) (by decide +kernel) (pa_cons (pe_lc (own := [("wait", 11)]) (g := gName 11) rfl scAreAllThere.nd (pi_tup (pv 4)) (blkOk_by (own := [("wait", 11)]) (N := ["book", "machines", "goods", "tasks", "waits", "fixed", "known", "name", "many", "task", "good", "wait", "pair"]) (sc := (defScope sAreAllThere)) (by decide +kernel)) (fun _ _ _ _ _ => (pg_name (i := 11) scAreAllThere.nd rfl (by first | exact Or.inl rfl | exact Or.inr rfl))) (fun _ _ _ _ _ => pts_nil) (fun _ _ _ _ _ => (pe_cmpR op_lt (pe_callB (id := "max") (Bw.cr_maxT rfl (Bw.u65 hr)) rfl (T.fr 59) (by decide +kernel) (pa_cons (pe_slice sl_tupA (pv 11) po_none (po_some pe_int)) pa_nil)) (pe_callB (id := "len") call_len_seq rfl (T.fr 52) (by decide +kernel) (pa_cons (pv 3) pa_nil)) (nomark _)))) pa_nil)) (pe_one (pe_callB (id := "all") (cr_all rfl) rfl (T.fr 54) (by decide +kernel) (pa_cons (pe_lc (own := [("pair", 12)]) (g := gName 12) rfl scAreAllThere.nd (pi_tup (pv 5)) (blkOk_by (own := [("pair", 12)]) (N := ["book", "machines", "goods", "tasks", "waits", "fixed", "known", "name", "many", "task", "good", "wait", "pair"]) (sc := (defScope sAreAllThere)) (by decide +kernel)) (fun _ _ _ _ _ => (pg_name (i := 12) scAreAllThere.nd rfl (by first | exact Or.inl rfl | exact Or.inr rfl))) (fun _ _ _ _ _ => pts_nil) (fun _ _ _ _ _ => (pe_cmpR op_lt (pe_ix ix_tup (pv 12) pe_int (fun _ _ => rfl)) (pe_callB (id := "len") call_len_seq rfl (T.fr 52) (by decide +kernel) (pa_cons (pv 3) pa_nil)) (nomark _)))) pa_nil))))))))), bodyP h fun B xs y hR => by
    obtain ⟨b, rfl, hb, rfl⟩ := hR
    refine s_seq <| s_asg <| w_var rfl <| g_tup rfl rfl <| gs_cons <| g_name trivial rfl <| gs_cons <| g_name trivial rfl <| gs_cons <| g_name trivial rfl <| gs_cons <| g_name trivial rfl <| gs_cons <| g_name trivial rfl <| gs_nil ?_
    refine s_seq <| s_set <| w_fr <| wl_mapA <| wi_tup <| w_var rfl ⟨_, rfl, b.gs, pN, fun p => .str p.1, rfl, Nat.le_trans hb.gs.1 (by decide), rfl, fun p hp B' => ?_, rfl, ?_⟩
    · exact g_tup rfl rfl <| gs_cons <| g_name (by decide) rfl <| gs_cons <| g_name (by decide) rfl <| gs_nil <| w_var rfl ⟨rfl, rfl⟩
    have eg : b.gs.map (fun p => PyData.str p.1) = (b.gs.map (·.1)).map .str := by rw [List.map_map]; rfl
    rw [eg]
    have sg : Sh 1 (.list ((b.gs.map (·.1)).map .str)) := sh_list (n := 0) (shs_map fun z hz => by
      obtain ⟨p, hp, rfl⟩ := List.mem_map.mp hz
      exact sh_name (hb.gs.2.1 p hp).1)
    refine s_seq <| s_for <| wi_tup <| w_var rfl ⟨_, rfl, fun _ r => ∃ t, r = [.d (pB b), .d (.tuple (b.ms.map .str)), .d (.tuple (b.gs.map pN)), .d (.tuple (b.ts.map pT)), .d (.tuple (b.ws.map pW)), .d (.tuple (b.fx.map pF)), .d (.list ((b.gs.map (·.1)).map .str)), .n, .n, t, .n, .n, .n], ⟨.n, rfl⟩, ?_, ?_⟩
    · rintro i x r hx ⟨t0, rfl⟩
      obtain ⟨t, ht, rfl⟩ := mem_map_ex (List.mem_of_getElem? hx)
      have hk := hb.ts.2.1 t ht
      refine g_name trivial rfl ?_
      have last : ∀ ρ1 : Es, ρ1 = [.d (pB b), .d (.tuple (b.ms.map .str)), .d (.tuple (b.gs.map pN)), .d (.tuple (b.ts.map pT)), .d (.tuple (b.ws.map pW)), .d (.tuple (b.fx.map pF)), .d (.list ((b.gs.map (·.1)).map .str)), .n, .n, .d (pT t), .n, .n, .n] →
          WE K B (tCB (rAll K) (tCons (tLc (iTup K (tOp (rIxT K) (tVar 9) (tC (.int 3)))) (gTup K 2 (gCons (gName 10) (gCons (gName 8) gNil))) tYes (tOp (rInD K) (tVar 10) (tVar 6)) [10, 8]) tNil)) ρ1 fun y ρ2 => y = .bool true ∧ ρ2 = ρ1 := fun ρ1 e1 => by
        subst e1
        refine w_cb <| wa_cons <| w_fr <| wl_mapA <| wi_tup <| w_op <| w_var rfl <| w_int ⟨_, od_ixT (atI_n (j := 3) rfl), _, rfl, t.needs, pN, fun _ => .bool true, rfl, Nat.le_trans hk.few (by decide), rfl, fun p hp B' => ?_, wa_nil ⟨_, cd_allT, rfl, rfl⟩⟩
        obtain ⟨h1, h2, h3, m, h4, h5⟩ := hk.needs p hp
        refine g_tup rfl rfl <| gs_cons <| g_name (by decide) rfl <| gs_cons <| g_name (by decide) rfl <| gs_nil <| w_op <| w_var rfl <| w_var rfl ⟨_, od_inD (sh_name h1).shaped sg.shaped, ?_, rfl⟩
        rw [any_str]
        exact congrArg PyData.bool (decide_eq_true (List.mem_map.mpr ⟨_, h4, rfl⟩))
      refine s_if <| wt_or <| wt_and <| wt_test <| w_op <| w_op <| w_var rfl <| w_int ⟨_, od_ixT (atI_n (j := 2) rfl), w_str ⟨_, od_neS, _, rfl, fun q => ?_, fun q => ⟨fun _ => ?_, nofun⟩⟩⟩
      · rcases hk.mach with hm | hm
        · rw [hm] at q
          exact absurd q (by decide +kernel)
        · refine wt_test <| w_op <| w_op <| w_var rfl <| w_int ⟨_, od_ixT (atI_n (j := 2) rfl), w_var rfl ⟨_, od_inT, _, rfl, ?_⟩⟩
          rw [decide_eq_true hm.2]
          exact ⟨fun _ => wt_not <| wt_B <| (last _ rfl).mono fun y ρ2 ⟨h1, h2⟩ => ⟨true, h1, nofun, fun _ => s_next ⟨_, h2⟩⟩, nofun⟩
      · exact wt_not <| wt_B <| (last _ rfl).mono fun y ρ2 ⟨h1, h2⟩ => ⟨true, h1, nofun, fun _ => s_next ⟨_, h2⟩⟩
    · rintro r ⟨t0, rfl⟩
      refine s_ret <| w_and <| w_cb <| wa_cons <| w_fr <| wl_mapA <| wi_tup <| w_var rfl ⟨_, rfl, b.ws, pW, fun _ => .bool true, rfl, Nat.le_trans hb.ws.1 (by decide), rfl, fun p hp B' => ?_, wa_nil ⟨_, cd_allT, _, rfl, fun _ => ?_, nofun⟩⟩
      · have h1 := hb.ws.2 p hp
        refine g_name (by decide) rfl <| w_op <| w_maxT (i := p.1) (j := p.2.1) (by omega) <| w_sl <| w_var rfl <| wo_none <| wo_some <| w_int ⟨_, rfl, _, sd_tup, cutP_to (xs := [PyData.int p.1, PyData.int p.2.1, PyData.int p.2.2]) (n := 2) ▸ rfl, w_cb <| wa_cons <| w_var rfl <| wa_nil ⟨_, cd_lenU, _, od_cmp, ?_, rfl⟩⟩
        rw [List.length_map]
        exact congrArg PyData.bool (decide_eq_true (by omega))
      · refine w_cb <| wa_cons <| w_fr <| wl_mapA <| wi_tup <| w_var rfl ⟨_, rfl, b.fx, pF, fun _ => .bool true, rfl, Nat.le_trans hb.fx.1 (by decide), rfl, fun p hp B' => ?_, wa_nil ⟨_, cd_allT, rfl⟩⟩
        obtain ⟨h1, t, h2, h3⟩ := hb.fx.2.1 p hp
        have h4 := (List.getElem?_eq_some_iff.mp h2).1
        refine g_name (by decide) rfl <| w_op <| w_op <| w_var rfl <| w_int ⟨_, od_ixT (atI_n (j := 0) rfl), w_cb <| wa_cons <| w_var rfl <| wa_nil ⟨_, cd_lenU, _, od_cmp, ?_, rfl⟩⟩
        rw [List.length_map]
        exact congrArg PyData.bool (decide_eq_true (by omega))⟩
end
end Bw
set_option Elab.async false
set_option linter.all false
set_option maxRecDepth 100000
set_option maxHeartbeats 2000000
namespace Bw
open PySem PySem.Spec L2 Evl
open Bk (sAreUnlike sAreAllUnlike sAreAllThere sAreNeedsMet sGoesRound sWrongIn)
theorem gKeys {gs : List (Str × Nat)} (h : (gs.map (·.1)).Nodup) : ((gs.map gKey).map (·.1)).Nodup := by
  have e : (gs.map gKey).map (·.1) = (gs.map (·.1)).map (Sum.inr : Str → L2.Key) := by rw [List.map_map, List.map_map]; rfl
  rw [e]
  exact nodup_map (fun a b z => Sum.inr.inj z) h
/-- the least of those left is held by none -/
theorem some_free {ps : List (Nat × Nat)} {ls : List Nat} (h : ∀ p ∈ ps, p.1 < p.2) (hn : ls ≠ []) : ∃ m ∈ ls, ¬ ∃ p ∈ ps, p.1 ∈ ls ∧ p.2 = m := by
  obtain ⟨m, hm, hl⟩ : ∃ m ∈ ls, ∀ x ∈ ls, m ≤ x := by
    clear h
    induction ls with
    | nil => exact absurd rfl hn
    | cons a r ih =>
      by_cases hr : r = []
      · subst hr
        exact ⟨a, by simp, by simp⟩
      · obtain ⟨m, h1, h2⟩ := ih hr
        by_cases hc : a ≤ m
        · refine ⟨a, by simp, fun x hx => ?_⟩
          rcases List.mem_cons.mp hx with rfl | hx
          · omega
          · have := h2 x hx; omega
        · refine ⟨m, by simp [h1], fun x hx => ?_⟩
          rcases List.mem_cons.mp hx with rfl | hx
          · omega
          · exact h2 x hx
  refine ⟨m, hm, fun ⟨p, h1, h2, h3⟩ => ?_⟩
  have := h p h1
  have := hl _ h2
  omega
section
variable {P : Program} {w : World} {K : PySem.W.Frag} {mg : Str → Option Value} {base : Heap}
theorem scAreNeedsMet : FnScope ["book", "there", "task", "good", "many"] ["book"] (defScope sAreNeedsMet) := ⟨rfl, rfl, rfl, by decide +kernel, rfl, by decide +kernel, by decide +kernel⟩
def RareNeedsMet : Bd → Pd → Prop := fun b y => BdOk b ∧ y = .bool true
theorem calAreNeedsMet (T : Tx K mg) : C8.Cal P w K mg base 1 "are_needs_met" (spBk K RareNeedsMet) [] :=
  cal_of (st := sAreNeedsMet) (T.def_ 13 (d := Bk.dAreNeedsMet) rfl) (T.glo 13) scAreNeedsMet (fun _ _ _ _ _ _ us hl => match us, hl with | [_], _ => rfl) lenB fun cdv A outer s H vs Q E hr h => ⟨_, (pss_cons (ps_set (i := 1) scAreNeedsMet.nd rfl (by first | exact Or.inl rfl | exact Or.inr rfl) (pe_callTy (T := "dict") (Bw.call_dictT rfl) rfl (T.fr 56) (by decide +kernel) (pa_cons (pe_ix ix_tup (pv 0) pe_int (fun _ _ => rfl)) pa_nil)))
      (pss_cons (ps_for PassesOwn.never rfl (pi_tup (pe_ix ix_tup (pv 0) pe_int (fun _ _ => rfl))) (pg_name (i := 2) scAreNeedsMet.nd rfl (by first | exact Or.inl rfl | exact Or.inr rfl)) (pss_one (ps_if (pt_not (pt_val (pe_callB (id := "all") (cr_all rfl) rfl (T.fr 54) (by decide +kernel) (pa_cons (pe_lc (own := [("good", 3), ("many", 4)]) (g := gTup K 2 (gCons (gName 3) (gCons (gName 4) gNil))) rfl scAreNeedsMet.nd (pi_tup (pe_ix ix_tup (pv 2) pe_int (fun _ _ => rfl))) (blkOk_by (own := [("good", 3), ("many", 4)]) (N := ["book", "there", "task", "good", "many"]) (sc := (defScope sAreNeedsMet)) (by decide +kernel)) (fun _ _ _ _ _ => (pg_tup rfl (pgs_cons (pg_name (i := 3) scAreNeedsMet.nd rfl (by first | exact Or.inl rfl | exact Or.inr rfl)) (pgs_cons (pg_name (i := 4) scAreNeedsMet.nd rfl (by first | exact Or.inl rfl | exact Or.inr rfl)) pgs_nil)))) (fun _ _ _ _ _ => pts_nil) (fun _ _ _ _ _ => (pe_cmpR op_le (pv 4) (pe_dget (hu_of hr) (pv 1) (pv 3) (fun _ _ => rfl)) (nomark _)))) pa_nil)))) (pss_one (ps_ret pe_bl)) pss_nil)))
      (pss_one (ps_ret pe_bl)))), bodyB h (by decide) fun B b y hR => by
    obtain ⟨hb, rfl⟩ := hR
    refine s_seq <| s_dictB rfl rfl ?_
    refine s_seq <| s_for <| wi_tup <| w_op <| w_varB (b := b) rfl <| w_int ⟨_, od_ixT (atI_n (j := 2) rfl), _, rfl, fun _ r => ∃ t, r = [.q (bookMo K b), .q (dictMo K (dfold (fun _ => none) (b.gs.map gKey))), t, .n, .n], ⟨.n, rfl⟩, ?_, ?_⟩
    · rintro i x r hx ⟨t0, rfl⟩
      obtain ⟨t, ht, rfl⟩ := mem_map_ex (List.mem_of_getElem? hx)
      have hk := hb.ts.2.1 t ht
      refine g_name trivial rfl ?_
      refine s_if <| wt_not <| wt_B <| w_cb <| wa_cons <| w_fr <| wl_mapA <| wi_tup <| w_op <| w_var rfl <| w_int ⟨_, od_ixT (atI_n (j := 3) rfl), _, rfl, t.needs, pN, fun _ => .bool true, rfl, Nat.le_trans hk.few (by decide), rfl, fun p hp B' => ?_, wa_nil ⟨_, cd_allT, _, rfl, nofun, fun _ => s_next ⟨_, rfl⟩⟩⟩
      obtain ⟨h1, h2, h3, m, h4, h5⟩ := hk.needs p hp
      have hf : dfold (fun _ => none) (b.gs.map gKey) (.inr p.1) = some (.int m) := dfold_in (gKeys hb.gs.2.2) (List.mem_map.mpr ⟨_, h4, rfl⟩)
      refine g_tup rfl rfl <| gs_cons <| g_name (by decide) rfl <| gs_cons <| g_name (by decide) rfl <| gs_nil <| w_op <| w_var rfl <| w_dget rfl <| w_var rfl ⟨.inr p.1, .int m, rfl, hf, _, od_cmp, ?_, rfl⟩
      exact congrArg PyData.bool (decide_eq_true (by omega))
    · rintro r ⟨t0, rfl⟩
      exact s_ret <| w_bl rfl⟩
theorem scGoesRound : FnScope ["pairs", "many", "left", "held", "ahead", "behind", "free", "task"] ["pairs", "many"] (defScope sGoesRound) := ⟨rfl, rfl, rfl, by decide +kernel, rfl, by decide +kernel, by decide +kernel⟩
def RgoesRound : List Pd → Pd → Prop := fun xs y => ∃ (ps : List (Nat × Nat)) (n : Nat), xs = [.list (ps.map pF), .int n] ∧ (∀ p ∈ ps, p.1 < p.2) ∧ ps.length ≤ 60 ∧ n ≤ 30 ∧ y = .bool false
theorem calGoesRound (T : Tx K mg) : C8.Cal P w K mg base 1 "goes_round" (spP K RgoesRound) [] :=
  cal_of (st := sGoesRound) (T.def_ 14 (d := Bk.dGoesRound) rfl) (T.glo 14) scGoesRound (fun _ _ _ _ _ _ us hl => match us, hl with | [_, _], _ => rfl) (lenP fun xs y ⟨_, _, e, _⟩ => by rw [e]; rfl) fun cdv A outer s H vs Q E hr h => ⟨_, (pss_cons (ps_set (i := 2) scGoesRound.nd rfl (by first | exact Or.inl rfl | exact Or.inr rfl) (pe_listRg rfl rfl (T.fr 57) (prg_1 rfl (T.fr 58) (pv 1))))
      (pss_cons (ps_while PassesOwn.never (pt_cmpR (op_neD hr.units) (pv 2) (pe_lst pa_nil) (nomark _)) (pss_cons (ps_set (i := 3) scGoesRound.nd rfl (by first | exact Or.inl rfl | exact Or.inr rfl) (pe_callTy (T := "dict") (call_dictP rfl) rfl (T.fr 56) (by decide +kernel) (pa_cons (pe_lc (own := [("ahead", 4), ("behind", 5)]) (g := gTup K 2 (gCons (gName 4) (gCons (gName 5) gNil))) rfl scGoesRound.nd (pi_list (pv 0)) (blkOk_by (own := [("ahead", 4), ("behind", 5)]) (N := ["pairs", "many", "left", "held", "ahead", "behind", "free", "task"]) (sc := (defScope sGoesRound)) (by decide +kernel)) (fun _ _ _ _ _ => (pg_tup rfl (pgs_cons (pg_name (i := 4) scGoesRound.nd rfl (by first | exact Or.inl rfl | exact Or.inr rfl)) (pgs_cons (pg_name (i := 5) scGoesRound.nd rfl (by first | exact Or.inl rfl | exact Or.inr rfl)) pgs_nil)))) (fun _ _ _ _ _ => (pts_one (pt_cmpR (op_inD (Bw.u65 hr)) (pv 4) (pv 2) (by rfl)))) (fun _ _ _ _ _ => (pe_tup (pa_cons (pv 5) (pa_cons pe_bl pa_nil))))) pa_nil)))
      (pss_cons (ps_setLc (i := 6) (own := [("task", 7)]) (g := gName 7) rfl scGoesRound.nd rfl rfl (sw_true rfl rfl rfl (by decide +kernel)) (pi_list (pv 2)) (blkOk_by (own := [("task", 7)]) (N := ["pairs", "many", "left", "held", "ahead", "behind", "free", "task"]) (sc := (defScope sGoesRound)) (by decide +kernel)) (fun _ _ _ _ _ => (pg_name (i := 7) scGoesRound.nd rfl (by first | exact Or.inl rfl | exact Or.inr rfl))) (fun _ _ _ _ _ => (pts_one (pt_cmp (pc_dnotin (hu_of hr) (pv 7) (pv 3)) (by rfl)))) (fun _ _ _ _ _ => (pv 7)))
      (pss_cons (ps_if (pt_cmpR (op_eqD hr.units) (pv 6) (pe_lst pa_nil) (nomark _)) (pss_one (ps_ret pe_bl)) pss_nil)
      (pss_one (ps_set (i := 2) scGoesRound.nd rfl (by first | exact Or.inl rfl | exact Or.inr rfl) (pe_lc (own := [("task", 7)]) (g := gName 7) rfl scGoesRound.nd (pi_list (pv 2)) (blkOk_by (own := [("task", 7)]) (N := ["pairs", "many", "left", "held", "ahead", "behind", "free", "task"]) (sc := (defScope sGoesRound)) (by decide +kernel)) (fun _ _ _ _ _ => (pg_name (i := 7) scGoesRound.nd rfl (by first | exact Or.inl rfl | exact Or.inr rfl))) (fun _ _ _ _ _ => (pts_one (pt_cmp (pc_din (hu_of hr) (pv 7) (pv 3)) (by rfl)))) (fun _ _ _ _ _ => (pv 7)))))))))
      (pss_one (ps_ret pe_bl)))), bodyP h fun B xs y hR => by
    obtain ⟨ps, n, rfl, hp, few, hn, rfl⟩ := hR
    refine s_seq <| s_set <| w_listRg <| w_var rfl ⟨n, rfl, by omega, rfl, ?_⟩
    refine s_seq <| s_while (fun m r => ∃ (ls : List Nat) (f g : Sl), m = ls.length ∧ ls.length ≤ 30 ∧ r = [.d (.list (ps.map pF)), .d (.int n), .d (.list (ls.map fun i => .int (i : Nat))), f, .n, .n, g, .n]) n
      ⟨List.range n, .n, .n, by simp, by simpa using hn, rfl⟩ ?_
    rintro m r ⟨ls, f, g, rfl, hl, rfl⟩
    have hls : ls.length ≤ sizeLine := Nat.le_trans hl (by decide)
    refine wt_test <| w_op <| w_var rfl <| w_lst <| wa_nil ⟨Nat.zero_le _, _, od_neD sh_ints.shaped (sh_list (n := 0) shs_nil).shaped, _, rfl, fun q => ?_, fun q => s_ret <| w_bl rfl⟩
    rw [eqv_list_nil, isE_map] at q
    have hne : ls ≠ [] := fun z => by
      rw [z] at q
      cases q
    refine s_seq <| s_dictL <| w_fr <| wl_filterA <| wi_list <| w_var rfl ⟨_, rfl, ps, pF, fun p => decide (p.1 ∈ ls), fun p => .tuple [.int p.2, .bool true], rfl, Nat.le_trans few (by decide), rfl, fun p hpp B' => ?_, ?_⟩
    · refine g_tup rfl rfl <| gs_cons <| g_name (by decide) rfl <| gs_cons <| g_name (by decide) rfl <| gs_nil <| wt_test <| w_op <| w_var rfl <| w_var rfl ⟨_, od_inD sh_int.shaped sh_ints.shaped, _, rfl, any_int, fun _ => ?_, fun _ => rfl⟩
      exact w_tup <| wa_cons <| w_var rfl <| wa_cons <| w_bl <| wa_nil ⟨by show 2 ≤ sizeLine; decide, rfl, rfl⟩
    refine ⟨(ps.filter fun p => decide (p.1 ∈ ls)).map fun p => (.inl (p.2 : Nat), .bool true), by rw [List.map_map]; rfl, rfl, ?_⟩
    generalize hd : dfold (fun _ => none) ((ps.filter fun p => decide (p.1 ∈ ls)).map fun p => ((Sum.inl (p.2 : Int) : L2.Key), PyData.bool true)) = fd
    have held : ∀ i : Nat, (fd (.inl (i : Nat))).isSome = decide (∃ p ∈ ps, p.1 ∈ ls ∧ p.2 = i) := fun i => by
      rw [← hd, dfold_some]
      show (false || _) = _
      rw [Bool.false_or, List.any_map]
      by_cases hx : ∃ p ∈ ps, p.1 ∈ ls ∧ p.2 = i
      · rw [decide_eq_true hx]
        obtain ⟨p, h1, h2, h3⟩ := hx
        exact List.any_eq_true.mpr ⟨p, List.mem_filter.mpr ⟨h1, decide_eq_true h2⟩, decide_eq_true (by show (Sum.inl ((p.2 : Nat) : Int) : L2.Key) = Sum.inl ((i : Nat) : Int); rw [h3])⟩
      · rw [decide_eq_false hx]
        refine List.any_eq_false.mpr fun p hpp z => hx ?_
        obtain ⟨h1, h2⟩ := List.mem_filter.mp hpp
        have z' := Sum.inl.inj (of_decide_eq_true z)
        exact ⟨p, h1, of_decide_eq_true h2, by omega⟩
    refine s_seq <| s_set <| w_fr <| wl_filterA <| wi_list <| w_var rfl ⟨_, rfl, ls, fun i => .int (i : Nat), fun i => !(fd (.inl (i : Nat))).isSome, fun i => .int (i : Nat), rfl, hls, rfl, fun i hi B' => ?_, rfl, ?_⟩
    · exact g_name (by decide) rfl <| wt_test <| w_dnin rfl <| w_var rfl ⟨.inl (i : Nat), rfl, _, rfl, rfl, fun _ => w_var rfl ⟨rfl, rfl⟩, fun _ => rfl⟩
    obtain ⟨m0, hm1, hm2⟩ := some_free hp hne
    have fr : ls.filter (fun i => !(fd (.inl (i : Nat))).isSome) ≠ [] := fun z => by
      have : m0 ∈ ls.filter (fun i => !(fd (.inl (i : Nat))).isSome) := List.mem_filter.mpr ⟨hm1, by rw [held, decide_eq_false hm2]; rfl⟩
      rw [z] at this
      cases this
    refine s_seq <| s_if <| wt_test <| w_op <| w_var rfl <| w_lst <| wa_nil ⟨Nat.zero_le _, _, od_eqD sh_ints.shaped (sh_list (n := 0) shs_nil).shaped, _, rfl, fun q2 => ?_, fun _ => s_next ?_⟩
    · rw [eqv_list_nil, isE_map] at q2
      exact absurd (List.isEmpty_iff.mp q2) fr
    refine s_set <| w_fr <| wl_filterA <| wi_list <| w_var rfl ⟨_, rfl, ls, fun i => .int (i : Nat), fun i => (fd (.inl (i : Nat))).isSome, fun i => .int (i : Nat), rfl, hls, rfl, fun i hi B' => ?_, rfl, ?_⟩
    · exact g_name (by decide) rfl <| wt_test <| w_din rfl <| w_var rfl ⟨.inl (i : Nat), rfl, _, rfl, rfl, fun _ => w_var rfl ⟨rfl, rfl⟩, fun _ => rfl⟩
    have lt : (ls.filter fun i => (fd (.inl (i : Nat))).isSome).length < ls.length := by
      refine List.length_filter_lt_length_iff_exists.mpr ⟨m0, hm1, fun z => hm2 ?_⟩
      rw [held] at z
      exact of_decide_eq_true z
    exact ⟨_, lt, _, _, _, rfl, by omega, rfl⟩⟩
end
end Bw
set_option Elab.async false
set_option linter.all false
set_option maxRecDepth 100000
set_option maxHeartbeats 2000000
namespace Bw
open PySem PySem.Spec L2 Evl
open Bk (sWrongIn sMachineWord sAreNumbers sNeedBy sTaskBy)
section
variable {P : Program} {w : World} {K : PySem.W.Frag} {mg : Str → Option Value} {base : Heap}
theorem scWrongIn : FnScope ["book", "task", "begin", "wait"] ["book"] (defScope sWrongIn) := ⟨rfl, rfl, rfl, by decide +kernel, rfl, by decide +kernel, by decide +kernel⟩
def RwrongIn : Bd → Pd → Prop := fun b y => BdOk b ∧ y = .str (Str.ofString "")
theorem calWrongIn (T : Tx K mg) : C8.Cal P w K mg base 3 "wrong_in" (spBk K RwrongIn) [] :=
  cal_of (st := sWrongIn) (T.def_ 15 (d := Bk.dWrongIn) rfl) (T.glo 15) scWrongIn (fun _ _ _ _ _ _ us hl => match us, hl with | [_], _ => rfl) lenB fun cdv A outer s H vs Q E hr h => ⟨_, (pss_cons (ps_if (pt_not (pt_val (C8.pe_c (calAreAllUnlike T) hr (by decide) rfl (pa_cons (pv 0) pa_nil)))) (pss_one (ps_ret pe_str)) pss_nil)
      (pss_cons (ps_if (pt_not (pt_val (C8.pe_c (calAreAllThere T) hr (by decide) rfl (pa_cons (pv 0) pa_nil)))) (pss_one (ps_ret pe_str)) pss_nil)
      (pss_cons (ps_if (pt_not (pt_val (C8.pe_c (calAreNeedsMet T) hr (by decide) rfl (pa_cons (pv 0) pa_nil)))) (pss_one (ps_ret pe_str)) pss_nil)
      (pss_cons (ps_if (pt_not (pt_val (pe_callB (id := "all") (cr_all rfl) rfl (T.fr 54) (by decide +kernel) (pa_cons (pe_lc (own := [("task", 1), ("begin", 2)]) (g := gTup K 2 (gCons (gName 1) (gCons (gName 2) gNil))) rfl scWrongIn.nd (pi_tup (pe_ix ix_tup (pv 0) pe_int (fun _ _ => rfl))) (blkOk_by (own := [("task", 1), ("begin", 2)]) (N := ["book", "task", "begin", "wait"]) (sc := (defScope sWrongIn)) (by decide +kernel)) (fun _ _ _ _ _ => (pg_tup rfl (pgs_cons (pg_name (i := 1) scWrongIn.nd rfl (by first | exact Or.inl rfl | exact Or.inr rfl)) (pgs_cons (pg_name (i := 2) scWrongIn.nd rfl (by first | exact Or.inl rfl | exact Or.inr rfl)) pgs_nil)))) (fun _ _ _ _ _ => pts_nil) (fun _ _ _ _ _ => (pe_cmpR op_ge (pv 2) (pe_ix ix_tup (pe_ix ix_tup (pe_ix ix_tup (pv 0) pe_int (fun _ _ => rfl)) (pv 1) (fun _ _ => rfl)) pe_int (fun _ _ => rfl)) (nomark _)))) pa_nil)))) (pss_one (ps_ret pe_str)) pss_nil)
      (pss_one (ps_ret (pe_ifExp (pt_val (C8.pe_c (calGoesRound T) hr (by decide) rfl (pa_cons (pe_lc (own := [("wait", 3)]) (g := gName 3) rfl scWrongIn.nd (pi_tup (pe_ix ix_tup (pv 0) pe_int (fun _ _ => rfl))) (blkOk_by (own := [("wait", 3)]) (N := ["book", "task", "begin", "wait"]) (sc := (defScope sWrongIn)) (by decide +kernel)) (fun _ _ _ _ _ => (pg_name (i := 3) scWrongIn.nd rfl (by first | exact Or.inl rfl | exact Or.inr rfl))) (fun _ _ _ _ _ => pts_nil) (fun _ _ _ _ _ => (pe_slice sl_tupA (pv 3) po_none (po_some pe_int)))) (pa_cons (pe_callB (id := "len") call_len_seq rfl (T.fr 52) (by decide +kernel) (pa_cons (pe_ix ix_tup (pv 0) pe_int (fun _ _ => rfl)) pa_nil)) pa_nil)))) pe_str pe_str))))))), bodyB h (by decide) fun B b y hR => by
    obtain ⟨hb, rfl⟩ := hR
    refine s_seq <| s_if <| wt_not <| wt_B <| w_call <| wa_cons <| w_varB (b := b) rfl <| wa_nil ⟨.bool true, ⟨b, rfl, hb, rfl⟩, _, rfl, nofun, fun _ => s_next ?_⟩
    refine s_seq <| s_if <| wt_not <| wt_B <| w_call <| wa_cons <| w_varB (b := b) rfl <| wa_nil ⟨.bool true, ⟨b, rfl, hb, rfl⟩, _, rfl, nofun, fun _ => s_next ?_⟩
    refine s_seq <| s_if <| wt_not <| wt_B <| w_callB (b := b) (y := .bool true) rfl ⟨hb, rfl⟩ ⟨_, rfl, nofun, fun _ => s_next ?_⟩
    refine s_seq <| s_if <| wt_not <| wt_B <| w_cb <| wa_cons <| w_fr <| wl_mapA <| wi_tup <| w_op <| w_varB (b := b) rfl <| w_int ⟨_, od_ixT (atI_n (j := 4) rfl), _, rfl, b.fx, pF, fun _ => .bool true, rfl, Nat.le_trans hb.fx.1 (by decide), rfl, fun p hp B' => ?_, wa_nil ⟨_, cd_allT, _, rfl, nofun, fun _ => s_next ?_⟩⟩
    · obtain ⟨h1, t, h2, h3⟩ := hb.fx.2.1 p hp
      refine g_tup rfl rfl <| gs_cons <| g_name (by decide) rfl <| gs_cons <| g_name (by decide) rfl <| gs_nil ?_
      refine w_op <| w_var rfl <| w_op <| w_op <| w_op <| w_varB (b := b) rfl <| w_int ⟨_, od_ixT (atI_n (j := 2) rfl), w_var rfl ⟨pT t, od_ixT (atI_n (by rw [List.getElem?_map, h2] <;> rfl)), w_int ⟨_, od_ixT (atI_n (j := 4) rfl), _, od_cmp, ?_, rfl⟩⟩⟩
      exact congrArg PyData.bool (decide_eq_true (by omega))
    refine s_ret <| w_if <| wt_B <| w_call <| wa_cons <| w_fr <| wl_mapA <| wi_tup <| w_op <| w_varB (b := b) rfl <| w_int ⟨_, od_ixT (atI_n (j := 3) rfl), _, rfl, b.ws, pW, fun p => pF (p.1, p.2.1), rfl, Nat.le_trans hb.ws.1 (by decide), rfl, fun p hp B' => ?_, ?_⟩
    · exact g_name (by decide) rfl <| w_sl <| w_var rfl <| wo_none <| wo_some <| w_int ⟨_, rfl, _, sd_tup, congrArg PyData.tuple (cutP_to (xs := [PyData.int p.1, PyData.int p.2.1, PyData.int p.2.2]) (n := 2)), rfl⟩
    refine wa_cons <| w_cb <| wa_cons <| w_op <| w_varB (b := b) rfl <| w_int ⟨_, od_ixT (atI_n (j := 2) rfl), wa_nil ⟨_, cd_lenU, ?_⟩⟩
    refine wa_nil ⟨.bool false, ⟨b.ws.map fun p => (p.1, p.2.1), b.ts.length, by rw [List.map_map, List.length_map]; rfl, fun p hp => ?_, by rw [List.length_map]; exact hb.ws.1, hb.ts.1, rfl⟩, _, rfl, nofun, fun _ => w_str rfl⟩
    obtain ⟨q, hq, rfl⟩ := List.mem_map.mp hp
    exact (hb.ws.2 q hq).1⟩
/-- a machine as a word -/
def mWord (m : Str) : Str := if m = Str.ofString "" then Str.ofString "-" else m
theorem scMachineWord : FnScope ["machine"] ["machine"] (defScope sMachineWord) := ⟨rfl, rfl, rfl, by decide +kernel, rfl, by decide +kernel, by decide +kernel⟩
def RmachineWord : List Pd → Pd → Prop := fun xs y => ∃ m, xs = [.str m] ∧ y = .str (mWord m)
theorem calMachineWord (T : Tx K mg) : C8.Cal P w K mg base 1 "machine_word" (spP K RmachineWord) [] :=
  cal_of (st := sMachineWord) (T.def_ 17 (d := Bk.dMachineWord) rfl) (T.glo 17) scMachineWord (fun _ _ _ _ _ _ us hl => match us, hl with | [_], _ => rfl) (lenP fun xs y ⟨_, e, _⟩ => by rw [e]; rfl) fun cdv A outer s H vs Q E hr h => ⟨_, (pss_one (ps_ret (pe_ifExp (pt_cmpR op_eq (pv 0) pe_str (nomark _)) (C8.pe_gc rfl (T.gcs 85)) (pv 0)))), bodyP h fun B xs y hR => by
    obtain ⟨m, rfl, rfl⟩ := hR
    refine s_ret <| w_if <| wt_test <| w_op <| w_var rfl <| w_str ⟨_, od_eqS, _, rfl, fun q => w_str ?_, fun q => w_var rfl ?_⟩
    · show _ = PyData.str (mWord m)
      unfold mWord
      rw [if_pos (of_decide_eq_true q)]
    · show _ = PyData.str (mWord m)
      unfold mWord
      rw [if_neg (of_decide_eq_false q)]⟩
theorem scAreNumbers : FnScope ["words", "word"] ["words"] (defScope sAreNumbers) := ⟨rfl, rfl, rfl, by decide +kernel, rfl, by decide +kernel, by decide +kernel⟩
def RareNumbers : List Pd → Pd → Prop := fun xs y => ∃ ns : List Nat, xs = [.list (ns.map fun n => .str (numS n))] ∧ (∀ n ∈ ns, n < 10 ^ 7) ∧ ns.length ≤ 100 ∧ y = .bool true
theorem calAreNumbers (T : Tx K mg) : C8.Cal P w K mg base 2 "are_numbers" (spP K RareNumbers) [] :=
  cal_of (st := sAreNumbers) (T.def_ 20 (d := Bk.dAreNumbers) rfl) (T.glo 20) scAreNumbers (fun _ _ _ _ _ _ us hl => match us, hl with | [_], _ => rfl) (lenP fun xs y ⟨_, e, _⟩ => by rw [e]; rfl) fun cdv A outer s H vs Q E hr h => ⟨_, (pss_one (ps_ret (pe_callB (id := "all") (cr_all rfl) rfl (T.fr 54) (by decide +kernel) (pa_cons (pe_lc (own := [("word", 1)]) (g := gName 1) rfl scAreNumbers.nd (pi_list (pv 0)) (blkOk_by (own := [("word", 1)]) (N := ["words", "word"]) (sc := (defScope sAreNumbers)) (by decide +kernel)) (fun _ _ _ _ _ => (pg_name (i := 1) scAreNumbers.nd rfl (by first | exact Or.inl rfl | exact Or.inr rfl))) (fun _ _ _ _ _ => pts_nil) (fun _ _ _ _ _ => (pe_cmp (pc_notN (C8.pe_c (calNumberOf T) hr (by decide) rfl (pa_cons (pv 1) pa_nil))) rfl))) pa_nil)))), bodyP h fun B xs y hR => by
    obtain ⟨ns, rfl, hn, few, rfl⟩ := hR
    refine s_ret <| w_cb <| wa_cons <| w_fr <| wl_mapA <| wi_list <| w_var rfl ⟨_, rfl, ns, fun n => .str (numS n), fun _ => .bool true, rfl, Nat.le_trans few (by decide), rfl, fun n h1 B' => ?_, wa_nil ⟨_, cd_allT, rfl⟩⟩
    exact g_name (by decide) rfl <| w_notN (b := true) <| w_call <| wa_cons <| w_var rfl <| wa_nil ⟨.int n, ⟨n, rfl, hn n h1, rfl⟩, nofun, nofun, rfl, rfl⟩⟩
def needW (p : Str × Nat) : Str := p.1 ++ Str.ofString ":" ++ numS p.2
theorem name_free {w : Str} (h : NameOk w) {c : Nat} (hc : c < 97 ∨ 122 < c) : c ∉ TL.tl w := fun z => by have := h.sg c z; omega
theorem need_part {p : Str × Nat} (h : NameOk p.1) : Txt.partition (needW p) (Str.ofString ":") = (p.1, Str.ofString ":", numS p.2) :=
  TL.partition_app (s := 58) (S := []) (by rw [TL.tl_ofString]; rfl) (name_free h (.inl (by decide)))
theorem needW_len {p : Str × Nat} (h : NameOk p.1) (h2 : p.2 ≤ 99) : (needW p).length ≤ 16 := by
  have h1 := h.hi
  have h3 := numS_len (n := p.2) (k := 2) (by decide) (by omega)
  unfold needW
  rw [TL.len_tl, TL.tl_append, TL.tl_append, List.length_append, List.length_append, ← TL.len_tl, ← TL.len_tl, ← TL.len_tl]
  have h4 : (Str.ofString ":").length = 1 := by decide +kernel
  omega
abbrev rPart : V → List V → Hp → VK → Prop := fun x xs H Q => ∃ a b, x = .str a ∧ xs = [.str b] ∧ (b.length == 0) = false ∧ a.length ≤ sizeLine ∧
      ∀ p, H p = none → Q (.ref p) (upd H p (.tup [.str (Txt.partition a b).1, .str (Txt.partition a b).2.1, .str (Txt.partition a b).2.2]))
theorem md_part {a b : Str} (hb : (b.length == 0) = false) (ha : a.length ≤ sizeLine) : MeD K rPart (.str a) [.str b] (.tuple [.str (Txt.partition a b).1, .str (Txt.partition a b).2.1, .str (Txt.partition a b).2.2]) := fun F H v vs s d1 d2 Q k => by
  cases d1
  cases d2 with
  | cons d2 d3 =>
    cases d3
    cases d2
    exact ⟨a, b, rfl, rfl, hb, ha, fun p hp => gr_tup s hp (.cons (.str _) (.cons (.str _) (.cons (.str _) .nil))) k⟩
theorem scNeedBy : FnScope ["word", "good", "mark", "many"] ["word"] (defScope sNeedBy) := ⟨rfl, rfl, rfl, by decide +kernel, rfl, by decide +kernel, by decide +kernel⟩
def RneedBy : List Pd → Pd → Prop := fun xs y => ∃ p : Str × Nat, xs = [.str (needW p)] ∧ NameOk p.1 ∧ p.2 ≤ 99 ∧ y = pN p
theorem calNeedBy (T : Tx K mg) : C8.Cal P w K mg base 2 "need_by" (spP K RneedBy) [] :=
  cal_of (st := sNeedBy) (T.def_ 21 (d := Bk.dNeedBy) rfl) (T.glo 21) scNeedBy (fun _ _ _ _ _ _ us hl => match us, hl with | [_], _ => rfl) (lenP fun xs y ⟨_, e, _⟩ => by rw [e]; rfl) fun cdv A outer s H vs Q E hr h => ⟨_, (pss_cons (ps_asg (pe_partition (pv 0) pe_str) (pg_tup rfl (pgs_cons (pg_name (i := 1) scNeedBy.nd rfl (by first | exact Or.inl rfl | exact Or.inr rfl)) (pgs_cons (pg_name (i := 2) scNeedBy.nd rfl (by first | exact Or.inl rfl | exact Or.inr rfl)) (pgs_cons (pg_name (i := 3) scNeedBy.nd rfl (by first | exact Or.inl rfl | exact Or.inr rfl)) pgs_nil)))))
      (pss_cons (ps_if (PW.pt (pw_or (pt_cmpR op_eq (pv 2) pe_str (nomark _)) (pw_or (pt_not (pt_val (C8.pe_c (calIsName T) hr (by decide) rfl (pa_cons (pv 1) pa_nil)))) (pw_or1 (pt_cmp (pc_isN (C8.pe_c (calNumberOf T) hr (by decide) rfl (pa_cons (pv 3) pa_nil)))))))) (pss_one (ps_ret pe_non)) pss_nil)
      (pss_one (ps_ret (pe_tup (pa_cons (pv 1) (pa_cons (C8.pe_c (calNumberOf T) hr (by decide) rfl (pa_cons (pv 3) pa_nil)) pa_nil))))))), bodyP h fun B xs y hR => by
    obtain ⟨p, rfl, h1, h2, rfl⟩ := hR
    have h7 : p.2 < 10 ^ 7 := by omega
    refine s_seq <| s_asg <| w_m1 <| w_var rfl ⟨rfl, w_str ⟨_, md_part (by decide +kernel) (Nat.le_trans (needW_len h1 h2) (by decide)), ?_⟩⟩
    rw [need_part h1]
    refine g_tup rfl rfl <| gs_cons <| g_name trivial rfl <| gs_cons <| g_name trivial rfl <| gs_cons <| g_name trivial rfl <| gs_nil ?_
    refine s_seq <| s_if <| wt_or <| wt_test <| w_op <| w_var rfl <| w_str ⟨_, od_eqS, _, rfl, fun _ => ?_, fun q => absurd (of_decide_eq_true q) (show ¬ Str.ofString ":" = Str.ofString "" by decide +kernel)⟩
    refine wt_or <| wt_not <| wt_B <| w_call <| wa_cons <| w_var rfl <| wa_nil ⟨.bool true, ⟨_, rfl, h1, rfl⟩, _, rfl, fun _ => ?_, nofun⟩
    refine wt_B <| w_isN (b := false) <| w_call <| wa_cons <| w_var rfl <| wa_nil ⟨.int p.2, ⟨p.2, rfl, h7, rfl⟩, nofun, nofun, _, rfl, nofun, fun _ => s_next ?_⟩
    exact s_ret <| w_tup <| wa_cons <| w_var rfl <| wa_cons <| w_call <| wa_cons <| w_var rfl <| wa_nil ⟨.int p.2, ⟨p.2, rfl, h7, rfl⟩, wa_nil ⟨by show 2 ≤ sizeLine; decide, rfl⟩⟩⟩
end
end Bw
set_option Elab.async false
set_option linter.all false
set_option maxRecDepth 100000
set_option maxHeartbeats 2000000
namespace Bw
open PySem PySem.Spec L2 Evl
open Bk (sTaskBy sTaskRow)
theorem emp_eq : Str.empty = Str.ofString "" := by decide +kernel
def dueW : Option Nat → Str
  | none => Str.ofString "-"
  | some n => numS n
def machWords (m : Str) : List Str := [Str.ofString "machine", m]
def goodWords (p : Str × Nat) : List Str := [Str.ofString "good", p.1, numS p.2]
def taskWords (t : Tk) : List Str := [Str.ofString "task", t.name, numS t.len, mWord t.mach, numS t.first, dueW t.due, numS t.wt] ++ t.needs.map needW
def nameAt (ts : List Tk) (i : Nat) : Str := ((ts[i]?).map (·.name)).getD Str.empty
def waitWords (ts : List Tk) (p : Nat × Nat × Nat) : List Str := [Str.ofString "wait", nameAt ts p.1, nameAt ts p.2.1, numS p.2.2]
def fixWords (ts : List Tk) (p : Nat × Nat) : List Str := [Str.ofString "fixed", nameAt ts p.1, numS p.2]
/-- the rows of a book, each by its words -/
def rowsW (b : Bd) : List (List Str) := b.ms.map machWords ++ (b.gs.map goodWords ++ (b.ts.map taskWords ++ (b.ws.map (waitWords b.ts) ++ b.fx.map (fixWords b.ts))))
def rowT (ws : List Str) : Str := Txt.join (Str.ofString " ") ws
def textOf (rs : List (List Str)) : Str := Txt.join (Str.ofString "\n") (rs.map rowT)
theorem name_ne {w : Str} (h : NameOk w) : w ≠ Str.ofString "-" ∧ w ≠ Str.ofString "" := by
  constructor
  · intro z
    have h1 := h.sg 45 (by rw [z]; decide +kernel)
    omega
  · intro z
    have h1 := h.lo
    rw [z] at h1
    exact absurd h1 (by decide +kernel)
theorem numS_ne (n : Nat) : numS n ≠ Str.ofString "-" := fun z => by
  have h : 45 ∈ TL.numL n := by
    rw [← numS_tl, z]
    decide +kernel
  exact TL.numL_free (by decide) h
theorem mW_cases {m : Str} (h : m = Str.empty ∨ NameOk m) : (mWord m = Str.ofString "-" ∧ m = Str.ofString "") ∨ (mWord m = m ∧ NameOk m ∧ m ≠ Str.ofString "-") := by
  unfold mWord
  rcases h with h | h
  · left
    rw [h, emp_eq, if_pos rfl]
    exact ⟨rfl, rfl⟩
  · right
    rw [if_neg (name_ne h).2]
    exact ⟨rfl, h, (name_ne h).1⟩
theorem sh_num (n : Nat) : Sh 0 (.str (numS n)) := sh_str fun c hc => by
  rw [numS_tl] at hc
  have := TL.numL_digits n c hc
  omega
section
variable {P : Program} {w : World} {K : PySem.W.Frag} {mg : Str → Option Value} {base : Heap}
theorem s_par {B : Bs} {ρ : Es} {e : En} {ta : TA} {i j : Nat} (h : WA K B ta ρ fun xs ρ1 => ∃ x y, xs = [x, y] ∧ Nat.ble (i + 1) ρ1.length = true ∧ Nat.ble (j + 1) ρ1.length = true ∧ e.nx ((ρ1.set i (.d x)).set j (.d y))) : S K B (tPar i j ta) ρ e := fun σ F H r D k =>
  h σ F H r _ fun vs xs ρ1 F1 H1 p1 e1 d1 r1 => by
    obtain ⟨x, y, ex, hi, hj, hx⟩ := p1
    subst ex
    cases d1 with
    | cons d1 d2 =>
      cases d2 with
      | cons d2 d3 =>
        cases d3
        refine ⟨_, _, rfl, k.nx _ _ F1 H1 hx e1 ((r1.putD (Nat.le_of_ble_eq_true hi) d1).putD ?_ d2)⟩
        rw [List.length_set]
        exact Nat.le_of_ble_eq_true hj
theorem scTaskBy : FnScope ["words", "machine", "due", "needs", "word", "by_hour", "place"] ["words"] (defScope sTaskBy) := ⟨rfl, rfl, rfl, by decide +kernel, rfl, by decide +kernel, by decide +kernel⟩
def RtaskBy : List Pd → Pd → Prop := fun xs y => ∃ t : Tk, xs = [.list ((taskWords t).map .str)] ∧ TkForm t ∧ y = pT t
theorem calTaskBy (T : Tx K mg) : C8.Cal P w K mg base 3 "task_by" (spP K RtaskBy) [] :=
  cal_of (st := sTaskBy) (T.def_ 22 (d := Bk.dTaskBy) rfl) (T.glo 22) scTaskBy (fun _ _ _ _ _ _ us hl => match us, hl with | [_], _ => rfl) (lenP fun xs y ⟨_, e, _⟩ => by rw [e]; rfl) fun cdv A outer s H vs Q E hr h => ⟨_, (pss_cons (ps_if (PW.pt (pw_or (pt_cmpR op_lt (pe_callB (id := "len") call_len_seq rfl (T.fr 52) (by decide +kernel) (pa_cons (pv 0) pa_nil)) (C8.pe_gc rfl (T.gci 82)) (nomark _)) (pw_or1 (pt_not (pt_val (C8.pe_c (calIsName T) hr (by decide) rfl (pa_cons (pe_ix ix_list (pv 0) pe_int (fun _ _ => rfl)) pa_nil))))))) (pss_one (ps_ret pe_non)) pss_nil)
      (pss_cons (ps_par (i := 1) (j := 2) rfl scTaskBy.nd rfl rfl (by decide) rfl rfl (pa_cons (pe_ix ix_list (pv 0) pe_int (fun _ _ => rfl)) (pa_cons (pe_ix ix_list (pv 0) pe_int (fun _ _ => rfl)) pa_nil)) (by rfl))
      (pss_cons (ps_if (PW.pt (pw_or (PW.pt (pw_and (pt_cmpR op_ne (pv 1) (C8.pe_gc rfl (T.gcs 85)) (nomark _)) (pw_and1 (pt_not (pt_val (C8.pe_c (calIsName T) hr (by decide) rfl (pa_cons (pv 1) pa_nil))))))) (pw_or1 (PW.pt (pw_and (pt_cmpR op_ne (pv 2) (C8.pe_gc rfl (T.gcs 85)) (nomark _)) (pw_and1 (pt_cmp (pc_isN (C8.pe_c (calNumberOf T) hr (by decide) rfl (pa_cons (pv 2) pa_nil)))))))))) (pss_one (ps_ret pe_non)) pss_nil)
      (pss_cons (ps_setLc (i := 3) (own := [("word", 4)]) (g := gName 4) rfl scTaskBy.nd rfl rfl (sw_true rfl rfl rfl (by decide +kernel)) (pi_list (pe_slice sl_list (pv 0) (po_some (C8.pe_gc rfl (T.gci 82))) po_none)) (blkOk_by (own := [("word", 4)]) (N := ["words", "machine", "due", "needs", "word", "by_hour", "place"]) (sc := (defScope sTaskBy)) (by decide +kernel)) (fun _ _ _ _ _ => (pg_name (i := 4) scTaskBy.nd rfl (by first | exact Or.inl rfl | exact Or.inr rfl))) (fun _ _ _ _ _ => pts_nil) (fun _ _ _ _ _ => (C8.pe_c (calNeedBy T) hr (by decide) rfl (pa_cons (pv 4) pa_nil))))
      (pss_cons (ps_if (PW.pt (pw_or (pt_not (pt_val (C8.pe_c (calAreNumbers T) hr (by decide) rfl (pa_cons (pe_lst (pa_cons (pe_ix ix_list (pv 0) pe_int (fun _ _ => rfl)) (pa_cons (pe_ix ix_list (pv 0) pe_int (fun _ _ => rfl)) (pa_cons (pe_ix ix_list (pv 0) pe_int (fun _ _ => rfl)) pa_nil)))) pa_nil)))) (pw_or1 (pt_cmpR (op_inD (Bw.u65 hr)) pe_non (pv 3) (by rfl))))) (pss_one (ps_ret pe_non)) pss_nil)
      (pss_cons (ps_set (i := 5) scTaskBy.nd rfl (by first | exact Or.inl rfl | exact Or.inr rfl) (pe_ifExp (pt_cmpR op_eq (pv 2) (C8.pe_gc rfl (T.gcs 85)) (nomark _)) pe_non (C8.pe_c (calNumberOf T) hr (by decide) rfl (pa_cons (pv 2) pa_nil))))
      (pss_cons (ps_set (i := 6) scTaskBy.nd rfl (by first | exact Or.inl rfl | exact Or.inr rfl) (pe_ifExp (pt_cmpR op_eq (pv 1) (C8.pe_gc rfl (T.gcs 85)) (nomark _)) pe_str (pv 1)))
      (pss_one (ps_ret (pe_tup (pa_cons (pe_ix ix_list (pv 0) pe_int (fun _ _ => rfl)) (pa_cons (C8.pe_c (calNumberOf T) hr (by decide) rfl (pa_cons (pe_ix ix_list (pv 0) pe_int (fun _ _ => rfl)) pa_nil)) (pa_cons (pv 6) (pa_cons (pe_callTy (T := "tuple") Bw.call_tupleZ rfl (T.fr 64) (by decide +kernel) (pa_cons (pv 3) pa_nil)) (pa_cons (C8.pe_c (calNumberOf T) hr (by decide) rfl (pa_cons (pe_ix ix_list (pv 0) pe_int (fun _ _ => rfl)) pa_nil)) (pa_cons (pv 5) (pa_cons (C8.pe_c (calNumberOf T) hr (by decide) rfl (pa_cons (pe_ix ix_list (pv 0) pe_int (fun _ _ => rfl)) pa_nil)) pa_nil))))))))))))))))), bodyP h fun B xs y hR => by
    obtain ⟨t, rfl, ht, rfl⟩ := hR
    have hlen := ht.len
    have hfirst := ht.first
    have hwt := ht.wt
    have h5 : ∀ d, t.due = some d → d < 10 ^ 7 := fun d hd => by have := ht.due d hd; omega
    have hL : ((taskWords t).map PyData.str).length = 7 + t.needs.length := by unfold taskWords; simp; omega
    refine s_seq <| s_if <| wt_or <| wt_test <| w_op <| w_cb <| wa_cons <| w_var rfl <| wa_nil ⟨_, cd_lenL, w_int ⟨_, od_cmp, _, rfl, fun _ => ?_, fun q => ?_⟩⟩
    rotate_left
    · have := of_decide_eq_true q
      omega
    refine wt_not <| wt_B <| w_call <| wa_cons <| w_op <| w_var rfl <| w_int ⟨_, od_ixL (atI_n (j := 1) rfl), wa_nil ⟨.bool true, ⟨t.name, rfl, ht.name, rfl⟩, _, rfl, nofun, fun _ => s_next ?_⟩⟩
    refine s_seq <| s_par <| wa_cons <| w_op <| w_var rfl <| w_int ⟨_, od_ixL (atI_n (j := 3) rfl), wa_cons <| w_op <| w_var rfl <| w_int ⟨_, od_ixL (atI_n (j := 5) rfl), wa_nil ⟨_, _, rfl, rfl, rfl, ?_⟩⟩⟩
    -- what stands for the machine and for the due hour is well
    refine s_cut (M := fun r => r = [.d (.list ((taskWords t).map .str)), .d (.str (mWord t.mach)), .d (.str (dueW t.due)), .n, .n, .n, .n]) (s_if ?_) ?_
    · have second : ∀ ρ1 : Es, ρ1 = [.d (.list ((taskWords t).map .str)), .d (.str (mWord t.mach)), .d (.str (dueW t.due)), .n, .n, .n, .n] →
          WT K B (tAnd (tTest (tOp rNe (tVar 2) (tC (.str (Str.ofString "-"))))) (tB (tIsN (tCall (spP K RnumberOf) [] C8.E0 (tCons (tVar 2) tNil))))) ρ1 (fun b ρ2 => b = false ∧ ρ2 = ρ1) := fun ρ1 e1 => by
        subst e1
        refine wt_and <| wt_test <| w_op <| w_var rfl <| w_str ⟨_, od_neS, _, rfl, fun q => ?_, fun _ => ⟨rfl, rfl⟩⟩
        cases hd : t.due with
        | none =>
          rw [hd] at q
          exact absurd q (by decide +kernel)
        | some d => exact wt_B <| w_isN (b := false) <| w_call <| wa_cons <| w_var rfl <| wa_nil ⟨.int d, ⟨d, rfl, h5 d hd, rfl⟩, nofun, nofun, _, rfl, rfl, rfl⟩
      refine wt_or <| wt_and <| wt_test <| w_op <| w_var rfl <| w_str ⟨_, od_neS, _, rfl, fun q => ?_, fun _ => ⟨fun _ => ?_, nofun⟩⟩
      · rcases mW_cases ht.mach with ⟨h1, h2⟩ | ⟨h1, h2, h3⟩
        · rw [h1] at q
          exact absurd q (by decide +kernel)
        · exact wt_not <| wt_B <| w_call <| wa_cons <| w_var rfl <| wa_nil ⟨.bool true, ⟨mWord t.mach, rfl, by rw [h1]; exact h2, rfl⟩, _, rfl, fun _ => (second _ rfl).mono fun b ρ2 ⟨a1, a2⟩ => by
            subst a1
            exact ⟨nofun, fun _ => s_next a2⟩, nofun⟩
      · exact (second _ rfl).mono fun b ρ2 ⟨a1, a2⟩ => by
          subst a1
          exact ⟨nofun, fun _ => s_next a2⟩
    rintro r rfl
    refine s_seq <| s_set <| w_fr <| wl_mapA <| wi_list <| w_sl <| w_var rfl <| wo_some <| w_int ⟨_, rfl, wo_none ⟨_, sd_list, _, rfl, t.needs, fun p => .str (needW p), pN, ?_, Nat.le_trans ht.needs.1 (by decide), rfl, fun p hp B' => ?_, rfl, ?_⟩⟩
    · refine (cutP_from (n := 7)).trans ?_
      show ((t.needs.map needW).map PyData.str) = _
      rw [List.map_map]
      rfl
    · have h6 := ht.needs.2 p hp
      exact g_name (by decide) rfl <| w_call <| wa_cons <| w_var rfl <| wa_nil ⟨pN p, ⟨p, rfl, h6.1, h6.2.2, rfl⟩, rfl, rfl⟩
    have sn : Sh 2 (.list (t.needs.map pN)) := sh_list (n := 1) (shs_map fun p hp => sh_N (ht.needs.2 p hp).1)
    refine s_seq <| s_if <| wt_or <| wt_not <| wt_B <| w_call <| wa_cons <| w_lst <| wa_cons <| w_op <| w_var rfl <| w_int ⟨_, od_ixL (atI_n (j := 2) rfl), wa_cons <| w_op <| w_var rfl <| w_int ⟨_, od_ixL (atI_n (j := 4) rfl), wa_cons <| w_op <| w_var rfl <| w_int ⟨_, od_ixL (atI_n (j := 6) rfl), wa_nil ⟨by show 3 ≤ sizeLine; decide, wa_nil ⟨.bool true, ⟨[t.len, t.first, t.wt], rfl, fun n hn => ?_, by show 3 ≤ 100; decide, rfl⟩, _, rfl, fun _ => ?_, nofun⟩⟩⟩⟩⟩
    · simp only [List.mem_cons, List.not_mem_nil, or_false] at hn
      omega
    refine wt_test <| w_op <| w_non <| w_var rfl ⟨_, od_inD sh_non.shaped sn.shaped, _, rfl, ?_⟩
    have e0 : ((t.needs.map pN).any fun z => PyData.eqv z .none) = false := by
      rw [List.any_map]
      exact List.any_eq_false.mpr fun p hp z => by
        have z' : PyData.eqv (pN p) .none = true := z
        simp [pN, PyData.eqv] at z'
    rw [e0]
    refine ⟨nofun, fun _ => s_next ?_⟩
    refine s_seq <| s_set <| w_if <| wt_test <| w_op <| w_var rfl <| w_str ⟨_, od_eqS, _, rfl, ?_⟩
    have fin : ∀ ρ1 : Es, ρ1 = [.d (.list ((taskWords t).map .str)), .d (.str (mWord t.mach)), .d (.str (dueW t.due)), .d (.list (t.needs.map pN)), .n, .d (pD t.due), .n] → ∀ e : En, e.rt = (fun z _ => z = pT t) →
        S K B (tSeq (tAsg (tIf (tTest (tOp rEq (tVar 1) (tC (.str (Str.ofString "-"))))) (tC (.str (Str.ofString ""))) (tVar 1)) (gName 6)) (tRet (tTup (tCons (tOp (rIxL K) (tVar 0) (tC (.int 1))) (tCons (tCall (spP K RnumberOf) [] C8.E0 (tCons (tOp (rIxL K) (tVar 0) (tC (.int 2))) tNil)) (tCons (tVar 6) (tCons (tCB (rTupZ K) (tCons (tVar 3) tNil)) (tCons (tCall (spP K RnumberOf) [] C8.E0 (tCons (tOp (rIxL K) (tVar 0) (tC (.int 4))) tNil)) (tCons (tVar 5) (tCons (tCall (spP K RnumberOf) [] C8.E0 (tCons (tOp (rIxL K) (tVar 0) (tC (.int 6))) tNil)) tNil)))))))))) ρ1 e := fun ρ1 e1 e he => by
      subst e1
      have ret : ∀ ρ2 : Es, ρ2 = [.d (.list ((taskWords t).map .str)), .d (.str (mWord t.mach)), .d (.str (dueW t.due)), .d (.list (t.needs.map pN)), .n, .d (pD t.due), .d (.str t.mach)] →
          S K B (tRet (tTup (tCons (tOp (rIxL K) (tVar 0) (tC (.int 1))) (tCons (tCall (spP K RnumberOf) [] C8.E0 (tCons (tOp (rIxL K) (tVar 0) (tC (.int 2))) tNil)) (tCons (tVar 6) (tCons (tCB (rTupZ K) (tCons (tVar 3) tNil)) (tCons (tCall (spP K RnumberOf) [] C8.E0 (tCons (tOp (rIxL K) (tVar 0) (tC (.int 4))) tNil)) (tCons (tVar 5) (tCons (tCall (spP K RnumberOf) [] C8.E0 (tCons (tOp (rIxL K) (tVar 0) (tC (.int 6))) tNil)) tNil))))))))) ρ2 e := fun ρ2 e2 => by
        subst e2
        refine s_ret <| w_tup <| wa_cons <| w_op <| w_var rfl <| w_int ⟨_, od_ixL (atI_n (j := 1) rfl), ?_⟩
        refine wa_cons <| w_call <| wa_cons <| w_op <| w_var rfl <| w_int ⟨_, od_ixL (atI_n (j := 2) rfl), wa_nil ⟨.int t.len, ⟨t.len, rfl, by omega, rfl⟩, ?_⟩⟩
        refine wa_cons <| w_var rfl <| wa_cons <| w_cb <| wa_cons <| w_var rfl <| wa_nil ⟨_, cd_tupL, ?_⟩
        refine wa_cons <| w_call <| wa_cons <| w_op <| w_var rfl <| w_int ⟨_, od_ixL (atI_n (j := 4) rfl), wa_nil ⟨.int t.first, ⟨t.first, rfl, by omega, rfl⟩, ?_⟩⟩
        refine wa_cons <| w_var rfl <| wa_cons <| w_call <| wa_cons <| w_op <| w_var rfl <| w_int ⟨_, od_ixL (atI_n (j := 6) rfl), wa_nil ⟨.int t.wt, ⟨t.wt, rfl, by omega, rfl⟩, wa_nil ⟨by show 7 ≤ sizeLine; decide, ?_⟩⟩⟩
        rw [he]
        rfl
      refine s_seq <| s_set <| w_if <| wt_test <| w_op <| w_var rfl <| w_str ⟨_, od_eqS, _, rfl, fun q => w_str ⟨rfl, ret _ ?_⟩, fun q => w_var rfl ⟨rfl, ret _ ?_⟩⟩
      · rcases mW_cases ht.mach with ⟨h1, h2⟩ | ⟨h1, h2, h3⟩
        · rw [h2]; rfl
        · rw [h1] at q
          exact absurd (of_decide_eq_true q) h3
      · rcases mW_cases ht.mach with ⟨h1, h2⟩ | ⟨h1, h2, h3⟩
        · rw [h1] at q
          exact absurd q (by decide +kernel)
        · show _ = [Sl.d _, Sl.d _, Sl.d _, Sl.d _, Sl.n, Sl.d _, Sl.d (.str t.mach)]
          rw [h1]; rfl
    cases hd : t.due with
    | none => exact ⟨fun _ => w_non ⟨rfl, fin _ (by rw [hd] <;> rfl) _ rfl⟩, fun q => absurd q (by decide +kernel)⟩
    | some d =>
      refine ⟨fun q => absurd (of_decide_eq_true q) (numS_ne d), fun _ => ?_⟩
      exact w_call <| wa_cons <| w_var rfl <| wa_nil ⟨.int d, ⟨d, rfl, h5 d hd, rfl⟩, rfl, fin _ (by rw [hd] <;> rfl) _ rfl⟩⟩
end
end Bw
set_option Elab.async false
set_option linter.all false
set_option maxRecDepth 100000
set_option maxHeartbeats 2000000
/-! Own lists: extended, frozen; joins. -/
namespace Bw
open PySem PySem.Spec L2 Evl
section
variable {K : PySem.W.Frag} {B : Bs} {σ : L2.St} {ρ : Es} {F H : Hp} {te ta tb : TE} {tl : TA} {P : Pd → Es → Prop} {e : En}
theorem s_ext {j : Nat} {ys : List Pd} (hj : ρ[j]? = some (.l ys)) (h : WL K B te ρ fun zs ρ1 => ∃ xs, ρ1[j]? = some (.l xs) ∧ xs.length + zs.length ≤ sizeLine ∧ e.nx (ρ1.set j (.l (xs ++ zs)))) :
    S K B (tDrop (tBM K "list" rExtend (tVar j) (tCons te tNil))) ρ e := fun σ F H r D k => by
  obtain ⟨a, vs, ha, hF, hH, _⟩ := slot_l r hj
  refine ⟨.ref a, ha, .inl ⟨rfl, vs, .inl (.inl hH)⟩, h σ F H r _ fun b us zs ρ1 F1 H1 p1 e1 r1 hF1 hH1 d1 hB no => ?_⟩
  obtain ⟨xs, h1, h2, h3⟩ := p1
  obtain ⟨c, ws, hc, hF2, hH2, d⟩ := slot_l r1 h1
  rw [ha] at hc
  cases hc
  exact ⟨a, b, ws, us, rfl, rfl, hH2, hH1, by rw [da_len d, da_len d1]; exact h2, k.nx _ _ F1 _ h3 e1 (r1.putL h1 ha (da_append d d1))⟩
theorem Rel.frzSlot (hA : ∀ a, ¬ B.A a) (r : Rel K B σ ρ F H) {j : Nat} {xs : List Pd} (hj : ρ[j]? = some (.l xs)) : ∃ a vs, σ[j]? = some (some (.ref a)) ∧ Ex F (upd F a (.lst vs)) ∧ Dp K (upd F a (.lst vs)) (.ref a) (.list xs) ∧ Rel K B σ (ρ.set j (.d (.list xs))) (upd F a (.lst vs)) H := by
  obtain ⟨a, vs, ha, hF, hH, d⟩ := slot_l r hj
  have ex : Ex F (upd F a (.lst vs)) := Ex.new hF
  have oj : Own (σ[j]?.join) (.l xs) = some a := by rw [ha]; rfl
  have hBa : B.H a = none := (r.own j _ a hj oj).resolve_left (hA a)
  have dp : Dp K (upd F a (.lst vs)) (.ref a) (.list xs) := .lst (.inl (.inl upd_same)) (d.mono ex)
  refine ⟨a, vs, ha, ex, dp, ?_⟩
  refine ⟨fun b u e => ?_, by rw [List.length_set]; exact r.len, fun i s hs => ?_, fun i k s t b h1 h2 o1 o2 => ?_, fun i s b hs o => ?_, r.f.trans ex, r.h, fun b h1 h2 => ?_, r.dom, fun i n hs => ?_⟩
  · by_cases z : b = a
    · rw [z, upd_same] at e; rw [z, hH]; exact e
    · rw [upd_ne z] at e; exact r.sub b u e
  · rcases set_slot hs with ⟨h1, h2⟩ | ⟨h1, h2⟩
    · rw [h2, h1, ha]; exact ⟨_, rfl, dp⟩
    · have q := r.slot i s h2
      have ne : ∀ b, Own (σ[i]?.join) s = some b → b ≠ a := fun b hb z => h1 (r.sep i j s (.l xs) a h2 hj (by rw [← z]; exact hb) oj)
      cases s with
      | n => trivial
      | d x =>
        obtain ⟨u, q1, q2⟩ := q
        exact ⟨u, q1, q2.mono ex⟩
      | l ys =>
        obtain ⟨b, us, q1, q2, q3, q4⟩ := q
        exact ⟨b, us, q1, by rw [upd_ne (ne b (by rw [q1]; rfl))]; exact q2, q3, q4.mono ex⟩
      | r _ n =>
        obtain ⟨b, c, k, o, q1, q2, q3⟩ := q
        exact ⟨b, c, k, o, q1, by rw [upd_ne (ne b (by rw [q1]; rfl))]; exact q2, q3⟩
      | k kvs =>
        obtain ⟨b, us, q1, q2, q3⟩ := q
        exact ⟨b, us, q1, ex b _ q2, pair_imp (fun _ _ q => ⟨q.1, q.2.mono ex⟩) q3⟩
      | q Φ =>
        obtain ⟨u, q1, q2⟩ := q
        exact ⟨u, q1, Φ.m _ _ _ ex q2⟩
  · rcases set_slot h1 with ⟨a1, a2⟩ | ⟨a1, a2⟩
    · rw [a2, own_d] at o1; cases o1
    · rcases set_slot h2 with ⟨b1, b2⟩ | ⟨b1, b2⟩
      · rw [b2, own_d] at o2; cases o2
      · exact r.sep i k s t b a2 b2 o1 o2
  · rcases set_slot hs with ⟨a1, a2⟩ | ⟨a1, a2⟩
    · rw [a2, own_d] at o; cases o
    · exact r.own i s b a2 o
  · rw [upd_ne (fun z => h2 (by rw [z]; exact hBa))]; exact r.o b h1 h2
  · rcases set_slot hs with ⟨a1, a2⟩ | ⟨a1, a2⟩
    · cases a2
    · exact r.par i n a2
/-- one's own list, read for good -/
theorem w_frz {j : Nat} {xs : List Pd} (hA : ∀ a, ¬ B.A a) (hj : ρ[j]? = some (.l xs)) (p : P (.list xs) (ρ.set j (.d (.list xs)))) : WE K B (tVar j) ρ P := fun σ F H r Q q => by
  obtain ⟨a, vs, ha, ex, dp, r2⟩ := r.frzSlot hA hj
  exact ⟨.ref a, ha, q _ _ _ _ H p ex dp r2⟩
/-- tuple(l), l one's own -/
theorem w_tupOwn {j : Nat} {xs : List Pd} (hj : ρ[j]? = some (.l xs)) (p : P (.tuple xs) ρ) : WE K B (tCB (rTupZ K) (tCons (tVar j) tNil)) ρ P := fun σ F H r Q q => by
  obtain ⟨a, vs, ha, hF, hH, d⟩ := slot_l r hj
  refine ⟨.ref a, ha, a, vs, rfl, .inl (.inl hH), fun l o hl _ => ?_⟩
  have g := Gr.new r.sub (o := .frz o (.tup vs)) hl
  exact q _ _ ρ _ _ p g.f (.tup (.inl (.inr ⟨o, upd_same⟩)) (d.mono g.f)) (r.gr g)
theorem bodyP2 {R : List Pd → Pd → Prop} {N : List Str} {vs : List V} {H : Hp} {Q : VK} {E : XK} {t : TS} (h : spP K R vs H Q E) (k : ∀ B, (∀ a, ¬ B.A a) → ∀ xs y, R xs y → S K B t (args N xs) { nx := fun _ => y = .none, rt := fun z _ => z = y }) : t { nx := fun _ H' => Q .non H', rt := Q } (L2.start N vs) H := by
  obtain ⟨F, xs, y, s, d, hR, q⟩ := h
  refine k ⟨fun _ => False, F, H, none⟩ (fun _ z => z) xs y hR (L2.start N vs) F H (rel0 s d) _ ⟨fun σ' ρ' F' H' e x r => ?_, fun v z σ' ρ' F' H' e x dd r => ?_, fun _ _ _ _ e => e.elim, fun _ _ _ _ e => e.elim⟩
  · have e' : y = .none := e
    subst e'
    exact q .non F' H' r.out .non
  · have e' : z = y := e
    subst e'
    exact q v F' H' r.out dd
end
theorem sum_le {k : Nat} : ∀ {ys : List Str}, (∀ y ∈ ys, y.length ≤ k) → (ys.map (·.length)).sum ≤ ys.length * k
  | [], _ => by simp
  | y :: ys, h => by
    have h1 := h y (by simp)
    have h2 := sum_le (ys := ys) (k := k) fun z hz => h z (by simp [hz])
    rw [List.map_cons, List.sum_cons, List.length_cons, Nat.succ_mul]
    omega
theorem join_fits {ys : List Str} {k n m : Nat} (h : ∀ y ∈ ys, y.length ≤ k) (hn : ys.length ≤ n) (hb : n * k + n * m ≤ 16777216) : (ys.map (·.length)).sum + ys.length * m ≤ 16777216 := by
  have h1 := sum_le h
  have h2 := Nat.mul_le_mul_right k hn
  have h3 := Nat.mul_le_mul_right m hn
  omega
theorem log_num {n : Nat} (h : n < 10 ^ 7) : ((n : Int).natAbs).log2 < 1920 := by
  rw [Int.natAbs_natCast]
  by_cases z : n = 0
  · rw [z]; decide
  · exact (Nat.log2_lt z).mpr (Nat.lt_trans h (by decide +kernel))
theorem w_strN {K : PySem.W.Frag} {B : Bs} {ρ : Es} {te : TE} {P : Pd → Es → Prop} {n : Nat} (hn : n < 10 ^ 7) (h : WE K B te ρ fun x ρ1 => x = .int n ∧ P (.str (numS n)) ρ1) : WE K B (tCB rStrI (tCons te tNil)) ρ P :=
  w_cb <| wa_cons <| h.mono fun x ρ1 ⟨e, p⟩ => by
    subst e
    exact wa_nil ⟨_, cd_strI (log_num hn), p⟩
theorem join_two {s a b : Str} : Txt.join s [a, b] = a ++ s ++ b := by
  rw [TL.join_eq]
  refine TL.ext_tl ?_
  simp [Str.join, TL.tl_append]
theorem join_three {s a b c : Str} : Txt.join s [a, b, c] = a ++ s ++ b ++ s ++ c := by
  rw [TL.join_eq]
  refine TL.ext_tl ?_
  simp [Str.join, TL.tl_append]
end Bw
set_option Elab.async false
set_option linter.all false
set_option maxRecDepth 100000
set_option maxHeartbeats 2000000
namespace Bw
open PySem PySem.Spec L2 Evl
open Bk (sTaskRow sBookText)
theorem mW_len {m : Str} (h : m = Str.empty ∨ NameOk m) : (mWord m).length ≤ 8 := by
  rcases mW_cases h with ⟨h1, _⟩ | ⟨h1, h2, _⟩
  · rw [h1]; decide +kernel
  · rw [h1]; exact h2.hi
theorem dueW_len {d : Option Nat} (h : ∀ n, d = some n → n ≤ 1000000) : (dueW d).length ≤ 7 := by
  cases d with
  | none => show (Str.ofString "-").length ≤ 7; decide +kernel
  | some n =>
    have := h n rfl
    exact numS_len (by decide) (by omega)
theorem task_lens {t : Tk} (h : TkForm t) : ∀ y ∈ taskWords t, y.length ≤ 16 := fun y hy => by
  have h1 := h.len
  have h2 := h.first
  have h3 := h.wt
  have w1 := h.name.hi
  have w2 := mW_len h.mach
  have w3 := dueW_len h.due
  have w4 : (numS t.len).length ≤ 7 := numS_len (by decide) (by omega)
  have w5 : (numS t.first).length ≤ 7 := numS_len (by decide) (by omega)
  have w6 : (numS t.wt).length ≤ 7 := numS_len (by decide) (by omega)
  have w0 : (Str.ofString "task").length ≤ 16 := by decide +kernel
  unfold taskWords at hy
  rcases List.mem_append.mp hy with hy | hy
  · simp only [List.mem_cons, List.not_mem_nil, or_false] at hy
    rcases hy with rfl | rfl | rfl | rfl | rfl | rfl | rfl <;> omega
  · obtain ⟨p, hp, rfl⟩ := List.mem_map.mp hy
    have := h.needs.2 p hp
    exact needW_len this.1 this.2.2
theorem task_few {t : Tk} (h : TkForm t) : (taskWords t).length ≤ 11 := by
  have := h.needs.1
  unfold taskWords
  simp
  omega
theorem len_app (a b : Str) : (a ++ b).length = a.length + b.length := by rw [TL.len_tl, TL.tl_append, List.length_append, ← TL.len_tl, ← TL.len_tl]
theorem join_len {s : Str} {k : Nat} (hs : s.length ≤ 1) : ∀ {ys : List Str}, (∀ y ∈ ys, y.length ≤ k) → (Txt.join s ys).length ≤ ys.length * (k + 1)
  | [], _ => by rw [TL.join_eq]; show Str.empty.length ≤ _; exact Nat.zero_le _
  | [y], h => by
    rw [TL.join_eq]
    show y.length ≤ _
    have := h y (by simp)
    simp
    omega
  | y :: z :: ys, h => by
    have ih := join_len (ys := z :: ys) hs fun x hx => h x (by simp [hx])
    rw [TL.join_eq] at ih ⊢
    show (y ++ s ++ Str.join s (z :: ys)).length ≤ _
    rw [len_app, len_app]
    have h1 := h y (by simp)
    simp only [List.length_cons] at ih ⊢
    rw [Nat.succ_mul]
    omega
section
variable {P : Program} {w : World} {K : PySem.W.Frag} {mg : Str → Option Value} {base : Heap}
theorem scTaskRow : FnScope ["task", "name", "length", "machine", "needs", "first", "due", "weight", "words", "good", "many"] ["task"] (defScope sTaskRow) := ⟨rfl, rfl, rfl, by decide +kernel, rfl, by decide +kernel, by decide +kernel⟩
def RtaskRow : List Pd → Pd → Prop := fun xs y => ∃ t : Tk, xs = [pT t] ∧ TkForm t ∧ y = .str (rowT (taskWords t))
theorem calTaskRow (T : Tx K mg) : C8.Cal P w K mg base 2 "task_row" (spP K RtaskRow) [] :=
  cal_of (st := sTaskRow) (T.def_ 18 (d := Bk.dTaskRow) rfl) (T.glo 18) scTaskRow (fun _ _ _ _ _ _ us hl => match us, hl with | [_], _ => rfl) (lenP fun xs y ⟨_, e, _⟩ => by rw [e]; rfl) fun cdv A outer s H vs Q E hr h => ⟨_, (pss_cons (ps_asg (pv 0) (pg_tup rfl (pgs_cons (pg_name (i := 1) scTaskRow.nd rfl (by first | exact Or.inl rfl | exact Or.inr rfl)) (pgs_cons (pg_name (i := 2) scTaskRow.nd rfl (by first | exact Or.inl rfl | exact Or.inr rfl)) (pgs_cons (pg_name (i := 3) scTaskRow.nd rfl (by first | exact Or.inl rfl | exact Or.inr rfl)) (pgs_cons (pg_name (i := 4) scTaskRow.nd rfl (by first | exact Or.inl rfl | exact Or.inr rfl)) (pgs_cons (pg_name (i := 5) scTaskRow.nd rfl (by first | exact Or.inl rfl | exact Or.inr rfl)) (pgs_cons (pg_name (i := 6) scTaskRow.nd rfl (by first | exact Or.inl rfl | exact Or.inr rfl)) (pgs_cons (pg_name (i := 7) scTaskRow.nd rfl (by first | exact Or.inl rfl | exact Or.inr rfl)) pgs_nil)))))))))
      (pss_cons (ps_set (i := 8) scTaskRow.nd rfl (by first | exact Or.inl rfl | exact Or.inr rfl) (pe_lst (pa_cons pe_str (pa_cons (pv 1) (pa_cons (pe_callTy (T := "str") call_str_int rfl (T.fr 61) (by decide +kernel) (pa_cons (pv 2) pa_nil)) (pa_cons (C8.pe_c (calMachineWord T) hr (by decide) rfl (pa_cons (pv 3) pa_nil)) (pa_cons (pe_callTy (T := "str") call_str_int rfl (T.fr 61) (by decide +kernel) (pa_cons (pv 5) pa_nil)) (pa_cons (pe_ifExp (pt_cmp (pc_isN (pv 6))) (C8.pe_gc rfl (T.gcs 85)) (pe_callTy (T := "str") call_str_int rfl (T.fr 61) (by decide +kernel) (pa_cons (pv 6) pa_nil))) pa_nil))))))))
      (pss_one (ps_ret (pe_join pe_str (pe_op Bw.op_catS (pe_op Bw.op_catS (pv 8) (pe_lst (pa_cons (pe_callTy (T := "str") call_str_int rfl (T.fr 61) (by decide +kernel) (pa_cons (pv 7) pa_nil)) pa_nil))) (pe_lc (own := [("good", 9), ("many", 10)]) (g := gTup K 2 (gCons (gName 9) (gCons (gName 10) gNil))) rfl scTaskRow.nd (pi_tup (pv 4)) (blkOk_by (own := [("good", 9), ("many", 10)]) (N := ["task", "name", "length", "machine", "needs", "first", "due", "weight", "words", "good", "many"]) (sc := (defScope sTaskRow)) (by decide +kernel)) (fun _ _ _ _ _ => (pg_tup rfl (pgs_cons (pg_name (i := 9) scTaskRow.nd rfl (by first | exact Or.inl rfl | exact Or.inr rfl)) (pgs_cons (pg_name (i := 10) scTaskRow.nd rfl (by first | exact Or.inl rfl | exact Or.inr rfl)) pgs_nil)))) (fun _ _ _ _ _ => pts_nil) (fun _ _ _ _ _ => (pe_op op_add_str (pe_op op_add_str (pv 9) pe_str) (pe_callTy (T := "str") call_str_int rfl (T.fr 61) (by decide +kernel) (pa_cons (pv 10) pa_nil))))))))))), bodyP h fun B xs y hR => by
    obtain ⟨t, rfl, ht, rfl⟩ := hR
    have h1 := ht.len
    have h2 := ht.first
    have h3 := ht.wt
    refine s_seq <| s_asg <| w_var rfl <| g_tup rfl rfl <| gs_cons <| g_name trivial rfl <| gs_cons <| g_name trivial rfl <| gs_cons <| g_name trivial rfl <| gs_cons <| g_name trivial rfl <| gs_cons <| g_name trivial rfl <| gs_cons <| g_name trivial rfl <| gs_cons <| g_name trivial rfl <| gs_nil ?_
    refine s_seq <| s_set <| w_lst <| wa_cons <| w_str <| wa_cons <| w_var rfl <| wa_cons <| w_strN (n := t.len) (by omega) <| w_var rfl ⟨rfl, wa_cons <| w_call <| wa_cons <| w_var rfl <| wa_nil ⟨_, ⟨t.mach, rfl, rfl⟩, wa_cons <| w_strN (n := t.first) (by omega) <| w_var rfl ⟨rfl, wa_cons ?_⟩⟩⟩
    have fin : ∀ e : En, e.rt = (fun z _ => z = .str (rowT (taskWords t))) → ∀ ρ1 : Es, ρ1 = [.d (pT t), .d (.str t.name), .d (.int t.len), .d (.str t.mach), .d (.tuple (t.needs.map pN)), .d (.int t.first), .d (pD t.due), .d (.int t.wt), .d (.list ([Str.ofString "task", t.name, numS t.len, mWord t.mach, numS t.first, dueW t.due].map .str)), .n, .n] →
        S K B (tRet (tM1 (rJoin K) (tC (.str (Str.ofString " "))) (tOp (rCatS K) (tOp (rCatS K) (tVar 8) (tLst (tCons (tCB rStrI (tCons (tVar 7) tNil)) tNil))) (tLc (iTup K (tVar 4)) (gTup K 2 (gCons (gName 9) (gCons (gName 10) gNil))) tYes (tOp rAddT (tOp rAddT (tVar 9) (tC (.str (Str.ofString ":")))) (tCB rStrI (tCons (tVar 10) tNil))) [9, 10])))) ρ1 e := fun e he ρ1 e1 => by
      subst e1
      refine s_ret <| w_m1 <| w_str ⟨rfl, w_op <| w_op <| w_var rfl <| w_lst <| wa_cons <| w_strN (n := t.wt) (by omega) <| w_var rfl ⟨rfl, wa_nil ⟨by show 1 ≤ sizeLine; decide, _, od_cat (by show 7 ≤ sizeLine; decide), ?_⟩⟩⟩
      refine w_fr <| wl_mapA <| wi_tup <| w_var rfl ⟨_, rfl, t.needs, pN, fun p => .str (needW p), rfl, Nat.le_trans ht.needs.1 (by decide), rfl, fun p hp B' => ?_, _, od_cat ?_, ?_⟩
      · have h6 := ht.needs.2 p hp
        have h7 := h6.1.hi
        have h8 : (numS p.2).length ≤ 2 := numS_len (by decide) (by omega)
        have h9 : (Str.ofString ":").length = 1 := by decide +kernel
        refine g_tup rfl rfl <| gs_cons <| g_name (by decide) rfl <| gs_cons <| g_name (by decide) rfl <| gs_nil <| w_op <| w_op <| w_var rfl <| w_str ⟨_, od_addS (Nat.le_trans (show _ ≤ 100 by omega) (by decide)), w_strN (n := p.2) (by omega) <| w_var rfl ⟨rfl, _, od_addS (Nat.le_trans (show _ ≤ 100 by rw [len_app]; omega) (by decide)), rfl, rfl⟩⟩
      · have := ht.needs.1
        refine Nat.le_trans ?_ (show 100 ≤ sizeLine by decide)
        simp
        omega
      · have e2 : ([Str.ofString "task", t.name, numS t.len, mWord t.mach, numS t.first, dueW t.due].map PyData.str ++ [PyData.str (numS t.wt)] ++ t.needs.map fun p => PyData.str (needW p)) = (taskWords t).map .str := by
          unfold taskWords
          rw [List.map_append, List.map_map]
          rfl
        refine ⟨.str (rowT (taskWords t)), ?_, ?_⟩
        · show MeD K (rJoin K) _ [.list ([Str.ofString "task", t.name, numS t.len, mWord t.mach, numS t.first, dueW t.due].map PyData.str ++ [PyData.str (numS t.wt)] ++ t.needs.map fun p => PyData.str (needW p))] _
          rw [e2]
          refine md_join ?_
          have h9 : (Str.ofString " ").length = 1 := by decide +kernel
          rw [h9]
          exact join_fits (task_lens ht) (task_few ht) (by decide)
        · rw [he]
    cases hd : t.due with
    | none => exact w_if <| wt_B <| w_isN (b := true) <| w_var (x := .none) rfl ⟨nofun, fun _ => rfl, _, rfl, fun _ => w_str <| wa_nil ⟨by show 6 ≤ sizeLine; decide, rfl, fin _ rfl _ (by rw [hd] <;> rfl)⟩, nofun⟩
    | some d =>
      have h4 := ht.due d hd
      exact w_if <| wt_B <| w_isN (b := false) <| w_var (x := .int d) rfl ⟨nofun, nofun, _, rfl, nofun, fun _ => w_strN (n := d) (by omega) <| w_var (x := .int d) rfl ⟨rfl, wa_nil ⟨by show 6 ≤ sizeLine; decide, rfl, fin _ rfl _ (by rw [hd] <;> rfl)⟩⟩⟩⟩
end
end Bw
set_option Elab.async false
set_option linter.all false
set_option maxRecDepth 100000
set_option maxHeartbeats 2000000
/-! The rows of a book, by their words: sizes, signs. -/
namespace Bw
open PySem PySem.Spec L2 Evl
/-- a word of a row: short, no blank, no line's end, signs of the plain kind -/
def WdOk (w : Str) : Prop := w.length ≤ 16 ∧ ∀ c ∈ TL.tl w, 33 ≤ c ∧ c < 127
structure RwOk (r : List Str) : Prop where
  ne : r ≠ []
  few : r.length ≤ 11
  wd : ∀ w ∈ r, WdOk w
theorem wd_name {w : Str} (h : NameOk w) : WdOk w := ⟨Nat.le_trans h.hi (by decide), fun c hc => by have := h.sg c hc; omega⟩
theorem wd_num {n : Nat} (h : n < 10 ^ 7) : WdOk (numS n) := ⟨Nat.le_trans (numS_len (by decide) h) (by decide), fun c hc => by
  rw [show TL.tl (numS n) = TL.numL n from numS_tl n] at hc
  have := TL.numL_digits n c hc
  omega⟩
def wdB (w : Str) : Bool := decide (w.length ≤ 16) && w.cps.toList.all fun c => decide (33 ≤ c) && decide (c < 127)
theorem wd_dec {w : Str} (h : wdB w = true) : WdOk w := by
  unfold wdB at h
  rw [Bool.and_eq_true, List.all_eq_true] at h
  exact ⟨of_decide_eq_true h.1, fun c hc => by
    have := h.2 c hc
    rw [Bool.and_eq_true] at this
    exact ⟨of_decide_eq_true this.1, of_decide_eq_true this.2⟩⟩
theorem wd_app {a b : Str} {n m : Nat} (ha : a.length ≤ n) (hb : b.length ≤ m) (hn : n + m ≤ 16) (h1 : ∀ c ∈ TL.tl a, 33 ≤ c ∧ c < 127) (h2 : ∀ c ∈ TL.tl b, 33 ≤ c ∧ c < 127) : WdOk (a ++ b) :=
  ⟨by rw [len_app]; omega, fun c hc => by
    rw [TL.tl_append] at hc
    rcases List.mem_append.mp hc with hc | hc
    · exact h1 c hc
    · exact h2 c hc⟩
theorem wd_need {p : Str × Nat} (h : NameOk p.1) (h2 : p.2 ≤ 99) : WdOk (needW p) := by
  refine ⟨needW_len h h2, fun c hc => ?_⟩
  unfold needW at hc
  rw [TL.tl_append, TL.tl_append] at hc
  rcases List.mem_append.mp hc with hc | hc
  · rcases List.mem_append.mp hc with hc | hc
    · exact (wd_name h).2 c hc
    · exact (wd_dec (w := Str.ofString ":") (by decide +kernel)).2 c hc
  · exact (wd_num (n := p.2) (by omega)).2 c hc
theorem wd_mach {m : Str} (h : m = Str.empty ∨ NameOk m) : WdOk (mWord m) := by
  rcases mW_cases h with ⟨h1, _⟩ | ⟨h1, h2, _⟩
  · rw [h1]; exact wd_dec (by decide +kernel)
  · rw [h1]; exact wd_name h2
theorem wd_due {d : Option Nat} (h : ∀ n, d = some n → n ≤ 1000000) : WdOk (dueW d) := by
  cases d with
  | none => exact wd_dec (w := Str.ofString "-") (by decide +kernel)
  | some n =>
    have := h n rfl
    exact wd_num (by omega)
theorem rw_mach {m : Str} (h : NameOk m) : RwOk (machWords m) := ⟨nofun, by show 2 ≤ 11; decide, fun w hw => by
  simp only [machWords, List.mem_cons, List.not_mem_nil, or_false] at hw
  rcases hw with rfl | rfl
  · exact wd_dec (by decide +kernel)
  · exact wd_name h⟩
theorem rw_good {p : Str × Nat} (h : NameOk p.1) (h2 : p.2 ≤ 99) : RwOk (goodWords p) := ⟨nofun, by show 3 ≤ 11; decide, fun w hw => by
  simp only [goodWords, List.mem_cons, List.not_mem_nil, or_false] at hw
  rcases hw with rfl | rfl | rfl
  · exact wd_dec (by decide +kernel)
  · exact wd_name h
  · exact wd_num (by omega)⟩
theorem rw_task {t : Tk} (h : TkForm t) : RwOk (taskWords t) := ⟨by unfold taskWords; simp, task_few h, fun w hw => by
  have h1 := h.len
  have h2 := h.first
  have h3 := h.wt
  unfold taskWords at hw
  rcases List.mem_append.mp hw with hw | hw
  · simp only [List.mem_cons, List.not_mem_nil, or_false] at hw
    rcases hw with rfl | rfl | rfl | rfl | rfl | rfl | rfl
    · exact wd_dec (by decide +kernel)
    · exact wd_name h.name
    · exact wd_num (by omega)
    · exact wd_mach h.mach
    · exact wd_num (by omega)
    · exact wd_due h.due
    · exact wd_num (by omega)
  · obtain ⟨p, hp, rfl⟩ := List.mem_map.mp hw
    have := h.needs.2 p hp
    exact wd_need this.1 this.2.2⟩
theorem nameAt_eq {ts : List Tk} {i : Nat} {t : Tk} (h : ts[i]? = some t) : nameAt ts i = t.name := by unfold nameAt; rw [h]; rfl
theorem nameAt_ok {b : Bd} (hb : BdOk b) {i : Nat} (h : i < b.ts.length) : NameOk (nameAt b.ts i) := by
  have e : b.ts[i]? = some b.ts[i] := List.getElem?_eq_getElem h
  rw [nameAt_eq e]
  exact (hb.ts.2.1 _ (List.getElem_mem h)).name
theorem rw_wait {b : Bd} (hb : BdOk b) {p : Nat × Nat × Nat} (h : p ∈ b.ws) : RwOk (waitWords b.ts p) := by
  have h1 := hb.ws.2 p h
  refine ⟨nofun, by show 4 ≤ 11; decide, fun w hw => ?_⟩
  simp only [waitWords, List.mem_cons, List.not_mem_nil, or_false] at hw
  rcases hw with rfl | rfl | rfl | rfl
  · exact wd_dec (by decide +kernel)
  · exact wd_name (nameAt_ok hb (by omega))
  · exact wd_name (nameAt_ok hb h1.2.1)
  · exact wd_num (by omega)
theorem rw_fix {b : Bd} (hb : BdOk b) {p : Nat × Nat} (h : p ∈ b.fx) : RwOk (fixWords b.ts p) := by
  obtain ⟨h1, t, h2, h3⟩ := hb.fx.2.1 p h
  refine ⟨nofun, by show 3 ≤ 11; decide, fun w hw => ?_⟩
  simp only [fixWords, List.mem_cons, List.not_mem_nil, or_false] at hw
  rcases hw with rfl | rfl | rfl
  · exact wd_dec (by decide +kernel)
  · exact wd_name (nameAt_ok hb (List.getElem?_eq_some_iff.mp h2).1)
  · exact wd_num (by omega)
theorem rows_ok {b : Bd} (hb : BdOk b) : ∀ r ∈ rowsW b, RwOk r := fun r hr => by
  unfold rowsW at hr
  simp only [List.mem_append, List.mem_map] at hr
  rcases hr with ⟨m, hm, rfl⟩ | ⟨p, hp, rfl⟩ | ⟨t, ht, rfl⟩ | ⟨p, hp, rfl⟩ | ⟨p, hp, rfl⟩
  · exact rw_mach (hb.ms.2.1 m hm)
  · exact rw_good (hb.gs.2.1 p hp).1 (hb.gs.2.1 p hp).2.2
  · exact rw_task (hb.ts.2.1 t ht).form
  · exact rw_wait hb hp
  · exact rw_fix hb hp
theorem rows_few {b : Bd} (hb : BdOk b) : (rowsW b).length ≤ 130 := by
  have h1 := hb.ms.1
  have h2 := hb.gs.1
  have h3 := hb.ts.1
  have h4 := hb.ws.1
  have h5 := hb.fx.1
  unfold rowsW
  simp only [List.length_append, List.length_map]
  omega
theorem rowT_len {r : List Str} (h : RwOk r) : (rowT r).length ≤ 187 := by
  have h1 := join_len (s := Str.ofString " ") (k := 16) (by decide +kernel) (ys := r) fun y hy => (h.wd y hy).1
  have h2 := Nat.mul_le_mul_right 17 h.few
  unfold rowT
  omega
theorem text_len {rs : List (List Str)} (h : ∀ r ∈ rs, RwOk r) (hn : rs.length ≤ 130) : (textOf rs).length ≤ 24440 := by
  have h1 := join_len (s := Str.ofString "\n") (k := 187) (by decide +kernel) (ys := rs.map rowT) fun y hy => by
    obtain ⟨r, hr, rfl⟩ := List.mem_map.mp hy
    exact rowT_len (h r hr)
  rw [List.length_map] at h1
  have h2 := Nat.mul_le_mul_right 188 hn
  unfold textOf
  omega
theorem text_fits {rs : List (List Str)} (h : ∀ r ∈ rs, RwOk r) (hn : rs.length ≤ 130) : ((rs.map rowT).map (·.length)).sum + (rs.map rowT).length * (Str.ofString "\n").length ≤ 16777216 := by
  have h9 : (Str.ofString "\n").length = 1 := by decide +kernel
  rw [h9]
  exact join_fits (k := 187) (n := 130) (fun y hy => by
    obtain ⟨r, hr, rfl⟩ := List.mem_map.mp hy
    exact rowT_len (h r hr)) (by rw [List.length_map]; exact hn) (by decide)
/-- the signs of a joined row -/
theorem mem_join {s : Str} {c : Nat} : ∀ {ys : List Str}, c ∈ TL.tl (Txt.join s ys) → c ∈ TL.tl s ∨ ∃ y ∈ ys, c ∈ TL.tl y
  | [], h => by
    rw [TL.join_eq] at h
    exact absurd h (by show ¬ c ∈ TL.tl Str.empty; simp [TL.tl, Str.empty])
  | [y], h => by
    rw [TL.join_eq] at h
    exact .inr ⟨y, by simp, h⟩
  | y :: z :: ys, h => by
    rw [TL.join_eq] at h
    have h' : c ∈ TL.tl (y ++ s ++ Str.join s (z :: ys)) := h
    rw [TL.tl_append, TL.tl_append] at h'
    rcases List.mem_append.mp h' with h' | h'
    · rcases List.mem_append.mp h' with h' | h'
      · exact .inr ⟨y, by simp, h'⟩
      · exact .inl h'
    · rw [← TL.join_eq] at h'
      rcases mem_join h' with q | ⟨x, hx, q⟩
      · exact .inl q
      · exact .inr ⟨x, by simp [hx], q⟩
theorem rowT_split {r : List Str} (h : RwOk r) : Txt.split (rowT r) (Str.ofString " ") = r :=
  TL.split_join (s := 32) (S := []) (by rw [TL.tl_ofString]; rfl) (by decide +kernel) h.ne fun w hw z => by
    have := (h.wd w hw).2 32 z
    omega
theorem rowT_cp {r : List Str} (h : RwOk r) : ∀ c ∈ TL.tl (rowT r), 32 ≤ c ∧ c < 127 := fun c hc => by
  rcases mem_join hc with q | ⟨w, hw, q⟩
  · rw [TL.tl_ofString] at q
    have : c = 32 := by simpa using q
    omega
  · have := (h.wd w hw).2 c q
    omega
theorem text_split {rs : List (List Str)} (hne : rs ≠ []) (h : ∀ r ∈ rs, RwOk r) : Txt.split (textOf rs) (Str.ofString "\n") = rs.map rowT :=
  TL.split_join (s := 10) (S := []) (by rw [TL.tl_ofString]; rfl) (by decide +kernel) (fun z => hne (List.map_eq_nil_iff.mp z)) fun w hw z => by
    obtain ⟨r, hr, rfl⟩ := List.mem_map.mp hw
    have := rowT_cp (h r hr) 10 z
    omega
theorem sh_text {rs : List (List Str)} (h : ∀ r ∈ rs, RwOk r) : Sh 0 (.str (textOf rs)) := sh_str fun c hc => by
  rcases mem_join hc with q | ⟨w, hw, q⟩
  · rw [TL.tl_ofString] at q
    have : c = 10 := by simpa using q
    omega
  · obtain ⟨r, hr, rfl⟩ := List.mem_map.mp hw
    have := rowT_cp (h r hr) c q
    omega
end Bw
set_option Elab.async false
set_option linter.all false
set_option maxRecDepth 100000
set_option maxHeartbeats 2000000
namespace Bw
open PySem PySem.Spec L2 Evl
open Bk (sBookText)
theorem sz_str {n : Nat} (h : n ≤ 10000) : n ≤ sizeLine := Nat.le_trans h (by decide)
section
variable {P : Program} {w : World} {K : PySem.W.Frag} {mg : Str → Option Value} {base : Heap}
theorem scBookText : FnScope ["book", "machines", "goods", "tasks", "waits", "fixed", "rows", "name", "many", "task", "one", "other", "gap", "begin"] ["book"] (defScope sBookText) := ⟨rfl, rfl, rfl, by decide +kernel, rfl, by decide +kernel, by decide +kernel⟩
def RbookText : List Pd → Pd → Prop := fun xs y => ∃ b : Bd, xs = [pB b] ∧ BdOk b ∧ y = .str (textOf (rowsW b))
theorem calBookText (T : Tx K mg) : C8.Cal P w K mg base 3 "book_text" (spP K RbookText) [] :=
  cal_of (st := sBookText) (T.def_ 19 (d := Bk.dBookText) rfl) (T.glo 19) scBookText (fun _ _ _ _ _ _ us hl => match us, hl with | [_], _ => rfl) (lenP fun xs y ⟨_, e, _⟩ => by rw [e]; rfl) fun cdv A outer s H vs Q E hr h => ⟨_, (pss_cons (ps_asg (pv 0) (pg_tup rfl (pgs_cons (pg_name (i := 1) scBookText.nd rfl (by first | exact Or.inl rfl | exact Or.inr rfl)) (pgs_cons (pg_name (i := 2) scBookText.nd rfl (by first | exact Or.inl rfl | exact Or.inr rfl)) (pgs_cons (pg_name (i := 3) scBookText.nd rfl (by first | exact Or.inl rfl | exact Or.inr rfl)) (pgs_cons (pg_name (i := 4) scBookText.nd rfl (by first | exact Or.inl rfl | exact Or.inr rfl)) (pgs_cons (pg_name (i := 5) scBookText.nd rfl (by first | exact Or.inl rfl | exact Or.inr rfl)) pgs_nil)))))))
      (pss_cons (ps_setLc (i := 6) (own := [("name", 7)]) (g := gName 7) rfl scBookText.nd rfl rfl (sw_true rfl rfl rfl (by decide +kernel)) (pi_tup (pv 1)) (blkOk_by (own := [("name", 7)]) (N := ["book", "machines", "goods", "tasks", "waits", "fixed", "rows", "name", "many", "task", "one", "other", "gap", "begin"]) (sc := (defScope sBookText)) (by decide +kernel)) (fun _ _ _ _ _ => (pg_name (i := 7) scBookText.nd rfl (by first | exact Or.inl rfl | exact Or.inr rfl))) (fun _ _ _ _ _ => pts_nil) (fun _ _ _ _ _ => (pe_op op_add_str pe_str (pv 7))))
      (pss_cons (ps_expr (pe_bm PySem.F.plainAttrs_list PySem.F.slot_list_extend PySem.F.type_list_extend mt_extend (pv 6) (pa_cons (pe_lc (own := [("name", 7), ("many", 8)]) (g := gTup K 2 (gCons (gName 7) (gCons (gName 8) gNil))) rfl scBookText.nd (pi_tup (pv 2)) (blkOk_by (own := [("name", 7), ("many", 8)]) (N := ["book", "machines", "goods", "tasks", "waits", "fixed", "rows", "name", "many", "task", "one", "other", "gap", "begin"]) (sc := (defScope sBookText)) (by decide +kernel)) (fun _ _ _ _ _ => (pg_tup rfl (pgs_cons (pg_name (i := 7) scBookText.nd rfl (by first | exact Or.inl rfl | exact Or.inr rfl)) (pgs_cons (pg_name (i := 8) scBookText.nd rfl (by first | exact Or.inl rfl | exact Or.inr rfl)) pgs_nil)))) (fun _ _ _ _ _ => pts_nil) (fun _ _ _ _ _ => (pe_op op_add_str (pe_op op_add_str (pe_op op_add_str pe_str (pv 7)) pe_str) (pe_callTy (T := "str") call_str_int rfl (T.fr 61) (by decide +kernel) (pa_cons (pv 8) pa_nil))))) pa_nil)))
      (pss_cons (ps_expr (pe_bm PySem.F.plainAttrs_list PySem.F.slot_list_extend PySem.F.type_list_extend mt_extend (pv 6) (pa_cons (pe_lc (own := [("task", 9)]) (g := gName 9) rfl scBookText.nd (pi_tup (pv 3)) (blkOk_by (own := [("task", 9)]) (N := ["book", "machines", "goods", "tasks", "waits", "fixed", "rows", "name", "many", "task", "one", "other", "gap", "begin"]) (sc := (defScope sBookText)) (by decide +kernel)) (fun _ _ _ _ _ => (pg_name (i := 9) scBookText.nd rfl (by first | exact Or.inl rfl | exact Or.inr rfl))) (fun _ _ _ _ _ => pts_nil) (fun _ _ _ _ _ => (C8.pe_c (calTaskRow T) hr (by decide) rfl (pa_cons (pv 9) pa_nil)))) pa_nil)))
      (pss_cons (ps_for PassesOwn.never rfl (pi_tup (pv 4)) (pg_tup rfl (pgs_cons (pg_name (i := 10) scBookText.nd rfl (by first | exact Or.inl rfl | exact Or.inr rfl)) (pgs_cons (pg_name (i := 11) scBookText.nd rfl (by first | exact Or.inl rfl | exact Or.inr rfl)) (pgs_cons (pg_name (i := 12) scBookText.nd rfl (by first | exact Or.inl rfl | exact Or.inr rfl)) pgs_nil)))) (pss_one (ps_expr (pe_bm PySem.F.plainAttrs_list PySem.F.slot_list_append PySem.F.type_list_append mt_append (pv 6) (pa_cons (pe_join pe_str (pe_lst (pa_cons pe_str (pa_cons (pe_ix ix_tup (pe_ix ix_tup (pv 3) (pv 10) (fun _ _ => rfl)) pe_int (fun _ _ => rfl)) (pa_cons (pe_ix ix_tup (pe_ix ix_tup (pv 3) (pv 11) (fun _ _ => rfl)) pe_int (fun _ _ => rfl)) (pa_cons (pe_callTy (T := "str") call_str_int rfl (T.fr 61) (by decide +kernel) (pa_cons (pv 12) pa_nil)) pa_nil)))))) pa_nil)))))
      (pss_cons (ps_expr (pe_bm PySem.F.plainAttrs_list PySem.F.slot_list_extend PySem.F.type_list_extend mt_extend (pv 6) (pa_cons (pe_lc (own := [("task", 9), ("begin", 13)]) (g := gTup K 2 (gCons (gName 9) (gCons (gName 13) gNil))) rfl scBookText.nd (pi_tup (pv 5)) (blkOk_by (own := [("task", 9), ("begin", 13)]) (N := ["book", "machines", "goods", "tasks", "waits", "fixed", "rows", "name", "many", "task", "one", "other", "gap", "begin"]) (sc := (defScope sBookText)) (by decide +kernel)) (fun _ _ _ _ _ => (pg_tup rfl (pgs_cons (pg_name (i := 9) scBookText.nd rfl (by first | exact Or.inl rfl | exact Or.inr rfl)) (pgs_cons (pg_name (i := 13) scBookText.nd rfl (by first | exact Or.inl rfl | exact Or.inr rfl)) pgs_nil)))) (fun _ _ _ _ _ => pts_nil) (fun _ _ _ _ _ => (pe_op op_add_str (pe_op op_add_str (pe_op op_add_str pe_str (pe_ix ix_tup (pe_ix ix_tup (pv 3) (pv 9) (fun _ _ => rfl)) pe_int (fun _ _ => rfl))) pe_str) (pe_callTy (T := "str") call_str_int rfl (T.fr 61) (by decide +kernel) (pa_cons (pv 13) pa_nil))))) pa_nil)))
      (pss_one (ps_ret (pe_join pe_str (pv 6)))))))))), bodyP2 h fun B hA xs y hR => by
    obtain ⟨b, rfl, hb, rfl⟩ := hR
    have k1 := hb.ms.1
    have k2 := hb.gs.1
    have k3 := hb.ts.1
    have k4 := hb.ws.1
    have k5 := hb.fx.1
    refine s_seq <| s_asg <| w_var rfl <| g_tup rfl rfl <| gs_cons <| g_name trivial rfl <| gs_cons <| g_name trivial rfl <| gs_cons <| g_name trivial rfl <| gs_cons <| g_name trivial rfl <| gs_cons <| g_name trivial rfl <| gs_nil ?_
    refine s_seq <| s_setL <| wl_mapA <| wi_tup <| w_var rfl ⟨_, rfl, b.ms, .str, fun m => .str (rowT (machWords m)), rfl, Nat.le_trans k1 (by decide), rfl, fun m hm B' => ?_, rfl, ?_⟩
    · have h1 := (hb.ms.2.1 m hm).hi
      have h2 : (Str.ofString "machine ").length = 8 := by decide +kernel
      refine g_name (by decide) rfl <| w_op <| w_str <| w_var rfl ⟨_, od_addS (sz_str (by omega)), ?_, rfl⟩
      show _ = PyData.str (Txt.join _ [_, _])
      rw [join_two]
      have e : Str.ofString "machine " = Str.ofString "machine" ++ Str.ofString " " := by decide +kernel
      rw [e]
    refine s_seq <| s_ext (ys := b.ms.map fun m => .str (rowT (machWords m))) rfl <| wl_mapA <| wi_tup <| w_var rfl ⟨_, rfl, b.gs, pN, fun p => .str (rowT (goodWords p)), rfl, Nat.le_trans k2 (by decide), rfl, fun p hp B' => ?_, _, rfl, ?_, ?_⟩
    · have h0 := hb.gs.2.1 p hp
      have h1 := h0.1.hi
      have h2 : (Str.ofString "good ").length = 5 := by decide +kernel
      have h3 : (Str.ofString " ").length = 1 := by decide +kernel
      have h4 : (numS p.2).length ≤ 2 := numS_len (by decide) (by omega)
      refine g_tup rfl rfl <| gs_cons <| g_name (by decide) rfl <| gs_cons <| g_name (by decide) rfl <| gs_nil ?_
      refine w_op <| w_op <| w_op <| w_str <| w_var rfl ⟨_, od_addS (sz_str (by omega)), w_str ⟨_, od_addS (sz_str (by rw [len_app]; omega)), w_strN (n := p.2) (by omega) <| w_var rfl ⟨rfl, _, od_addS (sz_str (by rw [len_app, len_app]; omega)), ?_, rfl⟩⟩⟩
      show _ = PyData.str (Txt.join _ [_, _, _])
      rw [join_three]
      have e : Str.ofString "good " = Str.ofString "good" ++ Str.ofString " " := by decide +kernel
      rw [e]
    · rw [List.length_map, List.length_map]
      exact sz_str (by omega)
    refine s_seq <| s_ext (ys := _) rfl <| wl_mapA <| wi_tup <| w_var rfl ⟨_, rfl, b.ts, pT, fun t => .str (rowT (taskWords t)), rfl, Nat.le_trans k3 (by decide), rfl, fun t ht B' => ?_, _, rfl, ?_, ?_⟩
    · exact g_name (by decide) rfl <| w_call <| wa_cons <| w_var rfl <| wa_nil ⟨_, ⟨t, rfl, (hb.ts.2.1 t ht).form, rfl⟩, rfl, rfl⟩
    · simp only [List.length_append, List.length_map]
      exact sz_str (by omega)
    have at_ : ∀ {i : Nat}, i < b.ts.length → ∃ t, b.ts[i]? = some t ∧ nameAt b.ts i = t.name ∧ (b.ts.map pT)[i]? = some (pT t) := fun {i} hi => by
      have e : b.ts[i]? = some b.ts[i] := List.getElem?_eq_getElem hi
      exact ⟨_, e, nameAt_eq e, by rw [List.getElem?_map, e]; rfl⟩
    refine s_seq <| s_for <| wi_tup <| w_var rfl ⟨_, rfl, fun i r => ∃ x y z, r = [.d (pB b), .d (.tuple (b.ms.map .str)), .d (.tuple (b.gs.map pN)), .d (.tuple (b.ts.map pT)), .d (.tuple (b.ws.map pW)), .d (.tuple (b.fx.map pF)),
      .l ((b.ms.map fun m => .str (rowT (machWords m))) ++ (b.gs.map fun p => .str (rowT (goodWords p))) ++ (b.ts.map fun t => .str (rowT (taskWords t))) ++ ((b.ws.take i).map fun p => .str (rowT (waitWords b.ts p)))), .n, .n, .n, x, y, z, .n], ⟨.n, .n, .n, ?_⟩, ?_, ?_⟩
    · simp only [List.take_zero, List.map_nil, List.append_nil]
      rfl
    · rintro i x r hx ⟨x0, y0, z0, rfl⟩
      rw [List.getElem?_map] at hx
      cases e1 : b.ws[i]? with
      | none => rw [e1] at hx; cases hx
      | some p =>
        rw [e1] at hx
        obtain rfl : pW p = x := Option.some.inj hx
        obtain ⟨hi, he⟩ := List.getElem?_eq_some_iff.mp e1
        obtain ⟨h1, h2, h3⟩ := hb.ws.2 p (List.mem_of_getElem? e1)
        obtain ⟨t1, t2, t3, t4⟩ := at_ (i := p.1) (by omega)
        obtain ⟨u1, u2, u3, u4⟩ := at_ (i := p.2.1) h2
        refine g_tup rfl rfl <| gs_cons <| g_name trivial rfl <| gs_cons <| g_name trivial rfl <| gs_cons <| g_name trivial rfl <| gs_nil ?_
        refine s_app rfl <| w_m1 <| w_str ⟨rfl, w_lst <| wa_cons <| w_str <| wa_cons <| w_op <| w_op <| w_var rfl <| w_var rfl ⟨_, od_ixT (atI_n t4), w_int ⟨_, od_ixT (atI_n (j := 0) rfl), wa_cons <| w_op <| w_op <| w_var rfl <| w_var rfl ⟨_, od_ixT (atI_n u4), w_int ⟨_, od_ixT (atI_n (j := 0) rfl), ?_⟩⟩⟩⟩⟩
        refine wa_cons <| w_strN (n := p.2.2) (by omega) <| w_var rfl ⟨rfl, wa_nil ⟨by show 4 ≤ sizeLine; decide, .str (rowT (waitWords b.ts p)), ?_, _, rfl, ?_, .d (.int p.1), .d (.int p.2.1), .d (.int p.2.2), ?_⟩⟩
        · have hw := rw_wait hb (List.mem_of_getElem? e1)
          have e2 : [PyData.str (Str.ofString "wait"), .str t1.name, .str u1.name, .str (numS p.2.2)] = (waitWords b.ts p).map .str := by
            unfold waitWords
            rw [t3, u3]
            rfl
          show MeD K (rJoin K) _ [.list [PyData.str (Str.ofString "wait"), .str t1.name, .str u1.name, .str (numS p.2.2)]] _
          rw [e2]
          refine md_join ?_
          have h9 : (Str.ofString " ").length = 1 := by decide +kernel
          rw [h9]
          exact join_fits (k := 16) (n := 11) (fun y hy => (hw.wd y hy).1) hw.few (by decide)
        · simp only [List.length_append, List.length_map, List.length_take]
          exact Nat.lt_of_le_of_lt (show _ ≤ 1000 by omega) (by decide)
        · rw [List.take_succ_eq_append_getElem hi, he, List.map_append, ← List.append_assoc]
          rfl
    · rintro r ⟨x0, y0, z0, rfl⟩
      refine s_seq <| s_ext (ys := _) rfl <| wl_mapA <| wi_tup <| w_var rfl ⟨_, rfl, b.fx, pF, fun p => .str (rowT (fixWords b.ts p)), rfl, Nat.le_trans k5 (by decide), rfl, fun p hp B' => ?_, _, rfl, ?_, ?_⟩
      · obtain ⟨h1, t, h2, h3⟩ := hb.fx.2.1 p hp
        obtain ⟨t1, t2, t3, t4⟩ := at_ (i := p.1) (List.getElem?_eq_some_iff.mp h2).1
        have hn := (nameAt_ok hb (i := p.1) (List.getElem?_eq_some_iff.mp h2).1).hi
        rw [t3] at hn
        have h5 : (Str.ofString "fixed ").length = 6 := by decide +kernel
        have h6 : (Str.ofString " ").length = 1 := by decide +kernel
        have h7 : (numS p.2).length ≤ 7 := numS_len (by decide) (by omega)
        refine g_tup rfl rfl <| gs_cons <| g_name (by decide) rfl <| gs_cons <| g_name (by decide) rfl <| gs_nil ?_
        refine w_op <| w_op <| w_op <| w_str <| w_op <| w_op <| w_var rfl <| w_var rfl ⟨_, od_ixT (atI_n t4), w_int ⟨_, od_ixT (atI_n (j := 0) rfl), _, od_addS (sz_str (by omega)), w_str ⟨_, od_addS (sz_str (by rw [len_app]; omega)), w_strN (n := p.2) (by omega) <| w_var rfl ⟨rfl, _, od_addS (sz_str (by rw [len_app, len_app]; omega)), ?_, rfl⟩⟩⟩⟩
        show _ = PyData.str (Txt.join _ [_, _, _])
        rw [join_three, t3]
        have e : Str.ofString "fixed " = Str.ofString "fixed" ++ Str.ofString " " := by decide +kernel
        rw [e]
      · simp only [List.length_append, List.length_map, List.length_take]
        exact sz_str (by omega)
      have e3 : ((b.ms.map fun m => PyData.str (rowT (machWords m))) ++ (b.gs.map fun p => .str (rowT (goodWords p))) ++ (b.ts.map fun t => .str (rowT (taskWords t))) ++ ((b.ws.take (b.ws.map pW).length).map fun p => .str (rowT (waitWords b.ts p))) ++ (b.fx.map fun p => .str (rowT (fixWords b.ts p)))) = ((rowsW b).map rowT).map .str := by
        rw [List.length_map, List.take_length]
        unfold rowsW
        simp only [List.map_append, List.map_map, List.append_assoc]
        rfl
      refine s_ret <| w_m1 <| w_str ⟨rfl, w_frz hA rfl ?_⟩
      rw [e3]
      exact ⟨_, md_join (text_fits (rows_ok hb) (rows_few hb)), rfl⟩⟩
end
end Bw
set_option Elab.async false
set_option linter.all false
set_option maxRecDepth 100000
set_option maxHeartbeats 2000000
/-! A class of one's own: its methods by their bodies, an instance that stands. -/
namespace Bw
open PySem PySem.Spec L2 Evl
section
variable {K : PySem.W.Frag} {mg : Str → Option Value}
theorem Tx.cls (T : Tx K mg) (i : Nat) {x : Str} (h : Bk.fa[i]? = some (.cls x) := by rfl) : Cls K (He.ga K x) := He.cls_ok (T.sd.fact i h)
theorem Tx.noat (T : Tx K mg) (i : Nat) {x f : Str} (h : Bk.fa[i]? = some (.noat x f) := by rfl) : NoAttr K (He.ga K x) f := He.noat_ok (T.sd.fact i h)
theorem Tx.meth (T : Tx K mg) (i : Nat) {x m : Str} (h : Bk.fa[i]? = some (.meth x m) := by rfl) : Meth K (He.ga K x) m (He.ma K (He.ga K x) m) := He.meth_ok (T.sd.fact i h)
theorem Tx.mkr (T : Tx K mg) (i : Nat) {x : Str} (h : Bk.fa[i]? = some (.mkr x) := by rfl) : Mk K (He.ga K x) (He.ma K (He.ga K x) "__init__") := He.mkr_ok (T.sd.fact i h)
end
theorem met_of {P : Program} {w : World} {K : PySem.W.Frag} {mg : Str → Option Value} {base : Heap} {m qual : Str} {C f : Addr} {st : Stmt} {N ps : List Str} {k : Nat} {sp : Sp} (c : Cls K C) (me : Meth K C m f)
    (F : ∃ fd, FunD K m qual (defArgs st) (defBody st) (defScope st) [] [] f fd) (S : FnScope N ps (defScope st))
    (hb : ∀ (kV doc pm : Value) (an : Option Addr) (cdv ct : Value) (us : List Value), us.length = ps.length → bindArgs (PySem.W.fnOf m qual (defArgs st) (defBody st) (defScope st) .none kV doc pm an cdv ct) ⟨us, []⟩ = pure (ps.zip us))
    (len : ∀ vs H Q E, sp vs H Q E → vs.length = ps.length)
    (hbody : ∀ (cdv : Value) (A : Around) (outer : List Env) (s : Shared) (H : Hp) (vs : List V) (Q : VK) (E : XK), Room k (A.deeper (PyProof.Rows.envOfC qual (defScope st) s.heap.objs.size f cdv)) → sp vs H Q E →
      ∃ t, PSs (cxOf C8.CX0 P w K mg base N qual (defScope st) f cdv A outer s H E).nox (defBody st) t ∧ t { nx := fun _ H' => Q .non H', rt := Q } (L2.start N vs) H) : C8.Met P w K mg base (k + 1) C m sp [] := by
  obtain ⟨fd, F⟩ := F
  refine ⟨f, fd, ps, [], c, me, FunD.ok F S len fun cdv A outer s H vs Q E hr h => ?_, F.bindsN hb, .nil⟩
  obtain ⟨t, h1, h2⟩ := hbody cdv A outer s H vs Q E hr h
  exact ⟨t, PSs.nox h1, h2⟩
theorem mak_of {P : Program} {w : World} {K : PySem.W.Frag} {mg : Str → Option Value} {base : Heap} {x qual : Str} {C f : Addr} {st : Stmt} {N ps : List Str} {k : Nat} {sp : Sp} (M : Mk K C f) (hm : mg x = some (.ref C))
    (F : ∃ fd, FunD K "__init__" qual (defArgs st) (defBody st) (defScope st) [] [] f fd) (S : FnScope N ps (defScope st))
    (hb : ∀ (kV doc pm : Value) (an : Option Addr) (cdv ct : Value) (us : List Value), us.length = ps.length → bindArgs (PySem.W.fnOf "__init__" qual (defArgs st) (defBody st) (defScope st) .none kV doc pm an cdv ct) ⟨us, []⟩ = pure (ps.zip us))
    (len : ∀ vs H Q E, sp vs H Q E → vs.length = ps.length)
    (hbody : ∀ (cdv : Value) (A : Around) (outer : List Env) (s : Shared) (H : Hp) (vs : List V) (Q : VK) (E : XK), Room k (A.deeper (PyProof.Rows.envOfC qual (defScope st) s.heap.objs.size f cdv)) → sp vs H Q E →
      ∃ t, PSs (cxOf C8.CX0 P w K mg base N qual (defScope st) f cdv A outer s H E).nox (defBody st) t ∧ t { nx := fun _ H' => Q .non H', rt := Q } (L2.start N vs) H) : C8.Mak P w K mg base (k + 1) x C sp [] := by
  obtain ⟨fd, F⟩ := F
  refine ⟨f, fd, ps, [], M, FunD.ok F S len fun cdv A outer s H vs Q E hr h => ?_, hm, F.bindsN hb, .nil⟩
  obtain ⟨t, h1, h2⟩ := hbody cdv A outer s H vs Q E hr h
  exact ⟨t, PSs.nox h1, h2⟩
/-! ### an instance that stands, its dict of numbers -/
section
variable {K : PySem.W.Frag} {B : Bs} {ρ : Es} {te : TE} {P : Pd → Es → Prop}
def selfMo (K : PySem.W.Frag) (C : Addr) (f : L2.Key → Option Pd) : Mo where
  p := fun F v => ∃ a dx fs N us, v = .ref a ∧ F a = some (.ins C dx fs) ∧ fs.lookup ("numbers" : Str) = some (.ref N) ∧ F N = some (.dK us) ∧ ∀ k, sameO (Dp K F) (valV us k) (f k)
  m := fun F F' v x ⟨a, dx, fs, N, us, h1, h2, h3, h4, h5⟩ => ⟨a, dx, fs, N, us, h1, x a _ h2, h3, x N _ h4, fun k => by
    have z := h5 k
    cases e1 : valV us k with
    | none =>
      rw [e1] at z
      cases e2 : f k with
      | none => trivial
      | some d => rw [e2] at z; exact z.elim
    | some u =>
      rw [e1] at z
      cases e2 : f k with
      | none => rw [e2] at z; exact z.elim
      | some d => rw [e2] at z; exact Dp.mono z x⟩
variable {i : Nat} {C : Addr} {f : L2.Key → Option Pd}
theorem w_dgetF (cl : Cls K C) (na : NoAttr K C "numbers") (h0 : ρ[i]? = some (.q (selfMo K C f))) (h : WE K B te ρ fun y ρ1 => ∃ k d, y = kD k ∧ f k = some d ∧ P d ρ1) : WE K B (tDGet (tFld K (tVar i) "numbers") te) ρ P := fun σ F H r Q q => by
  obtain ⟨u, hu, hΦ⟩ := slot_q r h0
  have hΦ' := hΦ
  obtain ⟨a, dx, fs, N, us, rfl, h2, h3, h4, h5⟩ := hΦ
  refine ⟨_, hu, a, C, dx, fs, .ref N, rfl, r.sub _ _ h2, cl, na, h3, h σ F H r _ fun v y ρ1 F1 H1 p1 e1 d1 r1 => ?_⟩
  obtain ⟨k, d, ey, hf, p⟩ := p1
  subst ey
  have ev := kD_kV d1
  subst ev
  have z := h5 k
  rw [hf] at z
  cases e2 : valV us k with
  | none => rw [e2] at z; exact z.elim
  | some w =>
    rw [e2] at z
    exact ⟨N, w, rfl, .inl ⟨us, k, .inl (r1.sub N _ (e1 N _ h4)), rfl, e2.symm⟩, q w d ρ1 F1 H1 p e1 (Dp.mono z e1) r1⟩
theorem w_dinF (cl : Cls K C) (na : NoAttr K C "numbers") (h0 : ρ[i]? = some (.q (selfMo K C f))) (h : WE K B te ρ fun y ρ1 => ∃ k, y = kD k ∧ P (.bool (f k).isSome) ρ1) : WE K B (tDIn te (tFld K (tVar i) "numbers")) ρ P := fun σ F H r Q q => by
  obtain ⟨u, hu, hΦ⟩ := slot_q r h0
  obtain ⟨a, dx, fs, N, us, rfl, h2, h3, h4, h5⟩ := hΦ
  refine h σ F H r _ fun v y ρ1 F1 H1 p1 e1 d1 r1 => ⟨_, hu, a, C, dx, fs, .ref N, rfl, r1.sub _ _ (e1 _ _ h2), cl, na, h3, ?_⟩
  obtain ⟨k, ey, p⟩ := p1
  subst ey
  have ev := kD_kV d1
  subst ev
  have z := h5 k
  refine ⟨N, valV us k, rfl, .inl ⟨us, k, .inl (r1.sub N _ (e1 N _ h4)), rfl, rfl⟩, q _ _ ρ1 F1 H1 p e1 ?_ r1⟩
  have e : (valV us k).isSome = (f k).isSome := by
    cases e1 : valV us k <;> cases e2 : f k <;> (rw [e1, e2] at z) <;> first | rfl | exact z.elim
  rw [e]
  exact .bl _
end
/-! ### data stands on lists and tuples alone -/
def seqO : HO → Bool
  | .lst _ => true
  | .tup _ => true
  | .frz _ _ => true
  | _ => false
section
variable {K : PySem.W.Frag} {F F' : Hp}
theorem strip_l (h : ∀ a o, F a = some o → seqO o = true → F' a = some o) {a : Addr} {xs : List V} (q : SqL K F a xs) : SqL K F' a xs := by
  rcases q with (q | ⟨o, q⟩) | q
  · exact .inl (.inl (h a _ q rfl))
  · exact .inl (.inr ⟨o, h a _ q rfl⟩)
  · exact .inr q
theorem strip_t (h : ∀ a o, F a = some o → seqO o = true → F' a = some o) {a : Addr} {xs : List V} (q : SqT K F a xs) : SqT K F' a xs := by
  rcases q with (q | ⟨o, q⟩) | q
  · exact .inl (.inl (h a _ q rfl))
  · exact .inl (.inr ⟨o, h a _ q rfl⟩)
  · exact .inr q
mutual
theorem Dps (h : ∀ a o, F a = some o → seqO o = true → F' a = some o) : ∀ (d : Pd) (v : V), Dp K F v d → Dp K F' v d
  | .none, _, h => by cases h; exact .non
  | .bool b, _, h => by cases h; exact .bl b
  | .int i, _, h => by cases h; exact .int i
  | .str x, _, h => by cases h; exact .str x
  | .list ds, _, q => by
    cases q with
    | lst hs ha => exact .lst (strip_l h hs) (Dpss h ds _ ha)
  | .tuple ds, _, q => by
    cases q with
    | tup hs ha => exact .tup (strip_t h hs) (Dpss h ds _ ha)
  | .dict _, _, h => by cases h
theorem Dpss (h : ∀ a o, F a = some o → seqO o = true → F' a = some o) : ∀ (ds : List Pd) (vs : List V), DpAll K F vs ds → DpAll K F' vs ds
  | [], _, h => by cases h; exact .nil
  | d :: ds, _, q => by
    cases q with
    | cons h1 h2 => exact .cons (Dps h d _ h1) (Dpss h ds _ h2)
end
end
end Bw
set_option Elab.async false
set_option linter.all false
set_option maxRecDepth 100000
set_option maxHeartbeats 2000000
namespace Bw
open PySem PySem.Spec L2 Evl
open Bk (sReadingRowBy)
section
variable {P : Program} {w : World} {K : PySem.W.Frag} {mg : Str → Option Value} {base : Heap}
abbrev rdC (K : PySem.W.Frag) : Addr := He.ga K "Reading"
/-- a row's words and what they say -/
inductive RowBy (f : L2.Key → Option Pd) : List Str → Pd → Prop where
  | mach {m : Str} (h : NameOk m) : RowBy f (machWords m) (.str m)
  | good {p : Str × Nat} (h : NameOk p.1) (h2 : p.2 ≤ 99) : RowBy f (goodWords p) (pN p)
  | task {t : Tk} (h : TkForm t) : RowBy f (taskWords t) (pT t)
  | wait {a b : Str} {i j g : Nat} (h1 : f (.inr a) = some (.int i)) (h2 : f (.inr b) = some (.int j)) (h3 : g ≤ 1000) : RowBy f [Str.ofString "wait", a, b, numS g] (pW (i, j, g))
  | fixed {a : Str} {i h : Nat} (h1 : f (.inr a) = some (.int i)) (h3 : h ≤ 1000000) : RowBy f [Str.ofString "fixed", a, numS h] (pF (i, h))
def spRow (K : PySem.W.Frag) : Sp := fun vs H Q _ => ∃ F f u wv ws y, vs = [u, wv] ∧ Ex F H ∧ (selfMo K (rdC K) f).p F u ∧ Dp K F wv (.list (ws.map .str)) ∧ RowBy f ws y ∧ ∀ v F' H', Gr F H F' H' → Dp K F' v y → Q v H'
theorem scReadingRowBy : FnScope ["self", "words", "number"] ["self", "words"] (defScope sReadingRowBy) := ⟨rfl, rfl, rfl, by decide +kernel, rfl, by decide +kernel, by decide +kernel⟩
theorem relS {N : List Str} {F H : Hp} {u v : V} {Φ : Mo} {x : Pd} (hN : 2 ≤ N.length) (s : Ex F H) (h : Φ.p F u) (d : Dp K F v x) : Rel K ⟨fun _ => False, F, H, none⟩ (L2.start N [u, v]) (.q Φ :: .d x :: List.replicate (N.length - 2) .n) F H := by
  have r0 := relQ (K := K) (N := N) (v := u) (Φ := Φ) (by omega) s h
  have e1 : L2.start N [u, v] = (L2.start N [u]).set 1 (some v) := by
    unfold L2.start
    obtain ⟨n, hn⟩ : ∃ n, N.length = n + 2 := ⟨N.length - 2, by omega⟩
    simp [hn, List.replicate_succ]
  have e2 : (.q Φ :: .d x :: List.replicate (N.length - 2) .n : Es) = (.q Φ :: List.replicate (N.length - 1) .n : Es).set 1 (.d x) := by
    obtain ⟨n, hn⟩ : ∃ n, N.length = n + 2 := ⟨N.length - 2, by omega⟩
    simp [hn, List.replicate_succ]
  rw [e1, e2]
  exact r0.putD (by simp; omega) d
theorem metRowBy (T : Tx K mg) : C8.Met P w K mg base 4 (rdC K) "row_by" (spRow K) [] :=
  met_of (st := sReadingRowBy) (T.cls 86) (T.meth 90) (T.def_ 38 (d := Bk.dReadingRowBy) rfl) scReadingRowBy (fun _ _ _ _ _ _ us hl => match us, hl with | [_, _], _ => rfl) (fun vs H Q E ⟨_, _, _, _, _, _, e, _⟩ => by rw [e]; rfl) fun cdv A outer s H vs Q E hr h => ⟨_, (pss_cons (ps_if (PW.pt (pw_and (pt_cmpR op_eq (pe_ix ix_list (pv 1) pe_int (fun _ _ => rfl)) pe_str (nomark _)) (pw_and1 (pt_cmpR op_eq (pe_callB (id := "len") call_len_seq rfl (T.fr 52) (by decide +kernel) (pa_cons (pv 1) pa_nil)) pe_int (nomark _))))) (pss_one (ps_ret (pe_ifExp (pt_val (C8.pe_c (calIsName T) hr (by decide) rfl (pa_cons (pe_ix ix_list (pv 1) pe_int (fun _ _ => rfl)) pa_nil))) (pe_ix ix_list (pv 1) pe_int (fun _ _ => rfl)) pe_non))) pss_nil)
      (pss_cons (ps_if (PW.pt (pw_and (pt_cmpR op_eq (pe_ix ix_list (pv 1) pe_int (fun _ _ => rfl)) pe_str (nomark _)) (pw_and1 (pt_cmpR op_eq (pe_callB (id := "len") call_len_seq rfl (T.fr 52) (by decide +kernel) (pa_cons (pv 1) pa_nil)) pe_int (nomark _))))) (pss_one (ps_ret (pe_ifExp (PW.pt (pw_and (pt_val (C8.pe_c (calIsName T) hr (by decide) rfl (pa_cons (pe_ix ix_list (pv 1) pe_int (fun _ _ => rfl)) pa_nil))) (pw_and1 (pt_val (C8.pe_c (calAreNumbers T) hr (by decide) rfl (pa_cons (pe_slice sl_list (pv 1) (po_some pe_int) po_none) pa_nil)))))) (pe_tup (pa_cons (pe_ix ix_list (pv 1) pe_int (fun _ _ => rfl)) (pa_cons (C8.pe_c (calNumberOf T) hr (by decide) rfl (pa_cons (pe_ix ix_list (pv 1) pe_int (fun _ _ => rfl)) pa_nil)) pa_nil))) pe_non))) pss_nil)
      (pss_cons (ps_if (pt_cmpR op_eq (pe_ix ix_list (pv 1) pe_int (fun _ _ => rfl)) pe_str (nomark _)) (pss_one (ps_ret (C8.pe_c (calTaskBy T) hr (by decide) rfl (pa_cons (pv 1) pa_nil)))) pss_nil)
      (pss_cons (ps_if (PW.pt (pw_and (pt_cmpR op_eq (pe_ix ix_list (pv 1) pe_int (fun _ _ => rfl)) pe_str (nomark _)) (pw_and (pt_cmpR op_eq (pe_callB (id := "len") call_len_seq rfl (T.fr 52) (by decide +kernel) (pa_cons (pv 1) pa_nil)) pe_int (nomark _)) (pw_and (pt_cmp (pc_din (hu_of hr) (pe_ix ix_list (pv 1) pe_int (fun _ _ => rfl)) (pe_fld (pv 0) rfl)) (by rfl)) (pw_and1 (pt_cmp (pc_din (hu_of hr) (pe_ix ix_list (pv 1) pe_int (fun _ _ => rfl)) (pe_fld (pv 0) rfl)) (by rfl))))))) (pss_cons (ps_set (i := 2) scReadingRowBy.nd rfl (by first | exact Or.inl rfl | exact Or.inr rfl) (C8.pe_c (calNumberOf T) hr (by decide) rfl (pa_cons (pe_ix ix_list (pv 1) pe_int (fun _ _ => rfl)) pa_nil)))
      (pss_one (ps_ret (pe_ifExp (pt_cmp (pc_isN (pv 2))) pe_non (pe_tup (pa_cons (pe_dget (hu_of hr) (pe_fld (pv 0) rfl) (pe_ix ix_list (pv 1) pe_int (fun _ _ => rfl)) (fun _ _ => rfl)) (pa_cons (pe_dget (hu_of hr) (pe_fld (pv 0) rfl) (pe_ix ix_list (pv 1) pe_int (fun _ _ => rfl)) (fun _ _ => rfl)) (pa_cons (pv 2) pa_nil)))))))) pss_nil)
      (pss_cons (ps_if (PW.pt (pw_and (pt_cmpR op_eq (pe_ix ix_list (pv 1) pe_int (fun _ _ => rfl)) pe_str (nomark _)) (pw_and (pt_cmpR op_eq (pe_callB (id := "len") call_len_seq rfl (T.fr 52) (by decide +kernel) (pa_cons (pv 1) pa_nil)) pe_int (nomark _)) (pw_and (pt_cmp (pc_din (hu_of hr) (pe_ix ix_list (pv 1) pe_int (fun _ _ => rfl)) (pe_fld (pv 0) rfl)) (by rfl)) (pw_and1 (pt_val (C8.pe_c (calAreNumbers T) hr (by decide) rfl (pa_cons (pe_slice sl_list (pv 1) (po_some pe_int) po_none) pa_nil)))))))) (pss_one (ps_ret (pe_tup (pa_cons (pe_dget (hu_of hr) (pe_fld (pv 0) rfl) (pe_ix ix_list (pv 1) pe_int (fun _ _ => rfl)) (fun _ _ => rfl)) (pa_cons (C8.pe_c (calNumberOf T) hr (by decide) rfl (pa_cons (pe_ix ix_list (pv 1) pe_int (fun _ _ => rfl)) pa_nil)) pa_nil))))) pss_nil)
      (pss_one (ps_ret pe_non))))))), by
    obtain ⟨F, f, u, wv, ws, y, rfl, sF, hΦ, hd, hR, hQ⟩ := h
    have cl := T.cls 86
    have na := T.noat 89
    suffices key : ∀ B, S K B _ [.q (selfMo K (rdC K) f), .d (.list (ws.map .str)), .n] { nx := fun _ => False, rt := fun z _ => z = y } by
      refine key ⟨fun _ => False, F, H, none⟩ _ F H (relS (N := ["self", "words", "number"]) (by decide) sF hΦ hd) _ ⟨fun σ' ρ' F' H' e x r => e.elim, fun v z σ' ρ' F' H' e x dd r => ?_, fun _ _ _ _ e => e.elim, fun _ _ _ _ e => e.elim⟩
      have e' : z = y := e
      subst e'
      exact hQ v F' H' r.out dd
    intro B
    have no : ∀ {a b : Str}, (!decide (a = b)) = true → decide (a = b) = false := fun h => by simpa using h
    cases hR with
    | mach hm =>
      refine s_seq <| s_if <| wt_and <| wt_test <| w_op <| w_op <| w_var rfl <| w_int ⟨_, od_ixL (atI_n (j := 0) rfl), w_str ⟨_, od_eqS, _, rfl, fun _ => ?_, fun q => absurd q (by decide +kernel)⟩⟩
      refine wt_test <| w_op <| w_cb <| wa_cons <| w_var rfl <| wa_nil ⟨_, cd_lenL, w_int ⟨_, od_eqI, _, rfl, fun _ => ?_, fun q => absurd rfl (of_decide_eq_false q)⟩⟩
      exact s_ret <| w_if <| wt_test <| w_call <| wa_cons <| w_op <| w_var rfl <| w_int ⟨_, od_ixL (atI_n (j := 1) rfl), wa_nil ⟨.bool true, ⟨_, rfl, hm, rfl⟩, _, rfl, fun _ => w_op <| w_var rfl <| w_int ⟨_, od_ixL (atI_n (j := 1) rfl), rfl⟩, nofun⟩⟩
    | @good p hm h2 =>
      refine s_seq <| s_if <| wt_and <| wt_test <| w_op <| w_op <| w_var rfl <| w_int ⟨_, od_ixL (atI_n (j := 0) rfl), w_str ⟨_, od_eqS, _, rfl, fun q => absurd q (by decide +kernel), fun _ => ⟨nofun, fun _ => s_next ?_⟩⟩⟩
      refine s_seq <| s_if <| wt_and <| wt_test <| w_op <| w_op <| w_var rfl <| w_int ⟨_, od_ixL (atI_n (j := 0) rfl), w_str ⟨_, od_eqS, _, rfl, fun _ => ?_, fun q => absurd q (by decide +kernel)⟩⟩
      refine wt_test <| w_op <| w_cb <| wa_cons <| w_var rfl <| wa_nil ⟨_, cd_lenL, w_int ⟨_, od_eqI, _, rfl, fun _ => ?_, fun q => absurd rfl (of_decide_eq_false q)⟩⟩
      exact s_ret <| w_if <| wt_and <| wt_test <| w_call <| wa_cons <| w_op <| w_var rfl <| w_int ⟨_, od_ixL (atI_n (j := 1) rfl), wa_nil ⟨.bool true, ⟨_, rfl, hm, rfl⟩, _, rfl, fun _ => wt_test <| w_call <| wa_cons <| w_sl <| w_var rfl <| wo_some <| w_int ⟨_, rfl, wo_none ⟨_, sd_list, wa_nil ⟨.bool true, ⟨[p.2], congrArg (fun z => [PyData.list z]) ((cutP_from (n := 2)).trans rfl), fun n hn => by simp only [List.mem_singleton] at hn; omega, by show 1 ≤ 100; decide, rfl⟩, _, rfl, fun _ => w_tup <| wa_cons <| w_op <| w_var rfl <| w_int ⟨_, od_ixL (atI_n (j := 1) rfl), wa_cons <| w_call <| wa_cons <| w_op <| w_var rfl <| w_int ⟨_, od_ixL (atI_n (j := 2) rfl), wa_nil ⟨.int p.2, ⟨p.2, rfl, by omega, rfl⟩, wa_nil ⟨by show 2 ≤ sizeLine; decide, rfl⟩⟩⟩⟩, nofun⟩⟩⟩, nofun⟩⟩
    | @task t ht =>
      refine s_seq <| s_if <| wt_and <| wt_test <| w_op <| w_op <| w_var rfl <| w_int ⟨_, od_ixL (atI_n (j := 0) rfl), w_str ⟨_, od_eqS, _, rfl, fun q => absurd q (by decide +kernel), fun _ => ⟨nofun, fun _ => s_next ?_⟩⟩⟩
      refine s_seq <| s_if <| wt_and <| wt_test <| w_op <| w_op <| w_var rfl <| w_int ⟨_, od_ixL (atI_n (j := 0) rfl), w_str ⟨_, od_eqS, _, rfl, fun q => absurd q (by decide +kernel), fun _ => ⟨nofun, fun _ => s_next ?_⟩⟩⟩
      refine s_seq <| s_if <| wt_test <| w_op <| w_op <| w_var rfl <| w_int ⟨_, od_ixL (atI_n (j := 0) rfl), w_str ⟨_, od_eqS, _, rfl, fun _ => ?_, fun q => absurd q (by decide +kernel)⟩⟩
      exact s_ret <| w_call <| wa_cons <| w_var rfl <| wa_nil ⟨pT t, ⟨t, rfl, ht, rfl⟩, rfl⟩
    | @wait a b i j g h1 h2 h3 =>
      refine s_seq <| s_if <| wt_and <| wt_test <| w_op <| w_op <| w_var rfl <| w_int ⟨_, od_ixL (atI_n (j := 0) rfl), w_str ⟨_, od_eqS, _, rfl, fun q => absurd q (by decide +kernel), fun _ => ⟨nofun, fun _ => s_next ?_⟩⟩⟩
      refine s_seq <| s_if <| wt_and <| wt_test <| w_op <| w_op <| w_var rfl <| w_int ⟨_, od_ixL (atI_n (j := 0) rfl), w_str ⟨_, od_eqS, _, rfl, fun q => absurd q (by decide +kernel), fun _ => ⟨nofun, fun _ => s_next ?_⟩⟩⟩
      refine s_seq <| s_if <| wt_test <| w_op <| w_op <| w_var rfl <| w_int ⟨_, od_ixL (atI_n (j := 0) rfl), w_str ⟨_, od_eqS, _, rfl, fun q => absurd q (by decide +kernel), fun _ => s_next ?_⟩⟩
      refine s_seq <| s_if <| wt_and <| wt_test <| w_op <| w_op <| w_var rfl <| w_int ⟨_, od_ixL (atI_n (j := 0) rfl), w_str ⟨_, od_eqS, _, rfl, fun _ => ?_, fun q => absurd q (by decide +kernel)⟩⟩
      refine wt_and <| wt_test <| w_op <| w_cb <| wa_cons <| w_var rfl <| wa_nil ⟨_, cd_lenL, w_int ⟨_, od_eqI, _, rfl, fun _ => ?_, fun q => absurd rfl (of_decide_eq_false q)⟩⟩
      refine wt_and <| wt_B <| w_dinF cl na rfl <| w_op <| w_var rfl <| w_int ⟨_, od_ixL (atI_n (j := 1) rfl), .inr a, rfl, _, rfl, ?_⟩
      rw [h1]
      refine ⟨fun _ => ?_, nofun⟩
      refine wt_B <| w_dinF cl na rfl <| w_op <| w_var rfl <| w_int ⟨_, od_ixL (atI_n (j := 2) rfl), .inr b, rfl, _, rfl, ?_⟩
      rw [h2]
      refine ⟨fun _ => ?_, nofun⟩
      refine s_seq <| s_set <| w_call <| wa_cons <| w_op <| w_var rfl <| w_int ⟨_, od_ixL (atI_n (j := 3) rfl), wa_nil ⟨.int g, ⟨g, rfl, by omega, rfl⟩, rfl, ?_⟩⟩
      refine s_ret <| w_if <| wt_B <| w_isN (b := false) <| w_var rfl ⟨nofun, nofun, _, rfl, nofun, fun _ => w_tup <| wa_cons <| w_dgetF cl na rfl <| w_op <| w_var rfl <| w_int ⟨_, od_ixL (atI_n (j := 1) rfl), .inr a, _, rfl, h1, ?_⟩⟩
      exact wa_cons <| w_dgetF cl na rfl <| w_op <| w_var rfl <| w_int ⟨_, od_ixL (atI_n (j := 2) rfl), .inr b, _, rfl, h2, wa_cons <| w_var rfl <| wa_nil ⟨by show 3 ≤ sizeLine; decide, rfl⟩⟩
    | @fixed a i h h1 h3 =>
      refine s_seq <| s_if <| wt_and <| wt_test <| w_op <| w_op <| w_var rfl <| w_int ⟨_, od_ixL (atI_n (j := 0) rfl), w_str ⟨_, od_eqS, _, rfl, fun q => absurd q (by decide +kernel), fun _ => ⟨nofun, fun _ => s_next ?_⟩⟩⟩
      refine s_seq <| s_if <| wt_and <| wt_test <| w_op <| w_op <| w_var rfl <| w_int ⟨_, od_ixL (atI_n (j := 0) rfl), w_str ⟨_, od_eqS, _, rfl, fun q => absurd q (by decide +kernel), fun _ => ⟨nofun, fun _ => s_next ?_⟩⟩⟩
      refine s_seq <| s_if <| wt_test <| w_op <| w_op <| w_var rfl <| w_int ⟨_, od_ixL (atI_n (j := 0) rfl), w_str ⟨_, od_eqS, _, rfl, fun q => absurd q (by decide +kernel), fun _ => s_next ?_⟩⟩
      refine s_seq <| s_if <| wt_and <| wt_test <| w_op <| w_op <| w_var rfl <| w_int ⟨_, od_ixL (atI_n (j := 0) rfl), w_str ⟨_, od_eqS, _, rfl, fun q => absurd q (by decide +kernel), fun _ => ⟨nofun, fun _ => s_next ?_⟩⟩⟩
      refine s_seq <| s_if <| wt_and <| wt_test <| w_op <| w_op <| w_var rfl <| w_int ⟨_, od_ixL (atI_n (j := 0) rfl), w_str ⟨_, od_eqS, _, rfl, fun _ => ?_, fun q => absurd q (by decide +kernel)⟩⟩
      refine wt_and <| wt_test <| w_op <| w_cb <| wa_cons <| w_var rfl <| wa_nil ⟨_, cd_lenL, w_int ⟨_, od_eqI, _, rfl, fun _ => ?_, fun q => absurd rfl (of_decide_eq_false q)⟩⟩
      refine wt_and <| wt_B <| w_dinF cl na rfl <| w_op <| w_var rfl <| w_int ⟨_, od_ixL (atI_n (j := 1) rfl), .inr a, rfl, _, rfl, ?_⟩
      rw [h1]
      refine ⟨fun _ => ?_, nofun⟩
      refine wt_test <| w_call <| wa_cons <| w_sl <| w_var rfl <| wo_some <| w_int ⟨_, rfl, wo_none ⟨_, sd_list, wa_nil ⟨.bool true, ⟨[h], congrArg (fun z => [PyData.list z]) ((cutP_from (n := 2)).trans rfl), fun n hn => by simp only [List.mem_singleton] at hn; omega, by show 1 ≤ 100; decide, rfl⟩, _, rfl, fun _ => ?_, nofun⟩⟩⟩
      exact s_ret <| w_tup <| wa_cons <| w_dgetF cl na rfl <| w_op <| w_var rfl <| w_int ⟨_, od_ixL (atI_n (j := 1) rfl), .inr a, _, rfl, h1, wa_cons <| w_call <| wa_cons <| w_op <| w_var rfl <| w_int ⟨_, od_ixL (atI_n (j := 2) rfl), wa_nil ⟨.int h, ⟨h, rfl, by omega, rfl⟩, wa_nil ⟨by show 2 ≤ sizeLine; decide, rfl⟩⟩⟩⟩⟩
end
end Bw
set_option Elab.async false
set_option linter.all false
set_option maxRecDepth 100000
set_option maxHeartbeats 2000000
/-! A reading: what it holds; growth beside some things that change. -/
namespace Bw
open PySem PySem.Spec L2 Evl
structure GrX (A : Addr → Prop) (F H F' H' : Hp) : Prop where
  f : Ex F F'
  h : ∀ a o, ¬ A a → H a = some o → H' a = some o
  s : Ex F' H'
  o : ∀ a, F a = none → H a ≠ none → F' a = none
  d : ∀ a, H a ≠ none → H' a ≠ none
section
variable {A : Addr → Prop} {F H F' H' F2 H2 : Hp}
theorem Gr.x (g : Gr F H F' H') : GrX A F H F' H' := ⟨g.f, fun a o _ h => g.h a o h, g.s, g.o, fun a h => ex_ne g.h h⟩
theorem GrX.trans (a : GrX A F H F' H') (b : GrX A F' H' F2 H2) : GrX A F H F2 H2 :=
  ⟨a.f.trans b.f, fun x o n h => b.h x o n (a.h x o n h), b.s, fun x h1 h2 => b.o x (a.o x h1 h2) (a.d x h2), fun x h => b.d x (a.d x h)⟩
/-- one of the things changes -/
theorem GrX.put {a : Addr} {o : HO} (s : Ex F H) (ha : A a) (hF : F a = none) : GrX A F H F (upd H a o) :=
  ⟨Ex.refl _, fun b u n h => by rw [upd_ne (fun z : b = a => n (by rw [z]; exact ha))]; exact h, fun b u h => by rw [upd_ne (ne_of_none h hF)]; exact s b u h, fun b h _ => h, fun b h => by
    by_cases z : b = a
    · rw [z, upd_same]; nofun
    · rw [upd_ne z]; exact h⟩
/-! ### some things stand for a while -/
def fz (p : Addr → Bool) (F H : Hp) : Hp := fun a => if p a = true then H a else F a
def unfz (p : Addr → Bool) (F : Hp) : Hp := fun a => if p a = true then none else F a
variable {p : Addr → Bool}
theorem fz_ex (h : ∀ a, p a = true → F a = none) : Ex F (fz p F H) := fun a o e => by
  unfold fz
  by_cases q : p a = true
  · rw [h a q] at e; cases e
  · rw [if_neg q]; exact e
theorem fz_sub (s : Ex F H) : Ex (fz p F H) H := fun a o e => by
  unfold fz at e
  by_cases q : p a = true
  · rw [if_pos q] at e; exact e
  · rw [if_neg q] at e; exact s a o e
theorem fz_at {a : Addr} (q : p a = true) : fz p F H a = H a := if_pos q
theorem unfz_gr (h : ∀ a, p a = true → F a = none) (g : Gr (fz p F H) H F' H') : Gr F H (unfz p F') H' := by
  refine ⟨fun a o e => ?_, g.h, fun a o e => ?_, fun a e1 e2 => ?_⟩
  · unfold unfz
    by_cases q : p a = true
    · rw [h a q] at e; cases e
    · rw [if_neg q]
      refine g.f a o ?_
      unfold fz
      rw [if_neg q]; exact e
  · unfold unfz at e
    by_cases q : p a = true
    · rw [if_pos q] at e; cases e
    · rw [if_neg q] at e; exact g.s a o e
  · unfold unfz
    by_cases q : p a = true
    · rw [if_pos q]
    · rw [if_neg q]
      refine g.o a ?_ e2
      unfold fz
      rw [if_neg q]; exact e1
theorem unfz_dp {K : PySem.W.Frag} {v : V} {d : Pd} (h : ∀ a, p a = true → ∃ o, H a = some o ∧ seqO o = false) (g : Gr (fz p F H) H F' H') (q : Dp K F' v d) : Dp K (unfz p F') v d := by
  refine Dps (fun a o e1 e2 => ?_) d v q
  unfold unfz
  by_cases z : p a = true
  · obtain ⟨u, h1, h2⟩ := h a z
    have e3 := g.h a u h1
    rw [g.s a o e1] at e3
    cases e3
    rw [e2] at h2; cases h2
  · rw [if_neg z]; exact e1
end
/-! ### a reading -/
structure RdAd where
  x : Addr
  dx : Addr
  P : Addr
  N : Addr
  Ls : List Addr
def RdAd.A (r : RdAd) : Addr → Prop := fun a => a = r.x ∨ a = r.dx ∨ a = r.P ∨ a = r.N ∨ a ∈ r.Ls
def rdF (r : RdAd) (last : Nat) : List (Str × V) := [(Str.ofString "parts", .ref r.P), (Str.ofString "last", .int last), (Str.ofString "numbers", .ref r.N)]
theorem rdF_parts {r : RdAd} {n : Nat} : (rdF r n).lookup (Str.ofString "parts") = some (.ref r.P) := by rfl
theorem rdF_last {r : RdAd} {n : Nat} : (rdF r n).lookup (Str.ofString "last") = some (.int n) := by rfl
theorem rdF_numbers {r : RdAd} {n : Nat} : (rdF r n).lookup (Str.ofString "numbers") = some (.ref r.N) := by rfl
theorem rdF_rowby {r : RdAd} {n : Nat} : (rdF r n).lookup (Str.ofString "row_by") = none := by rfl
theorem rdF_take {r : RdAd} {n : Nat} : (rdF r n).lookup (Str.ofString "take") = none := by rfl
theorem rdF_put {r : RdAd} {n m : Nat} : putF (Str.ofString "last") (.int m) (rdF r n) = rdF r m := by rfl
structure RdAt (K : PySem.W.Frag) (F H : Hp) (r : RdAd) (ps : List (List Pd)) (last : Nat) (f : L2.Key → Option Pd) : Prop where
  sub : Ex F H
  x : H r.x = some (.ins (rdC K) r.dx (rdF r last))
  dx : H r.dx = some (.own r.x)
  P : H r.P = some (.lst (r.Ls.map .ref))
  N : ∃ us, H r.N = some (.dK us) ∧ us.length ≤ (ps.getD 2 []).length ∧ ∀ k, sameO (Dp K F) (valV us k) (f k)
  L : ∀ (i : Nat) (L : Addr), r.Ls[i]? = some L → ∃ (p : List Pd) (vs : List V), ps[i]? = some p ∧ H L = some (.lst vs) ∧ DpAll K F vs p
  len : ps.length = 5
  lenL : r.Ls.length = 5
  nd : r.Ls.Nodup
  PL : r.P ∉ r.Ls
  out : ∀ a, r.A a → F a = none
section
variable {K : PySem.W.Frag} {F H F' H' : Hp} {r : RdAd} {ps : List (List Pd)} {last : Nat} {f : L2.Key → Option Pd}
theorem sameO_mono {u : Option V} {d : Option Pd} (x : Ex F F') (h : sameO (Dp K F) u d) : sameO (Dp K F') u d := by
  cases u <;> cases d <;> first | exact h | exact Dp.mono h x
theorem RdAt.there (h : RdAt K F H r ps last f) {a : Addr} (ha : r.A a) : H a ≠ none := by
  rcases ha with rfl | rfl | rfl | rfl | ha
  · rw [h.x]; nofun
  · rw [h.dx]; nofun
  · rw [h.P]; nofun
  · obtain ⟨us, e, _⟩ := h.N
    rw [e]; nofun
  · obtain ⟨i, hi⟩ := List.mem_iff_getElem?.mp ha
    obtain ⟨p, vs, _, e, _⟩ := h.L i a hi
    rw [e]; nofun
theorem RdAt.gr (h : RdAt K F H r ps last f) (g : Gr F H F' H') : RdAt K F' H' r ps last f where
  sub := g.s
  x := g.h _ _ h.x
  dx := g.h _ _ h.dx
  P := g.h _ _ h.P
  N := by
    obtain ⟨us, h1, h2, h3⟩ := h.N
    exact ⟨us, g.h _ _ h1, h2, fun k => sameO_mono g.f (h3 k)⟩
  L := fun i L e => by
    obtain ⟨p, vs, h1, h2, h3⟩ := h.L i L e
    exact ⟨p, vs, h1, g.h _ _ h2, h3.mono g.f⟩
  len := h.len
  lenL := h.lenL
  nd := h.nd
  PL := h.PL
  out := fun a ha => g.o a (h.out a ha) (h.there ha)
end
end Bw
set_option Elab.async false
set_option linter.all false
set_option maxRecDepth 100000
set_option maxHeartbeats 2000000
namespace Bw
open PySem PySem.Spec L2 Evl
open Bk (sReadingTake)
section
variable {P : Program} {w : World} {K : PySem.W.Frag} {mg : Str → Option Value} {base : Heap}
def sortW : List Str := [Str.ofString "machine", Str.ofString "good", Str.ofString "task", Str.ofString "wait", Str.ofString "fixed"]
theorem sort_nd : sortW.Nodup := by decide +kernel
abbrev rTIx (K : PySem.W.Frag) : V → List V → Hp → VK → Prop := fun x xs H Q => ∃ p, ∃ ys : List Str, ∃ z j, x = .ref p ∧ xs = [.str z] ∧ SqT K H p (ys.map V.str) ∧ ys[j]? = some z ∧ (∀ m, m < j → ys[m]? ≠ some z) ∧ Q (.int (j : Nat)) H
theorem Tx.sorts (T : Tx K mg) (H : Hp) : SqT K H (He.ga K "SORTS") (sortW.map V.str) ∧ ∃ o, K.lookup (He.ga K "SORTS") = some o ∧ o.cls = .type "tuple" ∧ o.dict = none := by
  obtain ⟨h1, h2⟩ := He.ba T.xb
  refine ⟨He.tupB_ok (He.ba h2).1 H, ?_⟩
  unfold Bk.nodB at h1
  cases q : K.lookup (He.ga K "SORTS") with
  | none => rw [q] at h1; cases h1
  | some o =>
    rw [q] at h1
    obtain ⟨oc, od, dt, osl⟩ := o
    cases oc with
    | type c =>
      cases od with
      | none =>
        cases dt with
        | seq its n => exact ⟨_, rfl, congrArg Value.type (of_decide_eq_true h1), rfl⟩
        | _ => cases h1
      | some z => cases h1
    | _ => cases h1
theorem rix_str {F H : Hp} {wv : V} {ws : List Str} {j : Nat} {w0 : Str} {Q : VK} (d : Dp K F wv (.list (ws.map .str))) (s : Ex F H) (h0 : ws[j]? = some w0) (q : Q (.str w0) H) : rIxL K wv (.int (j : Nat)) H Q := by
  have hx : (ws.map PyData.str)[j]? = some (.str w0) := by rw [List.getElem?_map, h0]; rfl
  cases d with
  | lst h a =>
    obtain ⟨w, h1, h2⟩ := da_atI a (atI_n hx)
    cases h2
    exact ⟨_, _, j, _, rfl, rfl, ex_l s h, h1, q⟩
theorem sortIx (T : Tx K mg) {σ : L2.St} {F H : Hp} {Q : VK} {wv : V} {ws : List Str} {w0 : Str} {j : Nat} (hσ : σ[1]? = some (some wv)) (d : Dp K F wv (.list (ws.map .str))) (s : Ex F H) (h0 : ws[0]? = some w0) (hj : sortW[j]? = some w0) (q : Q (.int (j : Nat)) H) :
    tBM K "tuple" (rTIx K) (tC (.ref (He.ga K "SORTS"))) (tCons (tOp (rIxL K) (tVar 1) (tC (.int 0))) tNil) σ H Q := by
  obtain ⟨h1, h2⟩ := T.sorts H
  refine ⟨.inr (.inl ⟨rfl, h2⟩), wv, hσ, rix_str (j := 0) d s h0 ⟨_, sortW, w0, j, rfl, rfl, h1, hj, fun m hm e => ?_, q⟩⟩
  obtain ⟨a1, a2⟩ := List.getElem?_eq_some_iff.mp hj
  obtain ⟨b1, b2⟩ := List.getElem?_eq_some_iff.mp e
  have := (List.getElem_inj sort_nd).mp (b2.trans a2.symm)
  omega
/-- self.parts[self.last] -/
theorem partIx (T : Tx K mg) {σ : L2.St} {H : Hp} {Q : VK} {r : RdAd} {j : Nat} {L : Addr} (hσ : σ[0]? = some (some (.ref r.x))) (hx : H r.x = some (.ins (rdC K) r.dx (rdF r j))) (hP : H r.P = some (.lst (r.Ls.map .ref))) (hL : r.Ls[j]? = some L) (q : Q (.ref L) H) :
    tOp (rIxL K) (tFld K (tVar 0) "parts") (tFld K (tVar 0) "last") σ H Q := by
  refine ⟨_, hσ, r.x, rdC K, r.dx, rdF r j, _, rfl, hx, T.cls 86, T.noat 87, rdF_parts, _, hσ, r.x, rdC K, r.dx, rdF r j, _, rfl, hx, T.cls 86, T.noat 88, rdF_last, ?_⟩
  refine ⟨_, _, (j : Nat), _, rfl, rfl, .inl (.inl hP), atI_n ?_, q⟩
  rw [List.getElem?_map, hL]; rfl
theorem RowBy.some {f : L2.Key → Option Pd} {ws : List Str} {y : Pd} (h : RowBy f ws y) : y ≠ .none := by cases h <;> nofun
theorem if_f {a b : Prop} (h : b) : if false = true then a else b := by rw [if_neg Bool.false_ne_true]; exact h
theorem if_t {a b : Prop} (h : a) : if true = true then a else b := by rw [if_pos rfl]; exact h
def spTake (K : PySem.W.Frag) : Sp := fun vs H Q _ => ∃ (F : Hp) (r : RdAd) (ps : List (List Pd)) (last : Nat) (f : L2.Key → Option Pd) (wv nv : V) (w0 : Str) (ws : List Str) (y : Pd) (j : Nat) (p : List Pd) (f' : L2.Key → Option Pd),
  vs = [.ref r.x, wv, nv] ∧ RdAt K F H r ps last f ∧ Dp K F wv (.list (ws.map .str)) ∧ RowBy f ws y ∧ ws[0]? = some w0 ∧ sortW[j]? = some w0 ∧ last ≤ j ∧ ps[j]? = some p ∧ p.length < 1000 ∧
  ((j ≠ 2 ∧ f' = f) ∨ (j = 2 ∧ ∃ w, ws[1]? = some w ∧ f (.inr w) = none ∧ f' = dputD f (.inr w, .int (p.length : Nat)))) ∧
  ∀ F' H', GrX r.A F H F' H' → RdAt K F' H' r (ps.set j (p ++ [y])) j f' → Q .non H'
theorem scReadingTake : FnScope ["self", "words", "number", "found"] ["self", "words", "number"] (defScope sReadingTake) := ⟨rfl, rfl, rfl, by decide +kernel, rfl, by decide +kernel, by decide +kernel⟩
theorem metTake (T : Tx K mg) : C8.Met P w K mg base 5 (rdC K) "take" (spTake K) [] :=
  met_of (st := sReadingTake) (T.cls 86) (T.meth 91) (T.def_ 39 (d := Bk.dReadingTake) rfl) scReadingTake (fun _ _ _ _ _ _ us hl => match us, hl with | [_, _, _], _ => rfl) (fun vs H Q E h => by
    obtain ⟨_, _, _, _, _, _, _, _, _, _, _, _, _, e, _⟩ := h
    rw [e]; rfl) fun cdv A outer s H vs Q E hr h => ⟨_, (pss_cons (ps_set (i := 3) scReadingTake.nd rfl (by first | exact Or.inl rfl | exact Or.inr rfl) (C8.pe_mt (metRowBy T) hr (by decide) (pv 0) (pa_cons (pv 1) pa_nil)))
      (pss_cons (ps_if (PW.pt (pw_or (pt_cmp (pc_isN (pv 3))) (pw_or1 (pt_cmpR op_lt (pe_bm PySem.F.plainAttrs_tuple PySem.F.slot_tuple_index PySem.F.type_tuple_index mt_tup_index (C8.pe_gc rfl (T.gcr 51)) (pa_cons (pe_ix ix_list (pv 1) pe_int (fun _ _ => rfl)) pa_nil)) (pe_fld (pv 0) rfl) (nomark _))))) (pss_one ps_never) pss_nil)
      (pss_cons (ps_fld (pv 0) (pe_bm PySem.F.plainAttrs_tuple PySem.F.slot_tuple_index PySem.F.type_tuple_index mt_tup_index (C8.pe_gc rfl (T.gcr 51)) (pa_cons (pe_ix ix_list (pv 1) pe_int (fun _ _ => rfl)) pa_nil)) rfl)
      (pss_cons (ps_expr (pe_bm PySem.F.plainAttrs_list PySem.F.slot_list_append PySem.F.type_list_append mt_append (pe_ix ix_list (pe_fld (pv 0) rfl) (pe_fld (pv 0) rfl) (fun _ _ => rfl)) (pa_cons (pv 3) pa_nil)))
      (pss_one (ps_if (pt_cmpR op_eq (pe_ix ix_list (pv 1) pe_int (fun _ _ => rfl)) pe_str (nomark _)) (pss_one (ps_expr (pe_dsetd (pe_fld (pv 0) rfl) (pe_ix ix_list (pv 1) pe_int (fun _ _ => rfl)) (pe_op op_sub (pe_callB (id := "len") call_len_seq rfl (T.fr 52) (by decide +kernel) (pa_cons (pe_ix ix_list (pe_fld (pv 0) rfl) (pe_fld (pv 0) rfl) (fun _ _ => rfl)) pa_nil)) pe_int) ⟨rfl, rfl, rfl, rfl⟩))) pss_nil)))))), by
    obtain ⟨F, r, ps, last, f, wv, nv, w0, ws, y, j, p, f', rfl, R, dw, hR, hw0, hj, hl, hp, hpl, hf', fin⟩ := h
    obtain ⟨us, hN, hlen, hus⟩ := R.N
    have cl := T.cls 86
    let pz : Addr → Bool := fun a => decide (a = r.x) || decide (a = r.N)
    have pc : ∀ a, pz a = true → a = r.x ∨ a = r.N := fun a h => by simpa [pz] using h
    have pO : ∀ a, pz a = true → F a = none := fun a h => R.out a (by
      rcases pc a h with e | e
      · exact .inl e
      · exact .inr (.inr (.inr (.inl e))))
    have pS : ∀ a, pz a = true → ∃ o, H a = some o ∧ seqO o = false := fun a h => by
      rcases pc a h with e | e
      · rw [e]; exact ⟨_, R.x, rfl⟩
      · rw [e]; exact ⟨_, hN, rfl⟩
    refine ⟨.ref r.x, rfl, r.x, r.dx, rdF r last, rfl, R.x, rdF_rowby, wv, rfl, ?_⟩
    refine ⟨fz pz F H, f, .ref r.x, wv, ws, y, rfl, fz_sub R.sub, ⟨r.x, r.dx, rdF r last, r.N, us, rfl, ?_, rdF_numbers, ?_, ?_⟩, dw.mono (fz_ex pO), hR, fun v F0 H1 g0 d0 => ?_⟩
    · rw [fz_at (by simp [pz])]; exact R.x
    · rw [fz_at (by simp [pz])]; exact hN
    · exact fun k => sameO_mono (fz_ex pO) (hus k)
    have g1 := unfz_gr pO g0
    have d1 := unfz_dp pS g0 d0
    generalize unfz pz F0 = F1 at g1 d1
    have R1 := R.gr g1
    have dw1 := dw.mono g1.f
    -- none of it is wrong
    have t1 : decide (v = V.non) = false := decide_eq_false fun z => by
      subst z
      cases d1
      exact hR.some rfl
    refine ⟨v, rfl, decide (v = V.non), rfl, ?_⟩
    rw [t1]
    refine if_f ?_
    show tTest (tOp (rI0 fun i j => .bl (decide (i < j))) (tBM K "tuple" (rTIx K) (tC (.ref (He.ga K "SORTS"))) (tCons (tOp (rIxL K) (tVar 1) (tC (.int 0))) tNil)) (tFld K (tVar 0) (Str.ofString "last"))) [some (.ref r.x), some wv, some nv, some v] H1 _
    unfold tTest tOp
    refine sortIx T (σ := [some (.ref r.x), some wv, some nv, some v]) rfl dw1 R1.sub hw0 hj ?_
    refine ⟨_, rfl, r.x, rdC K, r.dx, rdF r last, _, rfl, R1.x, cl, T.noat 88, rdF_last, _, _, rfl, rfl, _, rfl, ?_⟩
    have t2 : decide ((j : Int) < (last : Int)) = false := decide_eq_false (by omega)
    rw [t2]
    refine if_f ?_
    -- self.last
    show sFld K (tVar 0) (tBM K "tuple" (rTIx K) (tC (.ref (He.ga K "SORTS"))) (tCons (tOp (rIxL K) (tVar 1) (tC (.int 0))) tNil)) (Str.ofString "last") _ [some (.ref r.x), some wv, some nv, some v] H1
    unfold sFld
    refine sortIx T (σ := [some (.ref r.x), some wv, some nv, some v]) rfl dw1 R1.sub hw0 hj ?_
    refine ⟨_, rfl, r.x, rdC K, r.dx, rdF r last, rfl, R1.x, cl, T.noat 88, by show 3 < 1000; decide, ?_⟩
    obtain ⟨L, hL⟩ : ∃ L, r.Ls[j]? = some L := ⟨_, List.getElem?_eq_getElem (by have := (List.getElem?_eq_some_iff.mp hp).1; have := R.len; have := R.lenL; omega)⟩
    obtain ⟨p', vs, hp', hLv, hda⟩ := R1.L j L hL
    have ep : p' = p := Option.some.inj (hp'.symm.trans hp)
    subst ep
    obtain ⟨us1, hN1, hlen1, hus1⟩ := R1.N
    rw [rdF_put]
    generalize hH2 : upd H1 r.x (.ins (rdC K) r.dx (rdF r j)) = H2
    have nx : r.x ≠ r.P := fun z => by
      have a := R1.x
      rw [z, R1.P] at a; cases a
    have nL : ∀ i L, r.Ls[i]? = some L → L ≠ r.x := fun i L h z => by
      obtain ⟨_, _, _, a, _⟩ := R1.L i L h
      rw [z, R1.x] at a; cases a
    have nLP : ∀ i L, r.Ls[i]? = some L → L ≠ r.P := fun i L h z => R1.PL (by rw [← z]; exact List.mem_of_getElem? h)
    have nLN : ∀ i L, r.Ls[i]? = some L → L ≠ r.N := fun i L h z => by
      obtain ⟨_, _, _, a, _⟩ := R1.L i L h
      rw [z, hN1] at a; cases a
    have nLd : ∀ i L, r.Ls[i]? = some L → L ≠ r.dx := fun i L h z => by
      obtain ⟨_, _, _, a, _⟩ := R1.L i L h
      rw [z, R1.dx] at a; cases a
    have nxd : r.x ≠ r.dx := fun z => by
      have a := R1.x
      rw [z, R1.dx] at a; cases a
    have nxN : r.x ≠ r.N := fun z => by
      have a := R1.x
      rw [z, hN1] at a; cases a
    have nNP : r.N ≠ r.P := fun z => by
      rw [z, R1.P] at hN1; cases hN1
    have nNd : r.N ≠ r.dx := fun z => by
      rw [z, R1.dx] at hN1; cases hN1
    have x2 : H2 r.x = some (.ins (rdC K) r.dx (rdF r j)) := by rw [← hH2, upd_same]
    have P2 : H2 r.P = some (.lst (r.Ls.map .ref)) := by rw [← hH2, upd_ne nx.symm]; exact R1.P
    have L2' : H2 L = some (.lst vs) := by rw [← hH2, upd_ne (nL j L hL)]; exact hLv
    have aX : r.A r.x := .inl rfl
    have aN : r.A r.N := .inr (.inr (.inr (.inl rfl)))
    have aL : ∀ i L, r.Ls[i]? = some L → r.A L := fun i L h => .inr (.inr (.inr (.inr (List.mem_of_getElem? h))))
    have g2 : GrX r.A F H F1 H2 := g1.x.trans (by rw [← hH2]; exact GrX.put R1.sub aX (R1.out _ aX))
    show tDrop (tBM K "list" rAppend (tOp (rIxL K) (tFld K (tVar 0) (Str.ofString "parts")) (tFld K (tVar 0) (Str.ofString "last"))) (tCons (tVar 3) tNil)) _ [some (.ref r.x), some wv, some nv, some v] H2
    unfold tDrop tBM
    refine partIx T (σ := [some (.ref r.x), some wv, some nv, some v]) rfl x2 P2 hL ?_
    refine ⟨.inl ⟨rfl, vs, .inl (.inl L2')⟩, v, rfl, L, vs, v, rfl, rfl, L2', Nat.lt_of_lt_of_le (by rw [da_len hda]; exact hpl) (by decide), ?_⟩
    generalize hH3 : upd H2 L (.lst (vs ++ [v])) = H3
    have g3 : GrX r.A F H F1 H3 := g2.trans (by rw [← hH3]; exact GrX.put g2.s (aL j L hL) (R1.out _ (aL j L hL)))
    have x3 : H3 r.x = some (.ins (rdC K) r.dx (rdF r j)) := by rw [← hH3, upd_ne (nL j L hL).symm]; exact x2
    have P3 : H3 r.P = some (.lst (r.Ls.map .ref)) := by rw [← hH3, upd_ne (nLP j L hL).symm]; exact P2
    have d3 : H3 r.dx = some (.own r.x) := by rw [← hH3, upd_ne (nLd j L hL).symm, ← hH2, upd_ne nxd.symm]; exact R1.dx
    have N3 : H3 r.N = some (.dK us1) := by rw [← hH3, upd_ne (nLN j L hL).symm, ← hH2, upd_ne nxN.symm]; exact hN1
    have L3 : H3 L = some (.lst (vs ++ [v])) := by rw [← hH3, upd_same]
    have jlt : j < ps.length := (List.getElem?_eq_some_iff.mp hp).1
    have Ls3 : ∀ (i : Nat) (M : Addr), r.Ls[i]? = some M → ∃ (q : List Pd) (ws : List V), (ps.set j (p' ++ [y]))[i]? = some q ∧ H3 M = some (.lst ws) ∧ DpAll K F1 ws q := fun i M hM => by
      by_cases e : i = j
      · subst e
        have e2 : M = L := Option.some.inj (hM.symm.trans hL)
        subst e2
        exact ⟨_, _, List.getElem?_set_self jlt, L3, da_append hda (.cons d1 .nil)⟩
      · obtain ⟨q, ws, h1, h2, h3⟩ := R1.L i M hM
        have ne : M ≠ L := fun z => e ((List.getElem?_inj (List.getElem?_eq_some_iff.mp hM).1 R.nd).mp (by rw [hM, hL, z]))
        exact ⟨q, ws, by rw [List.getElem?_set_ne (Ne.symm e)]; exact h1, by rw [← hH3, upd_ne ne, ← hH2, upd_ne (nL i M hM)]; exact h2, h3⟩
    have len2 : (ps.getD 2 []).length ≤ ((ps.set j (p' ++ [y])).getD 2 []).length ∧ (j = 2 → (ps.getD 2 []).length + 1 ≤ ((ps.set j (p' ++ [y])).getD 2 []).length) := by
      rw [List.getD_eq_getElem?_getD, List.getD_eq_getElem?_getD]
      by_cases e : j = 2
      · subst e
        rw [List.getElem?_set_self jlt, hp]
        simp
      · rw [List.getElem?_set_ne e]
        exact ⟨Nat.le_refl _, fun z => absurd z e⟩
    have mk : ∀ (H4 : Hp) (us4 : List (L2.Key × V)) (f4 : L2.Key → Option Pd), Ex F1 H4 → (∀ a, a ≠ r.N → H4 a = H3 a) → H4 r.N = some (.dK us4) → us4.length ≤ ((ps.set j (p' ++ [y])).getD 2 []).length → (∀ k, sameO (Dp K F1) (valV us4 k) (f4 k)) → RdAt K F1 H4 r (ps.set j (p' ++ [y])) j f4 := fun H4 us4 f4 s4 k4 n4 l4 m4 =>
      ⟨s4, by rw [k4 _ nxN]; exact x3, by rw [k4 _ nNd.symm]; exact d3, by rw [k4 _ nNP.symm]; exact P3, ⟨us4, n4, l4, m4⟩, fun i M hM => by
        obtain ⟨q, ws, h1, h2, h3⟩ := Ls3 i M hM
        exact ⟨q, ws, h1, by rw [k4 _ (nLN i M hM)]; exact h2, h3⟩, by rw [List.length_set]; exact R.len, R.lenL, R.nd, R.PL, R1.out⟩
    have i0 : rIxL K wv (.int ((0 : Nat) : Int)) H3 = rIxL K wv (.int 0) H3 := rfl
    refine ⟨wv, rfl, ?_⟩
    unfold tC
    refine rix_str (j := 0) dw1 g3.s hw0 ⟨rfl, _, rfl, ?_⟩
    rw [dec_str]
    rcases hf' with ⟨hj2, rfl⟩ | ⟨rfl, wd, hw1, hfree, rfl⟩
    · have ne : decide (w0 = Str.ofString "task") = false := decide_eq_false fun z => hj2 (by
        obtain ⟨a1, a2⟩ := List.getElem?_eq_some_iff.mp hj
        have a3 : sortW[2]'(by decide) = Str.ofString "task" := rfl
        exact (List.getElem_inj sort_nd).mp (a2.trans (z.trans a3.symm)))
      rw [ne]
      refine if_f ?_
      refine fin F1 H3 g3 (mk H3 us1 f' g3.s (fun _ _ => rfl) N3 (Nat.le_trans hlen1 len2.1) hus1)
    · have eq : decide (w0 = Str.ofString "task") = true := decide_eq_true (Option.some.inj (hj.symm.trans (show sortW[2]? = some (Str.ofString "task") from rfl)))
      rw [eq]
      refine if_t ?_
      refine ⟨.ref r.x, rfl, r.x, rdC K, r.dx, rdF r 2, _, rfl, x3, cl, T.noat 89, rdF_numbers, ?_⟩
      refine ⟨r.N, rfl, .inl ⟨_, .inl N3⟩, ?_⟩
      refine ⟨wv, rfl, ?_⟩
      refine rix_str (j := 1) dw1 g3.s hw1 ?_
      unfold tCB
      refine partIx T (σ := [some (.ref r.x), some wv, some nv, some v]) rfl x3 P3 hL ?_
      refine ⟨L, _, rfl, .inl (.inl (.inl L3)), _, _, rfl, rfl, ?_⟩
      have hnone : valV us1 (.inr wd) = none := by
        have z := hus1 (.inr wd)
        rw [hfree] at z
        cases e : valV us1 (.inr wd) with
        | none => rfl
        | some q => rw [e] at z; exact z.elim
      have lt : us1.length < 1000 := by
        have e : (ps.getD 2 []) = p' := by rw [List.getD_eq_getElem?_getD, hp]; rfl
        rw [e] at hlen1
        omega
      refine ⟨us1, .inr wd, N3, rfl, Nat.lt_of_lt_of_le lt (by decide), fun u hu => ?_, fun _ => ?_⟩
      · rw [hnone] at hu; cases hu
      have s4 : Ex F1 (upd H3 r.N (.dK (putK us1 (.inr wd) (.int (((vs ++ [v]).length : Nat) - 1))))) := fun a o e => by
        rw [upd_ne (ne_of_none e (g1.o _ (R.out _ aN) (R.there aN)))]
        exact g3.s a o e
      refine fin F1 _ (g3.trans (GrX.put g3.s aN (g1.o _ (R.out _ aN) (R.there aN)))) (mk _ _ _ s4 (fun a ha => upd_ne ha) upd_same (Nat.le_trans (length_putK _ _ _) (Nat.le_trans (Nat.succ_le_succ hlen1) (len2.2 rfl))) fun k => ?_)
      rw [valV_put]
      unfold dputD
      by_cases z : k = .inr wd
      · rw [if_pos z, if_pos z]
        have e : (((vs ++ [v]).length : Nat) : Int) - 1 = (p'.length : Nat) := by
          rw [List.length_append, da_len hda]
          simp
        show Dp K F1 (V.int ((((vs ++ [v]).length : Nat) : Int) - 1)) (.int (p'.length : Nat))
        rw [e]
        exact .int _
      · rw [if_neg z, if_neg z]; exact hus1 k⟩
end
end Bw
set_option Elab.async false
set_option linter.all false
set_option maxRecDepth 100000
set_option maxHeartbeats 2000000
namespace Bw
open PySem PySem.Spec L2 Evl
open Bk (sReadingInit)
section
variable {P : Program} {w : World} {K : PySem.W.Frag} {mg : Str → Option Value} {base : Heap}
def spInit (K : PySem.W.Frag) : Sp := fun vs H Q _ => ∃ (F : Hp) (x dx : Addr), vs = [.ref x] ∧ Ex F H ∧ H x = some (.ins (rdC K) dx []) ∧ H dx = some (.own x) ∧ F x = none ∧ F dx = none ∧
  ∀ (H' : Hp) (r : RdAd), r.x = x → r.dx = dx → (∀ a o, a ≠ x → H a = some o → H' a = some o) → RdAt K F H' r [[], [], [], [], []] 0 (fun _ => none) → (∀ a, r.A a → a = x ∨ a = dx ∨ H a = none) → Q .non H'
theorem scReadingInit : FnScope ["self", "word"] ["self"] (defScope sReadingInit) := ⟨rfl, rfl, rfl, by decide +kernel, rfl, by decide +kernel, by decide +kernel⟩
theorem makReading (T : Tx K mg) : C8.Mak P w K mg base 1 "Reading" (rdC K) (spInit K) [] :=
  mak_of (st := sReadingInit) (T.mkr 92) (T.glo 50) (T.def_ 37 (d := Bk.dReadingInit) rfl) scReadingInit (fun _ _ _ _ _ _ us hl => match us, hl with | [_], _ => rfl) (fun vs H Q E h => by
    obtain ⟨_, _, _, e, _⟩ := h
    rw [e]; rfl) fun cdv A outer s H vs Q E hr h => ⟨_, (pss_cons (ps_fld (pv 0) (pe_lc (own := [("word", 1)]) (g := gName 1) rfl scReadingInit.nd (pi_tup (C8.pe_gc rfl (T.gcr 51))) (blkOk_by (own := [("word", 1)]) (N := ["self", "word"]) (sc := (defScope sReadingInit)) (by decide +kernel)) (fun _ _ _ _ _ => (pg_name (i := 1) scReadingInit.nd rfl (by first | exact Or.inl rfl | exact Or.inr rfl))) (fun _ _ _ _ _ => pts_nil) (fun _ _ _ _ _ => (pe_lst pa_nil))) rfl)
      (pss_cons (ps_fld (pv 0) pe_int rfl)
      (pss_one (ps_fld (pv 0) pe_dnewK rfl)))), by
    obtain ⟨F, x, dx, rfl, sF, hx, hdx, fx, fdx, fin⟩ := h
    have cl := T.cls 86
    have sq := fun H => (T.sorts H).1
    refine ⟨_, rfl, ⟨_, sq H⟩, fun D hD => ?_⟩
    refine lc_it (walk_tup (K := K) (xs := sortW.map V.str)) (fun i H' => ∃ Ls : List Addr, Ls.length = i ∧ Ls.Nodup ∧ H' D = some (.lst (Ls.map .ref)) ∧ (∀ L, L ∈ Ls → H' L = some (.lst []) ∧ H L = none ∧ L ≠ D) ∧ ∀ a o, H a = some o → H' a = some o)
      ⟨[], rfl, List.nodup_nil, upd_same, nofun, fun a o e => by rw [upd_ne (ne_of_none e hD)]; exact e⟩ (fun i H' _ _ => sq H') ?_ ?_
    · rintro i v H1 H2 hi ⟨Ls, h1, h2, h3, h4, h5⟩ ⟨rfl, _⟩
      have lt5 : i < 5 := hi
      refine ⟨rfl, Nat.zero_le _, fun L hL => ?_⟩
      have nLD : L ≠ D := fun z => by rw [z, h3] at hL; cases hL
      have n4 : ∀ M ∈ Ls, M ≠ L := fun M hM z => by
        have := (h4 M hM).1
        rw [z, hL] at this; cases this
      refine ⟨Ls.map .ref, by rw [upd_ne nLD.symm]; exact h3, by rw [List.length_map, h1]; exact Nat.lt_of_lt_of_le lt5 (by decide), Ls ++ [L], by rw [List.length_append, h1]; rfl, ?_, ?_, fun M hM => ?_, fun a o e => ?_⟩
      · refine List.nodup_append.mpr ⟨h2, by simp, fun a ha b hb => ?_⟩
        rw [List.mem_singleton.mp hb]
        exact n4 a ha
      · rw [upd_same, List.map_append]; rfl
      · rcases List.mem_append.mp hM with hM | hM
        · have z := h4 M hM
          exact ⟨by rw [upd_ne z.2.2, upd_ne (n4 M hM)]; exact z.1, z.2⟩
        · rw [List.mem_singleton.mp hM]
          refine ⟨by rw [upd_ne nLD, upd_same], ?_, nLD⟩
          cases e : H L with
          | none => rfl
          | some o => rw [h5 L o e] at hL; cases hL
      · have aL : a ≠ L := fun z => by
          have := h5 a o e
          rw [z, hL] at this; cases this
        rw [upd_ne (fun z => by rw [z, hD] at e; cases e), upd_ne aL]
        exact h5 a o e
    · rintro H1 ⟨Ls, h1, h2, h3, h4, h5⟩
      have l5 : Ls.length = 5 := h1
      refine ⟨_, rfl, x, rdC K, dx, [], rfl, h5 x _ hx, cl, T.noat 87, by decide, ?_⟩
      refine ⟨_, rfl, x, rdC K, dx, _, rfl, upd_same, cl, T.noat 88, by show 1 < 1000; decide, ?_⟩
      refine fun N hN => ?_
      have nxN : x ≠ N := fun z => by rw [← z, upd_same] at hN; cases hN
      refine ⟨_, rfl, x, rdC K, dx, _, rfl, by rw [upd_ne nxN, upd_same], cl, T.noat 89, by show 2 < 1000; decide, ?_⟩
      have nxd : dx ≠ x := fun z => by rw [z, hx] at hdx; cases hdx
      have nxD : D ≠ x := fun z => by rw [z, hx] at hD; cases hD
      have hN1 : H1 N = none := by rwa [upd_ne nxN.symm, upd_ne nxN.symm] at hN
      have hN0 : H N = none := by
        cases e : H N with
        | none => rfl
        | some o => rw [h5 N o e] at hN1; cases hN1
      have nNd : dx ≠ N := fun z => by rw [z, hN0] at hdx; cases hdx
      have nND : D ≠ N := fun z => by rw [z, hN1] at h3; cases h3
      have keep : ∀ a o, a ≠ x → a ≠ N → H1 a = some o → upd (upd (upd (upd H1 x (.ins (rdC K) dx (putF (Str.ofString "parts") (.ref D) []))) x (.ins (rdC K) dx (putF (Str.ofString "last") (.int 0) (putF (Str.ofString "parts") (.ref D) [])))) N (.dK [])) x
          (.ins (rdC K) dx (putF (Str.ofString "numbers") (.ref N) (putF (Str.ofString "last") (.int 0) (putF (Str.ofString "parts") (.ref D) [])))) a = some o := fun a o ax aN e => by
        rw [upd_ne ax, upd_ne aN, upd_ne ax, upd_ne ax]; exact e
      have hL : ∀ L ∈ Ls, L ≠ x ∧ L ≠ N ∧ L ≠ D := fun L hL => by
        have z := h4 L hL
        exact ⟨fun y => (by rw [y, hx] at z; cases z.2.1), fun y => (by rw [y, hN1] at z; cases z.1), z.2.2⟩
      refine fin _ ⟨x, dx, D, N, Ls⟩ rfl rfl (fun a o ax e => keep a o ax (fun z => by rw [z, hN0] at e; cases e) (h5 a o e)) ⟨fun a o e => ?_, upd_same, keep _ _ nxd nNd (h5 _ _ hdx), keep _ _ nxD nND h3, ⟨[], by rw [upd_ne nxN.symm, upd_same], Nat.zero_le _, fun k => trivial⟩, fun i L hi => ?_, rfl, l5, h2, fun z => (hL D z).2.2 rfl, fun a ha => ?_⟩ fun a ha => ?_
      · have ax : a ≠ x := fun z => by rw [z, fx] at e; cases e
        have e2 := sF a o e
        exact keep a o ax (fun z => by rw [z, hN0] at e2; cases e2) (h5 a o e2)
      · have hm := List.mem_of_getElem? hi
        have z := hL L hm
        have lt : i < 5 := by rw [← l5]; exact (List.getElem?_eq_some_iff.mp hi).1
        refine ⟨[], [], ?_, keep _ _ z.1 z.2.1 (h4 L hm).1, .nil⟩
        have key : ∀ k : Fin 5, ([[], [], [], [], []] : List (List Pd))[k.val]? = some [] := fun k => match k with
          | 0 => rfl | 1 => rfl | 2 => rfl | 3 => rfl | 4 => rfl
        exact key ⟨i, lt⟩
      · rcases ha with ha | ha | ha | ha | ha
        · rw [ha]; exact fx
        · rw [ha]; exact fdx
        · rw [ha]; exact none_of sF hD
        · rw [ha]; exact none_of sF hN0
        · exact none_of sF (h4 a ha).2.1
      · rcases ha with ha | ha | ha | ha | ha
        · exact .inl ha
        · exact .inr (.inl ha)
        · rw [ha]; exact .inr (.inr hD)
        · rw [ha]; exact .inr (.inr hN0)
        · exact .inr (.inr (h4 a ha).2.1)⟩
end
end Bw
set_option Elab.async false
set_option linter.all false
set_option maxRecDepth 100000
set_option maxHeartbeats 2000000
namespace Bw
open PySem PySem.Spec L2 Evl
open Bk (sBadBookInit sNeedBook)
section
variable {K : PySem.W.Frag} {mg : Str → Option Value}
abbrev bbC (K : PySem.W.Frag) : Addr := He.ga K "BadBook"
abbrev bbI (K : PySem.W.Frag) : Addr := He.ma K (He.ga K "BadBook") "__init__"
abbrev peC (K : PySem.W.Frag) : Addr := He.ga K "PlanError"
theorem oex_of {C : Addr} (h1 : Bk.oexB K C = true) (h2 : PySem.W.findIn K (.ref C) "__setattr__" = some (some (.builtin "object.__setattr__"))) (h3 : PySem.W.subIn K (.ref C) (.type "BaseException") = some true) (h4 : PySem.W.typeIn K (.ref C) = some (.type "type")) (h5 : PySem.W.keepIn K (.ref C) = true) : OexC K C := by
  refine ⟨?_, h2, h3, h4, h5⟩
  unfold Bk.oexB at h1
  split at h1
  · rename_i od cd sl e
    split at h1
    · rename_i C' bm k0 k1 k2 k3 n k5 e1 e2
      obtain ⟨a1, h1⟩ := He.ba h1
      obtain ⟨a2, h1⟩ := He.ba h1
      obtain ⟨a3, h1⟩ := He.ba h1
      obtain ⟨a4, a5⟩ := He.ba h1
      have b1 := of_decide_eq_true a1
      have b2 := of_decide_eq_true a2
      subst b1 b2
      obtain ⟨nm, bs, mro, N, q, hd, sn, sub, ab, col, del⟩ := cd
      simp only at e1 a3 a4
      subst e1 a4
      have b3 : del = false := by simpa using a3
      subst b3
      refine ⟨nm, q, N, bs, bm, sn, sub, ab, col, od, k0, k1, k2, k3, k5, ?_, a5⟩
      rw [e]
      have e3 : sl = #[k0, k1, k2, k3, some (.builtin "ValueError.__new__"), k5] := by rw [← e2]
      rw [e3] <;> rfl
    · cases h1
  · cases h1
structure BadOk (K : PySem.W.Frag) : Prop where
  oex : OexC K (bbC K)
  what : PySem.W.findIn K (.ref (bbC K)) "what" = some none
  ini : PySem.W.findIn K (.ref (bbC K)) "__init__" = some (some (.ref (bbI K)))
  tI : PySem.W.typeIn K (.ref (bbI K)) = some (.type "function")
  ga : PySem.W.findIn K (.ref (bbC K)) "__getattribute__" = some (some (.builtin "BaseException.__getattribute__"))
  gg : PySem.W.findIn K (.ref (bbC K)) "__getattr__" = some none
  hd : PySem.W.hasDictIn K (bbC K) = true
  cls : PySem.W.findIn K (.ref (bbC K)) "__class__" = some (some (.builtin "object.__class__"))
  get : PySem.W.specialIn K (.builtin "object.__class__") "__get__" = some (some (.builtin "getset_descriptor.__get__"))
  tk : PySem.W.takesIn K (.builtin "object.__class__") = some true
  mo : PySem.W.mroIn K (bbC K) (.type "object") = some true
  rd : PySem.W.readsIn K (peC K) (.type "type") = true
  sp : PySem.W.specialIn K (.ref (peC K)) "__getattribute__" = some (some (.builtin "type.__getattribute__"))
  vi : PySem.W.findCls K (.ref (peC K)) (.type "type") "__init__" = some (.val (.builtin "ValueError.__init__"))
def isoNames : List (Str × Bool) := [("BadArcs", false), ("BadBook", true), ("BadDeed", false), ("BadLine", false), ("BadMost", false), ("BadPaper", false), ("BadPlan", false), ("BadRows", false), ("BadTasks", false), ("BadText", false), ("BadWorth", false), ("NoDeed", false), ("NoPlan", false)]
theorem Tx.bad (T : Tx K mg) : BadOk K ∧ (∀ p ∈ isoNames, PySem.W.kitOne K (.ref (bbC K)) (.ref (He.ga K p.1)) = some p.2) ∧ PySem.W.kitOne K (.ref (bbC K)) (.type "ValueError") = some true := by
  obtain ⟨_, h⟩ := He.ba T.xb
  obtain ⟨_, h⟩ := He.ba h
  obtain ⟨x1, h⟩ := He.ba h
  obtain ⟨x2, h⟩ := He.ba h
  obtain ⟨x3, h⟩ := He.ba h
  obtain ⟨x4, h⟩ := He.ba h
  obtain ⟨x5, h⟩ := He.ba h
  obtain ⟨x6, h⟩ := He.ba h
  obtain ⟨x7, h⟩ := He.ba h
  obtain ⟨x8, h⟩ := He.ba h
  obtain ⟨x9, h⟩ := He.ba h
  obtain ⟨x10, h⟩ := He.ba h
  obtain ⟨x11, h⟩ := He.ba h
  obtain ⟨x12, h⟩ := He.ba h
  obtain ⟨x13, h⟩ := He.ba h
  obtain ⟨x14, h⟩ := He.ba h
  obtain ⟨x15, h⟩ := He.ba h
  obtain ⟨x16, h⟩ := He.ba h
  obtain ⟨x17, h⟩ := He.ba h
  obtain ⟨x18, h⟩ := He.ba h
  obtain ⟨i1, h⟩ := He.ba h
  obtain ⟨i2, h⟩ := He.ba h
  obtain ⟨i3, h⟩ := He.ba h
  obtain ⟨i4, h⟩ := He.ba h
  obtain ⟨i5, h⟩ := He.ba h
  obtain ⟨i6, h⟩ := He.ba h
  obtain ⟨i7, h⟩ := He.ba h
  obtain ⟨i8, h⟩ := He.ba h
  obtain ⟨i9, h⟩ := He.ba h
  obtain ⟨i10, h⟩ := He.ba h
  obtain ⟨i11, h⟩ := He.ba h
  obtain ⟨i12, h⟩ := He.ba h
  obtain ⟨i13, i14⟩ := He.ba h
  refine ⟨⟨oex_of x1 (He.eqO_ok x2) (of_decide_eq_true x3) (of_decide_eq_true x4) x5, He.eqO_ok x6, He.eqO_ok x7, of_decide_eq_true x8, He.eqO_ok x9, He.eqO_ok x10, x11, He.eqO_ok x12, He.eqO_ok x13, of_decide_eq_true x14, of_decide_eq_true x15, x16, He.eqO_ok x17, ?_⟩, fun p hp => ?_, of_decide_eq_true i14⟩
  · split at x18
    · rename_i n e
      rw [e, of_decide_eq_true x18]
    · cases x18
  · simp only [isoNames, List.mem_cons, List.not_mem_nil, or_false] at hp
    rcases hp with rfl | rfl | rfl | rfl | rfl | rfl | rfl | rfl | rfl | rfl | rfl | rfl | rfl
    · exact of_decide_eq_true i1
    · exact of_decide_eq_true i2
    · exact of_decide_eq_true i3
    · exact of_decide_eq_true i4
    · exact of_decide_eq_true i5
    · exact of_decide_eq_true i6
    · exact of_decide_eq_true i7
    · exact of_decide_eq_true i8
    · exact of_decide_eq_true i9
    · exact of_decide_eq_true i10
    · exact of_decide_eq_true i11
    · exact of_decide_eq_true i12
    · exact of_decide_eq_true i13
end
section
variable {X : Cx} {e : Expr} {es : List Expr} {ta : TA} {p1 p2 pos : Pos}
/-- PlanError.__init__(self, ..) -/
theorem pe_pinit {pl : Sem Bool} (b : BadOk X.K) (hg : Gl X "PlanError") (hm : X.mg "PlanError" = some (.ref (peC X.K))) (ha : PA X (e :: es) ta)
    (hc : eval (.Call (.Attribute (.Name "PlanError" p1) "__init__" p2) (e :: es) [] pos) X.env = (do
      let ov ← eval (.Name "PlanError" p1) X.env
      standAt p2.atName
      let (f, first) ← holding [ov] (getMethod ov "__init__" pl)
      callWith pos f first (backTo pos (starEach (e :: es) X.env)) (backToKw pos (keywordEach [] X.env))) := by rfl)
    (he : starEach (e :: es) X.env = (false, eval e X.env) :: starEach es X.env := by rfl) (hpl : (backTo pos (starEach es X.env)).any (·.1) = false := by rfl) :
    PE X (.Call (.Attribute (.Name "PlanError" p1) "__init__" p2) (e :: es) [] pos) (tVeI X.K ta) := by
  refine ⟨fun pins s σ H Q I h => ?_⟩
  refine PySem.W.methodCall_KW (ld_glob I hg hm ?_ (by decide)) hc
  refine PySem.W.method_cls I.kIn b.sp (PySem.W.cls_value I.kIn b.rd b.vi (by decide +kernel) ?_)
  show wpAny _ _ (callWith pos (Value.builtin "ValueError.__init__") [] (backTo pos (starEach (e :: es) X.env)) []) _ _ _
  refine PyProof.Rows.callWith_method1 (thn (ha.run pos pins _ σ H _ (I.tok _) h) fun us s1 ⟨vs, H1, I1, r1, a, C, ws, ev, hl, T, ea, q⟩ => ?_) he hpl
  subst ev
  cases r1 with
  | @cons _ u0 _ ur ra rw' =>
    obtain rfl : u0 = Value.ref a := ra
    have hlen : ur.length ≤ sizeLine := by
      rw [← Paired.length rw', sizeLine_eq]
      omega
    exact oinit_ok T I1 ea hlen fun s' J => ⟨.non, H1, J, rfl, q⟩
end
section
variable {P : Program} {w : World} {K : PySem.W.Frag} {mg : Str → Option Value} {base : Heap}
def spBad (K : PySem.W.Frag) : Sp := fun vs H Q _ => ∃ (a : Addr) (v : V), vs = [.ref a, v] ∧ H a = some (exo a (bbC K) none) ∧
  ∀ dx, H dx = none → dx ≠ a → Q .non (upd (upd H dx (exd dx [(Str.ofString "what", v)])) a (exo a (bbC K) (some dx)))
theorem scBadbookInit : FnScope ["self", "what"] ["self", "what"] (defScope sBadBookInit) := ⟨rfl, rfl, rfl, by decide +kernel, rfl, by decide +kernel, by decide +kernel⟩
theorem okBad (T : Tx K mg) : ∃ fd, FnOk P w K mg base C8.CX0 1 (bbI K) fd ["self", "what"] (spBad K) ∧ Binds K fd ["self", "what"] [] := by
  obtain ⟨fd, F⟩ : ∃ fd, FunD K "__init__" "BadBook.__init__" (defArgs sBadBookInit) (defBody sBadBookInit) (defScope sBadBookInit) [] [] (bbI K) fd := (T.def_ 36 (d := Bk.dBadBookInit) rfl)
  obtain ⟨b, _, _⟩ := T.bad
  refine ⟨fd, FunD.ok F scBadbookInit (fun vs H Q E ⟨_, _, e, _⟩ => by rw [e]; rfl) fun cdv A outer s H vs Q E hr h => ?_, F.bindsN (fun _ _ _ _ _ _ us hl => match us, hl with | [_, _], _ => rfl)⟩
  refine ⟨_, PSs.nox (pss_cons (ps_expr (pe_pinit b rfl (T.glo 36) (pa_cons (pv 0) (pa_cons pe_str pa_nil)))) (pss_one (ps_ost (pv 0) (pv 1)))), ?_⟩
  obtain ⟨a, v, rfl, ha, hq⟩ := h
  refine ⟨_, rfl, a, bbC K, [.str (Str.ofString "refused")], rfl, by show 1 ≤ 1000; decide, b.oex, ha, ?_⟩
  exact ⟨_, rfl, _, rfl, a, bbC K, rfl, b.oex, b.what, .inl ⟨ha, fun dx h1 h2 => hq dx h1 h2⟩⟩
end
end Bw
set_option Elab.async false
set_option linter.all false
set_option maxRecDepth 100000
set_option maxHeartbeats 2000000
namespace Bw
open PySem PySem.Spec L2 Evl
open Bk (sNeedBook)
section
variable {P : Program} {w : World} {K : PySem.W.Frag} {mg : Str → Option Value} {base : Heap}
/-- a def by its name that may let an exception out -/
structure CalX (P : Program) (w : World) (K : PySem.W.Frag) (mg : Str → Option Value) (base : Heap) (k : Nat) (x : Str) (ps : List Str) (sp : Sp) : Prop where
  ex : ∃ (f : Addr) (fd : FuncData), FnOk P w K mg base (L2.CX P w) k f fd ps sp ∧ mg x = some (.ref f) ∧ PySem.W.keepIn K (.ref f) = true ∧ Binds K fd ps []
theorem calX_of {x : Str} {st : Stmt} {f : Addr} {N ps : List Str} {k : Nat} {sp : Sp}
    (F : ∃ fd, FunD K x x (defArgs st) (defBody st) (defScope st) [] [] f fd) (g : mg x = some (.ref f)) (S : FnScope N ps (defScope st))
    (hb : ∀ (kV doc pm : Value) (an : Option Addr) (cdv ct : Value) (us : List Value), us.length = ps.length → bindArgs (PySem.W.fnOf x x (defArgs st) (defBody st) (defScope st) .none kV doc pm an cdv ct) ⟨us, []⟩ = pure (ps.zip us))
    (len : ∀ vs H Q E, sp vs H Q E → vs.length = ps.length)
    (hbody : ∀ (cdv : Value) (A : Around) (outer : List Env) (s : Shared) (H : Hp) (vs : List V) (Q : VK) (E : XK), Room k (A.deeper (PyProof.Rows.envOfC x (defScope st) s.heap.objs.size f cdv)) → sp vs H Q E →
      ∃ t, PSs (cxOf (L2.CX P w) P w K mg base N x (defScope st) f cdv A outer s H E) (defBody st) t ∧ t { nx := fun _ H' => Q .non H', rt := Q } (L2.start N vs) H) : CalX P w K mg base (k + 1) x ps sp := by
  obtain ⟨fd, F⟩ := F
  exact ⟨f, fd, FunD.ok F S len fun cdv A outer s H vs Q E hr h => hbody cdv A outer s H vs Q E hr h, g, F.kp, F.bindsN hb⟩
theorem pe_cX {X : Cx} {j k : Nat} {x : Str} {ps : List Str} {sp : Sp} {E : XK} {p pos : Pos} {e : Expr} {es : List Expr} {t : TA} (c : CalX X.prog X.w X.K X.mg X.base k x ps sp) (hr : Room j X.A) (hk : k ≤ j) (hg : Gl X x) (hx : Passes (L2.CX X.prog X.w) X E) (ha : PA X (e :: es) t)
    (hdb : (x == ("__debug__" : Str)) = false := by decide) (he : starEach (e :: es) X.env = (false, eval e X.env) :: starEach es X.env := by rfl) (hpl : (backTo pos (starEach es X.env)).any (·.1) = false := by rfl) :
    PE X (.Call (.Name x p) (e :: es) [] pos) (tCall sp [] E t) := by
  obtain ⟨f, fd, F, hm, kp, b⟩ := c.ex
  exact pe_call F (hr.mono hk) hg hm kp b .nil hx ha hdb he hpl
theorem bad_end {H1 : Hp} {a dx : Addr} {o1 o2 o3 o4 : HO} (h : H1 a = none) (hd : dx ≠ a) : upd (del (upd (upd (upd H1 a o1) dx o2) a o3) a) dx o4 = upd H1 dx o4 := by
  funext b
  by_cases z : b = dx
  · rw [z, upd_same, upd_same]
  · rw [upd_ne z, upd_ne z]
    by_cases y : b = a
    · rw [y, del_same, h]
    · rw [del_ne y, upd_ne y, upd_ne z, upd_ne y]
/-- the exception's own dict -/
def badD : HO := .xd [(Str.ofString "what", .str (Str.ofString "form"))]
def spNeed (K : PySem.W.Frag) : Sp := fun vs H Q E => ∃ (F : Hp) (v : V) (b : Bd), vs = [v] ∧ Ex F H ∧ (bookMo K b).p F v ∧ BdOk b ∧
  (b.ts.isEmpty = false → ∀ F' H', Gr F H F' H' → Q .non H') ∧ (b.ts.isEmpty = true → ∀ F' H' d, Gr F H F' H' → H' d = none → E (.ref (bbC K)) (some d) (upd H' d badD))
theorem scNeedBook : FnScope ["thing", "wrong"] ["thing"] (defScope sNeedBook) := ⟨rfl, rfl, rfl, by decide +kernel, rfl, by decide +kernel, by decide +kernel⟩
theorem calNeedBook (T : Tx K mg) : CalX P w K mg base 6 "need_book" ["thing"] (spNeed K) :=
  calX_of (st := sNeedBook) (T.def_ 16 (d := Bk.dNeedBook) rfl) (T.glo 16) scNeedBook (fun _ _ _ _ _ _ us hl => match us, hl with | [_], _ => rfl) (fun vs H Q E ⟨_, _, _, e, _⟩ => by rw [e]; rfl) fun cdv A outer s H vs Q E hr h => by
    obtain ⟨b, _, _⟩ := T.bad
    obtain ⟨fdI, FI, bI⟩ := okBad (P := P) (w := w) (base := base) T
    refine ⟨_, (pss_cons (ps_if (pt_not (pt_val (C8.pe_c (calHasForm T) hr (by decide) rfl (pa_cons (pv 0) pa_nil)))) (pss_one (ps_raise rfl (takes_of rfl rfl rfl rfl) (pmk_oex b.oex b.ini b.tI FI (hr.mono (by decide)) bI .nil C8.pass0 rfl (T.glo 42) (pa_cons pe_str pa_nil)))) pss_nil)
      (pss_cons (ps_set (i := 1) scNeedBook.nd rfl (by first | exact Or.inl rfl | exact Or.inr rfl) (C8.pe_c (calWrongIn T) hr (by decide) rfl (pa_cons (pv 0) pa_nil)))
      (pss_one (ps_if (pt_cmpR op_ne (pv 1) pe_str (nomark _)) (pss_one ps_never) pss_nil)))), ?_⟩
    obtain ⟨F, v, bd, rfl, sF, hΦ, hb, h1, h2⟩ := h
    have r0 := relQ (K := K) (N := ["thing", "wrong"]) (by decide) sF hΦ
    have test : ∀ B, WE K B (tCall (spP K RhasForm) [] C8.E0 (tCons (tVar 0) tNil)) [.q (bookMo K bd), .n] (fun y ρ1 => y = .bool (!bd.ts.isEmpty) ∧ ρ1 = [.q (bookMo K bd), .n]) := fun B =>
      w_call <| wa_cons <| w_varB rfl <| wa_nil ⟨_, ⟨bd, rfl, hb, rfl⟩, rfl, rfl⟩
    cases e : bd.ts.isEmpty with
    | false =>
      refine (show S K ⟨fun _ => False, F, H, none⟩ _ [.q (bookMo K bd), .n] { nx := fun _ => True, rt := fun _ _ => False } from ?_) _ F H r0 _ ⟨fun σ' ρ' F' H' _ x r => h1 e F' H' r.out, fun _ _ _ _ _ _ z => z.elim, fun _ _ _ _ e => e.elim, fun _ _ _ _ e => e.elim⟩
      refine s_seq <| s_if <| wt_not <| wt_test <| (test _).mono fun y ρ1 ⟨e1, e2⟩ => ?_
      subst e1 e2
      rw [e]
      refine ⟨_, rfl, nofun, fun _ => s_next ?_⟩
      refine s_seq <| s_set <| w_callB rfl (y := .str (Str.ofString "")) ⟨hb, rfl⟩ ⟨rfl, ?_⟩
      exact s_if <| wt_test <| w_op <| w_var rfl <| w_str ⟨_, od_neS, _, rfl, fun q => absurd q (by decide +kernel), fun _ => s_next trivial⟩
    | true =>
      refine (test ⟨fun _ => False, F, H, none⟩) _ F H r0 _ fun u y ρ' F' H' ⟨e1, e2⟩ x d r' => ?_
      subst e1 e2
      rw [e] at d
      cases d
      refine ⟨false, rfl, ?_⟩
      refine ⟨by show 1 ≤ 1000; decide, fun a ha => ⟨a, _, rfl, upd_same, fun dx hdx ne => ⟨rfl, dx, [(Str.ofString "what", .str (Str.ofString "form"))], upd_same, ?_, ?_, ?_⟩⟩⟩
      · rw [upd_ne ne, upd_same]
      · rwa [upd_ne ne] at hdx
      · rw [upd_ne ne] at hdx
        have q := h2 e F' H' dx r'.out hdx
        rw [bad_end ha ne]
        exact q
end
end Bw
set_option Elab.async false
set_option linter.all false
set_option maxRecDepth 100000
set_option maxHeartbeats 2000000
/-! enumerate(l, start=k). -/
namespace Bw
open PySem PySem.Spec PyProof.Rows L2 Evl
section
variable {M : Model} {env : Env} {A : Around} {E : Value → Shared → Prop} {s : Shared}
theorem callWith_typeK {pos : Pos} {T : String} {args : List (Bool × Sem Value)} {kws : List (Option Str × Sem Value)} {Q : Value → Shared → Prop} (hplain : (args.any (·.1) || kws.any (·.1.isNone)) = false)
    (h : wpAny M A (evalArgs (.type T) true args kws) (fun a s₁ => wpAny M A (call (.type T) a.pos a.kw) Q E s₁) E s) :
    wpAny M A (callWith pos (.type T) [] args kws) Q E s := by
  unfold callWith
  refine wpAny_bind (wpAny_holding (wpAny_mono h (fun a s₁ h₁ => wpAny_bind (wpAny_standAt ?_)) fun _ _ x => x))
  simp only [hplain]
  refine wpAny_bind (wpAny_pure ?_)
  exact wpAny_bind (wpAny_mono h₁ (fun r s₂ hr => wpAny_bind (wpAny_holding (wpAny_point (wpAny_pure hr)))) fun _ _ x => x)
end
/-- the list at a as it stands at each turn, each item in a new pair behind its number from k on -/
def ItS (K : PySem.W.Frag) (k : Int) (a : Addr) : It :=
  ⟨fun i H => ∃ (xs : List V) (x : V), SqL K H a xs ∧ xs[i]? = some x, fun i H v H' => ∃ T x, v = .ref T ∧ H T = none ∧ H' = upd H T (.tup [.int (k + (i : Nat)), x]) ∧ ∀ xs, SqL K H a xs → xs[i]? = some x, fun i H => ∃ xs : List V, SqL K H a xs ∧ xs.length = i⟩
theorem turn_enumS {P : Program} {w : World} {K : PySem.W.Frag} {elts : List Expr} {kk : Nat} {tpos : Pos} (k : Int) (a e it : Addr) :
    Turn P w K (.Tuple elts kk tpos) (ItS K k a) [e, it] e (fun i h => (∃ old, IsEnum h e it (k + ((i : Nat) : Int)) old) ∧ h.IsListIter it a i ∧ e ≠ it) where
  mem := by simp
  obj := fun i h st b hb => by
    obtain ⟨⟨old, he⟩, ⟨o, ho, hc, hd⟩, _⟩ := st
    have e' : b = e ∨ b = it := by simpa using hb
    rcases e' with z | z
    · rw [z]; exact ⟨_, he, fun v q => nomatch q⟩
    · rw [z]; exact ⟨o, ho, fun v q => by rw [hd] at q; cases q⟩
  keep := fun i h h' st k => let ⟨⟨old, he⟩, hi, hne⟩ := st; ⟨⟨old, k e (by simp) _ he⟩, hi.at fun o q => k it (by simp) o q, hne⟩
  item := by
    intro X hP hw hK hc i pins s σ H E I hf st hg
    subst hP hw hK
    obtain ⟨⟨old, he⟩, hit, hne⟩ := st
    obtain ⟨xs, x, hq, hx⟩ := hg
    obtain ⟨its, rv, p, hz⟩ := I.list hq
    obtain ⟨u, hu, ru⟩ := rv.get hx
    have hel : e < s.heap.objs.size := Heap.lt_size he
    have hil : it < s.heap.objs.size := by obtain ⟨_, q, _⟩ := hit; exact Heap.lt_size q
    have hai : a ≠ it := fun z => by
      obtain ⟨o1, h1, h2, _⟩ := hit
      obtain ⟨o2, h3, h4, _⟩ := p.isList
      rw [z, h1] at h3
      cases h3
      rw [h2] at h4
      exact absurd h4 (by decide)
    have hae : e ≠ a := fun z => by
      obtain ⟨o2, h3, h4, _⟩ := p.isList
      rw [← z, he] at h3
      cases h3
      exact Value.noConfusion h4 fun z => absurd z (by decide)
    have hd : X.A.handled = none := I.ok.hd hc
    have hil' : i < its.toArray.size := by
      rw [List.size_toArray]
      exact (List.getElem?_eq_some_iff.mp hu).1
    refine wpAny_pyNext_enum_itemC (Draws.list (A := X.A.in1) (show X.A.in1.handled = none from hd) it a hai its.toArray) he ⟨hit, p.isList⟩ hil' hne (by simp [hne, hae]) fun x' h' tk hx' ho hst' hT hsz hk => ?_
    have ex : x' = u := by
      have z : its[i]? = some x' := by simpa using hx'
      rw [hu] at z
      exact (Option.some.inj z).symm
    subst ex
    refine ⟨_, rfl, wpAny_letOwnedTupleGo_enum (s := { s with heap := h', toks := tk + 1 }) ho fun h'' he' sb => ?_⟩
    have hT2 : h''.get? s.heap.objs.size = some { cls := .type "tuple", data := .seq #[.int (k + i) tk, x'] } := (sb.2 _ (Nat.ne_of_gt hel)).trans hT
    have new : ObjOk X.prog X.w (upd H s.heap.objs.size (.tup [.int (k + (i : Nat)), x])) h'' s.heap.objs.size (.tup [.int (k + (i : Nat)), x]) :=
      ⟨by show 2 ≤ sizeLine; decide, [.int (k + i) tk, x'], .cons ⟨_, rfl⟩ (.cons ru .nil), ⟨_, hT2, rfl, _, rfl⟩⟩
    have I1 : Inv X pins σ (upd H s.heap.objs.size (.tup [.int (k + (i : Nat)), x])) { s with heap := h'', toks := tk + 1 } :=
      I.turnedNew (ch := [e, it]) (fun b ob hb q => (sb.2 b (fun z => hb (by simp [z]))).trans (hk b ob (fun z => hb (by simp [z])) (fun z => hb (by simp [z])) q)) hf (Nat.le_refl _) new
    refine ⟨.ref s.heap.objs.size, _, I1, rfl, ⟨_, x, rfl, I.hok.fresh (Nat.le_refl _), rfl, fun ys hy => by rw [I.list_inj hy hq]; exact hx⟩, ⟨⟨x', ?_⟩, hst'.1.at fun o q => (sb.2 it (Ne.symm hne)).trans q, hne⟩, fun b hb => ?_⟩
    · have e1 : k + ((i + 1 : Nat) : Int) = k + (i : Int) + 1 := by omega
      rw [e1]; exact he'
    · have hb' : b < s.heap.objs.size := by
        have e' : b = e ∨ b = it := by simpa using hb
        rcases e' with z | z
        · rw [z]; exact hel
        · rw [z]; exact hil
      rw [upd_ne (Nat.ne_of_lt hb')]
      exact (hf b hb).1
  done := by
    intro X hP hw hK hc i pins s σ H E I hf st hg
    subst hP hw hK
    obtain ⟨⟨old, he⟩, hit, hne⟩ := st
    obtain ⟨xs, hq, hx⟩ := hg
    obtain ⟨its, rv, p, hz⟩ := I.list hq
    obtain ⟨f0, f1, f2, f3, f4, f5⟩ := hf it (by simp)
    have hl := rv.length
    have hai : a ≠ it := fun z => by
      obtain ⟨o1, h1, h2, _⟩ := hit
      obtain ⟨o2, h3, h4, _⟩ := p.isList
      rw [z, h1] at h3
      cases h3
      rw [h2] at h4
      exact absurd h4 (by decide)
    have hd : X.A.handled = none := I.ok.hd hc
    have hn : i = its.toArray.size := by rw [List.size_toArray]; omega
    subst hn
    exact wpAny_pyNext_enum_endD (Draws.list (A := X.A.in1) (show X.A.in1.handled = none from hd) it a hai its.toArray) he ⟨hit, p.isList⟩ fun h' eb => ⟨rfl, I.turned (t' := s.toks) (fun b o hb q => eb b o hb q) f0 f1 f3 f4 f5⟩
  self := fun A i s Q E st h => let ⟨⟨_, he⟩, _⟩ := st; wpAny_pyIter_enum he h
def iEnumS (K : PySem.W.Frag) (k : Int) (ta : TA) : TI := fun σ H R => ta σ H fun vs H1 => ∃ a xs, vs = [.ref a] ∧ SqL K H1 a xs ∧ R (ItS K k a) H1
theorem pi_enumS {X : Cx} {e : Expr} {ta : TA} {p pos tpos kp kq : Pos} {elts : List Expr} {kk kj : Nat} {k : Int} (hk1 : -(2 ^ 63) ≤ k) (hk2 : k < 2 ^ 63) (hg : Gl X "enumerate") (hm : X.mg "enumerate" = none) (ha : PA X [e] ta) (hs : starEach [e] X.env = (false, eval e X.env) :: starEach [] X.env := by rfl)
    (hall : (backToKw pos (keywordEach [⟨some (Str.ofString "start"), .Constant (.int k) kj kq, kp⟩] X.env)).all (·.1.isSome) = true := by rfl)
    (hks : (backToKw pos (keywordEach [⟨some (Str.ofString "start"), .Constant (.int k) kj kq, kp⟩] X.env)).filterMap (·.1) = [Str.ofString "start"] := by rfl)
    (hpl : ((backTo pos (starEach [e] X.env)).any (·.1) || (backToKw pos (keywordEach [⟨some (Str.ofString "start"), .Constant (.int k) kj kq, kp⟩] X.env)).any (·.1.isNone)) = false := by rfl) :
    PI X (.Tuple elts kk tpos) (.Call (.Name "enumerate" p) [e] [⟨some (Str.ofString "start"), .Constant (.int k) kj kq, kp⟩] pos) (iEnumS X.K k ta) := by
  refine ⟨fun pins s σ H R I h => ?_⟩
  refine wpAny_Call_Name_kw (ld_blt I hg hm boot_enumerate ?_)
  refine callWith_typeK hpl (PyProof.Rows.evalArgs_kw2 hall (thn (ha.run pos pins s σ H _ I h) fun us s1 ⟨vs, H1, I1, r1, q1⟩ => ?_) hs)
  obtain ⟨a, xs, ex, hq, q⟩ := q1
  subst ex
  obtain ⟨u, eu, ru⟩ := vals1 r1
  subst eu
  obtain rfl : u = Value.ref a := ru
  have kw := (pk_cons (nm := some (Str.ofString "start")) (kpos := kp) (pe_int (X := X) (i := k) (j := kj) (pos := kq)) pk_nil).run pos pins s1 σ H1 (fun zs H2 => zs = [.int k] ∧ H2 = H1) I1 ⟨rfl, rfl⟩
  refine thn kw fun ks s2 ⟨zs, H2, I2, rz, ez, eH⟩ => ?_
  subst ez eH
  obtain ⟨w, ew, t, rw'⟩ := vals1 rz
  subst ew rw'
  rw [hks]
  obtain ⟨its, rv, p', hz⟩ := I2.list hq
  refine enum_begins_start (begins_list a its.toArray) p'.isList hk1 hk2 fun h' he hit hsz hk => wpAny_pyIter_enum he ?_
  have I3 : Inv X pins σ H2 { s2 with heap := h' } := I2.kept (t' := s2.toks) hk
  refine ⟨s2.heap.objs.size + 1, [s2.heap.objs.size + 1, s2.heap.objs.size], _, _, H2, rfl, I3, turn_enumS k a (s2.heap.objs.size + 1) s2.heap.objs.size, ⟨⟨.none, by rw [show k + ((0 : Nat) : Int) = k by omega]; exact he⟩, ⟨_, hit, rfl, rfl⟩, Nat.succ_ne_self _⟩, fun b hb => ?_, q⟩
  have e' : b = s2.heap.objs.size + 1 ∨ b = s2.heap.objs.size := by simpa using hb
  have hle : s2.heap.objs.size ≤ b := by
    rcases e' with z | z
    · rw [z]; exact Nat.le_add_right _ _
    · rw [z]; exact Nat.le_refl _
  exact I2.fpOk hle (I2.hok.fresh hle)
theorem walk_enumS {K : PySem.W.Frag} {a : Addr} {xs : List V} {k : Int} : Walk (ItS K k a) xs.length (fun H => SqL K H a xs) (YPair (fun i => some (.int (k + (i : Nat)))) (fun i => xs[i]?)) := by
  refine ⟨fun i _ hi q => ⟨xs, xs[i], q, by simp [hi]⟩, fun _ q => ⟨xs, q, rfl⟩, fun i H v H' _ q y => ?_⟩
  obtain ⟨T, x, h1, h2, h3, h4⟩ := y
  exact ⟨T, .int (k + (i : Nat)), x, h1, h2, h3, rfl, h4 xs q⟩
end Bw
set_option Elab.async false
set_option linter.all false
set_option maxRecDepth 100000
set_option maxHeartbeats 2000000
/-! The rows of a book, read one by one. -/
namespace Bw
open PySem PySem.Spec L2 Evl
/-- a row: its sort, its words, what it says -/
abbrev RE := Nat × List Str × Pd
def teR (t : Tk) : RE := (2, taskWords t, pT t)
def rowsD (b : Bd) : List RE := b.ms.map (fun m => ((0, machWords m, .str m) : RE)) ++ (b.gs.map (fun p => ((1, goodWords p, pN p) : RE)) ++ (b.ts.map teR ++ (b.ws.map (fun p => ((3, waitWords b.ts p, pW p) : RE)) ++ b.fx.map (fun p => ((4, fixWords b.ts p, pF p) : RE)))))
theorem rowsD_words (b : Bd) : (rowsD b).map (fun e => e.2.1) = rowsW b := by
  unfold rowsD rowsW teR
  simp only [List.map_append, List.map_map]
  rfl
def pt (l : List RE) (j : Nat) : List Pd := (l.filter fun e => decide (e.1 = j)).map fun e => e.2.2
def partsOf (l : List RE) : List (List Pd) := [pt l 0, pt l 1, pt l 2, pt l 3, pt l 4]
def lastOf (l : List RE) : Nat := (l.getLast?.map fun e => e.1).getD 0
def nT (l : List RE) : Nat := (pt l 2).length
def numD (ts : List Tk) (n : Nat) : List (L2.Key × Pd) := (ts.take n).zipIdx.map fun p => (.inr p.1.name, .int (p.2 : Nat))
def fOf (ts : List Tk) (n : Nat) : L2.Key → Option Pd := dfold (fun _ => none) (numD ts n)
theorem pt_app (l : List RE) (e : RE) (j : Nat) : pt (l ++ [e]) j = if e.1 = j then pt l j ++ [e.2.2] else pt l j := by
  unfold pt
  rw [List.filter_append, List.map_append]
  by_cases h : e.1 = j
  · rw [if_pos h]; simp [h]
  · rw [if_neg h]; simp [h]
theorem parts_at (l : List RE) {j : Nat} (h : j < 5) : (partsOf l)[j]? = some (pt l j) := by
  have key : ∀ k : Fin 5, (partsOf l)[k.val]? = some (pt l k.val) := fun k => match k with
    | 0 => rfl | 1 => rfl | 2 => rfl | 3 => rfl | 4 => rfl
  exact key ⟨j, h⟩
theorem parts_app (l : List RE) (e : RE) (h : e.1 < 5) : (partsOf l).set e.1 (pt l e.1 ++ [e.2.2]) = partsOf (l ++ [e]) := by
  obtain ⟨j, ws, y⟩ := e
  have key : ∀ k : Fin 5, (partsOf l).set k.val (pt l k.val ++ [y]) = partsOf (l ++ [(k.val, ws, y)]) := fun k => by
    unfold partsOf
    simp only [pt_app]
    match k with
    | 0 => rfl
    | 1 => rfl
    | 2 => rfl
    | 3 => rfl
    | 4 => rfl
  exact key ⟨j, h⟩
theorem last_app (l : List RE) (e : RE) : lastOf (l ++ [e]) = e.1 := by unfold lastOf; simp
theorem pt_all (b : Bd) : partsOf (rowsD b) = [b.ms.map .str, b.gs.map pN, b.ts.map pT, b.ws.map pW, b.fx.map pF] := by
  have key : ∀ {α : Type} (xs : List α) (k j : Nat) (f : α → List Str × Pd), pt (xs.map fun x => ((k, f x) : RE)) j = if k = j then xs.map fun x => (f x).2 else [] := fun {α} xs k j f => by
    unfold pt
    by_cases h : k = j
    · rw [if_pos h, List.filter_eq_self.mpr fun e he => by
        obtain ⟨x, _, rfl⟩ := List.mem_map.mp he
        exact decide_eq_true h, List.map_map]
      rfl
    · rw [if_neg h, List.filter_eq_nil_iff.mpr fun e he => by
        obtain ⟨x, _, rfl⟩ := List.mem_map.mp he
        simpa using h]
      rfl
  have app : ∀ (l m : List RE) (j : Nat), pt (l ++ m) j = pt l j ++ pt m j := fun l m j => by unfold pt; rw [List.filter_append, List.map_append]
  have r : ∀ j, pt (rowsD b) j = (if 0 = j then b.ms.map .str else []) ++ ((if 1 = j then b.gs.map pN else []) ++ ((if 2 = j then b.ts.map pT else []) ++ ((if 3 = j then b.ws.map pW else []) ++ (if 4 = j then b.fx.map pF else [])))) := fun j => by
    unfold rowsD
    rw [app, app, app, app, key b.ms 0 j fun m => (machWords m, .str m), key b.gs 1 j fun p => (goodWords p, pN p), show b.ts.map teR = b.ts.map fun t => ((2, taskWords t, pT t) : RE) from rfl, key b.ts 2 j fun t => (taskWords t, pT t), key b.ws 3 j fun p => (waitWords b.ts p, pW p), key b.fx 4 j fun p => (fixWords b.ts p, pF p)]
  unfold partsOf
  rw [r, r, r, r, r]
  simp
theorem rows_sorted (b : Bd) : (rowsD b).Pairwise fun x y => x.1 ≤ y.1 := by
  have c : ∀ {α : Type} (xs : List α) (k : Nat) (f : α → List Str × Pd), (xs.map fun x => ((k, f x) : RE)).Pairwise fun x y => x.1 ≤ y.1 := fun xs k f => by
    induction xs with
    | nil => exact .nil
    | cons x xs ih => exact .cons (fun y hy => by obtain ⟨z, _, rfl⟩ := List.mem_map.mp hy; exact Nat.le_refl _) ih
  have m : ∀ {α : Type} (xs : List α) (k : Nat) (f : α → List Str × Pd) (e : RE), e ∈ (xs.map fun x => ((k, f x) : RE)) → e.1 = k := fun xs k f e he => by
    obtain ⟨z, _, rfl⟩ := List.mem_map.mp he
    rfl
  unfold rowsD
  refine List.pairwise_append.mpr ⟨c b.ms 0 fun m => (machWords m, .str m), List.pairwise_append.mpr ⟨c b.gs 1 fun p => (goodWords p, pN p), List.pairwise_append.mpr ⟨c b.ts 2 fun t => (taskWords t, pT t), List.pairwise_append.mpr ⟨c b.ws 3 fun p => (waitWords b.ts p, pW p), c b.fx 4 fun p => (fixWords b.ts p, pF p), ?_⟩, ?_⟩, ?_⟩, ?_⟩
  · intro x hx y hy
    have h1 := m b.ws 3 (fun p => (waitWords b.ts p, pW p)) x hx
    have h2 := m b.fx 4 (fun p => (fixWords b.ts p, pF p)) y hy
    omega
  · intro x hx y hy
    have h1 := m b.ts 2 (fun t => (taskWords t, pT t)) x hx
    rcases List.mem_append.mp hy with hy | hy
    · have h2 := m b.ws 3 (fun p => (waitWords b.ts p, pW p)) y hy
      omega
    · have h2 := m b.fx 4 (fun p => (fixWords b.ts p, pF p)) y hy
      omega
  · intro x hx y hy
    have h1 := m b.gs 1 (fun p => (goodWords p, pN p)) x hx
    rcases List.mem_append.mp hy with hy | hy
    · have h2 := m b.ts 2 (fun t => (taskWords t, pT t)) y hy
      omega
    rcases List.mem_append.mp hy with hy | hy
    · have h2 := m b.ws 3 (fun p => (waitWords b.ts p, pW p)) y hy
      omega
    · have h2 := m b.fx 4 (fun p => (fixWords b.ts p, pF p)) y hy
      omega
  · intro x hx y hy
    have h1 := m b.ms 0 (fun m => (machWords m, .str m)) x hx
    omega
/-- what a row's step asks -/
structure StepOk (b : Bd) (l : List RE) (e : RE) : Prop where
  row : RowBy (fOf b.ts (nT l)) e.2.1 e.2.2
  sort : e.1 < 5
  w0 : ∃ w0, e.2.1[0]? = some w0 ∧ sortW[e.1]? = some w0
  up : lastOf l ≤ e.1
  few : l.length ≤ 130
  num : (e.1 ≠ 2 ∧ nT (l ++ [e]) = nT l) ∨ (e.1 = 2 ∧ nT (l ++ [e]) = nT l + 1 ∧ ∃ w, e.2.1[1]? = some w ∧ fOf b.ts (nT l) (.inr w) = none ∧ fOf b.ts (nT l + 1) = dputD (fOf b.ts (nT l)) (.inr w, .int (nT l : Nat)))
theorem f_none {ts : List Tk} {n : Nat} {w : Str} (h : ∀ t ∈ ts.take n, t.name ≠ w) : fOf ts n (.inr w) = none := by
  unfold fOf
  rw [dfold_out fun q hq => ?_]
  unfold numD at hq
  obtain ⟨p, hp, rfl⟩ := List.mem_map.mp hq
  have := h p.1 (List.mem_of_getElem? (List.mem_zipIdx_iff_getElem?.mp hp))
  intro z
  exact this (Sum.inr.inj z)
theorem f_some {ts : List Tk} {n i : Nat} {t : Tk} (nd : (ts.map (·.name)).Nodup) (h : ts[i]? = some t) (hi : i < n) : fOf ts n (.inr t.name) = some (.int (i : Nat)) := by
  unfold fOf
  have e : (ts.take n)[i]? = some t := by rw [List.getElem?_take, if_pos hi]; exact h
  refine dfold_in ?_ ?_
  · have q : (numD ts n).map (·.1) = (ts.take n).map fun t => (.inr t.name : L2.Key) := by
      unfold numD
      rw [List.map_map]
      have : ((fun x : L2.Key × Pd => x.1) ∘ fun p : Tk × Nat => ((.inr p.1.name, .int (p.2 : Nat)) : L2.Key × Pd)) = (fun t : Tk => (.inr t.name : L2.Key)) ∘ Prod.fst := rfl
      rw [this, ← List.map_map]
      simp
    rw [q]
    have nd2 : ((ts.take n).map (·.name)).Nodup := by
      exact List.Sublist.nodup ((List.take_sublist n ts).map _) nd
    have q2 : (ts.take n).map (fun t => (.inr t.name : L2.Key)) = ((ts.take n).map (·.name)).map Sum.inr := by rw [List.map_map]; rfl
    rw [q2]
    refine List.Pairwise.map _ (fun a b h z => h (Sum.inr.inj z)) nd2
  · unfold numD
    exact List.mem_map.mpr ⟨(t, i), List.mem_zipIdx_iff_getElem?.mpr e, rfl⟩
theorem f_succ {ts : List Tk} {n : Nat} {t : Tk} (h : ts[n]? = some t) : fOf ts (n + 1) = dputD (fOf ts n) (.inr t.name, .int (n : Nat)) := by
  have hlt := (List.getElem?_eq_some_iff.mp h).1
  have e : numD ts (n + 1) = numD ts n ++ [(.inr t.name, .int (n : Nat))] := by
    unfold numD
    rw [List.take_succ_eq_append_getElem hlt, List.zipIdx_append, List.map_append, List.length_take, Nat.min_eq_left (Nat.le_of_lt hlt)]
    have := (List.getElem?_eq_some_iff.mp h).2
    simp [this]
  unfold fOf dfold
  rw [e, List.foldl_append]
  rfl
theorem step_ok {b : Bd} (hb : BdOk b) {l : List RE} {e : RE} {rest : List RE} (h : rowsD b = l ++ e :: rest) : StepOk b l e := by
  have srt := rows_sorted b
  rw [h] at srt
  obtain ⟨s1, s2, s3⟩ := List.pairwise_append.mp srt
  have up : lastOf l ≤ e.1 := by
    unfold lastOf
    cases q : l.getLast? with
    | none => exact Nat.zero_le _
    | some x => exact s3 x (List.mem_of_getLast? q) e List.mem_cons_self
  have few : l.length ≤ 130 := by
    have := rows_few hb
    rw [← rowsD_words, List.length_map, h, List.length_append] at this
    omega
  have hm : e ∈ rowsD b := by rw [h]; simp
  have p2 : pt (rowsD b) 2 = b.ts.map pT := by
    have := parts_at (rowsD b) (j := 2) (by decide)
    rw [pt_all] at this
    exact (Option.some.inj this).symm
  have appc : ∀ (l m : List RE) (j : Nat), pt (l ++ m) j = pt l j ++ pt m j := fun l m j => by unfold pt; rw [List.filter_append, List.map_append]
  have nTa : nT (l ++ [e]) = if e.1 = 2 then nT l + 1 else nT l := by
    unfold nT
    rw [pt_app]
    split
    · rw [List.length_append]; rfl
    · rfl
  -- behind the tasks every name is known
  have late : 2 < e.1 → nT l = b.ts.length := fun lt => by
    have z : pt (e :: rest) 2 = [] := by
      unfold pt
      rw [List.filter_eq_nil_iff.mpr fun x hx => ?_]
      · rfl
      · have : e.1 ≤ x.1 := by
          rcases List.mem_cons.mp hx with hx | hx
          · rw [hx]; exact Nat.le_refl _
          · exact (List.pairwise_cons.mp s2).1 x hx
        simp
        omega
    rw [h, appc, z, List.append_nil] at p2
    unfold nT
    rw [p2, List.length_map]
  unfold rowsD at hm
  rcases List.mem_append.mp hm with hm | hm
  · obtain ⟨m, h1, rfl⟩ := List.mem_map.mp hm
    exact ⟨.mach (hb.ms.2.1 m h1), (by decide : 0 < 5), ⟨_, rfl, rfl⟩, up, few, .inl ⟨(by decide : 0 ≠ 2), nTa⟩⟩
  rcases List.mem_append.mp hm with hm | hm
  · obtain ⟨p, h1, rfl⟩ := List.mem_map.mp hm
    have := hb.gs.2.1 p h1
    exact ⟨.good this.1 this.2.2, (by decide : 1 < 5), ⟨_, rfl, rfl⟩, up, few, .inl ⟨(by decide : 1 ≠ 2), nTa⟩⟩
  have kn : 2 < e.1 → ∀ (i : Nat) (t : Tk), b.ts[i]? = some t → fOf b.ts (nT l) (.inr t.name) = some (.int (i : Nat)) := fun lt i t ht => by
    rw [late lt]
    exact f_some hb.ts.2.2 ht (List.getElem?_eq_some_iff.mp ht).1
  rcases List.mem_append.mp hm with hm | hm
  · obtain ⟨t, h1, rfl⟩ := List.mem_map.mp hm
    have tk := (hb.ts.2.1 t h1).form
    rw [h, appc] at p2
    have q0 : pt (teR t :: rest) 2 = pT t :: pt rest 2 := by
      unfold pt
      rw [List.filter_cons_of_pos (by rfl), List.map_cons]
      rfl
    rw [q0] at p2
    have q1 : (b.ts.map pT)[nT l]? = some (pT t) := by
      rw [← p2]
      unfold nT
      rw [List.getElem?_append_right (Nat.le_refl _), Nat.sub_self]
      rfl
    rw [List.getElem?_map] at q1
    cases q2 : b.ts[nT l]? with
    | none => rw [q2] at q1; cases q1
    | some t' =>
      rw [q2] at q1
      have q3 : pT t' = pT t := Option.some.inj q1
      have q4 : t'.name = t.name := PyData.str.inj (List.cons.inj (PyData.tuple.inj q3)).1
      have lt := (List.getElem?_eq_some_iff.mp q2).1
      have fn : fOf b.ts (nT l) (.inr t.name) = none := f_none fun u hu z => by
        obtain ⟨k, hk⟩ := List.mem_iff_getElem?.mp hu
        rw [List.getElem?_take] at hk
        split at hk
        · rename_i hk2
          have e1 : (b.ts.map (·.name))[k]? = some t.name := by rw [List.getElem?_map, hk, ← z]; rfl
          have e2 : (b.ts.map (·.name))[nT l]? = some t.name := by rw [List.getElem?_map, q2, ← q4]; rfl
          have := (List.getElem?_inj (by rw [List.length_map]; omega) hb.ts.2.2).mp (e1.trans e2.symm)
          omega
        · cases hk
      refine ⟨.task tk, (by decide : 2 < 5), ⟨_, rfl, rfl⟩, up, few, .inr ⟨rfl, nTa, t.name, rfl, fn, ?_⟩⟩
      rw [f_succ q2, q4]
  rcases List.mem_append.mp hm with hm | hm
  · obtain ⟨p, h1, rfl⟩ := List.mem_map.mp hm
    obtain ⟨a1, a2, a3⟩ := hb.ws.2 p h1
    have e1 : b.ts[p.1]? = some (b.ts[p.1]'(by omega)) := List.getElem?_eq_getElem (by omega)
    have e2 : b.ts[p.2.1]? = some (b.ts[p.2.1]'a2) := List.getElem?_eq_getElem a2
    refine ⟨?_, (by decide : 3 < 5), ⟨_, rfl, rfl⟩, up, few, .inl ⟨(by decide : 3 ≠ 2), nTa⟩⟩
    refine .wait (i := p.1) (j := p.2.1) (g := p.2.2) ?_ ?_ a3
    · rw [nameAt_eq e1]; exact kn (by decide : 2 < 3) _ _ e1
    · rw [nameAt_eq e2]; exact kn (by decide : 2 < 3) _ _ e2
  · obtain ⟨p, h1, rfl⟩ := List.mem_map.mp hm
    obtain ⟨a1, t, a2, a3⟩ := hb.fx.2.1 p h1
    refine ⟨?_, (by decide : 4 < 5), ⟨_, rfl, rfl⟩, up, few, .inl ⟨(by decide : 4 ≠ 2), nTa⟩⟩
    refine .fixed (i := p.1) (h := p.2) ?_ a1
    rw [nameAt_eq a2]; exact kn (by decide : 2 < 4) _ _ a2
theorem step_at {b : Bd} (hb : BdOk b) {i : Nat} {e : RE} (h : (rowsD b)[i]? = some e) : StepOk b ((rowsD b).take i) e ∧ (rowsD b).take (i + 1) = (rowsD b).take i ++ [e] := by
  obtain ⟨hi, he⟩ := List.getElem?_eq_some_iff.mp h
  refine ⟨step_ok hb (rest := (rowsD b).drop (i + 1)) ?_, by rw [List.take_succ_eq_append_getElem hi, he]⟩
  have e1 : (rowsD b).drop i = e :: (rowsD b).drop (i + 1) := by rw [List.drop_eq_getElem_cons hi, he]
  rw [← e1, List.take_append_drop]
end Bw
set_option Elab.async false
set_option linter.all false
set_option maxRecDepth 100000
set_option maxHeartbeats 2000000
namespace Bw
open PySem PySem.Spec L2 Evl
open Bk (sBookOf)
theorem call_tupleZK {X : Cx} {K : PySem.W.Frag} (h : X.K = K) : CallR X (.type "tuple") (rTupZ K) := by
  subst h
  exact call_tupleZ
theorem pe_mk0 {X : Cx} {j k : Nat} {C : Addr} {x : Str} {sp : Sp} {p pos : Pos} (c : C8.Mak X.prog X.w X.K X.mg X.base k x C sp []) (hr : Room j X.A) (hk : k + 1 ≤ j) (hg : Gl X x) (hdb : (x == ("__debug__" : Str)) = false := by decide) : PE X (.Call (.Name x p) [] [] pos) (tMake C sp [] C8.E0 tNil) := by
  obtain ⟨f, fd, ps, ds, M, F, hm, b, d⟩ := c.ex
  exact pe_make0 M F (hr.mono hk) hg hm b d C8.pass0 hdb
section
variable {P : Program} {w : World} {K : PySem.W.Frag} {mg : Str → Option Value} {base : Heap}
theorem Gr.thenX {A : Addr → Prop} {F H F1 H1 F2 H2 : Hp} (a : Gr F H F1 H1) (b : GrX A F1 H1 F2 H2) (h : ∀ x, A x → H x = none) : Gr F H F2 H2 :=
  ⟨a.f.trans b.f, fun x o e => b.h x o (fun z => by rw [h x z] at e; cases e) (a.h x o e), b.s, fun x h1 h2 => b.o x (a.o x h1 h2) (ex_ne a.h h2)⟩
theorem Gr.beside {F H F' H' : Hp} {D : Addr} {o : HO} (g : Gr F H F' H') (fD : F' D = none) (hD : H D = none) : Gr F H F' (upd H' D o) :=
  ⟨g.f, fun a u e => by rw [upd_ne (ne_of_none e hD)]; exact g.h a u e, fun a u e => by rw [upd_ne (ne_of_none e fD)]; exact g.s a u e, g.o⟩
theorem da_of_get {F : Hp} : ∀ {vs : List V} {ds : List Pd}, vs.length = ds.length → (∀ (j : Nat) (v : V) (d : Pd), vs[j]? = some v → ds[j]? = some d → Dp K F v d) → DpAll K F vs ds
  | [], [], _, _ => .nil
  | [], _ :: _, h, _ => by cases h
  | _ :: _, [], h, _ => by cases h
  | v :: vs, d :: ds, h, k => .cons (k 0 v d rfl rfl) (da_of_get (Nat.succ.inj h) fun j v' d' h1 h2 => k (j + 1) v' d' (by simpa using h1) (by simpa using h2))
def spBookOf (K : PySem.W.Frag) : Sp := fun vs H Q E => ∃ (F : Hp) (b : Bd), vs = [.str (textOf (rowsW b))] ∧ Ex F H ∧ BdOk b ∧ rowsW b ≠ [] ∧
  (b.ts.isEmpty = false → ∀ v F' H', Gr F H F' H' → Dp K F' v (pB b) → Q v H') ∧ (b.ts.isEmpty = true → ∀ F' H' d, Gr F H F' H' → H' d = none → E (.ref (bbC K)) (some d) (upd H' d badD))
theorem scBookOf : FnScope ["text", "reading", "number", "row", "book", "part"] ["text"] (defScope sBookOf) := ⟨rfl, rfl, rfl, by decide +kernel, rfl, by decide +kernel, by decide +kernel⟩
theorem split_rows {b : Bd} (hb : BdOk b) {i : Nat} {e : RE} (h : (rowsD b)[i]? = some e) : ((rowsW b).map rowT)[i]? = some (rowT e.2.1) ∧ RwOk e.2.1 := by
  have q : (rowsW b)[i]? = some e.2.1 := by rw [← rowsD_words, List.getElem?_map, h]; rfl
  exact ⟨by rw [List.getElem?_map, q]; rfl, rows_ok hb _ (List.mem_of_getElem? q)⟩
theorem calBookOf (T : Tx K mg) : CalX P w K mg base 7 "book_of" ["text"] (spBookOf K) :=
  calX_of (st := sBookOf) (T.def_ 23 (d := Bk.dBookOf) rfl) (T.glo 23) scBookOf (fun _ _ _ _ _ _ us hl => match us, hl with | [_], _ => rfl) (fun vs H Q E ⟨_, _, e, _⟩ => by rw [e]; rfl) fun cdv A outer s H vs Q E hr h => ⟨_, (pss_cons (ps_if (pt_not (pt_val (pe_callB (id := "isinstance") call_isi rfl (T.fr 53) (by decide +kernel) (pa_cons (pv 0) (pa_cons (pe_bltn (v := .ty "str") rfl (T.fr 61) (by decide +kernel) rfl) pa_nil))))) (pss_one ps_never) pss_nil)
      (pss_cons (ps_set (i := 1) scBookOf.nd rfl (by first | exact Or.inl rfl | exact Or.inr rfl) (Bw.pe_mk0 (makReading T) hr (by decide) rfl))
      (pss_cons (ps_for (passes_of rfl) rfl (Bw.pi_enumS (k := 1) (by decide) (by decide) rfl (T.fr 63) (pa_cons (pe_split (pv 0) pe_str) pa_nil)) (pg_tup rfl (pgs_cons (pg_name (i := 2) scBookOf.nd rfl (by first | exact Or.inl rfl | exact Or.inr rfl)) (pgs_cons (pg_name (i := 3) scBookOf.nd rfl (by first | exact Or.inl rfl | exact Or.inr rfl)) pgs_nil))) (pss_one (ps_expr (C8.pe_mt (metTake T) hr (by decide) (pv 1) (pa_cons (pe_split (pv 3) pe_str) (pa_cons (pv 2) pa_nil))))))
      (pss_cons (ps_set (i := 4) scBookOf.nd rfl (by first | exact Or.inl rfl | exact Or.inr rfl) (pe_callTy (T := "tuple") (Bw.call_tupleZK (K := K) rfl) rfl (T.fr 64) (by decide +kernel) (pa_cons (pe_lc (own := [("part", 5)]) (g := gName 5) rfl scBookOf.nd (pi_list (pe_fld (pv 1) rfl)) (blkOk_by (own := [("part", 5)]) (N := ["text", "reading", "number", "row", "book", "part"]) (sc := (defScope sBookOf)) (by decide +kernel)) (fun _ _ _ _ _ => (pg_name (i := 5) scBookOf.nd rfl (by first | exact Or.inl rfl | exact Or.inr rfl))) (fun _ _ _ _ _ => pts_nil) (fun _ _ _ _ _ => (pe_callTy (T := "tuple") (Bw.call_tupleZK (K := K) rfl) rfl (T.fr 64) (by decide +kernel) (pa_cons (pv 5) pa_nil)))) pa_nil)))
      (pss_cons (ps_expr (Bw.pe_cX (calNeedBook T) hr (by decide) rfl (passes_call (takes_of rfl rfl rfl rfl) (fun _ _ _ _ h => h)) (pa_cons (pv 4) pa_nil)))
      (pss_one (ps_ret (pv 4)))))))), by
    obtain ⟨F, b, rfl, sF, hb, hne, fin1, fin2⟩ := h
    have cl := T.cls 86
    -- it is a text
    refine ⟨_, rfl, ?_⟩
    refine ⟨.str (textOf (rowsW b)), .ty "str", .type "str", .type "str", true, rfl, .ty "str", .base (.str _), kit_ty (by decide +kernel), true, rfl, ?_⟩
    refine fun x dx hx hdx nxd => ?_
    have hF1 : Ex F (upd (upd H dx (.own x)) x (.ins (rdC K) dx [])) := fun a o e => by
      rw [upd_ne (ne_of_none e (none_of sF hx)), upd_ne (ne_of_none e (none_of sF hdx))]
      exact sF a o e
    refine ⟨F, x, dx, rfl, hF1, upd_same, by rw [upd_ne nxd, upd_same], none_of sF hx, none_of sF hdx, fun H1 r rx rdx k1 R1 new1 => ⟨rfl, ?_⟩⟩
    have newA : ∀ a, r.A a → H a = none := fun a ha => by
      rcases new1 a ha with z | z | z
      · rw [z]; exact hx
      · rw [z]; exact hdx
      · by_cases z1 : a = x
        · rw [z1]; exact hx
        · rw [upd_ne z1] at z
          by_cases z2 : a = dx
          · rw [z2]; exact hdx
          · rw [upd_ne z2] at z; exact z
    have g1 : Gr F H F H1 := ⟨Ex.refl _, fun a o e => k1 a o (fun z => by rw [z, hx] at e; cases e) (by rw [upd_ne (fun z => by rw [z, hx] at e; cases e), upd_ne (fun z => by rw [z, hdx] at e; cases e)]; exact e), R1.sub, fun a e _ => e⟩
    -- the rows
    have hfew := rows_few hb
    have hrow := rows_ok hb
    have hlen := text_len hrow hfew
    refine ⟨_, rfl, ⟨_, rfl⟩, ?_⟩
    have hl2 : (textOf (rowsW b)).length + 2 ≤ sizeLine := Nat.le_trans (show _ ≤ 100000 by omega) (by decide)
    refine md_split (K := K) (a := textOf (rowsW b)) (b := Str.ofString "\n") (by decide +kernel) hl2 F H1 _ _ R1.sub (.str _) (.cons (.str _) .nil) _ fun wl F2 H2 g2 d2 => ?_
    rw [text_split hne hrow] at d2
    cases d2 with
    | lst hs ha =>
      rename_i a us
      have eu : us = ((rowsW b).map rowT).map V.str := strs_of ha
      subst eu
      have R2 := R1.gr g2
      have gg2 : Gr F H F2 H2 := g1.trans g2
      refine ⟨a, _, rfl, ex_l R2.sub hs, ?_⟩
      refine for_it (walk_enumS (K := K) (xs := ((rowsW b).map rowT).map V.str)) (fun i σ' H' => ∃ F' x2 x3, σ' = [some (.str (textOf (rowsW b))), some (.ref x), x2, x3, none, none] ∧ Ex F2 F' ∧ Gr F H F' H' ∧ RdAt K F' H' r (partsOf ((rowsD b).take i)) (lastOf ((rowsD b).take i)) (fOf b.ts (nT ((rowsD b).take i))))
        ⟨F2, none, none, rfl, Ex.refl _, gg2, R2⟩ (fun i σ' H' _ ⟨F', _, _, _, e1, e2, e3⟩ => ex_l (e1.trans e3.sub) hs) ?_ ?_
      · rintro i v σ' H3 H4 hi ⟨F3, x2, x3, rfl, ex3, g3, R3⟩ ⟨Tt, a1, b1, rfl, hT, rfl, ha1, hb1⟩
        have hlen3 : (((rowsW b).map rowT).map V.str).length = (rowsD b).length := by rw [List.length_map, List.length_map, ← rowsD_words, List.length_map]
        rw [hlen3] at hi
        have he : (rowsD b)[i]? = some (rowsD b)[i] := List.getElem?_eq_getElem hi
        generalize (rowsD b)[i] = e at he
        obtain ⟨st, tk1⟩ := step_at hb he
        obtain ⟨sr, rwo⟩ := split_rows hb he
        have hb1 : (((rowsW b).map rowT).map V.str)[i]? = some b1 := hb1
        rw [List.getElem?_map, sr] at hb1
        cases hb1
        cases ha1
        generalize (rowsD b).take i = l at R3 st tk1
        have g4 := Gr.new (o := HO.tup [V.int (1 + (i : Nat)), .str (rowT e.2.1)]) R3.sub hT
        have R4 := R3.gr g4
        refine ⟨Tt, _, rfl, .inl (.inl upd_same), rfl, _, _, rfl, _, _, rfl, rfl, ?_⟩
        refine ⟨_, rfl, x, dx, rdF r (lastOf l), rfl, by rw [← rx, ← rdx]; exact R4.x, rdF_take, ?_⟩
        refine ⟨_, rfl, ⟨_, rfl⟩, ?_⟩
        have hl3 : (rowT e.2.1).length + 2 ≤ sizeLine := Nat.le_trans (show _ ≤ 1000 by have := rowT_len rwo; omega) (by decide)
        refine md_split (K := K) (a := rowT e.2.1) (b := Str.ofString " ") (by decide +kernel) hl3 _ _ _ _ g4.s (.str _) (.cons (.str _) .nil) _ fun wv F5 H5 g5 d5 => ?_
        rw [rowT_split rwo] at d5
        have R5 := R4.gr g5
        obtain ⟨w0, hw0, hsw⟩ := st.w0
        refine ⟨_, rfl, F5, r, partsOf l, lastOf l, fOf b.ts (nT l), wv, _, w0, e.2.1, e.2.2, e.1, pt l e.1, fOf b.ts (nT (l ++ [e])), by rw [rx]; rfl, R5, d5, st.row, hw0, hsw, st.up, parts_at l st.sort, ?_, ?_, fun F6 H6 gx R6 => ?_⟩
        · have h1 : (pt l e.1).length ≤ l.length := by
            unfold pt
            rw [List.length_map]
            exact List.length_filter_le _ _
          have := st.few
          omega
        · rcases st.num with ⟨n1, n2⟩ | ⟨n1, n2, wd, n3, n4, n5⟩
          · exact .inl ⟨n1, by rw [n2]⟩
          · refine .inr ⟨n1, wd, n3, n4, ?_⟩
            rw [n2, n5, n1]
            rfl
        · rw [parts_app l e st.sort] at R6
          refine ⟨F6, _, _, rfl, ((ex3.trans g4.f).trans g5.f).trans gx.f, ((g3.trans g4).trans g5).thenX gx newA, ?_⟩
          rw [tk1, last_app]
          exact R6
      · rintro σ' H3 ⟨F3, x2, x3, rfl, ex3, g3, R3⟩
        have hlen3 : (((rowsW b).map rowT).map V.str).length = (rowsD b).length := by rw [List.length_map, List.length_map, ← rowsD_words, List.length_map]
        rw [hlen3, List.take_length] at R3
        rw [pt_all] at R3
        -- the reading stands still from now on
        let pa : Addr → Bool := fun a => decide (a ∈ r.x :: r.dx :: r.P :: r.N :: r.Ls)
        have paA : ∀ a, pa a = true → r.A a := fun a h => by
          have := of_decide_eq_true h
          simpa [RdAd.A] using this
        have pO : ∀ a, pa a = true → F3 a = none := fun a h => R3.out a (paA a h)
        have gz : Gr F H (fz pa F3 H3) H3 := ⟨g3.f.trans (fz_ex pO), g3.h, fz_sub R3.sub, fun a e1 e2 => by
          unfold fz
          rw [if_neg fun z => e2 (newA a (paA a z))]
          exact g3.o a e1 e2⟩
        have inL : ∀ (j : Nat) (L : Addr), r.Ls[j]? = some L → fz pa F3 H3 L = H3 L := fun j L h => fz_at (by
          have := List.mem_of_getElem? h
          simp [pa, this])
        generalize hFz : fz pa F3 H3 = Fz at gz inL
        have exz : Ex F3 Fz := by rw [← hFz]; exact fz_ex pO
        refine ⟨_, rfl, x, rdC K, dx, rdF r _, .ref r.P, rfl, by rw [← rx, ← rdx]; exact R3.x, cl, T.noat 87, rdF_parts, ?_⟩
        refine ⟨r.P, rfl, ⟨_, .inl (.inl R3.P)⟩, fun D hD => ?_⟩
        refine lc_it (walk_list (K := K) (a := r.P) (xs := r.Ls.map .ref)) (fun i H' => ∃ (Fi : Hp) (vs : List V), Gr Fz H3 Fi H' ∧ Fi D = none ∧ H' D = some (.lst vs) ∧ vs.length = i ∧
            ∀ (j : Nat) (v : V), vs[j]? = some v → ∃ (g : Addr) (o : Obj) (ys : List V) (p : List Pd), v = .ref g ∧ Fi g = some (.frz o (.tup ys)) ∧ o.dict = none ∧ ([b.ms.map .str, b.gs.map pN, b.ts.map pT, b.ws.map pW, b.fx.map pF] : List (List Pd))[j]? = some p ∧ DpAll K Fi ys p)
          ⟨Fz, [], Gr.newOwn gz.s hD, none_of gz.s hD, upd_same, rfl, fun j v e => by simp at e⟩ (fun i H' _ ⟨_, _, g, _⟩ => .inl (.inl (g.h _ _ R3.P))) ?_ ?_
        · rintro i v H4 H5 hi ⟨Fi, vs, g, fD, hDv, hl, items⟩ ⟨rfl, hv⟩
          rw [List.getElem?_map] at hv
          cases hL : r.Ls[i]? with
          | none => rw [hL] at hv; cases hv
          | some L =>
            rw [hL] at hv
            cases hv
            obtain ⟨p, us, hp, hus, dus⟩ := R3.L i L hL
            refine ⟨rfl, .ref L, rfl, L, us, rfl, .inl (.inl (g.h _ _ hus)), fun l o hlF ho => ?_⟩
            have nlD : D ≠ l := fun z => by rw [z, hlF] at hDv; cases hDv
            have g' := g.trans (Gr.new (o := .frz o (.tup us)) g.s hlF)
            have fD' : upd Fi l (.frz o (.tup us)) D = none := by rw [upd_ne nlD]; exact fD
            have lt5 : i < 5 := by rw [← R3.lenL]; exact (List.getElem?_eq_some_iff.mp hL).1
            refine ⟨vs, by rw [upd_ne nlD]; exact hDv, by rw [hl]; exact Nat.lt_of_lt_of_le lt5 (by decide), upd Fi l (.frz o (.tup us)), vs ++ [.ref l], g'.beside fD' hD, fD', upd_same, by rw [List.length_append, hl]; rfl, fun j v hv => ?_⟩
            by_cases hj : j < vs.length
            · rw [List.getElem?_append_left hj] at hv
              obtain ⟨g0, o0, ys, p0, q1, q2, q3, q4, q5⟩ := items j v hv
              exact ⟨g0, o0, ys, p0, q1, (Gr.new (o := .frz o (.tup us)) g.s hlF).f _ _ q2, q3, q4, q5.mono (Gr.new (o := .frz o (.tup us)) g.s hlF).f⟩
            · rw [List.getElem?_append_right (by omega)] at hv
              have ej : j = i := by
                have := (List.getElem?_eq_some_iff.mp hv).1
                rw [List.length_singleton] at this
                omega
              subst ej
              rw [hl, Nat.sub_self] at hv
              cases hv
              exact ⟨l, o, us, p, rfl, upd_same, ho, hp, dus.mono (exz.trans g'.f)⟩
        · rintro H4 ⟨Fi, vs, g, fD, hDv, hl, items⟩
          have hl5 : vs.length = 5 := by rw [hl, List.length_map, R3.lenL]
          refine ⟨D, vs, rfl, .inl (.inl hDv), fun Bk o hB ho => ?_⟩
          have gn := Gr.new (o := .frz o (.tup vs)) g.s hB
          have g' := gz.trans (g.trans gn)
          have dp : Dp K (upd Fi Bk (.frz o (.tup vs))) (.ref Bk) (pB b) := by
            refine .tup (.inl (.inr ⟨o, upd_same⟩)) (da_of_get (by rw [hl5]; rfl) fun j v d h1 h2 => ?_)
            obtain ⟨g0, o0, ys, p0, q1, q2, q3, q4, q5⟩ := items j v h1
            subst q1
            have e : d = .tuple p0 := by
              have h3 : (([b.ms.map .str, b.gs.map pN, b.ts.map pT, b.ws.map pW, b.fx.map pF] : List (List Pd)).map PyData.tuple)[j]? = some d := h2
              rw [List.getElem?_map, q4] at h3
              exact (Option.some.inj h3).symm
            rw [e]
            exact .tup (.inl (.inr ⟨o0, gn.f _ _ q2⟩)) (q5.mono gn.f)
          have v1 : vs[1]? = some (vs[1]'(by omega)) := List.getElem?_eq_getElem (by omega)
          obtain ⟨g0, o0, ys, p0, q1, q2, q3, q4, q5⟩ := items 1 _ v1
          rw [q1] at v1
          have q4 : some (b.gs.map pN) = some p0 := q4
          cases q4
          refine ⟨.ref Bk, rfl, upd Fi Bk (.frz o (.tup vs)), .ref Bk, b, rfl, gn.s, ⟨dp, Bk, vs, g0, o0, ys, rfl, .inl (.inr ⟨o, upd_same⟩), v1, gn.f _ _ q2, q3, q5.mono gn.f⟩, hb, fun e F' H' gr => ?_, fun e F' H' d gr hd => fin2 e F' H' d (g'.trans gr) hd⟩
          exact ⟨_, rfl, fin1 e _ F' H' (g'.trans gr) (dp.mono gr.f)⟩⟩
end
end Bw
set_option Elab.async false
set_option linter.all false
set_option maxRecDepth 100000
set_option maxHeartbeats 4000000
/-! An exception that is kept behind the suite of its clause. -/
namespace Bw
open PySem PySem.Spec PyProof.Rows L2 Evl
/-- at a: an exception of the class at C, its dict at d -/
def exk (a C : Addr) (d : Option Addr) : HO := .ext fun h => ∃ oe vs, h.get? a = some oe ∧ oe.cls = .ref C ∧ oe.dict = d ∧ oe.data = .fields vs
theorem exk_ok {P : Program} {w : World} {H : Hp} {h : Heap} {a C : Addr} {d : Option Addr} {oe : Obj} {vs : Array Value} (e : h.get? a = some oe) (c : oe.cls = .ref C) (q : oe.dict = d) (dt : oe.data = .fields vs) : ObjOk P w H h a (exk a C d) :=
  ⟨⟨oe, vs, e, c, q, dt⟩, ⟨oe, e⟩, fun g1 g2 ⟨o1, v1, e1, r⟩ k => ⟨o1, v1, k _ e1, r⟩⟩
theorem exk_at {P : Program} {w : World} {H : Hp} {h : Heap} {a C : Addr} {d : Option Addr} (hok : HOk P w H h) (e : H a = some (exk a C d)) : ∃ oe vs, h.get? a = some oe ∧ oe.cls = .ref C ∧ oe.dict = d ∧ oe.data = .fields vs := by
  have z : ObjOk P w H h a (.ext fun h => ∃ oe vs, h.get? a = some oe ∧ oe.cls = .ref C ∧ oe.dict = d ∧ oe.data = .fields vs) := hok a _ e
  exact z.1
section
variable {X : Cx} {pins : List (Addr × Obj)} {σ : L2.St} {H : Hp} {s : Shared} {a C : Addr} {d : Option Addr} {oe : Obj} {vs : Array Value}
/-- what was pinned is tracked from now on -/
theorem adopt (I : Inv X ((a, oe) :: pins) σ H s) (hc : oe.cls = .ref C) (hq : oe.dict = d) (hd : oe.data = .fields vs) (n0 : X.s_0.heap.get? a = none) (np : ∀ p ∈ X.pn ++ pins, p.1 ≠ a) : Inv X pins σ (upd H a (exk a C d)) s := by
  obtain ⟨ea, na, nl, nf, ncell⟩ := I.pin (a, oe) (List.mem_append_right _ List.mem_cons_self)
  have at_a : ∀ {b : Addr} {u : HO}, H b = some u → b ≠ a := fun {b u} e z => by
    rw [z] at e
    exact absurd (na.symm.trans e) nofun
  have at_0 : ∀ {b : Addr} {o : Obj}, X.s_0.heap.get? b = some o → b ≠ a := fun {b o} e z => by
    rw [z, n0] at e
    exact absurd e nofun
  refine ⟨I.ok, I.os, I.bare, ⟨I.base.keep, I.base.slot, ?_, I.base.there, ?_, ?_, ?_⟩, I.loc, I.cell, ?_, ?_, ?_, ?_, I.len⟩
  · intro b o e n x
    rw [upd_ne (at_0 e)]
    exact I.base.free b o e n x
  · intro b xs e
    have q := I.base.tups b xs e
    rw [upd_ne (at_a q)]
    exact q
  · intro b o u e
    have q := I.base.frzs b o u e
    rw [upd_ne (at_a q)]
    exact q
  · intro b ps e
    obtain ⟨more, q⟩ := I.base.tbls b ps e
    exact ⟨more, by rw [upd_ne (at_a q)]; exact q⟩
  · rw [upd_ne (Ne.symm nl)]
    exact I.free
  · intro x c e
    obtain ⟨v, o, ho, hdt⟩ := I.cell x c e
    rw [upd_ne fun z => ?_]
    · exact I.freeC x c e
    · rw [z] at ho
      have ho' : s.heap.get? a = some o := ho
      have eo : oe = o := Option.some.inj (ea.symm.trans ho')
      exact ncell v (by rw [show (a, oe).2 = oe from rfl, eo]; exact hdt)
  · intro p hp
    obtain ⟨p1, p2, p3⟩ := I.pin p (by
      rcases List.mem_append.mp hp with z | z
      · exact List.mem_append_left _ z
      · exact List.mem_append_right _ (List.mem_cons_of_mem _ z))
    exact ⟨p1, by rw [upd_ne (np p hp)]; exact p2, p3⟩
  · intro b o e
    by_cases z : b = a
    · subst z
      rw [upd_same] at e
      cases e
      exact exk_ok ea hc hq hd
    · rw [upd_ne z] at e
      exact (I.hok b o e).stay (fun _ _ _ q => q) (fun c q => by rw [upd_ne (at_a q)]; exact q) fun c xs q => by rw [upd_ne (at_a q)]; exact q
end
/-- the wish: what comes is the clause's own; behind the suite it is tracked -/
def wKeep (K : PySem.W.Frag) (c : Value) (i : Nat) (ts : Addr → Value → Option Addr → TS) (D : Ends) : WX := fun cls d τ G =>
  PySem.W.exmOne K cls c = some true ∧ ∃ C, cls = .ref C ∧ ∀ e, G e = none → ts e cls d { nx := fun τ' G' => G' e = none ∧ D.nx (τ'.set i none) (upd G' e (exk e C d)), rt := fun _ _ => False, bk := fun _ _ => False, ct := fun _ _ => False } (τ.set i (some (.ref e))) G
section
variable {X : Cx} {x n : Str} {c : Value} {i : Nat} {body suite : List Stmt} {b₀ : Stmt} {np pos pos' : Pos} {tb : WX → TS} {ts : Addr → Value → Option Addr → TS}
theorem ps_try_keep (hs : X.stack = X.env :: X.outer) (hf : X.env.frame = some X.env.locals) (hx0 : X.ex = []) (hN : X.N.Nodup) (hi : X.N[i]? = some n) (hln : X.env.kindOf n = some .local) (hc : Names X x c)
    (hb : ∀ (W : WX) (pn : List (Addr × Obj)) (xe : Value → Shared → Prop), Takes (X.tr pn xe) W → PSs (X.tr pn xe) body (tb W))
    (hsu : ∀ (e : Addr) (oe : Obj) (cls : Value) (d : Option Addr) (pn : List (Addr × Obj)), PSs (X.suite e ((e, oe) :: pn)) (b₀ :: suite) (ts e cls d)) :
    PS X (.Try body [.ExceptHandler (some (.Name x np)) (some n) (b₀ :: suite) pos'] [] [] pos) (fun D τ G => tb (wKeep X.K c i ts D) D τ G) := by
  refine ⟨fun pins s τ G D I h => wpAny_Try_except ?_⟩
  have okX := I.ok
  have frX : X.A.frames = some (X.env :: X.outer) := by rw [okX.frames, hs]
  let seen : Value → Shared → Prop := fun u s1 => wpAny (model X.prog X.w) X.A (noteFrame u X.env) (fun _ s2 => wpAny (model X.prog X.w) X.A (setFlight u none)
    (fun _ s3 => wpAny (model X.prog X.w) X.A (handleBy u X.env [.ExceptHandler (some (.Name x np)) (some n) (b₀ :: suite) pos']) (SP X pins D) X.xe s3) X.xe s2) X.xe s1
  have takes : Takes (X.tr (X.pn ++ pins) seen) (wKeep X.K c i ts D) := by
    rintro u s1 ⟨e, Gd, sI, pn', τ1, G1, cls, d, rfl, J0, near, lift, sky, fresh, same, calm, hexm, C, rfl, go⟩
    have J : Inv X pins τ1 G1 sI := J0.ofTry okX
    have sky1 : Sky Gd (X.env :: X.outer) e (Zc (.ref C) d) X.env.locals s1.heap := by rw [← hs]; exact sky
    show wpAny (model X.prog X.w) X.A (noteFrame (.ref e) X.env) _ X.xe s1
    refine Sky.land Zc.steady frX hf sky1 fun h3 fl3 up3 => ?_
    have apart : ∀ {g : Heap} {o : Obj} {vs : Array Value}, g.FunFrames Gd (X.env :: X.outer) → g.get? e = some o → o.data = .fields vs → e ∉ frs (X.env :: X.outer) := fun {g o vs} ff q dt hm => by
      obtain ⟨_, o', q', nf⟩ := ff.mem hm
      cases q.symm.trans q'
      exact nf _ dt
    obtain ⟨oe3, vs3, at3, z3, dt3⟩ := fl3.there
    have nfr := apart fl3.2.2.1 at3 dt3
    have notL : e ≠ X.env.locals := fun z => nfr (List.mem_filterMap.mpr ⟨X.env, .head _, by rw [hf, z]⟩)
    have notF : e ∉ X.fs := fun hm => by
      obtain ⟨v, hv, q⟩ := List.mem_filterMap.mp hm
      exact nfr (List.mem_filterMap.mpr ⟨v, .tail _ hv, q⟩)
    -- it is new since the def began
    have gone : Gd.get? e = none := fl3.2.1
    have old : ∀ {b : Addr} {o : Obj}, sI.heap.get? b = some o → b ∉ frs X.stack → b ≠ e := fun {b o} q nb z => by
      have w := near b o q nb
      rw [z, gone] at w
      cases w
    have notS : e ∉ frs X.stack := by rw [hs]; exact nfr
    have n0 : X.s_0.heap.get? e = none := by
      cases q : X.s_0.heap.get? e with
      | none => rfl
      | some o =>
        obtain ⟨o', q'⟩ := J.base.there e o q (by rw [hx0]; nofun)
        exact absurd rfl (old q' notS)
    have np1 : ∀ p ∈ X.pn ++ pins, p.1 ≠ e := fun p hp => by
      obtain ⟨p1, p2, p3, p4, _⟩ := J.pin p hp
      refine old p1 fun hm => ?_
      rcases List.mem_cons.mp (J.stkSub _ hm) with w | w
      · exact p3 w
      · exact p4 w
    have J3 : Inv X pins τ1 G1 { s1 with heap := h3 } := J.landed near fl3.1 (lift.trans up3) same calm
    have S3 := J3.suite at3 dt3 fresh notL notF
    refine wpAny_handleBy_cons (codeAny_handlers_test ?_) (by intro q; cases q)
    have look : PySem.W.Looks (model X.prog X.w) h3 (typeOf (.ref e)) (.ref C) := fun _ _ _ _ k q => wpAny_typeOf_ref (k _ _ at3) (by rw [z3.1]; exact q)
    have isIt := PySem.W.exm_one (M := model X.prog X.w) J3.kIn look hexm
    have clause : ∀ {Q : Value → Shared → Prop} {E : Value → Shared → Prop}, Q c { s1 with heap := h3 } → wpAny (model X.prog X.w) (X.A.mark (some (.ref e))) (eval (.Name x np) X.env) Q E { s1 with heap := h3 } := fun {Q E} q => by
      obtain ⟨g1, g2, g3 | ⟨g3, g4, g5⟩⟩ := hc
      · exact ld_glob (X := X.suite e ((e, oe3) :: (X.pn ++ pins))) S3 g1 g3 q g2
      · exact ld_blt (X := X.suite e ((e, oe3) :: (X.pn ++ pins))) S3 g1 g3 g4 q g5 g2
    refine clause (isIt.here (codeAny_handlers_suite_as (HandSPX.lands_againZ fl3 fun h4 fl4 up4 => ?_)))
    obtain ⟨oe4, vs4, at4, z4, dt4⟩ := fl4.there
    have J4 : Inv X pins τ1 G1 { s1 with heap := h4 } := J.landed near fl4.1 ((lift.trans up3).trans up4) same calm
    refine store_ok (X := X.suite e ((e, oe4) :: (X.pn ++ pins))) (v := .ref e) (J4.suite at4 dt4 fresh notL notF) hN hi (.inl hln) rfl (fun s5 S5 => ?_) (.inr hln)
    refine wpAny_mono ((hsu e oe4 (.ref C) d (X.pn ++ pins)).run [] s5 _ G1 _ S5 (go e fresh)) (fun f s6 out => ?_) fun _ _ z => z.elim
    cases f with
    | next =>
      obtain ⟨τ6, G6, S6, q1, q2⟩ := out
      have S7 : Inv X ((e, oe4) :: pins) τ6 G6 s6 := ⟨okX, S6.os, S6.bare, S6.base, S6.loc, S6.cell, S6.free, S6.freeC, fun p hp => S6.pin p (List.mem_append_left _ (by
        rcases List.mem_append.mp hp with w | w
        · exact .tail _ (List.mem_append_left _ w)
        · rcases List.mem_cons.mp w with w | w
          · rw [w]; exact .head _
          · exact .tail _ (List.mem_append_right _ w))), S6.hok, S6.len⟩
      exact gone_ok S7 hN hi hln fun s7 S8 => ⟨_, _, adopt S8 z4.1 z4.2 dt4 n0 np1, q2⟩
    | ret u => obtain ⟨_, _, _, _, _, z⟩ := out; exact z.elim
    | brk => obtain ⟨_, _, _, z⟩ := out; exact z.elim
    | cont => obtain ⟨_, _, _, z⟩ := out; exact z.elim
  refine wpAny_mono ((hb _ (X.pn ++ pins) seen takes).run [] s τ G D (I.toTry _) h) (fun f s1 out => ?_) fun e s1 q => q
  cases f with
  | next =>
    obtain ⟨_, _, J, q⟩ := out
    exact wpAny_execs_nil ⟨_, _, J.ofTry okX, q⟩
  | ret u =>
    obtain ⟨_, _, _, J, r, q⟩ := out
    exact ⟨_, _, _, J.ofTry okX, r, q⟩
  | brk =>
    obtain ⟨_, _, J, q⟩ := out
    exact ⟨_, _, J.ofTry okX, q⟩
  | cont =>
    obtain ⟨_, _, J, q⟩ := out
    exact ⟨_, _, J.ofTry okX, q⟩
end
end Bw
set_option Elab.async false
set_option linter.all false
set_option maxRecDepth 100000
set_option maxHeartbeats 4000000
/-! isinstance and the field of an exception that is kept; how often a bool stands in a list. -/
namespace Bw
open PySem PySem.Spec PyProof.Rows L2 Evl
section
variable {X : Cx}
/-- the object of a kept exception, its dict beside -/
theorem exk_inst {pins : List (Addr × Obj)} {σ : L2.St} {H : Hp} {s : Shared} {a C d : Addr} {fs : List (Str × V)} (I : Inv X pins σ H s) (e : H a = some (exk a C (some d))) (f : H d = some (.xd fs)) :
    ∃ (oe od : Obj) (mA : Str → Option Value), PySem.W.InstAt s.heap a oe C (some od) ∧ (∀ n, PySem.W.lookIn n od = some (mA n)) ∧ ∀ n, RelO (fs.lookup n) (mA n) := by
  obtain ⟨oe, vs, h1, h2, h3, h4⟩ := exk_at I.hok e
  have x : ObjOk X.prog X.w H s.heap d (.xd fs) := I.hok d _ f
  obtain ⟨mA, hns, hr⟩ := x
  obtain ⟨od, ho, hl⟩ := lookIn_ns hns
  exact ⟨oe, od, mA, ⟨h1, h2, by unfold PySem.W.notCls; rw [h4] <;> rfl, by rw [h3]; exact ho⟩, hl, hr⟩
def rIsX (K : PySem.W.Frag) : List V → Hp → VK → Prop := fun xs H Q => ∃ (a C d : Addr) (fs : List (Str × V)) (c : V) (cv : Value) (b : Bool), xs = [.ref a, c] ∧ H a = some (exk a C (some d)) ∧ H d = some (.xd fs) ∧ ExcC K C ∧ (∀ u, RelV c u → u = cv) ∧ PySem.W.kitOne K (.ref C) cv = some b ∧ Q (.bl b) H
theorem call_isX : CallR X (.builtin "isinstance") (rIsX X.K) := fun pins s σ H xs us Q I r h => by
  obtain ⟨a, C, d, fs, c, cv, b, ex, ha, hd, T, hcv, hk, q⟩ := h
  subst ex
  obtain ⟨u1, u2, eu, r1, r2⟩ := vals2 r
  subst eu
  cases r1
  have e2 := hcv _ r2
  subst e2
  obtain ⟨oe, od, mA, hI, _, _⟩ := exk_inst I ha hd
  obtain ⟨cd, hcd, _⟩ := PySem.W.any_some T.hd
  have ht : (PySem.W.clsIn X.K C).isSome = true := by rw [hcd] <;> rfl
  exact PySem.W.kia_one (PySem.W.kitx_exc ht T.hg T.hk T.hs T.ha T.hn T.ht T.hm) I.kIn hI hk (fun z => nomatch z) fun tk => ⟨.bl b, H, I.tok _, rfl, q⟩
/-- e.n, e an exception that is kept -/
def tXk (K : PySem.W.Frag) (te : TE) (n : Str) : TE := fun σ H Q => te σ H fun x H1 => ∃ (a C d : Addr) (fs : List (Str × V)) (v : V), x = .ref a ∧ H1 a = some (exk a C (some d)) ∧ H1 d = some (.xd fs) ∧ ExcC K C ∧ PySem.W.findIn K (.ref C) n = some none ∧ fs.lookup n = some v ∧ Q v H1
theorem pe_xk {e : Expr} {te : TE} {pos : Pos} {n : Str} (he : PE X e te) (hb : attributeBase e n X.env (eval e X.env) = eval e X.env := by rfl) : PE X (.Attribute e n pos) (tXk X.K te n) := by
  refine ⟨fun pins s σ H Q I h => attr_of hb (thn (he.run pins s σ H _ I h) fun u s1 ⟨x, H1, I1, rx, a, C, d, fs, v, ex, ha, hd, T, hno, hl, q⟩ => ?_)⟩
  subst ex
  cases rx
  obtain ⟨oe, od, mA, hI, hlk, hr⟩ := exk_inst I1 ha hd
  obtain ⟨w, hw, rw'⟩ := RelO.some_of (v := v) (o := mA n) (by rw [← hl]; exact hr n)
  exact HandSPX.exc_get I1.kIn hI T.hg T.hk T.hs (PySem.W.findObj_own T.hd hno rfl (by rw [hlk, hw])) (handed_of rw') ⟨v, H1, I1.tok _, rw', q⟩
/-- l.count(x) over data -/
def rCountD (K : PySem.W.Frag) : V → List V → Hp → VK → Prop := fun x xs H Q => ∃ (a : Addr) (y : V) (d : Pd) (ds : List Pd), x = .ref a ∧ xs = [y] ∧ Dp K H (.ref a) (.list ds) ∧ Dp K H y d ∧ PyData.plainAll ds = true ∧ d.plain = true ∧ d.depth = 0 ∧ Q (.int ((ds.countP fun z => PyData.eqv z d : Nat) : Int)) H
theorem mt_lcountD (hu : X.A.units + 65 < cLine) : MtR X "list.count" (rCountD X.K) := fun pins s σ H x xs v us Q I rx rxs h => by
  obtain ⟨a, y, d, ds, ex, ey, hl, hy, p1, p2, p3, q⟩ := h
  subst ex ey
  cases rx
  obtain ⟨uy, eu, ry⟩ := vals1 rxs
  subst eu
  obtain ⟨bs, r1⟩ := Dp.reads I d y uy hy ry
  cases hl with
  | lst hs ha =>
    obtain ⟨its, rv, pl, hz⟩ := I.list hs
    obtain ⟨as, r2⟩ := Dp.readsAll I ds _ its ha rv
    exact PySem.SeqAt.count_list_data pl.isList r2 r1 p1 p2 (by rw [p3, Nat.min_zero]; omega) ⟨.int _, H, I.tok _, ⟨_, rfl⟩, q⟩
end
section
variable {K : PySem.W.Frag} {B : Bs} {ρ : Es} {te ta tb : TE} {P : Pd → Es → Prop} {PL : List Pd → Es → Prop}
/-- a new list of one's own out of two -/
theorem wl_cat (h : WE K B ta ρ fun x ρ1 => ∃ xs, x = .list xs ∧ WE K B tb ρ1 fun y ρ2 => ∃ ys, y = .list ys ∧ xs.length + ys.length ≤ sizeLine ∧ PL (xs ++ ys) ρ2) : WL K B (tOp (rCatS K) ta tb) ρ PL := fun σ F H r Q q =>
  h σ F H r _ fun v x ρ1 F1 H1 p1 e1 d1 r1 => by
    obtain ⟨xs, ex, p1⟩ := p1
    subst ex
    refine p1 σ F1 H1 r1 _ fun u y ρ2 F2 H2 p2 e2 d2 r2 => ?_
    obtain ⟨ys, ey, hz, p2'⟩ := p2
    subst ey
    cases d1 with
    | lst h1 a1 =>
      cases d2 with
      | lst h2 a2 =>
        have a1' := a1.mono e2
        refine ⟨_, _, _, _, rfl, rfl, ex_l r2.sub (ex_l e2 h1), ex_l r2.sub h2, by rw [da_len a1, da_len a2]; exact hz, fun p hp => ?_⟩
        exact q p _ (xs ++ ys) ρ2 _ _ p2' (e1.trans e2) (r2.gr (Gr.newOwn r2.sub hp)) (none_of r2.sub hp) upd_same (da_append a1' a2) (r2.notB hp) (r2.notOwn hp)
def excMo (C : Addr) (d : Addr) (fs : List (Str × V)) : Mo where
  p := fun F v => ∃ a, v = .ref a ∧ F a = some (exk a C (some d)) ∧ F d = some (.xd fs)
  m := fun F F' v x ⟨a, h1, h2, h3⟩ => ⟨a, h1, x a _ h2, x d _ h3⟩
theorem w_isX {i : Nat} {C d : Addr} {fs : List (Str × V)} {c : V} {cv : Value} {b : Bool} (T : ExcC K C) (hcv : ∀ u, RelV c u → u = cv) (hk : PySem.W.kitOne K (.ref C) cv = some b) (h : ρ[i]? = some (.q (excMo C d fs))) (p : P (.bool b) ρ) :
    WE K B (tCB (rIsX K) (tCons (tVar i) (tCons (tC c) tNil))) ρ P := fun σ F H r Q q => by
  obtain ⟨u, hu, a, rfl, h2, h3⟩ := slot_q r h
  exact ⟨_, hu, a, C, d, fs, c, cv, b, rfl, r.sub _ _ h2, r.sub _ _ h3, T, hcv, hk, q _ _ ρ F H p (Ex.refl _) (.bl b) r⟩
end
end Bw
set_option Elab.async false
set_option linter.all false
set_option maxRecDepth 100000
set_option maxHeartbeats 4000000
namespace Bw
open PySem PySem.Spec L2 Evl
open Bk (sLawKind)
section
variable {K : PySem.W.Frag}
theorem md_countD {ds : List Pd} {d : Pd} (h1 : PyData.plainAll ds = true) (h2 : d.plain = true) (h3 : d.depth = 0) : MeD K (rCountD K) (.list ds) [d] (.int ((ds.countP fun z => PyData.eqv z d : Nat) : Int)) := fun F H v vs s d1 d2 Q k => by
  cases d2 with
  | cons d2 d3 =>
    cases d3
    have d1' := d1.mono s
    cases d1 with
    | lst hs ha => exact ⟨_, _, d, ds, rfl, rfl, d1', d2.mono s, h1, h2, h3, gr_id s (.int _) k⟩
theorem md_indexD {ds : List Pd} {d z : Pd} {j : Nat} (h1 : SeqAt.shaped (.list ds) = true) (h2 : SeqAt.shaped d = true) (hj : ds[j]? = some z) (hz : PyData.eqv z d = true) (hno : ∀ (m : Nat) (z' : Pd), m < j → ds[m]? = some z' → PyData.eqv z' d = false) : MeD K (rIndexD K) (.list ds) [d] (.int (j : Nat)) := fun F H v vs s d1 d2 Q k => by
  cases d2 with
  | cons d2 d3 =>
    cases d3
    have d1' := d1.mono s
    cases d1 with
    | lst hs ha => exact ⟨_, _, d, ds, j, z, rfl, rfl, d1', d2.mono s, h1, h2, hj, hz, hno, gr_id s (.int _) k⟩
end
section
variable {P : Program} {w : World} {K : PySem.W.Frag} {mg : Str → Option Value} {base : Heap}
def spKind (K : PySem.W.Frag) : Sp := fun vs H Q _ => ∃ (F : Hp) (v : V) (d : Addr) (fs : List (Str × V)), vs = [v] ∧ Ex F H ∧ (excMo (bbC K) d fs).p F v ∧ ∀ u F' H', Gr F H F' H' → Dp K F' u (.str (Str.ofString "book")) → Q u H'
theorem scLawKind : FnScope ["_law_error", "_law_words", "_law_found"] ["_law_error"] (defScope sLawKind) := ⟨rfl, rfl, rfl, by decide +kernel, rfl, by decide +kernel, by decide +kernel⟩
theorem calLawKind (T : Tx K mg) : C8.Cal P w K mg base 1 "_law_kind" (spKind K) [] :=
  cal_of (st := sLawKind) (T.def_ 33 (d := Bk.dLawKind) rfl) (T.glo 33) scLawKind (fun _ _ _ _ _ _ us hl => match us, hl with | [_], _ => rfl) (fun vs H Q E ⟨_, _, _, _, e, _⟩ => by rw [e]; rfl) fun cdv A outer s H vs Q E hr h => ⟨_, (pss_cons (ps_set (i := 1) scLawKind.nd rfl (by first | exact Or.inl rfl | exact Or.inr rfl) (pe_lst (pa_cons pe_str (pa_cons pe_str (pa_cons pe_str (pa_cons pe_str (pa_cons pe_str (pa_cons pe_str (pa_cons pe_str (pa_cons pe_str (pa_cons pe_str (pa_cons pe_str (pa_cons pe_str (pa_cons pe_str (pa_cons pe_str pa_nil)))))))))))))))
      (pss_cons (ps_set (i := 2) scLawKind.nd rfl (by first | exact Or.inl rfl | exact Or.inr rfl) (pe_lst (pa_cons (pe_callB (id := "isinstance") Bw.call_isX rfl (T.fr 53) (by decide +kernel) (pa_cons (pv 0) (pa_cons (C8.pe_gc rfl (T.gcr 37)) pa_nil))) (pa_cons (pe_callB (id := "isinstance") Bw.call_isX rfl (T.fr 53) (by decide +kernel) (pa_cons (pv 0) (pa_cons (C8.pe_gc rfl (T.gcr 42)) pa_nil))) (pa_cons (pe_callB (id := "isinstance") Bw.call_isX rfl (T.fr 53) (by decide +kernel) (pa_cons (pv 0) (pa_cons (C8.pe_gc rfl (T.gcr 47)) pa_nil))) pa_nil)))))
      (pss_cons (ps_set (i := 2) scLawKind.nd rfl (by first | exact Or.inl rfl | exact Or.inr rfl) (pe_op Bw.op_catS (pv 2) (pe_lst (pa_cons (pe_callB (id := "isinstance") Bw.call_isX rfl (T.fr 53) (by decide +kernel) (pa_cons (pv 0) (pa_cons (C8.pe_gc rfl (T.gcr 48)) pa_nil))) (pa_cons (pe_callB (id := "isinstance") Bw.call_isX rfl (T.fr 53) (by decide +kernel) (pa_cons (pv 0) (pa_cons (C8.pe_gc rfl (T.gcr 45)) pa_nil))) (pa_cons (pe_callB (id := "isinstance") Bw.call_isX rfl (T.fr 53) (by decide +kernel) (pa_cons (pv 0) (pa_cons (C8.pe_gc rfl (T.gcr 44)) pa_nil))) pa_nil))))))
      (pss_cons (ps_set (i := 2) scLawKind.nd rfl (by first | exact Or.inl rfl | exact Or.inr rfl) (pe_op Bw.op_catS (pv 2) (pe_lst (pa_cons (pe_callB (id := "isinstance") Bw.call_isX rfl (T.fr 53) (by decide +kernel) (pa_cons (pv 0) (pa_cons (C8.pe_gc rfl (T.gcr 38)) pa_nil))) (pa_cons (pe_callB (id := "isinstance") Bw.call_isX rfl (T.fr 53) (by decide +kernel) (pa_cons (pv 0) (pa_cons (C8.pe_gc rfl (T.gcr 39)) pa_nil))) (pa_cons (pe_callB (id := "isinstance") Bw.call_isX rfl (T.fr 53) (by decide +kernel) (pa_cons (pv 0) (pa_cons (C8.pe_gc rfl (T.gcr 41)) pa_nil))) pa_nil))))))
      (pss_cons (ps_set (i := 2) scLawKind.nd rfl (by first | exact Or.inl rfl | exact Or.inr rfl) (pe_op Bw.op_catS (pv 2) (pe_lst (pa_cons (pe_callB (id := "isinstance") Bw.call_isX rfl (T.fr 53) (by decide +kernel) (pa_cons (pv 0) (pa_cons (C8.pe_gc rfl (T.gcr 43)) pa_nil))) (pa_cons (pe_callB (id := "isinstance") Bw.call_isX rfl (T.fr 53) (by decide +kernel) (pa_cons (pv 0) (pa_cons (C8.pe_gc rfl (T.gcr 40)) pa_nil))) (pa_cons (pe_callB (id := "isinstance") Bw.call_isX rfl (T.fr 53) (by decide +kernel) (pa_cons (pv 0) (pa_cons (C8.pe_gc rfl (T.gcr 46)) pa_nil))) pa_nil))))))
      (pss_cons (ps_expr (pe_bm PySem.F.plainAttrs_list PySem.F.slot_list_append PySem.F.type_list_append mt_append (pv 2) (pa_cons (pe_callB (id := "isinstance") Bw.call_isX rfl (T.fr 53) (by decide +kernel) (pa_cons (pv 0) (pa_cons (C8.pe_gc rfl (T.gcr 49)) pa_nil))) pa_nil)))
      (pss_cons (ps_if (PW.pt (pw_or (pt_cmpR op_ne (pe_bm PySem.F.plainAttrs_list PySem.F.slot_list_count PySem.F.type_list_count (Bw.mt_lcountD (Bw.u65 hr)) (pv 2) (pa_cons pe_bl pa_nil)) pe_int (nomark _)) (pw_or1 (pt_not (pt_val (pe_callB (id := "isinstance") Bw.call_isX rfl (T.fr 53) (by decide +kernel) (pa_cons (pv 0) (pa_cons (pe_bltn (v := .ty "ValueError") rfl (T.fr 68) (by decide +kernel) rfl) pa_nil)))))))) (pss_one (ps_ret pe_str)) pss_nil)
      (pss_one (ps_ret (pe_ix ix_list (pv 1) (pe_bm PySem.F.plainAttrs_list PySem.F.slot_list_index PySem.F.type_list_index (mt_indexD (Bw.u65 hr)) (pv 2) (pa_cons pe_bl pa_nil)) (fun _ _ => rfl))))))))))), by
    obtain ⟨F, v, d, fs, rfl, sF, hΦ, hQ⟩ := h
    obtain ⟨b, iso, isv⟩ := T.bad
    have ex : ExcC K (bbC K) := ⟨b.ga, b.gg, b.oex.exC, b.hd, b.cls, b.get, b.tk, b.mo⟩
    have is : ∀ (x : Str) (t : Bool), (x, t) ∈ isoNames → PySem.W.kitOne K (.ref (bbC K)) (.ref (He.ga K x)) = some t := fun x t h => iso (x, t) h
    suffices key : ∀ B, (∀ a, ¬ B.A a) → S K B _ [.q (excMo (bbC K) d fs), .n, .n] { nx := fun _ => False, rt := fun z _ => z = .str (Str.ofString "book") } by
      refine key ⟨fun _ => False, F, H, none⟩ (fun _ z => z) _ F H (relQ (N := ["_law_error", "_law_words", "_law_found"]) (by decide) sF hΦ) _ ⟨fun σ' ρ' F' H' e x r => e.elim, fun v z σ' ρ' F' H' e x dd r => ?_, fun _ _ _ _ e => e.elim, fun _ _ _ _ e => e.elim⟩
      have e' : z = .str (Str.ofString "book") := e
      subst e'
      exact hQ v F' H' r.out dd
    intro B hA
    have cR : ∀ {p : Addr} (u : Value), RelV (.ref p) u → u = Value.ref p := fun u h => h
    refine s_seq <| s_set <| w_lst <| wa_cons <| w_str <| wa_cons <| w_str <| wa_cons <| w_str <| wa_cons <| w_str <| wa_cons <| w_str <| wa_cons <| w_str <| wa_cons <| w_str <| wa_cons <| w_str <| wa_cons <| w_str <| wa_cons <| w_str <| wa_cons <| w_str <| wa_cons <| w_str <| wa_cons <| w_str <| wa_nil ⟨by show 13 ≤ sizeLine; decide, rfl, ?_⟩
    refine s_seq <| s_set <| w_lst <| wa_cons <| w_isX ex cR (is _ false (by decide +kernel)) rfl <| wa_cons <| w_isX ex cR (is _ true (by decide +kernel)) rfl <| wa_cons <| w_isX ex cR (is _ false (by decide +kernel)) rfl <| wa_nil ⟨by show 3 ≤ sizeLine; decide, rfl, ?_⟩
    refine s_seq <| s_set <| w_op <| w_var rfl <| w_lst <| wa_cons <| w_isX ex cR (is _ false (by decide +kernel)) rfl <| wa_cons <| w_isX ex cR (is _ false (by decide +kernel)) rfl <| wa_cons <| w_isX ex cR (is _ false (by decide +kernel)) rfl <| wa_nil ⟨by show 3 ≤ sizeLine; decide, _, od_cat (by show 6 ≤ sizeLine; decide), rfl, ?_⟩
    refine s_seq <| s_set <| w_op <| w_var rfl <| w_lst <| wa_cons <| w_isX ex cR (is _ false (by decide +kernel)) rfl <| wa_cons <| w_isX ex cR (is _ false (by decide +kernel)) rfl <| wa_cons <| w_isX ex cR (is _ false (by decide +kernel)) rfl <| wa_nil ⟨by show 3 ≤ sizeLine; decide, _, od_cat (by show 9 ≤ sizeLine; decide), rfl, ?_⟩
    refine s_seq <| s_setL <| wl_cat <| w_var rfl ⟨_, rfl, w_lst <| wa_cons <| w_isX ex cR (is _ false (by decide +kernel)) rfl <| wa_cons <| w_isX ex cR (is _ false (by decide +kernel)) rfl <| wa_cons <| w_isX ex cR (is _ false (by decide +kernel)) rfl <| wa_nil ⟨by show 3 ≤ sizeLine; decide, _, rfl, by show 12 ≤ sizeLine; decide, rfl, ?_⟩⟩
    refine s_seq <| s_app rfl <| w_isX ex cR (is _ false (by decide +kernel)) rfl ⟨_, rfl, by show 12 < sizeLine; decide, ?_⟩
    refine s_seq <| s_if <| wt_or <| wt_test <| w_op <| w_bm <| w_frz hA rfl ⟨ty_list, wa_cons <| w_bl <| wa_nil ⟨_, md_countD (by decide +kernel) (by decide +kernel) (by decide +kernel), w_int ⟨_, od_neI, _, rfl, fun _ => ?_, fun q => absurd q (by decide +kernel)⟩⟩⟩
    refine wt_not <| wt_test <| w_isX ex (c := .ty "ValueError") (cv := .type "ValueError") (fun u h => h) isv rfl ⟨_, rfl, nofun, fun _ => s_next ?_⟩
    refine s_ret <| w_op <| w_var rfl <| w_bm <| w_var rfl ⟨ty_list, wa_cons <| w_bl <| wa_nil ⟨_, md_indexD (j := 1) (by decide +kernel) (by decide +kernel) rfl (by decide +kernel) (fun m z' hm hz => ?_), _, od_ixL (atI_n (j := 1) rfl), rfl⟩⟩
    have m0 : m = 0 := by omega
    subst m0
    cases (show some (PyData.bool false) = some z' from hz)
    decide +kernel⟩
end
end Bw
set_option Elab.async false
set_option linter.all false
set_option maxRecDepth 100000
set_option maxHeartbeats 4000000
/-! repr; a def that is called where nothing is being shown. -/
namespace Bw
open PySem PySem.Spec PyProof.Rows L2 Evl
/-- as FnOk, where no guard stands -/
structure FnG (P : Program) (w : World) (K : PySem.W.Frag) (mg : Str → Option Value) (base : Heap) (CX : CXT) (k : Nat) (f : Addr) (fd : FuncData) (ps : List Str) (sp : Sp) : Prop where
  len : ∀ vs H Q E, sp vs H Q E → vs.length = ps.length
  run : ∀ (A : Around) (outer : List Env) (s : Shared) (H : Hp) (given : Args) (us : List Value) (vs : List V) (Q : VK) (E : XK), A.guards = some [] → Room k A → Env0 P w K mg base A outer s H → BindsTo s fd given (ps.zip us) → Vals vs us → sp vs H Q E →
    codeAny (model P w) A (.call (.ref f) given) (CR CX outer P w H s Q E) s
theorem fnG_of {CX : CXT} {P : Program} {w : World} {K : PySem.W.Frag} {mg : Str → Option Value} {base : Heap} {k : Nat} {f : Addr} {name qual : Str} {params : Arguments} {body : List Stmt} {scope : Scope} {fd : FuncData} {N ps : List Str} {sp : Sp}
    (F : FunD K name qual params body scope [] [] f fd) (S : FnScope N ps scope) (len : ∀ vs H Q E, sp vs H Q E → vs.length = ps.length)
    (hbody : ∀ (cdv : Value) (A : Around) (outer : List Env) (s : Shared) (H : Hp) (vs : List V) (Q : VK) (E : XK), A.guards = some [] → Room k (A.deeper (envOfC qual scope s.heap.objs.size f cdv)) → sp vs H Q E →
      ∃ t, PSs (cxOf CX P w K mg base N qual scope f cdv A outer s H E) body t ∧ t { nx := fun _ G => Q .non G, rt := Q } (L2.start N vs) H) :
    FnG P w K mg base CX (k + 1) f fd ps sp := by
  obtain ⟨_, _, dV, kV, doc, pm, an, cdv, ct, osl, rfl, lk, hcd, _, _⟩ := F.ex
  refine ⟨len, fun A outer s H given us vs Q E hg hr e0 hb r hsp => ?_⟩
  have grows := e0.bs
  have there : K.In s.heap := e0.mod.kin.keeps fun b o e => (grows b o e).1
  have free : s.heap.NoLimit := e0.mod.nolimit.keeps fun b o e => (grows b o e).1
  have kinds : ∀ y ∈ ps.zip us, scope.names.lookup y.1 = some .local ∨ (scope.names.lookup y.1 = some .cell ∧ ((cellsFrom (s.heap.objs.size + 1) scope.names []).lookup y.1).isSome = true) := by
    rintro ⟨n, v⟩ hy
    exact (S.par n (List.of_mem_zip hy).1).imp id fun q => ⟨q, PySem.W.cellsFrom_some _ _ _ (.inl q)⟩
  refine codeAny_call_function hr.depth (there _ _ lk) rfl S.co S.gen rfl (PySem.W.codeRec_of there hcd) (hb _ _ _ _ (wpAny_newFunctionEnv_cells S.kind kinds fun env he s1 x => ?_))
  cases he
  refine ⟨free.keeps x.toInCall.keep, codeAny_func ?_⟩
  obtain ⟨t, body_, sat⟩ := hbody cdv A outer s H vs Q E hg (hr.deeper _) hsp
  have I := inv_start (CX := CX) (E := E) S hr.hd e0 (len _ _ _ _ hsp) r x
  refine wpAny_mono (body_.run [] s1 (L2.start N vs) H _ I sat) (fun fl s2 out => ?_) fun _ _ q => q
  cases fl with
  | ret u =>
    obtain ⟨v, _, G, J, rv, q⟩ := out
    exact ⟨v, G, J.os, J.bare, J.base, J.hok, rv, q⟩
  | next =>
    obtain ⟨_, G, J, q⟩ := out
    exact ⟨.non, G, J.os, J.bare, J.base, J.hok, rfl, q⟩
  | brk =>
    obtain ⟨_, _, _, q⟩ := out
    exact q.elim
  | cont =>
    obtain ⟨_, _, _, q⟩ := out
    exact q.elim
/-- such a def, by its name -/
structure CalG (P : Program) (w : World) (K : PySem.W.Frag) (mg : Str → Option Value) (base : Heap) (k : Nat) (x : Str) (ps : List Str) (sp : Sp) : Prop where
  ex : ∃ (f : Addr) (fd : FuncData), FnG P w K mg base C8.CX0 k f fd ps sp ∧ mg x = some (.ref f) ∧ PySem.W.keepIn K (.ref f) = true ∧ Binds K fd ps []
theorem calG_of {P : Program} {w : World} {K : PySem.W.Frag} {mg : Str → Option Value} {base : Heap} {x : Str} {st : Stmt} {f : Addr} {N ps : List Str} {k : Nat} {sp : Sp}
    (F : ∃ fd, FunD K x x (defArgs st) (defBody st) (defScope st) [] [] f fd) (g : mg x = some (.ref f)) (S : FnScope N ps (defScope st))
    (hb : ∀ (kV doc pm : Value) (an : Option Addr) (cdv ct : Value) (us : List Value), us.length = ps.length → bindArgs (PySem.W.fnOf x x (defArgs st) (defBody st) (defScope st) .none kV doc pm an cdv ct) ⟨us, []⟩ = pure (ps.zip us))
    (hlen : ∀ vs H Q E, sp vs H Q E → vs.length = ps.length)
    (hbody : ∀ (cdv : Value) (A : Around) (outer : List Env) (s : Shared) (H : Hp) (vs : List V) (Q : VK) (E : XK), A.guards = some [] → Room k (A.deeper (envOfC x (defScope st) s.heap.objs.size f cdv)) → sp vs H Q E →
      ∃ t, PSs (cxOf C8.CX0 P w K mg base N x (defScope st) f cdv A outer s H E).nox (defBody st) t ∧ t { nx := fun _ G => Q .non G, rt := Q } (L2.start N vs) H) : CalG P w K mg base (k + 1) x ps sp := by
  obtain ⟨fd, F⟩ := F
  refine ⟨f, fd, fnG_of F S hlen fun cdv A outer s H vs Q E hg hr h => ?_, g, F.kp, F.bindsN hb⟩
  obtain ⟨t, h1, h2⟩ := hbody cdv A outer s H vs Q E hg hr h
  exact ⟨t, PSs.nox h1, h2⟩
section
variable {X : Cx}
theorem pe_cG {j k : Nat} {x : Str} {ps : List Str} {sp : Sp} {p pos : Pos} {e : Expr} {es : List Expr} {t : TA} (c : CalG X.prog X.w X.K X.mg X.base k x ps sp) (hgd : X.A.guards = some []) (hr : Room j X.A) (hk : k ≤ j) (hg : Gl X x) (ha : PA X (e :: es) t)
    (hdb : (x == ("__debug__" : Str)) = false := by decide) (he : starEach (e :: es) X.env = (false, eval e X.env) :: starEach es X.env := by rfl) (hpl : (backTo pos (starEach es X.env)).any (·.1) = false := by rfl) :
    PE X (.Call (.Name x p) (e :: es) [] pos) (tCall sp [] C8.E0 t) := by
  obtain ⟨f, fd, F, hm, kp, hb⟩ := c.ex
  refine ⟨fun pins s σ H Q I h => wpAny_Call_Name_kw (ld_glob I hg hm ?_ hdb)⟩
  refine PySem.W.callWith_K (h₀ := X.base) I.ok.mod.kin kp (thn (ha.run pos pins s σ H _ I h) fun us s1 ⟨vs, G, I1, r, q⟩ => ⟨I1.kIn, ?_⟩) he hpl
  have q0 : sp (vs ++ []) G Q C8.E0 := q
  have q' : sp vs G Q C8.E0 := by rw [List.append_nil] at q0; exact q0
  have hl : us.length = ps.length := by rw [← F.len _ _ _ _ q']; exact (Paired.length r).symm
  have hb' := hb s1 us I1.kIn (by rw [List.append_nil]; exact hl)
  rw [List.append_nil] at hb'
  refine wpAny_call (codeAny_mono (F.run X.A X.stack s1 G ⟨us, []⟩ us vs Q C8.E0 hgd (hr.mono hk) I1.env0 hb' r q') fun res s2 out => ?_)
  cases res with
  | error e => exact out.elim
  | ok fl =>
    cases fl with
    | ret u => exact I1.after out
    | next => exact out.elim
    | brk => exact out.elim
    | cont => exact out.elim
/-- repr(x), x a list or a tuple -/
def rRepr (K : PySem.W.Frag) : List V → Hp → VK → Prop := fun xs H Q => ∃ (a : Addr) (d : Pd), xs = [.ref a] ∧ Dp K H (.ref a) d ∧ d.showable = true ∧ d.hasDict = false ∧ d.depth ≤ 20 ∧ d.shown.length ≤ sizeLine ∧ Q (.str d.shown) H
theorem cr_repr (hgd : X.A.guards = some []) (hu : X.A.units + 65 < cLine) : CallR X (.builtin "repr") (rRepr X.K) := fun pins s σ H xs us Q I r h => by
  obtain ⟨a, d, ex, hd, h1, h2, h3, h4, q⟩ := h
  subst ex
  obtain ⟨u, eu, ru⟩ := vals1 r
  subst eu
  cases ru
  obtain ⟨as, rd⟩ := Dp.reads I d _ _ hd (rfl : RelV (.ref a) (.ref a))
  exact PySem.repr_of_reads' rd h1 (PyData.noDict_hsm h2) hgd (by omega) (fun b o e => e) (fun h' u tk kp => ⟨.str d.shown, H, I.kept (t' := tk) kp, ⟨u, rfl⟩, q⟩) h4
end
end Bw
set_option Elab.async false
set_option linter.all false
set_option maxRecDepth 100000
set_option maxHeartbeats 4000000
namespace Bw
open PySem PySem.Spec L2 Evl
open Bk (sLawSaid)
section
variable {K : PySem.W.Frag} {B : Bs} {ρ : Es} {tl : TA} {P : Pd → Es → Prop} {PT' : Bool → Es → Prop} {i : Nat} {C d : Addr} {fs : List (Str × V)}
theorem Rel.anyN {σ : L2.St} {F H : Hp} (r : Rel K B σ ρ F H) (h : ρ[i]? = some .n) (w : Option V) : Rel K B (σ.set i w) ρ F H := by
  have other : ∀ {j : Nat} {t : Sl}, ρ[j]? = some t → t ≠ .n → (σ.set i w)[j]? = σ[j]? := fun {j t} e n => List.getElem?_set_ne fun z => n (by rw [z, e] at h; exact Option.some.inj h)
  have own0 : ∀ {j : Nat} {t : Sl} {a : Addr}, ρ[j]? = some t → Own ((σ.set i w)[j]?.join) t = some a → t ≠ .n := fun {j t a} e o z => by
    rw [z, own_n] at o
    cases o
  refine ⟨r.sub, by rw [List.length_set]; exact r.len, fun j t e => ?_, fun j k t u a e1 e2 o1 o2 => ?_, fun j t a e o => ?_, r.f, r.h, r.o, r.dom, fun j n e => ?_⟩
  · by_cases z : t = .n
    · rw [z]; trivial
    · rw [other e z]; exact r.slot j t e
  · have n1 := own0 e1 o1
    have n2 := own0 e2 o2
    rw [other e1 n1] at o1
    rw [other e2 n2] at o2
    exact r.sep j k t u a e1 e2 o1 o2
  · have n1 := own0 e o
    rw [other e n1] at o
    exact r.own j t a e o
  · rw [other e nofun]; exact r.par j n e
theorem wt_isNX (h : ρ[i]? = some (.q (excMo C d fs))) (p : PT' false ρ) : WT K B (tB (tIsN (tVar i))) ρ PT' := fun σ F H r Q q => by
  obtain ⟨u, hu, a, eu, h2, h3⟩ := slot_q r h
  subst eu
  exact ⟨_, hu, false, rfl, q false false ρ F H p (Ex.refl _) rfl r⟩
theorem w_xk {n : Str} {v : V} {x : Pd} (T : ExcC K C) (hno : PySem.W.findIn K (.ref C) n = some none) (hl : fs.lookup n = some v) (hv : ∀ F, Dp K F v x) (h : ρ[i]? = some (.q (excMo C d fs))) (p : P x ρ) : WE K B (tXk K (tVar i) n) ρ P := fun σ F H r Q q => by
  obtain ⟨u, hu, a, eu, h2, h3⟩ := slot_q r h
  subst eu
  exact ⟨_, hu, a, C, d, fs, v, rfl, r.sub _ _ h2, r.sub _ _ h3, T, hno, hl, q v x ρ F H p (Ex.refl _) (hv F) r⟩
theorem cd_repr {x : Pd} {xs : List Pd} (hx : x = .tuple xs) (h1 : x.showable = true) (h2 : x.hasDict = false) (h3 : x.depth ≤ 20) (h4 : x.shown.length ≤ sizeLine) : CaD K (rRepr K) [x] (.str x.shown) := fun F H vs s dd Q k => by
  subst hx
  cases dd with
  | cons d1 d2 =>
    cases d2
    have d1' := d1.mono s
    cases d1 with
    | tup hs ha => exact ⟨_, _, rfl, d1', h1, h2, h3, h4, gr_id s (.str _) k⟩
end
section
variable {P : Program} {w : World} {K : PySem.W.Frag} {mg : Str → Option Value} {base : Heap}
theorem w_kind {B : Bs} {ρ : Es} {Q' : Pd → Es → Prop} {i : Nat} {d : Addr} {fs : List (Str × V)} (h : ρ[i]? = some (.q (excMo (bbC K) d fs))) (p : Q' (.str (Str.ofString "book")) ρ) : WE K B (tCall (spKind K) [] C8.E0 (tCons (tVar i) tNil)) ρ Q' := fun σ F H r Q q => by
  obtain ⟨u, hu, hΦ⟩ := slot_q r h
  exact ⟨u, hu, F, u, d, fs, rfl, r.sub, hΦ, fun v F' H' g dp => q v _ ρ F' H' p g.f dp (r.gr g)⟩
/-- the told text of a book may be laid -/
structure ShowOk (b : Bd) : Prop where
  sh : (pB b).showable = true
  nd : (pB b).hasDict = false
  dp : (pB b).depth ≤ 20
  len : (pB b).shown.length ≤ sizeLine
  cp : ∀ c ∈ (pB b).shown.cps.toList, c < 0x110000
def saidY (b : Bd) : Pd := if b.ts.isEmpty then .tuple [.str (Str.ofString "book"), .str (Str.ofString "form")] else .tuple [.str (Str.ofString "told"), .str (pB b).shown]
def spSaid (K : PySem.W.Frag) : Sp := fun vs H Q _ => ∃ (F : Hp) (b : Bd), vs = [.str (textOf (rowsW b))] ∧ Ex F H ∧ BdOk b ∧ ShowOk b ∧ rowsW b ≠ [] ∧ ∀ v F' H', Gr F H F' H' → Dp K F' v (saidY b) → Q v H'
theorem scLawSaid : FnScope ["_law_text_here", "_law_wrong", "_law_found", "e", "_law_word"] ["_law_text_here"] (defScope sLawSaid) := ⟨rfl, rfl, rfl, by decide +kernel, rfl, by decide +kernel, by decide +kernel⟩
theorem pe_cXS {X : Cx} {j k : Nat} {x : Str} {ps : List Str} {sp : Sp} {W : WX} {p pos : Pos} {e : Expr} {es : List Expr} {t : TA} (c : CalX X.prog X.w X.K X.mg X.base k x ps sp) (hr : Room j X.A) (hk : k ≤ j) (hg : Gl X x) (tk : Takes X W) (ha : PA X (e :: es) t)
    (hdb : (x == ("__debug__" : Str)) = false := by decide) (he : starEach (e :: es) X.env = (false, eval e X.env) :: starEach es X.env := by rfl) (hpl : (backTo pos (starEach es X.env)).any (·.1) = false := by rfl) :
    PE X (.Call (.Name x p) (e :: es) [] pos) (tCallS sp (L2.WE W) t) := by
  obtain ⟨f, fd, F, hm, kp, b⟩ := c.ex
  exact pe_callS F (hr.mono hk) hg hm kp b (fun σ => passAt tk σ) ha hdb he hpl
theorem calLawSaid (T : Tx K mg) : CalG P w K mg base 8 "_law_said" ["_law_text_here"] (spSaid K) :=
  calG_of (st := sLawSaid) (T.def_ 34 (d := Bk.dLawSaid) rfl) (T.glo 34) scLawSaid (fun _ _ _ _ _ _ us hl => match us, hl with | [_], _ => rfl) (fun vs H Q E ⟨_, _, e, _⟩ => by rw [e]; rfl) fun cdv A outer s H vs Q E hg hr h => by
    refine ⟨_, pss_cons (ps_set (i := 1) scLawSaid.nd rfl (by first | exact Or.inl rfl | exact Or.inr rfl) pe_non)
      (pss_cons (ps_set (i := 2) scLawSaid.nd rfl (by first | exact Or.inl rfl | exact Or.inr rfl) pe_non)
      (pss_cons (ps_try_keep (i := 3) (tb := fun W => tAsg (tCallS (spBookOf K) (L2.WE W) (tCons (tVar 0) tNil)) (gName 2)) (ts := fun _ _ _ => tAsg (tVar 3) (gName 1)) rfl rfl rfl scLawSaid.nd rfl rfl ⟨rfl, by decide, Or.inl (T.glo 36)⟩
        (fun W pn xe tk => pss_one (ps_set (i := 2) scLawSaid.nd rfl (by first | exact Or.inl rfl | exact Or.inr rfl) (by exact (pe_cXS (calBookOf T) hr (by decide) rfl tk (pa_cons (pv 0) pa_nil)))))
        (fun a oe cls d pn => pss_one (ps_set (i := 1) scLawSaid.nd rfl (by first | exact Or.inl rfl | exact Or.inr rfl) (pv 3))))
      (pss_cons (ps_if (pt_cmp (pc_isN (pv 1))) (pss_one (ps_ret (pe_tup (pa_cons pe_str (pa_cons (pe_callB (id := "repr") (Bw.cr_repr hg (Bw.u65 hr)) rfl (T.fr 66) (by decide +kernel) (pa_cons (pv 2) pa_nil)) pa_nil))))) pss_nil)
      (pss_cons (ps_set (i := 4) scLawSaid.nd rfl (by first | exact Or.inl rfl | exact Or.inr rfl) (C8.pe_c (calLawKind T) hr (by decide) rfl (pa_cons (pv 1) pa_nil)))
      (pss_cons (ps_if (pt_cmpR op_eq (pv 4) pe_str (nomark _)) (pss_one (ps_ret (pe_tup (pa_cons pe_str (pa_cons (pe_callB (id := "repr") (Bw.cr_repr hg (Bw.u65 hr)) rfl (T.fr 66) (by decide +kernel) (pa_cons (Bw.pe_xk (pv 1)) pa_nil)) pa_nil))))) pss_nil)
      (pss_one (ps_ret (pe_ifExp (pt_cmpR op_eq (pv 4) pe_str (nomark _)) (pe_tup (pa_cons (pv 4) (pa_cons (Bw.pe_xk (pv 1)) pa_nil))) (pe_tup (pa_cons (pv 4) (pa_cons pe_non pa_nil)))))))))))
      , ?_⟩
    obtain ⟨F, b, rfl, sF, hb, hsh, hne, hQ⟩ := h
    obtain ⟨bad, _, _⟩ := T.bad
    have ex : ExcC K (bbC K) := ⟨bad.ga, bad.gg, bad.oex.exC, bad.hd, bad.cls, bad.get, bad.tk, bad.mo⟩
    have r0 := rel0 (K := K) (N := ["_law_text_here", "_law_wrong", "_law_found", "e", "_law_word"]) (vs := [.str (textOf (rowsW b))]) (xs := [.str (textOf (rowsW b))]) sF (.cons (.str _) .nil)
    have r1 := (r0.putD (i := 1) (v := .non) (x := .none) (by simp [args]) .non).putD (i := 2) (v := .non) (x := .none) (by simp [args]) .non
    have fin : ∀ {σ' : L2.St} {ρ' : Es} {F' H' : Hp} (t : TS), Rel K ⟨fun _ => False, F, H, none⟩ σ' ρ' F' H' → (∀ B, S K B t ρ' { nx := fun _ => False, rt := fun z _ => z = saidY b }) → t { nx := fun _ G => Q .non G, rt := Q } σ' H' := fun {σ' ρ' F' H'} t r k => by
      refine k _ σ' F' H' r _ ⟨fun _ _ _ _ e => e.elim, fun v z _ _ F2 H2 e _ dd r2 => ?_, fun _ _ _ _ e => e.elim, fun _ _ _ _ e => e.elim⟩
      have e' : z = saidY b := e
      subst e'
      exact hQ v F2 H2 r2.out dd
    refine ⟨_, rfl, F, b, rfl, sF, hb, hne, fun e v F' H' g dp => ?_, fun e F' H' dd g hdd => ?_⟩
    · have r2 := (r1.gr g).putD (i := 2) (v := v) (x := pB b) (by simp [args]) dp
      show tSeq (tIfS (tB (tIsN (tVar 1))) _ _) _ _ _ _
      refine fin (tSeq (tIfS (tB (tIsN (tVar 1))) _ _) _) r2 fun B => ?_
      have eY : saidY b = .tuple [.str (Str.ofString "told"), .str (pB b).shown] := by unfold saidY; rw [e]; rfl
      refine s_seq <| s_if <| wt_B <| w_isN (b := true) <| w_var rfl ⟨nofun, fun _ => rfl, _, rfl, fun _ => ?_, nofun⟩
      exact s_ret <| w_tup <| wa_cons <| w_str <| wa_cons <| w_cb <| wa_cons <| w_var rfl <| wa_nil ⟨_, cd_repr rfl hsh.sh hsh.nd hsh.dp hsh.len, wa_nil ⟨by show 2 ≤ sizeLine; decide, eY.symm⟩⟩
    · have exm : PySem.W.exmOne K (.ref (bbC K)) (.ref (peC K)) = some true := He.exm_ok (T.sd.fact 93 (f := .exm "BadBook" "PlanError" true) rfl)
      refine ⟨exm, bbC K, rfl, fun a ha => ⟨.ref a, rfl, ha, ?_⟩⟩
      have g2 := Gr.new (o := badD) g.s hdd
      have g3 := Gr.new (o := exk a (bbC K) (some dd)) g2.s ha
      have nad : dd ≠ a := fun z => by rw [← z, upd_same] at ha; cases ha
      have r2 := (((r1.gr g).gr g2).gr g3).anyN (i := 3) (by rfl) (some (.ref a))
      have r3 := r2.putQ (i := 1) (v := .ref a) (Φ := excMo (bbC K) dd [(Str.ofString "what", .str (Str.ofString "form"))]) (by rfl) ⟨a, rfl, upd_same, by rw [upd_ne nad, upd_same]; rfl⟩
      have r4 := r3.anyN (i := 3) (by rfl) none
      show tSeq (tIfS (tB (tIsN (tVar 1))) _ _) _ _ _ _
      refine fin (tSeq (tIfS (tB (tIsN (tVar 1))) _ _) _) r4 fun B => ?_
      have eY : saidY b = .tuple [.str (Str.ofString "book"), .str (Str.ofString "form")] := by unfold saidY; rw [e]; rfl
      refine s_seq <| s_if <| wt_isNX rfl ⟨nofun, fun _ => s_next ?_⟩
      refine s_seq <| s_set <| w_kind rfl ⟨by rfl, ?_⟩
      refine s_seq <| s_if <| wt_test <| w_op <| w_var rfl <| w_str ⟨_, od_eqS, _, rfl, fun q => absurd q (by decide +kernel), fun _ => s_next ?_⟩
      exact s_ret <| w_if <| wt_test <| w_op <| w_var rfl <| w_str ⟨_, od_eqS, _, rfl, fun _ => w_tup <| wa_cons <| w_var rfl <| wa_cons <| w_xk ex bad.what (x := .str (Str.ofString "form")) rfl (fun _ => .str _) rfl <| wa_nil ⟨by show 2 ≤ sizeLine; decide, eY.symm⟩, fun q => absurd q (by decide +kernel)⟩
end
end Bw
set_option Elab.async false
set_option linter.all false
set_option maxRecDepth 100000
set_option maxHeartbeats 4000000
/-! A script's draws: defs that take from them. -/
namespace Bw
open PySem PySem.Spec L2 Evl
/-- what lies at a: a script's draws -/
def DrAt (H : Hp) (a : Addr) (n : Nat) : Prop := ∃ c k o : Int, H a = some (.lst [.int c, .int k, .int o]) ∧ 0 ≤ k ∧ k ≤ (n : Int) ∧ 0 ≤ o
/-- a def whose first parameter is draws: it takes at most m of them; G: what it may answer -/
def spR (K : PySem.W.Frag) (m : Nat) (R : List Pd → (Pd → Prop) → Prop) : Sp := fun vs H Q _ => ∃ (F : Hp) (a : Addr) (us : List V) (xs : List Pd) (n : Nat) (G : Pd → Prop), vs = .ref a :: us ∧ Ex F H ∧ F a = none ∧ DrAt H a n ∧ n + m ≤ 100000 ∧ DpAll K F us xs ∧ R xs G ∧
  ∀ v y F' H', G y → GrX (fun x => x = a) F H F' H' → F' a = none → DrAt H' a (n + m) → Dp K F' v y → Q v H'
section
variable {K : PySem.W.Frag} {B : Bs} {σ : L2.St} {ρ : Es} {F H F' H' : Hp} {te : TE} {tl : TA} {P : Pd → Es → Prop} {e : En}
theorem slot_r {j n : Nat} {p : Bool} (r : Rel K B σ ρ F H) (h : ρ[j]? = some (.r p n)) : ∃ a, σ[j]? = some (some (.ref a)) ∧ F a = none ∧ DrAt H a n := by
  obtain ⟨a, c, k, o, h1, h2, h3, h4⟩ := r.slot j _ h
  refine ⟨a, ?_, h2, c, k, o, h3, h4⟩
  cases z : σ[j]? with
  | none => rw [z] at h1; cases h1
  | some w => rw [z] at h1; exact congrArg some h1
/-- the draws of slot j go on -/
theorem Rel.draws {j n n' : Nat} {p : Bool} {a : Addr} (r : Rel K B σ ρ F H) (h : ρ[j]? = some (.r p n)) (ha : σ[j]? = some (some (.ref a))) (g : GrX (fun x => x = a) F H F' H') (fa : F' a = none) (d : DrAt H' a n') : Rel K B σ (ρ.set j (.r p n')) F' H' := by
  obtain ⟨b, hb, hF, c0, k0, o0, h0, _⟩ := slot_r r h
  rw [ha] at hb
  cases hb
  obtain ⟨c, k, o, hH, hk⟩ := d
  have g2 : Gr F H F' (upd H' a (.lst [.int c0, .int k0, .int o0])) := ⟨g.f, fun x u e => by
    by_cases z : x = a
    · rw [z, h0] at e
      rw [z, upd_same]; exact e
    · rw [upd_ne z]; exact g.h x u z e, fun x u e => by rw [upd_ne (ne_of_none e fa)]; exact g.s x u e, g.o⟩
  have r2 := r.gr g2
  have r3 := r2.mut (i := j) (s := .r p n) (s' := .r p n') (a := a) (o := .lst [.int c, .int k, .int o]) h (by rw [ha]; rfl) ⟨a, c, k, o, by rw [ha]; rfl, fa, upd_same, hk⟩ (by rw [ha]; rfl) (fun m e => ⟨n, by cases e; rfl⟩)
  have e : upd (upd H' a (.lst [.int c0, .int k0, .int o0])) a (.lst [.int c, .int k, .int o]) = H' := by
    funext x
    by_cases z : x = a
    · rw [z, upd_same, hH]
    · rw [upd_ne z, upd_ne z]
  rw [e] at r3
  exact r3
theorem w_callR {m j : Nat} {p : Bool} {R : List Pd → (Pd → Prop) → Prop} {n0 : Nat} (h0 : ρ[j]? = some (.r p n0)) (h : WA K B tl ρ fun xs ρ1 => ∃ n G, ρ1[j]? = some (.r p n) ∧ n + m ≤ 100000 ∧ R xs G ∧ ∀ y, G y → P y (ρ1.set j (.r p (n + m)))) :
    WE K B (tCall (spR K m R) [] C8.E0 (tCons (tVar j) tl)) ρ P := fun σ F H r Q q => by
  obtain ⟨a, ha, _⟩ := slot_r r h0
  refine ⟨.ref a, ha, h σ F H r _ fun vs xs ρ1 F1 H1 p1 e1 d1 r1 => ?_⟩
  obtain ⟨n, G, h1, h2, h3, h4⟩ := p1
  obtain ⟨b, hb, hF, hD⟩ := slot_r r1 h1
  rw [ha] at hb
  cases hb
  refine ⟨F1, a, vs, xs, n, G, by rw [List.append_nil], r1.sub, hF, hD, h2, d1, h3, fun v y F2 H2 gy g fa dr dp => ?_⟩
  exact q v y _ F2 H2 (h4 y gy) (e1.trans g.f) dp (r1.draws h1 ha g fa dr)
theorem relR {N : List Str} {a : Addr} {us : List V} {xs : List Pd} {n : Nat} (hN : us.length + 1 ≤ N.length) (s : Ex F H) (fa : F a = none) (d : DrAt H a n) (hd : DpAll K F us xs) :
    Rel K ⟨fun x => x = a, F, H, some a⟩ (L2.start N (.ref a :: us)) (.r true n :: (xs.map Sl.d ++ List.replicate (N.length - 1 - xs.length) .n)) F H := by
  have l := da_len hd
  have at0 : (L2.start N (.ref a :: us))[0]? = some (some (.ref a)) := rfl
  have key : ∀ (i : Nat) (t : Sl), (.r true n :: (xs.map Sl.d ++ List.replicate (N.length - 1 - xs.length) .n) : Es)[i]? = some t → (i = 0 ∧ t = .r true n) ∨ t = .n ∨ ∃ x v, t = .d x ∧ (L2.start N (.ref a :: us))[i]? = some (some v) ∧ Dp K F v x := fun i t e => by
    cases i with
    | zero => exact .inl ⟨rfl, (Option.some.inj e).symm⟩
    | succ i =>
      right
      have e' : (xs.map Sl.d ++ List.replicate (N.length - 1 - xs.length) .n)[i]? = some t := by simpa using e
      by_cases hi : i < xs.length
      · rw [List.getElem?_append_left (by rw [List.length_map]; exact hi), List.getElem?_map, List.getElem?_eq_getElem hi] at e'
        obtain ⟨v, h1, h2⟩ := da_get' hd (List.getElem?_eq_getElem hi)
        refine .inr ⟨xs[i], v, (Option.some.inj e').symm, ?_, h2⟩
        unfold L2.start
        rw [List.getElem?_append_left (by simp; omega), List.getElem?_map]
        simp [h1]
      · left
        rw [List.getElem?_append_right (by rw [List.length_map]; omega), List.getElem?_replicate] at e'
        split at e'
        · exact (Option.some.inj e').symm
        · cases e'
  obtain ⟨c, k, o, d1, d2⟩ := d
  refine ⟨s, ?_, fun i t e => ?_, fun i j t u b e1 e2 o1 o2 => ?_, fun i t b e o => ?_, Ex.refl _, fun _ _ _ h => h, fun _ h _ => h, fun _ h => h, fun i m e => ?_⟩
  · unfold L2.start
    simp [l]
    omega
  · rcases key i t e with ⟨h1, h2⟩ | h | ⟨x, v, h1, h2, h3⟩
    · rw [h1, h2, at0]; exact ⟨a, c, k, o, rfl, fa, d1, d2⟩
    · rw [h]; trivial
    · rw [h1, h2]; exact ⟨v, rfl, h3⟩
  · have z : ∀ {i t}, (.r true n :: (xs.map Sl.d ++ List.replicate (N.length - 1 - xs.length) .n) : Es)[i]? = some t → Own ((L2.start N (.ref a :: us))[i]?.join) t = some b → i = 0 := fun {i t} e o => by
      rcases key i t e with ⟨h1, _⟩ | h | ⟨x, v, h1, _⟩
      · exact h1
      · rw [h, own_n] at o; cases o
      · rw [h1, own_d] at o; cases o
    rw [z e1 o1, z e2 o2]
  · rcases key i t e with ⟨h1, h2⟩ | h | ⟨x, v, h1, _⟩
    · rw [h1, h2, at0] at o
      cases o
      exact .inl rfl
    · rw [h, own_n] at o; cases o
    · rw [h1, own_d] at o; cases o
  · rcases key i _ e with ⟨h1, h2⟩ | h | ⟨x, v, h1, _⟩
    · exact ⟨a, by rw [h1, at0] <;> rfl, rfl⟩
    · cases h
    · cases h1
theorem bodyR {m : Nat} {R : List Pd → (Pd → Prop) → Prop} {N : List Str} {vs : List V} {Q : VK} {E : XK} {t : TS} (h : spR K m R vs H Q E) (hN : vs.length ≤ N.length)
    (k : ∀ B n xs G, n + m ≤ 100000 → R xs G → S K B t (.r true n :: (xs.map Sl.d ++ List.replicate (N.length - 1 - xs.length) .n)) { nx := fun _ => False, rt := fun z ρ' => G z ∧ ∃ n', n' ≤ n + m ∧ ρ'[0]? = some (.r true n') }) :
    t { nx := fun _ H' => Q .non H', rt := Q } (L2.start N vs) H := by
  obtain ⟨F, a, us, xs, n, G, ev, s, fa, d, hn, hd, hR, hQ⟩ := h
  subst ev
  refine k ⟨fun x => x = a, F, H, some a⟩ n xs G hn hR _ F H (relR (by simpa using hN) s fa d hd) _ ⟨fun _ _ _ _ e => e.elim, fun v z σ' ρ' F' H' ⟨gz, n', hn', h0⟩ x dd r => ?_, fun _ _ _ _ e => e.elim, fun _ _ _ _ e => e.elim⟩
  obtain ⟨b, hb, hF, c, q, o, h1, h2, h3, h4⟩ := slot_r r h0
  obtain ⟨b', hb', hp⟩ := r.par 0 n' h0
  cases hp
  rw [hb] at hb'
  cases hb'
  exact hQ v z F' H' gz ⟨r.f, fun y u ny e => r.h y u ny e, r.sub, r.o, r.dom⟩ hF ⟨c, q, o, h1, h2, by omega, h4⟩ dd
theorem lenR {m : Nat} {R : List Pd → (Pd → Prop) → Prop} {l : Nat} (hR : ∀ xs G, R xs G → xs.length + 1 = l) : ∀ (vs : List V) (H : Hp) (Q : VK) (E : XK), spR K m R vs H Q E → vs.length = l := fun vs H Q E h => by
  obtain ⟨F, a, us, xs, n, G, ev, s, fa, d, hn, hd, h, hQ⟩ := h
  rw [ev, List.length_cons, da_len hd]
  exact hR xs G h
end
end Bw
set_option Elab.async false
set_option linter.all false
set_option maxRecDepth 100000
set_option maxHeartbeats 4000000
namespace Bw
open PySem PySem.Spec L2 Evl
open Bk (sLawMixed sLawNext)
section
variable {P : Program} {w : World} {K : PySem.W.Frag} {mg : Str → Option Value} {base : Heap}
def mixF (c k : Int) : Int := ((c % 1000000007 + 31 * k * k + 7) * 48271 % 2147483647) * (16807 + 7919 * k) % 2147483629
def RlawMixed : List Pd → Pd → Prop := fun xs y => ∃ c k : Int, xs = [.int c, .int k] ∧ 0 ≤ k ∧ k ≤ 200000 ∧ y = .int (mixF c k)
theorem scLawMixed : FnScope ["_law_cell", "_law_k", "_law_number"] ["_law_cell", "_law_k"] (defScope sLawMixed) := ⟨rfl, rfl, rfl, by decide +kernel, rfl, by decide +kernel, by decide +kernel⟩
theorem calLawMixed (T : Tx K mg) : C8.Cal P w K mg base 1 "_law_mixed" (spP K RlawMixed) [] :=
  cal_of (st := sLawMixed) (T.def_ 24 (d := Bk.dLawMixed) rfl) (T.glo 24) scLawMixed (fun _ _ _ _ _ _ us hl => match us, hl with | [_, _], _ => rfl) (lenP fun xs y ⟨_, _, e, _⟩ => by rw [e]; rfl) fun cdv A outer s H vs Q E hr h => ⟨_, (pss_cons (ps_set (i := 2) scLawMixed.nd rfl (by first | exact Or.inl rfl | exact Or.inr rfl) (pe_op op_mod (pe_op op_mul (pe_op op_add (pe_op op_add (pe_op op_mod (pv 0) pe_int) (pe_op op_mul (pe_op op_mul pe_int (pv 1)) (pv 1))) pe_int) pe_int) pe_int))
      (pss_one (ps_ret (pe_op op_mod (pe_op op_mul (pv 2) (pe_op op_add pe_int (pe_op op_mul pe_int (pv 1)))) pe_int)))), bodyP h fun B xs y hR => by
    obtain ⟨c, k, rfl, hk0, hk1, rfl⟩ := hR
    have hb : -(2 ^ 64 : Int) < k ∧ k < 2 ^ 64 := ⟨by omega, by omega⟩
    refine s_seq <| s_set <| w_op <| w_op <| w_op <| w_op <| w_op <| w_var rfl <| w_int ⟨_, od_intC (by decide), w_op <| w_op <| w_int <| w_var rfl ⟨_, od_intC (.inr hb), w_var rfl ⟨_, od_intC (.inr hb), _, od_int, w_int ⟨_, od_int, w_int ⟨_, od_intC (.inr ⟨by decide, by decide⟩), w_int ⟨_, od_intC (by decide), rfl, ?_⟩⟩⟩⟩⟩⟩
    refine s_ret <| w_op <| w_op <| w_var rfl <| w_op <| w_int <| w_op <| w_int <| w_var rfl ⟨_, od_intC (.inr hb), _, od_int, _, od_intC (.inr ⟨by omega, by omega⟩), w_int ⟨_, od_intC (by decide), rfl⟩⟩⟩
/-- one draw: a number below m -/
def Rnext : List Pd → (Pd → Prop) → Prop := fun xs G => ∃ m : Int, xs = [.int m] ∧ 1 ≤ m ∧ m < 1073741824 ∧ ∀ i : Int, 0 ≤ i → i < m → G (.int i)
theorem scLawNext : FnScope ["_law_draw_here", "_law_many", "_law_found", "_law_number"] ["_law_draw_here", "_law_many"] (defScope sLawNext) := ⟨rfl, rfl, rfl, by decide +kernel, rfl, by decide +kernel, by decide +kernel⟩
theorem calLawNext (T : Tx K mg) : C8.Cal P w K mg base 2 "_law_next" (spR K 1 Rnext) [] :=
  cal_of (st := sLawNext) (T.def_ 26 (d := Bk.dLawNext) rfl) (T.glo 26) scLawNext (fun _ _ _ _ _ _ us hl => match us, hl with | [_, _], _ => rfl) (lenR fun xs G ⟨_, e, _⟩ => by rw [e]; rfl) fun cdv A outer s H vs Q E hr h => ⟨_, (pss_cons (ps_if (pt_cmpR op_gt (pe_ix ix_list (pv 0) pe_int (fun _ _ => rfl)) pe_int (nomark _)) (pss_cons (ps_set (i := 2) scLawNext.nd rfl (by first | exact Or.inl rfl | exact Or.inr rfl) (pe_op op_mod (pe_ix ix_list (pv 0) pe_int (fun _ _ => rfl)) (pv 1)))
      (pss_cons (ps_asg (pe_op op_fdiv (pe_ix ix_list (pv 0) pe_int (fun _ _ => rfl)) (pv 1)) (pg_sub (pv 0) pe_int set_list))
      (pss_one (ps_ret (pv 2))))) pss_nil)
      (pss_cons (ps_asg (pe_op op_add (pe_ix ix_list (pv 0) pe_int (fun _ _ => rfl)) pe_int) (pg_sub (pv 0) pe_int set_list))
      (pss_cons (ps_set (i := 3) scLawNext.nd rfl (by first | exact Or.inl rfl | exact Or.inr rfl) (pe_op op_add (pe_op op_mul (C8.pe_c (calLawMixed T) hr (by decide) rfl (pa_cons (pe_ix ix_list (pv 0) pe_int (fun _ _ => rfl)) (pa_cons (pe_ix ix_list (pv 0) pe_int (fun _ _ => rfl)) pa_nil))) pe_int) (C8.pe_c (calLawMixed T) hr (by decide) rfl (pa_cons (pe_ix ix_list (pv 0) pe_int (fun _ _ => rfl)) (pa_cons (pe_op op_add (pe_ix ix_list (pv 0) pe_int (fun _ _ => rfl)) pe_int) pa_nil)))))
      (pss_one (ps_ret (pe_op op_mod (pe_op op_fdiv (pv 3) pe_int) (pv 1))))))), by
    obtain ⟨F, a, us, xs, n, G, rfl, sF, fa, ⟨c, k, o, hH, hk0, hk1, ho⟩, hn, hd, ⟨m, rfl, hm1, hm2, hG⟩, hQ⟩ := h
    cases hd with
    | cons d1 d2 =>
      cases d2
      cases d1
      have ix0 : atI [V.int c, .int k, .int o] 0 = some (.int c) := atI_n (j := 0) rfl
      have ix1 : atI [V.int c, .int k, .int o] 1 = some (.int k) := atI_n (j := 1) rfl
      have ix2 : atI [V.int c, .int k, .int o] 2 = some (.int o) := atI_n (j := 2) rfl
      refine ⟨_, rfl, a, _, 2, _, rfl, rfl, .inl (.inl hH), ix2, _, _, rfl, rfl, _, rfl, ?_⟩
      have out : ∀ (z k' o' : Int) (F' H' : Hp), 0 ≤ z → z < m → k ≤ k' → k' ≤ k + 1 → 0 ≤ o' → GrX (fun x => x = a) F H F' H' → F' a = none → H' a = some (.lst [.int c, .int k', .int o']) → Q (.int z) H' := fun z k' o' F' H' z0 z1 k1 k2 o1 g f' h' =>
        hQ _ _ F' H' (hG z z0 z1) g f' ⟨c, k', o', h', by omega, by omega, o1⟩ (.int z)
      by_cases hp : o > 0
      · rw [show decide (o > 0) = true from decide_eq_true hp]
        refine if_t ?_
        refine ⟨_, rfl, a, _, 2, _, rfl, rfl, .inl (.inl hH), ix2, _, rfl, _, _, rfl, rfl, by omega, ?_⟩
        refine ⟨_, rfl, a, _, 2, _, rfl, rfl, .inl (.inl hH), ix2, _, rfl, o, m, rfl, rfl, ⟨by omega, hm2⟩, ?_⟩
        refine ⟨_, rfl, a, _, 2, 2, rfl, rfl, hH, rfl, ?_⟩
        refine ⟨_, rfl, ?_⟩
        exact out (o % m) k (o / m) F _ (Int.emod_nonneg _ (by omega)) (Int.emod_lt_of_pos _ (by omega)) (by omega) (by omega) (Int.ediv_nonneg ho (by omega)) (GrX.put sF rfl fa) fa upd_same
      · rw [show decide (o > 0) = false from decide_eq_false hp]
        refine if_f ?_
        refine ⟨_, rfl, a, _, 1, _, rfl, rfl, .inl (.inl hH), ix1, _, _, rfl, rfl, ?_⟩
        refine ⟨_, rfl, a, _, 1, 1, rfl, rfl, hH, rfl, ?_⟩
        have g1 : GrX (fun x => x = a) F H F (upd H a (.lst ([V.int c, .int k, .int o].set 1 (.int (k + 1))))) := GrX.put sF rfl fa
        generalize hH1 : upd H a (.lst ([V.int c, .int k, .int o].set 1 (.int (k + 1)))) = H1 at g1
        have a1 : H1 a = some (.lst [.int c, .int (k + 1), .int o]) := by rw [← hH1, upd_same]; rfl
        have jx0 : atI [V.int c, .int (k + 1), .int o] 0 = some (.int c) := atI_n (j := 0) rfl
        have jx1 : atI [V.int c, .int (k + 1), .int o] 1 = some (.int (k + 1)) := atI_n (j := 1) rfl
        refine ⟨_, rfl, a, _, 0, _, rfl, rfl, .inl (.inl a1), jx0, ?_⟩
        refine ⟨_, rfl, a, _, 1, _, rfl, rfl, .inl (.inl a1), jx1, ?_⟩
        refine ⟨F, _, _, g1.s, .cons (.int c) (.cons (.int (k + 1)) .nil), ⟨c, k + 1, rfl, by omega, by omega, rfl⟩, fun v2 F2 H2 g2 d2 => ?_⟩
        cases d2
        refine ⟨mixF c (k + 1), 2147483629, rfl, rfl, .inr ⟨by decide, by decide⟩, ?_⟩
        have a2 := g2.h _ _ a1
        refine ⟨_, rfl, a, _, 0, _, rfl, rfl, .inl (.inl a2), jx0, ?_⟩
        refine ⟨_, rfl, a, _, 1, _, rfl, rfl, .inl (.inl a2), jx1, k + 1, 9001, rfl, rfl, ?_⟩
        refine ⟨F2, _, _, g2.s, .cons (.int c) (.cons (.int (k + 1 + 9001)) .nil), ⟨c, k + 1 + 9001, rfl, by omega, by omega, rfl⟩, fun v3 F3 H3 g3 d3 => ?_⟩
        cases d3
        have a3 := g3.h _ _ a2
        have g13 : GrX (fun x => x = a) F H F3 H3 := g1.trans (g2.trans g3).x
        have f3 : F3 a = none := (g2.trans g3).o a fa (by rw [a1]; nofun)
        refine ⟨_, _, rfl, rfl, ?_⟩
        refine ⟨_, rfl, _, 11, rfl, rfl, ⟨by decide, by decide⟩, _, rfl, _, m, rfl, rfl, by omega, ?_⟩
        exact out _ (k + 1) o F3 H3 (Int.emod_nonneg _ (by omega)) (Int.emod_lt_of_pos _ (by omega)) (by omega) (by omega) ho g13 f3 a3⟩
end
end Bw
set_option Elab.async false
set_option linter.all false
set_option maxRecDepth 100000
set_option maxHeartbeats 4000000
namespace Bw
open PySem PySem.Spec L2 Evl
open Bk (sLawDraw)
section
variable {P : Program} {w : World} {K : PySem.W.Frag} {mg : Str → Option Value} {base : Heap}
theorem seqBy {B : Bs} {σ : L2.St} {ρ : Es} {F H : Hp} {t u : TS} {M : Es → Prop} {D : Ends} (h : S K B t ρ { nx := M }) (r : Rel K B σ ρ F H) (k : ∀ σ' ρ' F' H', M ρ' → Ex F F' → Rel K B σ' ρ' F' H' → u D σ' H') : tSeq t u D σ H :=
  h σ F H r _ ⟨fun σ' ρ' F' H' m x r' => k σ' ρ' F' H' m x r', fun _ _ _ _ _ _ e => e.elim, fun _ _ _ _ e => e.elim, fun _ _ _ _ e => e.elim⟩
def spDraw (K : PySem.W.Frag) : Sp := fun vs H Q _ => ∃ (F : Hp) (v : V) (cs : List Int) (k : Nat), vs = [v, .int k] ∧ Ex F H ∧ Dp K F v (.list (cs.map .int)) ∧ cs.length ≤ 63 ∧ k ≤ 40 ∧
  ∀ a F' H', Gr F H F' H' → H a = none → F' a = none → DrAt H' a (64 * k) → Q (.ref a) H'
theorem scLawDraw : FnScope ["_law_script", "_law_k", "_law_cell", "_law_own", "_law_turn"] ["_law_script", "_law_k"] (defScope sLawDraw) := ⟨rfl, rfl, rfl, by decide +kernel, rfl, by decide +kernel, by decide +kernel⟩
theorem calLawDraw (T : Tx K mg) : C8.Cal P w K mg base 1 "_law_draw" (spDraw K) [] :=
  cal_of (st := sLawDraw) (T.def_ 25 (d := Bk.dLawDraw) rfl) (T.glo 25) scLawDraw (fun _ _ _ _ _ _ us hl => match us, hl with | [_, _], _ => rfl) (fun vs H Q E ⟨_, _, _, _, e, _⟩ => by rw [e]; rfl) fun cdv A outer s H vs Q E hr h => ⟨_, (pss_cons (ps_set (i := 2) scLawDraw.nd rfl (by first | exact Or.inl rfl | exact Or.inr rfl) (pe_ifExp (pt_cmpR (op_neD hr.units) (pv 0) (pe_lst pa_nil) (nomark _)) (pe_ix ix_list (pv 0) (pe_op op_mod (pv 1) (pe_callB (id := "len") call_len_seq rfl (T.fr 52) (by decide +kernel) (pa_cons (pv 0) pa_nil))) (fun _ _ => rfl)) pe_int))
      (pss_cons (ps_set (i := 3) scLawDraw.nd rfl (by first | exact Or.inl rfl | exact Or.inr rfl) (pe_ifExp (pt_cmpR op_ge (pv 2) (pe_op op_pow pe_int pe_int) (nomark _)) (pv 2) pe_int))
      (pss_cons (ps_for PassesOwn.never rfl (pi_range1 rfl (T.fr 58) (pa_cons (pe_op op_fdiv (pv 1) (pe_callB (id := "max") (call_max2 rfl) rfl (T.fr 59) (by decide +kernel) (pa_cons pe_int (pa_cons (pe_callB (id := "len") call_len_seq rfl (T.fr 52) (by decide +kernel) (pa_cons (pv 0) pa_nil)) pa_nil)))) pa_nil)) (pg_name (i := 4) scLawDraw.nd rfl (by first | exact Or.inl rfl | exact Or.inr rfl)) (pss_one (ps_set (i := 3) scLawDraw.nd rfl (by first | exact Or.inl rfl | exact Or.inr rfl) (pe_op op_fdivW (pv 3) (pe_op op_pow pe_int pe_int)))))
      (pss_one (ps_ret (pe_lst (pa_cons (pv 2) (pa_cons (pe_op op_mul pe_int (pv 1)) (pa_cons (pv 3) pa_nil))))))))), by
    obtain ⟨F, v, cs, k, rfl, sF, dv, hcs, hk, hQ⟩ := h
    have r0 := rel0 (K := K) (N := ["_law_script", "_law_k", "_law_cell", "_law_own", "_law_turn"]) (vs := [v, .int k]) (xs := [.list (cs.map .int), .int k]) sF (.cons dv (.cons (.int k) .nil))
    have shc : Sh 1 (.list (cs.map PyData.int)) := sh_list (n := 0) (shs_map fun _ _ => sh_int)
    have she : Sh 1 (.list []) := sh_list (n := 0) shs_nil
    have hl : ((cs.map PyData.int).length : Int) = (cs.length : Nat) := by rw [List.length_map]
    refine seqBy (M := fun r => ∃ c : Int, r = [.d (.list (cs.map .int)), .d (.int k), .d (.int c), .n, .n]) (s_set <| w_if <| wt_test <| w_op <| w_var rfl <| w_lst <| wa_nil ⟨Nat.zero_le _, _, od_neD shc.shaped she.shaped, _, rfl, ?_, ?_⟩) r0 ?_
    · intro q
      rw [eqv_list_nil] at q
      have hne : cs ≠ [] := by
        intro z
        rw [z] at q
        exact absurd q (by decide)
      have hpos : 0 < cs.length := List.length_pos_iff.mpr hne
      refine w_op <| w_var rfl <| w_op <| w_var rfl <| w_cb <| wa_cons <| w_var rfl <| wa_nil ⟨_, cd_lenL, _, od_intC (by rw [hl]; omega), ?_⟩
      have e : (k : Int) % ((cs.map PyData.int).length : Int) = ((k % cs.length : Nat) : Int) := by rw [hl]; omega
      rw [e]
      have lt : k % cs.length < cs.length := Nat.mod_lt _ hpos
      exact ⟨.int cs[k % cs.length], od_ixL (atI_n (by rw [List.getElem?_map, List.getElem?_eq_getElem lt]; rfl)), rfl, _, rfl⟩
    · intro q
      exact w_int ⟨rfl, _, rfl⟩
    rintro σ1 ρ1 F1 H1 ⟨c, rfl⟩ x1 r1
    refine seqBy (M := fun r => ∃ o : Int, 0 ≤ o ∧ r = [.d (.list (cs.map .int)), .d (.int k), .d (.int c), .d (.int o), .n]) (s_set <| w_if <| wt_test <| w_op <| w_var rfl <| w_op <| w_int <| w_int ⟨_, od_intC ⟨by decide, by decide, by decide⟩, _, od_cmp, _, rfl, fun q => w_var rfl ⟨rfl, c, ?_, rfl⟩, fun q => w_int ⟨rfl, 0, by decide, rfl⟩⟩) r1 ?_
    · have := of_decide_eq_true q
      have e : (10 : Int) ^ (18 : Int).toNat = 1000000000000000000 := by decide
      omega
    rintro σ2 ρ2 F2 H2 ⟨o, ho, rfl⟩ x2 r2
    refine seqBy (M := fun r => ∃ (o : Int) (z : Sl), 0 ≤ o ∧ r = [.d (.list (cs.map .int)), .d (.int k), .d (.int c), .d (.int o), z]) (s_for <| wi_range <| wa_cons <| w_op <| w_var rfl <| w_cb <| wa_cons <| w_int <| wa_cons <| w_cb <| wa_cons <| w_var rfl <| wa_nil ⟨_, cd_lenL, wa_nil ⟨_, cd_max2, _, od_intC ⟨?_, ?_⟩, wa_nil ⟨_, rfl, ?_, ?_, ?_⟩⟩⟩) r2 ?_
    · rw [hl]; split <;> omega
    · rw [hl]; split <;> omega
    · refine Int.le_trans (show -(2 ^ 62) ≤ (0 : Int) by decide) (Int.ediv_nonneg (by omega) ?_)
      rw [hl]; split <;> omega
    · exact Int.lt_of_le_of_lt (Int.ediv_le_self _ (by omega)) (by omega)
    · refine ⟨fun i r => ∃ (o : Int) (z : Sl), 0 ≤ o ∧ r = [.d (.list (cs.map .int)), .d (.int k), .d (.int c), .d (.int o), z], ⟨o, .n, ho, rfl⟩, ?_, fun r h => h⟩
      rintro i x r hx ⟨o', z, ho', rfl⟩
      refine g_name trivial rfl <| s_set <| w_op <| w_var rfl <| w_op <| w_int <| w_int ⟨_, od_intC ⟨by decide, by decide, by decide⟩, _, od_intC ⟨by decide, by decide +kernel⟩, rfl, _, _, Int.ediv_nonneg ho' (by decide), rfl⟩
    rintro σ3 ρ3 F3 H3 ⟨o3, z, ho3, rfl⟩ x3 r3
    refine (wl_lst <| wa_cons <| w_var rfl <| wa_cons <| w_op <| w_int <| w_var rfl ⟨_, od_intC (.inl ⟨by decide, by decide⟩), wa_cons <| w_var rfl <| wa_nil ⟨by show 3 ≤ sizeLine; decide, (rfl : ([.int c, .int (64 * (k : Int)), .int o3] : List Pd) = _)⟩⟩ : WL K _ _ _ (fun xs _ => [.int c, .int (64 * (k : Int)), .int o3] = xs)) σ3 F3 H3 r3 _ fun a us xs ρ4 F4 H4 e x4 r4 f4 h4 d4 b4 n4 => ?_
    subst e
    have e4 : us = [V.int c, .int (64 * (k : Int)), .int o3] := ints_of (ss := [c, 64 * (k : Int), o3]) d4
    subst e4
    exact hQ a F4 H4 r4.out b4 f4 ⟨c, 64 * (k : Int), o3, h4, by omega, by omega, ho3⟩⟩
theorem w_next {B : Bs} {ρ : Es} {te : TE} {Q' : Pd → Es → Prop} {j n0 : Nat} {p : Bool} (h0 : ρ[j]? = some (.r p n0)) (h : WE K B te ρ fun x ρ1 => ∃ (m : Int) (n : Nat), x = .int m ∧ 1 ≤ m ∧ m < 1073741824 ∧ ρ1[j]? = some (.r p n) ∧ n + 1 ≤ 100000 ∧ ∀ i : Nat, (i : Int) < m → Q' (.int (i : Nat)) (ρ1.set j (.r p (n + 1)))) :
    WE K B (tCall (spR K 1 Rnext) [] C8.E0 (tCons (tVar j) (tCons te tNil))) ρ Q' :=
  w_callR h0 <| wa_cons <| h.mono fun x ρ1 ⟨m, n, ex, h1, h2, h3, h4, h5⟩ => by
    subst ex
    refine wa_nil ⟨n, fun y => ∃ i : Nat, (i : Int) < m ∧ y = .int (i : Nat), h3, h4, ⟨m, rfl, h1, h2, fun i i0 i1 => ⟨i.toNat, by omega, by rw [Int.toNat_of_nonneg i0]⟩⟩, fun y ⟨i, i1, ey⟩ => ?_⟩
    subst ey
    exact h5 i i1
/-- a number of draws that is told to be small -/
theorem s_setR {B : Bs} {ρ : Es} {te : TE} {e : En} {i s k : Nat} {cs : List Int} (hs : ρ[s]? = some (.d (.list (cs.map .int)))) (hcs : cs.length ≤ 63) (h : WE K B te ρ fun x ρ1 => x = .int (k : Nat) ∧ k ≤ 40 ∧ ρ1[s]? = some (.d (.list (cs.map .int))) ∧ Nat.ble (i + 1) ρ1.length = true ∧ e.nx (ρ1.set i (.r false (64 * k)))) :
    S K B (tAsg (tCall (spDraw K) [] C8.E0 (tCons (tVar s) (tCons te tNil))) (gName i)) ρ e := fun σ F H r D q => by
  obtain ⟨u, hu, du⟩ := r.slot s _ hs
  have hu' : σ[s]? = some (some u) := by
    cases z : σ[s]? with
    | none => rw [z] at hu; cases hu
    | some w => rw [z] at hu; exact congrArg some hu
  refine ⟨u, hu', h σ F H r _ fun v x ρ1 F1 H1 p1 e1 d1 r1 => ?_⟩
  obtain ⟨ex, hk, _, hi, hx⟩ := p1
  subst ex
  cases d1
  refine ⟨F1, u, cs, k, rfl, r1.sub, du.mono e1, hcs, hk, fun a F2 H2 g ha fa dr => ?_⟩
  obtain ⟨c, k', o, a1, a2⟩ := dr
  have rr := r1.gr g
  have hb : B.H a = none := r1.notB ha
  exact q.nx _ _ F2 H2 hx (e1.trans g.f) (rr.put (i := i) (s := .r false (64 * k)) (v := .ref a) (Nat.le_of_ble_eq_true hi) ⟨a, c, k', o, rfl, fa, a1, a2⟩ (fun b hb' => by
    cases hb'
    exact ⟨.inr hb, fun j t _ ht => r1.notOwn ha j t ht⟩) (fun n z => by cases z))
end
end Bw
set_option Elab.async false
set_option linter.all false
set_option maxRecDepth 100000
set_option maxHeartbeats 4000000
namespace Bw
open PySem PySem.Spec L2 Evl
open Bk (sLawSome sLawWaits)
section
variable {P : Program} {w : World} {K : PySem.W.Frag} {mg : Str → Option Value} {base : Heap}
def Rsome : List Pd → (Pd → Prop) → Prop := fun zs G => ∃ xs : List Pd, zs = [.list xs] ∧ 1 ≤ xs.length ∧ xs.length ≤ 1000 ∧ ∀ i j : Nat, i < xs.length → j ≤ xs.length → G (.list ((xs.drop i ++ xs.take i).take j))
theorem scLawSome : FnScope ["_law_draw_here", "_law_things", "_law_first"] ["_law_draw_here", "_law_things"] (defScope sLawSome) := ⟨rfl, rfl, rfl, by decide +kernel, rfl, by decide +kernel, by decide +kernel⟩
theorem calLawSome (T : Tx K mg) : C8.Cal P w K mg base 3 "_law_some" (spR K 2 Rsome) [] :=
  cal_of (st := sLawSome) (T.def_ 27 (d := Bk.dLawSome) rfl) (T.glo 27) scLawSome (fun _ _ _ _ _ _ us hl => match us, hl with | [_, _], _ => rfl) (lenR fun xs G ⟨_, e, _⟩ => by rw [e]; rfl) fun cdv A outer s H vs Q E hr h => ⟨_, (pss_cons (ps_set (i := 2) scLawSome.nd rfl (by first | exact Or.inl rfl | exact Or.inr rfl) (C8.pe_c (calLawNext T) hr (by decide) rfl (pa_cons (pv 0) (pa_cons (pe_callB (id := "len") call_len_seq rfl (T.fr 52) (by decide +kernel) (pa_cons (pv 1) pa_nil)) pa_nil))))
      (pss_one (ps_ret (pe_slice sl_list (pe_op Bw.op_catS (pe_slice sl_list (pv 1) (po_some (pv 2)) po_none) (pe_slice sl_list (pv 1) po_none (po_some (pv 2)))) po_none (po_some (C8.pe_c (calLawNext T) hr (by decide) rfl (pa_cons (pv 0) (pa_cons (pe_op op_add (pe_callB (id := "len") call_len_seq rfl (T.fr 52) (by decide +kernel) (pa_cons (pv 1) pa_nil)) pe_int) pa_nil)))))))), bodyR h (by rw [lenR (l := 2) (fun xs G ⟨_, e, _⟩ => by rw [e]; rfl) _ _ _ _ h]; decide) fun B n zs G hn hR => by
    obtain ⟨xs, rfl, h1, h2, hG⟩ := hR
    refine s_seq <| s_set <| w_next rfl <| w_cb <| wa_cons <| w_var rfl <| wa_nil ⟨_, cd_lenL, _, n, rfl, by omega, by omega, rfl, by omega, fun i hi => ⟨rfl, ?_⟩⟩
    have hi' : i < xs.length := by omega
    refine s_ret <| w_sl <| w_op <| w_sl <| w_var rfl <| wo_some <| w_var rfl ⟨_, rfl, wo_none ⟨_, sd_list, w_sl <| w_var rfl <| wo_none <| wo_some <| w_var rfl ⟨_, rfl, _, sd_list, _, od_cat ?_, ?_⟩⟩⟩
    · rw [cutP_from, cutP_to, List.length_drop, List.length_take]
      exact sz_str (by omega)
    refine wo_none <| wo_some <| w_next rfl <| w_op <| w_cb <| wa_cons <| w_var rfl <| wa_nil ⟨_, cd_lenL, w_int ⟨_, od_int, _, n + 1, rfl, by omega, by omega, rfl, by omega, fun j hj => ⟨_, rfl, _, sd_list, ?_, n + 2, Nat.le_refl _, rfl⟩⟩⟩
    rw [cutP_from, cutP_to, cutP_to]
    exact hG i j hi' (by omega)⟩
/-- pairs of tasks, one ahead of the other -/
def Rwaits : List Pd → (Pd → Prop) → Prop := fun zs G => ∃ (m q : Nat), zs = [.int m, .int q] ∧ 1 ≤ m ∧ m ≤ 30 ∧ q ≤ 60 ∧ ∀ ps : List (Nat × Nat × Nat), ps.length ≤ q → (∀ p ∈ ps, p.1 < p.2.1 ∧ p.2.1 < m ∧ p.2.2 ≤ 1000) → G (.tuple (ps.map pW))
theorem scLawWaits : FnScope ["_law_draw_here", "_law_many", "_law_most", "_law_found", "_law_k", "_law_a", "_law_b"] ["_law_draw_here", "_law_many", "_law_most"] (defScope sLawWaits) := ⟨rfl, rfl, rfl, by decide +kernel, rfl, by decide +kernel, by decide +kernel⟩
theorem calLawWaits (T : Tx K mg) : C8.Cal P w K mg base 3 "_law_waits" (spR K 301 Rwaits) [] :=
  cal_of (st := sLawWaits) (T.def_ 29 (d := Bk.dLawWaits) rfl) (T.glo 29) scLawWaits (fun _ _ _ _ _ _ us hl => match us, hl with | [_, _, _], _ => rfl) (lenR fun xs G ⟨_, _, e, _⟩ => by rw [e]; rfl) fun cdv A outer s H vs Q E hr h => ⟨_, (pss_cons (ps_set (i := 3) scLawWaits.nd rfl (by first | exact Or.inl rfl | exact Or.inr rfl) (pe_lst pa_nil))
      (pss_cons (ps_for PassesOwn.never rfl (pi_range1 rfl (T.fr 58) (pa_cons (pe_ifExp (pt_cmpR op_gt (pv 1) pe_int (nomark _)) (C8.pe_c (calLawNext T) hr (by decide) rfl (pa_cons (pv 0) (pa_cons (pe_op op_add (pv 2) pe_int) pa_nil))) pe_int) pa_nil)) (pg_name (i := 4) scLawWaits.nd rfl (by first | exact Or.inl rfl | exact Or.inr rfl)) (pss_cons (ps_set (i := 5) scLawWaits.nd rfl (by first | exact Or.inl rfl | exact Or.inr rfl) (C8.pe_c (calLawNext T) hr (by decide) rfl (pa_cons (pv 0) (pa_cons (pe_op op_sub (pv 1) pe_int) pa_nil))))
      (pss_cons (ps_set (i := 6) scLawWaits.nd rfl (by first | exact Or.inl rfl | exact Or.inr rfl) (pe_op op_add (pe_op op_add (pv 5) pe_int) (C8.pe_c (calLawNext T) hr (by decide) rfl (pa_cons (pv 0) (pa_cons (pe_op op_sub (pe_op op_sub (pv 1) pe_int) (pv 5)) pa_nil)))))
      (pss_one (ps_expr (pe_bm PySem.F.plainAttrs_list PySem.F.slot_list_append PySem.F.type_list_append mt_append (pv 3) (pa_cons (pe_tup (pa_cons (pv 5) (pa_cons (pv 6) (pa_cons (pe_ix ix_list (pe_lst (pa_cons pe_int (pa_cons (C8.pe_c (calLawNext T) hr (by decide) rfl (pa_cons (pv 0) (pa_cons pe_int pa_nil))) (pa_cons (C8.pe_c (calLawNext T) hr (by decide) rfl (pa_cons (pv 0) (pa_cons pe_int pa_nil))) pa_nil)))) (pe_op op_fdiv (C8.pe_c (calLawNext T) hr (by decide) rfl (pa_cons (pv 0) (pa_cons pe_int pa_nil))) pe_int) (fun _ _ => rfl)) pa_nil)))) pa_nil)))))))
      (pss_one (ps_ret (pe_callTy (T := "tuple") (Bw.call_tupleZK (K := K) rfl) rfl (T.fr 64) (by decide +kernel) (pa_cons (pv 3) pa_nil)))))), bodyR h (by rw [lenR (l := 3) (fun xs G ⟨_, _, e, _⟩ => by rw [e]; rfl) _ _ _ _ h]; decide) fun B n zs G hn hR => by
    obtain ⟨m, q, rfl, h1, h2, h3, hG⟩ := hR
    refine s_seq <| s_setL <| wl_lst <| wa_nil ⟨Nat.zero_le _, rfl, ?_⟩
    refine s_seq (s_for <| wi_range <| wa_cons <| W.mono (P := fun x ρ1 => ∃ t n1 : Nat, x = .int (t : Nat) ∧ t ≤ q ∧ n1 ≤ n + 1 ∧ (t = 0 ∨ 1 < m) ∧ ρ1 = [.r true n1, .d (.int m), .d (.int q), .l [], .n, .n, .n]) ?_ fun x ρ1 hx => ?_)
    · refine w_if <| wt_test <| w_op <| w_var rfl <| w_int ⟨_, od_cmp, _, rfl, fun q1 => ?_, fun q1 => w_int ⟨0, n, rfl, Nat.zero_le _, by omega, .inl rfl, rfl⟩⟩
      have := of_decide_eq_true q1
      exact w_next rfl <| w_op <| w_var rfl <| w_int ⟨_, od_int, _, n, rfl, by omega, by omega, rfl, by omega, fun t ht => ⟨t, n + 1, rfl, by omega, Nat.le_refl _, .inr (by omega), rfl⟩⟩
    obtain ⟨t, n1, rfl, ht, hn1, hm, rfl⟩ := hx
    refine wa_nil ⟨_, rfl, by omega, by omega, fun i r => ∃ (ps : List (Nat × Nat × Nat)) (n2 : Nat) (x y z : Sl), ps.length = i ∧ (∀ p ∈ ps, p.1 < p.2.1 ∧ p.2.1 < m ∧ p.2.2 ≤ 1000) ∧ n2 ≤ n1 + 5 * i ∧ r = [.r true n2, .d (.int m), .d (.int q), .l (ps.map pW), x, y, z], ⟨[], n1, .n, .n, .n, rfl, by simp, Nat.le_refl _, rfl⟩, ?_, ?_⟩
    · rintro i x r hx ⟨ps, n2, x0, y0, z0, hl, hps, hn2, rfl⟩
      have hi : i < t := by
        have := (List.getElem?_eq_some_iff.mp hx).1
        rw [intsD_len] at this
        simpa using this
      have hm1 : 1 < m := by omega
      refine g_name trivial rfl ?_
      refine s_seq <| s_set <| w_next rfl <| w_op <| w_var rfl <| w_int ⟨_, od_int, _, n2, rfl, by omega, by omega, rfl, by omega, fun a ha => ⟨rfl, ?_⟩⟩
      refine s_seq <| s_set <| w_op <| w_op <| w_var rfl <| w_int ⟨_, od_int, w_next rfl <| w_op <| w_op <| w_var rfl <| w_int ⟨_, od_int, w_var rfl ⟨_, od_int, _, n2 + 1, rfl, by omega, by omega, rfl, by omega, fun j hj => ⟨_, od_int, rfl, ?_⟩⟩⟩⟩
      refine s_app rfl <| w_tup <| wa_cons <| w_var rfl <| wa_cons <| w_var rfl <| wa_cons <| w_op <| w_lst <| wa_cons <| w_int <| wa_cons <| w_next rfl <| w_int ⟨_, n2 + 2, rfl, by decide, by decide, rfl, by omega, fun g1 hg1 => wa_cons <| w_next rfl <| w_int ⟨_, n2 + 3, rfl, by decide, by decide, rfl, by omega, fun g2 hg2 => wa_nil ⟨by show 3 ≤ sizeLine; decide, w_op <| w_next rfl <| w_int ⟨_, n2 + 4, rfl, by decide, by decide, rfl, by omega, fun k hk => w_int ⟨_, od_intC ⟨by decide, by decide⟩, ?_⟩⟩⟩⟩⟩
      have ek : (k : Int) / 3 = ((k / 3 : Nat) : Int) := by omega
      obtain ⟨g, hg, eg⟩ : ∃ g : Nat, g ≤ 1000 ∧ atI [PyData.int 0, .int (g1 : Nat), .int (g2 : Nat)] ((k : Int) / 3) = some (.int (g : Nat)) := by
        rw [ek]
        have k3 : k / 3 = 0 ∨ k / 3 = 1 ∨ k / 3 = 2 := by omega
        rcases k3 with z | z | z
        · rw [z]; exact ⟨0, by omega, atI_n (j := 0) rfl⟩
        · rw [z]; exact ⟨g1, by omega, atI_n (j := 1) rfl⟩
        · rw [z]; exact ⟨g2, by omega, atI_n (j := 2) rfl⟩
      refine ⟨_, od_ixL eg, wa_nil ⟨by show 3 ≤ sizeLine; decide, _, rfl, ?_, ?_⟩⟩
      · rw [List.length_map]
        exact Nat.lt_of_le_of_lt (show _ ≤ 1000 by omega) (by decide)
      refine ⟨ps ++ [(a, a + 1 + j, g)], n2 + 5, .d (.int (0 + (i : Nat))), .d (.int a), .d (.int (a + 1 + j)), by rw [List.length_append, hl]; rfl, fun p hp => ?_, by omega, ?_⟩
      · rcases List.mem_append.mp hp with hp | hp
        · exact hps p hp
        · rw [List.mem_singleton.mp hp]
          exact ⟨by show a < a + 1 + j; omega, by show a + 1 + j < m; omega, hg⟩
      · rw [List.map_append]
        have hxv : x = .int (0 + (i : Nat)) := by
          rw [intsD_get (by simpa using hi)] at hx
          exact (Option.some.inj hx).symm
        rw [hxv]
        rfl
    · rintro r ⟨ps, n2, x0, y0, z0, hl, hps, hn2, rfl⟩
      rw [intsD_len] at hl
      have hl' : ps.length = t := by rw [hl]; simp
      rw [intsD_len] at hn2
      have hn3 : n2 ≤ n1 + 5 * t := by simpa using hn2
      exact s_ret <| w_tupOwn rfl ⟨hG ps (by omega) hps, n2, by omega, rfl⟩⟩
end
end Bw
set_option Elab.async false
set_option linter.all false
set_option maxRecDepth 100000
set_option maxHeartbeats 4000000
namespace Bw
open PySem PySem.Spec L2 Evl
open Bk (sLawTask)
section
variable {P : Program} {w : World} {K : PySem.W.Frag} {mg : Str → Option Value} {base : Heap}
/-- what a task made of machines and goods is -/
structure TkMade (name : Str) (ms : List Str) (gs : List (Str × Nat)) (t : Tk) : Prop where
  name : t.name = name
  len : 1 ≤ t.len ∧ t.len ≤ 1000
  mach : t.mach = Str.ofString "" ∨ t.mach ∈ ms
  needs : ∀ p ∈ t.needs, 1 ≤ p.2 ∧ ∃ m, (p.1, m) ∈ gs ∧ p.2 ≤ m
  sub : (t.needs.map (·.1)).Sublist (gs.map (·.1))
  first : t.first ≤ 1000000
  due : ∀ d, t.due = some d → d ≤ 1000000
  wt : t.wt ≤ 1000
def Rtask : List Pd → (Pd → Prop) → Prop := fun zs G => ∃ (name : Str) (ms : List Str) (gs : List (Str × Nat)), zs = [.str name, .list (ms.map .str), .list (gs.map pN)] ∧ ms.length ≤ 6 ∧ gs.length ≤ 4 ∧ (∀ p ∈ gs, 1 ≤ p.2 ∧ p.2 ≤ 99) ∧ ∀ t, TkMade name ms gs t → G (pT t)
theorem at3 {α : Type} {a b c : α} {k : Nat} (h : k < 3) : ∃ x, atI [a, b, c] (k : Int) = some x ∧ (x = a ∨ x = b ∨ x = c) := by
  have z : k = 0 ∨ k = 1 ∨ k = 2 := by omega
  rcases z with z | z | z
  · rw [z]; exact ⟨a, atI_n (j := 0) rfl, .inl rfl⟩
  · rw [z]; exact ⟨b, atI_n (j := 1) rfl, .inr (.inl rfl)⟩
  · rw [z]; exact ⟨c, atI_n (j := 2) rfl, .inr (.inr rfl)⟩
theorem at2 {α : Type} {a b : α} {k : Nat} (h : k < 2) : ∃ x, atI [a, b] (k : Int) = some x ∧ (x = a ∨ x = b) := by
  have z : k = 0 ∨ k = 1 := by omega
  rcases z with z | z
  · rw [z]; exact ⟨a, atI_n (j := 0) rfl, .inl rfl⟩
  · rw [z]; exact ⟨b, atI_n (j := 1) rfl, .inr rfl⟩
theorem scLawTask : FnScope ["_law_draw_here", "_law_name", "_law_machines", "_law_goods", "_law_length", "_law_machine", "_law_needs", "_law_good", "_law_many", "_law_first", "_law_due"] ["_law_draw_here", "_law_name", "_law_machines", "_law_goods"] (defScope sLawTask) := ⟨rfl, rfl, rfl, by decide +kernel, rfl, by decide +kernel, by decide +kernel⟩
theorem calLawTask (T : Tx K mg) : C8.Cal P w K mg base 3 "_law_task" (spR K 20 Rtask) [] :=
  cal_of (st := sLawTask) (T.def_ 28 (d := Bk.dLawTask) rfl) (T.glo 28) scLawTask (fun _ _ _ _ _ _ us hl => match us, hl with | [_, _, _, _], _ => rfl) (lenR fun xs G ⟨_, _, _, e, _⟩ => by rw [e]; rfl) fun cdv A outer s H vs Q E hr h => ⟨_, (pss_cons (ps_set (i := 4) scLawTask.nd rfl (by first | exact Or.inl rfl | exact Or.inr rfl) (pe_op op_add pe_int (pe_ix ix_list (pe_lst (pa_cons (C8.pe_c (calLawNext T) hr (by decide) rfl (pa_cons (pv 0) (pa_cons pe_int pa_nil))) (pa_cons (C8.pe_c (calLawNext T) hr (by decide) rfl (pa_cons (pv 0) (pa_cons pe_int pa_nil))) pa_nil))) (pe_op op_fdiv (C8.pe_c (calLawNext T) hr (by decide) rfl (pa_cons (pv 0) (pa_cons pe_int pa_nil))) pe_int) (fun _ _ => rfl))))
      (pss_cons (ps_set (i := 5) scLawTask.nd rfl (by first | exact Or.inl rfl | exact Or.inr rfl) (pe_ix ix_list (pe_op Bw.op_catS (pv 2) (pe_lst (pa_cons pe_str pa_nil))) (C8.pe_c (calLawNext T) hr (by decide) rfl (pa_cons (pv 0) (pa_cons (pe_op op_add (pe_callB (id := "len") call_len_seq rfl (T.fr 52) (by decide +kernel) (pa_cons (pv 2) pa_nil)) pe_int) pa_nil))) (fun _ _ => rfl)))
      (pss_cons (ps_set (i := 6) scLawTask.nd rfl (by first | exact Or.inl rfl | exact Or.inr rfl) (pe_lst pa_nil))
      (pss_cons (ps_for PassesOwn.never rfl (pi_list (pv 3)) (pg_tup rfl (pgs_cons (pg_name (i := 7) scLawTask.nd rfl (by first | exact Or.inl rfl | exact Or.inr rfl)) (pgs_cons (pg_name (i := 8) scLawTask.nd rfl (by first | exact Or.inl rfl | exact Or.inr rfl)) pgs_nil))) (pss_one (ps_if (pt_cmpR op_eq (C8.pe_c (calLawNext T) hr (by decide) rfl (pa_cons (pv 0) (pa_cons pe_int pa_nil))) pe_int (nomark _)) (pss_one (ps_expr (pe_bm PySem.F.plainAttrs_list PySem.F.slot_list_append PySem.F.type_list_append mt_append (pv 6) (pa_cons (pe_tup (pa_cons (pv 7) (pa_cons (pe_op op_add pe_int (C8.pe_c (calLawNext T) hr (by decide) rfl (pa_cons (pv 0) (pa_cons (pv 8) pa_nil)))) pa_nil))) pa_nil)))) pss_nil)))
      (pss_cons (ps_set (i := 9) scLawTask.nd rfl (by first | exact Or.inl rfl | exact Or.inr rfl) (pe_ix ix_list (pe_lst (pa_cons pe_int (pa_cons (C8.pe_c (calLawNext T) hr (by decide) rfl (pa_cons (pv 0) (pa_cons pe_int pa_nil))) (pa_cons (C8.pe_c (calLawNext T) hr (by decide) rfl (pa_cons (pv 0) (pa_cons pe_int pa_nil))) pa_nil)))) (pe_op op_fdiv (C8.pe_c (calLawNext T) hr (by decide) rfl (pa_cons (pv 0) (pa_cons pe_int pa_nil))) pe_int) (fun _ _ => rfl)))
      (pss_cons (ps_set (i := 10) scLawTask.nd rfl (by first | exact Or.inl rfl | exact Or.inr rfl) (pe_ix ix_list (pe_lst (pa_cons pe_non (pa_cons (C8.pe_c (calLawNext T) hr (by decide) rfl (pa_cons (pv 0) (pa_cons pe_int pa_nil))) (pa_cons (C8.pe_c (calLawNext T) hr (by decide) rfl (pa_cons (pv 0) (pa_cons pe_int pa_nil))) pa_nil)))) (pe_op op_fdiv (C8.pe_c (calLawNext T) hr (by decide) rfl (pa_cons (pv 0) (pa_cons pe_int pa_nil))) pe_int) (fun _ _ => rfl)))
      (pss_one (ps_ret (pe_tup (pa_cons (pv 1) (pa_cons (pv 4) (pa_cons (pv 5) (pa_cons (pe_callTy (T := "tuple") (Bw.call_tupleZK (K := K) rfl) rfl (T.fr 64) (by decide +kernel) (pa_cons (pv 6) pa_nil)) (pa_cons (pv 9) (pa_cons (pv 10) (pa_cons (pe_ix ix_list (pe_lst (pa_cons pe_int (pa_cons pe_int (pa_cons (C8.pe_c (calLawNext T) hr (by decide) rfl (pa_cons (pv 0) (pa_cons pe_int pa_nil))) pa_nil)))) (C8.pe_c (calLawNext T) hr (by decide) rfl (pa_cons (pv 0) (pa_cons pe_int pa_nil))) (fun _ _ => rfl)) pa_nil)))))))))))))))), bodyR h (by rw [lenR (l := 4) (fun xs G ⟨_, _, _, e, _⟩ => by rw [e]; rfl) _ _ _ _ h]; decide) fun B n zs G hn hR => by
    obtain ⟨name, ms, gs, rfl, h1, h2, h3, hG⟩ := hR
    -- its length
    refine s_seq <| s_set <| w_op <| w_int <| w_op <| w_lst <| wa_cons <| w_next rfl <| w_int ⟨_, n, rfl, by decide, by decide, rfl, by omega, fun a ha => wa_cons <| w_next rfl <| w_int ⟨_, n + 1, rfl, by decide, by decide, rfl, by omega, fun b hb => wa_nil ⟨by show 2 ≤ sizeLine; decide, w_op <| w_next rfl <| w_int ⟨_, n + 2, rfl, by decide, by decide, rfl, by omega, fun k hk => w_int ⟨_, od_intC ⟨by decide, by decide⟩, ?_⟩⟩⟩⟩⟩
    have ek : (k : Int) / 7 = ((k / 7 : Nat) : Int) := by omega
    obtain ⟨l, el, hl⟩ := at2 (a := PyData.int (a : Nat)) (b := .int (b : Nat)) (k := k / 7) (by omega)
    obtain ⟨len, rfl, hlen⟩ : ∃ g : Nat, l = .int (g : Nat) ∧ g ≤ 999 := by
      rcases hl with z | z
      · exact ⟨a, z, by omega⟩
      · exact ⟨b, z, by omega⟩
    rw [ek]
    refine ⟨_, od_ixL el, _, od_int, rfl, ?_⟩
    -- its machine
    have hc : ((ms.map PyData.str).length : Int) = (ms.length : Nat) := by rw [List.length_map]
    refine s_seq <| s_set <| w_op <| w_op <| w_var rfl <| w_lst <| wa_cons <| w_str <| wa_nil ⟨by show 1 ≤ sizeLine; decide, _, od_cat (sz_str (by rw [List.length_map]; show ms.length + 1 ≤ 10000; omega)), w_next rfl <| w_op <| w_cb <| wa_cons <| w_var rfl <| wa_nil ⟨_, cd_lenL, w_int ⟨_, od_int, _, n + 3, rfl, by omega, by omega, rfl, by omega, fun i hi => ?_⟩⟩⟩
    have hi' : i < ms.length + 1 := by omega
    obtain ⟨mch, em, hm⟩ : ∃ mch : Str, (ms.map PyData.str ++ [.str (Str.ofString "")])[i]? = some (.str mch) ∧ (mch = Str.ofString "" ∨ mch ∈ ms) := by
      by_cases q : i < ms.length
      · exact ⟨ms[i], by rw [List.getElem?_append_left (by rw [List.length_map]; exact q), List.getElem?_map, List.getElem?_eq_getElem q]; rfl, .inr (List.getElem_mem q)⟩
      · exact ⟨_, by rw [List.getElem?_append_right (by rw [List.length_map]; omega), List.length_map, show i - ms.length = 0 by omega]; rfl, .inl rfl⟩
    refine ⟨_, od_ixL (atI_n em), rfl, ?_⟩
    refine s_seq <| s_setL <| wl_lst <| wa_nil ⟨Nat.zero_le _, rfl, ?_⟩
    -- its needs
    refine s_seq <| s_for <| wi_list <| w_var rfl ⟨_, rfl, fun i r => ∃ (ns : List (Str × Nat)) (n2 : Nat) (x y : Sl), (ns.map (·.1)).Sublist ((gs.take i).map (·.1)) ∧ (∀ p ∈ ns, 1 ≤ p.2 ∧ ∃ m, (p.1, m) ∈ gs ∧ p.2 ≤ m) ∧ n2 ≤ n + 4 + 2 * i ∧
      r = [.r true n2, .d (.str name), .d (.list (ms.map .str)), .d (.list (gs.map pN)), .d (.int (1 + (len : Nat))), .d (.str mch), .l (ns.map pN), x, y, .n, .n], ⟨[], n + 4, .n, .n, by simp, by simp, Nat.le_refl _, rfl⟩, ?_, ?_⟩
    · rintro j x r hx ⟨ns, n2, x0, y0, hs, hns, hn2, rfl⟩
      rw [List.getElem?_map] at hx
      cases e1 : gs[j]? with
      | none => rw [e1] at hx; cases hx
      | some p =>
        rw [e1] at hx
        cases hx
        obtain ⟨hj, he⟩ := List.getElem?_eq_some_iff.mp e1
        have hp := h3 p (List.mem_of_getElem? e1)
        have hlen2 : ns.length ≤ 4 := by
          have := hs.length_le
          rw [List.length_map, List.length_map, List.length_take] at this
          omega
        have tk1 : (gs.take (j + 1)).map (·.1) = (gs.take j).map (·.1) ++ [p.1] := by rw [List.take_succ_eq_append_getElem hj, he, List.map_append]; rfl
        refine g_tup rfl rfl <| gs_cons <| g_name trivial rfl <| gs_cons <| g_name trivial rfl <| gs_nil ?_
        refine s_if <| wt_test <| w_op <| w_next rfl <| w_int ⟨_, n2, rfl, by decide, by decide, rfl, by omega, fun u hu => w_int ⟨_, od_eqI, _, rfl, fun _ => ?_, fun _ => s_next ?_⟩⟩
        · refine s_app rfl <| w_tup <| wa_cons <| w_var rfl <| wa_cons <| w_op <| w_int <| w_next rfl <| w_var rfl ⟨_, n2 + 1, rfl, by omega, by omega, rfl, by omega, fun v hv => ⟨_, od_int, wa_nil ⟨by show 2 ≤ sizeLine; decide, _, rfl, ?_, ?_⟩⟩⟩
          · rw [List.length_map]
            exact Nat.lt_of_le_of_lt (show _ ≤ 1000 by omega) (by decide)
          refine ⟨ns ++ [(p.1, 1 + v)], n2 + 2, .d (.str p.1), .d (.int p.2), ?_, fun q hq => ?_, by omega, ?_⟩
          · rw [tk1, List.map_append]
            exact hs.append (List.Sublist.refl _)
          · rcases List.mem_append.mp hq with hq | hq
            · exact hns q hq
            · rw [List.mem_singleton.mp hq]
              exact ⟨by show 1 ≤ 1 + v; omega, p.2, List.mem_of_getElem? e1, by show 1 + v ≤ p.2; omega⟩
          · rw [List.map_append]
            have ev : (1 : Int) + (v : Nat) = ((1 + v : Nat) : Int) := by omega
            rw [ev]
            rfl
        · refine ⟨ns, n2 + 1, .d (.str p.1), .d (.int p.2), ?_, hns, by omega, rfl⟩
          rw [tk1]
          exact hs.trans (List.sublist_append_left _ _)
    rintro r ⟨ns, n2, x0, y0, hs, hns, hn2, rfl⟩
    rw [List.length_map] at hs hn2
    rw [List.take_length] at hs
    have hgs : 2 * gs.length ≤ 8 := by omega
    -- its first hour
    refine s_seq <| s_set <| w_op <| w_lst <| wa_cons <| w_int <| wa_cons <| w_next rfl <| w_int ⟨_, n2, rfl, by decide, by decide, rfl, by omega, fun a ha => wa_cons <| w_next rfl <| w_int ⟨_, n2 + 1, rfl, by decide, by decide, rfl, by omega, fun b hb => wa_nil ⟨by show 3 ≤ sizeLine; decide, w_op <| w_next rfl <| w_int ⟨_, n2 + 2, rfl, by decide, by decide, rfl, by omega, fun k hk => w_int ⟨_, od_intC ⟨by decide, by decide⟩, ?_⟩⟩⟩⟩⟩
    have ek : (k : Int) / 5 = ((k / 5 : Nat) : Int) := by omega
    rw [ek]
    obtain ⟨l, el, hl⟩ := at3 (a := PyData.int 0) (b := PyData.int (a : Nat)) (c := .int (b : Nat)) (k := k / 5) (by omega)
    obtain ⟨first, rfl, hfirst⟩ : ∃ g : Nat, l = .int (g : Nat) ∧ g ≤ 1000000 := by
      rcases hl with z | z | z
      · exact ⟨0, z, by omega⟩
      · exact ⟨a, z, by omega⟩
      · exact ⟨b, z, by omega⟩
    refine ⟨_, od_ixL el, rfl, ?_⟩
    -- when it is due
    refine s_seq <| s_set <| w_op <| w_lst <| wa_cons <| w_non <| wa_cons <| w_next rfl <| w_int ⟨_, n2 + 3, rfl, by decide, by decide, rfl, by omega, fun a2 ha2 => wa_cons <| w_next rfl <| w_int ⟨_, n2 + 4, rfl, by decide, by decide, rfl, by omega, fun b2 hb2 => wa_nil ⟨by show 3 ≤ sizeLine; decide, w_op <| w_next rfl <| w_int ⟨_, n2 + 5, rfl, by decide, by decide, rfl, by omega, fun k2 hk2 => w_int ⟨_, od_intC ⟨by decide, by decide⟩, ?_⟩⟩⟩⟩⟩
    have ek2 : (k2 : Int) / 5 = ((k2 / 5 : Nat) : Int) := by omega
    rw [ek2]
    obtain ⟨l2, el2, hl2⟩ := at3 (a := PyData.none) (b := PyData.int (a2 : Nat)) (c := .int (b2 : Nat)) (k := k2 / 5) (by omega)
    obtain ⟨due, rfl, hdue⟩ : ∃ g : Option Nat, l2 = pD g ∧ ∀ d, g = some d → d ≤ 1000000 := by
      rcases hl2 with z | z | z
      · exact ⟨none, z, nofun⟩
      · exact ⟨some a2, z, fun d e => by cases e; omega⟩
      · exact ⟨some b2, z, fun d e => by cases e; omega⟩
    refine ⟨_, od_ixL el2, rfl, ?_⟩
    refine s_ret <| w_tup <| wa_cons <| w_var rfl <| wa_cons <| w_var rfl <| wa_cons <| w_var rfl <| wa_cons <| w_tupOwn rfl <| wa_cons <| w_var rfl <| wa_cons <| w_var rfl <| wa_cons <| w_op <| w_lst <| wa_cons <| w_int <| wa_cons <| w_int <| wa_cons <| w_next rfl <| w_int ⟨_, n2 + 6, rfl, by decide, by decide, rfl, by omega, fun w0 hw0 => wa_nil ⟨by show 3 ≤ sizeLine; decide, w_next rfl <| w_int ⟨_, n2 + 7, rfl, by decide, by decide, rfl, by omega, fun k3 hk3 => ?_⟩⟩⟩
    obtain ⟨l3, el3, hl3⟩ := at3 (a := PyData.int 0) (b := PyData.int 1) (c := .int (w0 : Nat)) (k := k3) (by omega)
    obtain ⟨wt, rfl, hwt⟩ : ∃ g : Nat, l3 = .int (g : Nat) ∧ g ≤ 1000 := by
      rcases hl3 with z | z | z
      · exact ⟨0, z, by omega⟩
      · exact ⟨1, z, by omega⟩
      · exact ⟨w0, z, by omega⟩
    refine ⟨_, od_ixL el3, wa_nil ⟨by show 7 ≤ sizeLine; decide, ?_, n2 + 8, by omega, rfl⟩⟩
    have e1 : (1 : Int) + (len : Nat) = ((1 + len : Nat) : Int) := by omega
    have := hG ⟨name, 1 + len, mch, ns, first, due, wt⟩ ⟨rfl, ⟨by show 1 ≤ 1 + len; omega, by show 1 + len ≤ 1000; omega⟩, hm, hns, hs, hfirst, hdue, hwt⟩
    rw [e1]
    exact this⟩
end
end Bw
set_option Elab.async false
set_option linter.all false
set_option maxRecDepth 100000
set_option maxHeartbeats 4000000
namespace Bk
open PySem
/-- the scope of the comprehension over the names -/
def lcScopeLawShifted1 : Scope := match (L2.defBody sLawShifted).getD 1 (.Pass ⟨0, 0, 0, 0⟩) with
  | .Return (some (.ListComp _ _ sc _)) _ => { sc with names := sc.names.map fun p => (p.1, if p.2 = .free then .cell else p.2) }
  | _ => ⟨.module, [], false, false, []⟩
end Bk
namespace Bw
open PySem PySem.Spec L2 Evl
open Bk (sLawShifted)
section
variable {P : Program} {w : World} {K : PySem.W.Frag} {mg : Str → Option Value} {base : Heap}
theorem pe_joinK {X : Cx} {K : PySem.W.Frag} {o e : Expr} {to te : TE} {apos cpos : Pos} (h : X.K = K) (ho : PE X o to) (he : PE X e te) (hs : starEach [e] X.env = [(false, eval e X.env)] := by rfl) (hb : attributeBase o "join" X.env (eval o X.env) = eval o X.env := by rfl) (hl : (apos.endLine == cpos.line) = true := by rfl) : PE X (.Call (.Attribute o "join" apos) [e] [] cpos) (tM1 (rJoin K) to te) := by
  subst h
  exact pe_join (hs := hs) (hbase := hb) (hline := hl) ho he
theorem pe_bmK {X : Cx} {K : PySem.W.Frag} {T id : String} {name : Str} {o e : Expr} {es : List Expr} {to : TE} {t : TA} {apos cpos : Pos} {r : V → List V → Hp → VK → Prop} (h : X.K = K) (pa : PlainAttrs T) (slot : Slot T name id) (hty : typeOf (.builtin id) = pure (.type "method_descriptor")) (hm : MtR X id r) (ho : PE X o to) (ha : PA X (e :: es) t)
    (h1 : attributeBase o name X.env (eval o X.env) = eval o X.env := by rfl)
    (h2 : ((backTo cpos (starEach (e :: es) X.env)).all (fun x => !x.1) && (backToKw cpos (keywordEach [] X.env)).all (fun x => x.1.isSome) && decide ((e :: es).length + ([] : List Keyword).length + (if ([] : List Keyword).isEmpty then 0 else 1) < 30)) = true := by rfl)
    (h3 : (apos.endLine == cpos.line) = true := by rfl) (h4 : starEach (e :: es) X.env = (false, eval e X.env) :: starEach es X.env := by rfl) (h5 : (backTo cpos (starEach es X.env)).any (·.1) = false := by rfl) :
    PE X (.Call (.Attribute o name apos) (e :: es) [] cpos) (tBM K T r to t) := by
  subst h
  exact pe_bm (hbase := h1) (hfew := h2) (hline := h3) (hs := h4) (hplain := h5) pa slot hty hm ho ha
def shiftC (b c : Nat) : Nat := 97 + (c - 97 + b) % 26
def shiftS (b : Nat) (w : Str) : Str := ⟨(w.cps.toList.map (shiftC b)).toArray⟩
abbrev rSix : V → List V → Hp → VK → Prop := fun x xs H Q => ∃ a b i rest, x = .str a ∧ xs = [.str b] ∧ Builtin.Str.occurrences a b 0 a.length 1 = i :: rest ∧ Q (.int (i : Nat)) H
def abc : Str := Str.ofString "abcdefghijklmnopqrstuvwxyz"
theorem abc_at : ∀ c : Fin 26, Builtin.Str.occurrences abc ⟨#[97 + c.val]⟩ 0 abc.length 1 = [c.val] ∧ abc.cps.toList[c.val]? = some (97 + c.val) := by decide +kernel
theorem md_six {c : Nat} (h : 97 ≤ c ∧ c ≤ 122) : MeD K rSix (.str abc) [.str ⟨#[c]⟩] (.int (c - 97 : Nat)) := fun F H v vs s d1 d2 Q k => by
  cases d1
  cases d2 with
  | cons d2 d3 =>
    cases d3
    cases d2
    have z := (abc_at ⟨c - 97, by omega⟩).1
    have e : 97 + (c - 97) = c := by omega
    rw [show (97 + (⟨c - 97, by omega⟩ : Fin 26).val) = c from e] at z
    exact ⟨abc, _, c - 97, [], rfl, rfl, z, gr_id s (.int _) k⟩
theorem join_sgs : ∀ (cs : List Nat), Txt.join (Str.ofString "") (cs.map fun c => (⟨#[c]⟩ : Str)) = ⟨cs.toArray⟩ := fun cs => by
  rw [TL.join_eq]
  refine TL.ext_tl ?_
  have e0 : TL.tl (Str.ofString "") = [] := by rw [TL.tl_ofString]; rfl
  rw [TL.tl_join, List.map_map]
  rw [e0]
  have key : ∀ l : List Nat, TL.joinL [] (l.map (TL.tl ∘ fun c => (⟨#[c]⟩ : Str))) = l := by
    intro l
    induction l with
    | nil => rfl
    | cons a l ih =>
      cases l with
      | nil => rfl
      | cons b l =>
        simp only [List.map_cons] at ih ⊢
        show [a] ++ [] ++ TL.joinL [] _ = _
        rw [ih]
        rfl
  exact (key cs).trans rfl
theorem scLawShifted : FnScope ["_law_names", "_law_by", "_law_letters", "_law_sign", "_law_name"] ["_law_names", "_law_by"] (defScope sLawShifted) := ⟨rfl, rfl, rfl, by decide +kernel, rfl, by decide +kernel, by decide +kernel⟩
def RlawShifted : List Pd → Pd → Prop := fun xs y => ∃ (ws : List Str) (b : Nat), xs = [.list (ws.map .str), .int b] ∧ (∀ w ∈ ws, NameOk w) ∧ ws.length ≤ 100 ∧ b < 26 ∧ y = .list ((ws.map (shiftS b)).map .str)
theorem calLawShifted (T : Tx K mg) : C8.Cal P w K mg base 1 "_law_shifted" (spP K RlawShifted) [] :=
  cal_of (st := sLawShifted) (T.def_ 30 (d := Bk.dLawShifted) rfl) (T.glo 30) scLawShifted (fun _ _ _ _ _ _ us hl => match us, hl with | [_, _], _ => rfl) (lenP fun xs y ⟨_, _, e, _⟩ => by rw [e]; rfl) fun cdv A outer s H vs Q E hr h => ⟨_, (pss_cons (ps_set (i := 2) scLawShifted.nd rfl (by first | exact Or.inl rfl | exact Or.inr rfl) pe_str)
      (pss_one (ps_ret (pe_lc (own := [("_law_name", 4)]) (g := gName 4) rfl scLawShifted.nd (pi_list (pv 0)) (blkOk_by (own := [("_law_name", 4)]) (N := ["_law_names", "_law_by", "_law_letters", "_law_sign", "_law_name"]) (sc := (defScope sLawShifted)) (by decide +kernel)) (fun _ _ _ _ _ => (pg_name (i := 4) scLawShifted.nd rfl (by first | exact Or.inl rfl | exact Or.inr rfl))) (fun _ _ _ _ _ => pts_nil) (fun _ _ _ _ _ => (by exact (by exact (Bw.pe_joinK (K := K) rfl pe_str (by exact (by exact (pe_lc (wi := iStr (tVar 4)) (own := [("_law_sign", 3)]) (g := gName 3) rfl scLawShifted.nd (pi_str (pv 4)) (blkOk_by (own := [("_law_sign", 3)]) (N := ["_law_names", "_law_by", "_law_letters", "_law_sign", "_law_name"]) (sc := Bk.lcScopeLawShifted1) (by decide +kernel)) (fun _ _ _ _ _ => (pg_name (i := 3) scLawShifted.nd rfl (by first | exact Or.inl rfl | exact Or.inr rfl))) (fun _ _ _ _ _ => pts_nil) (fun _ _ _ _ _ => (pe_ix ix_str (pv 2) (pe_op op_mod (pe_op op_add (Bw.pe_bmK (K := K) rfl PySem.F.plainAttrs_str PySem.F.slot_str_index PySem.F.type_str_index mt_sindex (pv 2) (pa_cons (pv 3) pa_nil)) (pv 1)) pe_int) (fun _ _ => rfl)))))))))))))), bodyP h fun B xs y hR => by
    obtain ⟨ws, b, rfl, hw, hl, hb, rfl⟩ := hR
    refine s_seq <| s_set <| w_str ⟨rfl, ?_⟩
    refine s_ret <| w_fr <| wl_mapA <| wi_list <| w_var rfl ⟨_, rfl, ws, .str, fun w => .str (shiftS b w), rfl, Nat.le_trans hl (by decide), rfl, fun w hwm B' => ?_, ?_⟩
    · have hn := hw w hwm
      refine g_name (by decide) rfl <| w_m1 <| w_str ⟨rfl, w_fr <| wl_mapA <| wi_str <| w_var rfl ⟨w, rfl, w.cps.toList, fun c => .str ⟨#[c]⟩, fun c => .str ⟨#[shiftC b c]⟩, rfl, ?_, rfl, fun c hc B2 => ?_, ?_⟩⟩
      · have := hn.hi
        have e : w.cps.toList.length = w.length := Array.length_toList
        rw [e]
        exact sz_str (by omega)
      · have hs := hn.sg c hc
        refine g_name (by decide) rfl <| w_op <| w_var rfl <| w_op <| w_op <| w_bm <| w_var rfl ⟨ty_str, wa_cons <| w_var rfl <| wa_nil ⟨_, md_six hs, w_var rfl ⟨_, od_int, w_int ⟨_, od_intC (by decide), ?_⟩⟩⟩⟩
        have e1 : (((c - 97 : Nat) : Int) + (b : Int)) % 26 = (((c - 97 + b) % 26 : Nat) : Int) := by omega
        rw [e1]
        have z := (abc_at ⟨(c - 97 + b) % 26, Nat.mod_lt _ (by decide)⟩).2
        exact ⟨_, od_ixS (by decide +kernel) (atI_n z), rfl, rfl⟩
      · refine ⟨.str (shiftS b w), ?_, rfl, rfl⟩
        have e : (w.cps.toList.map fun c => PyData.str ⟨#[shiftC b c]⟩) = ((w.cps.toList.map (shiftC b)).map fun c => (⟨#[c]⟩ : Str)).map PyData.str := by rw [List.map_map, List.map_map]; rfl
        have e2 : shiftS b w = Txt.join (Str.ofString "") ((w.cps.toList.map (shiftC b)).map fun c => (⟨#[c]⟩ : Str)) := (join_sgs _).symm
        rw [e2]
        show MeD K (rJoin K) _ [.list (w.cps.toList.map fun c => PyData.str ⟨#[shiftC b c]⟩)] _
        rw [e]
        refine md_join ?_
        have h9 : (Str.ofString "").length = 0 := by decide +kernel
        rw [h9]
        have := hn.hi
        have e3 : w.cps.toList.length = w.length := Array.length_toList
        refine join_fits (k := 1) (n := 8) (m := 0) (fun y hy => ?_) ?_ (by decide)
        · obtain ⟨c, _, rfl⟩ := List.mem_map.mp hy
          exact Nat.le_refl _
        · rw [List.length_map, List.length_map, e3]; exact this
    · rw [List.map_map]; rfl⟩
end
end Bw
set_option Elab.async false
set_option linter.all false
set_option maxRecDepth 100000
set_option maxHeartbeats 4000000
/-! Names that are shifted, taken and cut. -/
namespace Bw
open PySem PySem.Spec L2 Evl
theorem shift_ok {b : Nat} {w : Str} (h : NameOk w) : NameOk (shiftS b w) := by
  have e : (shiftS b w).length = w.length := by
    unfold shiftS
    show (w.cps.toList.map (shiftC b)).toArray.size = w.cps.size
    rw [List.size_toArray, List.length_map, Array.length_toList]
  refine ⟨by rw [e]; exact h.lo, by rw [e]; exact h.hi, fun c hc => ?_⟩
  have hc' : c ∈ w.cps.toList.map (shiftC b) := hc
  obtain ⟨d, _, rfl⟩ := List.mem_map.mp hc'
  unfold shiftC
  omega
theorem shift_inj {b : Nat} {v w : Str} (hv : NameOk v) (hw : NameOk w) (h : shiftS b v = shiftS b w) : v = w := by
  have e : v.cps.toList.map (shiftC b) = w.cps.toList.map (shiftC b) := congrArg (fun z : Str => z.cps.toList) h
  have key : ∀ (l m : List Nat), (∀ c ∈ l, 97 ≤ c ∧ c ≤ 122) → (∀ c ∈ m, 97 ≤ c ∧ c ≤ 122) → l.map (shiftC b) = m.map (shiftC b) → l = m := by
    intro l
    induction l with
    | nil =>
      intro m _ _ e
      cases m with
      | nil => rfl
      | cons a m => cases e
    | cons a l ih =>
      intro m h1 h2 e
      cases m with
      | nil => cases e
      | cons a' m =>
        have e1 : shiftC b a = shiftC b a' := (List.cons.inj e).1
        have e2 := ih m (fun c hc => h1 c (.tail _ hc)) (fun c hc => h2 c (.tail _ hc)) (List.cons.inj e).2
        have g1 := h1 a (.head _)
        have g2 := h2 a' (.head _)
        have : a = a' := by
          unfold shiftC at e1
          omega
        rw [this, e2]
  have z := key _ _ hv.sg hw.sg e
  exact Str.ext' (Array.toList_inj.mp z)
theorem shift_nodup {b : Nat} {ws : List Str} (h : ∀ w ∈ ws, NameOk w) (nd : ws.Nodup) : (ws.map (shiftS b)).Nodup := by
  induction ws with
  | nil => exact List.nodup_nil
  | cons w ws ih =>
    rw [List.nodup_cons] at nd
    rw [List.map_cons, List.nodup_cons]
    refine ⟨fun z => ?_, ih (fun v hv => h v (.tail _ hv)) nd.2⟩
    obtain ⟨v, hv, e⟩ := List.mem_map.mp z
    have := shift_inj (h v (.tail _ hv)) (h w (.head _)) e
    exact nd.1 (by rw [← this]; exact hv)
/-- a turned list, cut -/
theorem turned {α : Type} {xs : List α} (nd : xs.Nodup) (i j : Nat) : ((xs.drop i ++ xs.take i).take j).Nodup ∧ (∀ x ∈ (xs.drop i ++ xs.take i).take j, x ∈ xs) ∧ ((xs.drop i ++ xs.take i).take j).length ≤ xs.length := by
  have p : (xs.drop i ++ xs.take i).Perm xs := (List.perm_append_comm).trans (by rw [List.take_append_drop])
  refine ⟨List.Sublist.nodup (List.take_sublist _ _) (p.nodup_iff.mpr nd), fun x hx => p.mem_iff.mp (List.mem_of_mem_take hx), ?_⟩
  rw [List.length_take, ← p.length_eq]
  exact Nat.min_le_right _ _
def wdName (w : Str) : Bool := decide (1 ≤ w.length) && (decide (w.length ≤ 8) && w.cps.toList.all fun c => decide (97 ≤ c) && decide (c ≤ 122))
theorem name_dec {w : Str} (h : wdName w = true) : NameOk w := by
  unfold wdName at h
  simp only [Bool.and_eq_true, decide_eq_true_eq, List.all_eq_true] at h
  exact ⟨h.1, h.2.1, fun c hc => h.2.2 c hc⟩
def machL : List Str := [Str.ofString "saw", Str.ofString "oven", Str.ofString "a", Str.ofString "zzzzzzzz", Str.ofString "press", Str.ofString "sa"]
def goodL : List Str := [Str.ofString "hand", Str.ofString "room", Str.ofString "h", Str.ofString "handy"]
theorem machL_ok : machL.Nodup ∧ (machL.all wdName) = true := by decide +kernel
theorem goodL_ok : goodL.Nodup ∧ (goodL.all wdName) = true := by decide +kernel
def nmK (k : Nat) : Str := cutS (abc ++ Str.ofString "nooon") (some (k : Int)) (some ((k + 1 + k % 3 : Nat) : Int))
theorem nmK_ok : ((List.range 30).map nmK).Nodup ∧ (((List.range 30).map nmK).all wdName) = true := by decide +kernel
theorem nms_ok {n : Nat} (h : n ≤ 30) : ((List.range n).map nmK).Nodup ∧ ∀ w ∈ (List.range n).map nmK, NameOk w := by
  have s : (List.range n).Sublist (List.range 30) := by
    have e : List.range n = (List.range 30).take n := by rw [List.take_range, Nat.min_eq_left h]
    rw [e]
    exact List.take_sublist _ _
  refine ⟨(s.map nmK).nodup nmK_ok.1, fun w hw => name_dec ?_⟩
  exact List.all_eq_true.mp nmK_ok.2 w ((s.map nmK).subset hw)
/-- such names: machines and goods of a book -/
theorem taken_ok {xs : List Str} (h : xs.Nodup ∧ (xs.all wdName) = true) (i j b : Nat) : (((xs.drop i ++ xs.take i).take j).map (shiftS b)).Nodup ∧ (∀ w ∈ ((xs.drop i ++ xs.take i).take j).map (shiftS b), NameOk w) ∧ (∀ w ∈ (xs.drop i ++ xs.take i).take j, NameOk w) ∧ ((xs.drop i ++ xs.take i).take j).length ≤ xs.length := by
  obtain ⟨t1, t2, t3⟩ := turned h.1 i j
  have ok : ∀ w ∈ (xs.drop i ++ xs.take i).take j, NameOk w := fun w hw => name_dec (List.all_eq_true.mp h.2 w (t2 w hw))
  refine ⟨shift_nodup ok t1, fun w hw => ?_, ok, t3⟩
  obtain ⟨v, hv, rfl⟩ := List.mem_map.mp hw
  exact shift_ok (ok v hv)
/-- what the law makes is well -/
theorem made_ok {ms : List Str} {gs : List (Str × Nat)} {nms : List Str} {ts : List Tk} {ws : List (Nat × Nat × Nat)} {fx : List (Nat × Nat)} (m1 : ms.Nodup) (m2 : ∀ w ∈ ms, NameOk w) (m3 : ms.length ≤ 6)
    (g1 : (gs.map (·.1)).Nodup) (g2 : ∀ p ∈ gs, NameOk p.1 ∧ 1 ≤ p.2 ∧ p.2 ≤ 99) (g3 : gs.length ≤ 4) (n1 : nms.Nodup) (n2 : ∀ w ∈ nms, NameOk w) (n3 : nms.length ≤ 30)
    (t1 : ts.length = nms.length) (t2 : ∀ (k : Nat) (t : Tk), ts[k]? = some t → ∃ nm, nms[k]? = some nm ∧ TkMade nm ms gs t) (w1 : ws.length ≤ 60) (w2 : ∀ p ∈ ws, p.1 < p.2.1 ∧ p.2.1 < ts.length ∧ p.2.2 ≤ 1000)
    (f1 : (fx.map (·.1)).Nodup) (f2 : ∀ p ∈ fx, p.2 ≤ 1000000 ∧ ∃ t, ts[p.1]? = some t ∧ t.first ≤ p.2) (f3 : fx.length ≤ 30) : BdOk ⟨ms, gs, ts, ws, fx⟩ := by
  have names : ts.map (·.name) = nms := by
    refine List.ext_getElem? fun k => ?_
    rw [List.getElem?_map]
    by_cases hk : k < ts.length
    · obtain ⟨nm, h1, h2⟩ := t2 k ts[k] (List.getElem?_eq_getElem hk)
      rw [List.getElem?_eq_getElem hk, h1, ← h2.name]
      rfl
    · rw [List.getElem?_eq_none (by omega), List.getElem?_eq_none (by omega)]
      rfl
  refine ⟨⟨m3, m2, m1⟩, ⟨g3, g2, g1⟩, ⟨by rw [t1]; exact n3, fun t ht => ?_, by rw [names]; exact n1⟩, ⟨w1, w2⟩, ⟨f3, f2, f1⟩⟩
  obtain ⟨k, hk⟩ := List.mem_iff_getElem?.mp ht
  obtain ⟨nm, h1, h2⟩ := t2 k t hk
  refine ⟨by rw [h2.name]; exact n2 nm (List.mem_of_getElem? h1), h2.len, ?_, fun p hp => ?_, ?_, h2.sub.nodup g1, h2.first, h2.due, h2.wt⟩
  · rcases h2.mach with z | z
    · exact .inl (by rw [z]; exact emp_eq.symm)
    · exact .inr ⟨m2 _ z, z⟩
  · obtain ⟨p1, m, p2, p3⟩ := h2.needs p hp
    have gp := g2 _ p2
    exact ⟨gp.1, p1, Nat.le_trans p3 gp.2.2, m, p2, p3⟩
  · have := h2.sub.length_le
    rw [List.length_map, List.length_map] at this
    exact Nat.le_trans this g3
end Bw
set_option Elab.async false
set_option linter.all false
set_option maxRecDepth 100000
set_option maxHeartbeats 8000000
namespace Bw
open PySem PySem.Spec L2 Evl
open Bk (sLawBook)
section
variable {K : PySem.W.Frag} {B : Bs} {σ : L2.St} {ρ : Es} {F H F' H' : Hp} {te : TE} {tl : TA} {P : Pd → Es → Prop} {e : En}
theorem ix_listK {X : Cx} {K : PySem.W.Frag} (h : X.K = K) : IxR X (rIxL K) := by
  subst h
  exact ix_list
theorem ix_tupK {X : Cx} {K : PySem.W.Frag} (h : X.K = K) : IxR X (rIxT K) := by
  subst h
  exact ix_tup
/-- draws beside go on -/
theorem Rel.sideX {a : Addr} (r : Rel K B σ ρ F H) (hF : F a = none) (hH : H a ≠ none) (g : GrX (fun x => x = a) F H F' H') (fa : F' a = none) (hB : B.H a = none) (hn : ∀ (j : Nat) (s : Sl), ρ[j]? = some s → Own (σ[j]?.join) s ≠ some a) : Rel K B σ ρ F' H' := by
  obtain ⟨o0, h0⟩ : ∃ o, H a = some o := by
    cases z : H a with
    | none => exact absurd z hH
    | some o => exact ⟨o, rfl⟩
  obtain ⟨o1, h1⟩ : ∃ o, H' a = some o := by
    cases z : H' a with
    | none => exact absurd z (g.d a hH)
    | some o => exact ⟨o, rfl⟩
  have g2 : Gr F H F' (upd H' a o0) := ⟨g.f, fun x u q => by
    by_cases z : x = a
    · rw [z, h0] at q
      rw [z, upd_same]; exact q
    · rw [upd_ne z]; exact g.h x u z q, fun x u q => by rw [upd_ne (ne_of_none q fa)]; exact g.s x u q, g.o⟩
  have r3 := (r.gr g2).side (a := a) (o := o1) fa hB hn
  have q : upd (upd H' a o0) a o1 = H' := by
    funext x
    by_cases z : x = a
    · rw [z, upd_same, h1]
    · rw [upd_ne z, upd_ne z]
  rw [q] at r3
  exact r3
/-- a task out of new draws -/
theorem w_taskD {s : Nat} {cs : List Int} (hs : ρ[s]? = some (.d (.list (cs.map .int)))) (hcs : cs.length ≤ 63) (h : WE K B te ρ fun x ρ1 => ∃ k : Nat, x = .int k ∧ k ≤ 40 ∧ ∀ B', WA K B' tl ρ1 fun xs ρ2 => ∃ G, Rtask xs G ∧ ∀ y, G y → P y ρ2) :
    WE K B (tCall (spR K 20 Rtask) [] C8.E0 (tCons (tCall (spDraw K) [] C8.E0 (tCons (tVar s) (tCons te tNil))) tl)) ρ P := fun σ F H r Q q => by
  obtain ⟨u, hu, du⟩ := r.slot s _ hs
  have hu' : σ[s]? = some (some u) := by
    cases z : σ[s]? with
    | none => rw [z] at hu; cases hu
    | some w => rw [z] at hu; exact congrArg some hu
  refine ⟨u, hu', h σ F H r _ fun v x ρ1 F1 H1 p1 e1 d1 r1 => ?_⟩
  obtain ⟨k, ex, hk, hl⟩ := p1
  subst ex
  cases d1
  refine ⟨F1, u, cs, k, rfl, r1.sub, du.mono e1, hcs, hk, fun a F2 H2 g2 ha fa dr => ?_⟩
  have r2 := r1.gr g2
  have nown : ∀ (j : Nat) (t : Sl), ρ1[j]? = some t → Own (σ[j]?.join) t ≠ some a := r1.notOwn ha
  have hB : B.H a = none := r1.notB ha
  have h2a : H2 a ≠ none := by
    obtain ⟨_, _, _, z, _⟩ := dr
    rw [z]; nofun
  refine hl ⟨owns σ ρ1, F2, H2, B.p⟩ σ F2 H2 r2.inner _ fun vs xs ρ2 F3 H3 p3 e3 d3 r3 => ?_
  obtain ⟨G, hR, hG⟩ := p3
  have out3 := r2.outer r3
  have f3 : F3 a = none := r3.o a fa h2a
  obtain ⟨c, k', o, z1, z2⟩ := dr
  have z3 : H3 a = some (.lst [.int c, .int k', .int o]) := r3.h a _ (fun ⟨j, t, q1, q2⟩ => nown j t q1 q2) z1
  have nown3 : ∀ (j : Nat) (t : Sl), ρ2[j]? = some t → Own (σ[j]?.join) t ≠ some a := fun j t q1 q2 => by
    rcases r3.own j t a q1 q2 with ⟨j', t', w1, w2⟩ | w
    · exact nown j' t' w1 w2
    · exact h2a w
  refine ⟨F3, a, vs, xs, 64 * k, G, by rw [List.append_nil], out3.sub, f3, ⟨c, k', o, z3, z2⟩, by omega, d3, hR, fun w y F4 H4 gy g4 f4 dr4 dp => ?_⟩
  exact q w y ρ2 F4 H4 (hG y gy) (((e1.trans g2.f).trans e3).trans g4.f) dp (out3.sideX f3 (by rw [z3]; nofun) g4 f4 hB nown3)
theorem w_rev (h : WE K B te ρ fun x ρ1 => ∃ xs, x = .list xs ∧ P (.list xs.reverse) ρ1) : WE K B (tRevL K te) ρ P := fun σ F H r Q q => h σ F H r _ fun v x ρ1 F1 H1 p1 e1 d1 r1 => by
  obtain ⟨xs, ex, p⟩ := p1
  subst ex
  cases d1 with
  | lst hs ha => exact ⟨_, _, rfl, ex_l r1.sub hs, fun p0 hp => gr_lst r1.sub hp (da_rev ha) fun w F2 H2 g d2 => q w _ ρ1 F2 H2 p (e1.trans g.f) d2 (r1.gr g)⟩
end
section
variable {P : Program} {w : World} {K : PySem.W.Frag} {mg : Str → Option Value} {base : Heap}
def spBook (K : PySem.W.Frag) : Sp := fun vs H Q _ => ∃ (F : Hp) (v : V) (cs : List Int), vs = [v, .int 30] ∧ Ex F H ∧ Dp K F v (.list (cs.map .int)) ∧ cs.length ≤ 63 ∧ ∀ u b F' H', BdOk b → b.ts.isEmpty = false → Gr F H F' H' → Dp K F' u (pB b) → Q u H'
theorem scLawBook : FnScope ["_law_script", "_law_most", "_law_draw_here", "_law_by", "_law_machines", "_law_some_here", "_law_goods", "_law_name", "_law_many", "_law_names", "_law_k", "_law_tasks", "_law_waits_here", "_law_fixed"] ["_law_script", "_law_most"] (defScope sLawBook) := ⟨rfl, rfl, rfl, by decide +kernel, rfl, by decide +kernel, by decide +kernel⟩
theorem some_list {xs : List Str} {i j : Nat} : (((xs.map PyData.str).drop i ++ (xs.map PyData.str).take i).take j) = ((xs.drop i ++ xs.take i).take j).map PyData.str := by
  rw [List.map_take, List.map_append, List.map_drop, List.map_take]
theorem calLawBook (T : Tx K mg) : C8.Cal P w K mg base 4 "_law_book" (spBook K) [] :=
  cal_of (st := sLawBook) (T.def_ 31 (d := Bk.dLawBook) rfl) (T.glo 31) scLawBook (fun _ _ _ _ _ _ us hl => match us, hl with | [_, _], _ => rfl) (fun vs H Q E ⟨_, _, _, e, _⟩ => by rw [e]; rfl) fun cdv A outer s H vs Q E hr h => ⟨_, (pss_cons (ps_set (i := 2) scLawBook.nd rfl (by first | exact Or.inl rfl | exact Or.inr rfl) (C8.pe_c (calLawDraw T) hr (by decide) rfl (pa_cons (pv 0) (pa_cons pe_int pa_nil))))
      (pss_cons (ps_set (i := 3) scLawBook.nd rfl (by first | exact Or.inl rfl | exact Or.inr rfl) (pe_ix ix_list (pe_lst (pa_cons pe_int (pa_cons (C8.pe_c (calLawNext T) hr (by decide) rfl (pa_cons (pv 2) (pa_cons pe_int pa_nil))) pa_nil))) (C8.pe_c (calLawNext T) hr (by decide) rfl (pa_cons (pv 2) (pa_cons pe_int pa_nil))) (fun _ _ => rfl)))
      (pss_cons (ps_set (i := 4) scLawBook.nd rfl (by first | exact Or.inl rfl | exact Or.inr rfl) (C8.pe_c (calLawShifted T) hr (by decide) rfl (pa_cons (C8.pe_c (calLawSome T) hr (by decide) rfl (pa_cons (pv 2) (pa_cons (pe_lst (pa_cons pe_str (pa_cons pe_str (pa_cons pe_str (pa_cons pe_str (pa_cons pe_str (pa_cons pe_str pa_nil))))))) pa_nil))) (pa_cons (pv 3) pa_nil))))
      (pss_cons (ps_set (i := 5) scLawBook.nd rfl (by first | exact Or.inl rfl | exact Or.inr rfl) (C8.pe_c (calLawShifted T) hr (by decide) rfl (pa_cons (C8.pe_c (calLawSome T) hr (by decide) rfl (pa_cons (pv 2) (pa_cons (pe_lst (pa_cons pe_str (pa_cons pe_str (pa_cons pe_str (pa_cons pe_str pa_nil))))) pa_nil))) (pa_cons (pv 3) pa_nil))))
      (pss_cons (ps_set (i := 6) scLawBook.nd rfl (by first | exact Or.inl rfl | exact Or.inr rfl) (pe_lc (own := [("_law_name", 7)]) (g := gName 7) rfl scLawBook.nd (pi_list (pv 5)) (blkOk_by (own := [("_law_name", 7)]) (N := ["_law_script", "_law_most", "_law_draw_here", "_law_by", "_law_machines", "_law_some_here", "_law_goods", "_law_name", "_law_many", "_law_names", "_law_k", "_law_tasks", "_law_waits_here", "_law_fixed"]) (sc := (defScope sLawBook)) (by decide +kernel)) (fun _ _ _ _ _ => (pg_name (i := 7) scLawBook.nd rfl (by first | exact Or.inl rfl | exact Or.inr rfl))) (fun _ _ _ _ _ => pts_nil) (fun _ _ _ _ _ => (pe_tup (pa_cons (pv 7) (pa_cons (pe_ix (Bw.ix_listK (K := K) rfl) (pe_lst (pa_cons pe_int (pa_cons pe_int (pa_cons pe_int (pa_cons pe_int pa_nil))))) (C8.pe_c (calLawNext T) hr (by decide) rfl (pa_cons (pv 2) (pa_cons pe_int pa_nil))) (fun _ _ => rfl)) pa_nil))))))
      (pss_cons (ps_set (i := 8) scLawBook.nd rfl (by first | exact Or.inl rfl | exact Or.inr rfl) (pe_op op_add pe_int (C8.pe_c (calLawNext T) hr (by decide) rfl (pa_cons (pv 2) (pa_cons (pv 1) pa_nil)))))
      (pss_cons (ps_set (i := 9) scLawBook.nd rfl (by first | exact Or.inl rfl | exact Or.inr rfl) (pe_lc (own := [("_law_k", 10)]) (g := gName 10) rfl scLawBook.nd (pi_range1 rfl (T.fr 58) (pa_cons (pv 8) pa_nil)) (blkOk_by (own := [("_law_k", 10)]) (N := ["_law_script", "_law_most", "_law_draw_here", "_law_by", "_law_machines", "_law_some_here", "_law_goods", "_law_name", "_law_many", "_law_names", "_law_k", "_law_tasks", "_law_waits_here", "_law_fixed"]) (sc := (defScope sLawBook)) (by decide +kernel)) (fun _ _ _ _ _ => (pg_name (i := 10) scLawBook.nd rfl (by first | exact Or.inl rfl | exact Or.inr rfl))) (fun _ _ _ _ _ => pts_nil) (fun _ _ _ _ _ => (pe_slice sl_str (pe_op op_add_str pe_str pe_str) (po_some (pv 10)) (po_some (pe_op op_add (pe_op op_add (pv 10) pe_int) (pe_op op_mod (pv 10) pe_int)))))))
      (pss_cons (ps_if (pt_cmpR op_eq (C8.pe_c (calLawNext T) hr (by decide) rfl (pa_cons (pv 2) (pa_cons pe_int pa_nil))) pe_int (nomark _)) (pss_one (ps_set (i := 9) scLawBook.nd rfl (by first | exact Or.inl rfl | exact Or.inr rfl) (pe_revL (pv 9)))) pss_nil)
      (pss_cons (ps_setLc (i := 11) (own := [("_law_k", 10)]) (g := gName 10) rfl scLawBook.nd rfl rfl (sw_true rfl rfl rfl (by decide +kernel)) (pi_range1 rfl (T.fr 58) (pa_cons (pv 8) pa_nil)) (blkOk_by (own := [("_law_k", 10)]) (N := ["_law_script", "_law_most", "_law_draw_here", "_law_by", "_law_machines", "_law_some_here", "_law_goods", "_law_name", "_law_many", "_law_names", "_law_k", "_law_tasks", "_law_waits_here", "_law_fixed"]) (sc := (defScope sLawBook)) (by decide +kernel)) (fun _ _ _ _ _ => (pg_name (i := 10) scLawBook.nd rfl (by first | exact Or.inl rfl | exact Or.inr rfl))) (fun _ _ _ _ _ => pts_nil) (fun _ _ _ _ _ => (C8.pe_c (calLawTask T) hr (by decide) rfl (pa_cons (C8.pe_c (calLawDraw T) hr (by decide) rfl (pa_cons (pv 0) (pa_cons (pe_op op_add pe_int (pv 10)) pa_nil))) (pa_cons (pe_ix (Bw.ix_listK (K := K) rfl) (pv 9) (pv 10) (fun _ _ => rfl)) (pa_cons (pv 4) (pa_cons (pv 6) pa_nil)))))))
      (pss_cons (ps_set (i := 2) scLawBook.nd rfl (by first | exact Or.inl rfl | exact Or.inr rfl) (C8.pe_c (calLawDraw T) hr (by decide) rfl (pa_cons (pv 0) (pa_cons pe_int pa_nil))))
      (pss_cons (ps_set (i := 12) scLawBook.nd rfl (by first | exact Or.inl rfl | exact Or.inr rfl) (C8.pe_c (calLawWaits T) hr (by decide) rfl (pa_cons (pv 2) (pa_cons (pv 8) (pa_cons (pe_op op_mul pe_int (pv 8)) pa_nil)))))
      (pss_cons (ps_set (i := 13) scLawBook.nd rfl (by first | exact Or.inl rfl | exact Or.inr rfl) (pe_lst pa_nil))
      (pss_cons (ps_for PassesOwn.never rfl (pi_range1 rfl (T.fr 58) (pa_cons (pv 8) pa_nil)) (pg_name (i := 10) scLawBook.nd rfl (by first | exact Or.inl rfl | exact Or.inr rfl)) (pss_one (ps_if (pt_cmpR op_eq (C8.pe_c (calLawNext T) hr (by decide) rfl (pa_cons (pv 2) (pa_cons pe_int pa_nil))) pe_int (nomark _)) (pss_one (ps_expr (pe_bm PySem.F.plainAttrs_list PySem.F.slot_list_append PySem.F.type_list_append mt_append (pv 13) (pa_cons (pe_tup (pa_cons (pv 10) (pa_cons (pe_callB (id := "min") (call_min2 rfl) rfl (T.fr 60) (by decide +kernel) (pa_cons pe_int (pa_cons (pe_op op_add (pe_ix ix_tup (pe_ix ix_list (pv 11) (pv 10) (fun _ _ => rfl)) pe_int (fun _ _ => rfl)) (C8.pe_c (calLawNext T) hr (by decide) rfl (pa_cons (pv 2) (pa_cons pe_int pa_nil)))) pa_nil))) pa_nil))) pa_nil)))) pss_nil)))
      (pss_one (ps_ret (pe_tup (pa_cons (pe_callTy (T := "tuple") (Bw.call_tupleZK (K := K) rfl) rfl (T.fr 64) (by decide +kernel) (pa_cons (pv 4) pa_nil)) (pa_cons (pe_callTy (T := "tuple") (Bw.call_tupleZK (K := K) rfl) rfl (T.fr 64) (by decide +kernel) (pa_cons (pv 6) pa_nil)) (pa_cons (pe_callTy (T := "tuple") (Bw.call_tupleZK (K := K) rfl) rfl (T.fr 64) (by decide +kernel) (pa_cons (pv 11) pa_nil)) (pa_cons (pv 12) (pa_cons (pe_callTy (T := "tuple") (Bw.call_tupleZK (K := K) rfl) rfl (T.fr 64) (by decide +kernel) (pa_cons (pv 13) pa_nil)) pa_nil))))))))))))))))))))), by
    obtain ⟨F, v, cs, rfl, sF, dv, hcs, hQ⟩ := h
    suffices key : ∀ B, S K B _ (args ["_law_script", "_law_most", "_law_draw_here", "_law_by", "_law_machines", "_law_some_here", "_law_goods", "_law_name", "_law_many", "_law_names", "_law_k", "_law_tasks", "_law_waits_here", "_law_fixed"] [.list (cs.map .int), .int 30]) { nx := fun _ => False, rt := fun z _ => ∃ b, BdOk b ∧ b.ts.isEmpty = false ∧ z = pB b } by
      refine key ⟨fun _ => False, F, H, none⟩ _ F H (rel0 sF (.cons dv (.cons (.int 30) .nil))) _ ⟨fun _ _ _ _ e => e.elim, fun u z _ _ F' H' ⟨b, h1, h2, h3⟩ x dd r => ?_, fun _ _ _ _ e => e.elim, fun _ _ _ _ e => e.elim⟩
      subst h3
      exact hQ u b F' H' h1 h2 r.out dd
    intro B
    refine s_seq <| s_setR (s := 0) (k := 0) rfl hcs <| w_int ⟨rfl, by decide, rfl, rfl, ?_⟩
    -- by how much the names are shifted
    refine s_seq <| s_set <| w_op <| w_lst <| wa_cons <| w_int <| wa_cons <| w_next rfl <| w_int ⟨_, 0, rfl, by decide, by decide, rfl, by decide, fun g0 hg0 => wa_nil ⟨by show 2 ≤ sizeLine; decide, w_next rfl <| w_int ⟨_, 1, rfl, by decide, by decide, rfl, by decide, fun k0 hk0 => ?_⟩⟩⟩
    obtain ⟨l0, el0, hl0⟩ := at2 (a := PyData.int 0) (b := .int (g0 : Nat)) (k := k0) (by omega)
    obtain ⟨by_, rfl, hby⟩ : ∃ g : Nat, l0 = .int (g : Nat) ∧ g < 26 := by
      rcases hl0 with z | z
      · exact ⟨0, z, by omega⟩
      · exact ⟨g0, z, by omega⟩
    refine ⟨_, od_ixL el0, rfl, ?_⟩
    -- machines
    refine s_seq <| s_set <| w_call <| wa_cons <| w_callR rfl <| wa_cons <| w_lst <| wa_cons <| w_str <| wa_cons <| w_str <| wa_cons <| w_str <| wa_cons <| w_str <| wa_cons <| w_str <| wa_cons <| w_str <| wa_nil ⟨by show 6 ≤ sizeLine; decide, wa_nil ⟨2, fun y => ∃ i j : Nat, y = .list (((machL.drop i ++ machL.take i).take j).map .str), rfl, by decide, ⟨machL.map .str, rfl, by decide, by decide, fun i j _ _ => ⟨i, j, congrArg PyData.list some_list⟩⟩, fun y ⟨i, j, ey⟩ => ?_⟩⟩
    subst ey
    obtain ⟨m1, m2, m0, m3⟩ := taken_ok machL_ok i j by_
    generalize hms0 : (machL.drop i ++ machL.take i).take j = ms0 at m1 m2 m0 m3
    have m3 : ms0.length ≤ 6 := m3
    refine wa_cons <| w_var rfl <| wa_nil ⟨_, ⟨ms0, by_, rfl, m0, by omega, hby, rfl⟩, rfl, ?_⟩
    generalize hms : ms0.map (shiftS by_) = ms at m1 m2
    have m3 : ms.length ≤ 6 := by rw [← hms, List.length_map]; exact m3
    -- goods' names
    refine s_seq <| s_set <| w_call <| wa_cons <| w_callR rfl <| wa_cons <| w_lst <| wa_cons <| w_str <| wa_cons <| w_str <| wa_cons <| w_str <| wa_cons <| w_str <| wa_nil ⟨by show 4 ≤ sizeLine; decide, wa_nil ⟨4, fun y => ∃ i j : Nat, y = .list (((goodL.drop i ++ goodL.take i).take j).map .str), rfl, by decide, ⟨goodL.map .str, rfl, by decide, by decide, fun i j _ _ => ⟨i, j, congrArg PyData.list some_list⟩⟩, fun y ⟨i2, j2, ey⟩ => ?_⟩⟩
    subst ey
    obtain ⟨c1, c2, c0, c3⟩ := taken_ok goodL_ok i2 j2 by_
    generalize hgn0 : (goodL.drop i2 ++ goodL.take i2).take j2 = gn0 at c1 c2 c0 c3
    have c3 : gn0.length ≤ 4 := c3
    refine wa_cons <| w_var rfl <| wa_nil ⟨_, ⟨gn0, by_, rfl, c0, by omega, hby, rfl⟩, rfl, ?_⟩
    generalize hgn : gn0.map (shiftS by_) = gn at c1 c2
    have c3 : gn.length ≤ 4 := by rw [← hgn, List.length_map]; exact c3
    -- goods
    refine s_seq <| s_set <| w_fr <| wl_lc <| wi_list <| w_var rfl ⟨_, rfl, fun i acc r => ∃ (gs : List (Str × Nat)) (n2 : Nat), gs.map (·.1) = gn.take i ∧ (∀ p ∈ gs, 1 ≤ p.2 ∧ p.2 ≤ 99) ∧ acc = gs.map pN ∧ n2 ≤ 6 + i ∧ r = [.d (.list (cs.map .int)), .d (.int 30), .r false n2, .d (.int by_), .d (.list (ms.map .str)), .d (.list (gn.map .str)), .n, .n, .n, .n, .n, .n, .n, .n], ⟨[], 6, rfl, by simp, rfl, Nat.le_refl _, rfl⟩, ?_, ?_, ?_⟩
    · rw [List.length_map]; exact sz_str (by omega)
    · rintro i x acc r hx ⟨gs, n2, q1, q2, rfl, q3, rfl⟩
      rw [List.getElem?_map] at hx
      cases e1 : gn[i]? with
      | none => rw [e1] at hx; cases hx
      | some nm =>
        rw [e1] at hx
        cases hx
        obtain ⟨hi, he⟩ := List.getElem?_eq_some_iff.mp e1
        refine ⟨rfl, fun B' => g_name (by decide) rfl <| wt_yes ⟨fun _ => w_tup <| wa_cons <| w_var rfl <| wa_cons <| w_op <| w_lst <| wa_cons <| w_int <| wa_cons <| w_int <| wa_cons <| w_int <| wa_cons <| w_int <| wa_nil ⟨by show 4 ≤ sizeLine; decide, w_next rfl <| w_int ⟨_, n2, rfl, by decide, by decide, rfl, by omega, fun k hk => ?_⟩⟩, nofun⟩⟩
        obtain ⟨g, hg, eg⟩ : ∃ g : Nat, (1 ≤ g ∧ g ≤ 99) ∧ atI [PyData.int 1, .int 2, .int 3, .int 99] ((k : Nat) : Int) = some (.int (g : Nat)) := by
          have k4 : k = 0 ∨ k = 1 ∨ k = 2 ∨ k = 3 := by omega
          rcases k4 with z | z | z | z
          · rw [z]; exact ⟨1, by decide, atI_n (j := 0) rfl⟩
          · rw [z]; exact ⟨2, by decide, atI_n (j := 1) rfl⟩
          · rw [z]; exact ⟨3, by decide, atI_n (j := 2) rfl⟩
          · rw [z]; exact ⟨99, by decide, atI_n (j := 3) rfl⟩
        refine ⟨_, od_ixL eg, wa_nil ⟨by show 2 ≤ sizeLine; decide, gs ++ [(nm, g)], n2 + 1, ?_, fun p hp => ?_, ?_, by omega, rfl⟩⟩
        · rw [List.map_append, q1, List.take_succ_eq_append_getElem hi, he]; rfl
        · rcases List.mem_append.mp hp with hp | hp
          · exact q2 p hp
          · rw [List.mem_singleton.mp hp]; exact hg
        · rw [List.map_append]; rfl
    rintro acc r ⟨gs, n2, q1, q2, rfl, q3, rfl⟩
    rw [List.length_map, List.take_length] at q1
    rw [List.length_map] at q3
    have hgl : gs.length ≤ 4 := by rw [← List.length_map (f := fun p : Str × Nat => p.1), q1]; exact c3
    have hgs : ∀ p ∈ gs, NameOk p.1 ∧ 1 ≤ p.2 ∧ p.2 ≤ 99 := fun p hp => ⟨c2 p.1 (by rw [← q1]; exact List.mem_map.mpr ⟨p, hp, rfl⟩), q2 p hp⟩
    have hgd : (gs.map (·.1)).Nodup := by rw [q1]; exact c1
    have q3 : n2 ≤ 10 := by omega
    clear q1 q2 c1 c2 c3 hgn hgn0 hms0
    refine ⟨rfl, ?_⟩
    -- how many tasks, their names
    refine s_seq <| s_set <| w_op <| w_int <| w_next rfl <| w_var rfl ⟨_, n2, rfl, by decide, by decide, rfl, by omega, fun k1 hk1 => ⟨_, od_int, rfl, ?_⟩⟩
    obtain ⟨many, hmany, hm1, hm2⟩ : ∃ many : Nat, (1 : Int) + (k1 : Nat) = (many : Nat) ∧ 1 ≤ many ∧ many ≤ 30 := ⟨1 + k1, by omega, by omega, by omega⟩
    rw [hmany]
    have rng : intsD 0 ((many : Nat) : Int).toNat = (List.range many).map fun k => .int (0 + (k : Nat)) := rfl
    obtain ⟨nd0, nok0⟩ := nms_ok hm2
    refine s_seq <| s_set <| w_fr <| wl_mapA <| wi_range <| wa_cons <| w_var rfl <| wa_nil ⟨_, rfl, by omega, by omega, List.range many, fun k => .int (0 + (k : Nat)), fun k => .str (nmK k), rng, by rw [List.length_range]; exact sz_str (by omega), rfl, fun k hk B' => ?_, rfl, ?_⟩
    · have hk' : k < many := List.mem_range.mp hk
      refine g_name (by decide) rfl <| w_sl <| w_op <| w_str <| w_str ⟨_, od_addS (by decide +kernel), wo_some <| w_var rfl ⟨_, rfl, wo_some <| w_op <| w_op <| w_var rfl <| w_int ⟨_, od_int, w_op <| w_var rfl <| w_int ⟨_, od_intC (by decide), _, od_int, _, rfl, _, sd_str (by decide +kernel), ?_, rfl⟩⟩⟩⟩
      have e1 : (0 : Int) + (k : Nat) = (k : Nat) := Int.zero_add _
      have e2 : (0 : Int) + (k : Nat) + 1 + (0 + (k : Nat)) % 3 = ((k + 1 + k % 3 : Nat) : Int) := by omega
      rw [e2, e1]
      rfl
    refine s_cut (M := fun r => ∃ (nms : List Str) (n3 : Nat), nms.Nodup ∧ (∀ w ∈ nms, NameOk w) ∧ nms.length = many ∧ n3 ≤ 12 ∧ r = [.d (.list (cs.map .int)), .d (.int 30), .r false n3, .d (.int by_), .d (.list (ms.map .str)), .d (.list (gn.map .str)), .d (.list (gs.map pN)), .n, .d (.int (many : Nat)), .d (.list (nms.map .str)), .n, .n, .n, .n]) (s_if <| wt_test <| w_op <| w_next rfl <| w_int ⟨_, n2 + 1, rfl, by decide, by decide, rfl, by omega, fun k2 hk2 => w_int ⟨_, od_eqI, _, rfl, fun _ => s_set <| w_rev <| w_var rfl ⟨((List.range many).map fun k => .str (nmK k)), rfl, rfl, ((List.range many).map nmK).reverse, n2 + 2, ?_, ?_, by simp, by omega, ?_⟩, fun _ => s_next ⟨(List.range many).map nmK, n2 + 2, nd0, nok0, by simp, by omega, ?_⟩⟩⟩) ?_
    · exact (List.reverse_perm _).nodup_iff.mpr nd0
    · intro w hw
      exact nok0 w (List.mem_reverse.mp hw)
    · rw [← List.map_reverse, ← List.map_reverse, List.map_map]; rfl
    · rw [List.map_map]; rfl
    rintro r ⟨nms, n3, nd, nok, nlen, hn3, rfl⟩
    clear nd0 nok0
    -- tasks
    refine s_seq <| s_set <| w_fr <| wl_lc <| wi_range <| wa_cons <| w_var rfl <| wa_nil ⟨_, rfl, by omega, by omega, fun i acc r => ∃ ts : List Tk, ts.length = i ∧ (∀ (k : Nat) (t : Tk), ts[k]? = some t → ∃ nm, nms[k]? = some nm ∧ TkMade nm ms gs t) ∧ acc = ts.map pT ∧ r = [.d (.list (cs.map .int)), .d (.int 30), .r false n3, .d (.int by_), .d (.list (ms.map .str)), .d (.list (gn.map .str)), .d (.list (gs.map pN)), .n, .d (.int (many : Nat)), .d (.list (nms.map .str)), .n, .n, .n, .n], ⟨[], rfl, by simp, rfl, rfl⟩, ?_, ?_, ?_⟩
    · rw [intsD_len]; exact sz_str (by omega)
    · rintro i x acc r hx ⟨ts, q1, q2, rfl, rfl⟩
      have hi : i < many := by
        have := (List.getElem?_eq_some_iff.mp hx).1
        rw [intsD_len] at this
        simpa using this
      rw [intsD_get (by simpa using hi)] at hx
      cases hx
      have en : nms[i]? = some (nms[i]'(by omega)) := List.getElem?_eq_getElem (by omega)
      refine ⟨rfl, fun B' => g_name (by decide) rfl <| wt_yes ⟨fun _ => w_taskD (s := 0) rfl hcs <| w_op <| w_int <| w_var rfl ⟨_, od_int, 2 + i, congrArg PyData.int (by omega), by omega, fun B2 => wa_cons <| w_op <| w_var rfl <| w_var rfl ⟨_, od_ixL (by rw [Int.zero_add]; exact atI_n (by rw [List.getElem?_map, en]; rfl)), wa_cons <| w_var rfl <| wa_cons <| w_var rfl <| wa_nil ⟨fun y => ∃ t, TkMade (nms[i]'(by omega)) ms gs t ∧ y = pT t, ⟨_, ms, gs, rfl, m3, hgl, fun p hp => (hgs p hp).2, fun t ht => ⟨t, ht, rfl⟩⟩, fun y ⟨t, ht, ey⟩ => ?_⟩⟩⟩, nofun⟩⟩
      subst ey
      refine ⟨ts ++ [t], by rw [List.length_append, q1]; rfl, fun k t' h => ?_, by rw [List.map_append]; rfl, rfl⟩
      by_cases hk : k < ts.length
      · rw [List.getElem?_append_left hk] at h
        exact q2 k t' h
      · rw [List.getElem?_append_right (by omega)] at h
        have ek : k = i := by
          have := (List.getElem?_eq_some_iff.mp h).1
          rw [List.length_singleton] at this
          omega
        subst ek
        rw [q1, Nat.sub_self] at h
        cases h
        exact ⟨_, en, ht⟩
    rintro acc r ⟨ts, q1, tsok, rfl, rfl⟩
    have tlen : ts.length = many := by rw [intsD_len] at q1; simpa using q1
    clear q1
    refine ⟨rfl, ?_⟩
    refine s_seq <| s_setR (s := 0) (k := 1) rfl hcs <| w_int ⟨rfl, by decide, rfl, rfl, ?_⟩
    -- waits
    refine s_seq <| s_set <| w_callR rfl <| wa_cons <| w_var rfl <| wa_cons <| w_op <| w_int <| w_var rfl ⟨_, od_intC (.inl ⟨by decide, by decide⟩), wa_nil ⟨64, fun y => ∃ ws : List (Nat × Nat × Nat), ws.length ≤ 60 ∧ (∀ p ∈ ws, p.1 < p.2.1 ∧ p.2.1 < many ∧ p.2.2 ≤ 1000) ∧ y = .tuple (ws.map pW), rfl, by decide, ⟨many, 2 * many, ?_, hm1, hm2, by omega, fun ps h1 h2 => ⟨ps, by omega, h2, rfl⟩⟩, fun y ⟨ws, w1, w2, ey⟩ => ⟨rfl, ?_⟩⟩⟩
    · have e : (2 : Int) * (many : Nat) = ((2 * many : Nat) : Int) := by omega
      rw [e]
    subst ey
    refine s_seq <| s_setL <| wl_lst <| wa_nil ⟨Nat.zero_le _, rfl, ?_⟩
    -- tasks that are fixed
    refine s_seq <| s_for <| wi_range <| wa_cons <| w_var rfl <| wa_nil ⟨_, rfl, by omega, by omega, fun i r => ∃ (fx : List (Nat × Nat)) (n4 : Nat) (x : Sl), (fx.map (·.1)).Sublist (List.range i) ∧ (∀ p ∈ fx, p.2 ≤ 1000000 ∧ ∃ t, ts[p.1]? = some t ∧ t.first ≤ p.2) ∧ n4 ≤ 365 + 2 * i ∧ r = [.d (.list (cs.map .int)), .d (.int 30), .r false n4, .d (.int by_), .d (.list (ms.map .str)), .d (.list (gn.map .str)), .d (.list (gs.map pN)), .n, .d (.int (many : Nat)), .d (.list (nms.map .str)), x, .d (.list (ts.map pT)), .d (.tuple (ws.map pW)), .l (fx.map pF)], ⟨[], 365, .n, by simp, by simp, Nat.le_refl _, rfl⟩, ?_, ?_⟩
    · rintro i x r hx ⟨fx, n4, x0, f1, f2, f3, rfl⟩
      have hi : i < many := by
        have := (List.getElem?_eq_some_iff.mp hx).1
        rw [intsD_len] at this
        simpa using this
      rw [intsD_get (by simpa using hi)] at hx
      cases hx
      have et : ts[i]? = some (ts[i]'(by omega)) := List.getElem?_eq_getElem (by omega)
      obtain ⟨nm, _, tm⟩ := tsok i _ et
      generalize ts[i]'(by omega) = t at et tm
      have fl : fx.length ≤ 30 := by
        have := f1.length_le
        rw [List.length_map, List.length_range] at this
        omega
      have rs : (List.range (i + 1)) = List.range i ++ [i] := List.range_succ
      refine g_name trivial rfl ?_
      refine s_if <| wt_test <| w_op <| w_next rfl <| w_int ⟨_, n4, rfl, by decide, by decide, rfl, by omega, fun u hu => w_int ⟨_, od_eqI, _, rfl, fun _ => ?_, fun _ => s_next ?_⟩⟩
      · refine s_app rfl <| w_tup <| wa_cons <| w_var rfl <| wa_cons <| w_cb <| wa_cons <| w_int <| wa_cons <| w_op <| w_op <| w_op <| w_var rfl <| w_var rfl ⟨_, od_ixL (by rw [Int.zero_add]; exact atI_n (by rw [List.getElem?_map, et]; rfl)), w_int ⟨_, od_ixT (atI_n (j := 4) rfl), w_next rfl <| w_int ⟨_, n4 + 1, rfl, by decide, by decide, rfl, by omega, fun g hg => ⟨_, od_int, wa_nil ⟨_, cd_min2, wa_nil ⟨by show 2 ≤ sizeLine; decide, _, rfl, ?_, ?_⟩⟩⟩⟩⟩⟩
        · rw [List.length_map]
          exact Nat.lt_of_le_of_lt (show _ ≤ 1000 by omega) (by decide)
        have ft := tm.first
        refine ⟨fx ++ [(i, min 1000000 (t.first + g))], n4 + 2, .d (.int (0 + (i : Nat))), ?_, fun p hp => ?_, by omega, ?_⟩
        · rw [List.map_append, rs]
          exact f1.append (List.Sublist.refl _)
        · rcases List.mem_append.mp hp with hp | hp
          · exact f2 p hp
          · rw [List.mem_singleton.mp hp]
            exact ⟨Nat.min_le_left _ _, t, et, by show t.first ≤ min 1000000 (t.first + g); omega⟩
        · rw [List.map_append]
          have e1 : (0 : Int) + (i : Nat) = (i : Nat) := Int.zero_add _
          have e2 : (if ((t.first : Nat) : Int) + (g : Nat) < 1000000 then ((t.first : Nat) : Int) + (g : Nat) else 1000000) = ((min 1000000 (t.first + g) : Nat) : Int) := by
            split <;> omega
          rw [e2, e1]
          rfl
      · refine ⟨fx, n4 + 1, .d (.int (0 + (i : Nat))), ?_, f2, by omega, rfl⟩
        rw [rs]
        exact f1.trans (List.sublist_append_left _ _)
    rintro r ⟨fx, n4, x0, f1, f2, f3, rfl⟩
    rw [intsD_len] at f1
    have f1 : (fx.map (·.1)).Sublist (List.range many) := by simpa using f1
    have fd : (fx.map (·.1)).Nodup := f1.nodup List.nodup_range
    have fl : fx.length ≤ 30 := by
      have := f1.length_le
      rw [List.length_map, List.length_range] at this
      omega
    refine s_ret <| w_tup <| wa_cons <| w_cb <| wa_cons <| w_var rfl <| wa_nil ⟨_, cd_tupL, wa_cons <| w_cb <| wa_cons <| w_var rfl <| wa_nil ⟨_, cd_tupL, wa_cons <| w_cb <| wa_cons <| w_var rfl <| wa_nil ⟨_, cd_tupL, wa_cons <| w_var rfl <| wa_cons <| w_tupOwn rfl <| wa_nil ⟨by show 5 ≤ sizeLine; decide, ⟨ms, gs, ts, ws, fx⟩, ?_, ?_, rfl⟩⟩⟩⟩
    · exact made_ok m1 m2 m3 hgd hgs hgl nd nok (by omega) (by omega) tsok w1 (fun p hp => by rw [tlen]; exact w2 p hp) fd f2 fl
    · show ts.isEmpty = false
      cases ts with
      | nil => simp at tlen; omega
      | cons a l => rfl⟩
end
end Bw
set_option Elab.async false
set_option linter.all false
set_option maxRecDepth 100000
set_option maxHeartbeats 8000000
namespace Bk
open PySem
/-- the scope of the comprehension over the rows -/
def lcScopeLawText1 : Scope := match (L2.defBody sLawText).getD 5 (.Pass ⟨0, 0, 0, 0⟩) with
  | .Return (some (.Call _ [.ListComp _ _ sc _] _ _)) _ => sc
  | _ => ⟨.module, [], false, false, []⟩
end Bk
namespace Bw
open PySem PySem.Spec L2 Evl
open Bk (sLawText)
section
variable {P : Program} {w : World} {K : PySem.W.Frag} {mg : Str → Option Value} {base : Heap}
abbrev Wd := Str ⊕ Nat
def encW : Wd → Pd
  | .inl s => .str s
  | .inr n => .int (n : Nat)
def wdS : Wd → Str
  | .inl s => s
  | .inr n => numS n
def encR (r : List Wd) : Pd := .list (r.map encW)
def dueR : Option Nat → Wd
  | none => .inl (Str.ofString "-")
  | some n => .inr n
def machR (m : Str) : List Wd := [.inl (Str.ofString "machine"), .inl m]
def goodR (p : Str × Nat) : List Wd := [.inl (Str.ofString "good"), .inl p.1, .inr p.2]
def taskR (t : Tk) : List Wd := [.inl (Str.ofString "task"), .inl t.name, .inr t.len, .inl (mWord t.mach), .inr t.first, dueR t.due, .inr t.wt] ++ t.needs.map fun p => .inl (needW p)
def waitR (ts : List Tk) (p : Nat × Nat × Nat) : List Wd := [.inl (Str.ofString "wait"), .inl (nameAt ts p.1), .inl (nameAt ts p.2.1), .inr p.2.2]
def fixR (ts : List Tk) (p : Nat × Nat) : List Wd := [.inl (Str.ofString "fixed"), .inl (nameAt ts p.1), .inr p.2]
def rowsR (b : Bd) : List (List Wd) := b.ms.map machR ++ b.gs.map goodR ++ b.ts.map taskR ++ b.ws.map (waitR b.ts) ++ b.fx.map (fixR b.ts)
theorem rowsR_words (b : Bd) : (rowsR b).map (fun r => r.map wdS) = rowsW b := by
  have tk : ∀ t : Tk, (taskR t).map wdS = taskWords t := fun t => by
    unfold taskR taskWords
    rw [List.map_append, List.map_map]
    cases t.due <;> rfl
  unfold rowsR rowsW
  simp only [List.map_append, List.map_map, List.append_assoc]
  have e1 : (List.map wdS ∘ taskR) = taskWords := funext tk
  rw [e1]
  rfl
def wOk : Wd → Prop
  | .inl _ => True
  | .inr n => n < 10 ^ 7
theorem rowsR_ok {b : Bd} (hb : BdOk b) : ∀ r ∈ rowsR b, ∀ x ∈ r, wOk x := fun r hr x hx => by
  unfold rowsR at hr
  simp only [List.mem_append, List.mem_map] at hr
  rcases hr with (((⟨m, hm, rfl⟩ | ⟨p, hp, rfl⟩) | ⟨t, ht, rfl⟩) | ⟨p, hp, rfl⟩) | ⟨p, hp, rfl⟩
  · simp only [machR, List.mem_cons, List.not_mem_nil, or_false] at hx
    rcases hx with rfl | rfl <;> trivial
  · have := hb.gs.2.1 p hp
    simp only [goodR, List.mem_cons, List.not_mem_nil, or_false] at hx
    rcases hx with rfl | rfl | rfl
    · trivial
    · trivial
    · show p.2 < 10 ^ 7; omega
  · have tk := (hb.ts.2.1 t ht).form
    have h1 := tk.len
    have h2 := tk.first
    have h3 := tk.wt
    unfold taskR at hx
    rcases List.mem_append.mp hx with hx | hx
    · simp only [List.mem_cons, List.not_mem_nil, or_false] at hx
      rcases hx with rfl | rfl | rfl | rfl | rfl | rfl | rfl
      · trivial
      · trivial
      · show t.len < 10 ^ 7; omega
      · trivial
      · show t.first < 10 ^ 7; omega
      · cases hd : t.due with
        | none => trivial
        | some d => have := tk.due d hd; show d < 10 ^ 7; omega
      · show t.wt < 10 ^ 7; omega
    · obtain ⟨p, _, rfl⟩ := List.mem_map.mp hx
      trivial
  · have := hb.ws.2 p hp
    simp only [waitR, List.mem_cons, List.not_mem_nil, or_false] at hx
    rcases hx with rfl | rfl | rfl | rfl
    · trivial
    · trivial
    · trivial
    · show p.2.2 < 10 ^ 7; omega
  · have := (hb.fx.2.1 p hp).1
    simp only [fixR, List.mem_cons, List.not_mem_nil, or_false] at hx
    rcases hx with rfl | rfl | rfl
    · trivial
    · trivial
    · show p.2 < 10 ^ 7; omega
theorem cd_strA {x : Wd} (h : wOk x) : CaD K rStrA [encW x] (.str (wdS x)) := fun F H vs s d Q k => by
  cases d with
  | cons d1 d2 =>
    cases d2
    cases x with
    | inl z =>
      cases d1
      exact .inr ⟨z, rfl, gr_id s (.str _) k⟩
    | inr n =>
      cases d1
      exact .inl ⟨(n : Nat), rfl, log_num h, gr_id s (.str _) k⟩
theorem tru_str {a : Str} (h : a.length ≤ sizeLine) {b : Bool} (e : b = ((a.length : Int) != 0)) : ∀ F v, Dp K F v (.str a) → TruV K v F b := fun F v d => by
  cases d
  exact ⟨h, e⟩
theorem w_mach {B : Bs} {ρ : Es} {Q' : Pd → Es → Prop} {i : Nat} {m : Str} (hm : m = Str.empty ∨ NameOk m) (h0 : ρ[i]? = some (.d (.str m))) (p : Q' (.str (mWord m)) ρ) : WE K B (tOrT K (tVar i) (tC (.str (Str.ofString "-")))) ρ Q' := by
  rcases mW_cases hm with ⟨h1, h2⟩ | ⟨h1, h2, h3⟩
  · subst h2
    exact w_orT <| w_var h0 ⟨false, tru_str (by decide +kernel) (by decide +kernel), fun _ => w_str (by rw [← h1]; exact p), nofun⟩
  · refine w_orT <| w_var h0 ⟨true, tru_str (Nat.le_trans h2.hi (by decide)) ?_, nofun, fun _ => by rw [← h1]; exact p⟩
    have := h2.lo
    symm
    simp
    omega
theorem w_due {B : Bs} {ρ : Es} {Q' : Pd → Es → Prop} {i : Nat} {d : Option Nat} (h0 : ρ[i]? = some (.d (pD d))) (p : Q' (encW (dueR d)) ρ) : WE K B (tIf (tB (tIsN (tVar i))) (tC (.str (Str.ofString "-"))) (tVar i)) ρ Q' := by
  cases d with
  | none => exact w_if <| wt_B <| w_isN (b := true) <| w_var h0 ⟨nofun, fun _ => rfl, _, rfl, fun _ => w_str p, nofun⟩
  | some n => exact w_if <| wt_B <| w_isN (b := false) <| w_var h0 ⟨nofun, nofun, _, rfl, nofun, fun _ => w_var h0 p⟩
theorem scLawText : FnScope ["_law_book_here", "_law_machines", "_law_goods", "_law_tasks", "_law_waits_here", "_law_fixed", "_law_rows", "_law_name", "_law_many", "_law_length", "_law_machine", "_law_needs", "_law_first", "_law_due", "_law_weight", "_law_row", "_law_good", "_law_a", "_law_b", "_law_gap", "_law_task_here", "_law_begin", "_law_word"] ["_law_book_here"] (defScope sLawText) := ⟨rfl, rfl, rfl, by decide +kernel, rfl, by decide +kernel, by decide +kernel⟩
def RlawText : List Pd → Pd → Prop := fun xs y => ∃ b : Bd, xs = [pB b] ∧ BdOk b ∧ y = .str (textOf (rowsW b))
theorem calLawText (T : Tx K mg) : C8.Cal P w K mg base 1 "_law_text" (spP K RlawText) [] :=
  cal_of (st := sLawText) (T.def_ 32 (d := Bk.dLawText) rfl) (T.glo 32) scLawText (fun _ _ _ _ _ _ us hl => match us, hl with | [_], _ => rfl) (lenP fun xs y ⟨_, e, _⟩ => by rw [e]; rfl) fun cdv A outer s H vs Q E hr h => ⟨_, (pss_cons (ps_asg (pv 0) (pg_tup rfl (pgs_cons (pg_name (i := 1) scLawText.nd rfl (by first | exact Or.inl rfl | exact Or.inr rfl)) (pgs_cons (pg_name (i := 2) scLawText.nd rfl (by first | exact Or.inl rfl | exact Or.inr rfl)) (pgs_cons (pg_name (i := 3) scLawText.nd rfl (by first | exact Or.inl rfl | exact Or.inr rfl)) (pgs_cons (pg_name (i := 4) scLawText.nd rfl (by first | exact Or.inl rfl | exact Or.inr rfl)) (pgs_cons (pg_name (i := 5) scLawText.nd rfl (by first | exact Or.inl rfl | exact Or.inr rfl)) pgs_nil)))))))
      (pss_cons (ps_set (i := 6) scLawText.nd rfl (by first | exact Or.inl rfl | exact Or.inr rfl) (pe_op Bw.op_catS (pe_lc (own := [("_law_name", 7)]) (g := gName 7) rfl scLawText.nd (pi_tup (pv 1)) (blkOk_by (own := [("_law_name", 7)]) (N := ["_law_book_here", "_law_machines", "_law_goods", "_law_tasks", "_law_waits_here", "_law_fixed", "_law_rows", "_law_name", "_law_many", "_law_length", "_law_machine", "_law_needs", "_law_first", "_law_due", "_law_weight", "_law_row", "_law_good", "_law_a", "_law_b", "_law_gap", "_law_task_here", "_law_begin", "_law_word"]) (sc := (defScope sLawText)) (by decide +kernel)) (fun _ _ _ _ _ => (pg_name (i := 7) scLawText.nd rfl (by first | exact Or.inl rfl | exact Or.inr rfl))) (fun _ _ _ _ _ => pts_nil) (fun _ _ _ _ _ => (pe_lst (pa_cons pe_str (pa_cons (pv 7) pa_nil))))) (pe_lc (own := [("_law_name", 7), ("_law_many", 8)]) (g := gTup K 2 (gCons (gName 7) (gCons (gName 8) gNil))) rfl scLawText.nd (pi_tup (pv 2)) (blkOk_by (own := [("_law_name", 7), ("_law_many", 8)]) (N := ["_law_book_here", "_law_machines", "_law_goods", "_law_tasks", "_law_waits_here", "_law_fixed", "_law_rows", "_law_name", "_law_many", "_law_length", "_law_machine", "_law_needs", "_law_first", "_law_due", "_law_weight", "_law_row", "_law_good", "_law_a", "_law_b", "_law_gap", "_law_task_here", "_law_begin", "_law_word"]) (sc := (defScope sLawText)) (by decide +kernel)) (fun _ _ _ _ _ => (pg_tup rfl (pgs_cons (pg_name (i := 7) scLawText.nd rfl (by first | exact Or.inl rfl | exact Or.inr rfl)) (pgs_cons (pg_name (i := 8) scLawText.nd rfl (by first | exact Or.inl rfl | exact Or.inr rfl)) pgs_nil)))) (fun _ _ _ _ _ => pts_nil) (fun _ _ _ _ _ => (pe_lst (pa_cons pe_str (pa_cons (pv 7) (pa_cons (pv 8) pa_nil))))))))
      (pss_cons (ps_for PassesOwn.never rfl (pi_tup (pv 3)) (pg_tup rfl (pgs_cons (pg_name (i := 7) scLawText.nd rfl (by first | exact Or.inl rfl | exact Or.inr rfl)) (pgs_cons (pg_name (i := 9) scLawText.nd rfl (by first | exact Or.inl rfl | exact Or.inr rfl)) (pgs_cons (pg_name (i := 10) scLawText.nd rfl (by first | exact Or.inl rfl | exact Or.inr rfl)) (pgs_cons (pg_name (i := 11) scLawText.nd rfl (by first | exact Or.inl rfl | exact Or.inr rfl)) (pgs_cons (pg_name (i := 12) scLawText.nd rfl (by first | exact Or.inl rfl | exact Or.inr rfl)) (pgs_cons (pg_name (i := 13) scLawText.nd rfl (by first | exact Or.inl rfl | exact Or.inr rfl)) (pgs_cons (pg_name (i := 14) scLawText.nd rfl (by first | exact Or.inl rfl | exact Or.inr rfl)) pgs_nil)))))))) (pss_cons (ps_set (i := 15) scLawText.nd rfl (by first | exact Or.inl rfl | exact Or.inr rfl) (pe_lst (pa_cons pe_str (pa_cons (pv 7) (pa_cons (pv 9) (pa_cons (pe_orT (pv 10) (pe_one pe_str)) (pa_cons (pv 12) (pa_cons (pe_ifExp (pt_cmp (pc_isN (pv 13))) pe_str (pv 13)) (pa_cons (pv 14) pa_nil)))))))))
      (pss_one (ps_expr (pe_bm PySem.F.plainAttrs_list PySem.F.slot_list_append PySem.F.type_list_append mt_append (pv 6) (pa_cons (pe_op Bw.op_catS (pv 15) (pe_lc (own := [("_law_good", 16), ("_law_many", 8)]) (g := gTup K 2 (gCons (gName 16) (gCons (gName 8) gNil))) rfl scLawText.nd (pi_tup (pv 11)) (blkOk_by (own := [("_law_good", 16), ("_law_many", 8)]) (N := ["_law_book_here", "_law_machines", "_law_goods", "_law_tasks", "_law_waits_here", "_law_fixed", "_law_rows", "_law_name", "_law_many", "_law_length", "_law_machine", "_law_needs", "_law_first", "_law_due", "_law_weight", "_law_row", "_law_good", "_law_a", "_law_b", "_law_gap", "_law_task_here", "_law_begin", "_law_word"]) (sc := (defScope sLawText)) (by decide +kernel)) (fun _ _ _ _ _ => (pg_tup rfl (pgs_cons (pg_name (i := 16) scLawText.nd rfl (by first | exact Or.inl rfl | exact Or.inr rfl)) (pgs_cons (pg_name (i := 8) scLawText.nd rfl (by first | exact Or.inl rfl | exact Or.inr rfl)) pgs_nil)))) (fun _ _ _ _ _ => pts_nil) (fun _ _ _ _ _ => (pe_op op_add_str (pe_op op_add_str (pv 16) pe_str) (pe_callTy (T := "str") call_str_int rfl (T.fr 61) (by decide +kernel) (pa_cons (pv 8) pa_nil)))))) pa_nil))))))
      (pss_cons (ps_for PassesOwn.never rfl (pi_tup (pv 4)) (pg_tup rfl (pgs_cons (pg_name (i := 17) scLawText.nd rfl (by first | exact Or.inl rfl | exact Or.inr rfl)) (pgs_cons (pg_name (i := 18) scLawText.nd rfl (by first | exact Or.inl rfl | exact Or.inr rfl)) (pgs_cons (pg_name (i := 19) scLawText.nd rfl (by first | exact Or.inl rfl | exact Or.inr rfl)) pgs_nil)))) (pss_one (ps_expr (pe_bm PySem.F.plainAttrs_list PySem.F.slot_list_append PySem.F.type_list_append mt_append (pv 6) (pa_cons (pe_lst (pa_cons pe_str (pa_cons (pe_ix ix_tup (pe_ix ix_tup (pv 3) (pv 17) (fun _ _ => rfl)) pe_int (fun _ _ => rfl)) (pa_cons (pe_ix ix_tup (pe_ix ix_tup (pv 3) (pv 18) (fun _ _ => rfl)) pe_int (fun _ _ => rfl)) (pa_cons (pv 19) pa_nil))))) pa_nil)))))
      (pss_cons (ps_for PassesOwn.never rfl (pi_tup (pv 5)) (pg_tup rfl (pgs_cons (pg_name (i := 20) scLawText.nd rfl (by first | exact Or.inl rfl | exact Or.inr rfl)) (pgs_cons (pg_name (i := 21) scLawText.nd rfl (by first | exact Or.inl rfl | exact Or.inr rfl)) pgs_nil))) (pss_one (ps_expr (pe_bm PySem.F.plainAttrs_list PySem.F.slot_list_append PySem.F.type_list_append mt_append (pv 6) (pa_cons (pe_lst (pa_cons pe_str (pa_cons (pe_ix ix_tup (pe_ix ix_tup (pv 3) (pv 20) (fun _ _ => rfl)) pe_int (fun _ _ => rfl)) (pa_cons (pv 21) pa_nil)))) pa_nil)))))
      (pss_one (ps_ret (pe_join pe_str (pe_lc (own := [("_law_row", 15)]) (g := gName 15) rfl scLawText.nd (pi_list (pv 6)) (blkOk_by (own := [("_law_row", 15)]) (N := ["_law_book_here", "_law_machines", "_law_goods", "_law_tasks", "_law_waits_here", "_law_fixed", "_law_rows", "_law_name", "_law_many", "_law_length", "_law_machine", "_law_needs", "_law_first", "_law_due", "_law_weight", "_law_row", "_law_good", "_law_a", "_law_b", "_law_gap", "_law_task_here", "_law_begin", "_law_word"]) (sc := (defScope sLawText)) (by decide +kernel)) (fun _ _ _ _ _ => (pg_name (i := 15) scLawText.nd rfl (by first | exact Or.inl rfl | exact Or.inr rfl))) (fun _ _ _ _ _ => pts_nil) (fun _ _ _ _ _ => (by exact (by exact (Bw.pe_joinK (K := K) rfl pe_str (by exact (by exact (pe_lc (wi := iList K (tVar 15)) (own := [("_law_word", 22)]) (g := gName 22) rfl scLawText.nd (pi_list (pv 15)) (blkOk_by (own := [("_law_word", 22)]) (N := ["_law_book_here", "_law_machines", "_law_goods", "_law_tasks", "_law_waits_here", "_law_fixed", "_law_rows", "_law_name", "_law_many", "_law_length", "_law_machine", "_law_needs", "_law_first", "_law_due", "_law_weight", "_law_row", "_law_good", "_law_a", "_law_b", "_law_gap", "_law_task_here", "_law_begin", "_law_word"]) (sc := Bk.lcScopeLawText1) (by decide +kernel)) (fun _ _ _ _ _ => (pg_name (i := 22) scLawText.nd rfl (by first | exact Or.inl rfl | exact Or.inr rfl))) (fun _ _ _ _ _ => pts_nil) (fun _ _ _ _ _ => (pe_callTy (T := "str") Bw.call_strA rfl (T.fr 61) (by decide +kernel) (pa_cons (pv 22) pa_nil))))))))))))))))))), bodyP2 h fun B hA xs y hR => by
    obtain ⟨b, rfl, hb, rfl⟩ := hR
    have k1 := hb.ms.1
    have k2 := hb.gs.1
    have k3 := hb.ts.1
    have k4 := hb.ws.1
    have k5 := hb.fx.1
    refine s_seq <| s_asg <| w_var rfl <| g_tup rfl rfl <| gs_cons <| g_name trivial rfl <| gs_cons <| g_name trivial rfl <| gs_cons <| g_name trivial rfl <| gs_cons <| g_name trivial rfl <| gs_cons <| g_name trivial rfl <| gs_nil ?_
    refine s_seq <| s_setL <| wl_cat <| w_fr <| wl_mapA <| wi_tup <| w_var rfl ⟨_, rfl, b.ms, .str, fun m => encR (machR m), rfl, sz_str (by omega), rfl, fun m hm B' => ?_, _, rfl, w_fr <| wl_mapA <| wi_tup <| w_var rfl ⟨_, rfl, b.gs, pN, fun p => encR (goodR p), rfl, sz_str (by omega), rfl, fun p hp B' => ?_, _, rfl, ?_, rfl, ?_⟩⟩
    · exact g_name (by decide) rfl <| w_lst <| wa_cons <| w_str <| wa_cons <| w_var rfl <| wa_nil ⟨by show 2 ≤ sizeLine; decide, rfl, rfl⟩
    · exact g_tup rfl rfl <| gs_cons <| g_name (by decide) rfl <| gs_cons <| g_name (by decide) rfl <| gs_nil <| w_lst <| wa_cons <| w_str <| wa_cons <| w_var rfl <| wa_cons <| w_var rfl <| wa_nil ⟨by show 3 ≤ sizeLine; decide, rfl, rfl⟩
    · rw [List.length_map, List.length_map]; exact sz_str (by omega)
    have at_ : ∀ {i : Nat}, i < b.ts.length → ∃ t, b.ts[i]? = some t ∧ nameAt b.ts i = t.name ∧ (b.ts.map pT)[i]? = some (pT t) := fun {i} hi => by
      have e : b.ts[i]? = some b.ts[i] := List.getElem?_eq_getElem hi
      exact ⟨_, e, nameAt_eq e, by rw [List.getElem?_map, e]; rfl⟩
    -- tasks
    refine s_seq <| s_for <| wi_tup <| w_var rfl ⟨_, rfl, fun i r => ∃ a1 a2 a3 a4 a5 a6 a7 a8, flatS a8 = true ∧ r = [.d (pB b), .d (.tuple (b.ms.map .str)), .d (.tuple (b.gs.map pN)), .d (.tuple (b.ts.map pT)), .d (.tuple (b.ws.map pW)), .d (.tuple (b.fx.map pF)), .l ((b.ms.map (fun m => encR (machR m)) ++ b.gs.map (fun p => encR (goodR p))) ++ (b.ts.take i).map (fun t => encR (taskR t))), a1, .n, a2, a3, a4, a5, a6, a7, a8, .n, .n, .n, .n, .n, .n, .n], ⟨.n, .n, .n, .n, .n, .n, .n, .n, rfl, ?_⟩, ?_, ?_⟩
    · rw [List.take_zero, List.map_nil, List.append_nil]; rfl
    · rintro i x r hx ⟨a1, a2, a3, a4, a5, a6, a7, a8, fa8, rfl⟩
      rw [List.getElem?_map] at hx
      cases e1 : b.ts[i]? with
      | none => rw [e1] at hx; cases hx
      | some t =>
        rw [e1] at hx
        obtain rfl : pT t = x := Option.some.inj hx
        obtain ⟨hi, he⟩ := List.getElem?_eq_some_iff.mp e1
        have ht := (hb.ts.2.1 t (List.mem_of_getElem? e1)).form
        refine g_tup rfl rfl <| gs_cons <| g_name trivial rfl <| gs_cons <| g_name trivial rfl <| gs_cons <| g_name trivial rfl <| gs_cons <| g_name trivial rfl <| gs_cons <| g_name trivial rfl <| gs_cons <| g_name trivial rfl <| gs_cons <| g_name trivial rfl <| gs_nil ?_
        refine s_seq <| s_set <| w_lst <| wa_cons <| w_str <| wa_cons <| w_var rfl <| wa_cons <| w_var rfl <| wa_cons <| w_mach ht.mach rfl <| wa_cons <| w_var rfl <| wa_cons <| w_due rfl <| wa_cons <| w_var rfl <| wa_nil ⟨by show 7 ≤ sizeLine; decide, rfl, ?_⟩
        refine s_app rfl <| w_op <| w_var rfl <| w_fr <| wl_mapA <| wi_tup <| w_var rfl ⟨_, rfl, t.needs, pN, fun p => .str (needW p), rfl, Nat.le_trans ht.needs.1 (by decide), rfl, fun p hp B' => ?_, _, od_cat ?_, _, rfl, ?_, .d (.str t.name), .d (.int (t.len : Nat)), .d (.str t.mach), .d (.tuple (t.needs.map pN)), .d (.int (t.first : Nat)), .d (pD t.due), .d (.int (t.wt : Nat)), .d (.list [PyData.str (Str.ofString "task"), .str t.name, .int (t.len : Nat), .str (mWord t.mach), .int (t.first : Nat), encW (dueR t.due), .int (t.wt : Nat)]), rfl, ?_⟩
        · have h6 := ht.needs.2 p hp
          have h7 := h6.1.hi
          have h8 : (numS p.2).length ≤ 2 := numS_len (by decide) (by omega)
          have h9 : (Str.ofString ":").length = 1 := by decide +kernel
          refine g_tup rfl rfl <| gs_cons <| g_name (by decide) rfl <| gs_cons <| g_name (by decide) rfl <| gs_nil <| w_op <| w_op <| w_var rfl <| w_str ⟨_, od_addS (sz_str (by omega)), w_strN (n := p.2) (by omega) <| w_var rfl ⟨rfl, _, od_addS (sz_str (by rw [len_app]; omega)), rfl, rfl⟩⟩
        · have := ht.needs.1
          rw [List.length_map]
          refine sz_str (show 7 + t.needs.length ≤ 10000 by omega)
        · simp only [List.length_append, List.length_map, List.length_take]
          exact Nat.lt_of_le_of_lt (show _ ≤ 1000 by omega) (by decide)
        · rw [List.take_succ_eq_append_getElem hi, he, List.map_append, ← List.append_assoc]
          have e : encR (taskR t) = .list ([PyData.str (Str.ofString "task"), .str t.name, .int (t.len : Nat), .str (mWord t.mach), .int (t.first : Nat), encW (dueR t.due), .int (t.wt : Nat)] ++ t.needs.map fun p => .str (needW p)) := by
            unfold encR taskR
            rw [List.map_append, List.map_map]
            rfl
          rw [List.map_singleton, e]
          rfl
    rintro r ⟨a1, a2, a3, a4, a5, a6, a7, a8, fa8, rfl⟩
    rw [List.length_map, List.take_length]
    -- waits
    refine s_seq <| s_for <| wi_tup <| w_var rfl ⟨_, rfl, fun i r => ∃ b1 b2 b3, r = [.d (pB b), .d (.tuple (b.ms.map .str)), .d (.tuple (b.gs.map pN)), .d (.tuple (b.ts.map pT)), .d (.tuple (b.ws.map pW)), .d (.tuple (b.fx.map pF)), .l ((b.ms.map (fun m => encR (machR m)) ++ b.gs.map (fun p => encR (goodR p)) ++ b.ts.map (fun t => encR (taskR t))) ++ (b.ws.take i).map (fun p => encR (waitR b.ts p))), a1, .n, a2, a3, a4, a5, a6, a7, a8, .n, b1, b2, b3, .n, .n, .n], ⟨.n, .n, .n, ?_⟩, ?_, ?_⟩
    · rw [List.take_zero, List.map_nil, List.append_nil]
    · rintro i x r hx ⟨b1, b2, b3, rfl⟩
      rw [List.getElem?_map] at hx
      cases e1 : b.ws[i]? with
      | none => rw [e1] at hx; cases hx
      | some p =>
        rw [e1] at hx
        obtain rfl : pW p = x := Option.some.inj hx
        obtain ⟨hi, he⟩ := List.getElem?_eq_some_iff.mp e1
        obtain ⟨h1, h2, h3⟩ := hb.ws.2 p (List.mem_of_getElem? e1)
        obtain ⟨t1, t2, t3, t4⟩ := at_ (i := p.1) (by omega)
        obtain ⟨u1, u2, u3, u4⟩ := at_ (i := p.2.1) h2
        refine g_tup rfl rfl <| gs_cons <| g_name trivial rfl <| gs_cons <| g_name trivial rfl <| gs_cons <| g_name trivial rfl <| gs_nil ?_
        refine s_app rfl <| w_lst <| wa_cons <| w_str <| wa_cons <| w_op <| w_op <| w_var rfl <| w_var rfl ⟨_, od_ixT (atI_n t4), w_int ⟨_, od_ixT (atI_n (j := 0) rfl), wa_cons <| w_op <| w_op <| w_var rfl <| w_var rfl ⟨_, od_ixT (atI_n u4), w_int ⟨_, od_ixT (atI_n (j := 0) rfl), wa_cons <| w_var rfl <| wa_nil ⟨by show 4 ≤ sizeLine; decide, _, rfl, ?_, .d (.int p.1), .d (.int p.2.1), .d (.int p.2.2), ?_⟩⟩⟩⟩⟩
        · simp only [List.length_append, List.length_map, List.length_take]
          exact Nat.lt_of_le_of_lt (show _ ≤ 1000 by omega) (by decide)
        · rw [List.take_succ_eq_append_getElem hi, he, List.map_append, ← List.append_assoc]
          have e : encR (waitR b.ts p) = .list [PyData.str (Str.ofString "wait"), .str t1.name, .str u1.name, .int (p.2.2 : Nat)] := by
            unfold encR waitR
            rw [t3, u3]
            rfl
          rw [List.map_singleton, e]
          rfl
    rintro r ⟨b1, b2, b3, rfl⟩
    rw [List.length_map, List.take_length]
    -- fixed
    refine s_seq <| s_for <| wi_tup <| w_var rfl ⟨_, rfl, fun i r => ∃ c1 c2, r = [.d (pB b), .d (.tuple (b.ms.map .str)), .d (.tuple (b.gs.map pN)), .d (.tuple (b.ts.map pT)), .d (.tuple (b.ws.map pW)), .d (.tuple (b.fx.map pF)), .l (((b.ms.map (fun m => encR (machR m)) ++ b.gs.map (fun p => encR (goodR p)) ++ b.ts.map (fun t => encR (taskR t))) ++ b.ws.map (fun p => encR (waitR b.ts p))) ++ (b.fx.take i).map (fun p => encR (fixR b.ts p))), a1, .n, a2, a3, a4, a5, a6, a7, a8, .n, b1, b2, b3, c1, c2, .n], ⟨.n, .n, ?_⟩, ?_, ?_⟩
    · rw [List.take_zero, List.map_nil, List.append_nil]
    · rintro i x r hx ⟨c1, c2, rfl⟩
      rw [List.getElem?_map] at hx
      cases e1 : b.fx[i]? with
      | none => rw [e1] at hx; cases hx
      | some p =>
        rw [e1] at hx
        obtain rfl : pF p = x := Option.some.inj hx
        obtain ⟨hi, he⟩ := List.getElem?_eq_some_iff.mp e1
        obtain ⟨h1, t0, h2, h3⟩ := hb.fx.2.1 p (List.mem_of_getElem? e1)
        obtain ⟨t1, t2, t3, t4⟩ := at_ (i := p.1) (List.getElem?_eq_some_iff.mp h2).1
        refine g_tup rfl rfl <| gs_cons <| g_name trivial rfl <| gs_cons <| g_name trivial rfl <| gs_nil ?_
        refine s_app rfl <| w_lst <| wa_cons <| w_str <| wa_cons <| w_op <| w_op <| w_var rfl <| w_var rfl ⟨_, od_ixT (atI_n t4), w_int ⟨_, od_ixT (atI_n (j := 0) rfl), wa_cons <| w_var rfl <| wa_nil ⟨by show 3 ≤ sizeLine; decide, _, rfl, ?_, .d (.int p.1), .d (.int p.2), ?_⟩⟩⟩
        · simp only [List.length_append, List.length_map, List.length_take]
          exact Nat.lt_of_le_of_lt (show _ ≤ 1000 by omega) (by decide)
        · rw [List.take_succ_eq_append_getElem hi, he, List.map_append, ← List.append_assoc]
          have e : encR (fixR b.ts p) = .list [PyData.str (Str.ofString "fixed"), .str t1.name, .int (p.2 : Nat)] := by
            unfold encR fixR
            rw [t3]
            rfl
          rw [List.map_singleton, e]
          rfl
    rintro r ⟨c1, c2, rfl⟩
    rw [List.length_map, List.take_length]
    have rows : (((b.ms.map (fun m => encR (machR m)) ++ b.gs.map (fun p => encR (goodR p)) ++ b.ts.map (fun t => encR (taskR t))) ++ b.ws.map (fun p => encR (waitR b.ts p))) ++ b.fx.map (fun p => encR (fixR b.ts p))) = (rowsR b).map encR := by
      unfold rowsR
      simp only [List.map_append, List.map_map]
      rfl
    rw [rows]
    have rok := rows_ok hb
    have few := rows_few hb
    have rlen : (rowsR b).length ≤ 130 := by rw [← rowsR_words, List.length_map] at few; exact few
    refine s_ret <| w_m1 <| w_str ⟨rfl, w_fr <| wl_mapA <| wi_list <| w_frz hA rfl ⟨_, rfl, rowsR b, encR, fun r => .str (rowT (r.map wdS)), rfl, sz_str (by omega), by
      show (flatS a8 && true) = true
      rw [fa8]
      rfl, fun r hr B' => ?_, ?_⟩⟩
    · have rw_ : RwOk (r.map wdS) := rok _ (by rw [← rowsR_words]; exact List.mem_map.mpr ⟨r, hr, rfl⟩)
      have rl : r.length ≤ 11 := by have := rw_.few; rw [List.length_map] at this; exact this
      have wok := rowsR_ok hb r hr
      refine g_name (by decide) rfl <| w_m1 <| w_str ⟨rfl, w_fr <| wl_mapA <| wi_list <| w_var rfl ⟨_, rfl, r, encW, fun x => .str (wdS x), rfl, sz_str (by omega), rfl, fun x hx B2 => g_name (by decide) rfl <| w_cb <| wa_cons <| w_var rfl <| wa_nil ⟨_, cd_strA (wok x hx), rfl, rfl⟩, .str (rowT (r.map wdS)), ?_, rfl, rfl⟩⟩
      have e : (r.map fun x => PyData.str (wdS x)) = (r.map wdS).map PyData.str := by rw [List.map_map]; rfl
      show MeD K (rJoin K) _ [.list (r.map fun x => PyData.str (wdS x))] _
      rw [e]
      refine md_join ?_
      have h9 : (Str.ofString " ").length = 1 := by decide +kernel
      rw [h9]
      exact join_fits (k := 16) (n := 11) (fun y hy => (rw_.wd y hy).1) rw_.few (by decide)
    · have e : ((rowsR b).map fun r => PyData.str (rowT (r.map wdS))) = ((rowsW b).map rowT).map PyData.str := by
        rw [← rowsR_words, List.map_map, List.map_map]
        rfl
      refine ⟨.str (textOf (rowsW b)), ?_, rfl⟩
      show MeD K (rJoin K) _ [.list ((rowsR b).map fun r => PyData.str (rowT (r.map wdS)))] _
      rw [e]
      exact md_join (text_fits rok few)⟩
end
end Bw
set_option Elab.async false
set_option linter.all false
set_option maxRecDepth 100000
set_option maxHeartbeats 4000000
/-! zip of a tuple and a list. -/
namespace Bw
open PySem PySem.Spec PyProof.Rows L2 Evl
/-- the tuple at a, the list at b as they stand at each turn, the items in new pairs -/
def ItZ (K : PySem.W.Frag) (a b : Addr) : It :=
  ⟨fun i H => ∃ (xs ys : List V) (x y : V), SqT K H a xs ∧ SqL K H b ys ∧ xs[i]? = some x ∧ ys[i]? = some y,
    fun i H v H' => ∃ T x y, v = .ref T ∧ H T = none ∧ H' = upd H T (.tup [x, y]) ∧ (∀ xs, SqT K H a xs → xs[i]? = some x) ∧ ∀ ys, SqL K H b ys → ys[i]? = some y,
    fun i H => ∃ xs ys : List V, SqT K H a xs ∧ SqL K H b ys ∧ i ≤ xs.length ∧ i ≤ ys.length ∧ (i = xs.length ∨ i = ys.length)⟩
/-- the five cells, and what they walk, lie apart -/
structure Five (z TI TO i1 i2 a b : Addr) : Prop where
  e1 : TI ≠ z
  e2 : TO ≠ z
  e3 : TI ≠ TO
  e4 : TI ≠ i1
  e5 : TI ≠ i2
  e6 : z ≠ i1
  e7 : z ≠ i2
  e8 : TO ≠ i1
  e9 : TO ≠ i2
  e10 : i1 ≠ i2
  e11 : TO ≠ a
theorem turn_zipT {P : Program} {w : World} {K : PySem.W.Frag} {elts : List Expr} {kk : Nat} {tpos : Pos} {a b z TI TO i1 i2 : Addr} (D : Five z TI TO i1 i2 a b) :
    Turn P w K (.Tuple elts kk tpos) (ItZ K a b) [z, TI, TO, i1, i2] z (fun i h => IsZip h z TI TO .none ∧ IsTupOf2 h TI (.ref i1) (.ref i2) ∧ (∃ x y, IsTupOf2 h TO x y) ∧ h.IsTupleIter i1 a i ∧ h.IsListIter i2 b i) where
  mem := by simp
  obj := fun i h ⟨hz, hTI, ⟨x, y, hTO⟩, ⟨o1, e1, _, d1⟩, ⟨o2, e2, _, d2⟩⟩ c hc => by
    simp only [List.mem_cons, List.not_mem_nil, or_false] at hc
    rcases hc with rfl | rfl | rfl | rfl | rfl
    · exact ⟨_, hz, nofun⟩
    · exact ⟨_, hTI, nofun⟩
    · exact ⟨_, hTO, nofun⟩
    · exact ⟨o1, e1, fun v q => by rw [d1] at q; cases q⟩
    · exact ⟨o2, e2, fun v q => by rw [d2] at q; cases q⟩
  keep := fun i h h' ⟨hz, hTI, ⟨x, y, hTO⟩, ⟨o1, e1, r1⟩, ⟨o2, e2, r2⟩⟩ k =>
    ⟨k z (by simp) _ hz, k TI (by simp) _ hTI, ⟨x, y, k TO (by simp) _ hTO⟩, ⟨o1, k i1 (by simp) _ e1, r1⟩, ⟨o2, k i2 (by simp) _ e2, r2⟩⟩
  item := by
    intro X hP hw hK hc i pins s σ H E I hf st hg
    subst hP hw hK
    obtain ⟨hz, hTI, ⟨x0, y0, hTO⟩, h1, h2⟩ := st
    obtain ⟨xs, ys, x, y, hqx, hqy, hx, hy⟩ := hg
    obtain ⟨its, rv, pT, _⟩ := I.tuple hqx
    obtain ⟨jts, rw', pL, _⟩ := I.list hqy
    obtain ⟨u, hu, ru⟩ := rv.get hx
    obtain ⟨u2, hu2, ru2⟩ := rw'.get hy
    have tT : s.heap.IsTuple a its.toArray := pT
    have tL : s.heap.IsList b jts.toArray := pL.isList
    have off : ∀ {c d : Addr} {o o' : Obj}, s.heap.get? c = some o → s.heap.get? d = some o' → o.cls ≠ o'.cls → c ≠ d := fun {c d o o'} q q' n e => by
      rw [e, q'] at q
      cases q
      exact n rfl
    obtain ⟨oT, gT, cT, _⟩ := id tT
    obtain ⟨oL, gL, cL, _⟩ := id tL
    obtain ⟨o1, g1, c1, _⟩ := id h1
    obtain ⟨o2, g2, c2, _⟩ := id h2
    have n1 : a ≠ i1 := off gT g1 (by rw [cT, c1]; decide)
    have n2 : b ≠ i2 := off gL g2 (by rw [cL, c2]; decide)
    have n3 : z ≠ a := off hz gT (by rw [cT]; show Value.type "zip" ≠ .type "tuple"; decide)
    have n4 : z ≠ b := off hz gL (by rw [cL]; show Value.type "zip" ≠ .type "list"; decide)
    have n5 : TO ≠ b := off hTO gL (by rw [cL]; show Value.type "tuple" ≠ .type "list"; decide)
    have n6 : i1 ≠ b := off g1 gL (by rw [c1, cL]; decide)
    have n7 : i2 ≠ a := off g2 gT (by rw [c2, cT]; decide)
    have n8 := D.e11
    have S : ZipSep2 z TI TO i1 i2 [i1, a] [i2, b] := ⟨D.e1, D.e2, D.e3, D.e4, by simp, by simp [D.e6, n3], by simp [D.e8, n8], D.e5, by simp, by simp [D.e7, n4], by simp [D.e9, n5], by simp [D.e10, n6], by simp [D.e10.symm, n7]⟩
    have hh : X.A.in1.handled = none := I.ok.hd hc
    have li : i < its.toArray.size := by rw [List.size_toArray]; exact (List.getElem?_eq_some_iff.mp hu).1
    have lj : i < jts.toArray.size := by rw [List.size_toArray]; exact (List.getElem?_eq_some_iff.mp hu2).1
    have hzl : z < s.heap.objs.size := Heap.lt_size hz
    refine wpAny_pyNext_zipD2_item S (Draws.tuple (A := X.A.in1) hh i1 a n1 its.toArray) (Draws.list (A := X.A.in1) hh i2 b n2 jts.toArray) hz hTI hTO ⟨h1, tT⟩ ⟨h2, tL⟩ li lj fun x1 x2 h' tk y1 y2 z' TO' st1 st2 hT hsz hk => ?_
    have ex : x1 = u := by
      have q : its[i]? = some x1 := by simpa using y1
      exact Option.some.inj (q.symm.trans hu)
    have ey : x2 = u2 := by
      have q : jts[i]? = some x2 := by simpa using y2
      exact Option.some.inj (q.symm.trans hu2)
    subst ex ey
    refine ⟨_, rfl, wpAny_letOwnedTupleGo_zip (s := { s with heap := h', toks := tk }) z' fun h'' z'' sb => ?_⟩
    have at2 : h''.get? s.heap.objs.size = some { cls := .type "tuple", data := .seq #[x1, x2] } := (sb.2 _ (Nat.ne_of_gt hzl)).trans hT
    have new : ObjOk X.prog X.w (upd H s.heap.objs.size (.tup [x, y])) h'' s.heap.objs.size (.tup [x, y]) := ⟨by show 2 ≤ sizeLine; decide, [x1, x2], .cons ru (.cons ru2 .nil), ⟨_, at2, rfl, _, rfl⟩⟩
    have J : Inv X pins σ (upd H s.heap.objs.size (.tup [x, y])) { s with heap := h'', toks := tk } :=
      I.turnedNew (t' := tk) (ch := [z, TI, TO, i1, i2]) (fun c o out q => (sb.2 c fun e => out (by simp [e])).trans (hk c o (fun e => out (by simp [e])) (fun e => out (by simp [e])) (fun e => out (by simp [e])) (fun e => out (by simp [e])) q)) hf (Nat.le_refl _) new
    refine ⟨.ref s.heap.objs.size, _, J, rfl, ⟨_, x, y, rfl, I.hok.fresh (Nat.le_refl _), rfl, fun l q => by rw [I.tuple_inj q hqx]; exact hx, fun l q => by rw [I.list_inj q hqy]; exact hy⟩,
      ⟨z'', (sb.2 _ D.e1).trans (hk _ _ D.e1 D.e3 D.e4 D.e5 hTI), ⟨x1, x2, (sb.2 _ D.e2).trans TO'⟩, st1.1.at fun o q => (sb.2 _ (Ne.symm D.e6)).trans q, st2.1.at fun o q => (sb.2 _ (Ne.symm D.e7)).trans q⟩, fun c hcm => ?_⟩
    have lt : c < s.heap.objs.size := by
      have q := hcm
      simp only [List.mem_cons, List.not_mem_nil, or_false] at q
      rcases q with rfl | rfl | rfl | rfl | rfl
      · exact hzl
      · exact Heap.lt_size hTI
      · exact Heap.lt_size hTO
      · exact Heap.lt_size g1
      · exact Heap.lt_size g2
    rw [upd_ne (Nat.ne_of_lt lt)]
    exact (hf c hcm).1
  done := by
    intro X hP hw hK hc i pins s σ H E I hf st hg
    subst hP hw hK
    obtain ⟨hz, hTI, ⟨x0, y0, hTO⟩, h1, h2⟩ := st
    obtain ⟨xs, ys, hqx, hqy, q1, q2, q3⟩ := hg
    obtain ⟨its, rv, pT, _⟩ := I.tuple hqx
    obtain ⟨jts, rw', pL, _⟩ := I.list hqy
    have tT : s.heap.IsTuple a its.toArray := pT
    have tL : s.heap.IsList b jts.toArray := pL.isList
    have off : ∀ {c d : Addr} {o o' : Obj}, s.heap.get? c = some o → s.heap.get? d = some o' → o.cls ≠ o'.cls → c ≠ d := fun {c d o o'} q q' n e => by
      rw [e, q'] at q
      cases q
      exact n rfl
    obtain ⟨oT, gT, cT, _⟩ := id tT
    obtain ⟨oL, gL, cL, _⟩ := id tL
    obtain ⟨o1, g1, c1, _⟩ := id h1
    obtain ⟨o2, g2, c2, _⟩ := id h2
    have n1 : a ≠ i1 := off gT g1 (by rw [cT, c1]; decide)
    have n2 : b ≠ i2 := off gL g2 (by rw [cL, c2]; decide)
    have n3 : z ≠ a := off hz gT (by rw [cT]; show Value.type "zip" ≠ .type "tuple"; decide)
    have n4 : z ≠ b := off hz gL (by rw [cL]; show Value.type "zip" ≠ .type "list"; decide)
    have n5 : TO ≠ b := off hTO gL (by rw [cL]; show Value.type "tuple" ≠ .type "list"; decide)
    have n6 : i1 ≠ b := off g1 gL (by rw [c1, cL]; decide)
    have n7 : i2 ≠ a := off g2 gT (by rw [c2, cT]; decide)
    have n8 := D.e11
    have S : ZipSep2 z TI TO i1 i2 [i1, a] [i2, b] := ⟨D.e1, D.e2, D.e3, D.e4, by simp, by simp [D.e6, n3], by simp [D.e8, n8], D.e5, by simp, by simp [D.e7, n4], by simp [D.e9, n5], by simp [D.e10, n6], by simp [D.e10.symm, n7]⟩
    have hh : X.A.in1.handled = none := I.ok.hd hc
    have l1 : its.toArray.size = xs.length := by rw [List.size_toArray]; exact (Paired.length rv).symm
    have l2 : jts.toArray.size = ys.length := by rw [List.size_toArray]; exact (Paired.length rw').symm
    exact wpAny_pyNext_zipD2_end S (Draws.tuple (A := X.A.in1) hh i1 a n1 its.toArray) (Draws.list (A := X.A.in1) hh i2 b n2 jts.toArray) hz hTI hTO ⟨h1, tT⟩ ⟨h2, tL⟩ (by omega) (by omega) (by omega) fun h' tk hk =>
      ⟨rfl, I.turnedL (t' := tk) (ch := [z, TI, TO, i1, i2]) (fun c o out q => hk c o (fun e => out (by simp [e])) (fun e => out (by simp [e])) (fun e => out (by simp [e])) (fun e => out (by simp [e])) q) hf⟩
  self := fun A i s Q E st h => wpAny_pyIter_zip st.1 h
def iZipT (K : PySem.W.Frag) (ta : TA) : TI := fun σ H R => ta σ H fun vs H1 => ∃ a b xs ys, vs = [.ref a, .ref b] ∧ SqT K H1 a xs ∧ SqL K H1 b ys ∧ R (ItZ K a b) H1
theorem pi_zipTL {X : Cx} {e e2 : Expr} {ta : TA} {p pos tpos : Pos} {elts : List Expr} {kk : Nat} (hg : Gl X "zip") (hm : X.mg "zip" = none) (ha : PA X [e, e2] ta)
    (hs : starEach [e, e2] X.env = (false, eval e X.env) :: starEach [e2] X.env := by rfl) (hpl : (backTo pos (starEach [e2] X.env)).any (·.1) = false := by rfl) :
    PI X (.Tuple elts kk tpos) (.Call (.Name "zip" p) [e, e2] [] pos) (iZipT X.K ta) := by
  refine ⟨fun pins s σ H R I h => Call_ (ld_blt I hg hm PyProof.Rows.boot_zip (PyProof.Rows.callWith_type1 (thn (ha.run pos pins s σ H _ I h) fun us s1 ⟨vs, H1, I1, r1, q1⟩ => ?_) hs hpl))⟩
  obtain ⟨a, b, xs, ys, ex, hqx, hqy, q⟩ := q1
  subst ex
  obtain ⟨u1, u2, eu, ra, rb⟩ := vals2 r1
  subst eu
  cases ra
  cases rb
  obtain ⟨its, rv, pT, _⟩ := I1.tuple hqx
  obtain ⟨jts, rw', pL, _⟩ := I1.list hqy
  have tT : s1.heap.IsTuple a its.toArray := pT
  have la : a < s1.heap.objs.size := by
    obtain ⟨o, g, _⟩ := tT
    exact Heap.lt_size g
  generalize hn : s1.heap.objs.size = n at la
  refine zip_begins2 (begins_tuple a its.toArray) (begins_list b jts.toArray) tT pL.isList fun h' hz hTI hTO h1 h2 hsz hk => wpAny_pyIter_zip hz ?_
  have I2 : Inv X pins σ H1 { s1 with heap := h' } := I1.kept (t' := s1.toks) hk
  rw [hn] at hz hTI hTO h1 h2
  have la : (a : Nat) < (n : Nat) := la
  have five : Five (n + 4) (n + 2) (n + 3) n (n + 1) a b := ⟨(show ¬ (n + 2 : Nat) = (n + 4 : Nat) by omega), (show ¬ (n + 3 : Nat) = (n + 4 : Nat) by omega), (show ¬ (n + 2 : Nat) = (n + 3 : Nat) by omega), (show ¬ (n + 2 : Nat) = (n : Nat) by omega), (show ¬ (n + 2 : Nat) = (n + 1 : Nat) by omega), (show ¬ (n + 4 : Nat) = (n : Nat) by omega), (show ¬ (n + 4 : Nat) = (n + 1 : Nat) by omega), (show ¬ (n + 3 : Nat) = (n : Nat) by omega), (show ¬ (n + 3 : Nat) = (n + 1 : Nat) by omega), (show ¬ (n : Nat) = (n + 1 : Nat) by omega), Nat.ne_of_gt (Nat.lt_of_lt_of_le la (Nat.le_add_right n 3))⟩
  refine ⟨n + 4, [n + 4, n + 2, n + 3, n, n + 1], _, _, H1, by rw [hn], I2, turn_zipT five, ⟨hz, hTI, ⟨_, _, hTO⟩, ⟨_, h1, rfl, rfl⟩, ⟨_, h2, rfl, rfl⟩⟩, fun c hc => ?_, q⟩
  have hle : s1.heap.objs.size ≤ c := by
    simp only [List.mem_cons, List.not_mem_nil, or_false] at hc
    rw [hn]
    rcases hc with e | e | e | e | e <;> rw [e] <;> first | exact Nat.le_add_right _ _ | exact Nat.le_refl _
  exact I1.fpOk hle (I1.hok.fresh hle)
theorem walk_zipT {K : PySem.W.Frag} {a b : Addr} {xs ys : List V} (hl : xs.length = ys.length) : Walk (ItZ K a b) xs.length (fun H => SqT K H a xs ∧ SqL K H b ys) (YPair (fun i => xs[i]?) (fun i => ys[i]?)) := by
  refine ⟨fun i _ hi q => ⟨xs, ys, xs[i], ys[i], q.1, q.2, by simp [hi], by simp⟩, fun _ q => ⟨xs, ys, q.1, q.2, Nat.le_refl _, by omega, .inl rfl⟩, fun i H v H' _ q y => ?_⟩
  obtain ⟨T, x, z, h1, h2, h3, h4, h5⟩ := y
  exact ⟨T, x, z, h1, h2, h3, h4 xs q.1, h5 ys q.2⟩
end Bw
set_option Elab.async false
set_option linter.all false
set_option maxRecDepth 100000
set_option maxHeartbeats 2000000
/-! The first rows of a book are a book. -/
namespace Bw
open PySem PySem.Spec L2 Evl
def pre (b : Bd) (j : Nat) : Bd := ⟨b.ms.take j, b.gs.take (j - b.ms.length), b.ts.take (j - b.ms.length - b.gs.length), b.ws.take (j - b.ms.length - b.gs.length - b.ts.length), b.fx.take (j - b.ms.length - b.gs.length - b.ts.length - b.ws.length)⟩
theorem pre_names {b : Bd} {n : Nat} {xs : List Nat} : True := trivial
theorem take_app {α : Type} (l m : List α) (j : Nat) : (l ++ m).take j = l.take j ++ m.take (j - l.length) := List.take_append
theorem pre_rowsD (b : Bd) (hb : BdOk b) (j : Nat) : rowsD (pre b j) = (rowsD b).take j := by
  unfold rowsD pre
  simp only [take_app, List.length_map]
  rw [← List.map_take, ← List.map_take, ← List.map_take, ← List.map_take, ← List.map_take]
  have e1 : (b.ws.take (j - b.ms.length - b.gs.length - b.ts.length)).map (fun p => ((3, waitWords (b.ts.take (j - b.ms.length - b.gs.length)) p, pW p) : RE)) = (b.ws.take (j - b.ms.length - b.gs.length - b.ts.length)).map (fun p => ((3, waitWords b.ts p, pW p) : RE)) := by
    by_cases h : j - b.ms.length - b.gs.length ≤ b.ts.length
    · rw [Nat.sub_eq_zero_of_le h]; rfl
    · rw [List.take_of_length_le (l := b.ts) (by omega)]
  have e2 : (b.fx.take (j - b.ms.length - b.gs.length - b.ts.length - b.ws.length)).map (fun p => ((4, fixWords (b.ts.take (j - b.ms.length - b.gs.length)) p, pF p) : RE)) = (b.fx.take (j - b.ms.length - b.gs.length - b.ts.length - b.ws.length)).map (fun p => ((4, fixWords b.ts p, pF p) : RE)) := by
    by_cases h : j - b.ms.length - b.gs.length ≤ b.ts.length
    · rw [Nat.sub_eq_zero_of_le h, Nat.zero_sub]; rfl
    · rw [List.take_of_length_le (l := b.ts) (by omega)]
  rw [e1, e2]
theorem pre_rowsW (b : Bd) (hb : BdOk b) (j : Nat) : rowsW (pre b j) = (rowsW b).take j := by
  rw [← rowsD_words, ← rowsD_words, pre_rowsD b hb, List.map_take]
theorem pB_parts (b : Bd) : pB b = .tuple ((partsOf (rowsD b)).map .tuple) := by
  rw [pt_all]; rfl
theorem pre_ok {b : Bd} (hb : BdOk b) (j : Nat) : BdOk (pre b j) := by
  have hts : j - b.ms.length - b.gs.length ≤ b.ts.length ∨ b.ts.take (j - b.ms.length - b.gs.length) = b.ts := by
    by_cases h : j - b.ms.length - b.gs.length ≤ b.ts.length
    · exact .inl h
    · exact .inr (List.take_of_length_le (by omega))
  have hgs : j - b.ms.length ≤ b.gs.length ∨ b.gs.take (j - b.ms.length) = b.gs := by
    by_cases h : j - b.ms.length ≤ b.gs.length
    · exact .inl h
    · exact .inr (List.take_of_length_le (by omega))
  have hms : j ≤ b.ms.length ∨ b.ms.take j = b.ms := by
    by_cases h : j ≤ b.ms.length
    · exact .inl h
    · exact .inr (List.take_of_length_le (by omega))
  refine ⟨⟨?_, fun m hm => hb.ms.2.1 m (List.mem_of_mem_take hm), (List.take_sublist _ _).nodup hb.ms.2.2⟩, ⟨?_, fun p hp => hb.gs.2.1 p (List.mem_of_mem_take hp), ((List.take_sublist _ _).map _).nodup hb.gs.2.2⟩,
    ⟨?_, fun t ht => ?_, ((List.take_sublist _ _).map _).nodup hb.ts.2.2⟩, ⟨?_, fun p hp => ?_⟩, ⟨?_, fun p hp => ?_, ((List.take_sublist _ _).map _).nodup hb.fx.2.2⟩⟩
  · exact Nat.le_trans (List.length_take_le' _ _) hb.ms.1
  · exact Nat.le_trans (List.length_take_le' _ _) hb.gs.1
  · exact Nat.le_trans (List.length_take_le' _ _) hb.ts.1
  · have tk := hb.ts.2.1 t (List.mem_of_mem_take ht)
    have pos : ¬ j - b.ms.length ≤ b.gs.length := fun h => by
      have e : (pre b j).ts = [] := by
        show b.ts.take (j - b.ms.length - b.gs.length) = []
        rw [Nat.sub_eq_zero_of_le h]; rfl
      rw [e] at ht
      cases ht
    have eg : (pre b j).gs = b.gs := hgs.resolve_left pos
    have em : (pre b j).ms = b.ms := hms.resolve_left (by omega)
    exact ⟨tk.name, tk.len, by rw [em]; exact tk.mach, by rw [eg]; exact tk.needs, tk.few, tk.unl, tk.first, tk.due, tk.wt⟩
  · exact Nat.le_trans (List.length_take_le' _ _) hb.ws.1
  · have pos : ¬ j - b.ms.length - b.gs.length ≤ b.ts.length := fun h => by
      have e : (pre b j).ws = [] := by
        show b.ws.take (j - b.ms.length - b.gs.length - b.ts.length) = []
        rw [Nat.sub_eq_zero_of_le h]; rfl
      rw [e] at hp
      cases hp
    have et : (pre b j).ts = b.ts := hts.resolve_left pos
    rw [et]
    exact hb.ws.2 p (List.mem_of_mem_take hp)
  · exact Nat.le_trans (List.length_take_le' _ _) hb.fx.1
  · have pos : ¬ j - b.ms.length - b.gs.length ≤ b.ts.length := fun h => by
      have e : (pre b j).fx = [] := by
        show b.fx.take (j - b.ms.length - b.gs.length - b.ts.length - b.ws.length) = []
        rw [Nat.sub_eq_zero_of_le h, Nat.zero_sub]; rfl
      rw [e] at hp
      cases hp
    have et : (pre b j).ts = b.ts := hts.resolve_left pos
    rw [et]
    exact hb.fx.2.1 p (List.mem_of_mem_take hp)
end Bw
set_option Elab.async false
set_option linter.all false
set_option maxRecDepth 100000
set_option maxHeartbeats 2000000
/-! What repr tells of a book may be laid. -/
namespace Bw
open PySem PySem.Spec L2 Evl
theorem wt_all {k : Nat} : ∀ {xs : List Pd}, (∀ x ∈ xs, x.weight ≤ k) → PyData.weightAll xs ≤ xs.length * (k + 1)
  | [], _ => by simp [PyData.weightAll]
  | x :: xs, h => by
    have h1 := h x (.head _)
    have h2 := wt_all (xs := xs) fun y hy => h y (.tail _ hy)
    simp only [PyData.weightAll, List.length_cons]
    rw [Nat.succ_mul]
    omega
theorem wt_tup {k n : Nat} {xs : List Pd} (h : ∀ x ∈ xs, x.weight ≤ k) (hn : xs.length ≤ n) : (PyData.tuple xs).weight ≤ n * (k + 1) := by
  simp only [PyData.weight]
  exact Nat.le_trans (wt_all h) (Nat.mul_le_mul_right _ hn)
theorem wt_int {n : Nat} (h : n < 10 ^ 7) : (PyData.int (n : Nat)).weight ≤ 24 := by
  simp only [PyData.weight, Int.natAbs_natCast]
  split
  · omega
  · rename_i z
    have z' : n ≠ 0 := fun e => z (by rw [e]; rfl)
    have := (Nat.log2_lt z').mpr (Nat.lt_trans h (show 10 ^ 7 < 2 ^ 24 by decide))
    omega
theorem wt_str {x : Str} (h : x.length ≤ 8) : (PyData.str x).weight ≤ 24 := by
  simp only [PyData.weight]
  exact Nat.le_trans h (by decide)
/-- what its pieces are: small numbers, short words, None, tuples of these -/
inductive Sm : Pd → Prop where
  | non : Sm .none
  | int {n : Nat} (h : n < 10 ^ 7) : Sm (.int (n : Nat))
  | str {x : Str} (h : NameOk x ∨ x = Str.ofString "") : Sm (.str x)
  | tup {xs : List Pd} (h : ∀ x ∈ xs, Sm x) : Sm (.tuple xs)
theorem sm_show {d : Pd} (h : Sm d) : d.showable = true ∧ d.intsShort 13 = true := by
  have all : ∀ {xs : List Pd}, (∀ x ∈ xs, x.showable = true ∧ x.intsShort 13 = true) → PyData.showableAll xs = true ∧ PyData.intsShortAll 13 xs = true := fun {xs} h => by
    induction xs with
    | nil => exact ⟨by simp [PyData.showableAll], by simp [PyData.intsShortAll]⟩
    | cons x xs ih =>
      have h1 := h x (.head _)
      have h2 := ih fun y hy => h y (.tail _ hy)
      exact ⟨by simp [PyData.showableAll, h1.1, h2.1], by simp [PyData.intsShortAll, h1.2, h2.2]⟩
  induction h with
  | non => exact ⟨by simp [PyData.showable], by simp [PyData.intsShort]⟩
  | @int n h =>
    refine ⟨by simp only [PyData.showable]; exact decide_eq_true (log_num h), ?_⟩
    have := PyData.intsShortAll_ints [(n : Int)] (fun m hm => by
      rw [List.mem_singleton.mp hm, Int.natAbs_natCast]
      exact Nat.lt_trans h (by decide))
    simpa [PyData.intsShortAll] using this
  | str h => exact ⟨by simp [PyData.showable], by simp [PyData.intsShort]⟩
  | tup h ih =>
    have := all ih
    exact ⟨by simp only [PyData.showable]; exact this.1, by simp only [PyData.intsShort]; exact this.2⟩
theorem repr_in {q c : Nat} : ∀ (l : List Nat) (acc : Array Nat), c ∈ (l.foldl (fun out d => out ++ (Builtin.Str.reprChar q d).toArray) acc).toList → c ∈ acc.toList ∨ ∃ d ∈ l, c ∈ Builtin.Str.reprChar q d
  | [], acc, h => .inl h
  | d :: l, acc, h => by
    rcases repr_in l _ h with z | ⟨e, h1, h2⟩
    · rw [Array.toList_append] at z
      rcases List.mem_append.mp z with z | z
      · exact .inl z
      · exact .inr ⟨d, .head _, z⟩
    · exact .inr ⟨e, .tail _ h1, h2⟩
theorem repr_small : ∀ d : Fin 26, Builtin.Str.reprChar 39 (97 + d.val) = [97 + d.val] ∧ Builtin.Str.reprChar 34 (97 + d.val) = [97 + d.val] := by decide +kernel
def CpOk (d : Pd) : Prop := ∀ c ∈ TL.tl d.shown, c < 0x110000
theorem cp_str {x : Str} (h : NameOk x ∨ x = Str.ofString "") : CpOk (.str x) := fun c hc => by
  rw [PyData.shown_str] at hc
  have hq : reprQuote x = 34 ∨ reprQuote x = 39 := by unfold reprQuote; split <;> simp
  have hc' : c ∈ ((x.cps.foldl (fun out d => out ++ (Builtin.Str.reprChar (reprQuote x) d).toArray) #[reprQuote x]).push (reprQuote x)).toList := hc
  rw [Array.toList_push, ← Array.foldl_toList] at hc'
  have q1 : reprQuote x < 0x110000 := by rcases hq with e | e <;> rw [e] <;> decide
  rcases List.mem_append.mp hc' with z | z
  · rcases repr_in _ _ z with z | ⟨d, hd, z⟩
    · have : c = reprQuote x := by simpa using z
      rw [this]; exact q1
    · rcases h with h | h
      · have hs := h.sg d hd
        have key := repr_small ⟨d - 97, by omega⟩
        have e : 97 + (d - 97) = d := by omega
        rw [show (97 + (⟨d - 97, by omega⟩ : Fin 26).val) = d from e] at key
        have : c = d := by
          rcases hq with e | e <;> rw [e] at z
          · rw [key.2] at z; simpa using z
          · rw [key.1] at z; simpa using z
        omega
      · rw [h, show (Str.ofString "").cps.toList = [] by decide +kernel] at hd
        cases hd
  · have : c = reprQuote x := by simpa using z
    rw [this]; exact q1
theorem sm_cp {d : Pd} (h : Sm d) : CpOk d := by
  induction h with
  | non => intro c hc; rw [PyData.shown_none] at hc; exact (show ∀ c ∈ TL.tl ("None" : Str), c < 0x110000 by decide +kernel) c hc
  | @int n h =>
    intro c hc
    rw [PyData.shown_int] at hc
    have := (wd_num h).2 c hc
    omega
  | str h => exact cp_str h
  | @tup xs h ih =>
    intro c hc
    rw [PyData.shown_tuple, TL.tl_append, TL.tl_append] at hc
    rcases List.mem_append.mp hc with hc | hc
    · rcases List.mem_append.mp hc with hc | hc
      · exact (show ∀ c ∈ TL.tl ("(" : Str), c < 0x110000 by decide +kernel) c hc
      · rw [← TL.join_eq] at hc
        rcases mem_join hc with z | ⟨y, hy, z⟩
        · exact (show ∀ c ∈ TL.tl (", " : Str), c < 0x110000 by decide +kernel) c z
        · have all : ∀ {l : List Pd}, y ∈ PyData.shownAll l → ∃ x ∈ l, y = x.shown := fun {l} => by
            induction l with
            | nil => intro q; simp [PyData.shownAll] at q
            | cons a l ih2 =>
              intro q
              rw [PyData.shownAll_cons] at q
              rcases List.mem_cons.mp q with q | q
              · exact ⟨a, .head _, q⟩
              · obtain ⟨x, h1, h2⟩ := ih2 q
                exact ⟨x, .tail _ h1, h2⟩
          obtain ⟨x, h1, h2⟩ := all hy
          rw [h2] at z
          exact ih x h1 c z
    · split at hc
      · exact (show ∀ c ∈ TL.tl (",)" : Str), c < 0x110000 by decide +kernel) c hc
      · exact (show ∀ c ∈ TL.tl (")" : Str), c < 0x110000 by decide +kernel) c hc
theorem sm_N {p : Str × Nat} (h : NameOk p.1) (h2 : p.2 ≤ 99) : Sm (pN p) := .tup fun x hx => by
  simp only [List.mem_cons, List.not_mem_nil, or_false] at hx
  rcases hx with rfl | rfl
  · exact .str (.inl h)
  · exact .int (by omega)
theorem sm_B {b : Bd} (hb : BdOk b) : Sm (pB b) := .tup fun x hx => by
  simp only [List.mem_cons, List.not_mem_nil, or_false] at hx
  rcases hx with rfl | rfl | rfl | rfl | rfl
  · refine .tup fun x hx => ?_
    obtain ⟨m, hm, rfl⟩ := List.mem_map.mp hx
    exact .str (.inl (hb.ms.2.1 m hm))
  · refine .tup fun x hx => ?_
    obtain ⟨p, hp, rfl⟩ := List.mem_map.mp hx
    have := hb.gs.2.1 p hp
    exact sm_N this.1 this.2.2
  · refine .tup fun x hx => ?_
    obtain ⟨t, ht, rfl⟩ := List.mem_map.mp hx
    have tk := hb.ts.2.1 t ht
    have h1 := tk.len
    have h2 := tk.first
    have h3 := tk.wt
    refine .tup fun y hy => ?_
    simp only [List.mem_cons, List.not_mem_nil, or_false] at hy
    rcases hy with rfl | rfl | rfl | rfl | rfl | rfl | rfl
    · exact .str (.inl tk.name)
    · exact .int (by omega)
    · rcases tk.mach with z | z
      · exact .str (.inr (by rw [z]; exact emp_eq))
      · exact .str (.inl z.1)
    · refine .tup fun z hz => ?_
      obtain ⟨p, hp, rfl⟩ := List.mem_map.mp hz
      have := tk.needs p hp
      exact sm_N this.1 this.2.2.1
    · exact .int (by omega)
    · cases hd : t.due with
      | none => exact .non
      | some d => have := tk.due d hd; exact .int (by omega)
    · exact .int (by omega)
  · refine .tup fun x hx => ?_
    obtain ⟨p, hp, rfl⟩ := List.mem_map.mp hx
    have := hb.ws.2 p hp
    have l := hb.ts.1
    refine .tup fun y hy => ?_
    simp only [List.mem_cons, List.not_mem_nil, or_false] at hy
    rcases hy with rfl | rfl | rfl <;> exact .int (by omega)
  · refine .tup fun x hx => ?_
    obtain ⟨p, hp, rfl⟩ := List.mem_map.mp hx
    obtain ⟨h1, t, h2, h3⟩ := hb.fx.2.1 p hp
    have l := hb.ts.1
    have := (List.getElem?_eq_some_iff.mp h2).1
    refine .tup fun y hy => ?_
    simp only [List.mem_cons, List.not_mem_nil, or_false] at hy
    rcases hy with rfl | rfl <;> exact .int (by omega)
theorem wt_leaf {d : Pd} (h : Sm d) (hn : ∀ xs, d ≠ .tuple xs) : d.weight ≤ 24 := by
  cases h with
  | non => simp [PyData.weight]
  | int h => exact wt_int h
  | str h =>
    refine wt_str ?_
    rcases h with h | h
    · exact h.hi
    · rw [h]; decide +kernel
  | tup h => exact absurd rfl (hn _)
theorem wt_flat {xs : List Pd} {n : Nat} (h : Sm (.tuple xs)) (hn : xs.length ≤ n) (hf : ∀ x ∈ xs, ∀ ys, x ≠ .tuple ys) : (PyData.tuple xs).weight ≤ n * 25 := by
  cases h with
  | tup h => exact wt_tup (fun x hx => wt_leaf (h x hx) (hf x hx)) hn
theorem weigh_B {b : Bd} (hb : BdOk b) : (pB b).weight ≤ 5 * 50001 := by
  have sB := sm_B hb
  cases sB with
  | tup hB =>
    have inn : ∀ {xs : List Pd}, PyData.tuple xs ∈ [PyData.tuple (b.ms.map .str), .tuple (b.gs.map pN), .tuple (b.ts.map pT), .tuple (b.ws.map pW), .tuple (b.fx.map pF)] → ∀ x ∈ xs, Sm x := fun {xs} hm => by
      have := hB _ hm
      cases this with
      | tup h => exact h
    have nG := inn (xs := b.gs.map pN) (by simp)
    have nT := inn (xs := b.ts.map pT) (by simp)
    have nW := inn (xs := b.ws.map pW) (by simp)
    have nF := inn (xs := b.fx.map pF) (by simp)
    have pNw : ∀ p : Str × Nat, Sm (pN p) → (pN p).weight ≤ 50 := fun p h => wt_flat (n := 2) h (Nat.le_refl 2) (by simp)
    refine wt_tup (k := 50000) (n := 5) (fun x hx => ?_) (Nat.le_refl 5)
    simp only [List.mem_cons, List.not_mem_nil, or_false] at hx
    rcases hx with rfl | rfl | rfl | rfl | rfl
    · exact Nat.le_trans (wt_flat (n := 6) (hB _ (by simp)) (by rw [List.length_map]; exact hb.ms.1) (fun x hx ys e => by
        obtain ⟨m, _, rfl⟩ := List.mem_map.mp hx
        cases e)) (by decide)
    · refine Nat.le_trans (wt_tup (k := 50) (n := 4) (fun x hx => ?_) (by rw [List.length_map]; exact hb.gs.1)) (by decide)
      have sx := nG x hx
      obtain ⟨p, _, rfl⟩ := List.mem_map.mp hx
      exact pNw p sx
    · refine Nat.le_trans (wt_tup (k := 1600) (n := 30) (fun x hx => ?_) (by rw [List.length_map]; exact hb.ts.1)) (by decide)
      have sx := nT x hx
      obtain ⟨t, ht, rfl⟩ := List.mem_map.mp hx
      have tk := hb.ts.2.1 t ht
      cases sx with
      | tup h =>
        refine Nat.le_trans (wt_tup (k := 204) (n := 7) (fun y hy => ?_) (Nat.le_refl 7)) (by decide)
        have sy := h y hy
        simp only [List.mem_cons, List.not_mem_nil, or_false] at hy
        rcases hy with rfl | rfl | rfl | rfl | rfl | rfl | rfl
        · exact Nat.le_trans (wt_leaf sy (by simp)) (by decide)
        · exact Nat.le_trans (wt_leaf sy (by simp)) (by decide)
        · exact Nat.le_trans (wt_leaf sy (by simp)) (by decide)
        · cases sy with
          | tup hn =>
            refine wt_tup (k := 50) (n := 4) (fun z hz => ?_) (by rw [List.length_map]; exact tk.few)
            have sz := hn z hz
            obtain ⟨p, _, rfl⟩ := List.mem_map.mp hz
            exact pNw p sz
        · exact Nat.le_trans (wt_leaf sy (by simp)) (by decide)
        · exact Nat.le_trans (wt_leaf sy (fun ys e => by cases hd : t.due <;> rw [hd] at e <;> cases e)) (by decide)
        · exact Nat.le_trans (wt_leaf sy (by simp)) (by decide)
    · refine Nat.le_trans (wt_tup (k := 75) (n := 60) (fun x hx => ?_) (by rw [List.length_map]; exact hb.ws.1)) (by decide)
      have sx := nW x hx
      obtain ⟨p, _, rfl⟩ := List.mem_map.mp hx
      exact wt_flat (n := 3) sx (Nat.le_refl 3) (by simp)
    · refine Nat.le_trans (wt_tup (k := 50) (n := 30) (fun x hx => ?_) (by rw [List.length_map]; exact hb.fx.1)) (by decide)
      have sx := nF x hx
      obtain ⟨p, _, rfl⟩ := List.mem_map.mp hx
      exact wt_flat (n := 2) sx (Nat.le_refl 2) (by simp)
theorem show_ok {b : Bd} (hb : BdOk b) : ShowOk b := by
  have sm := sm_B hb
  have sh := sh_B hb
  have s1 := sm_show sm
  have lay : PyData.layable0 (pB b) = true := by
    unfold PyData.layable0
    rw [sh.1, decide_eq_true (Nat.le_trans sh.2 (by decide)), decide_eq_true (Nat.le_trans (weigh_B hb) (by decide))]
    rfl
  exact ⟨s1.1, PyData.hasDict_of_canLay _ sh.1, Nat.le_trans sh.2 (by decide), PyData.shown_fits_of_layable0 (B := 13) (by decide) (by decide) lay s1.2, sm_cp sm⟩
end Bw
set_option Elab.async false
set_option linter.all false
set_option maxRecDepth 100000
set_option maxHeartbeats 4000000
/-! An own list of numbers: read and set by its places. -/
namespace Bw
open PySem PySem.Spec L2 Evl
section
variable {K : PySem.W.Frag} {B : Bs} {σ : L2.St} {ρ : Es} {F H : Hp} {te tv ti : TE} {P : Pd → Es → Prop} {e : En}
theorem w_ixl {j : Nat} {ys : List Pd} (h0 : ρ[j]? = some (.l ys)) (h : WE K B te ρ fun y ρ1 => ∃ i xs x, y = .int i ∧ ρ1[j]? = some (.l xs) ∧ atI xs i = some x ∧ P x ρ1) : WE K B (tOp (rIxL K) (tVar j) te) ρ P := fun σ F H r Q q => by
  obtain ⟨a, _, ha, _⟩ := slot_l r h0
  refine ⟨.ref a, ha, h σ F H r _ fun v y ρ1 F1 H1 p1 e1 d1 r1 => ?_⟩
  obtain ⟨i, xs, x, ey, h1, hx, p⟩ := p1
  subst ey
  cases d1
  obtain ⟨b, vs, hb, hF, hH, d⟩ := slot_l r1 h1
  rw [ha] at hb
  cases hb
  obtain ⟨u, hu, du⟩ := da_atI d hx
  exact ⟨a, vs, i, u, rfl, rfl, .inl (.inl hH), hu, q u x ρ1 F1 H1 p e1 du r1⟩
theorem da_set : ∀ {vs : List V} {ds : List Pd} {k : Nat} {v : V} {d : Pd}, DpAll K F vs ds → Dp K F v d → DpAll K F (vs.set k v) (ds.set k d)
  | _, _, _, _, _, .nil, _ => .nil
  | _, _, 0, _, _, .cons _ h, hd => .cons hd h
  | _, _, k + 1, _, _, .cons h1 h, hd => .cons h1 (da_set h hd)
theorem s_putl {j : Nat} {ys : List Pd} (h0 : ρ[j]? = some (.l ys)) (h : WE K B tv ρ fun x ρ1 => (∃ zs, ρ1[j]? = some (.l zs)) ∧ WE K B ti ρ1 fun y ρ2 => ∃ i xs k, y = .int i ∧ ρ2[j]? = some (.l xs) ∧ ixN xs.length i = some k ∧ e.nx (ρ2.set j (.l (xs.set k x)))) :
    S K B (tAsg tv (gSub (tVar j) ti rSetL)) ρ e := fun σ F H r D q => by
  obtain ⟨a, _, ha, _⟩ := slot_l r h0
  refine h σ F H r _ fun v x ρ1 F1 H1 p1 e1 d1 r1 => ⟨.ref a, ha, p1.2 σ F1 H1 r1 _ fun u y ρ2 F2 H2 p2 e2 d2 r2 => ?_⟩
  obtain ⟨i, xs, k, ey, h2, hk, hx⟩ := p2
  subst ey
  cases d2
  obtain ⟨b, vs, hb, hF, hH, d⟩ := slot_l r2 h2
  rw [ha] at hb
  cases hb
  exact ⟨a, vs, i, k, rfl, rfl, hH, by rw [da_len d]; exact hk, q.nx _ _ F2 _ hx (e1.trans e2) (r2.putL h2 ha (da_set d (d1.mono e2)))⟩
end
end Bw
set_option Elab.async false
set_option linter.all false
set_option maxRecDepth 100000
set_option maxHeartbeats 4000000
/-! The parts of a book, cut by the counts of an own list. -/
namespace Bw
open PySem PySem.Spec L2 Evl
section
variable {K : PySem.W.Frag} {B : Bs} {σ : L2.St} {ρ : Es} {F H : Hp} {e : En}
def cutsD (ps : List (List Pd)) (ns : List Nat) : List Pd := List.zipWith (fun p n => PyData.tuple (p.take n)) ps ns
theorem cutsD_get {ps : List (List Pd)} {ns : List Nat} {i : Nat} {p : List Pd} {n : Nat} (h1 : ps[i]? = some p) (h2 : ns[i]? = some n) : (cutsD ps ns)[i]? = some (.tuple (p.take n)) := by
  unfold cutsD
  rw [List.getElem?_zipWith, h1, h2]
theorem wl_cuts {j k u v : Nat} {ps : List (List Pd)} {ns : List Nat} (hj : ρ[j]? = some (.d (.tuple (ps.map .tuple)))) (hk : ρ[k]? = some (.l (ns.map fun n => .int (n : Nat)))) (hl : ps.length = ns.length) (few : ps.length ≤ 1000) (huv : u ≠ v) (hu : u < ρ.length) (hv : v < ρ.length) {PL : List Pd → Es → Prop} (hp : PL (cutsD ps ns) ρ) :
    WL K B (tLc (iZipT K (tCons (tVar j) (tCons (tVar k) tNil))) (gTup K 2 (gCons (gName u) (gCons (gName v) gNil))) tYes (tSl (rSlA K) (tVar u) tNoPart (tPart (tVar v))) [u, v]) ρ PL := fun σ F H r Q q => by
  obtain ⟨x, hx, dx⟩ := r.slot j _ hj
  have hx' : σ[j]? = some (some x) := by
    cases z : σ[j]? with
    | none => rw [z] at hx; cases hx
    | some w => rw [z] at hx; exact congrArg some hx
  obtain ⟨c, ws, hc, hcF, hcH, dc⟩ := slot_l r hk
  cases dx with
  | tup hs ha =>
    rename_i a vs
    have hlen : vs.length = ws.length := by rw [da_len ha, da_len dc, List.length_map, List.length_map, hl]
    refine ⟨_, hx', _, hc, a, c, vs, ws, rfl, ex_t r.sub hs, .inl (.inl hcH), fun D hD => ?_⟩
    refine lc_it (walk_zipT (K := K) (a := a) (b := c) hlen) (fun i H' => ∃ (Fi : Hp) (acc : List V), Gr F H Fi H' ∧ Fi D = none ∧ H' D = some (.lst acc) ∧ acc.length = i ∧ DpAll K Fi acc ((cutsD ps ns).take i)) ⟨F, [], Gr.newOwn r.sub hD, none_of r.sub hD, upd_same, rfl, by rw [List.take_zero]; exact .nil⟩ (fun i H' _ ⟨Fi, _, g, _⟩ => ⟨ex_t (g.f.trans g.s) hs, .inl (.inl (g.h _ _ hcH))⟩) ?_ ?_
    · rintro i x' H1 H2 hi ⟨Fi, acc, g, fD, hDv, hl2, da⟩ ⟨T, y1, y2, rfl, hT, rfl, h1, h2⟩
      obtain ⟨d1, e1, dd1⟩ := da_get ha h1
      obtain ⟨d2, e2, dd2⟩ := da_get dc h2
      rw [List.getElem?_map] at e1 e2
      obtain ⟨p, ep, rfl⟩ : ∃ p, ps[i]? = some p ∧ d1 = .tuple p := by
        cases z : ps[i]? with
        | none => rw [z] at e1; cases e1
        | some p => rw [z] at e1; exact ⟨p, rfl, (Option.some.inj e1).symm⟩
      obtain ⟨n, en, rfl⟩ : ∃ n, ns[i]? = some n ∧ d2 = .int (n : Nat) := by
        cases z : ns[i]? with
        | none => rw [z] at e2; cases e2
        | some n => rw [z] at e2; exact ⟨n, rfl, (Option.some.inj e2).symm⟩
      cases dd2
      have g1 := g.trans (Gr.new (o := .tup [y1, V.int (n : Nat)]) g.s hT)
      have nTD : D ≠ T := fun z => by rw [z, hT] at hDv; cases hDv
      have lw : (wipe σ [u, v]).length = ρ.length := by rw [wipe_length, r.len]
      refine ⟨T, _, rfl, .inl (.inl upd_same), rfl, _, _, rfl, _, _, rfl, rfl, wipe_eq (by rw [List.length_set, List.length_set]) (fun m hm => ?_), ?_⟩
      · simp only [List.mem_cons, List.not_mem_nil, or_false, not_or] at hm
        rw [List.getElem?_set_ne (Ne.symm hm.2), List.getElem?_set_ne (Ne.symm hm.1)]
      refine ⟨y1, by rw [List.getElem?_set_ne (Ne.symm huv), List.getElem?_set_self (by rw [lw]; exact hu)], V.int (n : Nat), by rw [List.getElem?_set_self (by rw [List.length_set, lw]; exact hv)], (n : Nat), rfl, ?_⟩
      refine sd_tup (K := K) (xs := p) (lo := none) (hi := some (n : Int)) _ _ _ g1.s (dd1.mono g1.f) _ fun w F4 H4 g4 d4 => ?_
      have g5 := g1.trans g4
      have hD4 : H4 D = some (.lst acc) := g4.h _ _ (by rw [upd_ne nTD]; exact hDv)
      have fD4 : F4 D = none := g4.o D (by rw [upd_ne nTD]; exact fD) (by rw [upd_ne nTD, hDv]; nofun)
      have lt : i < (cutsD ps ns).length := (List.getElem?_eq_some_iff.mp (cutsD_get ep en)).1
      have len3 : acc.length ≤ 1000 := by
        have := (List.getElem?_eq_some_iff.mp ep).1
        omega
      refine ⟨acc, hD4, Nat.lt_of_le_of_lt len3 (by decide), F4, acc ++ [w], g5.beside fD4 hD, fD4, upd_same, by rw [List.length_append, hl2]; rfl, ?_⟩
      rw [List.take_succ_eq_append_getElem lt]
      have ei : (cutsD ps ns)[i] = .tuple (p.take n) := Option.some.inj ((List.getElem?_eq_getElem lt).symm.trans (cutsD_get ep en))
      rw [ei]
      rw [cutP_to] at d4
      exact da_append (da.mono ((Gr.new (o := .tup [y1, V.int (n : Nat)]) g.s hT).f.trans g4.f)) (.cons d4 .nil)
    · rintro H1 ⟨Fi, acc, g, fD, hDv, hl2, da⟩
      have hz : (cutsD ps ns).take vs.length = cutsD ps ns := List.take_of_length_le (by unfold cutsD; rw [List.length_zipWith, da_len ha, List.length_map]; omega)
      rw [hz] at da
      exact q D acc _ ρ Fi H1 hp g.f (r.gr g) fD hDv da (r.notB hD) (r.notOwn hD)
end
end Bw
set_option Elab.async false
set_option linter.all false
set_option maxRecDepth 100000
set_option maxHeartbeats 2000000
namespace Bw
open PySem PySem.Spec L2 Evl
theorem pt_pre (m l : List RE) (k : Nat) : (pt (m ++ l) k).take (pt m k).length = pt m k := by
  have e : pt (m ++ l) k = pt m k ++ pt l k := by unfold pt; rw [List.filter_append, List.map_append]
  rw [e, List.take_left']
  rfl
theorem cuts_ok (b : Bd) (j : Nat) : cutsD [b.ms.map .str, b.gs.map pN, b.ts.map pT, b.ws.map pW, b.fx.map pF] ((partsOf ((rowsD b).take j)).map fun p => p.length) = (partsOf ((rowsD b).take j)).map PyData.tuple := by
  have full := pt_all b
  rw [← full]
  have h : ∀ k, (pt (rowsD b) k).take (pt ((rowsD b).take j) k).length = pt ((rowsD b).take j) k := fun k => by
    have := pt_pre ((rowsD b).take j) ((rowsD b).drop j) k
    rw [List.take_append_drop] at this
    exact this
  unfold partsOf cutsD
  simp only [List.map_cons, List.map_nil, List.zipWith_cons_cons, List.zipWith_nil_right, h]
end Bw
set_option Elab.async false
set_option linter.all false
set_option maxRecDepth 100000
set_option maxHeartbeats 8000000
namespace Bw
open PySem PySem.Spec L2 Evl
open Bk (sLaw)
theorem sl_tupAK {X : Cx} {K : PySem.W.Frag} (h : X.K = K) : SlR X (rSlA K) := by
  subst h
  exact sl_tupA
section
variable {P : Program} {w : World} {K : PySem.W.Frag} {mg : Str → Option Value} {base : Heap}
theorem w_book {B : Bs} {ρ : Es} {te : TE} {Q' : Pd → Es → Prop} {s : Nat} {cs : List Int} (hs : ρ[s]? = some (.d (.list (cs.map .int)))) (hcs : cs.length ≤ 63) (h : WE K B te ρ fun x ρ1 => x = .int 30 ∧ ∀ b, BdOk b → b.ts.isEmpty = false → Q' (pB b) ρ1) :
    WE K B (tCall (spBook K) [] C8.E0 (tCons (tVar s) (tCons te tNil))) ρ Q' := fun σ F H r Q q => by
  obtain ⟨u, hu, du⟩ := r.slot s _ hs
  have hu' : σ[s]? = some (some u) := by
    cases z : σ[s]? with
    | none => rw [z] at hu; cases hu
    | some w => rw [z] at hu; exact congrArg some hu
  refine ⟨u, hu', h σ F H r _ fun v x ρ1 F1 H1 p1 e1 d1 r1 => ?_⟩
  obtain ⟨ex, hx⟩ := p1
  subst ex
  cases d1
  exact ⟨F1, u, cs, rfl, r1.sub, du.mono e1, hcs, fun w b F2 H2 hb hne g dp => q w _ ρ1 F2 H2 (hx b hb hne) (e1.trans g.f) dp (r1.gr g)⟩
theorem w_said {B : Bs} {ρ : Es} {te : TE} {Q' : Pd → Es → Prop} (h : WE K B te ρ fun x ρ1 => ∃ b, x = .str (textOf (rowsW b)) ∧ BdOk b ∧ rowsW b ≠ [] ∧ Q' (saidY b) ρ1) : WE K B (tCall (spSaid K) [] C8.E0 (tCons te tNil)) ρ Q' := fun σ F H r Q q =>
  h σ F H r _ fun v x ρ1 F1 H1 p1 e1 d1 r1 => by
    obtain ⟨b, ex, hb, hne, hx⟩ := p1
    subst ex
    cases d1
    exact ⟨F1, b, rfl, r1.sub, hb, show_ok hb, hne, fun w F2 H2 g dp => q w _ ρ1 F2 H2 hx (e1.trans g.f) dp (r1.gr g)⟩
def spLaw (K : PySem.W.Frag) : Sp := fun vs H Q _ => ∃ (F : Hp) (v : V) (cs : List Int), vs = [v] ∧ Ex F H ∧ Dp K F v (.list (cs.map .int)) ∧ cs.length ≤ 63 ∧ ∀ F' H', Gr F H F' H' → Q (.bl true) H'
theorem scLaw : FnScope ["_law_script", "_law_book_here", "_law_rows", "_law_sorts", "_law_counts", "_law_k", "_law_row", "_law_at", "_law_text_here", "_law_due", "_law_part", "_law_many"] ["_law_script"] (defScope sLaw) := ⟨rfl, rfl, rfl, by decide +kernel, rfl, by decide +kernel, by decide +kernel⟩
theorem calLaw (T : Tx K mg) : CalG P w K mg base 9 "law" ["_law_script"] (spLaw K) :=
  calG_of (st := sLaw) (T.def_ 35 (d := Bk.dLaw) rfl) (T.glo 35) scLaw (fun _ _ _ _ _ _ us hl => match us, hl with | [_], _ => rfl) (fun vs H Q E ⟨_, _, _, e, _⟩ => by rw [e]; rfl) fun cdv A outer s H vs Q E hg hr h => by
    refine ⟨_, (pss_cons (ps_set (i := 1) scLaw.nd rfl (by first | exact Or.inl rfl | exact Or.inr rfl) (C8.pe_c (calLawBook T) hr (by decide) rfl (pa_cons (pv 0) (pa_cons pe_int pa_nil))))
      (pss_cons (ps_set (i := 2) scLaw.nd rfl (by first | exact Or.inl rfl | exact Or.inr rfl) (pe_split (C8.pe_c (calLawText T) hr (by decide) rfl (pa_cons (pv 1) pa_nil)) pe_str))
      (pss_cons (ps_set (i := 3) scLaw.nd rfl (by first | exact Or.inl rfl | exact Or.inr rfl) (pe_lst (pa_cons pe_str (pa_cons pe_str (pa_cons pe_str (pa_cons pe_str (pa_cons pe_str pa_nil)))))))
      (pss_cons (ps_set (i := 4) scLaw.nd rfl (by first | exact Or.inl rfl | exact Or.inr rfl) (pe_lst (pa_cons pe_int (pa_cons pe_int (pa_cons pe_int (pa_cons pe_int (pa_cons pe_int pa_nil)))))))
      (pss_cons (ps_for PassesOwn.never rfl (pi_enum rfl (T.fr 63) (pa_cons (pv 2) pa_nil)) (pg_tup rfl (pgs_cons (pg_name (i := 5) scLaw.nd rfl (by first | exact Or.inl rfl | exact Or.inr rfl)) (pgs_cons (pg_name (i := 6) scLaw.nd rfl (by first | exact Or.inl rfl | exact Or.inr rfl)) pgs_nil))) (pss_cons (ps_set (i := 7) scLaw.nd rfl (by first | exact Or.inl rfl | exact Or.inr rfl) (pe_bm PySem.F.plainAttrs_list PySem.F.slot_list_index PySem.F.type_list_index (mt_indexD (Bw.u65 hr)) (pv 3) (pa_cons (pe_ix ix_list (pe_split (pv 6) pe_str) pe_int (fun _ _ => rfl)) pa_nil)))
      (pss_cons (ps_asg (pe_op op_add (pe_ix ix_list (pv 4) (pv 7) (fun _ _ => rfl)) pe_int) (pg_sub (pv 4) (pv 7) set_list))
      (pss_cons (ps_set (i := 8) scLaw.nd rfl (by first | exact Or.inl rfl | exact Or.inr rfl) (pe_join pe_str (pe_slice sl_list (pv 2) po_none (po_some (pe_op op_add (pv 5) pe_int)))))
      (pss_cons (ps_set (i := 9) scLaw.nd rfl (by first | exact Or.inl rfl | exact Or.inr rfl) (pe_callTy (T := "tuple") (Bw.call_tupleZK (K := K) rfl) rfl (T.fr 64) (by decide +kernel) (pa_cons (pe_lc (own := [("_law_part", 10), ("_law_many", 11)]) (g := gTup K 2 (gCons (gName 10) (gCons (gName 11) gNil))) rfl scLaw.nd (Bw.pi_zipTL rfl (T.fr 65) (pa_cons (pv 1) (pa_cons (pv 4) pa_nil))) (blkOk_by (own := [("_law_part", 10), ("_law_many", 11)]) (N := ["_law_script", "_law_book_here", "_law_rows", "_law_sorts", "_law_counts", "_law_k", "_law_row", "_law_at", "_law_text_here", "_law_due", "_law_part", "_law_many"]) (sc := (defScope sLaw)) (by decide +kernel)) (fun _ _ _ _ _ => (pg_tup rfl (pgs_cons (pg_name (i := 10) scLaw.nd rfl (by first | exact Or.inl rfl | exact Or.inr rfl)) (pgs_cons (pg_name (i := 11) scLaw.nd rfl (by first | exact Or.inl rfl | exact Or.inr rfl)) pgs_nil)))) (fun _ _ _ _ _ => pts_nil) (fun _ _ _ _ _ => (pe_slice (Bw.sl_tupAK (K := K) rfl) (pv 10) po_none (po_some (pv 11))))) pa_nil)))
      (pss_one (ps_if (pt_cmpR op_eq (pe_ix ix_list (pv 4) pe_int (fun _ _ => rfl)) pe_int (nomark _)) (pss_one (ps_if (pt_cmpR (op_neD hr.units) (Bw.pe_cG (calLawSaid T) hg hr (by decide) rfl (pa_cons (pv 8) pa_nil)) (pe_tup (pa_cons pe_str (pa_cons pe_str pa_nil))) (nomark _)) (pss_one (ps_ret pe_bl)) pss_nil)) (pss_one (ps_if (PW.pt (pw_or (pt_cmpR (op_neD hr.units) (Bw.pe_cG (calLawSaid T) hg hr (by decide) rfl (pa_cons (pv 8) pa_nil)) (pe_tup (pa_cons pe_str (pa_cons (pe_callB (id := "repr") (Bw.cr_repr hg (Bw.u65 hr)) rfl (T.fr 66) (by decide +kernel) (pa_cons (pv 9) pa_nil)) pa_nil))) (nomark _)) (pw_or1 (pt_cmpR op_ne (C8.pe_c (calBookText T) hr (by decide) rfl (pa_cons (pv 9) pa_nil)) (pv 8) (nomark _))))) (pss_one (ps_ret pe_bl)) pss_nil)))))))))
      (pss_one (ps_ret pe_bl))))))), ?_⟩
    obtain ⟨F, v, cs, rfl, sF, dv, hcs, hQ⟩ := h
    have hg' : A.guards = some [] := hg
    suffices key : ∀ B, (∀ a, ¬ B.A a) → S K B _ (args ["_law_script", "_law_book_here", "_law_rows", "_law_sorts", "_law_counts", "_law_k", "_law_row", "_law_at", "_law_text_here", "_law_due", "_law_part", "_law_many"] [.list (cs.map .int)]) { nx := fun _ => False, rt := fun z _ => z = .bool true } by
      refine key ⟨fun _ => False, F, H, none⟩ (fun _ z => z) _ F H (rel0 sF (.cons dv .nil)) _ ⟨fun _ _ _ _ e => e.elim, fun u z _ _ F' H' e x dd r => ?_, fun _ _ _ _ e => e.elim, fun _ _ _ _ e => e.elim⟩
      have e' : z = .bool true := e
      subst e'
      cases dd
      exact hQ F' H' r.out
    intro B hA
    refine s_seq <| s_set <| w_book rfl hcs <| w_int ⟨rfl, fun b hb hne => ⟨rfl, ?_⟩⟩
    have hfew := rows_few hb
    have hrow := rows_ok hb
    have hlen := text_len hrow hfew
    have hne' : rowsW b ≠ [] := fun z => by
      have e : b.ts.map taskWords = [] := by
        unfold rowsW at z
        simp only [List.append_eq_nil_iff] at z
        exact z.2.2.1
      cases h : b.ts with
      | nil => rw [h] at hne; cases hne
      | cons a l => rw [h] at e; cases e
    refine s_seq <| s_set <| w_m1 <| w_call <| wa_cons <| w_var rfl <| wa_nil ⟨_, ⟨b, rfl, hb, rfl⟩, rfl, w_str ⟨_, md_split (by decide +kernel) (Nat.le_trans (show _ ≤ 100000 by omega) (by decide)), rfl, ?_⟩⟩
    rw [text_split hne' hrow]
    refine s_seq <| s_set <| w_lst <| wa_cons <| w_str <| wa_cons <| w_str <| wa_cons <| w_str <| wa_cons <| w_str <| wa_cons <| w_str <| wa_nil ⟨by show 5 ≤ sizeLine; decide, rfl, ?_⟩
    refine s_seq <| s_setL <| wl_lst <| wa_cons <| w_int <| wa_cons <| w_int <| wa_cons <| w_int <| wa_cons <| w_int <| wa_cons <| w_int <| wa_nil ⟨by show 5 ≤ sizeLine; decide, rfl, ?_⟩
    -- the loop over the rows
    refine s_seq (s_for <| wi_enum <| wa_cons <| w_var rfl <| wa_nil ⟨_, rfl, fun i r => ∃ a5 a6 a7 a8 a9, r = [.d (.list (cs.map .int)), .d (pB b), .d (.list (((rowsW b).map rowT).map .str)), .d (.list (sortW.map .str)), .l (((partsOf ((rowsD b).take i)).map fun p => p.length).map fun n => .int (n : Nat)), a5, a6, a7, a8, a9, .n, .n], ⟨.n, .n, .n, .n, .n, rfl⟩, ?_, ?_⟩)
    · rintro i x r hx ⟨a5, a6, a7, a8, a9, rfl⟩
      have lenD : (((rowsW b).map rowT).map PyData.str).length = (rowsD b).length := by rw [List.length_map, List.length_map, ← rowsD_words, List.length_map]
      have hi : i < (rowsD b).length := by
        have := (List.getElem?_eq_some_iff.mp hx).1
        rw [enumd_len, lenD] at this
        exact this
      have he : (rowsD b)[i]? = some (rowsD b)[i] := List.getElem?_eq_getElem hi
      generalize (rowsD b)[i] = e at he
      obtain ⟨st, tk1⟩ := step_at hb he
      obtain ⟨sr, rwo⟩ := split_rows hb he
      rw [enumd_get (x := .str (rowT e.2.1)) (by rw [List.getElem?_map, sr]; rfl)] at hx
      cases hx
      obtain ⟨w0, hw0, hsw⟩ := st.w0
      have es := st.sort
      refine g_tup rfl rfl <| gs_cons <| g_name trivial rfl <| gs_cons <| g_name trivial rfl <| gs_nil ?_
      have hl3 : (rowT e.2.1).length + 2 ≤ sizeLine := Nat.le_trans (show _ ≤ 1000 by have := rowT_len rwo; omega) (by decide)
      have shS : Sh 1 (.list (sortW.map PyData.str)) := ⟨by decide +kernel, by decide +kernel⟩
      have shw : Sh 0 (.str w0) := sh_str fun c hc => by
        have := (rwo.wd w0 (List.mem_of_getElem? hw0)).2 c hc
        omega
      refine s_seq <| s_set <| w_bm <| w_var rfl ⟨ty_list, wa_cons <| w_op <| w_m1 <| w_var rfl ⟨rfl, w_str ⟨_, md_split (by decide +kernel) hl3, w_int ⟨_, od_ixL (atI_n (j := 0) (x := .str w0) (by rw [rowT_split rwo, List.getElem?_map, hw0]; rfl)), wa_nil ⟨_, md_indexD (j := e.1) (z := .str w0) shS.shaped shw.shaped (by rw [List.getElem?_map, hsw]; rfl) (by simp [PyData.eqv]) (fun m z' hm hz => ?_), rfl, ?_⟩⟩⟩⟩⟩
      · rw [List.getElem?_map] at hz
        cases q : sortW[m]? with
        | none => rw [q] at hz; cases hz
        | some y =>
          rw [q] at hz
          cases hz
          obtain ⟨a1, a2⟩ := List.getElem?_eq_some_iff.mp hsw
          obtain ⟨b1, b2⟩ := List.getElem?_eq_some_iff.mp q
          have ne : y ≠ w0 := fun z => by
            have := (List.getElem_inj sort_nd).mp (b2.trans (z.trans a2.symm))
            omega
          simp [PyData.eqv, ne]
      -- one row more of its sort
      generalize hl : (rowsD b).take i = l at st tk1
      have pl : (((partsOf l).map fun p => p.length).map fun n => PyData.int (n : Nat))[e.1]? = some (.int ((pt l e.1).length : Nat)) := by rw [List.getElem?_map, List.getElem?_map, parts_at l es]; rfl
      have cl5 : (((partsOf l).map fun p => p.length).map fun n => PyData.int (n : Nat)).length = 5 := rfl
      refine s_seq <| s_putl rfl <| w_op <| w_ixl rfl <| w_var rfl ⟨(e.1 : Nat), _, _, rfl, rfl, atI_n pl, w_int ⟨_, od_int, ⟨_, rfl⟩, w_var rfl ⟨(e.1 : Nat), _, e.1, rfl, rfl, ixN_nat (by rw [cl5]; exact es), ?_⟩⟩⟩
      have cnt : (((partsOf l).map fun p => p.length).map fun n => PyData.int (n : Nat)).set e.1 (.int (((pt l e.1).length : Nat) + 1)) = ((partsOf (l ++ [e])).map fun p => p.length).map fun n => PyData.int (n : Nat) := by
        rw [← parts_app l e es, List.map_set, List.map_set, List.length_append]
        rfl
      rw [cnt]
      -- the text of the rows so far
      have hpre := pre_ok hb (i + 1)
      have prow := pre_rowsW b hb (i + 1)
      have ptext : Txt.join (Str.ofString "\n") (((rowsW b).map rowT).take (i + 1)) = textOf (rowsW (pre b (i + 1))) := by
        rw [prow]
        unfold textOf
        rw [List.map_take]
      have ek : (0 : Int) + (i : Nat) + 1 = ((i + 1 : Nat) : Int) := by omega
      have fits : ((((rowsW b).map rowT).take (i + 1)).map (·.length)).sum + (((rowsW b).map rowT).take (i + 1)).length * (Str.ofString "\n").length ≤ 16777216 := by
        have := text_fits (rows_ok hpre) (rows_few hpre)
        rw [prow] at this
        rw [← List.map_take]
        exact this
      refine s_seq <| s_set <| w_m1 <| w_str ⟨rfl, w_sl <| w_var rfl <| wo_none <| wo_some <| w_op <| w_var rfl <| w_int ⟨_, od_int, _, rfl, _, sd_list, .str (textOf (rowsW (pre b (i + 1)))), ?_, rfl, ?_⟩⟩
      · rw [ek, cutP_to, ← List.map_take, ← ptext]
        exact md_join fits
      -- the book so far
      have cuts : cutsD [b.ms.map .str, b.gs.map pN, b.ts.map pT, b.ws.map pW, b.fx.map pF] ((partsOf (l ++ [e])).map fun p => p.length) = (partsOf (l ++ [e])).map PyData.tuple := by
        rw [← tk1]
        exact cuts_ok b (i + 1)
      have duE : PyData.tuple ((partsOf (l ++ [e])).map PyData.tuple) = pB (pre b (i + 1)) := by
        rw [pB_parts, pre_rowsD b hb, tk1]
      refine s_seq <| s_set <| w_cb <| wa_cons <| w_fr <| wl_cuts (ps := [b.ms.map .str, b.gs.map pN, b.ts.map pT, b.ws.map pW, b.fx.map pF]) (ns := (partsOf (l ++ [e])).map fun p => p.length) rfl rfl rfl (show 5 ≤ 1000 by decide) (by decide) (show 10 < 12 by decide) (show 11 < 12 by decide) (wa_nil ⟨_, cd_tupL, rfl, ?_⟩)
      rw [cuts, duE]
      have tlen : (pt (l ++ [e]) 2).length = (pre b (i + 1)).ts.length := by
        have h := pt_all (pre b (i + 1))
        rw [pre_rowsD b hb, tk1] at h
        have h2 : pt (l ++ [e]) 2 = (pre b (i + 1)).ts.map pT := (List.cons.inj (List.cons.inj (List.cons.inj h).2).2).1
        rw [h2, List.length_map]
      have nne : rowsW (pre b (i + 1)) ≠ [] := by
        rw [prow]
        intro z
        have := congrArg List.length z
        rw [List.length_take] at this
        have l0 : 0 < (rowsW b).length := List.length_pos_iff.mpr hne'
        rw [List.length_nil] at this
        omega
      have hsh := show_ok hpre
      have sA : Sh 1 (saidY (pre b (i + 1))) := by
        unfold saidY
        split
        · exact sh_tup (n := 0) (shs_cons (sh_str (by decide +kernel)) (shs_cons (sh_str (by decide +kernel)) shs_nil))
        · exact sh_tup (n := 0) (shs_cons (sh_str (by decide +kernel)) (shs_cons (sh_str hsh.cp) shs_nil))
      have pl2 : (((partsOf (l ++ [e])).map fun p => p.length).map fun n => PyData.int (n : Nat))[2]? = some (.int ((pt (l ++ [e]) 2).length : Nat)) := rfl
      refine s_if <| wt_test <| w_op <| w_ixl rfl <| w_int ⟨2, _, _, rfl, rfl, atI_n (j := 2) pl2, w_int ⟨_, od_eqI, _, rfl, fun q => ?_, fun q => ?_⟩⟩
      · have z : (pre b (i + 1)).ts.isEmpty = true := by
          have := of_decide_eq_true q
          rw [tlen] at this
          exact List.isEmpty_iff.mpr (List.length_eq_zero_iff.mp (by omega))
        refine s_if <| wt_test <| w_op <| w_said <| w_var rfl ⟨pre b (i + 1), rfl, hpre, nne, w_tup <| wa_cons <| w_str <| wa_cons <| w_str <| wa_nil ⟨by show 2 ≤ sizeLine; decide, _, od_neD sA.shaped ?_, _, rfl, fun q => ?_, fun _ => s_next ?_⟩⟩
        · exact (sh_tup (n := 0) (shs_cons (sh_str (by decide +kernel)) (shs_cons (sh_str (by decide +kernel)) shs_nil))).shaped
        · have eY : saidY (pre b (i + 1)) = .tuple [.str (Str.ofString "book"), .str (Str.ofString "form")] := by unfold saidY; rw [z]; rfl
          rw [eY] at q
          exact absurd q (by decide +kernel)
        · exact ⟨_, _, _, _, _, by rw [tk1]; rfl⟩
      · have z : (pre b (i + 1)).ts.isEmpty = false := by
          have := of_decide_eq_false q
          rw [tlen] at this
          cases h : (pre b (i + 1)).ts with
          | nil => rw [h] at this; exact absurd rfl this
          | cons a l => rfl
        have eY : saidY (pre b (i + 1)) = .tuple [.str (Str.ofString "told"), .str (pB (pre b (i + 1))).shown] := by unfold saidY; rw [z]; rfl
        refine s_if <| wt_or <| wt_test <| w_op <| w_said <| w_var rfl ⟨pre b (i + 1), rfl, hpre, nne, w_tup <| wa_cons <| w_str <| wa_cons <| w_cb <| wa_cons <| w_var rfl <| wa_nil ⟨_, cd_repr rfl hsh.sh hsh.nd hsh.dp hsh.len, wa_nil ⟨by show 2 ≤ sizeLine; decide, _, od_neD sA.shaped ?_, _, rfl, fun _ => ?_, fun q => ?_⟩⟩⟩
        · exact (sh_tup (n := 0) (shs_cons (sh_str (by decide +kernel)) (shs_cons (sh_str hsh.cp) shs_nil))).shaped
        · refine wt_test <| w_op <| w_call <| wa_cons <| w_var rfl <| wa_nil ⟨_, ⟨pre b (i + 1), rfl, hpre, rfl⟩, w_var rfl ⟨_, od_neS, _, rfl, fun q => ?_, fun _ => s_next ⟨_, _, _, _, _, by rw [tk1]; rfl⟩⟩⟩
          simp at q
        · rw [eY] at q
          simp [PyData.eqv, PyData.eqvAll] at q
    · rintro r ⟨a5, a6, a7, a8, a9, rfl⟩
      exact s_ret <| w_bl rfl
end
end Bw
set_option Elab.async false
set_option linter.all false
set_option maxRecDepth 100000
set_option maxHeartbeats 0
namespace Bk
open PySem PySem.Spec PyProof.Rows L2
abbrev R : PySem.W.OpenRow := PySem.W.OpenLaw.row PySem.Challenge.rw_boundsmith_k12_whole_row_by_row
abbrev hk : PySem.W.Hook := hookB 5
def ob (s : PySem.W.SharedT) : AlB := obsBG 5 (HandSHeadRun.getT s)
theorem ob_eq (s : PySem.W.SharedT) : ob s = hk.obs s.abs := obsBG_eq (HandSHeadRun.getT_eq s)
theorem run (w : World) : HandSHeadRun.RunEq R (PySem.W.view R.prog [73]) hk ob 20000 loose w := by
  intro os
  kernel_rfl
end Bk
set_option Elab.async false
set_option linter.all false
set_option maxRecDepth 100000
set_option maxHeartbeats 4000000
/-! The end: the law's def is called on the script. -/
namespace Bw
open PySem PySem.Spec PyProof.Rows L2 Evl
/-- what is tracked where the law begins: the script, where it is none of the written part's own -/
def scriptH (K : PySem.W.Frag) (a : Addr) (o : Obj) (xs : List V) : Hp := fun b => if b = a ∧ K.lookup a = none then some (.frz o (.lst xs)) else none
theorem scriptH_some {K : PySem.W.Frag} {a b : Addr} {o : Obj} {xs : List V} {u : HO} (h : scriptH K a o xs b = some u) : b = a ∧ K.lookup a = none ∧ u = .frz o (.lst xs) := by
  unfold scriptH at h
  split at h
  · rename_i z
    exact ⟨z.1, z.2, (Option.some.inj h).symm⟩
  · cases h
/-- a def that is called where no guard stands, on the script that the claim's caller hands it -/
theorem call_script {P : Program} {w : World} {K : PySem.W.Frag} {mg mb : PySem.Str → Option Value} {k : Nat} {f a : Addr} {x y : Str} {sp : Sp} {s : Shared} {vs : List Value} {ns : List Int}
    (kin : K.In s.heap) (gl : s.heap.Ns mainGlobals mg) (bl : s.heap.Ns builtinsNs mb) (bb : ∀ x : Str, x ≠ "__name__" → mb x = bootBuiltins x) (nl : s.heap.NoLimit) (ng : s.gens = #[])
    (isl : s.heap.get? a = some { cls := .type "list", data := .seq vs.toArray }) (hi : IntsAre vs ns) (few : ns.length ≤ sizeLine) (room : Room k callerA) (hm : mg y = some (.ref f)) (prom : ∀ base : Heap, CalG P w K mg base k y [x] sp)
    (hsp : ∀ H : Hp, SqL K H a (ns.map V.int) → sp [.ref a] H (fun v _ => v = .bl true) fun _ _ _ => False) :
    codeAny (model P w) callerA (.call (.ref f) ⟨[.ref a], []⟩) (fun r s' => r = .ok (.ret (.bool true)) ∧ OldK s.heap s'.heap ∧ s'.os = s.os ∧ AllBare s'.gens) s := by
  have rel := vals_ints hi
  have same : vs.length = ns.length := hi.length
  let H : Hp := scriptH K a { cls := .type "list", data := .seq vs.toArray } (ns.map V.int)
  have out : ∀ {b : Addr} {o : Obj}, s.heap.get? b = some o → (∀ es ep, o.data = .dict es ep → H b = none) ∧ (K.lookup b = some o → H b = none) := fun {b o} e => by
    cases z : H b with
    | none => exact ⟨fun _ _ _ => rfl, fun _ => rfl⟩
    | some u =>
      obtain ⟨eb, nk, _⟩ := scriptH_some z
      rw [eb, isl] at e
      have eo := Option.some.inj e
      refine ⟨fun es ep d => ?_, fun l => ?_⟩
      · rw [← eo] at d
        exact absurd (show Data.seq vs.toArray _ = Data.dict es ep from d) nofun
      · rw [eb, nk] at l
        cases l
  have ns_in : ∀ {b : Addr} {m : Str → Option Value}, s.heap.Ns b m → (hidT s.heap H).Ns b m := fun {b m} h => by
    obtain ⟨o, es, ep, e, d, r⟩ := h
    exact ⟨o, es, ep, hidT_get e ((out e).1 es ep d), d, r⟩
  have kb : K.In (hidT s.heap H) := fun b o l => hidT_get (kin b o l) ((out (kin b o l)).2 l)
  have mod : Mod K mg (hidT s.heap H) := by
    refine ⟨kb, ns_in gl, ⟨mb, ns_in bl, bb⟩, ?_⟩
    obtain ⟨mc, h1, h2⟩ := nl
    exact ⟨mc, ns_in h1, h2⟩
  have hok : HOk P w H s.heap := fun b u z => by
    obtain ⟨eb, _, eu⟩ := scriptH_some z
    rw [eb, eu]
    exact ⟨isl, by rw [List.length_map]; exact few, vs, _, rel, isl⟩
  have sq : SqL K H a (ns.map V.int) := by
    cases l : K.lookup a with
    | none => exact .inl (.inr ⟨_, if_pos ⟨rfl, l⟩⟩)
    | some o =>
      have eo := Option.some.inj ((kin a o l).symm.trans isl)
      exact .inr ⟨o, vs.toArray, _, l, by rw [eo], by rw [eo], by rw [eo], by rw [List.size_toArray, same]; exact few, by simpa using rel⟩
  have env : Env0 P w K mg (hidT s.heap H) callerA [] s H := ⟨rfl, mod, fun b o e => of_hidT e, Nat.le_of_eq (hidT_size _ _), trivial, nofun, hok, .of_eq ng⟩
  obtain ⟨f', fd, F, hm', kp, hb⟩ := (prom (hidT s.heap H)).ex
  have ef : f' = f := by
    have e := hm'.symm.trans hm
    cases e
    rfl
  subst ef
  have go := F.run callerA [] s H ⟨[.ref a], []⟩ [.ref a] [.ref a] _ _ rfl room env (hb s [.ref a] kin rfl) (.cons rfl .nil) (hsp H sq)
  refine codeAny_mono go fun r s' h => ?_
  match r, h with
  | .error _, h => exact False.elim h
  | .ok .next, h => exact False.elim h
  | .ok .brk, h => exact False.elim h
  | .ok .cont, h => exact False.elim h
  | .ok (.ret u), h =>
    obtain ⟨v, H', eos, bare, un, hok', rv, q⟩ := h
    have ev : v = .bl true := q
    subst ev
    obtain rfl : u = Value.bool true := rv
    refine ⟨rfl, OldK.of_keep fun b o e => ?_, eos, bare⟩
    cases z : H b with
    | none => exact un.keep b o e z (by intro y; cases y) (by intro y; cases y)
    | some u =>
      obtain ⟨eb, _, eu⟩ := scriptH_some z
      rw [eu] at z
      have st := hok' b _ (un.frzs b _ _ z)
      rw [eb, isl] at e
      rw [← e, eb]
      rw [eb] at st
      exact st.1
theorem da_ints {K : PySem.W.Frag} {H : Hp} : ∀ ns : List Int, DpAll K H (ns.map V.int) (ns.map PyData.int)
  | [] => .nil
  | n :: ns => .cons (.int n) (da_ints ns)
/-- the law, as the head hands it over -/
theorem law_walks {q : Program} {loose : List Str} {XP : (Str → Option Value) → Heap → Prop} {d : DefRec} (hn : d.name = ("law" : Str)) (hdf : d.params.defaults = []) :
    PySem.W.WalkO q loose XP Bk.hk.says (PySem.Challenge.rw_boundsmith_k12_whole_row_by_row).row.toRowW d [] (fun f vs => PySem.call f vs) := by
  refine Att.attach_call (n := 63) rfl hdf fun w s₀ s₁ mg mb fa o pm cd doc a vs ns G Y ho hd hcd hmg hobj hints hlen hg => ?_
  obtain ⟨K, KX, c⟩ := Y
  have T : Tx K mg := ⟨⟨_, KX, G.T.g⟩, c⟩
  rw [hn] at hmg
  exact call_script (k := 9) (x := "_law_script") (y := "law") (sp := spLaw K) KX G.T.g G.T.b G.T.builtins G.T.nolimit hg hobj hints (Nat.le_trans hlen (by decide)) ⟨rfl, by decide, by decide⟩ hmg (fun base => calLaw T) fun H sq => ⟨H, .ref a, ns, rfl, fun _ _ e => e, .lst sq (da_ints ns), hlen, fun _ _ _ => rfl⟩
end Bw
set_option Elab.async false
set_option linter.all false
set_option maxRecDepth 100000
set_option maxHeartbeats 0
open PySem PySem.W PySem.Calls PyProof.Rows
theorem PySem.Challenge.cw_boundsmith_k12_whole_row_by_row_holds : PySem.Challenge.rw_boundsmith_k12_whole_row_by_row.Holds := by
  w_on; o_law
  refine HandSHeadRun.head_any (r := Bk.R) (q := PySem.W.view Bk.R.prog [73]) (H := Bk.hk) (ob := Bk.ob) (M := 20000) (loose := Bk.loose) (d := HandSHeadRun.topDef Bk.R.prog 73) (kwd := []) Bk.ob_eq (by kernel_rfl) (fun s => by kernel_rfl) Bk.run (by kernel_rfl) (by kernel_rfl) (by kernel_rfl) (by rfl) (by first | assumption | decide +kernel) (by decide +kernel) ⟨rfl, rfl, rfl, rfl, rfl, by decide +kernel⟩ ?hw ?hc
  case hw => w_witness2
  case hc => exact Bw.law_walks (by kernel_rfl) (by kernel_rfl)
