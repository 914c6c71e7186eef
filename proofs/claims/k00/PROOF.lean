import PyProof.Rows.All
import Wide.All
import OpenK.AllK
import HandS.Head0
import HandS.Head1
import HandS.Head2
import HandS.HeadEnd
import HandS.HeadHook1
import HandS.HeadHook2
import HandS.Property
import Wide.FinOn
import KE.KStateDown
import HandS.Base
import HandS.Call
import HandS.List
import HandS.Comp
import HandS.Ends
import HandS.Dict
import HandS.Iter
import HandS.Text
import HandS.More
import HandS.Exc
import HandS.TryOnly
import HandS.ExcOwn
import HandS.ExcIs
import HandS.HotCalls
import HandS.Deep
import HandS.Words
import HandS.WordsList
import HandS.WordsDict
import HandS.WordsExc
import HandS.IsInst
import HandS.Flow
import HandS.Conv
import HandS.FStr
import HandS.Defaults
import HandS.Strs
import HandS.Evl
import HandS.TupAny
import PyProof.P3In
import HandS.ExcCtx
import HandS.SortOrd
import HandS.SortRule
import KE.KSortTupAny
import HandS.TupSets
import HandS.Zip
import HandS.SetFor
import HandS.SortInts
import PyProof.StrLawsFrom
import HandS.Style
import HandS.Small
import HandS.IterNext
import HandS.OwnIter
import HandS.IterVal
import PyProof.TupleIter
import PyProof.WalksMore
import PyProof.InstEq
import HandS.Star
import PySem.Challenge.RW_onelineatatime_k00_machine_kept_or_refus
set_option Elab.async false
set_option linter.all false
set_option maxRecDepth 100000
set_option maxHeartbeats 4000000
/-! PuHd: what the head looks at (ahead of all, as the run of the top takes most memory) -/
namespace Q
open PySem
abbrev errNs : List Str := [Str.ofString "BadMachine", Str.ofString "BadNet", Str.ofString "BadStanding", Str.ofString "BadWord", Str.ofString "BadText", Str.ofString "BadWish", Str.ofString "BadPaper", Str.ofString "Cannot", Str.ofString "Loud", Str.ofString "NotCalm", Str.ofString "NotThere", Str.ofString "NoJoin", Str.ofString "TooMany", Str.ofString "Reserved", Str.ofString "Nothing"]
end Q
namespace U
open PySem PySem.Spec PyProof.Rows L2
/-- a property: its class, its name, the getter's qualified name, parameters, body, scope -/
structure PrD where
  cls : Str
  name : Str
  qual : Str
  params : Arguments
  body : List Stmt
  scope : Scope
/-- the property's object, its getter -/
def prP (K : PySem.W.Frag) (C f : Str) : Addr := match PySem.W.findIn K (.ref (He.ga K C)) f with
  | some (some (.ref p)) => p
  | _ => 0
def prG (K : PySem.W.Frag) (C f : Str) : Addr := match PySem.W.recIn K (prP K C f) "property" with
  | some (.ref g :: _) => g
  | _ => 0
def prW (K : PySem.W.Frag) (d : PrD) : He.FnW := match K.lookup (prG K d.cls d.name) with
  | some ⟨_, _, .func fd, _⟩ => some (fd.name, fd.qualname, fd.params, fd.body, fd.scope, fd.globals, fd.closure, fd.builtins)
  | _ => none
def PrD.val (d : PrD) : He.FnW := some (d.name, d.qual, d.params, .stmts d.body, d.scope, mainGlobals, [], builtinsNs)
def prB (K : PySem.W.Frag) (C f q : Str) : Bool :=
  He.eqO (PySem.W.findIn K (.ref (He.ga K C)) f) (some (some (.ref (prP K C f)))) && (He.eqO (PySem.W.specialIn K (.ref (prP K C f)) "__get__") (some (some (.builtin "property.__get__"))) && (decide (PySem.W.takesIn K (.ref (prP K C f)) = some true) &&
  ((match PySem.W.recIn K (prP K C f) "property" with
    | some (.ref g :: _) => decide (g = prG K C f)
    | _ => false) && (PySem.W.keepIn K (.ref (prG K C f)) && (match K.lookup (prG K C f) with
    | some ⟨_, _, .func fd, _⟩ => PySem.W.codeIn K fd.code q && (He.dflB K fd.defaults [] && He.kwdB K fd.kwdefaults [])
    | _ => false)))))
/-- the head's facts and one more -/
def obsQ (fa : List He.Fa) (fn : List He.DefD) (ex : PySem.W.Frag → Bool) (pr : List PrD) (K : PySem.W.Frag) : He.AlD × Bool × List He.FnW := (He.obsD fa fn K, ex K, pr.map (prW K))
def hookQ (n : Nat) (fa : List He.Fa) (fn : List He.DefD) (ex : PySem.W.Frag → Bool) (pr : List PrD) : PySem.W.Hook where
  α := He.AlD × Bool × List He.FnW
  obs := fun s => obsQ fa fn ex pr (He.frG s.heap.get? (He.asD s.heap.get? n))
  val := fun _ => (He.valD fn, true, pr.map PrD.val)
  says := fun _ h => ∃ K : PySem.W.Frag, K.In h ∧ He.SaysD fa fn K ∧ ex K = true ∧ pr.map (prW K) = pr.map PrD.val
  of := fun _ _ e => ⟨_, He.frG_in, congrArg Prod.fst e, congrArg (fun z => z.2.1) e, congrArg (fun z => z.2.2) e⟩
  keeps := fun _ _ _ ⟨K, hK, c⟩ k => ⟨K, PySem.W.Frag.In.keeps hK k, c⟩
def obQ (n : Nat) (fa : List He.Fa) (fn : List He.DefD) (ex : PySem.W.Frag → Bool) (pr : List PrD) (g : Addr → Option Obj) : He.AlD × Bool × List He.FnW := obsQ fa fn ex pr (He.frG g (He.asD g n))
theorem obQ_eq {n : Nat} {fa : List He.Fa} {fn : List He.DefD} {ex : PySem.W.Frag → Bool} {pr : List PrD} {g : Addr → Option Obj} {s : Shared} (h : ∀ a, g a = s.heap.get? a) : obQ n fa fn ex pr g = (hookQ n fa fn ex pr).obs s := by
  have e : g = s.heap.get? := funext h
  rw [e]
  rfl
/-! the same over a list of places: the things that the facts speak of, and no others; the part of the heap is brought to its form first -/
def fL {β : Type} : List (Addr × Obj) → (List (Addr × Obj) → β) → β
  | [], k => k []
  | (a, ⟨c, d, dt, sl⟩) :: r, k => fL r fun ys => k ((a, ⟨c, d, dt, sl⟩) :: ys)
theorem fL_eq {β : Type} : ∀ (l : List (Addr × Obj)) (k : List (Addr × Obj) → β), fL l k = k l
  | [], _ => rfl
  | (a, ⟨c, d, dt, sl⟩) :: r, k => fL_eq r _
def hookR (as : List Addr) (fa : List He.Fa) (fn : List He.DefD) (ex : PySem.W.Frag → Bool) (pr : List PrD) : PySem.W.Hook where
  α := He.AlD × Bool × List He.FnW
  obs := fun s => obsQ fa fn ex pr (He.frG s.heap.get? as)
  val := fun _ => (He.valD fn, true, pr.map PrD.val)
  says := fun _ h => ∃ K : PySem.W.Frag, K.In h ∧ He.SaysD fa fn K ∧ ex K = true ∧ pr.map (prW K) = pr.map PrD.val
  of := fun _ _ e => ⟨_, He.frG_in, congrArg Prod.fst e, congrArg (fun z => z.2.1) e, congrArg (fun z => z.2.2) e⟩
  keeps := fun _ _ _ ⟨K, hK, c⟩ k => ⟨K, PySem.W.Frag.In.keeps hK k, c⟩
def obR (as : List Addr) (fa : List He.Fa) (fn : List He.DefD) (ex : PySem.W.Frag → Bool) (pr : List PrD) (g : Addr → Option Obj) : He.AlD × Bool × List He.FnW := fL (He.frG g as) fun K => obsQ fa fn ex pr K
theorem obR_eq {as : List Addr} {fa : List He.Fa} {fn : List He.DefD} {ex : PySem.W.Frag → Bool} {pr : List PrD} {g : Addr → Option Obj} {s : Shared} (h : ∀ a, g a = s.heap.get? a) : obR as fa fn ex pr g = (hookR as fa fn ex pr).obs s := by
  have e : g = s.heap.get? := funext h
  rw [e]
  exact fL_eq _ _
/-- how a class of errors stands among the others -/
def errB (K : PySem.W.Frag) (x : Str) (l : List Str) : Bool :=
  (He.eqO (PySem.W.findIn K (.ref (He.ga K x)) "__getattribute__") (some (some (.builtin "BaseException.__getattribute__"))) && (He.eqO (PySem.W.findIn K (.ref (He.ga K x)) "__getattr__") (some none) && (decide (PySem.W.subIn K (.ref (He.ga K x)) (.type "BaseException") = some true) && (PySem.W.hasDictIn K (He.ga K x) &&
    (He.eqO (PySem.W.findIn K (.ref (He.ga K x)) "__class__") (some (some (.builtin "object.__class__"))) && (He.eqO (PySem.W.specialIn K (.builtin "object.__class__") "__get__") (some (some (.builtin "getset_descriptor.__get__"))) && (decide (PySem.W.takesIn K (.builtin "object.__class__") = some true) &&
      decide (PySem.W.mroIn K (He.ga K x) (.type "object") = some true)))))))) &&
  ((l.all fun y => decide (PySem.W.kitOne K (.ref (He.ga K x)) (.ref (He.ga K y)) = some (decide (y = x)))) && (decide (PySem.W.kitOne K (.ref (He.ga K x)) (.ref (He.ga K "OneError")) = some true) && (decide (PySem.W.kitOne K (.ref (He.ga K x)) (.type "ValueError") = some true) && decide (x ∈ l))))
abbrev Tys : List String := ["NoneType", "bool", "int", "str", "list", "tuple", "dict"]
/-- how the class C stands to others, as isinstance, == and + look at it -/
structure CkC (K : PySem.W.Frag) (C : Addr) : Prop where
  ca : PySem.W.findIn K (.ref C) "__class__" = some (some (.builtin "object.__class__"))
  hn : PySem.W.specialIn K (.builtin "object.__class__") "__get__" = some (some (.builtin "getset_descriptor.__get__"))
  ht : PySem.W.takesIn K (.builtin "object.__class__") = some true
  hm : PySem.W.mroIn K C (.type "object") = some true
  self : PySem.W.kitOne K (.ref C) (.ref C) = some true
  first : PySem.W.selfFirst K C = true
  kit : ∀ T ∈ Tys, PySem.W.kitOne K (.type T) (.ref C) = some false
  sub : ∀ T ∈ Tys, PySem.W.subIn K (.type T) (.ref C) = some false
def ckB (K : PySem.W.Frag) (C : Addr) : Bool :=
  He.eqO (PySem.W.findIn K (.ref C) "__class__") (some (some (.builtin "object.__class__"))) && (He.eqO (PySem.W.specialIn K (.builtin "object.__class__") "__get__") (some (some (.builtin "getset_descriptor.__get__"))) && (decide (PySem.W.takesIn K (.builtin "object.__class__") = some true) &&
  (decide (PySem.W.mroIn K C (.type "object") = some true) && (decide (PySem.W.kitOne K (.ref C) (.ref C) = some true) && (PySem.W.selfFirst K C && (Tys.all (fun T => decide (PySem.W.kitOne K (.type T) (.ref C) = some false)) && Tys.all (fun T => decide (PySem.W.subIn K (.type T) (.ref C) = some false))))))))
theorem ckB_ok {K : PySem.W.Frag} {C : Addr} (h : ckB K C = true) : CkC K C := by
  obtain ⟨a1, h⟩ := He.ba h
  obtain ⟨a2, h⟩ := He.ba h
  obtain ⟨a3, h⟩ := He.ba h
  obtain ⟨a4, h⟩ := He.ba h
  obtain ⟨a5, h⟩ := He.ba h
  obtain ⟨a6, h⟩ := He.ba h
  obtain ⟨a7, a8⟩ := He.ba h
  exact ⟨He.eqO_ok a1, He.eqO_ok a2, of_decide_eq_true a3, of_decide_eq_true a4, of_decide_eq_true a5, a6, fun T hT => of_decide_eq_true (List.all_eq_true.mp a7 T hT), fun T hT => of_decide_eq_true (List.all_eq_true.mp a8 T hT)⟩
/-- an empty tuple stands at a -/
def ktB (K : PySem.W.Frag) (a : Addr) : Bool := match K.lookup a with
  | some ⟨.type c, _, .seq its _, _⟩ => decide (c = "tuple") && its.isEmpty
  | _ => false
end U

namespace Q
open PySem PySem.Spec PyProof.Rows L2
def top (i : Nat) : Stmt := PySem.Challenge.pw_onelineatatime_k00_machine_kept_or_refus.main.body.getD i (.Pass ⟨0, 0, 0, 0⟩)
abbrev s_law_load : Stmt := top 37
abbrev s_law_take : Stmt := top 38
abbrev s_law_store : Stmt := top 36
end Q
namespace U
open PySem PySem.Spec PyProof.Rows L2 Q
def top (i : Nat) : Stmt := PySem.Challenge.pw_onelineatatime_k00_machine_kept_or_refus.main.body.getD i (.Pass ⟨0, 0, 0, 0⟩)
abbrev s_law_number : Stmt := top 39
abbrev s_law_some : Stmt := top 41
abbrev s_law_copy : Stmt := top 46
abbrev s_law_integer : Stmt := top 44
abbrev s_law_shuffled : Stmt := top 42
abbrev s_law_due : Stmt := top 58
abbrev s_law_pick : Stmt := top 40
abbrev s_law_odd_value : Stmt := top 53
abbrev s_law_crooked : Stmt := top 56
abbrev s_law_trials : Stmt := top 60
abbrev s_Machine_len : Stmt := inClass (top 34) 1
abbrev s_Machine_iter : Stmt := inClass (top 34) 2
abbrev s_law_shows : Stmt := top 57
abbrev s_law_handed : Stmt := top 54
abbrev s_law_same : Stmt := top 45
abbrev s_steps_by_state : Stmt := top 32
abbrev s_is_whole : Stmt := top 22
abbrev s_good_name : Stmt := top 23
abbrev s_short_number : Stmt := top 24
abbrev s_good_letter : Stmt := top 25
abbrev s_step_fits : Stmt := top 30
abbrev s_check_parts : Stmt := top 31
abbrev s_Machine_init : Stmt := inClass (top 34) 0
abbrev s_law_error : Stmt := top 52
abbrev s_law_asked : Stmt := top 59
abbrev s_law_rests : Stmt := top 47
abbrev s_law_full_machine : Stmt := top 50
abbrev s_law_steps : Stmt := top 48
abbrev s_law_machine : Stmt := top 49
abbrev s_law_spell : Stmt := top 43
abbrev s_law_alphabet : Stmt := top 51
abbrev s_law_drawn : Stmt := top 55
abbrev s_law : Stmt := top 61
def fn : List He.DefD := [
  ⟨("_law_number", none), "_law_number", "_law_number", defArgs s_law_number, defBody s_law_number, defScope s_law_number, [], []⟩,
  ⟨("_law_some", none), "_law_some", "_law_some", defArgs s_law_some, defBody s_law_some, defScope s_law_some, [], []⟩,
  ⟨("_law_copy", none), "_law_copy", "_law_copy", defArgs s_law_copy, defBody s_law_copy, defScope s_law_copy, [], []⟩,
  ⟨("_law_integer", none), "_law_integer", "_law_integer", defArgs s_law_integer, defBody s_law_integer, defScope s_law_integer, [], []⟩,
  ⟨("_law_shuffled", none), "_law_shuffled", "_law_shuffled", defArgs s_law_shuffled, defBody s_law_shuffled, defScope s_law_shuffled, [], []⟩,
  ⟨("_law_due", none), "_law_due", "_law_due", defArgs s_law_due, defBody s_law_due, defScope s_law_due, [], []⟩,
  ⟨("_law_pick", none), "_law_pick", "_law_pick", defArgs s_law_pick, defBody s_law_pick, defScope s_law_pick, [], []⟩,
  ⟨("_law_odd_value", none), "_law_odd_value", "_law_odd_value", defArgs s_law_odd_value, defBody s_law_odd_value, defScope s_law_odd_value, [], []⟩,
  ⟨("_law_crooked", none), "_law_crooked", "_law_crooked", defArgs s_law_crooked, defBody s_law_crooked, defScope s_law_crooked, [], []⟩,
  ⟨("_law_trials", none), "_law_trials", "_law_trials", defArgs s_law_trials, defBody s_law_trials, defScope s_law_trials, [], []⟩,
  ⟨("_law_shows", none), "_law_shows", "_law_shows", defArgs s_law_shows, defBody s_law_shows, defScope s_law_shows, [], []⟩,
  ⟨("_law_handed", none), "_law_handed", "_law_handed", defArgs s_law_handed, defBody s_law_handed, defScope s_law_handed, [], []⟩,
  ⟨("_law_same", none), "_law_same", "_law_same", defArgs s_law_same, defBody s_law_same, defScope s_law_same, [], []⟩,
  ⟨("steps_by_state", none), "steps_by_state", "steps_by_state", defArgs s_steps_by_state, defBody s_steps_by_state, defScope s_steps_by_state, [], []⟩,
  ⟨("is_whole", none), "is_whole", "is_whole", defArgs s_is_whole, defBody s_is_whole, defScope s_is_whole, [], []⟩,
  ⟨("good_name", none), "good_name", "good_name", defArgs s_good_name, defBody s_good_name, defScope s_good_name, [], []⟩,
  ⟨("short_number", none), "short_number", "short_number", defArgs s_short_number, defBody s_short_number, defScope s_short_number, [], []⟩,
  ⟨("good_letter", none), "good_letter", "good_letter", defArgs s_good_letter, defBody s_good_letter, defScope s_good_letter, [], []⟩,
  ⟨("step_fits", none), "step_fits", "step_fits", defArgs s_step_fits, defBody s_step_fits, defScope s_step_fits, [], []⟩,
  ⟨("check_parts", none), "check_parts", "check_parts", defArgs s_check_parts, defBody s_check_parts, defScope s_check_parts, [], []⟩,
  ⟨("_law_error", none), "_law_error", "_law_error", defArgs s_law_error, defBody s_law_error, defScope s_law_error, [], []⟩,
  ⟨("_law_asked", none), "_law_asked", "_law_asked", defArgs s_law_asked, defBody s_law_asked, defScope s_law_asked, [], []⟩,
  ⟨("_law_rests", none), "_law_rests", "_law_rests", defArgs s_law_rests, defBody s_law_rests, defScope s_law_rests, [], []⟩,
  ⟨("_law_full_machine", none), "_law_full_machine", "_law_full_machine", defArgs s_law_full_machine, defBody s_law_full_machine, defScope s_law_full_machine, [], []⟩,
  ⟨("_law_steps", none), "_law_steps", "_law_steps", defArgs s_law_steps, defBody s_law_steps, defScope s_law_steps, [], []⟩,
  ⟨("_law_machine", none), "_law_machine", "_law_machine", defArgs s_law_machine, defBody s_law_machine, defScope s_law_machine, [], []⟩,
  ⟨("_law_spell", none), "_law_spell", "_law_spell", defArgs s_law_spell, defBody s_law_spell, defScope s_law_spell, [], []⟩,
  ⟨("_law_alphabet", none), "_law_alphabet", "_law_alphabet", defArgs s_law_alphabet, defBody s_law_alphabet, defScope s_law_alphabet, [], []⟩,
  ⟨("_law_drawn", none), "_law_drawn", "_law_drawn", defArgs s_law_drawn, defBody s_law_drawn, defScope s_law_drawn, [], []⟩,
  ⟨("law", none), "law", "law", defArgs s_law, defBody s_law, defScope s_law, [], []⟩,
  ⟨("_law_load", none), "_law_load", "_law_load", defArgs Q.s_law_load, defBody Q.s_law_load, defScope Q.s_law_load, [], []⟩,
  ⟨("_law_take", none), "_law_take", "_law_take", defArgs Q.s_law_take, defBody Q.s_law_take, defScope Q.s_law_take, [], []⟩,
  ⟨("_law_store", none), "_law_store", "_law_store", defArgs Q.s_law_store, defBody Q.s_law_store, defScope Q.s_law_store, [], []⟩,
  ⟨("Machine", some "__len__"), "__len__", "Machine.__len__", defArgs s_Machine_len, defBody s_Machine_len, defScope s_Machine_len, [], []⟩,
  ⟨("Machine", some "__iter__"), "__iter__", "Machine.__iter__", defArgs s_Machine_iter, defBody s_Machine_iter, defScope s_Machine_iter, [], []⟩,
  ⟨("Machine", some "__init__"), "__init__", "Machine.__init__", defArgs s_Machine_init, defBody s_Machine_init, defScope s_Machine_init, [.adr (He.dflAt ("Machine", some "__init__") 0), .adr (He.dflAt ("Machine", some "__init__") 1)], []⟩]
def fa : List He.Fa := [.glo "_law_number", .glo "_law_some", .glo "_law_copy", .glo "_law_integer", .glo "_law_shuffled", .glo "_law_due",
  .glo "_law_pick", .glo "_law_odd_value", .glo "_law_crooked", .glo "_law_trials", .glo "_law_shows", .glo "_law_handed",
  .glo "_law_same", .glo "steps_by_state", .glo "is_whole", .glo "good_name", .glo "short_number", .glo "good_letter",
  .glo "step_fits", .glo "check_parts", .glo "_law_error", .glo "_law_asked", .glo "_law_rests", .glo "_law_full_machine",
  .glo "_law_steps", .glo "_law_machine", .glo "_law_spell", .glo "_law_alphabet", .glo "_law_drawn", .glo "law",
  .glo "_law_load", .glo "_law_take", .glo "_law_store", .glo "BadMachine", .glo "BadNet", .glo "BadStanding",
  .glo "BadWord", .glo "BadText", .glo "BadWish", .glo "BadPaper", .glo "Cannot", .glo "Loud",
  .glo "NotCalm", .glo "NotThere", .glo "NoJoin", .glo "TooMany", .glo "Reserved", .glo "Nothing",
  .glo "OneError", .free "len", .free "range", .free "isinstance", .free "int", .free "str",
  .free "bool", .free "list", .free "tuple", .free "dict", .free "all", .free "any",
  .free "abs", .free "sum", .free "sorted", .free "min", .free "max", .free "set",
  .free "enumerate", .free "zip", .free "reversed", .free "ValueError", .free "iter", .exc "BadMachine",
  .exm "BadMachine" "OneError" true, .exm "NotThere" "OneError" true, .glo "Machine", .cls "Machine", .mkr "Machine", .noat "Machine" "outs",
  .noat "Machine" "rests", .noat "Machine" "size", .noat "Machine" "steps", .meth "Machine" "__len__", .meth "Machine" "__iter__", .str "DIGITS" (Str.ofString "0123456789"),
  .int "GREATEST_PEER" 5, .int "LONGEST_NAME" 8, .int "MOST_STATES" 60, .int "MOST_STEPS" 200, .str "SMALL_LETTERS" (Str.ofString "abcdefghijklmnopqrstuvwxyz")]
def pr : List PrD := []
def ex (K : PySem.W.Frag) : Bool := (ktB K (He.dflAt ("Machine", some "__init__") 0 K) && (ktB K (He.dflAt ("Machine", some "__init__") 1 K) && (errB K "BadMachine" errNs && (errB K "NotThere" errNs && true))))
def as_ : List Nat := [3, 31, 44, 56, 68, 80, 101, 122, 134, 155, 176, 197, 209, 230, 251, 263, 275, 284, 289, 294, 301, 308, 313, 318, 439, 448, 455, 462, 469, 476, 483, 490, 495, 502, 509, 514, 519, 526, 533, 540, 547, 552, 559, 566, 573, 580, 587, 592, 599, 604, 611, 30, 43, 208, 283, 288, 293, 300, 307, 312, 317, 438, 447, 454, 461, 468, 475, 482, 489, 494, 501, 508, 513, 518, 525, 532, 539, 546, 551, 558, 565, 572, 579, 586, 591, 598, 603, 610, 342, 349, 356, 341, 335, 348, 355, 333, 334]
abbrev R : PySem.W.OpenRow := PySem.W.OpenLaw.row PySem.Challenge.rw_onelineatatime_k00_machine_kept_or_refus
abbrev hk : PySem.W.Hook := hookR as_ fa fn ex pr
def ob (s : PySem.W.SharedT) : He.AlD × Bool × List He.FnW := obR as_ fa fn ex pr (HandSHeadRun.getT s)
theorem ob_eq (s : PySem.W.SharedT) : ob s = hk.obs s.abs := obR_eq (HandSHeadRun.getT_eq s)
def loose : List PySem.Str := ([PySem.Str.ofString "_wall", PySem.Str.ofString "OneError", PySem.Str.ofString "BadMachine", PySem.Str.ofString "BadNet", PySem.Str.ofString "BadStanding", PySem.Str.ofString "BadWord", PySem.Str.ofString "BadText", PySem.Str.ofString "BadWish", PySem.Str.ofString "BadPaper", PySem.Str.ofString "Cannot", PySem.Str.ofString "Loud", PySem.Str.ofString "NotCalm", PySem.Str.ofString "NotThere", PySem.Str.ofString "NoJoin", PySem.Str.ofString "TooMany", PySem.Str.ofString "Reserved", PySem.Str.ofString "Nothing", PySem.Str.ofString "SMALL_LETTERS", PySem.Str.ofString "DIGITS", PySem.Str.ofString "LONGEST_NAME", PySem.Str.ofString "is_whole", PySem.Str.ofString "good_name", PySem.Str.ofString "short_number", PySem.Str.ofString "good_letter", PySem.Str.ofString "MOST_STATES"] : List PySem.Str) ++ ([PySem.Str.ofString "MOST_STEPS", PySem.Str.ofString "GREATEST_PEER", PySem.Str.ofString "step_fits", PySem.Str.ofString "check_parts", PySem.Str.ofString "steps_by_state", PySem.Str.ofString "check_state", PySem.Str.ofString "Machine", PySem.Str.ofString "_law_store", PySem.Str.ofString "_law_load", PySem.Str.ofString "_law_take", PySem.Str.ofString "_law_number", PySem.Str.ofString "_law_pick", PySem.Str.ofString "_law_some", PySem.Str.ofString "_law_shuffled", PySem.Str.ofString "_law_spell", PySem.Str.ofString "_law_integer", PySem.Str.ofString "_law_same", PySem.Str.ofString "_law_copy", PySem.Str.ofString "_law_rests", PySem.Str.ofString "_law_steps", PySem.Str.ofString "_law_machine", PySem.Str.ofString "_law_full_machine", PySem.Str.ofString "_law_alphabet", PySem.Str.ofString "_law_error", PySem.Str.ofString "_law_odd_value"] : List PySem.Str) ++ ([PySem.Str.ofString "_law_handed", PySem.Str.ofString "_law_drawn", PySem.Str.ofString "_law_crooked", PySem.Str.ofString "_law_shows", PySem.Str.ofString "_law_due", PySem.Str.ofString "_law_asked", PySem.Str.ofString "_law_trials"] : List PySem.Str)
set_option maxHeartbeats 0 in
theorem run (w : World) : HandSHeadRun.RunEq R (PySem.W.view R.prog [61]) hk ob 60000 loose w := by
  intro os
  kernel_rfl
end U
/-! KitA: callables, data over the heap, worlds -/
namespace Q
open PySem PySem.Spec PyProof.Rows L2

/-! ### the surroundings of a program -/
structure Env where
  P : Program
  w : World
  K : PySem.W.Frag
  mg : Str → Option Value
  base : Heap
/-- what a name of the module calls: a promise by at most level k -/
def Can (Z : Env) (CX : CXT) (k : Nat) (x : Str) (ps : List Str) (dvs : List V) (sp : Sp) : Prop :=
  ∃ (f : Addr) (fd : FuncData) (ds : List Value), Z.mg x = some (.ref f) ∧ PySem.W.keepIn Z.K (.ref f) = true ∧ Binds Z.K fd ps ds ∧ Vals dvs ds ∧ FnOk Z.P Z.w Z.K Z.mg Z.base CX k f fd ps sp
theorem Can.mono {Z : Env} {CX : CXT} {j k : Nat} {x : Str} {ps : List Str} {dvs : List V} {sp : Sp} (c : Can Z CX j x ps dvs sp) (h : j ≤ k) : Can Z CX k x ps dvs sp := by
  obtain ⟨f, fd, ds, h1, h2, h3, h4, h5⟩ := c
  exact ⟨f, fd, ds, h1, h2, h3, h4, h5.mono h⟩
theorem Can.imp {Z : Env} {CX : CXT} {k : Nat} {x : Str} {ps : List Str} {dvs : List V} {sp sp' : Sp} (c : Can Z CX k x ps dvs sp) (h : ∀ vs H Q E, sp' vs H Q E → sp vs H Q E) : Can Z CX k x ps dvs sp' := by
  obtain ⟨f, fd, ds, h1, h2, h3, h4, h5⟩ := c
  exact ⟨f, fd, ds, h1, h2, h3, h4, h5.imp h⟩
/-- a def of the text stands under its name -/
def DefAt (Z : Env) (x : Str) (st : Stmt) (dvs : List V) : Prop := ∃ (f : Addr) (fd : FuncData), Z.mg x = some (.ref f) ∧ FunD Z.K x x (defArgs st) (defBody st) (defScope st) dvs [] f fd
/-- a context over these surroundings -/
structure At (Z : Env) (X : Cx) : Prop where
  P : X.prog = Z.P
  w : X.w = Z.w
  K : X.K = Z.K
  mg : X.mg = Z.mg
  base : X.base = Z.base
section
variable {Z : Env} {X : Cx} {CX : CXT} {k : Nat} {x : Str} {ps : List Str} {dvs : List V} {sp : Sp} {E : XK} {p pos : Pos} {e : Expr} {es : List Expr} {t : TA}
theorem pcall (c : Can Z CX k x ps dvs sp) (hr : Room k X.A) (ha : PA X (e :: es) t) (hx : Passes CX X E) (z : At Z X := by exact ⟨rfl, rfl, rfl, rfl, rfl⟩) (hg : Gl X x := by rfl) (hdb : (x == ("__debug__" : Str)) = false := by decide)
    (he : starEach (e :: es) X.env = (false, eval e X.env) :: starEach es X.env := by rfl) (hpl : (backTo pos (starEach es X.env)).any (·.1) = false := by rfl) :
    PE X (.Call (.Name x p) (e :: es) [] pos) (tCall sp dvs E t) := by
  obtain ⟨f, fd, ds, h1, h2, h3, h4, h5⟩ := c
  obtain ⟨e1, e2, e3, e4, e5⟩ := z
  rw [← e1, ← e2, ← e3, ← e4, ← e5] at h5
  rw [← e4] at h1
  rw [← e3] at h2 h3
  exact pe_call h5 hr hg h1 h2 h3 h4 hx ha hdb he hpl
theorem pcall0 (c : Can Z CX k x ps dvs sp) (hr : Room k X.A) (hx : Passes CX X E) (z : At Z X := by exact ⟨rfl, rfl, rfl, rfl, rfl⟩) (hg : Gl X x := by rfl) (hdb : (x == ("__debug__" : Str)) = false := by decide) :
    PE X (.Call (.Name x p) [] [] pos) (tCall sp dvs E tNil) := by
  obtain ⟨f, fd, ds, h1, h2, h3, h4, h5⟩ := c
  obtain ⟨e1, e2, e3, e4, e5⟩ := z
  rw [← e1, ← e2, ← e3, ← e4, ← e5] at h5
  rw [← e4] at h1
  rw [← e3] at h2 h3
  exact pe_call0 h5 hr hg h1 h2 h3 h4 hx hdb
/-- a def without defaults keeps its promise -/
theorem can_of {st : Stmt} {N : List Str} (D : DefAt Z x st []) (S : FnScope N ps (defScope st)) (len : ∀ vs H Q E, sp vs H Q E → vs.length = ps.length)
    (hb : ∀ (kV doc pm : Value) (an : Option Addr) (cdv ct : Value) (us : List Value), us.length = ps.length → bindArgs (PySem.W.fnOf x x (defArgs st) (defBody st) (defScope st) .none kV doc pm an cdv ct) ⟨us, []⟩ = pure (ps.zip us))
    (hbody : ∀ (f : Addr) (cdv : Value) (A : Around) (outer : List PySem.Env) (s : Shared) (H : Hp) (vs : List V) (Q : VK) (E : XK), Room k (A.deeper (envOfC x (defScope st) s.heap.objs.size f cdv)) → sp vs H Q E →
      ∃ t, PSs (cxOf CX Z.P Z.w Z.K Z.mg Z.base N x (defScope st) f cdv A outer s H E) (defBody st) t ∧ t { nx := fun _ H' => Q .non H', rt := Q } (start N vs) H) : Can Z CX (k + 1) x ps [] sp := by
  obtain ⟨f, fd, hm, F⟩ := D
  have b := FunD.bindsN F hb
  exact ⟨f, fd, [], hm, F.kp, b, .nil, F.ok S len fun cdv A outer s H vs Q E hr h => hbody f cdv A outer s H vs Q E hr h⟩
end

/-! ### operators for every kind -/
section
variable {X : Cx}
theorem OpR.or2 {f : Value → Value → Sem Value} {r r' : R2} (h : OpR X f r) (h' : OpR X f r') : OpR X f (fun x y H Q => r x y H Q ∨ r' x y H Q) := fun pins s σ H x y v u Q I rx ry q =>
  q.elim (h pins s σ H x y v u Q I rx ry) (h' pins s σ H x y v u Q I rx ry)
theorem CallR.or2 {f : Value} {r r' : List V → Hp → VK → Prop} (h : CallR X f r) (h' : CallR X f r') : CallR X f (fun xs H Q => r xs H Q ∨ r' xs H Q) := fun pins s σ H xs us Q I rx q =>
  q.elim (h pins s σ H xs us Q I rx) (h' pins s σ H xs us Q I rx)
abbrev rAddS : R2 := fun x y H Q => ∃ i j, x = .str i ∧ y = .str j ∧ i.length + j.length ≤ sizeLine ∧ Q (.str (i ++ j)) H
def rAddU : R2 := fun x y H Q => rI0 (fun i j => .int (i + j)) x y H Q ∨ rAddS x y H Q ∨ rCat x y H Q
theorem o_add : OpR X (binaryOp .Add) rAddU := OpR.or2 op_add (OpR.or2 op_add_str op_cat)
theorem o_sub : OpR X (binaryOp .Sub) (rI0 fun i j => .int (i - j)) := op_sub
theorem o_mul : OpR X (binaryOp .Mult) (rI CMul fun i j => .int (i * j)) := op_mul
theorem o_fdiv : OpR X (binaryOp .FloorDiv) (rI CDivN fun i j => .int (i.fdiv j)) := op_fdivN
theorem o_mod : OpR X (binaryOp .Mod) (rI (fun _ j => j ≠ 0) fun i j => .int (i.fmod j)) := op_modN
theorem o_pow : OpR X (binaryOp .Pow) (rI CPow fun i j => .int (i ^ j.toNat)) := op_pow
def rLeU : R2 := rI0 fun i j => .bl (decide (i ≤ j))
def rGtU : R2 := rI0 fun i j => .bl (decide (j < i))
def rGeU : R2 := rI0 fun i j => .bl (decide (j ≤ i))
def rLtU : R2 := rI0 fun i j => .bl (decide (i < j))
theorem o_lt : OpR X (compareOp .Lt) rLtU := op_lt
theorem o_gt : OpR X (compareOp .Gt) rGtU := op_gt
theorem o_le : OpR X (compareOp .LtE) rLeU := op_le
theorem o_ge : OpR X (compareOp .GtE) rGeU := op_ge
def rIsNU : R2 := fun x y H Q => y = .non ∧ Q (.bl (decide (x = .non))) H
def rNotNU : R2 := fun x y H Q => y = .non ∧ Q (.bl (!decide (x = .non))) H
theorem o_isN : OpR X (compareOp .Is) rIsNU := op_isN
theorem o_notN : OpR X (compareOp .IsNot) rNotNU := op_notN
abbrev rInStr (neg : Bool) : R2 := fun x y H Q => ∃ i j, x = .str i ∧ y = .str j ∧ Q (.bl (if neg then !(!(Builtin.Str.occurrences j i 0 j.length 1).isEmpty) else !(Builtin.Str.occurrences j i 0 j.length 1).isEmpty)) H
abbrev rInSign (neg : Bool) : R2 := fun x y H Q => ∃ (c : Nat) (z : Str), x = .str ⟨#[c]⟩ ∧ y = .str z ∧ Q (.bl (if neg then !decide (c ∈ z.cps.toList) else decide (c ∈ z.cps.toList))) H
def rInU (K : PySem.W.Frag) (neg : Bool) : R2 := fun x y H Q => rIn K neg x y H Q ∨ rInSign neg x y H Q ∨ rInStr neg x y H Q
theorem o_in : OpR X (compareOp .In) (rInU X.K false) := OpR.or2 op_in_seq (OpR.or2 op_in_sign op_in_str)
theorem o_notIn : OpR X (compareOp .NotIn) (rInU X.K true) := OpR.or2 op_notIn_seq (OpR.or2 op_notIn_sign op_notin_str)
end
end Q

/-! PuA: plain data; a heap with what is being changed in it; how data stand in it -/
namespace U
open PySem PySem.Spec PyProof.Rows L2 Q
/-- plain data -/
inductive D where
  | non | bl (b : Bool) | int (i : Int) | str (x : Str) | lst (xs : List D) | tup (xs : List D) | dct (t : Bool) (kvs : List (D × D)) | obj (C : Str) (fs : List (Str × D))
  deriving Inhabited
noncomputable instance : DecidableEq D := Classical.typeDecidableEq _
def kD : Key → D
  | .inl i => .int i
  | .inr x => .str x
/-- what a class must say of its instances, so that they are data -/
structure ObjC (K : PySem.W.Frag) (C : Addr) : Prop where
  cl : Cls K C
  ca : PySem.W.findIn K (.ref C) "__class__" = some (some (.builtin "object.__class__"))
  hn : PySem.W.specialIn K (.builtin "object.__class__") "__get__" = some (some (.builtin "getset_descriptor.__get__"))
  ht : PySem.W.takesIn K (.builtin "object.__class__") = some true
  hm : PySem.W.mroIn K C (.type "object") = some true
  no : ∀ T ∈ ["int", "str", "bool", "list", "tuple", "dict"], PySem.W.kitOne K (.ref C) (.type T) = some false
/-- a heap and what of it is being changed -/
structure Wd where
  H : Hp
  M : Addr → Prop
  ok : ∀ a, M a → ∃ o, H a = some o ∧ L2.Mut (some o)
theorem Wd.ne {W : Wd} {a : Addr} (h : W.M a) : W.H a ≠ none := fun e => by
  obtain ⟨o, q, _⟩ := W.ok a h
  rw [e] at q; cases q
/-- the written part knows the empty tuple at a -/
def Kt (K : PySem.W.Frag) (a : Addr) (xs : List V) : Prop := xs = [] ∧ ∃ (o : Obj) (n : Nat), K.lookup a = some o ∧ o.cls = .type "tuple" ∧ o.data = .seq #[] n
def Tp (K : PySem.W.Frag) (H : Hp) (a : Addr) (xs : List V) : Prop := H a = some (.tup xs) ∨ Kt K a xs
theorem Tp.sq {K : PySem.W.Frag} {H : Hp} {a : Addr} {xs : List V} (h : Tp K H a xs) : SqT K H a xs := by
  rcases h with h | ⟨rfl, o, n, h1, h2, h3⟩
  · exact .inl (.inl h)
  · exact .inr ⟨o, #[], n, h1, h2, h3, Nat.zero_le _, .nil⟩
theorem Tp.map {K : PySem.W.Frag} {H H' : Hp} {a : Addr} {xs : List V} (h : Tp K H a xs) (k : H a = some (.tup xs) → H' a = some (.tup xs)) : Tp K H' a xs := h.imp k id
theorem Tp.ne {K : PySem.W.Frag} {H : Hp} {a : Addr} {xs : List V} (h : Tp K H a xs) (n : xs ≠ []) : H a = some (.tup xs) := h.elim id fun z => absurd z.1 n
theorem Tp.upd {K : PySem.W.Frag} {H : Hp} {a b : Addr} {xs : List V} {o : HO} (h : Tp K H a xs) (hb : H b = none) : Tp K (L2.upd H b o) a xs := h.map fun e => by
  rw [L2.upd_ne (fun z => by rw [z, hb] at e; cases e)]; exact e
mutual
inductive Rp (K : PySem.W.Frag) (W : Wd) : V → D → Prop
  | non : Rp K W .non .non
  | bl {b : Bool} : Rp K W (.bl b) (.bl b)
  | int {i : Int} : Rp K W (.int i) (.int i)
  | str {x : Str} : Rp K W (.str x) (.str x)
  | lst {a : Addr} {xs : List V} {ds : List D} : W.H a = some (.lst xs) → ¬ W.M a → RpL K W xs ds → Rp K W (.ref a) (.lst ds)
  | tup {a : Addr} {xs : List V} {ds : List D} : Tp K W.H a xs → RpL K W xs ds → Rp K W (.ref a) (.tup ds)
  | dct {a : Addr} {kvs : List (Key × V)} {ds : List (D × D)} : Rd W.H a (.dK kvs) → ¬ W.M a → RpK K W kvs ds → Rp K W (.ref a) (.dct false ds)
  | dcT {a : Addr} {kvs : List (List Key × V)} {ds : List (D × D)} : Rd W.H a (.dT kvs) → ¬ W.M a → RpT K W kvs ds → Rp K W (.ref a) (.dct true ds)
  | obj {a dx : Addr} {C : Str} {fs : List (Str × V)} {ds : List (Str × D)} : W.H a = some (.ins (He.ga K C) dx fs) → ¬ W.M a → RpF K W fs ds → Rp K W (.ref a) (.obj C ds)
inductive RpL (K : PySem.W.Frag) (W : Wd) : List V → List D → Prop
  | nil : RpL K W [] []
  | cons {v : V} {vs : List V} {d : D} {ds : List D} : Rp K W v d → RpL K W vs ds → RpL K W (v :: vs) (d :: ds)
inductive RpK (K : PySem.W.Frag) (W : Wd) : List (Key × V) → List (D × D) → Prop
  | nil : RpK K W [] []
  | cons {k : Key} {v : V} {vs : List (Key × V)} {d : D} {ds : List (D × D)} : Rp K W v d → RpK K W vs ds → RpK K W ((k, v) :: vs) ((kD k, d) :: ds)
inductive RpT (K : PySem.W.Frag) (W : Wd) : List (List Key × V) → List (D × D) → Prop
  | nil : RpT K W [] []
  | cons {k : List Key} {v : V} {vs : List (List Key × V)} {d : D} {ds : List (D × D)} : Rp K W v d → RpT K W vs ds → RpT K W ((k, v) :: vs) ((.tup (k.map kD), d) :: ds)
inductive RpF (K : PySem.W.Frag) (W : Wd) : List (Str × V) → List (Str × D) → Prop
  | nil : RpF K W [] []
  | cons {f : Str} {v : V} {vs : List (Str × V)} {d : D} {ds : List (Str × D)} : Rp K W v d → RpF K W vs ds → RpF K W ((f, v) :: vs) ((f, d) :: ds)
end
/-- data that lean on no list, dict, object -/
inductive Fz : D → Prop
  | non : Fz .non
  | bl {b : Bool} : Fz (.bl b)
  | int {i : Int} : Fz (.int i)
  | str {x : Str} : Fz (.str x)
  | tup {ds : List D} : (∀ d ∈ ds, Fz d) → Fz (.tup ds)
/-- from W to W' nothing else than what is X's was changed -/
structure Go (X : Addr → Prop) (W W' : Wd) : Prop where
  keep : ∀ a o, ¬ X a → W.H a = some o → W'.H a = some o
  tups : ∀ a o, ¬ L2.Mut (some o) → W.H a = some o → W'.H a = some o
  old : ∀ a, W'.M a → W.M a ∨ W.H a = none
  stay : ∀ a, ¬ X a → W.M a → W'.M a
  inM : ∀ a, X a → W.M a
  ne : ∀ a, W.H a ≠ none → W'.H a ≠ none
/-- from W to W' data stay -/
structure Ext (W W' : Wd) : Prop where
  keep : ∀ a o, ¬ W.M a → W.H a = some o → W'.H a = some o
  old : ∀ a, W'.M a → W.M a ∨ W.H a = none
theorem Go.ext {X : Addr → Prop} {W W' : Wd} (g : Go X W W') : Ext W W' := ⟨fun a o n e => g.keep a o (fun h => n (g.inM a h)) e, g.old⟩
theorem Ext.refl (W : Wd) : Ext W W := ⟨fun _ _ _ e => e, fun _ h => .inl h⟩
theorem Go.refl {X : Addr → Prop} {W : Wd} (h : ∀ a, X a → W.M a) : Go X W W := ⟨fun _ _ _ e => e, fun _ _ _ e => e, fun _ h => .inl h, fun _ _ h => h, h, fun _ h => h⟩
theorem Go.free {X : Addr → Prop} {W W' : Wd} (g : Go X W W') {a : Addr} (h : W'.H a = none) : W.H a = none := by
  cases q : W.H a with
  | none => rfl
  | some o => exact absurd h (g.ne a (by rw [q]; intro z; cases z))
theorem Go.trans {X Y : Addr → Prop} {W W1 W2 : Wd} (g : Go X W W1) (k : Go Y W1 W2) (h : ∀ a, Y a → X a ∨ W.H a = none) : Go X W W2 where
  keep := fun a o n e => k.keep a o (fun hy => (h a hy).elim n fun z => by rw [e] at z; cases z) (g.keep a o n e)
  tups := fun a o n e => k.tups a o n (g.tups a o n e)
  old := fun a m => (k.old a m).elim (g.old a) fun z => .inr (g.free z)
  stay := fun a n m => k.stay a (fun hy => (h a hy).elim n fun z => Wd.ne m z) (g.stay a n m)
  inM := g.inM
  ne := fun a n => k.ne a (g.ne a n)
theorem Go.mono {X Y : Addr → Prop} {W W1 : Wd} (g : Go X W W1) (h : ∀ a, X a → Y a) (hm : ∀ a, Y a → W.M a) : Go Y W W1 :=
  ⟨fun a o n e => g.keep a o (fun x => n (h a x)) e, g.tups, g.old, fun a n m => g.stay a (fun x => n (h a x)) m, hm, g.ne⟩
theorem not_mut {W : Wd} {a : Addr} {o : HO} (n : ¬ L2.Mut (some o)) (e : W.H a = some o) : ¬ W.M a := fun h => by
  obtain ⟨u, e2, mu⟩ := W.ok a h
  rw [e] at e2
  cases e2
  exact n mu
theorem Ext.seqT {K : PySem.W.Frag} {W W' : Wd} (m : Ext W W') {a : Addr} {xs : List V} (h : SqT K W.H a xs) : SqT K W'.H a xs := by
  rcases h with (h | ⟨o, h⟩) | h
  · exact .inl (.inl (m.keep _ _ (not_mut (o := .tup xs) (fun z => z) h) h))
  · exact .inl (.inr ⟨o, m.keep _ _ (not_mut (o := .frz o (.tup xs)) (fun z => z) h) h⟩)
  · exact .inr h
mutual
theorem Rp.up {K : PySem.W.Frag} {W W' : Wd} (m : Ext W W') : ∀ {v : V} {d : D}, Rp K W v d → Rp K W' v d
  | _, _, .non => .non
  | _, _, .bl => .bl
  | _, _, .int => .int
  | _, _, .str => .str
  | _, _, .lst e n r => .lst (m.keep _ _ n e) (fun z => (m.old _ z).elim n fun q => by rw [e] at q; cases q) (RpL.up m r)
  | _, _, @Rp.tup _ _ _ xs _ s r => .tup (s.map fun s => m.keep _ _ (not_mut (o := .tup xs) (fun z => z) s) s) (RpL.up m r)
  | _, _, .dct e n r => .dct (e.elim (fun e => .inl (m.keep _ _ n e)) fun ⟨o, e⟩ => .inr ⟨o, m.keep _ _ n e⟩)
      (fun z => (m.old _ z).elim n fun q => by rcases e with e | ⟨o, e⟩ <;> · rw [e] at q; cases q) (RpK.up m r)
  | _, _, .dcT e n r => .dcT (e.elim (fun e => .inl (m.keep _ _ n e)) fun ⟨o, e⟩ => .inr ⟨o, m.keep _ _ n e⟩)
      (fun z => (m.old _ z).elim n fun q => by rcases e with e | ⟨o, e⟩ <;> · rw [e] at q; cases q) (RpT.up m r)
  | _, _, .obj e n r => .obj (m.keep _ _ n e) (fun z => (m.old _ z).elim n fun q => by rw [e] at q; cases q) (RpF.up m r)
theorem RpL.up {K : PySem.W.Frag} {W W' : Wd} (m : Ext W W') : ∀ {vs : List V} {ds : List D}, RpL K W vs ds → RpL K W' vs ds
  | _, _, .nil => .nil
  | _, _, .cons h t => .cons (Rp.up m h) (RpL.up m t)
theorem RpK.up {K : PySem.W.Frag} {W W' : Wd} (m : Ext W W') : ∀ {vs : List (Key × V)} {ds : List (D × D)}, RpK K W vs ds → RpK K W' vs ds
  | _, _, .nil => .nil
  | _, _, .cons h t => .cons (Rp.up m h) (RpK.up m t)
theorem RpT.up {K : PySem.W.Frag} {W W' : Wd} (m : Ext W W') : ∀ {vs : List (List Key × V)} {ds : List (D × D)}, RpT K W vs ds → RpT K W' vs ds
  | _, _, .nil => .nil
  | _, _, .cons h t => .cons (Rp.up m h) (RpT.up m t)
theorem RpF.up {K : PySem.W.Frag} {W W' : Wd} (m : Ext W W') : ∀ {vs : List (Str × V)} {ds : List (Str × D)}, RpF K W vs ds → RpF K W' vs ds
  | _, _, .nil => .nil
  | _, _, .cons h t => .cons (Rp.up m h) (RpF.up m t)
end
theorem RpL.imp {K : PySem.W.Frag} {W W' : Wd} : ∀ {vs : List V} {ds : List D}, (∀ d ∈ ds, ∀ v, Rp K W v d → Rp K W' v d) → RpL K W vs ds → RpL K W' vs ds
  | _, _, _, .nil => .nil
  | _, _, f, .cons h t => .cons (f _ List.mem_cons_self _ h) (RpL.imp (fun d hd => f d (List.mem_cons_of_mem _ hd)) t)
/-- frozen data stand in every world over the same tuples -/
theorem Rp.fz {K : PySem.W.Frag} {W W' : Wd} (m : ∀ a o, ¬ L2.Mut (some o) → W.H a = some o → W'.H a = some o) : ∀ {d : D}, Fz d → ∀ {v : V}, Rp K W v d → Rp K W' v d := by
  intro d hf
  induction hf with
  | non => intro v h; cases h; exact .non
  | bl => intro v h; cases h; exact .bl
  | int => intro v h; cases h; exact .int
  | str => intro v h; cases h; exact .str
  | @tup ds hd ih =>
    intro v h
    cases h with
    | tup s r =>
      rename_i xs
      refine .tup (xs := xs) ?_ ?_
      · exact s.map fun s => m _ (.tup xs) (fun z => z) s
      · exact RpL.imp (fun d hd v h => ih d hd h) r
/-! lists of data -/
section
variable {K : PySem.W.Frag} {W : Wd}
theorem RpL.length : ∀ {vs : List V} {ds : List D}, RpL K W vs ds → vs.length = ds.length
  | _, _, .nil => rfl
  | _, _, .cons _ t => congrArg Nat.succ t.length
theorem RpL.append : ∀ {vs ws : List V} {ds es : List D}, RpL K W vs ds → RpL K W ws es → RpL K W (vs ++ ws) (ds ++ es)
  | _, _, _, _, .nil, s => s
  | _, _, _, _, .cons h t, s => .cons h (t.append s)
theorem RpL.get : ∀ {vs : List V} {ds : List D} {i : Nat} {v : V}, RpL K W vs ds → vs[i]? = some v → ∃ d, ds[i]? = some d ∧ Rp K W v d
  | _, _, _, _, .nil, e => by simp at e
  | _, _, 0, _, .cons h _, e => by simp at e; subst e; exact ⟨_, rfl, h⟩
  | _, _, i + 1, v, .cons _ t, e => by
    obtain ⟨d, h1, h2⟩ := t.get (i := i) (v := v) (by simpa using e)
    exact ⟨d, by simpa using h1, h2⟩
theorem RpL.getD : ∀ {vs : List V} {ds : List D} {i : Nat} {d : D}, RpL K W vs ds → ds[i]? = some d → ∃ v, vs[i]? = some v ∧ Rp K W v d
  | _, _, _, _, .nil, e => by simp at e
  | _, _, 0, _, .cons h _, e => by simp at e; subst e; exact ⟨_, rfl, h⟩
  | _, _, i + 1, v, .cons _ t, e => by
    obtain ⟨d, h1, h2⟩ := t.getD (i := i) (d := v) (by simpa using e)
    exact ⟨d, by simpa using h1, h2⟩
theorem RpL.snoc {vs : List V} {ds : List D} {v : V} {d : D} (h : RpL K W vs ds) (t : Rp K W v d) : RpL K W (vs ++ [v]) (ds ++ [d]) := h.append (.cons t .nil)
theorem RpL.drop : ∀ {vs : List V} {ds : List D} (n : Nat), RpL K W vs ds → RpL K W (vs.drop n) (ds.drop n)
  | _, _, 0, h => h
  | _, _, _ + 1, .nil => .nil
  | _, _, n + 1, .cons _ t => t.drop n
theorem RpL.take : ∀ {vs : List V} {ds : List D} (n : Nat), RpL K W vs ds → RpL K W (vs.take n) (ds.take n)
  | _, _, 0, h => .nil
  | _, _, _ + 1, .nil => .nil
  | _, _, n + 1, .cons h t => .cons h (t.take n)
theorem RpL.set {v : V} {d : D} (hv : Rp K W v d) : ∀ {vs : List V} {ds : List D} (n : Nat), RpL K W vs ds → RpL K W (vs.set n v) (ds.set n d)
  | _, _, _, .nil => .nil
  | _, _, 0, .cons _ t => .cons hv t
  | _, _, n + 1, .cons h t => .cons h (RpL.set hv n t)
theorem RpL.erase : ∀ {vs : List V} {ds : List D} (n : Nat), RpL K W vs ds → RpL K W (vs.eraseIdx n) (ds.eraseIdx n)
  | _, _, _, .nil => .nil
  | _, _, 0, .cons _ t => t
  | _, _, n + 1, .cons h t => .cons h (RpL.erase n t)
theorem RpL.map {α : Type} {f : α → V} {g : α → D} (h : ∀ a, Rp K W (f a) (g a)) : ∀ l : List α, RpL K W (l.map f) (l.map g)
  | [] => .nil
  | a :: l => .cons (h a) (RpL.map h l)
theorem RpF.get {f : Str} {d : D} : ∀ {fs : List (Str × V)} {ds : List (Str × D)}, RpF K W fs ds → ds.lookup f = some d → ∃ v, fs.lookup f = some v ∧ Rp K W v d
  | _, _, .nil, e => by cases e
  | (g, v) :: r, (_, d') :: s, .cons h t, e => by
    rw [List.lookup_cons] at e ⊢
    by_cases q : (f == g) = true
    · rw [q] at e ⊢
      cases e
      exact ⟨v, rfl, h⟩
    · rw [Bool.not_eq_true] at q
      rw [q] at e ⊢
      exact t.get e
theorem RpF.none {f : Str} : ∀ {fs : List (Str × V)} {ds : List (Str × D)}, RpF K W fs ds → ds.lookup f = Option.none → fs.lookup f = Option.none
  | _, _, .nil, _ => rfl
  | (g, v) :: r, (_, d') :: s, .cons h t, e => by
    rw [List.lookup_cons] at e ⊢
    by_cases q : (f == g) = true
    · rw [q] at e; cases e
    · rw [Bool.not_eq_true] at q
      rw [q] at e ⊢
      exact t.none e
theorem RpF.length : ∀ {fs : List (Str × V)} {ds : List (Str × D)}, RpF K W fs ds → fs.length = ds.length
  | _, _, .nil => rfl
  | _, _, .cons _ t => congrArg Nat.succ t.length
/-- f = d in a row of attributes -/
def setF (f : Str) (d : D) : List (Str × D) → List (Str × D)
  | [] => [(f, d)]
  | (g, e) :: r => if g = f then (g, d) :: r else (g, e) :: setF f d r
end
/-- a list that is being changed -/
def Own (W : Wd) (p : Addr) (xs : List V) : Prop := W.H p = some (.lst xs) ∧ W.M p
theorem Own.sq {K : PySem.W.Frag} {W : Wd} {p : Addr} {xs : List V} (h : Own W p xs) : SqL K W.H p xs := .inl (.inl h.1)
/-- the store at st, its cells at c -/
def Sto (st c : Addr) (W : Wd) : Prop := ∃ (ns : List Int) (i b s f n : Int), Own W st [.ref c, .int i, .int b, .int s, .int f, .int n] ∧ 0 ≤ i ∧ W.H c = some (.lst (ns.map V.int)) ∧ ¬ W.M c
theorem Sto.up {X : Addr → Prop} {st c : Addr} {W W' : Wd} (h : Sto st c W) (m : Go X W W') (n : ¬ X st) : Sto st c W' := by
  obtain ⟨ns, i, b, s, f, k, o, hi, hc, nc⟩ := h
  exact ⟨ns, i, b, s, f, k, ⟨m.keep _ _ n o.1, m.stay _ n o.2⟩, hi, m.ext.keep _ _ nc hc, fun z => (m.old _ z).elim nc fun q => by rw [hc] at q; cases q⟩
theorem Sto.inM {st c : Addr} {W : Wd} (h : Sto st c W) : W.M st := by
  obtain ⟨ns, i, b, s, f, k, o, _⟩ := h
  exact o.2
end U

/-! PuB: slots, what is said of a piece of text over data alone, and how that is said of the text -/
namespace U
open PySem PySem.Spec PyProof.Rows L2 Q
/-- what a slot holds: a datum; or a thing of one's own that may still be changed: a list, a list of such lists, a dict, an object -/
inductive SV where
  | dat (d : D) | own (ds : List D) | ow2 (rs : List (List D)) | ownD (t : Bool) (kvs : List (D × D)) | ownO (C : Str) (fs : List (Str × D))
  deriving Inhabited
def SV.d : SV → D
  | .dat d => d
  | .own ds => .lst ds
  | .ow2 rs => .lst (rs.map D.lst)
  | .ownD t k => .dct t k
  | .ownO C fs => .obj C fs
abbrev Rho := List (Option SV)
abbrev Pd := Rho → (D → Rho → Prop) → Prop
abbrev Pv := Rho → (SV → Rho → Prop) → Prop
abbrev Pa := Rho → (List D → Rho → Prop) → Prop
abbrev Pt := Rho → (Bool → Rho → Prop) → Prop
structure PEnds where
  nx : Rho → Prop
  rt : SV → Prop
  bk : Rho → Prop := fun _ => False
  ct : Rho → Prop := fun _ => False
abbrev Ps := PEnds → Rho → Prop
/-! how they stand -/
inductive RpQ (K : PySem.W.Frag) (W : Wd) : List Addr → List (List D) → Prop
  | nil : RpQ K W [] []
  | cons {q : Addr} {qs : List Addr} {xs : List V} {r : List D} {rs : List (List D)} : Own W q xs → RpL K W xs r → RpQ K W qs rs → RpQ K W (q :: qs) (r :: rs)
inductive RpS (K : PySem.W.Frag) (W : Wd) : V → SV → List Addr → Prop
  | dat {v : V} {d : D} : Rp K W v d → RpS K W v (.dat d) []
  | own {p : Addr} {xs : List V} {ds : List D} : Own W p xs → RpL K W xs ds → RpS K W (.ref p) (.own ds) [p]
  | ow2 {p : Addr} {qs : List Addr} {rs : List (List D)} : Own W p (qs.map V.ref) → RpQ K W qs rs → (p :: qs).Nodup → RpS K W (.ref p) (.ow2 rs) (p :: qs)
  | ownK {p : Addr} {kvs : List (Key × V)} {ds : List (D × D)} : W.H p = some (.dK kvs) → W.M p → RpK K W kvs ds → RpS K W (.ref p) (.ownD false ds) [p]
  | ownT {p : Addr} {kvs : List (List Key × V)} {ds : List (D × D)} : W.H p = some (.dT kvs) → W.M p → RpT K W kvs ds → RpS K W (.ref p) (.ownD true ds) [p]
  | ownO {p dx : Addr} {C : Str} {fs : List (Str × V)} {ds : List (Str × D)} : W.H p = some (.ins (He.ga K C) dx fs) → W.M p → RpF K W fs ds → RpS K W (.ref p) (.ownO C ds) [p]
theorem RpQ.up {K : PySem.W.Frag} {Y : Addr → Prop} {W W' : Wd} (g : Go Y W W') : ∀ {qs : List Addr} {rs : List (List D)}, (∀ a ∈ qs, ¬ Y a) → RpQ K W qs rs → RpQ K W' qs rs
  | _, _, _, .nil => .nil
  | _, _, n, .cons o r t => .cons ⟨g.keep _ _ (n _ List.mem_cons_self) o.1, g.stay _ (n _ List.mem_cons_self) o.2⟩ (r.up g.ext) (t.up g fun a ha => n a (List.mem_cons_of_mem _ ha))
theorem RpS.up {K : PySem.W.Frag} {Y : Addr → Prop} {W W' : Wd} {v : V} {r : SV} {X : List Addr} (h : RpS K W v r X) (g : Go Y W W') (n : ∀ a ∈ X, ¬ Y a) : RpS K W' v r X := by
  cases h with
  | dat h => exact .dat (h.up g.ext)
  | own o r => exact .own ⟨g.keep _ _ (n _ List.mem_cons_self) o.1, g.stay _ (n _ List.mem_cons_self) o.2⟩ (r.up g.ext)
  | ow2 o r nd => exact .ow2 ⟨g.keep _ _ (n _ List.mem_cons_self) o.1, g.stay _ (n _ List.mem_cons_self) o.2⟩ (r.up g fun a ha => n a (List.mem_cons_of_mem _ ha)) nd
  | ownK e m r => exact .ownK (g.keep _ _ (n _ List.mem_cons_self) e) (g.stay _ (n _ List.mem_cons_self) m) (r.up g.ext)
  | ownT e m r => exact .ownT (g.keep _ _ (n _ List.mem_cons_self) e) (g.stay _ (n _ List.mem_cons_self) m) (r.up g.ext)
  | ownO e m r => exact .ownO (g.keep _ _ (n _ List.mem_cons_self) e) (g.stay _ (n _ List.mem_cons_self) m) (r.up g.ext)
theorem RpQ.inM {K : PySem.W.Frag} {W : Wd} : ∀ {qs : List Addr} {rs : List (List D)}, RpQ K W qs rs → ∀ a ∈ qs, W.M a
  | _, _, .nil, _, h => nomatch h
  | _, _, .cons o _ t, a, h => (List.mem_cons.mp h).elim (fun e => e ▸ o.2) (t.inM a)
theorem RpS.inM {K : PySem.W.Frag} {W : Wd} {v : V} {r : SV} {X : List Addr} (h : RpS K W v r X) : ∀ a ∈ X, W.M a := by
  cases h with
  | dat h => exact fun _ h => nomatch h
  | own o r => exact fun a h => List.mem_singleton.mp h ▸ o.2
  | ow2 o r nd => exact fun a h => (List.mem_cons.mp h).elim (fun e => e ▸ o.2) (r.inM a)
  | ownK e m r => exact fun a h => List.mem_singleton.mp h ▸ m
  | ownT e m r => exact fun a h => List.mem_singleton.mp h ▸ m
  | ownO e m r => exact fun a h => List.mem_singleton.mp h ▸ m
/-- let go of what stands at X -/
def Wd.drop (W : Wd) (X : List Addr) : Wd := ⟨W.H, fun a => W.M a ∧ a ∉ X, fun a h => W.ok a h.1⟩
theorem ext_drop {W : Wd} {X : List Addr} : Ext W (W.drop X) := ⟨fun _ _ _ e => e, fun _ h => .inl h.1⟩
theorem RpQ.drop {K : PySem.W.Frag} {W : Wd} {Y : List Addr} : ∀ {qs : List Addr} {rs : List (List D)}, (∀ a ∈ qs, a ∈ Y) → RpQ K W qs rs → RpL K (W.drop Y) (qs.map V.ref) (rs.map D.lst)
  | _, _, _, .nil => .nil
  | _, _, n, .cons o r t => .cons (.lst (show (W.drop Y).H _ = _ from o.1) (fun z => z.2 (n _ List.mem_cons_self)) (r.up ext_drop)) (t.drop fun a ha => n a (List.mem_cons_of_mem _ ha))
theorem RpS.drop {K : PySem.W.Frag} {W : Wd} {v : V} {r : SV} {X : List Addr} (h : RpS K W v r X) : Rp K (W.drop X) v r.d := by
  cases h with
  | dat h => exact h.up ext_drop
  | own o r => exact .lst (show (W.drop _).H _ = _ from o.1) (fun z => z.2 List.mem_cons_self) (r.up ext_drop)
  | ow2 o r nd => exact .lst (show (W.drop _).H _ = _ from o.1) (fun z => z.2 List.mem_cons_self) (r.drop fun a ha => List.mem_cons_of_mem _ ha)
  | ownK e m r => exact .dct (.inl (show (W.drop _).H _ = _ from e)) (fun z => z.2 List.mem_cons_self) (r.up ext_drop)
  | ownT e m r => exact .dcT (.inl (show (W.drop _).H _ = _ from e)) (fun z => z.2 List.mem_cons_self) (r.up ext_drop)
  | ownO e m r => exact .obj (show (W.drop _).H _ = _ from e) (fun z => z.2 List.mem_cons_self) (r.up ext_drop)
/-! where a def's body stands: the written part, the heap at its entry, the store and its slot -/
abbrev Fp := Nat → List Addr
structure Sx where
  K : PySem.W.Frag
  W0 : Wd
  st : Option (Addr × Addr)
  sl : Nat
  me : Option Addr := none
  tb : Option (Wd × Fp) := none
/-- the store is at a -/
def Sx.sm (S : Sx) (a : Addr) : Prop := ∃ c, S.st = some (a, c)
/-- what may be changed from here on -/
def Mine (S : Sx) (F : Fp) (a : Addr) : Prop := S.sm a ∨ ∃ i, a ∈ F i
structure StpS (S : Sx) (F : Fp) (W : Wd) (F' : Fp) (W' : Wd) : Prop where
  go : Go (Mine S F) W W'
  sub : ∀ i a, a ∈ F' i → (∃ j, a ∈ F j) ∨ W.H a = none
structure Sn (S : Sx) (W : Wd) (σ : L2.St) (ρ : Rho) (F : Fp) : Prop where
  len : σ.length = ρ.length
  go : Go S.sm S.W0 W
  sto : ∀ a c, S.st = some (a, c) → σ[S.sl]? = some (some (.ref a)) ∧ Sto a c W ∧ ∀ j, a ∉ F j
  sv : ∀ i r, ρ[i]? = some (some r) → ∃ v, σ[i]? = some (some v) ∧ RpS S.K W v r (F i)
  new : ∀ i a, a ∈ F i → W.M a ∧ S.W0.H a = none
  dj : ∀ i j a, a ∈ F i → a ∈ F j → i = j
  me : ∀ a, S.me = some a → σ[S.sl]? = some (some (.ref a))
  tb : ∀ Wb Fb, S.tb = some (Wb, Fb) → StpS S Fb Wb F W
theorem Sn.inM {S : Sx} {W : Wd} {σ : L2.St} {ρ : Rho} {F : Fp} (s : Sn S W σ ρ F) {a : Addr} (h : Mine S F a) : W.M a :=
  h.elim (fun ⟨c, e⟩ => (s.sto a c e).2.1.inM) fun ⟨i, h⟩ => (s.new i a h).1
theorem Sn.refl {S : Sx} {W : Wd} {σ : L2.St} {ρ : Rho} {F : Fp} (s : Sn S W σ ρ F) : Go (Mine S F) W W := Go.refl fun _ h => s.inM h
structure StpM (S : Sx) (F : Fp) (W : Wd) (F' : Fp) (W' : Wd) : Prop where
  go : Go (Mine S F) W W'
  sub : ∀ i a, a ∈ F' i → ∃ j, a ∈ F j
structure Stp (S : Sx) (F : Fp) (W : Wd) (F' : Fp) (W' : Wd) : Prop extends StpM S F W F' W' where
  same : ∀ i a, a ∈ F i → W'.H a = W.H a
section
variable {S : Sx} {W W1 W2 : Wd} {σ σ1 σ2 : L2.St} {ρ ρ1 ρ2 : Rho} {F F1 F2 : Fp}
theorem Sn.stp (s : Sn S W σ ρ F) : Stp S F W F W := ⟨⟨s.refl, fun i _ h => ⟨i, h⟩⟩, fun _ _ _ => rfl⟩
theorem StpM.s (a : StpM S F W F1 W1) : StpS S F W F1 W1 := ⟨a.go, fun i x h => .inl (a.sub i x h)⟩
theorem StpM.mine (a : StpM S F W F1 W1) {x : Addr} (h : Mine S F1 x) : Mine S F x := h.elim .inl fun ⟨i, h⟩ => .inr (a.sub i x h)
theorem StpS.mine (a : StpS S F W F1 W1) {x : Addr} (h : Mine S F1 x) : Mine S F x ∨ W.H x = none := h.elim (fun e => .inl (.inl e)) fun ⟨i, h⟩ => (a.sub i x h).elim (fun q => .inl (.inr q)) .inr
theorem StpM.trans (a : StpM S F W F1 W1) (b : StpM S F1 W1 F2 W2) : StpM S F W F2 W2 :=
  ⟨a.go.trans b.go fun _ h => .inl (a.mine h), fun i x h => by obtain ⟨j, h⟩ := b.sub i x h; exact a.sub j x h⟩
theorem StpS.trans (a : StpS S F W F1 W1) (b : StpS S F1 W1 F2 W2) : StpS S F W F2 W2 :=
  ⟨a.go.trans b.go fun _ h => a.mine h, fun i x h => (b.sub i x h).elim (fun ⟨j, h⟩ => a.sub j x h) fun z => .inr (a.go.free z)⟩
theorem Stp.trans (s : Sn S W σ ρ F) (a : Stp S F W F1 W1) (s1 : Sn S W1 σ1 ρ1 F1) (b : Stp S F1 W1 F2 W2) : Stp S F W F2 W2 :=
  ⟨a.toStpM.trans b.toStpM, fun i x h => by
    have e := a.same i x h
    by_cases q : ∃ j, x ∈ F1 j
    · obtain ⟨j, hj⟩ := q
      exact (b.same j x hj).trans e
    · have nm : ¬ Mine S F1 x := fun m => m.elim (fun ⟨c, z⟩ => (s.sto x c z).2.2 i h) q
      obtain ⟨o, ho, _⟩ := W.ok x (s.new i x h).1
      rw [ho] at e
      rw [b.go.keep x o nm e, ho]⟩
/-- what was made on the way is none of what may be changed -/
theorem StpM.fresh (s : Sn S W σ ρ F) (a : StpM S F W F1 W1) {X : List Addr} (h : ∀ x ∈ X, W.H x = none) : ∀ x ∈ X, ¬ Mine S F1 x := fun x hx m => Wd.ne (s.inM (a.mine m)) (h x hx)
theorem Go.drop {Y : Addr → Prop} (g : Go Y W W1) {X : List Addr} (h : ∀ x ∈ X, W.H x = none ∨ Y x) : Go Y W (W1.drop X) :=
  ⟨g.keep, g.tups, fun a m => g.old a m.1, fun a n m => ⟨g.stay a n m, fun hx => (h a hx).elim (Wd.ne m) n⟩, g.inM, g.ne⟩
/-- the same, less what was made on the way -/
theorem Sn.drop (s : Sn S W1 σ ρ F1) {X : List Addr} (h0 : ∀ x ∈ X, S.W0.H x = none) (hF : ∀ x ∈ X, ¬ Mine S F1 x) (hb : ∀ Wb Fb, S.tb = some (Wb, Fb) → ∀ x ∈ X, Wb.H x = none ∨ Mine S Fb x) : Sn S (W1.drop X) σ ρ F1 := by
  have g : Go (fun a => ¬ a ∈ X) W1 (W1.drop X) ∨ True := .inr trivial
  refine ⟨s.len, ⟨s.go.keep, s.go.tups, fun a h => s.go.old a h.1, fun a n m => ⟨s.go.stay a n m, fun hx => Wd.ne m (h0 a hx)⟩, s.go.inM, s.go.ne⟩, fun a c e => ?_, fun i r e => ?_, fun i a h => ⟨⟨(s.new i a h).1, fun hx => hF a hx (.inr ⟨i, h⟩)⟩, (s.new i a h).2⟩, s.dj, s.me, fun Wb Fb e => ⟨(s.tb Wb Fb e).go.drop (hb Wb Fb e), (s.tb Wb Fb e).sub⟩⟩
  · obtain ⟨e1, ⟨ns, i, b, sd, f, k, o, hi, hc, nc⟩, e3⟩ := s.sto a c e
    exact ⟨e1, ⟨ns, i, b, sd, f, k, ⟨o.1, o.2, fun hx => hF a hx (.inl ⟨c, e⟩)⟩, hi, hc, fun z => nc z.1⟩, e3⟩
  · obtain ⟨v, e1, r1⟩ := s.sv i r e
    refine ⟨v, e1, ?_⟩
    have nx : ∀ a ∈ F1 i, a ∉ X := fun a ha hx => hF a hx (.inr ⟨i, ha⟩)
    have up : ∀ {qs : List Addr} {rs : List (List D)}, (∀ a ∈ qs, a ∉ X) → RpQ S.K W1 qs rs → RpQ S.K (W1.drop X) qs rs := by
      intro qs rs n h
      induction h with
      | nil => exact .nil
      | cons o r t ih => exact .cons ⟨o.1, o.2, n _ List.mem_cons_self⟩ (r.up ext_drop) (ih fun a ha => n a (List.mem_cons_of_mem _ ha))
    generalize hFi : F1 i = Y at r1 nx
    cases r1 with
    | dat h => exact .dat (h.up ext_drop)
    | own o r => exact .own ⟨o.1, o.2, nx _ List.mem_cons_self⟩ (r.up ext_drop)
    | ow2 o r nd => exact .ow2 ⟨o.1, o.2, nx _ List.mem_cons_self⟩ (up (fun a ha => nx a (List.mem_cons_of_mem _ ha)) r) nd
    | ownK eo m r => exact .ownK eo ⟨m, nx _ List.mem_cons_self⟩ (r.up ext_drop)
    | ownT eo m r => exact .ownT eo ⟨m, nx _ List.mem_cons_self⟩ (r.up ext_drop)
    | ownO eo m r => exact .ownO eo ⟨m, nx _ List.mem_cons_self⟩ (r.up ext_drop)
theorem StpM.drop (a : StpM S F W F1 W1) {X : List Addr} (h : ∀ x ∈ X, W.H x = none) : StpM S F W F1 (W1.drop X) := ⟨a.go.drop fun x hx => .inl (h x hx), a.sub⟩
theorem Stp.drop (a : Stp S F W F1 W1) {X : List Addr} (h : ∀ x ∈ X, W.H x = none) : Stp S F W F1 (W1.drop X) := ⟨a.toStpM.drop h, a.same⟩
end
/-! ### what the transformers over data say of the text -/
def lV (S : Sx) (m : Pv) : TE := fun σ H Q => ∃ ρ F W Q', W.H = H ∧ Sn S W σ ρ F ∧ m ρ Q' ∧ ∀ v r X ρ' F' W', Stp S F W F' W' → Sn S W' σ ρ' F' → RpS S.K W' v r X → (∀ a ∈ X, W.H a = none) → Q' r ρ' → Q v W'.H
def lD (S : Sx) (m : Pd) : TE := fun σ H Q => ∃ ρ F W Q', W.H = H ∧ Sn S W σ ρ F ∧ m ρ Q' ∧ ∀ v d ρ' F' W', Stp S F W F' W' → Sn S W' σ ρ' F' → Rp S.K W' v d → Q' d ρ' → Q v W'.H
def lA (S : Sx) (m : Pa) : TA := fun σ H Q => ∃ ρ F W Q', W.H = H ∧ Sn S W σ ρ F ∧ m ρ Q' ∧ ∀ v d ρ' F' W', Stp S F W F' W' → Sn S W' σ ρ' F' → RpL S.K W' v d → Q' d ρ' → Q v W'.H
def lT (S : Sx) (m : Pt) : TT := fun σ H Q => ∃ ρ F W Q', W.H = H ∧ Sn S W σ ρ F ∧ m ρ Q' ∧ ∀ b ρ' F' W', Stp S F W F' W' → Sn S W' σ ρ' F' → Q' b ρ' → Q b W'.H
/-- what a def may hand back -/
structure RetOk (S : Sx) (v : V) (r : SV) (W' : Wd) : Prop where
  go : Go S.sm S.W0 W'
  sto : ∀ a c, S.st = some (a, c) → Sto a c W'
  rp : ∃ X, RpS S.K W' v r X ∧ ∀ a ∈ X, S.W0.H a = none
structure Cont (S : Sx) (F : Fp) (W : Wd) (E' : PEnds) (E : Ends) : Prop where
  nx : ∀ σ' ρ' F' W', StpS S F W F' W' → Sn S W' σ' ρ' F' → E'.nx ρ' → E.nx σ' W'.H
  bk : ∀ σ' ρ' F' W', StpS S F W F' W' → Sn S W' σ' ρ' F' → E'.bk ρ' → E.bk σ' W'.H
  ct : ∀ σ' ρ' F' W', StpS S F W F' W' → Sn S W' σ' ρ' F' → E'.ct ρ' → E.ct σ' W'.H
  rt : ∀ v r W', RetOk S v r W' → E'.rt r → E.rt v W'.H
def lS (S : Sx) (m : Ps) : TS := fun E σ H => ∃ ρ F W E', W.H = H ∧ Sn S W σ ρ F ∧ m E' ρ ∧ Cont S F W E' E
theorem Cont.shift {S : Sx} {F F1 : Fp} {W W1 : Wd} {E' : PEnds} {E : Ends} (c : Cont S F W E' E) (a : StpS S F W F1 W1) : Cont S F1 W1 E' E :=
  ⟨fun σ' ρ' F' W' b => c.nx σ' ρ' F' W' (a.trans b), fun σ' ρ' F' W' b => c.bk σ' ρ' F' W' (a.trans b), fun σ' ρ' F' W' b => c.ct σ' ρ' F' W' (a.trans b), c.rt⟩
/-! weakening -/
section
variable {X : Cx} {S : Sx} {e : Expr}
theorem _root_.L2.PE.weak {t t' : TE} (h : PE X e t) (w : ∀ σ H Q, t' σ H Q → t σ H Q) : PE X e t' := ⟨fun pins s σ H Q I q => h.run pins s σ H Q I (w σ H Q q)⟩
theorem _root_.L2.PT.weak {t t' : TT} (h : PT X e t) (w : ∀ σ H Q, t' σ H Q → t σ H Q) : PT X e t' := ⟨fun pins s σ H Q I q => h.run pins s σ H Q I (w σ H Q q)⟩
theorem _root_.L2.PW.weak {t t' : TT} (h : PW X e t) (w : ∀ σ H Q, t' σ H Q → t σ H Q) : PW X e t' := ⟨fun wh pins s σ H Q I q => h.run wh pins s σ H Q I (w σ H Q q)⟩
theorem _root_.L2.PA.weak {es : List Expr} {t t' : TA} (h : PA X es t) (w : ∀ σ H Q, t' σ H Q → t σ H Q) : PA X es t' := ⟨fun pos pins s σ H Q I q => h.run pos pins s σ H Q I (w σ H Q q)⟩
theorem _root_.L2.PS.weak {st : Stmt} {t t' : TS} (h : PS X st t) (w : ∀ E σ H, t' E σ H → t E σ H) : PS X st t' := ⟨fun pins s σ H D I q => h.run pins s σ H D I (w D σ H q)⟩
theorem _root_.L2.PSs.weak {st : List Stmt} {t t' : TS} (h : PSs X st t) (w : ∀ E σ H, t' E σ H → t E σ H) : PSs X st t' := ⟨fun pins s σ H D I q => h.run pins s σ H D I (w D σ H q)⟩
end
/-! ### from the one to the other -/
section
variable {X : Cx} {S : Sx} {e : Expr}
def mD (m : Pv) : Pd := fun ρ Q => m ρ fun r ρ' => Q r.d ρ'
def mV (m : Pd) : Pv := fun ρ Q => m ρ fun d ρ' => Q (.dat d) ρ'
theorem qD {m : Pv} (h : PE X e (lV S m)) : PE X e (lD S (mD m)) := h.weak fun σ H Q ⟨ρ, F, W, Q', e, s, q, k⟩ =>
  ⟨ρ, F, W, _, e, s, q, fun v r X ρ' F' W' a s' h hx q' => k v r.d ρ' F' (W'.drop X) (a.drop hx) (s'.drop (fun x m => s.go.free (hx x m)) (a.fresh s hx) fun Wb Fb e x m => .inl ((s.tb Wb Fb e).go.free (hx x m))) h.drop q'⟩
theorem qV {m : Pd} (h : PE X e (lD S m)) : PE X e (lV S (mV m)) := h.weak fun σ H Q ⟨ρ, F, W, Q', e, s, q, k⟩ =>
  ⟨ρ, F, W, _, e, s, q, fun v d ρ' F' W' a s' h q' => k v (.dat d) [] ρ' F' W' a s' (.dat h) (fun _ z => nomatch z) q'⟩
/-- a value that stands in every heap -/
def mC (d : D) : Pd := fun ρ Q => Q d ρ
theorem qC {v : V} {d : D} (h : PE X e (tC v)) (r : ∀ W, Rp S.K W v d) : PE X e (lD S (mC d)) := h.weak fun σ H Q ⟨ρ, F, W, Q', e, s, q, k⟩ => by
  subst e
  exact k v d ρ F W s.stp s (r W) q
/-- a name: what it holds is let go -/
def frz (ρ : Rho) (i : Nat) : SV → Rho
  | .dat _ => ρ
  | r => ρ.set i (some (.dat r.d))
def mVar (i : Nat) : Pd := fun ρ Q => ∃ r, ρ[i]? = some (some r) ∧ Q r.d (frz ρ i r)
def F0 (F : Fp) (i : Nat) (X : List Addr) : Fp := fun j => if j = i then X else F j
theorem F0_at {F : Fp} {i : Nat} {X : List Addr} : F0 F i X i = X := if_pos rfl
theorem F0_ne {F : Fp} {i j : Nat} {X : List Addr} (h : j ≠ i) : F0 F i X j = F j := if_neg h
theorem Sn.frz {W : Wd} {σ : L2.St} {ρ : Rho} {F : Fp} (s : Sn S W σ ρ F) {i : Nat} {r : SV} (e : ρ[i]? = some (some r)) : ∃ v W' F', W'.H = W.H ∧ σ[i]? = some (some v) ∧ Stp S F W F' W' ∧ Sn S W' σ (frz ρ i r) F' ∧ Rp S.K W' v r.d := by
  obtain ⟨v, ev, hv⟩ := s.sv i r e
  have main : (∀ d, r ≠ .dat d) → ∃ v W' F', W'.H = W.H ∧ σ[i]? = some (some v) ∧ Stp S F W F' W' ∧ Sn S W' σ (ρ.set i (some (.dat r.d))) F' ∧ Rp S.K W' v r.d := fun hr => by
    have hi : i < ρ.length := (List.getElem?_eq_some_iff.mp e).1
    have m0 : ∀ a ∈ F i, Mine S F a := fun a ha => .inr ⟨i, ha⟩
    have sF : ∀ j a, a ∈ F0 F i [] j → a ∈ F j ∧ j ≠ i := fun j a h => by
      by_cases q : j = i
      · subst q; rw [F0_at] at h; cases h
      · rw [F0_ne q] at h; exact ⟨h, q⟩
    have s1 : Sn S W σ (ρ.set i none) (F0 F i []) := by
      refine ⟨by rw [List.length_set]; exact s.len, s.go, fun a c ea => ?_, fun j r' e' => ?_, fun j a h => s.new j a (sF j a h).1, fun j k a h h' => s.dj j k a (sF j a h).1 (sF k a h').1, s.me, fun Wb Fb e => ⟨(s.tb Wb Fb e).go, fun j a h => (s.tb Wb Fb e).sub j a (sF j a h).1⟩⟩
      · obtain ⟨q1, q2, q3⟩ := s.sto a c ea
        exact ⟨q1, q2, fun j h => q3 j (sF j a h).1⟩
      · by_cases q : i = j
        · subst q; rw [List.getElem?_set_self hi] at e'; cases e'
        · rw [List.getElem?_set_ne q] at e'
          obtain ⟨v', q1, q2⟩ := s.sv j r' e'
          exact ⟨v', q1, by rw [F0_ne (Ne.symm q)]; exact q2⟩
    have nm : ∀ x ∈ F i, ¬ Mine S (F0 F i []) x := fun x hx m => m.elim (fun ⟨c, z⟩ => (s.sto x c z).2.2 i hx) fun ⟨j, h⟩ => (sF j x h).2 (s.dj j i x (sF j x h).1 hx)
    have s2 := s1.drop (X := F i) (fun x hx => (s.new i x hx).2) nm fun Wb Fb e x hx => ((s.tb Wb Fb e).sub i x hx).elim (fun q => .inr (.inr q)) .inl
    refine ⟨v, W.drop (F i), F0 F i [], rfl, ev, ⟨⟨s.refl.drop fun x hx => .inr (m0 x hx), fun j a h => ⟨j, (sF j a h).1⟩⟩, fun _ _ _ => rfl⟩, ?_, hv.drop⟩
    refine ⟨by rw [List.length_set]; exact s.len, s2.go, s2.sto, fun j r' e' => ?_, s2.new, s2.dj, s2.me, s2.tb⟩
    by_cases q : i = j
    · subst q
      rw [List.getElem?_set_self hi] at e'
      cases e'
      exact ⟨v, ev, by rw [F0_at]; exact .dat hv.drop⟩
    · rw [List.getElem?_set_ne q] at e'
      exact s2.sv j r' (by rw [List.getElem?_set_ne q]; exact e')
  cases r with
  | dat d =>
    refine ⟨v, W, F, rfl, ev, s.stp, s, ?_⟩
    generalize F i = Y at hv
    cases hv with
    | dat h => exact h
  | own _ => exact main fun d h => by cases h
  | ow2 _ => exact main fun d h => by cases h
  | ownD _ _ => exact main fun d h => by cases h
  | ownO _ _ => exact main fun d h => by cases h
theorem qVar {i : Nat} (h : PE X e (tVar i)) : PE X e (lD S (mVar i)) := h.weak fun σ H Q ⟨ρ, F, W, Q', e, s, ⟨r, er, q⟩, k⟩ => by
  subst e
  obtain ⟨v, W', F', eH, ev, a, s', rp⟩ := s.frz er
  have q2 := k v r.d _ F' W' a s' rp q
  rw [eH] at q2
  exact ⟨v, ev, q2⟩
/-! arguments -/
def mNil : Pa := fun ρ Q => Q [] ρ
def mCons (m : Pd) (ms : Pa) : Pa := fun ρ Q => m ρ fun d ρ1 => ms ρ1 fun ds ρ2 => Q (d :: ds) ρ2
theorem qNil : PA X [] (lA S mNil) := pa_nil.weak fun σ H Q ⟨ρ, F, W, Q', e, s, q, k⟩ => by
  subst e
  exact k [] [] ρ F W s.stp s .nil q
theorem lCons {m : Pd} {ms : Pa} (σ : L2.St) (H : Hp) (Q : List V → Hp → Prop) (h : lA S (mCons m ms) σ H Q) : tCons (lD S m) (lA S ms) σ H Q := by
  obtain ⟨ρ, F, W, Q', e, s, q, k⟩ := h
  subst e
  refine ⟨ρ, F, W, _, rfl, s, q, fun v d ρ1 F1 W1 a1 s1 r1 q1 => ?_⟩
  refine ⟨ρ1, F1, W1, _, rfl, s1, q1, fun vs ds ρ2 F2 W2 a2 s2 r2 q2 => ?_⟩
  exact k (v :: vs) (d :: ds) ρ2 F2 W2 (a1.trans s s1 a2) s2 (.cons (r1.up a2.go.ext) r2) q2
theorem qCons {es : List Expr} {m : Pd} {ms : Pa} (h : PE X e (lD S m)) (h2 : PA X es (lA S ms)) (hs : starEach (e :: es) X.env = (false, eval e X.env) :: starEach es X.env := by rfl) : PA X (e :: es) (lA S (mCons m ms)) := (pa_cons h h2 hs).weak lCons
end
end U

/-! PuC: equality of data; operators -/
namespace U
open PySem PySem.Spec PyProof.Rows L2 Q
/-! ### data as the library's data -/
mutual
def py : D → PyData
  | .non => .none | .bl b => .bool b | .int i => .int i | .str x => .str x
  | .lst xs => .list (pyL xs) | .tup xs => .tuple (pyL xs) | .dct _ _ => .none | .obj _ _ => .none
def pyL : List D → List PyData
  | [] => []
  | x :: xs => py x :: pyL xs
end
theorem pyL_map (xs : List D) : pyL xs = xs.map py := by
  induction xs with
  | nil => rfl
  | cons x xs ih => rw [pyL, ih, List.map_cons]
/-- data that may be compared: no bools, no dicts, no objects, not too deep -/
inductive Cln : Nat → D → Prop
  | non {n : Nat} : Cln (n + 1) .non
  | int {n : Nat} {i : Int} : Cln (n + 1) (.int i)
  | str {n : Nat} {x : Str} : PyData.strOk x = true → Cln (n + 1) (.str x)
  | lst {n : Nat} {ds : List D} : (∀ d ∈ ds, Cln n d) → Cln (n + 1) (.lst ds)
  | tup {n : Nat} {ds : List D} : (∀ d ∈ ds, Cln n d) → Cln (n + 1) (.tup ds)
theorem Cln.mono {n : Nat} {d : D} (h : Cln n d) : ∀ {m : Nat}, n ≤ m → Cln m d := by
  induction h with
  | non => intro m l; cases m with | zero => omega | succ m => exact .non
  | int => intro m l; cases m with | zero => omega | succ m => exact .int
  | str h => intro m l; cases m with | zero => omega | succ m => exact .str h
  | lst _ ih => intro m l; cases m with | zero => omega | succ m => exact .lst fun d hd => ih d hd (by omega)
  | tup _ ih => intro m l; cases m with | zero => omega | succ m => exact .tup fun d hd => ih d hd (by omega)
theorem lay_all {ds : List D} (h : ∀ d ∈ ds, (py d).canLay0 = true) : PyData.canLayAll0 (pyL ds) = true := by
  induction ds with
  | nil => rw [pyL]; simp only [PyData.canLayAll0]
  | cons d ds ih =>
    rw [pyL]
    simp only [PyData.canLayAll0]
    rw [h d List.mem_cons_self, ih fun e he => h e (List.mem_cons_of_mem _ he)]
    rfl
theorem dep_all {n : Nat} {ds : List D} (h : ∀ d ∈ ds, (py d).depth ≤ n) : PyData.depthAll (pyL ds) ≤ n := by
  induction ds with
  | nil => rw [pyL]; simp only [PyData.depthAll]; omega
  | cons d ds ih =>
    rw [pyL]
    simp only [PyData.depthAll]
    have h1 := h d List.mem_cons_self
    have h2 := ih fun e he => h e (List.mem_cons_of_mem _ he)
    omega
theorem Cln.lay {n : Nat} {d : D} (h : Cln n d) : (py d).canLay0 = true ∧ (py d).depth ≤ n := by
  induction h with
  | non => simp [py, PyData.canLay0, PyData.depth]
  | int => simp [py, PyData.canLay0, PyData.depth]
  | str h => simp [py, PyData.canLay0, PyData.depth, h]
  | lst _ ih =>
    simp only [py, PyData.canLay0, PyData.depth]
    have e := dep_all fun d hd => (ih d hd).2
    exact ⟨lay_all fun d hd => (ih d hd).1, by omega⟩
  | tup _ ih =>
    simp only [py, PyData.canLay0, PyData.depth]
    have e := dep_all fun d hd => (ih d hd).2
    exact ⟨lay_all fun d hd => (ih d hd).1, by omega⟩
theorem Cln.shaped {n : Nat} {d : D} (h : Cln n d) (hn : n ≤ 64) : SeqAt.shaped (py d) = true := by
  obtain ⟨a, b⟩ := h.lay
  show ((py d).canLay0 && decide ((py d).depth ≤ 64)) = true
  rw [Bool.and_eq_true]
  exact ⟨a, decide_eq_true (by omega)⟩
theorem dpAll {K : PySem.W.Frag} {W : Wd} : ∀ {vs : List V} {ds : List D}, (∀ d ∈ ds, ∀ v, Rp K W v d → Dp K W.H v (py d)) → RpL K W vs ds → DpAll K W.H vs (pyL ds)
  | _, _, _, .nil => by rw [pyL]; exact .nil
  | _, _, f, .cons h t => by rw [pyL]; exact .cons (f _ List.mem_cons_self _ h) (dpAll (fun d hd => f d (List.mem_cons_of_mem _ hd)) t)
theorem Cln.dp {K : PySem.W.Frag} {W : Wd} {n : Nat} {d : D} (h : Cln n d) : ∀ {v : V}, Rp K W v d → Dp K W.H v (py d) := by
  induction h with
  | non => intro v r; cases r; rw [py]; exact .non
  | int => intro v r; cases r; rw [py]; exact .int _
  | str h => intro v r; cases r; rw [py]; exact .str _
  | lst _ ih =>
    intro v r
    cases r with
    | lst e _ r => rw [py]; exact .lst (.inl (.inl e)) (dpAll (fun d hd v h => ih d hd h) r)
  | tup _ ih =>
    intro v r
    cases r with
    | tup e r => rw [py]; exact .tup e.sq (dpAll (fun d hd v h => ih d hd h) r)
theorem eqvAll_iff : ∀ {ds es : List D}, (∀ d ∈ ds, ∀ e ∈ es, (PyData.eqv (py d) (py e) = true ↔ d = e)) → (PyData.eqvAll (pyL ds) (pyL es) = true ↔ ds = es)
  | [], [], _ => by simp [pyL, PyData.eqvAll]
  | [], e :: es, _ => by simp [pyL, PyData.eqvAll]
  | d :: ds, [], _ => by simp [pyL, PyData.eqvAll]
  | d :: ds, e :: es, h => by
    rw [pyL, pyL]
    simp only [PyData.eqvAll]
    rw [Bool.and_eq_true, h d List.mem_cons_self e List.mem_cons_self, eqvAll_iff fun a ha b hb => h a (List.mem_cons_of_mem _ ha) b (List.mem_cons_of_mem _ hb), List.cons.injEq]
theorem Cln.eqv_iff {n : Nat} {d : D} (h : Cln n d) : ∀ {m : Nat} {e : D}, Cln m e → (PyData.eqv (py d) (py e) = true ↔ d = e) := by
  induction h with
  | non => intro m e he; cases he <;> simp [py, PyData.eqv]
  | int => intro m e he; cases he <;> simp [py, PyData.eqv]
  | str h => intro m e he; cases he <;> simp [py, PyData.eqv]
  | lst _ ih =>
    intro m e he
    cases he with
    | lst h2 => simp only [py, PyData.eqv]; rw [eqvAll_iff fun a ha b hb => ih a ha (h2 b hb), D.lst.injEq]
    | _ => simp [py, PyData.eqv]
  | tup _ ih =>
    intro m e he
    cases he with
    | tup h2 => simp only [py, PyData.eqv]; rw [eqvAll_iff fun a ha b hb => ih a ha (h2 b hb), D.tup.injEq]
    | _ => simp [py, PyData.eqv]
theorem Cln.eqv {n m : Nat} {d e : D} (h : Cln n d) (h2 : Cln m e) : PyData.eqv (py d) (py e) = decide (d = e) := by
  rw [Bool.eq_iff_iff, h.eqv_iff h2, decide_eq_true_iff]
/-- flat -/
def flat : D → Bool
  | .non => true | .bl _ => true | .int _ => true | .str _ => true | _ => false
/-- two flat ones that are equal alone if they are the same -/
def scalD : D → D → Bool
  | .non, .non => true | .non, .int _ => true | .int _, .non => true | .non, .bl _ => true | .bl _, .non => true | .non, .str _ => true | .str _, .non => true
  | .int _, .int _ => true | .bl _, .bl _ => true | .str _, .str _ => true
  | .int _, .str _ => true | .str _, .int _ => true | .bl _, .str _ => true | .str _, .bl _ => true
  | _, _ => false
/-! ### what is new alone -/
abbrev Nw : Addr → Prop := fun _ => False
section
variable {S : Sx} {W W1 W2 : Wd} {σ σ1 σ2 : L2.St} {ρ ρ1 ρ2 : Rho} {F F1 F2 : Fp}
theorem Go.nw {X : Addr → Prop} (g : Go Nw W W1) (h : ∀ a, X a → W.M a) : Go X W W1 := g.mono (fun _ z => z.elim) h
theorem Sn.nw (s : Sn S W σ ρ F) (g : Go Nw W W1) : Stp S F W F W1 ∧ Sn S W1 σ ρ F := by
  have m : ∀ i a, a ∈ F i → W.M a := fun i a h => (s.new i a h).1
  refine ⟨⟨⟨g.nw fun a h => s.inM h, fun i a h => ⟨i, h⟩⟩, fun i a h => ?_⟩, ⟨s.len, s.go.trans g fun _ h => h.elim, fun a c e => ?_, fun i r e => ?_, fun i a h => ⟨g.stay a (fun z => z) (m i a h), (s.new i a h).2⟩, s.dj, s.me, fun Wb Fb e => (s.tb Wb Fb e).trans ⟨g.nw fun a h => s.inM h, fun i a h => .inl ⟨i, h⟩⟩⟩⟩
  · obtain ⟨o, ho, _⟩ := W.ok a (m i a h)
    rw [ho, g.keep a o (fun z => z) ho]
  · obtain ⟨e1, e2, e3⟩ := s.sto a c e
    exact ⟨e1, e2.up g fun z => z, e3⟩
  · obtain ⟨v, e1, e2⟩ := s.sv i r e
    exact ⟨v, e1, e2.up g fun _ _ z => z⟩
/-- a new thing that will not change -/
def Wd.put (W : Wd) (p : Addr) (o : HO) (h : W.H p = none) : Wd := ⟨upd W.H p o, W.M, fun a ha => by
  obtain ⟨u, e, mu⟩ := W.ok a ha
  exact ⟨u, by rw [upd_ne (ne_of_none e h)]; exact e, mu⟩⟩
theorem Wd.put_go {p : Addr} {o : HO} (h : W.H p = none) : Go Nw W (W.put p o h) :=
  ⟨fun a u _ e => by show upd W.H p o a = _; rw [upd_ne (ne_of_none e h)]; exact e, fun a u _ e => by show upd W.H p o a = _; rw [upd_ne (ne_of_none e h)]; exact e, fun _ z => .inl z, fun _ _ z => z, fun _ z => z.elim, fun a n => by
    show upd W.H p o a ≠ none
    by_cases q : a = p
    · rw [q, upd_same]; intro z; cases z
    · rw [upd_ne q]; exact n⟩
/-- a new thing that is going to be changed -/
def Wd.ownO (W : Wd) (p : Addr) (o : HO) (mu : L2.Mut (some o)) (h : W.H p = none) : Wd := ⟨upd W.H p o, fun a => W.M a ∨ a = p, fun a ha => by
  by_cases e : a = p
  · rw [e]; exact ⟨o, upd_same, mu⟩
  · obtain ⟨u, q, mq⟩ := W.ok a (ha.resolve_right e)
    exact ⟨u, by rw [upd_ne e]; exact q, mq⟩⟩
theorem Wd.ownO_go {p : Addr} {o : HO} {mu : L2.Mut (some o)} (h : W.H p = none) : Go Nw W (W.ownO p o mu h) :=
  ⟨fun a u _ e => by show upd W.H p o a = _; rw [upd_ne (ne_of_none e h)]; exact e, fun a u _ e => by show upd W.H p o a = _; rw [upd_ne (ne_of_none e h)]; exact e, fun a z => z.imp id fun e => by rw [e]; exact h, fun _ _ z => .inl z, fun _ z => z.elim, fun a n => by
    show upd W.H p o a ≠ none
    by_cases q : a = p
    · rw [q, upd_same]; intro z; cases z
    · rw [upd_ne q]; exact n⟩
end
/-! new lists and tuples -/
section
variable {K : PySem.W.Frag} {W : Wd} {xs : List V} {ds : List D} {Q : VK}
theorem new_own (r : RpL K W xs ds) (k : ∀ p W', Go Nw W W' → W.H p = none → RpS K W' (.ref p) (.own ds) [p] → Q (.ref p) W'.H) : ∀ p, W.H p = none → Q (.ref p) (upd W.H p (.lst xs)) := fun p hp =>
  k p (W.ownO p (.lst xs) True.intro hp) (Wd.ownO_go hp) hp (.own ⟨upd_same, .inr rfl⟩ (r.up (Wd.ownO_go hp).ext))
theorem new_tup (r : RpL K W xs ds) (k : ∀ p W', Go Nw W W' → W.H p = none → Rp K W' (.ref p) (.tup ds) → Q (.ref p) W'.H) : ∀ p, W.H p = none → Q (.ref p) (upd W.H p (.tup xs)) := fun p hp =>
  k p (W.put p (.tup xs) hp) (Wd.put_go hp) hp (.tup (.inl upd_same) (r.up (Wd.put_go hp).ext))
theorem new_lst (r : RpL K W xs ds) (k : ∀ p W', Go Nw W W' → W.H p = none → Rp K W' (.ref p) (.lst ds) → Q (.ref p) W'.H) : ∀ p, W.H p = none → Q (.ref p) (upd W.H p (.lst xs)) := fun p hp =>
  k p (W.put p (.lst xs) hp) (Wd.put_go hp) hp (.lst upd_same (fun z => Wd.ne (show W.M p from z) hp) (r.up (Wd.put_go hp).ext))
theorem new_dct (k : ∀ p W', Go Nw W W' → W.H p = none → RpS K W' (.ref p) (.ownD false []) [p] → Q (.ref p) W'.H) : ∀ p, W.H p = none → Q (.ref p) (upd W.H p (.dK [])) := fun p hp =>
  k p (W.ownO p (.dK []) True.intro hp) (Wd.ownO_go hp) hp (.ownK upd_same (.inr rfl) .nil)
end
section
variable {K : PySem.W.Frag} {W : Wd} {Q : VK}
theorem new_dcT (k : ∀ p W', Go Nw W W' → W.H p = none → RpS K W' (.ref p) (.ownD true []) [p] → Q (.ref p) W'.H) : ∀ p, W.H p = none → Q (.ref p) (upd W.H p (.dT [])) := fun p hp =>
  k p (W.ownO p (.dT []) True.intro hp) (Wd.ownO_go hp) hp (.ownT upd_same (.inr rfl) .nil)
end
/-! ### operators over data -/
/-- an operator by values does what is said over data; the answer a datum -/
def OpD (K : PySem.W.Frag) (r : R2) (m : D → D → (D → Prop) → Prop) : Prop := ∀ (W : Wd) (v u : V) (d e : D) (Q : VK) (Q' : D → Prop), Rp K W v d → Rp K W u e → m d e Q' → (∀ z c W', Go Nw W W' → Rp K W' z c → Q' c → Q z W'.H) → r v u W.H Q
/-- the same, the answer perhaps a new list -/
def OpS (K : PySem.W.Frag) (r : R2) (m : D → D → (SV → Prop) → Prop) : Prop := ∀ (W : Wd) (v u : V) (d e : D) (Q : VK) (Q' : SV → Prop), Rp K W v d → Rp K W u e → m d e Q' → (∀ z c X W', Go Nw W W' → RpS K W' z c X → (∀ a ∈ X, W.H a = none) → Q' c → Q z W'.H) → r v u W.H Q
def mOp (m : D → D → (SV → Prop) → Prop) (ma mb : Pd) : Pv := fun ρ Q => ma ρ fun d ρ1 => mb ρ1 fun e ρ2 => m d e fun c => Q c ρ2
def mOpD (m : D → D → (D → Prop) → Prop) (ma mb : Pd) : Pd := fun ρ Q => ma ρ fun d ρ1 => mb ρ1 fun e ρ2 => m d e fun c => Q c ρ2
section
variable {X : Cx} {S : Sx} {a b : Expr} {ma mb : Pd} {pos : Pos} {r : R2}
theorem lOp {m : D → D → (SV → Prop) → Prop} (ho : OpS S.K r m) (σ : L2.St) (H : Hp) (Q : VK) (h : lV S (mOp m ma mb) σ H Q) : tOp r (lD S ma) (lD S mb) σ H Q := by
  obtain ⟨ρ, F, W, Q', e, s, q, k⟩ := h
  subst e
  refine ⟨ρ, F, W, _, rfl, s, q, fun v d ρ1 F1 W1 a1 s1 r1 q1 => ?_⟩
  refine ⟨ρ1, F1, W1, _, rfl, s1, q1, fun u e ρ2 F2 W2 a2 s2 r2 q2 => ?_⟩
  refine ho W2 v u d e _ _ (r1.up a2.go.ext) r2 q2 fun z c X W3 g r3 hX q3 => ?_
  obtain ⟨a3, s3⟩ := s2.nw g
  have a12 := a1.trans s s1 a2
  exact k z c X ρ2 F2 W3 (a12.trans s s2 a3) s3 r3 (fun x hx => a12.go.free (hX x hx)) q3
theorem lOpD {m : D → D → (D → Prop) → Prop} (ho : OpD S.K r m) (σ : L2.St) (H : Hp) (Q : VK) (h : lD S (mOpD m ma mb) σ H Q) : tOp r (lD S ma) (lD S mb) σ H Q := by
  obtain ⟨ρ, F, W, Q', e, s, q, k⟩ := h
  subst e
  refine ⟨ρ, F, W, _, rfl, s, q, fun v d ρ1 F1 W1 a1 s1 r1 q1 => ?_⟩
  refine ⟨ρ1, F1, W1, _, rfl, s1, q1, fun u e ρ2 F2 W2 a2 s2 r2 q2 => ?_⟩
  refine ho W2 v u d e _ _ (r1.up a2.go.ext) r2 q2 fun z c W3 g r3 q3 => ?_
  obtain ⟨a3, s3⟩ := s2.nw g
  have a12 := a1.trans s s1 a2
  exact k z c ρ2 F2 W3 (a12.trans s s2 a3) s3 r3 q3
theorem qOp {op : Operator} {m : D → D → (SV → Prop) → Prop} (h : OpR X (binaryOp op) r) (ho : OpS S.K r m) (ha : PE X a (lD S ma)) (hb : PE X b (lD S mb)) : PE X (.BinOp a op b pos) (lV S (mOp m ma mb)) := (pe_op h ha hb).weak (lOp ho)
theorem qOpD {op : Operator} {m : D → D → (D → Prop) → Prop} (h : OpR X (binaryOp op) r) (ho : OpD S.K r m) (ha : PE X a (lD S ma)) (hb : PE X b (lD S mb)) : PE X (.BinOp a op b pos) (lD S (mOpD m ma mb)) := (pe_op h ha hb).weak (lOpD ho)
theorem qCmp {op : CmpOp} {m : D → D → (D → Prop) → Prop} (h : OpR X (compareOp op) r) (ho : OpD S.K r m) (ha : PE X a (lD S ma)) (hb : PE X b (lD S mb)) (hm : behindInMarks op b = false) : PE X (.Compare a [op] [b] pos) (lD S (mOpD m ma mb)) := (pe_cmpR h ha hb hm).weak (lOpD ho)
end
/-! ints -/
def mArith (C : Int → Int → Prop) (g : Int → Int → Int) : D → D → (D → Prop) → Prop
  | .int i, .int j, Q => C i j ∧ Q (.int (g i j))
  | _, _, _ => False
theorem op_arith {K : PySem.W.Frag} {C : Int → Int → Prop} {g : Int → Int → Int} : OpD K (rI C fun i j => .int (g i j)) (mArith C g) := fun W v u d e Q Q' r1 r2 h k => by
  cases r1 <;> cases r2 <;> first
    | exact h.elim
    | exact ⟨_, _, rfl, rfl, h.1, k _ _ W (Go.refl fun _ z => z.elim) .int h.2⟩
def mCmpI (p : Int → Int → Bool) : D → D → (D → Prop) → Prop
  | .int i, .int j, Q => Q (.bl (p i j))
  | _, _, _ => False
theorem op_cmpI {K : PySem.W.Frag} {p : Int → Int → Bool} : OpD K (rI0 fun i j => .bl (p i j)) (mCmpI p) := fun W v u d e Q Q' r1 r2 h k => by
  cases r1 <;> cases r2 <;> first
    | exact h.elim
    | exact ⟨_, _, rfl, rfl, k _ _ W (Go.refl fun _ z => z.elim) .bl h⟩
theorem op_arith0 {K : PySem.W.Frag} {g : Int → Int → Int} : OpD K (rI0 fun i j => .int (g i j)) (mArith (fun _ _ => True) g) := fun W v u d e Q Q' r1 r2 h k => by
  cases r1 <;> cases r2 <;> first
    | exact h.elim
    | exact ⟨_, _, rfl, rfl, k _ _ W (Go.refl fun _ z => z.elim) .int h.2⟩
abbrev CTrue : Int → Int → Prop := fun _ _ => True
abbrev mSub := mArith CTrue fun i j => i - j
abbrev mMul := mArith CMul fun i j => i * j
abbrev mFdiv := mArith CDivN fun i j => i.fdiv j
abbrev mMod := mArith (fun _ j => j ≠ 0) fun i j => i.fmod j
abbrev mPow := mArith CPow fun i j => i ^ j.toNat
abbrev mLt := mCmpI fun i j => decide (i < j)
abbrev mLe := mCmpI fun i j => decide (i ≤ j)
abbrev mGt := mCmpI fun i j => decide (j < i)
abbrev mGe := mCmpI fun i j => decide (j ≤ i)
/-! + -/
def mAdd : D → D → (SV → Prop) → Prop
  | .int i, .int j, Q => Q (.dat (.int (i + j)))
  | .str a, .str b, Q => a.length + b.length ≤ sizeLine ∧ Q (.dat (.str (a ++ b)))
  | .lst a, .lst b, Q => a.length + b.length ≤ sizeLine ∧ Q (.own (a ++ b))
  | .tup a, .tup b, Q => a.length + b.length ≤ sizeLine ∧ Q (.dat (.tup (a ++ b)))
  | _, _, _ => False
def rAddK (K : PySem.W.Frag) : R2 := fun x y H Q => rAddU x y H Q ∨ rCatA K x y H Q
theorem o_addK {X : Cx} (K : PySem.W.Frag) (hK : X.K = K := by rfl) : OpR X (binaryOp .Add) (rAddK K) := by subst hK; exact OpR.or2 o_add op_catA
theorem op_add {K : PySem.W.Frag} : OpS K (rAddK K) mAdd := fun W v u d e Q Q' r1 r2 h k => by
  have k0 : ∀ z c, Rp K W z c → Q' (.dat c) → Q z W.H := fun z c hr hq => k z _ [] W (Go.refl fun _ z => z.elim) (.dat hr) (fun _ z => nomatch z) hq
  cases r1 with
  | int => cases r2 <;> first | exact h.elim | exact .inl (.inl ⟨_, _, rfl, rfl, k0 _ _ .int h⟩)
  | str => cases r2 <;> first | exact h.elim | exact .inl (.inr (.inl ⟨_, _, rfl, rfl, h.1, k0 _ _ .str h.2⟩))
  | @lst p xs ds e1 n1 r1 =>
    cases r2 with
    | @lst q ys es e2 n2 r2 =>
      have h : ds.length + es.length ≤ sizeLine ∧ Q' (.own (ds ++ es)) := h
      refine .inl (.inr (.inr ⟨p, q, xs, ys, rfl, rfl, e1, e2, by rw [r1.length, r2.length]; exact h.1, ?_⟩))
      exact new_own (K := K) (r1.append r2) fun a W' g n rs => k _ _ [a] W' g rs (fun x hx => by rw [List.mem_singleton.mp hx]; exact n) h.2
    | _ => exact h.elim
  | @tup p xs ds s1 r1 =>
    cases r2 with
    | @tup q ys es s2 r2 =>
      have h : ds.length + es.length ≤ sizeLine ∧ Q' (.dat (.tup (ds ++ es))) := h
      have h2 := h.2
      refine .inr ⟨p, q, xs, ys, rfl, rfl, s1.sq, s2.sq, by rw [r1.length, r2.length]; exact h.1, fun hx => ?_, fun hx hy => ?_, fun _ _ => ?_⟩
      · subst hx
        cases r1
        exact k0 _ _ (.tup s2 r2) h2
      · subst hy
        cases r2
        rw [List.append_nil] at h2
        exact k0 _ _ (.tup s1 r1) h2
      · exact new_tup (K := K) (r1.append r2) fun a W' g n rp => k _ _ [] W' g (.dat rp) (fun _ z => nomatch z) h2
    | _ => exact h.elim
  | _ => exact h.elim
/-! == and != -/
def mEq (neg : Bool) (d e : D) (Q : D → Prop) : Prop := ((∃ n m, n ≤ 64 ∧ m ≤ 64 ∧ Cln n d ∧ Cln m e) ∨ scalD d e = true) ∧ Q (.bl (if neg then !decide (d = e) else decide (d = e)))
theorem scal_of {K : PySem.W.Frag} {W : Wd} {v u : V} {d e : D} (r1 : Rp K W v d) (r2 : Rp K W u e) (h : scalD d e = true) : scal v u = true ∧ decide (v = u) = decide (d = e) := by
  cases r1 <;> cases r2 <;> first
    | (cases h; done)
    | exact ⟨rfl, by rw [Bool.eq_iff_iff, decide_eq_true_iff, decide_eq_true_iff]; constructor <;> intro q <;> first | rfl | (injection q with q; rw [q]) | cases q⟩
theorem op_eqP {K : PySem.W.Frag} : OpD K (fun x y H Q => rEq x y H Q ∨ rEqD K x y H Q) (mEq false) := fun W v u d e Q Q' r1 r2 h k => by
  have k0 : ∀ b, Q' (.bl b) → Q (.bl b) W.H := fun b hq => k _ _ W (Go.refl fun _ z => z.elim) .bl hq
  obtain ⟨⟨n, m, hn, hm, c1, c2⟩ | hs, q⟩ := h
  · exact .inr ⟨_, _, c1.dp r1, c2.dp r2, c1.shaped hn, c2.shaped hm, by rw [c1.eqv c2]; exact k0 _ q⟩
  · obtain ⟨e1, e2⟩ := scal_of r1 r2 hs
    exact .inl ⟨e1, by rw [e2]; exact k0 _ q⟩
theorem op_neP {K : PySem.W.Frag} : OpD K (fun x y H Q => rNe x y H Q ∨ rNeD K x y H Q) (mEq true) := fun W v u d e Q Q' r1 r2 h k => by
  have k0 : ∀ b, Q' (.bl b) → Q (.bl b) W.H := fun b hq => k _ _ W (Go.refl fun _ z => z.elim) .bl hq
  obtain ⟨⟨n, m, hn, hm, c1, c2⟩ | hs, q⟩ := h
  · exact .inr ⟨_, _, c1.dp r1, c2.dp r2, c1.shaped hn, c2.shaped hm, by rw [c1.eqv c2]; exact k0 _ q⟩
  · obtain ⟨e1, e2⟩ := scal_of r1 r2 hs
    exact .inl ⟨e1, by rw [e2]; exact k0 _ q⟩
theorem h65 {A : Around} {k : Nat} (r : Room k A) : A.units + 65 < cLine := by have := r.un; omega
theorem h64 {A : Around} {k : Nat} (r : Room k A) : A.units + 64 < cLine := by have := r.un; omega
theorem h1 {A : Around} {k : Nat} (r : Room k A) : A.units + 1 < cLine := by have := r.un; omega
theorem o_eqK {X : Cx} (K : PySem.W.Frag) (hu : X.A.units + 64 < cLine) (hK : X.K = K := by rfl) : OpR X (compareOp .Eq) (fun x y H Q => rEq x y H Q ∨ rEqD K x y H Q) := by subst hK; exact OpR.or2 op_eq (op_eqD hu)
theorem o_neK {X : Cx} (K : PySem.W.Frag) (hu : X.A.units + 64 < cLine) (hK : X.K = K := by rfl) : OpR X (compareOp .NotEq) (fun x y H Q => rNe x y H Q ∨ rNeD K x y H Q) := by subst hK; exact OpR.or2 op_ne (op_neD hu)
/-! is None -/
def mIsN (neg : Bool) (d e : D) (Q : D → Prop) : Prop := e = .non ∧ Q (.bl (if neg then !decide (d = .non) else decide (d = .non)))
theorem non_of {K : PySem.W.Frag} {W : Wd} {v : V} {d : D} (r : Rp K W v d) : decide (v = .non) = decide (d = .non) := by
  rw [Bool.eq_iff_iff, decide_eq_true_iff, decide_eq_true_iff]
  constructor
  · intro e; subst e; cases r; rfl
  · intro e; subst e; cases r; rfl
theorem op_isNP {K : PySem.W.Frag} : OpD K rIsNU (mIsN false) := fun W v u d e Q Q' r1 r2 ⟨h, q⟩ k => by
  subst h
  cases r2
  exact ⟨rfl, by rw [non_of r1]; exact k _ _ W (Go.refl fun _ z => z.elim) .bl q⟩
theorem op_notNP {K : PySem.W.Frag} : OpD K rNotNU (mIsN true) := fun W v u d e Q Q' r1 r2 ⟨h, q⟩ k => by
  subst h
  cases r2
  exact ⟨rfl, by rw [non_of r1]; exact k _ _ W (Go.refl fun _ z => z.elim) .bl q⟩
/-! in -/
def eqF (d e : D) : Bool := match d, e with
  | .non, .non => true
  | .bl a, .bl b => a == b
  | .bl a, .int b => (if a then 1 else 0) == b
  | .int a, .bl b => a == (if b then 1 else 0)
  | .int a, .int b => a == b
  | .str a, .str b => a == b
  | _, _ => false
theorem eqF_of {K : PySem.W.Frag} {W : Wd} {v u : V} {d e : D} (r1 : Rp K W v d) (r2 : Rp K W u e) (h1 : flat d = true) (h2 : flat e = true) : eqV v u = eqF d e := by
  cases r1 <;> cases r2 <;> first | (cases h1; done) | (cases h2; done) | rfl
theorem flat_of {K : PySem.W.Frag} {W : Wd} {v : V} {d : D} (r : Rp K W v d) (h : flat d = true) : flatV v = true := by
  cases r <;> first | (cases h; done) | rfl
theorem inF_of {K : PySem.W.Frag} {W : Wd} {v : V} {d : D} (r : Rp K W v d) (h : flat d = true) : ∀ {vs : List V} {ds : List D}, RpL K W vs ds → ds.all flat = true → vs.all flatV = true ∧ inV v vs = ds.any fun e => eqF e d
  | _, _, .nil, _ => ⟨rfl, rfl⟩
  | _, _, .cons (v := u) (d := e) h1 t, ha => by
    rw [List.all_cons, Bool.and_eq_true] at ha
    obtain ⟨a, b⟩ := inF_of r h t ha.2
    refine ⟨by rw [List.all_cons, flat_of h1 ha.1, a]; rfl, ?_⟩
    unfold inV at b ⊢
    rw [List.any_cons, List.any_cons, b, eqF_of h1 r ha.1 h]
/-- where x is sought -/
def seqD : D → Option (List D)
  | .lst ds => some ds
  | .tup ds => some ds
  | _ => none
def strIn (a b : Str) : Bool := !(Builtin.Str.occurrences b a 0 b.length 1).isEmpty
def mIn (neg : Bool) (d e : D) (Q : D → Prop) : Prop :=
  (∃ ds, seqD e = some ds ∧ (∃ n m, n ≤ 64 ∧ m ≤ 63 ∧ Cln n d ∧ ∀ x ∈ ds, Cln m x) ∧ Q (.bl (if neg then !decide (d ∈ ds) else decide (d ∈ ds)))) ∨
  (∃ ds, seqD e = some ds ∧ flat d = true ∧ ds.all flat = true ∧ Q (.bl (if neg then !(ds.any fun x => eqF x d) else ds.any fun x => eqF x d))) ∨
  (∃ (c : Nat) (z : Str), d = .str ⟨#[c]⟩ ∧ e = .str z ∧ Q (.bl (if neg then !decide (c ∈ z.cps.toList) else decide (c ∈ z.cps.toList)))) ∨
  (∃ a b, d = .str a ∧ e = .str b ∧ Q (.bl (if neg then !strIn a b else strIn a b)))
def rInT (K : PySem.W.Frag) (neg : Bool) : R2 := fun x y H Q => ∃ d ds, Dp K H x d ∧ Dp K H y (.tuple ds) ∧ SeqAt.shaped d = true ∧ SeqAt.shaped (.tuple ds) = true ∧ Q (.bl (if neg then !ds.any fun z => PyData.eqv z d else ds.any fun z => PyData.eqv z d)) H
theorem op_inT {X : Cx} (hu : X.A.units + 65 < cLine) : OpR X (compareOp .In) (rInT X.K false) := by
  intro pins s σ H x y v u Q I rx ry h
  obtain ⟨d, ds, hd, he, sd, se, q⟩ := h
  obtain ⟨as, r1⟩ := Dp.reads I d x v hd rx
  obtain ⟨bs, r2⟩ := Dp.reads I (.tuple ds) y u he ry
  exact SeqAt.in_tuple_reads r2 r1 (SeqAt.canLay_of_shaped se) (SeqAt.canLay_of_shaped sd) (room_in_shaped sd hu) ⟨.bl _, H, I, rfl, q⟩
theorem op_notInT {X : Cx} (hu : X.A.units + 65 < cLine) : OpR X (compareOp .NotIn) (rInT X.K true) := by
  intro pins s σ H x y v u Q I rx ry h
  obtain ⟨d, ds, hd, he, sd, se, q⟩ := h
  obtain ⟨as, r1⟩ := Dp.reads I d x v hd rx
  obtain ⟨bs, r2⟩ := Dp.reads I (.tuple ds) y u he ry
  exact SeqAt.notIn_tuple_reads r2 r1 (SeqAt.canLay_of_shaped se) (SeqAt.canLay_of_shaped sd) (room_in_shaped sd hu) ⟨.bl _, H, I, rfl, q⟩
def rInK (K : PySem.W.Frag) (neg : Bool) : R2 := fun x y H Q => rInU K neg x y H Q ∨ (if neg then rNotInD K x y H Q else rInD K x y H Q) ∨ rInT K neg x y H Q
theorem o_inK {X : Cx} (K : PySem.W.Frag) (hu : X.A.units + 65 < cLine) (hK : X.K = K := by rfl) : OpR X (compareOp .In) (rInK K false) := by subst hK; exact OpR.or2 o_in (OpR.or2 (op_inD hu) (op_inT hu))
theorem o_notInK {X : Cx} (K : PySem.W.Frag) (hu : X.A.units + 65 < cLine) (hK : X.K = K := by rfl) : OpR X (compareOp .NotIn) (rInK K true) := by subst hK; exact OpR.or2 o_notIn (OpR.or2 (op_notInD hu) (op_notInT hu))
theorem any_cl {n m : Nat} {d : D} (c : Cln n d) : ∀ {ds : List D}, (∀ x ∈ ds, Cln m x) → ((pyL ds).any fun z => PyData.eqv z (py d)) = decide (d ∈ ds)
  | [], _ => by simp [pyL]
  | e :: ds, h => by
    rw [pyL, List.any_cons, any_cl c fun x hx => h x (List.mem_cons_of_mem _ hx), (h e List.mem_cons_self).eqv c, Bool.eq_iff_iff, Bool.or_eq_true, decide_eq_true_iff, decide_eq_true_iff, decide_eq_true_iff, List.mem_cons]
    exact or_congr_left eq_comm
theorem op_inP {K : PySem.W.Frag} {neg : Bool} : OpD K (rInK K neg) (mIn neg) := fun W v u d e Q Q' r1 r2 h k => by
  have k0 : ∀ b, Q' (.bl b) → Q (.bl b) W.H := fun b hq => k _ _ W (Go.refl fun _ z => z.elim) .bl hq
  rcases h with ⟨ds, e1, ⟨n, m, hn, hm, c1, c2⟩, q⟩ | ⟨ds, e1, f1, f2, q⟩ | ⟨c, z, rfl, rfl, q⟩ | ⟨a, b, rfl, rfl, q⟩
  · rw [← any_cl c1 c2] at q
    cases e <;> first | (cases e1; done) | skip
    · cases e1
      have c3 : Cln (m + 1) (.lst ds) := .lst c2
      cases neg with
      | false => exact .inr (.inl ⟨_, pyL ds, c1.dp r1, by have := c3.dp r2; rw [py] at this; exact this, c1.shaped hn, by have := c3.shaped (by omega); rw [py] at this; exact this, k0 _ q⟩)
      | true => exact .inr (.inl ⟨_, pyL ds, c1.dp r1, by have := c3.dp r2; rw [py] at this; exact this, c1.shaped hn, by have := c3.shaped (by omega); rw [py] at this; exact this, k0 _ q⟩)
    · cases e1
      have c3 : Cln (m + 1) (.tup ds) := .tup c2
      exact .inr (.inr ⟨_, pyL ds, c1.dp r1, by have := c3.dp r2; rw [py] at this; exact this, c1.shaped hn, by have := c3.shaped (by omega); rw [py] at this; exact this, k0 _ q⟩)
  · cases e <;> first | (cases e1; done) | skip
    · cases e1
      cases r2 with
      | lst e2 n2 r2 =>
        obtain ⟨a, b⟩ := inF_of r1 f1 r2 f2
        exact .inl (.inl ⟨_, _, rfl, .inl (.inl (.inl e2)), flat_of r1 f1, a, by rw [b]; exact k0 _ q⟩)
    · cases e1
      cases r2 with
      | tup e2 r2 =>
        obtain ⟨a, b⟩ := inF_of r1 f1 r2 f2
        exact .inl (.inl ⟨_, _, rfl, .inr e2.sq, flat_of r1 f1, a, by rw [b]; exact k0 _ q⟩)
  · cases r1
    cases r2
    exact .inl (.inr (.inl ⟨c, z, rfl, rfl, k0 _ q⟩))
  · cases r1
    cases r2
    exact .inl (.inr (.inr ⟨a, b, rfl, rfl, k0 _ q⟩))
end U

/-! PuD: what does not change, tests, displays, subscripts, builtins -/
namespace U
open PySem PySem.Spec PyProof.Rows L2 Q
section
variable {X : Cx} {S : Sx} {e a b c : Expr} {m ma mb : Pd} {pos : Pos}
/-! ### a datum that leans on nothing that changes: what was one's own stays so -/
def mKeep (m : Pd) : Pd := fun ρ Q => m ρ fun d _ => Fz d ∧ Q d ρ
theorem Sn.restore {W W1 : Wd} {σ : L2.St} {ρ ρ1 : Rho} {F F1 : Fp} (s : Sn S W σ ρ F) (a1 : Stp S F W F1 W1) (s1 : Sn S W1 σ ρ1 F1) : ∃ W2, W2.H = W1.H ∧ Stp S F W F W2 ∧ Sn S W2 σ ρ F ∧ (∀ v d, Fz d → Rp S.K W1 v d → Rp S.K W2 v d) ∧ ∀ a, W1.M a → W2.M a := by
  have mF : ∀ i a, a ∈ F i → W.M a := fun i a h => (s.new i a h).1
  let W2 : Wd := ⟨W1.H, fun a => W1.M a ∨ ∃ i, a ∈ F i, fun a h => h.elim (W1.ok a) fun ⟨i, h⟩ => by
    obtain ⟨o, ho, mu⟩ := W.ok a (mF i a h)
    exact ⟨o, (a1.same i a h).trans ho, mu⟩⟩
  have g0 : Go (Mine S F) W W2 := ⟨a1.go.keep, a1.go.tups, fun a h => h.elim (a1.go.old a) fun ⟨i, h⟩ => .inl (mF i a h), fun a n h => .inl (a1.go.stay a n h), a1.go.inM, a1.go.ne⟩
  have e2 : Ext W W2 := g0.ext
  refine ⟨W2, rfl, ⟨⟨g0, fun i a h => ⟨i, h⟩⟩, a1.same⟩, ?_, fun v d hf r1 => Rp.fz (W := W1) (W' := W2) (fun a o _ z => z) hf r1, fun a h => .inl h⟩
  refine ⟨s.len, ⟨s1.go.keep, s1.go.tups, fun a h => h.elim (s1.go.old a) fun ⟨i, h⟩ => .inr (s.new i a h).2, fun a n h => .inl (s1.go.stay a n h), s1.go.inM, s1.go.ne⟩, fun a c ea => ?_, fun i r er => ?_, fun i a h => ⟨.inr ⟨i, h⟩, (s.new i a h).2⟩, s.dj, s.me, fun Wb Fb e => (s.tb Wb Fb e).trans ⟨g0, fun i a h => .inl ⟨i, h⟩⟩⟩
  · obtain ⟨q1, ⟨ns, i, b, sd, f, n, o, hi, hc, nc⟩, q3⟩ := s1.sto a c ea
    obtain ⟨z1, ⟨_, _, _, _, _, _, _, _, hc0, nc0⟩, z3⟩ := s.sto a c ea
    exact ⟨q1, ⟨ns, i, b, sd, f, n, ⟨o.1, .inl o.2⟩, hi, hc, fun h => h.elim nc fun ⟨i, h⟩ => nc0 (mF i c h)⟩, z3⟩
  · obtain ⟨v, ev, hv⟩ := s.sv i r er
    refine ⟨v, ev, ?_⟩
    have sm : ∀ a ∈ F i, W1.H a = W.H a := fun a h => a1.same i a h
    have mm : ∀ a ∈ F i, W2.M a := fun a h => .inr ⟨i, h⟩
    have up : ∀ {qs : List Addr} {rs : List (List D)}, (∀ a ∈ qs, a ∈ F i) → RpQ S.K W qs rs → RpQ S.K W2 qs rs := by
      intro qs rs n h
      induction h with
      | nil => exact .nil
      | cons o r t ih => exact .cons ⟨(sm _ (n _ List.mem_cons_self)).trans o.1, mm _ (n _ List.mem_cons_self)⟩ (r.up e2) (ih fun a ha => n a (List.mem_cons_of_mem _ ha))
    generalize F i = Y at hv sm mm up
    cases hv with
    | dat h => exact .dat (h.up e2)
    | own o r => exact .own ⟨(sm _ List.mem_cons_self).trans o.1, mm _ List.mem_cons_self⟩ (r.up e2)
    | ow2 o r nd => exact .ow2 ⟨(sm _ List.mem_cons_self).trans o.1, mm _ List.mem_cons_self⟩ (up (fun a ha => List.mem_cons_of_mem _ ha) r) nd
    | ownK eo m r => exact .ownK ((sm _ List.mem_cons_self).trans eo) (mm _ List.mem_cons_self) (r.up e2)
    | ownT eo m r => exact .ownT ((sm _ List.mem_cons_self).trans eo) (mm _ List.mem_cons_self) (r.up e2)
    | ownO eo m r => exact .ownO ((sm _ List.mem_cons_self).trans eo) (mm _ List.mem_cons_self) (r.up e2)
theorem qKeep (h : PE X e (lD S m)) : PE X e (lD S (mKeep m)) := h.weak fun σ H Q ⟨ρ, F, W, Q', eW, s, q, k⟩ => by
  subst eW
  refine ⟨ρ, F, W, _, rfl, s, q, fun v d ρ1 F1 W1 a1 s1 r1 ⟨hf, q1⟩ => ?_⟩
  obtain ⟨W2, e2, a2, s2, up, _⟩ := s.restore a1 s1
  have := k v d ρ F W2 a2 s2 (up v d hf r1) q1
  rw [e2] at this
  exact this
def mKeepT (t : Pt) : Pt := fun ρ Q => t ρ fun b _ => Q b ρ
theorem qKeepT {t : Pt} (h : PT X e (lT S t)) : PT X e (lT S (mKeepT t)) := h.weak fun σ H Q ⟨ρ, F, W, Q', eW, s, q, k⟩ => by
  subst eW
  refine ⟨ρ, F, W, _, rfl, s, q, fun b ρ1 F1 W1 a1 s1 q1 => ?_⟩
  obtain ⟨W2, e2, a2, s2, up, _⟩ := s.restore a1 s1
  have := k b ρ F W2 a2 s2 q1
  rw [e2] at this
  exact this
/-! ### tests -/
def mT (m : Pd) : Pt := fun ρ Q => m ρ fun d ρ1 => ∃ b, d = .bl b ∧ Q b ρ1
theorem lT1 {t : TE} (ht : ∀ σ H Q, lD S m σ H Q → t σ H Q) (σ : L2.St) (H : Hp) (Q : Bool → Hp → Prop) (h : lT S (mT m) σ H Q) : t σ H fun x H' => ∃ k, x = .bl k ∧ Q k H' := by
  obtain ⟨ρ, F, W, Q', e, s, q, k⟩ := h
  subst e
  refine ht _ _ _ ⟨ρ, F, W, _, rfl, s, q, fun v d ρ1 F1 W1 a1 s1 r1 ⟨b, eb, q1⟩ => ?_⟩
  subst eb
  cases r1
  exact ⟨b, rfl, k b ρ1 F1 W1 a1 s1 q1⟩
theorem qT (h : PE X e (lD S m)) (he : ∀ whole, isTrue e X.env whole = (do let v ← whole; standAt e.pos; holding [v] (truthy v)) := by intro _; rfl) : PT X e (lT S (mT m)) :=
  (pt_val h he).weak (lT1 fun _ _ _ h => h)
theorem qTc {op : CmpOp} {r : R2} {mo : D → D → (D → Prop) → Prop} (h : OpR X (compareOp op) r) (ho : OpD S.K r mo) (ha : PE X a (lD S ma)) (hb : PE X b (lD S mb)) (hm : behindInMarks op b = false) : PT X (.Compare a [op] [b] pos) (lT S (mT (mOpD mo ma mb))) :=
  (pt_cmpR h ha hb hm).weak (lT1 (lOpD ho))
def mAnd (t u : Pt) : Pt := fun ρ Q => t ρ fun c ρ1 => if c = true then u ρ1 Q else Q false ρ1
def mOr (t u : Pt) : Pt := fun ρ Q => t ρ fun c ρ1 => if c = true then Q true ρ1 else u ρ1 Q
def mNot (t : Pt) : Pt := fun ρ Q => t ρ fun c ρ1 => Q (!c) ρ1
variable {t u : Pt} {rest : List Expr}
theorem lAnd (σ : L2.St) (H : Hp) (Q : Bool → Hp → Prop) (h : lT S (mAnd t u) σ H Q) : tAnd (lT S t) (lT S u) σ H Q := by
  obtain ⟨ρ, F, W, Q', e, s, q, k⟩ := h
  subst e
  refine ⟨ρ, F, W, _, rfl, s, q, fun b ρ1 F1 W1 a1 s1 q1 => ?_⟩
  cases b with
  | true => exact ⟨ρ1, F1, W1, Q', rfl, s1, q1, fun b ρ2 F2 W2 a2 s2 q2 => k b ρ2 F2 W2 (a1.trans s s1 a2) s2 q2⟩
  | false => exact k false ρ1 F1 W1 a1 s1 q1
theorem lOr (σ : L2.St) (H : Hp) (Q : Bool → Hp → Prop) (h : lT S (mOr t u) σ H Q) : tOr (lT S t) (lT S u) σ H Q := by
  obtain ⟨ρ, F, W, Q', e, s, q, k⟩ := h
  subst e
  refine ⟨ρ, F, W, _, rfl, s, q, fun b ρ1 F1 W1 a1 s1 q1 => ?_⟩
  cases b with
  | false => exact ⟨ρ1, F1, W1, Q', rfl, s1, q1, fun b ρ2 F2 W2 a2 s2 q2 => k b ρ2 F2 W2 (a1.trans s s1 a2) s2 q2⟩
  | true => exact k true ρ1 F1 W1 a1 s1 q1
theorem lNot (σ : L2.St) (H : Hp) (Q : Bool → Hp → Prop) (h : lT S (mNot t) σ H Q) : tNot (lT S t) σ H Q := by
  obtain ⟨ρ, F, W, Q', e, s, q, k⟩ := h
  subst e
  exact ⟨ρ, F, W, _, rfl, s, q, fun b ρ1 F1 W1 a1 s1 q1 => k (!b) ρ1 F1 W1 a1 s1 q1⟩
theorem qAnd (h1 : PT X a (lT S t)) (h2 : PW X (.BoolOp .And (b :: rest) pos) (lT S u)) : PW X (.BoolOp .And (a :: b :: rest) pos) (lT S (mAnd t u)) := (pw_and h1 h2).weak lAnd
theorem qAnd1 (h1 : PT X a (lT S t)) : PW X (.BoolOp .And [a] pos) (lT S t) := pw_and1 h1
theorem qOr (h1 : PT X a (lT S t)) (h2 : PW X (.BoolOp .Or (b :: rest) pos) (lT S u)) : PW X (.BoolOp .Or (a :: b :: rest) pos) (lT S (mOr t u)) := (pw_or h1 h2).weak lOr
theorem qOr1 (h1 : PT X a (lT S t)) : PW X (.BoolOp .Or [a] pos) (lT S t) := pw_or1 h1
theorem qNot (h1 : PT X a (lT S t)) : PT X (.UnaryOp .Not a pos) (lT S (mNot t)) := (pt_not h1).weak lNot
/-! .. as values -/
def mAndV (m n : Pd) : Pd := fun ρ Q => m ρ fun d ρ1 => ∃ c, d = .bl c ∧ if c = true then n ρ1 Q else Q (.bl false) ρ1
def mOrV (m n : Pd) : Pd := fun ρ Q => m ρ fun d ρ1 => ∃ c, d = .bl c ∧ if c = true then Q (.bl true) ρ1 else n ρ1 Q
def mNotV (m : Pd) : Pd := fun ρ Q => m ρ fun d ρ1 => ∃ c, d = .bl c ∧ Q (.bl (!c)) ρ1
theorem qAndV (ha : PE X a (lD S ma)) (hb : PE X (.BoolOp .And (b :: rest) pos) (lD S mb)) : PE X (.BoolOp .And (a :: b :: rest) pos) (lD S (mAndV ma mb)) := (pe_and ha hb).weak fun σ H Q ⟨ρ, F, W, Q', e, s, q, k⟩ => by
  subst e
  refine ⟨ρ, F, W, _, rfl, s, q, fun v d ρ1 F1 W1 a1 s1 r1 ⟨c, eb, q1⟩ => ?_⟩
  subst eb
  cases r1
  refine ⟨c, rfl, ?_⟩
  cases c with
  | true => exact ⟨ρ1, F1, W1, Q', rfl, s1, q1, fun v d ρ2 F2 W2 a2 s2 r2 q2 => k v d ρ2 F2 W2 (a1.trans s s1 a2) s2 r2 q2⟩
  | false => exact k _ _ ρ1 F1 W1 a1 s1 .bl q1
theorem qOrV (ha : PE X a (lD S ma)) (hb : PE X (.BoolOp .Or (b :: rest) pos) (lD S mb)) : PE X (.BoolOp .Or (a :: b :: rest) pos) (lD S (mOrV ma mb)) := (pe_or ha hb).weak fun σ H Q ⟨ρ, F, W, Q', e, s, q, k⟩ => by
  subst e
  refine ⟨ρ, F, W, _, rfl, s, q, fun v d ρ1 F1 W1 a1 s1 r1 ⟨c, eb, q1⟩ => ?_⟩
  subst eb
  cases r1
  refine ⟨c, rfl, ?_⟩
  cases c with
  | false => exact ⟨ρ1, F1, W1, Q', rfl, s1, q1, fun v d ρ2 F2 W2 a2 s2 r2 q2 => k v d ρ2 F2 W2 (a1.trans s s1 a2) s2 r2 q2⟩
  | true => exact k _ _ ρ1 F1 W1 a1 s1 .bl q1
theorem qOne {op : BoolOp} (h : PE X a (lD S ma)) : PE X (.BoolOp op [a] pos) (lD S ma) := pe_one h
theorem qNotV (ha : PE X a (lD S ma)) : PE X (.UnaryOp .Not a pos) (lD S (mNotV ma)) := (pe_not ha).weak fun σ H Q ⟨ρ, F, W, Q', e, s, q, k⟩ => by
  subst e
  refine ⟨ρ, F, W, _, rfl, s, q, fun v d ρ1 F1 W1 a1 s1 r1 ⟨c, eb, q1⟩ => ?_⟩
  subst eb
  cases r1
  exact ⟨c, rfl, k _ _ ρ1 F1 W1 a1 s1 .bl q1⟩
def mNeg (m : Pd) : Pd := fun ρ Q => m ρ fun d ρ1 => ∃ i, d = .int i ∧ Q (.int (-i)) ρ1
theorem qNeg (ha : PE X a (lD S ma)) : PE X (.UnaryOp .USub a pos) (lD S (mNeg ma)) := (pe_un un_neg ha).weak fun σ H Q ⟨ρ, F, W, Q', e, s, q, k⟩ => by
  subst e
  refine ⟨ρ, F, W, _, rfl, s, q, fun v d ρ1 F1 W1 a1 s1 r1 ⟨c, eb, q1⟩ => ?_⟩
  subst eb
  cases r1
  exact ⟨c, rfl, k _ _ ρ1 F1 W1 a1 s1 .int q1⟩
def mIf (t : Pt) (m n : Pd) : Pd := fun ρ Q => t ρ fun c ρ1 => if c = true then m ρ1 Q else n ρ1 Q
theorem qIf (hc : PT X c (lT S t)) (ha : PE X a (lD S ma)) (hb : PE X b (lD S mb)) : PE X (.IfExp c a b pos) (lD S (mIf t ma mb)) := (pe_ifExp hc ha hb).weak fun σ H Q ⟨ρ, F, W, Q', e, s, q, k⟩ => by
  subst e
  refine ⟨ρ, F, W, _, rfl, s, q, fun c ρ1 F1 W1 a1 s1 q1 => ?_⟩
  cases c with
  | false => exact ⟨ρ1, F1, W1, Q', rfl, s1, q1, fun v d ρ2 F2 W2 a2 s2 r2 q2 => k v d ρ2 F2 W2 (a1.trans s s1 a2) s2 r2 q2⟩
  | true => exact ⟨ρ1, F1, W1, Q', rfl, s1, q1, fun v d ρ2 F2 W2 a2 s2 r2 q2 => k v d ρ2 F2 W2 (a1.trans s s1 a2) s2 r2 q2⟩
def mIfV (t : Pt) (m n : Pv) : Pv := fun ρ Q => t ρ fun c ρ1 => if c = true then m ρ1 Q else n ρ1 Q
theorem qIfV {ma mb : Pv} (hc : PT X c (lT S t)) (ha : PE X a (lV S ma)) (hb : PE X b (lV S mb)) : PE X (.IfExp c a b pos) (lV S (mIfV t ma mb)) := (pe_ifExp hc ha hb).weak fun σ H Q ⟨ρ, F, W, Q', e, s, q, k⟩ => by
  subst e
  refine ⟨ρ, F, W, _, rfl, s, q, fun c ρ1 F1 W1 a1 s1 q1 => ?_⟩
  cases c with
  | false => exact ⟨ρ1, F1, W1, Q', rfl, s1, q1, fun v d X ρ2 F2 W2 a2 s2 r2 hX q2 => k v d X ρ2 F2 W2 (a1.trans s s1 a2) s2 r2 (fun x hx => a1.go.free (hX x hx)) q2⟩
  | true => exact ⟨ρ1, F1, W1, Q', rfl, s1, q1, fun v d X ρ2 F2 W2 a2 s2 r2 hX q2 => k v d X ρ2 F2 W2 (a1.trans s s1 a2) s2 r2 (fun x hx => a1.go.free (hX x hx)) q2⟩
/-! ### displays -/
variable {es : List Expr} {ms : Pa} {x1 : Nat}
def mTup (ms : Pa) : Pd := fun ρ Q => ms ρ fun ds ρ1 => ds.length ≤ sizeLine ∧ Q (.tup ds) ρ1
def mLst (ms : Pa) : Pv := fun ρ Q => ms ρ fun ds ρ1 => ds.length ≤ sizeLine ∧ Q (.own ds) ρ1
theorem qTup (h : PA X es (lA S ms)) : PE X (.Tuple es x1 pos) (lD S (mTup ms)) := (pe_tup h).weak fun σ H Q ⟨ρ, F, W, Q', e, s, q, k⟩ => by
  subst e
  refine ⟨ρ, F, W, _, rfl, s, q, fun vs ds ρ1 F1 W1 a1 s1 r1 ⟨hl, q1⟩ => ?_⟩
  refine ⟨by rw [r1.length]; exact hl, new_tup (K := S.K) r1 fun p W2 g n rp => ?_⟩
  obtain ⟨a2, s2⟩ := s1.nw g
  exact k _ _ ρ1 F1 W2 (a1.trans s s1 a2) s2 rp q1
theorem qLst (h : PA X es (lA S ms)) : PE X (.List es pos) (lV S (mLst ms)) := (pe_lst h).weak fun σ H Q ⟨ρ, F, W, Q', e, s, q, k⟩ => by
  subst e
  refine ⟨ρ, F, W, _, rfl, s, q, fun vs ds ρ1 F1 W1 a1 s1 r1 ⟨hl, q1⟩ => ?_⟩
  refine ⟨by rw [r1.length]; exact hl, new_own (K := S.K) r1 fun p W2 g n rp => ?_⟩
  obtain ⟨a2, s2⟩ := s1.nw g
  exact k _ _ [p] ρ1 F1 W2 (a1.trans s s1 a2) s2 rp (fun x hx => by rw [List.mem_singleton.mp hx]; exact a1.go.free n) q1
def mDNew : Pv := fun ρ Q => Q (.ownD false []) ρ
def mDNewT : Pv := fun ρ Q => Q (.ownD true []) ρ
theorem qDNewT : PE X (.Dict [] [] pos) (lV S mDNewT) := pe_dnewT.weak fun σ H Q ⟨ρ, F, W, Q', e, s, q, k⟩ => by
  subst e
  refine new_dcT (K := S.K) fun p W2 g n rp => ?_
  obtain ⟨a2, s2⟩ := s.nw g
  exact k _ _ [p] ρ F W2 a2 s2 rp (fun x hx => by rw [List.mem_singleton.mp hx]; exact n) q
theorem qDNew : PE X (.Dict [] [] pos) (lV S mDNew) := pe_dnewK.weak fun σ H Q ⟨ρ, F, W, Q', e, s, q, k⟩ => by
  subst e
  refine new_dct (K := S.K) fun p W2 g n rp => ?_
  obtain ⟨a2, s2⟩ := s.nw g
  exact k _ _ [p] ρ F W2 a2 s2 rp (fun x hx => by rw [List.mem_singleton.mp hx]; exact n) q
/-! ### subscripts -/
/-- what stands at a place -/
def mIx (d e : D) (Q : D → Prop) : Prop := ∃ i, e = .int i ∧ ((∃ ds x, seqD d = some ds ∧ atI ds i = some x ∧ Q x) ∨ ∃ z c, d = .str z ∧ z.length ≤ sizeLine ∧ atI z.cps.toList i = some c ∧ Q (.str ⟨#[c]⟩))
theorem RpL.at {K : PySem.W.Frag} {W : Wd} {vs : List V} {ds : List D} {i : Int} {x : D} (r : RpL K W vs ds) (h : atI ds i = some x) : ∃ v, atI vs i = some v ∧ Rp K W v x := by
  unfold atI at h ⊢
  rw [r.length]
  cases q : ixN ds.length i with
  | none => rw [q] at h; cases h
  | some j => rw [q] at h; exact r.getD h
theorem ix_P {K : PySem.W.Frag} : OpD K (rIx K) mIx := fun W v u d e Q Q' r1 r2 ⟨i, ei, h⟩ k => by
  subst ei
  cases r2
  have k0 : ∀ z c, Rp K W z c → Q' c → Q z W.H := fun z c r q => k z c W (Go.refl fun _ z => z.elim) r q
  rcases h with ⟨ds, x, ed, ex, q⟩ | ⟨z, c, ed, hz, ec, q⟩
  · cases d <;> first | (cases ed; done) | skip
    · cases ed
      cases r1 with
      | lst e n r =>
        obtain ⟨w, e1, e2⟩ := r.at ex
        exact .inl ⟨_, _, i, w, rfl, rfl, .inl (.inl e), e1, k0 _ _ e2 q⟩
    · cases ed
      cases r1 with
      | tup e r =>
        obtain ⟨w, e1, e2⟩ := r.at ex
        exact .inr (.inl ⟨_, _, i, w, rfl, rfl, e.sq, e1, k0 _ _ e2 q⟩)
  · subst ed
    cases r1
    exact .inr (.inr ⟨z, i, c, rfl, rfl, hz, ec, k0 _ _ .str q⟩)
theorem k_ixK (K : PySem.W.Frag) (hK : X.K = K := by rfl) : IxR X (rIx K) := by rw [← hK]; exact ix_seq
theorem qIx (hK : X.K = S.K) (ha : PE X a (lD S ma)) (hb : PE X b (lD S mb)) (hs : PlainIx b) : PE X (.Subscript a b pos) (lD S (mOpD mIx ma mb)) := (pe_ix (k_ixK S.K hK) ha hb hs).weak (lOpD ix_P)
/-! slices -/
def cutD (ds : List D) (lo hi : Option Int) : List D := (ds.drop (HT.sIx ds.length 0 lo)).take (HT.sIx ds.length ds.length hi - HT.sIx ds.length 0 lo)
abbrev Po := Rho → (Option Int → Rho → Prop) → Prop
def mNoP : Po := fun ρ Q => Q none ρ
def mSoP (m : Pd) : Po := fun ρ Q => m ρ fun d ρ1 => ∃ i, d = .int i ∧ Q (some i) ρ1
def lO (S : Sx) (m : Po) : TO := fun σ H Q => ∃ ρ F W Q', W.H = H ∧ Sn S W σ ρ F ∧ m ρ Q' ∧ ∀ o ρ' F' W', Stp S F W F' W' → Sn S W' σ ρ' F' → Q' o ρ' → Q o W'.H
theorem _root_.L2.PO.weak {e : Option Expr} {t t' : TO} (h : PO X e t) (w : ∀ σ H Q, t' σ H Q → t σ H Q) : PO X e t' := ⟨fun pins s σ H Q I q => h.run pins s σ H Q I (w σ H Q q)⟩
theorem qNoP : PO X none (lO S mNoP) := po_none.weak fun σ H Q ⟨ρ, F, W, Q', e, s, q, k⟩ => by
  subst e
  exact k none ρ F W s.stp s q
theorem qSoP (h : PE X e (lD S m)) : PO X (some e) (lO S (mSoP m)) := (po_some h).weak fun σ H Q ⟨ρ, F, W, Q', e, s, q, k⟩ => by
  subst e
  refine ⟨ρ, F, W, _, rfl, s, q, fun v d ρ1 F1 W1 a1 s1 r1 ⟨i, ei, q1⟩ => ?_⟩
  subst ei
  cases r1
  exact ⟨i, rfl, k _ ρ1 F1 W1 a1 s1 q1⟩
def slD (d : D) (l u : Option Int) (Q : SV → Prop) : Prop :=
  (∃ ds, d = .lst ds ∧ Q (.own (cutD ds l u))) ∨ (∃ ds, d = .tup ds ∧ ¬ (HT.sIx ds.length 0 l = 0 ∧ HT.sIx ds.length ds.length u = ds.length) ∧ Q (.dat (.tup (cutD ds l u)))) ∨ ∃ z, d = .str z ∧ z.length ≤ sizeLine ∧ Q (.dat (.str (cutS z l u)))
def mSl (m : Pd) (lo hi : Po) : Pv := fun ρ Q => m ρ fun d ρ1 => lo ρ1 fun l ρ2 => hi ρ2 fun u ρ3 => slD d l u fun r => Q r ρ3
def rSlK (K : PySem.W.Frag) : V → Option Int → Option Int → Hp → VK → Prop := fun x lo hi H Q => rSlL K x lo hi H Q ∨ rSlT K x lo hi H Q ∨ rSlS x lo hi H Q
theorem sl_K (K : PySem.W.Frag) (hK : X.K = K := by rfl) : SlR X (rSlK K) := by rw [← hK]; exact SlR.or sl_list (SlR.or sl_tup sl_str)
theorem RpL.cut {K : PySem.W.Frag} {W : Wd} {vs : List V} {ds : List D} {lo hi : Option Int} (r : RpL K W vs ds) : RpL K W (cutV vs lo hi) (cutD ds lo hi) := by
  unfold cutV cutD
  rw [r.length]
  exact (r.drop _).take _
theorem qSl {lo hi : Option Expr} {ml mh : Po} {p2 : Pos} (hK : X.K = S.K) (he : PE X e (lD S m)) (hl : PO X lo (lO S ml)) (hh : PO X hi (lO S mh)) : PE X (.Subscript e (.Slice lo hi none p2) pos) (lV S (mSl m ml mh)) :=
  (pe_slice (sl_K S.K hK) he hl hh).weak fun σ H Q ⟨ρ, F, W, Q', e, s, q, k⟩ => by
    subst e
    refine ⟨ρ, F, W, _, rfl, s, q, fun v d ρ1 F1 W1 a1 s1 r1 q1 => ⟨ρ1, F1, W1, _, rfl, s1, q1, fun l ρ2 F2 W2 a2 s2 q2 => ⟨ρ2, F2, W2, _, rfl, s2, q2, fun u ρ3 F3 W3 a3 s3 q3 => ?_⟩⟩⟩
    have a12 := a1.trans s s1 a2
    have a13 := a12.trans s s2 a3
    have r3 := (r1.up a2.go.ext).up a3.go.ext
    rcases q3 with ⟨ds, rfl, q3⟩ | ⟨ds, rfl, hw, q3⟩ | ⟨z, rfl, hz, q3⟩
    · cases r3 with
      | lst e n r =>
        refine .inl ⟨_, _, rfl, .inl (.inl e), new_own (K := S.K) r.cut fun p W4 g n rp => ?_⟩
        obtain ⟨a4, s4⟩ := s3.nw g
        exact k _ _ [p] ρ3 F3 W4 (a13.trans s s3 a4) s4 rp (fun x hx => by rw [List.mem_singleton.mp hx]; exact a13.go.free n) q3
    · cases r3 with
      | tup e r =>
        refine .inr (.inl ⟨_, _, rfl, e.sq, by rw [r.length]; exact hw, new_tup (K := S.K) r.cut fun p W4 g n rp => ?_⟩)
        obtain ⟨a4, s4⟩ := s3.nw g
        exact k _ _ [] ρ3 F3 W4 (a13.trans s s3 a4) s4 (.dat rp) (fun _ z => nomatch z) q3
    · cases r3
      exact .inr (.inr ⟨z, rfl, hz, k _ _ [] ρ3 F3 W3 a13 s3 (.dat .str) (fun _ z => nomatch z) q3⟩)
/-! ### builtins -/
/-- a builtin by values does what is said over data -/
def CallD (K : PySem.W.Frag) (r : List V → Hp → VK → Prop) (m : List D → (D → Prop) → Prop) : Prop := ∀ (W : Wd) (vs : List V) (ds : List D) (Q : VK) (Q' : D → Prop), RpL K W vs ds → m ds Q' → (∀ z c W', Go Nw W W' → Rp K W' z c → Q' c → Q z W'.H) → r vs W.H Q
def CallS (K : PySem.W.Frag) (r : List V → Hp → VK → Prop) (m : List D → (SV → Prop) → Prop) : Prop := ∀ (W : Wd) (vs : List V) (ds : List D) (Q : VK) (Q' : SV → Prop), RpL K W vs ds → m ds Q' → (∀ z c X W', Go Nw W W' → RpS K W' z c X → (∀ a ∈ X, W.H a = none) → Q' c → Q z W'.H) → r vs W.H Q
def mCB (m : List D → (D → Prop) → Prop) (ms : Pa) : Pd := fun ρ Q => ms ρ fun ds ρ1 => m ds fun c => Q c ρ1
def mCS (m : List D → (SV → Prop) → Prop) (ms : Pa) : Pv := fun ρ Q => ms ρ fun ds ρ1 => m ds fun c => Q c ρ1
variable {r : List V → Hp → VK → Prop}
theorem lCB {f : List D → (D → Prop) → Prop} (hf : CallD S.K r f) (σ : L2.St) (H : Hp) (Q : VK) (h : lD S (mCB f ms) σ H Q) : tCB r (lA S ms) σ H Q := by
  obtain ⟨ρ, F, W, Q', e, s, q, k⟩ := h
  subst e
  refine ⟨ρ, F, W, _, rfl, s, q, fun vs ds ρ1 F1 W1 a1 s1 r1 q1 => hf W1 vs ds _ _ r1 q1 fun z c W2 g r2 q2 => ?_⟩
  obtain ⟨a2, s2⟩ := s1.nw g
  exact k z c ρ1 F1 W2 (a1.trans s s1 a2) s2 r2 q2
theorem lCS {f : List D → (SV → Prop) → Prop} (hf : CallS S.K r f) (σ : L2.St) (H : Hp) (Q : VK) (h : lV S (mCS f ms) σ H Q) : tCB r (lA S ms) σ H Q := by
  obtain ⟨ρ, F, W, Q', e, s, q, k⟩ := h
  subst e
  refine ⟨ρ, F, W, _, rfl, s, q, fun vs ds ρ1 F1 W1 a1 s1 r1 q1 => hf W1 vs ds _ _ r1 q1 fun z c X W2 g r2 hX q2 => ?_⟩
  obtain ⟨a2, s2⟩ := s1.nw g
  exact k z c X ρ1 F1 W2 (a1.trans s s1 a2) s2 r2 (fun x hx => a1.go.free (hX x hx)) q2
def mLen : List D → (D → Prop) → Prop
  | [.lst ds], Q => Q (.int ds.length)
  | [.tup ds], Q => Q (.int ds.length)
  | [.dct false ds], Q => Q (.int ds.length)
  | [.str z], Q => z.length ≤ sizeLine ∧ Q (.int z.length)
  | _, _ => False
def rLenK (K : PySem.W.Frag) : List V → Hp → VK → Prop := fun xs H Q => (∃ x n, xs = [x] ∧ LenV K x H n ∧ Q (.int n) H) ∨ ∃ a kvs, xs = [V.ref a] ∧ Rd H a (.dK kvs) ∧ Q (.int kvs.length) H
theorem call_lenRd : CallR X (.builtin "len") (fun xs H Q => ∃ a kvs, xs = [V.ref a] ∧ Rd H a (.dK kvs) ∧ Q (.int kvs.length) H) := by
  intro pins s σ H xs us Q I r ⟨a, kvs, e, ha, q⟩
  subst e
  obtain ⟨u, rfl, ru⟩ := vals1 r
  obtain rfl : u = Value.ref a := ru
  exact d_len I ha fun t s2 I2 => ⟨V.int kvs.length, H, I2, ⟨t, rfl⟩, q⟩
theorem k_lenK (K : PySem.W.Frag) (hK : X.K = K := by rfl) : CallR X (.builtin "len") (rLenK K) := by rw [← hK]; exact CallR.or2 call_len call_lenRd
theorem RpK.length {K : PySem.W.Frag} {W : Wd} : ∀ {vs : List (Key × V)} {ds : List (D × D)}, RpK K W vs ds → vs.length = ds.length
  | _, _, .nil => rfl
  | _, _, .cons _ t => congrArg Nat.succ t.length
theorem RpT.length {K : PySem.W.Frag} {W : Wd} : ∀ {vs : List (List Key × V)} {ds : List (D × D)}, RpT K W vs ds → vs.length = ds.length
  | _, _, .nil => rfl
  | _, _, .cons _ t => congrArg Nat.succ t.length
theorem f_len {K : PySem.W.Frag} : CallD K (rLenK K) mLen := fun W vs ds Q Q' r h k => by
  have k0 : ∀ i : Int, Q' (.int i) → Q (.int i) W.H := fun i q => k _ _ W (Go.refl fun _ z => z.elim) .int q
  match ds, r, h with
  | [.lst ds], .cons (.lst e n r) .nil, h => exact .inl ⟨_, ds.length, rfl, .inl ⟨_, .inl (.inl e), by rw [r.length]⟩, k0 _ h⟩
  | [.tup ds], .cons (.tup e r) .nil, h => exact .inl ⟨_, ds.length, rfl, .inr ⟨_, e.sq, by rw [r.length]⟩, k0 _ h⟩
  | [.str z], .cons .str .nil, h => exact .inl ⟨_, z.length, rfl, ⟨h.1, rfl⟩, k0 _ h.2⟩
  | [.dct false ds], .cons (.dct e n r) .nil, h => exact .inr ⟨_, _, rfl, e, by rw [r.length]; exact k0 _ h⟩
def mAbs : List D → (D → Prop) → Prop
  | [.int i], Q => Q (.int (if i < 0 then -i else i))
  | _, _ => False
theorem f_abs {K : PySem.W.Frag} : CallD K (fun xs H Q => ∃ i, xs = [.int i] ∧ Q (.int (if i < 0 then -i else i)) H) mAbs := fun W vs ds Q Q' r h k => by
  match ds, r, h with
  | [.int i], .cons .int .nil, h => exact ⟨i, rfl, k _ _ W (Go.refl fun _ z => z.elim) .int h⟩
def mIntC : List D → (D → Prop) → Prop
  | [.int i], Q => Q (.int i)
  | [.bl b], Q => Q (.int (if b then 1 else 0))
  | [.str a], Q => ∃ n, PySem.intText? a = some n ∧ a.length ≤ 640 ∧ Q (.int n)
  | _, _ => False
def rIntK : List V → Hp → VK → Prop := fun xs H Q => ((∃ i, xs = [.int i] ∧ Q (.int i) H) ∨ ∃ k, xs = [.bl k] ∧ Q (.int (if k then 1 else 0)) H) ∨ ∃ a n, xs = [.str a] ∧ PySem.intText? a = some n ∧ a.length ≤ 640 ∧ Q (.int n) H
theorem c_intK : CallR X (.type "int") rIntK := CallR.or2 call_int1 call_int_str
theorem f_int {K : PySem.W.Frag} : CallD K rIntK mIntC := fun W vs ds Q Q' r h k => by
  match ds, r, h with
  | [.int i], .cons .int .nil, h => exact .inl (.inl ⟨i, rfl, k _ _ W (Go.refl fun _ z => z.elim) .int h⟩)
  | [.bl i], .cons .bl .nil, h => exact .inl (.inr ⟨i, rfl, k _ _ W (Go.refl fun _ z => z.elim) .int h⟩)
  | [.str i], .cons .str .nil, ⟨n, h1, h2, h⟩ => exact .inr ⟨i, n, rfl, h1, h2, k _ _ W (Go.refl fun _ z => z.elim) .int h⟩
def mStrC : List D → (D → Prop) → Prop
  | [.int i], Q => i.natAbs.log2 < 1920 ∧ Q (.str (toString i))
  | _, _ => False
theorem f_str {K : PySem.W.Frag} : CallD K (fun xs H Q => ∃ i, xs = [.int i] ∧ i.natAbs.log2 < 1920 ∧ Q (.str (toString i)) H) mStrC := fun W vs ds Q Q' r h k => by
  match ds, r, h with
  | [.int i], .cons .int .nil, h => exact ⟨i, rfl, h.1, k _ _ W (Go.refl fun _ z => z.elim) .str h.2⟩
def mMin : List D → (D → Prop) → Prop
  | [.int i, .int j], Q => Q (.int (if j < i then j else i))
  | _, _ => False
theorem f_min {K : PySem.W.Frag} : CallD K (fun xs H Q => ∃ i j, xs = [.int i, .int j] ∧ Q (.int (if j < i then j else i)) H) mMin := fun W vs ds Q Q' r h k => by
  match ds, r, h with
  | [.int i, .int j], .cons .int (.cons .int .nil), h => exact ⟨i, j, rfl, k _ _ W (Go.refl fun _ z => z.elim) .int h⟩
def mMax : List D → (D → Prop) → Prop
  | [.int i, .int j], Q => Q (.int (if j > i then j else i))
  | _, _ => False
theorem f_max {K : PySem.W.Frag} : CallD K (fun xs H Q => ∃ i j, xs = [.int i, .int j] ∧ Q (.int (if j > i then j else i)) H) mMax := fun W vs ds Q Q' r h k => by
  match ds, r, h with
  | [.int i, .int j], .cons .int (.cons .int .nil), h => exact ⟨i, j, rfl, k _ _ W (Go.refl fun _ z => z.elim) .int h⟩
/-- rows of bools, of ints -/
def blsD : List D → Option (List Bool)
  | [] => some []
  | .bl b :: r => (blsD r).map (b :: ·)
  | _ => none
def intsD : List D → Option (List Int)
  | [] => some []
  | .int b :: r => (intsD r).map (b :: ·)
  | _ => none
theorem bls_of {K : PySem.W.Frag} {W : Wd} : ∀ {ds : List D} {vs : List V} {bs : List Bool}, RpL K W vs ds → blsD ds = some bs → vs = bs.map V.bl
  | [], _, bs, .nil, h => by cases h; rfl
  | .bl b :: ds, _, bs, .cons .bl t, h => by
    obtain ⟨cs, h1, h2⟩ := Option.map_eq_some_iff.mp (show (blsD ds).map (b :: ·) = some bs from h)
    subst h2
    rw [bls_of t h1, List.map_cons]
theorem ints_of {K : PySem.W.Frag} {W : Wd} : ∀ {ds : List D} {vs : List V} {bs : List Int}, RpL K W vs ds → intsD ds = some bs → vs = bs.map V.int
  | [], _, bs, .nil, h => by cases h; rfl
  | .int b :: ds, _, bs, .cons .int t, h => by
    obtain ⟨cs, h1, h2⟩ := Option.map_eq_some_iff.mp (show (intsD ds).map (b :: ·) = some bs from h)
    subst h2
    rw [ints_of t h1, List.map_cons]
theorem blsD_map (bs : List Bool) : blsD (bs.map D.bl) = some bs := by
  induction bs with
  | nil => rfl
  | cons b bs ih => show (blsD (bs.map D.bl)).map (b :: ·) = _; rw [ih]; rfl
theorem intsD_map (bs : List Int) : intsD (bs.map D.int) = some bs := by
  induction bs with
  | nil => rfl
  | cons b bs ih => show (intsD (bs.map D.int)).map (b :: ·) = _; rw [ih]; rfl
def mAll : List D → (D → Prop) → Prop
  | [.lst ds], Q => ∃ bs, blsD ds = some bs ∧ Q (.bl (bs.all id))
  | _, _ => False
theorem f_all {K : PySem.W.Frag} : CallD K (rAll K) mAll := fun W vs ds Q Q' r h k => by
  match ds, r, h with
  | [.lst ds], .cons (.lst e n r) .nil, ⟨bs, h1, h2⟩ =>
    have e2 := bls_of r h1
    subst e2
    exact ⟨_, bs, rfl, .inl (.inl e), k _ _ W (Go.refl fun _ z => z.elim) .bl h2⟩
def mAny : List D → (D → Prop) → Prop
  | [.lst ds], Q => ∃ bs, blsD ds = some bs ∧ Q (.bl (bs.any id))
  | _, _ => False
theorem f_any {K : PySem.W.Frag} : CallD K (rAny K) mAny := fun W vs ds Q Q' r h k => by
  match ds, r, h with
  | [.lst ds], .cons (.lst e n r) .nil, ⟨bs, h1, h2⟩ =>
    have e2 := bls_of r h1
    subst e2
    exact ⟨_, bs, rfl, .inl (.inl e), k _ _ W (Go.refl fun _ z => z.elim) .bl h2⟩
def mSum : List D → (D → Prop) → Prop
  | [.lst ds], Q => ∃ ns, intsD ds = some ns ∧ Q (.int ns.sum)
  | _, _ => False
theorem f_sum {K : PySem.W.Frag} : CallD K (rSum K) mSum := fun W vs ds Q Q' r h k => by
  match ds, r, h with
  | [.lst ds], .cons (.lst e n r) .nil, ⟨bs, h1, h2⟩ =>
    have e2 := ints_of r h1
    subst e2
    exact ⟨_, bs, rfl, .inl (.inl e), k _ _ W (Go.refl fun _ z => z.elim) .int h2⟩
def rListK (K : PySem.W.Frag) : List V → Hp → VK → Prop := fun xs H Q => ∃ p ys, xs = [.ref p] ∧ (SqL K H p ys ∨ SqT K H p ys) ∧ ∀ l, H l = none → Q (.ref l) (upd H l (.lst ys))
def mList : List D → (SV → Prop) → Prop
  | [.lst ds], Q => Q (.own ds)
  | [.tup ds], Q => Q (.own ds)
  | _, _ => False
theorem f_list {K : PySem.W.Frag} : CallS K (rListK K) mList := fun W vs ds Q Q' r h k => by
  have fin : ∀ {xs : List V} {ds : List D}, RpL K W xs ds → Q' (.own ds) → ∀ l, W.H l = none → Q (.ref l) (upd W.H l (.lst xs)) := fun r q =>
    new_own (K := K) r fun p W' g n rp => k _ _ [p] W' g rp (fun x hx => by rw [List.mem_singleton.mp hx]; exact n) q
  match ds, r, h with
  | [.lst ds], .cons (.lst e n r) .nil, h => exact ⟨_, _, rfl, .inl (.inl (.inl e)), fin r h⟩
  | [.tup ds], .cons (.tup e r) .nil, h => exact ⟨_, _, rfl, .inr e.sq, fin r h⟩
def rTupleK (K : PySem.W.Frag) : List V → Hp → VK → Prop := fun xs H Q => ∃ p ys, xs = [.ref p] ∧ ((SqL K H p ys ∧ ∀ l, H l = none → Q (.ref l) (upd H l (.tup ys))) ∨ (SqT K H p ys ∧ Q (.ref p) H))
def mTuple : List D → (D → Prop) → Prop
  | [.lst ds], Q => Q (.tup ds)
  | [.tup ds], Q => Q (.tup ds)
  | _, _ => False
theorem f_tuple {K : PySem.W.Frag} : CallD K (rTupleK K) mTuple := fun W vs ds Q Q' r h k => by
  match ds, r, h with
  | [.lst ds], .cons (.lst e n r) .nil, h => exact ⟨_, _, rfl, .inl ⟨.inl (.inl e), new_tup (K := K) r fun p W' g n rp => k _ _ W' g rp h⟩⟩
  | [.tup ds], .cons (.tup e r) .nil, h => exact ⟨_, _, rfl, .inr ⟨e.sq, k _ _ W (Go.refl fun _ z => z.elim) (.tup e r) h⟩⟩
theorem k_listK (K : PySem.W.Frag) (hK : X.K = K := by rfl) : CallR X (.type "list") (rListK K) := by rw [← hK]; exact call_list_of
theorem k_tupleK (K : PySem.W.Frag) (hK : X.K = K := by rfl) : CallR X (.type "tuple") (rTupleK K) := by rw [← hK]; exact call_tuple_of
theorem k_allK (K : PySem.W.Frag) (hc : X.calm = true := by rfl) (hK : X.K = K := by rfl) : CallR X (.builtin "all") (rAll K) := by rw [← hK]; exact cr_all hc
theorem k_anyK (K : PySem.W.Frag) (hc : X.calm = true := by rfl) (hK : X.K = K := by rfl) : CallR X (.builtin "any") (rAny K) := by rw [← hK]; exact cr_any hc
theorem k_sumK (K : PySem.W.Frag) (hc : X.calm = true := by rfl) (hK : X.K = K := by rfl) : CallR X (.builtin "sum") (rSum K) := by rw [← hK]; exact cr_sum hc
end
end U

/-! PuE: statements, loops, comprehensions -/
namespace U
open PySem PySem.Spec PyProof.Rows L2 Q
/-! ### expressions that change something of one's own -/
def lVm (S : Sx) (m : Pv) : TE := fun σ H Q => ∃ ρ F W Q', W.H = H ∧ Sn S W σ ρ F ∧ m ρ Q' ∧ ∀ v r X ρ' F' W', StpM S F W F' W' → Sn S W' σ ρ' F' → RpS S.K W' v r X → (∀ a ∈ X, W.H a = none) → Q' r ρ' → Q v W'.H
def lDm (S : Sx) (m : Pd) : TE := fun σ H Q => ∃ ρ F W Q', W.H = H ∧ Sn S W σ ρ F ∧ m ρ Q' ∧ ∀ v d ρ' F' W', StpM S F W F' W' → Sn S W' σ ρ' F' → Rp S.K W' v d → Q' d ρ' → Q v W'.H
section
variable {X : Cx} {S : Sx} {e : Expr} {pos : Pos}
theorem qVm {m : Pv} (h : PE X e (lV S m)) : PE X e (lVm S m) := h.weak fun σ H Q ⟨ρ, F, W, Q', e, s, q, k⟩ =>
  ⟨ρ, F, W, Q', e, s, q, fun v r X ρ' F' W' a => k v r X ρ' F' W' a.toStpM⟩
theorem qDm {m : Pd} (h : PE X e (lD S m)) : PE X e (lDm S m) := h.weak fun σ H Q ⟨ρ, F, W, Q', e, s, q, k⟩ =>
  ⟨ρ, F, W, Q', e, s, q, fun v r ρ' F' W' a => k v r ρ' F' W' a.toStpM⟩
theorem qDVm {m : Pd} (h : PE X e (lDm S m)) : PE X e (lVm S (mV m)) := h.weak fun σ H Q ⟨ρ, F, W, Q', e, s, q, k⟩ =>
  ⟨ρ, F, W, _, e, s, q, fun v d ρ' F' W' a s' h q' => k v (.dat d) [] ρ' F' W' a s' (.dat h) (fun _ z => nomatch z) q'⟩
/-- a name that is handed back: what it holds is handed on as it is -/
def mMove (i : Nat) : Pv := fun ρ Q => ∃ r, ρ[i]? = some (some r) ∧ Q r ρ
/-! ### slots -/
theorem Sn.set {W : Wd} {σ : L2.St} {ρ : Rho} {F : Fp} {v : V} {r : SV} {Y : List Addr} {i : Nat} (s : Sn S W σ ρ F) (h : RpS S.K W v r Y) (n : ∀ x ∈ Y, ¬ Mine S F x ∧ S.W0.H x = none ∧ ∀ Wb Fb, S.tb = some (Wb, Fb) → Wb.H x = none) (hi : (S.sl == i) = false) : Sn S W (σ.set i (some v)) (ρ.set i (some r)) (F0 F i Y) := by
  have hsl : S.sl ≠ i := by simpa using hi
  have cs : ∀ j a, a ∈ F0 F i Y j → (j = i ∧ a ∈ Y) ∨ (j ≠ i ∧ a ∈ F j) := fun j a h => by
    by_cases q : j = i
    · subst q; rw [F0_at] at h; exact .inl ⟨rfl, h⟩
    · rw [F0_ne q] at h; exact .inr ⟨q, h⟩
  refine ⟨by rw [List.length_set, List.length_set]; exact s.len, s.go, fun a c e => ?_, fun j r' e => ?_, fun j a ha => ?_, fun j k a hj hk => ?_, fun a e => by rw [List.getElem?_set_ne (Ne.symm hsl)]; exact s.me a e, fun Wb Fb e => ⟨(s.tb Wb Fb e).go, fun j a h => (cs j a h).elim (fun ⟨_, h⟩ => .inr ((n a h).2.2 Wb Fb e)) fun ⟨_, h⟩ => (s.tb Wb Fb e).sub j a h⟩⟩
  · obtain ⟨e1, e2, e3⟩ := s.sto a c e
    refine ⟨by rw [List.getElem?_set_ne (Ne.symm hsl)]; exact e1, e2, fun j h => ?_⟩
    rcases cs j a h with ⟨_, h⟩ | ⟨_, h⟩
    · exact (n a h).1 (.inl ⟨c, e⟩)
    · exact e3 j h
  · by_cases q : i = j
    · subst q
      have hl : i < ρ.length := by have := (List.getElem?_eq_some_iff.mp e).1; rwa [List.length_set] at this
      rw [List.getElem?_set_self hl] at e
      cases e
      exact ⟨v, by rw [List.getElem?_set_self (by rw [s.len]; exact hl)], by rw [F0_at]; exact h⟩
    · rw [List.getElem?_set_ne q] at e
      obtain ⟨w, e1, e2⟩ := s.sv j r' e
      exact ⟨w, by rw [List.getElem?_set_ne q]; exact e1, by rw [F0_ne (Ne.symm q)]; exact e2⟩
  · rcases cs j a ha with ⟨_, h2⟩ | ⟨_, h2⟩
    · exact ⟨h.inM a h2, (n a h2).2.1⟩
    · exact s.new j a h2
  · rcases cs j a hj with ⟨ej, h2⟩ | ⟨nj, h2⟩ <;> rcases cs k a hk with ⟨ek, h3⟩ | ⟨nk, h3⟩
    · rw [ej, ek]
    · exact absurd (.inr ⟨k, h3⟩) (n a h2).1
    · exact absurd (.inr ⟨j, h2⟩) (n a h3).1
    · exact s.dj j k a h2 h3
def wipeR (ρ : Rho) : List Nat → Rho
  | [] => ρ
  | v :: vs => (wipeR ρ vs).set v none
theorem Sn.un {W : Wd} {σ : L2.St} {ρ : Rho} {F : Fp} {i : Nat} (s : Sn S W σ ρ F) (hi : (S.sl == i) = false) (u : Option V) : Sn S W (σ.set i u) (ρ.set i none) (F0 F i []) := by
  have hsl : S.sl ≠ i := by simpa using hi
  have cs : ∀ j a, a ∈ F0 F i [] j → (j ≠ i ∧ a ∈ F j) := fun j a h => by
    by_cases q : j = i
    · subst q; rw [F0_at] at h; cases h
    · rw [F0_ne q] at h; exact ⟨q, h⟩
  refine ⟨by rw [List.length_set, List.length_set]; exact s.len, s.go, fun a c e => ?_, fun j r' e => ?_, fun j a ha => s.new j a (cs j a ha).2, fun j k a hj hk => s.dj j k a (cs j a hj).2 (cs k a hk).2, fun a e => by rw [List.getElem?_set_ne (Ne.symm hsl)]; exact s.me a e, fun Wb Fb e => ⟨(s.tb Wb Fb e).go, fun j a h => (s.tb Wb Fb e).sub j a (cs j a h).2⟩⟩
  · obtain ⟨e1, e2, e3⟩ := s.sto a c e
    exact ⟨by rw [List.getElem?_set_ne (Ne.symm hsl)]; exact e1, e2, fun j h => e3 j (cs j a h).2⟩
  · by_cases q : i = j
    · subst q
      have hl : i < ρ.length := by have := (List.getElem?_eq_some_iff.mp e).1; rwa [List.length_set] at this
      rw [List.getElem?_set_self hl] at e
      cases e
    · rw [List.getElem?_set_ne q] at e
      obtain ⟨w, e1, e2⟩ := s.sv j r' e
      exact ⟨w, by rw [List.getElem?_set_ne q]; exact e1, by rw [F0_ne (Ne.symm q)]; exact e2⟩
theorem Sn.wipe {W : Wd} {σ : L2.St} {ρ : Rho} {F : Fp} (s : Sn S W σ ρ F) : ∀ {vs : List Nat}, (∀ v ∈ vs, (S.sl == v) = false) → ∃ F', Sn S W (L2.wipe σ vs) (wipeR ρ vs) F' ∧ ∀ i a, a ∈ F' i → a ∈ F i
  | [], _ => ⟨F, s, fun _ _ h => h⟩
  | v :: vs, h => by
    obtain ⟨F', s', hF⟩ := s.wipe (vs := vs) fun x hx => h x (List.mem_cons_of_mem _ hx)
    refine ⟨F0 F' v [], s'.un (h v List.mem_cons_self) none, fun i a ha => ?_⟩
    by_cases q : i = v
    · subst q; rw [F0_at] at ha; cases ha
    · rw [F0_ne q] at ha; exact hF i a ha
/-- the slots vs are forgotten, whatever they hold -/
theorem wipeR_some {ρ : Rho} {i : Nat} {x : SV} : ∀ {vs : List Nat}, (wipeR ρ vs)[i]? = some (some x) → ρ[i]? = some (some x) ∧ i ∉ vs
  | [], h => ⟨h, by simp⟩
  | v :: vs, h => by
    unfold wipeR at h
    by_cases q : v = i
    · subst q
      by_cases hl : v < (wipeR ρ vs).length
      · rw [List.getElem?_set_self hl] at h; cases h
      · rw [List.getElem?_eq_none (by rw [List.length_set]; omega)] at h; cases h
    · rw [List.getElem?_set_ne q] at h
      obtain ⟨a, b⟩ := wipeR_some (vs := vs) h
      exact ⟨a, fun z => (List.mem_cons.mp z).elim (fun e => q e.symm) b⟩
theorem wipeR_length {ρ : Rho} : ∀ {vs : List Nat}, (wipeR ρ vs).length = ρ.length
  | [] => rfl
  | v :: vs => by unfold wipeR; rw [List.length_set, wipeR_length]
theorem Sn.unwipe {W : Wd} {σ : L2.St} {ρ : Rho} {F : Fp} {vs : List Nat} (s : Sn S W (L2.wipe σ vs) (wipeR ρ vs) F) (h : ∀ v ∈ vs, (S.sl == v) = false) : Sn S W σ (wipeR ρ vs) F :=
  ⟨by have := s.len; rw [wipe_length] at this; exact this, s.go, fun a c e => by
    obtain ⟨e1, e2, e3⟩ := s.sto a c e
    exact ⟨(wipe_some e1).1, e2, e3⟩, fun i r e => by
    obtain ⟨v, e1, e2⟩ := s.sv i r e
    exact ⟨v, (wipe_some e1).1, e2⟩, s.new, s.dj, fun a e => (wipe_some (s.me a e)).1, s.tb⟩
/-! ### statements -/
def mSet (i : Nat) (m : Pv) : Ps := fun E ρ => m ρ fun r ρ1 => E.nx (ρ1.set i (some r))
theorem lSet {m : Pv} {i : Nat} (hS : (S.sl == i) = false) {te : TE} (ht : ∀ σ H Q, lVm S m σ H Q → te σ H Q) (E : Ends) (σ : L2.St) (H : Hp) (h : lS S (mSet i m) E σ H) : tAsg te (gName i) E σ H := by
  obtain ⟨ρ, F, W, E', e, s, q, c⟩ := h
  subst e
  refine ht _ _ _ ⟨ρ, F, W, _, rfl, s, q, fun v r Y ρ1 F1 W1 a1 s1 r1 hY q1 => ?_⟩
  refine c.nx _ _ (F0 F1 i Y) W1 ⟨a1.go, fun j x hx => ?_⟩ (s1.set r1 (fun x hx => ⟨a1.fresh s hY x hx, s.go.free (hY x hx), fun Wb Fb e => (s.tb Wb Fb e).go.free (hY x hx)⟩) hS) q1
  by_cases q : j = i
  · subst q; rw [F0_at] at hx; exact .inr (hY x hx)
  · rw [F0_ne q] at hx; exact .inl (a1.sub j x hx)
theorem qSet {i : Nat} {x : Str} {m : Pv} {pos' : Pos} (hN : X.N.Nodup) (hi : X.N[i]? = some x) (hx : Loc X.env.scope x) (he : PE X e (lVm S m)) (hS : (S.sl == i) = false := by rfl) (hs : swapsWith e (some (.Name x pos')) pos.line X.env = pure false := by rfl) (hf : X.fn x = true ∨ X.env.scope.names.lookup x = some .local := by first | exact .inl rfl | exact .inr rfl | assumption) :
    PS X (.Assign [.Name x pos'] e pos) (lS S (mSet i m)) := (ps_set hN hi hx he hs hf).weak (lSet hS fun _ _ _ h => h)
def mExpr (m : Pv) : Ps := fun E ρ => m ρ fun _ ρ1 => E.nx ρ1
theorem qExpr {m : Pv} (he : PE X e (lVm S m)) (hs : swapsWith e none pos.line X.env = pure false := by rfl) : PS X (.Expr e pos) (lS S (mExpr m)) := (ps_expr he hs).weak fun E σ H ⟨ρ, F, W, E', e, s, q, c⟩ => by
  subst e
  exact ⟨ρ, F, W, _, rfl, s, q, fun v r Y ρ1 F1 W1 a1 s1 r1 hY q1 => c.nx _ _ F1 W1 a1.s s1 q1⟩
def mRet (m : Pv) : Ps := fun E ρ => m ρ fun r _ => E.rt r
theorem Sn.ret {W : Wd} {σ : L2.St} {ρ : Rho} {F : Fp} {v : V} {r : SV} {Y : List Addr} (s : Sn S W σ ρ F) (h : RpS S.K W v r Y) (n : ∀ x ∈ Y, S.W0.H x = none) : RetOk S v r W := ⟨s.go, fun a c e => (s.sto a c e).2.1, Y, h, n⟩
theorem qRet {m : Pv} (he : PE X e (lVm S m)) : PS X (.Return (some e) pos) (lS S (mRet m)) := (ps_ret he).weak fun E σ H ⟨ρ, F, W, E', e, s, q, c⟩ => by
  subst e
  exact ⟨ρ, F, W, _, rfl, s, q, fun v r Y ρ1 F1 W1 a1 s1 r1 hY q1 => c.rt v r W1 (s1.ret r1 fun x hx => s.go.free (hY x hx)) q1⟩
/-- return name -/
def mRetV (i : Nat) : Ps := fun E ρ => ∃ r, ρ[i]? = some (some r) ∧ E.rt r
theorem qRetV {i : Nat} (he : PE X e (tVar i)) : PS X (.Return (some e) pos) (lS S (mRetV i)) := (ps_ret he).weak fun E σ H ⟨ρ, F, W, E', e, s, ⟨r, er, q⟩, c⟩ => by
  subst e
  obtain ⟨v, ev, hv⟩ := s.sv i r er
  exact ⟨v, ev, c.rt v r W (s.ret hv fun x hx => (s.new i x hx).2) q⟩
def mRetN : Ps := fun E _ => E.rt (.dat .non)
theorem qRetN : PS X (.Return none pos) (lS S mRetN) := ps_retN.weak fun E σ H ⟨ρ, F, W, E', e, s, q, c⟩ => by
  subst e
  exact c.rt .non (.dat .non) W (s.ret (.dat .non) fun _ z => nomatch z) q
def mPass : Ps := fun E ρ => E.nx ρ
def mBreak : Ps := fun E ρ => E.bk ρ
def mCont : Ps := fun E ρ => E.ct ρ
theorem Sn.stpS {W : Wd} {σ : L2.St} {ρ : Rho} {F : Fp} (s : Sn S W σ ρ F) : StpS S F W F W := s.stp.toStpM.s
theorem qPass : PS X (.Pass pos) (lS S mPass) := ps_pass.weak fun E σ H ⟨ρ, F, W, E', e, s, q, c⟩ => by
  subst e
  exact c.nx _ _ F W s.stpS s q
theorem qBreak : PS X (.Break pos) (lS S mBreak) := ps_break.weak fun E σ H ⟨ρ, F, W, E', e, s, q, c⟩ => by
  subst e
  exact c.bk _ _ F W s.stpS s q
theorem qContS : PS X (.Continue pos) (lS S mCont) := ps_continue.weak fun E σ H ⟨ρ, F, W, E', e, s, q, c⟩ => by
  subst e
  exact c.ct _ _ F W s.stpS s q
/-! blocks -/
def mNilS : Ps := fun E ρ => E.nx ρ
def mSeq (m n : Ps) : Ps := fun E ρ => m { E with nx := n E } ρ
variable {st : Stmt} {rest : List Stmt}
theorem qNilS : PSs X [] (lS S mNilS) := pss_nil.weak fun E σ H ⟨ρ, F, W, E', e, s, q, c⟩ => by
  subst e
  exact c.nx _ _ F W s.stpS s q
theorem qOneS {m : Ps} (h : PS X st (lS S m)) : PSs X [st] (lS S m) := pss_one h
theorem qSeq {m n : Ps} (h1 : PS X st (lS S m)) (h2 : PSs X rest (lS S n)) : PSs X (st :: rest) (lS S (mSeq m n)) := (pss_cons h1 h2).weak fun E σ H ⟨ρ, F, W, E', e, s, q, c⟩ => by
  subst e
  exact ⟨ρ, F, W, { E' with nx := n E' }, rfl, s, q, ⟨fun σ1 ρ1 F1 W1 a1 s1 q1 => ⟨ρ1, F1, W1, E', rfl, s1, q1, c.shift a1⟩, c.bk, c.ct, c.rt⟩⟩
def mIfS (t : Pt) (m n : Ps) : Ps := fun E ρ => t ρ fun b ρ1 => if b = true then m E ρ1 else n E ρ1
theorem qIfS {t : Pt} {c : Expr} {a b : List Stmt} {m n : Ps} (hc : PT X c (lT S t)) (ha : PSs X a (lS S m)) (hb : PSs X b (lS S n)) : PS X (.If c a b pos) (lS S (mIfS t m n)) := (ps_if hc ha hb).weak fun E σ H ⟨ρ, F, W, E', e, s, q, c⟩ => by
  subst e
  refine ⟨ρ, F, W, _, rfl, s, q, fun b ρ1 F1 W1 a1 s1 q1 => ?_⟩
  cases b with
  | true => exact ⟨ρ1, F1, W1, E', rfl, s1, q1, c.shift a1.toStpM.s⟩
  | false => exact ⟨ρ1, F1, W1, E', rfl, s1, q1, c.shift a1.toStpM.s⟩
/-! ### targets -/
abbrev Bnd := D → Rho → (Rho → Prop) → Prop
def GOk (S : Sx) (g : TG) (b : Bnd) : Prop := ∀ v d σ ρ F W (R : L2.St → Hp → Prop) (R' : Rho → Prop), Sn S W σ ρ F → Rp S.K W v d → b d ρ R' → (∀ σ' ρ' F', Sn S W σ' ρ' F' → (∀ i a, a ∈ F' i → a ∈ F i) → R' ρ' → R σ' W.H) → g v σ W.H R
def bName (j : Nat) : Bnd := fun d ρ R => R (ρ.set j (some (.dat d)))
theorem gNameOk {j : Nat} (hS : (S.sl == j) = false := by rfl) : GOk S (gName j) (bName j) := fun v d σ ρ F W R R' s r q k => by
  refine k _ _ (F0 F j []) (s.set (.dat r) (fun _ z => nomatch z) hS) (fun i a ha => ?_) q
  by_cases e : i = j
  · subst e; rw [F0_at] at ha; cases ha
  · rw [F0_ne e] at ha; exact ha
abbrev Bnds := List D → Rho → (Rho → Prop) → Prop
def GsOk (S : Sx) (g : TGs) (b : Bnds) : Prop := ∀ vs ds σ ρ F W (R : L2.St → Hp → Prop) (R' : Rho → Prop), Sn S W σ ρ F → RpL S.K W vs ds → b ds ρ R' → (∀ σ' ρ' F', Sn S W σ' ρ' F' → (∀ i a, a ∈ F' i → a ∈ F i) → R' ρ' → R σ' W.H) → g vs σ W.H R
def bNil : Bnds := fun ds ρ R => ds = [] ∧ R ρ
def bCons (b : Bnd) (bs : Bnds) : Bnds := fun ds ρ R => ∃ d r, ds = d :: r ∧ b d ρ fun ρ1 => bs r ρ1 R
theorem gNilOk : GsOk S gNil bNil := fun vs ds σ ρ F W R R' s r ⟨e, q⟩ k => by
  subst e
  cases r
  exact ⟨rfl, k _ _ F s (fun _ _ h => h) q⟩
theorem gConsOk {t : TG} {u : TGs} {b : Bnd} {bs : Bnds} (h1 : GOk S t b) (h2 : GsOk S u bs) : GsOk S (gCons t u) (bCons b bs) := fun vs ds σ ρ F W R R' s r ⟨d, ds', e, q⟩ k => by
  subst e
  cases r with
  | cons r rr =>
    refine ⟨_, _, rfl, h1 _ d σ ρ F W _ _ s r q fun σ1 ρ1 F1 s1 hF q1 => ?_⟩
    exact h2 _ ds' σ1 ρ1 F1 W _ _ s1 rr q1 fun σ2 ρ2 F2 s2 hF2 q2 => k σ2 ρ2 F2 s2 (fun i a h => hF i a (hF2 i a h)) q2
def bTup (n : Nat) (bs : Bnds) : Bnd := fun d ρ R => ∃ ds, d = .tup ds ∧ ds.length = n ∧ bs ds ρ R
theorem gTupOk {n : Nat} {t : TGs} {bs : Bnds} (h : GsOk S t bs) : GOk S (gTup S.K n t) (bTup n bs) := fun v d σ ρ F W R R' s r ⟨ds, e, hl, q⟩ k => by
  subst e
  cases r with
  | tup e r => exact ⟨_, _, rfl, e.sq, by rw [r.length]; exact hl, h _ ds σ ρ F W _ _ s r q k⟩
theorem k_tupG {es : List Expr} {k : Nat} {t : TGs} {n : Nat} {pos : Pos} (K : PySem.W.Frag) (hc : X.calm = true) (h : PGs X es t) (hK : X.K = K := by rfl)
    (hn : (assignEach es X.env).length = n := by rfl) (hst : (assignEach es X.env).findIdx? (·.1) = none := by rfl) : PG X (.Tuple es k pos) (gTup K n t) := by rw [← hK]; exact pg_tup hc h hn hst
/-- target = a datum -/
def mAsg (m : Pd) (b : Bnd) : Ps := fun E ρ => m ρ fun d ρ1 => b d ρ1 E.nx
theorem qAsg {tg : Expr} {m : Pd} {g : TG} {b : Bnd} (he : PE X e (lDm S m)) (hg : PG X tg g) (ho : GOk S g b) (hs : swapsWithSole [tg] e pos.line X.env = pure false := by rfl) (hw : swappedStores [tg] e X.env = pure none := by rfl)
    (h1 : (assignEach [tg] X.env).map (·.2) = [assign tg X.env] := by rfl) : PS X (.Assign [tg] e pos) (lS S (mAsg m b)) := (ps_asg he hg hs hw h1).weak fun E σ H ⟨ρ, F, W, E', e, s, q, c⟩ => by
  subst e
  refine ⟨ρ, F, W, _, rfl, s, q, fun v d ρ1 F1 W1 a1 s1 r1 q1 => ?_⟩
  exact ho v d σ ρ1 F1 W1 _ _ s1 r1 q1 fun σ2 ρ2 F2 s2 hF q2 => c.nx σ2 ρ2 F2 W1 ⟨a1.go, fun i a h => .inl (a1.sub i a (hF i a h))⟩ s2 q2
/-! ### what is walked -/
abbrev Pi := Rho → (List D → Rho → Prop) → Prop
def ItOk (K : PySem.W.Frag) (W : Wd) (J : It) (ds : List D) : Prop := ∀ W2, Ext W W2 → ∀ i, (ds.length ≤ i → J.stop i W2.H) ∧ ∀ d, ds[i]? = some d → J.go i W2.H ∧ ∀ x H', J.yld i W2.H x H' → ∃ W3, W3.H = H' ∧ Go Nw W2 W3 ∧ Rp K W3 x d
def lI (S : Sx) (m : Pi) : TI := fun σ H R => ∃ ρ F W Q', W.H = H ∧ Sn S W σ ρ F ∧ m ρ Q' ∧ ∀ J ds ρ' F' W', Stp S F W F' W' → Sn S W' σ ρ' F' → ItOk S.K W' J ds → Q' ds ρ' → R J W'.H
theorem _root_.L2.PI.weak {tg : Expr} {t t' : TI} (h : PI X tg e t) (w : ∀ σ H Q, t' σ H Q → t σ H Q) : PI X tg e t' := ⟨fun pins s σ H Q I q => h.run pins s σ H Q I (w σ H Q q)⟩
def iDyn (K : PySem.W.Frag) (te : TE) : TI := fun σ H R => te σ H fun x H1 => (∃ a, x = .ref a ∧ (∃ xs, SqL K H1 a xs) ∧ R (Itl K a) H1) ∨ (∃ a, x = .ref a ∧ (∃ xs, SqT K H1 a xs) ∧ R (Itt K a) H1) ∨ ∃ z, x = .str z ∧ R (Its z) H1
theorem pi_dyn {tg : Expr} {te : TE} (hl : PE X e te) : PI X tg e (iDyn X.K te) := by
  refine ⟨fun pins s σ H R I h => ?_⟩
  refine thn (hl.run pins s σ H _ I h) fun v s1 ⟨x, H1, I1, r1, q1⟩ => ?_
  rcases q1 with ⟨a, e, ⟨xs, hq⟩, q⟩ | ⟨a, e, ⟨xs, hq⟩, q⟩ | ⟨z, e, q⟩
  · subst e
    cases r1
    obtain ⟨its, rv, p, hz⟩ := I1.list hq
    refine wpAny_pyIter_list p.isList ?_
    refine ⟨s1.heap.objs.size, [s1.heap.objs.size], _, _, H1, rfl, I1.kept (t' := s1.toks) fun b o e => Heap.get?_push_of_some _ e, turn_list a _, ⟨_, Heap.get?_push_size _ rfl, rfl, rfl⟩, fun b hb => ?_, q⟩
    have e : b = s1.heap.objs.size := by simpa using hb
    subst e
    exact I1.fpOk (Nat.le_refl _) (I1.hok.fresh (Nat.le_refl _))
  · subst e
    cases r1
    obtain ⟨its, rv, p, hz⟩ := I1.tuple hq
    refine wpAny_pyIter_tuple (show s1.heap.IsTuple a its.toArray from p) ?_
    refine ⟨s1.heap.objs.size, [s1.heap.objs.size], _, _, H1, rfl, I1.kept (t' := s1.toks) fun b o e => Heap.get?_push_of_some _ e, turn_tuple a _, ⟨_, Heap.get?_push_size _ rfl, rfl, rfl⟩, fun b hb => ?_, q⟩
    have e : b = s1.heap.objs.size := by simpa using hb
    subst e
    exact I1.fpOk (Nat.le_refl _) (I1.hok.fresh (Nat.le_refl _))
  · subst e
    obtain ⟨t, rfl⟩ := r1
    cases ha : z.cps.all (· < 128)
    · exact wpAny_pyIter_wide ha (pi_one (tk := s1.toks) I1 _ (turn_str _ z t "str_iterator" (.inr rfl)) ⟨_, Heap.get?_push_size _ rfl, rfl, rfl⟩ q)
    · exact wpAny_pyIter_ascii ha (pi_one (tk := s1.toks) I1 _ (turn_str _ z t "str_ascii_iterator" (.inl rfl)) ⟨_, Heap.get?_push_size _ rfl, rfl, rfl⟩ q)
def itD : D → Option (List D)
  | .lst ds => some ds
  | .tup ds => some ds
  | .str z => some (z.cps.toList.map fun c => .str ⟨#[c]⟩)
  | _ => none
def mIt (m : Pd) : Pi := fun ρ Q => m ρ fun d ρ1 => ∃ ds, itD d = some ds ∧ Q ds ρ1
theorem it_list {K : PySem.W.Frag} {W : Wd} {a : Addr} {xs : List V} {ds : List D} (e : W.H a = some (.lst xs)) (n : ¬ W.M a) (r : RpL K W xs ds) : ItOk K W (Itl K a) ds := fun W2 m i => by
  have sq : SqL K W2.H a xs := .inl (.inl (m.keep _ _ n e))
  refine ⟨fun h => ⟨xs, sq, by rw [r.length]; exact h⟩, fun d hd => ?_⟩
  obtain ⟨v, hv, hr⟩ := r.getD hd
  refine ⟨⟨xs, v, sq, hv⟩, fun x H' ⟨e1, e2⟩ => ⟨W2, e1.symm, Go.refl fun _ z => z.elim, ?_⟩⟩
  have := e2 xs sq
  rw [hv] at this
  cases this
  exact hr.up m
theorem it_tup {K : PySem.W.Frag} {W : Wd} {a : Addr} {xs : List V} {ds : List D} (e : SqT K W.H a xs) (r : RpL K W xs ds) : ItOk K W (Itt K a) ds := fun W2 m i => by
  have sq : SqT K W2.H a xs := m.seqT e
  refine ⟨fun h => ⟨xs, sq, by rw [r.length]; exact h⟩, fun d hd => ?_⟩
  obtain ⟨v, hv, hr⟩ := r.getD hd
  refine ⟨⟨xs, v, sq, hv⟩, fun x H' ⟨e1, e2⟩ => ⟨W2, e1.symm, Go.refl fun _ z => z.elim, ?_⟩⟩
  have := e2 xs sq
  rw [hv] at this
  cases this
  exact hr.up m
theorem it_str {K : PySem.W.Frag} {W : Wd} {z : Str} : ItOk K W (Its z) (z.cps.toList.map fun c => .str ⟨#[c]⟩) := fun W2 m i => by
  refine ⟨fun h => by rw [List.length_map, Array.length_toList] at h; exact h, fun d hd => ?_⟩
  rw [List.getElem?_map] at hd
  obtain ⟨c, hc, rfl⟩ := Option.map_eq_some_iff.mp hd
  have hc2 : z.cps[i]? = some c := by simpa using hc
  refine ⟨(Array.getElem?_eq_some_iff.mp hc2).1, fun x H' ⟨e1, c', e2, e3⟩ => ⟨W2, e1.symm, Go.refl fun _ z => z.elim, ?_⟩⟩
  rw [hc2] at e2
  cases e2
  rw [e3]
  exact .str
theorem qIt {tg : Expr} {m : Pd} (hK : X.K = S.K) (he : PE X e (lD S m)) : PI X tg e (lI S (mIt m)) := (pi_dyn he).weak fun σ H R ⟨ρ, F, W, Q', e, s, q, k⟩ => by
  subst e
  rw [hK]
  refine ⟨ρ, F, W, _, rfl, s, q, fun v d ρ1 F1 W1 a1 s1 r1 ⟨ds, hd, q1⟩ => ?_⟩
  cases d <;> first | (cases hd; done) | skip
  · cases hd
    cases r1
    exact .inr (.inr ⟨_, rfl, k _ _ ρ1 F1 W1 a1 s1 it_str q1⟩)
  · cases hd
    cases r1 with
    | lst e n r => exact .inl ⟨_, rfl, ⟨_, .inl (.inl e)⟩, k _ _ ρ1 F1 W1 a1 s1 (it_list e n r) q1⟩
  · cases hd
    cases r1 with
    | tup e r => exact .inr (.inl ⟨_, rfl, ⟨_, e.sq⟩, k _ _ ρ1 F1 W1 a1 s1 (it_tup e.sq r) q1⟩)
/-- lo, lo + 1, .. -/
def rngD (lo : Int) (n : Nat) : List D := (List.range n).map fun (i : Nat) => .int (lo + i)
theorem it_rng {K : PySem.W.Frag} {W : Wd} {lo : Int} {n : Nat} : ItOk K W (Itr lo n) (rngD lo n) := fun W2 m i => by
  unfold rngD
  refine ⟨fun h => by rw [List.length_map, List.length_range] at h; exact h, fun d hd => ?_⟩
  rw [List.getElem?_map] at hd
  obtain ⟨c, hc, rfl⟩ := Option.map_eq_some_iff.mp hd
  obtain ⟨h1, h2⟩ := List.getElem?_eq_some_iff.mp hc
  rw [List.length_range] at h1
  rw [List.getElem_range] at h2
  subst h2
  refine ⟨h1, fun x H' ⟨e1, e2⟩ => ⟨W2, e1.symm, Go.refl fun _ z => z.elim, ?_⟩⟩
  rw [e2]
  exact .int
def mRng1 (ms : Pa) : Pi := fun ρ Q => ms ρ fun ds ρ1 => ∃ j : Int, ds = [.int j] ∧ -(2 ^ 62) ≤ j ∧ j < 2 ^ 62 ∧ Q (rngD 0 j.toNat) ρ1
def mRng2 (ms : Pa) : Pi := fun ρ Q => ms ρ fun ds ρ1 => ∃ i j : Int, ds = [.int i, .int j] ∧ (-(2 ^ 62) ≤ i ∧ i < 2 ^ 62 ∧ -(2 ^ 62) ≤ j ∧ j < 2 ^ 62) ∧ Q (rngD i (j - i).toNat) ρ1
theorem qRng1 {a tg : Expr} {ms : Pa} {p : Pos} (hg : Gl X "range") (hm : X.mg "range" = none) (ha : PA X [a] (lA S ms)) (hs : starEach [a] X.env = [(false, eval a X.env)] := by rfl) : PI X tg (.Call (.Name "range" p) [a] [] pos) (lI S (mRng1 ms)) := (pi_range1 hg hm ha hs).weak fun σ H R ⟨ρ, F, W, Q', e, s, q, k⟩ => by
  subst e
  refine ⟨ρ, F, W, _, rfl, s, q, fun vs ds ρ1 F1 W1 a1 s1 r1 ⟨j, e, h1, h2, q1⟩ => ?_⟩
  subst e
  cases r1 with
  | cons r rr =>
    cases r
    cases rr
    exact ⟨j, rfl, h1, h2, k _ _ ρ1 F1 W1 a1 s1 it_rng q1⟩
theorem qRng2 {a b tg : Expr} {ms : Pa} {p : Pos} (hg : Gl X "range") (hm : X.mg "range" = none) (ha : PA X [a, b] (lA S ms)) (hs : starEach [a, b] X.env = [(false, eval a X.env), (false, eval b X.env)] := by rfl) (hs2 : starEach [b] X.env = [(false, eval b X.env)] := by rfl) :
    PI X tg (.Call (.Name "range" p) [a, b] [] pos) (lI S (mRng2 ms)) := (pi_range2 hg hm ha hs hs2).weak fun σ H R ⟨ρ, F, W, Q', e, s, q, k⟩ => by
  subst e
  refine ⟨ρ, F, W, _, rfl, s, q, fun vs ds ρ1 F1 W1 a1 s1 r1 ⟨i, j, e, h, q1⟩ => ?_⟩
  subst e
  cases r1 with
  | cons r rr =>
    cases r
    cases rr with
    | cons r rr =>
      cases r
      cases rr
      exact ⟨i, j, rfl, h, k _ _ ρ1 F1 W1 a1 s1 it_rng q1⟩
/-! ### for -/
def forD (b : Bnd) (body : Ps) (E : PEnds) : List D → Rho → Prop
  | [], ρ => E.nx ρ
  | d :: ds, ρ => b d ρ fun ρ1 => body { nx := forD b body E ds, ct := forD b body E ds, bk := E.nx, rt := E.rt } ρ1
def mFor (mi : Pi) (b : Bnd) (body : Ps) : Ps := fun E ρ => mi ρ fun ds ρ1 => forD b body E ds ρ1
theorem qFor {tg iter : Expr} {body : List Stmt} {mi : Pi} {g : TG} {b : Bnd} {m : Ps} (hp : PassesOwn (model X.prog X.w) X.A X.env X.xe) (hc : X.calm = true) (hi : PI X tg iter (lI S mi)) (hg : PG X tg g) (ho : GOk S g b) (hb : PSs X body (lS S m)) (hs : ∀ x, foldedSetIterable iter X.env x = pure x := by intro _; rfl) :
    PS X (.For tg iter body [] pos) (lS S (mFor mi b m)) := (ps_for hp hc hi hg hb hs).weak fun D0 σ H ⟨ρ, F, W, E', e, s, q, c⟩ => by
  subst e
  refine ⟨ρ, F, W, _, rfl, s, q, fun J ds ρ1 F1 W1 a1 s1 it q1 => ?_⟩
  refine ⟨fun i n σ2 H2 => n = ds.length - i ∧ i ≤ ds.length ∧ ∃ ρ2 F2 W2, W2.H = H2 ∧ StpS S F1 W1 F2 W2 ∧ Sn S W2 σ2 ρ2 F2 ∧ forD b m E' (ds.drop i) ρ2, ⟨ds.length, by simp, Nat.zero_le _, ρ1, F1, W1, rfl, s1.stpS, s1, q1⟩, ?_⟩
  rintro i n σ2 _ ⟨rfl, hi, ρ2, F2, W2, rfl, a2, s2, q2⟩
  have a12 := a1.toStpM.s.trans a2
  by_cases hlt : i < ds.length
  · have ed := List.getElem?_eq_getElem hlt
    obtain ⟨g1, g2⟩ := (it W2 a2.go.ext i).2 _ ed
    refine .inr ⟨g1, fun σ3 H3 => ∃ ρ3 F3 W3, W3.H = H3 ∧ StpS S F1 W1 F3 W3 ∧ Sn S W3 σ3 ρ3 F3 ∧ forD b m E' (ds.drop (i + 1)) ρ3, fun σ' H' ⟨ρ3, F3, W3, h⟩ => ⟨ds.length - (i + 1), by omega, rfl, hlt, ρ3, F3, W3, h⟩, fun x H' y => ?_⟩
    obtain ⟨W3, e3, g3, r3⟩ := g2 x H' y
    subst e3
    rw [List.drop_eq_getElem_cons hlt] at q2
    obtain ⟨a3, s3⟩ := s2.nw g3
    refine ho x _ σ2 ρ2 F2 W3 _ _ s3 r3 q2 fun σ4 ρ4 F4 s4 hF q4 => ?_
    have a4 : StpS S F2 W2 F4 W3 := ⟨a3.go, fun j a h => .inl ⟨j, hF j a h⟩⟩
    have a14 := a2.trans a4
    exact ⟨ρ4, F4, W3, _, rfl, s4, q4, ⟨fun σ5 ρ5 F5 W5 a5 s5 q5 => ⟨ρ5, F5, W5, rfl, a14.trans a5, s5, q5⟩, fun σ5 ρ5 F5 W5 a5 s5 q5 => c.nx σ5 ρ5 F5 W5 ((a12.trans a4).trans a5) s5 q5,
      fun σ5 ρ5 F5 W5 a5 s5 q5 => ⟨ρ5, F5, W5, rfl, a14.trans a5, s5, q5⟩, c.rt⟩⟩
  · have e : i = ds.length := by omega
    subst e
    rw [List.drop_length] at q2
    exact .inl ⟨(it W2 a2.go.ext _).1 (Nat.le_refl _), c.nx σ2 ρ2 F2 W2 a12 s2 q2⟩
/-! ### while -/
def mWhile (t : Pt) (body : Ps) : Ps := fun E ρ => ∃ I : Nat → Rho → Prop, (∃ n, I n ρ) ∧ ∀ n ρ, I n ρ → t ρ fun b ρ1 => if b = true then body { nx := fun ρ2 => ∃ k, k < n ∧ I k ρ2, ct := fun ρ2 => ∃ k, k < n ∧ I k ρ2, bk := E.nx, rt := E.rt } ρ1 else E.nx ρ1
theorem qWhile {c : Expr} {body : List Stmt} {t : Pt} {m : Ps} (hp : PassesOwn (model X.prog X.w) X.A X.env X.xe) (hc : PT X c (lT S t)) (hb : PSs X body (lS S m)) : PS X (.While c body [] pos) (lS S (mWhile t m)) := (ps_while hp hc hb).weak fun D0 σ H ⟨ρ, F, W, E', e, s, ⟨I, ⟨n0, i0⟩, turn⟩, c⟩ => by
  subst e
  refine ⟨fun n σ2 H2 => ∃ ρ2 F2 W2, W2.H = H2 ∧ StpS S F W F2 W2 ∧ Sn S W2 σ2 ρ2 F2 ∧ I n ρ2, ⟨n0, ρ, F, W, rfl, s.stpS, s, i0⟩, ?_⟩
  rintro n σ2 _ ⟨ρ2, F2, W2, rfl, a2, s2, i2⟩
  refine ⟨ρ2, F2, W2, _, rfl, s2, turn n ρ2 i2, fun b ρ3 F3 W3 a3 s3 q3 => ?_⟩
  have a23 := a2.trans a3.toStpM.s
  cases b with
  | true =>
    refine ⟨fun σ4 H4 => ∃ k, k < n ∧ ∃ ρ4 F4 W4, W4.H = H4 ∧ StpS S F W F4 W4 ∧ Sn S W4 σ4 ρ4 F4 ∧ I k ρ4, fun σ' H' ⟨k, hk, h⟩ => ⟨k, hk, h⟩, ρ3, F3, W3, _, rfl, s3, q3, ⟨fun σ5 ρ5 F5 W5 a5 s5 ⟨k, hk, q5⟩ => ⟨k, hk, ρ5, F5, W5, rfl, a23.trans a5, s5, q5⟩,
      fun σ5 ρ5 F5 W5 a5 s5 q5 => c.nx σ5 ρ5 F5 W5 (a23.trans a5) s5 q5, fun σ5 ρ5 F5 W5 a5 s5 ⟨k, hk, q5⟩ => ⟨k, hk, ρ5, F5, W5, rfl, a23.trans a5, s5, q5⟩, c.rt⟩⟩
  | false => exact c.nx _ _ F3 W3 a23 s3 q3
end
end U

/-! PuF: comprehensions; lists of one's own that are changed -/
namespace U
open PySem PySem.Spec PyProof.Rows L2 Q
/-! ### comprehensions -/
def lcD (b : Bnd) (tt : Pt) (te : Pd) (ρ0 : Rho) (Q : List D → Prop) : List D → List D → Prop
  | [], acc => Q acc
  | d :: ds, acc => b d ρ0 fun ρ1 => tt ρ1 fun c ρ2 => ρ2 = ρ1 ∧ if c = true then te ρ1 fun e ρ3 => ρ3 = ρ1 ∧ acc.length < sizeLine ∧ lcD b tt te ρ0 Q ds (acc ++ [e]) else lcD b tt te ρ0 Q ds acc
def mLc (mi : Pi) (b : Bnd) (tt : Pt) (te : Pd) (vs : List Nat) : Pv := fun ρ Q => mi ρ fun ds ρ1 => lcD b tt te (wipeR ρ1 vs) (fun acc => Q (.own acc) (wipeR ρ1 vs)) ds []
def mYes : Pt := fun ρ Q => Q true ρ
/-- lists of lists of one's own -/
def lcD2 (b : Bnd) (te : Pv) (ρ0 : Rho) (Q : List (List D) → Prop) : List D → List (List D) → Prop
  | [], acc => Q acc
  | d :: ds, acc => b d ρ0 fun ρ1 => te ρ1 fun r ρ3 => ∃ es, r = .own es ∧ ρ3 = ρ1 ∧ acc.length < sizeLine ∧ lcD2 b te ρ0 Q ds (acc ++ [es])
def mLc2 (mi : Pi) (b : Bnd) (te : Pv) (vs : List Nat) : Pv := fun ρ Q => mi ρ fun ds ρ1 => lcD2 b te (wipeR ρ1 vs) (fun acc => Q (.ow2 acc) (wipeR ρ1 vs)) ds []
/-- targets that write nothing but the slots vs -/
structure GOkW (S : Sx) (g : TG) (b : Bnd) (vs : List Nat) : Prop where
  run : ∀ v d σ ρ F W (R : L2.St → Hp → Prop) (R' : Rho → Prop), Sn S W σ ρ F → Rp S.K W v d → b d ρ R' → (∀ σ' ρ' F', Sn S W σ' ρ' F' → (∀ i a, a ∈ F' i → a ∈ F i) → wipe σ' vs = wipe σ vs → wipeR ρ' vs = wipeR ρ vs → R' ρ' → R σ' W.H) → g v σ W.H R
theorem set_wipe {σ : L2.St} {j : Nat} {x : Option V} : ∀ {vs : List Nat}, j ∈ vs → wipe (σ.set j x) vs = wipe σ vs
  | v :: vs, h => by
    unfold wipe
    by_cases q : j ∈ vs
    · rw [set_wipe q]
    · have e : j = v := (List.mem_cons.mp h).resolve_right q
      subst e
      have key : ∀ (l : List Nat) (σ : L2.St), j ∉ l → wipe (σ.set j x) l = (wipe σ l).set j x := by
        intro l
        induction l with
        | nil => intro σ _; rfl
        | cons a l ih =>
          intro σ hn
          unfold wipe
          rw [ih σ fun z => hn (List.mem_cons_of_mem _ z), List.set_comm _ _ (fun z => hn (by rw [z]; exact List.mem_cons_self))]
      rw [key vs σ q, List.set_set]
theorem set_wipeR {σ : Rho} {j : Nat} {x : Option SV} : ∀ {vs : List Nat}, j ∈ vs → wipeR (σ.set j x) vs = wipeR σ vs
  | v :: vs, h => by
    unfold wipeR
    by_cases q : j ∈ vs
    · rw [set_wipeR q]
    · have e : j = v := (List.mem_cons.mp h).resolve_right q
      subst e
      have key : ∀ (l : List Nat) (σ : Rho), j ∉ l → wipeR (σ.set j x) l = (wipeR σ l).set j x := by
        intro l
        induction l with
        | nil => intro σ _; rfl
        | cons a l ih =>
          intro σ hn
          unfold wipeR
          rw [ih σ fun z => hn (List.mem_cons_of_mem _ z), List.set_comm _ _ (fun z => hn (by rw [z]; exact List.mem_cons_self))]
      rw [key vs σ q, List.set_set]
section
variable {X : Cx} {S : Sx} {e : Expr} {pos : Pos}
theorem gNameW {j : Nat} {vs : List Nat} (hj : j ∈ vs := by decide) (hS : (S.sl == j) = false := by rfl) : GOkW S (gName j) (bName j) vs := ⟨fun v d σ ρ F W R R' s r q k => by
  refine k _ _ (F0 F j []) (s.set (.dat r) (fun _ z => nomatch z) hS) (fun i a ha => ?_) (set_wipe hj) (set_wipeR hj) q
  by_cases e : i = j
  · subst e; rw [F0_at] at ha; cases ha
  · rw [F0_ne e] at ha; exact ha⟩
structure GsOkW (S : Sx) (g : TGs) (b : Bnds) (vs : List Nat) : Prop where
  run : ∀ us ds σ ρ F W (R : L2.St → Hp → Prop) (R' : Rho → Prop), Sn S W σ ρ F → RpL S.K W us ds → b ds ρ R' → (∀ σ' ρ' F', Sn S W σ' ρ' F' → (∀ i a, a ∈ F' i → a ∈ F i) → wipe σ' vs = wipe σ vs → wipeR ρ' vs = wipeR ρ vs → R' ρ' → R σ' W.H) → g us σ W.H R
theorem gNilW {vs : List Nat} : GsOkW S gNil bNil vs := ⟨fun us ds σ ρ F W R R' s r ⟨e, q⟩ k => by
  subst e
  cases r
  exact ⟨rfl, k _ _ F s (fun _ _ h => h) rfl rfl q⟩⟩
theorem gConsW {vs : List Nat} {t : TG} {u : TGs} {b : Bnd} {bs : Bnds} (h1 : GOkW S t b vs) (h2 : GsOkW S u bs vs) : GsOkW S (gCons t u) (bCons b bs) vs := ⟨fun us ds σ ρ F W R R' s r ⟨d, ds', e, q⟩ k => by
  subst e
  cases r with
  | cons r rr =>
    refine ⟨_, _, rfl, h1.run _ d σ ρ F W _ _ s r q fun σ1 ρ1 F1 s1 hF e1 e2 q1 => ?_⟩
    exact h2.run _ ds' σ1 ρ1 F1 W _ _ s1 rr q1 fun σ2 ρ2 F2 s2 hF2 e3 e4 q2 => k σ2 ρ2 F2 s2 (fun i a h => hF i a (hF2 i a h)) (e3.trans e1) (e4.trans e2) q2⟩
theorem gTupW {vs : List Nat} {n : Nat} {t : TGs} {bs : Bnds} (h : GsOkW S t bs vs) : GOkW S (gTup S.K n t) (bTup n bs) vs := ⟨fun v d σ ρ F W R R' s r ⟨ds, e, hl, q⟩ k => by
  subst e
  cases r with
  | tup e r => exact ⟨_, _, rfl, e.sq, by rw [r.length]; exact hl, h.run _ ds σ ρ F W _ _ s r q k⟩⟩
theorem Own.up {W W' : Wd} {Y : Addr → Prop} {p : Addr} {xs : List V} (h : Own W p xs) (g : Go Y W W') (n : ¬ Y p) : Own W' p xs := ⟨g.keep _ _ n h.1, g.stay _ n h.2⟩
def Wd.set (W : Wd) (p : Addr) (xs : List V) : Wd := ⟨upd W.H p (.lst xs), W.M, fun a ha => by
  by_cases e : a = p
  · rw [e]; exact ⟨_, upd_same, True.intro⟩
  · obtain ⟨u, q, mu⟩ := W.ok a ha
    exact ⟨u, by rw [upd_ne e]; exact q, mu⟩⟩
theorem Wd.set_go {W : Wd} {p : Addr} {xs : List V} (h : W.M p) : Go (fun a => a = p) W (W.set p xs) :=
  ⟨fun a u n e => by show upd W.H p _ a = _; rw [upd_ne n]; exact e, fun a u n e => by
    have z : a ≠ p := fun q => not_mut n e (q ▸ h)
    show upd W.H p _ a = _
    rw [upd_ne z]; exact e, fun _ z => .inl z, fun _ _ z => z, fun a z => z ▸ h, fun a n => by
    show upd W.H p _ a ≠ none
    by_cases q : a = p
    · rw [q, upd_same]; intro z; cases z
    · rw [upd_ne q]; exact n⟩
/-- something that is nobody's was changed -/
theorem Sn.other {W W1 : Wd} {σ : L2.St} {ρ : Rho} {F : Fp} {Y : Addr → Prop} (s : Sn S W σ ρ F) (g : Go Y W W1) (n : ∀ a, Y a → ¬ Mine S F a) (hm : ∀ a, Y a → S.W0.H a = none) (hb : ∀ Wb Fb, S.tb = some (Wb, Fb) → ∀ a, Y a → Wb.H a = none) : Sn S W1 σ ρ F := by
  have nf : ∀ i a, a ∈ F i → ¬ Y a := fun i a h hy => n a hy (.inr ⟨i, h⟩)
  refine ⟨s.len, s.go.trans g fun a h => .inr (hm a h), fun a c e => ?_, fun i r e => ?_, fun i a h => ⟨g.stay a (nf i a h) (s.new i a h).1, (s.new i a h).2⟩, s.dj, s.me, fun Wb Fb e => ⟨(s.tb Wb Fb e).go.trans g fun a h => .inr (hb Wb Fb e a h), (s.tb Wb Fb e).sub⟩⟩
  · obtain ⟨e1, e2, e3⟩ := s.sto a c e
    exact ⟨e1, e2.up g fun hy => n a hy (.inl ⟨c, e⟩), e3⟩
  · obtain ⟨v, e1, e2⟩ := s.sv i r e
    exact ⟨v, e1, e2.up g (nf i)⟩
theorem lLc {mi : Pi} {g : TG} {b : Bnd} {tt : Pt} {te : Pd} {vs : List Nat} {wi : TI} {t1 : TT} {t2 : TE} (hi : ∀ σ H R, lI S mi σ H R → wi σ H R) (hg : GOkW S g b vs) (ht : ∀ σ H R, lT S tt σ H R → t1 σ H R) (he : ∀ σ H R, lD S te σ H R → t2 σ H R)
    (hv : ∀ v ∈ vs, (S.sl == v) = false) (σ : L2.St) (H : Hp) (Q : VK) (h : lV S (mLc mi b tt te vs) σ H Q) : tLc wi g t1 t2 vs σ H Q := by
  obtain ⟨ρ, F, W, Q', e, s, q, k⟩ := h
  subst e
  refine hi _ _ _ ⟨ρ, F, W, _, rfl, s, q, fun J ds ρ1 F1 W1 a1 s1 it q1 p hp => ?_⟩
  obtain ⟨F1w, s1w, hF1⟩ := s1.wipe hv
  have ap : Stp S F1 W1 F1w (W1.ownO p (.lst []) True.intro hp) := by
    obtain ⟨a, _⟩ := s1.nw (Wd.ownO_go (mu := True.intro) (o := .lst []) hp)
    exact ⟨⟨a.go, fun i x hx => ⟨i, hF1 i x hx⟩⟩, a.same⟩
  obtain ⟨_, sp⟩ := s1w.nw (Wd.ownO_go (mu := True.intro) (o := .lst []) hp)
  have pn1 : ∀ {F : Fp}, (∀ i a, a ∈ F i → a ∈ F1w i ∨ True) → True := fun _ => trivial
  have p0 : S.W0.H p = none := s1.go.free hp
  have pm1 : ¬ Mine S F1 p := fun m => Wd.ne (s1.inM m) hp
  refine ⟨fun i n H2 => n = ds.length - i ∧ i ≤ ds.length ∧ ∃ F2 W2 xs acc, W2.H = H2 ∧ Stp S F1 W1 F2 W2 ∧ Sn S W2 (wipe σ vs) (wipeR ρ1 vs) F2 ∧ Own W2 p xs ∧ RpL S.K W2 xs acc ∧ lcD b tt te (wipeR ρ1 vs) (fun acc => Q' (.own acc) (wipeR ρ1 vs)) (ds.drop i) acc,
    ⟨ds.length, by simp, Nat.zero_le _, F1w, W1.ownO p (.lst []) True.intro hp, [], [], rfl, ap, sp, ⟨upd_same, .inr rfl⟩, .nil, q1⟩, ?_⟩
  rintro i n _ ⟨rfl, hi, F2, W2, xs, acc, rfl, a2, s2, o2, r2, q2⟩
  have pm2 : ¬ Mine S F2 p := fun m => pm1 (a2.mine m)
  by_cases hlt : i < ds.length
  · have ed := List.getElem?_eq_getElem hlt
    obtain ⟨g1, g2⟩ := (it W2 a2.go.ext i).2 _ ed
    refine .inr ⟨g1, fun H3 => ∃ F3 W3 xs acc, W3.H = H3 ∧ Stp S F1 W1 F3 W3 ∧ Sn S W3 (wipe σ vs) (wipeR ρ1 vs) F3 ∧ Own W3 p xs ∧ RpL S.K W3 xs acc ∧ lcD b tt te (wipeR ρ1 vs) (fun acc => Q' (.own acc) (wipeR ρ1 vs)) (ds.drop (i + 1)) acc,
      fun H' ⟨F3, W3, xs, acc, h⟩ => ⟨ds.length - (i + 1), by omega, rfl, hlt, F3, W3, xs, acc, h⟩, fun x H' y => ?_⟩
    obtain ⟨W3, e3, g3, r3⟩ := g2 x H' y
    subst e3
    rw [List.drop_eq_getElem_cons hlt] at q2
    obtain ⟨a3, s3⟩ := s2.nw g3
    have a13 := a2.trans s1 s2 a3
    have o3 := o2.up g3 fun z => z
    have rr3 := r2.up g3.ext
    refine hg.run x _ (wipe σ vs) (wipeR ρ1 vs) F2 W3 _ _ s3 r3 q2 fun σ4 ρ4 F4 s4 hF ew ewR q4 => ⟨by
      rw [ew]
      have key : ∀ (l : List Nat) (σ : L2.St), wipe (wipe σ vs) l = wipe σ vs ∨ ¬ ∀ x ∈ l, x ∈ vs := by
        intro l
        induction l with
        | nil => intro σ; exact .inl rfl
        | cons a l ih =>
          intro σ
          by_cases hx : ∀ x ∈ a :: l, x ∈ vs
          · refine .inl ?_
            rcases ih σ with h | h
            · show (wipe (wipe σ vs) l).set a none = _
              rw [h]
              refine List.ext_getElem? fun j => ?_
              by_cases q : a = j
              · subst q
                by_cases hl : a < (wipe σ vs).length
                · rw [List.getElem?_set_self hl]
                  cases z : (wipe σ vs)[a]? with
                  | none => exact absurd (List.getElem?_eq_none_iff.mp z) (by omega)
                  | some o =>
                    cases o with
                    | none => rfl
                    | some v => exact absurd (hx a List.mem_cons_self) (wipe_some z).2
                · rw [List.getElem?_eq_none (by rw [List.length_set]; omega), List.getElem?_eq_none (by omega)]
              · rw [List.getElem?_set_ne q]
            · exact absurd (fun x hx2 => hx x (List.mem_cons_of_mem _ hx2)) h
          · exact .inr hx
      exact (key vs σ).elim id fun h => absurd (fun _ h => h) h, ?_⟩
    have a14 : Stp S F1 W1 F4 W3 := ⟨⟨a13.go, fun i a h => a13.sub i a (hF i a h)⟩, a13.same⟩
    have wR : wipeR ρ4 vs = wipeR ρ1 vs := by
      rw [ewR]
      have key : ∀ (l : List Nat), (∀ x ∈ l, x ∈ vs) → wipeR (wipeR ρ1 vs) l = wipeR ρ1 vs := by
        intro l
        induction l with
        | nil => intro _; rfl
        | cons a l ih =>
          intro hx
          show (wipeR (wipeR ρ1 vs) l).set a none = _
          rw [ih fun x h => hx x (List.mem_cons_of_mem _ h)]
          refine List.ext_getElem? fun j => ?_
          by_cases q : a = j
          · subst q
            by_cases hl : a < (wipeR ρ1 vs).length
            · rw [List.getElem?_set_self hl]
              cases z : (wipeR ρ1 vs)[a]? with
              | none => exact absurd (List.getElem?_eq_none_iff.mp z) (by omega)
              | some o =>
                cases o with
                | none => rfl
                | some v => exact absurd (hx a List.mem_cons_self) (wipeR_some z).2
            · rw [List.getElem?_eq_none (by rw [List.length_set]; omega), List.getElem?_eq_none (by omega)]
          · rw [List.getElem?_set_ne q]
      exact key vs fun _ h => h
    have wS : wipe σ4 vs = wipe σ vs := by
      rw [ew]
      refine List.ext_getElem? fun j => ?_
      by_cases hj : j ∈ vs
      · have h1 : ∀ (τ : L2.St), ((wipe τ vs)[j]? = none ∧ τ.length ≤ j) ∨ (wipe τ vs)[j]? = some none := fun τ => by
          cases z : (wipe τ vs)[j]? with
          | none => refine .inl ⟨rfl, ?_⟩; have := List.getElem?_eq_none_iff.mp z; rwa [wipe_length] at this
          | some o =>
            cases o with
            | none => exact .inr rfl
            | some v => exact absurd hj (wipe_some z).2
        rcases h1 (wipe σ vs) with ⟨h, l⟩ | h <;> rcases h1 σ with ⟨h', l'⟩ | h'
        · rw [h, h']
        · rw [wipe_length] at l
          have := (List.getElem?_eq_some_iff.mp h').1
          rw [wipe_length] at this
          omega
        · have := (List.getElem?_eq_some_iff.mp h).1
          rw [wipe_length, wipe_length] at this
          omega
        · rw [h, h']
      · rw [wipe_out hj]
    have pm4 : ¬ Mine S F4 p := fun m => pm1 (a14.mine m)
    have back : ∀ {F5 : Fp} {W5 : Wd}, Stp S F4 W3 F5 W5 → Sn S W5 σ4 ρ4 F5 → ∃ F6, Stp S F1 W1 F6 W5 ∧ Sn S W5 (wipe σ vs) (wipeR ρ1 vs) F6 := fun {F5 W5} a5 s5 => by
      obtain ⟨F6, s6, h6⟩ := s5.wipe hv
      rw [wS, wR] at s6
      have a15 : Stp S F1 W1 F5 W5 := a14.trans s1 s4 a5
      exact ⟨F6, ⟨⟨a15.go, fun i a h => a15.sub i a (h6 i a h)⟩, a15.same⟩, s6⟩
    refine ht _ _ _ ⟨ρ4, F4, W3, _, rfl, s4, q4, fun c ρ5 F5 W5 a5 s5 ⟨e5, q5⟩ => ?_⟩
    subst e5
    have o5 := o3.up a5.go pm4
    have rr5 := rr3.up a5.go.ext
    cases c with
    | false =>
      obtain ⟨F6, a6, s6⟩ := back a5 s5
      exact ⟨F6, W5, xs, acc, rfl, a6, s6, o5, rr5, q5⟩
    | true =>
      refine he _ _ _ ⟨_, F5, W5, _, rfl, s5, q5, fun w d ρ7 F7 W7 a7 s7 r7 ⟨e7, hz, q7⟩ => ?_⟩
      subst e7
      have a57 := a5.trans s4 s5 a7
      have o7 := o5.up a7.go fun m => pm4 (a5.mine m)
      have rr7 := rr5.up a7.go.ext
      obtain ⟨F8, a8, s8⟩ := back a57 s7
      refine ⟨xs, o7.1, by rw [rr7.length]; exact hz, ?_⟩
      have gs := Wd.set_go (W := W7) (p := p) (xs := xs ++ [w]) o7.2
      have pm8 : ∀ a, a = p → ¬ Mine S F8 a := fun a ea m => pm1 (by rw [← ea]; exact a8.mine m)
      refine ⟨F8, W7.set p (xs ++ [w]), xs ++ [w], acc ++ [d], rfl, ⟨⟨a8.go.trans gs fun a ea => .inr (by rw [ea]; exact hp), a8.sub⟩, fun i a ha => ?_⟩, s8.other gs pm8 (fun a ea => by rw [ea]; exact p0) (fun Wb Fb e a ea => by rw [ea]; exact (s1.tb Wb Fb e).go.free hp), ⟨upd_same, o7.2⟩, (rr7.up gs.ext).snoc (r7.up gs.ext), q7⟩
      have na : a ≠ p := fun z => pm1 (.inr ⟨i, z ▸ ha⟩)
      show upd W7.H p _ a = _
      rw [upd_ne na]
      exact a8.same i a ha
  · have e : i = ds.length := by omega
    subst e
    rw [List.drop_length] at q2
    refine .inl ⟨(it W2 a2.go.ext _).1 (Nat.le_refl _), ?_⟩
    exact k (.ref p) (.own acc) [p] (wipeR ρ1 vs) F2 W2 (a1.trans s s1 a2) (s2.unwipe hv) (.own o2 r2) (fun x hx => by rw [List.mem_singleton.mp hx]; exact a1.go.free hp) q2
end
end U

/-! PuG: comprehensions as rules; lists, objects, dicts of one's own that are changed; attributes -/
namespace U
open PySem PySem.Spec PyProof.Rows L2 Q
section
variable {X : Cx} {S : Sx} {e : Expr} {pos : Pos}
theorem _root_.L2.PTs.weak {es : List Expr} {t t' : TT} (h : PTs X es t) (w : ∀ σ H Q, t' σ H Q → t σ H Q) : PTs X es t' := ⟨fun pins s σ H Q I q => h.run pins s σ H Q I (w σ H Q q)⟩
theorem qYes : PTs X [] (lT S mYes) := pts_nil.weak fun σ H Q ⟨ρ, F, W, Q', e, s, q, k⟩ => by
  subst e
  exact k true ρ F W s.stp s q
theorem all_ne {l : List Nat} {i : Nat} (h : (l.all fun v => !(i == v)) = true) : ∀ v ∈ l, (i == v) = false := fun v hv => by
  have := List.all_eq_true.mp h v hv
  simpa using this
theorem qLc {elt tg iter : Expr} {ifs : List Expr} {scope : Scope} {own : List (Str × Nat)} {mi : Pi} {g : TG} {b : Bnd} {tt : Pt} {te : Pd} (hc : X.calm = true) (hN : X.N.Nodup) (hi : PI X tg iter (lI S mi)) (ok : BlkOk X.N X.env.scope scope own)
    (hg : ∀ (s : Shared) (H : Hp) (C : Addr) (cl : List (Str × Addr)) (fp : List Addr), PG (X.blk s H scope (compEnvC scope cl C X.env) fp) tg g) (ht : ∀ (s : Shared) (H : Hp) (C : Addr) (cl : List (Str × Addr)) (fp : List Addr), PTs (X.blk s H scope (compEnvC scope cl C X.env) fp) ifs (lT S tt))
    (he : ∀ (s : Shared) (H : Hp) (C : Addr) (cl : List (Str × Addr)) (fp : List Addr), PE (X.blk s H scope (compEnvC scope cl C X.env) fp) elt (lD S te)) (ho : GOkW S g b (own.map (·.2))) (hv : ((own.map (·.2)).all fun v => !(S.sl == v)) = true) (hs : ∀ x, foldedSetIterable iter X.env x = pure x := by intro _; rfl) :
    PE X (.ListComp elt [⟨tg, iter, ifs, 0⟩] scope pos) (lV S (mLc mi b tt te (own.map (·.2)))) := (pe_lc hc hN hi ok hg ht he hs).weak (lLc (fun _ _ _ h => h) ho (fun _ _ _ h => h) (fun _ _ _ h => h) (all_ne hv))
theorem qSetLc {i : Nat} {y : Str} {py : Pos} {elt tg iter : Expr} {ifs : List Expr} {scope : Scope} {own : List (Str × Nat)} {spos : Pos} {mi : Pi} {g : TG} {b : Bnd} {tt : Pt} {te : Pd} (hc : X.calm = true) (hN : X.N.Nodup) (hy : X.N[i]? = some y) (hyl : X.env.scope.names.lookup y = some .local)
    (hsw : swapsWith (.ListComp elt [⟨tg, iter, ifs, 0⟩] scope pos) (some (.Name y py)) spos.line X.env = pure true) (hi : PI X tg iter (lI S mi)) (ok : BlkOk X.N X.env.scope scope own)
    (hg : ∀ (s : Shared) (H : Hp) (C : Addr) (cl : List (Str × Addr)) (fp : List Addr), PG (X.blk s H scope (compEnvC scope cl C X.env) fp) tg g) (ht : ∀ (s : Shared) (H : Hp) (C : Addr) (cl : List (Str × Addr)) (fp : List Addr), PTs (X.blk s H scope (compEnvC scope cl C X.env) fp) ifs (lT S tt))
    (he : ∀ (s : Shared) (H : Hp) (C : Addr) (cl : List (Str × Addr)) (fp : List Addr), PE (X.blk s H scope (compEnvC scope cl C X.env) fp) elt (lD S te)) (ho : GOkW S g b (own.map (·.2))) (hv : ((own.map (·.2)).all fun v => !(S.sl == v)) = true) (hS : (S.sl == i) = false := by rfl) (hs : ∀ x, foldedSetIterable iter X.env x = pure x := by intro _; rfl) :
    PS X (.Assign [.Name y py] (.ListComp elt [⟨tg, iter, ifs, 0⟩] scope pos) spos) (lS S (mSet i (mLc mi b tt te (own.map (·.2))))) := (ps_setLc hc hN hy hyl hsw hi ok hg ht he hs).weak
  (lSet hS fun σ H Q ⟨ρ, F, W, Q', e, s, q, k⟩ => lLc (fun _ _ _ h => h) ho (fun _ _ _ h => h) (fun _ _ _ h => h) (all_ne hv) σ H Q ⟨ρ, F, W, Q', e, s, q, fun v r X ρ' F' W' a => k v r X ρ' F' W' a.toStpM⟩)
/-! ### a thing of one's own in a slot -/
theorem Sn.ownAt {W : Wd} {σ : L2.St} {ρ : Rho} {F : Fp} {i : Nat} {ds : List D} (s : Sn S W σ ρ F) (e : ρ[i]? = some (some (.own ds))) : ∃ p xs, σ[i]? = some (some (.ref p)) ∧ Own W p xs ∧ RpL S.K W xs ds ∧ F i = [p] := by
  obtain ⟨v, ev, hv⟩ := s.sv i _ e
  generalize hF : F i = Y at hv
  cases hv with
  | own o r => exact ⟨_, _, ev, o, r, rfl⟩
theorem Sn.change {W W' : Wd} {σ : L2.St} {ρ : Rho} {F : Fp} {i : Nat} {r0 r : SV} {p : Addr} (s : Sn S W σ ρ F) (e : ρ[i]? = some (some r0)) (ev : σ[i]? = some (some (.ref p))) (hF : F i = [p]) (g : Go (fun a => a = p) W W') (h : RpS S.K W' (.ref p) r [p]) : StpM S F W F W' ∧ Sn S W' σ (ρ.set i (some r)) F := by
  have hp : p ∈ F i := by rw [hF]; exact List.mem_cons_self
  have hl : i < ρ.length := (List.getElem?_eq_some_iff.mp e).1
  have nm : ∀ j a, a ∈ F j → j ≠ i → ¬ a = p := fun j a ha hj z => hj (s.dj j i p (z ▸ ha) hp)
  refine ⟨⟨g.mono (fun a ea => .inr ⟨i, by rw [ea]; exact hp⟩) fun a h => s.inM h, fun j a h => ⟨j, h⟩⟩, ⟨by rw [List.length_set]; exact s.len, s.go.trans g fun a ea => .inr (by rw [ea]; exact (s.new i p hp).2), fun a c ea => ?_, fun j r' er => ?_, fun j a ha => ⟨?_, (s.new j a ha).2⟩, s.dj, s.me, fun Wb Fb e => (s.tb Wb Fb e).trans ⟨g.mono (fun a ea => .inr ⟨i, by rw [ea]; exact hp⟩) fun a h => s.inM h, fun j a h => .inl ⟨j, h⟩⟩⟩⟩
  · obtain ⟨e1, e2, e3⟩ := s.sto a c ea
    exact ⟨e1, e2.up g fun z => e3 i (z ▸ hp), e3⟩
  · by_cases q : i = j
    · subst q
      rw [List.getElem?_set_self hl] at er
      cases er
      exact ⟨_, ev, by rw [hF]; exact h⟩
    · rw [List.getElem?_set_ne q] at er
      obtain ⟨v, e1, e2⟩ := s.sv j r' er
      exact ⟨v, e1, e2.up g fun a ha => nm j a ha (Ne.symm q)⟩
  · by_cases q : a = p
    · rw [q]; exact h.inM p List.mem_cons_self
    · exact g.stay a q (s.new j a ha).1
theorem Sn.setL {W : Wd} {σ : L2.St} {ρ : Rho} {F : Fp} {i : Nat} {ds es : List D} {p : Addr} {xs ys : List V} (s : Sn S W σ ρ F) (e : ρ[i]? = some (some (.own ds))) (ev : σ[i]? = some (some (.ref p))) (hF : F i = [p]) (o : Own W p xs) (r : RpL S.K W ys es) :
    StpM S F W F (W.set p ys) ∧ Sn S (W.set p ys) σ (ρ.set i (some (.own es))) F :=
  s.change e ev hF (Wd.set_go o.2) (.own ⟨upd_same, o.2⟩ (r.up (Wd.set_go o.2).ext))
def hasOwn (ρ : Rho) (i : Nat) : Prop := ∃ ds, ρ[i]? = some (some (.own ds))
theorem Sn.tyL {K : PySem.W.Frag} {W : Wd} {p : Addr} {xs : List V} (o : Own W p xs) : tyV K "list" (.ref p) W.H := .inl ⟨rfl, _, o.sq⟩
theorem k_bm0 {o : Expr} {to : TE} {name : Str} {apos cpos : Pos} {T id : String} {r : V → List V → Hp → VK → Prop} (K : PySem.W.Frag) (pa : PlainAttrs T) (slot : Slot T name id) (hty : typeOf (.builtin id) = pure (.type "method_descriptor")) (hm : MtR X id r) (ho : PE X o to) (hK : X.K = K := by rfl)
    (hbase : attributeBase o name X.env (eval o X.env) = eval o X.env := by rfl) (hline : (apos.endLine == cpos.line) = true := by rfl) : PE X (.Call (.Attribute o name apos) [] [] cpos) (tBM0 K T r to) := by
  rw [← hK]; exact pe_bm0 pa slot hty hm ho hbase hline
theorem k_bm {o e : Expr} {es : List Expr} {to : TE} {t : TA} {name : Str} {apos cpos : Pos} {T id : String} {r : V → List V → Hp → VK → Prop} (K : PySem.W.Frag) (pa : PlainAttrs T) (slot : Slot T name id) (hty : typeOf (.builtin id) = pure (.type "method_descriptor")) (hm : MtR X id r) (ho : PE X o to) (ha : PA X (e :: es) t) (hK : X.K = K := by rfl)
    (hbase : attributeBase o name X.env (eval o X.env) = eval o X.env := by rfl)
    (hfew : ((backTo cpos (starEach (e :: es) X.env)).all (fun x => !x.1) && (backToKw cpos (keywordEach [] X.env)).all (fun x => x.1.isSome)
      && decide ((e :: es).length + ([] : List Keyword).length + (if ([] : List Keyword).isEmpty then 0 else 1) < 30)) = true := by rfl)
    (hline : (apos.endLine == cpos.line) = true := by rfl) (hs : starEach (e :: es) X.env = (false, eval e X.env) :: starEach es X.env := by rfl) (hplain : (backTo cpos (starEach es X.env)).any (·.1) = false := by rfl) :
    PE X (.Call (.Attribute o name apos) (e :: es) [] cpos) (tBM K T r to t) := by
  rw [← hK]; exact pe_bm pa slot hty hm ho ha hbase hfew hline hs hplain
/-- x.append(e) -/
def mApp (i : Nat) (m : Pd) : Pv := fun ρ Q => hasOwn ρ i ∧ m ρ fun d ρ1 => ∃ ds, ρ1[i]? = some (some (.own ds)) ∧ ds.length < sizeLine ∧ Q (.dat .non) (ρ1.set i (some (.own (ds ++ [d]))))
theorem lApp {i : Nat} {m : Pd} (σ : L2.St) (H : Hp) (Q : VK) (h : lVm S (mApp i m) σ H Q) : tBM S.K "list" rAppend (tVar i) (tCons (lDm S m) tNil) σ H Q := by
  obtain ⟨ρ, F, W, Q', e, s, ⟨⟨d0, h0⟩, q⟩, k⟩ := h
  subst e
  obtain ⟨p, xs, ev, o, r, hF⟩ := s.ownAt h0
  refine ⟨.ref p, ev, Sn.tyL o, ρ, F, W, _, rfl, s, q, fun v d ρ1 F1 W1 a1 s1 r1 ⟨ds, e1, hz, q1⟩ => ?_⟩
  obtain ⟨p1, xs1, ev1, o1, rr1, hF1⟩ := s1.ownAt e1
  rw [ev] at ev1
  cases ev1
  obtain ⟨a2, s2⟩ := s1.setL e1 ev hF1 o1 (rr1.snoc r1)
  exact ⟨p, xs1, v, rfl, rfl, o1.1, by rw [rr1.length]; exact hz, k .non (.dat .non) [] _ F1 _ (a1.trans a2) s2 (.dat .non) (fun _ z => nomatch z) q1⟩
theorem qApp {o a : Expr} {apos cpos : Pos} {i : Nat} {m : Pd} (hK : X.K = S.K) (ho : PE X o (tVar i)) (ha : PE X a (lDm S m)) (hbase : attributeBase o "append" X.env (eval o X.env) = eval o X.env := by rfl)
    (hfew : ((backTo cpos (starEach [a] X.env)).all (fun x => !x.1) && (backToKw cpos (keywordEach [] X.env)).all (fun x => x.1.isSome)
      && decide ([a].length + ([] : List Keyword).length + (if ([] : List Keyword).isEmpty then 0 else 1) < 30)) = true := by rfl)
    (hline : (apos.endLine == cpos.line) = true := by rfl) (hs : starEach [a] X.env = (false, eval a X.env) :: starEach [] X.env := by rfl) :
    PE X (.Call (.Attribute o "append" apos) [a] [] cpos) (lVm S (mApp i m)) :=
  (k_bm S.K PySem.F.plainAttrs_list PySem.F.slot_list_append PySem.F.type_list_append mt_append ho (pa_cons ha pa_nil hs) hK hbase hfew hline hs rfl).weak lApp
/-- x.pop(i) -/
def mPopAt (i : Nat) (m : Pd) : Pd := fun ρ Q => hasOwn ρ i ∧ m ρ fun d ρ1 => ∃ ds j x, ρ1[i]? = some (some (.own ds)) ∧ d = .int j ∧ 0 ≤ j ∧ j < 2 ^ 62 ∧ ds[j.toNat]? = some x ∧ Q x (ρ1.set i (some (.own (ds.eraseIdx j.toNat))))
theorem qPopAt {o a : Expr} {apos cpos : Pos} {i : Nat} {m : Pd} (hK : X.K = S.K) (ho : PE X o (tVar i)) (ha : PE X a (lDm S m)) (hbase : attributeBase o "pop" X.env (eval o X.env) = eval o X.env := by rfl)
    (hfew : ((backTo cpos (starEach [a] X.env)).all (fun x => !x.1) && (backToKw cpos (keywordEach [] X.env)).all (fun x => x.1.isSome)
      && decide ([a].length + ([] : List Keyword).length + (if ([] : List Keyword).isEmpty then 0 else 1) < 30)) = true := by rfl)
    (hline : (apos.endLine == cpos.line) = true := by rfl) (hs : starEach [a] X.env = (false, eval a X.env) :: starEach [] X.env := by rfl) :
    PE X (.Call (.Attribute o "pop" apos) [a] [] cpos) (lDm S (mPopAt i m)) :=
  (k_bm S.K PySem.F.plainAttrs_list PySem.F.slot_list_pop PySem.F.type_list_pop mt_popAt ho (pa_cons ha pa_nil hs) hK hbase hfew hline hs rfl).weak fun σ H Q h => by
    obtain ⟨ρ, F, W, Q', e, s, ⟨⟨d0, h0⟩, q⟩, k⟩ := h
    subst e
    obtain ⟨p, xs, ev, o, r, hF⟩ := s.ownAt h0
    refine ⟨.ref p, ev, Sn.tyL o, ρ, F, W, _, rfl, s, q, fun v d ρ1 F1 W1 a1 s1 r1 ⟨ds, j, x, e1, ed, h1, h2, hx, q1⟩ => ?_⟩
    subst ed
    cases r1
    obtain ⟨p1, xs1, ev1, o1, rr1, hF1⟩ := s1.ownAt e1
    rw [ev] at ev1
    cases ev1
    obtain ⟨y, ey, ry⟩ := rr1.getD hx
    obtain ⟨a2, s2⟩ := s1.setL e1 ev hF1 o1 (rr1.erase j.toNat)
    have hl : j.toNat < xs1.length := (List.getElem?_eq_some_iff.mp ey).1
    refine ⟨p, xs1, j, j.toNat, y, rfl, rfl, o1.1, by omega, by omega, ?_, ey, k y x _ F1 _ (a1.trans a2) s2 (ry.up (Wd.set_go o1.2).ext) q1⟩
    unfold seqIndex?
    first
      | (simp only [show ¬ j < 0 by omega, if_false, show (0 ≤ j ∧ j < xs1.length) by omega, if_true]; done)
      | (simp; omega)
/-- x.pop() -/
def mPop (i : Nat) : Pd := fun ρ Q => ∃ ds x, ρ[i]? = some (some (.own ds)) ∧ ds[ds.length - 1]? = some x ∧ Q x (ρ.set i (some (.own ds.dropLast)))
theorem RpL.dropLast {K : PySem.W.Frag} {W : Wd} {vs : List V} {ds : List D} (r : RpL K W vs ds) : RpL K W vs.dropLast ds.dropLast := by
  rw [List.dropLast_eq_take, List.dropLast_eq_take, r.length]
  exact r.take _
theorem qPop {o : Expr} {apos cpos : Pos} {i : Nat} (hK : X.K = S.K) (ho : PE X o (tVar i)) (hbase : attributeBase o "pop" X.env (eval o X.env) = eval o X.env := by rfl) (hline : (apos.endLine == cpos.line) = true := by rfl) :
    PE X (.Call (.Attribute o "pop" apos) [] [] cpos) (lDm S (mPop i)) :=
  (k_bm0 S.K PySem.F.plainAttrs_list PySem.F.slot_list_pop PySem.F.type_list_pop mt_pop ho hK hbase hline).weak fun σ H Q h => by
    obtain ⟨ρ, F, W, Q', e, s, ⟨ds, x, h0, hx, q⟩, k⟩ := h
    subst e
    obtain ⟨p, xs, ev, o, r, hF⟩ := s.ownAt h0
    rw [← r.length] at hx
    obtain ⟨y, ey, ry⟩ := r.getD hx
    obtain ⟨a2, s2⟩ := s.setL h0 ev hF o r.dropLast
    exact ⟨.ref p, ev, Sn.tyL o, p, xs, y, rfl, rfl, o.1, ey, k y x _ F _ a2 s2 (ry.up (Wd.set_go o.2).ext) q⟩
/-- x.clear() -/
def mClear (i : Nat) : Pd := fun ρ Q => hasOwn ρ i ∧ Q .non (ρ.set i (some (.own [])))
theorem qClear {o : Expr} {apos cpos : Pos} {i : Nat} (hK : X.K = S.K) (ho : PE X o (tVar i)) (hbase : attributeBase o "clear" X.env (eval o X.env) = eval o X.env := by rfl) (hline : (apos.endLine == cpos.line) = true := by rfl) :
    PE X (.Call (.Attribute o "clear" apos) [] [] cpos) (lDm S (mClear i)) :=
  (k_bm0 S.K PySem.F.plainAttrs_list PySem.F.slot_list_clear PySem.F.type_list_clear mt_clear ho hK hbase hline).weak fun σ H Q h => by
    obtain ⟨ρ, F, W, Q', e, s, ⟨⟨ds, h0⟩, q⟩, k⟩ := h
    subst e
    obtain ⟨p, xs, ev, o, r, hF⟩ := s.ownAt h0
    obtain ⟨a2, s2⟩ := s.setL h0 ev hF o (.nil : RpL S.K W [] [])
    exact ⟨.ref p, ev, Sn.tyL o, p, xs, rfl, rfl, o.1, k .non .non _ F _ a2 s2 .non q⟩
/-- x.insert(i, e) -/
def mInsert (i : Nat) (ma mb : Pd) : Pd := fun ρ Q => hasOwn ρ i ∧ ma ρ fun a ρ1 => mb ρ1 fun d ρ2 => ∃ ds j, ρ2[i]? = some (some (.own ds)) ∧ a = .int j ∧ 0 ≤ j ∧ j < 2 ^ 62 ∧ ds.length < sizeLine ∧ Q .non (ρ2.set i (some (.own (ds.take j.toNat ++ [d] ++ ds.drop j.toNat))))
theorem qInsert {o a b : Expr} {apos cpos : Pos} {i : Nat} {ma mb : Pd} (hK : X.K = S.K) (ho : PE X o (tVar i)) (ha : PE X a (lDm S ma)) (hb : PE X b (lDm S mb)) (hbase : attributeBase o "insert" X.env (eval o X.env) = eval o X.env := by rfl)
    (hfew : ((backTo cpos (starEach [a, b] X.env)).all (fun x => !x.1) && (backToKw cpos (keywordEach [] X.env)).all (fun x => x.1.isSome)
      && decide ([a, b].length + ([] : List Keyword).length + (if ([] : List Keyword).isEmpty then 0 else 1) < 30)) = true := by rfl)
    (hline : (apos.endLine == cpos.line) = true := by rfl) (hs : starEach [a, b] X.env = (false, eval a X.env) :: starEach [b] X.env := by rfl) (hs2 : starEach [b] X.env = (false, eval b X.env) :: starEach [] X.env := by rfl) (hpl : (backTo cpos (starEach [b] X.env)).any (·.1) = false := by rfl) :
    PE X (.Call (.Attribute o "insert" apos) [a, b] [] cpos) (lDm S (mInsert i ma mb)) :=
  (k_bm S.K PySem.F.plainAttrs_list PySem.F.slot_list_insert PySem.F.type_list_insert mt_insert ho (pa_cons ha (pa_cons hb pa_nil hs2) hs) hK hbase hfew hline hs hpl).weak fun σ H Q h => by
    obtain ⟨ρ, F, W, Q', e, s, ⟨⟨d0, h0⟩, q⟩, k⟩ := h
    subst e
    obtain ⟨p, xs, ev, o, r, hF⟩ := s.ownAt h0
    refine ⟨.ref p, ev, Sn.tyL o, ρ, F, W, _, rfl, s, q, fun u a ρ1 F1 W1 a1 s1 r1 q1 => ?_⟩
    refine ⟨ρ1, F1, W1, _, rfl, s1, q1, fun v d ρ2 F2 W2 a2 s2 r2 ⟨ds, j, e1, ed, h1, h2, hz, q2⟩ => ?_⟩
    subst ed
    cases r1
    obtain ⟨p1, xs1, ev1, o1, rr1, hF1⟩ := s2.ownAt e1
    rw [ev] at ev1
    cases ev1
    obtain ⟨a3, s3⟩ := s2.setL e1 ev hF1 o1 (((rr1.take j.toNat).append (.cons r2 .nil)).append (rr1.drop j.toNat))
    exact ⟨p, xs1, j, v, rfl, rfl, o1.1, by rw [rr1.length]; exact hz, h1, by omega, k .non .non _ F2 _ ((a1.trans a2).trans a3) s3 .non q2⟩
/-- x.extend(e), e a list -/
def mExtend (i : Nat) (m : Pd) : Pd := fun ρ Q => hasOwn ρ i ∧ m ρ fun d ρ1 => ∃ ds es, ρ1[i]? = some (some (.own ds)) ∧ d = .lst es ∧ ds.length + es.length ≤ sizeLine ∧ Q .non (ρ1.set i (some (.own (ds ++ es))))
theorem qExtend {o a : Expr} {apos cpos : Pos} {i : Nat} {m : Pd} (hK : X.K = S.K) (ho : PE X o (tVar i)) (ha : PE X a (lDm S m)) (hbase : attributeBase o "extend" X.env (eval o X.env) = eval o X.env := by rfl)
    (hfew : ((backTo cpos (starEach [a] X.env)).all (fun x => !x.1) && (backToKw cpos (keywordEach [] X.env)).all (fun x => x.1.isSome)
      && decide ([a].length + ([] : List Keyword).length + (if ([] : List Keyword).isEmpty then 0 else 1) < 30)) = true := by rfl)
    (hline : (apos.endLine == cpos.line) = true := by rfl) (hs : starEach [a] X.env = (false, eval a X.env) :: starEach [] X.env := by rfl) :
    PE X (.Call (.Attribute o "extend" apos) [a] [] cpos) (lDm S (mExtend i m)) :=
  (k_bm S.K PySem.F.plainAttrs_list PySem.F.slot_list_extend PySem.F.type_list_extend mt_extend ho (pa_cons ha pa_nil hs) hK hbase hfew hline hs rfl).weak fun σ H Q h => by
    obtain ⟨ρ, F, W, Q', e, s, ⟨⟨d0, h0⟩, q⟩, k⟩ := h
    subst e
    obtain ⟨p, xs, ev, o, r, hF⟩ := s.ownAt h0
    refine ⟨.ref p, ev, Sn.tyL o, ρ, F, W, _, rfl, s, q, fun v d ρ1 F1 W1 a1 s1 r1 ⟨ds, es, e1, ed, hz, q1⟩ => ?_⟩
    subst ed
    obtain ⟨p1, xs1, ev1, o1, rr1, hF1⟩ := s1.ownAt e1
    rw [ev] at ev1
    cases ev1
    cases r1 with
    | lst eb nb rb =>
      obtain ⟨a2, s2⟩ := s1.setL e1 ev hF1 o1 (rr1.append rb)
      exact ⟨p, _, xs1, _, rfl, rfl, o1.1, eb, by rw [rr1.length, rb.length]; exact hz, k .non .non _ F1 _ (a1.trans a2) s2 .non q1⟩
/-- x[i] = e, x a list -/
def mPut (j : Nat) (me mi : Pd) : Ps := fun E ρ => me ρ fun d ρ1 => hasOwn ρ1 j ∧ mi ρ1 fun c ρ2 => ∃ ds i n, ρ2[j]? = some (some (.own ds)) ∧ c = .int i ∧ ixN ds.length i = some n ∧ E.nx (ρ2.set j (some (.own (ds.set n d))))
theorem qPut {o i v : Expr} {j : Nat} {me mi : Pd} {p1 p2 : Pos} (ho : PE X o (tVar j)) (hi : PE X i (lD S mi)) (hv : PE X v (lD S me))
    (ha : ∀ v, assign (.Subscript o i p1) X.env v = (do
      let ov ← holding [v] (eval o X.env)
      let iv ← holding [v, ov] (eval i X.env)
      standAt p1
      holding [v, ov, iv] (setItem ov iv v)
      release [v, ov, iv] []) := by intro _; rfl)
    (hs : swapsWithSole [.Subscript o i p1] v p2.line X.env = pure false := by rfl) (hw : swappedStores [.Subscript o i p1] v X.env = pure none := by rfl)
    (h1 : (assignEach [.Subscript o i p1] X.env).map (·.2) = [assign (.Subscript o i p1) X.env] := by rfl) : PS X (.Assign [.Subscript o i p1] v p2) (lS S (mPut j me mi)) :=
  (ps_asg hv (pg_sub ho hi set_list ha) hs hw h1).weak fun E σ H ⟨ρ, F, W, E', e, s, q, c⟩ => by
    subst e
    refine ⟨ρ, F, W, _, rfl, s, q, fun v d ρ1 F1 W1 a1 s1 r1 ⟨⟨d0, h0⟩, q1⟩ => ?_⟩
    obtain ⟨p0, xs0, ev, _, _, _⟩ := s1.ownAt h0
    refine ⟨.ref p0, ev, ρ1, F1, W1, _, rfl, s1, q1, fun y c2 ρ2 F2 W2 a2 s2 r2 ⟨ds, i, n, e2, ec, hn, q2⟩ => ?_⟩
    subst ec
    cases r2
    obtain ⟨p, xs, ev2, o, r, hF⟩ := s2.ownAt e2
    rw [ev] at ev2
    cases ev2
    obtain ⟨a3, s3⟩ := s2.setL e2 ev hF o (RpL.set (r1.up a2.go.ext) n r)
    exact ⟨_, xs, i, n, rfl, rfl, o.1, by rw [r.length]; exact hn, c.nx _ _ F2 _ ((a1.toStpM.trans a2.toStpM).trans a3).s s3 q2⟩
end
end U

/-! PuH: promises over data, calls -/
namespace U
open PySem PySem.Spec PyProof.Rows L2 Q
/-- an error: its class, and what it keeps -/
inductive Er where
  | plain (nm : Str) | pay (nm f : Str) (d : D)
def Er.nm : Er → Str
  | .plain n => n
  | .pay n _ _ => n
def ErK (K : PySem.W.Frag) (W : Wd) : Er → Value → Option Addr → Prop
  | .plain n, cls, dx => cls = .ref (He.ga K n) ∧ dx = none
  | .pay n f d, cls, dx => cls = .ref (He.ga K n) ∧ ∃ a v, dx = some a ∧ W.H a = some (.xd [(f, v)]) ∧ Rp K W v d
abbrev Mf := List D → (SV → Prop) → (Er → Prop) → Prop
/-- the promise of a def over data -/
def lF (K : PySem.W.Frag) (n : Nat) (m : Mf) : Sp := fun vs H Q E => ∃ W ds Q' E', W.H = H ∧ vs.length = n ∧ RpL K W vs ds ∧ m ds Q' E' ∧
  (∀ v r X W', Go Nw W W' → RpS K W' v r X → (∀ a ∈ X, W.H a = none) → Q' r → Q v W'.H) ∧ ∀ er cls dx W', Go Nw W W' → ErK K W' er cls dx → E' er → E cls dx W'.H
/-- the same of a def that draws: the store comes first -/
def lFs (K : PySem.W.Frag) (n : Nat) (m : Mf) : Sp := fun vs H Q E => ∃ W st c us ds Q' E', W.H = H ∧ vs = .ref st :: us ∧ us.length = n ∧ Sto st c W ∧ RpL K W us ds ∧ m ds Q' E' ∧
  (∀ v r X W', Go (fun a => a = st) W W' → Sto st c W' → RpS K W' v r X → (∀ a ∈ X, W.H a = none) → Q' r → Q v W'.H) ∧ ∀ er cls dx W', Go (fun a => a = st) W W' → Sto st c W' → ErK K W' er cls dx → E' er → E cls dx W'.H
/-- what stands behind an error that leaves here -/
def EOk (S : Sx) (We : L2.WX) (Ex : Er → Rho → Prop) : Prop := ∀ er ρ F W σ cls dx, Sn S W σ ρ F → ErK S.K W er cls dx → Ex er ρ → We cls dx σ W.H
def mCall (n : Nat) (m : Mf) (Ex : Er → Rho → Prop) (ms : Pa) : Pv := fun ρ Q => ms ρ fun ds ρ1 => ds.length = n ∧ m ds (fun r => Q r ρ1) fun er => Ex er ρ1
abbrev CXn (Z : Q.Env) : CXT := L2N.CX Z.P Z.w
/-- a callee that may raise, where what is raised goes to W -/
def tCallT (sp : Sp) (dvs : List V) (W : L2.WX) (t : TA) : TE := fun σ H Q => t σ H fun vs H1 => sp (vs ++ dvs) H1 Q (fun cls d H2 => W cls d σ H2)
section
variable {Z : Q.Env} {X : Cx} {S : Sx} {k n : Nat} {x : Str} {ps : List Str} {dvs : List V} {sp : Sp} {p pos : Pos} {e : Expr} {es : List Expr} {t : TA} {m : Mf} {ms : Pa} {We : L2.WX} {Ex : Er → Rho → Prop}
theorem run_T (tk : L2N.Takes X We) {f : Addr} {fd : FuncData} {ds : List Value} (h5 : FnOk X.prog X.w X.K X.mg X.base (L2N.CX X.prog X.w) k f fd ps sp) (hr : Room k X.A) (h3 : Binds X.K fd ps ds) (h4 : Vals dvs ds) {pins : List (Addr × Obj)} {σ : L2.St} {H1 : Hp} {s1 : Shared} {Q : VK} {us : List Value} {vs : List V}
    (I1 : Inv X pins σ H1 s1) (r : Vals vs us) (q : sp (vs ++ dvs) H1 Q fun cls d H2 => We cls d σ H2) : wpAny (model X.prog X.w) X.A (call (.ref f) us) (EP X pins σ Q) X.xe s1 := by
  have tk2 := L2N.passAt tk σ
  have r2 : Vals (vs ++ dvs) (us ++ ds) := r.append h4
  have hl : (us ++ ds).length = ps.length := by rw [← r2.length]; exact h5.len _ _ _ _ q
  refine wpAny_call (codeAny_mono (h5.run X.A X.stack s1 H1 ⟨us, []⟩ (us ++ ds) (vs ++ dvs) Q _ hr I1.env0 (h3 s1 us I1.kIn hl) r2 q) fun rr s2 hq => ?_)
  match rr, hq with
  | .error v, hq => exact tk2 pins H1 s1 v s2 I1 hq
  | .ok (.ret u), hq => exact I1.after hq
  | .ok .next, hq => exact False.elim hq
  | .ok .brk, hq => exact False.elim hq
  | .ok .cont, hq => exact False.elim hq
theorem pcallT (tk : L2N.Takes X We) (c : Can Z (CXn Z) k x ps dvs sp) (hr : Room k X.A) (ha : PA X (e :: es) t) (z : At Z X := by exact ⟨rfl, rfl, rfl, rfl, rfl⟩) (hg : Gl X x := by rfl) (hdb : (x == ("__debug__" : Str)) = false := by decide)
    (he : starEach (e :: es) X.env = (false, eval e X.env) :: starEach es X.env := by rfl) (hpl : (backTo pos (starEach es X.env)).any (·.1) = false := by rfl) :
    PE X (.Call (.Name x p) (e :: es) [] pos) (tCallT sp dvs We t) := by
  obtain ⟨f, fd, ds, h1, h2, h3, h4, h5⟩ := c
  obtain ⟨e1, e2, e3, e4, e5⟩ := z
  refine ⟨fun pins s σ H Q I h => ?_⟩
  rw [CXn, ← e1, ← e2, ← e3, ← e4, ← e5] at h5
  rw [← e4] at h1
  rw [← e3] at h2 h3
  refine wpAny_Call_Name_kw (ld_glob I hg h1 ?_ hdb)
  exact PySem.W.callWith_K (h₀ := X.base) I.ok.mod.kin h2 (thn (ha.run pos pins s σ H _ I h) fun us s1 ⟨vs, H1, I1, r, q⟩ => ⟨I1.kIn, run_T tk h5 hr h3 h4 I1 r q⟩) he hpl
theorem pcallT0 (tk : L2N.Takes X We) (c : Can Z (CXn Z) k x ps dvs sp) (hr : Room k X.A) (z : At Z X := by exact ⟨rfl, rfl, rfl, rfl, rfl⟩) (hg : Gl X x := by rfl) (hdb : (x == ("__debug__" : Str)) = false := by decide) :
    PE X (.Call (.Name x p) [] [] pos) (tCallT sp dvs We tNil) := by
  obtain ⟨f, fd, ds, h1, h2, h3, h4, h5⟩ := c
  obtain ⟨e1, e2, e3, e4, e5⟩ := z
  refine ⟨fun pins s σ H Q I h => ?_⟩
  rw [CXn, ← e1, ← e2, ← e3, ← e4, ← e5] at h5
  rw [← e4] at h1
  rw [← e3] at h2 h3
  refine wpAny_Call_Name_kw (ld_glob I hg h1 ?_ hdb)
  exact PySem.W.callWith_K0 I.kIn h2 (run_T (us := []) tk h5 hr h3 h4 I .nil h)
theorem run_lF {W1 : Wd} {σ : L2.St} {ρ1 : Rho} {F1 : Fp} {vs : List V} {ds : List D} {Q : VK} {Q' : SV → Rho → Prop} (eo : EOk S We Ex) (s1 : Sn S W1 σ ρ1 F1) (hl : vs.length = n) (r1 : RpL S.K W1 vs ds) (q : m ds (fun r => Q' r ρ1) fun er => Ex er ρ1)
    (k : ∀ v r Y W', Stp S F1 W1 F1 W' → Sn S W' σ ρ1 F1 → RpS S.K W' v r Y → (∀ a ∈ Y, W1.H a = none) → Q' r ρ1 → Q v W'.H) : lF S.K n m vs W1.H Q fun cls d H2 => We cls d σ H2 := by
  refine ⟨W1, ds, _, _, rfl, hl, r1, q, fun v r Y W2 g hr hY q2 => ?_, fun er cls dx W2 g hk q2 => ?_⟩
  · obtain ⟨a2, s2⟩ := s1.nw g
    exact k v r Y W2 a2 s2 hr hY q2
  · obtain ⟨a2, s2⟩ := s1.nw g
    exact eo er ρ1 F1 W2 σ cls dx s2 hk q2
theorem takesN : L2N.Takes X (fun _ _ _ _ => False) := fun _ _ x => by
  obtain ⟨_, _, _, _, _, _, _, _, _, _, _, _, _, _, _, _, z⟩ := x
  exact z.elim
theorem eoN : EOk S (fun _ _ _ _ => False) (fun _ _ => False) := fun _ _ _ _ _ _ _ _ _ h => h
theorem qCall (tk : L2N.Takes X We) (eo : EOk S We Ex) (c : Can Z (CXn Z) k x ps [] (lF S.K n m)) (hr : Room k X.A) (ha : PA X (e :: es) (lA S ms)) (z : At Z X := by exact ⟨rfl, rfl, rfl, rfl, rfl⟩) (hg : Gl X x := by rfl) (hdb : (x == ("__debug__" : Str)) = false := by decide)
    (he : starEach (e :: es) X.env = (false, eval e X.env) :: starEach es X.env := by rfl) (hpl : (backTo pos (starEach es X.env)).any (·.1) = false := by rfl) :
    PE X (.Call (.Name x p) (e :: es) [] pos) (lV S (mCall n m Ex ms)) := (pcallT tk c hr ha z hg hdb he hpl).weak fun σ H Q ⟨ρ, F, W, Q', e, s, q, k⟩ => by
  subst e
  refine ⟨ρ, F, W, _, rfl, s, q, fun vs ds ρ1 F1 W1 a1 s1 r1 ⟨hl, q1⟩ => ?_⟩
  show lF S.K n m (vs ++ []) W1.H Q _
  rw [List.append_nil]
  exact run_lF (Q' := Q') eo s1 (by rw [r1.length]; exact hl) r1 q1 fun v r Y W2 a2 s2 hr hY q2 => k v r Y ρ1 F1 W2 (a1.trans s s1 a2) s2 hr (fun a ha => a1.go.free (hY a ha)) q2
theorem qCall0 (tk : L2N.Takes X We) (eo : EOk S We Ex) (c : Can Z (CXn Z) k x ps [] (lF S.K n m)) (hr : Room k X.A) (z : At Z X := by exact ⟨rfl, rfl, rfl, rfl, rfl⟩) (hg : Gl X x := by rfl) (hdb : (x == ("__debug__" : Str)) = false := by decide) :
    PE X (.Call (.Name x p) [] [] pos) (lV S (mCall n m Ex mNil)) := (pcallT0 tk c hr z hg hdb).weak fun σ H Q ⟨ρ, F, W, Q', e, s, ⟨hl, q1⟩, k⟩ => by
  subst e
  exact run_lF (Q' := Q') eo s hl .nil q1 fun v r Y W2 a2 s2 hr hY q2 => k v r Y ρ F W2 a2 s2 hr hY q2
/-- a def that draws: the store is the slot's -/
theorem Sn.draw {W W1 : Wd} {σ : L2.St} {ρ : Rho} {F : Fp} {st c : Addr} (s : Sn S W σ ρ F) (e : S.st = some (st, c)) (g : Go (fun a => a = st) W W1) (h : Sto st c W1) : Stp S F W F W1 ∧ Sn S W1 σ ρ F := by
  have nf : ∀ i a, a ∈ F i → ¬ a = st := fun i a h z => (s.sto st c e).2.2 i (z ▸ h)
  refine ⟨⟨⟨g.mono (fun a ea => .inl ⟨c, by rw [ea]; exact e⟩) fun a h => s.inM h, fun i a h => ⟨i, h⟩⟩, fun i a h => ?_⟩, ⟨s.len, s.go.trans g fun a ea => .inl ⟨c, by rw [ea]; exact e⟩, fun a c' e' => ?_, fun i r er => ?_, fun i a h => ⟨g.stay a (nf i a h) (s.new i a h).1, (s.new i a h).2⟩, s.dj, s.me, fun Wb Fb eb => (s.tb Wb Fb eb).trans ⟨g.mono (fun a ea => .inl ⟨c, by rw [ea]; exact e⟩) fun a h => s.inM h, fun i a h => .inl ⟨i, h⟩⟩⟩⟩
  · obtain ⟨o, ho, _⟩ := W.ok a (s.new i a h).1
    rw [ho, g.keep a o (nf i a h) ho]
  · obtain ⟨e1, e2, e3⟩ := s.sto a c' e'
    rw [e] at e'
    cases e'
    exact ⟨e1, h, e3⟩
  · obtain ⟨v, e1, e2⟩ := s.sv i r er
    exact ⟨v, e1, e2.up g (nf i)⟩
theorem qCallS {o : Expr} {st c0 : Addr} (hst : S.st = some (st, c0)) (tk : L2N.Takes X We) (eo : EOk S We Ex) (c : Can Z (CXn Z) k x ps [] (lFs S.K n m)) (hr : Room k X.A) (ho : PE X o (tVar S.sl)) (ha : PA X es (lA S ms)) (z : At Z X := by exact ⟨rfl, rfl, rfl, rfl, rfl⟩) (hg : Gl X x := by rfl) (hdb : (x == ("__debug__" : Str)) = false := by decide)
    (he : starEach (o :: es) X.env = (false, eval o X.env) :: starEach es X.env := by rfl) (hpl : (backTo pos (starEach es X.env)).any (·.1) = false := by rfl) :
    PE X (.Call (.Name x p) (o :: es) [] pos) (lV S (mCall n m Ex ms)) := (pcallT tk c hr (pa_cons ho ha he) z hg hdb he hpl).weak fun σ H Q ⟨ρ, F, W, Q', e, s, q, k⟩ => by
  subst e
  refine ⟨.ref st, (s.sto st c0 hst).1, ρ, F, W, _, rfl, s, q, fun vs ds ρ1 F1 W1 a1 s1 r1 ⟨hl, q1⟩ => ?_⟩
  show lFs S.K n m (V.ref st :: vs ++ []) W1.H Q _
  rw [List.append_nil]
  refine ⟨W1, st, c0, vs, ds, _, _, rfl, rfl, by rw [r1.length]; exact hl, (s1.sto st c0 hst).2.1, r1, q1, fun v r Y W2 g hs hr hY q2 => ?_, fun er cls dx W2 g hs hk q2 => ?_⟩
  · obtain ⟨a2, s2⟩ := s1.draw hst g hs
    exact k v r Y ρ1 F1 W2 (a1.trans s s1 a2) s2 hr (fun a ha => a1.go.free (hY a ha)) q2
  · obtain ⟨a2, s2⟩ := s1.draw hst g hs
    exact eo er ρ1 F1 W2 σ cls dx s2 hk q2
/-! ### a def keeps its promise -/
def startR (k : Nat) (ds : List D) : Rho := ds.map (fun d => some (.dat d)) ++ List.replicate k none
theorem sn_start {K : PySem.W.Frag} {W : Wd} {N : List Str} {vs : List V} {ds : List D} (r : RpL K W vs ds) (st : Option (Addr × Addr)) (u : Option V) (hst : ∀ a c, st = some (a, c) → u = some (.ref a) ∧ Sto a c W) (off : Bool) (ho : off = st.isSome) (sl : Nat) (hsl : off = true → sl = 0) :
    Sn ⟨K, W, st, sl, none, none⟩ W (if off then u :: (vs.map some ++ List.replicate (N.length - vs.length) none) else L2.start N vs) (if off then none :: startR (N.length - vs.length) ds else startR (N.length - vs.length) ds) (fun _ => []) := by
  have hv : ∀ i r0, (startR (N.length - vs.length) ds)[i]? = some (some r0) → ∃ v, (vs.map some ++ List.replicate (N.length - vs.length) none)[i]? = some (some v) ∧ RpS K W v r0 [] := fun i r0 e => by
    unfold startR at e
    by_cases hi : i < ds.length
    · rw [List.getElem?_append_left (by rw [List.length_map]; exact hi), List.getElem?_map] at e
      cases q : ds[i]? with
      | none => rw [q] at e; cases e
      | some d =>
        rw [q] at e
        cases e
        obtain ⟨v, e1, e2⟩ := r.getD q
        refine ⟨v, ?_, .dat e2⟩
        rw [List.getElem?_append_left (by rw [List.length_map, r.length]; exact hi), List.getElem?_map, e1]
        rfl
    · rw [List.getElem?_append_right (by rw [List.length_map]; omega), List.getElem?_replicate] at e
      split at e <;> cases e
  have hl : (vs.map some ++ List.replicate (N.length - vs.length) none : L2.St).length = (startR (N.length - vs.length) ds).length := by
    unfold startR
    rw [List.length_append, List.length_append, List.length_map, List.length_map, List.length_replicate, List.length_replicate, r.length]
  refine ⟨?_, Go.refl fun a h => ?_, fun a c e => ?_, fun i r0 e => ?_, fun i a h => (nomatch h), fun i j a h => (nomatch h), fun a e => (nomatch e), fun _ _ e => (nomatch e)⟩
  · cases off with
    | true => show _ + 1 = _ + 1; rw [hl]
    | false => exact hl
  · obtain ⟨c, e⟩ := h
    exact (hst a c e).2.inM
  · obtain ⟨e1, e2⟩ := hst a c e
    have e' : st = some (a, c) := e
    have : off = true := by rw [ho, e']; rfl
    subst this
    have : sl = 0 := hsl rfl
    subst this
    exact ⟨by rw [e1]; rfl, e2, fun j h => nomatch h⟩
  · cases off with
    | true =>
      match i, e with
      | 0, e => cases e
      | i + 1, e => exact hv i r0 e
    | false => exact hv i r0 e
theorem fn_lF {name qual : Str} {st : Stmt} {N : List Str} {dvs : List V} {kws : List (Str × V)} {f : Addr} {fd : FuncData} (F : FunD Z.K name qual (defArgs st) (defBody st) (defScope st) dvs kws f fd) (sc : FnScope N ps (defScope st)) (hn : ps.length = n) (mb : (Er → Prop) → Ps)
    (hm : ∀ ds Q E, m ds Q E → mb E { nx := fun _ => Q (.dat .non), rt := Q } (startR (N.length - n) ds))
    (hbody : ∀ (cdv : Value) (A : Around) (outer : List PySem.Env) (s : Shared) (H : Hp) (E : XK) (W : Wd) (E' : Er → Prop), Room k (A.deeper (envOfC qual (defScope st) s.heap.objs.size f cdv)) → EOk ⟨Z.K, W, none, 1000, none, none⟩ (fun cls d _ H => E cls d H) (fun er _ => E' er) →
      PSs (cxOf (CXn Z) Z.P Z.w Z.K Z.mg Z.base N qual (defScope st) f cdv A outer s H E) (defBody st) (lS ⟨Z.K, W, none, 1000, none, none⟩ (mb E'))) : FnOk Z.P Z.w Z.K Z.mg Z.base (CXn Z) (k + 1) f fd ps (lF Z.K n m) := by
  refine F.ok sc (fun vs H Q E ⟨W, ds, Q', E', _, hl, _⟩ => by rw [hl, hn]) fun cdv A outer s H vs Q E hr ⟨W, ds, Q', E', eH, hl, r, h, kq, ke⟩ => ?_
  subst eH
  have gs : ∀ {W' : Wd}, Go (Sx.sm ⟨Z.K, W, none, 1000, none, none⟩) W W' → Go Nw W W' := fun g => g.mono (fun a ⟨c, z⟩ => by cases z) fun a z => z.elim
  refine ⟨_, hbody cdv A outer s W.H E W E' hr fun er ρ F W1 σ cls dx s1 hk he => ke er cls dx W1 (gs s1.go) hk he, ?_⟩
  refine ⟨startR (N.length - vs.length) ds, fun _ => [], W, { nx := fun _ => Q' (.dat .non), rt := Q' }, rfl, sn_start r none none (fun _ _ z => nomatch z) false rfl 1000 (fun z => nomatch z), by rw [hl]; exact hm ds Q' E' h, ?_⟩
  refine ⟨fun σ' ρ' F' W' a' s' q => kq .non (.dat .non) [] W' (gs s'.go) (.dat .non) (fun _ z => nomatch z) q, fun _ _ _ _ _ _ q => q.elim, fun _ _ _ _ _ _ q => q.elim, fun v r W' ro q => ?_⟩
  obtain ⟨Y, hr, hY⟩ := ro.rp
  exact kq v r Y W' (gs ro.go) hr hY q
theorem fn_lFs {name qual : Str} {st : Stmt} {N : List Str} {dvs : List V} {kws : List (Str × V)} {f : Addr} {fd : FuncData} (F : FunD Z.K name qual (defArgs st) (defBody st) (defScope st) dvs kws f fd) (sc : FnScope N ps (defScope st)) (hn : ps.length = n + 1) (hN : n + 1 ≤ N.length) (mb : (Er → Prop) → Ps)
    (hm : ∀ ds Q E, m ds Q E → mb E { nx := fun _ => Q (.dat .non), rt := Q } (none :: startR (N.length - (n + 1)) ds))
    (hbody : ∀ (cdv : Value) (A : Around) (outer : List PySem.Env) (s : Shared) (H : Hp) (E : XK) (W : Wd) (sa ca : Addr) (E' : Er → Prop), Room k (A.deeper (envOfC qual (defScope st) s.heap.objs.size f cdv)) → EOk ⟨Z.K, W, some (sa, ca), 0, none, none⟩ (fun cls d _ H => E cls d H) (fun er _ => E' er) →
      PSs (cxOf (CXn Z) Z.P Z.w Z.K Z.mg Z.base N qual (defScope st) f cdv A outer s H E) (defBody st) (lS ⟨Z.K, W, some (sa, ca), 0, none, none⟩ (mb E'))) : FnOk Z.P Z.w Z.K Z.mg Z.base (CXn Z) (k + 1) f fd ps (lFs Z.K n m) := by
  refine F.ok sc (fun vs H Q E ⟨W, sa, ca, us, ds, Q', E', _, ev, hl, _⟩ => by rw [ev, List.length_cons, hl, hn]) fun cdv A outer s H vs Q E hr ⟨W, sa, ca, us, ds, Q', E', eH, ev, hl, hs, r, h, kq, ke⟩ => ?_
  subst eH ev
  have gs : ∀ {W' : Wd}, Go (Sx.sm ⟨Z.K, W, some (sa, ca), 0, none, none⟩) W W' → Go (fun a => a = sa) W W' := fun g => g.mono (fun a ⟨c, z⟩ => by cases z; rfl) fun a z => by rw [z]; exact hs.inM
  refine ⟨_, hbody cdv A outer s W.H E W sa ca E' hr fun er ρ F W1 σ cls dx s1 hk he => ke er cls dx W1 (gs s1.go) (s1.sto sa ca rfl).2.1 hk he, ?_⟩
  have e2 : N.length - (us.length + 1) = N.length - (n + 1) := by rw [hl]
  have hss := sn_start (N := N.drop 1) r (some (sa, ca)) (some (.ref sa)) (fun a c z => by cases z; exact ⟨rfl, hs⟩) true rfl 0 (fun _ => rfl)
  have e3 : (N.drop 1).length - us.length = N.length - (n + 1) := by rw [List.length_drop, hl]; omega
  rw [e3] at hss
  refine ⟨none :: startR (N.length - (n + 1)) ds, fun _ => [], W, { nx := fun _ => Q' (.dat .non), rt := Q' }, rfl, ?_, hm ds Q' E' h, ?_⟩
  · have e4 : L2.start N (V.ref sa :: us) = some (.ref sa) :: (us.map some ++ List.replicate (N.length - (n + 1)) none) := by
      unfold L2.start
      rw [List.map_cons, List.length_cons, e2]
      rfl
    rw [e4]
    exact hss
  · refine ⟨fun σ' ρ' F' W' a' s' q => kq .non (.dat .non) [] W' (gs s'.go) (s'.sto sa ca rfl).2.1 (.dat .non) (fun _ z => nomatch z) q, fun _ _ _ _ _ _ q => q.elim, fun _ _ _ _ _ _ q => q.elim, fun v r W' ro q => ?_⟩
    obtain ⟨Y, hr, hY⟩ := ro.rp
    exact kq v r Y W' (gs ro.go) (ro.sto sa ca rfl) hr hY q
theorem can_lF {st : Stmt} {N : List Str} (Df : DefAt Z x st []) (sc : FnScope N ps (defScope st)) (hn : ps.length = n) (mb : (Er → Prop) → Ps)
    (hb : ∀ (kV doc pm : Value) (an : Option Addr) (cdv ct : Value) (us : List Value), us.length = ps.length → bindArgs (PySem.W.fnOf x x (defArgs st) (defBody st) (defScope st) .none kV doc pm an cdv ct) ⟨us, []⟩ = pure (ps.zip us))
    (hm : ∀ ds Q E, m ds Q E → mb E { nx := fun _ => Q (.dat .non), rt := Q } (startR (N.length - n) ds))
    (hbody : ∀ (f : Addr) (cdv : Value) (A : Around) (outer : List PySem.Env) (s : Shared) (H : Hp) (E : XK) (W : Wd) (E' : Er → Prop), Room k (A.deeper (envOfC x (defScope st) s.heap.objs.size f cdv)) → EOk ⟨Z.K, W, none, 1000, none, none⟩ (fun cls d _ H => E cls d H) (fun er _ => E' er) →
      PSs (cxOf (CXn Z) Z.P Z.w Z.K Z.mg Z.base N x (defScope st) f cdv A outer s H E) (defBody st) (lS ⟨Z.K, W, none, 1000, none, none⟩ (mb E'))) : Can Z (CXn Z) (k + 1) x ps [] (lF Z.K n m) := by
  obtain ⟨f, fd, hmg, F⟩ := Df
  exact ⟨f, fd, [], hmg, F.kp, FunD.bindsN F hb, .nil, fn_lF F sc hn mb hm fun cdv A outer s H E W E' hr eo => hbody f cdv A outer s H E W E' hr eo⟩
theorem can_lFs {st : Stmt} {N : List Str} (Df : DefAt Z x st []) (sc : FnScope N ps (defScope st)) (hn : ps.length = n + 1) (hN : n + 1 ≤ N.length) (mb : (Er → Prop) → Ps)
    (hb : ∀ (kV doc pm : Value) (an : Option Addr) (cdv ct : Value) (us : List Value), us.length = ps.length → bindArgs (PySem.W.fnOf x x (defArgs st) (defBody st) (defScope st) .none kV doc pm an cdv ct) ⟨us, []⟩ = pure (ps.zip us))
    (hm : ∀ ds Q E, m ds Q E → mb E { nx := fun _ => Q (.dat .non), rt := Q } (none :: startR (N.length - (n + 1)) ds))
    (hbody : ∀ (f : Addr) (cdv : Value) (A : Around) (outer : List PySem.Env) (s : Shared) (H : Hp) (E : XK) (W : Wd) (sa ca : Addr) (E' : Er → Prop), Room k (A.deeper (envOfC x (defScope st) s.heap.objs.size f cdv)) → EOk ⟨Z.K, W, some (sa, ca), 0, none, none⟩ (fun cls d _ H => E cls d H) (fun er _ => E' er) →
      PSs (cxOf (CXn Z) Z.P Z.w Z.K Z.mg Z.base N x (defScope st) f cdv A outer s H E) (defBody st) (lS ⟨Z.K, W, some (sa, ca), 0, none, none⟩ (mb E'))) : Can Z (CXn Z) (k + 1) x ps [] (lFs Z.K n m) := by
  obtain ⟨f, fd, hmg, F⟩ := Df
  exact ⟨f, fd, [], hmg, F.kp, FunD.bindsN F hb, .nil, fn_lFs F sc hn hN mb hm fun cdv A outer s H E W sa ca E' hr eo => hbody f cdv A outer s H E W sa ca E' hr eo⟩
theorem lF_imp {K : PySem.W.Frag} {m m' : Mf} (h : ∀ ds Q E, m' ds Q E → m ds Q E) : ∀ vs H Q E, lF K n m' vs H Q E → lF K n m vs H Q E := fun vs H Q E ⟨W, ds, Q', E', e, hl, r, q, k⟩ => ⟨W, ds, Q', E', e, hl, r, h _ _ _ q, k⟩
theorem lFs_imp {K : PySem.W.Frag} {m m' : Mf} (h : ∀ ds Q E, m' ds Q E → m ds Q E) : ∀ vs H Q E, lFs K n m' vs H Q E → lFs K n m vs H Q E := fun vs H Q E ⟨W, st, c, us, ds, Q', E', e, ev, hl, hs, r, q, k⟩ => ⟨W, st, c, us, ds, Q', E', e, ev, hl, hs, r, h _ _ _ q, k⟩
end
end U

/-! PuI: isinstance, attributes, methods, objects made, errors raised and caught, texts -/
namespace U
open PySem PySem.Spec PyProof.Rows L2 Q
/-! ### isinstance -/
def isT (T : String) : D → Bool
  | .non => false
  | .bl _ => T == "bool" || T == "int"
  | .int _ => T == "int"
  | .str _ => T == "str"
  | .lst _ => T == "list"
  | .tup _ => T == "tuple"
  | .dct _ _ => T == "dict"
  | .obj _ _ => false
abbrev Ts : List String := ["int", "str", "bool", "list", "tuple", "dict"]
def okI (Cs : List Str) : D → Prop
  | .obj C _ => C ∈ Cs
  | _ => True
def rIsiU (K : PySem.W.Frag) : List V → Hp → VK → Prop := fun xs H Q => rIsi K xs H Q ∨ ∃ (a : Addr) (o : Obj) (kvs : List (List Key × V)) (T : String) (b : Bool), xs = [.ref a, .ty T] ∧ H a = some (.frz o (.dT kvs)) ∧ PySem.W.kitOne K (.type "dict") (.type T) = some b ∧ Q (.bl b) H
theorem call_isiU {X : Cx} : CallR X (.builtin "isinstance") (rIsiU X.K) := by
  intro pins s σ H xs us Q I r h
  rcases h with h | ⟨a, ob, kvs, T, b, rfl, ea, e, q⟩
  · exact call_isi pins s σ H xs us Q I r h
  · obtain ⟨u1, u2, rfl, r1, r2⟩ := vals2 r
    cases (show u1 = Value.ref a from r1)
    cases (show u2 = Value.type T from r2)
    obtain ⟨_, _, _, vs, _, o, es, ep, h1, h2, _⟩ := (show ObjOk X.prog X.w H s.heap a (.frz ob (.dT kvs)) from I.hok a _ ea)
    exact PySem.W.kia_one PySem.W.kitx_dict I.kIn ⟨o, h1, h2.1⟩ e (fun z => nomatch z) fun tk => ⟨.bl b, H, I.tok tk, rfl, q⟩
theorem isi_D {K : PySem.W.Frag} {W : Wd} {v : V} {d : D} {T : String} {Q : VK} {Cs : List Str} (hC : ∀ C ∈ Cs, ObjC K (He.ga K C)) (h : Rp K W v d) (ok : okI Cs d) (hT : T ∈ Ts) (q : Q (.bl (isT T d)) W.H) : rIsiU K [v, .ty T] W.H Q := by
  have key : ∀ (t : String), TyX K W.H v (.type t) → PySem.W.kitOne K (.type t) (.type T) = some (isT T d) → rIsiU K [v, .ty T] W.H Q := fun t ht e => .inl ⟨_, _, _, _, _, rfl, .ty T, ht, e, q⟩
  simp only [Ts, List.mem_cons, List.not_mem_nil, or_false] at hT
  cases h with
  | non => exact .inl ⟨_, _, .type "NoneType", _, _, rfl, .ty T, .base .non, by rcases hT with rfl | rfl | rfl | rfl | rfl | rfl <;> rfl, q⟩
  | bl => exact key "bool" (.base (.bl _)) (by rcases hT with rfl | rfl | rfl | rfl | rfl | rfl <;> rfl)
  | int => exact key "int" (.base (.int _)) (by rcases hT with rfl | rfl | rfl | rfl | rfl | rfl <;> rfl)
  | str => exact key "str" (.base (.str _)) (by rcases hT with rfl | rfl | rfl | rfl | rfl | rfl <;> rfl)
  | lst e _ _ => exact key "list" (.base (.lst e)) (by rcases hT with rfl | rfl | rfl | rfl | rfl | rfl <;> rfl)
  | @tup a xs ds e _ =>
    have k2 : PySem.W.kitOne K (.type "tuple") (.type T) = some (isT T (.tup ds)) := by rcases hT with rfl | rfl | rfl | rfl | rfl | rfl <;> rfl
    rcases e with e | ⟨_, o, n, e1, e2, _⟩
    · exact key "tuple" (.base (.tup e)) k2
    · exact key "tuple" (.kTuple e1 e2) k2
  | @dct a kvs ds e _ _ =>
    have k2 : PySem.W.kitOne K (.type "dict") (.type T) = some (isT T (.dct false ds)) := by rcases hT with rfl | rfl | rfl | rfl | rfl | rfl <;> rfl
    rcases e with e | ⟨o, e⟩
    · exact key "dict" (.base (.dK e)) k2
    · exact key "dict" (.fDict e) k2
  | @dcT a kvs ds e _ _ =>
    have k2 : PySem.W.kitOne K (.type "dict") (.type T) = some (isT T (.dct true ds)) := by rcases hT with rfl | rfl | rfl | rfl | rfl | rfl <;> rfl
    rcases e with e | ⟨o, e⟩
    · exact key "dict" (.base (.dT e)) k2
    · exact .inr ⟨a, o, kvs, T, _, rfl, e, k2, q⟩
  | @obj a dx C fs ds e n _ =>
    have c := hC C ok
    exact .inl ⟨_, _, .ref _, _, _, rfl, .ty T, .base (.ins e c.cl c.ca c.hn c.ht c.hm), c.no T (by simp only [List.mem_cons, List.not_mem_nil, or_false]; exact hT), q⟩
section
variable {X : Cx} {S : Sx} {e : Expr} {pos : Pos}
def mIsi (Cs : List Str) (T : String) (m : Pd) : Pd := fun ρ Q => m ρ fun d ρ1 => okI Cs d ∧ Q (.bl (isT T d)) ρ1
theorem k_isi (K : PySem.W.Frag) (hK : X.K = K := by rfl) : CallR X (.builtin "isinstance") (rIsiU K) := by rw [← hK]; exact call_isiU
theorem qIsi {Cs : List Str} {T : String} {m : Pd} {c : Expr} {p : Pos} (hC : ∀ C ∈ Cs, ObjC S.K (He.ga S.K C)) (hT : T ∈ Ts) (hK : X.K = S.K) (hg : Gl X "isinstance") (hm : X.mg "isinstance" = none) (he : PE X e (lD S m)) (hc : PE X c (tC (.ty T)))
    (hs : starEach [e, c] X.env = (false, eval e X.env) :: starEach [c] X.env := by rfl) (hs2 : starEach [c] X.env = (false, eval c X.env) :: starEach [] X.env := by rfl) (hpl : (backTo pos (starEach [c] X.env)).any (·.1) = false := by rfl) :
    PE X (.Call (.Name "isinstance" p) [e, c] [] pos) (lD S (mIsi Cs T m)) :=
  (pe_callB (k_isi S.K hK) hg hm (by decide +kernel) (pa_cons he (pa_cons hc pa_nil hs2) hs) (by decide) (by decide) hs hpl).weak fun σ H Q ⟨ρ, F, W, Q', e, s, q, k⟩ => by
    subst e
    refine ⟨ρ, F, W, _, rfl, s, q, fun v d ρ1 F1 W1 a1 s1 r1 ⟨ok, q1⟩ => ?_⟩
    exact isi_D hC r1 ok hT (k _ _ ρ1 F1 W1 a1 s1 .bl q1)
/-! ### attributes -/
/-- where an attribute is found: the classes Cs have none of that name -/
def FldOk (K : PySem.W.Frag) (Cs : List Str) (f : Str) : Prop := ∀ C ∈ Cs, Cls K (He.ga K C) ∧ NoAttr K (He.ga K C) f
def mFld (Cs : List Str) (f : Str) (m : Pd) : Pd := fun ρ Q => m ρ fun d ρ1 => ∃ C fs x, d = .obj C fs ∧ C ∈ Cs ∧ fs.lookup f = some x ∧ Q x ρ1
theorem qFld {Cs : List Str} {f : Str} {m : Pd} (hC : FldOk S.K Cs f) (hK : X.K = S.K) (he : PE X e (lD S m)) (hb : attributeBase e f X.env (eval e X.env) = eval e X.env := by rfl) : PE X (.Attribute e f pos) (lD S (mFld Cs f m)) := (pe_fld he hb).weak fun σ H Q ⟨ρ, F, W, Q', e, s, q, k⟩ => by
  subst e
  rw [hK]
  refine ⟨ρ, F, W, _, rfl, s, q, fun v d ρ1 F1 W1 a1 s1 r1 ⟨C, fs, x, e, hc, hx, q1⟩ => ?_⟩
  subst e
  cases r1 with
  | obj e n r =>
    obtain ⟨w, e1, e2⟩ := r.get hx
    obtain ⟨c1, c2⟩ := hC C hc
    exact ⟨_, _, _, _, w, rfl, e, c1, c2, e1, k w x ρ1 F1 W1 a1 s1 e2 q1⟩
/-- .. of an object that is being made -/
def mFldO (Cs : List Str) (i : Nat) (f : Str) : Pd := fun ρ Q => ∃ C fs x, ρ[i]? = some (some (.ownO C fs)) ∧ C ∈ Cs ∧ fs.lookup f = some x ∧ Q x ρ
theorem qFldO {Cs : List Str} {f : Str} {i : Nat} (hC : FldOk S.K Cs f) (hK : X.K = S.K) (he : PE X e (tVar i)) (hb : attributeBase e f X.env (eval e X.env) = eval e X.env := by rfl) : PE X (.Attribute e f pos) (lD S (mFldO Cs i f)) := (pe_fld he hb).weak fun σ H Q ⟨ρ, F, W, Q', e, s, ⟨C, fs, x, er, hc, hx, q⟩, k⟩ => by
  subst e
  rw [hK]
  obtain ⟨v, ev, hv⟩ := s.sv i _ er
  generalize F i = Y at hv
  cases hv with
  | ownO eo mo ro =>
    obtain ⟨w, e1, e2⟩ := ro.get hx
    obtain ⟨c1, c2⟩ := hC C hc
    exact ⟨_, ev, _, _, _, _, w, rfl, eo, c1, c2, e1, k w x ρ F W s.stp s e2 q⟩
theorem RpF.put {K : PySem.W.Frag} {W : Wd} {f : Str} {v : V} {d : D} (h : Rp K W v d) : ∀ {fs : List (Str × V)} {ds : List (Str × D)}, RpF K W fs ds → RpF K W (putF f v fs) (setF f d ds)
  | _, _, .nil => .cons h .nil
  | (g, x) :: r, (_, y) :: s, .cons h1 t => by
    unfold putF setF
    by_cases q : g = f
    · rw [if_pos q, if_pos q]; exact .cons h t
    · rw [if_neg q, if_neg q]; exact .cons h1 (RpF.put h t)
/-- self.f = e, self being made -/
def mSetF (Cs : List Str) (i : Nat) (f : Str) (m : Pd) : Ps := fun E ρ => m ρ fun d ρ1 => ∃ C fs, ρ1[i]? = some (some (.ownO C fs)) ∧ C ∈ Cs ∧ fs.length < 1000 ∧ E.nx (ρ1.set i (some (.ownO C (setF f d fs))))
theorem qSetF {Cs : List Str} {f : Str} {i : Nat} {o : Expr} {m : Pd} {pos' : Pos} (hC : FldOk S.K Cs f) (hK : X.K = S.K) (ho : PE X o (tVar i)) (hv : PE X e (lD S m)) (hs : swapsWith e (some (.Attribute o f pos')) pos.line X.env = pure false := by rfl) : PS X (.Assign [.Attribute o f pos'] e pos) (lS S (mSetF Cs i f m)) :=
  (ps_fld ho hv hs).weak fun E σ H ⟨ρ, F, W, E', e, s, q, c⟩ => by
    subst e
    rw [hK]
    refine ⟨ρ, F, W, _, rfl, s, q, fun v d ρ1 F1 W1 a1 s1 r1 ⟨C, fs, er, hc, hl, q1⟩ => ?_⟩
    obtain ⟨u, ev, hu⟩ := s1.sv i _ er
    generalize hF : F1 i = Y at hu
    cases hu with
    | @ownO p dx C fs' ds eo mo ro =>
      obtain ⟨c1, c2⟩ := hC C hc
      let W2 : Wd := ⟨upd W1.H p (.ins (He.ga S.K C) dx (putF f v fs')), W1.M, fun a ha => by
        by_cases q : a = p
        · rw [q]; exact ⟨_, upd_same, True.intro⟩
        · obtain ⟨o, h1, h2⟩ := W1.ok a ha
          exact ⟨o, by rw [upd_ne q]; exact h1, h2⟩⟩
      have g : Go (fun a => a = p) W1 W2 := ⟨fun a u n e => by show upd W1.H p _ a = _; rw [upd_ne n]; exact e, fun a u n e => by
          have z : a ≠ p := fun q => not_mut n e (q ▸ mo)
          show upd W1.H p _ a = _
          rw [upd_ne z]; exact e, fun _ z => .inl z, fun _ _ z => z, fun a z => z ▸ mo, fun a n => by
          show upd W1.H p _ a ≠ none
          by_cases q : a = p
          · rw [q, upd_same]; intro z; cases z
          · rw [upd_ne q]; exact n⟩
      obtain ⟨a2, s2⟩ := s1.change er ev hF g (.ownO (C := C) upd_same mo (RpF.put (r1.up g.ext) (ro.up g.ext)))
      exact ⟨_, ev, p, _, dx, fs', rfl, eo, c1, c2, by rw [ro.length]; exact hl, c.nx _ _ F1 W2 (a1.toStpM.trans a2).s s2 q1⟩
/-! ### methods -/
/-- a method of the class C, by its promise -/
def CanM (Z : Q.Env) (CX : CXT) (k : Nat) (C m : Str) (ps : List Str) (dvs : List V) (sp : Sp) : Prop :=
  ∃ (f : Addr) (fd : FuncData) (ds : List Value), Cls Z.K (He.ga Z.K C) ∧ Meth Z.K (He.ga Z.K C) m f ∧ Binds Z.K fd ps ds ∧ Vals dvs ds ∧ FnOk Z.P Z.w Z.K Z.mg Z.base CX k f fd ps sp
theorem CanM.mono {Z : Q.Env} {CX : CXT} {j k : Nat} {C m : Str} {ps : List Str} {dvs : List V} {sp : Sp} (c : CanM Z CX j C m ps dvs sp) (h : j ≤ k) : CanM Z CX k C m ps dvs sp := by
  obtain ⟨f, fd, ds, h1, h2, h3, h4, h5⟩ := c
  exact ⟨f, fd, ds, h1, h2, h3, h4, h5.mono h⟩
theorem CanM.imp {Z : Q.Env} {CX : CXT} {k : Nat} {C m : Str} {ps : List Str} {dvs : List V} {sp sp' : Sp} (c : CanM Z CX k C m ps dvs sp) (h : ∀ vs H Q E, sp' vs H Q E → sp vs H Q E) : CanM Z CX k C m ps dvs sp' := by
  obtain ⟨f, fd, ds, h1, h2, h3, h4, h5⟩ := c
  exact ⟨f, fd, ds, h1, h2, h3, h4, h5.imp h⟩
def tMethT (C : Addr) (m : Str) (sp : Sp) (dvs : List V) (We : L2.WX) (ta : TE) (t : TA) : TE := fun σ H Q => ta σ H fun x H1 => ∃ a dx fs, x = .ref a ∧ H1 a = some (.ins C dx fs) ∧ fs.lookup m = none ∧
  t σ H1 fun vs H2 => sp (x :: (vs ++ dvs)) H2 Q fun cls d H3 => We cls d σ H3
variable {Z : Q.Env} {k n : Nat} {C m : Str} {ps : List Str} {dvs : List V} {sp : Sp} {p apos : Pos} {o : Expr} {es : List Expr} {ta : TE} {t : TA} {ms : Pa} {We : L2.WX} {Ex : Er → Rho → Prop} {f : Mf}
theorem pmethT {pl : Sem Bool} (tk : L2N.Takes X We) (c : CanM Z (CXn Z) k C m ps dvs sp) (hr : Room k X.A) (he : PE X o ta) (ha : PA X (e :: es) t) (z : At Z X := by exact ⟨rfl, rfl, rfl, rfl, rfl⟩)
    (hst : starEach (e :: es) X.env = (false, eval e X.env) :: starEach es X.env := by rfl) (hpl : (backTo pos (starEach es X.env)).any (·.1) = false := by rfl)
    (ht : eval (.Call (.Attribute o m apos) (e :: es) [] pos) X.env = (do
      let ov ← eval o X.env
      standAt apos.atName
      let (f, first) ← holding [ov] (getMethod ov m pl)
      callWith pos f first (backTo pos (starEach (e :: es) X.env)) (backToKw pos (keywordEach [] X.env))) := by rfl) :
    PE X (.Call (.Attribute o m apos) (e :: es) [] pos) (tMethT (He.ga Z.K C) m sp dvs We ta t) := by
  obtain ⟨f, fd, ds, c1, c2, h3, h4, h5⟩ := c
  obtain ⟨e1, e2, e3, e4, e5⟩ := z
  refine ⟨fun pins s σ H Q I h => ?_⟩
  rw [CXn, ← e1, ← e2, ← e3, ← e4, ← e5] at h5
  rw [← e3] at c1 c2 h3 h
  refine PySem.W.methodCall_KW (pl := pl) (thn (he.run pins s σ H _ I h) fun u s1 ⟨x, H1, I1, rx, a, dx, fs, ex, ea, l, q⟩ => ?_) ht
  subst ex
  obtain rfl : u = Value.ref a := rx
  refine getmeth_ok I1 ea c1 c2 l ?_
  refine PySem.W.callWith_K (first := [.ref a]) (h₀ := X.base) I.ok.mod.kin c2.kp (thn (ha.run pos pins s1 σ H1 _ I1 q) fun us s2 ⟨vs, H2, I2, r, q2⟩ => ⟨I2.kIn, ?_⟩) hst hpl
  exact run_T (us := .ref a :: us) (vs := .ref a :: vs) tk h5 hr h3 h4 I2 (.cons rfl r) q2
theorem pmethT0 {pl : Sem Bool} (tk : L2N.Takes X We) (c : CanM Z (CXn Z) k C m ps dvs sp) (hr : Room k X.A) (he : PE X o ta) (z : At Z X := by exact ⟨rfl, rfl, rfl, rfl, rfl⟩)
    (ht : eval (.Call (.Attribute o m apos) [] [] pos) X.env = (do
      let ov ← eval o X.env
      standAt apos.atName
      let (f, first) ← holding [ov] (getMethod ov m pl)
      callWith pos f first (backTo pos (starEach [] X.env)) (backToKw pos (keywordEach [] X.env))) := by rfl) :
    PE X (.Call (.Attribute o m apos) [] [] pos) (tMethT (He.ga Z.K C) m sp dvs We ta tNil) := by
  obtain ⟨f, fd, ds, c1, c2, h3, h4, h5⟩ := c
  obtain ⟨e1, e2, e3, e4, e5⟩ := z
  refine ⟨fun pins s σ H Q I h => ?_⟩
  rw [CXn, ← e1, ← e2, ← e3, ← e4, ← e5] at h5
  rw [← e3] at c1 c2 h3 h
  refine PySem.W.methodCall_KW (pl := pl) (thn (he.run pins s σ H _ I h) fun u s1 ⟨x, H1, I1, rx, a, dx, fs, ex, ea, l, q⟩ => ?_) ht
  subst ex
  obtain rfl : u = Value.ref a := rx
  refine getmeth_ok I1 ea c1 c2 l ?_
  exact PySem.W.callWith_K0 (first := [.ref a]) I1.kIn c2.kp (run_T (us := [.ref a]) (vs := [.ref a]) tk h5 hr h3 h4 I1 (.cons rfl .nil) q)
/-- o.m(..), o of the class C -/
def mMeth (n : Nat) (C m : Str) (f : Mf) (Ex : Er → Rho → Prop) (mo : Pd) (ms : Pa) : Pv := fun ρ Q => mo ρ fun d ρ1 => ∃ fs, d = .obj C fs ∧ fs.lookup m = none ∧ ms ρ1 fun ds ρ2 => ds.length + 1 = n ∧ f (.obj C fs :: ds) (fun r => Q r ρ2) fun er => Ex er ρ2
theorem lMeth {mo : Pd} (eo : EOk S We Ex) (σ : L2.St) (H : Hp) (Q : VK) (h : lV S (mMeth n C m f Ex mo ms) σ H Q) : tMethT (He.ga S.K C) m (lF S.K n f) [] We (lD S mo) (lA S ms) σ H Q := by
  obtain ⟨ρ, F, W, Q', e, s, q, k⟩ := h
  subst e
  refine ⟨ρ, F, W, _, rfl, s, q, fun v d ρ1 F1 W1 a1 s1 r1 ⟨fs, ed, hl, q1⟩ => ?_⟩
  subst ed
  have r1' := r1
  cases r1 with
  | @obj a dx C fs' ds e n' r =>
    refine ⟨a, dx, fs', rfl, e, r.none hl, ρ1, F1, W1, _, rfl, s1, q1, fun vs ds ρ2 F2 W2 a2 s2 r2 ⟨hn, q2⟩ => ?_⟩
    show lF S.K _ f (V.ref a :: (vs ++ [])) W2.H Q _
    rw [List.append_nil]
    have a12 := a1.trans s s1 a2
    exact run_lF (Q' := Q') eo s2 (by rw [List.length_cons, r2.length]; exact hn) (.cons (r1'.up a2.go.ext) r2) q2 fun v r Y W3 a3 s3 hr hY q3 => k v r Y ρ2 F2 W3 (a12.trans s s2 a3) s3 hr (fun a ha => a12.go.free (hY a ha)) q3
theorem qMeth {pl : Sem Bool} {mo : Pd} (hK : S.K = Z.K) (tk : L2N.Takes X We) (eo : EOk S We Ex) (c : CanM Z (CXn Z) k C m ps [] (lF S.K n f)) (hr : Room k X.A) (he : PE X o (lD S mo)) (ha : PA X (e :: es) (lA S ms)) (z : At Z X := by exact ⟨rfl, rfl, rfl, rfl, rfl⟩)
    (hst : starEach (e :: es) X.env = (false, eval e X.env) :: starEach es X.env := by rfl) (hpl : (backTo pos (starEach es X.env)).any (·.1) = false := by rfl)
    (ht : eval (.Call (.Attribute o m apos) (e :: es) [] pos) X.env = (do
      let ov ← eval o X.env
      standAt apos.atName
      let (f, first) ← holding [ov] (getMethod ov m pl)
      callWith pos f first (backTo pos (starEach (e :: es) X.env)) (backToKw pos (keywordEach [] X.env))) := by rfl) :
    PE X (.Call (.Attribute o m apos) (e :: es) [] pos) (lV S (mMeth n C m f Ex mo ms)) := (pmethT tk c hr he ha z hst hpl ht).weak (by rw [← hK]; exact lMeth eo)
theorem qMeth0 {pl : Sem Bool} {mo : Pd} (hK : S.K = Z.K) (tk : L2N.Takes X We) (eo : EOk S We Ex) (c : CanM Z (CXn Z) k C m ps [] (lF S.K n f)) (hr : Room k X.A) (he : PE X o (lD S mo)) (z : At Z X := by exact ⟨rfl, rfl, rfl, rfl, rfl⟩)
    (ht : eval (.Call (.Attribute o m apos) [] [] pos) X.env = (do
      let ov ← eval o X.env
      standAt apos.atName
      let (f, first) ← holding [ov] (getMethod ov m pl)
      callWith pos f first (backTo pos (starEach [] X.env)) (backToKw pos (keywordEach [] X.env))) := by rfl) :
    PE X (.Call (.Attribute o m apos) [] [] pos) (lV S (mMeth n C m f Ex mo mNil)) := (pmethT0 tk c hr he z ht).weak fun σ H Q ⟨ρ, F, W, Q', e, s, q, k⟩ => by
  rw [← hK]
  exact lMeth (ms := mNil) eo σ H Q ⟨ρ, F, W, Q', e, s, q, k⟩ |> fun h => by
    obtain ⟨ρ, F, W, Q1, e, s, q, k⟩ := h
    refine ⟨ρ, F, W, Q1, e, s, q, fun v d ρ1 F1 W1 a1 s1 r1 q1 => ?_⟩
    obtain ⟨a, dx, fs, h1, h2, h3, ρ2, F2, W2, Q2, e2, s2, q2, k2⟩ := k v d ρ1 F1 W1 a1 s1 r1 q1
    refine ⟨a, dx, fs, h1, h2, h3, ?_⟩
    have := k2 [] [] ρ2 F2 W2 s2.stp s2 .nil q2
    rw [e2] at this
    exact this
/-! ### objects that are made -/
abbrev Mi := List D → (List (Str × D) → Prop) → (Er → Prop) → Prop
/-- the promise of __init__ -/
def lFi (K : PySem.W.Frag) (n : Nat) (C : Str) (m : Mi) : Sp := fun vs H Q E => ∃ W W0 x us ds Q' E', W.H = H ∧ vs = .ref x :: us ∧ us.length = n ∧ W0.H x = none ∧ Go Nw W0 W ∧ RpS K W (.ref x) (.ownO C []) [x] ∧ RpL K W us ds ∧ m ds Q' E' ∧
  (∀ fs W', Go Nw W0 W' → RpS K W' (.ref x) (.ownO C fs) [x] → Q' fs → Q .non W'.H) ∧ ∀ er cls dx W', Go Nw W0 W' → ErK K W' er cls dx → E' er → E cls dx W'.H
def CanN (Z : Q.Env) (CX : CXT) (k : Nat) (x : Str) (ps : List Str) (dvs : List V) (sp : Sp) : Prop :=
  ∃ (f : Addr) (fd : FuncData) (ds : List Value), Z.mg x = some (.ref (He.ga Z.K x)) ∧ Mk Z.K (He.ga Z.K x) f ∧ Binds Z.K fd ps ds ∧ Vals dvs ds ∧ FnOk Z.P Z.w Z.K Z.mg Z.base CX k f fd ps sp
theorem CanN.mono {CX : CXT} {j : Nat} {x : Str} (c : CanN Z CX j x ps dvs sp) (h : j ≤ k) : CanN Z CX k x ps dvs sp := by
  obtain ⟨f, fd, ds, h1, h2, h3, h4, h5⟩ := c
  exact ⟨f, fd, ds, h1, h2, h3, h4, h5.mono h⟩
theorem CanN.imp {CX : CXT} {x : Str} {sp' : Sp} (c : CanN Z CX k x ps dvs sp) (h : ∀ vs H Q E, sp' vs H Q E → sp vs H Q E) : CanN Z CX k x ps dvs sp' := by
  obtain ⟨f, fd, ds, h1, h2, h3, h4, h5⟩ := c
  exact ⟨f, fd, ds, h1, h2, h3, h4, h5.imp h⟩
def tMakeT (C : Addr) (sp : Sp) (dvs : List V) (W : L2.WX) (t : TA) : TE := fun σ H Q => t σ H fun vs H1 => ∀ x dx, H1 x = none → H1 dx = none → dx ≠ x → sp (.ref x :: (vs ++ dvs)) (upd (upd H1 dx (.own x)) x (.ins C dx [])) (fun v H2 => v = .non ∧ Q (.ref x) H2) (fun cls d H2 => W cls d σ H2)
theorem pnewT {x : Str} (tk : L2N.Takes X We) (c : CanN Z (CXn Z) k x ps dvs sp) (hr : Room (k + 1) X.A) (ha : PA X (e :: es) t) (z : At Z X := by exact ⟨rfl, rfl, rfl, rfl, rfl⟩) (hg : Gl X x := by rfl) (hdb : (x == ("__debug__" : Str)) = false := by decide)
    (he : starEach (e :: es) X.env = (false, eval e X.env) :: starEach es X.env := by rfl) (hpl : (backTo pos (starEach es X.env)).any (·.1) = false := by rfl) :
    PE X (.Call (.Name x p) (e :: es) [] pos) (tMakeT (He.ga Z.K x) sp dvs We t) := by
  obtain ⟨f, fd, ds, h1, h2, h3, h4, h5⟩ := c
  obtain ⟨e1, e2, e3, e4, e5⟩ := z
  have tk2 := fun σ => L2N.passAt tk σ
  rw [e1, e2] at tk2
  rw [CXn, ← e1, ← e2, ← e3, ← e4, ← e5] at h5
  rw [← e3, ← e4] at h1
  rw [← e3] at h2 h3
  refine ⟨fun pins s σ H Q I h => ?_⟩
  rw [← e3] at h
  refine wpAny_Call_Name_kw (ld_glob I hg h1 ?_ hdb)
  refine PySem.W.callWith_K (h₀ := X.base) I.ok.mod.kin h2.kp (thn (ha.run pos pins s σ H _ I h) fun us s1 ⟨vs, H1, I1, r, q⟩ => ⟨I1.kIn, ?_⟩) he hpl
  have hq := q (s1.heap.objs.size + 1) s1.heap.objs.size (I1.hok.fresh (Nat.le_succ _)) (I1.hok.fresh (Nat.le_refl _)) (Nat.ne_of_lt (Nat.lt_succ_self _))
  have I2 := Inv.made (C := He.ga X.K x) I1
  have r2 : Vals (V.ref (s1.heap.objs.size + 1) :: (vs ++ dvs)) (Value.ref (s1.heap.objs.size + 1) :: (us ++ ds)) := .cons rfl (r.append h4)
  have hl : (Value.ref (s1.heap.objs.size + 1) :: us ++ ds).length = ps.length := by
    have z := r2.length
    rw [h5.len _ _ _ _ hq] at z
    exact z.symm
  refine wpAny_call (make_map (f := f) I1.kIn h2.makes h2.init (beq_iff_eq.mp h2.fn) (codeAny_mono (h5.run _ X.stack _ _ ⟨Value.ref (s1.heap.objs.size + 1) :: us, []⟩ (Value.ref (s1.heap.objs.size + 1) :: (us ++ ds)) _ _ _ (hr.make (He.ga X.K x) us [])
    (I2.env0.make (He.ga X.K x) us []) (h3 _ (Value.ref (s1.heap.objs.size + 1) :: us) I2.kIn hl) r2 hq) fun rr s2 hq2 => ?_))
  match rr, hq2 with
  | .error v, hq2 =>
    rw [e1, e2] at hq2
    exact tk2 σ pins _ _ v s2 I2 hq2
  | .ok (.ret u), hq2 =>
    obtain ⟨v, H2, I3, rv, ev, q3⟩ := I2.after hq2
    subst ev
    exact ⟨rv, V.ref (s1.heap.objs.size + 1), H2, I3, rfl, q3⟩
  | .ok .next, hq2 => exact False.elim hq2
  | .ok .brk, hq2 => exact False.elim hq2
  | .ok .cont, hq2 => exact False.elim hq2
def mNew (n : Nat) (C : Str) (m : Mi) (Ex : Er → Rho → Prop) (ms : Pa) : Pv := fun ρ Q => ms ρ fun ds ρ1 => ds.length = n ∧ m ds (fun fs => Q (.ownO C fs) ρ1) fun er => Ex er ρ1
theorem qNew {x : Str} {mi : Mi} (hK : S.K = Z.K) (tk : L2N.Takes X We) (eo : EOk S We Ex) (c : CanN Z (CXn Z) k x ps [] (lFi S.K n x mi)) (hr : Room (k + 1) X.A) (ha : PA X (e :: es) (lA S ms)) (z : At Z X := by exact ⟨rfl, rfl, rfl, rfl, rfl⟩) (hg : Gl X x := by rfl) (hdb : (x == ("__debug__" : Str)) = false := by decide)
    (he : starEach (e :: es) X.env = (false, eval e X.env) :: starEach es X.env := by rfl) (hpl : (backTo pos (starEach es X.env)).any (·.1) = false := by rfl) :
    PE X (.Call (.Name x p) (e :: es) [] pos) (lV S (mNew n x mi Ex ms)) := (pnewT tk c hr ha z hg hdb he hpl).weak fun σ H Q ⟨ρ, F, W, Q', e, s, q, k⟩ => by
  subst e
  refine ⟨ρ, F, W, _, rfl, s, q, fun vs ds ρ1 F1 W1 a1 s1 r1 ⟨hl, q1⟩ a dx ha hd hne => ?_⟩
  show lFi S.K n x mi (V.ref a :: (vs ++ [])) _ _ _
  rw [List.append_nil]
  have h1 : (W1.put dx (.own a) hd).H a = none := by
    show upd W1.H dx _ a = none
    rw [upd_ne (Ne.symm hne)]
    exact ha
  have g1 : Go Nw W1 ((W1.put dx (.own a) hd).ownO a (.ins (He.ga Z.K x) dx []) True.intro h1) := (Wd.put_go hd).trans (Wd.ownO_go h1) fun _ z => z.elim
  refine ⟨_, W1, a, vs, ds, _, _, rfl, rfl, by rw [r1.length]; exact hl, ha, g1, ?_, r1.up g1.ext, q1, fun fs W2 g hr q2 => ⟨rfl, ?_⟩, fun er cls dx' W2 g hk q2 => ?_⟩
  · rw [hK]
    exact .ownO (C := x) upd_same (.inr rfl) .nil
  · obtain ⟨a2, s2⟩ := s1.nw g
    exact k _ _ [a] ρ1 F1 W2 (a1.trans s s1 a2) s2 hr (fun y hy => by rw [List.mem_singleton.mp hy]; exact a1.go.free ha) q2
  · obtain ⟨a2, s2⟩ := s1.nw g
    exact eo er ρ1 F1 W2 σ cls dx' s2 hk q2
theorem fn_lFi {C name qual : Str} {st : Stmt} {N : List Str} {dvs : List V} {kws : List (Str × V)} {fa : Addr} {fd : FuncData} {m : Mi} (F : FunD Z.K name qual (defArgs st) (defBody st) (defScope st) dvs kws fa fd) (sc : FnScope N ps (defScope st)) (hn : ps.length = n + 1) (hN : n + 1 ≤ N.length) (mb : (Er → Prop) → Ps)
    (hm : ∀ ds Q E, m ds Q E → mb E { nx := fun ρ => ∃ fs, ρ[0]? = some (some (.ownO C fs)) ∧ Q fs, rt := fun _ => False } (some (.ownO C []) :: startR (N.length - (n + 1)) ds))
    (hbody : ∀ (cdv : Value) (A : Around) (outer : List PySem.Env) (s : Shared) (H : Hp) (E : XK) (W : Wd) (x : Addr) (E' : Er → Prop), Room k (A.deeper (envOfC qual (defScope st) s.heap.objs.size fa cdv)) → EOk ⟨Z.K, W, none, 0, some x, none⟩ (fun cls d _ H => E cls d H) (fun er _ => E' er) →
      PSs (cxOf (CXn Z) Z.P Z.w Z.K Z.mg Z.base N qual (defScope st) fa cdv A outer s H E) (defBody st) (lS ⟨Z.K, W, none, 0, some x, none⟩ (mb E'))) : FnOk Z.P Z.w Z.K Z.mg Z.base (CXn Z) (k + 1) fa fd ps (lFi Z.K n C m) := by
  refine F.ok sc (fun vs H Q E ⟨W, W0, x, us, ds, Q', E', _, ev, hl, _⟩ => by rw [ev, List.length_cons, hl, hn]) fun cdv A outer s H vs Q E hr ⟨W, W0, x, us, ds, Q', E', eH, ev, hl, hx, g0, ho, r, h, kq, ke⟩ => ?_
  subst eH ev
  have gs : ∀ {W' : Wd}, Go (Sx.sm ⟨Z.K, W0, none, 0, some x, none⟩) W0 W' → Go Nw W0 W' := fun g => g.mono (fun a ⟨c, z⟩ => by cases z) fun a z => z.elim
  refine ⟨_, hbody cdv A outer s W.H E W0 x E' hr fun er ρ F W1 σ cls dx s1 hk he => ke er cls dx W1 (gs s1.go) hk he, ?_⟩
  have e3 : (N.drop 1).length - us.length = N.length - (n + 1) := by rw [List.length_drop, hl]; omega
  have hss := sn_start (N := N.drop 1) r none none (fun _ _ z => nomatch z) false rfl 1000 (fun z => nomatch z)
  have e4 : L2.start N (V.ref x :: us) = some (.ref x) :: (us.map some ++ List.replicate (N.length - (n + 1)) none) := by
    unfold L2.start
    rw [List.map_cons, List.length_cons, hl]
    rfl
  have e5 : L2.start (N.drop 1) us = us.map some ++ List.replicate (N.length - (n + 1)) none := by
    unfold L2.start
    rw [e3]
  rw [e3] at hss
  simp only [Bool.false_eq_true, if_false] at hss
  rw [e5] at hss
  refine ⟨some (.ownO C []) :: startR (N.length - (n + 1)) ds, fun i => if i = 0 then [x] else [], W, { nx := fun ρ => ∃ fs, ρ[0]? = some (some (.ownO C fs)) ∧ Q' fs, rt := fun _ => False }, rfl, ?_, hm ds Q' E' h, ?_⟩
  · rw [e4]
    refine ⟨by rw [List.length_cons, List.length_cons, hss.len], g0.mono (fun _ z => z.elim) (fun a ⟨c, z⟩ => (by cases z)), fun a c e => (by cases e), fun i r0 e => ?_, fun i a h => ?_, fun i j a hi hj => ?_, fun a e => (by cases e; rfl), fun _ _ e => (nomatch e)⟩
    · match i, e with
      | 0, e => cases e; exact ⟨_, rfl, ho⟩
      | i + 1, e =>
        obtain ⟨v, e1, e2⟩ := hss.sv i r0 e
        exact ⟨v, e1, e2⟩
    · by_cases q : i = 0
      · rw [if_pos q] at h
        rw [List.mem_singleton.mp h]
        exact ⟨ho.inM x List.mem_cons_self, hx⟩
      · rw [if_neg q] at h; cases h
    · by_cases q : i = 0
      · by_cases q2 : j = 0
        · rw [q, q2]
        · rw [if_neg q2] at hj; cases hj
      · rw [if_neg q] at hi; cases hi
  · refine ⟨fun σ' ρ' F' W' a' s' ⟨fs, e, q⟩ => ?_, fun _ _ _ _ _ _ q => q.elim, fun _ _ _ _ _ _ q => q.elim, fun v r W' ro q => q.elim⟩
    obtain ⟨v, ev, hv⟩ := s'.sv 0 _ e
    have em := s'.me x rfl
    have ez : V.ref x = v := by
      have z : some (some (V.ref x)) = some (some v) := em.symm.trans ev
      cases z; rfl
    subst ez
    refine kq fs W' (gs s'.go) ?_ q
    generalize F' 0 = Y at hv
    cases hv with
    | ownO a b c => exact .ownO a b c
end
end U

/-! PuHot: a def that is called within an except clause; a list over a range there; isinstance of the error -/
namespace Q
open PySem PySem.Spec PyProof.Rows L2 TL

/-- how the class D of an error stands among the classes: nm its name, l the names asked -/
structure ErrRow (Z : Env) (D : Addr) (nm : Str) (l : List Str) : Prop where
  ex : ExcC Z.K D
  row : ∀ x ∈ l, ∃ C, Z.mg x = some (.ref C) ∧ PySem.W.kitOne Z.K (.ref D) (.ref C) = some (decide (x = nm))
  one : ∃ C, Z.mg "OneError" = some (.ref C) ∧ PySem.W.kitOne Z.K (.ref D) (.ref C) = some true
  val : PySem.W.kitOne Z.K (.ref D) (.type "ValueError") = some true
  mem : nm ∈ l
/-- a def that is called within a clause, with the error itself -/
abbrev SpE := Value → Option Addr → Hp → VK → Prop
structure FnE (Z : Env) (k : Nat) (f : Addr) (fd : FuncData) (ps : List Str) (sp : SpE) : Prop where
  len : ps.length = 1
  run : ∀ (A : Around) (outer : List PySem.Env) (s : Shared) (H : Hp) (args : Args) (us : List Value) (Q : VK) (p : Addr × Obj) (cls : Value) (d : Option Addr), L2H.RoomH k A → L2H.Hot1 A p → L2N.Zn cls d p.2 → (∃ vs, p.2.data = .fields vs) → L2H.PinOk outer H s p →
    Env0 Z.P Z.w Z.K Z.mg Z.base A outer s H → BindsTo s fd args (ps.zip us) → Vals [V.ref p.1] us → sp cls d H Q → codeAny (model Z.P Z.w) A (.call (.ref f) args) (CR CX0 outer Z.P Z.w H s Q E0) s
def CanE (Z : Env) (k : Nat) (x : Str) (ps : List Str) (sp : SpE) : Prop := ∃ (f : Addr) (fd : FuncData), Z.mg x = some (.ref f) ∧ PySem.W.keepIn Z.K (.ref f) = true ∧ Binds Z.K fd ps [] ∧ FnE Z k f fd ps sp
def tErr (sp : SpE) (a : Addr) (cls : Value) (d : Option Addr) (te : TE) : TE := fun σ H Q => te σ H fun v H1 => [v] = [V.ref a] ∧ sp cls d H1 Q
theorem pcallE {Z : Env} {X : Cx} {a : Addr} {oe : Obj} {cls : Value} {d : Option Addr} {pn : List (Addr × Obj)} {k : Nat} {x : Str} {ps : List Str} {sp : SpE} {e : Expr} {te : TE} {p pos : Pos} (c : CanE Z k x ps sp) (hr : Room k X.A) (hz : L2N.Zn cls d oe) (hf : ∃ vs, oe.data = .fields vs)
    (he : PE (X.suite a ((a, oe) :: pn)) e te) (z : At Z X := by exact ⟨rfl, rfl, rfl, rfl, rfl⟩) (hg : Gl X x := by rfl) (hdb : (x == ("__debug__" : Str)) = false := by decide)
    (hs : starEach [e] X.env = [(false, eval e X.env)] := by rfl) : PE (X.suite a ((a, oe) :: pn)) (.Call (.Name x p) [e] [] pos) (tErr sp a cls d te) := by
  obtain ⟨f, fd, h1, h2, h3, h5⟩ := c
  obtain ⟨e1, e2, e3, e4, e5⟩ := z
  have F := h5.run
  rw [← e1, ← e2, ← e3, ← e4, ← e5] at F
  rw [← e4] at h1
  rw [← e3] at h2 h3
  refine ⟨fun pins s σ H Q I h => ?_⟩
  refine wpAny_Call_Name_kw (ld_glob I hg h1 ?_ hdb)
  have ha : PA (X.suite a ((a, oe) :: pn)) [e] (tCons te tNil) := pa_cons he pa_nil (by exact hs)
  refine PySem.W.callWith_K (h₀ := X.base) I.ok.mod.kin h2 (thn (ha.run pos pins s σ H (fun us H1 => us = [V.ref a] ∧ sp cls d H1 Q) I h) fun us s1 ⟨vs, H1, I1, r, ev, q⟩ => ⟨I1.kIn, ?_⟩) (by exact hs) (by rfl)
  subst ev
  have r : Vals [V.ref a] us := r
  obtain ⟨vs0, hv0⟩ := hf
  have hot : L2H.Hot1 (X.suite a ((a, oe) :: pn)).A (a, oe) := ⟨rfl, vs0, hv0, hz.2.2 vs0 hv0⟩
  have P1 := I1.pin (a, oe) (List.mem_append_left _ List.mem_cons_self)
  have hpin : L2H.PinOk X.stack H1 s1 (a, oe) := ⟨P1.1, P1.2.1, fun hm => (List.mem_cons.mp (I1.stkSub a hm)).elim P1.2.2.1 P1.2.2.2.1, P1.2.2.2.2⟩
  have hl : us.length = ps.length := by rw [← r.length, h5.len]; rfl
  have b := h3 s1 us I1.kIn (by rw [List.append_nil]; exact hl)
  rw [List.append_nil] at b
  refine wpAny_call (codeAny_mono (F (X.suite a ((a, oe) :: pn)).A X.stack s1 H1 ⟨us, []⟩ us Q (a, oe) cls d ⟨hr.dp, hr.un⟩ hot hz ⟨vs0, hv0⟩ hpin I1.env0 b r q) fun rr s2 hq => ?_)
  match rr, hq with
  | .ok (.ret u), hq => exact I1.after hq
section
variable {X : Cx} {p : Addr × Obj}
/-- the error stays where it is while a block runs -/
theorem pin_blk {pins : List (Addr × Obj)} {σ σ' : L2.St} {H H' : Hp} {s s' s0 : Shared} {scope : Scope} {ce : PySem.Env} {fp : List Addr} (I : Inv X pins σ H s) (hp : p ∈ X.pn) (J : Inv (X.blk s0 H' scope ce fp) [] σ' H' s') (k : ∀ b o, s.heap.get? b = some o → s'.heap.get? b = some o)
    (hn : H' p.1 = none) (hL : p.1 ≠ ce.locals) : Inv (X.blk s0 H' scope ce fp) [p] σ' H' s' :=
  J.pins_of fun q hq => by
    have P1 := I.pin p (List.mem_append_left _ hp)
    rw [List.mem_singleton.mp hq]
    exact ⟨k _ _ P1.1, hn, hL, fun hm => (List.mem_cons.mp (I.stkSub p.1 hm)).elim P1.2.2.1 P1.2.2.2.1, P1.2.2.2.2⟩
theorem lcH_core {pins : List (Addr × Obj)} {s : Shared} {σ : L2.St} {H : Hp} {Q : VK} {elt tg iter : Expr} {ifs : List Expr} {scope : Scope} {own : List (Str × Nat)} {pos pos' : Pos} {wi : TI} {g : TG} {tt : TT} {te : TE} {use : Option (Value → Sem Unit)} {Qf : Value → Shared → Prop}
    (hot : L2H.Hot1 X.A p) (hp : p ∈ X.pn) (hN : X.N.Nodup) (I : Inv X pins σ H s) (hi : L2H.PIH X tg iter wi) (ok : BlkOk X.N X.env.scope scope own)
    (hg : ∀ (s0 : Shared) (H0 : Hp) (C : Addr) (cl : List (Str × Addr)) (fp : List Addr), PG (X.blk s0 H0 scope (compEnvC scope cl C X.env) fp) tg g)
    (ht : ∀ (s0 : Shared) (H0 : Hp) (C : Addr) (cl : List (Str × Addr)) (fp : List Addr), PTs (X.blk s0 H0 scope (compEnvC scope cl C X.env) fp) ifs tt)
    (he : ∀ (s0 : Shared) (H0 : Hp) (C : Addr) (cl : List (Str × Addr)) (fp : List Addr), PE (X.blk s0 H0 scope (compEnvC scope cl C X.env) fp) elt te) (hs : ∀ x, foldedSetIterable iter X.env x = pure x)
    (h : tLc wi g tt te (own.map (·.2)) σ H Q)
    (hRR : ∀ D C s' m H', Inv X pins σ H' s' → Q (.ref D) H' → s'.heap.Ns C m → FpOk X pins H' C → compPost (model X.prog X.w) X.A X.xe use Qf (.ref D) C (.ok .next) s') :
    wpAny (model X.prog X.w) X.A (comprehension (.ListComp elt [⟨tg, iter, ifs, 0⟩] scope pos) scope X.env pos' (newList []) false (eval iter X.env) use) Qf X.xe s := by
  have hfree : ∀ y ∈ scope.names, y.2 = .free → ∃ c, X.env.cells.lookup y.1 = some c := fun y hy e =>
    (ok.free y hy e).elim (fun k => I.ok.has _ (.inl k)) (fun k => I.ok.has _ (.inr k))
  refine wpAny_comprehension_free (use := use) rfl hs (closure_ok hfree) ok.kind (fun y hy e => by rw [ok.uniq y hy, e]) (thn (hi.run pins s σ H _ I h) fun xv s1 hx => thn hx fun itv s2 h2 => ?_)
  obtain ⟨it, fp, tn, J, H2, ei, I2, T, st2, f2, q⟩ := h2
  subst ei
  refine wpAny_newObj_type (newEnv_comp ?_) (by show 0 ≤ sizeLine; decide)
  generalize hD : s2.heap.objs.size = D
  obtain ⟨W, ⟨m0, w0⟩, turn⟩ := q D (I2.hok.fresh (Nat.le_of_eq hD))
  generalize hs3 : ({ s2 with heap := s2.heap.push { cls := .type "list", data := .seq ([] : List Value).toArray } } : Shared) = s3
  have h3 : s3.heap = s2.heap.push { cls := .type "list", data := .seq ([] : List Value).toArray } := by rw [← hs3]
  have I3 : Inv X pins σ (upd H2 D (.lst [])) s3 := by
    subst hs3
    refine I2.laid (t' := s2.toks) (fun b o e => Heap.get?_push_of_some _ e) (Nat.le_of_eq hD) ⟨Nat.zero_le _, [], 0, .nil, ?_⟩
    subst hD
    exact Heap.get?_push_size _ rfl
  have f3 : ∀ b ∈ fp, FpOk X pins (upd H2 D (.lst [])) b ∧ b < s3.heap.objs.size := fun b hb => by
    obtain ⟨ob, eb, _⟩ := T.obj _ _ st2 b hb
    have hlt := Heap.lt_size eb
    refine ⟨⟨?_, (f2 b hb).2⟩, by rw [h3, Heap.size_push]; exact Nat.lt_succ_of_lt hlt⟩
    rw [upd_ne (by rw [← hD]; exact Nat.ne_of_lt hlt)]
    exact (f2 b hb).1
  have st3 : tn 0 s3.heap := T.keep _ _ _ st2 fun b _ o e => by rw [h3]; exact Heap.get?_push_of_some _ e
  have I4 := block_start I3 ok hN f3
  have pg := hg s3 (upd H2 D (.lst [])) s3.heap.objs.size (cellsFrom (s3.heap.objs.size + 1) scope.names (cloFrom X.env.cells scope.names [])) fp
  have pt := ht s3 (upd H2 D (.lst [])) s3.heap.objs.size (cellsFrom (s3.heap.objs.size + 1) scope.names (cloFrom X.env.cells scope.names [])) fp
  have pe := he s3 (upd H2 D (.lst [])) s3.heap.objs.size (cellsFrom (s3.heap.objs.size + 1) scope.names (cloFrom X.env.cells scope.names [])) fp
  show codeAny _ _ (.compStart (.ListComp elt [⟨tg, iter, ifs, 0⟩] scope pos) 0 (.ref it) (.ref D) (compEnvC scope (cellsFrom (s3.heap.objs.size + 1) scope.names (cloFrom X.env.cells scope.names [])) s3.heap.objs.size X.env)) (compPost (model X.prog X.w) X.A X.xe use Qf (.ref D) s3.heap.objs.size)
    { s3 with heap := pushCells (s3.heap.push { cls := .type "dict", data := .dict #[] }) scope.names }
  have P3 := I3.pin p (List.mem_append_left _ hp)
  generalize hce : compEnvC scope (cellsFrom (s3.heap.objs.size + 1) scope.names (cloFrom X.env.cells scope.names [])) s3.heap.objs.size X.env = ce at I4 pg pt pe ⊢
  have cL : ce.locals = s3.heap.objs.size := by subst hce; rfl
  generalize hH3 : upd H2 D (.lst []) = H3 at I3 I4 pg pt pe w0 f3 P3
  generalize hs4 : ({ s3 with heap := pushCells (s3.heap.push { cls := .type "dict", data := .dict #[] }) scope.names } : Shared) = s4 at I4 ⊢
  have kp4 : ∀ b o, s3.heap.get? b = some o → s4.heap.get? b = some o := fun b o e => by rw [← hs4]; exact pushCells_keeps _ _ _ _ (Heap.get?_push_of_some _ e)
  have st4 : tn 0 s4.heap := T.keep _ _ _ st3 fun b _ o e => kp4 b o e
  have I4 := pin_blk I3 hp I4 kp4 P3.2.1 (by rw [cL]; exact Nat.ne_of_lt (Heap.lt_size P3.1))
  have npf : ∀ b ∈ fp, p.1 ≠ b := fun b hb => (f3 b hb).1.2.2.2.2.2 p (List.mem_append_left _ hp)
  have stat : ∀ {σ' : L2.St} {H' : Hp} {s' : Shared}, Inv (X.blk s3 H3 scope ce fp) [p] σ' H' s' → (∀ b ∈ fp, H' b = none) → ∀ b ∈ fp, FpOk (X.blk s3 H3 scope ce fp) [p] H' b := fun {σ' H' s'} I' hn b hb =>
    ⟨hn b hb, (I'.ok.exf b hb).1, I'.ok.exfs b hb, .inl hb, fun x c e => (I'.ok.exf b hb).2 x c e, fun q hq => by
      rw [List.mem_singleton.mp (show q ∈ [p] from hq)]
      exact npf b hb⟩
  let X' : Cx := (X.blk s3 H3 scope ce fp).tr [p] (fun _ _ => False)
  have hc' : L2H.HotC X' := ⟨p, hot, List.mem_singleton.mpr rfl⟩
  have inn : ∀ {σ' : L2.St} {H' : Hp} {s' : Shared}, Inv (X.blk s3 H3 scope ce fp) [p] σ' H' s' → Inv X' [] σ' H' s' := fun I' => I'.toTry _
  have loop : codeAny (model X.prog X.w) X.A (.compLoop (.ListComp elt [⟨tg, iter, ifs, 0⟩] scope pos) 0 (.ref it) (.ref D) ce) (compPost (model X.prog X.w) X.A X.xe use Qf (.ref D) s3.heap.objs.size) s4 := by
    refine compLoop_any (fun n s' => ∃ i H', Inv (X.blk s3 H3 scope ce fp) [p] (wipe σ (own.map (·.2))) H' s' ∧ tn i s'.heap ∧ (∀ b ∈ fp, H' b = none) ∧ W i n H') ?_ m0 ⟨0, H3, I4, st4, fun b hb => (f3 b hb).1.1, w0⟩
    rintro n s5 ⟨i, H5, I5, st5, n5, w5⟩
    have fpk : ∀ b ∈ fp, FpOk X' [] H5 b := fun b hb => stat I5 n5 b hb
    rcases turn i n H5 w5 with ⟨stop, qq⟩ | ⟨go, Nx, hNx, step⟩
    · have td := T.done X' rfl rfl rfl hc' i [] s5 _ H5 (fun _ _ => False) (inn I5) fpk st5 stop
      refine thnF td fun r s6 ⟨hr, J6⟩ => ?_
      subst hr
      have I6 : Inv (X.blk s3 H3 scope ce fp) [p] _ H5 s6 := Inv.ofTry (pins := [p]) J6 I5.ok
      have I7 : Inv X pins σ H5 s6 := I3.call' (ch := fp) I6.os I6.base I6.hok I6.bare fun b hb => ⟨(f3 b hb).1.2.2.2.1, (f3 b hb).1.2.1, (f3 b hb).1.2.2.2.2.1, (f3 b hb).1.2.2.2.2.2⟩
      have nC : H5 s3.heap.objs.size = none := by
        have z : H5 ce.locals = none := I6.free
        rw [cL] at z
        exact z
      obtain ⟨mm, hmm, _⟩ := I6.loc
      have hmm : s6.heap.Ns ce.locals mm := hmm
      rw [cL] at hmm
      exact hRR D s3.heap.objs.size s6 mm H5 I7 qq hmm (I3.fpOk (Nat.le_refl _) nC)
    · have ti := T.item X' rfl rfl rfl hc' i [] s5 _ H5 (fun _ _ => False) (inn I5) fpk st5 go
      refine thnF ti fun r s6 ⟨u, hr, h6⟩ => ?_
      subst hr
      refine thnF h6 fun _ s7 ⟨x, H7, J7, r7, y7, st7, n7⟩ => ?_
      have I7 : Inv (X.blk s3 H3 scope ce fp) [p] _ H7 s7 := Inv.ofTry (pins := [p]) J7 I5.ok
      have I7' := I7.pinned (stat I7 n7) (T.obj _ _ st7)
      refine thnF (pg.run _ s7 _ H7 x u _ I7' r7 (step x H7 y7)) fun _ s8 ⟨σ8, H8, I8, hw8, q8⟩ => ?_
      refine thnF (pt.run _ s8 σ8 H8 _ I8 q8) fun b s9 ⟨H9, I9, q9⟩ => ?_
      have fin : ∀ {s' : Shared} {H' : Hp}, Inv (X.blk s3 H3 scope ce fp) ([p] ++ pinsAt fp s7.heap) σ8 H' s' → Nx H' → ∃ m, m < n ∧ ∃ i H', Inv (X.blk s3 H3 scope ce fp) [p] (wipe σ (own.map (·.2))) H' s' ∧ tn i s'.heap ∧ (∀ b ∈ fp, H' b = none) ∧ W i m H' := fun {s' H'} I' nx => by
        obtain ⟨m', hm, w'⟩ := hNx H' nx
        have pin' : ∀ b ∈ fp, ∀ o, s7.heap.get? b = some o → s'.heap.get? b = some o ∧ H' b = none := fun b hb o e =>
          let z := I'.pin (b, o) (List.mem_append_right _ (List.mem_append_right _ (mem_pinsAt hb e)))
          ⟨z.1, z.2.1⟩
        refine ⟨m', hm, i + 1, H', (I'.unpinned (pins := [p])).weak (by rw [← hw8, wipe_length]) (fun j v e => ?_), T.keep _ _ _ st7 fun b hb o e => (pin' b hb o e).1, fun b hb => ?_, w'⟩
        · rw [← hw8] at e
          exact (wipe_some e).1
        · obtain ⟨o, e, _⟩ := T.obj _ _ st7 b hb
          exact (pin' b hb o e).2
      cases b with
      | false =>
        simp only [Bool.false_eq_true, if_false] at q9 ⊢
        exact fin I9 q9
      | true =>
        simp only [if_true] at q9 ⊢
        refine thnF (pe.run _ s9 σ8 H9 _ I9 q9) fun z s10 ⟨yv, H10, I10, r10, acc, hD10, hz10, nx⟩ => ?_
        exact app_ok (X := X.blk s3 H3 scope ce fp) I10 hD10 hz10 r10 fun s11 I11 => fin I11 nx
  exact codeAny_compStart_list loop (T.self X.A 0 _ _ _ st4 loop)
/-- name = [..] there -/
theorem ps_setLcH {i : Nat} {y : Str} {py : Pos} {elt tg iter : Expr} {ifs : List Expr} {scope : Scope} {own : List (Str × Nat)} {pos spos : Pos} {wi : TI} {g : TG} {tt : TT} {te : TE} (hot : L2H.Hot1 X.A p) (hp : p ∈ X.pn) (hN : X.N.Nodup) (hy : X.N[i]? = some y) (hyl : X.env.scope.names.lookup y = some .local)
    (hsw : swapsWith (.ListComp elt [⟨tg, iter, ifs, 0⟩] scope pos) (some (.Name y py)) spos.line X.env = pure true) (hi : L2H.PIH X tg iter wi) (ok : BlkOk X.N X.env.scope scope own)
    (hg : ∀ (s0 : Shared) (H0 : Hp) (C : Addr) (cl : List (Str × Addr)) (fp : List Addr), PG (X.blk s0 H0 scope (compEnvC scope cl C X.env) fp) tg g)
    (ht : ∀ (s0 : Shared) (H0 : Hp) (C : Addr) (cl : List (Str × Addr)) (fp : List Addr), PTs (X.blk s0 H0 scope (compEnvC scope cl C X.env) fp) ifs tt)
    (he : ∀ (s0 : Shared) (H0 : Hp) (C : Addr) (cl : List (Str × Addr)) (fp : List Addr), PE (X.blk s0 H0 scope (compEnvC scope cl C X.env) fp) elt te) (hs : ∀ x, foldedSetIterable iter X.env x = pure x := by intro _; rfl) :
    PS X (.Assign [.Name y py] (.ListComp elt [⟨tg, iter, ifs, 0⟩] scope pos) spos) (tAsg (tLc wi g tt te (own.map (·.2))) (gName i)) := by
  refine ⟨fun pins s σ H D I h => ?_⟩
  rw [exec_Assign_Name_used _ _ _ _ hsw]
  refine wpAny_bind (wpAny_standAt (wpAny_bind ?_))
  show wpAny _ X.A (do let _ ← comprehension (.ListComp elt [⟨tg, iter, ifs, 0⟩] scope pos) scope X.env (firstIterPos [⟨tg, iter, ifs, 0⟩] pos) (newList []) false (eval iter X.env) (some (assign (.Name y py) X.env))) _ _ s
  have h' : tLc wi g tt te (own.map (·.2)) σ H (fun x H1 => gName i x σ H1 D.nx) := h
  refine wpAny_bind (thn (lcH_core (Qf := fun _ s' => SP X pins D .next s') hot hp hN I hi ok hg ht he hs h' fun L C s1 m H1 I1 q hn f => ?_) fun _ s2 hq => wpAny_pure (wpAny_pure hq))
  show wpAny _ _ (assign (.Name y py) X.env (.ref L)) _ _ _
  refine wpAny_assign_Name (store_ok2 (v := V.ref L) I1 hN hy (.inl hyl) rfl (fun s2 I2 ⟨a, sb, ha⟩ => ?_) (.inr hyl))
  obtain ⟨f0, f1, f2, f3, f4, f5⟩ := f
  have haC : C ≠ a := ha.elim (fun z => by rw [z]; exact f1) fun z e => f4 y a z e.symm
  exact ⟨m, hn.sameBut sb haC, fun h3 sb3 => ⟨_, H1, I2.turned (t' := s2.toks) (fun b o hb e => (sb3.2 b hb).trans e) f0 f1 f3 f4 f5, q⟩⟩
/-- isinstance of the error that is handled -/
theorem isiE {D : Addr} (hp : p ∈ X.pn) (C : ExcC X.K D) (hz : L2N.Zn (.ref D) none p.2) (hf : ∃ vs, p.2.data = .fields vs) : CallR X (.builtin "isinstance") (rIsE X.K D p.1) := by
  intro pins s σ H xs us Q I r h
  obtain ⟨c, cv, b, rfl, hcv, e, q⟩ := h
  match us, r with
  | [_, u], .cons rx (.cons rt .nil) =>
    obtain rfl := hcv _ rt
    cases rx
    obtain ⟨hget, _⟩ := I.pin p (List.mem_append_left _ hp)
    obtain ⟨vs, hv⟩ := hf
    have J : PySem.W.InstAt s.heap p.1 p.2 D none := by
      obtain ⟨a, ⟨oc, od, oda, osl⟩⟩ := p
      obtain ⟨h1, h2, _⟩ := hz
      dsimp only at h1 h2 hv
      subst h1 h2 hv
      exact ⟨hget, rfl, rfl, trivial⟩
    exact PySem.W.kia_one (PySem.W.handS_kitx_exc C.hg C.hk C.hs C.hd C.ha C.hn C.ht C.hm) I.kIn J e (fun z => nomatch z) fun tk => ⟨.bl b, H, I.kept (t' := tk) fun _ _ z => z, rfl, q⟩
end
/-- a def that is called within a clause -/
theorem canE_of {Z : Env} {k : Nat} {x : Str} {st : Stmt} {N ps : List Str} {sp : SpE} (D : DefAt Z x st []) (S : FnScope N ps (defScope st)) (hl : ps.length = 1)
    (hb : ∀ (kV doc pm : Value) (an : Option Addr) (cdv ct : Value) (us : List Value), us.length = ps.length → bindArgs (PySem.W.fnOf x x (defArgs st) (defBody st) (defScope st) .none kV doc pm an cdv ct) ⟨us, []⟩ = pure (ps.zip us))
    (hbody : ∀ (f : Addr) (cdv : Value) (A : Around) (outer : List PySem.Env) (s : Shared) (H : Hp) (Q : VK) (p : Addr × Obj) (cls : Value) (d : Option Addr), L2H.Hot1 A p → L2N.Zn cls d p.2 → (∃ vs, p.2.data = .fields vs) → L2H.RoomH k (A.deeper (envOfC x (defScope st) s.heap.objs.size f cdv)) → sp cls d H Q →
      ∃ t, PSs (L2H.cxH CX0 Z.P Z.w Z.K Z.mg Z.base N x (defScope st) f cdv A outer s H E0 p) (defBody st) t ∧ t { nx := fun _ H' => Q .non H', rt := Q } (start N [.ref p.1]) H) : CanE Z (k + 1) x ps sp := by
  obtain ⟨f, fd, hm, F⟩ := D
  have b := FunD.bindsN F hb
  refine ⟨f, fd, hm, F.kp, b, hl, fun A outer s H args us Q p cls d hr hot hz hf hpin e0 hbt r hsp => ?_⟩
  obtain ⟨oc, od, dV, kV, doc, pm, an, cdv, ct, osl, rfl, lk, hcd, _, _⟩ := F.ex
  have KX : Z.K.In s.heap := e0.mod.kin.keeps fun b o e => (e0.bs b o e).1
  have lim : s.heap.NoLimit := e0.mod.nolimit.keeps fun b o e => (e0.bs b o e).1
  have hkind : ∀ y ∈ ps.zip us, (defScope st).names.lookup y.1 = some .local ∨ ((defScope st).names.lookup y.1 = some .cell ∧ ((cellsFrom (s.heap.objs.size + 1) (defScope st).names []).lookup y.1).isSome = true) := fun ⟨n, v⟩ hy =>
    (S.par n (List.of_mem_zip hy).1).elim (fun q => .inl q) fun q => .inr ⟨q, PySem.W.cellsFrom_some _ _ _ (.inl q)⟩
  refine codeAny_call_function hr.depth (KX _ _ lk) rfl S.co S.gen rfl (PySem.W.codeRec_of KX hcd) (hbt _ _ _ _ ?_)
  refine wpAny_newFunctionEnv_cells S.kind hkind fun env he s1 xx => ?_
  subst he
  refine ⟨lim.keeps xx.toInCall.keep, codeAny_func ?_⟩
  obtain ⟨t, ht, hq⟩ := hbody f cdv A outer s H Q p cls d hot hz hf (hr.deeper _) hsp
  have I := L2H.inv_startH (CX := CX0) (E := E0) S hpin e0 (show [V.ref p.1].length = ps.length by rw [hl]; rfl) r xx
  refine wpAny_mono (ht.run [] s1 _ H _ I hq) (fun fl s2 hfl => ?_) fun e s2 hfl => hfl
  have fin : ∀ {σ2 : L2.St} {H2 : Hp} {v : V} {u : Value}, Inv (L2H.cxH CX0 Z.P Z.w Z.K Z.mg Z.base N x (defScope st) f cdv A outer s H E0 p) [] σ2 H2 s2 → RelV v u → Q v H2 → CE outer Z.P Z.w H s Q u s2 := by
    intro σ2 H2 v u J rv q
    exact ⟨v, H2, J.os, J.bare, J.base, J.hok, rv, q⟩
  cases fl with
  | ret u =>
    obtain ⟨v, σ2, H2, J, rv, q⟩ := hfl
    exact fin J rv q
  | next =>
    obtain ⟨σ2, H2, J, q⟩ := hfl
    exact fin (v := V.non) (u := Value.none) J rfl q
  | brk =>
    obtain ⟨_, _, _, q⟩ := hfl
    exact False.elim q
  | cont =>
    obtain ⟨_, _, _, q⟩ := hfl
    exact False.elim q
theorem err_one {nm : Str} (h : nm ∈ errNs) : errNs.filter (fun x => decide (x = nm)) = [nm] := by
  simp only [errNs, List.mem_cons, List.not_mem_nil, or_false] at h
  rcases h with h | h | h | h | h | h | h | h | h | h | h | h | h | h | h <;> (subst h; decide +kernel)
theorem i_isE {K : PySem.W.Frag} {D a : Addr} {c C : Addr} {b : Bool} {H : Hp} {Q : VK} (e : PySem.W.kitOne K (.ref D) (.ref C) = some b) (q : Q (.bl b) H) : rIsE K D a [.ref a, .ref C] H Q := ⟨.ref C, .ref C, b, rfl, fun _ h => h, e, q⟩
theorem i_isEt {K : PySem.W.Frag} {D a : Addr} {T : String} {b : Bool} {H : Hp} {Q : VK} (e : PySem.W.kitOne K (.ref D) (.type T) = some b) (q : Q (.bl b) H) : rIsE K D a [.ref a, .ty T] H Q := ⟨.ty T, .type T, b, rfl, fun _ h => h, e, q⟩
theorem fil_t {α : Type} {P : α → Bool} {c : α} (h : P c = true) : List.filter P [c] = [c] := by rw [List.filter_cons_of_pos h, List.filter_nil]
theorem fil_f {α : Type} {P : α → Bool} {c : α} (h : P c = false) : List.filter P [c] = [] := by rw [List.filter_cons_of_neg (by rw [h]; decide), List.filter_nil]
theorem h64Hq {k : Nat} {A : Around} (r : L2H.RoomH k A) : A.units + 64 < cLine := by have := r.un; omega
end Q

/-! PuJ: errors raised, caught, told; texts -/
namespace U
open PySem PySem.Spec PyProof.Rows L2 Q
abbrev vBase : List Value := [.type "ValueError", .type "Exception", .type "BaseException", .type "object"]
/-- an error class of the text, made with a text -/
structure ErrC (Z : Q.Env) (x : Str) : Prop where
  gl : Z.mg x = some (.ref (He.ga Z.K x))
  kp : PySem.W.keepIn Z.K (.ref (He.ga Z.K x)) = true
  exc : PySem.W.excIn Z.K (He.ga Z.K x) vBase "ValueError.__new__" = true
  sub : PySem.W.subIn Z.K (.ref (He.ga Z.K x)) (.type "BaseException") = some true
  ty : PySem.W.typeIn Z.K (.ref (He.ga Z.K x)) = some (.type "type")
section
variable {Z : Q.Env} {X : Cx} {S : Sx} {x m : Str} {j : Nat} {p p2 pos pos' : Pos} {We : L2.WX} {Ex : Er → Rho → Prop}
theorem pmkE (q : ErrC Z x) (z : At Z X := by exact ⟨rfl, rfl, rfl, rfl, rfl⟩) (hg : Gl X x := by rfl) (hdb : (x == ("__debug__" : Str)) = false := by decide) :
    L2N.PMk X (.Call (.Name x p) [.Constant (.str m) j p2] [] pos) (fun _ H Q => Q (.ref (He.ga Z.K x)) none H) := by
  obtain ⟨h1, h2, h3, h4, h5⟩ := q
  obtain ⟨e1, e2, e3, e4, e5⟩ := z
  rw [← e4] at h1
  rw [← e3] at h1 h2 h3 h4 h5 ⊢
  exact L2N.pmk_own PySem.F.excBase_ValueError h3 h1 h2 (raises_own h4 h5) hg hdb
def mRaise (x : Str) (Ex : Er → Rho → Prop) : Ps := fun _ ρ => Ex (.plain x) ρ
theorem qRaise (hK : S.K = Z.K) (hc : X.calm = true) (tk : L2N.Takes X We) (eo : EOk S We Ex) (q : ErrC Z x) (z : At Z X := by exact ⟨rfl, rfl, rfl, rfl, rfl⟩) (hg : Gl X x := by rfl) (hdb : (x == ("__debug__" : Str)) = false := by decide) :
    PS X (.Raise (some (.Call (.Name x p) [.Constant (.str m) j p2] [] pos)) none pos') (lS S (mRaise x Ex)) := (L2N.ps_raise hc tk (pmkE q z hg hdb)).weak fun E σ H ⟨ρ, F, W, E', e, s, q, c⟩ => by
  subst e
  exact eo (.plain x) ρ F W σ _ none s ⟨by rw [hK], rfl⟩ q
/-! ### try -/
abbrev Sx.at (S : Sx) (W : Wd) (F : Fp) : Sx := ⟨S.K, S.W0, S.st, S.sl, S.me, some (W, F)⟩
theorem Sn.to {W : Wd} {σ : L2.St} {ρ : Rho} {F : Fp} (s : Sn S W σ ρ F) : Sn (S.at W F) W σ ρ F := ⟨s.len, s.go, s.sto, s.sv, s.new, s.dj, s.me, fun Wb Fb e => by
  cases e
  exact ⟨s.stpS.go, s.stpS.sub⟩⟩
theorem Sn.back {W Wb : Wd} {σ : L2.St} {ρ : Rho} {F Fb : Fp} (s : Sn (S.at Wb Fb) W σ ρ F) (h : ∀ W1 F1, S.tb = some (W1, F1) → StpS S F1 W1 Fb Wb) : Sn S W σ ρ F ∧ StpS S Fb Wb F W :=
  have a : StpS S Fb Wb F W := ⟨(s.tb Wb Fb rfl).go, (s.tb Wb Fb rfl).sub⟩
  ⟨⟨s.len, s.go, s.sto, s.sv, s.new, s.dj, s.me, fun W1 F1 e => (h W1 F1 e).trans a⟩, a⟩
def wEnd (i : Nat) (E : PEnds) : PEnds := { nx := fun ρ => E.nx (ρ.set i none), rt := E.rt, bk := fun ρ => E.bk (ρ.set i none), ct := fun ρ => E.ct (ρ.set i none) }
def mTry (Cs : List Str) (mb : (Er → Rho → Prop) → Ps) (i : Nat) (hd : Er → Ps) : Ps := fun E ρ => mb (fun er ρ1 => er.nm ∈ Cs ∧ i < ρ1.length ∧ hd er (wEnd i E) ρ1) E ρ
/-- a clause does what is said -/
def HOk (S : Sx) (i : Nat) (ts : Addr → Value → Option Addr → TS) (hd : Er → Ps) : Prop := ∀ a cls d er σ ρ F W E E', W.H a = none → i < σ.length → Sn S W σ ρ F → ErK S.K W er cls d → hd er E' ρ → Cont S F W E' E → ts a cls d E (σ.set i (some (.ref a))) W.H
theorem qTry {Cs : List Str} {mb : (Er → Rho → Prop) → Ps} {i : Nat} {hd : Er → Ps} {n : Str} {c : Value} {body suite : List Stmt} {b₀ : Stmt} {np : Pos} {ts : Addr → Value → Option Addr → TS} (hs : X.stack = X.env :: X.outer) (hf : X.env.frame = some X.env.locals) (hN : X.N.Nodup) (hi : X.N[i]? = some n) (hln : X.env.kindOf n = some .local) (hc : L2.Names X x c) (tk : L2N.Takes X We) (hK : X.K = S.K) (hS : (S.sl == i) = false)
    (hC : ∀ C ∈ Cs, PySem.W.exmOne S.K (.ref (He.ga S.K C)) c = some true)
    (hb : ∀ (We' : L2.WX) (pn : List (Addr × Obj)) (xe : Value → Shared → Prop), L2N.Takes (X.tr pn xe) We' → PassesOwn (model X.prog X.w) X.A X.env xe → ∀ (Wb : Wd) (Fb : Fp) (ExT : Er → Rho → Prop), EOk (S.at Wb Fb) We' ExT → PSs (X.tr pn xe) body (lS (S.at Wb Fb) (mb ExT)))
    (hsu : ∀ (a : Addr) (oe : Obj) (cls : Value) (d : Option Addr) (pn : List (Addr × Obj)), L2N.Zn cls d oe → (∃ vs, oe.data = .fields vs) → PSs (X.suite a ((a, oe) :: pn)) (b₀ :: suite) (ts a cls d)) (ho : HOk S i ts hd) :
    PS X (.Try body [.ExceptHandler (some (.Name x np)) (some n) (b₀ :: suite) pos'] [] [] pos) (lS S (mTry Cs mb i hd)) :=
  (L2N.ps_try_as (tb := fun We' D σ H => ∃ Wb Fb ExT, EOk (S.at Wb Fb) We' ExT ∧ lS (S.at Wb Fb) (mb ExT) D σ H) (ts := ts) (Wout := We) hs hf hN hi hln hc tk (fun We' pn xe tk' po => ⟨fun pins s σ H D I ⟨Wb, Fb, ExT, eo, h⟩ => (hb We' pn xe tk' po Wb Fb ExT eo).run pins s σ H D I h⟩) hsu).weak fun D σ H ⟨ρ, F, W, E', e, s, q, c⟩ => by
    subst e
    have hiN : i < X.N.length := (List.getElem?_eq_some_iff.mp hi).1
    have sb : ∀ {σ1 : L2.St} {ρ1 : Rho} {F1 : Fp} {W1 : Wd}, Sn (S.at W F) W1 σ1 ρ1 F1 → Sn S W1 σ1 ρ1 F1 ∧ StpS S F W F1 W1 := fun s1 => s1.back fun W1 F1 e => s.tb W1 F1 e
    refine ⟨W, F, fun er ρ1 => (er.nm ∈ Cs ∧ i < ρ1.length ∧ hd er (wEnd i E') ρ1), fun er ρ1 F1 W1 σ1 cls dx s1 hk ⟨hm, hl, hh⟩ => ?_, ρ, F, W, E', rfl, s.to, q, ⟨fun σ' ρ' F' W' a s' q' => ?_, fun σ' ρ' F' W' a s' q' => ?_, fun σ' ρ' F' W' a s' q' => ?_, fun v r W' ro q' => c.rt v r W' ⟨ro.go, ro.sto, ro.rp⟩ q'⟩⟩
    · obtain ⟨s2, a2⟩ := sb s1
      have hcls : cls = .ref (He.ga S.K er.nm) := by
        cases er with
        | plain n => exact hk.1
        | pay n f d => exact hk.1
      refine ⟨true, by rw [hK, hcls]; exact hC _ hm, fun _ a ha => ?_, fun h => nomatch h⟩
      · refine ho a cls dx er σ1 ρ1 F1 W1 _ _ ha (by rw [s2.len]; exact hl) s2 hk hh ⟨fun σ' ρ' F' W' a' s' q' => ?_, fun σ' ρ' F' W' a' s' q' => ?_, fun σ' ρ' F' W' a' s' q' => ?_, c.rt⟩
        · exact c.nx _ _ (F0 F' i []) W' ((a2.trans a').trans ⟨s'.refl, fun j x hx => .inl ⟨j, by
            by_cases z : j = i
            · subst z; rw [F0_at] at hx; cases hx
            · rw [F0_ne z] at hx; exact hx⟩⟩) (s'.un hS none) q'
        · exact c.bk _ _ (F0 F' i []) W' ((a2.trans a').trans ⟨s'.refl, fun j x hx => .inl ⟨j, by
            by_cases z : j = i
            · subst z; rw [F0_at] at hx; cases hx
            · rw [F0_ne z] at hx; exact hx⟩⟩) (s'.un hS none) q'
        · exact c.ct _ _ (F0 F' i []) W' ((a2.trans a').trans ⟨s'.refl, fun j x hx => .inl ⟨j, by
            by_cases z : j = i
            · subst z; rw [F0_at] at hx; cases hx
            · rw [F0_ne z] at hx; exact hx⟩⟩) (s'.un hS none) q'
    · obtain ⟨s2, a2⟩ := sb s'
      exact c.nx σ' ρ' F' W' ⟨a.go, a.sub⟩ s2 q'
    · obtain ⟨s2, a2⟩ := sb s'
      exact c.bk σ' ρ' F' W' ⟨a.go, a.sub⟩ s2 q'
    · obtain ⟨s2, a2⟩ := sb s'
      exact c.ct σ' ρ' F' W' ⟨a.go, a.sub⟩ s2 q'
/-! what a clause does -/
/-- the promise of a def that tells an error -/
abbrev Me := Er → (D → Prop) → Prop
def lE (K : PySem.W.Frag) (m : Me) : SpE := fun cls d H Q => ∃ W er Q', W.H = H ∧ ErK K W er cls d ∧ m er Q' ∧ ∀ v x W', Go Nw W W' → Rp K W' v x → Q' x → Q v W'.H
def hRet (m : Me) : Er → Ps := fun er E _ => m er fun d => E.rt (.dat d)
theorem hRetOk {i : Nat} {m : Me} : HOk S i (fun a cls d => tRet (tErr (lE S.K m) a cls d (tVar i))) (hRet m) := fun a cls d er σ ρ F W E E' ha hi s hk h c => by
  refine ⟨.ref a, by rw [List.getElem?_set_self hi], rfl, W, er, _, rfl, hk, h, fun v x W' g r q => ?_⟩
  obtain ⟨a2, s2⟩ := s.nw g
  exact c.rt v (.dat x) W' (s2.ret (.dat r) fun _ z => nomatch z) q
def hSet (i j : Nat) (m : Me) : Er → Ps := fun er E ρ => m er fun d => E.nx ((ρ.set i none).set j (some (.dat d)))
theorem hSetOk {i j : Nat} {m : Me} (hi : (S.sl == i) = false := by rfl) (hj : (S.sl == j) = false := by rfl) : HOk S i (fun a cls d => tAsg (tErr (lE S.K m) a cls d (tVar i)) (gName j)) (hSet i j m) := fun a cls d er σ ρ F W E E' ha hl s hk h c => by
  refine ⟨.ref a, by rw [List.getElem?_set_self hl], rfl, W, er, _, rfl, hk, h, fun v x W' g r q => ?_⟩
  obtain ⟨a2, s2⟩ := s.nw g
  have s3 := s2.un hi (some (.ref a))
  have s4 := s3.set (i := j) (Y := []) (.dat r) (fun _ z => nomatch z) hj
  refine c.nx _ _ (F0 (F0 F i []) j []) W' ⟨a2.go, fun k x hx => .inl ⟨k, ?_⟩⟩ s4 q
  by_cases z : k = j
  · subst z; rw [F0_at] at hx; cases hx
  · rw [F0_ne z] at hx
    by_cases z2 : k = i
    · subst z2; rw [F0_at] at hx; cases hx
    · rw [F0_ne z2] at hx; exact hx
/-! ### a def within a clause -/
theorem can_lE {st : Stmt} {N ps : List Str} {k : Nat} {m : Me} (Df : DefAt Z x st []) (sc : FnScope N ps (defScope st)) (hl : ps.length = 1) (hN : 1 ≤ N.length) (mb : Er → Ps) (P : Er → Prop) (hP : ∀ er Q, m er Q → P er)
    (hb : ∀ (kV doc pm : Value) (an : Option Addr) (cdv ct : Value) (us : List Value), us.length = ps.length → bindArgs (PySem.W.fnOf x x (defArgs st) (defBody st) (defScope st) .none kV doc pm an cdv ct) ⟨us, []⟩ = pure (ps.zip us))
    (hm : ∀ er Q, m er Q → mb er { nx := fun _ => Q .non, rt := fun r => Q r.d } (List.replicate N.length none))
    (hok : ∀ er Q, m er Q → ErrRow Z (He.ga Z.K er.nm) er.nm errNs)
    (hbody : ∀ (f : Addr) (cdv : Value) (A : Around) (outer : List PySem.Env) (s : Shared) (H : Hp) (p : Addr × Obj) (d : Option Addr) (er : Er) (W : Wd), P er → L2H.Hot1 A p → L2N.Zn (.ref (He.ga Z.K er.nm)) d p.2 → (∃ vs, p.2.data = .fields vs) → ErrRow Z (He.ga Z.K er.nm) er.nm errNs → ErK Z.K W er (.ref (He.ga Z.K er.nm)) d → L2H.RoomH k (A.deeper (envOfC x (defScope st) s.heap.objs.size f cdv)) →
      PSs (L2H.cxH CX0 Z.P Z.w Z.K Z.mg Z.base N x (defScope st) f cdv A outer s H E0 p) (defBody st) (lS ⟨Z.K, W, none, 0, some p.1, none⟩ (mb er))) : CanE Z (k + 1) x ps (lE Z.K m) := by
  refine canE_of Df sc hl hb fun f cdv A outer s H Q p cls d hot hz hf hr ⟨W, er, Q', eH, hk, h, kq⟩ => ?_
  subst eH
  have hcls : cls = .ref (He.ga Z.K er.nm) := by
    cases er with
    | plain n => exact hk.1
    | pay n f d => exact hk.1
  subst hcls
  refine ⟨_, hbody f cdv A outer s W.H p d er W (hP er Q' h) hot hz hf (hok er Q' h) hk hr, List.replicate N.length none, fun _ => [], W, { nx := fun _ => Q' .non, rt := fun r => Q' r.d }, rfl, ?_, hm er Q' h, ?_⟩
  · refine ⟨?_, Go.refl fun a ⟨c, z⟩ => (by cases z), fun a c e => (by cases e), fun i r e => ?_, fun i a h => (nomatch h), fun i j a h => (nomatch h), fun a e => (by cases e; rfl), fun _ _ e => (nomatch e)⟩
    · unfold L2.start
      rw [List.length_append, List.length_map, List.length_replicate, List.length_replicate]
      show 1 + (N.length - 1) = _
      omega
    · rw [List.getElem?_replicate] at e
      split at e <;> cases e
  · have gs : ∀ {W' : Wd}, Go (Sx.sm ⟨Z.K, W, none, 0, some p.1, none⟩) W W' → Go Nw W W' := fun g => g.mono (fun a ⟨c, z⟩ => (by cases z)) fun a z => z.elim
    refine ⟨fun σ' ρ' F' W' a' s' q => kq .non .non W' (gs s'.go) .non q, fun _ _ _ _ _ _ q => q.elim, fun _ _ _ _ _ _ q => q.elim, fun v r W' ro q => ?_⟩
    obtain ⟨Y, hr, hY⟩ := ro.rp
    have g0 := gs ro.go
    exact kq v r.d (W'.drop Y) (g0.drop fun y hy => .inl (hY y hy)) hr.drop q
/-- isinstance of the error -/
theorem qIsE {e c : Expr} {nm : Str} {d : Option Addr} {v : V} {b : Bool} {pe : Addr × Obj} (hp : pe ∈ X.pn) (C : ExcC X.K (He.ga X.K nm)) (hz : L2N.Zn (.ref (He.ga X.K nm)) d pe.2) (hd : d = none) (hf : ∃ vs, pe.2.data = .fields vs) (hg : Gl X "isinstance") (hm : X.mg "isinstance" = none)
    (hme : S.me = some pe.1) (he : PE X e (tVar S.sl)) (hc : PE X c (tC v)) (u : Value) (hv : ∀ w, RelV v w → w = u) (hk : PySem.W.kitOne X.K (.ref (He.ga X.K nm)) u = some b)
    (hs : starEach [e, c] X.env = (false, eval e X.env) :: starEach [c] X.env := by rfl) (hs2 : starEach [c] X.env = (false, eval c X.env) :: starEach [] X.env := by rfl) (hpl : (backTo pos (starEach [c] X.env)).any (·.1) = false := by rfl) :
    PE X (.Call (.Name "isinstance" p) [e, c] [] pos) (lD S (mC (.bl b))) := by
  subst hd
  exact (pe_callB (isiE hp C hz hf) hg hm (by decide +kernel) (pa_cons he (pa_cons hc pa_nil hs2) hs) (by decide) (by decide) hs hpl).weak fun σ H Q ⟨ρ, F, W, Q', e, s, q, k⟩ => by
    subst e
    exact ⟨.ref pe.1, s.me _ hme, v, u, b, rfl, hv, hk, k _ _ ρ F W s.stp s .bl q⟩
/-- name = [..] within a clause, over a range -/
theorem qSetLcH {p : Addr × Obj} {i : Nat} {y : Str} {py : Pos} {elt tg a : Expr} {ifs : List Expr} {scope : Scope} {own : List (Str × Nat)} {spos rp rpos : Pos} {ms : Pa} {g : TG} {b : Bnd} {tt : Pt} {te : Pd} (hot : L2H.Hot1 X.A p) (hp : p ∈ X.pn) (hN : X.N.Nodup) (hy : X.N[i]? = some y) (hyl : X.env.scope.names.lookup y = some .local)
    (hsw : swapsWith (.ListComp elt [⟨tg, .Call (.Name "range" rp) [a] [] rpos, ifs, 0⟩] scope pos) (some (.Name y py)) spos.line X.env = pure true) (hg0 : Gl X "range") (hm0 : X.mg "range" = none) (ha : PA X [a] (lA S ms)) (ok : BlkOk X.N X.env.scope scope own)
    (hg : ∀ (s : Shared) (H : Hp) (C : Addr) (cl : List (Str × Addr)) (fp : List Addr), PG (X.blk s H scope (compEnvC scope cl C X.env) fp) tg g) (ht : ∀ (s : Shared) (H : Hp) (C : Addr) (cl : List (Str × Addr)) (fp : List Addr), PTs (X.blk s H scope (compEnvC scope cl C X.env) fp) ifs (lT S tt))
    (he : ∀ (s : Shared) (H : Hp) (C : Addr) (cl : List (Str × Addr)) (fp : List Addr), PE (X.blk s H scope (compEnvC scope cl C X.env) fp) elt (lD S te)) (ho : GOkW S g b (own.map (·.2))) (hv : ((own.map (·.2)).all fun v => !(S.sl == v)) = true) (hS : (S.sl == i) = false := by rfl)
    (hs1 : starEach [a] X.env = [(false, eval a X.env)] := by rfl) (hs : ∀ x, foldedSetIterable (.Call (.Name "range" rp) [a] [] rpos) X.env x = pure x := by intro _; rfl) :
    PS X (.Assign [.Name y py] (.ListComp elt [⟨tg, .Call (.Name "range" rp) [a] [] rpos, ifs, 0⟩] scope pos) spos) (lS S (mSet i (mLc (mRng1 ms) b tt te (own.map (·.2))))) := (ps_setLcH hot hp hN hy hyl hsw (L2H.pi_range1H hg0 hm0 ha hs1) ok hg ht he hs).weak
  (lSet hS fun σ H Q ⟨ρ, F, W, Q', e, s, q, k⟩ => lLc (fun σ H R ⟨ρ, F, W, Q', e, s, q, k⟩ => by
    subst e
    refine ⟨ρ, F, W, _, rfl, s, q, fun vs ds ρ1 F1 W1 a1 s1 r1 ⟨j, e, h1, h2, q1⟩ => ?_⟩
    subst e
    cases r1 with
    | cons r rr =>
      cases r
      cases rr
      exact ⟨j, rfl, h1, h2, k _ _ ρ1 F1 W1 a1 s1 it_rng q1⟩) ho (fun _ _ _ h => h) (fun _ _ _ h => h) (all_ne hv) σ H Q ⟨ρ, F, W, Q', e, s, q, fun v r X ρ' F' W' a => k v r X ρ' F' W' a.toStpM⟩)
/-! ### texts -/
/-- f'..' -/
def mJs : List Pd → Str → Rho → (Str → Rho → Prop) → Prop
  | [], acc, ρ, Q => Q acc ρ
  | m :: ms, acc, ρ, Q => m ρ fun d ρ1 => ∃ y, d = .str y ∧ (acc ++ y).length ≤ sizeLine ∧ mJs ms (acc ++ y) ρ1 Q
def mFmt (m : Pd) : Pd := fun ρ Q => m ρ fun d ρ1 => (∃ y, d = .str y ∧ y.length ≤ sizeLine ∧ Q (.str y) ρ1) ∨ ∃ i : Int, d = .int i ∧ i.natAbs.log2 < 1920 ∧ Q (.str (toString i)) ρ1
theorem qFmt {e : Expr} {m : Pd} (he : PE X e (lD S m)) : PE X (.FormattedValue e (-1) none pos) (lD S (mFmt m)) := (pe_fmt he).weak fun σ H Q ⟨ρ, F, W, Q', e, s, q, k⟩ => by
  subst e
  refine ⟨ρ, F, W, _, rfl, s, q, fun v d ρ1 F1 W1 a1 s1 r1 q1 => ?_⟩
  rcases q1 with ⟨y, rfl, h, q1⟩ | ⟨i, rfl, h, q1⟩
  · cases r1
    exact .inl ⟨y, rfl, h, k _ _ ρ1 F1 W1 a1 s1 .str q1⟩
  · cases r1
    exact .inr ⟨i, rfl, h, k _ _ ρ1 F1 W1 a1 s1 .str q1⟩
def mJoined (ms : List Pd) : Pd := fun ρ Q => mJs ms Str.empty ρ fun z ρ1 => Q (.str z) ρ1
theorem lJs : ∀ (ms : List Pd) (acc : Str) (σ : L2.St) (ρ : Rho) (F : Fp) (W : Wd) (Q : Str → Hp → Prop) (Q' : Str → Rho → Prop), Sn S W σ ρ F → mJs ms acc ρ Q' → (∀ z ρ' F' W', Stp S F W F' W' → Sn S W' σ ρ' F' → Q' z ρ' → Q z W'.H) → tJs (ms.map (lD S)) acc σ W.H Q
  | [], acc, σ, ρ, F, W, Q, Q', s, q, k => k acc ρ F W s.stp s q
  | m :: ms, acc, σ, ρ, F, W, Q, Q', s, q, k => by
    refine ⟨ρ, F, W, _, rfl, s, q, fun v d ρ1 F1 W1 a1 s1 r1 ⟨y, ed, hz, q1⟩ => ?_⟩
    subst ed
    cases r1
    exact ⟨y, rfl, hz, lJs ms _ σ ρ1 F1 W1 Q Q' s1 q1 fun z ρ2 F2 W2 a2 s2 q2 => k z ρ2 F2 W2 (a1.trans s s1 a2) s2 q2⟩
theorem qJoined {v1 v2 : Expr} {rest : List Expr} {ms : List Pd} (h : PJ X (v1 :: v2 :: rest) (ms.map (lD S))) : PE X (.JoinedStr (v1 :: v2 :: rest) pos) (lD S (mJoined ms)) := (pe_joined h).weak fun σ H Q ⟨ρ, F, W, Q', e, s, q, k⟩ => by
  subst e
  exact lJs ms _ σ ρ F W _ _ s q fun z ρ1 F1 W1 a1 s1 q1 => k _ _ ρ1 F1 W1 a1 s1 .str q1
/-- methods of texts with one argument -/
def mM1 (f : D → D → (SV → Prop) → Prop) (mo ma : Pd) : Pv := fun ρ Q => mo ρ fun d ρ1 => (∃ z, d = .str z) ∧ ma ρ1 fun e ρ2 => f d e fun r => Q r ρ2
def M1Ok (K : PySem.W.Frag) (r : V → List V → Hp → VK → Prop) (f : D → D → (SV → Prop) → Prop) : Prop := ∀ (W : Wd) (v u : V) (d e : D) (Q : VK) (Q' : SV → Prop), Rp K W v d → Rp K W u e → f d e Q' → (∀ z c X W', Go Nw W W' → RpS K W' z c X → (∀ a ∈ X, W.H a = none) → Q' c → Q z W'.H) → r v [u] W.H Q
theorem lM1 {r : V → List V → Hp → VK → Prop} {f : D → D → (SV → Prop) → Prop} {mo ma : Pd} (ho : M1Ok S.K r f) (σ : L2.St) (H : Hp) (Q : VK) (h : lV S (mM1 f mo ma) σ H Q) : tM1 r (lD S mo) (lD S ma) σ H Q := by
  obtain ⟨ρ, F, W, Q', e, s, q, k⟩ := h
  subst e
  refine ⟨ρ, F, W, _, rfl, s, q, fun v d ρ1 F1 W1 a1 s1 r1 ⟨⟨z, ez⟩, q1⟩ => ?_⟩
  subst ez
  cases r1
  refine ⟨⟨z, rfl⟩, ρ1, F1, W1, _, rfl, s1, q1, fun u e ρ2 F2 W2 a2 s2 r2 q2 => ?_⟩
  refine ho W2 _ u _ e _ _ .str r2 q2 fun y c X W3 g r3 hX q3 => ?_
  obtain ⟨a3, s3⟩ := s2.nw g
  have a12 := a1.trans s s1 a2
  exact k y c X ρ2 F2 W3 (a12.trans s s2 a3) s3 r3 (fun x hx => a12.go.free (hX x hx)) q3
def fPart : D → D → (SV → Prop) → Prop
  | .str a, .str b, Q => (b.length == 0) = false ∧ a.length ≤ sizeLine ∧ Q (.dat (.tup [.str (Txt.partition a b).1, .str (Txt.partition a b).2.1, .str (Txt.partition a b).2.2]))
  | _, _, _ => False
theorem part_ok {K : PySem.W.Frag} : M1Ok K (fun x xs H Q => ∃ a b, x = .str a ∧ xs = [.str b] ∧ (b.length == 0) = false ∧ a.length ≤ sizeLine ∧
      ∀ p, H p = none → Q (.ref p) (upd H p (.tup [.str (Txt.partition a b).1, .str (Txt.partition a b).2.1, .str (Txt.partition a b).2.2]))) fPart := fun W v u d e Q Q' r1 r2 h k => by
  cases r1 <;> cases r2 <;> first
    | exact h.elim
    | exact ⟨_, _, rfl, rfl, h.1, h.2.1, new_tup (K := K) (.cons .str (.cons .str (.cons .str .nil))) fun p W' g n rp => k _ _ [] W' g (.dat rp) (fun _ z => nomatch z) h.2.2⟩
theorem qPart {o a : Expr} {mo ma : Pd} {apos : Pos} (ho : PE X o (lD S mo)) (ha : PE X a (lD S ma)) (hs : starEach [a] X.env = [(false, eval a X.env)] := by rfl) (hbase : attributeBase o "partition" X.env (eval o X.env) = eval o X.env := by rfl) (hline : (apos.endLine == pos.line) = true := by rfl) :
    PE X (.Call (.Attribute o "partition" apos) [a] [] pos) (lV S (mM1 fPart mo ma)) := (pe_partition ho ha hs hbase hline).weak (lM1 part_ok)
/-- texts of a row -/
def strsD : List D → Option (List Str)
  | [] => some []
  | .str b :: r => (strsD r).map (b :: ·)
  | _ => none
theorem strs_of {K : PySem.W.Frag} {W : Wd} : ∀ {ds : List D} {vs : List V} {bs : List Str}, RpL K W vs ds → strsD ds = some bs → vs = bs.map V.str
  | [], _, bs, .nil, h => by cases h; rfl
  | .str b :: ds, _, bs, .cons .str t, h => by
    obtain ⟨cs, h1, h2⟩ := Option.map_eq_some_iff.mp (show (strsD ds).map (b :: ·) = some bs from h)
    subst h2
    rw [strs_of t h1, List.map_cons]
theorem strsD_map (bs : List Str) : strsD (bs.map D.str) = some bs := by
  induction bs with
  | nil => rfl
  | cons b bs ih => show (strsD (bs.map D.str)).map (b :: ·) = _; rw [ih]; rfl
def fJoin (d e : D) (Q : SV → Prop) : Prop := ∃ a ds ys, d = .str a ∧ seqD e = some ds ∧ strsD ds = some ys ∧ (ys.map (·.length)).sum + ys.length * a.length ≤ 16777216 ∧ Q (.dat (.str (Txt.join a ys)))
theorem join_ok {K : PySem.W.Frag} : M1Ok K (fun x xs H Q => ∃ a p, ∃ ys : List Str, x = .str a ∧ xs = [.ref p] ∧ (SqL K H p (ys.map V.str) ∨ SqT K H p (ys.map V.str)) ∧
      (ys.map (·.length)).sum + ys.length * a.length ≤ 16777216 ∧ Q (.str (Txt.join a ys)) H) fJoin := fun W v u d e Q Q' r1 r2 ⟨a, ds, ys, ed, es, ey, hz, h⟩ k => by
  subst ed
  cases r1
  have k0 := k _ (.dat (.str (Txt.join a ys))) [] W (Go.refl fun _ z => z.elim) (.dat .str) (fun _ z => nomatch z) h
  cases e <;> first | (cases es; done) | skip
  · cases es
    cases r2 with
    | lst e n r =>
      have e2 := strs_of r ey
      subst e2
      exact ⟨a, _, ys, rfl, rfl, .inl (.inl (.inl e)), hz, k0⟩
  · cases es
    cases r2 with
    | tup e r =>
      have e2 := strs_of r ey
      subst e2
      exact ⟨a, _, ys, rfl, rfl, .inr e.sq, hz, k0⟩
theorem qJoin {o a : Expr} {mo ma : Pd} {apos : Pos} (hK : X.K = S.K) (ho : PE X o (lD S mo)) (ha : PE X a (lD S ma)) (hs : starEach [a] X.env = [(false, eval a X.env)] := by rfl) (hbase : attributeBase o "join" X.env (eval o X.env) = eval o X.env := by rfl) (hline : (apos.endLine == pos.line) = true := by rfl) :
    PE X (.Call (.Attribute o "join" apos) [a] [] pos) (lV S (mM1 fJoin mo ma)) := (pe_join ho ha hs hbase hline).weak (by rw [hK]; exact lM1 join_ok)
end
end U

/-! PuK: names of the builtins, len, constants -/
namespace U
open PySem PySem.Spec PyProof.Rows L2 Q
/-- the builtins' names are the builtins' -/
structure Std (Z : Q.Env) : Prop where
  len : Z.mg "len" = none
  range : Z.mg "range" = none
  isinstance : Z.mg "isinstance" = none
  int : Z.mg "int" = none
  str : Z.mg "str" = none
  bool : Z.mg "bool" = none
  list : Z.mg "list" = none
  tuple : Z.mg "tuple" = none
  dict : Z.mg "dict" = none
  all : Z.mg "all" = none
  any : Z.mg "any" = none
  abs : Z.mg "abs" = none
  sum : Z.mg "sum" = none
  sorted : Z.mg "sorted" = none
  min : Z.mg "min" = none
  max : Z.mg "max" = none
  set : Z.mg "set" = none
  enumerate : Z.mg "enumerate" = none
  zip : Z.mg "zip" = none
  reversed : Z.mg "reversed" = none
  ValueError : Z.mg "ValueError" = none
/-- the module's name x holds v -/
def Gv (Z : Q.Env) (x : Str) (v : V) : Prop := ∃ u, Z.mg x = some u ∧ RelV v u
section
variable {X : Cx} {Z : Q.Env}
theorem pglob {x : Str} {v : V} {pos : Pos} (g : Gv Z x v) (hm : X.mg = Z.mg := by rfl) (hg : Gl X x := by rfl) (hd : (x == ("__debug__" : Str)) = false := by decide) : PE X (.Name x pos) (tC v) := by
  obtain ⟨u, h1, h2⟩ := g
  rw [← hm] at h1
  exact pe_glob hg h1 h2 hd
variable {S : Sx} {e a b c : Expr} {es : List Expr} {ms : Pa} {id x : Str} {p pos : Pos} {r : List V → Hp → VK → Prop}
theorem qCB {id : String} {f : List D → (D → Prop) → Prop} (hc : CallR X (.builtin id) r) (hf : CallD S.K r f) (hg : Gl X x) (hm : X.mg x = none) (hv : bootBuiltins x = some (.builtin id)) (ha : PA X (e :: es) (lA S ms)) (hn : x ≠ "__name__" := by decide) (hdb : (x == ("__debug__" : Str)) = false := by decide)
    (he : starEach (e :: es) X.env = (false, eval e X.env) :: starEach es X.env := by rfl) (hpl : (backTo pos (starEach es X.env)).any (·.1) = false := by rfl) : PE X (.Call (.Name x p) (e :: es) [] pos) (lD S (mCB f ms)) := (pe_callB hc hg hm hv ha hn hdb he hpl).weak (lCB hf)
theorem qCTy {T : String} {f : List D → (D → Prop) → Prop} (hc : CallR X (.type T) r) (hf : CallD S.K r f) (hg : Gl X x) (hm : X.mg x = none) (hv : bootBuiltins x = some (.type T)) (ha : PA X (e :: es) (lA S ms)) (hn : x ≠ "__name__" := by decide) (hdb : (x == ("__debug__" : Str)) = false := by decide)
    (he : starEach (e :: es) X.env = (false, eval e X.env) :: starEach es X.env := by rfl) (hpl : (backTo pos (starEach es X.env)).any (·.1) = false := by rfl) : PE X (.Call (.Name x p) (e :: es) [] pos) (lD S (mCB f ms)) := (pe_callTy hc hg hm hv ha hn hdb he hpl).weak (lCB hf)
theorem qCTyS {T : String} {f : List D → (SV → Prop) → Prop} (hc : CallR X (.type T) r) (hf : CallS S.K r f) (hg : Gl X x) (hm : X.mg x = none) (hv : bootBuiltins x = some (.type T)) (ha : PA X (e :: es) (lA S ms)) (hn : x ≠ "__name__" := by decide) (hdb : (x == ("__debug__" : Str)) = false := by decide)
    (he : starEach (e :: es) X.env = (false, eval e X.env) :: starEach es X.env := by rfl) (hpl : (backTo pos (starEach es X.env)).any (·.1) = false := by rfl) : PE X (.Call (.Name x p) (e :: es) [] pos) (lV S (mCS f ms)) := (pe_callTy hc hg hm hv ha hn hdb he hpl).weak (lCS hf)
theorem qCBS {id : String} {f : List D → (SV → Prop) → Prop} (hc : CallR X (.builtin id) r) (hf : CallS S.K r f) (hg : Gl X x) (hm : X.mg x = none) (hv : bootBuiltins x = some (.builtin id)) (ha : PA X (e :: es) (lA S ms)) (hn : x ≠ "__name__" := by decide) (hdb : (x == ("__debug__" : Str)) = false := by decide)
    (he : starEach (e :: es) X.env = (false, eval e X.env) :: starEach es X.env := by rfl) (hpl : (backTo pos (starEach es X.env)).any (·.1) = false := by rfl) : PE X (.Call (.Name x p) (e :: es) [] pos) (lV S (mCS f ms)) := (pe_callB hc hg hm hv ha hn hdb he hpl).weak (lCS hf)
/-- a < b < c -/
def mChain (m n : D → D → (D → Prop) → Prop) (ma mb mc : Pd) : Pd := fun ρ Q => ma ρ fun d ρ1 => mb ρ1 fun e ρ2 => m d e fun z => ∃ k, z = .bl k ∧ if k = true then mc ρ2 fun f ρ3 => n e f fun y => Q y ρ3 else Q (.bl false) ρ2
theorem lChain {r r' : R2} {m n : D → D → (D → Prop) → Prop} {ma mb mc : Pd} (ho : OpD S.K r m) (ho' : OpD S.K r' n) (σ : L2.St) (H : Hp) (Q : VK) (h : lD S (mChain m n ma mb mc) σ H Q) : tChain r r' (lD S ma) (lD S mb) (lD S mc) σ H Q := by
  obtain ⟨ρ, F, W, Q', e, s, q, k⟩ := h
  subst e
  refine ⟨ρ, F, W, _, rfl, s, q, fun v d ρ1 F1 W1 a1 s1 r1 q1 => ?_⟩
  refine ⟨ρ1, F1, W1, _, rfl, s1, q1, fun u e ρ2 F2 W2 a2 s2 r2 q2 => ?_⟩
  have a12 := a1.trans s s1 a2
  refine ho W2 v u d e _ _ (r1.up a2.go.ext) r2 q2 fun z c W3 g r3 ⟨kk, ez, q3⟩ => ?_
  subst ez
  cases r3
  obtain ⟨a3, s3⟩ := s2.nw g
  have a13 := a12.trans s s2 a3
  refine ⟨kk, rfl, ?_⟩
  cases kk with
  | false => exact k _ _ ρ2 F2 W3 a13 s3 .bl q3
  | true =>
    refine ⟨ρ2, F2, W3, _, rfl, s3, q3, fun w f ρ4 F4 W4 a4 s4 r4 q4 => ?_⟩
    have a14 := a13.trans s s3 a4
    refine ho' W4 u w e f _ _ ((r2.up g.ext).up a4.go.ext) r4 q4 fun z c W5 g5 r5 q5 => ?_
    obtain ⟨a5, s5⟩ := s4.nw g5
    exact k z c ρ4 F4 W5 (a14.trans s s4 a5) s5 r5 q5
theorem qChain {op op' : CmpOp} {r r' : R2} {m n : D → D → (D → Prop) → Prop} {ma mb mc : Pd} (h : OpR X (compareOp op) r) (ho : OpD S.K r m) (h' : OpR X (compareOp op') r') (ho' : OpD S.K r' n) (ha : PE X a (lD S ma)) (hb : PE X b (lD S mb)) (hc : PE X c (lD S mc)) (hm : lastMarks [op, op'] [b, c] = false := by rfl) :
    PE X (.Compare a [op, op'] [b, c] pos) (lD S (mChain m n ma mb mc)) := (pe_chain h h' ha hb hc hm).weak (lChain ho ho')
theorem qTchain {op op' : CmpOp} {r r' : R2} {m n : D → D → (D → Prop) → Prop} {ma mb mc : Pd} (h : OpR X (compareOp op) r) (ho : OpD S.K r m) (h' : OpR X (compareOp op') r') (ho' : OpD S.K r' n) (ha : PE X a (lD S ma)) (hb : PE X b (lD S mb)) (hc : PE X c (lD S mc)) (hm : lastMarks [op, op'] [b, c] = false := by rfl) :
    PT X (.Compare a [op, op'] [b, c] pos) (lT S (mT (mChain m n ma mb mc))) := (pt_chain h h' ha hb hc hm).weak (lT1 (lChain ho ho'))
end
/-! ### methods of the text -/
def DefAtM (Z : Q.Env) (C m q : Str) (st : Stmt) : Prop := ∃ (f : Addr) (fd : FuncData), Cls Z.K (He.ga Z.K C) ∧ Meth Z.K (He.ga Z.K C) m f ∧ FunD Z.K m q (defArgs st) (defBody st) (defScope st) [] [] f fd
def DefAtI (Z : Q.Env) (C q : Str) (st : Stmt) (dvs : List V) : Prop := ∃ (f : Addr) (fd : FuncData), Z.mg C = some (.ref (He.ga Z.K C)) ∧ Mk Z.K (He.ga Z.K C) f ∧ FunD Z.K "__init__" q (defArgs st) (defBody st) (defScope st) dvs [] f fd
section
variable {Z : Q.Env} {k n : Nat} {ps : List Str} {C m q : Str}
theorem can_M {st : Stmt} {N : List Str} {mf : Mf} (Df : DefAtM Z C m q st) (sc : FnScope N ps (defScope st)) (hn : ps.length = n) (mb : (Er → Prop) → Ps)
    (hb : ∀ (kV doc pm : Value) (an : Option Addr) (cdv ct : Value) (us : List Value), us.length = ps.length → bindArgs (PySem.W.fnOf m q (defArgs st) (defBody st) (defScope st) .none kV doc pm an cdv ct) ⟨us, []⟩ = pure (ps.zip us))
    (hm : ∀ ds Q E, mf ds Q E → mb E { nx := fun _ => Q (.dat .non), rt := Q } (startR (N.length - n) ds))
    (hbody : ∀ (f : Addr) (cdv : Value) (A : Around) (outer : List PySem.Env) (s : Shared) (H : Hp) (E : XK) (W : Wd) (E' : Er → Prop), Room k (A.deeper (envOfC q (defScope st) s.heap.objs.size f cdv)) → EOk ⟨Z.K, W, none, 1000, none, none⟩ (fun cls d _ H => E cls d H) (fun er _ => E' er) →
      PSs (cxOf (CXn Z) Z.P Z.w Z.K Z.mg Z.base N q (defScope st) f cdv A outer s H E) (defBody st) (lS ⟨Z.K, W, none, 1000, none, none⟩ (mb E'))) : CanM Z (CXn Z) (k + 1) C m ps [] (lF Z.K n mf) := by
  obtain ⟨f, fd, c1, c2, F⟩ := Df
  exact ⟨f, fd, [], c1, c2, FunD.bindsN F hb, .nil, fn_lF F sc hn mb hm fun cdv A outer s H E W E' hr eo => hbody f cdv A outer s H E W E' hr eo⟩
theorem can_I {st : Stmt} {N : List Str} {dvs : List V} {mi : Mi} (nn j : Nat) (Df : DefAtI Z C q st dvs) (sc : FnScope N ps (defScope st)) (hn : ps.length = n + 1) (hN : n + 1 ≤ N.length) (hd : dvs ≠ []) (hnn : nn + (dvs.length - j) = ps.length) (mb : (Er → Prop) → Ps)
    (hb : ∀ (T : Addr) (kV doc pm : Value) (an : Option Addr) (cdv ct : Value) (us its : List Value), us.length = nn → its.length = dvs.length →
      ∃ k, bindArgs (PySem.W.fnOf "__init__" q (defArgs st) (defBody st) (defScope st) (.ref T) kV doc pm an cdv ct) ⟨us, []⟩ = seqItems? (.ref T) >>= k ∧ k (some its.toArray) = pure (ps.zip (us ++ its.drop j)))
    (hm : ∀ ds Q E, mi ds Q E → mb E { nx := fun ρ => ∃ fs, ρ[0]? = some (some (.ownO C fs)) ∧ Q fs, rt := fun _ => False } (some (.ownO C []) :: startR (N.length - (n + 1)) ds))
    (hbody : ∀ (f : Addr) (cdv : Value) (A : Around) (outer : List PySem.Env) (s : Shared) (H : Hp) (E : XK) (W : Wd) (x : Addr) (E' : Er → Prop), Room k (A.deeper (envOfC q (defScope st) s.heap.objs.size f cdv)) → EOk ⟨Z.K, W, none, 0, some x, none⟩ (fun cls d _ H => E cls d H) (fun er _ => E' er) →
      PSs (cxOf (CXn Z) Z.P Z.w Z.K Z.mg Z.base N q (defScope st) f cdv A outer s H E) (defBody st) (lS ⟨Z.K, W, none, 0, some x, none⟩ (mb E'))) : CanN Z (CXn Z) (k + 1) C ps (dvs.drop j) (lFi Z.K n C mi) := by
  obtain ⟨f, fd, c1, c2, F⟩ := Df
  obtain ⟨ds, r, b⟩ := FunD.binds1 F nn j hd hnn hb
  exact ⟨f, fd, ds, c1, c2, b, r, fn_lFi F sc hn hN mb hm fun cdv A outer s H E W x E' hr eo => hbody f cdv A outer s H E W x E' hr eo⟩
end
end U

/-! KitM: tuples of numbers and texts, sorted -/
namespace Q
open PySem PySem.Spec PyProof.Rows L2 TL
abbrev Ks := List Key
def kN : Key → Int ⊕ List Nat
  | .inl i => .inl i
  | .inr x => .inr x.cps.toList
theorem kN_inj {a b : Key} (h : kN a = kN b) : a = b := by
  match a, b, h with
  | .inl i, .inl j, h => rw [Sum.inl.inj h]
  | .inr x, .inr y, h => exact congrArg Sum.inr (ext_tl (Sum.inr.inj h))
theorem kNs_inj : ∀ {a b : Ks}, a.map kN = b.map kN → a = b
  | [], [], _ => rfl
  | [], _ :: _, h => by cases h
  | _ :: _, [], h => by cases h
  | x :: a, y :: b, h => by
    rw [List.map_cons, List.map_cons, List.cons.injEq] at h
    rw [kN_inj h.1, kNs_inj h.2]
/-- the order of tuples -/
def ltKs (a b : Ks) : Bool := lexLt itemOrd (a.map kN) (b.map kN)
theorem ltKs_swo : SrtO.Swo ltKs := by
  have O := listOrd itemOrd
  refine ⟨fun x y h => ?_, fun x y z h1 h2 => ?_⟩
  · cases e : ltKs y x with
    | false => rfl
    | true =>
      have q := (listOrd itemOrd).trans _ _ _ h e
      have q2 := (listOrd itemOrd).irrefl (x.map kN)
      rw [show (listOrd itemOrd).blt (x.map kN) (x.map kN) = true from q] at q2
      cases q2
  · cases e : ltKs z x with
    | false => rfl
    | true =>
      rcases (listOrd itemOrd).negTrans _ (y.map kN) _ e with q | q
      · have q' : ltKs z y = true := q
        rw [h2] at q'; cases q'
      · have q' : ltKs y x = true := q
        rw [h1] at q'; cases q'
theorem ltKs_total {a b : Ks} (h1 : ltKs a b = false) (h2 : ltKs b a = false) : a = b := kNs_inj ((listOrd itemOrd).total _ _ h1 h2)
/-- the kinds by places: true a text -/
def shp (shape : Nat → Bool) : Nat → Ks → Bool
  | _, [] => true
  | i, .inl _ :: r => !shape i && shp shape (i + 1) r
  | i, .inr _ :: r => shape i && shp shape (i + 1) r
theorem tupItems_of {shape : Nat → Bool} : ∀ {ks : Ks} {vs : List Value} {i : Nat}, Vals (ks.map kV) vs → shp shape i ks = true → tupItems shape i vs = some (ks.map kN)
  | [], _, _, .nil, _ => rfl
  | .inl n :: r, _, i, .cons h t, hs => by
    obtain ⟨tk, rfl⟩ := h
    have hs' : (!shape i && shp shape (i + 1) r) = true := hs
    rw [Bool.and_eq_true, Bool.not_eq_true'] at hs'
    show (if shape i = true then none else (tupItems shape (i + 1) _).map (Sum.inl n :: ·)) = _
    rw [if_neg (by rw [hs'.1]; decide), tupItems_of t hs'.2]
    rfl
  | .inr x :: r, _, i, .cons h t, hs => by
    obtain ⟨tk, rfl⟩ := h
    have hs' : (shape i && shp shape (i + 1) r) = true := hs
    rw [Bool.and_eq_true] at hs'
    show (if shape i = true then (tupItems shape (i + 1) _).map (Sum.inr x.cps.toList :: ·) else none) = _
    rw [if_pos hs'.1, tupItems_of t hs'.2]
    rfl
section
variable {prog : Program} {w : World} {A : Around} {E : Value → Shared → Prop} {s : Shared}
/-- a tuple, gathered -/
theorem collect_tup {l : Addr} {vs : List Value} {Q : List Value → Shared → Prop} (hl : s.heap.IsTuple l vs.toArray) (hz : vs.length ≤ sizeLine)
    (h : Q vs { s with heap := (s.heap.push (seqObj "list" #[] 0)).update s.heap.objs.size (Obj.mapSeq (· ++ vs.toArray)) }) : wpAny (model prog w) A (collect (.ref l)) Q E s := by
  obtain ⟨ob, hob, hcls, nn, hdat⟩ := id hl
  unfold collect
  refine wpAny_bind (wpAny_runValue (codeAny_builtin entry_proto_collect' ?_))
  show wpAny _ _ (do again (.builtin "list.__iadd__" ⟨[← newList [], .ref l], []⟩)) _ _ s
  refine wpAny_bind (wpAny_newList (wpAny_pure ⟨Code.quiet_builtin _ (by decide +kernel), codeAny_builtin entry_list_iadd' ?_⟩))
  show wpAny _ _ (Builtin.List.listExtendWith (.ref s.heap.objs.size) (.ref l) (.ref s.heap.objs.size)) _ _ { s with heap := s.heap.push (seqObj "list" #[] 0) }
  unfold Builtin.List.listExtendWith
  have hob2 : (s.heap.push (seqObj "list" #[] 0)).get? l = some ob := Heap.get?_push_of_some _ hob
  refine wpAny_bind (wpAny_typeOf (T := "tuple") ⟨ob, hob2, hcls⟩ ?_)
  have htt : (Value.type "tuple" == Value.type "tuple") = true := by rfl
  rw [if_pos (by rw [htt]; simp)]
  refine wpAny_bind (listItems_at hob2 hdat ?_)
  refine wpAny_bind (listItems_at (xs := #[]) (n := 0) (Heap.get?_push_size _ rfl) rfl ?_)
  rw [if_neg (by simp)]
  refine wpAny_bind (listUpdate_at (xs := #[]) (n := 0) (Heap.get?_push_size _ rfl) rfl ?_ (Nat.zero_le _) (by show (#[] ++ vs.toArray).size ≤ sizeLine + 1; simp only [Array.size_append, List.size_toArray, List.length_nil]; omega))
  refine wpAny_pure ?_
  show wpAny (model prog w) A (do
      let o ← load s.heap.objs.size
      match o.data with
      | .seq xs _ => pure xs.toList
      | _ => unsupported "internal:collect") Q E { s with heap := (s.heap.push (seqObj "list" #[] 0)).update s.heap.objs.size (Obj.mapSeq (· ++ vs.toArray)) }
  refine wpAny_bind (wpAny_load (get?_update_seq (Heap.get?_push_size _ rfl) _) ?_)
  show wpAny _ _ (pure ((#[] : Array Value) ++ vs.toArray).toList) Q E _
  rw [show ((#[] : Array Value) ++ vs.toArray).toList = vs by simp]
  exact wpAny_pure h
open SrtO in
/-- sorted of a list or a tuple -/
theorem sorted_seq {l : Addr} {vs : List Value} {ltv : Value → Value → Bool} {Q : Value → Shared → Prop} (O : Swo ltv) (hl : s.heap.IsList l vs.toArray ∨ s.heap.IsTuple l vs.toArray) (hz : vs.length ≤ sizeLine)
    (hS : 2 ≤ vs.length → ∀ (h₁ : Heap) (a : Addr), h₁.get? a = some (seqObj "list" vs.toArray 0) → (∀ b o, s.heap.get? b = some o → b ≠ a ∧ h₁.get? b = some o) → SortableO prog w A.in1.in1 { s with heap := h₁ } a vs ltv)
    (h : ∀ out : List Value, Srtd ltv out → Stb ltv out vs → Q (.ref (s.heap.objs.size + 1)) { s with heap := sortedAll s.heap vs out.toArray }) :
    wpAny (model prog w) A (call (.builtin "sorted") [.ref l]) Q E s := by
  rcases hl with hl | hl
  · exact sorted_ord O hl hz hS h
  refine Calls.call_function_entry kind_sorted plain_sorted entry_sorted (args_sorted1 _) ?_
  unfold Builtin.«sorted»
  refine wpAny_bind (m := checkCount "sorted" 1 1 _) (wpAny_pure ?_)
  refine wpAny_bind (collect_tup hl hz ?_)
  refine wpAny_bind (wpAny_newList ?_ hz)
  have size2 : ((s.heap.push (seqObj "list" #[] 0)).update s.heap.objs.size (Obj.mapSeq (· ++ vs.toArray))).objs.size = s.heap.objs.size + 1 := by
    rw [Heap.size_update]
    first | exact Heap.size_push _ _ | exact size_push' ..
  have obL : (((s.heap.push (seqObj "list" #[] 0)).update s.heap.objs.size (Obj.mapSeq (· ++ vs.toArray))).push (seqObj "list" vs.toArray 0)).get? (s.heap.objs.size + 1) = some (seqObj "list" vs.toArray 0) := by
    rw [← size2]; exact Heap.get?_push_size _ rfl
  have kept : ∀ b o, s.heap.get? b = some o → b ≠ s.heap.objs.size + 1 ∧ (((s.heap.push (seqObj "list" #[] 0)).update s.heap.objs.size (Obj.mapSeq (· ++ vs.toArray))).push (seqObj "list" vs.toArray 0)).get? b = some o := fun b o q => by
    have hb := Heap.lt_size q
    refine ⟨Nat.ne_of_lt (Nat.lt_succ_of_lt hb), Heap.get?_push_of_some _ ?_⟩
    rw [Heap.get?_update_ne _ _ _ _ (Nat.ne_of_lt hb)]
    exact Heap.get?_push_of_some _ q
  show wpAny _ _ _ _ _ { s with heap := ((s.heap.push (seqObj "list" #[] 0)).update s.heap.objs.size (Obj.mapSeq (· ++ vs.toArray))).push (seqObj "list" vs.toArray 0) }
  rw [size2]
  refine wpAny_bind (wpAny_holding (wpAny_call_entry slot_list_sort ⟨_, obL, rfl⟩ entry_list_sort (list_sort_ord O obL hz (fun h2 => hS h2 _ _ obL kept) fun out hs hb => ⟨_, rfl, ?_⟩) (args_list_sort _)))
  exact wpAny_pure ⟨_, rfl, h out hs hb⟩
end
/-- a tuple of keys in the heap -/
def TupK (h : Heap) (shape : Nat → Bool) (v : Value) (ks : Ks) : Prop := ∃ t o its n, v = .ref t ∧ h.get? t = some o ∧ o.cls = .type "tuple" ∧ o.data = .seq its n ∧ Vals (ks.map kV) its.toList ∧ shp shape 0 ks = true ∧ ks ≠ []
theorem TupK.keep {h h' : Heap} {shape : Nat → Bool} {v : Value} {ks : Ks} (x : TupK h shape v ks) (k : ∀ b o, o.cls = .type "tuple" → h.get? b = some o → h'.get? b = some o) : TupK h' shape v ks := by
  obtain ⟨t, o, its, n, e, ho, hc, hd, r⟩ := x
  exact ⟨t, o, its, n, e, k _ _ hc ho, hc, hd, r⟩
theorem TupK.key {h : Heap} {shape : Nat → Bool} {v : Value} {ks : Ks} (x : TupK h shape v ks) : tupKey h shape v = some (ks.map kN) := by
  obtain ⟨t, o, its, n, rfl, ho, hc, hd, hv, hs, _⟩ := x
  show (match h.get? t with
    | some o => match o.data with
      | .seq xs _ => tupItems shape 0 xs.toList
      | _ => none
    | none => none) = _
  rw [ho]
  show (match o.data with
      | .seq xs _ => tupItems shape 0 xs.toList
      | _ => none) = _
  rw [hd]
  exact tupItems_of hv hs
theorem TupK.one {h : Heap} {shape : Nat → Bool} {v : Value} {ks : Ks} (x : TupK h shape v ks) : ∃ f, TupOf h shape v f := by
  obtain ⟨t, o, its, n, rfl, ho, hc, hd, hv, hs, hne⟩ := x
  match ks, hv, hs, hne with
  | .inl i :: r, hv, hs, _ =>
    have hs' : (!shape 0 && shp shape 1 r) = true := hs
    rw [Bool.and_eq_true, Bool.not_eq_true'] at hs'
    obtain ⟨l, hl⟩ : ∃ l, l = its.toList := ⟨_, rfl⟩
    rw [← hl] at hv
    cases hv with
    | @cons _ u _ us hu _ =>
      have e0 : its[0]? = some u := by rw [← Array.getElem?_toList, ← hl]; rfl
      obtain ⟨tk, rfl⟩ := hu
      exact ⟨_, t, o, its, n, rfl, ho, hc, hd, e0, fun _ => ⟨i, tk, rfl⟩, fun e => by rw [hs'.1] at e; cases e⟩
  | .inr z :: r, hv, hs, _ =>
    have hs' : (shape 0 && shp shape 1 r) = true := hs
    rw [Bool.and_eq_true] at hs'
    obtain ⟨l, hl⟩ : ∃ l, l = its.toList := ⟨_, rfl⟩
    rw [← hl] at hv
    cases hv with
    | @cons _ u _ us hu _ =>
      have e0 : its[0]? = some u := by rw [← Array.getElem?_toList, ← hl]; rfl
      obtain ⟨tk, rfl⟩ := hu
      exact ⟨_, t, o, its, n, rfl, ho, hc, hd, e0, (fun e => by rw [hs'.1] at e; cases e), fun _ => ⟨z, tk, rfl⟩⟩
  | [], _, _, hne => exact absurd rfl hne
theorem tupsOf {h : Heap} {shape : Nat → Bool} : ∀ {vs : List Value}, (∀ v ∈ vs, ∃ ks, TupK h shape v ks) → ∃ fs, fs.length = vs.length ∧ TupsOf h shape vs fs
  | [], _ => ⟨[], rfl, .nil⟩
  | v :: vs, hh => by
    obtain ⟨ks, x⟩ := hh v (by simp)
    obtain ⟨f, hf⟩ := x.one
    obtain ⟨fs, h1, h2⟩ := tupsOf (vs := vs) fun u hu => hh u (List.mem_cons_of_mem _ hu)
    exact ⟨f :: fs, by simp [h1], .cons hf h2⟩
abbrev kyT (h : Heap) (shape : Nat → Bool) (v : Value) : List (Int ⊕ List Nat) := (tupKey h shape v).getD []
theorem swo_kyT {α : Type} (k : α → List (Int ⊕ List Nat)) : SrtO.Swo fun v u => lexLt itemOrd (k v) (k u) := by
  refine ⟨fun x y h => ?_, fun x y z h1 h2 => ?_⟩
  · cases e : lexLt itemOrd (k y) (k x) with
    | false => rfl
    | true =>
      have q : lexLt itemOrd (k x) (k x) = true := (listOrd itemOrd).trans _ _ _ h e
      rw [show lexLt itemOrd (k x) (k x) = false from (listOrd itemOrd).irrefl _] at q
      cases q
  · cases e : lexLt itemOrd (k z) (k x) with
    | false => rfl
    | true =>
      rcases (listOrd itemOrd).negTrans _ (k y) _ e with q | q
      · have q' : lexLt itemOrd (k z) (k y) = true := q
        rw [h2] at q'; cases q'
      · have q' : lexLt itemOrd (k y) (k x) = true := q
        rw [h1] at q'; cases q'
section
variable {prog : Program} {w : World} {A : Around} {s : Shared}
theorem tups_sortable {a : Addr} {vs : List Value} {shape : Nat → Bool} {k : Value → List (Int ⊕ List Nat)} (h0 : 0 < vs.length) (hp : ∀ v ∈ vs, ∃ ks : Ks, TupK s.heap shape v ks ∧ k v = ks.map kN) (ha : ∀ o, s.heap.get? a = some o → o.cls ≠ .type "tuple") :
    SrtO.SortableO prog w A s a vs fun v u => lexLt itemOrd (k v) (k u) := by
  intro h' keep
  have hp' : ∀ v ∈ vs, ∃ ks : Ks, TupK h' shape v ks ∧ k v = ks.map kN := fun v hv => by
    obtain ⟨ks, x, e⟩ := hp v hv
    exact ⟨ks, x.keep fun b o c q => keep b o (fun z => ha o (z ▸ q) c) q, e⟩
  refine ⟨tuples' true, fun Q E hq => ?_, fun p q hm hm' => ?_⟩
  · obtain ⟨fs, h1, h2⟩ := tupsOf (h := h') (shape := shape) (vs := vs) fun v hv => (hp' v hv).imp fun _ x => x.1
    exact tup_kind (by omega) h2 hq
  · obtain ⟨k1, x1, e1⟩ := hp' _ hm
    obtain ⟨k2, x2, e2⟩ := hp' _ hm'
    refine tup_ltAt (s := { s with heap := h' }) (shape := shape) true A (fun _ _ => False) p.1 q.1 (k1.map kN) (k2.map kN) x1.key x2.key ⟨rfl, ?_⟩
    show _ = lexLt itemOrd (k p.1) (k q.1)
    rw [e1, e2]
end
theorem perm_lift {α β : Type} {f : α → β} : ∀ {l m : List β}, l.Perm m → ∀ {zs : List α}, m = zs.map f → ∃ ys : List α, ys.Perm zs ∧ l = ys.map f := by
  intro l m h
  induction h with
  | nil => intro zs e; have : zs = [] := List.map_eq_nil_iff.mp e.symm; subst this; exact ⟨[], .nil, rfl⟩
  | @cons x l m h ih =>
    intro zs e
    cases zs with
    | nil => cases e
    | cons z zs =>
      rw [List.map_cons, List.cons.injEq] at e
      obtain ⟨ys, h1, h2⟩ := ih e.2
      exact ⟨z :: ys, h1.cons z, by rw [List.map_cons, ← h2, e.1]⟩
  | swap x y l =>
    intro zs e
    match zs, e with
    | a :: b :: zs, e =>
      rw [List.map_cons, List.map_cons, List.cons.injEq, List.cons.injEq] at e
      exact ⟨b :: a :: zs, .swap a b zs, by rw [List.map_cons, List.map_cons, ← e.2.2, ← e.2.1, ← e.1]⟩
  | trans h1 h2 ih1 ih2 =>
    intro zs e
    obtain ⟨ys, p, q⟩ := ih2 e
    obtain ⟨xs, p2, q2⟩ := ih1 q
    exact ⟨xs, p2.trans p, q2⟩
/-- sorted(xs), xs a list or tuple of tuples of numbers and texts of one shape -/
def rSortT (K : PySem.W.Frag) : List V → Hp → VK → Prop := fun vs H Q => ∃ (a : Addr) (zs : List (V × Ks)) (shape : Nat → Bool), vs = [V.ref a] ∧ (SqL K H a (zs.map (·.1)) ∨ SqT K H a (zs.map (·.1))) ∧
  (∀ z ∈ zs, ∃ t, z.1 = V.ref t ∧ SqT K H t (z.2.map kV) ∧ shp shape 0 z.2 = true ∧ z.2 ≠ []) ∧
  ∀ (ys : List (V × Ks)) (p : Addr), ys.Perm zs → (ys.map (·.2)).Pairwise (fun x y => ltKs y x = false) → H p = none → Q (.ref p) (upd H p (.lst (ys.map (·.1))))
theorem cr_sortT {X : Cx} : CallR X (.builtin "sorted") (rSortT X.K) := by
  intro pins s σ H vs us Q I r h
  obtain ⟨a, zs, shape, rfl, hs, hz, q⟩ := h
  obtain ⟨u, rfl, ru⟩ := vals1 r
  obtain rfl : u = Value.ref a := ru
  let f : V × Ks → Value := fun z => match z.1 with
    | .ref t => .ref t
    | _ => .none
  have key : ∃ its : List Value, Vals (zs.map (·.1)) its ∧ (s.heap.IsList a its.toArray ∨ s.heap.IsTuple a its.toArray) ∧ its.length ≤ sizeLine := by
    rcases hs with hs | hs
    · obtain ⟨its, rv, hl, hz⟩ := I.list hs
      exact ⟨its, rv, .inl hl.isList, by rw [← rv.length]; exact hz⟩
    · obtain ⟨its, rv, hl, hz⟩ := I.tuple hs
      exact ⟨its, rv, .inr hl, by rw [← rv.length]; exact hz⟩
  obtain ⟨its, rv, hl, hsz⟩ := key
  have ei : its = zs.map f := by
    clear hl hsz q hs
    induction zs generalizing its with
    | nil => cases rv; rfl
    | cons z zs ih =>
      cases rv with
      | @cons _ v _ vs h1 h2 =>
        rw [List.map_cons, ← ih (fun y hy => hz y (List.mem_cons_of_mem _ hy)) _ h2]
        obtain ⟨t, et, _⟩ := hz z (by simp)
        congr 1
        have h1' : RelV z.1 v := h1
        show v = (match z.1 with
          | .ref t => Value.ref t
          | _ => .none)
        rw [et] at h1' ⊢
        exact h1'
  have tk : ∀ z ∈ zs, TupK s.heap shape (f z) z.2 := fun z hzm => by
    obtain ⟨t, et, hq, h1, h2⟩ := hz z hzm
    obtain ⟨its2, r2, ⟨o, ho, hc, n, hd⟩, _⟩ := I.tuple hq
    refine ⟨t, o, its2.toArray, n, ?_, ho, hc, hd, by simpa using r2, h1, h2⟩
    show (match z.1 with
          | .ref t => Value.ref t
          | _ => .none) = _
    rw [et]
  refine sorted_seq (ltv := fun v u => lexLt itemOrd (kyT s.heap shape v) (kyT s.heap shape u)) (swo_kyT _) hl hsz (fun h2 h₁ b hb kp => ?_) fun out h1 h2 => ?_
  · refine tups_sortable (s := { s with heap := h₁ }) (shape := shape) (k := kyT s.heap shape) (by omega) (fun v hv => ?_) fun o e => ?_
    · rw [ei] at hv
      obtain ⟨z, hzm, rfl⟩ := List.mem_map.mp hv
      exact ⟨z.2, (tk z hzm).keep fun c o _ q => (kp c o q).2, by show (tupKey s.heap shape (f z)).getD [] = _; rw [(tk z hzm).key]; rfl⟩
    · have e' : some o = some (seqObj "list" its.toArray 0) := e.symm.trans hb
      cases e'
      intro c
      exact absurd (Value.type.inj c) (by decide)
  · obtain ⟨ys, yp, ye⟩ := perm_lift h2.perm ei
    have yk : ∀ z ∈ ys, kyT s.heap shape (f z) = z.2.map kN := fun z hzm => by
      show (tupKey s.heap shape (f z)).getD [] = _
      rw [(tk z (yp.mem_iff.mp hzm)).key]
      rfl
    have hv : Vals (ys.map (·.1)) out := by
      rw [ye]
      have all : ∀ z ∈ ys, RelV z.1 (f z) := fun z hzm => by
        obtain ⟨t, et, _⟩ := hz z (yp.mem_iff.mp hzm)
        show RelV z.1 (match z.1 with
          | .ref t => Value.ref t
          | _ => .none)
        rw [et]
        rfl
      clear q ye yk h1 h2 yp
      induction ys with
      | nil => exact .nil
      | cons z ys ih => exact .cons (all z (by simp)) (ih fun y hy => all y (List.mem_cons_of_mem _ hy))
    have hsrt : (ys.map (·.2)).Pairwise (fun x y => ltKs y x = false) := by
      rw [ye] at h1
      have h1' := List.pairwise_map.mp (show List.Pairwise _ (ys.map f) from h1)
      refine List.pairwise_map.mpr (h1'.imp_of_mem fun {x y} hx hy hxy => ?_)
      show lexLt itemOrd (y.2.map kN) (x.2.map kN) = false
      rw [← yk x hx, ← yk y hy]
      exact hxy
    have fresh : H (s.heap.objs.size + 1) = none := I.hok.fresh (Nat.le_succ _)
    obtain ⟨ne, he⟩ := sortedAll_at s.heap its out.toArray
    refine ⟨.ref (s.heap.objs.size + 1), upd H (s.heap.objs.size + 1) (.lst (ys.map (·.1))), I.laid (t' := s.toks) (fun b o e => sortedAll_old e) (Nat.le_succ _) ⟨?_, out, ne, hv, he⟩, rfl, q ys _ yp hsrt fresh⟩
    rw [hv.length, h2.len]
    exact hsz
/-! ### sorted lists of tuples as data -/
abbrev SrtK (l : List Ks) : Prop := l.Pairwise fun x y => ltKs y x = false
theorem srt_uniq : ∀ {l m : List Ks}, SrtK l → SrtK m → l.Perm m → l = m
  | [], m, _, _, h => (List.Perm.eq_nil h.symm).symm
  | x :: l, [], _, _, h => absurd h.length_eq (by simp)
  | x :: l, y :: m, hl, hm, h => by
    have hl' := List.pairwise_cons.mp hl
    have hm' := List.pairwise_cons.mp hm
    have e : x = y := by
      have h1 : ltKs x y = false := by
        rcases List.mem_cons.mp (h.mem_iff.mp (List.mem_cons_self (a := x) (l := l))) with q | q
        · rw [q]; exact ltKs_swo.refl y
        · exact hm'.1 x q
      have h2 : ltKs y x = false := by
        rcases List.mem_cons.mp (h.mem_iff.mpr (List.mem_cons_self (a := y) (l := m))) with q | q
        · rw [q]; exact ltKs_swo.refl x
        · exact hl'.1 y q
      exact ltKs_total h1 h2
    subst e
    rw [srt_uniq hl'.2 hm'.2 h.cons_inv]
def sortKs (l : List Ks) : List Ks := l.mergeSort fun a b => !ltKs b a
theorem sortKs_perm (l : List Ks) : (sortKs l).Perm l := List.mergeSort_perm _ _
theorem sortKs_srt (l : List Ks) : SrtK (sortKs l) := by
  have h := List.pairwise_mergeSort (le := fun a b => !ltKs b a) (fun a b c h1 h2 => by
    rw [Bool.not_eq_true'] at h1 h2 ⊢
    exact ltKs_swo.tr _ _ _ h1 h2) (fun a b => by
    cases e : ltKs a b with
    | false => simp
    | true => rw [ltKs_swo.asym _ _ e]; rfl) l
  exact h.imp fun {x y} q => by
    rw [Bool.not_eq_true'] at q
    exact q
end Q

/-! KitN: tables of up to 512 slots: what stands there is found again (own versions of what the layer has for 128) -/
namespace Q
open PySem PySem.Spec PyProof.Rows L2
def MaskG (m : Nat) : Prop := m = 7 ∨ m = 31 ∨ m = 127 ∨ m = 511
/-- the orbit of 0, and which numbers it meets, as bits -/
def orb (m : Nat) : Nat → Nat → Nat → Nat
  | 0, _, acc => acc
  | k + 1, x, acc => orb m k ((x * 5 + 1) % (m + 1)) (acc ||| (1 <<< x))
theorem orb_mem {m : Nat} : ∀ (k x acc j : Nat), (orb m k x acc).testBit j = true → acc.testBit j = true ∨ ∃ b, b < k ∧ lcgI m x b = j
  | 0, _, _, _, h => .inl h
  | k + 1, x, acc, j, h => by
    rcases orb_mem k _ _ j h with h | ⟨b, hb, e⟩
    · rw [Nat.testBit_or, Bool.or_eq_true] at h
      rcases h with h | h
      · exact .inl h
      · refine .inr ⟨0, Nat.succ_pos _, ?_⟩
        rw [Nat.one_shiftLeft, Nat.testBit_two_pow] at h
        exact of_decide_eq_true h
    · refine .inr ⟨b + 1, Nat.succ_lt_succ hb, ?_⟩
      rw [← e]
      have step : ∀ c y, lcgI m ((y * 5 + 1) % (m + 1)) c = lcgI m y (c + 1) := by
        intro c
        induction c with
        | zero => intro y; rfl
        | succ c ih =>
          intro y
          show (lcgI m _ c * 5 + 1) % (m + 1) = (lcgI m y (c + 1) * 5 + 1) % (m + 1)
          rw [ih y]
      exact (step b x).symm
theorem orb_full {m j : Nat} (h : orb m (m + 1) 0 0 = 2 ^ (m + 1) - 1) (hj : j ≤ m) : ∃ b, b ≤ m ∧ lcgI m 0 b = j := by
  have h1 : (orb m (m + 1) 0 0).testBit j = true := by
    rw [h, Nat.testBit_two_pow_sub_one]
    exact decide_eq_true (Nat.lt_succ_of_le hj)
  rcases orb_mem _ _ _ _ h1 with h2 | ⟨b, hb, e⟩
  · simp at h2
  · exact ⟨b, Nat.le_of_lt_succ hb, e⟩
theorem lcg_add (m x a : Nat) : ∀ k, lcgI m (lcgI m x a) k = lcgI m x (a + k)
  | 0 => rfl
  | k + 1 => by
    show (lcgI m (lcgI m x a) k * 5 + 1) % (m + 1) = (lcgI m x (a + k) * 5 + 1) % (m + 1)
    rw [lcg_add m x a k]
structure Cov (m : Nat) : Prop where
  full : orb m (m + 1) 0 0 = 2 ^ (m + 1) - 1
  back : lcgI m 0 (m + 1) = 0
  odd : m % 2 = 1
theorem cov_of {m : Nat} (h : MaskG m) : Cov m := by
  rcases h with e | e | e | e <;> subst e <;> exact ⟨by decide +kernel, by decide +kernel, rfl⟩
theorem Cov.all {m i j : Nat} (c : Cov m) (hi : i ≤ m) (hj : j ≤ m) : ∃ k, k ≤ m ∧ lcgI m i k = j := by
  obtain ⟨a, ha, ea⟩ := orb_full c.full hi
  obtain ⟨b, hb, eb⟩ := orb_full c.full hj
  subst ea
  rcases Nat.lt_or_ge b a with q | q
  · refine ⟨m + 1 - a + b, by omega, ?_⟩
    rw [lcg_add, show a + (m + 1 - a + b) = m + 1 + b by omega, ← lcg_add, c.back, eb]
  · exact ⟨b - a, by omega, by rw [lcg_add, show a + (b - a) = b by omega, eb]⟩
theorem Cov.meets {m j : Nat} (c : Cov m) (h : Int) (hj : j ≤ m) : ∃ n, n ≤ m + 12 ∧ runI m (SetTable.bits h) n = j := by
  obtain ⟨k, hk, e⟩ := c.all (runI_le m (SetTable.bits h) 12) hj
  exact ⟨12 + k, by omega, by rw [runI_tail (bits_lt h)]; exact e⟩
theorem Cov.way {m j : Nat} (c : Cov m) (h : Int) (hj : j ≤ m) : ∃ k, k < 10 * SetTable.turns m ∧ way m h k = j := by
  obtain ⟨n, hn, e⟩ := c.meets h hj
  obtain ⟨k, hk, e2⟩ := run_nth m (SetTable.bits h) n
  refine ⟨k, by unfold SetTable.turns; omega, ?_⟩
  show (nth m (runAt m (SetTable.bits h % (m + 1)) (SetTable.bits h)) k).j = j
  rw [e2]
  exact e
theorem wayLe (m : Nat) (h : Int) (k : Nat) : way m h k ≤ m := by
  have hi : SetTable.bits h % (m + 1) ≤ m := Nat.le_of_lt_succ (Nat.mod_lt _ (Nat.succ_pos _))
  have r := runEnd_bd hi
  have q := nth_in (m := m) k (runAt m (SetTable.bits h % (m + 1)) (SetTable.bits h)) (show SetTable.bits h % (m + 1) + (SetTable.runEnd m (SetTable.bits h % (m + 1)) - SetTable.bits h % (m + 1)) ≤ m by omega)
  show (nth m _ k).j ≤ m
  omega
/-- a table in which all is found again from its hashes -/
structure TabG (t : SetTable) (hs : List Int) : Prop where
  ris : Ris t.place.toList
  dm : t.dummies = #[]
  sz : t.place.size = hs.length
  cov : Cov t.mask
  bd : ∀ x ∈ t.place.toList, x ≤ t.mask
  reach : ∀ (i : Nat) (h : Int) (j : Nat), hs[i]? = some h → t.place.toList[i]? = some j → ∃ k, way t.mask h k = j ∧ ∀ c, c < k → way t.mask h c ∈ t.place.toList
theorem TabG.first {t : SetTable} {hs : List Int} (T : TabG t hs) (hl : hs.length ≤ t.mask) (h : Int) : ∃ K, K < 10 * SetTable.turns t.mask ∧ way t.mask h K ∉ t.place.toList ∧ ∀ k, k < K → way t.mask h k ∈ t.place.toList := by
  obtain ⟨j, hj, hn⟩ := st_missing t.place.toList (t.mask + 1) (by rw [Array.length_toList, T.sz]; omega)
  obtain ⟨k, hk, e⟩ := T.cov.way h (Nat.le_of_lt_succ hj)
  obtain ⟨K, q1, q2, q3⟩ := st_least (p := fun k => way t.mask h k ∉ t.place.toList) k (by rw [← e] at hn; exact hn)
  exact ⟨K, Nat.lt_of_le_of_lt q1 hk, q2, fun c hc => Classical.not_not.mp (q3 c hc)⟩
theorem TabG.before {t : SetTable} {hs : List Int} (T : TabG t hs) {h : Int} {K i j : Nat} (hK : way t.mask h K ∉ t.place.toList) (hi : hs[i]? = some h) (hj : t.place.toList[i]? = some j) : ∃ k, k < K ∧ way t.mask h k = j := by
  obtain ⟨k, e, hb⟩ := T.reach i h j hi hj
  refine ⟨k, Nat.lt_of_not_le fun q => ?_, e⟩
  rcases Nat.lt_or_eq_of_le q with q | q
  · exact hK (hb K q)
  · rw [q, e] at hK
    exact hK (List.mem_of_getElem? hj)
theorem TabG.put {t : SetTable} {hs : List Int} (T : TabG t hs) {h : Int} {K : Nat} (hK : way t.mask h K ∉ t.place.toList) (hb : ∀ k, k < K → way t.mask h k ∈ t.place.toList) :
    SetTable.below t.place (way t.mask h K) ≤ hs.length ∧ TabG (t.put (way t.mask h K)).1 (hs.take (SetTable.below t.place (way t.mask h K)) ++ h :: hs.drop (SetTable.below t.place (way t.mask h K))) ∧ (t.put (way t.mask h K)).1.fill = hs.length + 1 := by
  have hjm := wayLe t.mask h K
  have hw : ∃ j, way t.mask h K = j := ⟨_, rfl⟩
  obtain ⟨j, hj⟩ := hw
  rw [hj] at hK hjm ⊢
  have c1 := (below_cut T.ris j).1
  have hpl : SetTable.below t.place j ≤ t.place.toList.length := by rw [Array.length_toList]; exact c1
  have hph : SetTable.below t.place j ≤ hs.length := by rw [← T.sz]; exact c1
  have hpp := put_place t j
  have hsize : (t.put j).1.place.size = hs.length + 1 := by rw [← Array.length_toList, hpp, len_ins _ hpl, Array.length_toList, T.sz]
  have up : ∀ {x : Nat}, x ∈ t.place.toList → x ∈ (t.put j).1.place.toList := fun {x} hx => by rw [hpp]; exact mem_ins.2 (.inr hx)
  have old : ∀ {h' : Int} {j' i : Nat}, hs[i]? = some h' → t.place.toList[i]? = some j' → ∃ k, way (t.put j).1.mask h' k = j' ∧ ∀ c, c < k → way (t.put j).1.mask h' c ∈ (t.put j).1.place.toList := fun {h' j' i} a b => by
    obtain ⟨k, e, z⟩ := T.reach i h' j' a b
    exact ⟨k, e, fun c hc => up (z c hc)⟩
  refine ⟨hph, ⟨ris_insert T.ris (fun e => hK (List.mem_of_getElem? (by rw [Array.getElem?_toList]; exact e))), put_dm T.dm j, by rw [len_ins _ hph]; exact hsize, T.cov, fun x hx => ?_, fun i h' j' h1 h2 => ?_⟩, ?_⟩
  · rw [hpp] at hx
    rcases mem_ins.1 hx with z | z
    · rw [z]; exact hjm
    · exact T.bd x z
  · rw [tins_get hs hph] at h1
    rw [hpp, tins_get _ hpl] at h2
    by_cases c : i < SetTable.below t.place j
    · rw [if_pos c] at h1 h2
      exact old h1 h2
    rw [if_neg c] at h1 h2
    by_cases d : i = SetTable.below t.place j
    · rw [if_pos d] at h1 h2
      cases h1; cases h2
      exact ⟨K, hj, fun c hc => up (hb c hc)⟩
    · rw [if_neg d] at h1 h2
      exact old h1 h2
  · show (t.put j).1.place.size + (t.put j).1.dummies.size = hs.length + 1
    rw [hsize, put_dm T.dm j]
    rfl
/-! ### laid anew -/
theorem free_findG {m : Nat} (c : Cov m) (owner : Array (Option Nat)) (h : Int) {j : Nat} (hj : j ≤ m) (hf : oAt owner j = none) :
    ∃ K, SetTable.layClean.free m owner (SetTable.turns m) (SetTable.bits h % (m + 1)) (SetTable.bits h) = some (way m h K) ∧ oAt owner (way m h K) = none ∧ ∀ k, k < K → oAt owner (way m h k) ≠ none := by
  obtain ⟨n, hn, e⟩ := c.meets h hj
  have hw : way m h (off m (SetTable.bits h % (m + 1)) (SetTable.bits h) n) = j := by
    show (nth m (runAt m _ _) (off m _ _ n)).j = j
    rw [nth_off, itL_run]
    exact e
  obtain ⟨K, k1, k2, k3⟩ := st_least (p := fun k => oAt owner (way m h k) = none) _ (by rw [← hw] at hf; exact hf)
  refine ⟨K, free_spec m owner (SetTable.turns m) n _ _ K (by unfold SetTable.turns; omega) k1 (fun k hk => ?_) ?_, k2, k3⟩
  · cases z : oAt owner (nth m (runAt m (SetTable.bits h % (m + 1)) (SetTable.bits h)) k).j with
    | none => exact absurd z (k3 k hk)
    | some _ => rfl
  · rw [show oAt owner (nth m (runAt m (SetTable.bits h % (m + 1)) (SetTable.bits h)) K).j = none from k2]
    rfl
theorem ownG_step {m : Nat} (c : Cov m) {done : List Int} {owner : Array (Option Nat)} (W : L2.Own m done owner) (hl : done.length ≤ m) (h : Int) :
    ∃ j, SetTable.layClean.free m owner (SetTable.turns m) (SetTable.bits h % (m + 1)) (SetTable.bits h) = some j ∧ L2.Own m (done ++ [h]) (owner.setIfInBounds j (some done.length)) := by
  obtain ⟨ps, hps, hin⟩ := W.ps
  obtain ⟨j0, h0, hn0⟩ := st_missing ps (m + 1) (by omega)
  have hj0 : oAt owner j0 = none := Classical.not_not.mp fun z => hn0 (hin j0 (Nat.le_of_lt_succ h0) z)
  obtain ⟨K, e1, e2, e3⟩ := free_findG c owner h (Nat.le_of_lt_succ h0) hj0
  have hjm := wayLe m h K
  have hself := oAt_set_self (owner := owner) (some done.length) (show way m h K < owner.size by rw [W.sz]; exact Nat.lt_succ_of_le hjm)
  have mono : ∀ {i : Nat}, oAt owner i ≠ none → oAt (owner.setIfInBounds (way m h K) (some done.length)) i ≠ none := fun {i} hi => by
    by_cases q : i = way m h K
    · rw [q, hself]; exact fun e => nomatch e
    · rw [oAt_set_ne _ q]; exact hi
  refine ⟨way m h K, e1, by rw [Array.size_setIfInBounds]; exact W.sz, fun j k hj e => ?_, fun k hk => ?_, way m h K :: ps, by simp [hps], fun j hj e => ?_⟩
  · by_cases q : j = way m h K
    · rw [q, hself] at e
      cases e
      exact ⟨h, K, by rw [List.getElem?_append_right (Nat.le_refl _), Nat.sub_self]; rfl, q.symm, fun d hd => mono (e3 d hd)⟩
    · rw [oAt_set_ne _ q] at e
      obtain ⟨h2, K2, a1, a2, a3⟩ := W.at_ j k hj e
      exact ⟨h2, K2, by rw [List.getElem?_append_left (List.getElem?_eq_some_iff.mp a1).1]; exact a1, a2, fun d hd => mono (a3 d hd)⟩
  · by_cases q : k < done.length
    · obtain ⟨j, hj, e⟩ := W.all k q
      exact ⟨j, hj, by rw [oAt_set_ne _ (fun z => by rw [z, e2] at e; cases e)]; exact e⟩
    · have ek : k = done.length := by rw [List.length_append, List.length_singleton] at hk; omega
      rw [ek]
      exact ⟨way m h K, hjm, hself⟩
  · by_cases q : j = way m h K
    · rw [q]; exact List.mem_cons_self
    · rw [oAt_set_ne _ q] at e
      exact List.mem_cons_of_mem _ (hin j hj e)
theorem foldG_ok {m : Nat} (c : Cov m) : ∀ (rest done : List Int) (owner : Array (Option Nat)), L2.Own m done owner → done.length + rest.length ≤ m →
    ∃ o2, rest.foldl (stepF m) (some (owner, done.length)) = some (o2, (done ++ rest).length) ∧ L2.Own m (done ++ rest) o2
  | [], done, owner, W, _ => ⟨owner, by rw [List.append_nil]; rfl, by rw [List.append_nil]; exact W⟩
  | h :: rest, done, owner, W, hl => by
    rw [List.length_cons] at hl
    obtain ⟨j, e, W2⟩ := ownG_step c W (by omega) h
    have l2 : (done ++ [h]).length = done.length + 1 := by simp
    obtain ⟨o2, f, W3⟩ := foldG_ok c rest (done ++ [h]) _ W2 (by omega)
    rw [List.append_assoc, List.singleton_append, l2] at f
    rw [List.append_assoc, List.singleton_append] at W3
    exact ⟨o2, by rw [List.foldl_cons, stepF_some e]; exact f, W3⟩
theorem layG_ok {m : Nat} (c : Cov m) {hs : Array Int} (hn : hs.size ≤ m) : ∃ owner, SetTable.layClean m hs = some owner ∧ L2.Own m hs.toList owner := by
  obtain ⟨owner, f, W⟩ := foldG_ok c hs.toList [] _ (L2.Own.init m) (by show 0 + hs.toList.length ≤ m; rw [Array.length_toList]; omega)
  refine ⟨owner, ?_, W⟩
  rw [layClean_eq]
  have f2 : hs.toList.foldl (stepF m) (some (Array.replicate (m + 1) none, 0)) = some (owner, ([] ++ hs.toList).length) := f
  rw [f2]
  rfl
theorem relaidG_ok (t : SetTable) {hs : Array Int} {wanted M : Nat} (hw : SetTable.sizeAbove wanted - 1 = M) (hM : Cov M) (hn : hs.size ≤ M) :
    ∃ t2 order, t.relaid hs wanted = some (t2, order) ∧ order.toList.Perm (List.range hs.size) ∧ TabG t2 (order.toList.map fun i => hs.getD i 0) ∧ t2.mask = M ∧ t2.led = t.led ∧ t2.plain = t.plain ∧ t2.dummies = #[] := by
  obtain ⟨owner, e, W⟩ := layG_ok hM hn
  have hr : t.relaid hs wanted = some (tabOf t M owner, ((liveOf M owner).map (·.2)).toArray) := by
    rw [relaid_eq, hw, e]
    rfl
  have ris := ris_live (fun j => owner.getD j none) (List.range (M + 1)) (by
    unfold Ris
    first | exact List.pairwise_lt_range | exact List.pairwise_lt_range _)
  have r1 : Ris ((liveOf M owner).map (·.1)) := ris.1
  have nd : ((liveOf M owner).map (·.1)).Nodup := List.Pairwise.imp (fun h => Nat.ne_of_lt h) r1
  have hlen : (liveOf M owner).length = hs.size := by
    obtain ⟨ps, p1, p2⟩ := W.ps
    have u := nat_nodup_len ((liveOf M owner).map (·.1)) ps nd fun x hx => by
      obtain ⟨⟨y, k⟩, hq, rfl⟩ := List.mem_map.mp hx
      obtain ⟨b1, b2⟩ := (mem_live W.sz).1 hq
      exact p2 y b1 (by rw [b2]; exact fun z => nomatch z)
    have v := nat_nodup_len (List.range hs.size) ((liveOf M owner).map (·.2)) List.nodup_range fun k hk => by
      obtain ⟨j, b1, b2⟩ := W.all k (by rw [Array.length_toList]; exact List.mem_range.mp hk)
      exact List.mem_map.mpr ⟨(j, k), (mem_live W.sz).2 ⟨b1, b2⟩, rfl⟩
    rw [List.length_map, p1] at u
    rw [List.length_map, List.length_range] at v
    have z : hs.toList.length = hs.size := rfl
    omega
  refine ⟨tabOf t M owner, ((liveOf M owner).map (·.2)).toArray, hr, ?_, ⟨r1, rfl, ?_, hM, fun x hx => Nat.le_of_lt_succ (List.mem_range.mp (ris.2 x hx)), fun i h j h1 h2 => ?_⟩, rfl, rfl, rfl, rfl⟩
  · refine perm_range hs.size _ (by show ((liveOf M owner).map (·.2)).length = _; rw [List.length_map]; exact hlen) fun k hk => ?_
    obtain ⟨j, b1, b2⟩ := W.all k (by rw [Array.length_toList]; exact hk)
    exact List.mem_map.mpr ⟨(j, k), (mem_live W.sz).2 ⟨b1, b2⟩, rfl⟩
  · show ((liveOf M owner).map (·.1)).toArray.size = (((liveOf M owner).map (·.2)).map fun i => hs.getD i 0).length
    simp
  · have g1 : (((liveOf M owner).map (·.2)).map fun i => hs.getD i 0)[i]? = some h := h1
    have g2 : ((liveOf M owner).map (·.1))[i]? = some j := h2
    rw [List.getElem?_map, List.getElem?_map] at g1
    rw [List.getElem?_map] at g2
    cases hq : (liveOf M owner)[i]? with
    | none => rw [hq] at g2; cases g2
    | some q =>
      obtain ⟨y, k⟩ := q
      rw [hq] at g1 g2
      obtain rfl : y = j := Option.some.inj g2
      have eh : hs.getD k 0 = h := Option.some.inj g1
      obtain ⟨b1, b2⟩ := (mem_live W.sz).1 (List.mem_of_getElem? hq)
      obtain ⟨h0, K, a1, a2, a3⟩ := W.at_ y k b1 b2
      have e0 : h0 = h := by
        rw [← eh, Array.getD_eq_getD_getElem?, ← Array.getElem?_toList, a1]
        rfl
      subst e0
      refine ⟨K, a2, fun c hc => ?_⟩
      show way M h0 c ∈ (liveOf M owner).map (·.1)
      cases z : oAt owner (way M h0 c) with
      | none => exact absurd z (a3 c hc)
      | some k2 => exact List.mem_map.mpr ⟨(way M h0 c, k2), (mem_live W.sz).2 ⟨wayLe M h0 c, z⟩, rfl⟩
end Q

/-! KitO: a set of tuples of numbers and texts, up to 250 of them -/
namespace Q
open PySem PySem.Spec PyProof.Rows L2
/-- a tuple of keys -/
abbrev TupA (P : Program) (w : World) (h : Heap) (k : Ks) (a : Addr) : Prop := IsTupleKey (mixKind P w) h k a
abbrev hashT (P : Program) (w : World) (k : Ks) : Int := tupleKeyHash (mixKind P w) k
def flatK (v : Value) : Prop := (∃ i t, v = Value.int i t) ∨ ∃ z t, v = Value.str z t
section
variable {P : Program} {w : World} {A : Around} {E : Value → Shared → Prop} {s : Shared}
theorem items_flat {k : Ks} {vs : List Value} (h : ItemsAre (mixKind P w) k vs) : ∀ v ∈ vs, flatK v := by
  induction h with
  | nil => exact fun _ hv => nomatch hv
  | cons h1 _ ih =>
    intro v hv
    rcases List.mem_cons.mp hv with e | hv
    · rw [e]
      rcases keyIs_shape h1 with ⟨i, t, _, q⟩ | ⟨z, t, _, q⟩
      · exact .inl ⟨i, t, q⟩
      · exact .inr ⟨z, t, q⟩
    · exact ih v hv
theorem statement_no (n : Nat) {v : Value} (h : flatK v) : ofAClassStatement n v = pure false := by
  rcases h with ⟨i, t, rfl⟩ | ⟨z, t, rfl⟩ <;> (cases n <;> rfl)
theorem statement_tup {k : Ks} {b : Addr} {Q : Bool → Shared → Prop} (hk : TupA P w s.heap k b) (q : Q false s) : wpAny (model P w) A (ofAClassStatement 8 (.ref b)) Q E s := by
  have hT := hk.typeIs
  obtain ⟨o, its, n, ho, _, hd, hi⟩ := hk
  unfold ofAClassStatement
  refine wpAny_bind (wpAny_typeOf hT ?_)
  dsimp only
  have e : (("tuple" : String) == "tuple") = true := by decide
  simp only [e, if_true, Bool.not_true, Bool.false_eq_true, if_false]
  try refine wpAny_bind (wpAny_pure ?_)
  try simp only [Bool.not_true, Bool.false_eq_true, if_false]
  show wpAny _ _ (seqItems? (.ref b) >>= _) _ _ s
  refine wpAny_bind (wpAny_seqItems ho hd ?_)
  dsimp only
  refine wpAny_bind ?_
  show wpAny _ _ (forIn its _ _) _ _ s
  rw [← Array.forIn_toList]
  refine wpAny_forIn_list _ (fun rest r s1 => r.1 = none ∧ s1 = s ∧ ∀ v ∈ rest, flatK v) _ ?_ ?_ _ _ ⟨rfl, rfl, items_flat hi⟩
  · rintro v rest r s1 ⟨hr, rfl, all⟩
    rw [statement_no _ (all v List.mem_cons_self)]
    refine wpAny_bind (wpAny_pure ?_)
    simp only [Bool.false_eq_true, if_false]
    exact wpAny_pure ⟨rfl, rfl, fun u hu => all u (List.mem_cons_of_mem _ hu)⟩
  · rintro ⟨r1, r2⟩ s1 ⟨hr, rfl, _⟩
    simp only at hr
    subst hr
    exact wpAny_pure q
theorem byValue_tup {k : Ks} {b : Addr} {Q : Bool → Shared → Prop} (hk : TupA P w s.heap k b) (q : ∀ c, Q c s) : wpAny (model P w) A (hashByValue 8 (.ref b)) Q E s := by
  have hT := hk.typeIs
  obtain ⟨o, its, n, ho, _, hd, hi⟩ := hk
  unfold hashByValue
  refine wpAny_bind (wpAny_specialOf hT F.slot_tuple_hash.lookup ?_)
  show wpAny _ _ (seqItems? (.ref b) >>= _) _ _ s
  refine wpAny_bind (wpAny_seqItems ho hd ?_)
  refine wpAny_bind ?_
  show wpAny _ _ (forIn its _ _) _ _ s
  rw [← Array.forIn_toList]
  refine wpAny_forIn_list _ (fun rest r s1 => r.1 = none ∧ s1 = s ∧ ∀ v ∈ rest, flatK v) _ ?_ ?_ _ _ ⟨rfl, rfl, items_flat hi⟩
  · rintro v rest r s1 ⟨hr, rfl, all⟩
    rcases all v List.mem_cons_self with ⟨i, t, rfl⟩ | ⟨z, t, rfl⟩
    · rw [show hashByValue 7 (.int i t) = pure true from rfl]
      refine wpAny_bind (wpAny_pure ?_)
      simp only [Bool.not_true, Bool.false_eq_true, if_false]
      exact wpAny_pure ⟨rfl, rfl, fun u hu => all u (List.mem_cons_of_mem _ hu)⟩
    · rw [show hashByValue 7 (.str z t) = pure false from rfl]
      refine wpAny_bind (wpAny_pure ?_)
      simp only [Bool.not_false, if_true]
      exact wpAny_pure (wpAny_pure (q false))
  · rintro ⟨r1, r2⟩ s1 ⟨hr, rfl, _⟩
    simp only at hr
    subst hr
    exact wpAny_pure (q true)
theorem unseen_tup {k : Ks} {b : Addr} {Q : Bool → Shared → Prop} (hk : TupA P w s.heap k b) {ys : List Value} (hy : ∀ y ∈ ys, ∃ k2 c, y = Value.ref c ∧ TupA P w s.heap k2 c) (q : Q false s) :
    wpAny (model P w) A (searchCouldBeSeen (.ref b) ys) Q E s := by
  unfold searchCouldBeSeen
  refine wpAny_bind ?_
  refine wpAny_forIn_list _ (fun rest r s1 => r.1 = none ∧ s1 = s ∧ ∀ y ∈ rest, ∃ k2 c, y = Value.ref c ∧ TupA P w s.heap k2 c) _ ?_ ?_ _ _ ⟨rfl, rfl, hy⟩
  · rintro v rest r s1 ⟨hr, rfl, all⟩
    obtain ⟨k2, c, rfl, hc⟩ := all v List.mem_cons_self
    have more : ∀ y ∈ rest, ∃ k2 c, y = Value.ref c ∧ TupA P w s1.heap k2 c := fun u hu => all u (List.mem_cons_of_mem _ hu)
    dsimp only
    by_cases hv : (b == c || (carriedByValue (.ref b) && carriedByValue (.ref c))) = true
    · exact wp_if_pos hv (wpAny_pure ⟨rfl, rfl, more⟩)
    · refine wp_if_neg hv ?_
      refine wpAny_bind (wpAny_eqIsQuiet_tuple hk ?_)
      simp only [Bool.not_true, Bool.false_eq_true, if_false]
      refine wpAny_bind (wpAny_eqIsQuiet_tuple hc ?_)
      simp only [Bool.not_true, Bool.false_eq_true, if_false]
      refine wpAny_bind (statement_tup hk ?_)
      simp only [Bool.false_eq_true, if_false]
      refine wpAny_bind (statement_tup hc ?_)
      simp only [Bool.false_eq_true, if_false]
      exact wpAny_pure ⟨rfl, rfl, more⟩
  · rintro ⟨r1, r2⟩ s1 ⟨hr, rfl, _⟩
    simp only at hr
    subst hr
    exact wpAny_pure q
end
/-! ### the set -/
def rowsT (P : Program) (w : World) (L : List (Addr × Ks)) : List (Int × Value) := L.map fun p => (hashT P w p.2, Value.ref p.1)
structure SetG (P : Program) (w : World) (h : Heap) (a : Addr) (L : List (Addr × Ks)) (es : Array (Int × Value)) (ep : Nat) (t : SetTable) : Prop where
  ob : ∃ o, h.get? a = some o ∧ o.ExactSet ∧ o.data = .set es ep t
  rows : es.toList = rowsT P w L
  tab : TabG t (L.map fun p => hashT P w p.2)
  msk : MaskG t.mask
  nd : (L.map (·.2)).Nodup
  tup : ∀ p ∈ L, TupA P w h p.2 p.1
  led : w.params.followText "set-order" = true ∨ t.led = true
  room : L.length * 5 < t.mask * 3
section
variable {P : Program} {w : World} {A : Around} {E : Value → Shared → Prop} {s : Shared} {a : Addr} {L : List (Addr × Ks)} {es : Array (Int × Value)} {ep : Nat} {t : SetTable}
theorem rowsT_len {L : List (Addr × Ks)} {es : Array (Int × Value)} (h : es.toList = rowsT P w L) : es.size = L.length := by
  have q := congrArg List.length h
  rw [Array.length_toList] at q
  rw [q]
  exact List.length_map _
theorem SetG.size (R : SetG P w s.heap a L es ep t) : es.size = L.length := rowsT_len R.rows
theorem SetG.psz (R : SetG P w s.heap a L es ep t) : t.place.size = L.length := by rw [R.tab.sz]; exact List.length_map _
theorem SetG.fits (R : SetG P w s.heap a L es ep t) : t.fits es.size = true := by
  have h1 := R.psz
  have h2 := R.size
  have h3 := R.room
  unfold SetTable.fits SetTable.fill
  rw [R.tab.dm, Bool.and_eq_true, beq_iff_eq, decide_eq_true_eq]
  show t.place.size = es.size ∧ t.place.size + 0 ≤ t.mask
  omega
theorem SetG.entry (R : SetG P w s.heap a L es ep t) {i : Nat} {p : Addr × Ks} (h : L[i]? = some p) : es[i]? = some (hashT P w p.2, Value.ref p.1) := by
  rw [← Array.getElem?_toList, R.rows]
  show (L.map _)[i]? = _
  rw [List.getElem?_map, h]
  rfl
theorem SetG.gw (R : SetG P w s.heap a L es ep t) : ¬ t.gaveWay = true := by
  unfold SetTable.gaveWay
  rw [R.tab.cov.odd]
  decide
theorem no_dummy (m : Nat) : ∀ (n : Nat) (p : SetTable.Probe), p.dummy = none → (nth m p n).dummy = none
  | 0, _, h => h
  | n + 1, p, h => no_dummy m n (adv m p) (by unfold adv; split <;> exact h)
/-- the start of the way of a hash -/
abbrev run0 (m : Nat) (h : Int) : SetTable.Probe := runAt m (SetTable.bits h % (m + 1)) (SetTable.bits h)
/-- the search from the c-th step on -/
theorem seekG (R : SetG P w s.heap a L es ep t) {x : Addr} {k : Ks} (hx : TupA P w s.heap k x) (hu : A.units < cLine) {K : Nat} (hKf : K < 10 * SetTable.turns t.mask)
    (hK : way t.mask (hashT P w k) K ∉ t.place.toList) (hKb : ∀ c, c < K → way t.mask (hashT P w k) c ∈ t.place.toList) {Q : SetFound → Shared → Prop}
    (hin : k ∈ L.map (·.2) → Q (.there none) s) (hout : k ∉ L.map (·.2) → Q (.free (way t.mask (hashT P w k) K) false) s) :
    ∀ (f c : Nat) (stand : Option SetTable.Probe), stand.getD (t.probeStart (hashT P w k)) = nth t.mask (run0 t.mask (hashT P w k)) c → c ≤ K → K - c < f →
      (∀ (i : Nat) p, L[i]? = some p → p.2 = k → ∃ d, c ≤ d ∧ d < K ∧ t.place.toList[i]? = some (way t.mask (hashT P w k) d)) →
      wpAny (model P w) A (setSearchFrom a (.ref x) (hashT P w k) true f stand) Q E s := by
  intro f
  induction f with
  | zero => intro c stand _ _ hf; exact absurd hf (Nat.not_lt_zero _)
  | succ f ih =>
    intro c stand hst hc hf hre
    obtain ⟨o, ho, hex, hd⟩ := R.ob
    rw [setSearchFrom_succ]
    refine wpAny_bind (wpAny_setState_of ho hd R.fits ?_)
    dsimp only
    refine wp_if_neg R.gw ?_
    try refine wpAny_bind (wpAny_pure ?_)
    have sh : ∀ q, nth t.mask (nth t.mask (run0 t.mask (hashT P w k)) c) q = nth t.mask (run0 t.mask (hashT P w k)) (c + q) := fun q => (nth_add t.mask c _ q).symm
    have wj : ∀ q, (nth t.mask (nth t.mask (run0 t.mask (hashT P w k)) c) q).j = way t.mask (hashT P w k) (c + q) := fun q => congrArg SetTable.Probe.j (sh q)
    have hKc : c + (K - c) = K := by omega
    have spec := go_spec t R.tab.ris R.tab.dm (fun i => (es[i]?.map (·.1)).getD 0) (hashT P w k) (10 * SetTable.turns t.mask) (K - c) (nth t.mask (run0 t.mask (hashT P w k)) c) (no_dummy t.mask c _ rfl) (by omega)
      (fun q hq => by rw [wj]; exact hKb (c + q) (by omega)) (by rw [wj, hKc]; exact hK)
    have hashAt : ∀ (i : Nat) p, L[i]? = some p → (es[i]?.map (·.1)).getD 0 = hashT P w p.2 := fun i p hp => by
      rw [R.entry hp]
      rfl
    rcases spec with ⟨q, i, hq, hi, hh, hno, hpr⟩ | ⟨hno, hpr⟩
    · have cand : t.probe (fun i => (es[i]?.map (·.1)).getD 0) (hashT P w k) (stand.getD (t.probeStart (hashT P w k))) = some (.candidate (way t.mask (hashT P w k) (c + q)) i (nth t.mask (run0 t.mask (hashT P w k)) (c + (q + 1)))) := by
        rw [hst, ← wj, ← sh]
        exact hpr
      rw [cand]
      dsimp only
      rw [wj] at hi
      have hil : i < L.length := by
        have q1 := (List.getElem?_eq_some_iff.mp hi).1
        have q2 := R.psz
        rw [Array.length_toList] at q1
        omega
      obtain ⟨p, hp⟩ : ∃ p, L[i]? = some p := ⟨_, List.getElem?_eq_getElem hil⟩
      have hmem : p ∈ L := List.mem_of_getElem? hp
      have rest : wpAny (model P w) A (searchRest a (.ref x) (hashT P w k) true f es t (way t.mask (hashT P w k) (c + q)) i (nth t.mask (run0 t.mask (hashT P w k)) (c + (q + 1)))) Q E s := by
        unfold searchRest
        rw [R.entry hp]
        dsimp only
        refine wpAny_bind (wpAny_holding (wpAny_eqBool_tuple hu (R.tup p hmem) hx ?_))
        refine wpAny_bind (wpAny_setState_of ho hd R.fits ?_)
        dsimp only
        by_cases hkk : p.2 = k
        · exact wp_if_pos (by simp [hkk]) (wpAny_pure (hin (List.mem_map.mpr ⟨p, hmem, hkk⟩)))
        · refine wp_if_neg (by simp [hkk]) ?_
          try refine wpAny_bind (wpAny_pure ?_)
          rw [sameMem]
          dsimp only
          have live := slot_live R.tab.ris hi
          simp only [if_true, live, R.entry hp]
          refine wpAny_bind (wpAny_isSame_ref_self (wpAny_bind (wpAny_pure ?_)))
          simp only [if_true]
          refine wp_if_neg (by simp [hkk]) ?_
          refine ih (c + (q + 1)) _ rfl (by omega) (by omega) fun i0 p0 h0 hk0 => ?_
          obtain ⟨d, a1, a2, a3⟩ := hre i0 p0 h0 hk0
          refine ⟨d, ?_, a2, a3⟩
          rcases Nat.lt_trichotomy d (c + q) with z | z | z
          · exfalso
            refine hno (d - c) i0 (by omega) (by rw [wj, show c + (d - c) = d by omega]; exact a3) ?_
            exact (hashAt i0 p0 h0).trans (congrArg (hashT P w) hk0)
          · exfalso
            rw [z] at a3
            have l2 := slot_live R.tab.ris a3
            rw [live] at l2
            injection l2 with l2
            rw [← l2, hp] at h0
            exact hkk ((congrArg Prod.snd (Option.some.inj h0)).trans hk0)
          · omega
      by_cases hl : t.led = true
      · refine wp_if_neg (by simp [hl]) ?_
        try refine wpAny_bind (wpAny_pure ?_)
        exact rest
      · refine wp_if_pos (by simp [hl]) ?_
        refine wpAny_bind (unseen_tup hx (fun y hy => ?_) ?_)
        · obtain ⟨e, he, ee⟩ := List.mem_map.mp hy
          have he1 : e ∈ es ∧ e.1 = hashT P w k := by simpa using he
          have he2 : e ∈ es.toList := by simpa using he1.1
          rw [R.rows] at he2
          obtain ⟨p2, hp2, e2⟩ := List.mem_map.mp he2
          exact ⟨p2.2, p2.1, by rw [← ee, ← e2], R.tup p2 hp2⟩
        · refine wp_if_neg (by decide) ?_
          try refine wpAny_bind (wpAny_pure ?_)
          exact rest
    · have empt : t.probe (fun i => (es[i]?.map (·.1)).getD 0) (hashT P w k) (stand.getD (t.probeStart (hashT P w k))) = some (.empty (way t.mask (hashT P w k) K) none) := by
        rw [hst, show way t.mask (hashT P w k) K = (nth t.mask (nth t.mask (run0 t.mask (hashT P w k)) c) (K - c)).j by rw [wj, hKc]]
        exact hpr
      rw [empt]
      dsimp only
      refine wpAny_pure (hout fun hm => ?_)
      obtain ⟨p0, h0, hk0⟩ := List.mem_map.mp hm
      obtain ⟨i0, e0⟩ := List.mem_iff_getElem?.mp h0
      obtain ⟨d, a1, a2, a3⟩ := hre i0 p0 e0 hk0
      refine hno (d - c) i0 (by omega) (by rw [wj, show c + (d - c) = d by omega]; exact a3) ?_
      exact (hashAt i0 p0 e0).trans (congrArg (hashT P w) hk0)
theorem lookG (R : SetG P w s.heap a L es ep t) {x : Addr} {k : Ks} (hx : TupA P w s.heap k x) (hu : A.units < cLine) {Q : SetFound → Shared → Prop} (hin : k ∈ L.map (·.2) → Q (.there none) s)
    (hout : ∀ K, k ∉ L.map (·.2) → way t.mask (hashT P w k) K ∉ t.place.toList → (∀ c, c < K → way t.mask (hashT P w k) c ∈ t.place.toList) → Q (.free (way t.mask (hashT P w k) K) false) s) :
    wpAny (model P w) A (setSearch a (.ref x) (hashT P w k) true) Q E s := by
  have hroom := R.room
  obtain ⟨K, hKf, hK, hKb⟩ := R.tab.first (by rw [List.length_map]; omega) (hashT P w k)
  have hbig : K < 100000 := by
    have : 10 * SetTable.turns t.mask ≤ 50000 := by
      unfold SetTable.turns
      rcases R.msk with e | e | e | e <;> omega
    omega
  unfold setSearch
  refine seekG R hx hu hKf hK hKb hin (fun hn => hout K hn hK hKb) 100000 0 none rfl (Nat.zero_le _) (by omega) fun i p hp hk => ?_
  have hi : (L.map fun p => hashT P w p.2)[i]? = some (hashT P w k) := by
    rw [List.getElem?_map, hp, ← hk]
    rfl
  have hil : i < t.place.toList.length := by
    have h1 := (List.getElem?_eq_some_iff.mp hp).1
    have h2 := R.psz
    rw [Array.length_toList]
    omega
  have hj := List.getElem?_eq_getElem hil
  obtain ⟨c, hc, e⟩ := R.tab.before hK hi hj
  exact ⟨c, Nat.zero_le _, hc, by rw [hj, e]⟩
end
end Q

/-! KitP: adding to a set of tuples; set(tuples) -/
namespace Q
open PySem PySem.Spec PyProof.Rows L2
section
variable {P : Program} {w : World} {A : Around} {E : Value → Shared → Prop} {s : Shared} {a : Addr} {L : List (Addr × Ks)} {es : Array (Int × Value)} {ep : Nat} {t : SetTable}
theorem tupA_same {h h' : Heap} {k : Ks} {b : Addr} {o : Obj} (x : TupA P w h k b) (ho : h.get? a = some o) (hd : o.data = .set es ep t) (hs : Heap.SameBut a h h') : TupA P w h' k b := by
  obtain ⟨o2, its, n, ho2, hc, hd2, hi⟩ := x
  have hne : b ≠ a := fun e => by
    rw [e, ho] at ho2
    cases ho2
    rw [hd] at hd2
    cases hd2
  exact ⟨o2, its, n, (hs.2 b hne).trans ho2, hc, hd2, hi⟩
theorem tupA_keep {h h' : Heap} {k : Ks} {b : Addr} (x : TupA P w h k b) (hk : ∀ c o, h.get? c = some o → h'.get? c = some o) : TupA P w h' k b := by
  obtain ⟨o, its, n, ho, r⟩ := x
  exact ⟨o, its, n, hk b o ho, r⟩
theorem rowsT_put (L : List (Addr × Ks)) (p : Nat) (x : Addr) (k : Ks) : rowsT P w (L.take p ++ (x, k) :: L.drop p) = (rowsT P w L).take p ++ (hashT P w k, Value.ref x) :: (rowsT P w L).drop p := by
  unfold rowsT
  rw [List.map_append, List.map_cons, List.map_take, List.map_drop]
theorem picks {α : Type} (L : List α) : (List.range L.length).filterMap (fun i => L[i]?) = L := by
  have key : ∀ n, n ≤ L.length → (List.range n).filterMap (fun i => L[i]?) = L.take n := by
    intro n
    induction n with
    | zero => intro _; rfl
    | succ n ih =>
      intro hn
      have hlt : n < L.length := hn
      rw [List.range_succ, List.filterMap_append, ih (Nat.le_of_lt hlt), List.take_succ, List.getElem?_eq_getElem hlt, List.filterMap_cons_some (List.getElem?_eq_getElem hlt)]
      rfl
  rw [key L.length (Nat.le_refl _), List.take_length]
theorem reorder (L : List (Addr × Ks)) (es : Array (Int × Value)) (order : Array Nat) (hr : es.toList = rowsT P w L) (hp : order.toList.Perm (List.range L.length)) :
    ∃ L2, (order.filterMap (es[·]?)).toList = rowsT P w L2 ∧ L2.Perm L ∧ (L2.map fun p => hashT P w p.2) = order.toList.map fun i => (es.map (·.1)).getD i 0 := by
  have hsz := rowsT_len hr
  have ent : ∀ i (h : i < L.length), es[i]? = some (hashT P w (L[i]).2, Value.ref (L[i]).1) := fun i h => by
    rw [← Array.getElem?_toList, hr]
    show (L.map _)[i]? = _
    rw [List.getElem?_map, List.getElem?_eq_getElem h]
    rfl
  have key : ∀ l : List Nat, (∀ i ∈ l, i < L.length) → l.filterMap (fun i => es[i]?) = rowsT P w (l.filterMap fun i => L[i]?) ∧ ((l.filterMap fun i => L[i]?).map fun p => hashT P w p.2) = l.map fun i => (es.map (·.1)).getD i 0 := by
    intro l
    induction l with
    | nil => intro _; exact ⟨rfl, rfl⟩
    | cons i l ih =>
      intro hl
      have hi := hl i List.mem_cons_self
      obtain ⟨e1, e3⟩ := ih fun j hj => hl j (List.mem_cons_of_mem _ hj)
      rw [List.filterMap_cons_some (ent i hi), List.filterMap_cons_some (List.getElem?_eq_getElem hi), e1]
      refine ⟨rfl, ?_⟩
      rw [List.map_cons, List.map_cons, e3]
      have e5 : (es.map (·.1))[i]? = some (hashT P w (L[i]).2) := by
        rw [Array.getElem?_map, ent i hi]
        rfl
      have e4 : (es.map (·.1)).getD i 0 = hashT P w (L[i]).2 := by simp [Array.getD_eq_getD_getElem?, e5]
      rw [e4]
  obtain ⟨e1, e3⟩ := key order.toList fun i hi => List.mem_range.mp (hp.mem_iff.mp hi)
  refine ⟨_, by first | (rw [Array.toList_filterMap]; exact e1) | simpa using e1, ?_, e3⟩
  have q := hp.filterMap (fun i => L[i]?)
  rw [picks] at q
  exact q
/-- laid anew -/
theorem relayG {o : Obj} (ho : s.heap.get? a = some o) (hex : o.ExactSet) (hd : o.data = .set es ep t) (hrows : es.toList = rowsT P w L) (hsz : t.place.size = es.size) (hdm : t.dummies = #[]) (hfl : es.size ≤ t.mask)
    (nd : (L.map (·.2)).Nodup) (tup : ∀ p ∈ L, TupA P w s.heap p.2 p.1) (ld : w.params.followText "set-order" = true ∨ t.led = true) {wanted M : Nat}
    (hw : SetTable.sizeAbove wanted - 1 = M) (hM : MaskG M) (hw2 : SetTable.sizeAbove wanted ≤ 1000) (hn : L.length * 5 < M * 3) (hle : L.length ≤ 1000) {Q : Unit → Shared → Prop}
    (q : ∀ h2 L2 es2 ep2 t2, Heap.SameBut a s.heap h2 → SetG P w h2 a L2 es2 ep2 t2 → L2.Perm L → Q () { s with heap := h2 }) : wpAny (model P w) A (setRelay a wanted) Q E s := by
  have hsl := rowsT_len hrows
  have hfits : t.fits es.size = true := by
    unfold SetTable.fits SetTable.fill
    rw [hdm, Bool.and_eq_true, beq_iff_eq, decide_eq_true_eq]
    show t.place.size = es.size ∧ t.place.size + 0 ≤ t.mask
    omega
  obtain ⟨t2, order, e, hp, T, em, el, epl, ed⟩ := relaidG_ok t (hs := es.map (·.1)) (wanted := wanted) hw (cov_of hM) (by rw [Array.size_map, hsl]; omega)
  rw [Array.size_map, hsl] at hp
  obtain ⟨L2, r1, r2, r3⟩ := reorder L es order hrows hp
  rw [← r3] at T
  have hs2 : (order.filterMap (es[·]?)).size = es.size := by rw [rowsT_len r1, r2.length_eq, hsl]
  rw [setRelay_eq]
  refine wpAny_bind (wpAny_setState_of ho hd hfits ?_)
  dsimp only
  refine wp_if_neg (by rw [sizeLine_eq]; omega) ?_
  try refine wpAny_bind (wpAny_pure ?_)
  rw [e]
  dsimp only
  refine wpAny_bind ?_
  refine wp_if_neg (by rw [hs2]; simp) ?_
  try refine wpAny_bind (wpAny_pure ?_)
  refine wpAny_pure ?_
  dsimp only
  refine wpAny_storeSet_of ho hd ?_ (by rw [hs2, hsl, sizeLine_eq]; omega)
  have sb : Heap.SameBut a s.heap (s.heap.update a (Obj.putSet (order.filterMap (es[·]?)) t2)) := Heap.SameBut.update ..
  refine q _ L2 (order.filterMap (es[·]?)) (ep + 1) t2 sb ⟨⟨_, store_at ho hd, ⟨hex.1, hex.2.1, hex.2.2⟩, rfl⟩, r1, T, by rw [em]; exact hM, (r2.map (·.2)).nodup_iff.mpr nd, fun p hpm => tupA_same (tup p (r2.mem_iff.mp hpm)) ho hd sb, by rw [el]; exact ld, ?_⟩ r2
  rw [r2.length_eq, em]
  exact hn
theorem grow_32 : SetTable.sizeAbove (SetTable.grown 5) = 32 := by decide +kernel
theorem grow_128 : SetTable.sizeAbove (SetTable.grown 19) = 128 := by decide +kernel
theorem grow_512 : SetTable.sizeAbove (SetTable.grown 77) = 512 := by decide +kernel
/-- adding -/
theorem addG (R : SetG P w s.heap a L es ep t) {x : Addr} {k : Ks} (hx : TupA P w s.heap k x) (hu : A.units < cLine) (hfew : L.length + 1 < 300) {Q : Bool → Shared → Prop}
    (q : ∀ b h2 L2 es2 ep2 t2, Heap.SameBut a s.heap h2 → SetG P w h2 a L2 es2 ep2 t2 → (k ∈ L.map (·.2) → L2 = L) → (k ∉ L.map (·.2) → L2.Perm ((x, k) :: L)) → Q b { s with heap := h2 }) :
    wpAny (model P w) A (setAddHashed a (.ref x) (hashT P w k)) Q E s := by
  obtain ⟨o, ho, hex, hd⟩ := R.ob
  have hsl := R.size
  have hroom := R.room
  unfold setAddHashed
  refine wpAny_holding ?_
  rw [show (100000 : Nat) = 99999 + 1 from rfl, setAddHashedIn_succ]
  refine wpAny_bind (wpAny_setState_of ho hd R.fits ?_)
  dsimp only
  refine wp_if_neg (by simp [byScan, Value.scannable]) ?_
  try refine wpAny_bind (wpAny_pure ?_)
  refine wpAny_bind (lookG R hx hu (fun hm => ?_) fun K hm hK hb => ?_)
  · dsimp only
    exact wpAny_pure (q false s.heap L es ep t (Heap.SameBut.refl a s.heap) R (fun _ => rfl) fun z => absurd hm z)
  dsimp only
  refine wpAny_bind (wpAny_setState_of ho hd R.fits ?_)
  dsimp only
  obtain ⟨q2, q3, q9⟩ := R.tab.put hK hb
  have q1 : (t.put (way t.mask (hashT P w k) K)).2 = SetTable.below t.place (way t.mask (hashT P w k) K) := rfl
  have q4 : (t.put (way t.mask (hashT P w k) K)).1.mask = t.mask := rfl
  have q5 : (t.put (way t.mask (hashT P w k) K)).1.led = t.led := rfl
  generalize t.put (way t.mask (hashT P w k) K) = pt at q1 q3 q4 q5 q9 ⊢
  obtain ⟨t1, p⟩ := pt
  dsimp only at q1 q3 q4 q5 q9 ⊢
  subst q1
  have hin : (SetTable.insertAt es (SetTable.below t.place (way t.mask (hashT P w k) K)) (hashT P w k, Value.ref x)).toList = rowsT P w (L.take (SetTable.below t.place (way t.mask (hashT P w k) K)) ++ (x, k) :: L.drop (SetTable.below t.place (way t.mask (hashT P w k) K))) := by
    rw [SetTable.toList_insertAt, rowsT_put, R.rows]
  generalize SetTable.below t.place (way t.mask (hashT P w k) K) = p at q2 q3 hin ⊢
  have pm := put_perm L p (x, k)
  have hlen : (L.take p ++ (x, k) :: L.drop p).length = L.length + 1 := pm.length_eq
  have hhs : (L.take p ++ (x, k) :: L.drop p).map (fun p => hashT P w p.2) = (L.map fun p => hashT P w p.2).take p ++ hashT P w k :: (L.map fun p => hashT P w p.2).drop p := by
    rw [List.map_append, List.map_cons, List.map_take, List.map_drop]
  rw [← hhs] at q3
  have nd1 : ((L.take p ++ (x, k) :: L.drop p).map (·.2)).Nodup := by
    refine (pm.map (·.2)).nodup_iff.mpr ?_
    rw [List.map_cons]
    exact List.nodup_cons.mpr ⟨hm, R.nd⟩
  have hes : (SetTable.insertAt es p (hashT P w k, Value.ref x)).size = L.length + 1 := by rw [rowsT_len hin, hlen]
  generalize SetTable.insertAt es p (hashT P w k, Value.ref x) = es1 at hin hes ⊢
  generalize L.take p ++ (x, k) :: L.drop p = L1 at pm hlen q3 nd1 hin
  -- the table, by value or not
  have after : ∀ t3 : SetTable, TabG t3 (L1.map fun p => hashT P w p.2) → t3.mask = t.mask → t3.led = t.led → t3.fill = L.length + 1 → wpAny (model P w) A (do
      storeSet a es1 t3
      if !false && t3.tooFull then setRelay a (SetTable.grown (es.size + 1))
      return true) Q E s := by
    intro t3 g1 g2 g3 g4
    refine wpAny_bind (wpAny_storeSet_of ho hd ?_ (by rw [hes, sizeLine_eq]; omega))
    have sb : Heap.SameBut a s.heap (s.heap.update a (Obj.putSet es1 t3)) := Heap.SameBut.update ..
    have ho1 := store_at (es' := es1) (t' := t3) ho hd
    generalize s.heap.update a (Obj.putSet es1 t3) = h1 at sb ho1 ⊢
    have tup1 : ∀ p ∈ L1, TupA P w h1 p.2 p.1 := fun p hp => by
      rcases List.mem_cons.mp (pm.mem_iff.mp hp) with e | hp
      · rw [e]; exact tupA_same hx ho hd sb
      · exact tupA_same (R.tup p hp) ho hd sb
    have ld1 : w.params.followText "set-order" = true ∨ t3.led = true := by rw [g3]; exact R.led
    have full : t3.tooFull = true ↔ (L.length + 1) * 5 ≥ t3.mask * 3 := by
      unfold SetTable.tooFull
      rw [decide_eq_true_eq, g4]
    by_cases hf : t3.tooFull = true
    · have hfull := full.mp hf
      have hsz1 : t3.place.size = es1.size := by
        have z := g1.sz
        rw [List.length_map, hlen] at z
        rw [z, hes]
      have go : ∀ M, SetTable.sizeAbove (SetTable.grown (L.length + 1)) - 1 = M → MaskG M → SetTable.sizeAbove (SetTable.grown (L.length + 1)) ≤ 1000 → (L.length + 1) * 5 < M * 3 → L.length + 1 ≤ t.mask →
          wpAny (model P w) A (setRelay a (SetTable.grown (L.length + 1))) (fun _ s2 => wpAny (model P w) A (pure true) Q E s2) E { s with heap := h1 } := fun M h1' h2' h3' h4' h5' => by
        refine relayG (s := { s with heap := h1 }) ho1 ⟨hex.1, hex.2.1, hex.2.2⟩ rfl hin hsz1 g1.dm (by rw [hes, g2]; exact h5') nd1 tup1 ld1 h1' h2' h3' (by rw [hlen]; exact h4') (by omega) ?_
        intro h2 L2 es2 ep2 t2 sb2 R2 pm2
        exact wpAny_pure (q true h2 L2 es2 ep2 t2 (sb.trans sb2) R2 (fun z => absurd z hm) fun _ => pm2.trans pm)
      have body : wpAny (model P w) A (setRelay a (SetTable.grown (es.size + 1))) (fun _ s2 => wpAny (model P w) A (pure true) Q E s2) E { s with heap := h1 } := by
        rw [hsl]
        rw [g2] at hfull
        rcases R.msk with e | e | e | e <;> rw [e] at hfull hroom
        · have e2 : L.length = 4 := by omega
          exact go 31 (by rw [e2, grow_32]) (.inr (.inl rfl)) (by rw [e2, grow_32]; decide) (by omega) (by omega)
        · have e2 : L.length = 18 := by omega
          exact go 127 (by rw [e2, grow_128]) (.inr (.inr (.inl rfl))) (by rw [e2, grow_128]; decide) (by omega) (by omega)
        · have e2 : L.length = 76 := by omega
          exact go 511 (by rw [e2, grow_512]) (.inr (.inr (.inr rfl))) (by rw [e2, grow_512]; decide) (by omega) (by omega)
        · omega
      first
        | exact wpAny_bind (wp_if_pos (by simp [hf]) body)
        | exact wp_if_pos (by simp [hf]) (wpAny_bind body)
    · have fin := q true h1 L1 es1 (ep + 1) t3 sb ⟨⟨_, ho1, ⟨hex.1, hex.2.1, hex.2.2⟩, rfl⟩, hin, g1, by rw [g2]; exact R.msk, nd1, tup1, ld1, by
        have z : ¬ (L.length + 1) * 5 ≥ t3.mask * 3 := fun z => hf (full.mpr z)
        rw [hlen]; omega⟩ (fun z => absurd z hm) fun _ => pm
      first
        | exact wp_if_neg (by simp [hf]) (wpAny_pure fin)
        | exact wpAny_bind (wp_if_neg (by simp [hf]) (wpAny_pure (wpAny_pure fin)))
  have T2 : ∀ c : Bool, TabG { t1 with plain := c } (L1.map fun p => hashT P w p.2) := fun c => ⟨q3.ris, q3.dm, q3.sz, q3.cov, q3.bd, q3.reach⟩
  have f1 : t1.fill = L.length + 1 := by rw [q9]; simp
  by_cases hpl : t1.plain = true
  · first
      | (refine wpAny_bind ?_; refine wp_if_pos hpl ?_; refine byValue_tup hx fun c => ?_)
      | refine wp_if_pos hpl (wpAny_bind (byValue_tup hx fun c => ?_))
    cases c with
    | true => simp only [if_true]; exact after t1 q3 q4 q5 f1
    | false => simp only [Bool.false_eq_true, if_false]; exact after { t1 with plain := false } (T2 false) q4 q5 f1
  · first
      | (refine wpAny_bind ?_; refine wp_if_neg hpl ?_; refine wpAny_pure ?_)
      | refine wp_if_neg hpl (wpAny_bind (wpAny_pure ?_))
    simp only [if_true]
    exact after t1 q3 q4 q5 f1
end
end Q

/-! KitQ: set(a list or a tuple of tuples) -/
namespace Q
open PySem PySem.Spec PyProof.Rows L2
/-- what of the first i items the set holds -/
structure GotT (ks : List (Addr × Ks)) (i : Nat) (L : List (Addr × Ks)) : Prop where
  sub : ∀ p ∈ L, p ∈ ks.take i
  all : ∀ p ∈ ks.take i, p.2 ∈ L.map (·.2)
  len : L.length ≤ i
theorem GotT.zero (ks : List (Addr × Ks)) : GotT ks 0 [] := ⟨fun p h => (nomatch h), fun p h => (by simp at h), Nat.le_refl _⟩
theorem GotT.same {ks L : List (Addr × Ks)} {i : Nat} {x : Addr × Ks} (g : GotT ks i L) (h : ks[i]? = some x) (hm : x.2 ∈ L.map (·.2)) : GotT ks (i + 1) L := by
  refine ⟨fun p hp => ?_, fun p hp => ?_, Nat.le_succ_of_le g.len⟩ <;> rw [take_next h] at *
  · exact List.mem_append_left _ (g.sub p hp)
  · rcases List.mem_append.mp hp with z | z
    · exact g.all p z
    · rw [List.mem_singleton.mp z]; exact hm
theorem GotT.more {ks L L2 : List (Addr × Ks)} {i : Nat} {x : Addr × Ks} (g : GotT ks i L) (h : ks[i]? = some x) (pm : L2.Perm (x :: L)) : GotT ks (i + 1) L2 := by
  refine ⟨fun p hp => ?_, fun p hp => ?_, by rw [pm.length_eq]; exact Nat.succ_le_succ g.len⟩ <;> rw [take_next h] at *
  · rcases List.mem_cons.mp (pm.mem_iff.mp hp) with e | z
    · rw [e]; exact List.mem_append_right _ (List.mem_singleton.mpr rfl)
    · exact List.mem_append_left _ (g.sub p z)
  · rw [(pm.map (·.2)).mem_iff, List.map_cons]
    rcases List.mem_append.mp hp with z | z
    · exact List.mem_cons_of_mem _ (g.all p z)
    · rw [List.mem_singleton.mp z]; exact List.mem_cons_self
section
variable {P : Program} {w : World} {A : Around} {E : Value → Shared → Prop} {s : Shared}
theorem SetG.keep {h h2 : Heap} {a : Addr} {L : List (Addr × Ks)} {es : Array (Int × Value)} {ep : Nat} {t : SetTable} (R : SetG P w h a L es ep t) (ha : ∀ o, h.get? a = some o → h2.get? a = some o) (ht : ∀ p ∈ L, TupA P w h2 p.2 p.1) : SetG P w h2 a L es ep t := by
  obtain ⟨o, ho, r⟩ := R.ob
  exact ⟨⟨o, ha o ho, r⟩, R.rows, R.tab, R.msk, R.nd, ht, R.led, R.room⟩
abbrev freshS (w : World) : Obj := { cls := .type "set", dict := none, data := .set #[] 0 (.fresh 0 0 (!w.params.followText "set-order")) }
theorem setG_fresh {h : Heap} {a : Addr} (ho : h.get? a = some (freshS w)) : SetG P w h a [] #[] 0 (.fresh 0 0 (!w.params.followText "set-order")) where
  ob := ⟨_, ho, ⟨rfl, rfl, rfl⟩, rfl⟩
  rows := rfl
  tab := ⟨List.Pairwise.nil, rfl, rfl, cov_of (.inl rfl), (fun x hx => nomatch hx), (fun i h j hi => by simp at hi)⟩
  msk := .inl rfl
  nd := List.nodup_nil
  tup := fun p hp => nomatch hp
  led := by
    show _ ∨ (!w.params.followText "set-order") = true
    cases w.params.followText "set-order"
    · exact .inr rfl
    · exact .inl rfl
  room := show 0 * 5 < 7 * 3 by decide
/-- the loop of set.update -/
theorem updateG {I : Addr} {fp wr : List Addr} {G : Array GenState → Array GenState → Prop} {n : Nat} {Pv : Nat → Value → Prop} {St : Nat → Shared → Prop} {R : Result → Shared → Prop}
    (W : WalksS P w A.in1 I fp wr G n Pv St) (S : Addr) (hSf : S ∉ fp) (ks : List (Addr × Ks)) (hn : n = ks.length) (hfew : ks.length < 299) (hval : ∀ i v, Pv i v → ∃ p, ks[i]? = some p ∧ v = .ref p.1)
    (h0 : Heap) (hk : ∀ p ∈ ks, TupA P w h0 p.2 p.1) (hS0 : h0.get? S = none) (hw0 : ∀ b ∈ wr, h0.get? b = none) (hu : A.in1.units < cLine) :
    ∀ (k i : Nat) (s : Shared), n - i = k → i ≤ n → St i s → (∀ b o, h0.get? b = some o → s.heap.get? b = some o) → (∃ L es ep t, SetG P w s.heap S L es ep t ∧ GotT ks i L) →
      (∀ s2 L es ep t, Moved (S :: wr) G s s2 → SetG P w s2.heap S L es ep t → GotT ks n L → (∀ b o, h0.get? b = some o → s2.heap.get? b = some o) → R (.ok (.ret .none)) s2) →
      codeAny (model P w) A (.builtin "set.update.loop" ⟨[.ref S, .ref I], []⟩) R s := by
  have hSw : S ∉ wr := fun z => hSf (W.sub _ z)
  have hsub : ∀ b ∈ wr, b ∈ S :: wr := fun b hb => List.mem_cons_of_mem _ hb
  have keepM : ∀ {s s2 : Shared}, Moved wr G s s2 → (∀ b o, h0.get? b = some o → s.heap.get? b = some o) → ∀ b o, h0.get? b = some o → s2.heap.get? b = some o := fun hm hkp b o e =>
    hm.heap b o (fun hb => by rw [hw0 b hb] at e; cases e) (hkp b o e)
  intro k
  induction k with
  | zero =>
    intro i s hk1 hi hst hkp ⟨L, es, ep, t, hS, g⟩ hR
    obtain rfl : i = n := by omega
    refine codeAny_builtin F.entry_set_update_loop ?_
    rw [Around.under_plainId F.plain_set_update_loop _]
    show wpAny _ A.in1 (pyNext (.ref I) >>= _) _ _ s
    refine wpAny_bind (W.done s _ _ hst fun s2 hm => ?_)
    show wpAny _ A.in1 (ret Value.none) _ _ s2
    have kp2 := keepM hm hkp
    exact wpAny_pure (hR s2 L es ep t (hm.mono hsub) (hS.keep (fun o e => hm.heap S o hSw e) fun p hp => tupA_keep (hk p (List.mem_of_mem_take (g.sub p hp))) kp2) g kp2)
  | succ k ih =>
    intro i s hk1 hi hst hkp ⟨L, es, ep, t, hS, g⟩ hR
    have hlt : i < n := by omega
    refine codeAny_builtin F.entry_set_update_loop ?_
    rw [Around.under_plainId F.plain_set_update_loop _]
    show wpAny _ A.in1 (pyNext (.ref I) >>= _) _ _ s
    refine wpAny_bind (W.item i s _ _ hlt hst fun v s2 hP hst2 hm => ?_)
    obtain ⟨p, hp, rfl⟩ := hval i v hP
    have kp2 := keepM hm hkp
    have hS2 : SetG P w s2.heap S L es ep t := hS.keep (fun o e => hm.heap S o hSw e) fun q hq => tupA_keep (hk q (List.mem_of_mem_take (g.sub q hq))) kp2
    have hx : TupA P w s2.heap p.2 p.1 := tupA_keep (hk p (List.mem_of_getElem? hp)) kp2
    show wpAny _ A.in1 (holding [Value.ref p.1] (setAdd S (.ref p.1)) >>= _) _ _ s2
    refine wpAny_bind (wpAny_holding ?_)
    unfold setAdd
    refine wpAny_holding (wpAny_bind (wpAny_pyHash_tuple hu hx ?_))
    refine addG (s := { s2 with toks := s2.toks + (p.2.length + 1) }) hS2 hx hu (by have := g.len; omega) fun b h3 L3 es3 ep3 t3 hsb hS3 c1 c2 => ?_
    have g3 : GotT ks (i + 1) L3 := (Classical.em (p.2 ∈ L.map (·.2))).elim (fun c => by rw [c1 c]; exact g.same hp c) fun c => g.more hp (c2 c)
    have kp3 : ∀ b o, h0.get? b = some o → h3.get? b = some o := fun b o e => (hsb.2 b (fun z => by rw [z, hS0] at e; cases e)).trans (kp2 b o e)
    refine wpAny_pure ⟨plainId_quiet F.plain_set_update_loop _, ih (i + 1) _ (by omega) hlt (W.frame _ s2 _ _ hst2 (Nat.le_add_right _ _) fun b hb o e => ?_) kp3 ⟨L3, es3, ep3, t3, hS3, g3⟩ fun s4 L4 es4 ep4 t4 hm4 hS4 g4 kp4 => ?_⟩
    · rw [hsb.2 b (fun z : b = S => hSf (z ▸ hb))]; exact e
    · refine hR s4 L4 es4 ep4 t4 (Moved.trans W.gtrans ((hm.mono hsub).then_heap (Nat.le_add_right _ _) fun b o hb e => ?_) hm4) hS4 g4 kp4
      rw [hsb.2 b (fun z : b = S => hb (by rw [z]; exact List.mem_cons_self))]; exact e
/-- set(a list) -/
theorem setof_list {l : Addr} {its : Array Value} (ks : List (Addr × Ks)) {Q : Value → Shared → Prop} (hh : A.handled = none) (hl : s.heap.IsList l its) (hit : its.toList = ks.map fun p => Value.ref p.1)
    (hk : ∀ p ∈ ks, TupA P w s.heap p.2 p.1) (hfew : ks.length < 299) (hu : A.units + 3 < cLine)
    (q : ∀ (h2 : Heap) (tk : Nat) L es ep t, SetG P w h2 s.heap.objs.size L es ep t → GotT ks ks.length L → (∀ b o, s.heap.get? b = some o → h2.get? b = some o) → Q (.ref s.heap.objs.size) { s with heap := h2, toks := tk }) :
    wpAny (model P w) A (call (.type "set") [.ref l]) Q E s := by
  have hisz : its.size = ks.length := by
    have z := congrArg List.length hit
    rw [Array.length_toList, List.length_map] at z
    exact z
  obtain ⟨c, tl, hmro⟩ := F.called_set.mro
  have hmade := F.called_set.made
  have hsub := F.called_set.sub
  refine wpAny_call (codeAny_of_tree ?_)
  show wpAny _ _ (callAny (.type "set") _) _ _ _
  refine wpAny_pure ⟨Code.quiet_builtin _ (by decide +kernel), codeAny_builtin F.entry_type_call ?_⟩
  rw [Around.under_plain (weight_type_call_type "set" [.ref l] []) rfl]
  have h1 := F.called_set.notType
  have h2 := F.called_set.canCreate
  have hct := F.typeCall_set_1 (.ref l)
  repeat (any_goals (first | assumption | wp_step))

  refine codeAny_mono (code_set_led1 (.ref l) (E := E) (Q₁ := fun obj s1 => obj = .ref s.heap.objs.size ∧ s1 = { s with heap := s.heap.push (freshS w) }) ⟨rfl, rfl⟩) fun r s1 hr => ?_
  cases r with
  | error e => exact hr
  | ok fl =>
    cases fl with
    | ret obj =>
      obtain ⟨rfl, rfl⟩ := hr
      have hS : (s.heap.push (freshS w)).get? s.heap.objs.size = some (freshS w) := Heap.get?_push_size _ rfl
      have hT : Shared.TypeIs { s with heap := s.heap.push (freshS w) } (.ref s.heap.objs.size) "set" := ⟨_, hS, rfl⟩
      have hli := F.called_set.init.lookup
      have hbi := F.called_set.init.bind (.ref s.heap.objs.size)
      repeat (any_goals (first | assumption | wp_step))

      refine codeAny_mono (codeAny_call_builtin (R := wants (fun r s3 => r = .none ∧ ∃ h2 tk L es ep t, s3 = { s with heap := h2, toks := tk } ∧ SetG P w h2 s.heap.objs.size L es ep t ∧ GotT ks ks.length L ∧ (∀ b o, s.heap.get? b = some o → h2.get? b = some o)) E)
        F.called_set.init.plain F.entry_set_init (check_set_init_1 hT ?_)) fun r3 s3 hr3 => ?_
      · obtain ⟨ol, hol, hcl, nl, hdl⟩ := hl
        obtain ⟨ocls, odict, odata, oslots⟩ := ol
        simp only at hcl hdl
        subst hcl; subst hdl
        have hol2 : (s.heap.push (freshS w)).get? l = some { cls := .type "list", dict := odict, data := .seq its nl, slots := oslots } := Heap.get?_push_of_some _ hol
        have hsls := F.sub_list_set
        have hslf := F.sub_list_frozenset
        have hne : (Value.type "list" == Value.type "dict") = false := by decide
        have hl1 : (s.heap.push (freshS w)).IsList l its := ⟨_, hol2, rfl, nl, rfl⟩
        unfold Builtin.«set.__init__» noKeywords Builtin.Frozenset.updateFrom
        generalize hPI : pyIter = PI
        wp_walk
        subst hPI

        refine wpAny_pyIter_list hl1 ?_
        refine wpAny_bind (wpAny_runValue ?_)
        have hlS : l < s.heap.objs.size := Heap.lt_size hol
        have hh3 : A.in1.in1.in1.handled = none := by simp [hh]
        have hneI : l ≠ (s.heap.push (freshS w)).objs.size := by
          rw [Heap.size_push]; exact Nat.ne_of_lt (Nat.lt_succ_of_lt hlS)
        have hSf : s.heap.objs.size ∉ [(s.heap.push (freshS w)).objs.size, l] := by
          rw [Heap.size_push]; simp only [List.mem_cons, List.mem_singleton, List.not_mem_nil, or_false, not_or]
          exact ⟨Nat.ne_of_lt (Nat.lt_succ_self _), Nat.ne_of_gt hlS⟩
        have hval : ∀ (i : Nat) (v : Value), its[i]? = some v → ∃ p, ks[i]? = some p ∧ v = .ref p.1 := fun i v hv => by
          have z : its.toList[i]? = some v := by rw [Array.getElem?_toList]; exact hv
          rw [hit, List.getElem?_map] at z
          obtain ⟨p, hp, e⟩ := Option.map_eq_some_iff.mp z
          exact ⟨p, hp, e.symm⟩
        have none_of : ∀ b, s.heap.objs.size ≤ b → s.heap.get? b = none := fun b hb => by
          cases z : s.heap.get? b with
          | none => rfl
          | some o => exact absurd (Nat.lt_of_lt_of_le (Heap.lt_size z) hb) (Nat.lt_irrefl _)
        refine updateG ((Walks.list hh3 _ l hneI its).toS) s.heap.objs.size hSf ks hisz hfew hval s.heap hk (none_of _ (Nat.le_refl _)) (fun b hb => none_of b (by rw [List.mem_singleton.mp hb, Heap.size_push]; exact Nat.le_succ _)) hu
          (its.size - 0) 0 _ (by omega) (Nat.zero_le _) ⟨⟨_, Heap.get?_push_size _ rfl, rfl, rfl⟩, (hl1.push _)⟩ (fun b o e => Heap.get?_push_of_some _ (Heap.get?_push_of_some _ e)) ?hS0 ?hR
        case hS0 => exact ⟨[], #[], 0, _, setG_fresh (Heap.get?_push_of_some _ hS), GotT.zero ks⟩
        case hR =>
          intro s4 L es ep t hm hS4 g4 hkp
          obtain ⟨h4, g2, d4, tk4, os4⟩ := s4
          have eg : g2 = s.gens := hm.gens
          have ed : d4 = s.drawn := hm.drawn
          have eo : os4 = s.os := hm.os
          subst eg; subst ed; subst eo
          show wpAny _ _ _ _ _ _
          refine wpAny_pure ?_
          show wpAny _ _ (ret Value.none) _ _ _
          rw [hisz] at g4
          exact wpAny_pure ⟨rfl, h4, tk4, L, es, ep, t, rfl, hS4, g4, hkp⟩

      · cases r3 with
        | error e => exact hr3
        | ok fl3 =>
          cases fl3 with
          | ret r =>
            obtain ⟨rfl, h4, tk, L, es, ep, t, rfl, hS4, g4, hk4⟩ := hr3
            repeat (any_goals (first | assumption | wp_step))
            exact q _ _ _ _ _ _ hS4 g4 hk4
          | _ => exact hr3.elim
    | _ => exact hr.elim
/-- set(a tuple) -/
theorem setof_tuple {l : Addr} {its : Array Value} (ks : List (Addr × Ks)) {Q : Value → Shared → Prop} (hh : A.handled = none) (hl : s.heap.IsTuple l its) (hit : its.toList = ks.map fun p => Value.ref p.1)
    (hk : ∀ p ∈ ks, TupA P w s.heap p.2 p.1) (hfew : ks.length < 299) (hu : A.units + 3 < cLine)
    (q : ∀ (h2 : Heap) (tk : Nat) L es ep t, SetG P w h2 s.heap.objs.size L es ep t → GotT ks ks.length L → (∀ b o, s.heap.get? b = some o → h2.get? b = some o) → Q (.ref s.heap.objs.size) { s with heap := h2, toks := tk }) :
    wpAny (model P w) A (call (.type "set") [.ref l]) Q E s := by
  have hisz : its.size = ks.length := by
    have z := congrArg List.length hit
    rw [Array.length_toList, List.length_map] at z
    exact z
  obtain ⟨c, tl, hmro⟩ := F.called_set.mro
  have hmade := F.called_set.made
  have hsub := F.called_set.sub
  refine wpAny_call (codeAny_of_tree ?_)
  show wpAny _ _ (callAny (.type "set") _) _ _ _
  refine wpAny_pure ⟨Code.quiet_builtin _ (by decide +kernel), codeAny_builtin F.entry_type_call ?_⟩
  rw [Around.under_plain (weight_type_call_type "set" [.ref l] []) rfl]
  have h1 := F.called_set.notType
  have h2 := F.called_set.canCreate
  have hct := F.typeCall_set_1 (.ref l)
  repeat (any_goals (first | assumption | wp_step))

  refine codeAny_mono (code_set_led1 (.ref l) (E := E) (Q₁ := fun obj s1 => obj = .ref s.heap.objs.size ∧ s1 = { s with heap := s.heap.push (freshS w) }) ⟨rfl, rfl⟩) fun r s1 hr => ?_
  cases r with
  | error e => exact hr
  | ok fl =>
    cases fl with
    | ret obj =>
      obtain ⟨rfl, rfl⟩ := hr
      have hS : (s.heap.push (freshS w)).get? s.heap.objs.size = some (freshS w) := Heap.get?_push_size _ rfl
      have hT : Shared.TypeIs { s with heap := s.heap.push (freshS w) } (.ref s.heap.objs.size) "set" := ⟨_, hS, rfl⟩
      have hli := F.called_set.init.lookup
      have hbi := F.called_set.init.bind (.ref s.heap.objs.size)
      repeat (any_goals (first | assumption | wp_step))

      refine codeAny_mono (codeAny_call_builtin (R := wants (fun r s3 => r = .none ∧ ∃ h2 tk L es ep t, s3 = { s with heap := h2, toks := tk } ∧ SetG P w h2 s.heap.objs.size L es ep t ∧ GotT ks ks.length L ∧ (∀ b o, s.heap.get? b = some o → h2.get? b = some o)) E)
        F.called_set.init.plain F.entry_set_init (check_set_init_1 hT ?_)) fun r3 s3 hr3 => ?_
      · obtain ⟨ol, hol, hcl, nl, hdl⟩ := hl
        obtain ⟨ocls, odict, odata, oslots⟩ := ol
        simp only at hcl hdl
        subst hcl; subst hdl
        have hol2 : (s.heap.push (freshS w)).get? l = some { cls := .type "tuple", dict := odict, data := .seq its nl, slots := oslots } := Heap.get?_push_of_some _ hol
        have hsls := F.sub_tuple_set
        have hslf := F.sub_tuple_frozenset
        have hne : (Value.type "tuple" == Value.type "dict") = false := by decide
        have hl1 : (s.heap.push (freshS w)).IsTuple l its := ⟨_, hol2, rfl, nl, rfl⟩
        unfold Builtin.«set.__init__» noKeywords Builtin.Frozenset.updateFrom
        generalize hPI : pyIter = PI
        wp_walk
        subst hPI

        refine wpAny_pyIter_tuple hl1 ?_
        refine wpAny_bind (wpAny_runValue ?_)
        have hlS : l < s.heap.objs.size := Heap.lt_size hol
        have hh3 : A.in1.in1.in1.handled = none := by simp [hh]
        have hneI : l ≠ (s.heap.push (freshS w)).objs.size := by
          rw [Heap.size_push]; exact Nat.ne_of_lt (Nat.lt_succ_of_lt hlS)
        have hSf : s.heap.objs.size ∉ [(s.heap.push (freshS w)).objs.size, l] := by
          rw [Heap.size_push]; simp only [List.mem_cons, List.mem_singleton, List.not_mem_nil, or_false, not_or]
          exact ⟨Nat.ne_of_lt (Nat.lt_succ_self _), Nat.ne_of_gt hlS⟩
        have hval : ∀ (i : Nat) (v : Value), its[i]? = some v → ∃ p, ks[i]? = some p ∧ v = .ref p.1 := fun i v hv => by
          have z : its.toList[i]? = some v := by rw [Array.getElem?_toList]; exact hv
          rw [hit, List.getElem?_map] at z
          obtain ⟨p, hp, e⟩ := Option.map_eq_some_iff.mp z
          exact ⟨p, hp, e.symm⟩
        have none_of : ∀ b, s.heap.objs.size ≤ b → s.heap.get? b = none := fun b hb => by
          cases z : s.heap.get? b with
          | none => rfl
          | some o => exact absurd (Nat.lt_of_lt_of_le (Heap.lt_size z) hb) (Nat.lt_irrefl _)
        refine updateG ((Walks.tuple hh3 _ l hneI its).toS) s.heap.objs.size hSf ks hisz hfew hval s.heap hk (none_of _ (Nat.le_refl _)) (fun b hb => none_of b (by rw [List.mem_singleton.mp hb, Heap.size_push]; exact Nat.le_succ _)) hu
          (its.size - 0) 0 _ (by omega) (Nat.zero_le _) ⟨⟨_, Heap.get?_push_size _ rfl, rfl, rfl⟩, (hl1.push _)⟩ (fun b o e => Heap.get?_push_of_some _ (Heap.get?_push_of_some _ e)) ?hS0 ?hR
        case hS0 => exact ⟨[], #[], 0, _, setG_fresh (Heap.get?_push_of_some _ hS), GotT.zero ks⟩
        case hR =>
          intro s4 L es ep t hm hS4 g4 hkp
          obtain ⟨h4, g2, d4, tk4, os4⟩ := s4
          have eg : g2 = s.gens := hm.gens
          have ed : d4 = s.drawn := hm.drawn
          have eo : os4 = s.os := hm.os
          subst eg; subst ed; subst eo
          show wpAny _ _ _ _ _ _
          refine wpAny_pure ?_
          show wpAny _ _ (ret Value.none) _ _ _
          rw [hisz] at g4
          exact wpAny_pure ⟨rfl, h4, tk4, L, es, ep, t, rfl, hS4, g4, hkp⟩

      · cases r3 with
        | error e => exact hr3
        | ok fl3 =>
          cases fl3 with
          | ret r =>
            obtain ⟨rfl, h4, tk, L, es, ep, t, rfl, hS4, g4, hk4⟩ := hr3
            repeat (any_goals (first | assumption | wp_step))
            exact q _ _ _ _ _ _ hS4 g4 hk4
          | _ => exact hr3.elim
    | _ => exact hr.elim
end
end Q

/-! KitR: len(set(tuples)) -/
namespace Q
open PySem PySem.Spec PyProof.Rows L2 TL
theorem sub_len {α : Type} [DecidableEq α] : ∀ {l m : List α}, l.Nodup → (∀ x ∈ l, x ∈ m) → l.length ≤ m.length ∧ (l.length = m.length → m.Perm l)
  | [], m, _, _ => ⟨Nat.zero_le _, fun e => by rw [List.length_eq_zero_iff.mp e.symm]⟩
  | x :: l, m, hn, hs => by
    obtain ⟨h1, h2⟩ := List.nodup_cons.mp hn
    have hx := hs x List.mem_cons_self
    obtain ⟨a, b⟩ := sub_len (m := m.erase x) h2 fun y hy => (List.mem_erase_of_ne (fun e : y = x => h1 (e ▸ hy))).2 (hs y (List.mem_cons_of_mem _ hy))
    have e := List.length_erase_of_mem hx
    have hp := List.length_pos_of_mem hx
    rw [List.length_cons]
    exact ⟨by omega, fun q => (List.perm_cons_erase hx).trans ((b (by omega)).cons x)⟩
theorem got_len {ks L : List (Addr × Ks)} (g : GotT ks ks.length L) (nd : (L.map (·.2)).Nodup) : ((ks.map (·.2)).Nodup → L.length = ks.length) ∧ (¬ (ks.map (·.2)).Nodup → L.length < ks.length) := by
  have s1 : ∀ x ∈ L.map (·.2), x ∈ ks.map (·.2) := fun x hx => by
    obtain ⟨p, hp, rfl⟩ := List.mem_map.mp hx
    exact List.mem_map.mpr ⟨p, List.mem_of_mem_take (g.sub p hp), rfl⟩
  have s2 : ∀ x ∈ ks.map (·.2), x ∈ L.map (·.2) := fun x hx => by
    obtain ⟨p, hp, rfl⟩ := List.mem_map.mp hx
    exact g.all p (by rw [List.take_length]; exact hp)
  obtain ⟨a, b⟩ := sub_len nd s1
  rw [List.length_map, List.length_map] at a b
  refine ⟨fun hn => ?_, fun hn => ?_⟩
  · have c := (sub_len hn s2).1
    rw [List.length_map, List.length_map] at c
    omega
  · rcases Nat.lt_or_eq_of_le a with q | q
    · exact q
    · exact absurd ((b q).nodup_iff.mpr nd) hn
theorem items_of {P : Program} {w : World} : ∀ {k : Ks} {us : List Value}, Vals (k.map kV) us → ItemsAre (mixKind P w) k us
  | [], _, .nil => .nil
  | _ :: _, _, .cons h t => .cons (kV_is h) (items_of t)
/-- len(set(e)), e a list or a tuple of tuples -/
def tLenSetT (K : PySem.W.Frag) (te : TE) : TE := fun σ H Q => te σ H fun x H1 => ∃ (l : Addr) (zs : List (Addr × Ks)), x = .ref l ∧ (SqL K H1 l (zs.map fun z => V.ref z.1) ∨ SqT K H1 l (zs.map fun z => V.ref z.1)) ∧ (∀ z ∈ zs, SqT K H1 z.1 (z.2.map kV)) ∧ zs.length < 299 ∧
  ∀ n : Nat, ((zs.map (·.2)).Nodup → n = zs.length) → (¬ (zs.map (·.2)).Nodup → n < zs.length) → Q (.int n) H1
theorem pe_lenSetT {X : Cx} (K : PySem.W.Frag) {e : Expr} {te : TE} {p1 p2 p3 p4 : Pos} (hu : X.A.units + 64 < cLine) (g1 : Gl X "len") (m1 : X.mg "len" = none) (g2 : Gl X "set") (m2 : X.mg "set" = none) (he : PE X e te) (hc : X.calm = true := by rfl) (hK : X.K = K := by rfl)
    (na : starEach [e] X.env = (false, eval e X.env) :: starEach [] X.env := by rfl) : PE X (.Call (.Name "len" p1) [.Call (.Name "set" p2) [e] [] p3] [] p4) (tLenSetT K te) := by
  subst hK
  refine ⟨fun pins s σ H Q I h => ?_⟩
  refine Call_ (ld_blt I g1 m1 boot_len ?_)
  refine PyProof.Rows.callWith_builtin1 (PyProof.Rows.args_cons ?_ rfl) rfl rfl
  refine Call_ (ld_blt I g2 m2 boot_set ?_)
  refine PyProof.Rows.callWith_type1 (PyProof.Rows.args_cons (thn (he.run pins s σ H _ I h) fun v s1 ⟨x, H1, I1, r1, q1⟩ => PyProof.Rows.args_nil ?_) na) na rfl
  obtain ⟨l, zs, rfl, hq, ht, hl, q⟩ := q1
  cases r1
  have refs : ∀ {us : List Value}, Vals (zs.map fun z => V.ref z.1) us → us = zs.map fun z => Value.ref z.1 := by
    clear q hl ht hq
    induction zs with
    | nil => intro us r; cases r; rfl
    | cons z zs ih => intro us r; cases r with | cons h t => rw [List.map_cons, ← ih t]; congr 1
  have tk : ∀ z ∈ zs, TupA X.prog X.w s1.heap z.2 z.1 := fun z hz => by
    obtain ⟨its, r, ⟨o, ho, hcl, n, hd⟩, _⟩ := I1.tuple (ht z hz)
    exact ⟨o, its.toArray, n, ho, hcl, hd, items_of (by simpa using r)⟩
  have fin : ∀ (h2 : Heap) (tk : Nat) L es ep t, SetG X.prog X.w h2 s1.heap.objs.size L es ep t → GotT zs zs.length L → (∀ b o, s1.heap.get? b = some o → h2.get? b = some o) →
      wpAny (model X.prog X.w) X.A (call (.builtin "len") [.ref s1.heap.objs.size]) (EP X pins σ Q) X.xe { s1 with heap := h2, toks := tk } := by
    intro h2 tk L es ep t R g k
    obtain ⟨o, ho, hex, hd⟩ := R.ob
    have I2 : Inv X pins σ H1 { s1 with heap := h2, toks := tk } := I1.kept fun b o e => k b o e
    have sz := rowsT_len R.rows
    have gl := g.len
    obtain ⟨a, b⟩ := got_len g R.nd
    refine call_len_set (s := { s1 with heap := h2, toks := tk }) ho hex hd (SetG.fits (s := { s1 with heap := h2, toks := tk }) R) (by omega) ⟨.int (L.length : Nat), H1, I2.tok _, ⟨_, by rw [sz]⟩, q _ a b⟩
  rcases hq with hq | hq
  · obtain ⟨its, r, pl, hz⟩ := I1.list hq
    exact setof_list zs (I1.ok.hd hc) pl.isList (by simpa using refs r) tk hl (by omega) fun h2 tk L es ep t R g k => PyProof.Rows.args_nil (fin h2 tk L es ep t R g k)
  · obtain ⟨its, r, pl, hz⟩ := I1.tuple hq
    exact setof_tuple zs (I1.ok.hd hc) pl (by simpa using refs r) tk hl (by omega) fun h2 tk L es ep t R g k => PyProof.Rows.args_nil (fin h2 tk L es ep t R g k)
end Q

/-! KitS: sorted(set(numbers)) -/
namespace Q
open PySem PySem.Spec PyProof.Rows L2 TL
section
variable {P : Program} {w : World} {A : Around} {E : Value → Shared → Prop} {s : Shared}
/-- set(a list of numbers) -/
theorem setofI_list {l : Addr} {its : Array Value} (ns : List Int) {Q : Value → Shared → Prop} (hh : A.handled = none) (hl : s.heap.IsList l its) (hit : IntsAre its.toList ns) (hb : ns.length + 1 < scanBound)
    (q : ∀ (h2 : Heap) (tk c : Nat), SetR w h2 s.heap.objs.size (fun j => decide (j ∈ ns)) c → (∀ b o, s.heap.get? b = some o → h2.get? b = some o) → Q (.ref s.heap.objs.size) { s with heap := h2, toks := tk }) :
    wpAny (model P w) A (call (.type "set") [.ref l]) Q E s := by
  have hisz : its.size = ns.length := by
    have z := IntsAre.length hit
    rw [Array.length_toList] at z
    exact z
  obtain ⟨c, tl, hmro⟩ := F.called_set.mro
  have hmade := F.called_set.made
  have hsub := F.called_set.sub
  refine wpAny_call (codeAny_of_tree ?_)
  show wpAny _ _ (callAny (.type "set") _) _ _ _
  refine wpAny_pure ⟨Code.quiet_builtin _ (by decide +kernel), codeAny_builtin F.entry_type_call ?_⟩
  rw [Around.under_plain (weight_type_call_type "set" [.ref l] []) rfl]
  have h1 := F.called_set.notType
  have h2 := F.called_set.canCreate
  have hct := F.typeCall_set_1 (.ref l)
  repeat (any_goals (first | assumption | wp_step))

  refine codeAny_mono (code_set_led1 (.ref l) (E := E) (Q₁ := fun obj s1 => obj = .ref s.heap.objs.size ∧ s1 = { s with heap := s.heap.push (freshS w) }) ⟨rfl, rfl⟩) fun r s1 hr => ?_
  cases r with
  | error e => exact hr
  | ok fl =>
    cases fl with
    | ret obj =>
      obtain ⟨rfl, rfl⟩ := hr
      have hS : (s.heap.push (freshS w)).get? s.heap.objs.size = some (freshS w) := Heap.get?_push_size _ rfl
      have hT : Shared.TypeIs { s with heap := s.heap.push (freshS w) } (.ref s.heap.objs.size) "set" := ⟨_, hS, rfl⟩
      have hli := F.called_set.init.lookup
      have hbi := F.called_set.init.bind (.ref s.heap.objs.size)
      repeat (any_goals (first | assumption | wp_step))

      refine codeAny_mono (codeAny_call_builtin (R := wants (fun r s3 => r = .none ∧ ∃ h2 tk c, s3 = { s with heap := h2, toks := tk } ∧ SetR w h2 s.heap.objs.size (fun j => decide (j ∈ ns)) c ∧ (∀ b o, s.heap.get? b = some o → h2.get? b = some o)) E)
        F.called_set.init.plain F.entry_set_init (check_set_init_1 hT ?_)) fun r3 s3 hr3 => ?_
      · obtain ⟨ol, hol, hcl, nl, hdl⟩ := hl
        obtain ⟨ocls, odict, odata, oslots⟩ := ol
        simp only at hcl hdl
        subst hcl; subst hdl
        have hol2 : (s.heap.push (freshS w)).get? l = some { cls := .type "list", dict := odict, data := .seq its nl, slots := oslots } := Heap.get?_push_of_some _ hol
        have hsls := F.sub_list_set
        have hslf := F.sub_list_frozenset
        have hne : (Value.type "list" == Value.type "dict") = false := by decide
        have hl1 : (s.heap.push (freshS w)).IsList l its := ⟨_, hol2, rfl, nl, rfl⟩
        unfold Builtin.«set.__init__» noKeywords Builtin.Frozenset.updateFrom
        generalize hPI : pyIter = PI
        wp_walk
        subst hPI

        refine wpAny_pyIter_list hl1 ?_
        refine wpAny_bind (wpAny_runValue ?_)
        have hlS : l < s.heap.objs.size := Heap.lt_size hol
        have hh3 : A.in1.in1.in1.handled = none := by simp [hh]
        have hneI : l ≠ (s.heap.push (freshS w)).objs.size := by
          rw [Heap.size_push]; exact Nat.ne_of_lt (Nat.lt_succ_of_lt hlS)
        have hSf : s.heap.objs.size ∉ [(s.heap.push (freshS w)).objs.size, l] := by
          rw [Heap.size_push]; simp only [List.mem_cons, List.mem_singleton, List.not_mem_nil, or_false, not_or]
          exact ⟨Nat.ne_of_lt (Nat.lt_succ_self _), Nat.ne_of_gt hlS⟩
        have hval : ∀ (i : Nat) (v : Value), its[i]? = some v → ∃ k t, ns[i]? = some k ∧ v = .int k t := fun i v hv => by
          have hlt : i < ns.length := by rw [← hisz]; exact (Array.getElem?_eq_some_iff.mp hv).1
          obtain ⟨t, e⟩ := PyProof.Rows.IntsAre.int_at hit i v (by rw [Array.getElem?_toList]; exact hv)
          refine ⟨ns[i], t, List.getElem?_eq_getElem hlt, ?_⟩
          rw [e, List.getD_eq_getElem?_getD, List.getElem?_eq_getElem hlt]
          rfl
        refine set_update_ints ((Walks.list hh3 _ l hneI its).toS) s.heap.objs.size hSf ns hisz hb hval (its.size - 0) 0 _ (by omega) (Nat.zero_le _) ⟨⟨_, Heap.get?_push_size _ rfl, rfl, rfl⟩, (hl1.push _)⟩ ?hS0 ?hR
        case hS0 => exact ⟨0, Nat.le_refl 0, setR_new_at (Heap.get?_push_of_some _ hS)⟩
        case hR =>
          intro s4 c4 hm hc4 hS4
          obtain ⟨h4, g2, d4, tk4, os4⟩ := s4
          have eg : g2 = s.gens := hm.gens
          have ed : d4 = s.drawn := hm.drawn
          have eo : os4 = s.os := hm.os
          subst eg; subst ed; subst eo
          show wpAny _ _ _ _ _ _
          refine wpAny_pure ?_
          show wpAny _ _ (ret Value.none) _ _ _
          refine wpAny_pure ⟨rfl, h4, tk4, c4, rfl, hS4, fun b o e => ?_⟩
          have hb0 := Heap.lt_size e
          refine hm.heap b o (by simp only [List.mem_cons, List.mem_singleton, List.not_mem_nil, or_false, not_or]; exact ⟨Nat.ne_of_lt hb0, by rw [Heap.size_push]; exact Nat.ne_of_lt (Nat.lt_succ_of_lt hb0)⟩) (Heap.get?_push_of_some _ (Heap.get?_push_of_some _ e))

      · cases r3 with
        | error e => exact hr3
        | ok fl3 =>
          cases fl3 with
          | ret r =>
            obtain ⟨rfl, h4, tk, c4, rfl, hS4, hk4⟩ := hr3
            repeat (any_goals (first | assumption | wp_step))
            exact q _ _ _ hS4 hk4
          | _ => exact hr3.elim
    | _ => exact hr.elim
end
end Q

/-! KitT: sorted(set(numbers)), as rules over data -/
namespace Q
open PySem PySem.Spec PyProof.Rows L2 TL
theorem boot_sorted : bootBuiltins "sorted" = some (.builtin "sorted") := by decide +kernel
theorem few_of {l : List Int} (nd : l.Nodup) (h : ∀ k ∈ l, 0 ≤ k ∧ k < 60) : l.length ≤ 60 := by
  have q := (sub_len (m := (List.range 60).map fun (i : Nat) => (i : Int)) nd fun k hk => by
    obtain ⟨h1, h2⟩ := h k hk
    obtain ⟨j, rfl⟩ := Int.eq_ofNat_of_zero_le h1
    exact List.mem_map.mpr ⟨j, List.mem_range.mpr (by omega), rfl⟩).1
  rw [List.length_map, List.length_range] at q
  exact q
def tSortedSetI (K : PySem.W.Frag) (te : TE) : TE := fun σ H Q => te σ H fun x H1 => ∃ (l : Addr) (ns : List Int), x = .ref l ∧ (SqL K H1 l (ns.map V.int) ∨ SqT K H1 l (ns.map V.int)) ∧ ns.length ≤ 4000 ∧ (∀ k ∈ ns, 0 ≤ k ∧ k < 60) ∧
  ∀ (ms : List Int) (p : Addr), ms.Pairwise (· < ·) → (∀ k, k ∈ ms ↔ k ∈ ns) → H1 p = none → Q (.ref p) (upd H1 p (.lst (ms.map V.int)))
theorem pe_sortedSetI {X : Cx} (K : PySem.W.Frag) {e : Expr} {te : TE} {p1 p2 p3 p4 : Pos} (g1 : Gl X "sorted") (m1 : X.mg "sorted" = none) (g2 : Gl X "set") (m2 : X.mg "set" = none) (he : PE X e te) (hc : X.calm = true := by rfl) (hK : X.K = K := by rfl)
    (na : starEach [e] X.env = (false, eval e X.env) :: starEach [] X.env := by rfl) : PE X (.Call (.Name "sorted" p1) [.Call (.Name "set" p2) [e] [] p3] [] p4) (tSortedSetI K te) := by
  subst hK
  refine ⟨fun pins s σ H Q I h => ?_⟩
  refine Call_ (ld_blt I g1 m1 boot_sorted ?_)
  refine PyProof.Rows.callWith_builtin1 (PyProof.Rows.args_cons ?_ rfl) rfl rfl
  refine Call_ (ld_blt I g2 m2 boot_set ?_)
  refine PyProof.Rows.callWith_type1 (PyProof.Rows.args_cons (thn (he.run pins s σ H _ I h) fun v s1 ⟨x, H1, I1, r1, q1⟩ => PyProof.Rows.args_nil ?_) na) na rfl
  obtain ⟨l, ns, rfl, hq, hl, hb, q⟩ := q1
  cases r1
  have fin : ∀ (h2 : Heap) (tk c : Nat), SetR X.w h2 s1.heap.objs.size (fun j => decide (j ∈ ns)) c → (∀ b o, s1.heap.get? b = some o → h2.get? b = some o) →
      wpAny (model X.prog X.w) X.A (call (.builtin "sorted") [.ref s1.heap.objs.size]) (EP X pins σ Q) X.xe { s1 with heap := h2, toks := tk } := by
    intro h2 tk c R k
    have I2 : Inv X pins σ H1 { s1 with heap := h2, toks := tk } := I1.kept fun b o e => k b o e
    have few : c < 64 := by
      obtain ⟨o, es, ep, t, _, _, _, _, nd, hm, _, _, hn, _⟩ := id R
      have z := few_of nd fun j hj => hb j (of_decide_eq_true ((hm j).mpr hj))
      rw [List.length_map, Array.length_toList] at z
      omega
    refine sorted_set (s := { s1 with heap := h2, toks := tk }) R (I2.ok.hd hc) few fun s3 p out c2 ms kp g o hp hg hi hs hm hlm => ?_
    have hn : H1 p = none := I2.hok.fresh hp
    have hz : (ms.map V.int).length ≤ sizeLine := by rw [List.length_map, hlm, sizeLine_eq]; omega
    generalize hs2 : ({ s1 with heap := h2, toks := tk } : Shared) = s2 at I2 kp g o hp hg
    have J : Inv X pins σ (upd H1 p (.lst (ms.map V.int))) { s2 with heap := s3.heap, gens := s3.gens, drawn := s3.drawn, toks := s3.toks } :=
      I2.call (ch := []) (Un.laid kp hp hn) (I2.hok.laid kp hp ⟨hz, out.toList, c2, vals_of_ints hi, hg⟩) (by rw [g]; exact I2.bare) (fun _ z => nomatch z)
    have e : s3 = { s2 with heap := s3.heap, gens := s3.gens, drawn := s3.drawn, toks := s3.toks } := by
      cases s3
      cases s2
      cases o
      rfl
    rw [e]
    exact ⟨.ref p, _, J, rfl, q ms p hs (fun k => (hm k).trans decide_eq_true_iff) hn⟩
  rcases hq with hq | hq
  · obtain ⟨its, r, pl, hz⟩ := I1.list hq
    have hlen : its.length = ns.length := by rw [← r.length, List.length_map]
    exact setofI_list ns (I1.ok.hd hc) pl.isList (by simpa using RZ.intsAre_vals r) (by unfold scanBound; omega) fun h2 tk c R k => PyProof.Rows.args_nil (fin h2 tk c R k)
  · obtain ⟨its, r, pl, hz⟩ := I1.tuple hq
    exact call_set_tupI ns (I1.ok.hd hc) pl (by simpa using RZ.intsAre_vals r) (by unfold scanBound; omega) fun h2 tk c R _ k => PyProof.Rows.args_nil (fin h2 tk c R k)
end Q

/-! PuL: sorted, set -/
namespace U
open PySem PySem.Spec PyProof.Rows L2 Q
def toKey : D → Option Key
  | .int i => some (.inl i)
  | .str z => some (.inr z)
  | _ => none
def asKs : D → Ks
  | .int i => [.inl i]
  | .str z => [.inr z]
  | .tup ds => ds.filterMap toKey
  | _ => []
abbrev tupD (ks : Ks) : D := .tup (ks.map kD)
theorem toKey_kD (k : Key) : toKey (kD k) = some k := by cases k <;> rfl
theorem asKs_tup (ks : Ks) : asKs (tupD ks) = ks := by
  show (ks.map kD).filterMap toKey = ks
  rw [List.filterMap_map, show (toKey ∘ kD) = some from funext toKey_kD, List.filterMap_some]
/-- sorted -/
def srtD (l : List D) : List D := l.mergeSort fun a b => !ltKs (asKs b) (asKs a)
theorem srtD_perm (l : List D) : (srtD l).Perm l := List.mergeSort_perm _ _
theorem srtD_srt (l : List D) : SrtK ((srtD l).map asKs) := by
  have h := List.pairwise_mergeSort (le := fun a b : D => !ltKs (asKs b) (asKs a)) (fun a b c h1 h2 => by
    rw [Bool.not_eq_true'] at h1 h2 ⊢
    exact ltKs_swo.tr _ _ _ h1 h2) (fun a b => by
    cases e : ltKs (asKs a) (asKs b) with
    | false => simp
    | true => rw [ltKs_swo.asym _ _ e]; rfl) l
  rw [SrtK, List.pairwise_map]
  exact h.imp fun {x y} q => by
    rw [Bool.not_eq_true'] at q
    exact q
theorem map_inj_on {α β : Type} {g : α → β} : ∀ {l m : List α}, (∀ a ∈ l, ∀ b ∈ m, g a = g b → a = b) → l.map g = m.map g → l = m
  | [], [], _, _ => rfl
  | [], b :: m, _, e => by simp at e
  | a :: l, [], _, e => by simp at e
  | a :: l, b :: m, h, e => by
    rw [List.map_cons, List.map_cons, List.cons.injEq] at e
    rw [h a List.mem_cons_self b List.mem_cons_self e.1, map_inj_on (fun x hx y hy => h x (List.mem_cons_of_mem _ hx) y (List.mem_cons_of_mem _ hy)) e.2]
/-- a sorted row of the same things is the sorted row -/
theorem srtD_of {l m : List D} (hp : m.Perm l) (hs : SrtK (m.map asKs)) (inj : ∀ a ∈ l, ∀ b ∈ l, asKs a = asKs b → a = b) : m = srtD l := by
  have e := srt_uniq hs (srtD_srt l) ((hp.trans (srtD_perm l).symm).map asKs)
  exact map_inj_on (fun a ha b hb => inj a (hp.mem_iff.mp ha) b ((srtD_perm l).mem_iff.mp hb)) e
theorem ltKs_int (i j : Int) : ltKs [.inl i] [.inl j] = decide (i < j) := by
  show (decide (i < j) || (!decide (j < i) && false)) = _
  rw [Bool.and_false, Bool.or_false]
theorem srtD_ints {ns ms : List Int} (hp : ms.Perm ns) (hs : ms.Pairwise (· ≤ ·)) : ms.map D.int = srtD (ns.map D.int) := by
  refine srtD_of (hp.map _) ?_ fun a ha b hb e => ?_
  · rw [SrtK, List.map_map, List.pairwise_map]
    exact hs.imp fun {x y} q => by
      show ltKs [.inl y] [.inl x] = false
      rw [ltKs_int]
      exact decide_eq_false (by omega)
  · obtain ⟨i, _, rfl⟩ := List.mem_map.mp ha
    obtain ⟨j, _, rfl⟩ := List.mem_map.mp hb
    have e : ([.inl i] : Ks) = [.inl j] := e
    rw [List.cons.injEq] at e
    rw [Sum.inl.inj e.1]
theorem RpL.keys {K : PySem.W.Frag} {W : Wd} : ∀ {xs : List V} {ks : Ks}, RpL K W xs (ks.map kD) → xs = ks.map kV
  | _, [], .nil => rfl
  | _, .inl i :: ks, .cons h t => by cases h; rw [List.map_cons, ← RpL.keys t]; rfl
  | _, .inr i :: ks, .cons h t => by cases h; rw [List.map_cons, ← RpL.keys t]; rfl
theorem Rp.tupK {K : PySem.W.Frag} {W : Wd} {v : V} {ks : Ks} (h : Rp K W v (tupD ks)) : ∃ t, v = .ref t ∧ Tp K W.H t (ks.map kV) := by
  cases h with
  | tup e r => rw [r.keys] at e; exact ⟨_, rfl, e⟩
theorem RpL.zips {K : PySem.W.Frag} {W : Wd} : ∀ {xs : List V} {kss : List Ks}, RpL K W xs (kss.map tupD) → ∃ zs : List (V × Ks), zs.map (·.1) = xs ∧ zs.map (·.2) = kss ∧ ∀ z ∈ zs, Rp K W z.1 (tupD z.2)
  | _, [], .nil => ⟨[], rfl, rfl, fun _ h => nomatch h⟩
  | _, k :: kss, .cons (v := v) h t => by
    obtain ⟨zs, e1, e2, e3⟩ := RpL.zips t
    refine ⟨(v, k) :: zs, by rw [List.map_cons, e1], by rw [List.map_cons, e2], fun z hz => ?_⟩
    rcases List.mem_cons.mp hz with q | q
    · subst q; exact h
    · exact e3 z q
theorem RpL.ofZips {K : PySem.W.Frag} {W : Wd} : ∀ {zs : List (V × Ks)}, (∀ z ∈ zs, Rp K W z.1 (tupD z.2)) → RpL K W (zs.map (·.1)) ((zs.map (·.2)).map tupD)
  | [], _ => .nil
  | z :: zs, h => .cons (h z List.mem_cons_self) (RpL.ofZips fun y hy => h y (List.mem_cons_of_mem _ hy))
/-- what may be sorted -/
def SrtOk (l : List D) : Prop := (∃ (kss : List Ks) (shape : Nat → Bool), l = kss.map tupD ∧ ∀ ks ∈ kss, shp shape 0 ks = true ∧ ks ≠ [])
def mSorted : List D → (SV → Prop) → Prop
  | [.lst ds], Q => (SrtOk ds ∨ ∃ ns : List Int, ds = ns.map D.int) ∧ Q (.own (srtD ds))
  | [.tup ds], Q => SrtOk ds ∧ Q (.own (srtD ds))
  | [.dct false ds], Q => (∃ ks : List Int, ds.map (·.1) = ks.map D.int ∧ ks.length < 64) ∧ Q (.own (srtD (ds.map (·.1))))
  | _, _ => False
def rSrtK (K : PySem.W.Frag) : List V → Hp → VK → Prop := fun vs H Q => rSortT K vs H Q ∨ rSortedI K vs H Q ∨ ∃ (a : Addr) (kvs : List (Key × V)) (ks : List Int), vs = [.ref a] ∧ Rd H a (.dK kvs) ∧ kvs.map (·.1) = ks.map Sum.inl ∧ ks.length < 64 ∧ ∀ (ys : List Int) (p : Addr), ys.Perm ks → ys.Pairwise (· ≤ ·) → H p = none → Q (.ref p) (upd H p (.lst (ys.map V.int)))
theorem k_sortK {X : Cx} (K : PySem.W.Frag) (hc : X.calm = true := by rfl) (hK : X.K = K := by rfl) : CallR X (.builtin "sorted") (rSrtK K) := by rw [← hK]; exact CallR.or2 cr_sortT (CallR.or2 cr_sortedI (call_sortedDI hc))
theorem RpL.ints {K : PySem.W.Frag} {W : Wd} : ∀ {xs : List V} {ns : List Int}, RpL K W xs (ns.map D.int) → xs = ns.map V.int
  | _, [], .nil => rfl
  | _, i :: ks, .cons h t => by cases h; rw [List.map_cons, ← RpL.ints t]
theorem RpL.ofInts {K : PySem.W.Frag} {W : Wd} : ∀ ns : List Int, RpL K W (ns.map V.int) (ns.map D.int) := RpL.map fun _ => .int
theorem srt_own {K : PySem.W.Frag} {W : Wd} {ds : List D} {kss : List Ks} {xs : List V} {zs : List (V × Ks)} {Q : VK} {Q' : SV → Prop} (h : Q' (.own (srtD ds))) (e : ds = kss.map tupD) (e1 : zs.map (·.1) = xs) (e2 : zs.map (·.2) = kss) (e3 : ∀ z ∈ zs, Rp K W z.1 (tupD z.2))
    (k : ∀ z c X W', Go Nw W W' → RpS K W' z c X → (∀ a ∈ X, W.H a = none) → Q' c → Q z W'.H) : ∀ (ys : List (V × Ks)) (p : Addr), ys.Perm zs → (ys.map (·.2)).Pairwise (fun x y => ltKs y x = false) → W.H p = none → Q (.ref p) (upd W.H p (.lst (ys.map (·.1)))) := fun ys p hp hs hn => by
  have ek : (ys.map (·.2)).map tupD = srtD ds := by
    subst e
    refine srtD_of ?_ ?_ fun a ha b hb q => ?_
    · rw [← e2]; exact (hp.map (·.2)).map tupD
    · rw [List.map_map, show (asKs ∘ tupD) = id from funext asKs_tup, List.map_id]; exact hs
    · obtain ⟨i, _, rfl⟩ := List.mem_map.mp ha
      obtain ⟨j, _, rfl⟩ := List.mem_map.mp hb
      rw [asKs_tup, asKs_tup] at q
      rw [q]
  have rr := RpL.ofZips (K := K) (W := W) (zs := ys) fun z hz => e3 z (hp.mem_iff.mp hz)
  rw [ek] at rr
  exact new_own (K := K) rr (fun p W' g n rs => k _ _ [p] W' g rs (fun x hx => by rw [List.mem_singleton.mp hx]; exact n) h) p hn
theorem f_sorted {K : PySem.W.Frag} : CallS K (rSrtK K) mSorted := fun W vs ds Q Q' r h k => by
  have tups : ∀ {ds : List D} {a : Addr} {xs : List V}, SrtOk ds → Q' (.own (srtD ds)) → (SqL K W.H a xs ∨ SqT K W.H a xs) → RpL K W xs ds → rSortT K [.ref a] W.H Q := fun {ds a xs} ⟨kss, shape, e, hs⟩ h hq r => by
    have r' := r
    rw [e] at r'
    obtain ⟨zs, e1, e2, e3⟩ := r'.zips
    refine ⟨a, zs, shape, rfl, by rw [e1]; exact hq, fun z hz => ?_, srt_own h e e1 e2 e3 k⟩
    obtain ⟨t, et, ht⟩ := (e3 z hz).tupK
    obtain ⟨g1, g2⟩ := hs z.2 (by rw [← e2]; exact List.mem_map.mpr ⟨z, hz, rfl⟩)
    exact ⟨t, et, ht.sq, g1, g2⟩
  have intq : ∀ {ns : List Int} {ds : List D}, ds = ns.map D.int → Q' (.own (srtD ds)) → ∀ (ms : List Int) (p : Addr), ms.Perm ns → ms.Pairwise (· ≤ ·) → W.H p = none → Q (.ref p) (upd W.H p (.lst (ms.map V.int))) := fun {ns ds} e h ms p hp hs hn => by
    subst e
    rw [← srtD_ints hp hs] at h
    exact new_own (K := K) (RpL.ofInts ms) (fun p W' g n rs => k _ _ [p] W' g rs (fun x hx => by rw [List.mem_singleton.mp hx]; exact n) h) p hn
  match ds, r, h with
  | [.lst ds], .cons (.lst e n r) .nil, h =>
    rcases h.1 with h1 | ⟨ns, e1⟩
    · exact .inl (tups h1 h.2 (.inl (.inl (.inl e))) r)
    · have r' := r
      rw [e1] at r'
      have e2 := r'.ints
      subst e2
      exact .inr (.inl ⟨_, ns, rfl, .inl (.inl e), intq e1 h.2⟩)
  | [.tup ds], .cons (.tup e r) .nil, h => exact .inl (tups h.1 h.2 (.inr e.sq) r)
  | [.dct false ds], .cons (.dct e n r) .nil, h =>
    obtain ⟨⟨ks, e1, e3⟩, h⟩ := h
    refine .inr (.inr ⟨_, _, ks, rfl, e, ?_, e3, intq e1 h⟩)
    have key : ∀ {vs : List (Key × V)} {ds : List (D × D)} {ks : List Int}, RpK K W vs ds → ds.map (·.1) = ks.map D.int → vs.map (·.1) = ks.map Sum.inl := by
      intro vs
      induction vs with
      | nil => intro ds ks r e; cases r; cases ks with | nil => rfl | cons => simp at e
      | cons v vs ih =>
        intro ds ks r e
        cases r with
        | @cons k _ _ _ _ h t =>
          cases ks with
          | nil => simp at e
          | cons i ks =>
            rw [List.map_cons, List.map_cons, List.cons.injEq] at e
            have ek : k = .inl i := by
              have e0 : kD k = .int i := e.1
              cases k with
              | inl j => exact congrArg Sum.inl (D.int.inj e0)
              | inr z => cases e0
            rw [List.map_cons, List.map_cons, ih t e.2, ek]
    exact key r e1
/-! sorted(set(numbers)) -/
section
variable {X : Cx} {S : Sx} {e : Expr} {p1 p2 p3 p4 : Pos}
def mSortSet (m : Pd) : Pv := fun ρ Q => m ρ fun d ρ1 => ∃ ds ns, seqD d = some ds ∧ intsD ds = some ns ∧ ns.length ≤ 4000 ∧ (∀ k ∈ ns, 0 ≤ k ∧ k < 60) ∧ ∀ ms : List Int, ms.Pairwise (· < ·) → (∀ k, k ∈ ms ↔ k ∈ ns) → Q (.own (ms.map D.int)) ρ1
theorem qSortSet {m : Pd} (hK : X.K = S.K) (g1 : Gl X "sorted") (m1 : X.mg "sorted" = none) (g2 : Gl X "set") (m2 : X.mg "set" = none) (he : PE X e (lD S m)) (hc : X.calm = true := by rfl)
    (na : starEach [e] X.env = (false, eval e X.env) :: starEach [] X.env := by rfl) : PE X (.Call (.Name "sorted" p1) [.Call (.Name "set" p2) [e] [] p3] [] p4) (lV S (mSortSet m)) := (pe_sortedSetI S.K g1 m1 g2 m2 he hc hK na).weak fun σ H Q ⟨ρ, F, W, Q', e, s, q, k⟩ => by
  subst e
  refine ⟨ρ, F, W, _, rfl, s, q, fun v d ρ1 F1 W1 a1 s1 r1 ⟨ds, ns, hd, hn, hl, hb, q1⟩ => ?_⟩
  have fin : ∀ (ms : List Int) (p : Addr), ms.Pairwise (· < ·) → (∀ k, k ∈ ms ↔ k ∈ ns) → W1.H p = none → Q (.ref p) (upd W1.H p (.lst (ms.map V.int))) := fun ms p h1 h2 hp =>
    new_own (K := S.K) (RpL.ofInts ms) (fun p W2 g n rs => by
      obtain ⟨a2, s2⟩ := s1.nw g
      exact k _ _ [p] ρ1 F1 W2 (a1.trans s s1 a2) s2 rs (fun x hx => by rw [List.mem_singleton.mp hx]; exact a1.go.free n) (q1 ms h1 h2)) p hp
  cases d <;> first | (cases hd; done) | skip
  · cases hd
    cases r1 with
    | lst e n r =>
      have e2 := ints_of r hn
      subst e2
      exact ⟨_, ns, rfl, .inl (.inl (.inl e)), hl, hb, fin⟩
  · cases hd
    cases r1 with
    | tup e r =>
      have e2 := ints_of r hn
      subst e2
      exact ⟨_, ns, rfl, .inr e.sq, hl, hb, fin⟩
/-! len(set(tuples)) -/
def mLenSet (m : Pd) : Pd := fun ρ Q => m ρ fun d ρ1 => ∃ (ds : List D) (kss : List Ks), seqD d = some ds ∧ ds = kss.map tupD ∧ ds.length < 299 ∧ ∀ n : Nat, (ds.Nodup → n = ds.length) → (¬ ds.Nodup → n < ds.length) → Q (.int n) ρ1
theorem qLenSet {m : Pd} (hK : X.K = S.K) (hu : X.A.units + 64 < cLine) (g1 : Gl X "len") (m1 : X.mg "len" = none) (g2 : Gl X "set") (m2 : X.mg "set" = none) (he : PE X e (lD S m)) (hc : X.calm = true := by rfl)
    (na : starEach [e] X.env = (false, eval e X.env) :: starEach [] X.env := by rfl) : PE X (.Call (.Name "len" p1) [.Call (.Name "set" p2) [e] [] p3] [] p4) (lD S (mLenSet m)) := (pe_lenSetT S.K hu g1 m1 g2 m2 he hc hK na).weak fun σ H Q ⟨ρ, F, W, Q', e, s, q, k⟩ => by
  subst e
  refine ⟨ρ, F, W, _, rfl, s, q, fun v d ρ1 F1 W1 a1 s1 r1 ⟨ds, kss, hd, ek, hl, q1⟩ => ?_⟩
  have main : ∀ {a : Addr} {xs : List V}, (SqL S.K W1.H a xs ∨ SqT S.K W1.H a xs) → RpL S.K W1 xs ds → ∃ (l : Addr) (zs : List (Addr × Ks)), V.ref a = .ref l ∧ (SqL S.K W1.H l (zs.map fun z => V.ref z.1) ∨ SqT S.K W1.H l (zs.map fun z => V.ref z.1)) ∧ (∀ z ∈ zs, SqT S.K W1.H z.1 (z.2.map kV)) ∧ zs.length < 299 ∧
      ∀ n : Nat, ((zs.map (·.2)).Nodup → n = zs.length) → (¬ (zs.map (·.2)).Nodup → n < zs.length) → Q (.int n) W1.H := fun {a xs} hq r => by
    have r' := r
    rw [ek] at r'
    obtain ⟨zs, e1, e2, e3⟩ := r'.zips
    have key : ∀ (zs : List (V × Ks)), (∀ z ∈ zs, Rp S.K W1 z.1 (tupD z.2)) → ∃ ys : List (Addr × Ks), (ys.map fun y => V.ref y.1) = zs.map (·.1) ∧ ys.map (·.2) = zs.map (·.2) ∧ ∀ y ∈ ys, Tp S.K W1.H y.1 (y.2.map kV) := by
      intro zs
      induction zs with
      | nil => intro _; exact ⟨[], rfl, rfl, fun _ h => nomatch h⟩
      | cons z zs ih =>
        intro h
        obtain ⟨ys, q1, q2, q3⟩ := ih fun y hy => h y (List.mem_cons_of_mem _ hy)
        obtain ⟨t, et, ht⟩ := (h z List.mem_cons_self).tupK
        refine ⟨(t, z.2) :: ys, by rw [List.map_cons, List.map_cons, q1, et], by rw [List.map_cons, List.map_cons, q2], fun y hy => ?_⟩
        rcases List.mem_cons.mp hy with e | e
        · subst e; exact ht
        · exact q3 y e
    obtain ⟨ys, y1, y2, y3⟩ := key zs e3
    have hlen : ys.length = ds.length := by
      have := congrArg List.length y2
      rw [List.length_map, e2] at this
      rw [this, ek, List.length_map]
    have hnd : (ys.map (·.2)).Nodup ↔ ds.Nodup := by
      rw [y2, e2, ek]
      constructor
      · intro h
        rw [List.Nodup, List.pairwise_map]
        exact h.imp fun {x y} q e => q (by have := congrArg asKs e; rwa [asKs_tup, asKs_tup] at this)
      · intro h
        rw [List.Nodup, List.pairwise_map] at h
        exact h.imp fun {x y} q e => q (by rw [e])
    refine ⟨a, ys, rfl, by rw [y1, e1]; exact hq, fun z hz => (y3 z hz).sq, by rw [hlen]; exact hl, fun n h1 h2 => ?_⟩
    rw [hlen, hnd] at h1 h2
    exact k _ _ ρ1 F1 W1 a1 s1 .int (q1 n h1 h2)
  cases d <;> first | (cases hd; done) | skip
  · cases hd
    cases r1 with
    | lst e n r => exact main (.inl (.inl (.inl e))) r
  · cases hd
    cases r1 with
    | tup e r => exact main (.inr e.sq) r
end
end U

/-! PuM: dicts; rows of rows of one's own -/
namespace U
open PySem PySem.Spec PyProof.Rows L2 Q
/-! ### dicts over data -/
noncomputable def dfind (kvs : List (D × D)) (k : D) : Option D := (kvs.find? fun p => decide (p.1 = k)).map (·.2)
noncomputable def dput (kvs : List (D × D)) (k d : D) : List (D × D) := if (kvs.any fun p => decide (p.1 = k)) = true then kvs.map (fun p => if p.1 = k then (p.1, d) else p) else kvs ++ [(k, d)]
/-- a key of the kind t -/
def keyIs (t : Bool) (k : D) : Prop := if t = true then ∃ ks : Ks, k = tupD ks ∧ ks ≠ [] else ∃ kk : Key, k = kD kk
theorem kD_inj {a b : Key} (h : kD a = kD b) : a = b := by
  have := congrArg toKey h
  rw [toKey_kD, toKey_kD] at this
  exact Option.some.inj this
theorem tupD_inj {a b : Ks} (h : tupD a = tupD b) : a = b := by
  have := congrArg asKs h
  rwa [asKs_tup, asKs_tup] at this
section
variable {K : PySem.W.Frag} {W : Wd}
theorem RpK.val {k : Key} : ∀ {vs : List (Key × V)} {ds : List (D × D)}, RpK K W vs ds → (∃ v d, valV vs k = some v ∧ dfind ds (kD k) = some d ∧ Rp K W v d) ∨ (valV vs k = none ∧ dfind ds (kD k) = none)
  | _, _, .nil => .inr ⟨rfl, rfl⟩
  | (k', v) :: r, (_, d) :: s, .cons h t => by
    by_cases q : k' = k
    · subst q
      exact .inl ⟨v, d, valV_pos rfl, by simp [dfind, List.find?_cons], h⟩
    · have q2 : ¬ kD k' = kD k := fun e => q (kD_inj e)
      have e2 : dfind ((kD k', d) :: s) (kD k) = dfind s (kD k) := by simp [dfind, List.find?_cons, q2]
      rw [valV_neg q, e2]
      exact RpK.val t
theorem RpT.val {k : Ks} : ∀ {vs : List (List Key × V)} {ds : List (D × D)}, RpT K W vs ds → (∃ v d, valV vs k = some v ∧ dfind ds (tupD k) = some d ∧ Rp K W v d) ∨ (valV vs k = none ∧ dfind ds (tupD k) = none)
  | _, _, .nil => .inr ⟨rfl, rfl⟩
  | (k', v) :: r, (_, d) :: s, .cons h t => by
    by_cases q : k' = k
    · subst q
      exact .inl ⟨v, d, valV_pos rfl, by simp [dfind, List.find?_cons], h⟩
    · have q2 : ¬ tupD k' = tupD k := fun e => q (tupD_inj e)
      have e2 : dfind ((.tup (k'.map kD), d) :: s) (tupD k) = dfind s (tupD k) := by simp only [dfind, List.find?_cons]; rw [show decide ((D.tup (k'.map kD), d).1 = tupD k) = false from decide_eq_false q2]
      rw [valV_neg q, e2]
      exact RpT.val t
theorem RpK.mp {k : Key} {v : V} {d : D} (hv : Rp K W v d) : ∀ {vs : List (Key × V)} {ds : List (D × D)}, RpK K W vs ds → RpK K W (vs.map fun p => if p.1 = k then (p.1, v) else p) (ds.map fun p => if p.1 = kD k then (p.1, d) else p) ∧ (vs.any fun p => decide (p.1 = k)) = (ds.any fun p => decide (p.1 = kD k))
  | _, _, .nil => ⟨.nil, rfl⟩
  | (k', u) :: r, (_, e) :: s, .cons h t => by
    obtain ⟨a, b⟩ := RpK.mp hv t
    rw [List.map_cons, List.map_cons, List.any_cons, List.any_cons, b]
    by_cases q : k' = k
    · subst q
      simp only [if_true]
      exact ⟨.cons hv a, by simp⟩
    · have q2 : ¬ kD k' = kD k := fun e => q (kD_inj e)
      simp only [q, q2, if_false]
      exact ⟨.cons h a, by simp⟩
theorem RpT.mp {k : Ks} {v : V} {d : D} (hv : Rp K W v d) : ∀ {vs : List (List Key × V)} {ds : List (D × D)}, RpT K W vs ds → RpT K W (vs.map fun p => if p.1 = k then (p.1, v) else p) (ds.map fun p => if p.1 = tupD k then (p.1, d) else p) ∧ (vs.any fun p => decide (p.1 = k)) = (ds.any fun p => decide (p.1 = tupD k))
  | _, _, .nil => ⟨.nil, rfl⟩
  | (k', u) :: r, (_, e) :: s, .cons h t => by
    obtain ⟨a, b⟩ := RpT.mp hv t
    rw [List.map_cons, List.map_cons, List.any_cons, List.any_cons, b]
    by_cases q : k' = k
    · subst q
      simp only [if_true]
      exact ⟨.cons hv a, by simp⟩
    · have q2 : ¬ D.tup (k'.map kD) = tupD k := fun e => q (tupD_inj e)
      simp only [q, q2, if_false]
      exact ⟨.cons h a, by simp⟩
theorem RpK.snoc {k : Key} {v : V} {d : D} (hv : Rp K W v d) : ∀ {vs : List (Key × V)} {ds : List (D × D)}, RpK K W vs ds → RpK K W (vs ++ [(k, v)]) (ds ++ [(kD k, d)])
  | _, _, .nil => .cons hv .nil
  | _, _, .cons h t => .cons h (RpK.snoc hv t)
theorem RpT.snoc {k : Ks} {v : V} {d : D} (hv : Rp K W v d) : ∀ {vs : List (List Key × V)} {ds : List (D × D)}, RpT K W vs ds → RpT K W (vs ++ [(k, v)]) (ds ++ [(tupD k, d)])
  | _, _, .nil => .cons hv .nil
  | _, _, .cons h t => .cons h (RpT.snoc hv t)
theorem RpK.put {k : Key} {v : V} {d : D} {vs : List (Key × V)} {ds : List (D × D)} (h : RpK K W vs ds) (hv : Rp K W v d) : RpK K W (putK vs k v) (dput ds (kD k) d) := by
  obtain ⟨a, b⟩ := RpK.mp (k := k) hv h
  unfold putK dput
  rw [b]
  by_cases q : (ds.any fun p => decide (p.1 = kD k)) = true
  · rw [if_pos q, if_pos q]; exact a
  · rw [if_neg q, if_neg q]; exact RpK.snoc hv h
theorem RpT.put {k : Ks} {v : V} {d : D} {vs : List (List Key × V)} {ds : List (D × D)} (h : RpT K W vs ds) (hv : Rp K W v d) : RpT K W (putK vs k v) (dput ds (tupD k) d) := by
  obtain ⟨a, b⟩ := RpT.mp (k := k) hv h
  unfold putK dput
  rw [b]
  by_cases q : (ds.any fun p => decide (p.1 = tupD k)) = true
  · rw [if_pos q, if_pos q]; exact a
  · rw [if_neg q, if_neg q]; exact RpT.snoc hv h
theorem Rp.kD {v : V} {k : Key} (h : Rp K W v (kD k)) : v = kV k := by
  cases k <;> (cases h; rfl)
end
/-- what a dict holds at a key, by the heap -/
theorem dget_of {K : PySem.W.Frag} {W : Wd} {v y : V} {t : Bool} {kvs : List (D × D)} {k : D} (h : Rp K W v (.dct t kvs)) (hk : Rp K W y k) (ki : keyIs t k) : ∃ a o, v = .ref a ∧ DGet W.H a y o ∧ ((∃ w d, o = some w ∧ dfind kvs k = some d ∧ Rp K W w d) ∨ (o = none ∧ dfind kvs k = none)) := by
  cases h with
  | dct e n r =>
    obtain ⟨kk, rfl⟩ := ki
    have ey := hk.kD
    subst ey
    refine ⟨_, _, rfl, .inl ⟨_, kk, e, rfl, rfl⟩, ?_⟩
    rcases r.val (k := kk) with ⟨w, d, h1, h2, h3⟩ | ⟨h1, h2⟩
    · exact .inl ⟨w, d, h1, h2, h3⟩
    · exact .inr ⟨h1, h2⟩
  | dcT e n r =>
    obtain ⟨ks, rfl, kn⟩ := ki
    obtain ⟨b, rfl, hb⟩ := hk.tupK
    have hb := hb.ne fun z => kn (List.map_eq_nil_iff.mp z)
    refine ⟨_, _, rfl, .inr ⟨_, ks, b, e, rfl, hb, rfl⟩, ?_⟩
    rcases r.val (k := ks) with ⟨w, d, h1, h2, h3⟩ | ⟨h1, h2⟩
    · exact .inl ⟨w, d, h1, h2, h3⟩
    · exact .inr ⟨h1, h2⟩
section
variable {X : Cx} {S : Sx} {e o i v : Expr} {pos pos' : Pos} {mo mi mv : Pd}
/-- d[k] -/
def mDGet (mo mi : Pd) : Pd := fun ρ Q => mo ρ fun d ρ1 => mi ρ1 fun k ρ2 => ∃ t kvs x, d = .dct t kvs ∧ keyIs t k ∧ dfind kvs k = some x ∧ Q x ρ2
theorem qDGet (hu : X.A.units + 1 < cLine) (ho : PE X o (lD S mo)) (hi : PE X i (lD S mi)) (hs : NoSl i) : PE X (.Subscript o i pos) (lD S (mDGet mo mi)) := (pe_dget hu ho hi hs).weak fun σ H Q ⟨ρ, F, W, Q', e, s, q, k⟩ => by
  subst e
  refine ⟨ρ, F, W, _, rfl, s, q, fun v d ρ1 F1 W1 a1 s1 r1 q1 => ⟨ρ1, F1, W1, _, rfl, s1, q1, fun y ky ρ2 F2 W2 a2 s2 r2 ⟨t, kvs, x, ed, ki, hx, q2⟩ => ?_⟩⟩
  subst ed
  obtain ⟨a, o, ev, g, h⟩ := dget_of (r1.up a2.go.ext) r2 ki
  rcases h with ⟨w, d, eo, h2, h3⟩ | ⟨_, h2⟩
  · rw [hx] at h2
    cases h2
    subst eo
    exact ⟨a, w, ev, g, k w x ρ2 F2 W2 (a1.trans s s1 a2) s2 h3 q2⟩
  · rw [hx] at h2; cases h2
/-- k in d, k not in d -/
def mDIn (neg : Bool) (mi mo : Pd) : Pd := fun ρ Q => mi ρ fun k ρ1 => mo ρ1 fun d ρ2 => ∃ t kvs, d = .dct t kvs ∧ keyIs t k ∧ Q (.bl (if neg then !(dfind kvs k).isSome else (dfind kvs k).isSome)) ρ2
theorem lDIn {neg : Bool} {t : TE} (ht : ∀ σ H Q, (lD S mi σ H fun y H1 => lD S mo σ H1 fun x H2 => ∃ a o, x = .ref a ∧ DGet H2 a y o ∧ Q (.bl (if neg then !o.isSome else o.isSome)) H2) → t σ H Q) (σ : L2.St) (H : Hp) (Q : VK) (h : lD S (mDIn neg mi mo) σ H Q) : t σ H Q := by
  obtain ⟨ρ, F, W, Q', e, s, q, k⟩ := h
  subst e
  refine ht _ _ _ ⟨ρ, F, W, _, rfl, s, q, fun y ky ρ1 F1 W1 a1 s1 r1 q1 => ⟨ρ1, F1, W1, _, rfl, s1, q1, fun v d ρ2 F2 W2 a2 s2 r2 ⟨t, kvs, ed, ki, q2⟩ => ?_⟩⟩
  subst ed
  obtain ⟨a, o, ev, g, h⟩ := dget_of r2 (r1.up a2.go.ext) ki
  refine ⟨a, o, ev, g, k _ _ ρ2 F2 W2 (a1.trans s s1 a2) s2 .bl ?_⟩
  rcases h with ⟨w, d, eo, h2, h3⟩ | ⟨eo, h2⟩ <;> (rw [eo]; rw [h2] at q2; exact q2)
theorem qDIn (hu : X.A.units + 1 < cLine) (hi : PE X i (lD S mi)) (ho : PE X o (lD S mo)) (hm : behindInMarks .In o = false := by rfl) : PE X (.Compare i [.In] [o] pos) (lD S (mDIn false mi mo)) := (pe_cmp (pc_din hu hi ho) hm).weak (lDIn fun _ _ _ h => h)
theorem qDNotIn (hu : X.A.units + 1 < cLine) (hi : PE X i (lD S mi)) (ho : PE X o (lD S mo)) (hm : behindInMarks .NotIn o = false := by rfl) : PE X (.Compare i [.NotIn] [o] pos) (lD S (mDIn true mi mo)) := (pe_cmp (pc_dnotin hu hi ho) hm).weak (lDIn fun _ _ _ h => h)
theorem qTDIn (hu : X.A.units + 1 < cLine) (hi : PE X i (lD S mi)) (ho : PE X o (lD S mo)) (hm : behindInMarks .In o = false := by rfl) : PT X (.Compare i [.In] [o] pos) (lT S (mT (mDIn false mi mo))) := (pt_cmp (pc_din hu hi ho) hm).weak (lT1 (lDIn fun _ _ _ h => h))
theorem qTDNotIn (hu : X.A.units + 1 < cLine) (hi : PE X i (lD S mi)) (ho : PE X o (lD S mo)) (hm : behindInMarks .NotIn o = false := by rfl) : PT X (.Compare i [.NotIn] [o] pos) (lT S (mT (mDIn true mi mo))) := (pt_cmp (pc_dnotin hu hi ho) hm).weak (lT1 (lDIn fun _ _ _ h => h))
/-- d[k] = v -/
def hasD (ρ : Rho) (i : Nat) : Prop := ∃ t kvs, ρ[i]? = some (some (.ownD t kvs))
noncomputable def mDPut (j : Nat) (mv mi : Pd) : Ps := fun E ρ => mv ρ fun d ρ1 => hasD ρ1 j ∧ mi ρ1 fun k ρ2 => ∃ t kvs, ρ2[j]? = some (some (.ownD t kvs)) ∧ keyIs t k ∧ kvs.length < sizeLine ∧ E.nx (ρ2.set j (some (.ownD t (dput kvs k d))))
theorem Wd.setO_go {W : Wd} {p : Addr} {o : HO} (mu : L2.Mut (some o)) (h : W.M p) : ∃ W', W'.H = upd W.H p o ∧ (∀ a, W'.M a ↔ W.M a) ∧ Go (fun a => a = p) W W' :=
  ⟨⟨upd W.H p o, W.M, fun a ha => by
    by_cases e : a = p
    · rw [e]; exact ⟨o, upd_same, mu⟩
    · obtain ⟨u, q, mq⟩ := W.ok a ha
      exact ⟨u, by rw [upd_ne e]; exact q, mq⟩⟩, rfl, fun _ => Iff.rfl, ⟨fun a u n e => by show upd W.H p _ a = _; rw [upd_ne n]; exact e, fun a u n e => by
    have z : a ≠ p := fun q => not_mut n e (q ▸ h)
    show upd W.H p _ a = _
    rw [upd_ne z]; exact e, fun _ z => .inl z, fun _ _ z => z, fun a z => z ▸ h, fun a n => by
    show upd W.H p _ a ≠ none
    by_cases q : a = p
    · rw [q, upd_same]; intro z; cases z
    · rw [upd_ne q]; exact n⟩⟩
theorem qDPut {j : Nat} (hu : X.A.units + 1 < cLine) (ho : PE X o (tVar j)) (hi : PE X i (lD S mi)) (hv : PE X v (lD S mv)) (hs : swapsWith v (some (.Subscript o i pos')) pos.line X.env = pure false := by rfl) : PS X (.Assign [.Subscript o i pos'] v pos) (lS S (mDPut j mv mi)) :=
  (ps_dput hu ho hi hv hs).weak fun E σ H ⟨ρ, F, W, E', e, s, q, c⟩ => by
    subst e
    refine ⟨ρ, F, W, _, rfl, s, q, fun v d ρ1 F1 W1 a1 s1 r1 ⟨⟨t0, k0, h0⟩, q1⟩ => ?_⟩
    obtain ⟨u, ev, hu0⟩ := s1.sv j _ h0
    refine ⟨u, ev, ρ1, F1, W1, _, rfl, s1, q1, fun y ky ρ2 F2 W2 a2 s2 r2 ⟨t, kvs, e2, ki, hz, q2⟩ => ?_⟩
    obtain ⟨u', ev', hu⟩ := s2.sv j _ e2
    rw [ev] at ev'
    cases ev'
    have r1' := r1.up a2.go.ext
    generalize hF : F2 j = Y at hu
    cases hu with
    | @ownK p kvs' _ eo mo r =>
      obtain ⟨kk, rfl⟩ := ki
      have ey := r2.kD
      subst ey
      obtain ⟨W3, eH, eM, g⟩ := Wd.setO_go (o := .dK (putK kvs' kk v)) True.intro mo
      obtain ⟨a3, s3⟩ := s2.change e2 ev hF g (.ownK (by rw [eH]; exact upd_same) ((eM _).mpr mo) ((r.up g.ext).put (r1'.up g.ext)))
      refine ⟨p, _, rfl, DPut.k eo (by rw [r.length]; exact hz), ?_⟩
      rw [← eH]
      exact c.nx _ _ F2 W3 ((a1.toStpM.trans a2.toStpM).trans a3).s s3 q2
    | @ownT p kvs' _ eo mo r =>
      obtain ⟨ks, rfl, kn⟩ := ki
      obtain ⟨b, rfl, hb⟩ := r2.tupK
      have hb := hb.ne fun z => kn (List.map_eq_nil_iff.mp z)
      obtain ⟨W3, eH, eM, g⟩ := Wd.setO_go (o := .dT (putK kvs' ks v)) True.intro mo
      obtain ⟨a3, s3⟩ := s2.change e2 ev hF g (.ownT (by rw [eH]; exact upd_same) ((eM _).mpr mo) ((r.up g.ext).put (r1'.up g.ext)))
      refine ⟨p, _, rfl, DPut.t eo hb (by rw [r.length]; exact hz), ?_⟩
      rw [← eH]
      exact c.nx _ _ F2 W3 ((a1.toStpM.trans a2.toStpM).trans a3).s s3 q2
/-- {k: v} -/
def mDisp1 (mk mv : Pd) : Pv := fun ρ Q => mk ρ fun k ρ1 => mv ρ1 fun d ρ2 => (∃ kk : Key, k = kD kk) ∧ Q (.ownD false [(k, d)]) ρ2
theorem qDisp1 {a b : Expr} {mk mv : Pd} (ha : PE X a (lD S mk)) (hb : PE X b (lD S mv)) : PE X (.Dict [some a] [b] pos) (lV S (mDisp1 mk mv)) :=
  (pe_disp (pps_cons ha hb pps_nil) (by rfl) (by rfl) (fun z => by cases z) (Nat.le_of_ble_eq_true rfl)).weak fun σ H Q ⟨ρ, F, W, Q', e, s, q, k⟩ => by
    subst e
    intro p hp
    have g0 : Go Nw W (W.ownO p (.dK []) True.intro hp) := Wd.ownO_go hp
    obtain ⟨a0, s0⟩ := s.nw g0
    have pm : ∀ {F1 : Fp} {W1 : Wd}, Stp S F (W.ownO p (.dK []) True.intro hp) F1 W1 → ¬ Mine S F1 p := fun a m => Wd.ne (s.inM (a.mine m)) hp
    refine ⟨ρ, F, W.ownO p (.dK []) True.intro hp, _, rfl, s0, q, fun v k1 ρ1 F1 W1 a1 s1 r1 q1 => ⟨ρ1, F1, W1, _, rfl, s1, q1, fun u d ρ2 F2 W2 a2 s2 r2 ⟨⟨kk, ek⟩, q2⟩ => ?_⟩⟩
    subst ek
    have ev := r1.kD
    subst ev
    have n0 : ¬ Mine S F p := fun m => Wd.ne (s.inM m) hp
    have h1 : W1.H p = some (.dK []) := a1.go.keep _ _ n0 upd_same
    have h2 : W2.H p = some (.dK []) := a2.go.keep _ _ (pm a1) h1
    have m2 : W2.M p := a2.go.stay _ (pm a1) (a1.go.stay _ n0 (.inr rfl))
    refine ⟨h2, [(kk, u)], rfl, Nat.le_of_ble_eq_true rfl, ?_⟩
    obtain ⟨W3, eH, eM, g⟩ := Wd.setO_go (o := .dK (mergeK [] [(kk, u)])) True.intro m2
    have a02 := (a0.trans s s0 a1).trans s s1 a2
    have s3 := s2.other g (fun a ea m => pm (a1.trans s0 s1 a2) (ea ▸ m)) (fun a ea => by rw [ea]; exact s.go.free hp) (fun Wb Fb e a ea => by rw [ea]; exact (s.tb Wb Fb e).go.free hp)
    have a3 : Stp S F W F2 W3 := ⟨⟨a02.go.trans g fun a ea => .inr (by rw [ea]; exact hp), a02.sub⟩, fun i a h => by
      have na : a ≠ p := fun z => Wd.ne (s.new i a h).1 (z ▸ hp)
      rw [eH, upd_ne na]
      exact a02.same i a h⟩
    rw [← eH]
    exact k _ _ [p] ρ2 F2 W3 a3 s3 (.ownK (by rw [eH]; exact upd_same) ((eM p).mpr m2) (.cons (r2.up g.ext) .nil)) (fun x hx => by rw [List.mem_singleton.mp hx]; exact hp) q2
/-! ### rows of rows of one's own -/
def hasOwn2 (ρ : Rho) (i : Nat) : Prop := ∃ rs, ρ[i]? = some (some (.ow2 rs))
theorem Sn.own2At {W : Wd} {σ : L2.St} {ρ : Rho} {F : Fp} {i : Nat} {rs : List (List D)} (s : Sn S W σ ρ F) (e : ρ[i]? = some (some (.ow2 rs))) : ∃ p qs, σ[i]? = some (some (.ref p)) ∧ Own W p (qs.map V.ref) ∧ RpQ S.K W qs rs ∧ (p :: qs).Nodup ∧ F i = p :: qs := by
  obtain ⟨v, ev, hv⟩ := s.sv i _ e
  generalize hF : F i = Y at hv
  cases hv with
  | ow2 o r nd => exact ⟨_, _, ev, o, r, nd, rfl⟩
theorem Sn.changeG {W W' : Wd} {σ : L2.St} {ρ : Rho} {F : Fp} {i : Nat} {r0 r : SV} {v : V} (s : Sn S W σ ρ F) (e : ρ[i]? = some (some r0)) (ev : σ[i]? = some (some v)) (g : Go (fun a => a ∈ F i) W W') (h : RpS S.K W' v r (F i)) : StpM S F W F W' ∧ Sn S W' σ (ρ.set i (some r)) F := by
  have hl : i < ρ.length := (List.getElem?_eq_some_iff.mp e).1
  have nm : ∀ j a, a ∈ F j → j ≠ i → ¬ a ∈ F i := fun j a ha hj z => hj (s.dj j i a ha z)
  have gm : Go (Mine S F) W W' := g.mono (fun a ea => .inr ⟨i, ea⟩) fun a h => s.inM h
  refine ⟨⟨gm, fun j a h => ⟨j, h⟩⟩, ⟨by rw [List.length_set]; exact s.len, s.go.trans g fun a ea => .inr (s.new i a ea).2, fun a c ea => ?_, fun j r' er => ?_, fun j a ha => ⟨?_, (s.new j a ha).2⟩, s.dj, s.me, fun Wb Fb e => (s.tb Wb Fb e).trans ⟨gm, fun j a h => .inl ⟨j, h⟩⟩⟩⟩
  · obtain ⟨e1, e2, e3⟩ := s.sto a c ea
    exact ⟨e1, e2.up g fun z => e3 i z, e3⟩
  · by_cases q : i = j
    · subst q
      rw [List.getElem?_set_self hl] at er
      cases er
      exact ⟨_, ev, h⟩
    · rw [List.getElem?_set_ne q] at er
      obtain ⟨w, e1, e2⟩ := s.sv j r' er
      exact ⟨w, e1, e2.up g fun a ha => nm j a ha (Ne.symm q)⟩
  · by_cases q : a ∈ F i
    · exact h.inM a q
    · exact g.stay a q (s.new j a ha).1
theorem RpQ.get {K : PySem.W.Frag} {W : Wd} : ∀ {qs : List Addr} {rs : List (List D)} {n : Nat} {r : List D}, RpQ K W qs rs → rs[n]? = some r → ∃ q xs, qs[n]? = some q ∧ Own W q xs ∧ RpL K W xs r
  | _, _, _, _, .nil, e => by simp at e
  | _, _, 0, _, .cons o r t, e => by simp at e; subst e; exact ⟨_, _, rfl, o, r⟩
  | _, _, n + 1, _, .cons o r t, e => by
    obtain ⟨q, xs, h1, h2, h3⟩ := t.get (n := n) (by simpa using e)
    exact ⟨q, xs, by simpa using h1, h2, h3⟩
theorem RpQ.length {K : PySem.W.Frag} {W : Wd} : ∀ {qs : List Addr} {rs : List (List D)}, RpQ K W qs rs → qs.length = rs.length
  | _, _, .nil => rfl
  | _, _, .cons _ _ t => congrArg Nat.succ t.length
theorem RpQ.setq {K : PySem.W.Frag} {W : Wd} {q : Addr} {ys : List V} {r' : List D} (hr : RpL K (W.set q ys) ys r') : ∀ {qs : List Addr} {rs : List (List D)} {n : Nat}, W.M q → qs.Nodup → qs[n]? = some q → RpQ K W qs rs → RpQ K (W.set q ys) qs (rs.set n r')
  | _, _, _, _, _, e, .nil => by simp at e
  | _ :: qs, _ :: rs, 0, hm, nd, e, .cons o r t => by
    simp at e
    subst e
    have nq := (List.nodup_cons.mp nd).1
    exact .cons ⟨upd_same, o.2⟩ hr (t.up (Wd.set_go hm) fun a ha z => nq (z ▸ ha))
  | a :: qs, _ :: rs, n + 1, hm, nd, e, .cons o r t => by
    have e2 : qs[n]? = some q := by simpa using e
    have na : ¬ a = q := fun z => (List.nodup_cons.mp nd).1 (z ▸ List.mem_of_getElem? e2)
    exact .cons (Own.up o (Wd.set_go hm) na) (r.up (Wd.set_go hm).ext) (RpQ.setq hr hm (List.nodup_cons.mp nd).2 e2 t)
/-- x[i].append(e) -/
def mApp2 (j : Nat) (mi m : Pd) : Pv := fun ρ Q => hasOwn2 ρ j ∧ mi ρ fun c ρ1 => ∃ rs i n r, ρ1[j]? = some (some (.ow2 rs)) ∧ c = .int i ∧ ixN rs.length i = some n ∧ rs[n]? = some r ∧ m ρ1 fun d ρ2 => ρ2[j]? = some (some (.ow2 rs)) ∧ r.length < sizeLine ∧ Q (.dat .non) (ρ2.set j (some (.ow2 (rs.set n (r ++ [d])))))
theorem qApp2 {a : Expr} {apos cpos spos : Pos} {j : Nat} {m : Pd} (hK : X.K = S.K) (ho : PE X o (tVar j)) (hi : PE X i (lD S mi)) (hsb : PlainIx i) (ha : PE X a (lD S m)) (hbase : attributeBase (.Subscript o i spos) "append" X.env (eval (.Subscript o i spos) X.env) = eval (.Subscript o i spos) X.env := by rfl)
    (hfew : ((backTo cpos (starEach [a] X.env)).all (fun x => !x.1) && (backToKw cpos (keywordEach [] X.env)).all (fun x => x.1.isSome)
      && decide ([a].length + ([] : List Keyword).length + (if ([] : List Keyword).isEmpty then 0 else 1) < 30)) = true := by rfl)
    (hline : (apos.endLine == cpos.line) = true := by rfl) (hs : starEach [a] X.env = (false, eval a X.env) :: starEach [] X.env := by rfl) :
    PE X (.Call (.Attribute (.Subscript o i spos) "append" apos) [a] [] cpos) (lVm S (mApp2 j mi m)) :=
  (k_bm S.K PySem.F.plainAttrs_list PySem.F.slot_list_append PySem.F.type_list_append mt_append (pe_ix (k_ixK S.K hK) ho hi hsb) (pa_cons ha pa_nil hs) hK hbase hfew hline hs rfl).weak fun σ H Q ⟨ρ, F, W, Q', e, s, ⟨⟨rs0, h0⟩, q⟩, k⟩ => by
    subst e
    obtain ⟨p0, qs0, ev, o0, r0, nd0, hF0⟩ := s.own2At h0
    refine ⟨.ref p0, ev, ρ, F, W, _, rfl, s, q, fun y c ρ1 F1 W1 a1 s1 r1 ⟨rs, i, n, r, e1, ec, hn, hr, q1⟩ => ?_⟩
    subst ec
    cases r1
    obtain ⟨p1, qs, ev1, o1, rq1, nd1, hF1⟩ := s1.own2At e1
    rw [ev] at ev1
    cases ev1
    obtain ⟨qa, xs, hq, oq, rl⟩ := rq1.get hr
    have hat : atI (qs.map V.ref) i = some (.ref qa) := by
      unfold atI
      rw [List.length_map, rq1.length, hn]
      show (qs.map V.ref)[n]? = _
      rw [List.getElem?_map, hq]
      rfl
    refine .inl ⟨p0, _, i, _, rfl, rfl, .inl (.inl o1.1), hat, Sn.tyL oq, ρ1, F1, W1, _, rfl, s1, q1, fun v d ρ2 F2 W2 a2 s2 r2 ⟨e2, hz, q2⟩ => ?_⟩
    obtain ⟨p2, qs2, ev2, o2, rq2, nd2, hF2⟩ := s2.own2At e2
    rw [ev] at ev2
    cases ev2
    have same : qs2 = qs := by
      have h1 : W2.H p0 = W1.H p0 := a2.same j p0 (by rw [hF1]; exact List.mem_cons_self)
      rw [o2.1, o1.1] at h1
      have h2 : qs2.map V.ref = qs.map V.ref := by
        have := Option.some.inj h1
        injection this
      exact map_inj_on (fun _ _ _ _ z => by injection z) h2
    subst same
    obtain ⟨qa2, xs2, hq2, oq2, rl2⟩ := rq2.get hr
    rw [hq] at hq2
    cases hq2
    have hqF : qa ∈ F2 j := by rw [hF2]; exact List.mem_cons_of_mem _ (List.mem_of_getElem? hq)
    have gs := Wd.set_go (W := W2) (p := qa) (xs := xs2 ++ [v]) oq2.2
    have np : ¬ p0 = qa := fun z => (List.nodup_cons.mp nd2).1 (z ▸ List.mem_of_getElem? hq)
    obtain ⟨a3, s3⟩ := s2.changeG (r := .ow2 (rs.set n (r ++ [d]))) e2 ev (gs.mono (fun a ea => by rw [ea]; exact hqF) fun a h => (s2.new j a h).1) (by
      rw [hF2]
      exact .ow2 (o2.up gs np) (RpQ.setq ((rl2.up gs.ext).snoc (r2.up gs.ext)) oq2.2 (List.nodup_cons.mp nd2).2 hq rq2) nd2)
    exact ⟨qa, xs2, v, rfl, rfl, oq2.1, by rw [rl2.length]; exact hz, k .non (.dat .non) [] _ F2 _ ((a1.toStpM.trans a2.toStpM).trans a3) s3 (.dat .non) (fun _ z => nomatch z) q2⟩
end
end U

/-! PuN: list(range) -/
namespace U
open PySem PySem.Spec PyProof.Rows L2 Q
section
variable {X : Cx} {S : Sx} {e a b : Expr} {p pos p2 pos2 : Pos} {m n : Pd}
def mListRg1 (m : Pd) : Pv := fun ρ Q => m ρ fun d ρ1 => ∃ j : Int, d = .int j ∧ -(2 ^ 62) ≤ j ∧ j ≤ 16777216 ∧ Q (.own (rngD 0 j.toNat)) ρ1
def mListRg2 (m n : Pd) : Pv := fun ρ Q => m ρ fun d ρ1 => n ρ1 fun e ρ2 => ∃ i j : Int, d = .int i ∧ e = .int j ∧ -(2 ^ 61) ≤ i ∧ i < 2 ^ 61 ∧ -(2 ^ 61) ≤ j ∧ j < 2 ^ 61 ∧ (j - i).toNat ≤ 16777216 ∧ Q (.own (rngD i (j - i).toNat)) ρ2
theorem rgV_rngD {K : PySem.W.Frag} {W : Wd} (i j : Int) : RpL K W (rgV i j) (rngD i (j - i).toNat) := RpL.map (fun _ => .int) _
theorem qListRg1 (g1 : Gl X "list") (m1 : X.mg "list" = none) (g2 : Gl X "range") (m2 : X.mg "range" = none) (he : PE X a (lD S m)) (hc : X.calm = true := by rfl)
    (na0 : starEach [a] X.env = (false, eval a X.env) :: starEach [] X.env := by rfl) (na : starEach [Expr.Call (.Name "range" p2) [a] [] pos2] X.env = (false, eval (Expr.Call (.Name "range" p2) [a] [] pos2) X.env) :: starEach [] X.env := by rfl) :
    PE X (.Call (.Name "list" p) [.Call (.Name "range" p2) [a] [] pos2] [] pos) (lV S (mListRg1 m)) := (pe_listRg hc g1 m1 (prg_1 g2 m2 he na0) na).weak fun σ H Q ⟨ρ, F, W, Q', eW, s, q, k⟩ => by
  subst eW
  refine ⟨ρ, F, W, _, rfl, s, q, fun v d ρ1 F1 W1 a1 s1 r1 ⟨j, ej, h0, h1, q1⟩ => ?_⟩
  subst ej
  cases r1
  refine ⟨j, rfl, ⟨by omega, by omega, by omega, by omega, by omega⟩, new_own (K := S.K) (rgV_rngD 0 j) fun p W2 g n rs => ?_⟩
  obtain ⟨a2, s2⟩ := s1.nw g
  refine k _ _ [p] ρ1 F1 W2 (a1.trans s s1 a2) s2 rs (fun x hx => by rw [List.mem_singleton.mp hx]; exact a1.go.free n) ?_
  rw [Int.sub_zero]
  exact q1
theorem qListRg2 (g1 : Gl X "list") (m1 : X.mg "list" = none) (g2 : Gl X "range") (m2 : X.mg "range" = none) (he : PE X a (lD S m)) (hb : PE X b (lD S n)) (hc : X.calm = true := by rfl)
    (na0 : starEach [a, b] X.env = (false, eval a X.env) :: starEach [b] X.env := by rfl) (nb : starEach [b] X.env = (false, eval b X.env) :: starEach [] X.env := by rfl) (hp : (backTo pos2 (starEach [b] X.env)).any (·.1) = false := by rfl) (na : starEach [Expr.Call (.Name "range" p2) [a, b] [] pos2] X.env = (false, eval (Expr.Call (.Name "range" p2) [a, b] [] pos2) X.env) :: starEach [] X.env := by rfl) :
    PE X (.Call (.Name "list" p) [.Call (.Name "range" p2) [a, b] [] pos2] [] pos) (lV S (mListRg2 m n)) := (pe_listRg hc g1 m1 (prg_2 g2 m2 he hb na0 nb hp) na).weak fun σ H Q ⟨ρ, F, W, Q', eW, s, q, k⟩ => by
  subst eW
  refine ⟨ρ, F, W, _, rfl, s, q, fun v d ρ1 F1 W1 a1 s1 r1 q1 => ⟨ρ1, F1, W1, _, rfl, s1, q1, fun u c ρ2 F2 W2 a2 s2 r2 ⟨i, j, ei, ej, h0, h1, h2, h3, h4, q2⟩ => ?_⟩⟩
  subst ei ej
  cases r1
  cases r2
  refine ⟨i, j, rfl, rfl, ⟨by omega, by omega, by omega, by omega, by omega⟩, new_own (K := S.K) (rgV_rngD i j) fun p W3 g n rs => ?_⟩
  obtain ⟨a3, s3⟩ := s2.nw g
  have a12 := a1.trans s s1 a2
  exact k _ _ [p] ρ2 F2 W3 (a12.trans s s2 a3) s3 rs (fun x hx => by rw [List.mem_singleton.mp hx]; exact a12.go.free n) q2
end
end U

/-! PuO: rows of new rows -/
namespace U
open PySem PySem.Spec PyProof.Rows L2 Q
theorem RpQ.len {K : PySem.W.Frag} {W : Wd} : ∀ {qs : List Addr} {rs : List (List D)}, RpQ K W qs rs → qs.length = rs.length
  | _, _, .nil => rfl
  | _, _, .cons _ _ t => congrArg Nat.succ (RpQ.len t)
theorem RpQ.snoc {K : PySem.W.Frag} {W : Wd} {q : Addr} {xs : List V} {r : List D} : ∀ {qs : List Addr} {rs : List (List D)}, RpQ K W qs rs → Own W q xs → RpL K W xs r → RpQ K W (qs ++ [q]) (rs ++ [r])
  | _, _, .nil, o, h => .cons o h .nil
  | _, _, .cons a b t, o, h => .cons a b (RpQ.snoc t o h)
section
variable {X : Cx} {S : Sx} {e : Expr} {pos : Pos}
theorem lLc2 {mi : Pi} {g : TG} {b : Bnd} {te : Pv} {vs : List Nat} {wi : TI} {t1 : TT} {t2 : TE} (hi : ∀ σ H R, lI S mi σ H R → wi σ H R) (hg : GOkW S g b vs) (ht : ∀ σ H R, lT S mYes σ H R → t1 σ H R) (he : ∀ σ H R, lV S te σ H R → t2 σ H R)
    (hv : ∀ v ∈ vs, (S.sl == v) = false) (σ : L2.St) (H : Hp) (Q : VK) (h : lV S (mLc2 mi b te vs) σ H Q) : tLc wi g t1 t2 vs σ H Q := by
  obtain ⟨ρ, F, W, Q', e, s, q, k⟩ := h
  subst e
  refine hi _ _ _ ⟨ρ, F, W, _, rfl, s, q, fun J ds ρ1 F1 W1 a1 s1 it q1 p hp => ?_⟩
  obtain ⟨F1w, s1w, hF1⟩ := s1.wipe hv
  have ap : Stp S F1 W1 F1w (W1.ownO p (.lst []) True.intro hp) := by
    obtain ⟨a, _⟩ := s1.nw (Wd.ownO_go (mu := True.intro) (o := .lst []) hp)
    exact ⟨⟨a.go, fun i x hx => ⟨i, hF1 i x hx⟩⟩, a.same⟩
  obtain ⟨_, sp⟩ := s1w.nw (Wd.ownO_go (mu := True.intro) (o := .lst []) hp)
  have pn1 : ∀ {F : Fp}, (∀ i a, a ∈ F i → a ∈ F1w i ∨ True) → True := fun _ => trivial
  have p0 : S.W0.H p = none := s1.go.free hp
  have pm1 : ¬ Mine S F1 p := fun m => Wd.ne (s1.inM m) hp
  refine ⟨fun i n H2 => n = ds.length - i ∧ i ≤ ds.length ∧ ∃ F2 W2 qs acc, W2.H = H2 ∧ Stp S F1 W1 F2 W2 ∧ Sn S W2 (wipe σ vs) (wipeR ρ1 vs) F2 ∧ Own W2 p (qs.map V.ref) ∧ RpQ S.K W2 qs acc ∧ (p :: qs).Nodup ∧ (∀ x ∈ qs, W1.H x = none) ∧ lcD2 b te (wipeR ρ1 vs) (fun acc => Q' (.ow2 acc) (wipeR ρ1 vs)) (ds.drop i) acc,
    ⟨ds.length, by simp, Nat.zero_le _, F1w, W1.ownO p (.lst []) True.intro hp, ([] : List Addr), [], rfl, ap, sp, (show Own (W1.ownO p (.lst []) True.intro hp) p (([] : List Addr).map V.ref) from ⟨upd_same, Or.inr rfl⟩), .nil, List.nodup_cons.mpr ⟨List.not_mem_nil, List.nodup_nil⟩, (fun _ h => by cases h), q1⟩, ?_⟩
  rintro i n _ ⟨rfl, hi, F2, W2, qs, acc, rfl, a2, s2, o2, r2, nd2, fr2, q2⟩
  have pm2 : ¬ Mine S F2 p := fun m => pm1 (a2.mine m)
  by_cases hlt : i < ds.length
  · have ed := List.getElem?_eq_getElem hlt
    obtain ⟨g1, g2⟩ := (it W2 a2.go.ext i).2 _ ed
    refine .inr ⟨g1, fun H3 => ∃ F3 W3 qs acc, W3.H = H3 ∧ Stp S F1 W1 F3 W3 ∧ Sn S W3 (wipe σ vs) (wipeR ρ1 vs) F3 ∧ Own W3 p (qs.map V.ref) ∧ RpQ S.K W3 qs acc ∧ (p :: qs).Nodup ∧ (∀ x ∈ qs, W1.H x = none) ∧ lcD2 b te (wipeR ρ1 vs) (fun acc => Q' (.ow2 acc) (wipeR ρ1 vs)) (ds.drop (i + 1)) acc,
      fun H' ⟨F3, W3, qs, acc, h⟩ => ⟨ds.length - (i + 1), by omega, rfl, hlt, F3, W3, qs, acc, h⟩, fun x H' y => ?_⟩
    obtain ⟨W3, e3, g3, r3⟩ := g2 x H' y
    subst e3
    rw [List.drop_eq_getElem_cons hlt] at q2
    obtain ⟨a3, s3⟩ := s2.nw g3
    have a13 := a2.trans s1 s2 a3
    have o3 := o2.up g3 fun z => z
    have rr3 := r2.up g3 fun _ _ z => z
    refine hg.run x _ (wipe σ vs) (wipeR ρ1 vs) F2 W3 _ _ s3 r3 q2 fun σ4 ρ4 F4 s4 hF ew ewR q4 => ⟨by
      rw [ew]
      have key : ∀ (l : List Nat) (σ : L2.St), wipe (wipe σ vs) l = wipe σ vs ∨ ¬ ∀ x ∈ l, x ∈ vs := by
        intro l
        induction l with
        | nil => intro σ; exact .inl rfl
        | cons a l ih =>
          intro σ
          by_cases hx : ∀ x ∈ a :: l, x ∈ vs
          · refine .inl ?_
            rcases ih σ with h | h
            · show (wipe (wipe σ vs) l).set a none = _
              rw [h]
              refine List.ext_getElem? fun j => ?_
              by_cases q : a = j
              · subst q
                by_cases hl : a < (wipe σ vs).length
                · rw [List.getElem?_set_self hl]
                  cases z : (wipe σ vs)[a]? with
                  | none => exact absurd (List.getElem?_eq_none_iff.mp z) (by omega)
                  | some o =>
                    cases o with
                    | none => rfl
                    | some v => exact absurd (hx a List.mem_cons_self) (wipe_some z).2
                · rw [List.getElem?_eq_none (by rw [List.length_set]; omega), List.getElem?_eq_none (by omega)]
              · rw [List.getElem?_set_ne q]
            · exact absurd (fun x hx2 => hx x (List.mem_cons_of_mem _ hx2)) h
          · exact .inr hx
      exact (key vs σ).elim id fun h => absurd (fun _ h => h) h, ?_⟩
    have a14 : Stp S F1 W1 F4 W3 := ⟨⟨a13.go, fun i a h => a13.sub i a (hF i a h)⟩, a13.same⟩
    have wR : wipeR ρ4 vs = wipeR ρ1 vs := by
      rw [ewR]
      have key : ∀ (l : List Nat), (∀ x ∈ l, x ∈ vs) → wipeR (wipeR ρ1 vs) l = wipeR ρ1 vs := by
        intro l
        induction l with
        | nil => intro _; rfl
        | cons a l ih =>
          intro hx
          show (wipeR (wipeR ρ1 vs) l).set a none = _
          rw [ih fun x h => hx x (List.mem_cons_of_mem _ h)]
          refine List.ext_getElem? fun j => ?_
          by_cases q : a = j
          · subst q
            by_cases hl : a < (wipeR ρ1 vs).length
            · rw [List.getElem?_set_self hl]
              cases z : (wipeR ρ1 vs)[a]? with
              | none => exact absurd (List.getElem?_eq_none_iff.mp z) (by omega)
              | some o =>
                cases o with
                | none => rfl
                | some v => exact absurd (hx a List.mem_cons_self) (wipeR_some z).2
            · rw [List.getElem?_eq_none (by rw [List.length_set]; omega), List.getElem?_eq_none (by omega)]
          · rw [List.getElem?_set_ne q]
      exact key vs fun _ h => h
    have wS : wipe σ4 vs = wipe σ vs := by
      rw [ew]
      refine List.ext_getElem? fun j => ?_
      by_cases hj : j ∈ vs
      · have h1 : ∀ (τ : L2.St), ((wipe τ vs)[j]? = none ∧ τ.length ≤ j) ∨ (wipe τ vs)[j]? = some none := fun τ => by
          cases z : (wipe τ vs)[j]? with
          | none => refine .inl ⟨rfl, ?_⟩; have := List.getElem?_eq_none_iff.mp z; rwa [wipe_length] at this
          | some o =>
            cases o with
            | none => exact .inr rfl
            | some v => exact absurd hj (wipe_some z).2
        rcases h1 (wipe σ vs) with ⟨h, l⟩ | h <;> rcases h1 σ with ⟨h', l'⟩ | h'
        · rw [h, h']
        · rw [wipe_length] at l
          have := (List.getElem?_eq_some_iff.mp h').1
          rw [wipe_length] at this
          omega
        · have := (List.getElem?_eq_some_iff.mp h).1
          rw [wipe_length, wipe_length] at this
          omega
        · rw [h, h']
      · rw [wipe_out hj]
    have pm4 : ¬ Mine S F4 p := fun m => pm1 (a14.mine m)
    have back : ∀ {F5 : Fp} {W5 : Wd}, Stp S F4 W3 F5 W5 → Sn S W5 σ4 ρ4 F5 → ∃ F6, Stp S F1 W1 F6 W5 ∧ Sn S W5 (wipe σ vs) (wipeR ρ1 vs) F6 := fun {F5 W5} a5 s5 => by
      obtain ⟨F6, s6, h6⟩ := s5.wipe hv
      rw [wS, wR] at s6
      have a15 : Stp S F1 W1 F5 W5 := a14.trans s1 s4 a5
      exact ⟨F6, ⟨⟨a15.go, fun i a h => a15.sub i a (h6 i a h)⟩, a15.same⟩, s6⟩
    have pq4 : ∀ x ∈ qs, ¬ Mine S F4 x := fun x hx m => Wd.ne (s1.inM (a14.mine m)) (fr2 x hx)
    refine ht _ _ _ ⟨ρ4, F4, W3, fun c ρ5 => c = true ∧ ρ5 = ρ4, rfl, s4, ⟨rfl, rfl⟩, fun c ρ5 F5 W5 a5 s5 ⟨ec, e5⟩ => ?_⟩
    subst ec e5
    have o5 := o3.up a5.go pm4
    have rr5 := rr3.up a5.go pq4
    refine he _ _ _ ⟨_, F5, W5, _, rfl, s5, q4, fun w r X ρ7 F7 W7 a7 s7 r7 hX ⟨es, er, e7, hz, q7⟩ => ?_⟩
    subst er e7
    cases r7 with
    | @own q xs _ oq rq =>
    have fq : W5.H q = none := hX q List.mem_cons_self
    have a57 := a5.trans s4 s5 a7
    have o7 := o5.up a7.go fun m => pm4 (a5.mine m)
    have rr7 := rr5.up a7.go fun x hx m => pq4 x hx (a5.mine m)
    obtain ⟨F8, a8, s8⟩ := back a57 s7
    refine ⟨qs.map V.ref, o7.1, by rw [List.length_map, RpQ.len rr7]; exact hz, ?_⟩
    have gs := Wd.set_go (W := W7) (p := p) (xs := qs.map V.ref ++ [.ref q]) o7.2
    have pm8 : ∀ a, a = p → ¬ Mine S F8 a := fun a ea m => pm1 (by rw [← ea]; exact a8.mine m)
    have qp : ¬ q = p := fun z => by rw [z] at fq; rw [o5.1] at fq; cases fq
    have qn : q ∉ qs := fun z => Wd.ne (rr5.inM q z) fq
    refine ⟨F8, W7.set p (qs.map V.ref ++ [.ref q]), qs ++ [q], acc ++ [es], rfl, ⟨⟨a8.go.trans gs fun a ea => .inr (by rw [ea]; exact hp), a8.sub⟩, fun i a ha => ?_⟩, s8.other gs pm8 (fun a ea => by rw [ea]; exact p0) (fun Wb Fb e a ea => by rw [ea]; exact (s1.tb Wb Fb e).go.free hp), ⟨by show upd W7.H p _ p = _; rw [upd_same, List.map_append]; rfl, o7.2⟩, RpQ.snoc (rr7.up gs fun a ha z => (List.nodup_cons.mp nd2).1 (z ▸ ha)) (Own.up oq gs qp) (rq.up gs.ext), ?_, fun x hx => ?_, q7⟩
    · have na : a ≠ p := fun z => pm1 (.inr ⟨i, z ▸ ha⟩)
      show upd W7.H p _ a = _
      rw [upd_ne na]
      exact a8.same i a ha
    · refine List.nodup_cons.mpr ⟨fun z => ?_, List.nodup_append.mpr ⟨(List.nodup_cons.mp nd2).2, List.nodup_cons.mpr ⟨List.not_mem_nil, List.nodup_nil⟩, fun a ha b hb z => qn (by rw [← List.mem_singleton.mp hb, ← z]; exact ha)⟩⟩
      rcases List.mem_append.mp z with z | z
      · exact (List.nodup_cons.mp nd2).1 z
      · exact qp (List.mem_singleton.mp z).symm
    · rcases List.mem_append.mp hx with z | z
      · exact fr2 x z
      · rw [List.mem_singleton.mp z]; exact a14.go.free (a5.go.free fq)
  · have e : i = ds.length := by omega
    subst e
    rw [List.drop_length] at q2
    refine .inl ⟨(it W2 a2.go.ext _).1 (Nat.le_refl _), ?_⟩
    exact k (.ref p) (.ow2 acc) (p :: qs) (wipeR ρ1 vs) F2 W2 (a1.trans s s1 a2) (s2.unwipe hv) (.ow2 o2 r2 nd2) (fun x hx => (List.mem_cons.mp hx).elim (fun z => by rw [z]; exact a1.go.free hp) fun z => a1.go.free (fr2 x z)) q2
theorem qLc2 {elt tg iter : Expr} {scope : Scope} {own : List (Str × Nat)} {mi : Pi} {g : TG} {b : Bnd} {te : Pv} (hc : X.calm = true) (hN : X.N.Nodup) (hi : PI X tg iter (lI S mi)) (ok : BlkOk X.N X.env.scope scope own)
    (hg : ∀ (s : Shared) (H : Hp) (C : Addr) (cl : List (Str × Addr)) (fp : List Addr), PG (X.blk s H scope (compEnvC scope cl C X.env) fp) tg g)
    (he : ∀ (s : Shared) (H : Hp) (C : Addr) (cl : List (Str × Addr)) (fp : List Addr), PE (X.blk s H scope (compEnvC scope cl C X.env) fp) elt (lV S te)) (ho : GOkW S g b (own.map (·.2))) (hv : ((own.map (·.2)).all fun v => !(S.sl == v)) = true) (hs : ∀ x, foldedSetIterable iter X.env x = pure x := by intro _; rfl) :
    PE X (.ListComp elt [⟨tg, iter, [], 0⟩] scope pos) (lV S (mLc2 mi b te (own.map (·.2)))) := (pe_lc hc hN hi ok hg (fun _ _ _ _ _ => qYes) he hs).weak (lLc2 (fun _ _ _ h => h) ho (fun _ _ _ h => h) (fun _ _ _ h => h) (all_ne hv))
theorem qSetLc2 {i : Nat} {y : Str} {py : Pos} {elt tg iter : Expr} {scope : Scope} {own : List (Str × Nat)} {spos : Pos} {mi : Pi} {g : TG} {b : Bnd} {te : Pv} (hc : X.calm = true) (hN : X.N.Nodup) (hy : X.N[i]? = some y) (hyl : X.env.scope.names.lookup y = some .local)
    (hsw : swapsWith (.ListComp elt [⟨tg, iter, [], 0⟩] scope pos) (some (.Name y py)) spos.line X.env = pure true) (hi : PI X tg iter (lI S mi)) (ok : BlkOk X.N X.env.scope scope own)
    (hg : ∀ (s : Shared) (H : Hp) (C : Addr) (cl : List (Str × Addr)) (fp : List Addr), PG (X.blk s H scope (compEnvC scope cl C X.env) fp) tg g)
    (he : ∀ (s : Shared) (H : Hp) (C : Addr) (cl : List (Str × Addr)) (fp : List Addr), PE (X.blk s H scope (compEnvC scope cl C X.env) fp) elt (lV S te)) (ho : GOkW S g b (own.map (·.2))) (hv : ((own.map (·.2)).all fun v => !(S.sl == v)) = true) (hS : (S.sl == i) = false := by rfl) (hs : ∀ x, foldedSetIterable iter X.env x = pure x := by intro _; rfl) :
    PS X (.Assign [.Name y py] (.ListComp elt [⟨tg, iter, [], 0⟩] scope pos) spos) (lS S (mSet i (mLc2 mi b te (own.map (·.2))))) := (ps_setLc hc hN hy hyl hsw hi ok hg (fun _ _ _ _ _ => qYes) he hs).weak
  (lSet hS fun σ H Q ⟨ρ, F, W, Q', e, s, q, k⟩ => lLc2 (fun _ _ _ h => h) ho (fun _ _ _ h => h) (fun _ _ _ h => h) (all_ne hv) σ H Q ⟨ρ, F, W, Q', e, s, q, fun v r X ρ' F' W' a => k v r X ρ' F' W' a.toStpM⟩)
end
end U

/-! PuP: what is one's own is let go ahead of a comprehension -/
namespace U
open PySem PySem.Spec PyProof.Rows L2 Q
def frzAt (i : Nat) (ρ : Rho) : Rho := match ρ[i]? with
  | some (some r) => frz ρ i r
  | _ => ρ
def mFzV (i : Nat) (m : Pv) : Pv := fun ρ Q => m (frzAt i ρ) Q
def mFzS (i : Nat) (m : Ps) : Ps := fun E ρ => m E (frzAt i ρ)
section
variable {X : Cx} {S : Sx} {e : Expr} {st : Stmt}
theorem Sn.frzAt {W : Wd} {σ : L2.St} {ρ : Rho} {F : Fp} (s : Sn S W σ ρ F) (i : Nat) : ∃ W' F', W'.H = W.H ∧ Stp S F W F' W' ∧ Sn S W' σ (frzAt i ρ) F' := by
  unfold U.frzAt
  split
  · rename_i r e
    obtain ⟨v, W', F', h1, h2, h3, h4, _⟩ := s.frz e
    exact ⟨W', F', h1, h3, h4⟩
  · exact ⟨W, F, rfl, s.stp, s⟩
theorem qFzV {i : Nat} {m : Pv} (h : PE X e (lV S m)) : PE X e (lV S (mFzV i m)) := h.weak fun σ H Q ⟨ρ, F, W, Q', eW, s, q, k⟩ => by
  obtain ⟨W', F', eH, a, s'⟩ := s.frzAt i
  exact ⟨U.frzAt i ρ, F', W', Q', eH.trans eW, s', q, fun v r X ρ'' F'' W'' a'' s'' r'' hX => k v r X ρ'' F'' W'' (a.trans s s' a'') s'' r'' fun x m => by rw [← eH]; exact hX x m⟩
theorem qFzS {i : Nat} {m : Ps} (h : PS X st (lS S m)) : PS X st (lS S (mFzS i m)) := h.weak fun E σ H ⟨ρ, F, W, E', eW, s, q, c⟩ => by
  obtain ⟨W', F', eH, a, s'⟩ := s.frzAt i
  exact ⟨U.frzAt i ρ, F', W', E', eH.trans eW, s', q, c.shift a.toStpM.s⟩
end
end U

/-! PuR: what is said over data, reckoned step by step: each step an equation of propositions -/
namespace U
open PySem PySem.Spec PyProof.Rows L2 Q
/-- what a draw promises -/
def m_law_take : Mf := fun ds Q _ => ∃ m : Int, ds = [.int m] ∧ m < 1073741824 ∧ ∀ r : Int, 0 ≤ r → (r < m ∨ r = 0) → Q (.dat (.int r))
/-! ### places where the reckoning stops -/
def pI (c : Bool) (A B : Prop) : Prop := if c = true then A else B
theorem pI_ok {c : Bool} {A B : Prop} (h : c = true → A) (h' : c = false → B) : pI c A B := by
  cases c
  · exact h' rfl
  · exact h rfl
theorem pI_t {A B : Prop} : pI true A B = A := by unfold pI; simp
theorem pI_f {A B : Prop} : pI false A B = B := by unfold pI; simp
theorem pI_congr {c c' : Bool} {A B : Prop} (h : c = c') : pI c A B = pI c' A B := by rw [h]
def pCall (n : Nat) (m : Mf) (Ex : Er → Rho → Prop) (ds : List D) (ρ : Rho) (Q : SV → Rho → Prop) : Prop := ds.length = n ∧ m ds (fun r => Q r ρ) fun er => Ex er ρ
theorem pCall_congr {n : Nat} {m : Mf} {Ex : Er → Rho → Prop} {ds ds' : List D} {ρ ρ' : Rho} {Q : SV → Rho → Prop} (h : ds = ds') (h' : ρ = ρ') : pCall n m Ex ds ρ Q = pCall n m Ex ds' ρ' Q := by rw [h, h']
def pNew (n : Nat) (C : Str) (m : Mi) (Ex : Er → Rho → Prop) (ds : List D) (ρ : Rho) (Q : SV → Rho → Prop) : Prop := ds.length = n ∧ m ds (fun fs => Q (.ownO C fs) ρ) fun er => Ex er ρ
theorem pNew_congr {n : Nat} {C : Str} {m : Mi} {Ex : Er → Rho → Prop} {ds ds' : List D} {ρ ρ' : Rho} {Q : SV → Rho → Prop} (h : ds = ds') (h' : ρ = ρ') : pNew n C m Ex ds ρ Q = pNew n C m Ex ds' ρ' Q := by rw [h, h']
def pMeth (n : Nat) (C f : Str) (m : Mf) (Ex : Er → Rho → Prop) (d : D) (ds : List D) (ρ : Rho) (Q : SV → Rho → Prop) : Prop := (∃ fs, d = .obj C fs ∧ fs.lookup f = none) ∧ ds.length + 1 = n ∧ m (d :: ds) (fun r => Q r ρ) fun er => Ex er ρ
theorem pMeth_congr {n : Nat} {C f : Str} {m : Mf} {Ex : Er → Rho → Prop} {d d' : D} {ds ds' : List D} {ρ ρ' : Rho} {Q : SV → Rho → Prop} (h0 : d = d') (h : ds = ds') (h' : ρ = ρ') : pMeth n C f m Ex d ds ρ Q = pMeth n C f m Ex d' ds' ρ' Q := by rw [h0, h, h']
def pFld (Cs : List Str) (f : Str) (d : D) (Q : D → Prop) : Prop := ∃ C fs x, d = .obj C fs ∧ C ∈ Cs ∧ fs.lookup f = some x ∧ Q x
theorem pFld_congr {Cs : List Str} {f : Str} {d d' : D} {Q : D → Prop} (h : d = d') : pFld Cs f d Q = pFld Cs f d' Q := by rw [h]
def pIn (neg : Bool) (d e : D) (Q : D → Prop) : Prop := mIn neg d e Q
theorem pIn_congr {neg : Bool} {d d' e e' : D} {Q : D → Prop} (h : d = d') (h' : e = e') : pIn neg d e Q = pIn neg d' e' Q := by rw [h, h']
def pAt (ds : List D) (i : Int) (Q : D → Prop) : Prop := ∃ x, atI ds i = some x ∧ Q x
theorem pAt_congr {ds ds' : List D} {i i' : Int} {Q : D → Prop} (h : ds = ds') (h' : i = i') : pAt ds i Q = pAt ds' i' Q := by rw [h, h']
def pIx (d e : D) (Q : D → Prop) : Prop := mIx d e Q
theorem pIx_congr {d d' e e' : D} {Q : D → Prop} (h : d = d') (h' : e = e') : pIx d e Q = pIx d' e' Q := by rw [h, h']
def pSl (d : D) (l u : Option Int) (Q : SV → Prop) : Prop := slD d l u Q
theorem pSl_congr {d d' : D} {l l' u u' : Option Int} {Q : SV → Prop} (h : d = d') (h' : l = l') (h'' : u = u') : pSl d l u Q = pSl d' l' u' Q := by rw [h, h', h'']
def pFor (b : Bnd) (body : Ps) (E : PEnds) (ds : List D) (ρ : Rho) : Prop := forD b body E ds ρ
theorem pFor_congr {b : Bnd} {body : Ps} {E : PEnds} {ds ds' : List D} {ρ ρ' : Rho} (h : ds = ds') (h' : ρ = ρ') : pFor b body E ds ρ = pFor b body E ds' ρ' := by rw [h, h']
def pWh (t : Pt) (body : Ps) (E : PEnds) (ρ : Rho) : Prop := mWhile t body E ρ
theorem pWh_congr {t : Pt} {body : Ps} {E : PEnds} {ρ ρ' : Rho} (h : ρ = ρ') : pWh t body E ρ = pWh t body E ρ' := by rw [h]
def pLc (b : Bnd) (tt : Pt) (te : Pd) (ρ0 : Rho) (Q : List D → Prop) (ds acc : List D) : Prop := lcD b tt te ρ0 Q ds acc
theorem pLc_congr {b : Bnd} {tt : Pt} {te : Pd} {ρ ρ' : Rho} {Q : List D → Prop} {ds ds' acc acc' : List D} (h : ρ = ρ') (h' : ds = ds') (h'' : acc = acc') : pLc b tt te ρ Q ds acc = pLc b tt te ρ' Q ds' acc' := by rw [h, h', h'']
def pLc2 (b : Bnd) (te : Pv) (ρ0 : Rho) (Q : List (List D) → Prop) (ds : List D) (acc : List (List D)) : Prop := lcD2 b te ρ0 Q ds acc
theorem pLc2_congr {b : Bnd} {te : Pv} {ρ ρ' : Rho} {Q : List (List D) → Prop} {ds ds' : List D} {acc acc' : List (List D)} (h : ρ = ρ') (h' : ds = ds') (h'' : acc = acc') : pLc2 b te ρ Q ds acc = pLc2 b te ρ' Q ds' acc' := by rw [h, h', h'']
def pGet (ds : List D) (n : Nat) (Q : D → Prop) : Prop := ∃ x, ds[n]? = some x ∧ Q x
theorem pGet_congr {ds ds' : List D} {n n' : Nat} {Q : D → Prop} (h : ds = ds') (h' : n = n') : pGet ds n Q = pGet ds' n' Q := by rw [h, h']
def pSrt (ds : List D) (Q : SV → Prop) : Prop := mSorted ds Q
theorem pSrt_congr {ds ds' : List D} {Q : SV → Prop} (h : ds = ds') : pSrt ds Q = pSrt ds' Q := by rw [h]
def pSrtSet (d : D) (Q : SV → Prop) : Prop := ∃ ds ns, seqD d = some ds ∧ intsD ds = some ns ∧ ns.length ≤ 4000 ∧ (∀ k ∈ ns, 0 ≤ k ∧ k < 60) ∧ ∀ ms : List Int, ms.Pairwise (· < ·) → (∀ k, k ∈ ms ↔ k ∈ ns) → Q (.own (ms.map D.int))
theorem pSrtSet_congr {d d' : D} {Q : SV → Prop} (h : d = d') : pSrtSet d Q = pSrtSet d' Q := by rw [h]
def pLenSet (d : D) (Q : D → Prop) : Prop := ∃ (ds : List D) (kss : List Ks), seqD d = some ds ∧ ds = kss.map tupD ∧ ds.length < 299 ∧ ∀ n : Nat, (ds.Nodup → n = ds.length) → (¬ ds.Nodup → n < ds.length) → Q (.int n)
theorem pLenSet_congr {d d' : D} {Q : D → Prop} (h : d = d') : pLenSet d Q = pLenSet d' Q := by rw [h]
noncomputable def eqD (d e : D) : Bool := decide (d = e)
theorem eqD_iff {d e : D} : eqD d e = true ↔ d = e := by unfold eqD; simp
theorem eqD_ne {d e : D} : eqD d e = false ↔ d ≠ e := by unfold eqD; simp
theorem eqD_self (d : D) : eqD d d = true := eqD_iff.mpr rfl
def eqOk (d e : D) : Prop := (∃ n m, n ≤ 64 ∧ m ≤ 64 ∧ Cln n d ∧ Cln m e) ∨ scalD d e = true
/-! ### kinds of data -/
def asB (d : D) (k : Bool → Prop) : Prop := ∃ b, d = .bl b ∧ k b
def asI (d : D) (k : Int → Prop) : Prop := ∃ b, d = .int b ∧ k b
theorem asB_congr {d d' : D} {k : Bool → Prop} (h : d = d') : asB d k = asB d' k := by rw [h]
theorem asI_congr {d d' : D} {k : Int → Prop} (h : d = d') : asI d k = asI d' k := by rw [h]
theorem e_asB {b : Bool} {k : Bool → Prop} : asB (.bl b) k = k b := propext ⟨fun ⟨_, e, h⟩ => by cases e; exact h, fun h => ⟨b, rfl, h⟩⟩
theorem e_asI {b : Int} {k : Int → Prop} : asI (.int b) k = k b := propext ⟨fun ⟨_, e, h⟩ => by cases e; exact h, fun h => ⟨b, rfl, h⟩⟩
def atOwn (i : Nat) (ρ : Rho) (k : List D → Prop) : Prop := ∃ ds, ρ[i]? = some (some (.own ds)) ∧ k ds
theorem e_atOwn0 {ds : List D} {ρ : Rho} {k : List D → Prop} : atOwn 0 (some (.own ds) :: ρ) k = k ds := propext ⟨fun ⟨_, e, h⟩ => by cases e; exact h, fun h => ⟨ds, rfl, h⟩⟩
theorem e_atOwnS {i : Nat} {x : Option SV} {ρ : Rho} {k : List D → Prop} : atOwn (i + 1) (x :: ρ) k = atOwn i ρ k := rfl
def atRow (i : Nat) (ρ : Rho) (k : List (List D) → Prop) : Prop := ∃ ds, ρ[i]? = some (some (.ow2 ds)) ∧ k ds
theorem e_atRow0 {ds : List (List D)} {ρ : Rho} {k : List (List D) → Prop} : atRow 0 (some (.ow2 ds) :: ρ) k = k ds := propext ⟨fun ⟨_, e, h⟩ => by cases e; exact h, fun h => ⟨ds, rfl, h⟩⟩
theorem e_atRowS {i : Nat} {x : Option SV} {ρ : Rho} {k : List (List D) → Prop} : atRow (i + 1) (x :: ρ) k = atRow i ρ k := rfl
def atDct (i : Nat) (ρ : Rho) (k : Bool → List (D × D) → Prop) : Prop := ∃ t ds, ρ[i]? = some (some (.ownD t ds)) ∧ k t ds
theorem e_atDct0 {t : Bool} {ds : List (D × D)} {ρ : Rho} {k : Bool → List (D × D) → Prop} : atDct 0 (some (.ownD t ds) :: ρ) k = k t ds := propext ⟨fun ⟨_, _, e, h⟩ => by cases e; exact h, fun h => ⟨t, ds, rfl, h⟩⟩
theorem e_atDctS {i : Nat} {x : Option SV} {ρ : Rho} {k : Bool → List (D × D) → Prop} : atDct (i + 1) (x :: ρ) k = atDct i ρ k := rfl
def atObj (i : Nat) (ρ : Rho) (k : Str → List (Str × D) → Prop) : Prop := ∃ t ds, ρ[i]? = some (some (.ownO t ds)) ∧ k t ds
theorem e_atObj0 {t : Str} {ds : List (Str × D)} {ρ : Rho} {k : Str → List (Str × D) → Prop} : atObj 0 (some (.ownO t ds) :: ρ) k = k t ds := propext ⟨fun ⟨_, _, e, h⟩ => by cases e; exact h, fun h => ⟨t, ds, rfl, h⟩⟩
theorem e_atObjS {i : Nat} {x : Option SV} {ρ : Rho} {k : Str → List (Str × D) → Prop} : atObj (i + 1) (x :: ρ) k = atObj i ρ k := rfl
theorem e_hasOwn0 {ds : List D} {ρ : Rho} : hasOwn (some (.own ds) :: ρ) 0 = True := eq_true ⟨ds, rfl⟩
theorem e_hasOwnS {i : Nat} {x : Option SV} {ρ : Rho} : hasOwn (x :: ρ) (i + 1) = hasOwn ρ i := rfl
theorem e_hasOwn20 {ds : List (List D)} {ρ : Rho} : hasOwn2 (some (.ow2 ds) :: ρ) 0 = True := eq_true ⟨ds, rfl⟩
theorem e_hasOwn2S {i : Nat} {x : Option SV} {ρ : Rho} : hasOwn2 (x :: ρ) (i + 1) = hasOwn2 ρ i := rfl
theorem e_hasD0 {t : Bool} {ds : List (D × D)} {ρ : Rho} : hasD (some (.ownD t ds) :: ρ) 0 = True := eq_true ⟨t, ds, rfl⟩
theorem e_hasDS {i : Nat} {x : Option SV} {ρ : Rho} : hasD (x :: ρ) (i + 1) = hasD ρ i := rfl
/-! ### expressions -/
section
variable {ρ : Rho} {Q : D → Rho → Prop} {R : SV → Rho → Prop} {m n : Pd} {mv nv : Pv} {ms : Pa} {t u : Pt} {E : PEnds} {s r : Ps} {d e : D} {i j : Nat} {x : Option SV} {K : D → Prop} {KV : SV → Prop}
theorem e_D : mD mv ρ Q = mv ρ fun r ρ' => Q r.d ρ' := rfl
theorem e_V : mV m ρ R = m ρ fun d ρ' => R (.dat d) ρ' := rfl
theorem e_C : mC d ρ Q = Q d ρ := rfl
theorem e_var0 {r : SV} : mVar 0 (some r :: ρ) Q = Q r.d (frz (some r :: ρ) 0 r) := propext ⟨fun ⟨_, e, h⟩ => by cases e; exact h, fun h => ⟨r, rfl, h⟩⟩
theorem frzS {r : SV} : frz (x :: ρ) (i + 1) r = x :: frz ρ i r := by cases r <;> rfl
theorem e_varS : mVar (i + 1) (x :: ρ) Q = mVar i ρ fun d ρ' => Q d (x :: ρ') := propext ⟨fun ⟨r, e, h⟩ => ⟨r, e, by rw [frzS] at h; exact h⟩, fun ⟨r, e, h⟩ => ⟨r, e, by rw [frzS]; exact h⟩⟩
theorem e_frzd : frz (x :: ρ) 0 (.dat d) = x :: ρ := rfl
theorem e_frzo {ds : List D} : frz (x :: ρ) 0 (.own ds) = some (.dat (.lst ds)) :: ρ := rfl
theorem e_frz2 {ds : List (List D)} : frz (x :: ρ) 0 (.ow2 ds) = some (.dat (.lst (ds.map D.lst))) :: ρ := rfl
theorem e_frzD {b : Bool} {ds : List (D × D)} : frz (x :: ρ) 0 (.ownD b ds) = some (.dat (.dct b ds)) :: ρ := rfl
theorem e_frzO {b : Str} {ds : List (Str × D)} : frz (x :: ρ) 0 (.ownO b ds) = some (.dat (.obj b ds)) :: ρ := rfl
theorem e_dd : (SV.dat d).d = d := rfl
theorem e_do {ds : List D} : (SV.own ds).d = .lst ds := rfl
theorem e_d2 {ds : List (List D)} : (SV.ow2 ds).d = .lst (ds.map D.lst) := rfl
theorem e_dD {b : Bool} {ds : List (D × D)} : (SV.ownD b ds).d = .dct b ds := rfl
theorem e_dO {b : Str} {ds : List (Str × D)} : (SV.ownO b ds).d = .obj b ds := rfl
theorem e_frzAt0d : frzAt 0 (some (.dat d) :: ρ) = some (.dat d) :: ρ := rfl
theorem e_frzAt0o {ds : List D} : frzAt 0 (some (.own ds) :: ρ) = some (.dat (.lst ds)) :: ρ := rfl
theorem e_frzAt0D {b : Bool} {ds : List (D × D)} : frzAt 0 (some (.ownD b ds) :: ρ) = some (.dat (.dct b ds)) :: ρ := rfl
theorem e_frzAt02 {ds : List (List D)} : frzAt 0 (some (.ow2 ds) :: ρ) = some (.dat (.lst (ds.map D.lst))) :: ρ := rfl
theorem e_frzAt0O {b : Str} {ds : List (Str × D)} : frzAt 0 (some (.ownO b ds) :: ρ) = some (.dat (.obj b ds)) :: ρ := rfl
theorem e_frzAt0n : frzAt 0 (none :: ρ) = none :: ρ := rfl
theorem e_frzAtS : frzAt (i + 1) (x :: ρ) = x :: frzAt i ρ := by
  unfold frzAt
  rw [List.getElem?_cons_succ]
  match h : ρ[i]? with
  | some (some r) => exact frzS
  | some none => rfl
  | none => rfl
theorem e_FzV : mFzV i mv ρ R = mv (frzAt i ρ) R := rfl
theorem e_FzS : mFzS i s E ρ = s E (frzAt i ρ) := rfl
theorem e_nil {Q : List D → Rho → Prop} : mNil ρ Q = Q [] ρ := rfl
theorem e_cons {Q : List D → Rho → Prop} : mCons m ms ρ Q = m ρ fun d ρ1 => ms ρ1 fun ds ρ2 => Q (d :: ds) ρ2 := rfl
theorem e_op {f : D → D → (SV → Prop) → Prop} : mOp f m n ρ R = m ρ fun d ρ1 => n ρ1 fun e ρ2 => f d e fun c => R c ρ2 := rfl
theorem e_opD {f : D → D → (D → Prop) → Prop} : mOpD f m n ρ Q = m ρ fun d ρ1 => n ρ1 fun e ρ2 => f d e fun c => Q c ρ2 := rfl
theorem e_chain {f g : D → D → (D → Prop) → Prop} {l : Pd} : mChain f g m n l ρ Q = m ρ fun d ρ1 => n ρ1 fun e ρ2 => f d e fun z => asB z fun k => pI k (l ρ2 fun y ρ3 => g e y fun w => Q w ρ3) (Q (.bl false) ρ2) := rfl
theorem e_arith {C : Int → Int → Prop} {g : Int → Int → Int} {a b : Int} : mArith C g (.int a) (.int b) K = (C a b ∧ K (.int (g a b))) := rfl
theorem e_cmp {p : Int → Int → Bool} {a b : Int} : mCmpI p (.int a) (.int b) K = K (.bl (p a b)) := rfl
theorem e_addI {a b : Int} : mAdd (.int a) (.int b) KV = KV (.dat (.int (a + b))) := rfl
theorem e_addS {a b : Str} : mAdd (.str a) (.str b) KV = (a.length + b.length ≤ sizeLine ∧ KV (.dat (.str (a ++ b)))) := rfl
theorem e_addL {a b : List D} : mAdd (.lst a) (.lst b) KV = (a.length + b.length ≤ sizeLine ∧ KV (.own (a ++ b))) := rfl
theorem e_addT {a b : List D} : mAdd (.tup a) (.tup b) KV = (a.length + b.length ≤ sizeLine ∧ KV (.dat (.tup (a ++ b)))) := rfl
theorem e_eq : mEq false d e K = (eqOk d e ∧ K (.bl (eqD d e))) := rfl
theorem e_ne : mEq true d e K = (eqOk d e ∧ K (.bl (!eqD d e))) := rfl
theorem eqOk_scal (h : scalD d e = true) : eqOk d e = True := eq_true (.inr h)
theorem ok_ii {a b : Int} : eqOk (.int a) (.int b) = True := eqOk_scal rfl
theorem ok_ss {a b : Str} : eqOk (.str a) (.str b) = True := eqOk_scal rfl
theorem ok_bb {a b : Bool} : eqOk (.bl a) (.bl b) = True := eqOk_scal rfl
theorem ok_is {a : Int} {b : Str} : eqOk (.int a) (.str b) = True := eqOk_scal rfl
theorem ok_si {a : Int} {b : Str} : eqOk (.str b) (.int a) = True := eqOk_scal rfl
theorem ok_ni {a : Int} : eqOk .non (.int a) = True := eqOk_scal rfl
theorem ok_in {a : Int} : eqOk (.int a) .non = True := eqOk_scal rfl
theorem ok_cln {n m : Nat} (h : Cln n d) (h' : Cln m e) (hn : n ≤ 64 := by omega) (hm : m ≤ 64 := by omega) : eqOk d e := .inl ⟨n, m, hn, hm, h, h'⟩
theorem dec_ii {a b : Int} : eqD (D.int a) (D.int b) = decide (a = b) := by unfold eqD; rw [Bool.eq_iff_iff]; simp
theorem dec_ss {a b : Str} : eqD (D.str a) (D.str b) = decide (a = b) := by unfold eqD; rw [Bool.eq_iff_iff]; simp
theorem dec_bb {a b : Bool} : eqD (D.bl a) (D.bl b) = (a == b) := by unfold eqD; rw [Bool.eq_iff_iff]; simp
theorem dec_is {a : Int} {b : Str} : eqD (D.int a) (D.str b) = false := by unfold eqD; simp
theorem dec_si {a : Int} {b : Str} : eqD (D.str b) (D.int a) = false := by unfold eqD; simp
theorem dec_nn : eqD (D.non) (D.non) = true := by unfold eqD; simp
theorem dec_in {a : Int} : eqD (D.int a) (D.non) = false := by unfold eqD; simp
theorem dec_sn {a : Str} : eqD (D.str a) (D.non) = false := by unfold eqD; simp
theorem dec_bn {a : Bool} : eqD (D.bl a) (D.non) = false := by unfold eqD; simp
theorem dec_ln {a : List D} : eqD (D.lst a) (D.non) = false := by unfold eqD; simp
theorem dec_tn {a : List D} : eqD (D.tup a) (D.non) = false := by unfold eqD; simp
theorem dec_dn {b : Bool} {a : List (D × D)} : eqD (D.dct b a) (D.non) = false := by unfold eqD; simp
theorem dec_on {b : Str} {a : List (Str × D)} : eqD (D.obj b a) (D.non) = false := by unfold eqD; simp
theorem e_isN : mIsN false d .non K = K (.bl (eqD d .non)) := by unfold mIsN eqD; simp
theorem e_notN : mIsN true d .non K = K (.bl (!eqD d .non)) := by unfold mIsN eqD; simp
theorem e_in {b : Bool} : mIn b d e K = pIn b d e K := rfl
theorem e_keep : mKeep m ρ Q = m ρ fun d _ => Fz d ∧ Q d ρ := rfl
theorem e_keepT {Q : Bool → Rho → Prop} : mKeepT t ρ Q = t ρ fun b _ => Q b ρ := rfl
theorem fz_i {a : Int} : Fz (.int a) = True := eq_true .int
theorem fz_s {a : Str} : Fz (.str a) = True := eq_true .str
theorem fz_b {a : Bool} : Fz (.bl a) = True := eq_true .bl
theorem fz_n : Fz .non = True := eq_true .non
theorem fz_t0 : Fz (.tup []) = True := eq_true (.tup fun _ h => by cases h)
theorem fz_tc {a : D} {l : List D} : Fz (.tup (a :: l)) = (Fz a ∧ Fz (.tup l)) := propext ⟨fun h => (by
  cases h with
  | tup h => exact ⟨h a List.mem_cons_self, .tup fun b hb => h b (List.mem_cons_of_mem _ hb)⟩), fun ⟨h1, h2⟩ => .tup fun b hb => by
  rcases List.mem_cons.mp hb with rfl | hb
  · exact h1
  · cases h2 with
    | tup h => exact h b hb⟩
section
variable {Q : Bool → Rho → Prop}
theorem e_T : mT m ρ Q = m ρ fun d ρ1 => asB d fun b => Q b ρ1 := rfl
theorem e_and : mAnd t u ρ Q = t ρ fun c ρ1 => pI c (u ρ1 Q) (Q false ρ1) := rfl
theorem e_or : mOr t u ρ Q = t ρ fun c ρ1 => pI c (Q true ρ1) (u ρ1 Q) := rfl
theorem e_not : mNot t ρ Q = t ρ fun c ρ1 => Q (!c) ρ1 := rfl
theorem e_yes : mYes ρ Q = Q true ρ := rfl
end
theorem e_andV : mAndV m n ρ Q = m ρ fun d ρ1 => asB d fun c => pI c (n ρ1 Q) (Q (.bl false) ρ1) := rfl
theorem e_orV : mOrV m n ρ Q = m ρ fun d ρ1 => asB d fun c => pI c (Q (.bl true) ρ1) (n ρ1 Q) := rfl
theorem e_notV : mNotV m ρ Q = m ρ fun d ρ1 => asB d fun c => Q (.bl (!c)) ρ1 := rfl
theorem e_neg : mNeg m ρ Q = m ρ fun d ρ1 => asI d fun c => Q (.int (-c)) ρ1 := rfl
theorem e_if : mIf t m n ρ Q = t ρ fun c ρ1 => pI c (m ρ1 Q) (n ρ1 Q) := rfl
theorem e_ifV : mIfV t mv nv ρ R = t ρ fun c ρ1 => pI c (mv ρ1 R) (nv ρ1 R) := rfl
theorem e_tup : mTup ms ρ Q = ms ρ fun ds ρ1 => ds.length ≤ sizeLine ∧ Q (.tup ds) ρ1 := rfl
theorem e_lst : mLst ms ρ R = ms ρ fun ds ρ1 => ds.length ≤ sizeLine ∧ R (.own ds) ρ1 := rfl
theorem e_dnew : mDNew ρ R = R (.ownD false []) ρ := rfl
theorem e_dnewT : mDNewT ρ R = R (.ownD true []) ρ := rfl
theorem e_ix : mIx d e K = pIx d e K := rfl
theorem e_ixt {ds : List D} {a : Int} : pIx (.tup ds) (.int a) K = pAt ds a K := propext ⟨fun ⟨_, ei, h⟩ => (by
  cases ei
  rcases h with ⟨_, x, e, h1, h2⟩ | ⟨_, _, e, _⟩
  · cases e; exact ⟨x, h1, h2⟩
  · cases e), fun ⟨x, h1, h2⟩ => ⟨a, rfl, .inl ⟨ds, x, rfl, h1, h2⟩⟩⟩
theorem e_ixl {ds : List D} {a : Int} : pIx (.lst ds) (.int a) K = pAt ds a K := propext ⟨fun ⟨_, ei, h⟩ => (by
  cases ei
  rcases h with ⟨_, x, e, h1, h2⟩ | ⟨_, _, e, _⟩
  · cases e; exact ⟨x, h1, h2⟩
  · cases e), fun ⟨x, h1, h2⟩ => ⟨a, rfl, .inl ⟨ds, x, rfl, h1, h2⟩⟩⟩
theorem pAt_ok {ds : List D} {a : Int} {x : D} (h : ds[a.toNat]? = some x) (h0 : 0 ≤ a) (k : K x) : pAt ds a K := by
  refine ⟨x, ?_, k⟩
  have := (List.getElem?_eq_some_iff.mp h).1
  unfold atI ixN
  rw [if_pos h0, if_pos (by omega)]
  exact h
theorem pAt_last {ds : List D} {x : D} (k : K x) : pAt (ds ++ [x]) (-1) K := by
  refine ⟨x, ?_, k⟩
  unfold atI ixN
  rw [if_neg (by decide), if_pos (by rw [List.length_append, List.length_singleton]; omega)]
  show (ds ++ [x])[_]? = _
  rw [List.length_append, List.length_singleton, show (-1 + ((ds.length + 1 : Nat) : Int)).toNat = ds.length by omega, List.getElem?_append_right (Nat.le_refl _), Nat.sub_self]
  rfl
theorem pAt_lit {ds : List D} {a : Int} {x : D} (n : Nat) (h : ds[n]? = some x) (ha : a = n := by rfl) : pAt ds a K = K x := propext ⟨fun ⟨y, h1, h2⟩ => (by
  subst ha
  have hl := (List.getElem?_eq_some_iff.mp h).1
  unfold atI ixN at h1
  rw [if_pos (by omega), if_pos (by omega)] at h1
  have h1 : ds[((n : Nat) : Int).toNat]? = some y := h1
  rw [Int.toNat_natCast, h] at h1
  cases h1
  exact h2), fun k => pAt_ok (by subst ha; rw [Int.toNat_natCast]; exact h) (by omega) k⟩
theorem e_at0 {a : D} {l : List D} : pAt (a :: l) 0 K = K a := pAt_lit 0 rfl
theorem e_at1 {a b : D} {l : List D} : pAt (a :: b :: l) 1 K = K b := pAt_lit 1 rfl
theorem e_at2 {a b c : D} {l : List D} : pAt (a :: b :: c :: l) 2 K = K c := pAt_lit 2 rfl
theorem e_at3 {a b c d : D} {l : List D} : pAt (a :: b :: c :: d :: l) 3 K = K d := pAt_lit 3 rfl
theorem e_at4 {a b c d e : D} {l : List D} : pAt (a :: b :: c :: d :: e :: l) 4 K = K e := pAt_lit 4 rfl
theorem e_at5 {a b c d e f : D} {l : List D} : pAt (a :: b :: c :: d :: e :: f :: l) 5 K = K f := pAt_lit 5 rfl
theorem e_noP {Q : Option Int → Rho → Prop} : mNoP ρ Q = Q none ρ := rfl
theorem e_soP {Q : Option Int → Rho → Prop} : mSoP m ρ Q = m ρ fun d ρ1 => asI d fun i => Q (some i) ρ1 := rfl
theorem e_sl {lo hi : Po} : mSl m lo hi ρ R = m ρ fun d ρ1 => lo ρ1 fun l ρ2 => hi ρ2 fun u ρ3 => pSl d l u fun r => R r ρ3 := rfl
theorem e_sll {ds : List D} {l u : Option Int} : pSl (.lst ds) l u KV = KV (.own (cutD ds l u)) := propext ⟨fun h => (by
  rcases h with ⟨_, e, h⟩ | ⟨_, e, _⟩ | ⟨_, e, _⟩
  · cases e; exact h
  · cases e
  · cases e), fun h => .inl ⟨ds, rfl, h⟩⟩
theorem e_slt {ds : List D} {l u : Option Int} : pSl (.tup ds) l u KV = (¬ (HT.sIx ds.length 0 l = 0 ∧ HT.sIx ds.length ds.length u = ds.length) ∧ KV (.dat (.tup (cutD ds l u)))) := propext ⟨fun h => (by
  rcases h with ⟨_, e, h⟩ | ⟨_, e, h⟩ | ⟨_, e, _⟩
  · cases e
  · cases e; exact h
  · cases e), fun h => .inr (.inl ⟨ds, rfl, h⟩)⟩
theorem e_CB {f : List D → (D → Prop) → Prop} : mCB f ms ρ Q = ms ρ fun ds ρ1 => f ds fun c => Q c ρ1 := rfl
theorem e_CS {f : List D → (SV → Prop) → Prop} : mCS f ms ρ R = ms ρ fun ds ρ1 => f ds fun c => R c ρ1 := rfl
theorem e_lenl {ds : List D} : mLen [.lst ds] K = K (.int ds.length) := rfl
theorem e_lent {ds : List D} : mLen [.tup ds] K = K (.int ds.length) := rfl
theorem e_lend {ds : List (D × D)} : mLen [.dct false ds] K = K (.int ds.length) := rfl
theorem e_lens {z : Str} : mLen [.str z] K = (z.length ≤ sizeLine ∧ K (.int z.length)) := rfl
theorem e_abs {a : Int} : mAbs [.int a] K = K (.int (if a < 0 then -a else a)) := rfl
theorem e_int {a : Int} : mIntC [.int a] K = K (.int a) := rfl
theorem e_intb {a : Bool} : mIntC [.bl a] K = K (.int (if a then 1 else 0)) := rfl
theorem e_str {a : Int} : mStrC [.int a] K = (a.natAbs.log2 < 1920 ∧ K (.str (toString a))) := rfl
theorem e_min {a b : Int} : mMin [.int a, .int b] K = K (.int (if b < a then b else a)) := rfl
theorem e_max {a b : Int} : mMax [.int a, .int b] K = K (.int (if b > a then b else a)) := rfl
theorem e_all {bs : List Bool} : mAll [.lst (bs.map D.bl)] K = K (.bl (bs.all id)) := propext ⟨fun ⟨cs, h1, h2⟩ => by rw [blsD_map] at h1; cases h1; exact h2, fun h => ⟨bs, blsD_map bs, h⟩⟩
theorem e_any {bs : List Bool} : mAny [.lst (bs.map D.bl)] K = K (.bl (bs.any id)) := propext ⟨fun ⟨cs, h1, h2⟩ => by rw [blsD_map] at h1; cases h1; exact h2, fun h => ⟨bs, blsD_map bs, h⟩⟩
theorem e_sum {bs : List Int} : mSum [.lst (bs.map D.int)] K = K (.int bs.sum) := propext ⟨fun ⟨cs, h1, h2⟩ => by rw [intsD_map] at h1; cases h1; exact h2, fun h => ⟨bs, intsD_map bs, h⟩⟩
theorem e_listl {ds : List D} : mList [.lst ds] KV = KV (.own ds) := rfl
theorem e_listt {ds : List D} : mList [.tup ds] KV = KV (.own ds) := rfl
theorem e_tupl {ds : List D} : mTuple [.lst ds] K = K (.tup ds) := rfl
theorem e_tupt {ds : List D} : mTuple [.tup ds] K = K (.tup ds) := rfl
theorem e_srt {ds : List D} : mSorted ds KV = pSrt ds KV := rfl
theorem e_srtSet : mSortSet m ρ R = m ρ fun d ρ1 => pSrtSet d fun c => R c ρ1 := rfl
theorem e_lenSet : mLenSet m ρ Q = m ρ fun d ρ1 => pLenSet d fun c => Q c ρ1 := rfl
theorem e_call {k : Nat} {f : Mf} {Ex : Er → Rho → Prop} : mCall k f Ex ms ρ R = ms ρ fun ds ρ1 => pCall k f Ex ds ρ1 R := rfl
theorem e_new {k : Nat} {C : Str} {f : Mi} {Ex : Er → Rho → Prop} : mNew k C f Ex ms ρ R = ms ρ fun ds ρ1 => pNew k C f Ex ds ρ1 R := rfl
theorem e_meth {k : Nat} {C g : Str} {f : Mf} {Ex : Er → Rho → Prop} {fs : List (Str × D)} (h : fs.lookup g = none) : (∃ gs, D.obj C fs = .obj C gs ∧ gs.lookup g = none ∧ ms ρ fun ds ρ2 => ds.length + 1 = k ∧ f (.obj C gs :: ds) (fun r => R r ρ2) fun er => Ex er ρ2) = ms ρ fun ds ρ2 => pMeth k C g f Ex (.obj C fs) ds ρ2 R := by
  have e : (fun (ds : List D) ρ2 => pMeth k C g f Ex (.obj C fs) ds ρ2 R) = fun ds ρ2 => ds.length + 1 = k ∧ f (.obj C fs :: ds) (fun r => R r ρ2) fun er => Ex er ρ2 := by
    funext ds ρ2
    exact propext ⟨fun h => h.2, fun h' => ⟨⟨fs, rfl, h⟩, h'⟩⟩
  rw [e]
  exact propext ⟨fun ⟨gs, h1, _, h2⟩ => by cases h1; exact h2, fun h2 => ⟨fs, rfl, h, h2⟩⟩
def pMth (k : Nat) (C g : Str) (f : Mf) (Ex : Er → Rho → Prop) (d : D) (ms : Pa) (ρ : Rho) (R : SV → Rho → Prop) : Prop := ∃ fs, d = .obj C fs ∧ fs.lookup g = none ∧ ms ρ fun ds ρ2 => ds.length + 1 = k ∧ f (.obj C fs :: ds) (fun r => R r ρ2) fun er => Ex er ρ2
theorem pMth_congr {k : Nat} {C g : Str} {f : Mf} {Ex : Er → Rho → Prop} {d d' : D} {ms : Pa} {ρ ρ' : Rho} {R : SV → Rho → Prop} (h : d = d') (h' : ρ = ρ') : pMth k C g f Ex d ms ρ R = pMth k C g f Ex d' ms ρ' R := by rw [h, h']
theorem e_mth {k : Nat} {C g : Str} {f : Mf} {Ex : Er → Rho → Prop} : mMeth k C g f Ex m ms ρ R = m ρ fun d ρ1 => pMth k C g f Ex d ms ρ1 R := rfl
theorem pMth_obj {k : Nat} {C g : Str} {f : Mf} {Ex : Er → Rho → Prop} {fs : List (Str × D)} (h : fs.lookup g = none) : pMth k C g f Ex (.obj C fs) ms ρ R = ms ρ fun ds ρ2 => pCall k f Ex (.obj C fs :: ds) ρ2 R :=
  propext ⟨fun ⟨gs, h1, _, h2⟩ => by cases h1; exact h2, fun h2 => ⟨fs, rfl, h, h2⟩⟩
theorem e_ernm {nm : Str} : (Er.plain nm).nm = nm := rfl
theorem e_isi {Cs : List Str} {T : String} : mIsi Cs T m ρ Q = m ρ fun d ρ1 => okI Cs d ∧ Q (.bl (isT T d)) ρ1 := rfl
theorem e_fld {Cs : List Str} {f : Str} : mFld Cs f m ρ Q = m ρ fun d ρ1 => pFld Cs f d fun x => Q x ρ1 := rfl
theorem e_fldO {Cs : List Str} {f : Str} : mFldO Cs i f ρ Q = atObj i ρ fun C fs => C ∈ Cs ∧ ∃ x, fs.lookup f = some x ∧ Q x ρ := propext ⟨fun ⟨C, fs, x, h1, h2, h3, h4⟩ => ⟨C, fs, h1, h2, x, h3, h4⟩, fun ⟨C, fs, h1, h2, x, h3, h4⟩ => ⟨C, fs, x, h1, h2, h3, h4⟩⟩
theorem e_rng1 {Q : List D → Rho → Prop} : mRng1 ms ρ Q = ms ρ fun ds ρ1 => ∃ j : Int, ds = [.int j] ∧ -(2 ^ 62) ≤ j ∧ j < 2 ^ 62 ∧ Q (rngD 0 j.toNat) ρ1 := rfl
theorem e_rngA {P : Int → Prop} {a : Int} : (∃ j : Int, [D.int a] = [.int j] ∧ P j) = P a := propext ⟨fun ⟨_, e, h⟩ => by cases e; exact h, fun h => ⟨a, rfl, h⟩⟩
theorem e_rng2 {Q : List D → Rho → Prop} : mRng2 ms ρ Q = ms ρ fun ds ρ1 => ∃ i j : Int, ds = [.int i, .int j] ∧ (-(2 ^ 62) ≤ i ∧ i < 2 ^ 62 ∧ -(2 ^ 62) ≤ j ∧ j < 2 ^ 62) ∧ Q (rngD i (j - i).toNat) ρ1 := rfl
theorem e_rngB {P : Int → Int → Prop} {a b : Int} : (∃ i j : Int, [D.int a, .int b] = [.int i, .int j] ∧ P i j) = P a b := propext ⟨fun ⟨_, _, e, h⟩ => by cases e; exact h, fun h => ⟨a, b, rfl, h⟩⟩
theorem e_lr1 : mListRg1 m ρ R = m ρ fun d ρ1 => asI d fun j => -(2 ^ 62) ≤ j ∧ j ≤ 16777216 ∧ R (.own (rngD 0 j.toNat)) ρ1 := rfl
def pItD (d : D) (k : List D → Prop) : Prop := ∃ ds, itD d = some ds ∧ k ds
theorem pItD_congr {d d' : D} {k : List D → Prop} (h : d = d') : pItD d k = pItD d' k := by rw [h]
theorem e_it {Q : List D → Rho → Prop} : mIt m ρ Q = m ρ fun d ρ1 => pItD d fun ds => Q ds ρ1 := rfl
theorem e_itl {ds : List D} {k : List D → Prop} : pItD (.lst ds) k = k ds := propext ⟨fun ⟨_, e, h⟩ => by cases e; exact h, fun h => ⟨ds, rfl, h⟩⟩
theorem e_itt {ds : List D} {k : List D → Prop} : pItD (.tup ds) k = k ds := propext ⟨fun ⟨_, e, h⟩ => by cases e; exact h, fun h => ⟨ds, rfl, h⟩⟩
theorem e_its {z : Str} {k : List D → Prop} : pItD (.str z) k = k (z.cps.toList.map fun c => .str ⟨#[c]⟩) := propext ⟨fun ⟨_, e, h⟩ => by cases e; exact h, fun h => ⟨_, rfl, h⟩⟩
theorem e_Lc {mi : Pi} {b : Bnd} {tt : Pt} {te : Pd} {vs : List Nat} : mLc mi b tt te vs ρ R = mi ρ fun ds ρ1 => pLc b tt te (wipeR ρ1 vs) (fun acc => R (.own acc) (wipeR ρ1 vs)) ds [] := rfl
theorem e_Lc2 {mi : Pi} {b : Bnd} {te : Pv} {vs : List Nat} : mLc2 mi b te vs ρ R = mi ρ fun ds ρ1 => pLc2 b te (wipeR ρ1 vs) (fun acc => R (.ow2 acc) (wipeR ρ1 vs)) ds [] := rfl
theorem e_wipe0 : wipeR ρ [] = ρ := rfl
theorem e_wipe1 {vs : List Nat} : wipeR ρ (i :: vs) = (wipeR ρ vs).set i none := rfl
theorem e_app : mApp i m ρ R = (hasOwn ρ i ∧ m ρ fun d ρ1 => atOwn i ρ1 fun ds => ds.length < sizeLine ∧ R (.dat .non) (ρ1.set i (some (.own (ds ++ [d]))))) := rfl
theorem e_popAt : mPopAt i m ρ Q = (hasOwn ρ i ∧ m ρ fun d ρ1 => atOwn i ρ1 fun ds => asI d fun j => 0 ≤ j ∧ j < 2 ^ 62 ∧ pGet ds j.toNat fun x => Q x (ρ1.set i (some (.own (ds.eraseIdx j.toNat))))) := by
  have h : ∀ d ρ1, (∃ ds j x, ρ1[i]? = some (some (.own ds)) ∧ d = D.int j ∧ 0 ≤ j ∧ j < 2 ^ 62 ∧ ds[j.toNat]? = some x ∧ Q x (ρ1.set i (some (.own (ds.eraseIdx j.toNat))))) = atOwn i ρ1 fun ds => asI d fun j => 0 ≤ j ∧ j < 2 ^ 62 ∧ pGet ds j.toNat fun x => Q x (ρ1.set i (some (.own (ds.eraseIdx j.toNat)))) := fun d ρ1 =>
    propext ⟨fun ⟨ds, j, x, h1, h2, h3, h4, h5, h6⟩ => ⟨ds, h1, j, h2, h3, h4, x, h5, h6⟩, fun ⟨ds, h1, j, h2, h3, h4, x, h5, h6⟩ => ⟨ds, j, x, h1, h2, h3, h4, h5, h6⟩⟩
  unfold mPopAt
  simp only [h]
theorem e_pop : mPop i ρ Q = atOwn i ρ fun ds => pGet ds (ds.length - 1) fun x => Q x (ρ.set i (some (.own ds.dropLast))) := propext ⟨fun ⟨ds, x, h1, h2, h3⟩ => ⟨ds, h1, x, h2, h3⟩, fun ⟨ds, h1, x, h2, h3⟩ => ⟨ds, x, h1, h2, h3⟩⟩
theorem pGet_ok {ds : List D} {k : Nat} {x : D} (h : ds[k]? = some x) (q : K x) : pGet ds k K := ⟨x, h, q⟩
theorem e_clear : mClear i ρ Q = (hasOwn ρ i ∧ Q .non (ρ.set i (some (.own [])))) := rfl
theorem e_insert : mInsert i m n ρ Q = (hasOwn ρ i ∧ m ρ fun a ρ1 => n ρ1 fun d ρ2 => atOwn i ρ2 fun ds => asI a fun j => 0 ≤ j ∧ j < 2 ^ 62 ∧ ds.length < sizeLine ∧ Q .non (ρ2.set i (some (.own (ds.take j.toNat ++ [d] ++ ds.drop j.toNat))))) := by
  have h : ∀ a d ρ2, (∃ ds j, ρ2[i]? = some (some (.own ds)) ∧ a = D.int j ∧ 0 ≤ j ∧ j < 2 ^ 62 ∧ ds.length < sizeLine ∧ Q .non (ρ2.set i (some (.own (ds.take j.toNat ++ [d] ++ ds.drop j.toNat))))) = atOwn i ρ2 fun ds => asI a fun j => 0 ≤ j ∧ j < 2 ^ 62 ∧ ds.length < sizeLine ∧ Q .non (ρ2.set i (some (.own (ds.take j.toNat ++ [d] ++ ds.drop j.toNat)))) := fun a d ρ2 =>
    propext ⟨fun ⟨ds, j, h1, h2, h3⟩ => ⟨ds, h1, j, h2, h3⟩, fun ⟨ds, h1, j, h2, h3⟩ => ⟨ds, j, h1, h2, h3⟩⟩
  unfold mInsert
  simp only [h]
def asL (d : D) (k : List D → Prop) : Prop := ∃ b, d = .lst b ∧ k b
theorem asL_congr {d d' : D} {k : List D → Prop} (h : d = d') : asL d k = asL d' k := by rw [h]
theorem e_asL {b : List D} {k : List D → Prop} : asL (.lst b) k = k b := propext ⟨fun ⟨_, e, h⟩ => by cases e; exact h, fun h => ⟨b, rfl, h⟩⟩
theorem e_extend : mExtend i m ρ Q = (hasOwn ρ i ∧ m ρ fun d ρ1 => atOwn i ρ1 fun ds => asL d fun es => ds.length + es.length ≤ sizeLine ∧ Q .non (ρ1.set i (some (.own (ds ++ es))))) := by
  have h : ∀ d ρ1, (∃ ds es, ρ1[i]? = some (some (.own ds)) ∧ d = D.lst es ∧ ds.length + es.length ≤ sizeLine ∧ Q .non (ρ1.set i (some (.own (ds ++ es))))) = atOwn i ρ1 fun ds => asL d fun es => ds.length + es.length ≤ sizeLine ∧ Q .non (ρ1.set i (some (.own (ds ++ es)))) := fun d ρ1 =>
    propext ⟨fun ⟨ds, j, h1, h2, h3⟩ => ⟨ds, h1, j, h2, h3⟩, fun ⟨ds, h1, j, h2, h3⟩ => ⟨ds, j, h1, h2, h3⟩⟩
  unfold mExtend
  simp only [h]
def pNth (n : Nat) (a : Int) (k : Nat → Prop) : Prop := ∃ j, ixN n a = some j ∧ k j
theorem pNth_congr {n n' : Nat} {a a' : Int} {k : Nat → Prop} (h : n = n') (h' : a = a') : pNth n a k = pNth n' a' k := by rw [h, h']
theorem pNth_ok {n : Nat} {a : Int} {k : Nat → Prop} (h0 : 0 ≤ a) (h1 : a < n) (q : k a.toNat) : pNth n a k := ⟨a.toNat, by unfold ixN; rw [if_pos h0, if_pos h1], q⟩
theorem e_put : mPut j m n E ρ = m ρ fun d ρ1 => hasOwn ρ1 j ∧ n ρ1 fun c ρ2 => atOwn j ρ2 fun ds => asI c fun i => pNth ds.length i fun k => E.nx (ρ2.set j (some (.own (ds.set k d)))) := by
  have h : ∀ c d ρ2, (∃ ds i n, ρ2[j]? = some (some (.own ds)) ∧ c = D.int i ∧ ixN ds.length i = some n ∧ E.nx (ρ2.set j (some (.own (ds.set n d))))) = atOwn j ρ2 fun ds => asI c fun i => pNth ds.length i fun k => E.nx (ρ2.set j (some (.own (ds.set k d)))) := fun c d ρ2 =>
    propext ⟨fun ⟨ds, j, n, h1, h2, h3, h4⟩ => ⟨ds, h1, j, h2, n, h3, h4⟩, fun ⟨ds, h1, j, h2, n, h3, h4⟩ => ⟨ds, j, n, h1, h2, h3, h4⟩⟩
  unfold mPut
  simp only [h]
def asD (d : D) (k : Bool → List (D × D) → Prop) : Prop := ∃ t b, d = .dct t b ∧ k t b
theorem asD_congr {d d' : D} {k : Bool → List (D × D) → Prop} (h : d = d') : asD d k = asD d' k := by rw [h]
theorem e_asD {t : Bool} {b : List (D × D)} {k : Bool → List (D × D) → Prop} : asD (.dct t b) k = k t b := propext ⟨fun ⟨_, _, e, h⟩ => by cases e; exact h, fun h => ⟨t, b, rfl, h⟩⟩
def pFind (kvs : List (D × D)) (k : D) (Q : D → Prop) : Prop := ∃ x, dfind kvs k = some x ∧ Q x
theorem pFind_congr {kvs kvs' : List (D × D)} {k k' : D} {Q : D → Prop} (h : kvs = kvs') (h' : k = k') : pFind kvs k Q = pFind kvs' k' Q := by rw [h, h']
theorem e_dget : mDGet m n ρ Q = m ρ fun d ρ1 => n ρ1 fun k ρ2 => asD d fun t kvs => keyIs t k ∧ pFind kvs k fun x => Q x ρ2 := by
  have h : ∀ d k ρ2, (∃ t kvs x, d = D.dct t kvs ∧ keyIs t k ∧ dfind kvs k = some x ∧ Q x ρ2) = asD d fun t kvs => keyIs t k ∧ pFind kvs k fun x => Q x ρ2 := fun d k ρ2 =>
    propext ⟨fun ⟨t, kvs, x, h1, h2, h3, h4⟩ => ⟨t, kvs, h1, h2, x, h3, h4⟩, fun ⟨t, kvs, h1, h2, x, h3, h4⟩ => ⟨t, kvs, x, h1, h2, h3, h4⟩⟩
  unfold mDGet
  simp only [h]
theorem e_din : mDIn false m n ρ Q = m ρ fun k ρ1 => n ρ1 fun d ρ2 => asD d fun t kvs => keyIs t k ∧ Q (.bl (dfind kvs k).isSome) ρ2 := rfl
theorem e_dnotin : mDIn true m n ρ Q = m ρ fun k ρ1 => n ρ1 fun d ρ2 => asD d fun t kvs => keyIs t k ∧ Q (.bl (!(dfind kvs k).isSome)) ρ2 := rfl
theorem e_dput : mDPut j m n E ρ = m ρ fun d ρ1 => hasD ρ1 j ∧ n ρ1 fun k ρ2 => atDct j ρ2 fun t kvs => keyIs t k ∧ kvs.length < sizeLine ∧ E.nx (ρ2.set j (some (.ownD t (dput kvs k d)))) := rfl
theorem e_disp1 : mDisp1 m n ρ R = m ρ fun k ρ1 => n ρ1 fun d ρ2 => (∃ kk : Key, k = kD kk) ∧ R (.ownD false [(k, d)]) ρ2 := rfl
theorem key_i {a : Int} : keyIs false (.int a) = True := eq_true ⟨.inl a, rfl⟩
theorem key_s {a : Str} : keyIs false (.str a) = True := eq_true ⟨.inr a, rfl⟩
theorem isk_i {a : Int} : (∃ kk : Key, D.int a = kD kk) = True := eq_true ⟨.inl a, rfl⟩
theorem isk_s {a : Str} : (∃ kk : Key, D.str a = kD kk) = True := eq_true ⟨.inr a, rfl⟩
theorem e_ctrue {a b : Int} : CTrue a b = True := rfl
theorem e_okI0 {Cs : List Str} : okI Cs .non = True := rfl
theorem e_okI1 {Cs : List Str} {a : Bool} : okI Cs (.bl a) = True := rfl
theorem e_okI2 {Cs : List Str} {a : Int} : okI Cs (.int a) = True := rfl
theorem e_okI3 {Cs : List Str} {a : Str} : okI Cs (.str a) = True := rfl
theorem e_okI4 {Cs : List Str} {a : List D} : okI Cs (.lst a) = True := rfl
theorem e_okI5 {Cs : List Str} {a : List D} : okI Cs (.tup a) = True := rfl
theorem e_okI6 {Cs : List Str} {b : Bool} {a : List (D × D)} : okI Cs (.dct b a) = True := rfl
theorem t_int0 : isT "int" .non = false := rfl
theorem t_int1 {a : Bool} : isT "int" (.bl a) = true := rfl
theorem t_int2 {a : Int} : isT "int" (.int a) = true := rfl
theorem t_int3 {a : Str} : isT "int" (.str a) = false := rfl
theorem t_int4 {a : List D} : isT "int" (.lst a) = false := rfl
theorem t_int5 {a : List D} : isT "int" (.tup a) = false := rfl
theorem t_int6 {b : Bool} {a : List (D × D)} : isT "int" (.dct b a) = false := rfl
theorem t_int7 {b : Str} {a : List (Str × D)} : isT "int" (.obj b a) = false := rfl
theorem t_str0 : isT "str" .non = false := rfl
theorem t_str1 {a : Bool} : isT "str" (.bl a) = false := rfl
theorem t_str2 {a : Int} : isT "str" (.int a) = false := rfl
theorem t_str3 {a : Str} : isT "str" (.str a) = true := rfl
theorem t_str4 {a : List D} : isT "str" (.lst a) = false := rfl
theorem t_str5 {a : List D} : isT "str" (.tup a) = false := rfl
theorem t_str6 {b : Bool} {a : List (D × D)} : isT "str" (.dct b a) = false := rfl
theorem t_str7 {b : Str} {a : List (Str × D)} : isT "str" (.obj b a) = false := rfl
theorem t_bool0 : isT "bool" .non = false := rfl
theorem t_bool1 {a : Bool} : isT "bool" (.bl a) = true := rfl
theorem t_bool2 {a : Int} : isT "bool" (.int a) = false := rfl
theorem t_bool3 {a : Str} : isT "bool" (.str a) = false := rfl
theorem t_bool4 {a : List D} : isT "bool" (.lst a) = false := rfl
theorem t_bool5 {a : List D} : isT "bool" (.tup a) = false := rfl
theorem t_bool6 {b : Bool} {a : List (D × D)} : isT "bool" (.dct b a) = false := rfl
theorem t_bool7 {b : Str} {a : List (Str × D)} : isT "bool" (.obj b a) = false := rfl
theorem t_list0 : isT "list" .non = false := rfl
theorem t_list1 {a : Bool} : isT "list" (.bl a) = false := rfl
theorem t_list2 {a : Int} : isT "list" (.int a) = false := rfl
theorem t_list3 {a : Str} : isT "list" (.str a) = false := rfl
theorem t_list4 {a : List D} : isT "list" (.lst a) = true := rfl
theorem t_list5 {a : List D} : isT "list" (.tup a) = false := rfl
theorem t_list6 {b : Bool} {a : List (D × D)} : isT "list" (.dct b a) = false := rfl
theorem t_list7 {b : Str} {a : List (Str × D)} : isT "list" (.obj b a) = false := rfl
theorem t_tuple0 : isT "tuple" .non = false := rfl
theorem t_tuple1 {a : Bool} : isT "tuple" (.bl a) = false := rfl
theorem t_tuple2 {a : Int} : isT "tuple" (.int a) = false := rfl
theorem t_tuple3 {a : Str} : isT "tuple" (.str a) = false := rfl
theorem t_tuple4 {a : List D} : isT "tuple" (.lst a) = false := rfl
theorem t_tuple5 {a : List D} : isT "tuple" (.tup a) = true := rfl
theorem t_tuple6 {b : Bool} {a : List (D × D)} : isT "tuple" (.dct b a) = false := rfl
theorem t_tuple7 {b : Str} {a : List (Str × D)} : isT "tuple" (.obj b a) = false := rfl
theorem t_dict0 : isT "dict" .non = false := rfl
theorem t_dict1 {a : Bool} : isT "dict" (.bl a) = false := rfl
theorem t_dict2 {a : Int} : isT "dict" (.int a) = false := rfl
theorem t_dict3 {a : Str} : isT "dict" (.str a) = false := rfl
theorem t_dict4 {a : List D} : isT "dict" (.lst a) = false := rfl
theorem t_dict5 {a : List D} : isT "dict" (.tup a) = false := rfl
theorem t_dict6 {b : Bool} {a : List (D × D)} : isT "dict" (.dct b a) = true := rfl
theorem t_dict7 {b : Str} {a : List (Str × D)} : isT "dict" (.obj b a) = false := rfl
/-! statements -/
theorem e_seq : mSeq s r E ρ = s { E with nx := r E } ρ := rfl
theorem e_nilS : mNilS E ρ = E.nx ρ := rfl
theorem e_set : mSet i mv E ρ = mv ρ fun r ρ1 => E.nx (ρ1.set i (some r)) := rfl
theorem e_expr : mExpr mv E ρ = mv ρ fun _ ρ1 => E.nx ρ1 := rfl
theorem e_ret : mRet mv E ρ = mv ρ fun r _ => E.rt r := rfl
theorem e_retV0 {r : SV} : mRetV 0 E (some r :: ρ) = E.rt r := propext ⟨fun ⟨_, e, h⟩ => by cases e; exact h, fun h => ⟨r, rfl, h⟩⟩
theorem e_retVS : mRetV (i + 1) E (x :: ρ) = mRetV i E ρ := rfl
theorem e_retN : mRetN E ρ = E.rt (.dat .non) := rfl
theorem e_pass : mPass E ρ = E.nx ρ := rfl
theorem e_break : mBreak E ρ = E.bk ρ := rfl
theorem e_cont : mCont E ρ = E.ct ρ := rfl
theorem e_ifS : mIfS t s r E ρ = t ρ fun b ρ1 => pI b (s E ρ1) (r E ρ1) := rfl
theorem e_asg {b : Bnd} : mAsg m b E ρ = m ρ fun d ρ1 => b d ρ1 E.nx := rfl
theorem e_name {R : Rho → Prop} : bName j d ρ R = R (ρ.set j (some (.dat d))) := rfl
theorem e_btup {k : Nat} {bs : Bnds} {ds : List D} {R : Rho → Prop} : bTup k bs (.tup ds) ρ R = (ds.length = k ∧ bs ds ρ R) := propext ⟨fun ⟨_, e, h⟩ => by cases e; exact h, fun h => ⟨ds, rfl, h⟩⟩
theorem e_bcons {b : Bnd} {bs : Bnds} {ds : List D} {R : Rho → Prop} : bCons b bs (d :: ds) ρ R = b d ρ fun ρ1 => bs ds ρ1 R := propext ⟨fun ⟨_, _, e, h⟩ => by cases e; exact h, fun h => ⟨d, ds, rfl, h⟩⟩
theorem e_bnil {R : Rho → Prop} : bNil [] ρ R = R ρ := by unfold bNil; simp
theorem e_for {mi : Pi} {b : Bnd} : mFor mi b s E ρ = mi ρ fun ds ρ1 => pFor b s E ds ρ1 := rfl
theorem e_wh : mWhile t s E ρ = pWh t s E ρ := rfl
theorem e_raise {x : Str} {Ex : Er → Rho → Prop} : mRaise x Ex E ρ = Ex (.plain x) ρ := rfl
theorem e_try {Cs : List Str} {mb : (Er → Rho → Prop) → Ps} {hd : Er → Ps} : mTry Cs mb i hd E ρ = mb (fun er ρ1 => er.nm ∈ Cs ∧ i < ρ1.length ∧ hd er (wEnd i E) ρ1) E ρ := rfl
theorem e_setF {Cs : List Str} {f : Str} : mSetF Cs i f m E ρ = m ρ fun d ρ1 => atObj i ρ1 fun C fs => C ∈ Cs ∧ fs.length < 1000 ∧ E.nx (ρ1.set i (some (.ownO C (setF f d fs)))) := rfl
def rowIs (j : Nat) (ρ : Rho) (rs : List (List D)) : Prop := ρ[j]? = some (some (.ow2 rs))
theorem e_rowIs0 {rs : List (List D)} : rowIs 0 (some (.ow2 rs) :: ρ) rs = True := eq_true rfl
theorem e_rowIsS {rs : List (List D)} : rowIs (j + 1) (x :: ρ) rs = rowIs j ρ rs := rfl
def pRow (rs : List (List D)) (n : Nat) (k : List D → Prop) : Prop := ∃ r, rs[n]? = some r ∧ k r
theorem pRow_congr {rs rs' : List (List D)} {n n' : Nat} {k : List D → Prop} (h : rs = rs') (h' : n = n') : pRow rs n k = pRow rs' n' k := by rw [h, h']
theorem e_app2 : mApp2 j n m ρ R = (hasOwn2 ρ j ∧ n ρ fun c ρ1 => atRow j ρ1 fun rs => asI c fun i => pNth rs.length i fun n => pRow rs n fun r => m ρ1 fun d ρ2 => rowIs j ρ2 rs ∧ r.length < sizeLine ∧ R (.dat .non) (ρ2.set j (some (.ow2 (rs.set n (r ++ [d])))))) := by
  have h : ∀ c ρ1, (∃ rs i n r, ρ1[j]? = some (some (.ow2 rs)) ∧ c = D.int i ∧ ixN rs.length i = some n ∧ rs[n]? = some r ∧ m ρ1 fun d ρ2 => ρ2[j]? = some (some (.ow2 rs)) ∧ r.length < sizeLine ∧ R (.dat .non) (ρ2.set j (some (.ow2 (rs.set n (r ++ [d])))))) = atRow j ρ1 fun rs => asI c fun i => pNth rs.length i fun n => pRow rs n fun r => m ρ1 fun d ρ2 => rowIs j ρ2 rs ∧ r.length < sizeLine ∧ R (.dat .non) (ρ2.set j (some (.ow2 (rs.set n (r ++ [d]))))) := fun c ρ1 =>
    propext ⟨fun ⟨rs, i, n, r, h1, h2, h3, h4, h5⟩ => ⟨rs, h1, i, h2, n, h3, r, h4, h5⟩, fun ⟨rs, h1, i, h2, n, h3, r, h4, h5⟩ => ⟨rs, i, n, r, h1, h2, h3, h4, h5⟩⟩
  unfold mApp2
  simp only [h]
/-! texts -/
theorem e_js0 {Q : Str → Rho → Prop} {acc : Str} : mJs [] acc ρ Q = Q acc ρ := rfl
def asS (d : D) (k : Str → Prop) : Prop := ∃ b, d = .str b ∧ k b
theorem asS_congr {d d' : D} {k : Str → Prop} (h : d = d') : asS d k = asS d' k := by rw [h]
theorem e_asS {b : Str} {k : Str → Prop} : asS (.str b) k = k b := propext ⟨fun ⟨_, e, h⟩ => by cases e; exact h, fun h => ⟨b, rfl, h⟩⟩
theorem e_js1 {ps : List Pd} {Q : Str → Rho → Prop} {acc : Str} : mJs (m :: ps) acc ρ Q = m ρ fun d ρ1 => asS d fun y => (acc ++ y).length ≤ sizeLine ∧ mJs ps (acc ++ y) ρ1 Q := rfl
theorem e_joined {ps : List Pd} : mJoined ps ρ Q = mJs ps Str.empty ρ fun z ρ1 => Q (.str z) ρ1 := rfl
def pFmt (d : D) (k : Str → Prop) : Prop := (∃ y, d = .str y ∧ y.length ≤ sizeLine ∧ k y) ∨ ∃ i : Int, d = .int i ∧ i.natAbs.log2 < 1920 ∧ k (toString i)
theorem pFmt_congr {d d' : D} {k : Str → Prop} (h : d = d') : pFmt d k = pFmt d' k := by rw [h]
theorem e_fmt : mFmt m ρ Q = m ρ fun d ρ1 => pFmt d fun y => Q (.str y) ρ1 := rfl
theorem e_fmts {z : Str} {k : Str → Prop} : pFmt (.str z) k = (z.length ≤ sizeLine ∧ k z) := propext ⟨fun h => (by
  rcases h with ⟨_, e, h⟩ | ⟨_, e, _⟩
  · cases e; exact h
  · cases e), fun h => .inl ⟨z, rfl, h⟩⟩
theorem e_fmti {z : Int} {k : Str → Prop} : pFmt (.int z) k = (z.natAbs.log2 < 1920 ∧ k (toString z)) := propext ⟨fun h => (by
  rcases h with ⟨_, e, h⟩ | ⟨_, e, h⟩
  · cases e
  · cases e; exact h), fun h => .inr ⟨z, rfl, h⟩⟩
theorem e_m1 {f : D → D → (SV → Prop) → Prop} : mM1 f m n ρ R = m ρ fun d ρ1 => (∃ z, d = .str z) ∧ n ρ1 fun e ρ2 => f d e fun r => R r ρ2 := rfl
theorem e_exs {z : Str} : (∃ w, D.str z = .str w) = True := eq_true ⟨z, rfl⟩
theorem e_part {a b : Str} : fPart (.str a) (.str b) KV = ((b.length == 0) = false ∧ a.length ≤ sizeLine ∧ KV (.dat (.tup [.str (Txt.partition a b).1, .str (Txt.partition a b).2.1, .str (Txt.partition a b).2.2]))) := rfl
def pJoin (d e : D) (k : SV → Prop) : Prop := fJoin d e k
theorem pJoin_congr {d d' e e' : D} {k : SV → Prop} (h : d = d') (h' : e = e') : pJoin d e k = pJoin d' e' k := by rw [h, h']
theorem e_join : fJoin d e KV = pJoin d e KV := rfl
theorem e_hRet {f : Me} {er : Er} : hRet f er E ρ = f er fun d => E.rt (.dat d) := rfl
theorem e_hSet {f : Me} {er : Er} : hSet i j f er E ρ = f er fun d => E.nx ((ρ.set i none).set j (some (.dat d))) := rfl
end
/-! ### loops -/
theorem for_st {α : Type} {b : Bnd} {body : Ps} {E : PEnds} (st : α → Rho) (I : List D → α → Prop) (h0 : ∀ a, I [] a → E.nx (st a))
    (hs : ∀ d ds a, I (d :: ds) a → (∀ a', I ds a' → forD b body E ds (st a')) → b d (st a) fun ρ1 => body { nx := forD b body E ds, ct := forD b body E ds, bk := E.nx, rt := E.rt } ρ1) : ∀ ds a, I ds a → pFor b body E ds (st a)
  | [], a, h => h0 a h
  | d :: ds, a, h => hs d ds a h fun a' h' => for_st st I h0 hs ds a' h'
theorem wh_st {α : Type} {t : Pt} {body : Ps} {E : PEnds} (st : α → Rho) (I : Nat → α → Prop) (n : Nat) (a : α) (h : I n a)
    (hs : ∀ n a, I n a → t (st a) fun b ρ1 => pI b (body { nx := fun ρ2 => ∃ k a', k < n ∧ I k a' ∧ ρ2 = st a', ct := fun ρ2 => ∃ k a', k < n ∧ I k a' ∧ ρ2 = st a', bk := E.nx, rt := E.rt } ρ1) (E.nx ρ1)) : pWh t body E (st a) := by
  refine ⟨fun n ρ => ∃ a, ρ = st a ∧ I n a, ⟨n, a, rfl, h⟩, fun n ρ ⟨a, e, h⟩ => ?_⟩
  subst e
  have q := hs n a h
  have e : (fun ρ2 => ∃ k a', k < n ∧ I k a' ∧ ρ2 = st a') = fun ρ2 => ∃ k, k < n ∧ ∃ a, ρ2 = st a ∧ I k a := by
    funext ρ2
    exact propext ⟨fun ⟨k, a', h1, h2, h3⟩ => ⟨k, h1, a', h3, h2⟩, fun ⟨k, h1, a', h3, h2⟩ => ⟨k, a', h1, h2, h3⟩⟩
  rw [e] at q
  exact q
theorem lc_st {b : Bnd} {tt : Pt} {te : Pd} {ρ0 : Rho} {Q : List D → Prop} (J : List D → List D → Prop) (h0 : ∀ acc, J [] acc → Q acc)
    (hs : ∀ d ds acc, J (d :: ds) acc → (∀ acc', J ds acc' → lcD b tt te ρ0 Q ds acc') → b d ρ0 fun ρ1 => tt ρ1 fun c ρ2 => ρ2 = ρ1 ∧ pI c (te ρ1 fun e ρ3 => ρ3 = ρ1 ∧ acc.length < sizeLine ∧ lcD b tt te ρ0 Q ds (acc ++ [e])) (lcD b tt te ρ0 Q ds acc)) : ∀ ds acc, J ds acc → pLc b tt te ρ0 Q ds acc
  | [], acc, h => h0 acc h
  | d :: ds, acc, h => hs d ds acc h fun acc' h' => lc_st J h0 hs ds acc' h'
/-- a comprehension without draws: what passes, mapped -/
theorem lc_fm {α : Type} {b : Bnd} {tt : Pt} {te : Pd} {ρ0 : Rho} {Q : List D → Prop} (enc : α → D) (p : α → Bool) (f : α → D) (xs : List α) (hl : xs.length ≤ 16777216)
    (hs : ∀ x ∈ xs, ∀ (R : D → Prop) (R' : Prop), (p x = true → R (f x)) → (p x = false → R') → b (enc x) ρ0 fun ρ1 => tt ρ1 fun c ρ2 => ρ2 = ρ1 ∧ pI c (te ρ1 fun e ρ3 => ρ3 = ρ1 ∧ R e) R')
    (hQ : Q ((xs.filter p).map f)) : pLc b tt te ρ0 Q (xs.map enc) [] := by
  have key : ∀ (ys : List α) (acc : List D), acc.length + ys.length ≤ 16777216 → (∀ y ∈ ys, y ∈ xs) → Q (acc ++ (ys.filter p).map f) → lcD b tt te ρ0 Q (ys.map enc) acc := by
    intro ys
    induction ys with
    | nil => intro acc _ _ h; show Q acc; simpa using h
    | cons y ys ih =>
      intro acc hl hm h
      rw [List.length_cons] at hl
      refine hs y (hm y List.mem_cons_self) (fun e => acc.length < sizeLine ∧ lcD b tt te ρ0 Q (ys.map enc) (acc ++ [e])) (lcD b tt te ρ0 Q (ys.map enc) acc) (fun hp => ⟨by rw [sizeLine_eq]; omega, ?_⟩) fun hp => ?_
      · refine ih _ (by rw [List.length_append, List.length_singleton]; omega) (fun z hz => hm z (List.mem_cons_of_mem _ hz)) ?_
        rw [List.filter_cons, if_pos hp, List.map_cons] at h
        rw [List.append_assoc]
        exact h
      · refine ih _ (by omega) (fun z hz => hm z (List.mem_cons_of_mem _ hz)) ?_
        rw [List.filter_cons, if_neg (by simp [hp])] at h
        exact h
  exact key xs [] (by simpa using hl) (fun _ h => h) (by simpa using hQ)
/-- rows of new rows -/
theorem lc2_map {α : Type} {b : Bnd} {te : Pv} {ρ0 : Rho} {Q : List (List D) → Prop} (enc : α → D) (f : α → List D) (xs : List α) (hl : xs.length ≤ 16777216)
    (hs : ∀ x ∈ xs, ∀ R : SV → Prop, R (.own (f x)) → b (enc x) ρ0 fun ρ1 => te ρ1 fun r ρ3 => ρ3 = ρ1 ∧ R r) (hQ : Q (xs.map f)) : pLc2 b te ρ0 Q (xs.map enc) [] := by
  have key : ∀ (ys : List α) (acc : List (List D)), acc.length + ys.length ≤ 16777216 → (∀ y ∈ ys, y ∈ xs) → Q (acc ++ ys.map f) → lcD2 b te ρ0 Q (ys.map enc) acc := by
    intro ys
    induction ys with
    | nil => intro acc _ _ h; show Q acc; simpa using h
    | cons y ys ih =>
      intro acc hl hm h
      rw [List.length_cons] at hl
      have q := hs y (hm y List.mem_cons_self) (fun r => ∃ es, r = .own es ∧ acc.length < sizeLine ∧ lcD2 b te ρ0 Q (ys.map enc) (acc ++ [es])) ⟨f y, rfl, by rw [sizeLine_eq]; omega, ih _ (by rw [List.length_append, List.length_singleton]; omega) (fun z hz => hm z (List.mem_cons_of_mem _ hz)) (by rw [List.append_assoc]; exact h)⟩
      have e : (fun ρ1 => te ρ1 fun r ρ3 => ρ3 = ρ1 ∧ ∃ es, r = .own es ∧ acc.length < sizeLine ∧ lcD2 b te ρ0 Q (ys.map enc) (acc ++ [es])) = fun ρ1 => te ρ1 fun r ρ3 => ∃ es, r = .own es ∧ ρ3 = ρ1 ∧ acc.length < sizeLine ∧ lcD2 b te ρ0 Q (ys.map enc) (acc ++ [es]) := by
        funext ρ1
        congr 1
        funext r ρ3
        exact propext ⟨fun ⟨h1, es, h2, h3⟩ => ⟨es, h2, h1, h3⟩, fun ⟨es, h2, h1, h3⟩ => ⟨h1, es, h2, h3⟩⟩
      rw [e] at q
      exact q
  exact key xs [] (by simpa using hl) (fun _ h => h) (by simpa using hQ)
end U

/-! PuT: names, numbers, letters -/
namespace U
open PySem PySem.Spec PyProof.Rows L2 Q TL
theorem at_nat {α : Type} {l : List α} {j : Nat} {x : α} (h : l[j]? = some x) : atI l (j : Int) = some x := atI_nat h
def low (c : Nat) : Prop := 97 ≤ c ∧ c ≤ 122
def Low (z : Str) : Prop := ∀ c ∈ z.cps.toList, low c
abbrev sg (c : Nat) : Str := ⟨#[c]⟩
theorem joinL_nil : ∀ l : List (List Nat), joinL [] l = l.flatten
  | [] => rfl
  | [p] => by simp [joinL]
  | p :: q :: r => by
    show p ++ ([] ++ joinL [] (q :: r)) = _
    rw [List.nil_append, joinL_nil (q :: r)]
    simp
theorem tl_join0 (ys : List Str) : tl (Txt.join (Str.ofString "") ys) = (ys.map tl).flatten := by
  rw [join_eq, tl_join]
  have e : tl (Str.ofString "") = [] := rfl
  rw [e, joinL_nil]
theorem tl_join_sg (zs : List Nat) : tl (Txt.join (Str.ofString "") (zs.map sg)) = zs := by
  rw [tl_join0, List.map_map]
  induction zs with
  | nil => rfl
  | cons a r ih =>
    show ([a] : List Nat) ++ _ = _
    rw [show (List.map (tl ∘ sg) r).flatten = r from ih]
    rfl
theorem sum_sg (zs : List Nat) : ((zs.map sg).map (·.length)).sum = zs.length := by
  induction zs with
  | nil => rfl
  | cons a r ih =>
    rw [List.map_cons, List.map_cons, List.sum_cons, ih, List.length_cons]
    show 1 + _ = _
    omega
theorem len_app (a b : Str) : (a ++ b).length = a.length + b.length := by
  rw [len_tl, len_tl, len_tl, tl_append, List.length_append]
def lowB (z : Str) : Bool := z.cps.toList.all fun c => decide (97 ≤ c) && decide (c ≤ 122)
theorem low_of {z : Str} (h : lowB z = true) : Low z := fun c hc => by
  have h2 := List.all_eq_true.mp h c hc
  rw [Bool.and_eq_true] at h2
  exact ⟨of_decide_eq_true h2.1, of_decide_eq_true h2.2⟩
def Nm (z : Str) : Prop := Low z ∧ 1 ≤ z.length ∧ z.length ≤ 8
def nmB (z : Str) : Bool := lowB z && (decide (1 ≤ z.length) && decide (z.length ≤ 8))
theorem nm_of {z : Str} (h : nmB z = true) : Nm z := by
  have h1 : (lowB z && (decide (1 ≤ z.length) && decide (z.length ≤ 8))) = true := h
  rw [Bool.and_eq_true, Bool.and_eq_true] at h1
  exact ⟨low_of h1.1, of_decide_eq_true h1.2.1, of_decide_eq_true h1.2.2⟩
abbrev num (n : Nat) : Str := toString ((n : Nat) : Int)
theorem tl_numS (n : Nat) : tl (Str.ofString (toString ((n : Nat) : Int))) = numL n := tl_num n
theorem num_len {n k : Nat} (hk : 0 < k) (h : n < 10 ^ k) : (Str.ofString (toString ((n : Nat) : Int))).length ≤ k := by
  rw [len_tl, tl_num]
  exact numL_len hk h
theorem abc_at {r : Int} (h0 : 0 ≤ r) (h1 : r < 26) : ∃ c, atI (Str.ofString "abcdefghijklmnopqrstuvwxyz").cps.toList r = some c ∧ low c := by
  obtain ⟨n, rfl⟩ := Int.eq_ofNat_of_zero_le h0
  have hn : n < 26 := by omega
  have key : ∀ m : Nat, m < 26 → (Str.ofString "abcdefghijklmnopqrstuvwxyz").cps.toList[m]? = some (97 + m) := by decide +kernel
  exact ⟨97 + n, at_nat (key n hn), by unfold low; omega⟩
theorem log2_small {i : Int} (h : i.natAbs < 1920) : i.natAbs.log2 < 1920 := Nat.lt_of_le_of_lt (Nat.log2_le_self _) h
abbrev dot : Str := Str.ofString "."
theorem tl_dot : tl dot = [46] := rfl
def digB (c : Nat) : Bool := decide (48 ≤ c) && decide (c ≤ 57)
def shortL (l : List Nat) : Bool := (decide (1 ≤ l.length) && decide (l.length ≤ 2)) && (l.all digB && (decide (l.length = 1) || !decide (l.head? = some 48)))
def shortB (z : Str) : Bool := shortL (tl z)
def letZ (z : Str) : Bool := if 46 ∈ tl z then nmB (Txt.partition z dot).1 && shortB (Txt.partition z dot).2.2 else nmB z
theorem mem_abc (c : Nat) : c ∈ tl (Str.ofString "abcdefghijklmnopqrstuvwxyz") ↔ (97 ≤ c ∧ c ≤ 122) := by
  constructor
  · intro h
    have k : ∀ d ∈ tl (Str.ofString "abcdefghijklmnopqrstuvwxyz"), 97 ≤ d ∧ d ≤ 122 := by decide +kernel
    exact k c h
  · rintro ⟨h1, h2⟩
    have k : ∀ d : Nat, d < 26 → 97 + d ∈ tl (Str.ofString "abcdefghijklmnopqrstuvwxyz") := by decide +kernel
    have := k (c - 97) (by omega)
    rwa [show 97 + (c - 97) = c by omega] at this
theorem mem_dig (c : Nat) : c ∈ tl (Str.ofString "0123456789") ↔ (48 ≤ c ∧ c ≤ 57) := by
  constructor
  · intro h
    have k : ∀ d ∈ tl (Str.ofString "0123456789"), 48 ≤ d ∧ d ≤ 57 := by decide +kernel
    exact k c h
  · rintro ⟨h1, h2⟩
    have k : ∀ d : Nat, d < 10 → 48 + d ∈ tl (Str.ofString "0123456789") := by decide +kernel
    have := k (c - 48) (by omega)
    rwa [show 48 + (c - 48) = c by omega] at this
theorem dec_abc (c : Nat) : decide (c ∈ (Str.ofString "abcdefghijklmnopqrstuvwxyz").cps.toList) = (decide (97 ≤ c) && decide (c ≤ 122)) := by
  rw [Bool.eq_iff_iff, Bool.and_eq_true, decide_eq_true_eq, decide_eq_true_eq, decide_eq_true_eq]
  exact mem_abc c
theorem dec_dig (c : Nat) : decide (c ∈ (Str.ofString "0123456789").cps.toList) = digB c := by
  unfold digB
  rw [Bool.eq_iff_iff, Bool.and_eq_true, decide_eq_true_eq, decide_eq_true_eq, decide_eq_true_eq]
  exact mem_dig c
theorem dot_split {z : Str} (h : 46 ∈ tl z) : ∃ a b : Str, z = a ++ dot ++ b ∧ 46 ∉ tl a := by
  obtain ⟨l, r, e, hl⟩ := List.eq_append_cons_of_mem h
  refine ⟨⟨l.toArray⟩, ⟨r.toArray⟩, ext_tl ?_, hl⟩
  rw [tl_append, tl_append, tl_mk, tl_mk, tl_dot]
  show tl z = l ++ [46] ++ r
  rw [e]
  simp
theorem part_dot {a b : Str} (h : 46 ∉ tl a) : Txt.partition (a ++ dot ++ b) dot = (a, dot, b) := partition_app (y := dot) (s := 46) (S := []) rfl h
theorem part_none {a : Str} (h : 46 ∉ tl a) : Txt.partition a dot = (a, Str.empty, Str.empty) := partition_none (y := dot) (s := 46) (S := []) rfl h
theorem letZ_dot {a b : Str} (h : 46 ∉ tl a) : letZ (a ++ dot ++ b) = (nmB a && shortB b) := by
  unfold letZ
  rw [if_pos (by rw [tl_append, tl_append, tl_dot]; simp), part_dot h]
theorem letZ_none {a : Str} (h : 46 ∉ tl a) : letZ a = nmB a := by
  unfold letZ
  rw [if_neg h]
theorem nm_nodot {z : Str} (h : nmB z = true) : 46 ∉ tl z := fun hm => by
  have := (nm_of h).1 46 hm
  unfold low at this
  omega
theorem numL_form {k : Nat} (h : k < 100) : numL k = if k < 10 then [48 + k] else [48 + k / 10, 48 + k % 10] := by
  by_cases h1 : k < 10
  · rw [if_pos h1, numL_lt h1]
  · rw [if_neg h1, numL_step (by omega), numL_lt (by omega)]
    rfl
theorem short_num {k : Nat} (h : k ≤ 99) : shortL (numL k) = true := by
  have key : ∀ k : Nat, k < 100 → shortL (if k < 10 then [48 + k] else [48 + k / 10, 48 + k % 10]) = true := by decide +kernel
  rw [numL_form (by omega)]
  exact key k (by omega)
theorem short_is {l : List Nat} (h : shortL l = true) : ∃ k : Nat, k ≤ 99 ∧ l = numL k := by
  unfold shortL digB at h
  simp only [Bool.and_eq_true, Bool.or_eq_true, decide_eq_true_eq, List.all_eq_true, Bool.not_eq_true', decide_eq_false_iff_not] at h
  obtain ⟨⟨h1, h2⟩, h3, h4⟩ := h
  match l, h1, h2, h3, h4 with
  | [a], _, _, h3, _ =>
    have ha := h3 a (by simp)
    refine ⟨a - 48, by omega, ?_⟩
    rw [numL_form (by omega), if_pos (by omega)]
    congr 1
    omega
  | [a, b], _, _, h3, h4 =>
    have ha := h3 a (by simp)
    have hb := h3 b (by simp)
    have hn : a ≠ 48 := by
      rcases h4 with h4 | h4
      · simp at h4
      · simpa using h4
    refine ⟨(a - 48) * 10 + (b - 48), by omega, ?_⟩
    rw [numL_form (by omega), if_neg (by omega)]
    have e1 : ((a - 48) * 10 + (b - 48)) / 10 = a - 48 := by omega
    have e2 : ((a - 48) * 10 + (b - 48)) % 10 = b - 48 := by omega
    rw [e1, e2]
    congr 1
    · omega
    · congr 1
      omega
  | a :: b :: c :: r, _, h2, _, _ => simp at h2
abbrev nums : Nat → Str := fun k => Str.ofString (toString ((k : Nat) : Int))
theorem shortB_iff {z : Str} : shortB z = true ↔ ∃ k : Nat, k ≤ 99 ∧ z = nums k := by
  constructor
  · intro h
    obtain ⟨k, hk, e⟩ := short_is h
    exact ⟨k, hk, ext_tl (by rw [e, tl_num])⟩
  · rintro ⟨k, hk, rfl⟩
    unfold shortB
    rw [tl_num]
    exact short_num hk
theorem num_nodot (k : Nat) : 46 ∉ tl (nums k) := by
  rw [tl_num]
  exact numL_free (.inl (by decide))
theorem letZ_nm {z : Str} (h : nmB z = true) : letZ z = true := by rw [letZ_none (nm_nodot h)]; exact h
end U

/-! PuU: what the checks of the program tell of data; steps -/
namespace U
open PySem PySem.Spec PyProof.Rows L2 Q TL
abbrev zOwn : Str := Str.ofString "own"
abbrev zSend : Str := Str.ofString "send"
abbrev zTake : Str := Str.ofString "take"
abbrev zE : Str := Str.ofString ""
theorem rngD_length {a : Int} {n : Nat} : (rngD a n).length = n := by unfold rngD; rw [List.length_map, List.length_range]
theorem perm_erase {l : List D} {n : Nat} (h : n < l.length) : ([l[n]] ++ l.eraseIdx n).Perm l := by
  induction l generalizing n with
  | nil => cases h
  | cons a l ih =>
    cases n with
    | zero => exact List.Perm.refl _
    | succ n =>
      have h' : n < l.length := by simpa using h
      have := ih h'
      show (l[n] :: a :: l.eraseIdx n).Perm (a :: l)
      exact (List.Perm.swap _ _ _).trans (this.cons a)
/-- a comprehension without a test -/
theorem lc_map {α : Type} {b : Bnd} {te : Pd} {ρ0 : Rho} {Q : List D → Prop} (enc : α → D) (f : α → D) (xs : List α) (hl : xs.length ≤ 16777216)
    (hs : ∀ x ∈ xs, ∀ R : D → Prop, R (f x) → b (enc x) ρ0 fun ρ1 => te ρ1 fun e ρ3 => ρ3 = ρ1 ∧ R e) (hQ : Q (xs.map f)) : pLc b mYes te ρ0 Q (xs.map enc) [] := by
  have key : ∀ (ys : List α) (acc : List D), acc.length + ys.length ≤ 16777216 → (∀ y ∈ ys, y ∈ xs) → Q (acc ++ ys.map f) → lcD b mYes te ρ0 Q (ys.map enc) acc := by
    intro ys
    induction ys with
    | nil => intro acc _ _ h; show Q acc; simpa using h
    | cons y ys ih =>
      intro acc hl hm h
      rw [List.length_cons] at hl
      have q := hs y (hm y List.mem_cons_self) (fun e => acc.length < sizeLine ∧ lcD b mYes te ρ0 Q (ys.map enc) (acc ++ [e])) ⟨by rw [sizeLine_eq]; omega, ih _ (by rw [List.length_append, List.length_singleton]; omega) (fun z hz => hm z (List.mem_cons_of_mem _ hz)) (by rw [List.append_assoc]; exact h)⟩
      have e : (fun ρ1 => te ρ1 fun e ρ3 => ρ3 = ρ1 ∧ acc.length < sizeLine ∧ lcD b mYes te ρ0 Q (ys.map enc) (acc ++ [e])) = fun ρ1 => mYes ρ1 fun c ρ2 => ρ2 = ρ1 ∧ if c = true then te ρ1 fun e ρ3 => ρ3 = ρ1 ∧ acc.length < sizeLine ∧ lcD b mYes te ρ0 Q (ys.map enc) (acc ++ [e]) else lcD b mYes te ρ0 Q (ys.map enc) acc := by
        funext ρ1
        unfold mYes
        simp
      rw [e] at q
      exact q
  exact key xs [] (by simpa using hl) (fun _ h => h) (by simpa using hQ)
/-- a row of bools -/
theorem lc_bools {b : Bnd} {te : Pd} {ρ0 : Rho} {Q : List D → Prop} (g : D → Bool) (xs : List D) (hl : xs.length ≤ 16777216)
    (hs : ∀ x ∈ xs, ∀ R : D → Prop, R (.bl (g x)) → b x ρ0 fun ρ1 => te ρ1 fun e ρ3 => ρ3 = ρ1 ∧ R e) (hQ : Q ((xs.map g).map D.bl)) : pLc b mYes te ρ0 Q xs [] := by
  have h := lc_map (α := D) (b := b) (te := te) (ρ0 := ρ0) (Q := Q) id (fun x => .bl (g x)) xs hl (fun x hx R r => hs x hx R r) (by rw [List.map_map] at hQ; exact hQ)
  rwa [List.map_id] at h
/-- a list or a tuple -/
def IsSeq (d : D) (xs : List D) : Prop := d = .lst xs ∨ d = .tup xs
theorem IsSeq.seq {d : D} {xs : List D} (h : IsSeq d xs) : seqD d = some xs := by rcases h with rfl | rfl <;> rfl
theorem IsSeq.it {d : D} {xs : List D} (h : IsSeq d xs) {k : List D → Prop} : pItD d k = k xs := by
  rcases h with rfl | rfl
  · exact e_itl
  · exact e_itt
theorem IsSeq.len {d : D} {xs : List D} (h : IsSeq d xs) {k : D → Prop} : mLen [d] k = k (.int xs.length) := by rcases h with rfl | rfl <;> rfl
def wholeB : D → Int → Int → Bool
  | .int i, lo, hi => decide (lo ≤ i) && decide (i ≤ hi)
  | _, _, _ => false
theorem wholeB_iff {d : D} {lo hi : Int} : wholeB d lo hi = true ↔ ∃ i, d = .int i ∧ lo ≤ i ∧ i ≤ hi := by
  cases d <;> simp [wholeB]
def isNmD : D → Bool
  | .str z => nmB z
  | _ => false
def isLetD : D → Bool
  | .str z => letZ z
  | _ => false
/-- the parts of a step are right -/
def fits5 (n : Int) (p k e z q : D) : Bool :=
  (wholeB p 0 (n - 1) && wholeB q 0 (n - 1)) && match k, z with
    | .str k, .str z => if k = zOwn then wholeB e (-1) (-1) && decide (z = zE) else (decide (k = zSend) || decide (k = zTake)) && (wholeB e 0 5 && letZ z)
    | _, _ => false
/-- step_fits -/
def fitsD (n : Int) : D → Bool
  | .tup [p, k, e, z, q] => fits5 n p k e z q
  | _ => false
def isObj : D → Bool
  | .obj _ _ => true
  | _ => false
/-- no object, no long text -/
def PlainD (d : D) : Prop := isObj d = false ∧ ∀ z, d = .str z → z.length ≤ 100000
theorem plain_i {i : Int} : PlainD (.int i) := ⟨rfl, fun _ h => by cases h⟩
theorem plain_n : PlainD .non := ⟨rfl, fun _ h => by cases h⟩
theorem plain_b {i : Bool} : PlainD (.bl i) := ⟨rfl, fun _ h => by cases h⟩
theorem plain_l {i : List D} : PlainD (.lst i) := ⟨rfl, fun _ h => by cases h⟩
theorem plain_t {i : List D} : PlainD (.tup i) := ⟨rfl, fun _ h => by cases h⟩
theorem plain_d {b : Bool} {i : List (D × D)} : PlainD (.dct b i) := ⟨rfl, fun _ h => by cases h⟩
theorem plain_s {z : Str} (h : z.length ≤ 100000) : PlainD (.str z) := ⟨rfl, fun _ e => by cases e; exact h⟩
/-- the same of the parts of a tuple -/
def StSz (d : D) : Prop := PlainD d ∧ ∀ ds, d = .tup ds → ∀ e ∈ ds, PlainD e
theorem isT_tup {d : D} (h : isT "tuple" d = true) : ∃ ds, d = .tup ds := by
  cases d with
  | tup z => exact ⟨z, rfl⟩
  | _ => simp [isT] at h
theorem isT_str {d : D} (h : isT "str" d = true) : ∃ z, d = .str z := by
  cases d with
  | str z => exact ⟨z, rfl⟩
  | _ => simp [isT] at h
theorem fits_notup {d : D} {n : Int} (h : isT "tuple" d = false) : fitsD n d = false := by
  cases d with
  | tup z => simp [isT] at h
  | _ => rfl
theorem fits_len {ds : List D} {n : Int} (h : ¬ (ds.length : Int) = 5) : fitsD n (.tup ds) = false := by
  unfold fitsD
  split
  · rename_i e
    cases e
    exact absurd rfl h
  · rfl
theorem five {ds : List D} (h : (ds.length : Int) = 5) : ∃ a b c d e, ds = [a, b, c, d, e] := by
  match ds, h with
  | [a, b, c, d, e], _ => exact ⟨a, b, c, d, e, rfl⟩
  | [], h => simp at h
  | [_], h => simp at h
  | [_, _], h => simp at h
  | [_, _, _], h => simp at h
  | [_, _, _, _], h => simp at h
  | _ :: _ :: _ :: _ :: _ :: _ :: t, h => simp at h; omega
/-! ### steps -/
structure St where
  p : Int
  k : Str
  h : Int
  l : Str
  q : Int
  deriving DecidableEq
def stK (s : St) : Ks := [.inl s.p, .inr s.k, .inl s.h, .inr s.l, .inl s.q]
def stD (s : St) : D := .tup [.int s.p, .str s.k, .int s.h, .str s.l, .int s.q]
theorem stD_tup (s : St) : stD s = tupD (stK s) := rfl
theorem asKs_st (s : St) : asKs (stD s) = stK s := asKs_tup (stK s)
theorem stK_inj {a b : St} (h : stK a = stK b) : a = b := by
  cases a; cases b
  unfold stK at h
  simp at h
  simp [h]
theorem stD_inj {a b : St} (h : stD a = stD b) : a = b := stK_inj (by rw [← asKs_st, h, asKs_st])
def KindOk (s : St) : Prop := (s.k = zOwn ∧ s.h = -1 ∧ s.l = zE) ∨ ((s.k = zSend ∨ s.k = zTake) ∧ 0 ≤ s.h ∧ s.h ≤ 5 ∧ letZ s.l = true)
def StOk (n : Int) (s : St) : Prop := (0 ≤ s.p ∧ s.p < n) ∧ (0 ≤ s.q ∧ s.q < n) ∧ KindOk s
theorem own_send : zOwn ≠ zSend := by decide
theorem own_take : zOwn ≠ zTake := by decide
theorem send_take : zSend ≠ zTake := by decide
theorem fits_st {n : Int} {s : St} : fitsD n (stD s) = true ↔ StOk n s := by
  unfold fitsD stD fits5 StOk KindOk
  by_cases hk : s.k = zOwn
  · simp only [hk, if_true, Bool.and_eq_true, wholeB_iff, decide_eq_true_eq, own_send, own_take, false_or, false_and, or_false, true_and]
    constructor
    · rintro ⟨⟨⟨i, e, h1, h2⟩, ⟨j, e', h3, h4⟩⟩, ⟨m, e'', h5, h6⟩, h7⟩
      cases e; cases e'; cases e''
      exact ⟨⟨by omega, by omega⟩, ⟨by omega, by omega⟩, by omega, h7⟩
    · rintro ⟨⟨h1, h2⟩, ⟨h3, h4⟩, h5, h6⟩
      exact ⟨⟨⟨_, rfl, by omega, by omega⟩, _, rfl, by omega, by omega⟩, ⟨_, rfl, by omega, by omega⟩, h6⟩
  · simp only [hk, if_false, Bool.and_eq_true, Bool.or_eq_true, wholeB_iff, decide_eq_true_eq, false_and, false_or]
    constructor
    · rintro ⟨⟨⟨i, e, h1, h2⟩, ⟨j, e', h3, h4⟩⟩, h5, ⟨m, e'', h6, h7⟩, h8⟩
      cases e; cases e'; cases e''
      exact ⟨⟨by omega, by omega⟩, ⟨by omega, by omega⟩, h5, by omega, by omega, h8⟩
    · rintro ⟨⟨h1, h2⟩, ⟨h3, h4⟩, h5, h6, h7, h8⟩
      exact ⟨⟨⟨_, rfl, by omega, by omega⟩, _, rfl, by omega, by omega⟩, h5, ⟨_, rfl, by omega, by omega⟩, h8⟩
theorem fits_is {n : Int} {d : D} (h : fitsD n d = true) : ∃ s, d = stD s := by
  unfold fitsD at h
  split at h
  · rename_i p k e z q
    unfold fits5 at h
    rw [Bool.and_eq_true, Bool.and_eq_true] at h
    obtain ⟨⟨h1, h2⟩, h3⟩ := h
    obtain ⟨i, rfl, _⟩ := wholeB_iff.mp h1
    obtain ⟨j, rfl, _⟩ := wholeB_iff.mp h2
    split at h3
    · rename_i k z
      have : ∃ m, e = .int m := by
        split at h3
        · rw [Bool.and_eq_true] at h3
          obtain ⟨m, rfl, _⟩ := wholeB_iff.mp h3.1
          exact ⟨m, rfl⟩
        · rw [Bool.and_eq_true, Bool.and_eq_true] at h3
          obtain ⟨m, rfl, _⟩ := wholeB_iff.mp h3.2.1
          exact ⟨m, rfl⟩
      obtain ⟨m, rfl⟩ := this
      exact ⟨⟨i, k, m, z, j⟩, rfl⟩
    · cases h3
  · cases h
theorem fits_all {n : Int} : ∀ {ds : List D}, (∀ d ∈ ds, fitsD n d = true) → ∃ ss : List St, ds = ss.map stD ∧ ∀ s ∈ ss, StOk n s
  | [], _ => ⟨[], rfl, fun _ h => by cases h⟩
  | d :: ds, h => by
    obtain ⟨s, rfl⟩ := fits_is (h d List.mem_cons_self)
    obtain ⟨ss, rfl, hs⟩ := fits_all fun e he => h e (List.mem_cons_of_mem _ he)
    refine ⟨s :: ss, rfl, fun t ht => ?_⟩
    rcases List.mem_cons.mp ht with rfl | ht
    · exact fits_st.mp (h _ List.mem_cons_self)
    · exact hs t ht
/-! sorted steps -/
def leS (a b : St) : Bool := !ltKs (stK b) (stK a)
def srtS (l : List St) : List St := l.mergeSort leS
theorem ltKs_tot {a b : Ks} : (!ltKs b a || !ltKs a b) = true := by
  cases e : ltKs b a
  · rfl
  · rw [ltKs_swo.1 _ _ e]; rfl
theorem leS_trans (a b c : St) (h1 : leS a b = true) (h2 : leS b c = true) : leS a c = true := by
  unfold leS at *
  rw [Bool.not_eq_true'] at *
  exact ltKs_swo.2 _ _ _ h1 h2
theorem leS_total (a b : St) : (leS a b || leS b a) = true := ltKs_tot
theorem srtS_perm (l : List St) : (srtS l).Perm l := List.mergeSort_perm _ _
theorem srtS_srt (l : List St) : (srtS l).Pairwise (fun a b => leS a b = true) := List.pairwise_mergeSort leS_trans leS_total l
theorem srtS_id {l : List St} (h : l.Pairwise (fun a b => leS a b = true)) : srtS l = l := List.mergeSort_of_pairwise h
theorem srtD_st (l : List St) : srtD (l.map stD) = (srtS l).map stD := (List.map_mergeSort (f := stD) (r := leS) fun a _ b _ => by unfold leS; rw [asKs_st, asKs_st]).symm
theorem leS_antisymm {a b : St} (h1 : leS a b = true) (h2 : leS b a = true) : a = b := by
  unfold leS at *
  rw [Bool.not_eq_true'] at *
  exact stK_inj (ltKs_total h2 h1)
/-- a sorted list of the same steps is the sorted list -/
theorem srtS_of {l m : List St} (hp : m.Perm l) (hs : m.Pairwise (fun a b => leS a b = true)) : m = srtS l :=
  List.Perm.eq_of_pairwise (fun a b _ _ h1 h2 => leS_antisymm h1 h2) hs (srtS_srt l) (hp.trans (srtS_perm l).symm)
theorem srtS_congr {l m : List St} (hp : m.Perm l) : srtS m = srtS l := srtS_of ((srtS_perm m).trans hp) (srtS_srt m)
theorem SrtOk_st (l : List St) : SrtOk (l.map stD) := ⟨l.map stK, fun i => i == 1 || i == 3, by rw [List.map_map]; rfl, fun ks hk => by
  obtain ⟨s, _, rfl⟩ := List.mem_map.mp hk
  exact ⟨rfl, by simp [stK]⟩⟩
end U

/-! PuV: machines -/
namespace U
open PySem PySem.Spec PyProof.Rows L2 Q TL
/-- a machine: its size, its rest states, its steps -/
structure Mc where
  n : Nat
  rs : List Int
  ss : List St
def rowD (l : List St) : D := .tup (l.map stD)
def outsD (n : Nat) (ss : List St) : D := .tup ((List.range n).map fun (p : Nat) => rowD (ss.filter fun s => decide (s.p = (p : Int))))
def mcF (m : Mc) : List (Str × D) := [("size", .int m.n), ("rests", .tup (m.rs.map D.int)), ("steps", rowD m.ss), ("outs", outsD m.n m.ss)]
def mcD (m : Mc) : D := .obj "Machine" (mcF m)
theorem setF_nil {f : Str} {d : D} : setF f d [] = [(f, d)] := rfl
theorem setF_ne {f g : Str} {d e : D} {r : List (Str × D)} (h : g ≠ f) : setF f d ((g, e) :: r) = (g, e) :: setF f d r := by
  show (if g = f then _ else _) = _
  rw [if_neg h]
theorem mcF_set (m : Mc) : setF "outs" (outsD m.n m.ss) (setF "steps" (rowD m.ss) (setF "rests" (.tup (m.rs.map D.int)) (setF "size" (.int m.n) []))) = mcF m := by
  have a1 : (Str.ofString "size" : Str) ≠ Str.ofString "rests" := by decide
  have a2 : (Str.ofString "size" : Str) ≠ Str.ofString "steps" := by decide
  have a3 : (Str.ofString "size" : Str) ≠ Str.ofString "outs" := by decide
  have b2 : (Str.ofString "rests" : Str) ≠ Str.ofString "steps" := by decide
  have b3 : (Str.ofString "rests" : Str) ≠ Str.ofString "outs" := by decide
  have c3 : (Str.ofString "steps" : Str) ≠ Str.ofString "outs" := by decide
  rw [setF_nil, setF_ne a1, setF_nil, setF_ne (f := "steps") a2, setF_ne (f := "steps") b2, setF_nil, setF_ne a3, setF_ne b3, setF_ne c3, setF_nil]
  rfl
/-- what Machine keeps -/
structure McOk (m : Mc) : Prop where
  n1 : 1 ≤ m.n
  n2 : m.n ≤ 60
  rs : ∀ r ∈ m.rs, 0 ≤ r ∧ r < m.n
  rsS : m.rs.Pairwise (· < ·)
  ss : ∀ s ∈ m.ss, StOk m.n s
  ssS : m.ss.Pairwise (fun a b => leS a b = true)
  ssN : m.ss.Nodup
  ssL : m.ss.length ≤ 200
/-- the sorted ints of a row, each once -/
noncomputable def setI (n : Nat) (l : List Int) : List Int := ((List.range n).map fun (i : Nat) => (i : Int)).filter fun i => decide (i ∈ l)
theorem range_lt (n : Nat) : ((List.range n).map fun (i : Nat) => (i : Int)).Pairwise (· < ·) := by
  rw [List.pairwise_map]
  exact List.pairwise_lt_range.imp fun h => by omega
theorem setI_lt (n : Nat) (l : List Int) : (setI n l).Pairwise (· < ·) := (range_lt n).filter _
theorem mem_range {n : Nat} {i : Int} : i ∈ ((List.range n).map fun (i : Nat) => (i : Int)) ↔ 0 ≤ i ∧ i < n := by
  constructor
  · intro h
    obtain ⟨k, hk, rfl⟩ := List.mem_map.mp h
    have := List.mem_range.mp hk
    omega
  · rintro ⟨h1, h2⟩
    exact List.mem_map.mpr ⟨i.toNat, List.mem_range.mpr (by omega), by omega⟩
theorem mem_setI {n : Nat} {l : List Int} {i : Int} : i ∈ setI n l ↔ (0 ≤ i ∧ i < n) ∧ i ∈ l := by
  unfold setI
  rw [List.mem_filter, mem_range, decide_eq_true_iff]
theorem lt_uniq : ∀ {l m : List Int}, l.Pairwise (· < ·) → m.Pairwise (· < ·) → (∀ i, i ∈ l ↔ i ∈ m) → l = m := by
  intro l m hl hm h
  refine List.Perm.eq_of_pairwise (le := fun a b : Int => a < b) (fun a b _ _ h1 h2 => by omega) hl hm ?_
  have nl : l.Nodup := hl.imp fun h => by omega
  have nm : m.Nodup := hm.imp fun h => by omega
  exact (List.perm_ext_iff_of_nodup nl nm).mpr h
theorem setI_of {n : Nat} {l m : List Int} (hm : m.Pairwise (· < ·)) (h : ∀ i, i ∈ m ↔ i ∈ l) (hl : ∀ i ∈ l, 0 ≤ i ∧ i < n) : m = setI n l :=
  lt_uniq hm (setI_lt n l) fun i => by rw [mem_setI, h]; exact ⟨fun q => ⟨hl i q, q⟩, fun q => q.2⟩
/-- the machine of these parts -/
noncomputable def mkMc (n : Nat) (rs : List Int) (ss : List St) : Mc := ⟨n, setI n rs, srtS ss⟩
theorem mkMc_ok {n : Nat} {rs : List Int} {ss : List St} (h1 : 1 ≤ n) (h2 : n ≤ 60) (h3 : ∀ s ∈ ss, StOk n s) (h4 : ss.Nodup) (h5 : ss.length ≤ 200) : McOk (mkMc n rs ss) :=
  ⟨h1, h2, fun r hr => (mem_setI.mp hr).1, setI_lt n rs, fun s hs => h3 s ((srtS_perm ss).mem_iff.mp hs), srtS_srt ss, (srtS_perm ss).nodup_iff.mpr h4, by show (srtS ss).length ≤ 200; rw [(srtS_perm ss).length_eq]; exact h5⟩
theorem fld_size {m : Mc} {Q : D → Prop} : pFld ["Machine"] "size" (mcD m) Q = Q (.int m.n) := propext ⟨fun ⟨C, fs, x, e, h1, h2, h3⟩ => by
  cases e
  cases h2
  exact h3, fun h => ⟨_, _, _, rfl, List.mem_cons_self, rfl, h⟩⟩
theorem look_ne {f g : Str} {d : D} {r : List (Str × D)} (h : (f == g) = false) : ((g, d) :: r).lookup f = r.lookup f := by rw [List.lookup_cons, h]
theorem look_eq {f : Str} {d : D} {r : List (Str × D)} : ((f, d) :: r).lookup f = some d := by rw [List.lookup_cons, beq_self_eq_true]
theorem lk_rests {m : Mc} : (mcF m).lookup (Str.ofString "rests") = some (.tup (m.rs.map D.int)) := by unfold mcF; rw [look_ne (by decide), look_eq]
theorem lk_steps {m : Mc} : (mcF m).lookup (Str.ofString "steps") = some (rowD m.ss) := by unfold mcF; rw [look_ne (by decide), look_ne (by decide), look_eq]
theorem lk_outs {m : Mc} : (mcF m).lookup (Str.ofString "outs") = some (outsD m.n m.ss) := by unfold mcF; rw [look_ne (by decide), look_ne (by decide), look_ne (by decide), look_eq]
theorem fld_of {Cs : List Str} {f C : Str} {fs : List (Str × D)} {d : D} {Q : D → Prop} (hC : C ∈ Cs) (h : fs.lookup f = some d) : pFld Cs f (.obj C fs) Q = Q d := propext ⟨fun ⟨C', fs', x, e, h1, h2, h3⟩ => by
  cases e
  rw [h] at h2
  cases h2
  exact h3, fun q => ⟨_, _, _, rfl, hC, h, q⟩⟩
theorem fld_rests {m : Mc} {Q : D → Prop} : pFld ["Machine"] "rests" (mcD m) Q = Q (.tup (m.rs.map D.int)) := fld_of List.mem_cons_self lk_rests
theorem fld_steps {m : Mc} {Q : D → Prop} : pFld ["Machine"] "steps" (mcD m) Q = Q (rowD m.ss) := fld_of List.mem_cons_self lk_steps
theorem fld_outs {m : Mc} {Q : D → Prop} : pFld ["Machine"] "outs" (mcD m) Q = Q (outsD m.n m.ss) := fld_of List.mem_cons_self lk_outs
end U
namespace U
open PySem PySem.Spec PyProof.Rows L2 Q TL
/-! letters -/
theorem tl_len (z : Str) : (tl z).length = z.length := by unfold tl Str.length; exact Array.length_toList
theorem strOk_iff {z : Str} : PyData.strOk z = true ↔ ∀ c ∈ tl z, c < 0x110000 := by
  unfold PyData.strOk tl
  rw [← Array.all_toList, List.all_eq_true]
  simp
theorem low_tl {z : Str} (h : nmB z = true) : (∀ c ∈ tl z, 97 ≤ c ∧ c ≤ 122) ∧ 1 ≤ z.length ∧ z.length ≤ 8 := nm_of h
theorem letZ_form {z : Str} (h : letZ z = true) : nmB z = true ∨ ∃ a b, z = a ++ dot ++ b ∧ nmB a = true ∧ shortB b = true := by
  by_cases hd : 46 ∈ tl z
  · obtain ⟨a, b, rfl, ha⟩ := dot_split hd
    rw [letZ_dot ha, Bool.and_eq_true] at h
    exact .inr ⟨a, b, rfl, h.1, h.2⟩
  · rw [letZ_none hd] at h
    exact .inl h
theorem shortB_len {b : Str} (h : shortB b = true) : b.length ≤ 2 ∧ ∀ c ∈ tl b, 48 ≤ c ∧ c ≤ 57 := by
  unfold shortB shortL at h
  simp only [Bool.and_eq_true, decide_eq_true_eq, List.all_eq_true] at h
  rw [tl_len] at h
  exact ⟨h.1.2, fun c hc => by have := h.2.1 c hc; unfold digB at this; simpa using this⟩
theorem letZ_len {z : Str} (h : letZ z = true) : z.length ≤ 11 := by
  rcases letZ_form h with h | ⟨a, b, rfl, ha, hb⟩
  · have := (low_tl h).2.2; omega
  · have h1 := (low_tl ha).2.2
    have h2 := (shortB_len hb).1
    rw [len_app, len_app]
    have : dot.length = 1 := rfl
    omega
theorem tl_app (a b : Str) : tl (a ++ b) = tl a ++ tl b := by
  show (a.cps ++ b.cps).toList = _
  rw [Array.toList_append]
theorem letZ_ok {z : Str} (h : letZ z = true) : PyData.strOk z = true := by
  rw [strOk_iff]
  intro c hc
  rcases letZ_form h with h | ⟨a, b, rfl, ha, hb⟩
  · have := (low_tl h).1 c hc; omega
  · rw [tl_app, tl_app, List.mem_append, List.mem_append] at hc
    rcases hc with (hc | hc) | hc
    · have := (low_tl ha).1 c hc; omega
    · rw [tl_dot, List.mem_singleton] at hc; omega
    · have := (shortB_len hb).2 c hc; omega
theorem letZ_num {z : Str} {k : Int} (h : nmB z = true) (h0 : 0 ≤ k) (h1 : k ≤ 99) : letZ (z ++ dot ++ toString k) = true := by
  obtain ⟨j, rfl⟩ : ∃ j : Nat, k = j := ⟨k.toNat, by omega⟩
  rw [letZ_dot (nm_nodot h), h, Bool.true_and]
  exact shortB_iff.mpr ⟨j, by omega, rfl⟩
/-! steps -/
theorem StOk.len {n : Int} {s : St} (h : StOk n s) : s.k.length ≤ 4 ∧ s.l.length ≤ 11 := by
  obtain ⟨_, _, ⟨e, _, e'⟩ | ⟨e | e, _, _, e'⟩⟩ := h
  · rw [e, e']; decide
  · rw [e]; exact ⟨by decide, letZ_len e'⟩
  · rw [e]; exact ⟨by decide, letZ_len e'⟩
theorem StOk.cln {n : Int} {s : St} (h : StOk n s) : Cln 2 (stD s) := by
  have h1 : PyData.strOk s.k = true ∧ PyData.strOk s.l = true := by
    obtain ⟨_, _, ⟨e, _, e'⟩ | ⟨e | e, _, _, e'⟩⟩ := h
    · rw [e, e']; exact ⟨by decide +kernel, by decide +kernel⟩
    · rw [e]; exact ⟨by decide +kernel, letZ_ok e'⟩
    · rw [e]; exact ⟨by decide +kernel, letZ_ok e'⟩
  refine .tup fun d hd => ?_
  simp only [List.mem_cons, List.not_mem_nil, or_false] at hd
  rcases hd with rfl | rfl | rfl | rfl | rfl
  · exact .int
  · exact .str h1.1
  · exact .int
  · exact .str h1.2
  · exact .int
theorem St.fz (s : St) : Fz (stD s) := .tup fun d hd => by
  simp only [List.mem_cons, List.not_mem_nil, or_false] at hd
  rcases hd with rfl | rfl | rfl | rfl | rfl
  · exact .int
  · exact .str
  · exact .int
  · exact .str
  · exact .int
theorem in_cln {neg : Bool} {d e : D} {ds : List D} {n m : Nat} {K : D → Prop} (hs : IsSeq e ds) (hn : n ≤ 64) (hm : m ≤ 63) (h1 : Cln n d) (h2 : ∀ x ∈ ds, Cln m x) (k : K (.bl (if neg then !decide (d ∈ ds) else decide (d ∈ ds)))) : pIn neg d e K :=
  .inl ⟨ds, hs.seq, ⟨n, m, hn, hm, h1, h2⟩, k⟩
theorem in_flat {neg : Bool} {d e : D} {ds : List D} {K : D → Prop} (hs : IsSeq e ds) (h1 : flat d = true) (h2 : ds.all flat = true) (k : K (.bl (if neg then !(ds.any fun x => eqF x d) else ds.any fun x => eqF x d))) : pIn neg d e K :=
  .inr (.inl ⟨ds, hs.seq, h1, h2, k⟩)
theorem in_st {neg : Bool} {n : Int} {s : St} {ss : List St} {e : D} {K : D → Prop} (hs : IsSeq e (ss.map stD)) (h1 : StOk n s) (h2 : ∀ t ∈ ss, StOk n t) (k : K (.bl (if neg then !decide (s ∈ ss) else decide (s ∈ ss)))) : pIn neg (stD s) e K := by
  refine in_cln hs (n := 2) (m := 2) (by omega) (by omega) h1.cln (fun x hx => ?_) ?_
  · obtain ⟨t, ht, rfl⟩ := List.mem_map.mp hx
    exact (h2 t ht).cln
  · have e : decide (stD s ∈ ss.map stD) = decide (s ∈ ss) := by
      rw [Bool.eq_iff_iff, decide_eq_true_iff, decide_eq_true_iff]
      exact ⟨fun h => by
        obtain ⟨t, ht, e⟩ := List.mem_map.mp h
        rw [← stD_inj e]; exact ht, fun h => List.mem_map.mpr ⟨s, h, rfl⟩⟩
    rw [e]; exact k
/-- a machine as the law writes it -/
def lmD (m : Mc) : D := .tup [.int m.n, .lst (m.rs.map D.int), .lst (m.ss.map stD)]
theorem mkMc_self {m : Mc} (h : McOk m) : mkMc m.n m.rs m.ss = m := by
  unfold mkMc
  rw [srtS_id h.ssS, ← setI_of (n := m.n) h.rsS (fun _ => Iff.rfl) h.rs]
end U
namespace U
open PySem PySem.Spec PyProof.Rows L2 Q TL
theorem rngD_drop {lo : Int} {n j : Nat} (h : j < n) : (rngD lo n).drop j = .int (lo + (j : Nat)) :: (rngD lo n).drop (j + 1) := by
  unfold rngD
  have hl : j < ((List.range n).map fun (i : Nat) => D.int (lo + i)).length := by rw [List.length_map, List.length_range]; exact h
  rw [List.drop_eq_getElem_cons hl]
  congr 1
  rw [List.getElem_map, List.getElem_range]
/-- for k in range(..) -/
theorem for_rng {α : Type} {b : Bnd} {body : Ps} {E : PEnds} (st : α → Rho) (lo : Int) (n : Nat) (I : Nat → α → Prop) (h0 : ∀ a, I n a → E.nx (st a))
    (hs : ∀ j a ds, j < n → I j a → (∀ a', I (j + 1) a' → forD b body E ds (st a')) → b (.int (lo + (j : Nat))) (st a) fun ρ1 => body { nx := forD b body E ds, ct := forD b body E ds, bk := E.nx, rt := E.rt } ρ1) (a : α) (h : I 0 a) : pFor b body E (rngD lo n) (st a) := by
  have key : ∀ k j a, j + k = n → I j a → forD b body E ((rngD lo n).drop j) (st a) := by
    intro k
    induction k with
    | zero =>
      intro j a e i
      rw [show j = n by omega] at i ⊢
      rw [List.drop_eq_nil_of_le (by rw [rngD_length]; omega)]
      exact h0 a i
    | succ k ih =>
      intro j a e i
      rw [rngD_drop (by omega)]
      exact hs j a _ (by omega) i fun a' i' => ih (j + 1) a' (by omega) i'
  have := key n 0 a (by omega) h
  rwa [List.drop_zero] at this
theorem lc_rng {b : Bnd} {tt : Pt} {te : Pd} {ρ0 : Rho} {Q : List D → Prop} (lo : Int) (n : Nat) (J : Nat → List D → Prop) (h0 : ∀ acc, J n acc → Q acc)
    (hs : ∀ j acc ds, j < n → J j acc → (∀ acc', J (j + 1) acc' → lcD b tt te ρ0 Q ds acc') → b (.int (lo + (j : Nat))) ρ0 fun ρ1 => tt ρ1 fun c ρ2 => ρ2 = ρ1 ∧ pI c (te ρ1 fun e ρ3 => ρ3 = ρ1 ∧ acc.length < sizeLine ∧ lcD b tt te ρ0 Q ds (acc ++ [e])) (lcD b tt te ρ0 Q ds acc)) (h : J 0 []) : pLc b tt te ρ0 Q (rngD lo n) [] := by
  have key : ∀ k j acc, j + k = n → J j acc → lcD b tt te ρ0 Q ((rngD lo n).drop j) acc := by
    intro k
    induction k with
    | zero =>
      intro j a e i
      rw [show j = n by omega] at i ⊢
      rw [List.drop_eq_nil_of_le (by rw [rngD_length]; omega)]
      exact h0 a i
    | succ k ih =>
      intro j a e i
      rw [rngD_drop (by omega)]
      exact hs j a _ (by omega) i fun a' i' => ih (j + 1) a' (by omega) i'
  have := key n 0 [] (by omega) h
  rwa [List.drop_zero] at this
theorem fmod_of {a b : Int} (h0 : 0 ≤ a) (hb : 0 < b) : 0 ≤ a.fmod b ∧ a.fmod b < b := by
  rw [Int.fmod_eq_emod_of_nonneg _ (by omega)]
  exact ⟨Int.emod_nonneg _ (by omega), Int.emod_lt_of_pos _ hb⟩
theorem srt_st {d : D} {ss : List St} {Q : SV → Prop} (hs : IsSeq d (ss.map stD)) (q : Q (.own ((srtS ss).map stD))) : pSrt [d] Q := by
  rcases hs with rfl | rfl
  · exact ⟨.inl (SrtOk_st ss), by rw [srtD_st]; exact q⟩
  · exact ⟨SrtOk_st ss, by rw [srtD_st]; exact q⟩
theorem own_ok {n p q : Int} (h1 : 0 ≤ p) (h2 : p < n) (h3 : 0 ≤ q) (h4 : q < n) : StOk n ⟨p, zOwn, -1, zE, q⟩ := ⟨⟨h1, h2⟩, ⟨h3, h4⟩, .inl ⟨rfl, rfl, rfl⟩⟩
theorem oth_ok {n p q h : Int} {k l : Str} (h1 : 0 ≤ p) (h2 : p < n) (h3 : 0 ≤ q) (h4 : q < n) (hk : k = zSend ∨ k = zTake) (g0 : 0 ≤ h) (g1 : h ≤ 5) (hl : letZ l = true) : StOk n ⟨p, k, h, l, q⟩ := ⟨⟨h1, h2⟩, ⟨h3, h4⟩, .inr ⟨hk, g0, g1, hl⟩⟩
/-- peers of a machine's steps -/
def PeerL (ps : List Int) : Prop := ∀ p ∈ ps, 0 ≤ p ∧ p ≤ 5
end U
namespace U
open PySem PySem.Spec PyProof.Rows L2 Q TL
/-- rows with an inverse -/
theorem perm_map_inv {α : Type} {f : α → D} {g : D → α} (hg : ∀ x, g (f x) = x) {es : List D} {xs : List α} (h : es.Perm (xs.map f)) : ∃ ys : List α, ys.Perm xs ∧ es = ys.map f := by
  refine ⟨es.map g, ?_, ?_⟩
  · have := h.map g
    rw [List.map_map] at this
    rwa [show (g ∘ f) = id from funext hg, List.map_id] at this
  · rw [List.map_map]
    have : ∀ e ∈ es, (f ∘ g) e = e := fun e he => by
      obtain ⟨x, _, rfl⟩ := List.mem_map.mp (h.mem_iff.mp he)
      show f (g (f x)) = f x
      rw [hg]
    rw [List.map_congr_left this, List.map_id']
def unI : D → Int
  | .int i => i
  | _ => 0
def unS : D → Str
  | .str z => z
  | _ => zE
theorem perm_ints {es : List D} {xs : List Int} (h : es.Perm (xs.map D.int)) : ∃ ys : List Int, ys.Perm xs ∧ es = ys.map D.int := perm_map_inv (g := unI) (fun _ => rfl) h
theorem perm_strs {es : List D} {xs : List Str} (h : es.Perm (xs.map D.str)) : ∃ ys : List Str, ys.Perm xs ∧ es = ys.map D.str := perm_map_inv (g := unS) (fun _ => rfl) h
def unSt : D → St
  | .tup [.int p, .str k, .int h, .str l, .int q] => ⟨p, k, h, l, q⟩
  | _ => ⟨0, zE, 0, zE, 0⟩
theorem perm_sts {es : List D} {xs : List St} (h : es.Perm (xs.map stD)) : ∃ ys : List St, ys.Perm xs ∧ es = ys.map stD := perm_map_inv (g := unSt) (fun _ => rfl) h
def rngI (lo : Int) (n : Nat) : List Int := (List.range n).map fun (i : Nat) => lo + (i : Nat)
theorem rngD_map (lo : Int) (n : Nat) : rngD lo n = (rngI lo n).map D.int := by unfold rngD rngI; rw [List.map_map]; rfl
theorem rngI_nodup (lo : Int) (n : Nat) : (rngI lo n).Nodup := List.Pairwise.map _ (fun a b h e => h (by omega)) List.nodup_range
theorem mem_rngI {lo : Int} {n : Nat} {i : Int} : i ∈ rngI lo n ↔ lo ≤ i ∧ i < lo + n := by
  unfold rngI
  constructor
  · intro h
    obtain ⟨k, hk, rfl⟩ := List.mem_map.mp h
    have := List.mem_range.mp hk
    omega
  · rintro ⟨h1, h2⟩
    exact List.mem_map.mpr ⟨(i - lo).toNat, List.mem_range.mpr (by omega), by omega⟩
theorem rngI_length {lo : Int} {n : Nat} : (rngI lo n).length = n := by unfold rngI; rw [List.length_map, List.length_range]
theorem pAt_map {α : Type} {f : α → D} {xs : List α} {i : Int} {x : α} {K : D → Prop} (h : xs[i.toNat]? = some x) (h0 : 0 ≤ i) (k : K (f x)) : pAt (xs.map f) i K := pAt_ok (x := f x) (by rw [List.getElem?_map, h]; rfl) h0 k
end U
namespace U
open PySem PySem.Spec PyProof.Rows L2 Q TL
/-- data without dicts and objects, at most n deep -/
inductive Dep : Nat → D → Prop
  | non {n : Nat} : Dep (n + 1) .non
  | bl {n : Nat} {b : Bool} : Dep (n + 1) (.bl b)
  | int {n : Nat} {b : Int} : Dep (n + 1) (.int b)
  | str {n : Nat} {b : Str} : Dep (n + 1) (.str b)
  | lst {n : Nat} {b : List D} : (∀ d ∈ b, Dep n d) → b.length ≤ 1000000 → Dep (n + 1) (.lst b)
  | tup {n : Nat} {b : List D} : (∀ d ∈ b, Dep n d) → b.length ≤ 1000000 → Dep (n + 1) (.tup b)
theorem Dep.mono {n : Nat} {d : D} (h : Dep n d) : ∀ {m : Nat}, n ≤ m → Dep m d := by
  induction h with
  | non => intro m l; cases m with | zero => omega | succ m => exact .non
  | bl => intro m l; cases m with | zero => omega | succ m => exact .bl
  | int => intro m l; cases m with | zero => omega | succ m => exact .int
  | str => intro m l; cases m with | zero => omega | succ m => exact .str
  | lst _ hl ih => intro m l; cases m with | zero => omega | succ m => exact .lst (fun d hd => ih d hd (by omega)) hl
  | tup _ hl ih => intro m l; cases m with | zero => omega | succ m => exact .tup (fun d hd => ih d hd (by omega)) hl
theorem dep_st (s : St) : Dep 2 (stD s) := .tup (fun d hd => by
  simp only [List.mem_cons, List.not_mem_nil, or_false] at hd
  rcases hd with rfl | rfl | rfl | rfl | rfl
  · exact .int
  · exact .str
  · exact .int
  · exact .str
  · exact .int) (by simp)
end U
namespace U
open PySem PySem.Spec PyProof.Rows L2 Q TL
def mcNo (g : Str) : Bool := !(g == Str.ofString "size") && (!(g == Str.ofString "rests") && (!(g == Str.ofString "steps") && !(g == Str.ofString "outs")))
theorem mc_none {m : Mc} {g : Str} (h : mcNo g = true) : (mcF m).lookup g = none := by
  unfold mcNo at h
  simp only [Bool.and_eq_true, Bool.not_eq_true'] at h
  obtain ⟨h1, h2, h3, h4⟩ := h
  unfold mcF
  rw [look_ne h1, look_ne h2, look_ne h3, look_ne h4]
  rfl
theorem mth_mc {m : Mc} {k : Nat} {g : Str} {f : Mf} {Ex : Er → Rho → Prop} {ms : Pa} {ρ : Rho} {R : SV → Rho → Prop} (h : mcNo g = true) : pMth k "Machine" g f Ex (mcD m) ms ρ R = ms ρ fun ds ρ2 => pCall k f Ex (mcD m :: ds) ρ2 R := pMth_obj (mc_none h)
end U

/-! PuW: what can be reached -/
namespace U
open PySem PySem.Spec PyProof.Rows L2 Q TL
inductive Reach (R : Int → Int → Prop) : Int → Int → Prop
  | refl {a : Int} : Reach R a a
  | step {a b c : Int} : Reach R a b → R b c → Reach R a c
/-- a closed set that holds a holds what a reaches -/
theorem Reach.closed {R : Int → Int → Prop} {S : Int → Prop} (hc : ∀ a b, S a → R a b → S b) {a b : Int} (h : Reach R a b) : S a → S b := by
  induction h with
  | refl => exact id
  | step _ r ih => exact fun s => hc _ _ (ih s) r
noncomputable def reachB (R : Int → Int → Prop) (p i : Int) : Bool := @decide (Reach R p i) (Classical.propDecidable _)
theorem reachB_iff {R : Int → Int → Prop} {p i : Int} : reachB R p i = true ↔ Reach R p i := by
  unfold reachB
  exact @decide_eq_true_iff _ (Classical.propDecidable _)
noncomputable def reachL (n : Nat) (R : Int → Int → Prop) (p : Int) : List Int := (rngI 0 n).filter (reachB R p)
theorem mem_reachL {n : Nat} {R : Int → Int → Prop} {p i : Int} : i ∈ reachL n R p ↔ (0 ≤ i ∧ i < n) ∧ Reach R p i := by
  unfold reachL
  rw [List.mem_filter, mem_rngI, reachB_iff]
  constructor
  · rintro ⟨h1, h2⟩; exact ⟨by omega, h2⟩
  · rintro ⟨h1, h2⟩; exact ⟨by omega, h2⟩
theorem rngI_lt (lo : Int) (n : Nat) : (rngI lo n).Pairwise (· < ·) := by
  unfold rngI
  rw [List.pairwise_map]
  exact List.pairwise_lt_range.imp fun h => by omega
theorem reachL_lt (n : Nat) (R : Int → Int → Prop) (p : Int) : (reachL n R p).Pairwise (· < ·) := (rngI_lt 0 n).filter _
theorem reachL_congr {n : Nat} {R R' : Int → Int → Prop} {p : Int} (h : ∀ a b, R a b ↔ R' a b) : reachL n R p = reachL n R' p := by
  have : R = R' := funext fun a => funext fun b => propext (h a b)
  rw [this]
theorem nodup_sub_le {α : Type} [BEq α] [LawfulBEq α] : ∀ {S l : List α}, S.Nodup → (∀ x ∈ S, x ∈ l) → S.length ≤ l.length
  | [], _, _, _ => Nat.zero_le _
  | a :: S, l, h, hs => by
    have ha := hs a List.mem_cons_self
    have h' := List.nodup_cons.mp h
    have := nodup_sub_le (l := l.erase a) h'.2 fun x hx => (List.mem_erase_of_ne (show x ≠ a from fun e => h'.1 (e ▸ hx))).mpr (hs x (List.mem_cons_of_mem _ hx))
    rw [List.length_erase_of_mem ha] at this
    have := List.length_pos_of_mem ha
    rw [List.length_cons]
    omega
theorem nodup_le {n : Nat} {S : List Int} (h : S.Nodup) (hr : ∀ i ∈ S, 0 ≤ i ∧ i < n) : S.length ≤ n := by
  have := nodup_sub_le (l := rngI 0 n) h fun i hi => mem_rngI.mpr (by have := hr i hi; omega)
  rwa [rngI_length] at this
def cntB (bs : List Bool) : Nat := (bs.filter id).length
theorem cntB_le (bs : List Bool) : cntB bs ≤ bs.length := List.length_filter_le _ _
/-- bools that grow -/
def LeB (as bs : List Bool) : Prop := as.length = bs.length ∧ ∀ i : Nat, as[i]? = some true → bs[i]? = some true
theorem LeB.refl (as : List Bool) : LeB as as := ⟨rfl, fun _ h => h⟩
theorem LeB.trans {a b c : List Bool} (h : LeB a b) (k : LeB b c) : LeB a c := ⟨h.1.trans k.1, fun i q => k.2 i (h.2 i q)⟩
theorem LeB.cnt : ∀ {as bs : List Bool}, LeB as bs → cntB as ≤ cntB bs ∧ (cntB as = cntB bs → as = bs)
  | [], [], _ => ⟨Nat.le_refl _, fun _ => rfl⟩
  | [], b :: bs, h => by have := h.1; simp at this
  | a :: as, [], h => by have := h.1; simp at this
  | a :: as, b :: bs, h => by
    have ht : LeB as bs := ⟨by have := h.1; simpa using this, fun i q => by have := h.2 (i + 1) (by simpa using q); simpa using this⟩
    obtain ⟨h1, h2⟩ := LeB.cnt ht
    have h0 := h.2 0
    unfold cntB at *
    cases a <;> cases b
    · simp only [List.filter_cons, id]
      exact ⟨by simpa using h1, fun e => by rw [h2 (by simpa using e)]⟩
    · simp only [List.filter_cons, id, if_true, List.length_cons]
      refine ⟨?_, fun e => ?_⟩
      · simp; omega
      · simp at e; omega
    · simp at h0
    · simp only [List.filter_cons, id, if_true, List.length_cons]
      exact ⟨by omega, fun e => by rw [h2 (by omega)]⟩
theorem LeB.set {bs : List Bool} {i : Nat} : LeB bs (bs.set i true) := by
  refine ⟨by rw [List.length_set], fun j h => ?_⟩
  by_cases q : i = j
  · subst q
    rw [List.getElem?_set_self (List.getElem?_eq_some_iff.mp h).1]
  · rw [List.getElem?_set_ne q]; exact h
def prD (a : Int × Int) : D := .tup [.int a.1, .int a.2]
theorem srtD_reach {n : Nat} {R : Int → Int → Prop} {p : Int} {S : List Int} (hn : S.Nodup) (h : ∀ i, i ∈ S ↔ i ∈ reachL n R p) : srtD (S.map D.int) = (reachL n R p).map D.int := by
  refine (srtD_ints (ns := S) (ms := reachL n R p) ?_ ?_).symm
  · exact (List.perm_ext_iff_of_nodup ((reachL_lt n R p).imp fun h => by omega) hn).mpr fun i => (h i).symm
  · exact (reachL_lt n R p).imp fun h => by omega
end U
namespace U
open PySem PySem.Spec PyProof.Rows L2 Q TL
theorem lc_rmap {b : Bnd} {te : Pd} {ρ0 : Rho} {Q : List D → Prop} (lo : Int) (n : Nat) (f : Nat → D) (hl : n ≤ 16777216)
    (hs : ∀ x, x < n → ∀ R : D → Prop, R (f x) → b (.int (lo + (x : Nat))) ρ0 fun ρ1 => te ρ1 fun e ρ3 => ρ3 = ρ1 ∧ R e) (hQ : Q ((List.range n).map f)) : pLc b mYes te ρ0 Q (rngD lo n) [] := by
  unfold rngD
  exact lc_map _ f (List.range n) (by rw [List.length_range]; exact hl) (fun x hx R r => hs x (List.mem_range.mp hx) R r) hQ
theorem lc_rfm {b : Bnd} {tt : Pt} {te : Pd} {ρ0 : Rho} {Q : List D → Prop} (lo : Int) (n : Nat) (p : Nat → Bool) (f : Nat → D) (hl : n ≤ 16777216)
    (hs : ∀ x, x < n → ∀ (R : D → Prop) (R' : Prop), (p x = true → R (f x)) → (p x = false → R') → b (.int (lo + (x : Nat))) ρ0 fun ρ1 => tt ρ1 fun c ρ2 => ρ2 = ρ1 ∧ pI c (te ρ1 fun e ρ3 => ρ3 = ρ1 ∧ R e) R')
    (hQ : Q (((List.range n).filter p).map f)) : pLc b tt te ρ0 Q (rngD lo n) [] := by
  unfold rngD
  exact lc_fm _ p f (List.range n) (by rw [List.length_range]; exact hl) (fun x hx R R' r r' => hs x (List.mem_range.mp hx) R R' r r') hQ
end U
namespace U
open PySem PySem.Spec PyProof.Rows L2 Q TL
/-- the steps out of a state -/
def outS (m : Mc) (p : Int) : List St := m.ss.filter fun s => decide (s.p = p)
theorem outs_at {m : Mc} {p : Int} {K : D → Prop} (h0 : 0 ≤ p) (h1 : p < m.n) (k : K (rowD (outS m p))) : pAt ((List.range m.n).map fun (p : Nat) => rowD (m.ss.filter fun s => decide (s.p = (p : Int)))) p K := by
  have hp : p.toNat < m.n := by omega
  refine pAt_map (x := p.toNat) (List.getElem?_range hp) h0 ?_
  rw [show ((p.toNat : Nat) : Int) = p by omega]
  exact k
/-- the relations of a machine -/
def rOwn (m : Mc) (a b : Int) : Prop := ∃ s ∈ m.ss, s.p = a ∧ s.q = b ∧ s.k = zOwn
def rAny (m : Mc) (a b : Int) : Prop := ∃ s ∈ m.ss, s.p = a ∧ s.q = b
def rTail (m : Mc) (j : D) (a b : Int) : Prop := ∃ s ∈ m.ss, s.p = a ∧ s.q = b ∧ (s.k = zOwn ∨ (s.k = zSend ∧ .int s.h = j))
theorem eqD_str {s z : Str} : eqD (.str s) (.str z) = decide (s = z) := dec_ss
def tgL (m : Mc) (f : St → Bool) : List (List Int) := (List.range m.n).map fun (p : Nat) => ((outS m p).filter f).map fun s => s.q
theorem tg_rows {m : Mc} (h : McOk m) {f : St → Bool} {R : Int → Int → Prop} (hR : ∀ a b, R a b ↔ ∃ s ∈ m.ss, s.p = a ∧ s.q = b ∧ f s = true) :
    ((tgL m f).length = m.n) ∧
    (∀ a b : Int, 0 ≤ a → a < m.n → (R a b ↔ ∃ r, (tgL m f)[a.toNat]? = some r ∧ b ∈ r)) ∧
    (∀ r ∈ (tgL m f), ∀ b ∈ r, 0 ≤ b ∧ b < m.n) := by
  refine ⟨by unfold tgL; rw [List.length_map, List.length_range], fun a b h0 h1 => ?_, fun r hr b hb => ?_⟩
  · have ha : a.toNat < m.n := by omega
    unfold tgL
    rw [List.getElem?_map, List.getElem?_range ha, hR]
    constructor
    · rintro ⟨s, hs, e1, e2, e3⟩
      refine ⟨_, rfl, List.mem_map.mpr ⟨s, List.mem_filter.mpr ⟨List.mem_filter.mpr ⟨hs, ?_⟩, e3⟩, e2⟩⟩
      rw [decide_eq_true_iff]; omega
    · rintro ⟨r, e, hb⟩
      cases e
      obtain ⟨s, hs, e⟩ := List.mem_map.mp hb
      obtain ⟨hs, hf⟩ := List.mem_filter.mp hs
      obtain ⟨hs, hp⟩ := List.mem_filter.mp hs
      rw [decide_eq_true_iff] at hp
      exact ⟨s, hs, by omega, e, hf⟩
  · obtain ⟨p, _, rfl⟩ := List.mem_map.mp hr
    obtain ⟨s, hs, rfl⟩ := List.mem_map.mp hb
    exact (h.ss s (List.mem_filter.mp (List.mem_filter.mp hs).1).1).2.1
end U
namespace U
open PySem PySem.Spec PyProof.Rows L2 Q TL
def cutG {α : Type} (xs : List α) (lo hi : Option Int) : List α := (xs.drop (HT.sIx xs.length 0 lo)).take (HT.sIx xs.length xs.length hi - HT.sIx xs.length 0 lo)
theorem cutD_map {α : Type} {f : α → D} {xs : List α} {lo hi : Option Int} : cutD (xs.map f) lo hi = (cutG xs lo hi).map f := by
  unfold cutD cutG
  rw [List.length_map, List.map_take, List.map_drop]
theorem mem_cutG {α : Type} {xs : List α} {lo hi : Option Int} {x : α} (h : x ∈ cutG xs lo hi) : x ∈ xs := List.mem_of_mem_drop (List.mem_of_mem_take h)
theorem srtS_filter {l : List St} (h : l.Pairwise (fun a b => leS a b = true)) (f : St → Bool) : srtS (l.filter f) = l.filter f := srtS_id (h.filter f)
/-- targets of own steps out of one state are in order -/
theorem owns_lt {m : Mc} (h : McOk m) (p : Int) : (((outS m p).filter fun s => decide (s.k = zOwn)).map fun s => s.q).Pairwise (· < ·) := by
  rw [List.pairwise_map]
  have h1 : (outS m p).filter (fun s => decide (s.k = zOwn)) = m.ss.filter fun s => decide (s.k = zOwn) && decide (s.p = p) := by
    unfold outS
    rw [List.filter_filter]
  rw [h1]
  have hs := h.ssS.and h.ssN
  refine (hs.filter _).imp_of_mem fun {a b} ha hb hab => ?_
  obtain ⟨ha, fa⟩ := List.mem_filter.mp ha
  obtain ⟨hb, fb⟩ := List.mem_filter.mp hb
  simp only [Bool.and_eq_true, decide_eq_true_eq] at fa fb
  have kind : ∀ s ∈ m.ss, s.k = zOwn → s.h = -1 ∧ s.l = zE := fun s hs hk => by
    obtain ⟨_, _, ⟨_, e1, e2⟩ | ⟨e | e, _⟩⟩ := h.ss s hs
    · exact ⟨e1, e2⟩
    · rw [hk] at e; exact absurd e own_send
    · rw [hk] at e; exact absurd e own_take
  obtain ⟨ah, al⟩ := kind a ha fa.1
  obtain ⟨bh, bl⟩ := kind b hb fb.1
  have hne : a.q ≠ b.q := fun e => hab.2 (by cases a; cases b; simp only at *; rw [fa.1, fb.1, fa.2, fb.2, ah, bh, al, bl, e])
  have hle := hab.1
  unfold leS stK at hle
  rw [fa.1, fb.1, fa.2, fb.2, ah, bh, al, bl] at hle
  rcases Int.lt_or_gt_of_ne hne with h | h
  · exact h
  · exfalso
    have : ltKs [.inl p, .inr zOwn, .inl (-1), .inr zE, .inl b.q] [.inl p, .inr zOwn, .inl (-1), .inr zE, .inl a.q] = true := by
      unfold ltKs
      simp only [List.map_cons, List.map_nil]
      rw [lex_self, lex_self, lex_self, lex_self, lex_true]
      exact .inl (decide_eq_true h)
    rw [this] at hle
    cases hle
end U
namespace U
open PySem PySem.Spec PyProof.Rows L2 Q TL
theorem ix_lm0 {m : Mc} {K : D → Prop} : pIx (lmD m) (.int 0) K = K (.int m.n) := by unfold lmD; rw [e_ixt, e_at0]
theorem ix_lm1 {m : Mc} {K : D → Prop} : pIx (lmD m) (.int 1) K = K (.lst (m.rs.map D.int)) := by unfold lmD; rw [e_ixt, e_at1]
theorem ix_lm2 {m : Mc} {K : D → Prop} : pIx (lmD m) (.int 2) K = K (.lst (m.ss.map stD)) := by unfold lmD; rw [e_ixt, e_at2]
theorem McOk.sub {m : Mc} (h : McOk m) {ss : List St} (hs : ss.Sublist m.ss) : McOk ⟨m.n, m.rs, ss⟩ :=
  ⟨h.n1, h.n2, h.rs, h.rsS, fun s q => h.ss s (hs.subset q), h.ssS.sublist hs, h.ssN.sublist hs, Nat.le_trans hs.length_le h.ssL⟩
theorem map_eraseIdx {α β : Type} {f : α → β} : ∀ {l : List α} {i : Nat}, (l.map f).eraseIdx i = (l.eraseIdx i).map f
  | [], _ => rfl
  | _ :: _, 0 => rfl
  | a :: l, i + 1 => by
    show f a :: (l.map f).eraseIdx i = f a :: (l.eraseIdx i).map f
    rw [map_eraseIdx]
theorem rs_len {m : Mc} (h : McOk m) : m.rs.length ≤ 60 := Nat.le_trans (nodup_le (h.rsS.imp fun h => by omega) h.rs) h.n2
end U

/-! KitB: data over the heap, worlds -/
namespace Q
open PySem PySem.Spec PyProof.Rows L2

/-- plain data -/
inductive D where
  | non | bl (b : Bool) | int (i : Int) | str (x : Str) | lst (xs : List D) | tup (xs : List D) | dct (kvs : List (Key × D)) | obj (C : Addr) (fs : List (Str × D))
/-- what a class must say of its instances, so that they are data -/
structure ObjC (K : PySem.W.Frag) (C : Addr) : Prop where
  cl : Cls K C
  ca : PySem.W.findIn K (.ref C) "__class__" = some (some (.builtin "object.__class__"))
  hn : PySem.W.specialIn K (.builtin "object.__class__") "__get__" = some (some (.builtin "getset_descriptor.__get__"))
  ht : PySem.W.takesIn K (.builtin "object.__class__") = some true
  hm : PySem.W.mroIn K C (.type "object") = some true
  no : ∀ T ∈ ["int", "str", "bool", "list", "tuple", "dict"], PySem.W.kitOne K (.ref C) (.type T) = some false

/-- a heap and what of it is being changed -/
structure Wd where
  H : Hp
  M : Addr → Prop
  ok : ∀ a, M a → ∃ o, H a = some o ∧ Mut (some o)
theorem Wd.ne {W : Wd} {a : Addr} (h : W.M a) : W.H a ≠ none := fun e => by
  obtain ⟨o, q, _⟩ := W.ok a h
  rw [e] at q; cases q

mutual
inductive Rp (K : PySem.W.Frag) (W : Wd) : V → D → Prop
  | non : Rp K W .non .non
  | bl {b : Bool} : Rp K W (.bl b) (.bl b)
  | int {i : Int} : Rp K W (.int i) (.int i)
  | str {x : Str} : Rp K W (.str x) (.str x)
  | lst {a : Addr} {xs : List V} {ds : List D} : W.H a = some (.lst xs) → ¬ W.M a → RpL K W xs ds → Rp K W (.ref a) (.lst ds)
  | tup {a : Addr} {xs : List V} {ds : List D} : SqT K W.H a xs → RpL K W xs ds → Rp K W (.ref a) (.tup ds)
  | dct {a : Addr} {kvs : List (Key × V)} {ds : List (Key × D)} : Rd W.H a (.dK kvs) → ¬ W.M a → RpK K W kvs ds → Rp K W (.ref a) (.dct ds)
  | obj {a C dx : Addr} {fs : List (Str × V)} {ds : List (Str × D)} : W.H a = some (.ins C dx fs) → ¬ W.M a → ObjC K C → RpF K W fs ds → Rp K W (.ref a) (.obj C ds)
inductive RpL (K : PySem.W.Frag) (W : Wd) : List V → List D → Prop
  | nil : RpL K W [] []
  | cons {v : V} {vs : List V} {d : D} {ds : List D} : Rp K W v d → RpL K W vs ds → RpL K W (v :: vs) (d :: ds)
inductive RpK (K : PySem.W.Frag) (W : Wd) : List (Key × V) → List (Key × D) → Prop
  | nil : RpK K W [] []
  | cons {k : Key} {v : V} {vs : List (Key × V)} {d : D} {ds : List (Key × D)} : Rp K W v d → RpK K W vs ds → RpK K W ((k, v) :: vs) ((k, d) :: ds)
inductive RpF (K : PySem.W.Frag) (W : Wd) : List (Str × V) → List (Str × D) → Prop
  | nil : RpF K W [] []
  | cons {f : Str} {v : V} {vs : List (Str × V)} {d : D} {ds : List (Str × D)} : Rp K W v d → RpF K W vs ds → RpF K W ((f, v) :: vs) ((f, d) :: ds)
end

/-- from W to W' only what stands at X was changed -/
structure Mod (X : List Addr) (W W' : Wd) : Prop where
  keep : ∀ a o, a ∉ X → W.H a = some o → W'.H a = some o
  inM : ∀ a, a ∈ X → W.M a
  old : ∀ a, W'.M a → W.M a ∨ W.H a = none
  stay : ∀ a, W.M a → W'.M a
theorem Mod.refl (W : Wd) : Mod [] W W := ⟨fun _ _ _ e => e, fun _ h => (nomatch h), fun _ h => .inl h, fun _ h => h⟩
theorem Mod.lift {X : List Addr} {W : Wd} (h : ∀ a, a ∈ X → W.M a) : Mod X W W := ⟨fun _ _ _ e => e, h, fun _ h => .inl h, fun _ h => h⟩
theorem Mod.ne {X : List Addr} {W W' : Wd} (m : Mod X W W') {a : Addr} (h : W.H a ≠ none) : W'.H a ≠ none := fun z => by
  cases q : W.H a with
  | none => exact h q
  | some o =>
    by_cases hx : a ∈ X
    · exact Wd.ne (m.stay a (m.inM a hx)) z
    · rw [m.keep a o hx q] at z; cases z
theorem Mod.free {X : List Addr} {W W' : Wd} (m : Mod X W W') {a : Addr} (h : W'.H a = none) : W.H a = none := by
  cases q : W.H a with
  | none => rfl
  | some o => exact absurd h (m.ne (by rw [q]; intro z; cases z))
theorem Mod.trans {X Y : List Addr} {W W1 W2 : Wd} (a : Mod X W W1) (b : Mod Y W1 W2) (h : ∀ y ∈ Y, y ∈ X ∨ W.H y = none) : Mod X W W2 where
  keep := fun c o hc e => by
    have e1 := a.keep c o hc e
    refine b.keep c o (fun hy => ?_) e1
    rcases h c hy with z | z
    · exact hc z
    · rw [e] at z; cases z
  inM := a.inM
  old := fun c hc => by
    rcases b.old c hc with z | z
    · exact a.old c z
    · exact .inr (a.free z)
  stay := fun c hc => b.stay c (a.stay c hc)
/-- nothing else than a fresh thing was changed, or nothing -/
theorem Mod.tr0 {X : List Addr} {W W1 W2 : Wd} (a : Mod X W W1) (b : Mod [] W1 W2) : Mod X W W2 := a.trans b fun _ h => nomatch h
theorem Mod.trS {X : List Addr} {W W1 W2 : Wd} (a : Mod X W W1) (b : Mod X W1 W2) : Mod X W W2 := a.trans b fun _ h => .inl h
theorem Mod.trN {X : List Addr} {p : Addr} {W W1 W2 : Wd} (a : Mod X W W1) (b : Mod [p] W1 W2) (h : W.H p = none) : Mod X W W2 := a.trans b fun y hy => .inr (by
  have e : y = p := by simpa using hy
  rw [e]; exact h)
theorem Mod.seqT {K : PySem.W.Frag} {X : List Addr} {W W' : Wd} (m : Mod X W W') {a : Addr} {xs : List V} (h : SqT K W.H a xs) : SqT K W'.H a xs := by
  have nx : ∀ o, ¬ Mut (some o) → W.H a = some o → a ∉ X := fun o n e hx => by
    obtain ⟨u, e2, mu⟩ := W.ok a (m.inM a hx)
    rw [e] at e2
    cases e2
    exact n mu
  rcases h with (h | ⟨o, h⟩) | h
  · exact .inl (.inl (m.keep _ _ (nx (.tup xs) (fun z => z) h) h))
  · exact .inl (.inr ⟨o, m.keep _ _ (nx (.frz o (.tup xs)) (fun z => z) h) h⟩)
  · exact .inr h
mutual
theorem Rp.up {K : PySem.W.Frag} {X : List Addr} {W W' : Wd} (m : Mod X W W') : ∀ {v : V} {d : D}, Rp K W v d → Rp K W' v d
  | _, _, .non => .non
  | _, _, .bl => .bl
  | _, _, .int => .int
  | _, _, .str => .str
  | _, _, .lst e n r => .lst (m.keep _ _ (fun hx => n (m.inM _ hx)) e) (fun z => (m.old _ z).elim n fun q => by rw [e] at q; cases q) (RpL.up m r)
  | _, _, .tup s r => .tup (m.seqT s) (RpL.up m r)
  | _, _, .dct e n r => .dct (e.elim (fun e => .inl (m.keep _ _ (fun hx => n (m.inM _ hx)) e)) fun ⟨o, e⟩ => .inr ⟨o, m.keep _ _ (fun hx => n (m.inM _ hx)) e⟩)
      (fun z => (m.old _ z).elim n fun q => by rcases e with e | ⟨o, e⟩ <;> · rw [e] at q; cases q) (RpK.up m r)
  | _, _, .obj e n c r => .obj (m.keep _ _ (fun hx => n (m.inM _ hx)) e) (fun z => (m.old _ z).elim n fun q => by rw [e] at q; cases q) c (RpF.up m r)
theorem RpL.up {K : PySem.W.Frag} {X : List Addr} {W W' : Wd} (m : Mod X W W') : ∀ {vs : List V} {ds : List D}, RpL K W vs ds → RpL K W' vs ds
  | _, _, .nil => .nil
  | _, _, .cons h t => .cons (Rp.up m h) (RpL.up m t)
theorem RpK.up {K : PySem.W.Frag} {X : List Addr} {W W' : Wd} (m : Mod X W W') : ∀ {vs : List (Key × V)} {ds : List (Key × D)}, RpK K W vs ds → RpK K W' vs ds
  | _, _, .nil => .nil
  | _, _, .cons h t => .cons (Rp.up m h) (RpK.up m t)
theorem RpF.up {K : PySem.W.Frag} {X : List Addr} {W W' : Wd} (m : Mod X W W') : ∀ {vs : List (Str × V)} {ds : List (Str × D)}, RpF K W vs ds → RpF K W' vs ds
  | _, _, .nil => .nil
  | _, _, .cons h t => .cons (Rp.up m h) (RpF.up m t)
end
/-- the same heap, less that is being changed -/
structure Less (W W' : Wd) : Prop where
  H : W'.H = W.H
  M : ∀ a, W'.M a → W.M a
mutual
theorem Rp.less {K : PySem.W.Frag} {W W' : Wd} (m : Less W W') : ∀ {v : V} {d : D}, Rp K W v d → Rp K W' v d
  | _, _, .non => .non
  | _, _, .bl => .bl
  | _, _, .int => .int
  | _, _, .str => .str
  | _, _, .lst e n r => .lst (by rw [m.H]; exact e) (fun z => n (m.M _ z)) (RpL.less m r)
  | _, _, .tup s r => .tup (by rw [m.H]; exact s) (RpL.less m r)
  | _, _, .dct e n r => .dct (by rw [m.H]; exact e) (fun z => n (m.M _ z)) (RpK.less m r)
  | _, _, .obj e n c r => .obj (by rw [m.H]; exact e) (fun z => n (m.M _ z)) c (RpF.less m r)
theorem RpL.less {K : PySem.W.Frag} {W W' : Wd} (m : Less W W') : ∀ {vs : List V} {ds : List D}, RpL K W vs ds → RpL K W' vs ds
  | _, _, .nil => .nil
  | _, _, .cons h t => .cons (Rp.less m h) (RpL.less m t)
theorem RpK.less {K : PySem.W.Frag} {W W' : Wd} (m : Less W W') : ∀ {vs : List (Key × V)} {ds : List (Key × D)}, RpK K W vs ds → RpK K W' vs ds
  | _, _, .nil => .nil
  | _, _, .cons h t => .cons (Rp.less m h) (RpK.less m t)
theorem RpF.less {K : PySem.W.Frag} {W W' : Wd} (m : Less W W') : ∀ {vs : List (Str × V)} {ds : List (Str × D)}, RpF K W vs ds → RpF K W' vs ds
  | _, _, .nil => .nil
  | _, _, .cons h t => .cons (Rp.less m h) (RpF.less m t)
end
/-- a list that is being changed -/
def Own (W : Wd) (p : Addr) (xs : List V) : Prop := W.H p = some (.lst xs) ∧ W.M p
theorem Own.up {X : List Addr} {W W' : Wd} {p : Addr} {xs : List V} (h : Own W p xs) (m : Mod X W W') (n : p ∉ X) : Own W' p xs := ⟨m.keep _ _ n h.1, m.stay _ h.2⟩
theorem Own.sq {K : PySem.W.Frag} {W : Wd} {p : Addr} {xs : List V} (h : Own W p xs) : SqL K W.H p xs := .inl (.inl h.1)

/-! ### making -/
/-- a new thing that will not change -/
def Wd.put (W : Wd) (p : Addr) (o : HO) (h : W.H p = none) : Wd := ⟨upd W.H p o, W.M, fun a ha => by
  obtain ⟨u, e, mu⟩ := W.ok a ha
  exact ⟨u, by rw [upd_ne (ne_of_none e h)]; exact e, mu⟩⟩
theorem Wd.put_mod {W : Wd} {p : Addr} {o : HO} (h : W.H p = none) : Mod [] W (W.put p o h) :=
  ⟨fun a u _ e => by show upd W.H p o a = _; rw [upd_ne (ne_of_none e h)]; exact e, fun _ z => (nomatch z), fun _ z => .inl z, fun _ z => z⟩
/-- a new list that is going to be changed -/
def Wd.own (W : Wd) (p : Addr) (xs : List V) (h : W.H p = none) : Wd := ⟨upd W.H p (.lst xs), fun a => W.M a ∨ a = p, fun a ha => by
  rcases ha with ha | rfl
  · obtain ⟨u, e, mu⟩ := W.ok a ha
    exact ⟨u, by rw [upd_ne (ne_of_none e h)]; exact e, mu⟩
  · exact ⟨_, upd_same, True.intro⟩⟩
theorem Wd.own_mod {W : Wd} {p : Addr} {xs : List V} (h : W.H p = none) : Mod [] W (W.own p xs h) :=
  ⟨fun a u _ e => by show upd W.H p _ a = _; rw [upd_ne (ne_of_none e h)]; exact e, fun _ z => (nomatch z), fun a z => z.imp id fun e => by rw [e]; exact h, fun _ z => .inl z⟩
/-- a list is changed -/
def Wd.set (W : Wd) (p : Addr) (xs : List V) : Wd := ⟨upd W.H p (.lst xs), W.M, fun a ha => by
  by_cases e : a = p
  · rw [e]; exact ⟨_, upd_same, True.intro⟩
  · obtain ⟨u, q, mu⟩ := W.ok a ha
    exact ⟨u, by rw [upd_ne e]; exact q, mu⟩⟩
theorem Wd.set_mod {W : Wd} {p : Addr} {xs : List V} (h : W.M p) : Mod [p] W (W.set p xs) :=
  ⟨fun a u n e => by show upd W.H p _ a = _; rw [upd_ne (fun z => n (by rw [z]; exact List.mem_singleton.mpr rfl))]; exact e, fun a z => by rw [List.mem_singleton.mp z]; exact h, fun _ z => .inl z, fun _ z => z⟩
theorem Wd.set_own {W : Wd} {p : Addr} {xs : List V} (h : W.M p) : Own (W.set p xs) p xs := ⟨upd_same, h⟩

theorem new_lst {K : PySem.W.Frag} {W : Wd} {xs : List V} {ds : List D} {G : V → Hp → Prop} (r : RpL K W xs ds) (k : ∀ p W', Mod [] W W' → W.H p = none → W'.H p = some (.lst xs) → Rp K W' (.ref p) (.lst ds) → G (.ref p) W'.H) :
    ∀ p, W.H p = none → G (.ref p) (upd W.H p (.lst xs)) := fun p hp =>
  k p (W.put p _ hp) (Wd.put_mod hp) hp upd_same (.lst upd_same (fun z => Wd.ne (show W.M p from z) hp) (r.up (Wd.put_mod hp)))
theorem new_tup {K : PySem.W.Frag} {W : Wd} {xs : List V} {ds : List D} {G : V → Hp → Prop} (r : RpL K W xs ds) (k : ∀ p W', Mod [] W W' → W.H p = none → SqT K W'.H p xs → Rp K W' (.ref p) (.tup ds) → G (.ref p) W'.H) :
    ∀ p, W.H p = none → G (.ref p) (upd W.H p (.tup xs)) := fun p hp =>
  k p (W.put p _ hp) (Wd.put_mod hp) hp (SqT.of upd_same) (.tup (SqT.of upd_same) (r.up (Wd.put_mod hp)))
theorem new_own {W : Wd} {xs : List V} {G : V → Hp → Prop} (k : ∀ p W', Mod [] W W' → W.H p = none → Own W' p xs → G (.ref p) W'.H) :
    ∀ p, W.H p = none → G (.ref p) (upd W.H p (.lst xs)) := fun p hp => k p (W.own p xs hp) (Wd.own_mod hp) hp ⟨upd_same, .inr rfl⟩
/-- at the end of a body: what was changed within it and was made within it is let go -/
theorem fin {X : List Addr} {W0 W : Wd} (m : Mod X W0 W) : ∃ W', W'.H = W.H ∧ Less W W' ∧ Mod X W0 W' ∧ ∀ a, W'.M a ↔ W0.M a := by
  refine ⟨⟨W.H, W0.M, fun a ha => W.ok a (m.stay a ha)⟩, rfl, ⟨rfl, fun a ha => m.stay a ha⟩, ⟨m.keep, m.inM, fun a ha => .inl ha, fun a ha => ha⟩, fun a => Iff.rfl⟩
theorem RpL.length {K : PySem.W.Frag} {W : Wd} : ∀ {vs : List V} {ds : List D}, RpL K W vs ds → vs.length = ds.length
  | _, _, .nil => rfl
  | _, _, .cons _ t => congrArg Nat.succ t.length
theorem RpL.append {K : PySem.W.Frag} {W : Wd} : ∀ {vs ws : List V} {ds es : List D}, RpL K W vs ds → RpL K W ws es → RpL K W (vs ++ ws) (ds ++ es)
  | _, _, _, _, .nil, s => s
  | _, _, _, _, .cons h t, s => .cons h (t.append s)
theorem RpL.get {K : PySem.W.Frag} {W : Wd} : ∀ {vs : List V} {ds : List D} {i : Nat} {v : V}, RpL K W vs ds → vs[i]? = some v → ∃ d, ds[i]? = some d ∧ Rp K W v d
  | _, _, _, _, .nil, e => by simp at e
  | _, _, 0, _, .cons h _, e => by simp at e; subst e; exact ⟨_, rfl, h⟩
  | _, _, i + 1, v, .cons _ t, e => by
    obtain ⟨d, h1, h2⟩ := t.get (i := i) (v := v) (by simpa using e)
    exact ⟨d, by simpa using h1, h2⟩
theorem RpL.getD {K : PySem.W.Frag} {W : Wd} : ∀ {vs : List V} {ds : List D} {i : Nat} {d : D}, RpL K W vs ds → ds[i]? = some d → ∃ v, vs[i]? = some v ∧ Rp K W v d
  | _, _, _, _, .nil, e => by simp at e
  | _, _, 0, _, .cons h _, e => by simp at e; subst e; exact ⟨_, rfl, h⟩
  | _, _, i + 1, v, .cons _ t, e => by
    obtain ⟨d, h1, h2⟩ := t.getD (i := i) (d := v) (by simpa using e)
    exact ⟨d, by simpa using h1, h2⟩
theorem RpL.snoc {K : PySem.W.Frag} {W : Wd} {vs : List V} {ds : List D} {v : V} {d : D} (h : RpL K W vs ds) (t : Rp K W v d) : RpL K W (vs ++ [v]) (ds ++ [d]) := h.append (.cons t .nil)

/-! ### the store of the draws -/
theorem RpL.map {α : Type} {K : PySem.W.Frag} {W : Wd} {f : α → V} {g : α → D} (h : ∀ a, Rp K W (f a) (g a)) : ∀ l : List α, RpL K W (l.map f) (l.map g)
  | [] => .nil
  | a :: l => .cons (h a) (RpL.map h l)
/-- the store at st -/
def Sto (K : PySem.W.Frag) (c st : Addr) (W : Wd) : Prop := ∃ (ns : List Int) (i b s f n : Int), Own W st [.ref c, .int i, .int b, .int s, .int f, .int n] ∧ 0 ≤ i ∧ Rp K W (.ref c) (.lst (ns.map D.int))
theorem Sto.up {K : PySem.W.Frag} {X : List Addr} {c st : Addr} {W W' : Wd} (h : Sto K c st W) (m : Mod X W W') (n : st ∉ X) : Sto K c st W' := by
  obtain ⟨ns, i, b, s, f, k, o, hi, hc⟩ := h
  exact ⟨ns, i, b, s, f, k, o.up m n, hi, hc.up m⟩
theorem Sto.inM {K : PySem.W.Frag} {c st : Addr} {W : Wd} (h : Sto K c st W) : W.M st := by
  obtain ⟨ns, i, b, s, f, k, o, _⟩ := h
  exact o.2
theorem Sto.less {K : PySem.W.Frag} {c st : Addr} {W W' : Wd} (h : Sto K c st W) (m : Less W W') (n : W'.M st) : Sto K c st W' := by
  obtain ⟨ns, i, b, s, f, k, o, hi, hc⟩ := h
  exact ⟨ns, i, b, s, f, k, ⟨by rw [m.H]; exact o.1, n⟩, hi, hc.less m⟩
theorem Sto.ne {K : PySem.W.Frag} {c st : Addr} {W : Wd} (h : Sto K c st W) {p : Addr} (hp : W.H p = none) : st ≠ p := fun e => by
  rw [← e] at hp
  exact Wd.ne h.inM hp
end Q

/-! KitC: the rules that the printed terms use -/
namespace Q
open PySem PySem.Spec PyProof.Rows L2
/-- the builtins' names are the builtins' -/
structure Std (Z : Env) : Prop where
  len : Z.mg "len" = none
  range : Z.mg "range" = none
  isinstance : Z.mg "isinstance" = none
  int : Z.mg "int" = none
  str : Z.mg "str" = none
  bool : Z.mg "bool" = none
  list : Z.mg "list" = none
  tuple : Z.mg "tuple" = none
  dict : Z.mg "dict" = none
  all : Z.mg "all" = none
  any : Z.mg "any" = none
  abs : Z.mg "abs" = none
  sum : Z.mg "sum" = none
  sorted : Z.mg "sorted" = none
  min : Z.mg "min" = none
  max : Z.mg "max" = none
  set : Z.mg "set" = none
  enumerate : Z.mg "enumerate" = none
  zip : Z.mg "zip" = none
  reversed : Z.mg "reversed" = none
  ValueError : Z.mg "ValueError" = none
/-- the module's name x holds v -/
def Gv (Z : Env) (x : Str) (v : V) : Prop := ∃ u, Z.mg x = some u ∧ RelV v u
section
variable {X : Cx} {Z : Env}
theorem pglob {x : Str} {v : V} {pos : Pos} (g : Gv Z x v) (hm : X.mg = Z.mg := by rfl) (hg : Gl X x := by rfl) (hd : (x == ("__debug__" : Str)) = false := by decide) : PE X (.Name x pos) (tC v) := by
  obtain ⟨u, h1, h2⟩ := g
  rw [← hm] at h1
  exact pe_glob hg h1 h2 hd
def rLenU (K : PySem.W.Frag) : List V → Hp → VK → Prop := fun xs H Q => (∃ x n, xs = [x] ∧ LenV K x H n ∧ Q (.int n) H) ∨ ∃ a kvs, xs = [V.ref a] ∧ Rd H a (.dK kvs) ∧ Q (.int kvs.length) H
theorem call_lenRd {X : Cx} : CallR X (.builtin "len") (fun xs H Q => ∃ a kvs, xs = [V.ref a] ∧ Rd H a (.dK kvs) ∧ Q (.int kvs.length) H) := by
  intro pins s σ H xs us Q I r ⟨a, kvs, e, ha, q⟩
  subst e
  obtain ⟨u, rfl, ru⟩ := vals1 r
  obtain rfl : u = Value.ref a := ru
  exact d_len I ha fun t s2 I2 => ⟨V.int kvs.length, H, I2, ⟨t, rfl⟩, q⟩
theorem c_len : CallR X (.builtin "len") (rLenU X.K) := CallR.or2 call_len call_lenRd
def rIntU : List V → Hp → VK → Prop := fun xs H Q => ((∃ i, xs = [.int i] ∧ Q (.int i) H) ∨ ∃ k, xs = [.bl k] ∧ Q (.int (if k then 1 else 0)) H) ∨ ∃ a n, xs = [.str a] ∧ PySem.intText? a = some n ∧ a.length ≤ 640 ∧ Q (.int n) H
theorem c_int : CallR X (.type "int") rIntU := CallR.or2 call_int1 call_int_str
def rStrU : List V → Hp → VK → Prop := fun xs H Q => ∃ i, xs = [.int i] ∧ i.natAbs.log2 < 1920 ∧ Q (.str (toString i)) H
theorem c_str : CallR X (.type "str") rStrU := call_str_int
def rEqU (K : PySem.W.Frag) : R2 := fun x y H Q => rEq x y H Q ∨ rEqD K x y H Q
def rNeU (K : PySem.W.Frag) : R2 := fun x y H Q => rNe x y H Q ∨ rNeD K x y H Q
theorem o_eq (hu : X.A.units + 64 < cLine) : OpR X (compareOp .Eq) (rEqU X.K) := OpR.or2 op_eq (op_eqD hu)
theorem o_ne (hu : X.A.units + 64 < cLine) : OpR X (compareOp .NotEq) (rNeU X.K) := OpR.or2 op_ne (op_neD hu)
def rSlU (K : PySem.W.Frag) : V → Option Int → Option Int → Hp → VK → Prop := fun x lo hi H Q => rSlL K x lo hi H Q ∨ rSlS x lo hi H Q
theorem sl_any : SlR X (rSlU X.K) := SlR.or sl_list sl_str
def iAny (K : PySem.W.Frag) (te : TE) : TI := fun σ H R => iList K te σ H R ∨ iTup K te σ H R ∨ iStr te σ H R
theorem pi_any {tg e : Expr} {te : TE} (he : PE X e te) : PI X tg e (iAny X.K te) := ⟨fun pins s σ H R I h => h.elim ((pi_list he).run pins s σ H R I) fun h => h.elim ((pi_tup he).run pins s σ H R I) ((pi_str he).run pins s σ H R I)⟩
end
/-! the same, the written part named -/
section
variable {X : Cx} (K : PySem.W.Frag)
theorem k_ix (hK : X.K = K := by rfl) : IxR X (rIx K) := by rw [← hK]; exact ix_seq
theorem k_len (hK : X.K = K := by rfl) : CallR X (.builtin "len") (rLenU K) := by rw [← hK]; exact c_len
theorem k_in (hK : X.K = K := by rfl) : OpR X (compareOp .In) (rInU K false) := by rw [← hK]; exact o_in
theorem k_notIn (hK : X.K = K := by rfl) : OpR X (compareOp .NotIn) (rInU K true) := by rw [← hK]; exact o_notIn
theorem k_eq (hu : X.A.units + 64 < cLine) (hK : X.K = K := by rfl) : OpR X (compareOp .Eq) (rEqU K) := by rw [← hK]; exact o_eq hu
theorem k_ne (hu : X.A.units + 64 < cLine) (hK : X.K = K := by rfl) : OpR X (compareOp .NotEq) (rNeU K) := by rw [← hK]; exact o_ne hu
theorem k_sl (hK : X.K = K := by rfl) : SlR X (rSlU K) := by rw [← hK]; exact sl_any
theorem k_isi (hK : X.K = K := by rfl) : CallR X (.builtin "isinstance") (rIsi K) := by rw [← hK]; exact call_isi
theorem k_all (hc : X.calm = true := by rfl) (hK : X.K = K := by rfl) : CallR X (.builtin "all") (rAll K) := by rw [← hK]; exact cr_all hc
theorem k_anyB (hc : X.calm = true := by rfl) (hK : X.K = K := by rfl) : CallR X (.builtin "any") (rAny K) := by rw [← hK]; exact cr_any hc
theorem k_sum (hc : X.calm = true := by rfl) (hK : X.K = K := by rfl) : CallR X (.builtin "sum") (rSum K) := by rw [← hK]; exact cr_sum hc
def rListOf (K : PySem.W.Frag) : List V → Hp → VK → Prop := fun xs H Q => ∃ p ys, xs = [.ref p] ∧ (SqL K H p ys ∨ SqT K H p ys) ∧ ∀ l, H l = none → Q (.ref l) (upd H l (.lst ys))
theorem k_listOf (hK : X.K = K := by rfl) : CallR X (.type "list") (rListOf K) := by rw [← hK]; exact call_list_of
def rTupleOf (K : PySem.W.Frag) : List V → Hp → VK → Prop := fun xs H Q => ∃ p ys, xs = [.ref p] ∧ ((SqL K H p ys ∧ ∀ l, H l = none → Q (.ref l) (upd H l (.tup ys))) ∨ (SqT K H p ys ∧ Q (.ref p) H))
theorem k_tupleOf (hK : X.K = K := by rfl) : CallR X (.type "tuple") (rTupleOf K) := by rw [← hK]; exact call_tuple_of
theorem k_pi {tg e : Expr} {te : TE} (he : PE X e te) (hK : X.K = K := by rfl) : PI X tg e (iAny K te) := by rw [← hK]; exact pi_any he
theorem k_tup {es : List Expr} {k : Nat} {t : TGs} {n : Nat} {pos : Pos} (hc : X.calm = true) (h : PGs X es t) (hK : X.K = K := by rfl)
    (hn : (assignEach es X.env).length = n := by rfl) (hst : (assignEach es X.env).findIdx? (·.1) = none := by rfl) : PG X (.Tuple es k pos) (gTup K n t) := by rw [← hK]; exact pg_tup hc h hn hst
def rJoinK (K : PySem.W.Frag) : V → List V → Hp → VK → Prop := fun x xs H Q => ∃ a p, ∃ ys : List Str, x = .str a ∧ xs = [.ref p] ∧ (SqL K H p (ys.map V.str) ∨ SqT K H p (ys.map V.str)) ∧ (ys.map (·.length)).sum + ys.length * a.length ≤ 16777216 ∧ Q (.str (Txt.join a ys)) H
theorem k_join {o e : Expr} {to te : TE} {apos pos : Pos} (ho : PE X o to) (he : PE X e te) (hK : X.K = K := by rfl) (hs : starEach [e] X.env = [(false, eval e X.env)] := by rfl) (hbase : attributeBase o "join" X.env (eval o X.env) = eval o X.env := by rfl) (hline : (apos.endLine == pos.line) = true := by rfl) :
    PE X (.Call (.Attribute o "join" apos) [e] [] pos) (tM1 (rJoinK K) to te) := by rw [← hK]; exact pe_join ho he hs hbase hline
variable {o e : Expr} {es : List Expr} {to : TE} {t : TA} {name : Str} {apos cpos : Pos} {T id : String} {r : V → List V → Hp → VK → Prop}
theorem k_bm0 (pa : PlainAttrs T) (slot : Slot T name id) (hty : typeOf (.builtin id) = pure (.type "method_descriptor")) (hm : MtR X id r) (ho : PE X o to) (hK : X.K = K := by rfl)
    (hbase : attributeBase o name X.env (eval o X.env) = eval o X.env := by rfl) (hline : (apos.endLine == cpos.line) = true := by rfl) : PE X (.Call (.Attribute o name apos) [] [] cpos) (tBM0 K T r to) := by
  rw [← hK]; exact pe_bm0 pa slot hty hm ho hbase hline
theorem k_bm (pa : PlainAttrs T) (slot : Slot T name id) (hty : typeOf (.builtin id) = pure (.type "method_descriptor")) (hm : MtR X id r) (ho : PE X o to) (ha : PA X (e :: es) t) (hK : X.K = K := by rfl)
    (hbase : attributeBase o name X.env (eval o X.env) = eval o X.env := by rfl)
    (hfew : ((backTo cpos (starEach (e :: es) X.env)).all (fun x => !x.1) && (backToKw cpos (keywordEach [] X.env)).all (fun x => x.1.isSome)
      && decide ((e :: es).length + ([] : List Keyword).length + (if ([] : List Keyword).isEmpty then 0 else 1) < 30)) = true := by rfl)
    (hline : (apos.endLine == cpos.line) = true := by rfl) (hs : starEach (e :: es) X.env = (false, eval e X.env) :: starEach es X.env := by rfl) (hplain : (backTo cpos (starEach es X.env)).any (·.1) = false := by rfl) :
    PE X (.Call (.Attribute o name apos) (e :: es) [] cpos) (tBM K T r to t) := by
  rw [← hK]; exact pe_bm pa slot hty hm ho ha hbase hfew hline hs hplain
end
def rPartK : V → List V → Hp → VK → Prop := fun x xs H Q => ∃ a b, x = .str a ∧ xs = [.str b] ∧ (b.length == 0) = false ∧ a.length ≤ sizeLine ∧ ∀ p, H p = none → Q (.ref p) (upd H p (.tup [.str (Txt.partition a b).1, .str (Txt.partition a b).2.1, .str (Txt.partition a b).2.2]))
def rSplitK : V → List V → Hp → VK → Prop := fun x xs H Q => ∃ a b, x = .str a ∧ xs = [.str b] ∧ (b.length == 0) = false ∧ a.length + 2 ≤ sizeLine ∧ rNewStrs (Txt.split a b) H Q
section
variable {X : Cx} {o e : Expr} {to te : TE} {apos pos : Pos}
theorem k_partition (ho : PE X o to) (he : PE X e te) (hs : starEach [e] X.env = [(false, eval e X.env)] := by rfl) (hbase : attributeBase o "partition" X.env (eval o X.env) = eval o X.env := by rfl) (hline : (apos.endLine == pos.line) = true := by rfl) :
    PE X (.Call (.Attribute o "partition" apos) [e] [] pos) (tM1 rPartK to te) := pe_partition ho he hs hbase hline
theorem k_split (ho : PE X o to) (he : PE X e te) (hs : starEach [e] X.env = [(false, eval e X.env)] := by rfl) (hbase : attributeBase o "split" X.env (eval o X.env) = eval o X.env := by rfl) (hline : (apos.endLine == pos.line) = true := by rfl) :
    PE X (.Call (.Attribute o "split" apos) [e] [] pos) (tM1 rSplitK to te) := pe_split ho he hs hbase hline
end
theorem h64 {A : Around} {k : Nat} (r : Room k A) : A.units + 64 < cLine := by have := r.un; omega
theorem h1 {A : Around} {k : Nat} (r : Room k A) : A.units + 1 < cLine := by have := r.un; omega
/-- a list that is being changed is changed -/
theorem set_own {W : Wd} {p : Addr} {xs ys : List V} {G : Hp → Prop} (h : Own W p xs) (k : ∀ W', Mod [p] W W' → Own W' p ys → G W'.H) : G (upd W.H p (.lst ys)) :=
  k (W.set p ys) (Wd.set_mod h.2) (Wd.set_own h.2)
/-! ### the promises of the draws -/
def spLoad (K : PySem.W.Frag) : Sp := fun vs H Q _ => ∃ W c st, W.H = H ∧ vs = [.ref st] ∧ Sto K c st W ∧ ∀ W', Mod [st] W W' → Sto K c st W' → Q .non W'.H
def spTake (K : PySem.W.Frag) : Sp := fun vs H Q _ => ∃ W c st m, W.H = H ∧ vs = [.ref st, .int m] ∧ Sto K c st W ∧ m < 1073741824 ∧ ∀ r W', Mod [st] W W' → Sto K c st W' → 0 ≤ r → (r < m ∨ r = 0) → Q (.int r) W'.H
end Q

/-! KitD: readings, step by step -/
namespace Q
open PySem PySem.Spec PyProof.Rows L2
theorem sz {n : Nat} (h : n ≤ 100000) : n ≤ sizeLine := Nat.le_trans h (by decide)
theorem szl {n : Nat} (h : n < 100000) : n < sizeLine := Nat.lt_of_lt_of_le h (by decide)
/-- a word kept closed -/
def hide (P : L2.St → Hp → Prop) : L2.St → Hp → Prop := P
section
variable {σ : L2.St} {H : Hp} {Q : VK} {v x y : V} {i j : Int} {n : Nat} {a b : Str} {c : Bool} {K : PySem.W.Frag}
theorem i_var (h : σ[n]? = some (some v)) (q : Q v H) : tVar n σ H Q := ⟨v, h, q⟩
theorem i_I0 {g : Int → Int → V} (q : Q (g i j) H) : rI0 g (.int i) (.int j) H Q := ⟨i, j, rfl, rfl, q⟩
theorem i_I {C : Int → Int → Prop} {g : Int → Int → V} (h : C i j) (q : Q (g i j) H) : rI C g (.int i) (.int j) H Q := ⟨i, j, rfl, rfl, h, q⟩
theorem i_U {g : Int → V} (q : Q (g i) H) : rU g (.int i) H Q := ⟨i, rfl, q⟩
theorem i_addI (q : Q (.int (i + j)) H) : rAddU (.int i) (.int j) H Q := .inl ⟨i, j, rfl, rfl, q⟩
theorem i_addS (h : a.length + b.length ≤ sizeLine) (q : Q (.str (a ++ b)) H) : rAddU (.str a) (.str b) H Q := .inr (.inl ⟨a, b, rfl, rfl, h, q⟩)
theorem i_lt (q : Q (.bl (decide (i < j))) H) : rLtU (.int i) (.int j) H Q := ⟨i, j, rfl, rfl, q⟩
theorem i_gt (q : Q (.bl (decide (j < i))) H) : rGtU (.int i) (.int j) H Q := ⟨i, j, rfl, rfl, q⟩
theorem i_le (q : Q (.bl (decide (i ≤ j))) H) : rLeU (.int i) (.int j) H Q := ⟨i, j, rfl, rfl, q⟩
theorem i_ge (q : Q (.bl (decide (j ≤ i))) H) : rGeU (.int i) (.int j) H Q := ⟨i, j, rfl, rfl, q⟩
theorem i_isN (q : Q (.bl (decide (x = .non))) H) : rIsNU x .non H Q := ⟨rfl, q⟩
theorem i_notN (q : Q (.bl (!decide (x = .non))) H) : rNotNU x .non H Q := ⟨rfl, q⟩
theorem i_isNI (q : Q (.bl false) H) : rIsNU (.int i) .non H Q := ⟨rfl, q⟩
theorem i_notNI (q : Q (.bl true) H) : rNotNU (.int i) .non H Q := ⟨rfl, q⟩
theorem i_isNS (q : Q (.bl false) H) : rIsNU (.str a) .non H Q := ⟨rfl, q⟩
theorem i_notNS (q : Q (.bl true) H) : rNotNU (.str a) .non H Q := ⟨rfl, q⟩
theorem i_isNB (q : Q (.bl false) H) : rIsNU (.bl c) .non H Q := ⟨rfl, q⟩
theorem i_notNB (q : Q (.bl true) H) : rNotNU (.bl c) .non H Q := ⟨rfl, q⟩
theorem i_isNR {p : Addr} (q : Q (.bl false) H) : rIsNU (.ref p) .non H Q := ⟨rfl, q⟩
theorem i_notNR {p : Addr} (q : Q (.bl true) H) : rNotNU (.ref p) .non H Q := ⟨rfl, q⟩
theorem i_isN0 (q : Q (.bl true) H) : rIsNU .non .non H Q := ⟨rfl, q⟩
theorem i_notN0 (q : Q (.bl false) H) : rNotNU .non .non H Q := ⟨rfl, q⟩
theorem i_int (q : Q (.int i) H) : rIntU [.int i] H Q := .inl (.inl ⟨i, rfl, q⟩)
theorem i_intB (q : Q (.int (if c then 1 else 0)) H) : rIntU [.bl c] H Q := .inl (.inr ⟨c, rfl, q⟩)
theorem i_intS (h : PySem.intText? a = some i) (hl : a.length ≤ 640) (q : Q (.int i) H) : rIntU [.str a] H Q := .inr ⟨a, i, rfl, h, hl, q⟩
theorem i_str (h : i.natAbs.log2 < 1920) (q : Q (.str (toString i)) H) : rStrU [.int i] H Q := ⟨i, rfl, h, q⟩
theorem ex_bl {B : Bool → Hp → Prop} (q : B c H) : ∃ k, V.bl c = .bl k ∧ B k H := ⟨c, rfl, q⟩
theorem ex_bl2 {B : Bool → Prop} (q : B c) : ∃ k, V.bl c = .bl k ∧ B k := ⟨c, rfl, q⟩
theorem ex_int {B : Int → Prop} (q : B i) : ∃ k, V.int i = .int k ∧ B k := ⟨i, rfl, q⟩
theorem ex_str2 {B : Str → Prop} {z : Str} (q : B z) : ∃ y, V.str z = .str y ∧ B y := ⟨z, rfl, q⟩
theorem ex_ref {B : Addr → Prop} {p : Addr} (q : B p) : ∃ a, V.ref p = .ref a ∧ B a := ⟨p, rfl, q⟩
theorem ex_ints {B : Int → Prop} {i : Int} (q : B i) : ∃ k, [V.int i] = [.int k] ∧ B k := ⟨i, rfl, q⟩
theorem ex_str {B : Prop} (q : B) : (∃ k, V.str a = .str k) ∧ B := ⟨⟨a, rfl⟩, q⟩
end
/-! what stands there -/
section
variable {σ : L2.St} {H : Hp} {Q : VK} {v x y o : V} {n : Nat} {K : PySem.W.Frag} {G : Hp → Prop} {xs : List V} {C : Int → Int → Prop} {g : Int → Int → V}
theorem g_setL (h : rSetL o x v H G) : rSetL o x v H G := h
theorem g_ix (h : rIx K x y H Q) : rIx K x y H Q := h
theorem g_len (h : rLenU K xs H Q) : rLenU K xs H Q := h
theorem g_var (h : tVar n σ H Q) : tVar n σ H Q := h
theorem g_I (h : rI C g x y H Q) : rI C g x y H Q := h
end
/-- a new list, a new tuple -/
def NewL (xs : List V) (Q : VK) (H : Hp) : Prop := ∀ p, H p = none → Q (.ref p) (upd H p (.lst xs))
def NewT (xs : List V) (Q : VK) (H : Hp) : Prop := ∀ p, H p = none → Q (.ref p) (upd H p (.tup xs))
def NewD (kvs : List (Key × V)) (Q : VK) (H : Hp) : Prop := ∀ p, H p = none → Q (.ref p) (upd H p (.dK kvs))
theorem mk_lst {K : PySem.W.Frag} {W : Wd} {xs : List V} {ds : List D} {Q : VK} (r : RpL K W xs ds) (k : ∀ p W', Mod [] W W' → W.H p = none → Rp K W' (.ref p) (.lst ds) → Q (.ref p) W'.H) : NewL xs Q W.H :=
  new_lst (G := Q) r fun p W' m n _ q => k p W' m n q
theorem mk_own {W : Wd} {xs : List V} {Q : VK} (k : ∀ p W', Mod [] W W' → W.H p = none → Own W' p xs → Q (.ref p) W'.H) : NewL xs Q W.H := new_own (G := Q) k
theorem mk_tup {K : PySem.W.Frag} {W : Wd} {xs : List V} {ds : List D} {Q : VK} (r : RpL K W xs ds) (k : ∀ p W', Mod [] W W' → W.H p = none → SqT K W'.H p xs → Rp K W' (.ref p) (.tup ds) → Q (.ref p) W'.H) : NewT xs Q W.H :=
  new_tup (G := Q) r k
theorem mk_dct {K : PySem.W.Frag} {W : Wd} {kvs : List (Key × V)} {ds : List (Key × D)} {Q : VK} (r : RpK K W kvs ds) (k : ∀ p W', Mod [] W W' → W.H p = none → Rp K W' (.ref p) (.dct ds) → Q (.ref p) W'.H) : NewD kvs Q W.H := fun p hp =>
  k p (W.put p _ hp) (Wd.put_mod hp) hp (.dct (.inl upd_same) (fun z => Wd.ne (show W.M p from z) hp) (r.up (Wd.put_mod hp)))
/-! structure -/
section
variable {σ : L2.St} {H : Hp} {R : List V → Hp → Prop} {te ta tb tc : TE} {tr : TA} {D : Ends} {t u : TS} {tt tu : TT} {g : TG} {B : Bool → Hp → Prop} {Q : VK} {v : V} {r r' : R2} {sp : Sp} {dvs : List V} {E : XK} {K : PySem.W.Frag}
theorem i_nil (h : R [] H) : tNil σ H R := h
theorem i_cons (h : ta σ H fun x H1 => tr σ H1 fun xs H2 => R (x :: xs) H2) : tCons ta tr σ H R := h
theorem i_c (h : Q v H) : tC v σ H Q := h
theorem i_op (h : ta σ H fun x H1 => tb σ H1 fun y H2 => r x y H2 Q) : tOp r ta tb σ H Q := h
theorem i_un {ru : V → Hp → VK → Prop} (h : ta σ H fun x H1 => ru x H1 Q) : tUn ru ta σ H Q := h
theorem i_test (h : te σ H fun x H' => ∃ k, x = .bl k ∧ B k H') : tTest te σ H B := h
theorem i_b (h : te σ H fun x H' => ∃ k, x = .bl k ∧ B k H') : tB te σ H B := h
theorem i_and (h : tt σ H fun c H1 => if c = true then tu σ H1 B else B false H1) : tAnd tt tu σ H B := h
theorem i_or (h : tt σ H fun c H1 => if c = true then B true H1 else tu σ H1 B) : tOr tt tu σ H B := h
theorem i_not (h : tt σ H fun c H1 => B (!c) H1) : tNot tt σ H B := h
theorem i_andV (h : ta σ H fun x H1 => ∃ c, x = .bl c ∧ if c = true then tb σ H1 Q else Q (.bl false) H1) : tAndV ta tb σ H Q := h
theorem i_orV (h : ta σ H fun x H1 => ∃ c, x = .bl c ∧ if c = true then Q (.bl true) H1 else tb σ H1 Q) : tOrV ta tb σ H Q := h
theorem i_notV (h : ta σ H fun x H1 => ∃ c, x = .bl c ∧ Q (.bl (!c)) H1) : tNotV ta σ H Q := h
theorem i_if (h : tt σ H fun c H1 => if c = true then ta σ H1 Q else tb σ H1 Q) : tIf tt ta tb σ H Q := h
theorem i_seq (h : t { D with nx := u D } σ H) : tSeq t u D σ H := h
theorem i_next (h : D.nx σ H) : tNext D σ H := h
theorem i_drop (h : te σ H fun _ H1 => D.nx σ H1) : tDrop te D σ H := h
theorem i_ret (h : te σ H D.rt) : tRet te D σ H := h
theorem i_retN (h : D.rt .non H) : tRetN D σ H := h
theorem i_ifS (h : tt σ H fun b H1 => if b = true then t D σ H1 else u D σ H1) : tIfS tt t u D σ H := h
theorem i_asg (h : te σ H fun x H1 => g x σ H1 D.nx) : tAsg te g D σ H := h
theorem i_name {i : Nat} {R : L2.St → Hp → Prop} (h : R (σ.set i (some v)) H) : gName i v σ H R := h
theorem i_sub {ts : TSet} {R : L2.St → Hp → Prop} (h : ta σ H fun o H1 => tb σ H1 fun i H2 => ts o i v H2 fun H3 => R σ H3) : gSub ta tb ts v σ H R := h
theorem i_cb {rc : List V → Hp → VK → Prop} (h : tr σ H fun vs H1 => rc vs H1 Q) : tCB rc tr σ H Q := h
theorem i_call (h : tr σ H fun vs H1 => sp (vs ++ dvs) H1 Q E) : tCall sp dvs E tr σ H Q := h
theorem i_tup (h : tr σ H fun xs H1 => xs.length ≤ sizeLine ∧ NewT xs Q H1) : tTup tr σ H Q := h
theorem i_lst (h : tr σ H fun xs H1 => xs.length ≤ sizeLine ∧ NewL xs Q H1) : tLst tr σ H Q := h
theorem i_bm {T : String} {rm : V → List V → Hp → VK → Prop} (h : te σ H fun x H1 => tyV K T x H1 ∧ tr σ H1 fun xs H2 => rm x xs H2 Q) : tBM K T rm te tr σ H Q := h
theorem i_bm0 {T : String} {rm : V → List V → Hp → VK → Prop} (h : te σ H fun x H1 => tyV K T x H1 ∧ rm x [] H1 Q) : tBM0 K T rm te σ H Q := h
theorem i_m1 {rm : V → List V → Hp → VK → Prop} (h : te σ H fun x H1 => (∃ a, x = .str a) ∧ ta σ H1 fun y H2 => rm x [y] H2 Q) : tM1 rm te ta σ H Q := h
theorem i_m0 {rm : V → List V → Hp → VK → Prop} (h : te σ H fun x H1 => (∃ a, x = .str a) ∧ rm x [] H1 Q) : tM0 rm te σ H Q := h
theorem i_sl {rs : V → Option Int → Option Int → Hp → VK → Prop} {tl th : TO} (h : te σ H fun x H1 => tl σ H1 fun l H2 => th σ H2 fun u H3 => rs x l u H3 Q) : tSl rs te tl th σ H Q := h
theorem i_noPart {R : Option Int → Hp → Prop} (h : R none H) : tNoPart σ H R := h
theorem i_part {R : Option Int → Hp → Prop} (h : te σ H fun x H1 => ∃ i, x = .int i ∧ R (some i) H1) : tPart te σ H R := h
theorem i_chain (h : ta σ H fun x H1 => tb σ H1 fun y H2 => r x y H2 fun z H3 => ∃ k, z = .bl k ∧ if k = true then tc σ H3 fun w H4 => r' y w H4 Q else Q (.bl false) H3) : tChain r r' ta tb tc σ H Q := h
end
section
variable {K : PySem.W.Frag} {W : Wd} {p : Addr} {xs ys : List V} {ds : List D} {d : D} {i k : Int} {j n : Nat} {v x y : V} {Q : VK} {G : Hp → Prop} {z : Str}
theorem Rp.seqL (h : Rp K W (.ref p) (.lst ds)) : ∃ xs, SqL K W.H p xs ∧ RpL K W xs ds := by
  cases h with
  | lst h1 _ h2 => exact ⟨_, .inl (.inl h1), h2⟩
theorem Rp.seqT (h : Rp K W (.ref p) (.tup ds)) : ∃ xs, SqT K W.H p xs ∧ RpL K W xs ds := by
  cases h with
  | tup h1 h2 => exact ⟨_, h1, h2⟩
/-! subscripts -/
theorem ixL (h : SqL K W.H p xs) (ha : atI xs i = some v) (q : Q v W.H) : rIx K (.ref p) (.int i) W.H Q := .inl ⟨p, xs, i, v, rfl, rfl, h, ha, q⟩
theorem ixT (h : SqT K W.H p xs) (ha : atI xs i = some v) (q : Q v W.H) : rIx K (.ref p) (.int i) W.H Q := .inr (.inl ⟨p, xs, i, v, rfl, rfl, h, ha, q⟩)
theorem ixO (h : Own W p xs) (ha : atI xs i = some v) (q : Q v W.H) : rIx K (.ref p) (.int i) W.H Q := ixL h.sq ha q
theorem ixS {c : Nat} (hz : z.length ≤ sizeLine) (ha : atI z.cps.toList i = some c) (q : Q (.str ⟨#[c]⟩) W.H) : rIx K (.str z) (.int i) W.H Q := .inr (.inr ⟨z, i, c, rfl, rfl, hz, ha, q⟩)
theorem at_nat {α : Type} {l : List α} {j : Nat} {x : α} (h : l[j]? = some x) : atI l (j : Int) = some x := atI_nat h
theorem at_pos {α : Type} {l : List α} {i : Int} {x : α} (h0 : 0 ≤ i) (h : l[i.toNat]? = some x) : atI l i = some x := by
  obtain ⟨n, rfl⟩ := Int.eq_ofNat_of_zero_le h0
  exact atI_nat (by simpa using h)
theorem ixRL (h : Rp K W (.ref p) (.lst ds)) (h0 : 0 ≤ i) (hd : ds[i.toNat]? = some d) (q : ∀ v, Rp K W v d → Q v W.H) : rIx K (.ref p) (.int i) W.H Q := by
  obtain ⟨xs, h1, h2⟩ := h.seqL
  obtain ⟨v, h3, h4⟩ := h2.getD hd
  exact ixL h1 (at_pos h0 h3) (q v h4)
theorem ixRT (h : Rp K W (.ref p) (.tup ds)) (h0 : 0 ≤ i) (hd : ds[i.toNat]? = some d) (q : ∀ v, Rp K W v d → Q v W.H) : rIx K (.ref p) (.int i) W.H Q := by
  obtain ⟨xs, h1, h2⟩ := h.seqT
  obtain ⟨v, h3, h4⟩ := h2.getD hd
  exact ixT h1 (at_pos h0 h3) (q v h4)
/-! lengths -/
theorem lenL (h : SqL K W.H p xs) (q : Q (.int xs.length) W.H) : rLenU K [.ref p] W.H Q := .inl ⟨_, xs.length, rfl, .inl ⟨xs, h, rfl⟩, q⟩
theorem lenO (h : Own W p xs) (q : Q (.int xs.length) W.H) : rLenU K [.ref p] W.H Q := lenL h.sq q
theorem lenT (h : SqT K W.H p xs) (q : Q (.int xs.length) W.H) : rLenU K [.ref p] W.H Q := .inl ⟨_, xs.length, rfl, .inr ⟨xs, h, rfl⟩, q⟩
theorem lenS (hz : z.length ≤ sizeLine) (q : Q (.int z.length) W.H) : rLenU K [.str z] W.H Q := .inl ⟨_, z.length, rfl, ⟨hz, rfl⟩, q⟩
theorem lenRL (h : Rp K W (.ref p) (.lst ds)) (q : Q (.int ds.length) W.H) : rLenU K [.ref p] W.H Q := by
  obtain ⟨xs, h1, h2⟩ := h.seqL
  exact lenL h1 (by rw [h2.length]; exact q)
theorem lenRT (h : Rp K W (.ref p) (.tup ds)) (q : Q (.int ds.length) W.H) : rLenU K [.ref p] W.H Q := by
  obtain ⟨xs, h1, h2⟩ := h.seqT
  exact lenT h1 (by rw [h2.length]; exact q)
/-! a list that is being changed -/
theorem setO (h : Own W p xs) (hj : ixN xs.length k = some j) (q : ∀ W', Mod [p] W W' → Own W' p (xs.set j v) → G W'.H) : rSetL (.ref p) (.int k) v W.H G :=
  ⟨p, xs, k, j, rfl, rfl, h.1, hj, set_own h q⟩
theorem tyO (h : Own W p xs) : tyV K "list" (.ref p) W.H := .inl ⟨rfl, _, h.sq⟩
theorem appO (h : Own W p xs) (hz : xs.length < sizeLine) (q : ∀ W', Mod [p] W W' → Own W' p (xs ++ [y]) → Q .non W'.H) : rAppend (.ref p) [y] W.H Q :=
  ⟨p, xs, y, rfl, rfl, h.1, hz, set_own (G := fun H => Q .non H) h q⟩
theorem popO (h : Own W p xs) (hx : xs[xs.length - 1]? = some y) (q : ∀ W', Mod [p] W W' → Own W' p xs.dropLast → Q y W'.H) : rPop (.ref p) [] W.H Q :=
  ⟨p, xs, y, rfl, rfl, h.1, hx, set_own (G := fun H => Q y H) h q⟩
theorem popAtO (h : Own W p xs) (h1 : 0 ≤ i) (h2 : i < 2 ^ 62) (hx : xs[i.toNat]? = some y) (q : ∀ W', Mod [p] W W' → Own W' p (xs.eraseIdx i.toNat) → Q y W'.H) : rPopAt (.ref p) [.int i] W.H Q := by
  refine ⟨p, xs, i, i.toNat, y, rfl, rfl, h.1, by omega, by omega, ?_, hx, set_own (G := fun H => Q y H) h q⟩
  have hl : i.toNat < xs.length := (List.getElem?_eq_some_iff.mp hx).1
  unfold seqIndex?
  first
    | (simp only [show ¬ i < 0 by omega, if_false, show (0 ≤ i ∧ i < xs.length) by omega, if_true]; done)
    | (simp; omega)
/-! tests -/
theorem iteD {c A B : Prop} [Decidable c] (h1 : c → A) (h2 : ¬ c → B) : if decide c = true then A else B := by
  by_cases h : c
  · rw [if_pos (decide_eq_true h)]; exact h1 h
  · rw [if_neg (by simpa using h)]; exact h2 h
theorem iteND {c A B : Prop} [Decidable c] (h1 : ¬ c → A) (h2 : c → B) : if (!decide c) = true then A else B := by
  by_cases h : c
  · rw [if_neg (by simp [h])]; exact h2 h
  · rw [if_pos (by simp [h])]; exact h1 h
theorem iteB {b : Bool} {A B : Prop} (h1 : b = true → A) (h2 : b = false → B) : if b = true then A else B := by
  cases b with
  | true => rw [if_pos rfl]; exact h1 rfl
  | false => rw [if_neg Bool.false_ne_true]; exact h2 rfl
theorem iteNT {A B : Prop} (h : B) : if (!true) = true then A else B := h
theorem iteNF {A B : Prop} (h : A) : if (!false) = true then A else B := h
theorem iteNB {b : Bool} {A B : Prop} (h1 : b = false → A) (h2 : b = true → B) : if (!b) = true then A else B := by
  cases b with
  | true => exact h2 rfl
  | false => exact h1 rfl
/-! == of flat things -/
theorem eqF (hs : scal x y = true) (q : Q (.bl (decide (x = y))) W.H) : rEqU K x y W.H Q := .inl ⟨hs, q⟩
theorem neF (hs : scal x y = true) (q : Q (.bl (!decide (x = y))) W.H) : rNeU K x y W.H Q := .inl ⟨hs, q⟩
theorem dI {a b : Int} : decide (V.int a = V.int b) = decide (a = b) := decide_eq_decide.mpr ⟨fun h => by cases h; rfl, fun h => by rw [h]⟩
theorem dS {a b : Str} : decide (V.str a = V.str b) = decide (a = b) := decide_eq_decide.mpr ⟨fun h => by cases h; rfl, fun h => by rw [h]⟩
theorem dB {a b : Bool} : decide (V.bl a = V.bl b) = decide (a = b) := decide_eq_decide.mpr ⟨fun h => by cases h; rfl, fun h => by rw [h]⟩
theorem eqI {a b : Int} (q : Q (.bl (decide (a = b))) W.H) : rEqU K (.int a) (.int b) W.H Q := eqF rfl (by rw [dI]; exact q)
theorem neI {a b : Int} (q : Q (.bl (!decide (a = b))) W.H) : rNeU K (.int a) (.int b) W.H Q := neF rfl (by rw [dI]; exact q)
theorem eqB {a b : Bool} (q : Q (.bl (decide (a = b))) W.H) : rEqU K (.bl a) (.bl b) W.H Q := eqF rfl (by rw [dB]; exact q)
theorem neB {a b : Bool} (q : Q (.bl (!decide (a = b))) W.H) : rNeU K (.bl a) (.bl b) W.H Q := neF rfl (by rw [dB]; exact q)
theorem eqS {a b : Str} (q : Q (.bl (decide (a = b))) W.H) : rEqU K (.str a) (.str b) W.H Q := eqF rfl (by rw [dS]; exact q)
theorem neS {a b : Str} (q : Q (.bl (!decide (a = b))) W.H) : rNeU K (.str a) (.str b) W.H Q := neF rfl (by rw [dS]; exact q)
/-! the draws -/
theorem use_take {c st : Addr} {m : Int} {E : XK} (h : Sto K c st W) (hm : m < 1073741824) (q : ∀ r W', Mod [st] W W' → Sto K c st W' → 0 ≤ r → (r < m ∨ r = 0) → Q (.int r) W'.H) : spTake K ([.ref st, .int m] ++ []) W.H Q E :=
  ⟨W, c, st, m, rfl, rfl, h, hm, q⟩
theorem use_load {c st : Addr} {E : XK} (h : Sto K c st W) (q : ∀ W', Mod [st] W W' → Sto K c st W' → Q .non W'.H) : spLoad K ([.ref st] ++ []) W.H Q E :=
  ⟨W, c, st, rfl, rfl, h, q⟩
end
end Q

/-! KitE: comprehensions and loops over worlds -/
namespace Q
open PySem PySem.Spec PyProof.Rows L2
/-- the state of a comprehension: behind i turns the list at p holds xs -/
def LcI (X : List Addr) (W : Wd) (I : Nat → Wd → List V → Prop) (p : Addr) (i : Nat) (H : Hp) : Prop := ∃ W1 xs, W1.H = H ∧ Mod X W W1 ∧ Own W1 p xs ∧ xs.length ≤ i ∧ I i W1 xs
section
variable {K : PySem.W.Frag} {W : Wd} {X : List Addr} {n : Nat} {σ : L2.St} {j : Nat} {vs : List Nat} {tt : TT} {te : TE} {Qd : Hp → Prop} {I : Nat → Wd → List V → Prop} {p : Addr} {i : Nat} {H : Hp} {lo : Int} {y : V}
theorem Mod.notin {W W' : Wd} (m : Mod X W W') (hp : W.H p = none) : p ∉ X := fun h => Wd.ne (m.inM p h) hp
theorem lc_start (hp : W.H p = none) (hX : ∀ a ∈ X, W.M a) (h0 : ∀ W1, Mod [] W W1 → Own W1 p [] → I 0 W1 []) : LcI X W I p 0 (upd W.H p (.lst [])) :=
  ⟨W.own p [] hp, [], rfl, (Mod.lift hX).tr0 (Wd.own_mod hp), ⟨upd_same, .inr rfl⟩, Nat.le_refl 0, h0 _ (Wd.own_mod hp) ⟨upd_same, .inr rfl⟩⟩
/-- a turn that gives an item -/
theorem lc_give {W3 : Wd} {xs : List V} (hp : W.H p = none) (hi : i < 16777216) (m : Mod X W W3) (o : Own W3 p xs) (hl : xs.length ≤ i) (h : ∀ W4, Mod [p] W3 W4 → Own W4 p (xs ++ [y]) → I (i + 1) W4 (xs ++ [y])) :
    ∃ acc, W3.H p = some (.lst acc) ∧ acc.length < sizeLine ∧ LcI X W I p (i + 1) (upd W3.H p (.lst (acc ++ [y]))) :=
  ⟨xs, o.1, by show xs.length < 2 ^ 24; omega, W3.set p (xs ++ [y]), xs ++ [y], rfl, m.trN (Wd.set_mod o.2) hp, Wd.set_own o.2, by simp; omega, h _ (Wd.set_mod o.2) (Wd.set_own o.2)⟩
/-- a turn that gives none -/
theorem lc_skip {W3 : Wd} {xs : List V} (m : Mod X W W3) (o : Own W3 p xs) (hl : xs.length ≤ i) (h : I (i + 1) W3 xs) : LcI X W I p (i + 1) W3.H := ⟨W3, xs, rfl, m, o, by omega, h⟩
abbrev LcOut (J : It) (g : TG) (tt : TT) (te : TE) (vs : List Nat) (σ : L2.St) (H1 : Hp) (Dl : Addr) (Qd : Hp → Prop) : Prop :=
  ∃ W : Nat → Nat → Hp → Prop, (∃ m, W 0 m (upd H1 Dl (.lst []))) ∧ ∀ i m H, W i m H →
    (J.stop i H ∧ Qd H) ∨ (J.go i H ∧ ∃ Nx : Hp → Prop, (∀ H', Nx H' → ∃ m', m' < m ∧ W (i + 1) m' H') ∧ ∀ x H', J.yld i H x H' → g x (wipe σ vs) H' fun σ2 H2 => wipe σ2 vs = wipe σ vs ∧ tt σ2 H2 fun b H3 =>
      if b = true then te σ2 H3 fun y H4 => ∃ acc, H4 Dl = some (.lst acc) ∧ acc.length < sizeLine ∧ Nx (upd H4 Dl (.lst (acc ++ [y]))) else Nx H3)
theorem lcR (hp : W.H p = none) (hX : ∀ a ∈ X, W.M a) (I : Nat → Wd → List V → Prop) (hw : ∀ x, wipe ((wipe σ vs).set j (some x)) vs = wipe σ vs) (h0 : ∀ W1, Mod [] W W1 → Own W1 p [] → I 0 W1 [])
    (hs : ∀ i W1 xs, i < n → Mod X W W1 → Own W1 p xs → xs.length ≤ i → I i W1 xs → tt ((wipe σ vs).set j (some (.int (lo + i)))) W1.H fun b H3 =>
      if b = true then te ((wipe σ vs).set j (some (.int (lo + i)))) H3 fun y H4 => ∃ acc, H4 p = some (.lst acc) ∧ acc.length < sizeLine ∧ LcI X W I p (i + 1) (upd H4 p (.lst (acc ++ [y]))) else LcI X W I p (i + 1) H3)
    (hd : ∀ W1 xs, Mod X W W1 → Own W1 p xs → xs.length ≤ n → I n W1 xs → Qd W1.H) : LcOut (Itr lo n) (gName j) tt te vs σ W.H p Qd :=
  lc_range (lo := lo) (n := n) (LcI X W I p) (lc_start hp hX h0) (fun i H hi ⟨W1, xs, e, m, o, hl, hI⟩ => by
    subst e
    exact ⟨hw _, hs i W1 xs hi m o hl hI⟩) fun H ⟨W1, xs, e, m, o, hl, hI⟩ => by
    subst e
    exact hd W1 xs m o hl hI
theorem lcL {a : Addr} {zs : List V} (hp : W.H p = none) (hX : ∀ a ∈ X, W.M a) (I : Nat → Wd → List V → Prop) (hw : ∀ x, wipe ((wipe σ vs).set j (some x)) vs = wipe σ vs) (hz : ∀ W1, Mod X W W1 → SqL K W1.H a zs) (h0 : ∀ W1, Mod [] W W1 → Own W1 p [] → I 0 W1 [])
    (hs : ∀ i z W1 xs, zs[i]? = some z → Mod X W W1 → Own W1 p xs → xs.length ≤ i → I i W1 xs → tt ((wipe σ vs).set j (some z)) W1.H fun b H3 =>
      if b = true then te ((wipe σ vs).set j (some z)) H3 fun y H4 => ∃ acc, H4 p = some (.lst acc) ∧ acc.length < sizeLine ∧ LcI X W I p (i + 1) (upd H4 p (.lst (acc ++ [y]))) else LcI X W I p (i + 1) H3)
    (hd : ∀ W1 xs, Mod X W W1 → Own W1 p xs → xs.length ≤ zs.length → I zs.length W1 xs → Qd W1.H) : LcOut (Itl K a) (gName j) tt te vs σ W.H p Qd :=
  lc_list (K := K) (a := a) (xs := zs) (LcI X W I p) (lc_start hp hX h0) (fun i H _ ⟨W1, xs, e, m, o, hl, hI⟩ => by
    subst e
    exact hz W1 m) (fun i z H hi ⟨W1, xs, e, m, o, hl, hI⟩ => by
    subst e
    exact ⟨hw _, hs i z W1 xs hi m o hl hI⟩) fun H ⟨W1, xs, e, m, o, hl, hI⟩ => by
    subst e
    exact hd W1 xs m o hl hI
theorem lcT {a : Addr} {zs : List V} (hp : W.H p = none) (hX : ∀ a ∈ X, W.M a) (I : Nat → Wd → List V → Prop) (hw : ∀ x, wipe ((wipe σ vs).set j (some x)) vs = wipe σ vs) (hz : ∀ W1, Mod X W W1 → SqT K W1.H a zs) (h0 : ∀ W1, Mod [] W W1 → Own W1 p [] → I 0 W1 [])
    (hs : ∀ i z W1 xs, zs[i]? = some z → Mod X W W1 → Own W1 p xs → xs.length ≤ i → I i W1 xs → tt ((wipe σ vs).set j (some z)) W1.H fun b H3 =>
      if b = true then te ((wipe σ vs).set j (some z)) H3 fun y H4 => ∃ acc, H4 p = some (.lst acc) ∧ acc.length < sizeLine ∧ LcI X W I p (i + 1) (upd H4 p (.lst (acc ++ [y]))) else LcI X W I p (i + 1) H3)
    (hd : ∀ W1 xs, Mod X W W1 → Own W1 p xs → xs.length ≤ zs.length → I zs.length W1 xs → Qd W1.H) : LcOut (Itt K a) (gName j) tt te vs σ W.H p Qd :=
  lc_tup (K := K) (a := a) (xs := zs) (LcI X W I p) (lc_start hp hX h0) (fun i H _ ⟨W1, xs, e, m, o, hl, hI⟩ => by
    subst e
    exact hz W1 m) (fun i z H hi ⟨W1, xs, e, m, o, hl, hI⟩ => by
    subst e
    exact ⟨hw _, hs i z W1 xs hi m o hl hI⟩) fun H ⟨W1, xs, e, m, o, hl, hI⟩ => by
    subst e
    exact hd W1 xs m o hl hI
/-- over a text, sign by sign -/
theorem lcS {z : Str} (hp : W.H p = none) (hX : ∀ a ∈ X, W.M a) (I : Nat → Wd → List V → Prop) (hw : ∀ x, wipe ((wipe σ vs).set j (some x)) vs = wipe σ vs) (h0 : ∀ W1, Mod [] W W1 → Own W1 p [] → I 0 W1 [])
    (hs : ∀ i c W1 xs, z.cps[i]? = some c → Mod X W W1 → Own W1 p xs → xs.length ≤ i → I i W1 xs → tt ((wipe σ vs).set j (some (.str ⟨#[c]⟩))) W1.H fun b H3 =>
      if b = true then te ((wipe σ vs).set j (some (.str ⟨#[c]⟩))) H3 fun y H4 => ∃ acc, H4 p = some (.lst acc) ∧ acc.length < sizeLine ∧ LcI X W I p (i + 1) (upd H4 p (.lst (acc ++ [y]))) else LcI X W I p (i + 1) H3)
    (hd : ∀ W1 xs, Mod X W W1 → Own W1 p xs → xs.length ≤ z.length → I z.length W1 xs → Qd W1.H) : LcOut (Its z) (gName j) tt te vs σ W.H p Qd := by
  refine ⟨fun i m H => m = z.length - i ∧ i ≤ z.length ∧ LcI X W I p i H, ⟨z.length, by simp, Nat.zero_le _, lc_start hp hX h0⟩, ?_⟩
  rintro i m H ⟨rfl, hi, hP⟩
  by_cases hlt : i < z.length
  · refine .inr ⟨hlt, LcI X W I p (i + 1), fun H' p' => ⟨z.length - (i + 1), by omega, rfl, hlt, p'⟩, fun x H' y => ?_⟩
    obtain ⟨W1, xs, e, m, o, hl, hI⟩ := hP
    subst e
    obtain ⟨e2, c, hc, e1⟩ := y
    subst e1 e2
    exact ⟨hw _, hs i c W1 xs hc m o hl hI⟩
  · have e : i = z.length := by omega
    subst e
    obtain ⟨W1, xs, e, m, o, hl, hI⟩ := hP
    subst e
    exact .inl ⟨Nat.le_refl _, hd W1 xs m o hl hI⟩
end
section
variable {K : PySem.W.Frag} {W : Wd} {σ : L2.St} {H : Hp} {R : It → Hp → Prop} {wi : TI} {g : TG} {tt : TT} {te : TE} {vs : List Nat} {Q : VK} {ta : TA} {i : Int} {a : Addr} {xs : List V} {z : Str} {D : Ends} {tb : TS}
theorem i_lc (h : wi σ H fun J H1 => ∀ p, H1 p = none → LcOut J g tt te vs σ H1 p (Q (.ref p))) : tLc wi g tt te vs σ H Q := h
theorem i_yes {B : Bool → Hp → Prop} (h : B true H) : tYes σ H B := h
theorem i_rng1 (h : ta σ H fun us H1 => ∃ j : Int, us = [.int j] ∧ -(2 ^ 62) ≤ j ∧ j < 2 ^ 62 ∧ R (Itr 0 j.toNat) H1) : iRng1 ta σ H R := h
theorem i_rng2 (h : ta σ H fun us H1 => ∃ i j : Int, us = [.int i, .int j] ∧ (-(2 ^ 62) ≤ i ∧ i < 2 ^ 62 ∧ -(2 ^ 62) ≤ j ∧ j < 2 ^ 62) ∧ R (Itr i (j - i).toNat) H1) : iRng2 ta σ H R := h
theorem ex_rng1 (h : -100000000 ≤ i ∧ i < 100000000) (q : R (Itr 0 i.toNat) H) : ∃ j : Int, [V.int i] = [.int j] ∧ -(2 ^ 62) ≤ j ∧ j < 2 ^ 62 ∧ R (Itr 0 j.toNat) H := ⟨i, rfl, by omega, by omega, q⟩
theorem ex_rng2 {j : Int} (h : -100000000 ≤ i ∧ i < 100000000) (h2 : -100000000 ≤ j ∧ j < 100000000) (q : R (Itr i (j - i).toNat) H) : ∃ i' j' : Int, [V.int i, V.int j] = [.int i', .int j'] ∧ (-(2 ^ 62) ≤ i' ∧ i' < 2 ^ 62 ∧ -(2 ^ 62) ≤ j' ∧ j' < 2 ^ 62) ∧ R (Itr i' (j' - i').toNat) H := ⟨i, j, rfl, by omega, q⟩
theorem any_l (h : te σ H fun x H1 => ∃ a, x = .ref a ∧ (∃ xs, SqL K H1 a xs) ∧ R (Itl K a) H1) : iAny K te σ H R := .inl h
theorem any_t (h : te σ H fun x H1 => ∃ a, x = .ref a ∧ (∃ xs, SqT K H1 a xs) ∧ R (Itt K a) H1) : iAny K te σ H R := .inr (.inl h)
theorem any_s (h : te σ H fun x H1 => ∃ z, x = .str z ∧ R (Its z) H1) : iAny K te σ H R := .inr (.inr h)
theorem ex_l (h : SqL K W.H a xs) (q : R (Itl K a) W.H) : ∃ b, V.ref a = .ref b ∧ (∃ xs, SqL K W.H b xs) ∧ R (Itl K b) W.H := ⟨a, rfl, ⟨xs, h⟩, q⟩
theorem ex_t (h : SqT K W.H a xs) (q : R (Itt K a) W.H) : ∃ b, V.ref a = .ref b ∧ (∃ xs, SqT K W.H b xs) ∧ R (Itt K b) W.H := ⟨a, rfl, ⟨xs, h⟩, q⟩
theorem ex_s (q : R (Its z) H) : ∃ y, V.str z = .str y ∧ R (Its y) H := ⟨z, rfl, q⟩
end
/-! ### for -/
abbrev ForOut (J : It) (g : TG) (tb : TS) (D : Ends) (σ : L2.St) (H1 : Hp) : Prop := ∃ W : Nat → Nat → L2.St → Hp → Prop, (∃ m, W 0 m σ H1) ∧ ∀ i m σ H, W i m σ H →
  (J.stop i H ∧ D.nx σ H) ∨ (J.go i H ∧ ∃ N : L2.St → Hp → Prop, (∀ σ' H', N σ' H' → ∃ m', m' < m ∧ W (i + 1) m' σ' H') ∧ ∀ x H', J.yld i H x H' → g x σ H' fun σ2 H2 => tb { D with nx := N, ct := N, bk := D.nx } σ2 H2)
/-- the state of a loop -/
def FoI (P : Nat → L2.St → Wd → Prop) (i : Nat) : L2.St → Hp → Prop := fun σ H => ∃ W1, W1.H = H ∧ P i σ W1
section
variable {K : PySem.W.Frag} {W : Wd} {n : Nat} {σ : L2.St} {g : TG} {tb : TS} {D : Ends} {lo : Int} {H : Hp} {wi : TI}
theorem i_for (h : wi σ H fun J H1 => ForOut J g tb D σ H1) : tFor wi g tb D σ H := h
theorem forR (P : Nat → L2.St → Wd → Prop) (h0 : P 0 σ W) (hs : ∀ i σ W1, i < n → P i σ W1 → g (.int (lo + i)) σ W1.H fun σ2 H2 => tb { D with nx := FoI P (i + 1), ct := FoI P (i + 1), bk := D.nx } σ2 H2)
    (hd : ∀ σ W1, P n σ W1 → D.nx σ W1.H) : ForOut (Itr lo n) g tb D σ W.H :=
  for_range (FoI P) ⟨W, rfl, h0⟩ (fun i σ H hi ⟨W1, e, p⟩ => by subst e; exact hs i σ W1 hi p) fun σ H ⟨W1, e, p⟩ => by subst e; exact hd σ W1 p
theorem forL {a : Addr} {zs : List V} (P : Nat → L2.St → Wd → Prop) (h0 : P 0 σ W) (hl : ∀ i σ W1, i ≤ zs.length → P i σ W1 → SqL K W1.H a zs) (hs : ∀ i z σ W1, zs[i]? = some z → P i σ W1 → g z σ W1.H fun σ2 H2 => tb { D with nx := FoI P (i + 1), ct := FoI P (i + 1), bk := D.nx } σ2 H2)
    (hd : ∀ σ W1, P zs.length σ W1 → D.nx σ W1.H) : ForOut (Itl K a) g tb D σ W.H :=
  for_list (K := K) (a := a) (xs := zs) (FoI P) ⟨W, rfl, h0⟩ (fun i σ H hi ⟨W1, e, p⟩ => by subst e; exact hl i σ W1 hi p) (fun i z σ H hi ⟨W1, e, p⟩ => by subst e; exact hs i z σ W1 hi p) fun σ H ⟨W1, e, p⟩ => by subst e; exact hd σ W1 p
theorem forT {a : Addr} {zs : List V} (P : Nat → L2.St → Wd → Prop) (h0 : P 0 σ W) (hl : ∀ i σ W1, i ≤ zs.length → P i σ W1 → SqT K W1.H a zs) (hs : ∀ i z σ W1, zs[i]? = some z → P i σ W1 → g z σ W1.H fun σ2 H2 => tb { D with nx := FoI P (i + 1), ct := FoI P (i + 1), bk := D.nx } σ2 H2)
    (hd : ∀ σ W1, P zs.length σ W1 → D.nx σ W1.H) : ForOut (Itt K a) g tb D σ W.H :=
  for_tup (K := K) (a := a) (xs := zs) (FoI P) ⟨W, rfl, h0⟩ (fun i σ H hi ⟨W1, e, p⟩ => by subst e; exact hl i σ W1 hi p) (fun i z σ H hi ⟨W1, e, p⟩ => by subst e; exact hs i z σ W1 hi p) fun σ H ⟨W1, e, p⟩ => by subst e; exact hd σ W1 p
end
end Q

namespace Q
open PySem PySem.Spec PyProof.Rows L2 TL
/-! ### letting go -/
theorem drop_at {W W1 : Wd} {p : Addr} {X : List Addr} (m : Mod X W W1) (hp : W.H p = none) : ∃ W2 : Wd, W2.H = W1.H ∧ Less W1 W2 ∧ Mod X W W2 ∧ (¬ W2.M p) ∧ ∀ a, W1.M a → a ≠ p → W2.M a :=
  ⟨⟨W1.H, fun a => W1.M a ∧ a ≠ p, fun a ha => W1.ok a ha.1⟩, rfl, ⟨rfl, fun _ h => h.1⟩,
    ⟨m.keep, m.inM, fun a ha => m.old a ha.1, fun a ha => ⟨m.stay a ha, fun e => Wd.ne ha (e ▸ hp)⟩⟩, fun h => h.2 rfl, fun a h1 h2 => ⟨h1, h2⟩⟩
theorem drop_own {K : PySem.W.Frag} {W W1 : Wd} {p : Addr} {xs : List V} {ds : List D} {X : List Addr} {G : Hp → Prop} (m : Mod X W W1) (hp : W.H p = none) (o : Own W1 p xs) (r : RpL K W1 xs ds)
    (k : ∀ W2, Mod X W W2 → Less W1 W2 → (∀ a, W1.M a → a ≠ p → W2.M a) → Rp K W2 (.ref p) (.lst ds) → G W2.H) : G W1.H := by
  obtain ⟨W2, e, l, m2, np, st⟩ := drop_at m hp
  have q := k W2 m2 l st (.lst (by rw [e]; exact o.1) np (RpL.less l r))
  rw [e] at q
  exact q
theorem cutV_int (ns : List Int) (lo hi : Option Int) : ∃ ms : List Int, cutV (ns.map V.int) lo hi = ms.map V.int ∧ ms.length ≤ ns.length := by
  unfold cutV
  rw [← List.map_drop, ← List.map_take]
  exact ⟨_, rfl, by rw [List.length_take, List.length_drop]; omega⟩
/-- a slice of a list of numbers -/
theorem slL {K : PySem.W.Frag} {W : Wd} {a : Addr} {ns : List Int} {lo hi : Option Int} {Q : VK} (h : SqL K W.H a (ns.map V.int)) (q : ∀ p W', Mod [] W W' → W.H p = none → (∃ ms : List Int, W'.H p = some (.lst (ms.map V.int)) ∧ ms.length ≤ ns.length) → Q (.ref p) W'.H) : rSlU K (.ref a) lo hi W.H Q := by
  obtain ⟨ms, e, hm⟩ := cutV_int ns lo hi
  refine .inl ⟨a, _, rfl, h, fun p hp => ?_⟩
  exact q p (W.put p _ hp) (Wd.put_mod hp) hp ⟨ms, by rw [e]; exact upd_same, hm⟩
def spStore (K : PySem.W.Frag) : Sp := fun vs H Q _ => ∃ (W : Wd) (a : Addr) (ns : List Int), W.H = H ∧ vs = [.ref a] ∧ SqL K W.H a (ns.map V.int) ∧ ns.length ≤ 63 ∧ ∀ c st W', Mod [] W W' → W.H st = none → Sto K c st W' → Q (.ref st) W'.H
theorem foldl_size (c : Array Nat) : ∀ (n : Nat) (acc : Array Nat), ((List.replicate n c).foldl (· ++ ·) acc).size = acc.size + n * c.size
  | 0, acc => by simp
  | n + 1, acc => by
    rw [List.replicate_succ, List.foldl_cons, foldl_size c n, Array.size_append, Nat.succ_mul]
    omega
theorem mul_len {x : Str} {n : Int} (h : 1 ≤ n) : (Txt.mul x n).length = n.toNat * x.length := by
  unfold Txt.mul
  rw [if_neg (by omega)]
  by_cases h1 : (n == 1 || x.length == 0) = true
  · rw [if_pos h1]
    rw [Bool.or_eq_true] at h1
    rcases h1 with h1 | h1
    · have e : n = 1 := by simpa using h1
      rw [e]; show _ = 1 * _; omega
    · have e : x.length = 0 := by simpa using h1
      rw [e]; omega
  · rw [if_neg h1]
    show ((List.replicate n.toNat x.cps).foldl (· ++ ·) #[]).size = _
    rw [foldl_size]
    show 0 + n.toNat * x.cps.size = n.toNat * x.length
    rw [Nat.zero_add]; rfl
def rMulS : R2 := fun x y H Q => ∃ (z : Str) (n : Int), x = .str z ∧ y = .int n ∧ z.length ≤ 1000 ∧ 1 ≤ n ∧ n ≤ 10000 ∧ Q (.str (Txt.mul z n)) H
theorem op_mulS {X : Cx} : OpR X (binaryOp .Mult) rMulS := by
  intro pins s σ H x y v u Q I rx ry h
  obtain ⟨z, n, rfl, rfl, hz, h1, h2, q⟩ := h
  obtain ⟨t, rfl⟩ := rx
  obtain ⟨t2, rfl⟩ := ry
  refine PySem.SB.mul ⟨?_, fun _ _ hh => ?_, fun _ _ => ?_⟩ fun t' k => ⟨.str _, H, I.tok _, ⟨_, rfl⟩, q⟩
  · rw [decide_eq_false (by omega), decide_eq_false (by omega)]; rfl
  · have e2 : (2 ^ 63 - 1 : Int) = 9223372036854775807 := by decide
    rw [e2] at hh
    have e : (1000 : Int) ≤ 9223372036854775807 / n := Int.le_ediv_of_mul_le (by omega) (by omega)
    omega
  · unfold PySem.Builtin.Str.tooLong
    have e : z.length * n.toNat ≤ 1000 * 10000 := Nat.mul_le_mul hz (by omega)
    have e2 : sizeLine = 16777216 := rfl
    first
      | (simp; omega)
      | (apply decide_eq_false; omega)
def rMulU : R2 := fun x y H Q => rI CMul (fun i j => .int (i * j)) x y H Q ∨ rMulS x y H Q
theorem o_mulU {X : Cx} : OpR X (binaryOp .Mult) rMulU := OpR.or2 op_mul op_mulS
theorem i_mulI {i j : Int} {H : Hp} {Q : VK} (h : CMul i j) (q : Q (.int (i * j)) H) : rMulU (.int i) (.int j) H Q := .inl ⟨i, j, rfl, rfl, h, q⟩
theorem i_mulS {z : Str} {n : Int} {H : Hp} {Q : VK} (hz : z.length ≤ 1000) (h1 : 1 ≤ n) (h2 : n ≤ 10000) (q : Q (.str (Txt.mul z n)) H) : rMulU (.str z) (.int n) H Q := .inr ⟨z, n, rfl, rfl, hz, h1, h2, q⟩
end Q

/-! PuX: the draws' store; a law from its beginning -/
namespace U
open PySem PySem.Spec PyProof.Rows L2 Q
theorem fnOk_of0 {P : Program} {w : World} {K : PySem.W.Frag} {mg : Str → Option Value} {base : Heap} {CX : CXT} {k : Nat} {f : Addr} {fd : FuncData} {ps : List Str} {sp : Sp} (F : FnOk P w K mg base CX0 k f fd ps sp) : FnOk P w K mg base CX k f fd ps sp :=
  ⟨F.len, fun A outer s H args us vs Q E hr he hb hv hs => codeAny_mono (F.run A outer s H args us vs Q E hr he hb hv hs) fun r s' q => by
    cases r with
    | ok fl => cases fl <;> exact q
    | error e => exact False.elim q⟩
theorem can_of0 {Z : Q.Env} {CX : CXT} {k : Nat} {x : Str} {ps : List Str} {dvs : List V} {sp : Sp} (c : Can Z CX0 k x ps dvs sp) : Can Z CX k x ps dvs sp := by
  obtain ⟨f, fd, ds, h1, h2, h3, h4, h5⟩ := c
  exact ⟨f, fd, ds, h1, h2, h3, h4, fnOk_of0 h5⟩
theorem q_ints {K : PySem.W.Frag} {W : Q.Wd} : ∀ ns : List Int, Q.RpL K W (ns.map V.int) (ns.map Q.D.int)
  | [] => .nil
  | _ :: ns => .cons .int (q_ints ns)
theorem q_ints_of {K : PySem.W.Frag} {W : Q.Wd} : ∀ {ns : List Int} {xs : List V}, Q.RpL K W xs (ns.map Q.D.int) → xs = ns.map V.int
  | [], _, .nil => rfl
  | _ :: ns, _, .cons h t => by cases h; rw [q_ints_of (ns := ns) t]; rfl
def ofQ (W : Q.Wd) : Wd := ⟨W.H, W.M, W.ok⟩
def toQ (W : Wd) : Q.Wd := ⟨W.H, W.M, W.ok⟩
theorem sto_to {K : PySem.W.Frag} {c st : Addr} {W : Wd} (h : Sto st c W) : Q.Sto K c st (toQ W) := by
  obtain ⟨ns, i, b, s, f, n, o, hi, hc, nc⟩ := h
  exact ⟨ns, i, b, s, f, n, ⟨o.1, o.2⟩, hi, .lst hc nc (q_ints ns)⟩
theorem sto_of {K : PySem.W.Frag} {c st : Addr} {W : Q.Wd} (h : Q.Sto K c st W) : Sto st c (ofQ W) := by
  obtain ⟨ns, i, b, s, f, n, o, hi, hc⟩ := h
  cases hc with
  | lst hc nc r =>
    have e := q_ints_of r
    subst e
    exact ⟨ns, i, b, s, f, n, ⟨o.1, o.2⟩, hi, hc, nc⟩
theorem can_take {Z : Q.Env} {k : Nat} (c : Can Z CX0 k "_law_take" ["store", "many"] [] (Q.spTake Z.K)) : Can Z (CXn Z) k "_law_take" ["store", "many"] [] (lFs Z.K 1 m_law_take) :=
  (can_of0 c).imp fun vs H Qf E ⟨W, st, ca, us, ds, Q', E', eH, ev, hl, hs, r, h, kq, ke⟩ => by
    obtain ⟨m, ed, hm, hr⟩ := h
    subst ed
    cases r with
    | cons r1 r2 =>
    cases r1
    cases r2
    have hsM := hs.inM
    obtain ⟨u, hu, mu⟩ := W.ok st hsM
    refine ⟨toQ W, ca, st, m, eH, ev, sto_to hs, hm, fun r W' mo st' h0 h1 => ?_⟩
    have g : Go (fun a => a = st) W (ofQ W') := ⟨fun a o n e => mo.keep a o (fun z => n (List.mem_singleton.mp z)) e, fun a o n e => mo.keep a o (fun z => by
        rw [List.mem_singleton.mp z] at e
        rw [hu] at e
        cases e
        exact n mu) e, fun a z => mo.old a z, fun a _ z => mo.stay a z, fun a z => z ▸ hsM, fun a n e => by
        by_cases q : a = st
        · subst q
          exact Q.Wd.ne (W := W') (mo.stay a hsM) e
        · cases z : W.H a with
          | none => exact n z
          | some o =>
            have := mo.keep a o (fun z => q (List.mem_singleton.mp z)) z
            rw [show W'.H a = none from e] at this
            cases this⟩
    exact kq (.int r) (.dat (.int r)) [] (ofQ W') g (sto_of st') (.dat .int) (fun _ z => nomatch z) (hr r h0 h1)
/-! ### a law -/
def lSx (K : PySem.W.Frag) (m : Ps) : TS := fun E σ H => ∃ st c W0, lS ⟨K, W0, some (st, c), 1, none, none⟩ m E σ H
theorem lsx {X : Cx} {K : PySem.W.Frag} {m : Ps} {b : List Stmt} (h : ∀ st c W0, PSs X b (lS ⟨K, W0, some (st, c), 1, none, none⟩ m)) : PSs X b (lSx K m) :=
  ⟨fun pins s σ H D I ⟨st, c, W0, q⟩ => (h st c W0).run pins s σ H D I q⟩
def spLawU (K : PySem.W.Frag) : Sp := fun vs H Q _ => ∃ (a : Addr) (ns : List Int), vs = [.ref a] ∧ SqL K H a (ns.map V.int) ∧ ns.length ≤ 63 ∧ ∀ H', Q (.bl true) H'
theorem fn_law {Z : Q.Env} {k : Nat} {st : Stmt} {N : List Str} {f : Addr} {fd : FuncData} (F : FunD Z.K "law" "law" (defArgs st) (defBody st) (defScope st) [] [] f fd) (sc : FnScope N ["script"] (defScope st)) (hN : 2 ≤ N.length) (m : Ps)
    (hm : m { nx := fun _ => False, rt := fun r => r.d = .bl true } (List.replicate N.length none))
    (hbody : ∀ (cdv : Value) (A : Around) (outer : List PySem.Env) (s : Shared) (H : Hp) (E : XK), Room k (A.deeper (envOfC "law" (defScope st) s.heap.objs.size f cdv)) →
      ∃ E0 : XK, PSs (cxOf (CXn Z) Z.P Z.w Z.K Z.mg Z.base N "law" (defScope st) f cdv A outer s H E) (defBody st) (tSeq (tAsg (tCall (Q.spStore Z.K) [] E0 (tCons (tVar 0) tNil)) (gName 1)) (lSx Z.K m))) : FnOk Z.P Z.w Z.K Z.mg Z.base (CXn Z) (k + 1) f fd ["script"] (spLawU Z.K) := by
  refine F.ok sc (fun vs H Q E ⟨a, ns, ev, _⟩ => by rw [ev]; rfl) fun cdv A outer s H vs Q E hr ⟨a, ns, ev, hS, hl, k⟩ => ?_
  obtain ⟨E0, hb⟩ := hbody cdv A outer s H E hr
  subst ev
  refine ⟨_, hb, ?_⟩
  have e4 : L2.start N [V.ref a] = some (.ref a) :: (List.replicate (N.length - 1) none) := rfl
  rw [e4]
  refine ⟨.ref a, rfl, ⟨H, fun _ => False, fun _ z => z.elim⟩, a, ns, rfl, rfl, hS, hl, fun c sa W' mo hn hs => ?_⟩
  have hsM : (ofQ W').M sa := (sto_of hs).inM
  refine ⟨sa, c, ofQ W', List.replicate N.length none, fun _ => [], ofQ W', { nx := fun _ => False, rt := fun r => r.d = .bl true }, rfl, ?_, hm, ?_⟩
  · refine ⟨?_, Go.refl fun a ⟨c, z⟩ => (by cases z; exact hsM), fun a c e => ?_, fun i r e => ?_, fun i a h => (nomatch h), fun i j a h => (nomatch h), fun a e => (nomatch e), fun _ _ e => (nomatch e)⟩
    · rw [List.length_set, List.length_cons, List.length_replicate, List.length_replicate]; omega
    · cases e
      refine ⟨?_, sto_of hs, fun j h => nomatch h⟩
      show (List.set _ 1 _)[1]? = _
      rw [List.getElem?_set_self (by rw [List.length_cons, List.length_replicate]; omega)]
    · rw [List.getElem?_replicate] at e
      split at e <;> cases e
  · refine ⟨fun σ' ρ' F' W' a' s' q => q.elim, fun _ _ _ _ _ _ q => q.elim, fun _ _ _ _ _ _ q => q.elim, fun v r W' ro q => ?_⟩
    obtain ⟨Y, hr, hY⟩ := ro.rp
    have ev : v = .bl true := by
      cases hr with
      | dat h => cases q; cases h; rfl
      | own => cases q
      | ow2 => cases q
      | ownK => cases q
      | ownT => cases q
      | ownO => cases q
    rw [ev]
    exact k W'.H
theorem start_lawU {K : PySem.W.Frag} (H : Hp) (a : Addr) (ns : List Int) (hl : ns.length ≤ 63) (_ : Only H) (hS : SqL K H a (ns.map V.int)) : spLawU K [.ref a] H (fun v _ => v = .bl true) fun _ _ _ => False := ⟨a, ns, rfl, hS, hl, fun _ => rfl⟩
theorem cxn_no {P : Program} {w : World} {H : Hp} {s s' : Shared} {e : Value} (h : L2N.CX P w [] H s (fun _ _ _ => False) e s') : False := by
  obtain ⟨_, _, _, _, _, _, _, _, _, _, _, _, h⟩ := h
  exact h
end U
namespace U
open PySem PySem.Spec PyProof.Rows L2 Q
theorem fnOk_cx {P : Program} {w : World} {K : PySem.W.Frag} {mg : Str → Option Value} {base : Heap} {CX CX' : CXT} {k : Nat} {f : Addr} {fd : FuncData} {ps : List Str} {sp : Sp} (F : FnOk P w K mg base CX k f fd ps sp) (h : ∀ outer H s E e s', CX outer H s E e s' → CX' outer H s E e s') : FnOk P w K mg base CX' k f fd ps sp :=
  ⟨F.len, fun A outer s H args us vs Q E hr he hb hv hs => codeAny_mono (F.run A outer s H args us vs Q E hr he hb hv hs) fun r s' q => by
    cases r with
    | ok fl => cases fl <;> exact q
    | error e => exact h _ _ _ _ _ _ q⟩
theorem canE_mono {Z : Q.Env} {j k : Nat} {x : Str} {ps : List Str} {sp : SpE} (c : CanE Z j x ps sp) (h : j ≤ k) : CanE Z k x ps sp := by
  obtain ⟨f, fd, h1, h2, h3, h4⟩ := c
  exact ⟨f, fd, h1, h2, h3, ⟨h4.len, fun A outer s H args us Q p cls d hr => h4.run A outer s H args us Q p cls d (hr.mono h)⟩⟩
end U

/-! PuY: facts at the head -/
namespace U
open PySem PySem.Spec PyProof.Rows L2 Q
theorem errB_ok {Z : Q.Env} {x : Str} {l : List Str} (h : errB Z.K x l = true) (hl : ∀ y ∈ l, Z.mg y = some (.ref (He.ga Z.K y))) (h1 : Z.mg "OneError" = some (.ref (He.ga Z.K "OneError"))) : ErrRow Z (He.ga Z.K x) x l := by
  obtain ⟨a, b⟩ := He.ba h
  obtain ⟨a1, a⟩ := He.ba a
  obtain ⟨a2, a⟩ := He.ba a
  obtain ⟨a3, a⟩ := He.ba a
  obtain ⟨a4, a⟩ := He.ba a
  obtain ⟨a5, a⟩ := He.ba a
  obtain ⟨a6, a⟩ := He.ba a
  obtain ⟨a7, a8⟩ := He.ba a
  obtain ⟨b1, b⟩ := He.ba b
  obtain ⟨b2, b⟩ := He.ba b
  obtain ⟨b3, b4⟩ := He.ba b
  exact ⟨⟨He.eqO_ok a1, He.eqO_ok a2, of_decide_eq_true a3, a4, He.eqO_ok a5, He.eqO_ok a6, of_decide_eq_true a7, of_decide_eq_true a8⟩,
    fun y hy => ⟨_, hl y hy, of_decide_eq_true (List.all_eq_true.mp b1 y hy)⟩, ⟨_, h1, of_decide_eq_true b2⟩, of_decide_eq_true b3, of_decide_eq_true b4⟩
section
variable {Z : Q.Env} {h : Heap} (X : Z.K.In h) (G : h.Ns mainGlobals Z.mg)
theorem errC_ok {x : Str} (g : Z.mg x = some (.ref (He.ga Z.K x))) (c : (He.Fa.exc x).ok Z.K = true) : ErrC Z x := by
  obtain ⟨c1, c2, c3, c4⟩ := He.exc_ok c
  exact ⟨g, c2, c1, c3, c4⟩
theorem gvI {x : Str} {i : Int} (c : ∃ t, Z.mg x = some (.int i t)) : Gv Z x (.int i) := by
  obtain ⟨t, e⟩ := c
  exact ⟨_, e, t, rfl⟩
theorem gvS {x z : Str} (c : ∃ t, Z.mg x = some (.str z t)) : Gv Z x (.str z) := by
  obtain ⟨t, e⟩ := c
  exact ⟨_, e, t, rfl⟩
theorem defAt_ok {x : Str} {st : Stmt} {dvs : List V} (g : Z.mg x = some (.ref (He.ga Z.K x))) (c : ∃ fd, FunD Z.K x x (defArgs st) (defBody st) (defScope st) dvs [] (He.ga Z.K x) fd) : DefAt Z x st dvs := by
  obtain ⟨fd, F⟩ := c
  exact ⟨_, fd, g, F⟩
theorem defAtM_ok {C m q : Str} {st : Stmt} (g : (He.Fa.cls C).ok Z.K = true) (g2 : (He.Fa.meth C m).ok Z.K = true) (c : ∃ fd, FunD Z.K m q (defArgs st) (defBody st) (defScope st) [] [] (He.ma Z.K (He.ga Z.K C) m) fd) : DefAtM Z C m q st := by
  obtain ⟨fd, F⟩ := c
  exact ⟨_, fd, He.cls_ok g, He.meth_ok g2, F⟩
theorem defAtI_ok {C q : Str} {st : Stmt} {dvs : List V} (g : Z.mg C = some (.ref (He.ga Z.K C))) (g2 : (He.Fa.mkr C).ok Z.K = true) (c : ∃ fd, FunD Z.K "__init__" q (defArgs st) (defBody st) (defScope st) dvs [] (He.ma Z.K (He.ga Z.K C) "__init__") fd) : DefAtI Z C q st dvs := by
  obtain ⟨fd, F⟩ := c
  exact ⟨_, fd, g, He.mkr_ok g2, F⟩
theorem can_zeroU {x : Str} {st : Stmt} {ps : List Str} {CX : CXT} {sp : Sp} (Df : DefAt Z x st [])
    (hb : ∀ (kV doc pm : Value) (an : Option Addr) (cdv ct : Value) (us : List Value), us.length = ps.length → bindArgs (PySem.W.fnOf x x (defArgs st) (defBody st) (defScope st) .none kV doc pm an cdv ct) ⟨us, []⟩ = pure (ps.zip us))
    (hno : ∀ vs H Q E, sp vs H Q E → False) : Can Z CX 0 x ps [] sp := by
  obtain ⟨f, fd, hm, F⟩ := Df
  exact ⟨f, fd, [], hm, F.kp, FunD.bindsN F hb, .nil, ⟨fun vs H Q E h => (hno vs H Q E h).elim, fun A outer s H args us vs Q E hr he hb hv h => (hno vs H Q E h).elim⟩⟩
theorem fldOk_nil {K : PySem.W.Frag} {f : Str} : FldOk K [] f := fun C h => nomatch h
theorem fldOk_cons {K : PySem.W.Frag} {C f : Str} {Cs : List Str} (h : (He.Fa.cls C).ok K = true) (h2 : (He.Fa.noat C f).ok K = true) (t : FldOk K Cs f) : FldOk K (C :: Cs) f := fun D hD => by
  rcases List.mem_cons.mp hD with rfl | hD
  · exact ⟨He.cls_ok h, He.noat_ok h2⟩
  · exact t D hD
end
end U

/-! PuZ: what is never reached; errors without a text; properties, [] of own classes; tuples of the module; enumerate; [::-1]; rows of rows handed back -/
namespace U
open PySem PySem.Spec PyProof.Rows L2 Q
/-! ### what is never reached -/
def mNo : Pd := fun _ _ => False
def mNoS : Ps := fun _ _ => False
section
variable {X : Cx} {S : Sx} {e : Expr} {st : Stmt}
theorem qNo : PE X e (lD S mNo) := ⟨fun pins s σ H Q I ⟨ρ, F, W, Q', e, s, q, k⟩ => q.elim⟩
theorem qNoS : PS X st (lS S mNoS) := ⟨fun pins s σ H D I ⟨ρ, F, W, Q', e, s, q, k⟩ => q.elim⟩
end
/-! ### raise X() -/
section
variable {Z : Q.Env} {X : Cx} {S : Sx} {x : Str} {p pos pos' : Pos} {We : L2.WX} {Ex : Er → Rho → Prop}
theorem pmkE0 (q : ErrC Z x) (z : At Z X := by exact ⟨rfl, rfl, rfl, rfl, rfl⟩) (hg : Gl X x := by rfl) (hdb : (x == ("__debug__" : Str)) = false := by decide) :
    L2N.PMk X (.Call (.Name x p) [] [] pos) (fun _ H Q => Q (.ref (He.ga Z.K x)) none H) := by
  obtain ⟨h1, h2, h3, h4, h5⟩ := q
  obtain ⟨e1, e2, e3, e4, e5⟩ := z
  rw [← e4] at h1
  rw [← e3] at h1 h2 h3 h4 h5 ⊢
  intro pins s σ H Q I h
  refine wpAny_Call_Name_kw (ld_glob I hg h1 ?_ hdb)
  refine PySem.W.callWith_K0 I.kIn h2 ?_
  show wpAny _ _ (call (.ref (He.ga X.K x)) []) _ _ _
  obtain ⟨bm, N, nm, qn, bs, hdct, sn, sub, ab, col, dd, k0, k1, k2, k3, k5, mN, hC, hN, hni, T⟩ := exc_obj I.kIn h3
  refine wpAny_call_exc_subT PySem.F.excBase_ValueError T hC hN hni (fun h' e hm => ?_) (Nat.zero_le _)
  exact L2N.mk_of I hm (raises_own h4 h5) h (I.hok.gone hm.new)
theorem qRaise0 (hK : S.K = Z.K) (hc : X.calm = true) (tk : L2N.Takes X We) (eo : EOk S We Ex) (q : ErrC Z x) (z : At Z X := by exact ⟨rfl, rfl, rfl, rfl, rfl⟩) (hg : Gl X x := by rfl) (hdb : (x == ("__debug__" : Str)) = false := by decide) :
    PS X (.Raise (some (.Call (.Name x p) [] [] pos)) none pos') (lS S (mRaise x Ex)) := (L2N.ps_raise hc tk (pmkE0 q z hg hdb)).weak fun E σ H ⟨ρ, F, W, E', e, s, q, c⟩ => by
  subst e
  exact eo (.plain x) ρ F W σ _ none s ⟨by rw [hK], rfl⟩ q
end
/-! ### a property -/
/-- a property of the class C, by its getter's promise -/
def CanP (Z : Q.Env) (CX : CXT) (k : Nat) (C f : Str) (sp : Sp) : Prop :=
  ∃ (p g : Addr) (fd : FuncData), Cls Z.K (He.ga Z.K C) ∧ PropOf Z.K (He.ga Z.K C) f p g ∧ Binds Z.K fd ["self"] [] ∧ FnOk Z.P Z.w Z.K Z.mg Z.base CX k g fd ["self"] sp
theorem CanP.mono {Z : Q.Env} {CX : CXT} {j k : Nat} {C f : Str} {sp : Sp} (c : CanP Z CX j C f sp) (h : j ≤ k) : CanP Z CX k C f sp := by
  obtain ⟨p, g, fd, h1, h2, h3, h4⟩ := c
  exact ⟨p, g, fd, h1, h2, h3, h4.mono h⟩
theorem pass_no {P : Program} {w : World} {X : Cx} : Passes (L2N.CX P w) X (fun _ _ _ => False) := fun pins σ H s e s' I c => by
  obtain ⟨_, _, _, _, _, _, _, _, _, _, _, _, h⟩ := c
  exact h.elim
def mProp (C : Str) (f : Mf) (mo : Pd) : Pd := fun ρ Q => mo ρ fun d ρ1 => ∃ fs, d = .obj C fs ∧ f [.obj C fs] (fun r => ∃ x, r = .dat x ∧ Q x ρ1) fun _ => False
section
variable {Z : Q.Env} {X : Cx} {S : Sx} {k n : Nat} {C f : Str} {mf : Mf} {mo : Pd} {e : Expr} {pos : Pos}
/-- a promise that answers a datum, at data -/
theorem run_dat {S : Sx} {W1 : Wd} {σ : L2.St} {ρ1 : Rho} {F1 : Fp} {vs : List V} {ds : List D} {n : Nat} {mf : Mf} {Q : VK} {Q' : D → Prop} {E : XK} (s1 : Sn S W1 σ ρ1 F1) (hl : vs.length = n) (r : RpL S.K W1 vs ds) (q : mf ds (fun r => ∃ x, r = .dat x ∧ Q' x) fun _ => False)
    (k : ∀ v x F2 W2, Stp S F1 W1 F2 W2 → Sn S W2 σ ρ1 F2 → Rp S.K W2 v x → Q' x → Q v W2.H) : lF S.K n mf vs W1.H Q E :=
  ⟨W1, ds, _, _, rfl, hl, r, q, fun v r X W' g hr hX ⟨x, er, q2⟩ => by
    subst er
    cases hr with
    | dat hrp =>
      obtain ⟨a2, s2⟩ := s1.nw g
      exact k v x F1 W' a2 s2 hrp q2, fun _ _ _ _ _ _ z => z.elim⟩
theorem qProp (hK : S.K = Z.K) (c : CanP Z (CXn Z) k C f (lF S.K 1 mf)) (hr : Room (k + 1) X.A) (he : PE X e (lD S mo)) (z : At Z X := by exact ⟨rfl, rfl, rfl, rfl, rfl⟩)
    (hb : attributeBase e f X.env (eval e X.env) = eval e X.env := by rfl) : PE X (.Attribute e f pos) (lD S (mProp C mf mo)) := by
  obtain ⟨p, g, fd, c1, c2, h3, h4⟩ := c
  obtain ⟨e1, e2, e3, e4, e5⟩ := z
  rw [CXn, ← e1, ← e2, ← e3, ← e4, ← e5] at h4
  rw [← e3] at c1 c2 h3
  refine (pe_prop (E := fun _ _ _ => False) he c1 c2 h4 hr h3 .nil pass_no hb).weak fun σ H Q ⟨ρ, F, W, Q', e, s, q, k⟩ => ?_
  subst e
  refine ⟨ρ, F, W, _, rfl, s, q, fun v d ρ1 F1 W1 a1 s1 r1 ⟨fs, ed, q1⟩ => ?_⟩
  subst ed
  have r1' := r1
  rw [e3, ← hK]
  cases r1 with
  | @obj a dx C fs' ds e n' r => exact ⟨a, dx, fs', rfl, e, run_dat s1 rfl (.cons r1' .nil) q1 fun v x F2 W2 a2 s2 r2 q2 => k v x ρ1 F2 W2 (a1.trans s s1 a2) s2 r2 q2⟩
end
/-! ### special methods -/
/-- a special method of the class C: as CanM, and the object is a function's -/
def CanS (Z : Q.Env) (CX : CXT) (k : Nat) (C m : Str) (ps : List Str) (sp : Sp) : Prop :=
  ∃ (f : Addr) (fd : FuncData), Cls Z.K (He.ga Z.K C) ∧ Meth Z.K (He.ga Z.K C) m f ∧ PySem.W.fnIn Z.K f = true ∧ Binds Z.K fd ps [] ∧ FnOk Z.P Z.w Z.K Z.mg Z.base CX k f fd ps sp
theorem CanS.mono {Z : Q.Env} {CX : CXT} {j k : Nat} {C m : Str} {ps : List Str} {sp : Sp} (c : CanS Z CX j C m ps sp) (h : j ≤ k) : CanS Z CX k C m ps sp := by
  obtain ⟨f, fd, h1, h2, h3, h4, h5⟩ := c
  exact ⟨f, fd, h1, h2, h3, h4, h5.mono h⟩
section
variable {Z : Q.Env} {k n : Nat} {ps : List Str} {C m q : Str}
theorem can_S {st : Stmt} {N : List Str} {mf : Mf} (Df : DefAtM Z C m q st) (sc : FnScope N ps (defScope st)) (hn : ps.length = n) (mb : (Er → Prop) → Ps)
    (hb : ∀ (kV doc pm : Value) (an : Option Addr) (cdv ct : Value) (us : List Value), us.length = ps.length → bindArgs (PySem.W.fnOf m q (defArgs st) (defBody st) (defScope st) .none kV doc pm an cdv ct) ⟨us, []⟩ = pure (ps.zip us))
    (hm : ∀ ds Q E, mf ds Q E → mb E { nx := fun _ => Q (.dat .non), rt := Q } (startR (N.length - n) ds))
    (hbody : ∀ (f : Addr) (cdv : Value) (A : Around) (outer : List PySem.Env) (s : Shared) (H : Hp) (E : XK) (W : Wd) (E' : Er → Prop), Room k (A.deeper (envOfC q (defScope st) s.heap.objs.size f cdv)) → EOk ⟨Z.K, W, none, 1000, none, none⟩ (fun cls d _ H => E cls d H) (fun er _ => E' er) →
      PSs (cxOf (CXn Z) Z.P Z.w Z.K Z.mg Z.base N q (defScope st) f cdv A outer s H E) (defBody st) (lS ⟨Z.K, W, none, 1000, none, none⟩ (mb E'))) : CanS Z (CXn Z) (k + 1) C m ps (lF Z.K n mf) := by
  obtain ⟨f, fd, c1, c2, F⟩ := Df
  refine ⟨f, fd, c1, c2, ?_, FunD.bindsN F hb, fn_lF F sc hn mb hm fun cdv A outer s H E W E' hr eo => hbody f cdv A outer s H E W E' hr eo⟩
  obtain ⟨oc, od, dV, kV, doc, pm, an, cdv, ct, osl, rfl, lk, _⟩ := F.ex
  unfold PySem.W.fnIn
  rw [lk]
end
/-! ### o[i] -/
def mGetO (C : Str) (f : Mf) (Ex : Er → Rho → Prop) (ma mb : Pd) : Pv := fun ρ Q => ma ρ fun d ρ1 => mb ρ1 fun i ρ2 => ∃ fs, d = .obj C fs ∧ f [.obj C fs, i] (fun r => Q r ρ2) fun er => Ex er ρ2
section
variable {Z : Q.Env} {X : Cx} {S : Sx} {k n : Nat} {C : Str} {mf : Mf} {ma mb : Pd} {a b : Expr} {pos : Pos} {We : L2.WX} {Ex : Er → Rho → Prop} {dvs : List V} {sp : Sp} {ps : List Str}
theorem run_TA {A : Around} (tk : L2N.Takes X We) {f : Addr} {fd : FuncData} (h5 : FnOk X.prog X.w X.K X.mg X.base (L2N.CX X.prog X.w) k f fd ps sp) (hr : Room k A) (h3 : Binds X.K fd ps []) {pins : List (Addr × Obj)} {σ : L2.St} {H1 : Hp} {s1 : Shared} {Q : VK} {us : List Value} {vs : List V}
    (I1 : Inv X pins σ H1 s1) (e0 : Env0 X.prog X.w X.K X.mg X.base A X.stack s1 H1) (r : Vals vs us) (q : sp vs H1 Q fun cls d H2 => We cls d σ H2) : wpAny (model X.prog X.w) A (call (.ref f) us) (EP X pins σ Q) X.xe s1 := by
  have tk2 := L2N.passAt tk σ
  have hl : us.length = ps.length := by rw [← r.length]; exact h5.len _ _ _ _ q
  have hb : BindsTo s1 fd ⟨us, []⟩ (ps.zip us) := by
    have := h3 s1 us I1.kIn (by rw [List.append_nil]; exact hl)
    rw [List.append_nil] at this
    exact this
  refine wpAny_call (codeAny_mono (h5.run A X.stack s1 H1 ⟨us, []⟩ us vs Q _ hr e0 hb r q) fun rr s2 hq => ?_)
  match rr, hq with
  | .error v, hq => exact tk2 pins H1 s1 v s2 I1 hq
  | .ok (.ret u), hq => exact I1.after hq
  | .ok .next, hq => exact False.elim hq
  | .ok .brk, hq => exact False.elim hq
  | .ok .cont, hq => exact False.elim hq
theorem qGetO (hK : S.K = Z.K) (tk : L2N.Takes X We) (eo : EOk S We Ex) (c : CanS Z (CXn Z) k C "__getitem__" ps (lF S.K 2 mf)) (hr : Room (k + 1) X.A) (ha : PE X a (lD S ma)) (hb : PE X b (lD S mb)) (z : At Z X := by exact ⟨rfl, rfl, rfl, rfl, rfl⟩)
    (hsl : ∀ x i, subscripted b true (.ref x) i = runValue (.builtin "lifetime.subscript" ⟨[.ref x, i], []⟩) := by intro _ _; with_unfolding_all rfl) : PE X (.Subscript a b pos) (lV S (mGetO C mf Ex ma mb)) := by
  obtain ⟨f, fd, c1, c2, c3, h3, h5⟩ := c
  obtain ⟨e1, e2, e3, e4, e5⟩ := z
  rw [CXn, ← e1, ← e2, ← e3, ← e4, ← e5] at h5
  rw [← e3] at c1 c2 c3 h3
  have base : PE X (.Subscript a b pos) fun σ H Q => (lD S ma) σ H fun x H1 => (lD S mb) σ H1 fun y H2 => ∃ p dx fs, x = .ref p ∧ H2 p = some (.ins (He.ga X.K C) dx fs) ∧ lF S.K 2 mf [x, y] H2 Q fun cls d H3 => We cls d σ H3 := by
    refine ⟨fun pins s σ H Q I h => ?_⟩
    refine Subscript_ (binT ha hb I h fun v u s2 x y H2 I2 rx ry q => ?_)
    obtain ⟨p, dx, fs, ex, ea, q⟩ := q
    subst ex
    obtain rfl : v = Value.ref p := rx
    obtain ⟨mA, J, _⟩ := ins_get I2.hok ea
    obtain ⟨od, J, _⟩ := J.look
    obtain ⟨m0, hF⟩ := I2.fr
    refine PySem.W.sub_K hF I2.ok.mod.kin J c2.at_ c3 c2.fn ?_ (hsl _ _)
    exact run_TA (us := [.ref p, u]) (vs := [.ref p, y]) tk h5 hr.in1 h3 I2 I2.env0.in1 (.cons rfl (.cons ry .nil)) q
  refine base.weak fun σ H Q ⟨ρ, F, W, Q', e, s, q, k⟩ => ?_
  subst e
  refine ⟨ρ, F, W, _, rfl, s, q, fun v d ρ1 F1 W1 a1 s1 r1 q1 => ?_⟩
  refine ⟨ρ1, F1, W1, _, rfl, s1, q1, fun u i ρ2 F2 W2 a2 s2 r2 ⟨fs, ed, q2⟩ => ?_⟩
  subst ed
  have r1' := r1.up a2.go.ext
  have r1'' := r1'
  rw [e3, ← hK]
  have a12 := a1.trans s s1 a2
  cases r1' with
  | @obj p dx C fs' ds e n' r =>
    refine ⟨p, dx, fs', rfl, e, ?_⟩
    exact run_lF (Q' := Q') eo s2 rfl (.cons r1'' (.cons r2 .nil)) q2 fun v r Y W3 a3 s3 hr hY q3 => k v r Y ρ2 F2 W3 (a12.trans s s2 a3) s3 hr (fun a ha => a12.go.free (hY a ha)) q3
end
/-! ### tuples of texts that stand in the module -/
theorem inV_str {x : Str} : ∀ {xs : List Str}, inV (.str x) (xs.map V.str) = xs.contains x
  | [] => rfl
  | y :: ys => by
    show (_ || inV (.str x) (ys.map V.str)) = _
    rw [inV_str, List.contains_cons]
    congr 1
    show (y == x) = (x == y)
    exact Bool.eq_iff_iff.mpr (by rw [beq_iff_eq, beq_iff_eq]; exact eq_comm)
def mInG (neg : Bool) (xs : List Str) (ma : Pd) : Pd := fun ρ Q => ma ρ fun d ρ1 => ∃ x, d = .str x ∧ Q (.bl (if neg then !xs.contains x else xs.contains x)) ρ1
/-- the module's name x is a tuple of these texts -/
def GvT (Z : Q.Env) (x : Str) (xs : List Str) : Prop := Gv Z x (.ref (He.ga Z.K x)) ∧ ∀ H, SqT Z.K H (He.ga Z.K x) (xs.map V.str)
section
variable {Z : Q.Env} {X : Cx} {S : Sx} {ma : Pd} {a : Expr} {pos p : Pos} {g : Str} {xs : List Str}
theorem flat_strs : ∀ {xs : List Str}, (xs.map V.str).all flatV = true
  | [] => rfl
  | _ :: ys => by
    rw [List.map_cons, List.all_cons, flat_strs (xs := ys)]
    rfl
theorem lInG {neg : Bool} (hK : S.K = Z.K) (G : ∀ H, SqT Z.K H (He.ga Z.K g) (xs.map V.str)) (σ : L2.St) (H : Hp) (Q : VK) (h : lD S (mInG neg xs ma) σ H Q) : tOp (rIn Z.K neg) (lD S ma) (tC (.ref (He.ga Z.K g))) σ H Q := by
  obtain ⟨ρ, F, W, Q', e, s, q, k⟩ := h
  subst e
  refine ⟨ρ, F, W, _, rfl, s, q, fun v d ρ1 F1 W1 a1 s1 r1 ⟨x, ed, q1⟩ => ?_⟩
  subst ed
  cases r1
  refine ⟨_, _, rfl, .inr (G _), rfl, flat_strs, ?_⟩
  rw [inV_str]
  exact k _ _ ρ1 F1 W1 a1 s1 .bl q1
theorem qInG (hK : S.K = Z.K) (hX : X.K = Z.K) (G : GvT Z g xs) (ha : PE X a (lD S ma)) (hm : X.mg = Z.mg := by rfl) (hg : Gl X g := by rfl) (hd : (g == ("__debug__" : Str)) = false := by decide) (hmk : behindInMarks .In (.Name g p) = false := by rfl) :
    PE X (.Compare a [.In] [.Name g p] pos) (lD S (mInG false xs ma)) := (pe_cmpR (r := rIn Z.K false) (by rw [← hX]; exact op_in_seq) ha (pglob G.1 hm hg hd) hmk).weak (lInG hK G.2)
theorem qNotInG (hK : S.K = Z.K) (hX : X.K = Z.K) (G : GvT Z g xs) (ha : PE X a (lD S ma)) (hm : X.mg = Z.mg := by rfl) (hg : Gl X g := by rfl) (hd : (g == ("__debug__" : Str)) = false := by decide) (hmk : behindInMarks .NotIn (.Name g p) = false := by rfl) :
    PE X (.Compare a [.NotIn] [.Name g p] pos) (lD S (mInG true xs ma)) := (pe_cmpR (r := rIn Z.K true) (by rw [← hX]; exact op_notIn_seq) ha (pglob G.1 hm hg hd) hmk).weak (lInG hK G.2)
end
/-! ### xs[::-1] -/
def mRevL (m : Pd) : Pv := fun ρ Q => m ρ fun d ρ1 => ∃ ds, d = .lst ds ∧ Q (.own ds.reverse) ρ1
theorem RpL.rev {K : PySem.W.Frag} {W : Wd} : ∀ {xs : List V} {ds : List D}, RpL K W xs ds → RpL K W xs.reverse ds.reverse
  | _, _, .nil => .nil
  | _, _, .cons h t => by
    rw [List.reverse_cons, List.reverse_cons]
    exact (RpL.rev t).snoc h
theorem qRevL {X : Cx} {S : Sx} {e : Expr} {m : Pd} {k : Nat} {p1 p2 p3 pos : Pos} (hK : X.K = S.K) (he : PE X e (lD S m)) : PE X (.Subscript e (.Slice none none (some (.UnaryOp .USub (.Constant (.int 1) k p1) p2)) p3) pos) (lV S (mRevL m)) := (pe_revL he).weak fun σ H Q ⟨ρ, F, W, Q', e, s, q, k⟩ => by
  subst e
  rw [hK]
  refine ⟨ρ, F, W, _, rfl, s, q, fun v d ρ1 F1 W1 a1 s1 r1 ⟨ds, ed, q1⟩ => ?_⟩
  subst ed
  cases r1 with
  | lst e n r =>
    refine ⟨_, _, rfl, .inl (.inl e), new_own (K := S.K) r.rev fun p W2 g n rp => ?_⟩
    obtain ⟨a2, s2⟩ := s1.nw g
    exact k _ _ [p] ρ1 F1 W2 (a1.trans s s1 a2) s2 rp (fun x hx => by rw [List.mem_singleton.mp hx]; exact a1.go.free n) q1
/-! ### enumerate -/
def enumD (ds : List D) : List D := ds.zipIdx.map fun p => .tup [.int (p.2 : Nat), p.1]
def mEnum (m : Pd) : Pi := fun ρ Q => m ρ fun d ρ1 => ∃ ds, d = .lst ds ∧ Q (enumD ds) ρ1
theorem it_enum {K : PySem.W.Frag} {W : Wd} {a : Addr} {xs : List V} {ds : List D} (e : W.H a = some (.lst xs)) (n : ¬ W.M a) (r : RpL K W xs ds) : ItOk K W (Ite K a) (enumD ds) := fun W2 m i => by
  have e2 : SqL K W2.H a xs := .inl (.inl (m.keep _ _ n e))
  have r2 := r.up m
  unfold enumD
  refine ⟨fun h => ⟨xs, e2, by rw [r.length]; simpa using h⟩, fun d hd => ?_⟩
  rw [List.getElem?_map, List.getElem?_zipIdx, Option.map_map] at hd
  obtain ⟨z, hz, ed⟩ := Option.map_eq_some_iff.mp hd
  obtain ⟨x, hx, rx⟩ := r2.getD hz
  refine ⟨⟨xs, x, e2, hx⟩, fun v H' ⟨T, y, ev, hT, eH, hy⟩ => ?_⟩
  have ey := hy xs e2
  rw [hx] at ey
  cases ey
  subst ev eH ed
  refine ⟨W2.put T _ hT, rfl, Wd.put_go hT, .tup (.inl upd_same) (.cons ?_ (.cons (rx.up (Wd.put_go hT).ext) .nil))⟩
  show Rp K _ (V.int _) (D.int _)
  rw [Nat.zero_add]
  exact .int
theorem qEnum {X : Cx} {S : Sx} {e : Expr} {m : Pd} {p pos tpos : Pos} {elts : List Expr} {kk : Nat} (hK : X.K = S.K) (hg : Gl X "enumerate") (hm : X.mg "enumerate" = none) (he : PE X e (lD S m)) (hs : starEach [e] X.env = [(false, eval e X.env)] := by rfl) :
    PI X (.Tuple elts kk tpos) (.Call (.Name "enumerate" p) [e] [] pos) (lI S (mEnum m)) := (pi_enum hg hm (pa_cons he pa_nil hs) hs).weak fun σ H R ⟨ρ, F, W, Q', e, s, q, k⟩ => by
  subst e
  rw [hK]
  refine ⟨ρ, F, W, _, rfl, s, q, fun v d ρ1 F1 W1 a1 s1 r1 ⟨ds, ed, q1⟩ => ?_⟩
  subst ed
  cases r1 with
  | lst e n r => exact ⟨_, _, rfl, .inl (.inl e), k _ _ ρ1 F1 W1 a1 s1 (it_enum e n r) q1⟩
/-! ### [xs, ys] handed back, both to be changed further -/
def mRetL2 (i j : Nat) : Ps := fun E ρ => i ≠ j ∧ ∃ ds es, ρ[i]? = some (some (.own ds)) ∧ ρ[j]? = some (some (.own es)) ∧ E.rt (.ow2 [ds, es])
theorem qRetL2 {X : Cx} {S : Sx} {a b : Expr} {i j : Nat} {pos pos' : Pos} (ha : PE X a (tVar i)) (hb : PE X b (tVar j)) (h1 : starEach [a, b] X.env = (false, eval a X.env) :: starEach [b] X.env := by rfl) (h2 : starEach [b] X.env = (false, eval b X.env) :: starEach [] X.env := by rfl) :
    PS X (.Return (some (.List [a, b] pos)) pos') (lS S (mRetL2 i j)) := (ps_ret (pe_lst (pa_cons ha (pa_cons hb pa_nil h2) h1))).weak fun E σ H ⟨ρ, F, W, E', e, s, ⟨hij, ds, es, ei, ej, q⟩, c⟩ => by
  subst e
  obtain ⟨p, xs, ev, op, rp, hp⟩ := s.ownAt ei
  obtain ⟨q2, ys, eu, oq, rq, hq⟩ := s.ownAt ej
  refine ⟨_, ev, _, eu, by show 2 ≤ sizeLine; rw [sizeLine_eq]; omega, fun z hz => ?_⟩
  have mp : p ∈ F i := by rw [hp]; exact List.mem_cons_self
  have mq : q2 ∈ F j := by rw [hq]; exact List.mem_cons_self
  have npq : p ≠ q2 := fun e => hij (s.dj i j p mp (e ▸ mq))
  have g := Wd.ownO_go (W := W) (o := .lst [.ref p, .ref q2]) (mu := True.intro) hz
  have nz : ∀ {a u}, W.H a = some u → ¬ a = z := fun e w => by rw [w, hz] at e; cases e
  have s2 : RpS S.K (W.ownO z (.lst [.ref p, .ref q2]) True.intro hz) (.ref z) (.ow2 [ds, es]) [z, p, q2] :=
    .ow2 ⟨upd_same, .inr rfl⟩ (.cons (op.up g fun w => w) (rp.up g.ext) (.cons (oq.up g fun w => w) (rq.up g.ext) .nil)) (by
      simp only [List.nodup_cons, List.mem_cons, List.not_mem_nil, or_false, not_or, not_false_eq_true, List.nodup_nil, and_true]
      exact ⟨⟨fun w => nz op.1 w.symm, fun w => nz oq.1 w.symm⟩, npq⟩)
  obtain ⟨a2, s3⟩ := s.nw g
  refine c.rt _ _ _ (s3.ret s2 fun x hx => ?_) q
  simp only [List.mem_cons, List.not_mem_nil, or_false] at hx
  rcases hx with e | e | e
  · rw [e]; exact s.go.free hz
  · rw [e]; exact (s.new i p mp).2
  · rw [e]; exact (s.new j q2 mq).2
/-! ### x[i][j] = e, x a list of lists of ours -/
def mPut2 (j : Nat) (me mi mk : Pd) : Ps := fun E ρ => me ρ fun d ρ1 => hasOwn2 ρ1 j ∧ mi ρ1 fun c ρ2 => ∃ rs i n r, ρ2[j]? = some (some (.ow2 rs)) ∧ c = .int i ∧ ixN rs.length i = some n ∧ rs[n]? = some r ∧ mk ρ2 fun c2 ρ3 => ρ3[j]? = some (some (.ow2 rs)) ∧ ∃ i2 n2, c2 = .int i2 ∧ ixN r.length i2 = some n2 ∧ E.nx (ρ3.set j (some (.ow2 (rs.set n (r.set n2 d)))))
theorem qPut2 {X : Cx} {S : Sx} {o i i2 v : Expr} {j : Nat} {me mi mk : Pd} {p1 p2 p3 : Pos} (hK : X.K = S.K) (ho : PE X o (tVar j)) (hi : PE X i (lD S mi)) (hsb : PlainIx i) (hk : PE X i2 (lD S mk)) (hv : PE X v (lD S me))
    (ha : ∀ v, assign (.Subscript (.Subscript o i p3) i2 p1) X.env v = (do
      let ov ← holding [v] (eval (.Subscript o i p3) X.env)
      let iv ← holding [v, ov] (eval i2 X.env)
      standAt p1
      holding [v, ov, iv] (setItem ov iv v)
      release [v, ov, iv] []) := by intro _; rfl)
    (hs : swapsWithSole [.Subscript (.Subscript o i p3) i2 p1] v p2.line X.env = pure false := by rfl) (hw : swappedStores [.Subscript (.Subscript o i p3) i2 p1] v X.env = pure none := by rfl)
    (h1 : (assignEach [.Subscript (.Subscript o i p3) i2 p1] X.env).map (·.2) = [assign (.Subscript (.Subscript o i p3) i2 p1) X.env] := by rfl) : PS X (.Assign [.Subscript (.Subscript o i p3) i2 p1] v p2) (lS S (mPut2 j me mi mk)) :=
  (ps_asg hv (pg_sub (pe_ix (k_ixK S.K hK) ho hi hsb) hk set_list ha) hs hw h1).weak fun E σ H ⟨ρ, F, W, E', e, s, q, c⟩ => by
    subst e
    refine ⟨ρ, F, W, _, rfl, s, q, fun v d ρ1 F1 W1 a1 s1 r1 ⟨⟨rs0, h0⟩, q1⟩ => ?_⟩
    obtain ⟨p0, qs0, ev, o0, r0, nd0, hF0⟩ := s1.own2At h0
    refine ⟨.ref p0, ev, ρ1, F1, W1, _, rfl, s1, q1, fun y c1 ρ2 F2 W2 a2 s2 r2 ⟨rs, i, n, r, e1, ec, hn, hr, q2⟩ => ?_⟩
    subst ec
    cases r2
    obtain ⟨p1, qs, ev1, o1, rq1, nd1, hF1⟩ := s2.own2At e1
    rw [ev] at ev1
    cases ev1
    obtain ⟨qa, xs, hq, oq, rl⟩ := rq1.get hr
    have hat : atI (qs.map V.ref) i = some (.ref qa) := by
      unfold atI
      rw [List.length_map, rq1.length, hn]
      show (qs.map V.ref)[n]? = _
      rw [List.getElem?_map, hq]
      rfl
    refine .inl ⟨p0, _, i, _, rfl, rfl, .inl (.inl o1.1), hat, ρ2, F2, W2, _, rfl, s2, q2, fun y2 c2 ρ3 F3 W3 a3 s3 r3 ⟨e2, i2, n2, ec2, hn2, q3⟩ => ?_⟩
    subst ec2
    cases r3
    obtain ⟨p2, qs2, ev2, o2, rq2, nd2, hF2⟩ := s3.own2At e2
    rw [ev] at ev2
    cases ev2
    have same : qs2 = qs := by
      have h1 : W3.H p0 = W2.H p0 := a3.same j p0 (by rw [hF1]; exact List.mem_cons_self)
      rw [o2.1, o1.1] at h1
      have h2 : qs2.map V.ref = qs.map V.ref := by
        have := Option.some.inj h1
        injection this
      exact map_inj_on (fun _ _ _ _ z => by injection z) h2
    subst same
    obtain ⟨qa2, xs2, hq2, oq2, rl2⟩ := rq2.get hr
    rw [hq] at hq2
    cases hq2
    have hqF : qa ∈ F3 j := by rw [hF2]; exact List.mem_cons_of_mem _ (List.mem_of_getElem? hq)
    have gs := Wd.set_go (W := W3) (p := qa) (xs := xs2.set n2 v) oq2.2
    have np : ¬ p0 = qa := fun z => (List.nodup_cons.mp nd2).1 (z ▸ List.mem_of_getElem? hq)
    obtain ⟨a4, s4⟩ := s3.changeG (r := .ow2 (rs.set n (r.set n2 d))) e2 ev (gs.mono (fun a ea => by rw [ea]; exact hqF) fun a h => (s3.new j a h).1) (by
      rw [hF2]
      exact .ow2 (o2.up gs np) (RpQ.setq (RpL.set (((r1.up a2.go.ext).up a3.go.ext).up gs.ext) n2 (rl2.up gs.ext)) oq2.2 (List.nodup_cons.mp nd2).2 hq rq2) nd2)
    exact ⟨qa, xs2, i2, n2, rfl, rfl, oq2.1, by rw [rl2.length]; exact hn2, c.nx _ _ F3 _ (((a1.toStpM.trans a2.toStpM).trans a3.toStpM).trans a4).s s4 q3⟩
/-! ### the getter of a property, as it stands -/
def DefAtP (Z : Q.Env) (C f q : Str) (st : Stmt) : Prop := ∃ (p g : Addr) (fd : FuncData), Cls Z.K (He.ga Z.K C) ∧ PropOf Z.K (He.ga Z.K C) f p g ∧ FunD Z.K f q (defArgs st) (defBody st) (defScope st) [] [] g fd
theorem can_P {Z : Q.Env} {k : Nat} {C f q : Str} {st : Stmt} {N : List Str} {mf : Mf} (Df : DefAtP Z C f q st) (sc : FnScope N ["self"] (defScope st)) (mb : (Er → Prop) → Ps)
    (hb : ∀ (kV doc pm : Value) (an : Option Addr) (cdv ct : Value) (us : List Value), us.length = 1 → bindArgs (PySem.W.fnOf f q (defArgs st) (defBody st) (defScope st) .none kV doc pm an cdv ct) ⟨us, []⟩ = pure ((["self"] : List Str).zip us))
    (hm : ∀ ds Q E, mf ds Q E → mb E { nx := fun _ => Q (.dat .non), rt := Q } (startR (N.length - 1) ds))
    (hbody : ∀ (f' : Addr) (cdv : Value) (A : Around) (outer : List PySem.Env) (s : Shared) (H : Hp) (E : XK) (W : Wd) (E' : Er → Prop), Room k (A.deeper (envOfC q (defScope st) s.heap.objs.size f' cdv)) → EOk ⟨Z.K, W, none, 1000, none, none⟩ (fun cls d _ H => E cls d H) (fun er _ => E' er) →
      PSs (cxOf (CXn Z) Z.P Z.w Z.K Z.mg Z.base N q (defScope st) f' cdv A outer s H E) (defBody st) (lS ⟨Z.K, W, none, 1000, none, none⟩ (mb E'))) : CanP Z (CXn Z) (k + 1) C f (lF Z.K 1 mf) := by
  obtain ⟨p, g, fd, c1, c2, F⟩ := Df
  exact ⟨p, g, fd, c1, c2, FunD.bindsN F hb, fn_lF F sc rfl mb hm fun cdv A outer s H E W E' hr eo => hbody g cdv A outer s H E W E' hr eo⟩
/-- an __init__ without defaults -/
theorem can_I0 {Z : Q.Env} {k n : Nat} {ps : List Str} {C q : Str} {st : Stmt} {N : List Str} {mi : Mi} (Df : DefAtI Z C q st []) (sc : FnScope N ps (defScope st)) (hn : ps.length = n + 1) (hN : n + 1 ≤ N.length) (mb : (Er → Prop) → Ps)
    (hb : ∀ (kV doc pm : Value) (an : Option Addr) (cdv ct : Value) (us : List Value), us.length = ps.length → bindArgs (PySem.W.fnOf "__init__" q (defArgs st) (defBody st) (defScope st) .none kV doc pm an cdv ct) ⟨us, []⟩ = pure (ps.zip us))
    (hm : ∀ ds Q E, mi ds Q E → mb E { nx := fun ρ => ∃ fs, ρ[0]? = some (some (.ownO C fs)) ∧ Q fs, rt := fun _ => False } (some (.ownO C []) :: startR (N.length - (n + 1)) ds))
    (hbody : ∀ (f : Addr) (cdv : Value) (A : Around) (outer : List PySem.Env) (s : Shared) (H : Hp) (E : XK) (W : Wd) (x : Addr) (E' : Er → Prop), Room k (A.deeper (envOfC q (defScope st) s.heap.objs.size f cdv)) → EOk ⟨Z.K, W, none, 0, some x, none⟩ (fun cls d _ H => E cls d H) (fun er _ => E' er) →
      PSs (cxOf (CXn Z) Z.P Z.w Z.K Z.mg Z.base N q (defScope st) f cdv A outer s H E) (defBody st) (lS ⟨Z.K, W, none, 0, some x, none⟩ (mb E'))) : CanN Z (CXn Z) (k + 1) C ps [] (lFi Z.K n C mi) := by
  obtain ⟨f, fd, c1, c2, F⟩ := Df
  exact ⟨f, fd, [], c1, c2, FunD.bindsN F hb, .nil, fn_lFi F sc hn hN mb hm fun cdv A outer s H E W x E' hr eo => hbody f cdv A outer s H E W x E' hr eo⟩
/-! ### reckoned -/
section
variable {ρ : Rho} {Q : D → Rho → Prop} {R : SV → Rho → Prop} {m n l : Pd} {E : PEnds} {i j : Nat} {K : D → Prop}
def pProp (C : Str) (f : Mf) (d : D) (K : D → Prop) : Prop := ∃ fs, d = .obj C fs ∧ f [.obj C fs] (fun r => ∃ x, r = .dat x ∧ K x) fun _ => False
def pGetO (C : Str) (f : Mf) (Ex : Er → Rho → Prop) (d i : D) (ρ : Rho) (R : SV → Rho → Prop) : Prop := ∃ fs, d = .obj C fs ∧ f [.obj C fs, i] (fun r => R r ρ) fun er => Ex er ρ
theorem e_prop {C : Str} {f : Mf} : mProp C f m ρ Q = m ρ fun d ρ1 => pProp C f d fun x => Q x ρ1 := rfl
theorem e_getO {C : Str} {f : Mf} {Ex : Er → Rho → Prop} : mGetO C f Ex m n ρ R = m ρ fun d ρ1 => n ρ1 fun i ρ2 => pGetO C f Ex d i ρ2 R := rfl
theorem e_inG {neg : Bool} {xs : List Str} : mInG neg xs m ρ Q = m ρ fun d ρ1 => asS d fun x => Q (.bl (if neg then !xs.contains x else xs.contains x)) ρ1 := rfl
theorem e_revL : mRevL m ρ R = m ρ fun d ρ1 => asL d fun ds => R (.own ds.reverse) ρ1 := rfl
theorem e_enum {Q : List D → Rho → Prop} : mEnum m ρ Q = m ρ fun d ρ1 => asL d fun ds => Q (enumD ds) ρ1 := rfl
theorem e_retL2 : mRetL2 i j E ρ = (i ≠ j ∧ atOwn i ρ fun ds => atOwn j ρ fun es => E.rt (.ow2 [ds, es])) := propext ⟨fun ⟨h, ds, es, h1, h2, h3⟩ => ⟨h, ds, h1, es, h2, h3⟩, fun ⟨h, ds, h1, es, h2, h3⟩ => ⟨h, ds, es, h1, h2, h3⟩⟩
theorem e_put2 : mPut2 j m n l E ρ = m ρ fun d ρ1 => hasOwn2 ρ1 j ∧ n ρ1 fun c ρ2 => atRow j ρ2 fun rs => asI c fun i => pNth rs.length i fun n => pRow rs n fun r => l ρ2 fun c2 ρ3 => rowIs j ρ3 rs ∧ asI c2 fun i2 => pNth r.length i2 fun n2 => E.nx (ρ3.set j (some (.ow2 (rs.set n (r.set n2 d))))) := by
  have h : ∀ c d ρ2, (∃ rs i n r, ρ2[j]? = some (some (.ow2 rs)) ∧ c = .int i ∧ ixN rs.length i = some n ∧ rs[n]? = some r ∧ l ρ2 fun c2 ρ3 => ρ3[j]? = some (some (.ow2 rs)) ∧ ∃ i2 n2, c2 = .int i2 ∧ ixN r.length i2 = some n2 ∧ E.nx (ρ3.set j (some (.ow2 (rs.set n (r.set n2 d)))))) = atRow j ρ2 fun rs => asI c fun i => pNth rs.length i fun n => pRow rs n fun r => l ρ2 fun c2 ρ3 => rowIs j ρ3 rs ∧ asI c2 fun i2 => pNth r.length i2 fun n2 => E.nx (ρ3.set j (some (.ow2 (rs.set n (r.set n2 d))))) := fun c d ρ2 => by
    have g : ∀ (rs : List (List D)) (r : List D) (n : Nat), (fun (c2 : D) (ρ3 : Rho) => ρ3[j]? = some (some (.ow2 rs)) ∧ ∃ i2 n2, c2 = .int i2 ∧ ixN r.length i2 = some n2 ∧ E.nx (ρ3.set j (some (.ow2 (rs.set n (r.set n2 d)))))) = fun c2 ρ3 => rowIs j ρ3 rs ∧ asI c2 fun i2 => pNth r.length i2 fun n2 => E.nx (ρ3.set j (some (.ow2 (rs.set n (r.set n2 d))))) := fun rs r n => by
      funext c2 ρ3
      exact propext ⟨fun ⟨h, i2, n2, h1, h2, h3⟩ => ⟨h, i2, h1, n2, h2, h3⟩, fun ⟨h, i2, h1, n2, h2, h3⟩ => ⟨h, i2, n2, h1, h2, h3⟩⟩
    simp only [g]
    exact propext ⟨fun ⟨rs, i, n, r, h1, h2, h3, h4, h5⟩ => ⟨rs, h1, i, h2, n, h3, r, h4, h5⟩, fun ⟨rs, h1, i, h2, n, h3, r, h4, h5⟩ => ⟨rs, i, n, r, h1, h2, h3, h4, h5⟩⟩
  unfold mPut2
  simp only [h]
end
/-! ### at the head -/
theorem prop_ok {Z : Q.Env} {pr : List PrD} (pw : pr.map (prW Z.K) = pr.map PrD.val) {C f q : Str} {st : Stmt} (i : Nat) (hi : pr[i]? = some ⟨C, f, q, defArgs st, defBody st, defScope st⟩) (c : (He.Fa.cls C).ok Z.K = true) (h : prB Z.K C f q = true) : DefAtP Z C f q st := by
  obtain ⟨a1, h⟩ := He.ba h
  obtain ⟨a2, h⟩ := He.ba h
  obtain ⟨a3, h⟩ := He.ba h
  obtain ⟨a4, h⟩ := He.ba h
  obtain ⟨kp, c2⟩ := He.ba h
  have e : prW Z.K ⟨C, f, q, defArgs st, defBody st, defScope st⟩ = PrD.val ⟨C, f, q, defArgs st, defBody st, defScope st⟩ := List.map_inj_left.mp pw _ (List.mem_of_getElem? hi)
  have rc : ∃ rest, PySem.W.recIn Z.K (prP Z.K C f) "property" = some (.ref (prG Z.K C f) :: rest) := by
    split at a4
    · rename_i g rest hr
      rw [of_decide_eq_true a4] at hr
      exact ⟨_, hr⟩
    · cases a4
  unfold prW at e
  simp only at e
  cases w : Z.K.lookup (prG Z.K C f) with
  | none =>
    rw [w] at c2
    cases c2
  | some o =>
    obtain ⟨oc, od, dt, osl⟩ := o
    rw [w] at c2 e
    cases dt with
    | func fd =>
      obtain ⟨n1, n2, n3, n4, n5, n6, n7, n8, n9, n10, n11, n12, n13, n14, n15⟩ := fd
      have e2 : (some (n1, n2, n3, n4, n5, n6, n7, n15) : He.FnW) = some (f, q, defArgs st, .stmts (defBody st), defScope st, mainGlobals, [], builtinsNs) := e
      simp only [Option.some.injEq, Prod.mk.injEq] at e2
      obtain ⟨h1, h2, h3, h4, h5, h6, h7, h8⟩ := e2
      subst h1 h2 h3 h4 h5 h6 h7 h8
      have c3 : (PySem.W.codeIn Z.K n13 n2 && (He.dflB Z.K n8 [] && He.kwdB Z.K n9 [])) = true := c2
      obtain ⟨k1, k2⟩ := He.ba c3
      obtain ⟨k3, k4⟩ := He.ba k2
      exact ⟨_, _, _, He.cls_ok c, ⟨He.eqO_ok a1, He.eqO_ok a2, of_decide_eq_true a3, rc⟩, ⟨oc, od, n8, n9, n10, n11, n12, n13, n14, osl, rfl, w, k1, He.dflB_ok k3, He.kwdB_ok k4⟩, kp⟩
    | _ => cases c2
theorem gvT_ok {Z : Q.Env} {x : Str} {xs : List Str} (g : Z.mg x = some (.ref (He.ga Z.K x))) (h : He.tupB Z.K x (xs.map He.Dv.str) = true) : GvT Z x xs := by
  refine ⟨⟨_, g, rfl⟩, fun H => ?_⟩
  have := He.tupB_ok h H
  rw [List.map_map] at this
  exact this
end U

/-! PuNet: nets -/
namespace U
open PySem PySem.Spec PyProof.Rows L2 Q TL
/-- a net: its names, its machines -/
structure Nt where
  nm : List Str
  ms : List Mc
abbrev takenZ : List Str := ["line", "not", "and", "or", "by", "quiet", "stuck", "done", "own"]
def freeZ (z : Str) : Bool := nmB z && !takenZ.contains z
def ntF (N : Nt) : List (Str × D) := [("names", .tup (N.nm.map D.str)), ("machines", .tup (N.ms.map mcD))]
def ntD (N : Nt) : D := .obj "Net" (ntF N)
theorem ntF_set (N : Nt) : setF "machines" (.tup (N.ms.map mcD)) (setF "names" (.tup (N.nm.map D.str)) []) = ntF N := by
  have a : (Str.ofString "names" : Str) ≠ Str.ofString "machines" := by decide
  rw [setF_nil, setF_ne a, setF_nil]
  rfl
structure NtOk (N : Nt) : Prop where
  len : N.nm.length = N.ms.length
  n1 : 1 ≤ N.ms.length
  n2 : N.ms.length ≤ 6
  nm : ∀ z ∈ N.nm, freeZ z = true
  nd : N.nm.Nodup
  ok : ∀ m ∈ N.ms, McOk m
  pe : ∀ (i : Nat) (m : Mc), N.ms[i]? = some m → ∀ s ∈ m.ss, s.h ≠ (i : Int) ∧ s.h < N.ms.length
theorem lk_names {N : Nt} : (ntF N).lookup (Str.ofString "names") = some (.tup (N.nm.map D.str)) := by unfold ntF; rw [look_eq]
theorem lk_machines {N : Nt} : (ntF N).lookup (Str.ofString "machines") = some (.tup (N.ms.map mcD)) := by unfold ntF; rw [look_ne (by decide), look_eq]
theorem fld_names {N : Nt} {Q : D → Prop} : pFld ["Net"] "names" (ntD N) Q = Q (.tup (N.nm.map D.str)) := fld_of List.mem_cons_self lk_names
theorem fld_machines {N : Nt} {Q : D → Prop} : pFld ["Net"] "machines" (ntD N) Q = Q (.tup (N.ms.map mcD)) := fld_of List.mem_cons_self lk_machines
/-- a net as it is planned -/
def plD (N : Nt) : D := .lst [.lst (N.nm.map D.str), .lst (N.ms.map lmD)]
theorem ix_pl0 {N : Nt} {K : D → Prop} : pIx (plD N) (.int 0) K = K (.lst (N.nm.map D.str)) := by unfold plD; rw [e_ixl, e_at0]
theorem ix_pl1 {N : Nt} {K : D → Prop} : pIx (plD N) (.int 1) K = K (.lst (N.ms.map lmD)) := by unfold plD; rw [e_ixl, e_at1]
/-! signs that stand in no taken name -/
abbrev sgns : List Nat := [102, 103, 104, 106, 109, 112]
theorem free_of {z : Str} (h : nmB z = true) {c : Nat} (hc : c ∈ sgns) (hz : c ∈ tl z) : freeZ z = true := by
  unfold freeZ
  rw [h, Bool.true_and, Bool.not_eq_true', ← Bool.not_eq_true, List.contains_iff_mem]
  intro hm
  have key : ∀ t ∈ takenZ, ∀ c ∈ sgns, c ∉ tl t := by decide
  exact key z hm c hc hz
theorem tl_single (c : Nat) : tl (⟨#[c]⟩ : Str) = [c] := rfl
theorem cutG_to {α : Type} {xs : List α} {j : Nat} (h : j ≤ xs.length) : cutG xs none (some (j : Int)) = xs.take j := by
  unfold cutG
  have h1 : HT.sIx xs.length 0 none = 0 := rfl
  have h2 : HT.sIx xs.length xs.length (some (j : Int)) = j := by
    rw [HT.sIx_nat]
    omega
  rw [h1, h2, List.drop_zero, Nat.sub_zero]
theorem cutG_from {α : Type} {xs : List α} {j : Nat} (h : j ≤ xs.length) : cutG xs (some (j : Int)) none = xs.drop j := by
  unfold cutG
  have h1 : HT.sIx xs.length xs.length none = xs.length := rfl
  have h2 : HT.sIx xs.length 0 (some (j : Int)) = j := by
    rw [HT.sIx_nat]
    omega
  rw [h2, h1]
  exact List.take_of_length_le (by rw [List.length_drop]; omega)
theorem strOk_nm {z : Str} (h : nmB z = true) : PyData.strOk z = true := strOk_iff.mpr fun c hc => by have := (low_tl h).1 c hc; omega
theorem free_nm {z : Str} (h : freeZ z = true) : nmB z = true := by
  unfold freeZ at h
  exact (Bool.and_eq_true_iff.mp h).1
theorem cutS_tl {z : Str} {lo hi : Option Int} : tl (cutS z lo hi) = cutG (tl z) lo hi := by
  unfold cutS cutG
  rw [tl_len]
/-- a sign put into a text, or behind it, makes a free name -/
theorem nm_put {a b : Str} {c : Nat} (h : ∀ x ∈ tl a ++ tl b, 97 ≤ x ∧ x ≤ 122) (hl : (tl a ++ tl b).length ≤ 7) (hc : 97 ≤ c ∧ c ≤ 122) : nmB (a ++ ⟨#[c]⟩ ++ b) = true := by
  have e : tl (a ++ ⟨#[c]⟩ ++ b) = tl a ++ [c] ++ tl b := by rw [tl_app, tl_app, tl_single]
  have hl2 : (a ++ (⟨#[c]⟩ : Str) ++ b).length = (tl a ++ tl b).length + 1 := by
    rw [← tl_len, e]
    simp only [List.length_append, List.length_singleton]
    try omega
  unfold nmB lowB
  rw [Bool.and_eq_true, Bool.and_eq_true, decide_eq_true_eq, decide_eq_true_eq, List.all_eq_true]
  refine ⟨fun x hx => ?_, by omega, by omega⟩
  have hx : x ∈ tl (a ++ ⟨#[c]⟩ ++ b) := hx
  rw [e] at hx
  have : 97 ≤ x ∧ x ≤ 122 := by
    simp only [List.mem_append, List.mem_singleton] at hx
    rcases hx with (hx | hx) | hx
    · exact h x (List.mem_append_left _ hx)
    · rw [hx]; exact hc
    · exact h x (List.mem_append_right _ hx)
  rw [Bool.and_eq_true, decide_eq_true_eq, decide_eq_true_eq]
  exact this
theorem sgn_rng {c : Nat} (h : c ∈ sgns) : 97 ≤ c ∧ c ≤ 122 := by
  have : ∀ c ∈ sgns, 97 ≤ c ∧ c ≤ 122 := by decide
  exact this c h
theorem free_put {a b : Str} {c : Nat} (h : ∀ x ∈ tl a ++ tl b, 97 ≤ x ∧ x ≤ 122) (hl : (tl a ++ tl b).length ≤ 7) (hc : c ∈ sgns) : freeZ (a ++ ⟨#[c]⟩ ++ b) = true :=
  free_of (nm_put h hl (sgn_rng hc)) hc (by rw [tl_app, tl_app, tl_single]; simp)
theorem str_ext {a b : Str} (h : tl a = tl b) : a = b := by
  cases a; cases b
  congr
  exact Array.ext' h
/-- the numbers below n without i -/
def othL (n i : Nat) : List Int := ((List.range n).filter fun x => decide (x ≠ i)).map fun (x : Nat) => (x : Int)
theorem mem_oth {n i : Nat} {p : Int} : p ∈ othL n i ↔ (0 ≤ p ∧ p < n) ∧ p ≠ i := by
  unfold othL
  rw [List.mem_map]
  constructor
  · rintro ⟨x, hx, rfl⟩
    obtain ⟨h1, h2⟩ := List.mem_filter.mp hx
    have := List.mem_range.mp h1
    have h2 := of_decide_eq_true h2
    exact ⟨⟨by omega, by omega⟩, fun e => h2 (by omega)⟩
  · rintro ⟨⟨h1, h2⟩, h3⟩
    exact ⟨p.toNat, List.mem_filter.mpr ⟨List.mem_range.mpr (by omega), decide_eq_true (fun e => h3 (by omega))⟩, by omega⟩
theorem oth_len {n i : Nat} : (othL n i).length ≤ n := by
  unfold othL
  rw [List.length_map]
  have := List.length_filter_le (fun x => decide (x ≠ i)) (List.range n)
  rwa [List.length_range] at this
theorem oth_ne {n i : Nat} (h : 2 ≤ n) : othL n i ≠ [] := by
  intro e
  by_cases q : i = 0
  · have : (1 : Int) ∈ othL n i := mem_oth.mpr ⟨⟨by omega, by omega⟩, by omega⟩
    rw [e] at this; cases this
  · have : (0 : Int) ∈ othL n i := mem_oth.mpr ⟨⟨by omega, by omega⟩, by omega⟩
    rw [e] at this; cases this
theorem oth_peer {n i : Nat} (h : n ≤ 6) : PeerL (othL n i) := fun p hp => by have := mem_oth.mp hp; omega
/-- a comprehension over a list, the elements drawn -/
theorem lc_lst {α : Type} {b : Bnd} {tt : Pt} {te : Pd} {ρ0 : Rho} {Q : List D → Prop} (enc : α → D) (xs : List α) (J : Nat → List D → Prop) (h0 : ∀ acc, J xs.length acc → Q acc)
    (hs : ∀ j x acc ds, xs[j]? = some x → J j acc → (∀ acc', J (j + 1) acc' → lcD b tt te ρ0 Q ds acc') → b (enc x) ρ0 fun ρ1 => tt ρ1 fun c ρ2 => ρ2 = ρ1 ∧ pI c (te ρ1 fun e ρ3 => ρ3 = ρ1 ∧ acc.length < sizeLine ∧ lcD b tt te ρ0 Q ds (acc ++ [e])) (lcD b tt te ρ0 Q ds acc)) (h : J 0 []) : pLc b tt te ρ0 Q (xs.map enc) [] := by
  have key : ∀ (ys : List α) (j : Nat) acc, xs.drop j = ys → j ≤ xs.length → J j acc → lcD b tt te ρ0 Q (ys.map enc) acc := by
    intro ys
    induction ys with
    | nil =>
      intro j a e hj h
      have hl : xs.length ≤ j := by have := congrArg List.length e; simp at this; omega
      have q : j = xs.length := by omega
      subst q
      exact h0 a h
    | cons y ys ih =>
      intro j a e hle h
      have hj : xs[j]? = some y := by
        have := congrArg (fun l => l[0]?) e
        simpa using this
      refine hs j y a _ hj h fun a' h' => ih (j + 1) a' ?_ (List.getElem?_eq_some_iff.mp hj).1 h'
      have := congrArg List.tail e
      simpa using this
  exact key xs 0 [] rfl (Nat.zero_le _) h
def lstZ (z : Str) : Option Nat := (tl z).getLast?
/-- a walk over the members of a list -/
theorem for_lst {α β : Type} {b : Bnd} {body : Ps} {E : PEnds} (f : α → D) (xs : List α) (st : β → Rho) (I : Nat → β → Prop) (h0 : ∀ a, I xs.length a → E.nx (st a))
    (hs : ∀ (j : Nat) (x : α) a ds, xs[j]? = some x → I j a → (∀ a', I (j + 1) a' → forD b body E ds (st a')) → b (f x) (st a) fun ρ1 => body { nx := forD b body E ds, ct := forD b body E ds, bk := E.nx, rt := E.rt } ρ1) (a : β) (h : I 0 a) : pFor b body E (xs.map f) (st a) := by
  have key : ∀ (ys : List α) (j : Nat) a, xs.drop j = ys → j ≤ xs.length → I j a → forD b body E (ys.map f) (st a) := by
    intro ys
    induction ys with
    | nil =>
      intro j a e hj h
      have hl : xs.length ≤ j := by have := congrArg List.length e; simp at this; omega
      have q : j = xs.length := by omega
      subst q
      exact h0 a h
    | cons y ys ih =>
      intro j a e hle h
      have hj : xs[j]? = some y := by
        have := congrArg (fun l => l[0]?) e
        simpa using this
      refine hs j y a _ hj h fun a' h' => ?_
      refine ih (j + 1) a' ?_ (List.getElem?_eq_some_iff.mp hj).1 h'
      have := congrArg List.tail e
      simpa using this
  exact key xs 0 a rfl (Nat.zero_le _) h
/-- a row of the net -/
def RowOk (N : Nt) (r : List Int) : Prop := r.length = N.ms.length ∧ ∀ (i : Nat) (p : Int) (m : Mc), r[i]? = some p → N.ms[i]? = some m → 0 ≤ p ∧ p < m.n
def rowT (r : List Int) : D := .tup (r.map D.int)
theorem fz_ints {l : List Int} : Fz (.tup (l.map D.int)) := .tup fun d hd => by
  obtain ⟨i, _, rfl⟩ := List.mem_map.mp hd
  exact .int
end U

/-! PuO2: len, in of own classes -/
namespace U
open PySem PySem.Spec PyProof.Rows L2 Q
def rLenO (C : Addr) (sp : Sp) : List V → Hp → VK → Prop := fun xs H Q => ∃ a dx fs, xs = [.ref a] ∧ H a = some (.ins C dx fs) ∧ sp [.ref a] H (fun v H' => ∃ n : Int, v = .int n ∧ 0 ≤ n ∧ n < 2 ^ 63 ∧ Q v H') fun _ _ _ => False
section
variable {Z : Q.Env} {X : Cx} {S : Sx} {k n : Nat} {C : Str} {mf : Mf} {ma mb : Pd} {a b : Expr} {pos : Pos} {sp : Sp} {ps : List Str}
/-- a promise that raises nothing, run somewhere below -/
theorem run_NA {A : Around} {f : Addr} {fd : FuncData} (h5 : FnOk X.prog X.w X.K X.mg X.base (L2N.CX X.prog X.w) k f fd ps sp) (hr : Room k A) (h3 : Binds X.K fd ps []) {pins : List (Addr × Obj)} {σ : L2.St} {H1 : Hp} {s1 : Shared} {Q : VK} {E' : Value → Shared → Prop} {us : List Value} {vs : List V}
    (I1 : Inv X pins σ H1 s1) (e0 : Env0 X.prog X.w X.K X.mg X.base A X.stack s1 H1) (r : Vals vs us) (q : sp vs H1 Q fun _ _ _ => False) : wpAny (model X.prog X.w) A (call (.ref f) us) (EP X pins σ Q) E' s1 := by
  have hl : us.length = ps.length := by rw [← r.length]; exact h5.len _ _ _ _ q
  have hb : BindsTo s1 fd ⟨us, []⟩ (ps.zip us) := by
    have := h3 s1 us I1.kIn (by rw [List.append_nil]; exact hl)
    rw [List.append_nil] at this
    exact this
  refine wpAny_call (codeAny_mono (h5.run A X.stack s1 H1 ⟨us, []⟩ us vs Q _ hr e0 hb r q) fun rr s2 hq => ?_)
  match rr, hq with
  | .error v, hq =>
    obtain ⟨_, _, _, _, _, _, _, _, _, _, _, _, h⟩ := hq
    exact h.elim
  | .ok (.ret u), hq => exact I1.after hq
  | .ok .next, hq => exact False.elim hq
  | .ok .brk, hq => exact False.elim hq
  | .ok .cont, hq => exact False.elim hq
theorem call_lenO (c : CanS Z (CXn Z) k C "__len__" ps sp) (hr : Room (k + 1) X.A) (z : At Z X := by exact ⟨rfl, rfl, rfl, rfl, rfl⟩) : CallR X (.builtin "len") (rLenO (He.ga Z.K C) sp) := by
  obtain ⟨f, fd, c1, c2, c3, h3, h5⟩ := c
  obtain ⟨e1, e2, e3, e4, e5⟩ := z
  rw [CXn, ← e1, ← e2, ← e3, ← e4, ← e5] at h5
  rw [← e3] at c1 c2 c3 h3 ⊢
  intro pins s σ H xs us Q I r h
  obtain ⟨p, dx, fs, rfl, ea, q⟩ := h
  obtain ⟨u, rfl, ru⟩ := r.one
  obtain rfl : u = Value.ref p := ru
  obtain ⟨mA, J, _⟩ := ins_get I.hok ea
  obtain ⟨od, J, _⟩ := J.look
  obtain ⟨m0, hF⟩ := I.fr
  refine PySem.W.len_K hF I.ok.mod.kin J c2.at_ c2.fn (wpAny_mono (run_NA (us := [.ref p]) (vs := [.ref p]) h5 hr.in1 h3 I I.env0.in1 (.cons rfl .nil) q) (fun v s' hv => ?_) fun _ _ x => x)
  obtain ⟨w, H', I', rw', n, ew, h0, h1, q'⟩ := hv
  subst ew
  obtain ⟨t, rfl⟩ := (show ∃ t, v = Value.int n t from rw')
  exact ⟨⟨h0, h1⟩, .int n, H', I'.tok _, ⟨_, rfl⟩, q'⟩
def fLenO (C : Str) (mf : Mf) : List D → (D → Prop) → Prop := fun ds Q => ∃ fs, ds = [.obj C fs] ∧ mf [.obj C fs] (fun r => ∃ x, r = .dat x ∧ ∃ n : Int, x = .int n ∧ 0 ≤ n ∧ n < 2 ^ 62 ∧ Q (.int n)) fun _ => False
theorem f_lenO {K : PySem.W.Frag} : CallD K (rLenO (He.ga K C) (lF K 1 mf)) (fLenO C mf) := fun W vs ds Q Q' r h kk => by
  obtain ⟨fs, e, q⟩ := h
  subst e
  cases r with
  | cons r rr =>
    cases rr
    have r' := r
    cases r with
    | @obj p dx C fs' ds e n' r0 =>
      refine ⟨p, dx, fs', rfl, e, W, [.obj C fs], _, _, rfl, rfl, .cons r' .nil, q, fun v r1 Y W' g hr1 hY ⟨x, er, n, ex, h0, h1, q'⟩ => ?_, fun _ _ _ _ _ _ z => z.elim⟩
      subst er
      subst ex
      cases hr1 with
      | dat hd =>
        cases hd
        exact ⟨n, rfl, h0, by omega, kk _ _ W' g .int q'⟩
end
end U

/-! PuO3: a walk over what stands in a name; an empty dict too -/
namespace U
open PySem PySem.Spec PyProof.Rows L2 Q
def mForE (j : Nat) (b : Bnd) (body : Ps) : Ps := fun E ρ => (∃ t, ρ[j]? = some (some (.dat (.dct t []))) ∧ E.nx ρ) ∨ mFor (mIt (mVar j)) b body E ρ
theorem upd_back {H : Hp} {d : Addr} {u x : HO} (h : H d = some u) : upd (upd H d x) d u = H := by
  funext a
  by_cases q : a = d
  · subst q; rw [upd_same, h]
  · rw [upd_ne q, upd_ne q]
section
variable {X : Cx} {S : Sx} {tg iter : Expr} {body : List Stmt} {g : TG} {b : Bnd} {m : Ps} {j : Nat} {pos : Pos}
theorem qForE (hp : PassesOwn (model X.prog X.w) X.A X.env X.xe) (hc : X.calm = true) (hK : X.K = S.K) (he : PE X iter (tVar j)) (hg : PG X tg g) (ho : GOk S g b) (hb : PSs X body (lS S m)) (hs : ∀ x, foldedSetIterable iter X.env x = pure x := by intro _; rfl) :
    PS X (.For tg iter body [] pos) (lS S (mForE j b m)) := ⟨fun pins s σ H D I ⟨ρ, F, W, E', e, sn, q, c⟩ => by
  rcases q with ⟨t, er, q⟩ | q
  · subst e
    obtain ⟨v, ev, hv⟩ := sn.sv j _ er
    have fin : D.nx σ W.H := c.nx σ ρ F W sn.stpS sn q
    have base := ps_for (pos := pos) hp hc (pi_keys (tg := tg) he) hg hb hs
    generalize hF : F j = Y at hv
    cases hv with
    | dat hd =>
      cases hd with
      | @dct a kvs ds e n r =>
        cases r
        rcases e with e | ⟨o, e⟩
        · refine (ps_lock base).run pins s σ W.H D I ⟨a, .dK [], e, True.intro, fun od => ⟨.ref a, ev, a, od, rfl, .inl ⟨[], upd_same, fun _ _ σ' H' => σ' = σ ∧ H' = upd W.H a (.frz od (.dK [])), ⟨0, rfl, rfl⟩, ?_⟩⟩⟩
          rintro i m σ' H' ⟨rfl, rfl⟩
          exact .inl ⟨⟨upd_same, Nat.zero_le _⟩, upd_same, by rw [upd_back e]; exact fin⟩
        · refine base.run pins s σ W.H D I ⟨.ref a, ev, a, o, rfl, .inl ⟨[], e, fun _ _ σ' H' => σ' = σ ∧ H' = W.H, ⟨0, rfl, rfl⟩, ?_⟩⟩
          rintro i m σ' H' ⟨rfl, rfl⟩
          exact .inl ⟨⟨e, Nat.zero_le _⟩, fin⟩
      | @dcT a kvs ds e n r =>
        cases r
        rcases e with e | ⟨o, e⟩
        · refine (ps_lock base).run pins s σ W.H D I ⟨a, .dT [], e, True.intro, fun od => ⟨.ref a, ev, a, od, rfl, .inr ⟨[], upd_same, fun _ _ σ' H' => σ' = σ ∧ H' = upd W.H a (.frz od (.dT [])), ⟨0, rfl, rfl⟩, ?_⟩⟩⟩
          rintro i m σ' H' ⟨rfl, rfl⟩
          exact .inl ⟨⟨upd_same, Nat.zero_le _⟩, upd_same, by rw [upd_back e]; exact fin⟩
        · refine base.run pins s σ W.H D I ⟨.ref a, ev, a, o, rfl, .inr ⟨[], e, fun _ _ σ' H' => σ' = σ ∧ H' = W.H, ⟨0, rfl, rfl⟩, ?_⟩⟩
          rintro i m σ' H' ⟨rfl, rfl⟩
          exact .inl ⟨⟨e, Nat.zero_le _⟩, fin⟩
  · exact (qFor hp hc (qIt hK (qVar he)) hg ho hb hs).run pins s σ H D I ⟨ρ, F, W, E', e, sn, q, c⟩⟩
end
end U

/-! PuS: own classes whose __iter__ hands back an iterator over a tuple: list(o) -/
namespace U
open PySem PySem.Spec PyProof.Rows L2 Q
/-- at it an iterator over the tuple at t, the next place is i -/
def TiO (t it : Addr) (i : Nat) : HO := .ext fun h => h.IsTupleIter it t i
/-- at it something that nobody looks at any more -/
def AnO (it : Addr) : HO := .ext fun h => ∃ o, h.get? it = some o
section
variable {X : Cx} {pins : List (Addr × Obj)} {σ : L2.St} {H : Hp} {s : Shared} {t it : Addr} {i : Nat}
theorem tiO_ok {P : Program} {w : World} {H : Hp} {h : Heap} (e : h.IsTupleIter it t i) : ObjOk P w H h it (TiO t it i) := ⟨e, let ⟨o, h1, _⟩ := e; ⟨o, h1⟩, fun h1 h2 q k => let ⟨o, a, b⟩ := q; ⟨o, k _ a, b⟩⟩
theorem anO_ok {P : Program} {w : World} {H : Hp} {h : Heap} (e : ∃ o, h.get? it = some o) : ObjOk P w H h it (AnO it) := ⟨e, e, fun h1 h2 q k => let ⟨o, a⟩ := q; ⟨o, k _ a⟩⟩
theorem tiO_get (I : Inv X pins σ H s) (e : H it = some (TiO t it i)) : s.heap.IsTupleIter it t i := (I.hok it _ e).1
/-- iter(t), t a tuple -/
def rIterT (K : PySem.W.Frag) : List V → Hp → VK → Prop := fun xs H Q => ∃ (t : Addr) (zs : List V), xs = [.ref t] ∧ SqT K H t zs ∧ ∀ it, H it = none → Q (.ref it) (upd H it (TiO t it 0))
theorem call_iterT : CallR X (.builtin "iter") (rIterT X.K) := by
  intro pins s σ H xs us Q I r h
  obtain ⟨t, zs, rfl, hq, q⟩ := h
  obtain rfl := Vals.ref1 r
  obtain ⟨its, rv, pl, hz⟩ := I.tuple hq
  refine Calls.call_function_entry (by decide +kernel) (by decide +kernel) PySem.W.kdk_entry_iter (PySem.W.kdk_args_iter _) ?_
  unfold Builtin.«iter»
  refine wpAny_bind (m := someArgs "iter" 1 2 _) (wpAny_of_eq (a := [Value.ref t]) (by first | rfl | kernel_rfl!) ?_)
  refine wpAny_bind (wpAny_pyIter_tuple pl ?_)
  refine wpAny_pure ⟨_, rfl, .ref s.heap.objs.size, _, I.laid (t' := s.toks) (fun b u e => Heap.get?_push_of_some _ e) (Nat.le_refl _) (tiO_ok ⟨_, Heap.get?_push_size _ rfl, rfl, rfl⟩), rfl, q _ (I.hok.fresh (Nat.le_refl _))⟩
end
section
variable {prog : Program} {w : World} {A : Around} {E : Value → Shared → Prop} {s : Shared} {it t : Addr} {i : Nat} {items : Array Value}
/-- the last turn: the iterator stays where it is -/
theorem tiEnd {Q : Option Value → Shared → Prop} (hh : A.handled = none) (hit : s.heap.IsTupleIter it t i) (ht : s.heap.IsTuple t items) (hx : items[i]? = none)
    (hQ : ∀ h', Heap.ExtBut it s.heap h' → (∃ o, h'.get? it = some o) → Q none { s with heap := h' }) : wpAny (model prog w) A (pyNext (.ref it)) Q E s := by
  have a := hit
  have b := ht
  obtain ⟨⟨oc, od, dt, sl⟩, ho, hc, hd⟩ := a
  obtain ⟨⟨tc, td, tdt, tsl⟩, e1, ec, n, e2⟩ := b
  simp only at hc hd ec e2
  subst hc hd ec e2
  unfold pyNext
  refine wpAny_bind (wpAny_attempt (wpAny_callSpecial?_slot (name := Str.ofString "__next__") hit.typeIs F.slot_tuple_iterator_next (wpAny_call_entry F.slot_tuple_iterator_next hit.typeIs F.entry_tuple_iterator_next ?body (F.args_tuple_iterator_next_1 _))))
  obtain ⟨hp, g, d, tk, os⟩ := s
  simp only at ho e1 hQ
  wp_walk
  rw [Int.toNat_natCast, hx]
  wp_walk
  have keep : Heap.ExtBut it hp ((hp.update it (Obj.mapFields (·.setIfInBounds 0 Value.none))).push { cls := .type "tuple", data := .seq #[] }) := (Heap.SameBut.update ..).extBut.push _
  have here : ∃ o, (hp.update it (Obj.mapFields (·.setIfInBounds 0 Value.none))).get? it = some o := ⟨_, Heap.get?_update_self _ ho (by rfl)⟩
  unfold raiseNew
  refine wpAny_bind (wpAny_handled ?_)
  rw [show A.in1.handled = none from hh]
  refine wpAny_bind (wpAny_pure (wpAny_throw ?_))
  refine wpAny_bind (wpAny_isInstance (T := "StopIteration") (b := true) ⟨_, Heap.get?_push_size _ rfl, rfl⟩ isSubtype_stop (wpAny_pure ?_))
  refine hQ _ (keep.push _) ?_
  obtain ⟨o, ho⟩ := here
  exact ⟨o, Heap.get?_push_of_some _ (Heap.get?_push_of_some _ ho)⟩
end
end U
namespace U
open PySem PySem.Spec PyProof.Rows L2 Q
/-- what __iter__ promises: an iterator over the tuple in the field F; what __len__ promises: its length -/
def spIt (K : PySem.W.Frag) (C : Addr) (F : Str) : Sp := fun vs H Q _ => ∃ a dx fs t zs, vs = [.ref a] ∧ H a = some (.ins C dx fs) ∧ fs.lookup F = some (.ref t) ∧ Tp K H t zs ∧ ∀ it, H it = none → Q (.ref it) (upd H it (TiO t it 0))
def spLn (K : PySem.W.Frag) (C : Addr) (F : Str) : Sp := fun vs H Q _ => ∃ a dx fs t zs, vs = [.ref a] ∧ H a = some (.ins C dx fs) ∧ fs.lookup F = some (.ref t) ∧ Tp K H t zs ∧ Q (.int zs.length) H
section
variable {X : Cx} {pins : List (Addr × Obj)} {σ : L2.St} {A1 : Around} {Rs : Result → Shared → Prop} {q it t : Addr} {zs : List V} {H0 : Hp}
theorem ti_loop (hh : A1.handled = none) (hq : H0 q = none) (hi : H0 it = none) (hqi : q ≠ it) (ht : Tp X.K H0 t zs) (hz : zs.length ≤ sizeLine)
    (done : ∀ s, Inv X pins σ (upd H0 q (.lst zs)) s → Rs (.ok (.ret .none)) s) :
    ∀ (m i : Nat) (s : Shared), i + m = zs.length → Inv X pins σ (upd (upd H0 it (TiO t it i)) q (.lst (zs.take i))) s → codeAny (model X.prog X.w) A1 (.builtin "list.extend.loop" ⟨[.ref q, .ref it, .none], []⟩) Rs s := by
  have tt : ∀ (o1 o2 : HO), SqT X.K (upd (upd H0 it o1) q o2) t zs := fun o1 o2 => ((ht.upd hi).upd (by rw [upd_ne hqi]; exact hq)).sq
  intro m
  induction m with
  | zero =>
    intro i s hm I
    have gi := tiO_get (t := t) (it := it) (i := i) I (by rw [upd_ne (Ne.symm hqi), upd_same])
    obtain ⟨its, rv, pl, _⟩ := I.tuple (a := t) (xs := zs) (tt _ _)
    refine codeAny_builtin PySem.F.entry_extend_loop ?_
    rw [Around.under_plainId PySem.F.plain_extend_loop _]
    refine wpAny_bind (m := pyNext (.ref it)) (tiEnd hh gi pl (by rw [List.getElem?_toArray]; exact rv.none_of (List.getElem?_eq_none (by omega))) fun h' ex here => ?_)
    have mu : Mut (upd (upd H0 it (TiO t it i)) q (.lst (zs.take i)) it) := by rw [upd_ne (Ne.symm hqi), upd_same]; exact True.intro
    have I2 := I.write (x := it) (e := it) (o := AnO it) (t' := s.toks) mu (.inl rfl) (fun b o nb z => ex b o nb z) here (anO_ok here)
    have I3 := ItX.inv_drop I2 upd_same
    have e : ItX.dropH (upd (upd (upd H0 it (TiO t it i)) q (.lst (zs.take i))) it (AnO it)) it = upd H0 q (.lst zs) := by
      rw [List.take_of_length_le (by omega)]
      funext b
      by_cases hb : b = it
      · rw [hb, ItX.dropH_same, upd_ne (Ne.symm hqi), hi]
      · rw [ItX.dropH_ne hb, upd_ne hb]
        by_cases hc : b = q
        · rw [hc, upd_same, upd_same]
        · rw [upd_ne hc, upd_ne hc, upd_ne hb]
    rw [e] at I3
    exact wpAny_pure (done _ I3)
  | succ m ih =>
    intro i s hm I
    have gi := tiO_get (t := t) (it := it) (i := i) I (by rw [upd_ne (Ne.symm hqi), upd_same])
    obtain ⟨its, rv, pl, _⟩ := I.tuple (a := t) (xs := zs) (tt _ _)
    have hx : zs[i]? = some zs[i] := List.getElem?_eq_getElem (by omega)
    obtain ⟨u, hu, ru⟩ := rv.get hx
    refine codeAny_builtin PySem.F.entry_extend_loop ?_
    rw [Around.under_plainId PySem.F.plain_extend_loop _]
    refine wpAny_bind (m := pyNext (.ref it)) (wpAny_pyNext_tuple_item gi pl (by rw [List.getElem?_toArray]; exact hu) fun h' e' sb => ?_)
    have mu : Mut (upd (upd H0 it (TiO t it i)) q (.lst (zs.take i)) it) := by rw [upd_ne (Ne.symm hqi), upd_same]; exact True.intro
    have I2 := I.write (x := it) (e := it) (o := TiO t it (i + 1)) (t' := s.toks) mu (.inl rfl) (fun b o nb z => (sb.2 b nb).trans z) (let ⟨o, a, _⟩ := e'; ⟨o, a⟩) (tiO_ok e')
    have e : upd (upd (upd H0 it (TiO t it i)) q (.lst (zs.take i))) it (TiO t it (i + 1)) = upd (upd H0 it (TiO t it (i + 1))) q (.lst (zs.take i)) := by
      funext b
      by_cases hb : b = it
      · rw [hb, upd_same, upd_ne (Ne.symm hqi), upd_same]
      · rw [upd_ne hb]
        by_cases hc : b = q
        · rw [hc, upd_same, upd_same]
        · rw [upd_ne hc, upd_ne hc, upd_ne hb, upd_ne hb]
    rw [e] at I2
    obtain ⟨z, lits, k, r2, hl, e3⟩ := I2.lstM (l := q) upd_same
    refine wpAny_bind (m := updateSeq q (·.push u)) (wpAny_updateSeq e3 rfl (wpAny_pure ⟨plainId_quiet PySem.F.plain_extend_loop _, ?_⟩) (by rw [List.size_toArray]; omega) (by show (lits.toArray.push u).size ≤ sizeLine + 1; rw [Array.size_push, List.size_toArray]; omega))
    refine ih (i + 1) _ (by omega) ?_
    have I4 := I2.lset (f := (·.push u)) (its := lits) (its' := lits ++ [u]) (ys := zs.take i ++ [zs[i]]) (t' := s.toks) upd_same e3 (by simp) (r2.append (.cons ru .nil)) (by rw [List.length_append, List.length_singleton, List.length_take]; omega)
    rw [upd_upd] at I4
    have et : zs.take (i + 1) = zs.take i ++ [zs[i]] := by rw [List.take_add_one, hx]; rfl
    rw [et]
    exact I4
/-- list(o) -/
def rListO (K : PySem.W.Frag) (C : Addr) (F : Str) : List V → Hp → VK → Prop := fun xs H Q => ∃ a dx fs t zs, xs = [.ref a] ∧ H a = some (.ins C dx fs) ∧ fs.lookup F = some (.ref t) ∧ Tp K H t zs ∧ zs.length ≤ sizeLine ∧ ∀ q, H q = none → Q (.ref q) (upd H q (.lst zs))
/-- a promise that raises nothing, run somewhere below -/
theorem run_N2 {X : Cx} {A : Around} {f : Addr} {fd : FuncData} {k : Nat} {ps : List Str} {sp : Sp} (h5 : FnOk X.prog X.w X.K X.mg X.base (L2N.CX X.prog X.w) k f fd ps sp) (hr : Room k A) (h3 : Binds X.K fd ps []) {pins : List (Addr × Obj)} {σ : L2.St} {H1 : Hp} {s1 : Shared} {Q : VK} {E' : Value → Shared → Prop} {us : List Value} {vs : List V}
    (I1 : Inv X pins σ H1 s1) (hf : A.frames = X.A.frames) (r : Vals vs us) (q : sp vs H1 Q fun _ _ _ => False) : wpAny (model X.prog X.w) A (call (.ref f) us) (EP X pins σ Q) E' s1 := by
  have e := I1.env0
  exact run_NA h5 hr h3 I1 ⟨by rw [hf]; exact e.frames, e.mod, e.bs, e.bsz, e.funs, e.frf, e.hok, e.bare⟩ r q
theorem call_listO {Z : Q.Env} {X : Cx} {k : Nat} {C F : Str} {pi pl : List Str} (cI : CanS Z (CXn Z) k C "__iter__" pi (spIt Z.K (He.ga Z.K C) F)) (cL : CanS Z (CXn Z) k C "__len__" pl (spLn Z.K (He.ga Z.K C) F)) (hr : Room (k + 4) X.A) (z : At Z X := by exact ⟨rfl, rfl, rfl, rfl, rfl⟩) : CallR X (.type "list") (rListO Z.K (He.ga Z.K C) F) := by
  obtain ⟨f, fd, c1, c2, c3, h3, h5⟩ := cI
  obtain ⟨g, gd, d1, d2, d3, b3, b5⟩ := cL
  obtain ⟨e1, e2, e3, e4, e5⟩ := z
  rw [CXn, ← e1, ← e2, ← e3, ← e4, ← e5] at h5 b5
  rw [← e3] at c1 c2 c3 h3 d1 d2 d3 b3 ⊢
  intro pins s σ H xs us Q I rv h
  obtain ⟨a, dx, fs, t, zs, rfl, ha, hF, ht, hz, hQ⟩ := h
  obtain ⟨u, rfl, ru⟩ := rv.one
  cases ru
  have r4 : Room k X.A.in1.in1.in1.in1 := hr.in1.in1.in1.in1
  refine callType_codes (Q₁ := fun obj s₁ => obj = .ref s.heap.objs.size ∧ s₁ = { s with heap := s.heap.push { cls := .type "list", data := .seq #[] } }) PySem.F.called_list (PySem.F.typeCall_list_1 _) PySem.F.entry_list_init (code_list_new _ ⟨rfl, rfl⟩) fun obj s₁ ⟨eo, es⟩ => ?_
  subst eo es
  have hS : (s.heap.push { cls := .type "list", data := .seq #[] }).get? s.heap.objs.size = some { cls := .type "list", data := .seq #[] } := Heap.get?_push_size _ rfl
  refine ⟨⟨_, hS, rfl⟩, PySem.F.args_list_init_2 _ _, ?_⟩
  have fr : H s.heap.objs.size = none := I.hok.fresh (Nat.le_refl _)
  generalize hq : s.heap.objs.size = q at fr hS
  have I1 : Inv X pins σ (upd H q (.lst [])) { s with heap := s.heap.push { cls := .type "list", data := .seq #[] } } := by
    have := I.lnew (its := []) (t' := s.toks) .nil (Nat.zero_le _)
    rw [hq] at this
    exact this
  refine wpAny_bind (m := Builtin.List.listItems (.ref q)) (wpAny_bind (wpAny_seqItems hS rfl (wpAny_pure ?_)))
  refine wpAny_bind (m := updateSeq q fun _ => #[]) (wpAny_updateSeq hS rfl ?_)
  have I2 := I1.lset (f := fun _ => #[]) (its := []) (its' := []) (ys := []) (t' := s.toks) upd_same hS rfl .nil (Nat.zero_le _)
  rw [upd_upd] at I2
  refine wpAny_bind (m := letGo (#[] : Array Value).toList.reverse) (wpAny_letGo ?_)
  have qa : ¬ q = a := fun e => by rw [e, ha] at fr; cases fr
  have ha2 : upd H q (.lst []) a = some (.ins (He.ga X.K C) dx fs) := by rw [upd_ne (Ne.symm qa)]; exact ha
  have ht2 : Tp X.K (upd H q (.lst [])) t zs := ht.upd fr
  obtain ⟨mA, J, _⟩ := ins_get I2.hok ha2
  obtain ⟨od, J, _⟩ := J.look
  obtain ⟨m0, hfr⟩ := I2.fr
  show wpAny _ _ (Builtin.List.listExtendWith (.ref q) (.ref a) .none) _ _ _
  unfold Builtin.List.listExtendWith
  refine wpAny_bind (J.type.here ?_)
  have n1 : Builtin.List.listSameRef (.ref q) (.ref a) = false := by simp [Builtin.List.listSameRef, qa]
  have n2 : (Value.ref (He.ga X.K C) == Value.type "list") = false := rfl
  have n3 : (Value.ref (He.ga X.K C) == Value.type "tuple") = false := rfl
  simp only [n1, n2, n3, Bool.or_self, Bool.false_eq_true, if_false]
  have sI : spIt X.K (He.ga X.K C) F [.ref a] (upd H q (.lst [])) (fun v H' => ∃ it, v = .ref it ∧ upd H q (.lst []) it = none ∧ H' = upd (upd H q (.lst [])) it (TiO t it 0)) fun _ _ _ => False := ⟨a, dx, fs, t, zs, rfl, ha2, hF, ht2, fun it hi => ⟨it, rfl, hi, rfl⟩⟩
  refine wpAny_bind (PySem.W.owit_iter hfr I2.ok.mod.kin J c2.at_ c2.fn (wpAny_mono (run_N2 (E' := fun e s' => wants (fun r s₂ => r = Value.none ∧ EP X pins σ Q (Value.ref q) s₂) X.xe (Except.error e) s') h5 (hr.in1.in1.mono (by omega)) h3 I2 rfl (vs := [.ref a]) (us := [.ref a]) (.cons rfl .nil) sI) (fun v s2 hv => ?_) fun _ _ x => x))
  obtain ⟨v', H', I3, rr, it, ev, hit, eH⟩ := hv
  subst ev eH
  obtain rfl : v = Value.ref it := rr
  have g3 := tiO_get I3 upd_same
  have ia : ¬ a = it := fun e => by rw [← e, ha2] at hit; cases hit
  have iq : ¬ q = it := fun e => by rw [← e, upd_same] at hit; cases hit
  have ha3 : upd (upd H q (.lst [])) it (TiO t it 0) a = some (.ins (He.ga X.K C) dx fs) := by rw [upd_ne ia]; exact ha2
  have ht3 : Tp X.K (upd (upd H q (.lst [])) it (TiO t it 0)) t zs := ht2.upd hit
  unfold PySem.W.OwitIt
  refine wpAny_specialOf g3.typeIs PySem.F.slot_tuple_iterator_next.lookup ?_
  obtain ⟨mB, J3, _⟩ := ins_get I3.hok ha3
  obtain ⟨od3, J3, _⟩ := J3.look
  obtain ⟨m3, hfr3⟩ := I3.fr
  refine wpAny_bind (wpAny_holding ?_)
  unfold Builtin.List.listLengthHint
  refine wpAny_bind (wpAny_bind (J3.type.here ((PySem.W.looks_findIn I3.kIn d2.at_).here ?_)))
  refine PySem.W.KFB.if_not rfl ?_
  refine PySem.W.KFB.if_so rfl ?_
  refine wpAny_bind (wpAny_rule ?_)
  refine wpAny_bind (wpAny_attempt ?_)
  have sL : spLn X.K (He.ga X.K C) F [.ref a] (upd (upd H q (.lst [])) it (TiO t it 0)) (fun v H' => v = .int zs.length ∧ H' = upd (upd H q (.lst [])) it (TiO t it 0)) fun _ _ _ => False := ⟨a, dx, fs, t, zs, rfl, ha3, hF, ht3, rfl, rfl⟩
  refine PySem.W.len_K hfr3 I3.ok.mod.kin J3 d2.at_ d2.fn (wpAny_mono (run_N2 b5 (hr.in1.in1.in1.mono (by omega)) b3 I3 rfl (vs := [.ref a]) (us := [.ref a]) (.cons rfl .nil) sL) (fun v s4 hv => ?_) fun _ _ x => x)
  obtain ⟨v', H4, I4, rr, ev, eH⟩ := hv
  subst ev eH
  obtain ⟨tk, rfl⟩ := (show ∃ tk, v = Value.int zs.length tk from rr)
  have zl : zs.length ≤ 16777216 := by rw [← sizeLine_eq]; exact hz
  refine ⟨⟨by omega, by omega⟩, ?_⟩
  have I5 : Inv X pins σ (upd (upd H it (TiO t it 0)) q (.lst (zs.take 0))) { s4 with toks := s4.toks + 1 } := by
    have e : upd (upd H q (.lst [])) it (TiO t it 0) = upd (upd H it (TiO t it 0)) q (.lst (zs.take 0)) := by
      funext b
      by_cases hb : b = it
      · rw [hb, upd_same, upd_ne (Ne.symm iq), upd_same]
      · rw [upd_ne hb]
        by_cases hc : b = q
        · rw [hc, upd_same, upd_same]; rfl
        · rw [upd_ne hc, upd_ne hc, upd_ne hb]
    rw [← e]
    exact I4.tok _
  have hi0 : H it = none := by rw [upd_ne (Ne.symm iq)] at hit; exact hit
  have loop := fun s5 I6 => ti_loop (Rs := wants (fun r s₂ => r = Value.none ∧ EP X pins σ Q (Value.ref q) s₂) X.xe) (A1 := X.A.in1) (H0 := H) (t := t) (zs := zs) (X := X) (pins := pins) (σ := σ) hr.hd fr hi0 iq ht hz (fun s6 I7 => ⟨rfl, .ref q, _, I7, rfl, hQ q fr⟩) zs.length 0 s5 (Nat.zero_add _) I6
  refine wpAny_bind (m := asInt? (.int zs.length _)) (wpAny_pure ?_)
  refine PySem.W.KFB.if_not (decide_eq_false (by rw [Int.toNat_natCast]; omega)) (wpAny_pure ?_)
  refine wpAny_ite_split (fun _ => ?_) fun _ => wpAny_pure ⟨plainId_quiet PySem.F.plain_extend_loop _, loop _ I5⟩
  refine wpAny_bind (wpAny_rule ?_)
  obtain ⟨z1, its1, k1, r1, l1, h1⟩ := I5.lstM (l := q) upd_same
  have en : its1 = [] := by cases r1; rfl
  subst en
  refine wpAny_bind (m := Builtin.List.listTouch (.ref q)) (wpAny_bind (m := updateSeq q (·.push Value.none)) (wpAny_updateSeq h1 rfl ?_))
  have I6 := I5.lset (f := (·.push Value.none)) (its := []) (its' := [Value.none]) (ys := [.non]) (t' := s4.toks + 1) upd_same h1 (by simp) (.cons rfl .nil) (by rw [List.length_singleton, sizeLine_eq]; decide)
  rw [upd_upd] at I6
  obtain ⟨z2, its2, k2, r2, l2, h2⟩ := I6.lstM (l := q) upd_same
  obtain ⟨u2, rfl, ru2⟩ := r2.one
  refine wpAny_updateSeq h2 rfl ?_ (by show 1 ≤ sizeLine; rw [sizeLine_eq]; decide) (by show 0 ≤ sizeLine + 1; exact Nat.zero_le _)
  have I7 := I6.lset (f := (·.pop)) (its := [u2]) (its' := []) (ys := []) (t' := s4.toks + 1) upd_same h2 (by rfl) .nil (Nat.zero_le _)
  rw [upd_upd] at I7
  exact wpAny_pure ⟨plainId_quiet PySem.F.plain_extend_loop _, loop _ I7⟩
end
end U

/-! PuS2: len, list, in, ==, !=, +, - of own classes; isinstance(x, C) -/
namespace U
open PySem PySem.Spec PyProof.Rows L2 Q
/-- the type of a datum that is of no own class -/
def tyD : D → Option String
  | .non => some "NoneType"
  | .bl _ => some "bool"
  | .int _ => some "int"
  | .str _ => some "str"
  | .lst _ => some "list"
  | .tup _ => some "tuple"
  | .dct _ _ => some "dict"
  | .obj _ _ => none
theorem tyD_mem {d : D} {T : String} (h : tyD d = some T) : T ∈ Tys := by cases d <;> cases h <;> decide
section
variable {X : Cx} {pins : List (Addr × Obj)} {σ : L2.St} {W : Wd} {s : Shared} {v : V} {u : Value} {d : D} {T : String}
/-- where its type is seen -/
theorem looks_ty (I : Inv X pins σ W.H s) (h : Rp X.K W v d) (r : RelV v u) (e : tyD d = some T) : PySem.W.Looks (model X.prog X.w) s.heap (typeOf u) (.type T) := by
  have at_ : ∀ {a : Addr} {o : Obj}, s.heap.get? a = some o → o.cls = .type T → u = .ref a → PySem.W.Looks (model X.prog X.w) s.heap (typeOf u) (.type T) := fun {a o} ho hc eu => by
    subst eu
    exact fun A Q E s k q => wpAny_typeOf_ref (k _ _ ho) (by rw [hc]; exact q)
  cases h with
  | non => cases e; cases (show u = Value.none from r); exact PySem.W.Looks.of_pure rfl
  | bl => cases e; cases (show u = Value.bool _ from r); exact PySem.W.Looks.of_pure rfl
  | int => cases e; obtain ⟨t, rfl⟩ := (show ∃ t, u = Value.int _ t from r); exact PySem.W.Looks.of_pure rfl
  | str => cases e; obtain ⟨t, rfl⟩ := (show ∃ t, u = Value.str _ t from r); exact PySem.W.Looks.of_pure rfl
  | @lst a xs ds ea _ _ =>
    cases e
    obtain ⟨_, _, n, _, h1⟩ := (show ObjOk X.prog X.w W.H s.heap a (.lst xs) from I.hok a _ ea)
    exact at_ h1 rfl r
  | @tup a xs ds ea _ =>
    cases e
    rcases ea with ea | ⟨_, o, n, e1, e2, _⟩
    rotate_left
    · exact at_ (I.kIn a o e1) e2 r
    obtain ⟨_, _, _, o, h1, h2, _⟩ := (show ObjOk X.prog X.w W.H s.heap a (.tup xs) from I.hok a _ ea)
    exact at_ h1 h2 r
  | @dct a kvs ds ea _ _ =>
    cases e
    obtain ⟨_, _, vs, _, o, es, ep, h1, h2, _⟩ := dk_rd I.hok ea
    exact at_ h1 h2.1 r
  | @dcT a kvs ds ea _ _ =>
    cases e
    rcases ea with ea | ⟨o', ea⟩
    · obtain ⟨_, _, xs, _, o, es, ep, h1, h2, _⟩ := (show ObjOk X.prog X.w W.H s.heap a (.dT kvs) from I.hok a _ ea)
      exact at_ h1 h2.1 r
    · obtain ⟨_, _, _, vs, _, o, es, ep, h1, h2, _⟩ := (show ObjOk X.prog X.w W.H s.heap a (.frz o' (.dT kvs)) from I.hok a _ ea)
      exact at_ h1 h2.1 r
  | obj => cases e
end
open PySem.W in
/-- an operator whose left side is of an own class, its right side of none -/
theorem binO {prog : Program} {w : World} {A : Around} {E : Value → Shared → Prop} {s : Shared} {K : PySem.W.Frag} {x C L f : Addr} {h₀ : Heap} {m : Str → Option Value} {ox : Obj} {od : Option Obj} {T : String} {op : Operator} {b : Value} {fo ro : Option Value} {Q : Value → Shared → Prop}
    (hfr : Fr h₀ L s.heap m) (X₀ : K.In h₀) (J : InstAt s.heap x ox C od) (hb : Looks (model prog w) s.heap (typeOf b) (.type T)) (ck : CkC K C) (hT : T ∈ Tys)
    (hs : findIn K (.ref C) (PySem.dunder op.info.2) = some (some (.ref f))) (hf : isFn K (.ref f) = true) (hr : findIn K (.ref C) (dunderR op.info.2) = some none) (h1 : findIn K (.type T) (PySem.dunder op.info.2) = some fo) (h2 : findIn K (.type T) (dunderR op.info.2) = some ro)
    (h : wpAny (model prog w) A (call (.ref f) [.ref x, b]) (PySem.W.CmpBack Q) E s) : wpAny (model prog w) A (binaryOp op (.ref x) b) Q E s := by
  have KX := X₀.keeps hfr.keep
  obtain ⟨cd, rest, hcd, hm⟩ := ksp_first ck.first
  have one := ksp_try KX J hs hf h
  have f3 := fills_K (M := model prog w) KX hcd hm hs
  have f4 := ksp_fillsT (M := model prog w) KX h1 h2
  have f5 := looks_subIn (M := model prog w) KX (ck.sub T hT)
  have f6 := ksp_inPy (M := model prog w) KX hs hr (.inl rfl)
  have f7 : Looks (model prog w) s.heap (numberSlotInPython (.type T) op.info.2) false := Looks.of_pure rfl
  have f8 := looks_findIn (M := model prog w) KX h2
  have f1 : Looks (model prog w) s.heap (typeOf (.ref x)) (.ref C) := J.type
  have ne : (Value.ref C == Value.type T) = false := rfl
  generalize ((fo.isSome && !isSeqSlot fo) || (ro.isSome && !isSeqSlot ro)) = right at f4
  rcases hi : op.info with ⟨sym, nm⟩
  rw [hi] at f3 f4 f6 f7 f8 one
  dsimp only at f3 f4 f6 f7 f8 one
  obtain ⟨hh, g, d, tt, os⟩ := s
  dsimp only at f1 f3 f4 f5 f6 f7 f8 hb
  simp only [binaryOp, hi]
  refine wpAny_holding (wpAny_bind ?_)
  unfold binaryOp1
  refine wpAny_bind (f1.at (wpAny_bind (hb.at (wpAny_bind (f3.at ?_)))))
  simp only [ne, Bool.false_eq_true, if_false]
  have fin : wpAny (model prog w) A (tryMethod (.ref x) (PySem.dunder nm) b) (fun r s' => ∃ v, r = some v ∧ Q v s') E ⟨hh, g, d, tt, os⟩ := one
  cases right with
  | false => ksp_lk; exact wpAny_mono fin (fun r s' ⟨v, e, q⟩ => by subst e; ksp_lk; exact q) fun _ _ e => e
  | true => ksp_lk; exact wpAny_mono fin (fun r s' ⟨v, e, q⟩ => by subst e; ksp_lk; exact q) fun _ _ e => e
theorem add_ty {K : PySem.W.Frag} {T : String} (h : T ∈ Tys) : ∃ fo, PySem.W.findIn K (.type T) (PySem.dunder "add") = some fo := by
  simp only [Tys, List.mem_cons, List.not_mem_nil, or_false] at h
  rcases h with rfl | rfl | rfl | rfl | rfl | rfl | rfl <;> exact ⟨_, rfl⟩
theorem ep_back {X : Cx} {pins : List (Addr × Obj)} {σ : L2.St} {Q : VK} {u : Value} {s : Shared} (h : EP X pins σ Q u s) : PySem.W.CmpBack (EP X pins σ Q) u s := by
  cases u <;> first | exact h | skip
  obtain ⟨v, H', I', rv, q⟩ := h
  cases v <;> first | (cases (show Value.notImplemented = _ from rv); done) | (obtain ⟨t, e⟩ := (show ∃ t, Value.notImplemented = _ from rv); cases e)
/-! ### in -/
def rInO (C : Addr) (sp : Sp) (neg : Bool) : R2 := fun x y H Q => ∃ p dx fs, y = .ref p ∧ H p = some (.ins C dx fs) ∧ sp [.ref p, x] H (fun v H' => ∃ b, v = .bl b ∧ Q (.bl (if neg then !b else b)) H') fun _ _ _ => False
def fInO (C : Str) (mf : Mf) (neg : Bool) : D → D → (D → Prop) → Prop := fun d e Q => ∃ fs, e = .obj C fs ∧ mf [.obj C fs, d] (fun r => ∃ b, r = .dat (.bl b) ∧ Q (.bl (if neg then !b else b))) fun _ => False
section
variable {Z : Q.Env} {X : Cx} {k : Nat} {C : Str} {ps : List Str} {sp : Sp} {mf : Mf}
theorem bool_back {pins : List (Addr × Obj)} {σ : L2.St} {Q : VK} {neg : Bool} {u : Value} {s : Shared} {A : Around} {E : Value → Shared → Prop} (h : EP X pins σ (fun v H' => ∃ b, v = .bl b ∧ Q (.bl (if neg then !b else b)) H') u s) :
    ∃ b, u = .bool b ∧ EP X pins σ Q (.bool (if neg then !b else b)) s := by
  obtain ⟨v, H', I', rv, b, ev, q⟩ := h
  subst ev
  cases (show u = Value.bool b from rv)
  exact ⟨b, rfl, .bl (if neg then !b else b), H', I', rfl, q⟩
theorem o_inO (c : CanS Z (CXn Z) k C "__contains__" ps sp) (hr : Room (k + 1) X.A) (z : At Z X := by exact ⟨rfl, rfl, rfl, rfl, rfl⟩) : OpR X (compareOp .In) (rInO (He.ga Z.K C) sp false) := by
  obtain ⟨f, fd, c1, c2, c3, h3, h5⟩ := c
  obtain ⟨e1, e2, e3, e4, e5⟩ := z
  rw [CXn, ← e1, ← e2, ← e3, ← e4, ← e5] at h5
  rw [← e3] at c1 c2 c3 h3 ⊢
  intro pins s σ H x y v u Q I rx ry ⟨p, dx, fs, ey, ea, q⟩
  subst ey
  obtain rfl : u = Value.ref p := ry
  obtain ⟨mA, J, _⟩ := ins_get I.hok ea
  obtain ⟨od, J, _⟩ := J.look
  obtain ⟨m0, hF⟩ := I.fr
  refine PySem.W.in_K hF I.ok.mod.kin J c2.at_ c2.fn (wpAny_mono (run_N2 h5 (hr.mono (by omega)) h3 I rfl (vs := [.ref p, x]) (us := [.ref p, v]) (.cons rfl (.cons rx .nil)) q) (fun w s' hv => ?_) fun _ _ x => x)
  obtain ⟨b, rfl, q'⟩ := bool_back (neg := false) (A := X.A) (E := X.xe) hv
  exact wpAny_truthy_bool q'
theorem o_notInO (c : CanS Z (CXn Z) k C "__contains__" ps sp) (hr : Room (k + 1) X.A) (z : At Z X := by exact ⟨rfl, rfl, rfl, rfl, rfl⟩) : OpR X (compareOp .NotIn) (rInO (He.ga Z.K C) sp true) := by
  obtain ⟨f, fd, c1, c2, c3, h3, h5⟩ := c
  obtain ⟨e1, e2, e3, e4, e5⟩ := z
  rw [CXn, ← e1, ← e2, ← e3, ← e4, ← e5] at h5
  rw [← e3] at c1 c2 c3 h3 ⊢
  intro pins s σ H x y v u Q I rx ry ⟨p, dx, fs, ey, ea, q⟩
  subst ey
  obtain rfl : u = Value.ref p := ry
  obtain ⟨mA, J, _⟩ := ins_get I.hok ea
  obtain ⟨od, J, _⟩ := J.look
  obtain ⟨m0, hF⟩ := I.fr
  refine PySem.W.notIn_K hF I.ok.mod.kin J c2.at_ c2.fn (wpAny_mono (run_N2 h5 (hr.mono (by omega)) h3 I rfl (vs := [.ref p, x]) (us := [.ref p, v]) (.cons rfl (.cons rx .nil)) q) (fun w s' hv => ?_) fun _ _ x => x)
  obtain ⟨b, rfl, q'⟩ := bool_back (neg := true) (A := X.A) (E := X.xe) hv
  exact wpAny_truthy_bool q'
/-- a promise that answers a bool, at data -/
theorem run_bool {K : PySem.W.Frag} {W : Wd} {vs : List V} {ds : List D} {n : Nat} {g : Bool → Bool} {Q : VK} {Q' : D → Prop} {E : XK} (hl : vs.length = n) (r : RpL K W vs ds) (q : mf ds (fun r => ∃ b, r = .dat (.bl b) ∧ Q' (.bl (g b))) fun _ => False)
    (kk : ∀ z c W', Go Nw W W' → Rp K W' z c → Q' c → Q z W'.H) : lF K n mf vs W.H (fun v H' => ∃ b, v = .bl b ∧ Q (.bl (g b)) H') E :=
  ⟨W, ds, _, _, rfl, hl, r, q, fun v r X W' gg hr hX ⟨b, er, q2⟩ => by
    subst er
    cases hr with
    | dat hrp =>
      cases hrp
      exact ⟨b, rfl, kk _ _ W' gg .bl q2⟩, fun _ _ _ _ _ _ z => z.elim⟩
theorem op_inO {K : PySem.W.Frag} {neg : Bool} : OpD K (rInO (He.ga K C) (lF K 2 mf) neg) (fInO C mf neg) := fun W v u d e Q Q' r1 r2 h kk => by
  obtain ⟨fs, ee, q⟩ := h
  subst ee
  have r2' := r2
  cases r2 with
  | @obj p dx C fs' ds e n r => exact ⟨p, dx, fs', rfl, e, run_bool (g := fun b => if neg then !b else b) rfl (.cons r2' (.cons r1 .nil)) q kk⟩
end
/-! ### == -/
def rEqO (K : PySem.W.Frag) (C : Addr) (sp : Sp) (neg : Bool) : R2 := fun x y H Q => ∃ p dx fs, x = .ref p ∧ H p = some (.ins C dx fs) ∧ ((∃ W d T, W.H = H ∧ Rp K W y d ∧ tyD d = some T) ∨ ∃ q dy gs, y = .ref q ∧ H q = some (.ins C dy gs)) ∧
  sp [.ref p, y] H (fun v H' => ∃ b, v = .bl b ∧ Q (.bl (if neg then !b else b)) H') fun _ _ _ => False
def fEqO (C : Str) (mf : Mf) (neg : Bool) : D → D → (D → Prop) → Prop := fun d e Q => ∃ fs, d = .obj C fs ∧ ((tyD e).isSome ∨ ∃ gs, e = .obj C gs) ∧ mf [.obj C fs, e] (fun r => ∃ b, r = .dat (.bl b) ∧ Q (.bl (if neg then !b else b))) fun _ => False
section
variable {Z : Q.Env} {X : Cx} {k : Nat} {C : Str} {ps : List Str} {sp : Sp} {mf : Mf}
theorem op_eqO {K : PySem.W.Frag} {neg : Bool} : OpD K (rEqO K (He.ga K C) (lF K 2 mf) neg) (fEqO C mf neg) := fun W v u d e Q Q' r1 r2 h kk => by
  obtain ⟨fs, ee, ho, q⟩ := h
  subst ee
  have r1' := r1
  cases r1 with
  | @obj p dx C fs' ds e n r =>
    refine ⟨p, dx, fs', rfl, e, ?_, run_bool (g := fun b => if neg then !b else b) rfl (.cons r1' (.cons r2 .nil)) q kk⟩
    rcases ho with h | ⟨gs, rfl⟩
    · obtain ⟨T, hT⟩ := Option.isSome_iff_exists.mp h
      exact .inl ⟨W, _, T, rfl, r2, hT⟩
    · cases r2 with
      | @obj q dy C gs' ds e n r => exact .inr ⟨q, dy, gs', rfl, e⟩
theorem o_eqO (ck : CkC Z.K (He.ga Z.K C)) (c : CanS Z (CXn Z) k C "__eq__" ps sp) (hr : Room (k + 1) X.A) (z : At Z X := by exact ⟨rfl, rfl, rfl, rfl, rfl⟩) : OpR X (compareOp .Eq) (rEqO Z.K (He.ga Z.K C) sp false) := by
  obtain ⟨f, fd, c1, c2, c3, h3, h5⟩ := c
  obtain ⟨e1, e2, e3, e4, e5⟩ := z
  rw [CXn, ← e1, ← e2, ← e3, ← e4, ← e5] at h5
  rw [← e3] at c1 c2 c3 h3 ck ⊢
  intro pins s σ H x y v u Q I rx ry ⟨p, dx, fs, ex, ea, ho, q⟩
  subst ex
  obtain rfl : v = Value.ref p := rx
  obtain ⟨mA, J, _⟩ := ins_get I.hok ea
  obtain ⟨od, J, _⟩ := J.look
  obtain ⟨m0, hF⟩ := I.fr
  have run := wpAny_mono (run_N2 (E' := X.xe) h5 (hr.mono (by omega)) h3 I rfl (vs := [.ref p, y]) (us := [.ref p, u]) (.cons rfl (.cons ry .nil)) q) (fun w s' hv => show PySem.W.CmpBack (EP X pins σ Q) w s' by
    obtain ⟨b, rfl, q'⟩ := bool_back (neg := false) (A := X.A) (E := X.xe) hv
    exact q') fun _ _ x => x
  show wpAny _ _ (richCompare .Eq (.ref p) u) _ _ _
  rcases ho with ⟨W, d, T, eH, rp, eT⟩ | ⟨q2, dy, gs, ey, eb⟩
  · subst eH
    have lk := looks_ty I rp ry eT
    exact PySem.W.cmp_K (op := .Eq) (by have := hr.un; omega) hF I.ok.mod.kin J lk (by unfold PySem.W.notFirst; rw [ck.sub T (tyD_mem eT)]; simp) c2.at_ c2.fn run
  · subst ey
    obtain rfl : u = Value.ref q2 := ry
    obtain ⟨mB, J2, _⟩ := ins_get I.hok eb
    obtain ⟨od2, J2, _⟩ := J2.look
    exact PySem.W.cmp_K (op := .Eq) (tb := .ref (He.ga X.K C)) (by have := hr.un; omega) hF I.ok.mod.kin J J2.type (by unfold PySem.W.notFirst; simp) c2.at_ c2.fn run
end
section
open PySem.W
variable {prog : Program} {w : World} {A : Around} {E : Value → Shared → Prop} {s : Shared} {K : PySem.W.Frag} {x C L f : Addr} {h₀ : Heap} {m : Str → Option Value} {ox : Obj} {od : Option Obj} {tb : Value} {b : Value}
/-- a comparison that the left side answers -/
theorem cmpO {op : CmpOp} {Q : Value → Shared → Prop} (hu : A.units < cLine) (KX : K.In s.heap) (J : InstAt s.heap x ox C od) (hb : Looks (model prog w) s.heap (typeOf b) tb) (hn : notFirst K C tb = true)
    (one : wpAny (model prog w) A (tryCompare (.ref x) (cmpInfo op).2.1 b) (fun r s' => ∃ v, r = some v ∧ Q v s') E s) : wpAny (model prog w) A (richCompare op (.ref x) b) Q E s := by
  have go : ∀ {g : Option Value → Sem Value}, (∀ v, g (some v) = pure v) → wpAny (model prog w) A (tryCompare (.ref x) (cmpInfo op).2.1 b >>= g) Q E s := fun {g} hg => wpAny_bind (wpAny_mono one (fun r s' ⟨v, er, q⟩ => by rw [er, hg v]; exact wpAny_pure q) fun _ _ e => e)
  unfold richCompare
  simp only [oneThing_ref]
  refine wpAny_holding (wpAny_bind (wpAny_cRoomFor hu (wpAny_bind (J.type.here (wpAny_bind (hb.here ?_))))))
  split
  · rename_i q
    have e : subIn K tb (.ref C) = some false := by
      rcases Bool.or_eq_true_iff.mp hn with e | e
      · exfalso; rw [beq_iff_eq.mp e] at q; simp at q
      · exact beq_iff_eq.mp e
    refine wpAny_bind ((looks_subIn KX e).here ?_)
    simp only [Bool.false_eq_true, if_false]
    exact go fun _ => rfl
  · refine wpAny_bind (wpAny_pure ?_)
    simp only [Bool.false_eq_true, if_false]
    exact go fun _ => rfl
theorem entry_ne : entryFor table "object.__ne__" = some Builtin.«object.__ne__» := entryFor_of_tree (by kernel_rfl)
/-- != where the class has no __ne__ of its own -/
theorem neO {Q : Value → Shared → Prop} (hu : A.units + 1 < cLine) (KX : K.In s.heap) (J : InstAt s.heap x ox C od) (ck : CkC K C) (hne : findIn K (.ref C) "__ne__" = some (some (.builtin "object.__ne__"))) (hs : findIn K (.ref C) "__eq__" = some (some (.ref f))) (hf : isFn K (.ref f) = true)
    (h : wpAny (model prog w) A.in1 (call (.ref f) [.ref x, b]) (fun v s' => ∃ r, v = .bool r ∧ Q (.bool (!r)) s') E s) : wpAny (model prog w) A (tryCompare (.ref x) "__ne__" b) (fun r s' => ∃ v, r = some v ∧ Q v s') E s := by
  have hb : bindSpecial (.builtin "object.__ne__") (.ref x) = pure (.builtin "object.__ne__", [.ref x]) := F.slot_tuple_iterator_ne.bind _
  have run : wpAny (model prog w) A (call (.builtin "object.__ne__") [.ref x, b]) (fun v s' => v ≠ .notImplemented ∧ Q v s') E s := by
    refine wpAny_call (codeAny_call_builtin F.slot_tuple_iterator_ne.plain entry_ne (@check_slot (model prog w) _ _ _ "object.__ne__" "object" "__ne__" (.ref x) [b] [] _ (by decide +kernel) (by decide +kernel) (J.type.andThen (looks_mroIn KX ck.hm)) (by unfold argsOk; kernel_rfl) ?_))
    unfold Builtin.«object.__ne__»
    refine wpAny_bind (m := slotArgs "__ne__" 1 ⟨[.ref x, b], []⟩) (wpAny_of_eq (a := (.ref x, [b])) (by first | rfl | kernel_rfl) ?_)
    refine wpAny_bind (wpAny_cRoomFor hu ?_)
    refine wpAny_bind (ifBound_K KX J hs hf (wpAny_mono h (fun v s' ⟨r, ev, q⟩ => ?_) fun _ _ e => e))
    subst ev
    exact wpAny_bind (wpAny_truthy_bool (wpAny_pure ⟨(fun z => nomatch z), q⟩))
  unfold tryCompare
  simp only [callSpecialIfBound?, bindSpecialIfBound?]
  refine wpAny_bind (wpAny_holding (wpAny_bind (wpAny_bind (wpAny_bind (J.type.here ((looks_findIn KX hne).here ?_))))))
  simp only [hb]
  have fin : wpAny (model prog w) A (call (.builtin "object.__ne__") ([.ref x] ++ [b]) >>= fun v => pure (some v)) (fun r s' => wpAny (model prog w) A (match r with | some .notImplemented | none => pure none | some v => pure (some v)) (fun r s' => ∃ v, r = some v ∧ Q v s') E s') E s := wpAny_bind (wpAny_mono run (fun v s' ⟨hv, q⟩ => wpAny_pure (by
    cases v <;> first | exact absurd rfl hv | exact wpAny_pure ⟨_, rfl, q⟩)) fun _ _ e => e)
  refine wpAny_bind (wpAny_askSetting (wpAny_ite ?_))
  split
  · exact wpAny_bind (wpAny_pure (wpAny_pure (by exact fin)))
  · exact wpAny_tryCatch (wpAny_bind (wpAny_pure (wpAny_pure (by exact fin))))
end
section
variable {Z : Q.Env} {X : Cx} {S : Sx} {k n : Nat} {C : Str} {ps : List Str} {sp : Sp} {mf : Mf} {ma mb : Pd} {a b : Expr} {pos : Pos} {We : L2.WX} {Ex : Er → Rho → Prop}
theorem o_neO (ck : CkC Z.K (He.ga Z.K C)) (hne : PySem.W.findIn Z.K (.ref (He.ga Z.K C)) "__ne__" = some (some (.builtin "object.__ne__"))) (c : CanS Z (CXn Z) k C "__eq__" ps sp) (hr : Room (k + 1) X.A) (z : At Z X := by exact ⟨rfl, rfl, rfl, rfl, rfl⟩) : OpR X (compareOp .NotEq) (rEqO Z.K (He.ga Z.K C) sp true) := by
  obtain ⟨f, fd, c1, c2, c3, h3, h5⟩ := c
  obtain ⟨e1, e2, e3, e4, e5⟩ := z
  rw [CXn, ← e1, ← e2, ← e3, ← e4, ← e5] at h5
  rw [← e3] at c1 c2 c3 h3 ck hne ⊢
  intro pins s σ H x y v u Q I rx ry ⟨p, dx, fs, ex, ea, ho, q⟩
  subst ex
  obtain rfl : v = Value.ref p := rx
  obtain ⟨mA, J, _⟩ := ins_get I.hok ea
  obtain ⟨od, J, _⟩ := J.look
  have one := neO (A := X.A) (E := X.xe) (Q := EP X pins σ Q) (b := u) (by have := hr.un; omega) I.kIn J ck hne c2.at_ c2.fn (wpAny_mono (run_N2 (E' := X.xe) h5 (hr.in1.mono (by omega)) h3 I rfl (vs := [.ref p, y]) (us := [.ref p, u]) (.cons rfl (.cons ry .nil)) q) (fun w s' hv => by
    obtain ⟨b, rfl, q'⟩ := bool_back (neg := true) (A := X.A) (E := X.xe) hv
    exact ⟨b, rfl, q'⟩) fun _ _ x => x)
  show wpAny _ _ (richCompare .NotEq (.ref p) u) _ _ _
  rcases ho with ⟨W, d, T, eH, rp, eT⟩ | ⟨q2, dy, gs, ey, eb⟩
  · subst eH
    exact cmpO (op := .NotEq) (by have := hr.un; omega) I.kIn J (looks_ty I rp ry eT) (by unfold PySem.W.notFirst; rw [ck.sub T (tyD_mem eT)]; simp) one
  · subst ey
    obtain rfl : u = Value.ref q2 := ry
    obtain ⟨mB, J2, _⟩ := ins_get I.hok eb
    obtain ⟨od2, J2, _⟩ := J2.look
    exact cmpO (op := .NotEq) (tb := .ref (He.ga X.K C)) (by have := hr.un; omega) I.kIn J J2.type (by unfold PySem.W.notFirst; simp) one
/-! ### + and - -/
def mBinO (C : Str) (f : Mf) (Ex : Er → Rho → Prop) (ma mb : Pd) : Pv := fun ρ Q => ma ρ fun d ρ1 => mb ρ1 fun i ρ2 => ∃ fs, d = .obj C fs ∧ (tyD i).isSome = true ∧ f [.obj C fs, i] (fun r => Q r ρ2) fun er => Ex er ρ2
theorem qBinO {op : Operator} (hK : S.K = Z.K) (tk : L2N.Takes X We) (eo : EOk S We Ex) (ck : CkC Z.K (He.ga Z.K C)) (hrf : PySem.W.findIn Z.K (.ref (He.ga Z.K C)) (dunderR op.info.2) = some none) (hT : ∀ K : PySem.W.Frag, ∀ T ∈ Tys, (∃ fo, PySem.W.findIn K (.type T) (PySem.dunder op.info.2) = some fo) ∧ ∃ ro, PySem.W.findIn K (.type T) (dunderR op.info.2) = some ro)
    (c : CanS Z (CXn Z) k C (PySem.dunder op.info.2) ps (lF S.K 2 mf)) (hr : Room (k + 1) X.A) (ha : PE X a (lD S ma)) (hb : PE X b (lD S mb)) (z : At Z X := by exact ⟨rfl, rfl, rfl, rfl, rfl⟩) : PE X (.BinOp a op b pos) (lV S (mBinO C mf Ex ma mb)) := by
  obtain ⟨f, fd, c1, c2, c3, h3, h5⟩ := c
  obtain ⟨e1, e2, e3, e4, e5⟩ := z
  rw [CXn, ← e1, ← e2, ← e3, ← e4, ← e5] at h5
  rw [← e3] at c1 c2 c3 h3 ck hrf
  have base : PE X (.BinOp a op b pos) fun σ H Q => (lD S ma) σ H fun x H1 => (lD S mb) σ H1 fun y H2 => ∃ p dx fs W d, x = .ref p ∧ H2 p = some (.ins (He.ga X.K C) dx fs) ∧ W.H = H2 ∧ Rp X.K W y d ∧ (tyD d).isSome = true ∧ lF S.K 2 mf [x, y] H2 Q fun cls d H3 => We cls d σ H3 := by
    refine ⟨fun pins s σ H Q I h => ?_⟩
    refine wpAny_BinOp (binT ha hb I h fun v u s2 x y H2 I2 rx ry q => ?_)
    obtain ⟨p, dx, fs, W, d, ex, ea, eH, rp, hi, q⟩ := q
    subst ex eH
    obtain ⟨T, eT⟩ := Option.isSome_iff_exists.mp hi
    obtain rfl : v = Value.ref p := rx
    obtain ⟨mA, J, _⟩ := ins_get I2.hok ea
    obtain ⟨od, J, _⟩ := J.look
    obtain ⟨m0, hF⟩ := I2.fr
    obtain ⟨⟨fo, t1⟩, ro, t2⟩ := hT X.K T (tyD_mem eT)
    refine binO hF I2.ok.mod.kin J (looks_ty I2 rp ry eT) ck (tyD_mem eT) c2.at_ c2.fn hrf t1 t2 (wpAny_mono (run_TA (us := [.ref p, u]) (vs := [.ref p, y]) tk h5 (hr.mono (by omega)) h3 I2 I2.env0 (.cons rfl (.cons ry .nil)) q) (fun _ _ h => ep_back h) fun _ _ x => x)
  refine base.weak fun σ H Q ⟨ρ, F, W, Q', e, s, q, k⟩ => ?_
  subst e
  refine ⟨ρ, F, W, _, rfl, s, q, fun v d ρ1 F1 W1 a1 s1 r1 q1 => ?_⟩
  refine ⟨ρ1, F1, W1, _, rfl, s1, q1, fun u i ρ2 F2 W2 a2 s2 r2 ⟨fs, ed, hi, q2⟩ => ?_⟩
  subst ed
  have r1' := r1.up a2.go.ext
  have r1'' := r1'
  have a12 := a1.trans s s1 a2
  have eK : X.K = S.K := e3.trans hK.symm
  cases r1' with
  | @obj p dx C fs' ds e n' r =>
    refine ⟨p, dx, fs', W2, i, rfl, by rw [eK]; exact e, rfl, by rw [eK]; exact r2, hi, ?_⟩
    exact run_lF (Q' := Q') eo s2 rfl (.cons r1'' (.cons r2 .nil)) q2 fun v r Y W3 a3 s3 hr hY q3 => k v r Y ρ2 F2 W3 (a12.trans s s2 a3) s3 hr (fun a ha => a12.go.free (hY a ha)) q3
theorem hT_add : ∀ K : PySem.W.Frag, ∀ T ∈ Tys, (∃ fo, PySem.W.findIn K (.type T) (PySem.dunder (Operator.info .Add).2) = some fo) ∧ ∃ ro, PySem.W.findIn K (.type T) (dunderR (Operator.info .Add).2) = some ro := fun K T h => by
  simp only [Tys, List.mem_cons, List.not_mem_nil, or_false] at h
  rcases h with rfl | rfl | rfl | rfl | rfl | rfl | rfl <;> exact ⟨⟨_, rfl⟩, _, rfl⟩
theorem hT_sub : ∀ K : PySem.W.Frag, ∀ T ∈ Tys, (∃ fo, PySem.W.findIn K (.type T) (PySem.dunder (Operator.info .Sub).2) = some fo) ∧ ∃ ro, PySem.W.findIn K (.type T) (dunderR (Operator.info .Sub).2) = some ro := fun K T h => by
  simp only [Tys, List.mem_cons, List.not_mem_nil, or_false] at h
  rcases h with rfl | rfl | rfl | rfl | rfl | rfl | rfl <;> exact ⟨⟨_, rfl⟩, _, rfl⟩
/-! ### isinstance(x, C) -/
def isC (C : Str) : D → Bool
  | .obj B _ => B == C
  | _ => false
def okC (C : Str) : D → Prop
  | .obj B _ => B = C
  | .dct t _ => t = false
  | _ => True
theorem isi_C {K : PySem.W.Frag} {W : Wd} {v : V} {d : D} {Q : VK} (cl : Cls K (He.ga K C)) (ck : CkC K (He.ga K C)) (h : Rp K W v d) (ok : okC C d) (q : Q (.bl (isC C d)) W.H) : rIsi K [v, .ref (He.ga K C)] W.H Q := by
  have key : ∀ (t : String), TyX K W.H v (.type t) → t ∈ Tys → isC C d = false → rIsi K [v, .ref (He.ga K C)] W.H Q := fun t ht hm e => ⟨_, _, _, _, _, rfl, .own _, ht, ck.kit t hm, by rw [e] at q; exact q⟩
  cases h with
  | non => exact key "NoneType" (.base .non) (by decide) rfl
  | bl => exact key "bool" (.base (.bl _)) (by decide) rfl
  | int => exact key "int" (.base (.int _)) (by decide) rfl
  | str => exact key "str" (.base (.str _)) (by decide) rfl
  | lst e _ _ => exact key "list" (.base (.lst e)) (by decide) rfl
  | tup e _ =>
    rcases e with e | ⟨_, o, n, e1, e2, _⟩
    · exact key "tuple" (.base (.tup e)) (by decide) rfl
    · exact key "tuple" (.kTuple e1 e2) (by decide) rfl
  | dct e _ _ =>
    rcases e with e | ⟨o, e⟩
    · exact key "dict" (.base (.dK e)) (by decide) rfl
    · exact key "dict" (.fDict e) (by decide) rfl
  | dcT e _ _ => cases ok
  | @obj a dx B fs ds e n _ =>
    cases ok
    refine ⟨_, _, .ref _, _, true, rfl, .own _, .base (.ins e cl ck.ca ck.hn ck.ht ck.hm), ck.self, ?_⟩
    have : isC C (.obj C ds) = true := beq_self_eq_true C
    rw [this] at q
    exact q
def mIsiC (C : Str) (m : Pd) : Pd := fun ρ Q => m ρ fun d ρ1 => okC C d ∧ Q (.bl (isC C d)) ρ1
theorem k_isiC (K : PySem.W.Frag) (hK : X.K = K := by rfl) : CallR X (.builtin "isinstance") (rIsi K) := by rw [← hK]; exact call_isi
theorem qIsiC {m : Pd} {e c : Expr} {p : Pos} (cl : Cls S.K (He.ga S.K C)) (ck : CkC S.K (He.ga S.K C)) (hK : X.K = S.K) (hg : Gl X "isinstance") (hm : X.mg "isinstance" = none) (he : PE X e (lD S m)) (hc : PE X c (tC (.ref (He.ga S.K C))))
    (hs : starEach [e, c] X.env = (false, eval e X.env) :: starEach [c] X.env := by rfl) (hs2 : starEach [c] X.env = (false, eval c X.env) :: starEach [] X.env := by rfl) (hpl : (backTo pos (starEach [c] X.env)).any (·.1) = false := by rfl) :
    PE X (.Call (.Name "isinstance" p) [e, c] [] pos) (lD S (mIsiC C m)) :=
  (pe_callB (k_isiC S.K hK) hg hm (by decide +kernel) (pa_cons he (pa_cons hc pa_nil hs2) hs) (by decide) (by decide) hs hpl).weak fun σ H Q ⟨ρ, F, W, Q', e, s, q, k⟩ => by
    subst e
    refine ⟨ρ, F, W, _, rfl, s, q, fun v d ρ1 F1 W1 a1 s1 r1 ⟨ok, q1⟩ => ?_⟩
    exact isi_C cl ck r1 ok (k _ _ ρ1 F1 W1 a1 s1 .bl q1)
end
end U

/-! PuS3: len(o), list(o); [*xs, ..]; __len__ and __iter__ of own classes -/
namespace U
open PySem PySem.Spec PyProof.Rows L2 Q
/-! ### __len__, __iter__ as they stand -/
section
variable {Z : Q.Env} {k : Nat} {C F q x : Str} {st : Stmt}
theorem fnOk_S {ps : List Str} {sp : Sp} {m : Str} (Df : DefAtM Z C m q st) (hb : ∀ (kV doc pm : Value) (an : Option Addr) (cdv ct : Value) (us : List Value), us.length = ps.length → bindArgs (PySem.W.fnOf m q (defArgs st) (defBody st) (defScope st) .none kV doc pm an cdv ct) ⟨us, []⟩ = pure (ps.zip us))
    (hf : ∀ f fd, FunD Z.K m q (defArgs st) (defBody st) (defScope st) [] [] f fd → FnOk Z.P Z.w Z.K Z.mg Z.base (CXn Z) k f fd ps sp) : CanS Z (CXn Z) k C m ps sp := by
  obtain ⟨f, fd, c1, c2, F⟩ := Df
  refine ⟨f, fd, c1, c2, ?_, FunD.bindsN F hb, hf f fd F⟩
  obtain ⟨oc, od, dV, kV, doc, pm, an, cdv, ct, osl, rfl, lk, _⟩ := F.ex
  unfold PySem.W.fnIn
  rw [lk]
theorem can_Ln (Df : DefAtM Z C "__len__" q st) (sc : FnScope ["self"] ["self"] (defScope st)) (fo : FldOk Z.K [C] F)
    (hb : ∀ (kV doc pm : Value) (an : Option Addr) (cdv ct : Value) (us : List Value), us.length = (["self"] : List Str).length → bindArgs (PySem.W.fnOf "__len__" q (defArgs st) (defBody st) (defScope st) .none kV doc pm an cdv ct) ⟨us, []⟩ = pure ((["self"] : List Str).zip us))
    (hbody : ∀ (f : Addr) (cdv : Value) (A : Around) (outer : List PySem.Env) (s : Shared) (H : Hp) (E : XK), Room k (A.deeper (envOfC q (defScope st) s.heap.objs.size f cdv)) →
      PSs (cxOf (CXn Z) Z.P Z.w Z.K Z.mg Z.base ["self"] q (defScope st) f cdv A outer s H E) (defBody st) (tRet (tCB (rLenK Z.K) (tCons (tFld Z.K (tVar 0) F) tNil)))) : CanS Z (CXn Z) (k + 1) C "__len__" ["self"] (spLn Z.K (He.ga Z.K C) F) := by
  refine fnOk_S Df hb fun f fd FD => FD.ok sc (fun vs H Q E ⟨a, dx, fs, t, zs, ev, _⟩ => by rw [ev]; rfl) fun cdv A outer s H vs Q E hr ⟨a, dx, fs, t, zs, ev, ha, hF, ht, hQ⟩ => ?_
  subst ev
  obtain ⟨f1, f2⟩ := fo C List.mem_cons_self
  exact ⟨_, hbody f cdv A outer s H E hr, _, rfl, a, _, dx, fs, _, rfl, ha, f1, f2, hF, .inl ⟨_, zs.length, rfl, .inr ⟨_, ht.sq, rfl⟩, hQ⟩⟩
theorem can_It (Df : DefAtM Z C "__iter__" q st) (sc : FnScope ["self"] ["self"] (defScope st)) (fo : FldOk Z.K [C] F)
    (hb : ∀ (kV doc pm : Value) (an : Option Addr) (cdv ct : Value) (us : List Value), us.length = (["self"] : List Str).length → bindArgs (PySem.W.fnOf "__iter__" q (defArgs st) (defBody st) (defScope st) .none kV doc pm an cdv ct) ⟨us, []⟩ = pure ((["self"] : List Str).zip us))
    (hbody : ∀ (f : Addr) (cdv : Value) (A : Around) (outer : List PySem.Env) (s : Shared) (H : Hp) (E : XK), Room k (A.deeper (envOfC q (defScope st) s.heap.objs.size f cdv)) →
      PSs (cxOf (CXn Z) Z.P Z.w Z.K Z.mg Z.base ["self"] q (defScope st) f cdv A outer s H E) (defBody st) (tRet (tCB (rIterT Z.K) (tCons (tFld Z.K (tVar 0) F) tNil)))) : CanS Z (CXn Z) (k + 1) C "__iter__" ["self"] (spIt Z.K (He.ga Z.K C) F) := by
  refine fnOk_S Df hb fun f fd FD => FD.ok sc (fun vs H Q E ⟨a, dx, fs, t, zs, ev, _⟩ => by rw [ev]; rfl) fun cdv A outer s H vs Q E hr ⟨a, dx, fs, t, zs, ev, ha, hF, ht, hQ⟩ => ?_
  subst ev
  obtain ⟨f1, f2⟩ := fo C List.mem_cons_self
  exact ⟨_, hbody f cdv A outer s H E hr, _, rfl, a, _, dx, fs, _, rfl, ha, f1, f2, hF, t, zs, rfl, ht.sq, hQ⟩
theorem k_iterT {X : Cx} (K : PySem.W.Frag) (hK : X.K = K := by rfl) : CallR X (.builtin "iter") (rIterT K) := by rw [← hK]; exact call_iterT
end
/-! ### len(o), list(o) -/
def rLnO (K : PySem.W.Frag) (C : Addr) (F : Str) : List V → Hp → VK → Prop := fun xs H Q => ∃ a dx fs t zs, xs = [.ref a] ∧ H a = some (.ins C dx fs) ∧ fs.lookup F = some (.ref t) ∧ Tp K H t zs ∧ zs.length < 2 ^ 62 ∧ Q (.int zs.length) H
def fLnO (C F : Str) : List D → (D → Prop) → Prop := fun ds Q => ∃ fs es, ds = [.obj C fs] ∧ fs.lookup F = some (.tup es) ∧ es.length < 2 ^ 62 ∧ Q (.int es.length)
def fListO (C F : Str) : List D → (SV → Prop) → Prop := fun ds Q => ∃ fs es, ds = [.obj C fs] ∧ fs.lookup F = some (.tup es) ∧ es.length ≤ sizeLine ∧ Q (.own es)
section
variable {Z : Q.Env} {X : Cx} {k : Nat} {C F : Str} {ps pi pl : List Str}
theorem k_lnO (c : CanS Z (CXn Z) k C "__len__" ps (spLn Z.K (He.ga Z.K C) F)) (hr : Room (k + 1) X.A) (z : At Z X := by exact ⟨rfl, rfl, rfl, rfl, rfl⟩) : CallR X (.builtin "len") (rLnO Z.K (He.ga Z.K C) F) := by
  have base := call_lenO c hr z
  intro pins s σ H xs us Q I r ⟨a, dx, fs, t, zs, ev, ha, hF, ht, hl, hQ⟩
  refine base pins s σ H xs us Q I r ⟨a, dx, fs, ev, ha, a, dx, fs, t, zs, rfl, ha, hF, ht, _, rfl, by omega, by omega, hQ⟩
theorem f_lnO {K : PySem.W.Frag} : CallD K (rLnO K (He.ga K C) F) (fLnO C F) := fun W vs ds Q Q' r h kk => by
  obtain ⟨fs, es, e, hF, hl, q⟩ := h
  subst e
  cases r with
  | cons r rr =>
    cases rr
    cases r with
    | @obj p dx C fs' ds e n' r0 =>
      obtain ⟨v, hv, rv⟩ := r0.get hF
      cases rv with
      | @tup t zs ds ht rz => exact ⟨p, dx, fs', t, zs, rfl, e, hv, ht, by rw [rz.length]; exact hl, by rw [rz.length]; exact kk _ _ W (Go.refl fun _ z => z.elim) .int q⟩
theorem f_listO {K : PySem.W.Frag} : CallS K (rListO K (He.ga K C) F) (fListO C F) := fun W vs ds Q Q' r h kk => by
  obtain ⟨fs, es, e, hF, hl, q⟩ := h
  subst e
  cases r with
  | cons r rr =>
    cases rr
    cases r with
    | @obj p dx C fs' ds e n' r0 =>
      obtain ⟨v, hv, rv⟩ := r0.get hF
      cases rv with
      | @tup t zs ds ht rz => exact ⟨p, dx, fs', t, zs, rfl, e, hv, ht, by rw [rz.length]; exact hl, new_own (K := K) rz fun p W' g n rp => kk _ _ [p] W' g rp (fun x hx => by rw [List.mem_singleton.mp hx]; exact n) q⟩
end
/-! ### [*xs, ..] -/
def mStar (m : Pd) (ms : Pa) : Pa := fun ρ Q => m ρ fun d ρ1 => ∃ ds, seqD d = some ds ∧ ms ρ1 fun es ρ2 => Q (ds ++ es) ρ2
theorem qStar {X : Cx} {S : Sx} {e : Expr} {es : List Expr} {m : Pd} {ms : Pa} {p : Pos} (hK : X.K = S.K) (h : PE X e (lD S m)) (h2 : PA X es (lA S ms)) (hs : starEach (.Starred e p :: es) X.env = (true, eval e X.env) :: starEach es X.env := by rfl) : PA X (.Starred e p :: es) (lA S (mStar m ms)) :=
  (StX.pa_star h h2 hs).weak fun σ H Q ⟨ρ, F, W, Q', e, s, q, k⟩ => by
    subst e
    rw [hK]
    refine ⟨ρ, F, W, _, rfl, s, q, fun v d ρ1 F1 W1 a1 s1 r1 ⟨ds, ed, q1⟩ => ?_⟩
    have fin : ∀ {xs : List V}, RpL S.K W1 xs ds → lA S ms σ W1.H fun ys H2 => Q (xs ++ ys) H2 := fun {xs} rx => ⟨ρ1, F1, W1, _, rfl, s1, q1, fun vs es ρ2 F2 W2 a2 s2 r2 q2 => k _ _ ρ2 F2 W2 (a1.trans s s1 a2) s2 ((rx.up a2.go.ext).append r2) q2⟩
    cases r1 <;> first | (cases ed; done) | skip
    · rename_i e n r _
      cases ed
      exact ⟨_, _, rfl, .inr (.inl (.inl e)), fin r⟩
    · rename_i e r _
      cases ed
      exact ⟨_, _, rfl, .inl e.sq, fin r⟩
/-! ### reckoned -/
section
variable {ρ : Rho} {Q : D → Rho → Prop} {R : SV → Rho → Prop} {m n : Pd} {ms : Pa} {KD : D → Prop} {KV : SV → Prop}
def pBinO (C : Str) (f : Mf) (Ex : Er → Rho → Prop) (d i : D) (ρ : Rho) (R : SV → Rho → Prop) : Prop := ∃ fs, d = .obj C fs ∧ (tyD i).isSome = true ∧ f [.obj C fs, i] (fun r => R r ρ) fun er => Ex er ρ
def pInO (C : Str) (f : Mf) (neg : Bool) (d e : D) (K : D → Prop) : Prop := fInO C f neg d e K
def pEqO (C : Str) (f : Mf) (neg : Bool) (d e : D) (K : D → Prop) : Prop := fEqO C f neg d e K
def pLnO (C F : Str) (d : D) (K : D → Prop) : Prop := fLnO C F [d] K
def pListO (C F : Str) (d : D) (K : SV → Prop) : Prop := fListO C F [d] K
def pStar (d : D) (k : List D → Prop) : Prop := ∃ ds, seqD d = some ds ∧ k ds
theorem e_binO {C : Str} {f : Mf} {Ex : Er → Rho → Prop} : mBinO C f Ex m n ρ R = m ρ fun d ρ1 => n ρ1 fun i ρ2 => pBinO C f Ex d i ρ2 R := rfl
theorem e_inO {C : Str} {f : Mf} {neg : Bool} {d e : D} : fInO C f neg d e KD = pInO C f neg d e KD := rfl
theorem e_eqO {C : Str} {f : Mf} {neg : Bool} {d e : D} : fEqO C f neg d e KD = pEqO C f neg d e KD := rfl
theorem e_lnO {C F : Str} {d : D} : fLnO C F [d] KD = pLnO C F d KD := rfl
theorem e_listO {C F : Str} {d : D} : fListO C F [d] KV = pListO C F d KV := rfl
theorem e_isiC {C : Str} : mIsiC C m ρ Q = m ρ fun d ρ1 => okC C d ∧ Q (.bl (isC C d)) ρ1 := rfl
theorem e_star {Q : List D → Rho → Prop} : mStar m ms ρ Q = m ρ fun d ρ1 => pStar d fun ds => ms ρ1 fun es ρ2 => Q (ds ++ es) ρ2 := rfl
theorem e_starl {ds : List D} {k : List D → Prop} : pStar (.lst ds) k = k ds := propext ⟨fun ⟨_, e, h⟩ => by cases e; exact h, fun h => ⟨ds, rfl, h⟩⟩
theorem e_start {ds : List D} {k : List D → Prop} : pStar (.tup ds) k = k ds := propext ⟨fun ⟨_, e, h⟩ => by cases e; exact h, fun h => ⟨ds, rfl, h⟩⟩
end
end U

/-! PuS4: == over data with bools -/
namespace U
open PySem PySem.Spec PyProof.Rows L2 Q
/-- data that may be compared, bools too -/
inductive Lay : Nat → D → Prop
  | non {n : Nat} : Lay (n + 1) .non
  | bl {n : Nat} {b : Bool} : Lay (n + 1) (.bl b)
  | int {n : Nat} {i : Int} : Lay (n + 1) (.int i)
  | str {n : Nat} {x : Str} : PyData.strOk x = true → Lay (n + 1) (.str x)
  | lst {n : Nat} {ds : List D} : (∀ d ∈ ds, Lay n d) → Lay (n + 1) (.lst ds)
  | tup {n : Nat} {ds : List D} : (∀ d ∈ ds, Lay n d) → Lay (n + 1) (.tup ds)
theorem Cln.toLay {n : Nat} {d : D} (h : Cln n d) : Lay n d := by
  induction h with
  | non => exact .non
  | int => exact .int
  | str h => exact .str h
  | lst _ ih => exact .lst ih
  | tup _ ih => exact .tup ih
theorem Lay.mono {n : Nat} {d : D} (h : Lay n d) : ∀ {m : Nat}, n ≤ m → Lay m d := by
  induction h with
  | non => intro m l; cases m with | zero => omega | succ m => exact .non
  | bl => intro m l; cases m with | zero => omega | succ m => exact .bl
  | int => intro m l; cases m with | zero => omega | succ m => exact .int
  | str h => intro m l; cases m with | zero => omega | succ m => exact .str h
  | lst _ ih => intro m l; cases m with | zero => omega | succ m => exact .lst fun d hd => ih d hd (by omega)
  | tup _ ih => intro m l; cases m with | zero => omega | succ m => exact .tup fun d hd => ih d hd (by omega)
theorem Lay.lay {n : Nat} {d : D} (h : Lay n d) : (py d).canLay0 = true ∧ (py d).depth ≤ n := by
  induction h with
  | non => simp [py, PyData.canLay0, PyData.depth]
  | bl => simp [py, PyData.canLay0, PyData.depth]
  | int => simp [py, PyData.canLay0, PyData.depth]
  | str h => simp [py, PyData.canLay0, PyData.depth, h]
  | lst _ ih =>
    simp only [py, PyData.canLay0, PyData.depth]
    have e := dep_all fun d hd => (ih d hd).2
    exact ⟨lay_all fun d hd => (ih d hd).1, by omega⟩
  | tup _ ih =>
    simp only [py, PyData.canLay0, PyData.depth]
    have e := dep_all fun d hd => (ih d hd).2
    exact ⟨lay_all fun d hd => (ih d hd).1, by omega⟩
theorem Lay.shaped {n : Nat} {d : D} (h : Lay n d) (hn : n ≤ 64) : SeqAt.shaped (py d) = true := by
  obtain ⟨a, b⟩ := h.lay
  show ((py d).canLay0 && decide ((py d).depth ≤ 64)) = true
  rw [Bool.and_eq_true]
  exact ⟨a, decide_eq_true (by omega)⟩
theorem Lay.dp {K : PySem.W.Frag} {W : Wd} {n : Nat} {d : D} (h : Lay n d) : ∀ {v : V}, Rp K W v d → Dp K W.H v (py d) := by
  induction h with
  | non => intro v r; cases r; rw [py]; exact .non
  | bl => intro v r; cases r; rw [py]; exact .bl _
  | int => intro v r; cases r; rw [py]; exact .int _
  | str h => intro v r; cases r; rw [py]; exact .str _
  | lst _ ih =>
    intro v r
    cases r with
    | lst e _ r => rw [py]; exact .lst (.inl (.inl e)) (dpAll (fun d hd v h => ih d hd h) r)
  | tup _ ih =>
    intro v r
    cases r with
    | tup e r => rw [py]; exact .tup e.sq (dpAll (fun d hd v h => ih d hd h) r)
def eqvD (d e : D) : Bool := PyData.eqv (py d) (py e)
def mEqW (neg : Bool) (d e : D) (Q : D → Prop) : Prop := (∃ n m, n ≤ 64 ∧ m ≤ 64 ∧ Lay n d ∧ Lay m e) ∧ Q (.bl (if neg then !eqvD d e else eqvD d e))
theorem op_eqW {K : PySem.W.Frag} : OpD K (fun x y H Q => rEq x y H Q ∨ rEqD K x y H Q) (mEqW false) := fun W v u d e Q Q' r1 r2 h k => by
  obtain ⟨⟨n, m, hn, hm, h1, h2⟩, q⟩ := h
  exact .inr ⟨py d, py e, h1.dp r1, h2.dp r2, h1.shaped hn, h2.shaped hm, k _ _ W (Go.refl fun _ z => z.elim) .bl q⟩
theorem op_neW {K : PySem.W.Frag} : OpD K (fun x y H Q => rNe x y H Q ∨ rNeD K x y H Q) (mEqW true) := fun W v u d e Q Q' r1 r2 h k => by
  obtain ⟨⟨n, m, hn, hm, h1, h2⟩, q⟩ := h
  exact .inr ⟨py d, py e, h1.dp r1, h2.dp r2, h1.shaped hn, h2.shaped hm, k _ _ W (Go.refl fun _ z => z.elim) .bl q⟩
theorem e_eqW {neg : Bool} {d e : D} {K : D → Prop} : mEqW neg d e K = ((∃ n m, n ≤ 64 ∧ m ≤ 64 ∧ Lay n d ∧ Lay m e) ∧ K (.bl (if neg then !eqvD d e else eqvD d e))) := rfl
theorem eqv_cln {n m : Nat} {d e : D} (h : Cln n d) (h2 : Cln m e) : eqvD d e = decide (d = e) := h.eqv h2
end U

/-! PuLk: a walk over a dict, which nobody may change while it is gone through -/
namespace U
open PySem PySem.Spec PyProof.Rows L2 Q
def lockW (W : Wd) (a : Addr) (f : HO) (n : ¬ W.M a) : Wd := ⟨upd W.H a f, W.M, fun x h => by
  obtain ⟨o, q, m⟩ := W.ok x h
  exact ⟨o, by rw [upd_ne (fun z : x = a => n (z ▸ h))]; exact q, m⟩⟩
/-- both are the same dict, locked or not -/
def Sam (w f : HO) : Prop := ∃ u, ((∃ kvs, u = .dK kvs) ∨ ∃ kvs, u = .dT kvs) ∧ (w = u ∨ ∃ o, w = .frz o u) ∧ (f = u ∨ ∃ o, f = .frz o u)
theorem Sam.symm {w f : HO} (s : Sam w f) : Sam f w := by
  obtain ⟨u, a, b, c⟩ := s
  exact ⟨u, a, c, b⟩
theorem Sam.nl {w f : HO} (s : Sam w f) : (∀ xs, w ≠ .lst xs) ∧ (∀ xs, w ≠ .tup xs) ∧ (∀ o xs, w ≠ .frz o (.tup xs)) ∧ ∀ C d fs, w ≠ .ins C d fs := by
  obtain ⟨u, a, b, _⟩ := s
  rcases a with ⟨k, rfl⟩ | ⟨k, rfl⟩ <;> rcases b with rfl | ⟨o, rfl⟩ <;> refine ⟨?_, ?_, ?_, ?_⟩ <;> intros <;> intro h <;> cases h
theorem Sam.rdK {w f : HO} (s : Sam w f) {W : Wd} {a : Addr} {n : ¬ W.M a} (e : W.H a = some w) {kvs : List (Key × V)} (r : Rd W.H a (.dK kvs)) : Rd (lockW W a f n).H a (.dK kvs) := by
  obtain ⟨u, q, b, c⟩ := s
  have hu : u = .dK kvs := by
    rcases r with r | ⟨o, r⟩ <;> rw [e] at r <;> cases r
    · rcases b with b | ⟨o, b⟩
      · exact b.symm
      · cases b
    · rcases b with b | ⟨o, b⟩
      · rcases q with ⟨k, q⟩ | ⟨k, q⟩ <;> (rw [q] at b; cases b)
      · cases b; rfl
  subst hu
  show upd W.H a f a = _ ∨ ∃ o, upd W.H a f a = _
  rw [upd_same]
  rcases c with rfl | ⟨o, rfl⟩
  · exact .inl rfl
  · exact .inr ⟨o, rfl⟩
theorem Sam.rdT {w f : HO} (s : Sam w f) {W : Wd} {a : Addr} {n : ¬ W.M a} (e : W.H a = some w) {kvs : List (List Key × V)} (r : Rd W.H a (.dT kvs)) : Rd (lockW W a f n).H a (.dT kvs) := by
  obtain ⟨u, q, b, c⟩ := s
  have hu : u = .dT kvs := by
    rcases r with r | ⟨o, r⟩ <;> rw [e] at r <;> cases r
    · rcases b with b | ⟨o, b⟩
      · exact b.symm
      · cases b
    · rcases b with b | ⟨o, b⟩
      · rcases q with ⟨k, q⟩ | ⟨k, q⟩ <;> (rw [q] at b; cases b)
      · cases b; rfl
  subst hu
  show upd W.H a f a = _ ∨ ∃ o, upd W.H a f a = _
  rw [upd_same]
  rcases c with rfl | ⟨o, rfl⟩
  · exact .inl rfl
  · exact .inr ⟨o, rfl⟩
theorem Sam.rxK {w f : HO} (s : Sam w f) {W : Wd} {a x : Addr} {n : ¬ W.M a} (z : x = a) (e : W.H a = some w) {kvs : List (Key × V)} (r : Rd W.H x (.dK kvs)) : Rd (lockW W a f n).H x (.dK kvs) := by
  subst z
  exact s.rdK e r
theorem Sam.rxT {w f : HO} (s : Sam w f) {W : Wd} {a x : Addr} {n : ¬ W.M a} (z : x = a) (e : W.H a = some w) {kvs : List (List Key × V)} (r : Rd W.H x (.dT kvs)) : Rd (lockW W a f n).H x (.dT kvs) := by
  subst z
  exact s.rdT e r
section
variable {K : PySem.W.Frag} {W : Wd} {d : Addr} {w f : HO} {n : ¬ W.M d}
theorem lk_H {x : Addr} (h : x ≠ d) : (lockW W d f n).H x = W.H x := upd_ne h
theorem lk_d : (lockW W d f n).H d = some f := upd_same
theorem lk_m {x : Addr} (m : W.M x) : (lockW W d f n).H x = W.H x := lk_H fun z => n (z ▸ m)
mutual
theorem Rp.lk (e : W.H d = some w) (s : Sam w f) : ∀ {v : V} {x : D}, Rp K W v x → Rp K (lockW W d f n) v x
  | _, _, .non => .non
  | _, _, .bl => .bl
  | _, _, .int => .int
  | _, _, .str => .str
  | _, _, .lst q m r => .lst (by
      rw [lk_H (fun z => by rw [z, e] at q; exact s.nl.1 _ (Option.some.inj q))]; exact q) m (RpL.lk e s r)
  | _, _, .tup q r => .tup (q.map fun q => by
      rw [lk_H (fun z => by rw [z, e] at q; exact s.nl.2.1 _ (Option.some.inj q))]; exact q) (RpL.lk e s r)
  | _, _, @Rp.dct _ _ a kvs ds q m r => by
    by_cases z : a = d
    · exact .dct (s.rxK z e q) m (RpK.lk e s r)
    · refine .dct ?_ m (RpK.lk e s r)
      rcases q with q | ⟨o, q⟩
      · exact .inl (by rw [lk_H z]; exact q)
      · exact .inr ⟨o, by rw [lk_H z]; exact q⟩
  | _, _, @Rp.dcT _ _ a kvs ds q m r => by
    by_cases z : a = d
    · exact .dcT (s.rxT z e q) m (RpT.lk e s r)
    · refine .dcT ?_ m (RpT.lk e s r)
      rcases q with q | ⟨o, q⟩
      · exact .inl (by rw [lk_H z]; exact q)
      · exact .inr ⟨o, by rw [lk_H z]; exact q⟩
  | _, _, .obj q m r => .obj (by
      rw [lk_H (fun z => by rw [z, e] at q; exact s.nl.2.2.2 _ _ _ (Option.some.inj q))]; exact q) m (RpF.lk e s r)
theorem RpL.lk (e : W.H d = some w) (s : Sam w f) : ∀ {vs : List V} {ds : List D}, RpL K W vs ds → RpL K (lockW W d f n) vs ds
  | _, _, .nil => .nil
  | _, _, .cons h t => .cons (Rp.lk e s h) (RpL.lk e s t)
theorem RpK.lk (e : W.H d = some w) (s : Sam w f) : ∀ {vs : List (Key × V)} {ds : List (D × D)}, RpK K W vs ds → RpK K (lockW W d f n) vs ds
  | _, _, .nil => .nil
  | _, _, .cons h t => .cons (Rp.lk e s h) (RpK.lk e s t)
theorem RpT.lk (e : W.H d = some w) (s : Sam w f) : ∀ {vs : List (List Key × V)} {ds : List (D × D)}, RpT K W vs ds → RpT K (lockW W d f n) vs ds
  | _, _, .nil => .nil
  | _, _, .cons h t => .cons (Rp.lk e s h) (RpT.lk e s t)
theorem RpF.lk (e : W.H d = some w) (s : Sam w f) : ∀ {vs : List (Str × V)} {ds : List (Str × D)}, RpF K W vs ds → RpF K (lockW W d f n) vs ds
  | _, _, .nil => .nil
  | _, _, .cons h t => .cons (Rp.lk e s h) (RpF.lk e s t)
end
theorem Own.lk {p : Addr} {xs : List V} (o : Own W p xs) : Own (lockW W d f n) p xs := ⟨by rw [lk_m o.2]; exact o.1, o.2⟩
theorem RpQ.lk (e : W.H d = some w) (s : Sam w f) : ∀ {qs : List Addr} {rs : List (List D)}, RpQ K W qs rs → RpQ K (lockW W d f n) qs rs
  | _, _, .nil => .nil
  | _, _, .cons o r t => .cons o.lk (RpL.lk e s r) (RpQ.lk e s t)
theorem RpS.lk (e : W.H d = some w) (s : Sam w f) {v : V} {r : SV} {X : List Addr} (h : RpS K W v r X) : RpS K (lockW W d f n) v r X := by
  cases h with
  | dat h => exact .dat (h.lk e s)
  | own o r => exact .own o.lk (r.lk e s)
  | ow2 o r nd => exact .ow2 o.lk (r.lk e s) nd
  | ownK q m r => exact .ownK (by rw [lk_m m]; exact q) m (r.lk e s)
  | ownT q m r => exact .ownT (by rw [lk_m m]; exact q) m (r.lk e s)
  | ownO q m r => exact .ownO (by rw [lk_m m]; exact q) m (r.lk e s)
theorem Sto.lk {st c : Addr} (e : W.H d = some w) (s : Sam w f) (h : Sto st c W) : Sto st c (lockW W d f n) := by
  obtain ⟨ns, i, b, sd, g, k, o, hi, hc, nc⟩ := h
  exact ⟨ns, i, b, sd, g, k, o.lk, hi, by rw [lk_H (fun z => by rw [z, e] at hc; exact s.nl.1 _ (Option.some.inj hc))]; exact hc, nc⟩
theorem goIn {X : Addr → Prop} {W0 : Wd} (g : Go X W0 W) (n0 : ¬ W0.M d) : Go X (lockW W0 d f n0) (lockW W d f n) where
  keep := fun x o nx q => by
    by_cases z : x = d
    · subst z; rw [lk_d] at q ⊢; exact q
    · rw [lk_H z] at q ⊢; exact g.keep x o nx q
  tups := fun x o nx q => by
    by_cases z : x = d
    · subst z; rw [lk_d] at q ⊢; exact q
    · rw [lk_H z] at q ⊢; exact g.tups x o nx q
  old := fun x m => (g.old x m).elim .inl fun q => .inr (by
    have nz : x ≠ d := fun z => n (z ▸ m)
    rw [lk_H nz]; exact q)
  stay := g.stay
  inM := g.inM
  ne := fun x q => by
    by_cases z : x = d
    · subst z; rw [lk_d]; intro h; cases h
    · rw [lk_H z] at q ⊢; exact g.ne x q
theorem goOut {X : Addr → Prop} {W0 : Wd} {n0 : ¬ W0.M d} (g : Go X (lockW W0 d f n0) W) (h : ∀ o, W0.H d = some o → o = w) : Go X W0 (lockW W d w n) where
  keep := fun x o nx q => by
    by_cases z : x = d
    · subst z; rw [lk_d, h o q]
    · rw [lk_H z]; exact g.keep x o nx (by rw [lk_H z]; exact q)
  tups := fun x o nx q => by
    by_cases z : x = d
    · subst z; rw [lk_d, h o q]
    · rw [lk_H z]; exact g.tups x o nx (by rw [lk_H z]; exact q)
  old := fun x m => (g.old x m).elim .inl fun q => .inr (by
    have nz : x ≠ d := fun z => n (z ▸ m)
    rw [lk_H nz] at q; exact q)
  stay := g.stay
  inM := g.inM
  ne := fun x q => by
    by_cases z : x = d
    · subst z; rw [lk_d]; intro h; cases h
    · rw [lk_H z]; exact g.ne x (by rw [lk_H z]; exact q)
end
abbrev lkS (S : Sx) (W0 : Wd) : Sx := { S with W0 := W0, tb := none }
section
variable {S : Sx} {W : Wd} {σ : L2.St} {ρ : Rho} {F : Fp} {d : Addr} {w f : HO}
theorem Sn.n0 (s : Sn S W σ ρ F) (n : ¬ W.M d) : ¬ S.W0.M d := fun h => by
  by_cases q : S.sm d
  · obtain ⟨c, q⟩ := q
    exact n (s.sto d c q).2.1.inM
  · exact n (s.go.stay d q h)
theorem Sn.lk (s : Sn S W σ ρ F) (n : ¬ W.M d) (e : W.H d = some w) (q : Sam w f) : Sn (lkS S (lockW S.W0 d f (s.n0 n))) (lockW W d f n) σ ρ F :=
  ⟨s.len, goIn s.go (s.n0 n), fun a c z => ⟨(s.sto a c z).1, (s.sto a c z).2.1.lk e q, (s.sto a c z).2.2⟩, fun i r z => by
    obtain ⟨v, h1, h2⟩ := s.sv i r z
    exact ⟨v, h1, h2.lk e q⟩, fun i a h => ⟨(s.new i a h).1, by
      show upd S.W0.H d f a = none
      have nz : a ≠ d := fun z => n (z ▸ (s.new i a h).1)
      rw [upd_ne nz]; exact (s.new i a h).2⟩, s.dj, s.me, fun _ _ h => nomatch h⟩
/-- what went on under the lock, seen from without -/
theorem Sn.unlk (s : Sn S W σ ρ F) {n : ¬ W.M d} (e : W.H d = some w) (q : Sam w f) {W2 : Wd} {σ2 : L2.St} {ρ2 : Rho} {F2 : Fp} (a2 : StpS (lkS S (lockW S.W0 d f (s.n0 n))) F (lockW W d f n) F2 W2) (s2 : Sn (lkS S (lockW S.W0 d f (s.n0 n))) W2 σ2 ρ2 F2) :
    W2.H d = some f ∧ ∃ n2 : ¬ W2.M d, StpS S F W F2 (lockW W2 d w n2) ∧ Sn S (lockW W2 d w n2) σ2 ρ2 F2 := by
  have n2 : ¬ W2.M d := fun h => (s2.go.old d h).elim (s.n0 n) fun z => by
    have z : upd S.W0.H d f d = none := z
    rw [upd_same] at z; cases z
  have e2 : W2.H d = some f := s2.go.keep d f (fun ⟨c, z⟩ => n2 (s2.sto d c z).2.1.inM) upd_same
  have a : StpS S F W F2 (lockW W2 d w n2) := ⟨goOut a2.go fun o z => by rw [e] at z; exact (Option.some.inj z).symm, fun i x h => (a2.sub i x h).elim .inl fun z => .inr (by
    rw [lk_H (fun y => by rw [y, lk_d] at z; cases z)] at z; exact z)⟩
  refine ⟨e2, n2, a, s2.len, ?_, fun a c z => ⟨(s2.sto a c z).1, (s2.sto a c z).2.1.lk e2 q.symm, (s2.sto a c z).2.2⟩, fun i r z => ?_, fun i x h => ⟨(s2.new i x h).1, ?_⟩, s2.dj, s2.me, fun Wb Fb z => (s.tb Wb Fb z).trans a⟩
  · refine goOut (n0 := s.n0 n) s2.go fun o z => ?_
    have := s.go.keep d o (fun ⟨c, y⟩ => n (s.sto d c y).2.1.inM) z
    rw [e] at this
    exact (Option.some.inj this).symm
  · obtain ⟨v, h1, h2⟩ := s2.sv i r z
    exact ⟨v, h1, h2.lk e2 q.symm⟩
  · have z : upd S.W0.H d f x = none := (s2.new i x h).2
    have nz : x ≠ d := fun y => n2 (y ▸ (s2.new i x h).1)
    rw [upd_ne nz] at z
    exact z
theorem RetOk.unlk (s : Sn S W σ ρ F) {n : ¬ W.M d} (e : W.H d = some w) (q : Sam w f) {W2 : Wd} {v : V} {r : SV} (k : RetOk (lkS S (lockW S.W0 d f (s.n0 n))) v r W2) : W2.H d = some f ∧ ∃ n2 : ¬ W2.M d, RetOk S v r (lockW W2 d w n2) := by
  have n2 : ¬ W2.M d := fun h => (k.go.old d h).elim (s.n0 n) fun z => by
    have z : upd S.W0.H d f d = none := z
    rw [upd_same] at z; cases z
  have e2 : W2.H d = some f := k.go.keep d f (fun ⟨c, z⟩ => n2 (k.sto d c z).inM) upd_same
  obtain ⟨X, h1, h2⟩ := k.rp
  refine ⟨e2, n2, goOut (n0 := s.n0 n) k.go fun o z => ?_, fun a c z => (k.sto a c z).lk e2 q.symm, X, h1.lk e2 q.symm, fun x hx => ?_⟩
  · have := s.go.keep d o (fun ⟨c, y⟩ => n (s.sto d c y).2.1.inM) z
    rw [e] at this
    exact (Option.some.inj this).symm
  · have z : upd S.W0.H d f x = none := h2 x hx
    rw [upd_ne (fun y => by rw [y, upd_same] at z; cases z)] at z
    exact z
end
def mForD (j : Nat) (b : Bnd) (body : Ps) : Ps := fun E ρ => (∃ t kvs, ρ[j]? = some (some (.dat (.dct t kvs))) ∧ pFor b body E (kvs.map (·.1)) ρ) ∨ mFor (mIt (mVar j)) b body E ρ
theorem RpK.keys {K : PySem.W.Frag} {W W' : Wd} : ∀ {kvs : List (Key × V)} {ds : List (D × D)}, RpK K W kvs ds → kvs.length = ds.length ∧ ∀ (i : Nat) (k : Key) (v : V), kvs[i]? = some (k, v) → (ds.map (·.1))[i]? = some (kD k)
  | _, _, .nil => ⟨rfl, fun i k v h => by simp at h⟩
  | _, _, .cons h t => ⟨by rw [List.length_cons, List.length_cons, (RpK.keys t (W' := W')).1], fun i k v h => by
      cases i with
      | zero => cases h; rfl
      | succ i => exact (RpK.keys t (W' := W')).2 i k v h⟩
theorem RpT.keys {K : PySem.W.Frag} {W W' : Wd} : ∀ {kvs : List (List Key × V)} {ds : List (D × D)}, RpT K W kvs ds → kvs.length = ds.length ∧ ∀ (i : Nat) (k : List Key) (v : V), kvs[i]? = some (k, v) → (ds.map (·.1))[i]? = some (.tup (k.map kD))
  | _, _, .nil => ⟨rfl, fun i k v h => by simp at h⟩
  | _, _, .cons h t => ⟨by rw [List.length_cons, List.length_cons, (RpT.keys t (W' := W')).1], fun i k v h => by
      cases i with
      | zero => cases h; rfl
      | succ i => exact (RpT.keys t (W' := W')).2 i k v h⟩
theorem kd_rp {K : PySem.W.Frag} {W : Wd} {k : Key} : Rp K W (kV k) (kD k) := by
  cases k with
  | inl i => exact .int
  | inr x => exact .str
theorem kds_rp {K : PySem.W.Frag} {W : Wd} : ∀ {k : List Key}, RpL K W (k.map kV) (k.map kD)
  | [] => .nil
  | k :: l => .cons kd_rp kds_rp
theorem it_key {K : PySem.W.Frag} {W : Wd} {a : Addr} {o : Obj} {kvs : List (Key × V)} {ds : List (D × D)} (e : W.H a = some (.frz o (.dK kvs))) (n : ¬ W.M a) (r : RpK K W kvs ds) : ItOk K W (Itk a o kvs) (ds.map (·.1)) := fun W2 m i => by
  have e2 := m.keep _ _ n e
  obtain ⟨r1, r2⟩ := r.keys (W' := W)
  refine ⟨fun h => ⟨e2, by rw [List.length_map] at h; omega⟩, fun d hd => ?_⟩
  have hi := (List.getElem?_eq_some_iff.mp hd).1
  rw [List.length_map] at hi
  refine ⟨⟨e2, by omega⟩, fun x H' ⟨e1, k, v, h1, h2⟩ => ⟨W2, e1.symm, Go.refl fun _ z => z.elim, ?_⟩⟩
  have := r2 i k v h1
  rw [hd] at this
  cases this
  rw [h2]
  exact kd_rp
theorem it_keyT {K : PySem.W.Frag} {W : Wd} {a : Addr} {o : Obj} {kvs : List (List Key × V)} {ds : List (D × D)} (e : W.H a = some (.frz o (.dT kvs))) (n : ¬ W.M a) (r : RpT K W kvs ds) : ItOk K W (Itkt a o kvs) (ds.map (·.1)) := fun W2 m i => by
  have e2 := m.keep _ _ n e
  obtain ⟨r1, r2⟩ := r.keys (W' := W)
  refine ⟨fun h => ⟨e2, by rw [List.length_map] at h; omega⟩, fun d hd => ?_⟩
  have hi := (List.getElem?_eq_some_iff.mp hd).1
  rw [List.length_map] at hi
  refine ⟨⟨e2, by omega⟩, fun x H' ⟨e1, k, v, q, h1, h2, h3⟩ => ⟨W2, e1.symm, Go.refl fun _ z => z.elim, ?_⟩⟩
  have := r2 i k v h1
  rw [hd] at this
  cases this
  rw [h2]
  exact .tup (.inl h3) kds_rp
theorem e_pFor0 {b : Bnd} {body : Ps} {E : PEnds} {ρ : Rho} : pFor b body E [] ρ = E.nx ρ := rfl
theorem pFor_one {b : Bnd} {body : Ps} {E : PEnds} {ρ : Rho} {d : D} {ds : List D} : pFor b body E (d :: ds) ρ = b d ρ fun ρ1 => body { nx := pFor b body E ds, ct := pFor b body E ds, bk := E.nx, rt := E.rt } ρ1 := rfl
section
variable {X : Cx} {S : Sx} {tg iter : Expr} {body : List Stmt} {g : TG} {b : Bnd} {m : Ps} {j : Nat} {pos : Pos}
abbrev tLk (S : Sx) (m : Ps) : TS := fun D σ H => ∃ W0, lS (lkS S W0) m D σ H
theorem forLk {σ : L2.St} {ρ : Rho} {F : Fp} {W : Wd} {a : Addr} {w f : HO} {E' : PEnds} {E E2 : Ends} {J : It} {ds : List D} (ho : ∀ W0, GOk (lkS S W0) g b) (s : Sn S W σ ρ F) (n : ¬ W.M a) (e : W.H a = some w) (sm : Sam w f) (c : Cont S F W E' E) (q : forD b m E' ds ρ) (it : ItOk S.K (lockW W a f n) J ds)
    (hnx : ∀ σ' H', H' a = some f → E.nx σ' (upd H' a w) → E2.nx σ' H') (hrt : ∀ v H', H' a = some f → E.rt v (upd H' a w) → E2.rt v H') (hbk : ∀ σ' H', H' a = some f → E.bk σ' (upd H' a w) → E2.bk σ' H') :
    ∃ P : Nat → Nat → L2.St → Hp → Prop, (∃ k, P 0 k σ (upd W.H a f)) ∧ ∀ i k σ H, P i k σ H →
      (J.stop i H ∧ E2.nx σ H) ∨ (J.go i H ∧ ∃ N : L2.St → Hp → Prop, (∀ σ' H', N σ' H' → ∃ m', m' < k ∧ P (i + 1) m' σ' H') ∧ ∀ x H', J.yld i H x H' → g x σ H' fun σ2 H2 => tLk S m { E2 with nx := N, ct := N, bk := E2.nx } σ2 H2) := by
  have s1 := s.lk n e sm
  refine ⟨fun i k σ2 H2 => k = ds.length - i ∧ i ≤ ds.length ∧ ∃ ρ2 F2 W2, W2.H = H2 ∧ StpS (lkS S (lockW S.W0 a f (s.n0 n))) F (lockW W a f n) F2 W2 ∧ Sn (lkS S (lockW S.W0 a f (s.n0 n))) W2 σ2 ρ2 F2 ∧ forD b m E' (ds.drop i) ρ2, ⟨ds.length, by simp, Nat.zero_le _, ρ, F, lockW W a f n, rfl, s1.stpS, s1, q⟩, ?_⟩
  have fin : ∀ σ2 ρ2 F2 W2, StpS (lkS S (lockW S.W0 a f (s.n0 n))) F (lockW W a f n) F2 W2 → Sn (lkS S (lockW S.W0 a f (s.n0 n))) W2 σ2 ρ2 F2 → E'.nx ρ2 → E2.nx σ2 W2.H := fun σ2 ρ2 F2 W2 a2 s2 q2 => by
    obtain ⟨e2, n2, a3, s3⟩ := s.unlk e sm a2 s2
    exact hnx _ _ e2 (c.nx σ2 ρ2 F2 _ a3 s3 q2)
  rintro i k σ2 _ ⟨rfl, hi, ρ2, F2, W2, rfl, a2, s2, q2⟩
  by_cases hlt : i < ds.length
  · have ed := List.getElem?_eq_getElem hlt
    obtain ⟨g1, g2⟩ := (it W2 a2.go.ext i).2 _ ed
    refine .inr ⟨g1, fun σ3 H3 => ∃ ρ3 F3 W3, W3.H = H3 ∧ StpS (lkS S (lockW S.W0 a f (s.n0 n))) F (lockW W a f n) F3 W3 ∧ Sn (lkS S (lockW S.W0 a f (s.n0 n))) W3 σ3 ρ3 F3 ∧ forD b m E' (ds.drop (i + 1)) ρ3, fun σ' H' ⟨ρ3, F3, W3, h⟩ => ⟨ds.length - (i + 1), by omega, rfl, hlt, ρ3, F3, W3, h⟩, fun x H' y => ?_⟩
    obtain ⟨W3, e3, g3, r3⟩ := g2 x H' y
    subst e3
    rw [List.drop_eq_getElem_cons hlt] at q2
    obtain ⟨a3, s3⟩ := s2.nw g3
    refine ho _ x _ σ2 ρ2 F2 W3 _ _ s3 r3 q2 fun σ4 ρ4 F4 s4 hF q4 => ?_
    have a4 : StpS (lkS S (lockW S.W0 a f (s.n0 n))) F2 W2 F4 W3 := ⟨a3.go, fun j a h => .inl ⟨j, hF j a h⟩⟩
    have a14 := a2.trans a4
    refine ⟨lockW S.W0 a f (s.n0 n), ρ4, F4, W3, _, rfl, s4, q4, ⟨fun σ5 ρ5 F5 W5 a5 s5 q5 => ⟨ρ5, F5, W5, rfl, a14.trans a5, s5, q5⟩, fun σ5 ρ5 F5 W5 a5 s5 q5 => fin σ5 ρ5 F5 W5 (a14.trans a5) s5 q5,
      fun σ5 ρ5 F5 W5 a5 s5 q5 => ⟨ρ5, F5, W5, rfl, a14.trans a5, s5, q5⟩, fun v r W5 k5 q5 => ?_⟩⟩
    obtain ⟨e5, n5, k6⟩ := RetOk.unlk (n := n) s e sm k5
    exact hrt _ _ e5 (c.rt v r _ k6 q5)
  · have e : i = ds.length := by omega
    subst e
    rw [List.drop_length] at q2
    exact .inl ⟨(it W2 a2.go.ext _).1 (Nat.le_refl _), fin σ2 ρ2 F2 W2 a2 s2 q2⟩
theorem upd_id {H : Hp} {d : Addr} {u : HO} (h : H d = some u) : upd H d u = H := by
  funext a
  by_cases q : a = d
  · subst q; rw [upd_same, h]
  · rw [upd_ne q]
theorem qForD (hp : PassesOwn (model X.prog X.w) X.A X.env X.xe) (hc : X.calm = true) (hK : X.K = S.K) (he : PE X iter (tVar j)) (hg : PG X tg g) (ho : ∀ W0, GOk (lkS S W0) g b) (ho' : GOk S g b) (hb : ∀ W0, PSs X body (lS (lkS S W0) m)) (hb' : PSs X body (lS S m)) (hs : ∀ x, foldedSetIterable iter X.env x = pure x := by intro _; rfl) :
    PS X (.For tg iter body [] pos) (lS S (mForD j b m)) := ⟨fun pins s σ H D I ⟨ρ, F, W, E', e, sn, q, c⟩ => by
  rcases q with ⟨t, ks, er, q⟩ | q
  · subst e
    obtain ⟨v, ev, hv⟩ := sn.sv j _ er
    have base := ps_for (pos := pos) (tb := tLk S m) hp hc (pi_keys (tg := tg) he) hg ⟨fun pins s σ H D I ⟨W0, q⟩ => (hb W0).run pins s σ H D I q⟩ hs
    generalize hF : F j = Y at hv
    cases hv with
    | dat hd =>
      cases hd with
      | @dct a kvs ds e n r =>
        rcases e with e | ⟨o, e⟩
        · have sm : ∀ o, Sam (.dK kvs) (.frz o (.dK kvs)) := fun o => ⟨.dK kvs, .inl ⟨_, rfl⟩, .inl rfl, .inr ⟨o, rfl⟩⟩
          refine (ps_lock base).run pins s σ W.H D I ⟨a, .dK kvs, e, True.intro, fun od => ⟨.ref a, ev, a, od, rfl, .inl ⟨kvs, upd_same, ?_⟩⟩⟩
          exact forLk ho sn n e (sm od) c q (it_key lk_d n (r.lk e (sm od))) (fun _ _ h k => ⟨h, k⟩) (fun _ _ h k => ⟨h, k⟩) fun _ _ h k => ⟨h, k⟩
        · have sm : Sam (.frz o (.dK kvs)) (.frz o (.dK kvs)) := ⟨.dK kvs, .inl ⟨_, rfl⟩, .inr ⟨o, rfl⟩, .inr ⟨o, rfl⟩⟩
          have k := forLk (E2 := D) ho sn n e sm c q (it_key lk_d n (r.lk e sm)) (fun _ _ h k => by rw [upd_id h] at k; exact k) (fun _ _ h k => by rw [upd_id h] at k; exact k) fun _ _ h k => by rw [upd_id h] at k; exact k
          rw [upd_id e] at k
          exact base.run pins s σ W.H D I ⟨.ref a, ev, a, o, rfl, .inl ⟨kvs, e, k⟩⟩
      | @dcT a kvs ds e n r =>
        rcases e with e | ⟨o, e⟩
        · have sm : ∀ o, Sam (.dT kvs) (.frz o (.dT kvs)) := fun o => ⟨.dT kvs, .inr ⟨_, rfl⟩, .inl rfl, .inr ⟨o, rfl⟩⟩
          refine (ps_lock base).run pins s σ W.H D I ⟨a, .dT kvs, e, True.intro, fun od => ⟨.ref a, ev, a, od, rfl, .inr ⟨kvs, upd_same, ?_⟩⟩⟩
          exact forLk ho sn n e (sm od) c q (it_keyT lk_d n (r.lk e (sm od))) (fun _ _ h k => ⟨h, k⟩) (fun _ _ h k => ⟨h, k⟩) fun _ _ h k => ⟨h, k⟩
        · have sm : Sam (.frz o (.dT kvs)) (.frz o (.dT kvs)) := ⟨.dT kvs, .inr ⟨_, rfl⟩, .inr ⟨o, rfl⟩, .inr ⟨o, rfl⟩⟩
          have k := forLk (E2 := D) ho sn n e sm c q (it_keyT lk_d n (r.lk e sm)) (fun _ _ h k => by rw [upd_id h] at k; exact k) (fun _ _ h k => by rw [upd_id h] at k; exact k) fun _ _ h k => by rw [upd_id h] at k; exact k
          rw [upd_id e] at k
          exact base.run pins s σ W.H D I ⟨.ref a, ev, a, o, rfl, .inr ⟨kvs, e, k⟩⟩
  · exact (qFor hp hc (qIt hK (qVar he)) hg ho' hb' hs).run pins s σ H D I ⟨ρ, F, W, E', e, sn, q, c⟩⟩
end
end U

/-! PuDf: a class called with fewer arguments, where what is left out is an empty tuple -/
namespace U
open PySem PySem.Spec PyProof.Rows L2 Q
def mDef (m : Mi) (j : Nat) : Mi := fun ds Q E => m (ds ++ List.replicate j (.tup [])) Q E
def Emp (K : PySem.W.Frag) (dvs : List V) : Prop := ∀ v ∈ dvs, ∃ a, v = .ref a ∧ Kt K a []
theorem Emp.rp {K : PySem.W.Frag} {W : Wd} : ∀ {dvs : List V}, Emp K dvs → RpL K W dvs (List.replicate dvs.length (.tup []))
  | [], _ => .nil
  | v :: dvs, h => by
    obtain ⟨a, rfl, ha⟩ := h v List.mem_cons_self
    exact .cons (.tup (.inr ha) .nil) (Emp.rp fun u hu => h u (List.mem_cons_of_mem _ hu))
section
variable {Z : Q.Env} {X : Cx} {S : Sx} {k : Nat} {x : Str} {ps : List Str} {dvs : List V} {p pos : Pos} {e : Expr} {es : List Expr} {ms : Pa} {We : L2.WX} {Ex : Er → Rho → Prop}
theorem qNewD {mi : Mi} (na j : Nat) (hK : S.K = Z.K) (tk : L2N.Takes X We) (eo : EOk S We Ex) (c : CanN Z (CXn Z) k x ps dvs (lFi S.K (na + j) x mi)) (hd : Emp Z.K dvs) (hj : dvs.length = j) (hr : Room (k + 1) X.A) (ha : PA X (e :: es) (lA S ms)) (z : At Z X := by exact ⟨rfl, rfl, rfl, rfl, rfl⟩) (hg : Gl X x := by rfl) (hdb : (x == ("__debug__" : Str)) = false := by decide)
    (he : starEach (e :: es) X.env = (false, eval e X.env) :: starEach es X.env := by rfl) (hpl : (backTo pos (starEach es X.env)).any (·.1) = false := by rfl) :
    PE X (.Call (.Name x p) (e :: es) [] pos) (lV S (mNew na x (mDef mi j) Ex ms)) := (pnewT tk c hr ha z hg hdb he hpl).weak fun σ H Q ⟨ρ, F, W, Q', e, s, q, k⟩ => by
  subst e
  refine ⟨ρ, F, W, _, rfl, s, q, fun vs ds ρ1 F1 W1 a1 s1 r1 ⟨hl, q1⟩ a dx ha hdx hne => ?_⟩
  show lFi S.K (na + j) x mi (V.ref a :: (vs ++ dvs)) _ _ _
  have h1 : (W1.put dx (.own a) hdx).H a = none := by
    show upd W1.H dx _ a = none
    rw [upd_ne (Ne.symm hne)]
    exact ha
  have g1 : Go Nw W1 ((W1.put dx (.own a) hdx).ownO a (.ins (He.ga Z.K x) dx []) True.intro h1) := (Wd.put_go hdx).trans (Wd.ownO_go h1) fun _ z => z.elim
  have rd : RpL S.K ((W1.put dx (.own a) hdx).ownO a (.ins (He.ga Z.K x) dx []) True.intro h1) dvs (List.replicate j (.tup [])) := by
    have hd2 : Emp S.K dvs := by rw [hK]; exact hd
    have := Emp.rp (W := (W1.put dx (.own a) hdx).ownO a (.ins (He.ga Z.K x) dx []) True.intro h1) hd2
    rw [hj] at this
    exact this
  have q1 : mi (ds ++ List.replicate j (.tup [])) (fun fs => Q' (.ownO x fs) ρ1) fun er => Ex er ρ1 := q1
  refine ⟨_, W1, a, vs ++ dvs, ds ++ List.replicate j (.tup []), _, _, rfl, rfl, by rw [List.length_append, r1.length, hj, hl], ha, g1, ?_, (r1.up g1.ext).append rd, q1, fun fs W2 g hr q2 => ⟨rfl, ?_⟩, fun er cls dx' W2 g hk q2 => ?_⟩
  · rw [hK]
    exact .ownO (C := x) upd_same (.inr rfl) .nil
  · obtain ⟨a2, s2⟩ := s1.nw g
    exact k _ _ [a] ρ1 F1 W2 (a1.trans s s1 a2) s2 hr (fun y hy => by rw [List.mem_singleton.mp hy]; exact a1.go.free ha) q2
  · obtain ⟨a2, s2⟩ := s1.nw g
    exact eo er ρ1 F1 W2 σ cls dx' s2 hk q2
end
theorem emp_nil {K : PySem.W.Frag} : Emp K [] := fun _ h => absurd h List.not_mem_nil
theorem emp_cons {K : PySem.W.Frag} {a : Addr} {l : List V} (h : Kt K a []) (t : Emp K l) : Emp K (.ref a :: l) := List.forall_mem_cons.mpr ⟨⟨a, rfl, h⟩, t⟩
/-- a value that leans on nothing that others may change -/
def SFz : SV → Prop
  | .dat d => Fz d
  | .own ds => ∀ d ∈ ds, Fz d
  | .ownO _ fs => ∀ p ∈ fs, Fz p.2
  | _ => False
def mKeepV (m : Pv) : Pv := fun ρ Q => m ρ fun r _ => SFz r ∧ Q r ρ
theorem RpF.imp {K : PySem.W.Frag} {W W' : Wd} : ∀ {fs : List (Str × V)} {ds : List (Str × D)}, (∀ p ∈ ds, ∀ v, Rp K W v p.2 → Rp K W' v p.2) → RpF K W fs ds → RpF K W' fs ds
  | _, _, _, .nil => .nil
  | _, _, f, .cons h t => .cons (f _ List.mem_cons_self _ h) (RpF.imp (fun p hp => f p (List.mem_cons_of_mem _ hp)) t)
theorem qKeepV {X : Cx} {S : Sx} {e : Expr} {m : Pv} (h : PE X e (lV S m)) : PE X e (lV S (mKeepV m)) := h.weak fun σ H Q ⟨ρ, F, W, Q', eW, s, q, k⟩ => by
  subst eW
  refine ⟨ρ, F, W, _, rfl, s, q, fun v r X ρ1 F1 W1 a1 s1 hr hX ⟨sf, q1⟩ => ?_⟩
  obtain ⟨W2, e2, a2, s2, up, mm⟩ := s.restore a1 s1
  have hr2 : RpS S.K W2 v r X := by
    cases hr with
    | dat h => exact .dat (up _ _ sf h)
    | own o r => exact .own ⟨by rw [e2]; exact o.1, mm _ o.2⟩ (r.imp fun d hd v h => up v d (sf d hd) h)
    | ow2 o r nd => exact sf.elim
    | ownK eo m r => exact sf.elim
    | ownT eo m r => exact sf.elim
    | ownO eo m r => exact .ownO (by rw [e2]; exact eo) (mm _ m) (RpF.imp (fun p hp v h => up v _ (sf p hp) h) r)
  have := k v r X ρ F W2 a2 s2 hr2 hX q1
  rw [e2] at this
  exact this
theorem e_keepV {m : Pv} {ρ : Rho} {R : SV → Rho → Prop} : mKeepV m ρ R = m ρ fun r _ => SFz r ∧ R r ρ := rfl
theorem kt_ok {K : PySem.W.Frag} {a : Addr} (h : ktB K a = true) : Kt K a [] := by
  unfold ktB at h
  split at h
  · rename_i c od its n sl e
    obtain ⟨h1, h2⟩ := He.ba h
    cases of_decide_eq_true h1
    obtain ⟨l⟩ := its
    cases l with
    | nil => exact ⟨rfl, _, n, e, rfl, rfl⟩
    | cons _ _ => cases h2
  · cases h
end U

namespace Q
open PySem PySem.Spec PyProof.Rows L2 TL
local macro_rules | `(tactic| walk_at "len") => `(tactic| (apply sz; (try simp only [len_app]); (try simp only [show (Str.ofString ".").length = 1 from rfl]); omega))
local macro_rules | `(tactic| walk_at "mod") => `(tactic| first | assumption | exact Mod.refl _ | (refine Mod.trS ?_ (by assumption); walk_at "mod") | (refine Mod.tr0 ?_ (by assumption); walk_at "mod") | (refine Mod.trN ?_ (by assumption) (by walk_at "fre"); walk_at "mod") | exact Mod.lift (fun a ha => by rw [List.mem_singleton.mp ha]; first | assumption | exact Sto.inM (by assumption) | exact Own.2 (by assumption)))
local macro_rules | `(tactic| walk_at "fre") => `(tactic| first | assumption | (refine Mod.free ?_ (by assumption); walk_at "mod"))
local macro_rules | `(tactic| walk_at "ne") => `(tactic| first | (intro hh; cases hh; done) | (intro hh; exact absurd (List.mem_singleton.mp hh) (by assumption)) | (intro hh; exact absurd (List.mem_singleton.mp hh).symm (by assumption)))
local macro_rules | `(tactic| walk_at "own") => `(tactic| first | assumption | (refine Own.up ?_ (by assumption) (by walk_at "ne"); walk_at "own"))
local macro_rules | `(tactic| walk_at "sto") => `(tactic| first | assumption | (refine Sto.up ?_ (by assumption) (by walk_at "ne"); walk_at "sto"))
local macro_rules | `(tactic| walk_at "rp") => `(tactic| first | assumption | exact Rp.int | exact Rp.str | exact Rp.bl | exact Rp.non | (refine Rp.up (by assumption) ?_; walk_at "rp"))
local macro_rules | `(tactic| walk_at "rpl") => `(tactic| first | exact RpL.nil | (apply RpL.cons; (focus (walk_at "rp")); walk_at "rpl") | assumption | (refine RpL.up (by assumption) ?_; walk_at "rpl"))
local macro_rules | `(tactic| walk_at "sqt") => `(tactic| first | assumption | (refine Mod.seqT (by assumption) ?_; walk_at "sqt"))
local macro_rules | `(tactic| walk_at "side") => `(tactic| first | assumption | exact Or.inr (by constructor <;> decide) | exact Or.inl (by constructor <;> decide) | exact ⟨by decide, by decide⟩ | exact ⟨by decide, by decide, by decide⟩ | decide | omega)
local macro_rules | `(tactic| walk_at "nat") => `(tactic| first | exact sz (by decide) | exact szl (by decide) | (apply sz; simp; done) | (apply szl; simp; done))
local macro_rules | `(tactic| walk_at "str1") => `(tactic| first
  | with_reducible refine i_nil ?_
  | with_reducible refine i_cons ?_
  | with_reducible refine i_c ?_
  | with_reducible refine i_op ?_
  | with_reducible refine i_un ?_
  | with_reducible refine i_test ?_
  | with_reducible refine i_b ?_
  | with_reducible refine i_and ?_
  | with_reducible refine i_or ?_
  | with_reducible refine i_not ?_
  | with_reducible refine i_andV ?_
  | with_reducible refine i_orV ?_
  | with_reducible refine i_notV ?_
  | with_reducible refine i_if ?_
  | with_reducible refine i_seq ?_
  | with_reducible refine i_next ?_
  | with_reducible refine i_drop ?_
  | with_reducible refine i_ret ?_
  | with_reducible refine i_retN ?_
  | with_reducible refine i_ifS ?_
  | with_reducible refine i_asg ?_
  | with_reducible refine i_name ?_
  | with_reducible refine i_sub ?_
  | with_reducible refine i_cb ?_
  | with_reducible refine i_call ?_
  | with_reducible refine i_tup ?_
  | with_reducible refine i_lst ?_
  | with_reducible refine i_bm ?_
  | with_reducible refine i_bm0 ?_
  | with_reducible refine i_m1 ?_
  | with_reducible refine i_m0 ?_
  | with_reducible refine i_sl ?_
  | with_reducible refine i_fmt ?_
  | with_reducible refine i_js ?_
  | with_reducible refine i_js0 ?_
  | with_reducible refine i_callT ?_
  | with_reducible refine i_dnotin ?_
  | with_reducible refine i_din ?_
  | with_reducible refine i_dget ?_
  | with_reducible refine i_dput ?_
  | with_reducible refine i_noPart ?_
  | with_reducible refine i_part ?_
  | with_reducible refine i_chain ?_)
local macro_rules | `(tactic| walk_at "go1") => `(tactic| first
  | ((with_reducible refine g_var ?_); refine i_var (by exact rfl) ?_)
  | walk_at "str1"
  | with_reducible refine ex_bl ?_
  | with_reducible refine ex_bl2 ?_
  | with_reducible refine ex_int ?_
  | with_reducible refine ex_str ?_
  | with_reducible refine ex_ints ?_
  | with_reducible refine i_lc ?_
  | with_reducible refine i_for ?_
  | with_reducible refine i_yes ?_
  | with_reducible refine i_rng1 ?_
  | with_reducible refine i_rng2 ?_
  | with_reducible refine ex_str2 ?_
  | with_reducible refine ex_ref ?_
  | with_reducible refine i_lt ?_
  | with_reducible refine i_gt ?_
  | with_reducible refine i_le ?_
  | with_reducible refine i_ge ?_
  | with_reducible refine i_addI ?_
  | ((with_reducible refine i_addS ?_ ?_); (focus (walk_at "len")))
  | with_reducible refine i_I0 ?_
  | ((with_reducible refine g_I ?_); refine i_I (by walk_at "side") ?_)
  | with_reducible refine i_U ?_
  | ((with_reducible refine i_mulI ?_ ?_); (walk_at "side"))
  | with_reducible refine i_int ?_
  | with_reducible refine i_intB ?_
  | ((with_reducible refine g_isi ?_); first | refine isi_t (by walk_at "rp") (by decide) (by first | rfl | assumption) ?_ | refine isi_f (by walk_at "rp") (by decide) (by first | rfl | assumption) ?_ | refine isi_D (by walk_at "rp") (by decide) ?_)
  | with_reducible refine inSg1 ?_
  | with_reducible refine inSg0 ?_
  | with_reducible refine i_gnil ?_
  | with_reducible refine i_gcons ?_
  | ((with_reducible refine g_gtup ?_); refine i_gtup (by walk_at "sqt") (by exact rfl) ?_)
  | with_reducible refine i_isNI ?_
  | with_reducible refine i_notNI ?_
  | with_reducible refine i_isNS ?_
  | with_reducible refine i_notNS ?_
  | with_reducible refine i_isNB ?_
  | with_reducible refine i_notNB ?_
  | with_reducible refine i_isNR ?_
  | with_reducible refine i_notNR ?_
  | with_reducible refine i_isN0 ?_
  | with_reducible refine i_notN0 ?_
  | with_reducible refine i_isN ?_
  | with_reducible refine i_notN ?_
  | with_reducible refine eqI ?_
  | with_reducible refine eqS ?_
  | with_reducible refine neI ?_
  | with_reducible refine neS ?_
  | with_reducible refine eqB ?_
  | with_reducible refine neB ?_
  | with_reducible refine iteR ?_
  | with_reducible refine iteNR ?_
  | with_reducible refine iteT ?_
  | with_reducible refine iteF ?_
  | with_reducible refine iteNT ?_
  | with_reducible refine iteNF ?_
  | ((with_reducible refine g_ix ?_); first | refine ixO (by walk_at "own") (by exact rfl) ?_ | refine ixT (by walk_at "sqt") (by exact rfl) ?_)
  | ((with_reducible refine g_setL ?_); refine setO (by walk_at "own") (by exact rfl) ?_; intro WW mm oo; try simp only [Int.reduceToNat, List.set_cons_succ, List.set_cons_zero] at oo)
  | ((with_reducible refine g_len ?_); first | refine lenRL (by walk_at "rp") ?_ | refine lenRT (by walk_at "rp") ?_ | refine lenO (by walk_at "own") ?_))
local macro_rules | `(tactic| walk_at "go") => `(tactic| repeat walk_at "go1")
abbrev nn_law_load : List Str := ["store", "cell"]
theorem sc_law_load : FnScope nn_law_load ["store"] (defScope s_law_load) := ⟨rfl, rfl, rfl, by decide +kernel, rfl, by decide +kernel, by decide +kernel⟩
theorem can_law_load {Z : Env} (B : Std Z) (Df : DefAt Z "_law_load" s_law_load []) : Can Z CX0 (1) "_law_load" ["store"] [] (spLoad Z.K) := by
  refine can_of Df sc_law_load (fun vs H Q E h => ?_) (fun _ _ _ _ _ _ us hl => match us, hl with | [_], _ => rfl) (fun f cdv A outer s H vs Q E hr h => ⟨_, PSs.nox ((pss_cons (ps_asg pe_int (pg_sub (pv 0) pe_int set_list)) (pss_one (ps_if (pt_cmpR o_lt (pe_ix (k_ix Z.K) (pv 0) pe_int (fun _ _ => rfl)) (pe_callB (k_len Z.K) (by rfl) B.len (by decide +kernel) (pa_cons (pe_ix (k_ix Z.K) (pv 0) pe_int (fun _ _ => rfl)) pa_nil)) (nomark _)) (pss_cons (ps_set (i := 1) sc_law_load.nd rfl (Or.inl rfl) (pe_ix (k_ix Z.K) (pe_ix (k_ix Z.K) (pv 0) pe_int (fun _ _ => rfl)) (pe_ix (k_ix Z.K) (pv 0) pe_int (fun _ _ => rfl)) (fun _ _ => rfl))) (pss_cons (ps_asg (pe_op o_add (pe_ix (k_ix Z.K) (pv 0) pe_int (fun _ _ => rfl)) pe_int) (pg_sub (pv 0) pe_int set_list)) (pss_cons (ps_asg (pe_op o_mod (pe_callTy c_int (by rfl) B.int (by decide +kernel) (pa_cons (pe_op o_add (pe_op o_add (pe_op o_mulU (pe_ix (k_ix Z.K) (pv 0) pe_int (fun _ _ => rfl)) pe_int) (pe_op o_mulU (pv 1) pe_int)) pe_int) pa_nil)) pe_int) (pg_sub (pv 0) pe_int set_list)) (pss_cons (ps_asg pe_int (pg_sub (pv 0) pe_int set_list)) (pss_one (ps_if (PW.pt (pw_or (pt_cmpR o_ge (pv 1) (pe_op o_pow pe_int pe_int) (nomark _)) (pw_or1 (pt_cmpR o_le (pv 1) (pe_op o_sub pe_int (pe_op o_pow pe_int pe_int)) (nomark _))))) (pss_cons (ps_asg (pe_callB call_abs (by rfl) B.abs (by decide +kernel) (pa_cons (pv 1) pa_nil)) (pg_sub (pv 0) pe_int set_list)) (pss_one (ps_asg pe_int (pg_sub (pv 0) pe_int set_list)))) pss_nil)))))) pss_nil)))), ?_⟩)
  · obtain ⟨W, c, st, rfl, rfl, _⟩ := h
    rfl
  · obtain ⟨W, c, st, rfl, rfl, ⟨ns, i, b, sd, fu, n, o, hi, hc⟩, k⟩ := h
    walk_at "go"
    refine iteD (fun hlt => ?_) (fun _ => ?_)
    · walk_at "go"
      obtain ⟨z, hz⟩ : ∃ z, ns[i.toNat]? = some z := ⟨_, List.getElem?_eq_getElem (by rw [List.length_map] at hlt; omega)⟩
      refine ixRL (by walk_at "rp") hi (d := .int z) (by rw [List.getElem?_map, hz]; rfl) fun v hv => ?_
      cases hv
      walk_at "go"
      refine iteD (fun _ => ?_) (fun _ => ?_)
      · walk_at "go"
        exact k _ (by walk_at "mod") ⟨_, _, _, _, _, _, by assumption, by omega, by walk_at "rp"⟩
      · walk_at "go"
        refine iteD (fun _ => ?_) (fun _ => ?_)
        · walk_at "go"
          exact k _ (by walk_at "mod") ⟨_, _, _, _, _, _, by assumption, by omega, by walk_at "rp"⟩
        · walk_at "go"
          exact k _ (by walk_at "mod") ⟨_, _, _, _, _, _, by assumption, by omega, by walk_at "rp"⟩
    · walk_at "go"
      exact k _ (by walk_at "mod") ⟨_, _, _, _, _, _, by assumption, hi, by walk_at "rp"⟩

abbrev nn_law_take : List Str := ["store", "many", "rest", "mixed"]
theorem sc_law_take : FnScope nn_law_take ["store", "many"] (defScope s_law_take) := ⟨rfl, rfl, rfl, by decide +kernel, rfl, by decide +kernel, by decide +kernel⟩
theorem can_law_take {Z : Env} (B : Std Z) (Df : DefAt Z "_law_take" s_law_take []) (c__law_load : Can Z CX0 1 "_law_load" ["store"] [] (spLoad Z.K)) : Can Z CX0 (2) "_law_take" ["store", "many"] [] (spTake Z.K) := by
  refine can_of Df sc_law_take (fun vs H Q E h => ?_) (fun _ _ _ _ _ _ us hl => match us, hl with | [_, _], _ => rfl) (fun f cdv A outer s H vs Q E hr h => ⟨_, PSs.nox ((pss_cons (ps_if (pt_cmpR o_lt (pv 1) pe_int (nomark _)) (pss_one (ps_ret pe_int)) pss_nil) (Evl.pss_cut (ps_if (PW.pt (pw_and (pt_cmpR o_lt (pe_ix (k_ix Z.K) (pv 0) pe_int (fun _ _ => rfl)) pe_int (nomark _)) (pw_and1 (pt_cmpR o_lt (pe_ix (k_ix Z.K) (pv 0) pe_int (fun _ _ => rfl)) pe_int (nomark _))))) (pss_one (ps_expr (pcall c__law_load hr (pa_cons (pv 0) pa_nil) pass0))) pss_nil) (pss_cons (ps_if (pt_cmpR o_gt (pe_ix (k_ix Z.K) (pv 0) pe_int (fun _ _ => rfl)) pe_int (nomark _)) (pss_cons (ps_set (i := 2) sc_law_take.nd rfl (Or.inl rfl) (pe_ix (k_ix Z.K) (pv 0) pe_int (fun _ _ => rfl))) (pss_cons (ps_asg (pe_op o_fdiv (pv 2) (pv 1)) (pg_sub (pv 0) pe_int set_list)) (pss_one (ps_ret (pe_op o_mod (pe_callTy c_int (by rfl) B.int (by decide +kernel) (pa_cons (pv 2) pa_nil)) (pv 1)))))) pss_nil) (pss_cons (ps_asg (pe_op o_sub (pe_ix (k_ix Z.K) (pv 0) pe_int (fun _ _ => rfl)) pe_int) (pg_sub (pv 0) pe_int set_list)) (pss_cons (ps_asg (pe_op o_add (pe_ix (k_ix Z.K) (pv 0) pe_int (fun _ _ => rfl)) pe_int) (pg_sub (pv 0) pe_int set_list)) (pss_cons (ps_set (i := 3) sc_law_take.nd rfl (Or.inl rfl) (pe_op o_add (pe_op o_add (pe_op o_mulU (pe_ix (k_ix Z.K) (pv 0) pe_int (fun _ _ => rfl)) pe_int) (pe_op o_mulU (pe_ix (k_ix Z.K) (pv 0) pe_int (fun _ _ => rfl)) pe_int)) pe_int)) (pss_cons (ps_asg (pe_op o_mod (pe_callTy c_int (by rfl) B.int (by decide +kernel) (pa_cons (pv 3) pa_nil)) pe_int) (pg_sub (pv 0) pe_int set_list)) (pss_cons (ps_set (i := 3) sc_law_take.nd rfl (Or.inl rfl) (pe_op o_add (pe_op o_add (pe_op o_mulU (pe_op o_fdiv (pe_ix (k_ix Z.K) (pv 0) pe_int (fun _ _ => rfl)) pe_int) pe_int) (pe_op o_mulU (pe_ix (k_ix Z.K) (pv 0) pe_int (fun _ _ => rfl)) pe_int)) (pe_ix (k_ix Z.K) (pv 0) pe_int (fun _ _ => rfl)))) (pss_cons (ps_set (i := 3) sc_law_take.nd rfl (Or.inl rfl) (pe_op o_mod (pe_callTy c_int (by rfl) B.int (by decide +kernel) (pa_cons (pv 3) pa_nil)) pe_int)) (pss_one (ps_ret (pe_op o_mod (pe_callTy c_int (by rfl) B.int (by decide +kernel) (pa_cons (pv 3) pa_nil)) (pv 1)))))))))))))), ?_⟩)
  · obtain ⟨W, c, st, m, rfl, rfl, _⟩ := h
    rfl
  · obtain ⟨W, c, st, m, rfl, rfl, S, hm, k⟩ := h
    obtain ⟨ns, i, b, sd, fu, n, o, hi, hc⟩ := id S
    walk_at "go"
    refine iteD (fun h2 => ?_) (fun h2 => ?_)
    · walk_at "go"
      exact k _ _ (by walk_at "mod") S (by omega) (by omega)
    · walk_at "go"
      refine ⟨hide fun σ' H' => ∃ W1, W1.H = H' ∧ σ' = [some (.ref st), some (.int m), none, none] ∧ Mod [st] W W1 ∧ Sto Z.K c st W1, ?_, ?_⟩
      · walk_at "go"
        refine iteD (fun _ => ?_) (fun _ => ?_)
        · walk_at "go"
          refine iteD (fun _ => ?_) (fun _ => ?_)
          · walk_at "go"
            refine use_load S fun W1 m1 s1 => ?_
            walk_at "go"
            exact ⟨W1, rfl, rfl, m1, s1⟩
          · walk_at "go"
            exact ⟨W, rfl, rfl, by walk_at "mod", S⟩
        · walk_at "go"
          exact ⟨W, rfl, rfl, by walk_at "mod", S⟩
      · clear o hc hi
        rintro _ _ ⟨W1, rfl, rfl, m1, s1⟩
        obtain ⟨ns, i, b, sd, fu, n, o, hi, hc⟩ := id s1
        walk_at "go"
        refine iteD (fun hb => ?_) (fun hb => ?_)
        · walk_at "go"
          refine i_I ⟨by omega, by omega⟩ ?_
          walk_at "go"
          have e := Int.emod_nonneg b (show m ≠ 0 by omega)
          have e2 := Int.emod_lt_of_pos b (show 0 < m by omega)
          have e3 : b.fmod m = b % m := Int.fmod_eq_emod_of_nonneg b (by omega)
          exact k _ _ (by walk_at "mod") ⟨_, _, _, _, _, _, by assumption, hi, by walk_at "rp"⟩ (by show 0 ≤ b.fmod m; omega) (by show b.fmod m < m ∨ b.fmod m = 0; omega)
        · walk_at "go"
          have e := fun b : Int => Int.emod_nonneg b (show m ≠ 0 by omega)
          have e2 := fun b : Int => Int.emod_lt_of_pos b (show 0 < m by omega)
          have e3 : ∀ b : Int, b.fmod m = b % m := fun b => Int.fmod_eq_emod_of_nonneg b (by omega)
          have f0 : ∀ b : Int, 0 ≤ b.fmod m := fun b => by rw [e3]; exact e b
          have f1 : ∀ b : Int, b.fmod m < m := fun b => by rw [e3]; exact e2 b
          exact k _ _ (by walk_at "mod") ⟨_, _, _, _, _, _, by assumption, hi, by walk_at "rp"⟩ (f0 _) (Or.inl (f1 _))

abbrev nn_law_store : List Str := ["script", "cell"]
theorem sc_law_store : FnScope nn_law_store ["script"] (defScope s_law_store) := ⟨rfl, rfl, rfl, by decide +kernel, rfl, by decide +kernel, by decide +kernel⟩
theorem can_law_store {Z : Env} (B : Std Z) (Df : DefAt Z "_law_store" s_law_store []) : Can Z CX0 (1) "_law_store" ["script"] [] (spStore Z.K) := by
  refine can_of Df sc_law_store (fun vs H Q E h => ?_) (fun _ _ _ _ _ _ us hl => match us, hl with | [_], _ => rfl) (fun f cdv A outer s H vs Q E hr h => ⟨_, PSs.nox ((pss_one (ps_ret (pe_lst (pa_cons (pe_lc (own := [("cell", 1)]) (g := gName 1) (tt := tYes) (by rfl) sc_law_store.nd (k_pi Z.K (pe_slice (k_sl Z.K) (pv 0) po_none (po_some pe_int))) (blkOk_by (own := [("cell", 1)]) (N := nn_law_store) (sc := defScope s_law_store) (by decide +kernel)) (fun _ _ _ _ _ => (pg_name (i := 1) sc_law_store.nd rfl (Or.inl rfl))) (fun _ _ _ _ _ => pts_nil) (fun _ _ _ _ _ => (pe_callTy c_int (by rfl) B.int (by decide +kernel) (pa_cons (pv 1) pa_nil)))) (pa_cons pe_int (pa_cons pe_int (pa_cons pe_int (pa_cons pe_int (pa_cons pe_int pa_nil)))))))))), ?_⟩)
  · obtain ⟨W, a, ns, rfl, rfl, _⟩ := h
    rfl
  · obtain ⟨W, a, ns, rfl, rfl, hs, hl, k⟩ := h
    walk_at "go"
    refine any_l ?_
    walk_at "go"
    refine slL hs (fun b W1 m1 n1 ⟨ms, q1, l1⟩ => ?_)
    walk_at "go"
    refine ⟨⟨_, .inl (.inl q1)⟩, ?_⟩
    intro p hp
    refine lcL (X := []) hp (fun _ h => nomatch h) (fun i W2 xs => xs = (ms.take i).map V.int) (fun _ => rfl) (fun W2 m2 => .inl (.inl (m2.keep _ _ (by simp) q1))) (fun _ _ _ => rfl) ?_ ?_
    · rintro i z W2 xs ez m2 o2 hl2 rfl
      rw [List.getElem?_map] at ez
      obtain ⟨y, ey, rfl⟩ := Option.map_eq_some_iff.mp ez
      walk_at "go"
      refine lc_give hp (by have := (List.getElem?_eq_some_iff.mp ey).1; omega) m2 o2 hl2 fun W4 m4 o4 => ?_
      rw [List.take_add_one, ey, List.map_append]
      rfl
    · rintro W2 xs m2 o2 hl2 rfl
      rw [List.length_map, List.take_length] at o2
      refine drop_own (K := Z.K) (ds := ms.map D.int) (m1.tr0 m2) (m1.free hp) o2 (RpL.map (fun _ => .int) ms) fun W3 m3 _ _ q3 => ?_
      walk_at "go"
      refine ⟨by walk_at "nat", mk_own fun st W4 m4 n4 o4 => ?_⟩
      exact k _ st W4 (m3.tr0 m4) (m3.free n4) ⟨_, _, _, _, _, _, o4, by decide, q3.up m4⟩


end Q
namespace U
open PySem PySem.Spec PyProof.Rows L2 Q TL
abbrev errC : List Str := ["BadMachine", "NotThere"]
abbrev nn_law_number : List Str := ["store", "low", "high", "way"]
theorem sc_law_number : FnScope nn_law_number ["store", "low", "high"] (defScope s_law_number) := ⟨rfl, rfl, rfl, by decide +kernel, rfl, by decide +kernel, by decide +kernel⟩
def b_law_number (E : Er → Prop) : Ps := (mSeq (mIfS (mT (mOpD mLe (mVar 2) (mVar 1))) (mRetV 1) mNilS) (mSeq (mSet 3 (mCall 1 m_law_take (fun er _ => E er) (mCons (mC (.int 9)) mNil))) (mSeq (mIfS (mT (mOpD (mEq false) (mVar 3) (mC (.int 0)))) (mRetV 1) mNilS) (mSeq (mIfS (mT (mOpD (mEq false) (mVar 3) (mC (.int 1)))) (mRetV 2) mNilS) (mSeq (mIfS (mT (mOpD (mEq false) (mVar 3) (mC (.int 2)))) (mRet (mOp mAdd (mVar 1) (mC (.int 1)))) mNilS) (mRet (mOp mAdd (mVar 1) (mD (mCall 1 m_law_take (fun er _ => E er) (mCons (mD (mOp mAdd (mOpD mSub (mVar 2) (mVar 1)) (mC (.int 1)))) mNil))))))))))
def m_law_number : Mf := fun ds Q E => b_law_number E { nx := fun _ => Q (.dat .non), rt := Q } (none :: startR 1 ds)
abbrev nn_law_some : List Str := ["store", "row", "most", "rest", "picked", "k"]
theorem sc_law_some : FnScope nn_law_some ["store", "row", "most"] (defScope s_law_some) := ⟨rfl, rfl, rfl, by decide +kernel, rfl, by decide +kernel, by decide +kernel⟩
def b_law_some (E : Er → Prop) : Ps := (mSeq (mSet 3 (mCS mList (mCons (mVar 1) mNil))) (mSeq (mSet 4 (mLst mNil)) (mSeq (mFor (mRng1 (mCons (mD (mCall 2 m_law_number (fun er _ => E er) (mCons (mC (.int 0)) (mCons (mKeep (mCB mMin (mCons (mVar 2) (mCons (mCB mLen (mCons (mVar 3) mNil)) mNil)))) mNil)))) mNil)) (bName 5) (mExpr (mApp 4 (mPopAt 3 (mD (mCall 1 m_law_take (fun er _ => E er) (mCons (mKeep (mCB mLen (mCons (mVar 3) mNil))) mNil))))))) (mRetV 4))))
def m_law_some : Mf := fun ds Q E => b_law_some E { nx := fun _ => Q (.dat .non), rt := Q } (none :: startR 3 ds)
abbrev nn_law_copy : List Str := ["thing", "part", "copied", "key"]
theorem sc_law_copy : FnScope nn_law_copy ["thing"] (defScope s_law_copy) := ⟨rfl, rfl, rfl, by decide +kernel, rfl, by decide +kernel, by decide +kernel⟩
def b_law_copy (r : Mf) (E : Er → Prop) : Ps := (mSeq (mIfS (mT (mIsi [] "list" (mVar 0))) (mRet (mLc (mIt (mVar 0)) (bName 1) mYes (mD (mCall 1 r (fun _ _ => False) (mCons (mVar 1) mNil))) [1])) mNilS) (mSeq (mIfS (mT (mIsi [] "tuple" (mVar 0))) (mRet (mV (mCB mTuple (mCons (mD (mLc (mIt (mVar 0)) (bName 1) mYes (mD (mCall 1 r (fun _ _ => False) (mCons (mVar 1) mNil))) [1])) mNil)))) mNilS) (mSeq (mIfS (mT (mIsi [] "dict" (mVar 0))) (mSeq (mSet 2 mDNew) (mSeq (mForD 0 (bName 3) (mDPut 2 (mD (mCall 1 r (fun _ _ => False) (mCons (mDGet (mVar 0) (mVar 3)) mNil))) (mVar 3))) (mRetV 2))) mNilS) (mRetV 0))))
def m_law_copy : Nat → Mf
  | 0 => fun _ _ _ => False
  | n + 1 => fun ds Q E => b_law_copy (m_law_copy n) E { nx := fun _ => Q (.dat .non), rt := Q } (startR 3 ds)
abbrev nn_law_integer : List Str := ["thing"]
theorem sc_law_integer : FnScope nn_law_integer ["thing"] (defScope s_law_integer) := ⟨rfl, rfl, rfl, by decide +kernel, rfl, by decide +kernel, by decide +kernel⟩
def b_law_integer (E : Er → Prop) : Ps := (mRet (mV (mAndV (mIsi [] "int" (mVar 0)) (mNotV (mIsi [] "bool" (mVar 0))))))
def m_law_integer : Mf := fun ds Q E => b_law_integer E { nx := fun _ => Q (.dat .non), rt := Q } (startR 0 ds)
abbrev nn_law_shuffled : List Str := ["store", "row", "rest", "picked", "k"]
theorem sc_law_shuffled : FnScope nn_law_shuffled ["store", "row"] (defScope s_law_shuffled) := ⟨rfl, rfl, rfl, by decide +kernel, rfl, by decide +kernel, by decide +kernel⟩
def b_law_shuffled (E : Er → Prop) : Ps := (mSeq (mSet 2 (mCS mList (mCons (mVar 1) mNil))) (mSeq (mIfS (mT (mOpD (mEq false) (mD (mCall 1 m_law_take (fun er _ => E er) (mCons (mC (.int 6)) mNil))) (mC (.int 0)))) (mRetV 2) mNilS) (mSeq (mSet 3 (mLst mNil)) (mSeq (mFor (mRng1 (mCons (mKeep (mCB mLen (mCons (mVar 2) mNil))) mNil)) (bName 4) (mExpr (mApp 3 (mPopAt 2 (mD (mCall 1 m_law_take (fun er _ => E er) (mCons (mKeep (mCB mLen (mCons (mVar 2) mNil))) mNil))))))) (mRetV 3)))))
def m_law_shuffled : Mf := fun ds Q E => b_law_shuffled E { nx := fun _ => Q (.dat .non), rt := Q } (none :: startR 3 ds)
abbrev nn_law_due : List Str := ["size", "rests", "steps", "own", "p"]
theorem sc_law_due : FnScope nn_law_due ["size", "rests", "steps"] (defScope s_law_due) := ⟨rfl, rfl, rfl, by decide +kernel, rfl, by decide +kernel, by decide +kernel⟩
def b_law_due (E : Er → Prop) : Ps := (mSeq (mSet 3 (mLc (mRng1 (mCons (mVar 0) mNil)) (bName 4) (mT (mOpD (mIn false) (mVar 4) (mVar 1))) (mVar 4) [4])) (mRet (mV (mTup (mCons (mVar 0) (mCons (mCB mTuple (mCons (mVar 3) mNil)) (mCons (mCB mTuple (mCons (mD (mCS mSorted (mCons (mVar 2) mNil))) mNil)) (mCons (mCB mLen (mCons (mVar 2) mNil)) (mCons (mD (mCS mSorted (mCons (mVar 2) mNil))) mNil)))))))))
def m_law_due : Mf := fun ds Q E => b_law_due E { nx := fun _ => Q (.dat .non), rt := Q } (startR 2 ds)
abbrev nn_law_pick : List Str := ["store", "row"]
theorem sc_law_pick : FnScope nn_law_pick ["store", "row"] (defScope s_law_pick) := ⟨rfl, rfl, rfl, by decide +kernel, rfl, by decide +kernel, by decide +kernel⟩
def b_law_pick (E : Er → Prop) : Ps := (mRet (mV (mOpD mIx (mVar 1) (mD (mCall 1 m_law_take (fun er _ => E er) (mCons (mCB mLen (mCons (mVar 1) mNil)) mNil))))))
def m_law_pick : Mf := fun ds Q E => b_law_pick E { nx := fun _ => Q (.dat .non), rt := Q } (none :: startR 0 ds)
abbrev nn_law_odd_value : List Str := ["store", "size", "number"]
theorem sc_law_odd_value : FnScope nn_law_odd_value ["store", "size"] (defScope s_law_odd_value) := ⟨rfl, rfl, rfl, by decide +kernel, rfl, by decide +kernel, by decide +kernel⟩
def b_law_odd_value (E : Er → Prop) : Ps := (mSeq (mSet 2 (mCall 1 m_law_take (fun er _ => E er) (mCons (mC (.int 70)) mNil))) (mRet (mCall 1 m_law_pick (fun er _ => E er) (mCons (mD (mLst (mCons (mC .non) (mCons (mC (.bl true)) (mCons (mC (.bl false)) (mCons (mOpD mSub (mC (.int 0)) (mC (.int 1))) (mCons (mC (.int 0)) (mCons (mOpD mSub (mVar 1) (mC (.int 1))) (mCons (mVar 1) (mCons (mD (mOp mAdd (mVar 1) (mC (.int 1)))) (mCons (mVar 2) (mCons (mVar 2) (mCons (mOpD mSub (mC (.int 0)) (mVar 2)) (mCons (mOpD mPow (mC (.int 10)) (mC (.int 20))) (mCons (mOpD mSub (mC (.int 0)) (mOpD mPow (mC (.int 10)) (mC (.int 20)))) (mCons (mC (.str (Str.ofString ""))) (mCons (mC (.str (Str.ofString "0"))) (mCons (mCB mStrC (mCons (mVar 2) mNil)) (mCons (mC (.str (Str.ofString "a"))) (mCons (mD (mLst mNil)) (mCons (mTup mNil) (mCons (mD (mLst (mCons (mC (.int 0)) mNil))) (mCons (mTup (mCons (mC (.int 0)) mNil)) (mCons (mD (mDisp1 (mC (.str (Str.ofString "a"))) (mC (.int 1)))) mNil)))))))))))))))))))))))) mNil))))
def m_law_odd_value : Mf := fun ds Q E => b_law_odd_value E { nx := fun _ => Q (.dat .non), rt := Q } (none :: startR 1 ds)
abbrev nn_law_crooked : List Str := ["store", "size", "step", "parts", "at", "far", "wrong", "other", "base"]
theorem sc_law_crooked : FnScope nn_law_crooked ["store", "size", "step"] (defScope s_law_crooked) := ⟨rfl, rfl, rfl, by decide +kernel, rfl, by decide +kernel, by decide +kernel⟩
def b_law_crooked (E : Er → Prop) : Ps := (mSeq (mSet 3 (mCS mList (mCons (mVar 2) mNil))) (mSeq (mSet 4 (mCall 1 m_law_take (fun er _ => E er) (mCons (mC (.int 6)) mNil))) (mSeq (mIfS (mT (mOpD (mEq false) (mVar 4) (mC (.int 5)))) (mRet (mCall 1 m_law_pick (fun er _ => E er) (mCons (mD (mLst (mCons (mD (mSl (mVar 2) mNoP (mSoP (mC (.int 4))))) (mCons (mD (mOp mAdd (mVar 2) (mTup (mCons (mC (.int 0)) mNil)))) (mCons (mD (mCS mList (mCons (mVar 2) mNil))) (mCons (mD (mSl (mVar 2) (mSoP (mC (.int 1))) mNoP)) (mCons (mTup (mCons (mVar 2) mNil)) (mCons (mTup mNil) (mCons (mC .non) (mCons (mC (.str (Str.ofString "own"))) (mCons (mOpD mIx (mVar 2) (mC (.int 0))) mNil))))))))))) mNil))) mNilS) (mSeq (mIfS (mOr (mT (mOpD (mEq false) (mVar 4) (mC (.int 0)))) (mT (mOpD (mEq false) (mVar 4) (mC (.int 4))))) (mSeq (mSet 5 (mOp mAdd (mVar 1) (mD (mCall 1 m_law_take (fun er _ => E er) (mCons (mC (.int 60)) mNil))))) (mSeq (mSet 6 (mLst (mCons (mVar 1) (mCons (mOpD mSub (mC (.int 0)) (mC (.int 1))) (mCons (mVar 5) (mCons (mOpD mPow (mC (.int 10)) (mC (.int 20))) (mCons (mOpD mSub (mC (.int 0)) (mVar 5)) (mCons (mC .non) (mCons (mC (.bl true)) (mCons (mC (.bl false)) (mCons (mCB mStrC (mCons (mOpD mIx (mVar 2) (mVar 4)) mNil)) (mCons (mD (mLst (mCons (mC (.int 0)) mNil))) (mCons (mTup (mCons (mOpD mIx (mVar 2) (mVar 4)) mNil)) mNil))))))))))))) (mPut 3 (mD (mCall 1 m_law_pick (fun er _ => E er) (mCons (mVar 6) mNil))) (mVar 4)))) mNilS) (mSeq (mIfS (mT (mOpD (mEq false) (mVar 4) (mC (.int 1)))) (mSeq (mSet 7 (mV (mIf (mT (mOpD mGe (mOpD mIx (mVar 2) (mC (.int 2))) (mC (.int 0)))) (mC (.str (Str.ofString "own"))) (mC (.str (Str.ofString "send")))))) (mPut 3 (mD (mCall 1 m_law_pick (fun er _ => E er) (mCons (mD (mLst (mCons (mC (.str (Str.ofString ""))) (mCons (mC (.str (Str.ofString "Own"))) (mCons (mC (.str (Str.ofString "sends"))) (mCons (mC (.str (Str.ofString "take "))) (mCons (mC (.str (Str.ofString "give"))) (mCons (mC .non) (mCons (mC (.int 1)) (mCons (mD (mLst (mCons (mOpD mIx (mVar 2) (mC (.int 1))) mNil))) (mCons (mTup (mCons (mOpD mIx (mVar 2) (mC (.int 1))) mNil)) (mCons (mVar 7) mNil)))))))))))) mNil))) (mC (.int 1)))) mNilS) (mSeq (mIfS (mAnd (mT (mOpD (mEq false) (mVar 4) (mC (.int 2)))) (mT (mOpD (mEq false) (mOpD mIx (mVar 2) (mC (.int 1))) (mC (.str (Str.ofString "own")))))) (mPut 3 (mD (mCall 1 m_law_pick (fun er _ => E er) (mCons (mD (mLst (mCons (mC (.int 0)) (mCons (mC (.int 5)) (mCons (mOpD mSub (mC (.int 0)) (mC (.int 2))) (mCons (mC (.bl true)) (mCons (mC (.bl false)) (mCons (mC .non) (mCons (mC (.str (Str.ofString "-1"))) (mCons (mOpD mPow (mC (.int 10)) (mC (.int 20))) (mCons (mD (mLst (mCons (mOpD mSub (mC (.int 0)) (mC (.int 1))) mNil))) mNil))))))))))) mNil))) (mC (.int 2))) mNilS) (mSeq (mIfS (mAnd (mT (mOpD (mEq false) (mVar 4) (mC (.int 2)))) (mT (mOpD (mEq true) (mOpD mIx (mVar 2) (mC (.int 1))) (mC (.str (Str.ofString "own")))))) (mPut 3 (mD (mCall 1 m_law_pick (fun er _ => E er) (mCons (mD (mLst (mCons (mC (.int 6)) (mCons (mOpD mSub (mC (.int 0)) (mC (.int 1))) (mCons (mD (mOp mAdd (mC (.int 7)) (mD (mCall 1 m_law_take (fun er _ => E er) (mCons (mC (.int 99)) mNil))))) (mCons (mC .non) (mCons (mC (.bl true)) (mCons (mC (.bl false)) (mCons (mCB mStrC (mCons (mOpD mIx (mVar 2) (mC (.int 2))) mNil)) (mCons (mD (mLst (mCons (mOpD mIx (mVar 2) (mC (.int 2))) mNil))) mNil)))))))))) mNil))) (mC (.int 2))) mNilS) (mSeq (mIfS (mAnd (mT (mOpD (mEq false) (mVar 4) (mC (.int 3)))) (mT (mOpD (mEq false) (mOpD mIx (mVar 2) (mC (.int 1))) (mC (.str (Str.ofString "own")))))) (mPut 3 (mD (mCall 1 m_law_pick (fun er _ => E er) (mCons (mD (mLst (mCons (mC (.str (Str.ofString " "))) (mCons (mC (.str (Str.ofString "a"))) (mCons (mC (.str (Str.ofString "a.1"))) (mCons (mC .non) (mCons (mC (.int 0)) (mCons (mD (mLst (mCons (mC (.str (Str.ofString ""))) mNil))) (mCons (mC (.bl false)) mNil))))))))) mNil))) (mC (.int 3))) mNilS) (mSeq (mIfS (mAnd (mT (mOpD (mEq false) (mVar 4) (mC (.int 3)))) (mT (mOpD (mEq true) (mOpD mIx (mVar 2) (mC (.int 1))) (mC (.str (Str.ofString "own")))))) (mSeq (mSet 8 (mV (mOpD mIx (mVar 2) (mC (.int 3))))) (mPut 3 (mD (mCall 1 m_law_pick (fun er _ => E er) (mCons (mD (mLst (mCons (mC (.str (Str.ofString ""))) (mCons (mD (mOp mAdd (mVar 8) (mC (.str (Str.ofString "."))))) (mCons (mD (mOp mAdd (mVar 8) (mC (.str (Str.ofString "A"))))) (mCons (mD (mOp mAdd (mC (.str (Str.ofString " "))) (mVar 8))) (mCons (mD (mOp mAdd (mVar 8) (mC (.str (Str.ofString "\n"))))) (mCons (mD (mOp mAdd (mVar 8) (mC (.str (Str.ofString ".100"))))) (mCons (mC (.str (Str.ofString "b.00"))) (mCons (mC (.str (Str.ofString "b.01"))) (mCons (mC (.str (Str.ofString "b.-1"))) (mCons (mC (.str (Str.ofString ".1"))) (mCons (mC (.str (Str.ofString "1"))) (mCons (mC (.str (Str.ofString "Abc"))) (mCons (mC (.str (Str.ofString "abcdefghi"))) (mCons (mC (.str (Str.ofString "abcdefghi.1"))) (mCons (mC (.str (Str.ofString "a b"))) (mCons (mC (.str (Str.ofString "a_b"))) (mCons (mC .non) (mCons (mC (.int 0)) (mCons (mD (mLst (mCons (mVar 8) mNil))) (mCons (mTup (mCons (mVar 8) mNil)) mNil)))))))))))))))))))))) mNil))) (mC (.int 3)))) mNilS) (mRet (mV (mCB mTuple (mCons (mVar 3) mNil)))))))))))))
def m_law_crooked : Mf := fun ds Q E => b_law_crooked E { nx := fun _ => Q (.dat .non), rt := Q } (none :: startR 6 ds)
abbrev nn_law_trials : List Str := ["store", "machine", "bad", "size", "rests", "steps", "many", "k", "over", "trials", "at", "wrong", "put", "odd", "good"]
theorem sc_law_trials : FnScope nn_law_trials ["store", "machine"] (defScope s_law_trials) := ⟨rfl, rfl, rfl, by decide +kernel, rfl, by decide +kernel, by decide +kernel⟩
def b_law_trials (E : Er → Prop) : Ps := (mSeq (mSet 2 (mV (mTup (mCons (mC (.str (Str.ofString "refused"))) (mCons (mC (.str (Str.ofString "BadMachine"))) mNil))))) (mSeq (mSet 3 (mV (mOpD mIx (mVar 1) (mC (.int 0))))) (mSeq (mSet 4 (mV (mOpD mIx (mVar 1) (mC (.int 1))))) (mSeq (mSet 5 (mCall 1 m_law_shuffled (fun er _ => E er) (mCons (mOpD mIx (mVar 1) (mC (.int 2))) mNil))) (mSeq (mSet 6 (mLc (mRng1 (mCons (mC (.int 201)) mNil)) (bName 7) mYes (mTup (mCons (mOpD mMod (mCB mIntC (mCons (mVar 7) mNil)) (mC (.int 15))) (mCons (mC (.str (Str.ofString "send"))) (mCons (mOpD mFdiv (mVar 7) (mC (.int 100))) (mCons (mC (.str (Str.ofString "a"))) (mCons (mOpD mFdiv (mVar 7) (mC (.int 15))) mNil)))))) [7])) (mSeq (mSet 8 (mCall 1 m_law_pick (fun er _ => E er) (mCons (mD (mLst (mCons (mC (.int 201)) (mCons (mC (.int 200)) mNil)))) mNil))) (mSeq (mSet 9 (mLst (mCons (mD (mLst (mCons (mD (mLst (mCons (mC (.int 15)) (mCons (mD (mLst mNil)) (mCons (mD (mSl (mVar 6) mNoP (mSoP (mVar 8)))) mNil))))) (mCons (mD (mIfV (mT (mOpD (mEq false) (mVar 8) (mC (.int 201)))) (mV (mVar 2)) (mCall 3 m_law_due (fun er _ => E er) (mCons (mC (.int 15)) (mCons (mD (mLst mNil)) (mCons (mD (mSl (mVar 6) mNoP (mSoP (mC (.int 200))))) mNil)))))) mNil)))) mNil))) (mSeq (mIfS (mT (mOpD mGt (mCB mLen (mCons (mVar 5) mNil)) (mC (.int 0)))) (mSeq (mSet 10 (mCall 1 m_law_take (fun er _ => E er) (mCons (mCB mLen (mCons (mVar 5) mNil)) mNil))) (mSeq (mSet 11 (mCall 2 m_law_crooked (fun er _ => E er) (mCons (mVar 3) (mCons (mOpD mIx (mVar 5) (mVar 10)) mNil)))) (mSeq (mExpr (mApp 9 (mD (mLst (mCons (mD (mLst (mCons (mVar 3) (mCons (mD (mCS mList (mCons (mVar 4) mNil))) (mCons (mD (mOp mAdd (mD (mOp mAdd (mD (mSl (mVar 5) mNoP (mSoP (mVar 10)))) (mD (mLst (mCons (mVar 11) mNil))))) (mD (mSl (mVar 5) (mSoP (mD (mOp mAdd (mVar 10) (mC (.int 1))))) mNoP)))) mNil))))) (mCons (mVar 2) mNil)))))) (mSeq (mSet 12 (mCall 1 m_law_take (fun er _ => E er) (mCons (mD (mOp mAdd (mCB mLen (mCons (mVar 5) mNil)) (mC (.int 1)))) mNil))) (mExpr (mApp 9 (mD (mLst (mCons (mD (mLst (mCons (mVar 3) (mCons (mD (mCS mList (mCons (mVar 4) mNil))) (mCons (mD (mOp mAdd (mD (mOp mAdd (mD (mSl (mVar 5) mNoP (mSoP (mVar 12)))) (mD (mLst (mCons (mOpD mIx (mVar 5) (mVar 10)) mNil))))) (mD (mSl (mVar 5) (mSoP (mVar 12)) mNoP)))) mNil))))) (mCons (mVar 2) mNil)))))))))) mNilS) (mSeq (mSet 13 (mCall 1 m_law_odd_value (fun er _ => E er) (mCons (mC (.int 60)) mNil))) (mSeq (mSet 14 (mV (mAndV (mD (mCall 1 m_law_integer (fun er _ => E er) (mCons (mVar 13) mNil))) (mChain mLe mLe (mC (.int 1)) (mVar 13) (mC (.int 60)))))) (mSeq (mExpr (mApp 9 (mD (mLst (mCons (mD (mLst (mCons (mVar 13) mNil))) (mCons (mD (mIfV (mT (mVar 14)) (mCall 3 m_law_due (fun er _ => E er) (mCons (mVar 13) (mCons (mD (mLst mNil)) (mCons (mD (mLst mNil)) mNil)))) (mV (mVar 2)))) mNil)))))) (mSeq (mSet 13 (mCall 1 m_law_odd_value (fun er _ => E er) (mCons (mVar 3) mNil))) (mSeq (mSet 14 (mV (mAndV (mD (mCall 1 m_law_integer (fun er _ => E er) (mCons (mVar 13) mNil))) (mChain mLe mLt (mC (.int 0)) (mVar 13) (mVar 3))))) (mSeq (mSet 10 (mCall 1 m_law_take (fun er _ => E er) (mCons (mD (mOp mAdd (mCB mLen (mCons (mVar 4) mNil)) (mC (.int 1)))) mNil))) (mSeq (mSet 4 (mOp mAdd (mD (mOp mAdd (mD (mSl (mVar 4) mNoP (mSoP (mVar 10)))) (mD (mLst (mCons (mVar 13) mNil))))) (mD (mSl (mVar 4) (mSoP (mVar 10)) mNoP)))) (mSeq (mExpr (mApp 9 (mD (mLst (mCons (mD (mLst (mCons (mVar 3) (mCons (mVar 4) mNil)))) (mCons (mD (mIfV (mT (mVar 14)) (mCall 3 m_law_due (fun er _ => E er) (mCons (mVar 3) (mCons (mVar 4) (mCons (mD (mLst mNil)) mNil)))) (mV (mVar 2)))) mNil)))))) (mSeq (mExpr (mApp 9 (mD (mLst (mCons (mD (mLst (mCons (mVar 3) (mCons (mD (mCS mList (mCons (mVar 4) mNil))) (mCons (mD (mCS mList (mCons (mVar 5) mNil))) mNil))))) (mCons (mD (mIfV (mT (mVar 14)) (mCall 3 m_law_due (fun er _ => E er) (mCons (mVar 3) (mCons (mVar 4) (mCons (mVar 5) mNil)))) (mV (mVar 2)))) mNil)))))) (mRetV 9))))))))))))))))))
def m_law_trials : Mf := fun ds Q E => b_law_trials E { nx := fun _ => Q (.dat .non), rt := Q } (none :: startR 13 ds)
abbrev nn_Machine_len : List Str := ["self"]
theorem sc_Machine_len : FnScope nn_Machine_len ["self"] (defScope s_Machine_len) := ⟨rfl, rfl, rfl, by decide +kernel, rfl, by decide +kernel, by decide +kernel⟩
abbrev nn_Machine_iter : List Str := ["self"]
theorem sc_Machine_iter : FnScope nn_Machine_iter ["self"] (defScope s_Machine_iter) := ⟨rfl, rfl, rfl, by decide +kernel, rfl, by decide +kernel, by decide +kernel⟩
abbrev nn_law_shows : List Str := ["made"]
theorem sc_law_shows : FnScope nn_law_shows ["made"] (defScope s_law_shows) := ⟨rfl, rfl, rfl, by decide +kernel, rfl, by decide +kernel, by decide +kernel⟩
def b_law_shows (E : Er → Prop) : Ps := (mRet (mV (mTup (mCons (mFld ["Machine"] "size" (mVar 0)) (mCons (mFld ["Machine"] "rests" (mVar 0)) (mCons (mFld ["Machine"] "steps" (mVar 0)) (mCons (mCB (fLnO "Machine" "steps") (mCons (mVar 0) mNil)) (mCons (mD (mCS (fListO "Machine" "steps") (mCons (mVar 0) mNil))) mNil))))))))
def m_law_shows : Mf := fun ds Q E => b_law_shows E { nx := fun _ => Q (.dat .non), rt := Q } (startR 0 ds)
abbrev nn_law_handed : List Str := ["store", "row", "mixed"]
theorem sc_law_handed : FnScope nn_law_handed ["store", "row"] (defScope s_law_handed) := ⟨rfl, rfl, rfl, by decide +kernel, rfl, by decide +kernel, by decide +kernel⟩
def b_law_handed (E : Er → Prop) : Ps := (mSeq (mSet 2 (mCall 1 m_law_shuffled (fun er _ => E er) (mCons (mVar 1) mNil))) (mSeq (mIfS (mT (mOpD (mEq false) (mD (mCall 1 m_law_take (fun er _ => E er) (mCons (mC (.int 4)) mNil))) (mC (.int 0)))) (mRet (mV (mCB mTuple (mCons (mVar 2) mNil)))) mNilS) (mRetV 2)))
def m_law_handed : Mf := fun ds Q E => b_law_handed E { nx := fun _ => Q (.dat .non), rt := Q } (none :: startR 1 ds)
abbrev nn_law_same : List Str := ["due", "seen", "own", "key", "k"]
theorem sc_law_same : FnScope nn_law_same ["due", "seen"] (defScope s_law_same) := ⟨rfl, rfl, rfl, by decide +kernel, rfl, by decide +kernel, by decide +kernel⟩
def b_law_same (r : Mf) (E : Er → Prop) : Ps := (mSeq (mIfS (mOr (mT (mOpD (mIsN false) (mVar 0) (mC .non))) (mT (mIsi [] "bool" (mVar 0)))) (mRet (mV (mOrV (mAndV (mOpD (mIsN false) (mVar 0) (mC .non)) (mOpD (mIsN false) (mVar 1) (mC .non))) (mAndV (mIsi [] "bool" (mVar 0)) (mAndV (mIsi [] "bool" (mVar 1)) (mOpD (mEq false) (mVar 0) (mVar 1))))))) mNilS) (mSeq (mIfS (mT (mIsi [] "int" (mVar 0))) (mRet (mV (mAndV (mIsi [] "int" (mVar 1)) (mAndV (mNotV (mIsi [] "bool" (mVar 1))) (mOpD (mEq false) (mVar 0) (mVar 1)))))) mNilS) (mSeq (mIfS (mT (mIsi [] "str" (mVar 0))) (mRet (mV (mAndV (mIsi [] "str" (mVar 1)) (mOpD (mEq false) (mVar 0) (mVar 1))))) mNilS) (mSeq (mIfS (mT (mIsi [] "dict" (mVar 0))) (mSeq (mIfS (mOr (mNot (mT (mIsi [] "dict" (mVar 1)))) (mT (mOpD (mEq true) (mCB mLen (mCons (mVar 0) mNil)) (mCB mLen (mCons (mVar 1) mNil))))) (mRet (mV (mC (.bl false)))) mNilS) (mSeq (mSet 2 mDNew) (mSeq (mForD 0 (bName 3) (mDPut 2 (mVar 3) (mVar 3))) (mSeq (mForD 1 (bName 3) (mIfS (mKeepT (mOr (mT (mDIn true (mVar 3) (mVar 2))) (mOr (mNot (mT (mD (mCall 2 r (fun _ _ => False) (mCons (mDGet (mVar 2) (mVar 3)) (mCons (mVar 3) mNil)))))) (mNot (mT (mD (mCall 2 r (fun _ _ => False) (mCons (mDGet (mVar 0) (mVar 3)) (mCons (mDGet (mVar 1) (mVar 3)) mNil))))))))) (mRet (mV (mC (.bl false)))) mNilS)) (mRet (mV (mC (.bl true)))))))) mNilS) (mSeq (mIfS (mAnd (mT (mIsi [] "list" (mVar 0))) (mNot (mT (mIsi [] "list" (mVar 1))))) (mRet (mV (mC (.bl false)))) mNilS) (mSeq (mIfS (mAnd (mT (mIsi [] "tuple" (mVar 0))) (mNot (mT (mIsi [] "tuple" (mVar 1))))) (mRet (mV (mC (.bl false)))) mNilS) (mSeq (mIfS (mT (mOpD (mEq true) (mCB mLen (mCons (mVar 0) mNil)) (mCB mLen (mCons (mVar 1) mNil)))) (mRet (mV (mC (.bl false)))) mNilS) (mSeq (mFor (mRng1 (mCons (mCB mLen (mCons (mVar 0) mNil)) mNil)) (bName 4) (mIfS (mNot (mT (mD (mCall 2 r (fun er _ => E er) (mCons (mOpD mIx (mVar 0) (mVar 4)) (mCons (mOpD mIx (mVar 1) (mVar 4)) mNil)))))) (mRet (mV (mC (.bl false)))) mNilS)) (mRet (mV (mC (.bl true))))))))))))
def m_law_same : Nat → Mf
  | 0 => fun _ _ _ => False
  | n + 1 => fun ds Q E => b_law_same (m_law_same n) E { nx := fun _ => Q (.dat .non), rt := Q } (startR 3 ds)
abbrev nn_steps_by_state : List Str := ["size", "steps", "found", "p", "step", "row"]
theorem sc_steps_by_state : FnScope nn_steps_by_state ["size", "steps"] (defScope s_steps_by_state) := ⟨rfl, rfl, rfl, by decide +kernel, rfl, by decide +kernel, by decide +kernel⟩
def b_steps_by_state (E : Er → Prop) : Ps := (mSeq (mSet 2 (mLc2 (mRng1 (mCons (mVar 0) mNil)) (bName 3) (mLst mNil) [3])) (mSeq (mFor (mIt (mVar 1)) (bName 4) (mExpr (mApp2 2 (mOpD mIx (mVar 4) (mC (.int 0))) (mVar 4)))) (mRet (mV (mCB mTuple (mCons (mD (mLc (mIt (mVar 2)) (bName 5) mYes (mCB mTuple (mCons (mVar 5) mNil)) [5])) mNil))))))
def m_steps_by_state : Mf := fun ds Q E => b_steps_by_state E { nx := fun _ => Q (.dat .non), rt := Q } (startR 4 ds)
abbrev nn_is_whole : List Str := ["value", "low", "high"]
theorem sc_is_whole : FnScope nn_is_whole ["value", "low", "high"] (defScope s_is_whole) := ⟨rfl, rfl, rfl, by decide +kernel, rfl, by decide +kernel, by decide +kernel⟩
def b_is_whole (E : Er → Prop) : Ps := (mSeq (mIfS (mOr (mNot (mT (mIsi [] "int" (mVar 0)))) (mT (mIsi [] "bool" (mVar 0)))) (mRet (mV (mC (.bl false)))) mNilS) (mRet (mV (mChain mLe mLe (mVar 1) (mVar 0) (mVar 2)))))
def m_is_whole : Mf := fun ds Q E => b_is_whole E { nx := fun _ => Q (.dat .non), rt := Q } (startR 0 ds)
abbrev nn_good_name : List Str := ["text", "sign"]
theorem sc_good_name : FnScope nn_good_name ["text"] (defScope s_good_name) := ⟨rfl, rfl, rfl, by decide +kernel, rfl, by decide +kernel, by decide +kernel⟩
def b_good_name (E : Er → Prop) : Ps := (mSeq (mIfS (mNot (mT (mIsi [] "str" (mVar 0)))) (mRet (mV (mC (.bl false)))) mNilS) (mSeq (mIfS (mOr (mT (mOpD mLt (mCB mLen (mCons (mVar 0) mNil)) (mC (.int 1)))) (mT (mOpD mGt (mCB mLen (mCons (mVar 0) mNil)) (mC (.int 8))))) (mRet (mV (mC (.bl false)))) mNilS) (mRet (mV (mCB mAll (mCons (mD (mLc (mIt (mVar 0)) (bName 1) mYes (mOpD (mIn false) (mVar 1) (mC (.str (Str.ofString "abcdefghijklmnopqrstuvwxyz")))) [1])) mNil))))))
def m_good_name : Mf := fun ds Q E => b_good_name E { nx := fun _ => Q (.dat .non), rt := Q } (startR 1 ds)
abbrev nn_short_number : List Str := ["text", "sign"]
theorem sc_short_number : FnScope nn_short_number ["text"] (defScope s_short_number) := ⟨rfl, rfl, rfl, by decide +kernel, rfl, by decide +kernel, by decide +kernel⟩
def b_short_number (E : Er → Prop) : Ps := (mSeq (mIfS (mOr (mT (mOpD mLt (mCB mLen (mCons (mVar 0) mNil)) (mC (.int 1)))) (mT (mOpD mGt (mCB mLen (mCons (mVar 0) mNil)) (mC (.int 2))))) (mRet (mV (mC (.bl false)))) mNilS) (mSeq (mIfS (mNot (mT (mCB mAll (mCons (mD (mLc (mIt (mVar 0)) (bName 1) mYes (mOpD (mIn false) (mVar 1) (mC (.str (Str.ofString "0123456789")))) [1])) mNil)))) (mRet (mV (mC (.bl false)))) mNilS) (mRet (mV (mOrV (mOpD (mEq false) (mCB mLen (mCons (mVar 0) mNil)) (mC (.int 1))) (mOpD (mEq true) (mOpD mIx (mVar 0) (mC (.int 0))) (mC (.str (Str.ofString "0")))))))))
def m_short_number : Mf := fun ds Q E => b_short_number E { nx := fun _ => Q (.dat .non), rt := Q } (startR 1 ds)
abbrev nn_good_letter : List Str := ["text", "name", "dot", "rest"]
theorem sc_good_letter : FnScope nn_good_letter ["text"] (defScope s_good_letter) := ⟨rfl, rfl, rfl, by decide +kernel, rfl, by decide +kernel, by decide +kernel⟩
def b_good_letter (E : Er → Prop) : Ps := (mSeq (mIfS (mNot (mT (mIsi [] "str" (mVar 0)))) (mRet (mV (mC (.bl false)))) mNilS) (mSeq (mAsg (mD (mM1 fPart (mVar 0) (mC (.str (Str.ofString "."))))) (bTup 3 (bCons (bName 1) (bCons (bName 2) (bCons (bName 3) bNil))))) (mSeq (mIfS (mT (mOpD (mEq false) (mVar 2) (mC (.str (Str.ofString ""))))) (mRet (mCall 1 m_good_name (fun er _ => E er) (mCons (mVar 1) mNil))) mNilS) (mRet (mV (mAndV (mD (mCall 1 m_good_name (fun er _ => E er) (mCons (mVar 1) mNil))) (mD (mCall 1 m_short_number (fun er _ => E er) (mCons (mVar 3) mNil)))))))))
def m_good_letter : Mf := fun ds Q E => b_good_letter E { nx := fun _ => Q (.dat .non), rt := Q } (startR 3 ds)
abbrev nn_step_fits : List Str := ["step", "size", "p", "kind", "peer", "letter", "q"]
theorem sc_step_fits : FnScope nn_step_fits ["step", "size"] (defScope s_step_fits) := ⟨rfl, rfl, rfl, by decide +kernel, rfl, by decide +kernel, by decide +kernel⟩
def b_step_fits (E : Er → Prop) : Ps := (mSeq (mIfS (mOr (mNot (mT (mIsi [] "tuple" (mVar 0)))) (mT (mOpD (mEq true) (mCB mLen (mCons (mVar 0) mNil)) (mC (.int 5))))) (mRet (mV (mC (.bl false)))) mNilS) (mSeq (mAsg (mVar 0) (bTup 5 (bCons (bName 2) (bCons (bName 3) (bCons (bName 4) (bCons (bName 5) (bCons (bName 6) bNil))))))) (mSeq (mIfS (mOr (mNot (mT (mD (mCall 3 m_is_whole (fun er _ => E er) (mCons (mVar 2) (mCons (mC (.int 0)) (mCons (mOpD mSub (mVar 1) (mC (.int 1))) mNil))))))) (mNot (mT (mD (mCall 3 m_is_whole (fun er _ => E er) (mCons (mVar 6) (mCons (mC (.int 0)) (mCons (mOpD mSub (mVar 1) (mC (.int 1))) mNil)))))))) (mRet (mV (mC (.bl false)))) mNilS) (mSeq (mIfS (mOr (mNot (mT (mIsi [] "str" (mVar 3)))) (mNot (mT (mIsi [] "str" (mVar 5))))) (mRet (mV (mC (.bl false)))) mNilS) (mSeq (mIfS (mT (mOpD (mEq false) (mVar 3) (mC (.str (Str.ofString "own"))))) (mRet (mV (mAndV (mD (mCall 3 m_is_whole (fun er _ => E er) (mCons (mVar 4) (mCons (mNeg (mC (.int 1))) (mCons (mNeg (mC (.int 1))) mNil))))) (mOpD (mEq false) (mVar 5) (mC (.str (Str.ofString ""))))))) mNilS) (mSeq (mIfS (mOr (mT (mOpD (mEq false) (mVar 3) (mC (.str (Str.ofString "send"))))) (mT (mOpD (mEq false) (mVar 3) (mC (.str (Str.ofString "take")))))) (mRet (mV (mAndV (mD (mCall 3 m_is_whole (fun er _ => E er) (mCons (mVar 4) (mCons (mC (.int 0)) (mCons (mC (.int 5)) mNil))))) (mD (mCall 1 m_good_letter (fun er _ => E er) (mCons (mVar 5) mNil)))))) mNilS) (mRet (mV (mC (.bl false))))))))))
def m_step_fits : Mf := fun ds Q E => b_step_fits E { nx := fun _ => Q (.dat .non), rt := Q } (startR 5 ds)
abbrev nn_check_parts : List Str := ["size", "rests", "steps", "p", "step"]
theorem sc_check_parts : FnScope nn_check_parts ["size", "rests", "steps"] (defScope s_check_parts) := ⟨rfl, rfl, rfl, by decide +kernel, rfl, by decide +kernel, by decide +kernel⟩
def b_check_parts (E : Er → Prop) : Ps := (mSeq (mIfS (mNot (mT (mD (mCall 3 m_is_whole (fun er _ => E er) (mCons (mVar 0) (mCons (mC (.int 1)) (mCons (mC (.int 60)) mNil))))))) (mRaise "BadMachine" (fun er _ => E er)) mNilS) (mSeq (mIfS (mNot (mT (mCB mAll (mCons (mD (mLc (mIt (mVar 1)) (bName 3) mYes (mD (mCall 3 m_is_whole (fun _ _ => False) (mCons (mVar 3) (mCons (mC (.int 0)) (mCons (mOpD mSub (mVar 0) (mC (.int 1))) mNil))))) [3])) mNil)))) (mRaise "BadMachine" (fun er _ => E er)) mNilS) (mSeq (mIfS (mT (mOpD mGt (mCB mLen (mCons (mVar 2) mNil)) (mC (.int 200)))) (mRaise "BadMachine" (fun er _ => E er)) mNilS) (mSeq (mIfS (mNot (mT (mCB mAll (mCons (mD (mLc (mIt (mVar 2)) (bName 4) mYes (mD (mCall 2 m_step_fits (fun _ _ => False) (mCons (mVar 4) (mCons (mVar 0) mNil)))) [4])) mNil)))) (mRaise "BadMachine" (fun er _ => E er)) mNilS) (mIfS (mT (mOpD mLt (mLenSet (mVar 2)) (mCB mLen (mCons (mVar 2) mNil)))) (mRaise "BadMachine" (fun er _ => E er)) mNilS)))))
def m_check_parts : Mf := fun ds Q E => b_check_parts E { nx := fun _ => Q (.dat .non), rt := Q } (startR 2 ds)
abbrev nn_Machine_init : List Str := ["self", "size", "rests", "steps"]
theorem sc_Machine_init : FnScope nn_Machine_init ["self", "size", "rests", "steps"] (defScope s_Machine_init) := ⟨rfl, rfl, rfl, by decide +kernel, rfl, by decide +kernel, by decide +kernel⟩
def b_Machine_init (E : Er → Prop) : Ps := (mSeq (mExpr (mCall 3 m_check_parts (fun er _ => E er) (mCons (mVar 1) (mCons (mVar 2) (mCons (mVar 3) mNil))))) (mSeq (mSetF ["Machine"] 0 "size" (mVar 1)) (mSeq (mSetF ["Machine"] 0 "rests" (mCB mTuple (mCons (mD (mSortSet (mVar 2))) mNil))) (mSeq (mSetF ["Machine"] 0 "steps" (mCB mTuple (mCons (mD (mCS mSorted (mCons (mVar 3) mNil))) mNil))) (mSetF ["Machine"] 0 "outs" (mD (mCall 2 m_steps_by_state (fun er _ => E er) (mCons (mVar 1) (mCons (mFldO ["Machine"] 0 "steps") mNil)))))))))
def m_Machine_init : Mi := fun ds Q E => b_Machine_init E { nx := fun ρ => ∃ fs, ρ[0]? = some (some (.ownO "Machine" fs)) ∧ Q fs, rt := fun _ => False } (some (.ownO "Machine" []) :: startR 0 ds)
abbrev nn_law_error : List Str := ["e", "names", "flags", "own", "k"]
theorem sc_law_error : FnScope nn_law_error ["e"] (defScope s_law_error) := ⟨rfl, rfl, rfl, by decide +kernel, rfl, by decide +kernel, by decide +kernel⟩
def b_law_error (er : Er) : Ps := (mSeq (mSet 1 (mLst (mCons (mC (.str (Str.ofString "BadMachine"))) (mCons (mC (.str (Str.ofString "BadNet"))) (mCons (mC (.str (Str.ofString "BadStanding"))) (mCons (mC (.str (Str.ofString "BadWord"))) (mCons (mC (.str (Str.ofString "BadText"))) (mCons (mC (.str (Str.ofString "BadWish"))) (mCons (mC (.str (Str.ofString "BadPaper"))) (mCons (mC (.str (Str.ofString "Cannot"))) (mCons (mC (.str (Str.ofString "Loud"))) (mCons (mC (.str (Str.ofString "NotCalm"))) (mCons (mC (.str (Str.ofString "NotThere"))) (mCons (mC (.str (Str.ofString "NoJoin"))) (mCons (mC (.str (Str.ofString "TooMany"))) (mCons (mC (.str (Str.ofString "Reserved"))) (mCons (mC (.str (Str.ofString "Nothing"))) mNil))))))))))))))))) (mSeq (mSet 2 (mLst (mCons (mC (.bl (decide (Str.ofString "BadMachine" = er.nm)))) (mCons (mC (.bl (decide (Str.ofString "BadNet" = er.nm)))) (mCons (mC (.bl (decide (Str.ofString "BadStanding" = er.nm)))) (mCons (mC (.bl (decide (Str.ofString "BadWord" = er.nm)))) (mCons (mC (.bl (decide (Str.ofString "BadText" = er.nm)))) (mCons (mC (.bl (decide (Str.ofString "BadWish" = er.nm)))) (mCons (mC (.bl (decide (Str.ofString "BadPaper" = er.nm)))) (mCons (mC (.bl (decide (Str.ofString "Cannot" = er.nm)))) (mCons (mC (.bl (decide (Str.ofString "Loud" = er.nm)))) (mCons (mC (.bl (decide (Str.ofString "NotCalm" = er.nm)))) (mCons (mC (.bl (decide (Str.ofString "NotThere" = er.nm)))) (mCons (mC (.bl (decide (Str.ofString "NoJoin" = er.nm)))) (mCons (mC (.bl (decide (Str.ofString "TooMany" = er.nm)))) (mCons (mC (.bl (decide (Str.ofString "Reserved" = er.nm)))) (mCons (mC (.bl (decide (Str.ofString "Nothing" = er.nm)))) mNil))))))))))))))))) (mSeq (mFzS 2 (mFzS 1 (mSet 3 (mLc (mRng1 (mCons (mC (.int 15)) mNil)) (bName 4) (mT (mOpD mIx (mVar 2) (mVar 4))) (mOpD mIx (mVar 1) (mVar 4)) [4])))) (mSeq (mIfS (mOr (mT (mOpD (mEq true) (mCB mLen (mCons (mVar 3) mNil)) (mC (.int 1)))) (mOr (mNot (mT (mC (.bl true)))) (mNot (mT (mC (.bl true)))))) (mRet (mV (mTup (mCons (mC (.str (Str.ofString "refused"))) (mCons (mC (.str (Str.ofString "none"))) mNil))))) mNilS) (mRet (mV (mTup (mCons (mC (.str (Str.ofString "refused"))) (mCons (mOpD mIx (mVar 3) (mC (.int 0))) mNil)))))))))
def m_law_error : Me := fun er Q => (∃ nm, er = .plain nm ∧ nm ∈ errC) ∧ b_law_error er { nx := fun _ => Q .non, rt := fun r => Q r.d } (List.replicate 5 none)
abbrev nn_law_asked : List Str := ["parts", "copied", "told", "e"]
theorem sc_law_asked : FnScope nn_law_asked ["parts"] (defScope s_law_asked) := ⟨rfl, rfl, rfl, by decide +kernel, rfl, by decide +kernel, by decide +kernel⟩
def b_law_asked (E : Er → Prop) : Ps := (mSeq (mSet 1 (mCall 1 (m_law_copy 5) (fun er _ => E er) (mCons (mVar 0) mNil))) (mSeq (mTry errC (fun ExT => (mIfS (mT (mOpD (mEq false) (mCB mLen (mCons (mVar 0) mNil)) (mC (.int 1)))) (mSet 2 (mCall 1 m_law_shows ExT (mCons (mD (mNew 1 "Machine" (mDef m_Machine_init 2) ExT (mCons (mOpD mIx (mVar 0) (mC (.int 0))) mNil))) mNil))) (mIfS (mT (mOpD (mEq false) (mCB mLen (mCons (mVar 0) mNil)) (mC (.int 2)))) (mSet 2 (mCall 1 m_law_shows ExT (mCons (mD (mNew 2 "Machine" (mDef m_Machine_init 1) ExT (mCons (mOpD mIx (mVar 0) (mC (.int 0))) (mCons (mOpD mIx (mVar 0) (mC (.int 1))) mNil)))) mNil))) (mSet 2 (mCall 1 m_law_shows ExT (mCons (mD (mNew 3 "Machine" m_Machine_init ExT (mCons (mOpD mIx (mVar 0) (mC (.int 0))) (mCons (mOpD mIx (mVar 0) (mC (.int 1))) (mCons (mOpD mIx (mVar 0) (mC (.int 2))) mNil))))) mNil)))))) 3 (hSet 3 2 m_law_error)) (mSeq (mIfS (mNot (mT (mD (mCall 2 (m_law_same 5) (fun er _ => E er) (mCons (mVar 1) (mCons (mVar 0) mNil)))))) (mRet (mV (mTup (mCons (mC (.str (Str.ofString "changed"))) mNil)))) mNilS) (mRetV 2))))
def m_law_asked : Mf := fun ds Q E => b_law_asked E { nx := fun _ => Q (.dat .non), rt := Q } (startR 3 ds)
abbrev nn_law_rests : List Str := ["store", "size", "way", "p"]
theorem sc_law_rests : FnScope nn_law_rests ["store", "size"] (defScope s_law_rests) := ⟨rfl, rfl, rfl, by decide +kernel, rfl, by decide +kernel, by decide +kernel⟩
def b_law_rests (E : Er → Prop) : Ps := (mSeq (mSet 2 (mCall 1 m_law_take (fun er _ => E er) (mCons (mC (.int 4)) mNil))) (mSeq (mIfS (mT (mOpD (mEq false) (mVar 2) (mC (.int 0)))) (mRet (mLst mNil)) mNilS) (mRet (mFzV 2 (mLc (mRng1 (mCons (mVar 1) mNil)) (bName 3) (mOr (mT (mOpD (mEq false) (mVar 2) (mC (.int 1)))) (mT (mOpD (mEq false) (mD (mCall 1 m_law_take (fun _ _ => False) (mCons (mC (.int 2)) mNil))) (mC (.int 0))))) (mVar 3) [3])))))
def m_law_rests : Mf := fun ds Q E => b_law_rests E { nx := fun _ => Q (.dat .non), rt := Q } (none :: startR 2 ds)
abbrev nn_law_full_machine : List Str := ["store", "many", "peers", "pool", "size", "shift", "steps", "k", "p", "q"]
theorem sc_law_full_machine : FnScope nn_law_full_machine ["store", "many", "peers", "pool"] (defScope s_law_full_machine) := ⟨rfl, rfl, rfl, by decide +kernel, rfl, by decide +kernel, by decide +kernel⟩
def b_law_full_machine (E : Er → Prop) : Ps := (mSeq (mSet 4 (mCall 2 m_law_number (fun er _ => E er) (mCons (mC (.int 15)) (mCons (mC (.int 60)) mNil)))) (mSeq (mSet 5 (mCall 1 m_law_take (fun er _ => E er) (mCons (mVar 4) mNil))) (mSeq (mSet 6 (mLst mNil)) (mSeq (mFzS 4 (mFzS 5 (mFor (mRng1 (mCons (mVar 1) mNil)) (bName 7) (mSeq (mSet 8 (mV (mOpD mMod (mCB mIntC (mCons (mVar 7) mNil)) (mVar 4)))) (mSeq (mSet 9 (mV (mOpD mMod (mCB mIntC (mCons (mD (mOp mAdd (mOpD mFdiv (mVar 7) (mVar 4)) (mVar 5))) mNil)) (mVar 4)))) (mIfS (mT (mOpD (mEq false) (mD (mCall 1 m_law_take (fun er _ => E er) (mCons (mC (.int 4)) mNil))) (mC (.int 0)))) (mExpr (mApp 6 (mTup (mCons (mVar 8) (mCons (mC (.str (Str.ofString "own"))) (mCons (mNeg (mC (.int 1))) (mCons (mC (.str (Str.ofString ""))) (mCons (mVar 9) mNil)))))))) (mExpr (mApp 6 (mTup (mCons (mVar 8) (mCons (mD (mCall 1 m_law_pick (fun er _ => E er) (mCons (mD (mLst (mCons (mC (.str (Str.ofString "send"))) (mCons (mC (.str (Str.ofString "take"))) mNil)))) mNil))) (mCons (mD (mCall 1 m_law_pick (fun er _ => E er) (mCons (mVar 2) mNil))) (mCons (mD (mCall 1 m_law_pick (fun er _ => E er) (mCons (mVar 3) mNil))) (mCons (mVar 9) mNil)))))))))))))) (mRet (mV (mTup (mCons (mVar 4) (mCons (mD (mCall 1 m_law_rests (fun er _ => E er) (mCons (mVar 4) mNil))) (mCons (mD (mCS mSorted (mCons (mVar 6) mNil))) mNil))))))))))
def m_law_full_machine : Mf := fun ds Q E => b_law_full_machine E { nx := fun _ => Q (.dat .non), rt := Q } (none :: startR 6 ds)
abbrev nn_law_steps : List Str := ["store", "size", "peers", "pool", "many", "steps", "k", "p", "q", "way", "step"]
theorem sc_law_steps : FnScope nn_law_steps ["store", "size", "peers", "pool", "many"] (defScope s_law_steps) := ⟨rfl, rfl, rfl, by decide +kernel, rfl, by decide +kernel, by decide +kernel⟩
def b_law_steps (E : Er → Prop) : Ps := (mSeq (mSet 5 (mLst mNil)) (mSeq (mFor (mRng1 (mCons (mVar 4) mNil)) (bName 6) (mSeq (mSet 7 (mCall 1 m_law_take (fun er _ => E er) (mCons (mVar 1) mNil))) (mSeq (mSet 8 (mCall 1 m_law_take (fun er _ => E er) (mCons (mVar 1) mNil))) (mSeq (mSet 9 (mCall 1 m_law_take (fun er _ => E er) (mCons (mC (.int 5)) mNil))) (mSeq (mSet 10 (mV (mTup (mCons (mVar 7) (mCons (mC (.str (Str.ofString "own"))) (mCons (mNeg (mC (.int 1))) (mCons (mC (.str (Str.ofString ""))) (mCons (mVar 8) mNil)))))))) (mSeq (mIfS (mAnd (mT (mOpD mGt (mVar 9) (mC (.int 0)))) (mT (mOpD mGt (mCB mLen (mCons (mVar 2) mNil)) (mC (.int 0))))) (mSet 10 (mV (mTup (mCons (mVar 7) (mCons (mOpD mIx (mD (mLst (mCons (mC (.str (Str.ofString "send"))) (mCons (mC (.str (Str.ofString "take"))) mNil)))) (mOpD mMod (mCB mIntC (mCons (mVar 9) mNil)) (mC (.int 2)))) (mCons (mD (mCall 1 m_law_pick (fun er _ => E er) (mCons (mVar 2) mNil))) (mCons (mD (mCall 1 m_law_pick (fun er _ => E er) (mCons (mVar 3) mNil))) (mCons (mVar 8) mNil)))))))) mNilS) (mIfS (mKeepT (mT (mOpD (mIn true) (mVar 10) (mVar 5)))) (mExpr (mApp 5 (mVar 10))) mNilS))))))) (mRet (mCS mSorted (mCons (mVar 5) mNil)))))
def m_law_steps : Mf := fun ds Q E => b_law_steps E { nx := fun _ => Q (.dat .non), rt := Q } (none :: startR 6 ds)
abbrev nn_law_machine : List Str := ["store", "size", "peers", "pool", "rests"]
theorem sc_law_machine : FnScope nn_law_machine ["store", "size", "peers", "pool"] (defScope s_law_machine) := ⟨rfl, rfl, rfl, by decide +kernel, rfl, by decide +kernel, by decide +kernel⟩
def b_law_machine (E : Er → Prop) : Ps := (mSeq (mSet 4 (mCall 1 m_law_rests (fun er _ => E er) (mCons (mVar 1) mNil))) (mRet (mV (mTup (mCons (mVar 1) (mCons (mVar 4) (mCons (mD (mCall 4 m_law_steps (fun er _ => E er) (mCons (mVar 1) (mCons (mVar 2) (mCons (mVar 3) (mCons (mD (mCall 2 m_law_number (fun er _ => E er) (mCons (mC (.int 0)) (mCons (mD (mOp mAdd (mOpD mMul (mC (.int 2)) (mVar 1)) (mC (.int 2)))) mNil)))) mNil)))))) mNil)))))))
def m_law_machine : Mf := fun ds Q E => b_law_machine E { nx := fun _ => Q (.dat .non), rt := Q } (none :: startR 1 ds)
abbrev nn_law_spell : List Str := ["store", "size", "k"]
theorem sc_law_spell : FnScope nn_law_spell ["store", "size"] (defScope s_law_spell) := ⟨rfl, rfl, rfl, by decide +kernel, rfl, by decide +kernel, by decide +kernel⟩
def b_law_spell (E : Er → Prop) : Ps := (mRet (mM1 fJoin (mC (.str (Str.ofString ""))) (mD (mLc (mRng1 (mCons (mVar 1) mNil)) (bName 2) mYes (mOpD mIx (mC (.str (Str.ofString "abcdefghijklmnopqrstuvwxyz"))) (mD (mCall 1 m_law_take (fun _ _ => False) (mCons (mC (.int 26)) mNil)))) [2]))))
def m_law_spell : Mf := fun ds Q E => b_law_spell E { nx := fun _ => Q (.dat .non), rt := Q } (none :: startR 1 ds)
abbrev nn_law_alphabet : List Str := ["store", "many", "letters", "k", "letter"]
theorem sc_law_alphabet : FnScope nn_law_alphabet ["store", "many"] (defScope s_law_alphabet) := ⟨rfl, rfl, rfl, by decide +kernel, rfl, by decide +kernel, by decide +kernel⟩
def b_law_alphabet (E : Er → Prop) : Ps := (mSeq (mSet 2 (mLst mNil)) (mSeq (mFor (mRng1 (mCons (mD (mCall 2 m_law_number (fun er _ => E er) (mCons (mC (.int 1)) (mCons (mVar 1) mNil)))) mNil)) (bName 3) (mSeq (mSet 4 (mCall 1 m_law_pick (fun er _ => E er) (mCons (mD (mLst (mCons (mD (mCall 1 m_law_spell (fun er _ => E er) (mCons (mD (mCall 2 m_law_number (fun er _ => E er) (mCons (mC (.int 1)) (mCons (mC (.int 8)) mNil)))) mNil))) (mCons (mC (.str (Str.ofString "own"))) (mCons (mC (.str (Str.ofString "send"))) (mCons (mC (.str (Str.ofString "ok"))) (mCons (mC (.str (Str.ofString "b"))) mNil))))))) mNil))) (mSeq (mIfS (mT (mOpD (mEq false) (mD (mCall 1 m_law_take (fun er _ => E er) (mCons (mC (.int 2)) mNil))) (mC (.int 0)))) (mSet 4 (mOp mAdd (mD (mOp mAdd (mVar 4) (mC (.str (Str.ofString "."))))) (mCB mStrC (mCons (mD (mCall 2 m_law_number (fun er _ => E er) (mCons (mC (.int 0)) (mCons (mC (.int 99)) mNil)))) mNil)))) mNilS) (mIfS (mKeepT (mT (mOpD (mIn true) (mVar 4) (mVar 2)))) (mExpr (mApp 2 (mVar 4))) mNilS)))) (mRetV 2)))
def m_law_alphabet : Mf := fun ds Q E => b_law_alphabet E { nx := fun _ => Q (.dat .non), rt := Q } (none :: startR 3 ds)
abbrev nn_law_drawn : List Str := ["store", "peers", "pool", "way", "many"]
theorem sc_law_drawn : FnScope nn_law_drawn ["store"] (defScope s_law_drawn) := ⟨rfl, rfl, rfl, by decide +kernel, rfl, by decide +kernel, by decide +kernel⟩
def b_law_drawn (E : Er → Prop) : Ps := (mSeq (mSet 1 (mCall 2 m_law_some (fun er _ => E er) (mCons (mD (mLst (mCons (mC (.int 0)) (mCons (mC (.int 1)) (mCons (mC (.int 2)) (mCons (mC (.int 3)) (mCons (mC (.int 4)) (mCons (mC (.int 5)) mNil)))))))) (mCons (mC (.int 6)) mNil)))) (mSeq (mSet 2 (mCall 1 m_law_alphabet (fun er _ => E er) (mCons (mC (.int 4)) mNil))) (mSeq (mSet 3 (mCall 1 m_law_take (fun er _ => E er) (mCons (mC (.int 10)) mNil))) (mSeq (mIfS (mT (mOpD (mEq false) (mVar 3) (mC (.int 0)))) (mSeq (mSet 4 (mCall 1 m_law_pick (fun er _ => E er) (mCons (mD (mLst (mCons (mC (.int 200)) (mCons (mC (.int 200)) (mCons (mC (.int 199)) (mCons (mC (.int 198)) mNil)))))) mNil))) (mRet (mCall 3 m_law_full_machine (fun er _ => E er) (mCons (mVar 4) (mCons (mD (mOp mAdd (mVar 1) (mD (mLst (mCons (mD (mCall 1 m_law_take (fun er _ => E er) (mCons (mC (.int 6)) mNil))) mNil))))) (mCons (mVar 2) mNil)))))) mNilS) (mRet (mCall 3 m_law_machine (fun er _ => E er) (mCons (mD (mCall 2 m_law_number (fun er _ => E er) (mCons (mC (.int 1)) (mCons (mIf (mT (mOpD (mEq false) (mVar 3) (mC (.int 1)))) (mC (.int 60)) (mC (.int 5))) mNil)))) (mCons (mVar 1) (mCons (mVar 2) mNil)))))))))
def m_law_drawn : Mf := fun ds Q E => b_law_drawn E { nx := fun _ => Q (.dat .non), rt := Q } (none :: startR 4 ds)
abbrev nn_law : List Str := ["script", "store", "first", "second", "trials", "rests", "steps", "due", "kept", "made", "other", "trial"]
theorem sc_law : FnScope nn_law ["script"] (defScope s_law) := ⟨rfl, rfl, rfl, by decide +kernel, rfl, by decide +kernel, by decide +kernel⟩
def b_law (E : Er → Prop) : Ps := (mSeq (mSet 2 (mCall 0 m_law_drawn (fun er _ => E er) mNil)) (mSeq (mSet 3 (mCall 0 m_law_drawn (fun er _ => E er) mNil)) (mSeq (mSet 4 (mCall 1 m_law_trials (fun er _ => E er) (mCons (mVar 2) mNil))) (mSeq (mSet 5 (mCall 1 m_law_handed (fun er _ => E er) (mCons (mD (mOp mAdd (mOpD mIx (mVar 2) (mC (.int 1))) (mD (mCall 2 m_law_some (fun er _ => E er) (mCons (mOpD mIx (mVar 2) (mC (.int 1))) (mCons (mC (.int 3)) mNil)))))) mNil))) (mSeq (mSet 6 (mCall 1 m_law_handed (fun er _ => E er) (mCons (mOpD mIx (mVar 2) (mC (.int 2))) mNil))) (mSeq (mSet 7 (mCall 3 m_law_due (fun er _ => E er) (mCons (mOpD mIx (mVar 2) (mC (.int 0))) (mCons (mOpD mIx (mVar 2) (mC (.int 1))) (mCons (mOpD mIx (mVar 2) (mC (.int 2))) mNil))))) (mSeq (mSet 8 (mLst (mCons (mD (mKeepV (mCall 1 (m_law_copy 5) (fun er _ => E er) (mCons (mVar 5) mNil)))) (mCons (mD (mKeepV (mCall 1 (m_law_copy 5) (fun er _ => E er) (mCons (mVar 6) mNil)))) mNil)))) (mSeq (mSet 9 (mKeepV (mNew 3 "Machine" m_Machine_init (fun er _ => E er) (mCons (mOpD mIx (mVar 2) (mC (.int 0))) (mCons (mVar 5) (mCons (mVar 6) mNil)))))) (mSeq (mSet 10 (mNew 3 "Machine" m_Machine_init (fun er _ => E er) (mCons (mOpD mIx (mVar 3) (mC (.int 0))) (mCons (mD (mCS mList (mCons (mOpD mIx (mVar 3) (mC (.int 1))) mNil))) (mCons (mD (mCS mList (mCons (mOpD mIx (mVar 3) (mC (.int 2))) mNil))) mNil))))) (mSeq (mIfS (mKeepT (mOr (mNot (mT (mD (mCall 2 (m_law_same 5) (fun er _ => E er) (mCons (mVar 7) (mCons (mD (mCall 1 m_law_shows (fun er _ => E er) (mCons (mVar 9) mNil))) mNil)))))) (mNot (mT (mD (mCall 2 (m_law_same 5) (fun er _ => E er) (mCons (mVar 8) (mCons (mD (mLst (mCons (mVar 5) (mCons (mVar 6) mNil)))) mNil)))))))) (mRet (mV (mC (.bl false)))) mNilS) (mSeq (mFor (mIt (mVar 4)) (bName 11) (mIfS (mNot (mT (mD (mCall 2 (m_law_same 5) (fun er _ => E er) (mCons (mOpD mIx (mVar 11) (mC (.int 1))) (mCons (mD (mCall 1 m_law_asked (fun er _ => E er) (mCons (mOpD mIx (mVar 11) (mC (.int 0))) mNil))) mNil)))))) (mRet (mV (mC (.bl false)))) mNilS)) (mSeq (mIfS (mKeepT (mT (mIsi [] "list" (mVar 5)))) (mExpr (mV (mInsert 5 (mC (.int 0)) (mC (.int 0))))) mNilS) (mSeq (mIfS (mKeepT (mT (mIsi [] "list" (mVar 6)))) (mExpr (mV (mClear 6))) mNilS) (mSeq (mIfS (mNot (mT (mD (mCall 2 (m_law_same 5) (fun er _ => E er) (mCons (mD (mCall 3 m_law_due (fun er _ => E er) (mCons (mOpD mIx (mVar 3) (mC (.int 0))) (mCons (mOpD mIx (mVar 3) (mC (.int 1))) (mCons (mOpD mIx (mVar 3) (mC (.int 2))) mNil))))) (mCons (mD (mCall 1 m_law_shows (fun er _ => E er) (mCons (mVar 10) mNil))) mNil)))))) (mRet (mV (mC (.bl false)))) mNilS) (mRet (mCall 2 (m_law_same 5) (fun er _ => E er) (mCons (mVar 7) (mCons (mD (mCall 1 m_law_shows (fun er _ => E er) (mCons (mVar 9) mNil))) mNil))))))))))))))))))
def m_law_ok : Prop := b_law (fun _ => False) { nx := fun _ => False, rt := fun r => r.d = .bl true } (List.replicate 12 none)
theorem can_law_number {Z : Q.Env} (B : Std Z) (Df : DefAt Z "_law_number" s_law_number []) (c__law_take : Can Z (CXn Z) 2 "_law_take" ["store", "many"] [] (lFs Z.K 1 m_law_take)) : Can Z (CXn Z) 3 "_law_number" ["store", "low", "high"] [] (lFs Z.K 2 m_law_number) :=
  can_lFs Df sc_law_number rfl (by decide) b_law_number (fun _ _ _ _ _ _ us hl => match us, hl with | [_, _, _], _ => rfl) (fun _ _ _ h => h) (fun f cdv A outer s H E W sa ca E' hr eo => (qSeq (qIfS (qTc o_le op_cmpI (qVar (pv 2)) (qVar (pv 1)) (nomark _)) (qOneS (qRetV (pv 1))) qNilS) (qSeq (qSet (i := 3) sc_law_number.nd rfl (Or.inl rfl) (qVm (qCallS rfl (L2N.takes_of rfl rfl rfl rfl) eo c__law_take hr (pv 0) (qCons (qC pe_int (fun _ => .int)) qNil)))) (qSeq (qIfS (qTc (o_eqK Z.K (h64 hr)) op_eqP (qVar (pv 3)) (qC pe_int (fun _ => .int)) (nomark _)) (qOneS (qRetV (pv 1))) qNilS) (qSeq (qIfS (qTc (o_eqK Z.K (h64 hr)) op_eqP (qVar (pv 3)) (qC pe_int (fun _ => .int)) (nomark _)) (qOneS (qRetV (pv 2))) qNilS) (qSeq (qIfS (qTc (o_eqK Z.K (h64 hr)) op_eqP (qVar (pv 3)) (qC pe_int (fun _ => .int)) (nomark _)) (qOneS (qRet (qVm (qOp (o_addK Z.K) op_add (qVar (pv 1)) (qC pe_int (fun _ => .int)))))) qNilS) (qOneS (qRet (qVm (qOp (o_addK Z.K) op_add (qVar (pv 1)) (qD (qCallS rfl (L2N.takes_of rfl rfl rfl rfl) eo c__law_take hr (pv 0) (qCons (qD (qOp (o_addK Z.K) op_add (qOpD o_sub op_arith0 (qVar (pv 2)) (qVar (pv 1))) (qC pe_int (fun _ => .int)))) qNil)))))))))))))
theorem can_law_some {Z : Q.Env} (B : Std Z) (Df : DefAt Z "_law_some" s_law_some []) (c__law_number : Can Z (CXn Z) 3 "_law_number" ["store", "low", "high"] [] (lFs Z.K 2 m_law_number)) (c__law_take : Can Z (CXn Z) 3 "_law_take" ["store", "many"] [] (lFs Z.K 1 m_law_take)) : Can Z (CXn Z) 4 "_law_some" ["store", "row", "most"] [] (lFs Z.K 2 m_law_some) :=
  can_lFs Df sc_law_some rfl (by decide) b_law_some (fun _ _ _ _ _ _ us hl => match us, hl with | [_, _, _], _ => rfl) (fun _ _ _ h => h) (fun f cdv A outer s H E W sa ca E' hr eo => (qSeq (qSet (i := 3) sc_law_some.nd rfl (Or.inl rfl) (qVm (qCTyS (k_listK Z.K) f_list (by rfl) B.list (by decide +kernel) (qCons (qVar (pv 1)) qNil)))) (qSeq (qSet (i := 4) sc_law_some.nd rfl (Or.inl rfl) (qVm (qLst qNil))) (qSeq (qFor (passes_of rfl) rfl (qRng1 (by rfl) B.range (qCons (qD (qCallS rfl (L2N.takes_of rfl rfl rfl rfl) eo c__law_number hr (pv 0) (qCons (qC pe_int (fun _ => .int)) (qCons (qKeep (qCB (call_min2 rfl) f_min (by rfl) B.min (by decide +kernel) (qCons (qVar (pv 2)) (qCons (qCB (k_lenK Z.K) f_len (by rfl) B.len (by decide +kernel) (qCons (qVar (pv 3)) qNil)) qNil)))) qNil)))) qNil)) (pg_name (i := 5) sc_law_some.nd rfl (Or.inl rfl)) (gNameOk (j := 5)) (qOneS (qExpr (qApp rfl (pv 4) (qPopAt rfl (pv 3) (qDm (qD (qCallS rfl (L2N.takes_of rfl rfl rfl rfl) eo c__law_take hr (pv 0) (qCons (qKeep (qCB (k_lenK Z.K) f_len (by rfl) B.len (by decide +kernel) (qCons (qVar (pv 3)) qNil))) qNil))))))))) (qOneS (qRetV (pv 4)))))))
theorem can_law_copy {Z : Q.Env} {n : Nat} (B : Std Z) (Df : DefAt Z "_law_copy" s_law_copy []) (c__law_copy : Can Z (CXn Z) n "_law_copy" ["thing"] [] (lF Z.K 1 (m_law_copy n))) : Can Z (CXn Z) (n + 1) "_law_copy" ["thing"] [] (lF Z.K 1 (m_law_copy (n + 1))) :=
  can_lF Df sc_law_copy rfl (b_law_copy (m_law_copy n)) (fun _ _ _ _ _ _ us hl => match us, hl with | [_], _ => rfl) (fun _ _ _ h => h) (fun f cdv A outer s H E W E' hr eo => (qSeq (qIfS (qT (qIsi (Cs := []) (T := "list") (fun _ h => nomatch h) (by decide) rfl (by rfl) B.isinstance (qVar (pv 0)) (pe_bltn (v := .ty "list") (by rfl) B.list (by decide +kernel) rfl))) (qOneS (qRet (qVm (qLc (own := [("part", 1)]) (by rfl) sc_law_copy.nd (qIt rfl (qVar (pv 0))) (blkOk_by (own := [("part", 1)]) (N := nn_law_copy) (sc := defScope s_law_copy) (by decide +kernel)) (fun _ _ _ _ _ => (pg_name (i := 1) sc_law_copy.nd rfl (Or.inl rfl))) (fun _ _ _ _ _ => qYes) (fun _ _ _ _ _ => (qD (qCall takesN eoN c__law_copy hr (qCons (qVar (pv 1)) qNil)))) (gNameW (j := 1)) (by rfl))))) qNilS) (qSeq (qIfS (qT (qIsi (Cs := []) (T := "tuple") (fun _ h => nomatch h) (by decide) rfl (by rfl) B.isinstance (qVar (pv 0)) (pe_bltn (v := .ty "tuple") (by rfl) B.tuple (by decide +kernel) rfl))) (qOneS (qRet (qVm (qV (qCTy (k_tupleK Z.K) f_tuple (by rfl) B.tuple (by decide +kernel) (qCons (qD (qLc (own := [("part", 1)]) (by rfl) sc_law_copy.nd (qIt rfl (qVar (pv 0))) (blkOk_by (own := [("part", 1)]) (N := nn_law_copy) (sc := defScope s_law_copy) (by decide +kernel)) (fun _ _ _ _ _ => (pg_name (i := 1) sc_law_copy.nd rfl (Or.inl rfl))) (fun _ _ _ _ _ => qYes) (fun _ _ _ _ _ => (qD (qCall takesN eoN c__law_copy hr (qCons (qVar (pv 1)) qNil)))) (gNameW (j := 1)) (by rfl))) qNil)))))) qNilS) (qSeq (qIfS (qT (qIsi (Cs := []) (T := "dict") (fun _ h => nomatch h) (by decide) rfl (by rfl) B.isinstance (qVar (pv 0)) (pe_bltn (v := .ty "dict") (by rfl) B.dict (by decide +kernel) rfl))) (qSeq (qSet (i := 2) sc_law_copy.nd rfl (Or.inl rfl) (qVm qDNew)) (qSeq (qForD (passes_of rfl) rfl rfl (pv 0) (pg_name (i := 3) sc_law_copy.nd rfl (Or.inl rfl)) (fun _ => (gNameOk (j := 3))) (gNameOk (j := 3)) (fun _ => (qOneS (qDPut (h1 hr) (pv 2) (qVar (pv 3)) (qD (qCall takesN eoN c__law_copy hr (qCons (qDGet (h1 hr) (qVar (pv 0)) (qVar (pv 3)) (fun _ _ => rfl)) qNil)))))) (qOneS (qDPut (h1 hr) (pv 2) (qVar (pv 3)) (qD (qCall takesN eoN c__law_copy hr (qCons (qDGet (h1 hr) (qVar (pv 0)) (qVar (pv 3)) (fun _ _ => rfl)) qNil)))))) (qOneS (qRetV (pv 2))))) qNilS) (qOneS (qRetV (pv 0)))))))
theorem can_law_integer {Z : Q.Env} (B : Std Z) (Df : DefAt Z "_law_integer" s_law_integer []) : Can Z (CXn Z) 1 "_law_integer" ["thing"] [] (lF Z.K 1 m_law_integer) :=
  can_lF Df sc_law_integer rfl b_law_integer (fun _ _ _ _ _ _ us hl => match us, hl with | [_], _ => rfl) (fun _ _ _ h => h) (fun f cdv A outer s H E W E' hr eo => (qOneS (qRet (qVm (qV (qAndV (qIsi (Cs := []) (T := "int") (fun _ h => nomatch h) (by decide) rfl (by rfl) B.isinstance (qVar (pv 0)) (pe_bltn (v := .ty "int") (by rfl) B.int (by decide +kernel) rfl)) (qOne (qNotV (qIsi (Cs := []) (T := "bool") (fun _ h => nomatch h) (by decide) rfl (by rfl) B.isinstance (qVar (pv 0)) (pe_bltn (v := .ty "bool") (by rfl) B.bool (by decide +kernel) rfl))))))))))
theorem can_law_shuffled {Z : Q.Env} (B : Std Z) (Df : DefAt Z "_law_shuffled" s_law_shuffled []) (c__law_take : Can Z (CXn Z) 2 "_law_take" ["store", "many"] [] (lFs Z.K 1 m_law_take)) : Can Z (CXn Z) 3 "_law_shuffled" ["store", "row"] [] (lFs Z.K 1 m_law_shuffled) :=
  can_lFs Df sc_law_shuffled rfl (by decide) b_law_shuffled (fun _ _ _ _ _ _ us hl => match us, hl with | [_, _], _ => rfl) (fun _ _ _ h => h) (fun f cdv A outer s H E W sa ca E' hr eo => (qSeq (qSet (i := 2) sc_law_shuffled.nd rfl (Or.inl rfl) (qVm (qCTyS (k_listK Z.K) f_list (by rfl) B.list (by decide +kernel) (qCons (qVar (pv 1)) qNil)))) (qSeq (qIfS (qTc (o_eqK Z.K (h64 hr)) op_eqP (qD (qCallS rfl (L2N.takes_of rfl rfl rfl rfl) eo c__law_take hr (pv 0) (qCons (qC pe_int (fun _ => .int)) qNil))) (qC pe_int (fun _ => .int)) (nomark _)) (qOneS (qRetV (pv 2))) qNilS) (qSeq (qSet (i := 3) sc_law_shuffled.nd rfl (Or.inl rfl) (qVm (qLst qNil))) (qSeq (qFor (passes_of rfl) rfl (qRng1 (by rfl) B.range (qCons (qKeep (qCB (k_lenK Z.K) f_len (by rfl) B.len (by decide +kernel) (qCons (qVar (pv 2)) qNil))) qNil)) (pg_name (i := 4) sc_law_shuffled.nd rfl (Or.inl rfl)) (gNameOk (j := 4)) (qOneS (qExpr (qApp rfl (pv 3) (qPopAt rfl (pv 2) (qDm (qD (qCallS rfl (L2N.takes_of rfl rfl rfl rfl) eo c__law_take hr (pv 0) (qCons (qKeep (qCB (k_lenK Z.K) f_len (by rfl) B.len (by decide +kernel) (qCons (qVar (pv 2)) qNil))) qNil))))))))) (qOneS (qRetV (pv 3))))))))
theorem can_law_due {Z : Q.Env} (B : Std Z) (Df : DefAt Z "_law_due" s_law_due []) : Can Z (CXn Z) 1 "_law_due" ["size", "rests", "steps"] [] (lF Z.K 3 m_law_due) :=
  can_lF Df sc_law_due rfl b_law_due (fun _ _ _ _ _ _ us hl => match us, hl with | [_, _, _], _ => rfl) (fun _ _ _ h => h) (fun f cdv A outer s H E W E' hr eo => (qSeq (qSetLc (i := 3) (own := [("p", 4)]) (by rfl) sc_law_due.nd rfl rfl (sw_true rfl rfl rfl (by decide +kernel)) (qRng1 (by rfl) B.range (qCons (qVar (pv 0)) qNil)) (blkOk_by (own := [("p", 4)]) (N := nn_law_due) (sc := defScope s_law_due) (by decide +kernel)) (fun _ _ _ _ _ => (pg_name (i := 4) sc_law_due.nd rfl (Or.inl rfl))) (fun _ _ _ _ _ => (pts_one (qTc (o_inK Z.K (h65 hr)) op_inP (qVar (pv 4)) (qVar (pv 1)) (by rfl)))) (fun _ _ _ _ _ => (qVar (pv 4))) (gNameW (j := 4)) (by rfl)) (qOneS (qRet (qVm (qV (qTup (qCons (qVar (pv 0)) (qCons (qCTy (k_tupleK Z.K) f_tuple (by rfl) B.tuple (by decide +kernel) (qCons (qVar (pv 3)) qNil)) (qCons (qCTy (k_tupleK Z.K) f_tuple (by rfl) B.tuple (by decide +kernel) (qCons (qD (qCBS (k_sortK Z.K) f_sorted (by rfl) B.sorted (by decide +kernel) (qCons (qVar (pv 2)) qNil))) qNil)) (qCons (qCB (k_lenK Z.K) f_len (by rfl) B.len (by decide +kernel) (qCons (qVar (pv 2)) qNil)) (qCons (qD (qCBS (k_sortK Z.K) f_sorted (by rfl) B.sorted (by decide +kernel) (qCons (qVar (pv 2)) qNil))) qNil))))))))))))
theorem can_law_pick {Z : Q.Env} (B : Std Z) (Df : DefAt Z "_law_pick" s_law_pick []) (c__law_take : Can Z (CXn Z) 2 "_law_take" ["store", "many"] [] (lFs Z.K 1 m_law_take)) : Can Z (CXn Z) 3 "_law_pick" ["store", "row"] [] (lFs Z.K 1 m_law_pick) :=
  can_lFs Df sc_law_pick rfl (by decide) b_law_pick (fun _ _ _ _ _ _ us hl => match us, hl with | [_, _], _ => rfl) (fun _ _ _ h => h) (fun f cdv A outer s H E W sa ca E' hr eo => (qOneS (qRet (qVm (qV (qIx rfl (qVar (pv 1)) (qD (qCallS rfl (L2N.takes_of rfl rfl rfl rfl) eo c__law_take hr (pv 0) (qCons (qCB (k_lenK Z.K) f_len (by rfl) B.len (by decide +kernel) (qCons (qVar (pv 1)) qNil)) qNil))) (fun _ _ => rfl)))))))
theorem can_law_odd_value {Z : Q.Env} (B : Std Z) (Df : DefAt Z "_law_odd_value" s_law_odd_value []) (c__law_pick : Can Z (CXn Z) 3 "_law_pick" ["store", "row"] [] (lFs Z.K 1 m_law_pick)) (c__law_take : Can Z (CXn Z) 3 "_law_take" ["store", "many"] [] (lFs Z.K 1 m_law_take)) : Can Z (CXn Z) 4 "_law_odd_value" ["store", "size"] [] (lFs Z.K 1 m_law_odd_value) :=
  can_lFs Df sc_law_odd_value rfl (by decide) b_law_odd_value (fun _ _ _ _ _ _ us hl => match us, hl with | [_, _], _ => rfl) (fun _ _ _ h => h) (fun f cdv A outer s H E W sa ca E' hr eo => (qSeq (qSet (i := 2) sc_law_odd_value.nd rfl (Or.inl rfl) (qVm (qCallS rfl (L2N.takes_of rfl rfl rfl rfl) eo c__law_take hr (pv 0) (qCons (qC pe_int (fun _ => .int)) qNil)))) (qOneS (qRet (qVm (qCallS rfl (L2N.takes_of rfl rfl rfl rfl) eo c__law_pick hr (pv 0) (qCons (qD (qLst (qCons (qC pe_non (fun _ => .non)) (qCons (qC pe_bl (fun _ => .bl)) (qCons (qC pe_bl (fun _ => .bl)) (qCons (qOpD o_sub op_arith0 (qC pe_int (fun _ => .int)) (qC pe_int (fun _ => .int))) (qCons (qC pe_int (fun _ => .int)) (qCons (qOpD o_sub op_arith0 (qVar (pv 1)) (qC pe_int (fun _ => .int))) (qCons (qVar (pv 1)) (qCons (qD (qOp (o_addK Z.K) op_add (qVar (pv 1)) (qC pe_int (fun _ => .int)))) (qCons (qVar (pv 2)) (qCons (qVar (pv 2)) (qCons (qOpD o_sub op_arith0 (qC pe_int (fun _ => .int)) (qVar (pv 2))) (qCons (qOpD o_pow op_arith (qC pe_int (fun _ => .int)) (qC pe_int (fun _ => .int))) (qCons (qOpD o_sub op_arith0 (qC pe_int (fun _ => .int)) (qOpD o_pow op_arith (qC pe_int (fun _ => .int)) (qC pe_int (fun _ => .int)))) (qCons (qC pe_str (fun _ => .str)) (qCons (qC pe_str (fun _ => .str)) (qCons (qCTy call_str_int f_str (by rfl) B.str (by decide +kernel) (qCons (qVar (pv 2)) qNil)) (qCons (qC pe_str (fun _ => .str)) (qCons (qD (qLst qNil)) (qCons (qTup qNil) (qCons (qD (qLst (qCons (qC pe_int (fun _ => .int)) qNil))) (qCons (qTup (qCons (qC pe_int (fun _ => .int)) qNil)) (qCons (qD (qDisp1 (qC pe_str (fun _ => .str)) (qC pe_int (fun _ => .int)))) qNil)))))))))))))))))))))))) qNil)))))))
theorem can_law_crooked {Z : Q.Env} (B : Std Z) (Df : DefAt Z "_law_crooked" s_law_crooked []) (c__law_pick : Can Z (CXn Z) 3 "_law_pick" ["store", "row"] [] (lFs Z.K 1 m_law_pick)) (c__law_take : Can Z (CXn Z) 3 "_law_take" ["store", "many"] [] (lFs Z.K 1 m_law_take)) : Can Z (CXn Z) 4 "_law_crooked" ["store", "size", "step"] [] (lFs Z.K 2 m_law_crooked) :=
  can_lFs Df sc_law_crooked rfl (by decide) b_law_crooked (fun _ _ _ _ _ _ us hl => match us, hl with | [_, _, _], _ => rfl) (fun _ _ _ h => h) (fun f cdv A outer s H E W sa ca E' hr eo => (qSeq (qSet (i := 3) sc_law_crooked.nd rfl (Or.inl rfl) (qVm (qCTyS (k_listK Z.K) f_list (by rfl) B.list (by decide +kernel) (qCons (qVar (pv 2)) qNil)))) (qSeq (qSet (i := 4) sc_law_crooked.nd rfl (Or.inl rfl) (qVm (qCallS rfl (L2N.takes_of rfl rfl rfl rfl) eo c__law_take hr (pv 0) (qCons (qC pe_int (fun _ => .int)) qNil)))) (qSeq (qIfS (qTc (o_eqK Z.K (h64 hr)) op_eqP (qVar (pv 4)) (qC pe_int (fun _ => .int)) (nomark _)) (qOneS (qRet (qVm (qCallS rfl (L2N.takes_of rfl rfl rfl rfl) eo c__law_pick hr (pv 0) (qCons (qD (qLst (qCons (qD (qSl rfl (qVar (pv 2)) qNoP (qSoP (qC pe_int (fun _ => .int))))) (qCons (qD (qOp (o_addK Z.K) op_add (qVar (pv 2)) (qTup (qCons (qC pe_int (fun _ => .int)) qNil)))) (qCons (qD (qCTyS (k_listK Z.K) f_list (by rfl) B.list (by decide +kernel) (qCons (qVar (pv 2)) qNil))) (qCons (qD (qSl rfl (qVar (pv 2)) (qSoP (qC pe_int (fun _ => .int))) qNoP)) (qCons (qTup (qCons (qVar (pv 2)) qNil)) (qCons (qTup qNil) (qCons (qC pe_non (fun _ => .non)) (qCons (qC pe_str (fun _ => .str)) (qCons (qIx rfl (qVar (pv 2)) (qC pe_int (fun _ => .int)) (fun _ _ => rfl)) qNil))))))))))) qNil))))) qNilS) (qSeq (qIfS (PW.pt (qOr (qTc (o_eqK Z.K (h64 hr)) op_eqP (qVar (pv 4)) (qC pe_int (fun _ => .int)) (nomark _)) (qOr1 (qTc (o_eqK Z.K (h64 hr)) op_eqP (qVar (pv 4)) (qC pe_int (fun _ => .int)) (nomark _))))) (qSeq (qSet (i := 5) sc_law_crooked.nd rfl (Or.inl rfl) (qVm (qOp (o_addK Z.K) op_add (qVar (pv 1)) (qD (qCallS rfl (L2N.takes_of rfl rfl rfl rfl) eo c__law_take hr (pv 0) (qCons (qC pe_int (fun _ => .int)) qNil)))))) (qSeq (qSet (i := 6) sc_law_crooked.nd rfl (Or.inl rfl) (qVm (qLst (qCons (qVar (pv 1)) (qCons (qOpD o_sub op_arith0 (qC pe_int (fun _ => .int)) (qC pe_int (fun _ => .int))) (qCons (qVar (pv 5)) (qCons (qOpD o_pow op_arith (qC pe_int (fun _ => .int)) (qC pe_int (fun _ => .int))) (qCons (qOpD o_sub op_arith0 (qC pe_int (fun _ => .int)) (qVar (pv 5))) (qCons (qC pe_non (fun _ => .non)) (qCons (qC pe_bl (fun _ => .bl)) (qCons (qC pe_bl (fun _ => .bl)) (qCons (qCTy call_str_int f_str (by rfl) B.str (by decide +kernel) (qCons (qIx rfl (qVar (pv 2)) (qVar (pv 4)) (fun _ _ => rfl)) qNil)) (qCons (qD (qLst (qCons (qC pe_int (fun _ => .int)) qNil))) (qCons (qTup (qCons (qIx rfl (qVar (pv 2)) (qVar (pv 4)) (fun _ _ => rfl)) qNil)) qNil)))))))))))))) (qOneS (qPut (pv 3) (qVar (pv 4)) (qD (qCallS rfl (L2N.takes_of rfl rfl rfl rfl) eo c__law_pick hr (pv 0) (qCons (qVar (pv 6)) qNil))))))) qNilS) (qSeq (qIfS (qTc (o_eqK Z.K (h64 hr)) op_eqP (qVar (pv 4)) (qC pe_int (fun _ => .int)) (nomark _)) (qSeq (qSet (i := 7) sc_law_crooked.nd rfl (Or.inl rfl) (qVm (qV (qIf (qTc o_ge op_cmpI (qIx rfl (qVar (pv 2)) (qC pe_int (fun _ => .int)) (fun _ _ => rfl)) (qC pe_int (fun _ => .int)) (nomark _)) (qC pe_str (fun _ => .str)) (qC pe_str (fun _ => .str)))))) (qOneS (qPut (pv 3) (qC pe_int (fun _ => .int)) (qD (qCallS rfl (L2N.takes_of rfl rfl rfl rfl) eo c__law_pick hr (pv 0) (qCons (qD (qLst (qCons (qC pe_str (fun _ => .str)) (qCons (qC pe_str (fun _ => .str)) (qCons (qC pe_str (fun _ => .str)) (qCons (qC pe_str (fun _ => .str)) (qCons (qC pe_str (fun _ => .str)) (qCons (qC pe_non (fun _ => .non)) (qCons (qC pe_int (fun _ => .int)) (qCons (qD (qLst (qCons (qIx rfl (qVar (pv 2)) (qC pe_int (fun _ => .int)) (fun _ _ => rfl)) qNil))) (qCons (qTup (qCons (qIx rfl (qVar (pv 2)) (qC pe_int (fun _ => .int)) (fun _ _ => rfl)) qNil)) (qCons (qVar (pv 7)) qNil)))))))))))) qNil)))))) qNilS) (qSeq (qIfS (PW.pt (qAnd (qTc (o_eqK Z.K (h64 hr)) op_eqP (qVar (pv 4)) (qC pe_int (fun _ => .int)) (nomark _)) (qAnd1 (qTc (o_eqK Z.K (h64 hr)) op_eqP (qIx rfl (qVar (pv 2)) (qC pe_int (fun _ => .int)) (fun _ _ => rfl)) (qC pe_str (fun _ => .str)) (nomark _))))) (qOneS (qPut (pv 3) (qC pe_int (fun _ => .int)) (qD (qCallS rfl (L2N.takes_of rfl rfl rfl rfl) eo c__law_pick hr (pv 0) (qCons (qD (qLst (qCons (qC pe_int (fun _ => .int)) (qCons (qC pe_int (fun _ => .int)) (qCons (qOpD o_sub op_arith0 (qC pe_int (fun _ => .int)) (qC pe_int (fun _ => .int))) (qCons (qC pe_bl (fun _ => .bl)) (qCons (qC pe_bl (fun _ => .bl)) (qCons (qC pe_non (fun _ => .non)) (qCons (qC pe_str (fun _ => .str)) (qCons (qOpD o_pow op_arith (qC pe_int (fun _ => .int)) (qC pe_int (fun _ => .int))) (qCons (qD (qLst (qCons (qOpD o_sub op_arith0 (qC pe_int (fun _ => .int)) (qC pe_int (fun _ => .int))) qNil))) qNil))))))))))) qNil))))) qNilS) (qSeq (qIfS (PW.pt (qAnd (qTc (o_eqK Z.K (h64 hr)) op_eqP (qVar (pv 4)) (qC pe_int (fun _ => .int)) (nomark _)) (qAnd1 (qTc (o_neK Z.K (h64 hr)) op_neP (qIx rfl (qVar (pv 2)) (qC pe_int (fun _ => .int)) (fun _ _ => rfl)) (qC pe_str (fun _ => .str)) (nomark _))))) (qOneS (qPut (pv 3) (qC pe_int (fun _ => .int)) (qD (qCallS rfl (L2N.takes_of rfl rfl rfl rfl) eo c__law_pick hr (pv 0) (qCons (qD (qLst (qCons (qC pe_int (fun _ => .int)) (qCons (qOpD o_sub op_arith0 (qC pe_int (fun _ => .int)) (qC pe_int (fun _ => .int))) (qCons (qD (qOp (o_addK Z.K) op_add (qC pe_int (fun _ => .int)) (qD (qCallS rfl (L2N.takes_of rfl rfl rfl rfl) eo c__law_take hr (pv 0) (qCons (qC pe_int (fun _ => .int)) qNil))))) (qCons (qC pe_non (fun _ => .non)) (qCons (qC pe_bl (fun _ => .bl)) (qCons (qC pe_bl (fun _ => .bl)) (qCons (qCTy call_str_int f_str (by rfl) B.str (by decide +kernel) (qCons (qIx rfl (qVar (pv 2)) (qC pe_int (fun _ => .int)) (fun _ _ => rfl)) qNil)) (qCons (qD (qLst (qCons (qIx rfl (qVar (pv 2)) (qC pe_int (fun _ => .int)) (fun _ _ => rfl)) qNil))) qNil)))))))))) qNil))))) qNilS) (qSeq (qIfS (PW.pt (qAnd (qTc (o_eqK Z.K (h64 hr)) op_eqP (qVar (pv 4)) (qC pe_int (fun _ => .int)) (nomark _)) (qAnd1 (qTc (o_eqK Z.K (h64 hr)) op_eqP (qIx rfl (qVar (pv 2)) (qC pe_int (fun _ => .int)) (fun _ _ => rfl)) (qC pe_str (fun _ => .str)) (nomark _))))) (qOneS (qPut (pv 3) (qC pe_int (fun _ => .int)) (qD (qCallS rfl (L2N.takes_of rfl rfl rfl rfl) eo c__law_pick hr (pv 0) (qCons (qD (qLst (qCons (qC pe_str (fun _ => .str)) (qCons (qC pe_str (fun _ => .str)) (qCons (qC pe_str (fun _ => .str)) (qCons (qC pe_non (fun _ => .non)) (qCons (qC pe_int (fun _ => .int)) (qCons (qD (qLst (qCons (qC pe_str (fun _ => .str)) qNil))) (qCons (qC pe_bl (fun _ => .bl)) qNil))))))))) qNil))))) qNilS) (qSeq (qIfS (PW.pt (qAnd (qTc (o_eqK Z.K (h64 hr)) op_eqP (qVar (pv 4)) (qC pe_int (fun _ => .int)) (nomark _)) (qAnd1 (qTc (o_neK Z.K (h64 hr)) op_neP (qIx rfl (qVar (pv 2)) (qC pe_int (fun _ => .int)) (fun _ _ => rfl)) (qC pe_str (fun _ => .str)) (nomark _))))) (qSeq (qSet (i := 8) sc_law_crooked.nd rfl (Or.inl rfl) (qVm (qV (qIx rfl (qVar (pv 2)) (qC pe_int (fun _ => .int)) (fun _ _ => rfl))))) (qOneS (qPut (pv 3) (qC pe_int (fun _ => .int)) (qD (qCallS rfl (L2N.takes_of rfl rfl rfl rfl) eo c__law_pick hr (pv 0) (qCons (qD (qLst (qCons (qC pe_str (fun _ => .str)) (qCons (qD (qOp (o_addK Z.K) op_add (qVar (pv 8)) (qC pe_str (fun _ => .str)))) (qCons (qD (qOp (o_addK Z.K) op_add (qVar (pv 8)) (qC pe_str (fun _ => .str)))) (qCons (qD (qOp (o_addK Z.K) op_add (qC pe_str (fun _ => .str)) (qVar (pv 8)))) (qCons (qD (qOp (o_addK Z.K) op_add (qVar (pv 8)) (qC pe_str (fun _ => .str)))) (qCons (qD (qOp (o_addK Z.K) op_add (qVar (pv 8)) (qC pe_str (fun _ => .str)))) (qCons (qC pe_str (fun _ => .str)) (qCons (qC pe_str (fun _ => .str)) (qCons (qC pe_str (fun _ => .str)) (qCons (qC pe_str (fun _ => .str)) (qCons (qC pe_str (fun _ => .str)) (qCons (qC pe_str (fun _ => .str)) (qCons (qC pe_str (fun _ => .str)) (qCons (qC pe_str (fun _ => .str)) (qCons (qC pe_str (fun _ => .str)) (qCons (qC pe_str (fun _ => .str)) (qCons (qC pe_non (fun _ => .non)) (qCons (qC pe_int (fun _ => .int)) (qCons (qD (qLst (qCons (qVar (pv 8)) qNil))) (qCons (qTup (qCons (qVar (pv 8)) qNil)) qNil)))))))))))))))))))))) qNil)))))) qNilS) (qOneS (qRet (qVm (qV (qCTy (k_tupleK Z.K) f_tuple (by rfl) B.tuple (by decide +kernel) (qCons (qVar (pv 3)) qNil))))))))))))))))
theorem can_law_trials {Z : Q.Env} (B : Std Z) (Df : DefAt Z "_law_trials" s_law_trials []) (c__law_crooked : Can Z (CXn Z) 4 "_law_crooked" ["store", "size", "step"] [] (lFs Z.K 2 m_law_crooked)) (c__law_due : Can Z (CXn Z) 4 "_law_due" ["size", "rests", "steps"] [] (lF Z.K 3 m_law_due)) (c__law_integer : Can Z (CXn Z) 4 "_law_integer" ["thing"] [] (lF Z.K 1 m_law_integer)) (c__law_odd_value : Can Z (CXn Z) 4 "_law_odd_value" ["store", "size"] [] (lFs Z.K 1 m_law_odd_value)) (c__law_pick : Can Z (CXn Z) 4 "_law_pick" ["store", "row"] [] (lFs Z.K 1 m_law_pick)) (c__law_shuffled : Can Z (CXn Z) 4 "_law_shuffled" ["store", "row"] [] (lFs Z.K 1 m_law_shuffled)) (c__law_take : Can Z (CXn Z) 4 "_law_take" ["store", "many"] [] (lFs Z.K 1 m_law_take)) : Can Z (CXn Z) 5 "_law_trials" ["store", "machine"] [] (lFs Z.K 1 m_law_trials) :=
  can_lFs Df sc_law_trials rfl (by decide) b_law_trials (fun _ _ _ _ _ _ us hl => match us, hl with | [_, _], _ => rfl) (fun _ _ _ h => h) (fun f cdv A outer s H E W sa ca E' hr eo => (qSeq (qSet (i := 2) sc_law_trials.nd rfl (Or.inl rfl) (qVm (qV (qTup (qCons (qC pe_str (fun _ => .str)) (qCons (qC pe_str (fun _ => .str)) qNil)))))) (qSeq (qSet (i := 3) sc_law_trials.nd rfl (Or.inl rfl) (qVm (qV (qIx rfl (qVar (pv 1)) (qC pe_int (fun _ => .int)) (fun _ _ => rfl))))) (qSeq (qSet (i := 4) sc_law_trials.nd rfl (Or.inl rfl) (qVm (qV (qIx rfl (qVar (pv 1)) (qC pe_int (fun _ => .int)) (fun _ _ => rfl))))) (qSeq (qSet (i := 5) sc_law_trials.nd rfl (Or.inl rfl) (qVm (qCallS rfl (L2N.takes_of rfl rfl rfl rfl) eo c__law_shuffled hr (pv 0) (qCons (qIx rfl (qVar (pv 1)) (qC pe_int (fun _ => .int)) (fun _ _ => rfl)) qNil)))) (qSeq (qSetLc (i := 6) (own := [("k", 7)]) (by rfl) sc_law_trials.nd rfl rfl (sw_true rfl rfl rfl (by decide +kernel)) (qRng1 (by rfl) B.range (qCons (qC pe_int (fun _ => .int)) qNil)) (blkOk_by (own := [("k", 7)]) (N := nn_law_trials) (sc := defScope s_law_trials) (by decide +kernel)) (fun _ _ _ _ _ => (pg_name (i := 7) sc_law_trials.nd rfl (Or.inl rfl))) (fun _ _ _ _ _ => qYes) (fun _ _ _ _ _ => (qTup (qCons (qOpD o_mod op_arith (qCTy c_intK f_int (by rfl) B.int (by decide +kernel) (qCons (qVar (pv 7)) qNil)) (qC pe_int (fun _ => .int))) (qCons (qC pe_str (fun _ => .str)) (qCons (qOpD o_fdiv op_arith (qVar (pv 7)) (qC pe_int (fun _ => .int))) (qCons (qC pe_str (fun _ => .str)) (qCons (qOpD o_fdiv op_arith (qVar (pv 7)) (qC pe_int (fun _ => .int))) qNil))))))) (gNameW (j := 7)) (by rfl)) (qSeq (qSet (i := 8) sc_law_trials.nd rfl (Or.inl rfl) (qVm (qCallS rfl (L2N.takes_of rfl rfl rfl rfl) eo c__law_pick hr (pv 0) (qCons (qD (qLst (qCons (qC pe_int (fun _ => .int)) (qCons (qC pe_int (fun _ => .int)) qNil)))) qNil)))) (qSeq (qSet (i := 9) sc_law_trials.nd rfl (Or.inl rfl) (qVm (qLst (qCons (qD (qLst (qCons (qD (qLst (qCons (qC pe_int (fun _ => .int)) (qCons (qD (qLst qNil)) (qCons (qD (qSl rfl (qVar (pv 6)) qNoP (qSoP (qVar (pv 8))))) qNil))))) (qCons (qD (qIfV (qTc (o_eqK Z.K (h64 hr)) op_eqP (qVar (pv 8)) (qC pe_int (fun _ => .int)) (nomark _)) (qV (qVar (pv 2))) (qCall (L2N.takes_of rfl rfl rfl rfl) eo c__law_due hr (qCons (qC pe_int (fun _ => .int)) (qCons (qD (qLst qNil)) (qCons (qD (qSl rfl (qVar (pv 6)) qNoP (qSoP (qC pe_int (fun _ => .int))))) qNil)))))) qNil)))) qNil)))) (qSeq (qIfS (qTc o_gt op_cmpI (qCB (k_lenK Z.K) f_len (by rfl) B.len (by decide +kernel) (qCons (qVar (pv 5)) qNil)) (qC pe_int (fun _ => .int)) (nomark _)) (qSeq (qSet (i := 10) sc_law_trials.nd rfl (Or.inl rfl) (qVm (qCallS rfl (L2N.takes_of rfl rfl rfl rfl) eo c__law_take hr (pv 0) (qCons (qCB (k_lenK Z.K) f_len (by rfl) B.len (by decide +kernel) (qCons (qVar (pv 5)) qNil)) qNil)))) (qSeq (qSet (i := 11) sc_law_trials.nd rfl (Or.inl rfl) (qVm (qCallS rfl (L2N.takes_of rfl rfl rfl rfl) eo c__law_crooked hr (pv 0) (qCons (qVar (pv 3)) (qCons (qIx rfl (qVar (pv 5)) (qVar (pv 10)) (fun _ _ => rfl)) qNil))))) (qSeq (qExpr (qApp rfl (pv 9) (qDm (qD (qLst (qCons (qD (qLst (qCons (qVar (pv 3)) (qCons (qD (qCTyS (k_listK Z.K) f_list (by rfl) B.list (by decide +kernel) (qCons (qVar (pv 4)) qNil))) (qCons (qD (qOp (o_addK Z.K) op_add (qD (qOp (o_addK Z.K) op_add (qD (qSl rfl (qVar (pv 5)) qNoP (qSoP (qVar (pv 10))))) (qD (qLst (qCons (qVar (pv 11)) qNil))))) (qD (qSl rfl (qVar (pv 5)) (qSoP (qD (qOp (o_addK Z.K) op_add (qVar (pv 10)) (qC pe_int (fun _ => .int))))) qNoP)))) qNil))))) (qCons (qVar (pv 2)) qNil))))))) (qSeq (qSet (i := 12) sc_law_trials.nd rfl (Or.inl rfl) (qVm (qCallS rfl (L2N.takes_of rfl rfl rfl rfl) eo c__law_take hr (pv 0) (qCons (qD (qOp (o_addK Z.K) op_add (qCB (k_lenK Z.K) f_len (by rfl) B.len (by decide +kernel) (qCons (qVar (pv 5)) qNil)) (qC pe_int (fun _ => .int)))) qNil)))) (qOneS (qExpr (qApp rfl (pv 9) (qDm (qD (qLst (qCons (qD (qLst (qCons (qVar (pv 3)) (qCons (qD (qCTyS (k_listK Z.K) f_list (by rfl) B.list (by decide +kernel) (qCons (qVar (pv 4)) qNil))) (qCons (qD (qOp (o_addK Z.K) op_add (qD (qOp (o_addK Z.K) op_add (qD (qSl rfl (qVar (pv 5)) qNoP (qSoP (qVar (pv 12))))) (qD (qLst (qCons (qIx rfl (qVar (pv 5)) (qVar (pv 10)) (fun _ _ => rfl)) qNil))))) (qD (qSl rfl (qVar (pv 5)) (qSoP (qVar (pv 12))) qNoP)))) qNil))))) (qCons (qVar (pv 2)) qNil)))))))))))) qNilS) (qSeq (qSet (i := 13) sc_law_trials.nd rfl (Or.inl rfl) (qVm (qCallS rfl (L2N.takes_of rfl rfl rfl rfl) eo c__law_odd_value hr (pv 0) (qCons (qC pe_int (fun _ => .int)) qNil)))) (qSeq (qSet (i := 14) sc_law_trials.nd rfl (Or.inl rfl) (qVm (qV (qAndV (qD (qCall (L2N.takes_of rfl rfl rfl rfl) eo c__law_integer hr (qCons (qVar (pv 13)) qNil))) (qOne (qChain o_le op_cmpI o_le op_cmpI (qC pe_int (fun _ => .int)) (qVar (pv 13)) (qC pe_int (fun _ => .int)))))))) (qSeq (qExpr (qApp rfl (pv 9) (qDm (qD (qLst (qCons (qD (qLst (qCons (qVar (pv 13)) qNil))) (qCons (qD (qIfV (qT (qVar (pv 14))) (qCall (L2N.takes_of rfl rfl rfl rfl) eo c__law_due hr (qCons (qVar (pv 13)) (qCons (qD (qLst qNil)) (qCons (qD (qLst qNil)) qNil)))) (qV (qVar (pv 2))))) qNil))))))) (qSeq (qSet (i := 13) sc_law_trials.nd rfl (Or.inl rfl) (qVm (qCallS rfl (L2N.takes_of rfl rfl rfl rfl) eo c__law_odd_value hr (pv 0) (qCons (qVar (pv 3)) qNil)))) (qSeq (qSet (i := 14) sc_law_trials.nd rfl (Or.inl rfl) (qVm (qV (qAndV (qD (qCall (L2N.takes_of rfl rfl rfl rfl) eo c__law_integer hr (qCons (qVar (pv 13)) qNil))) (qOne (qChain o_le op_cmpI o_lt op_cmpI (qC pe_int (fun _ => .int)) (qVar (pv 13)) (qVar (pv 3)))))))) (qSeq (qSet (i := 10) sc_law_trials.nd rfl (Or.inl rfl) (qVm (qCallS rfl (L2N.takes_of rfl rfl rfl rfl) eo c__law_take hr (pv 0) (qCons (qD (qOp (o_addK Z.K) op_add (qCB (k_lenK Z.K) f_len (by rfl) B.len (by decide +kernel) (qCons (qVar (pv 4)) qNil)) (qC pe_int (fun _ => .int)))) qNil)))) (qSeq (qSet (i := 4) sc_law_trials.nd rfl (Or.inl rfl) (qVm (qOp (o_addK Z.K) op_add (qD (qOp (o_addK Z.K) op_add (qD (qSl rfl (qVar (pv 4)) qNoP (qSoP (qVar (pv 10))))) (qD (qLst (qCons (qVar (pv 13)) qNil))))) (qD (qSl rfl (qVar (pv 4)) (qSoP (qVar (pv 10))) qNoP))))) (qSeq (qExpr (qApp rfl (pv 9) (qDm (qD (qLst (qCons (qD (qLst (qCons (qVar (pv 3)) (qCons (qVar (pv 4)) qNil)))) (qCons (qD (qIfV (qT (qVar (pv 14))) (qCall (L2N.takes_of rfl rfl rfl rfl) eo c__law_due hr (qCons (qVar (pv 3)) (qCons (qVar (pv 4)) (qCons (qD (qLst qNil)) qNil)))) (qV (qVar (pv 2))))) qNil))))))) (qSeq (qExpr (qApp rfl (pv 9) (qDm (qD (qLst (qCons (qD (qLst (qCons (qVar (pv 3)) (qCons (qD (qCTyS (k_listK Z.K) f_list (by rfl) B.list (by decide +kernel) (qCons (qVar (pv 4)) qNil))) (qCons (qD (qCTyS (k_listK Z.K) f_list (by rfl) B.list (by decide +kernel) (qCons (qVar (pv 5)) qNil))) qNil))))) (qCons (qD (qIfV (qT (qVar (pv 14))) (qCall (L2N.takes_of rfl rfl rfl rfl) eo c__law_due hr (qCons (qVar (pv 3)) (qCons (qVar (pv 4)) (qCons (qVar (pv 5)) qNil)))) (qV (qVar (pv 2))))) qNil))))))) (qOneS (qRetV (pv 9)))))))))))))))))))))
theorem can_Machine_len {Z : Q.Env} (B : Std Z) (Df : DefAtM Z "Machine" "__len__" "Machine.__len__" s_Machine_len) (fo_steps : FldOk Z.K ["Machine"] "steps") : CanS Z (CXn Z) 1 "Machine" "__len__" ["self"] (spLn Z.K (He.ga Z.K "Machine") "steps") :=
  can_Ln Df sc_Machine_len (fun D hD => fo_steps D (by rw [List.mem_singleton.mp hD]; decide)) (fun _ _ _ _ _ _ us hl => match us, hl with | [_], _ => rfl) (fun f cdv A outer s H E hr => pss_one (ps_ret (pe_callB (k_lenK Z.K) (by rfl) B.len (by decide +kernel) (pa_cons (pe_fld (pv 0) (by rfl)) pa_nil))))
theorem can_Machine_iter {Z : Q.Env} (B : Std Z) (Df : DefAtM Z "Machine" "__iter__" "Machine.__iter__" s_Machine_iter) (fo_steps : FldOk Z.K ["Machine"] "steps") (f_iter : Z.mg "iter" = none) : CanS Z (CXn Z) 1 "Machine" "__iter__" ["self"] (spIt Z.K (He.ga Z.K "Machine") "steps") :=
  can_It Df sc_Machine_iter (fun D hD => fo_steps D (by rw [List.mem_singleton.mp hD]; decide)) (fun _ _ _ _ _ _ us hl => match us, hl with | [_], _ => rfl) (fun f cdv A outer s H E hr => pss_one (ps_ret (pe_callB (k_iterT Z.K) (by rfl) f_iter (by decide +kernel) (pa_cons (pe_fld (pv 0) (by rfl)) pa_nil))))
theorem can_law_shows {Z : Q.Env} (B : Std Z) (Df : DefAt Z "_law_shows" s_law_shows []) (c_Machine_iter : CanS Z (CXn Z) 1 "Machine" "__iter__" ["self"] (spIt Z.K (He.ga Z.K "Machine") "steps")) (c_Machine_len : CanS Z (CXn Z) 1 "Machine" "__len__" ["self"] (spLn Z.K (He.ga Z.K "Machine") "steps")) (fo_rests : FldOk Z.K ["Machine"] "rests") (fo_size : FldOk Z.K ["Machine"] "size") (fo_steps : FldOk Z.K ["Machine"] "steps") : Can Z (CXn Z) 6 "_law_shows" ["made"] [] (lF Z.K 1 m_law_shows) :=
  can_lF Df sc_law_shows rfl b_law_shows (fun _ _ _ _ _ _ us hl => match us, hl with | [_], _ => rfl) (fun _ _ _ h => h) (fun f cdv A outer s H E W E' hr eo => (qOneS (qRet (qVm (qV (qTup (qCons (qFld fo_size rfl (qVar (pv 0))) (qCons (qFld fo_rests rfl (qVar (pv 0))) (qCons (qFld fo_steps rfl (qVar (pv 0))) (qCons (qCB (k_lnO c_Machine_len (hr.mono (by decide))) f_lnO (by rfl) B.len (by decide +kernel) (qCons (qVar (pv 0)) qNil)) (qCons (qD (qCTyS (call_listO c_Machine_iter c_Machine_len (hr.mono (by decide))) f_listO (by rfl) B.list (by decide +kernel) (qCons (qVar (pv 0)) qNil))) qNil)))))))))))
theorem can_law_handed {Z : Q.Env} (B : Std Z) (Df : DefAt Z "_law_handed" s_law_handed []) (c__law_shuffled : Can Z (CXn Z) 3 "_law_shuffled" ["store", "row"] [] (lFs Z.K 1 m_law_shuffled)) (c__law_take : Can Z (CXn Z) 3 "_law_take" ["store", "many"] [] (lFs Z.K 1 m_law_take)) : Can Z (CXn Z) 4 "_law_handed" ["store", "row"] [] (lFs Z.K 1 m_law_handed) :=
  can_lFs Df sc_law_handed rfl (by decide) b_law_handed (fun _ _ _ _ _ _ us hl => match us, hl with | [_, _], _ => rfl) (fun _ _ _ h => h) (fun f cdv A outer s H E W sa ca E' hr eo => (qSeq (qSet (i := 2) sc_law_handed.nd rfl (Or.inl rfl) (qVm (qCallS rfl (L2N.takes_of rfl rfl rfl rfl) eo c__law_shuffled hr (pv 0) (qCons (qVar (pv 1)) qNil)))) (qSeq (qIfS (qTc (o_eqK Z.K (h64 hr)) op_eqP (qD (qCallS rfl (L2N.takes_of rfl rfl rfl rfl) eo c__law_take hr (pv 0) (qCons (qC pe_int (fun _ => .int)) qNil))) (qC pe_int (fun _ => .int)) (nomark _)) (qOneS (qRet (qVm (qV (qCTy (k_tupleK Z.K) f_tuple (by rfl) B.tuple (by decide +kernel) (qCons (qVar (pv 2)) qNil)))))) qNilS) (qOneS (qRetV (pv 2))))))
theorem can_law_same {Z : Q.Env} {n : Nat} (B : Std Z) (Df : DefAt Z "_law_same" s_law_same []) (c__law_same : Can Z (CXn Z) n "_law_same" ["due", "seen"] [] (lF Z.K 2 (m_law_same n))) : Can Z (CXn Z) (n + 1) "_law_same" ["due", "seen"] [] (lF Z.K 2 (m_law_same (n + 1))) :=
  can_lF Df sc_law_same rfl (b_law_same (m_law_same n)) (fun _ _ _ _ _ _ us hl => match us, hl with | [_, _], _ => rfl) (fun _ _ _ h => h) (fun f cdv A outer s H E W E' hr eo => (qSeq (qIfS (PW.pt (qOr (qTc o_isN op_isNP (qVar (pv 0)) (qC pe_non (fun _ => .non)) (nomark _)) (qOr1 (qT (qIsi (Cs := []) (T := "bool") (fun _ h => nomatch h) (by decide) rfl (by rfl) B.isinstance (qVar (pv 0)) (pe_bltn (v := .ty "bool") (by rfl) B.bool (by decide +kernel) rfl)))))) (qOneS (qRet (qVm (qV (qOrV (qAndV (qCmp o_isN op_isNP (qVar (pv 0)) (qC pe_non (fun _ => .non)) (nomark _)) (qOne (qCmp o_isN op_isNP (qVar (pv 1)) (qC pe_non (fun _ => .non)) (nomark _)))) (qOne (qAndV (qIsi (Cs := []) (T := "bool") (fun _ h => nomatch h) (by decide) rfl (by rfl) B.isinstance (qVar (pv 0)) (pe_bltn (v := .ty "bool") (by rfl) B.bool (by decide +kernel) rfl)) (qAndV (qIsi (Cs := []) (T := "bool") (fun _ h => nomatch h) (by decide) rfl (by rfl) B.isinstance (qVar (pv 1)) (pe_bltn (v := .ty "bool") (by rfl) B.bool (by decide +kernel) rfl)) (qOne (qCmp (o_eqK Z.K (h64 hr)) op_eqP (qVar (pv 0)) (qVar (pv 1)) (nomark _))))))))))) qNilS) (qSeq (qIfS (qT (qIsi (Cs := []) (T := "int") (fun _ h => nomatch h) (by decide) rfl (by rfl) B.isinstance (qVar (pv 0)) (pe_bltn (v := .ty "int") (by rfl) B.int (by decide +kernel) rfl))) (qOneS (qRet (qVm (qV (qAndV (qIsi (Cs := []) (T := "int") (fun _ h => nomatch h) (by decide) rfl (by rfl) B.isinstance (qVar (pv 1)) (pe_bltn (v := .ty "int") (by rfl) B.int (by decide +kernel) rfl)) (qAndV (qNotV (qIsi (Cs := []) (T := "bool") (fun _ h => nomatch h) (by decide) rfl (by rfl) B.isinstance (qVar (pv 1)) (pe_bltn (v := .ty "bool") (by rfl) B.bool (by decide +kernel) rfl))) (qOne (qCmp (o_eqK Z.K (h64 hr)) op_eqP (qVar (pv 0)) (qVar (pv 1)) (nomark _))))))))) qNilS) (qSeq (qIfS (qT (qIsi (Cs := []) (T := "str") (fun _ h => nomatch h) (by decide) rfl (by rfl) B.isinstance (qVar (pv 0)) (pe_bltn (v := .ty "str") (by rfl) B.str (by decide +kernel) rfl))) (qOneS (qRet (qVm (qV (qAndV (qIsi (Cs := []) (T := "str") (fun _ h => nomatch h) (by decide) rfl (by rfl) B.isinstance (qVar (pv 1)) (pe_bltn (v := .ty "str") (by rfl) B.str (by decide +kernel) rfl)) (qOne (qCmp (o_eqK Z.K (h64 hr)) op_eqP (qVar (pv 0)) (qVar (pv 1)) (nomark _)))))))) qNilS) (qSeq (qIfS (qT (qIsi (Cs := []) (T := "dict") (fun _ h => nomatch h) (by decide) rfl (by rfl) B.isinstance (qVar (pv 0)) (pe_bltn (v := .ty "dict") (by rfl) B.dict (by decide +kernel) rfl))) (qSeq (qIfS (PW.pt (qOr (qNot (qT (qIsi (Cs := []) (T := "dict") (fun _ h => nomatch h) (by decide) rfl (by rfl) B.isinstance (qVar (pv 1)) (pe_bltn (v := .ty "dict") (by rfl) B.dict (by decide +kernel) rfl)))) (qOr1 (qTc (o_neK Z.K (h64 hr)) op_neP (qCB (k_lenK Z.K) f_len (by rfl) B.len (by decide +kernel) (qCons (qVar (pv 0)) qNil)) (qCB (k_lenK Z.K) f_len (by rfl) B.len (by decide +kernel) (qCons (qVar (pv 1)) qNil)) (nomark _))))) (qOneS (qRet (qVm (qV (qC pe_bl (fun _ => .bl)))))) qNilS) (qSeq (qSet (i := 2) sc_law_same.nd rfl (Or.inl rfl) (qVm qDNew)) (qSeq (qForD (passes_of rfl) rfl rfl (pv 0) (pg_name (i := 3) sc_law_same.nd rfl (Or.inl rfl)) (fun _ => (gNameOk (j := 3))) (gNameOk (j := 3)) (fun _ => (qOneS (qDPut (h1 hr) (pv 2) (qVar (pv 3)) (qVar (pv 3))))) (qOneS (qDPut (h1 hr) (pv 2) (qVar (pv 3)) (qVar (pv 3))))) (qSeq (qForD (passes_of rfl) rfl rfl (pv 1) (pg_name (i := 3) sc_law_same.nd rfl (Or.inl rfl)) (fun _ => (gNameOk (j := 3))) (gNameOk (j := 3)) (fun _ => (qOneS (qIfS (qKeepT (PW.pt (qOr (qTDNotIn (h1 hr) (qVar (pv 3)) (qVar (pv 2))) (qOr (qNot (qT (qD (qCall takesN eoN c__law_same hr (qCons (qDGet (h1 hr) (qVar (pv 2)) (qVar (pv 3)) (fun _ _ => rfl)) (qCons (qVar (pv 3)) qNil)))))) (qOr1 (qNot (qT (qD (qCall takesN eoN c__law_same hr (qCons (qDGet (h1 hr) (qVar (pv 0)) (qVar (pv 3)) (fun _ _ => rfl)) (qCons (qDGet (h1 hr) (qVar (pv 1)) (qVar (pv 3)) (fun _ _ => rfl)) qNil))))))))))) (qOneS (qRet (qVm (qV (qC pe_bl (fun _ => .bl)))))) qNilS))) (qOneS (qIfS (qKeepT (PW.pt (qOr (qTDNotIn (h1 hr) (qVar (pv 3)) (qVar (pv 2))) (qOr (qNot (qT (qD (qCall takesN eoN c__law_same hr (qCons (qDGet (h1 hr) (qVar (pv 2)) (qVar (pv 3)) (fun _ _ => rfl)) (qCons (qVar (pv 3)) qNil)))))) (qOr1 (qNot (qT (qD (qCall takesN eoN c__law_same hr (qCons (qDGet (h1 hr) (qVar (pv 0)) (qVar (pv 3)) (fun _ _ => rfl)) (qCons (qDGet (h1 hr) (qVar (pv 1)) (qVar (pv 3)) (fun _ _ => rfl)) qNil))))))))))) (qOneS (qRet (qVm (qV (qC pe_bl (fun _ => .bl)))))) qNilS))) (qOneS (qRet (qVm (qV (qC pe_bl (fun _ => .bl)))))))))) qNilS) (qSeq (qIfS (PW.pt (qAnd (qT (qIsi (Cs := []) (T := "list") (fun _ h => nomatch h) (by decide) rfl (by rfl) B.isinstance (qVar (pv 0)) (pe_bltn (v := .ty "list") (by rfl) B.list (by decide +kernel) rfl))) (qAnd1 (qNot (qT (qIsi (Cs := []) (T := "list") (fun _ h => nomatch h) (by decide) rfl (by rfl) B.isinstance (qVar (pv 1)) (pe_bltn (v := .ty "list") (by rfl) B.list (by decide +kernel) rfl))))))) (qOneS (qRet (qVm (qV (qC pe_bl (fun _ => .bl)))))) qNilS) (qSeq (qIfS (PW.pt (qAnd (qT (qIsi (Cs := []) (T := "tuple") (fun _ h => nomatch h) (by decide) rfl (by rfl) B.isinstance (qVar (pv 0)) (pe_bltn (v := .ty "tuple") (by rfl) B.tuple (by decide +kernel) rfl))) (qAnd1 (qNot (qT (qIsi (Cs := []) (T := "tuple") (fun _ h => nomatch h) (by decide) rfl (by rfl) B.isinstance (qVar (pv 1)) (pe_bltn (v := .ty "tuple") (by rfl) B.tuple (by decide +kernel) rfl))))))) (qOneS (qRet (qVm (qV (qC pe_bl (fun _ => .bl)))))) qNilS) (qSeq (qIfS (qTc (o_neK Z.K (h64 hr)) op_neP (qCB (k_lenK Z.K) f_len (by rfl) B.len (by decide +kernel) (qCons (qVar (pv 0)) qNil)) (qCB (k_lenK Z.K) f_len (by rfl) B.len (by decide +kernel) (qCons (qVar (pv 1)) qNil)) (nomark _)) (qOneS (qRet (qVm (qV (qC pe_bl (fun _ => .bl)))))) qNilS) (qSeq (qFor (passes_of rfl) rfl (qRng1 (by rfl) B.range (qCons (qCB (k_lenK Z.K) f_len (by rfl) B.len (by decide +kernel) (qCons (qVar (pv 0)) qNil)) qNil)) (pg_name (i := 4) sc_law_same.nd rfl (Or.inl rfl)) (gNameOk (j := 4)) (qOneS (qIfS (qNot (qT (qD (qCall (L2N.takes_of rfl rfl rfl rfl) eo c__law_same hr (qCons (qIx rfl (qVar (pv 0)) (qVar (pv 4)) (fun _ _ => rfl)) (qCons (qIx rfl (qVar (pv 1)) (qVar (pv 4)) (fun _ _ => rfl)) qNil)))))) (qOneS (qRet (qVm (qV (qC pe_bl (fun _ => .bl)))))) qNilS))) (qOneS (qRet (qVm (qV (qC pe_bl (fun _ => .bl)))))))))))))))
theorem can_steps_by_state {Z : Q.Env} (B : Std Z) (Df : DefAt Z "steps_by_state" s_steps_by_state []) : Can Z (CXn Z) 1 "steps_by_state" ["size", "steps"] [] (lF Z.K 2 m_steps_by_state) :=
  can_lF Df sc_steps_by_state rfl b_steps_by_state (fun _ _ _ _ _ _ us hl => match us, hl with | [_, _], _ => rfl) (fun _ _ _ h => h) (fun f cdv A outer s H E W E' hr eo => (qSeq (qSetLc2 (i := 2) (own := [("p", 3)]) (by rfl) sc_steps_by_state.nd rfl rfl (sw_true rfl rfl rfl (by decide +kernel)) (qRng1 (by rfl) B.range (qCons (qVar (pv 0)) qNil)) (blkOk_by (own := [("p", 3)]) (N := nn_steps_by_state) (sc := defScope s_steps_by_state) (by decide +kernel)) (fun _ _ _ _ _ => (pg_name (i := 3) sc_steps_by_state.nd rfl (Or.inl rfl))) (fun _ _ _ _ _ => (qLst qNil)) (gNameW (j := 3)) (by rfl)) (qSeq (qFor (passes_of rfl) rfl (qIt rfl (qVar (pv 1))) (pg_name (i := 4) sc_steps_by_state.nd rfl (Or.inl rfl)) (gNameOk (j := 4)) (qOneS (qExpr (qApp2 rfl (pv 2) (qIx rfl (qVar (pv 4)) (qC pe_int (fun _ => .int)) (fun _ _ => rfl)) (fun _ _ => rfl) (qVar (pv 4)))))) (qOneS (qRet (qVm (qV (qCTy (k_tupleK Z.K) f_tuple (by rfl) B.tuple (by decide +kernel) (qCons (qD (qLc (own := [("row", 5)]) (by rfl) sc_steps_by_state.nd (qIt rfl (qVar (pv 2))) (blkOk_by (own := [("row", 5)]) (N := nn_steps_by_state) (sc := defScope s_steps_by_state) (by decide +kernel)) (fun _ _ _ _ _ => (pg_name (i := 5) sc_steps_by_state.nd rfl (Or.inl rfl))) (fun _ _ _ _ _ => qYes) (fun _ _ _ _ _ => (qCTy (k_tupleK Z.K) f_tuple (by rfl) B.tuple (by decide +kernel) (qCons (qVar (pv 5)) qNil))) (gNameW (j := 5)) (by rfl))) qNil)))))))))
theorem can_is_whole {Z : Q.Env} (B : Std Z) (Df : DefAt Z "is_whole" s_is_whole []) : Can Z (CXn Z) 1 "is_whole" ["value", "low", "high"] [] (lF Z.K 3 m_is_whole) :=
  can_lF Df sc_is_whole rfl b_is_whole (fun _ _ _ _ _ _ us hl => match us, hl with | [_, _, _], _ => rfl) (fun _ _ _ h => h) (fun f cdv A outer s H E W E' hr eo => (qSeq (qIfS (PW.pt (qOr (qNot (qT (qIsi (Cs := []) (T := "int") (fun _ h => nomatch h) (by decide) rfl (by rfl) B.isinstance (qVar (pv 0)) (pe_bltn (v := .ty "int") (by rfl) B.int (by decide +kernel) rfl)))) (qOr1 (qT (qIsi (Cs := []) (T := "bool") (fun _ h => nomatch h) (by decide) rfl (by rfl) B.isinstance (qVar (pv 0)) (pe_bltn (v := .ty "bool") (by rfl) B.bool (by decide +kernel) rfl)))))) (qOneS (qRet (qVm (qV (qC pe_bl (fun _ => .bl)))))) qNilS) (qOneS (qRet (qVm (qV (qChain o_le op_cmpI o_le op_cmpI (qVar (pv 1)) (qVar (pv 0)) (qVar (pv 2)))))))))
theorem can_good_name {Z : Q.Env} (B : Std Z) (Df : DefAt Z "good_name" s_good_name []) (g_LONGEST_NAME : Gv Z "LONGEST_NAME" (.int 8)) (g_SMALL_LETTERS : Gv Z "SMALL_LETTERS" (.str (Str.ofString "abcdefghijklmnopqrstuvwxyz"))) : Can Z (CXn Z) 1 "good_name" ["text"] [] (lF Z.K 1 m_good_name) :=
  can_lF Df sc_good_name rfl b_good_name (fun _ _ _ _ _ _ us hl => match us, hl with | [_], _ => rfl) (fun _ _ _ h => h) (fun f cdv A outer s H E W E' hr eo => (qSeq (qIfS (qNot (qT (qIsi (Cs := []) (T := "str") (fun _ h => nomatch h) (by decide) rfl (by rfl) B.isinstance (qVar (pv 0)) (pe_bltn (v := .ty "str") (by rfl) B.str (by decide +kernel) rfl)))) (qOneS (qRet (qVm (qV (qC pe_bl (fun _ => .bl)))))) qNilS) (qSeq (qIfS (PW.pt (qOr (qTc o_lt op_cmpI (qCB (k_lenK Z.K) f_len (by rfl) B.len (by decide +kernel) (qCons (qVar (pv 0)) qNil)) (qC pe_int (fun _ => .int)) (nomark _)) (qOr1 (qTc o_gt op_cmpI (qCB (k_lenK Z.K) f_len (by rfl) B.len (by decide +kernel) (qCons (qVar (pv 0)) qNil)) (qC (pglob g_LONGEST_NAME) (fun _ => .int)) (nomark _))))) (qOneS (qRet (qVm (qV (qC pe_bl (fun _ => .bl)))))) qNilS) (qOneS (qRet (qVm (qV (qCB (k_allK Z.K) f_all (by rfl) B.all (by decide +kernel) (qCons (qD (qLc (own := [("sign", 1)]) (by rfl) sc_good_name.nd (qIt rfl (qVar (pv 0))) (blkOk_by (own := [("sign", 1)]) (N := nn_good_name) (sc := defScope s_good_name) (by decide +kernel)) (fun _ _ _ _ _ => (pg_name (i := 1) sc_good_name.nd rfl (Or.inl rfl))) (fun _ _ _ _ _ => qYes) (fun _ _ _ _ _ => (qCmp (o_inK Z.K (h65 hr)) op_inP (qVar (pv 1)) (qC (pglob g_SMALL_LETTERS) (fun _ => .str)) (by rfl))) (gNameW (j := 1)) (by rfl))) qNil)))))))))
theorem can_short_number {Z : Q.Env} (B : Std Z) (Df : DefAt Z "short_number" s_short_number []) (g_DIGITS : Gv Z "DIGITS" (.str (Str.ofString "0123456789"))) : Can Z (CXn Z) 1 "short_number" ["text"] [] (lF Z.K 1 m_short_number) :=
  can_lF Df sc_short_number rfl b_short_number (fun _ _ _ _ _ _ us hl => match us, hl with | [_], _ => rfl) (fun _ _ _ h => h) (fun f cdv A outer s H E W E' hr eo => (qSeq (qIfS (PW.pt (qOr (qTc o_lt op_cmpI (qCB (k_lenK Z.K) f_len (by rfl) B.len (by decide +kernel) (qCons (qVar (pv 0)) qNil)) (qC pe_int (fun _ => .int)) (nomark _)) (qOr1 (qTc o_gt op_cmpI (qCB (k_lenK Z.K) f_len (by rfl) B.len (by decide +kernel) (qCons (qVar (pv 0)) qNil)) (qC pe_int (fun _ => .int)) (nomark _))))) (qOneS (qRet (qVm (qV (qC pe_bl (fun _ => .bl)))))) qNilS) (qSeq (qIfS (qNot (qT (qCB (k_allK Z.K) f_all (by rfl) B.all (by decide +kernel) (qCons (qD (qLc (own := [("sign", 1)]) (by rfl) sc_short_number.nd (qIt rfl (qVar (pv 0))) (blkOk_by (own := [("sign", 1)]) (N := nn_short_number) (sc := defScope s_short_number) (by decide +kernel)) (fun _ _ _ _ _ => (pg_name (i := 1) sc_short_number.nd rfl (Or.inl rfl))) (fun _ _ _ _ _ => qYes) (fun _ _ _ _ _ => (qCmp (o_inK Z.K (h65 hr)) op_inP (qVar (pv 1)) (qC (pglob g_DIGITS) (fun _ => .str)) (by rfl))) (gNameW (j := 1)) (by rfl))) qNil)))) (qOneS (qRet (qVm (qV (qC pe_bl (fun _ => .bl)))))) qNilS) (qOneS (qRet (qVm (qV (qOrV (qCmp (o_eqK Z.K (h64 hr)) op_eqP (qCB (k_lenK Z.K) f_len (by rfl) B.len (by decide +kernel) (qCons (qVar (pv 0)) qNil)) (qC pe_int (fun _ => .int)) (nomark _)) (qOne (qCmp (o_neK Z.K (h64 hr)) op_neP (qIx rfl (qVar (pv 0)) (qC pe_int (fun _ => .int)) (fun _ _ => rfl)) (qC pe_str (fun _ => .str)) (nomark _)))))))))))
theorem can_good_letter {Z : Q.Env} (B : Std Z) (Df : DefAt Z "good_letter" s_good_letter []) (c_good_name : Can Z (CXn Z) 1 "good_name" ["text"] [] (lF Z.K 1 m_good_name)) (c_short_number : Can Z (CXn Z) 1 "short_number" ["text"] [] (lF Z.K 1 m_short_number)) : Can Z (CXn Z) 2 "good_letter" ["text"] [] (lF Z.K 1 m_good_letter) :=
  can_lF Df sc_good_letter rfl b_good_letter (fun _ _ _ _ _ _ us hl => match us, hl with | [_], _ => rfl) (fun _ _ _ h => h) (fun f cdv A outer s H E W E' hr eo => (qSeq (qIfS (qNot (qT (qIsi (Cs := []) (T := "str") (fun _ h => nomatch h) (by decide) rfl (by rfl) B.isinstance (qVar (pv 0)) (pe_bltn (v := .ty "str") (by rfl) B.str (by decide +kernel) rfl)))) (qOneS (qRet (qVm (qV (qC pe_bl (fun _ => .bl)))))) qNilS) (qSeq (qAsg (qDm (qD (qPart (qVar (pv 0)) (qC pe_str (fun _ => .str))))) (k_tupG Z.K (by rfl) (pgs_cons (pg_name (i := 1) sc_good_letter.nd rfl (Or.inl rfl)) (pgs_cons (pg_name (i := 2) sc_good_letter.nd rfl (Or.inl rfl)) (pgs_cons (pg_name (i := 3) sc_good_letter.nd rfl (Or.inl rfl)) pgs_nil)))) (gTupOk (n := 3) (gConsOk (gNameOk (j := 1)) (gConsOk (gNameOk (j := 2)) (gConsOk (gNameOk (j := 3)) gNilOk))))) (qSeq (qIfS (qTc (o_eqK Z.K (h64 hr)) op_eqP (qVar (pv 2)) (qC pe_str (fun _ => .str)) (nomark _)) (qOneS (qRet (qVm (qCall (L2N.takes_of rfl rfl rfl rfl) eo c_good_name hr (qCons (qVar (pv 1)) qNil))))) qNilS) (qOneS (qRet (qVm (qV (qAndV (qD (qCall (L2N.takes_of rfl rfl rfl rfl) eo c_good_name hr (qCons (qVar (pv 1)) qNil))) (qOne (qD (qCall (L2N.takes_of rfl rfl rfl rfl) eo c_short_number hr (qCons (qVar (pv 3)) qNil)))))))))))))
theorem can_step_fits {Z : Q.Env} (B : Std Z) (Df : DefAt Z "step_fits" s_step_fits []) (c_good_letter : Can Z (CXn Z) 2 "good_letter" ["text"] [] (lF Z.K 1 m_good_letter)) (c_is_whole : Can Z (CXn Z) 2 "is_whole" ["value", "low", "high"] [] (lF Z.K 3 m_is_whole)) (g_GREATEST_PEER : Gv Z "GREATEST_PEER" (.int 5)) : Can Z (CXn Z) 3 "step_fits" ["step", "size"] [] (lF Z.K 2 m_step_fits) :=
  can_lF Df sc_step_fits rfl b_step_fits (fun _ _ _ _ _ _ us hl => match us, hl with | [_, _], _ => rfl) (fun _ _ _ h => h) (fun f cdv A outer s H E W E' hr eo => (qSeq (qIfS (PW.pt (qOr (qNot (qT (qIsi (Cs := []) (T := "tuple") (fun _ h => nomatch h) (by decide) rfl (by rfl) B.isinstance (qVar (pv 0)) (pe_bltn (v := .ty "tuple") (by rfl) B.tuple (by decide +kernel) rfl)))) (qOr1 (qTc (o_neK Z.K (h64 hr)) op_neP (qCB (k_lenK Z.K) f_len (by rfl) B.len (by decide +kernel) (qCons (qVar (pv 0)) qNil)) (qC pe_int (fun _ => .int)) (nomark _))))) (qOneS (qRet (qVm (qV (qC pe_bl (fun _ => .bl)))))) qNilS) (qSeq (qAsg (qDm (qVar (pv 0))) (k_tupG Z.K (by rfl) (pgs_cons (pg_name (i := 2) sc_step_fits.nd rfl (Or.inl rfl)) (pgs_cons (pg_name (i := 3) sc_step_fits.nd rfl (Or.inl rfl)) (pgs_cons (pg_name (i := 4) sc_step_fits.nd rfl (Or.inl rfl)) (pgs_cons (pg_name (i := 5) sc_step_fits.nd rfl (Or.inl rfl)) (pgs_cons (pg_name (i := 6) sc_step_fits.nd rfl (Or.inl rfl)) pgs_nil)))))) (gTupOk (n := 5) (gConsOk (gNameOk (j := 2)) (gConsOk (gNameOk (j := 3)) (gConsOk (gNameOk (j := 4)) (gConsOk (gNameOk (j := 5)) (gConsOk (gNameOk (j := 6)) gNilOk))))))) (qSeq (qIfS (PW.pt (qOr (qNot (qT (qD (qCall (L2N.takes_of rfl rfl rfl rfl) eo c_is_whole hr (qCons (qVar (pv 2)) (qCons (qC pe_int (fun _ => .int)) (qCons (qOpD o_sub op_arith0 (qVar (pv 1)) (qC pe_int (fun _ => .int))) qNil))))))) (qOr1 (qNot (qT (qD (qCall (L2N.takes_of rfl rfl rfl rfl) eo c_is_whole hr (qCons (qVar (pv 6)) (qCons (qC pe_int (fun _ => .int)) (qCons (qOpD o_sub op_arith0 (qVar (pv 1)) (qC pe_int (fun _ => .int))) qNil)))))))))) (qOneS (qRet (qVm (qV (qC pe_bl (fun _ => .bl)))))) qNilS) (qSeq (qIfS (PW.pt (qOr (qNot (qT (qIsi (Cs := []) (T := "str") (fun _ h => nomatch h) (by decide) rfl (by rfl) B.isinstance (qVar (pv 3)) (pe_bltn (v := .ty "str") (by rfl) B.str (by decide +kernel) rfl)))) (qOr1 (qNot (qT (qIsi (Cs := []) (T := "str") (fun _ h => nomatch h) (by decide) rfl (by rfl) B.isinstance (qVar (pv 5)) (pe_bltn (v := .ty "str") (by rfl) B.str (by decide +kernel) rfl))))))) (qOneS (qRet (qVm (qV (qC pe_bl (fun _ => .bl)))))) qNilS) (qSeq (qIfS (qTc (o_eqK Z.K (h64 hr)) op_eqP (qVar (pv 3)) (qC pe_str (fun _ => .str)) (nomark _)) (qOneS (qRet (qVm (qV (qAndV (qD (qCall (L2N.takes_of rfl rfl rfl rfl) eo c_is_whole hr (qCons (qVar (pv 4)) (qCons (qNeg (qC pe_int (fun _ => .int))) (qCons (qNeg (qC pe_int (fun _ => .int))) qNil))))) (qOne (qCmp (o_eqK Z.K (h64 hr)) op_eqP (qVar (pv 5)) (qC pe_str (fun _ => .str)) (nomark _)))))))) qNilS) (qSeq (qIfS (PW.pt (qOr (qTc (o_eqK Z.K (h64 hr)) op_eqP (qVar (pv 3)) (qC pe_str (fun _ => .str)) (nomark _)) (qOr1 (qTc (o_eqK Z.K (h64 hr)) op_eqP (qVar (pv 3)) (qC pe_str (fun _ => .str)) (nomark _))))) (qOneS (qRet (qVm (qV (qAndV (qD (qCall (L2N.takes_of rfl rfl rfl rfl) eo c_is_whole hr (qCons (qVar (pv 4)) (qCons (qC pe_int (fun _ => .int)) (qCons (qC (pglob g_GREATEST_PEER) (fun _ => .int)) qNil))))) (qOne (qD (qCall (L2N.takes_of rfl rfl rfl rfl) eo c_good_letter hr (qCons (qVar (pv 5)) qNil))))))))) qNilS) (qOneS (qRet (qVm (qV (qC pe_bl (fun _ => .bl)))))))))))))
theorem can_check_parts {Z : Q.Env} (B : Std Z) (Df : DefAt Z "check_parts" s_check_parts []) (c_is_whole : Can Z (CXn Z) 3 "is_whole" ["value", "low", "high"] [] (lF Z.K 3 m_is_whole)) (c_step_fits : Can Z (CXn Z) 3 "step_fits" ["step", "size"] [] (lF Z.K 2 m_step_fits)) (g_MOST_STATES : Gv Z "MOST_STATES" (.int 60)) (g_MOST_STEPS : Gv Z "MOST_STEPS" (.int 200)) (e_BadMachine : ErrC Z "BadMachine") : Can Z (CXn Z) 4 "check_parts" ["size", "rests", "steps"] [] (lF Z.K 3 m_check_parts) :=
  can_lF Df sc_check_parts rfl b_check_parts (fun _ _ _ _ _ _ us hl => match us, hl with | [_, _, _], _ => rfl) (fun _ _ _ h => h) (fun f cdv A outer s H E W E' hr eo => (qSeq (qIfS (qNot (qT (qD (qCall (L2N.takes_of rfl rfl rfl rfl) eo c_is_whole hr (qCons (qVar (pv 0)) (qCons (qC pe_int (fun _ => .int)) (qCons (qC (pglob g_MOST_STATES) (fun _ => .int)) qNil))))))) (qOneS (qRaise rfl rfl (L2N.takes_of rfl rfl rfl rfl) eo e_BadMachine)) qNilS) (qSeq (qIfS (qNot (qT (qCB (k_allK Z.K) f_all (by rfl) B.all (by decide +kernel) (qCons (qD (qLc (own := [("p", 3)]) (by rfl) sc_check_parts.nd (qIt rfl (qVar (pv 1))) (blkOk_by (own := [("p", 3)]) (N := nn_check_parts) (sc := defScope s_check_parts) (by decide +kernel)) (fun _ _ _ _ _ => (pg_name (i := 3) sc_check_parts.nd rfl (Or.inl rfl))) (fun _ _ _ _ _ => qYes) (fun _ _ _ _ _ => (qD (qCall takesN eoN c_is_whole hr (qCons (qVar (pv 3)) (qCons (qC pe_int (fun _ => .int)) (qCons (qOpD o_sub op_arith0 (qVar (pv 0)) (qC pe_int (fun _ => .int))) qNil)))))) (gNameW (j := 3)) (by rfl))) qNil)))) (qOneS (qRaise rfl rfl (L2N.takes_of rfl rfl rfl rfl) eo e_BadMachine)) qNilS) (qSeq (qIfS (qTc o_gt op_cmpI (qCB (k_lenK Z.K) f_len (by rfl) B.len (by decide +kernel) (qCons (qVar (pv 2)) qNil)) (qC (pglob g_MOST_STEPS) (fun _ => .int)) (nomark _)) (qOneS (qRaise rfl rfl (L2N.takes_of rfl rfl rfl rfl) eo e_BadMachine)) qNilS) (qSeq (qIfS (qNot (qT (qCB (k_allK Z.K) f_all (by rfl) B.all (by decide +kernel) (qCons (qD (qLc (own := [("step", 4)]) (by rfl) sc_check_parts.nd (qIt rfl (qVar (pv 2))) (blkOk_by (own := [("step", 4)]) (N := nn_check_parts) (sc := defScope s_check_parts) (by decide +kernel)) (fun _ _ _ _ _ => (pg_name (i := 4) sc_check_parts.nd rfl (Or.inl rfl))) (fun _ _ _ _ _ => qYes) (fun _ _ _ _ _ => (qD (qCall takesN eoN c_step_fits hr (qCons (qVar (pv 4)) (qCons (qVar (pv 0)) qNil))))) (gNameW (j := 4)) (by rfl))) qNil)))) (qOneS (qRaise rfl rfl (L2N.takes_of rfl rfl rfl rfl) eo e_BadMachine)) qNilS) (qOneS (qIfS (qTc o_lt op_cmpI (qLenSet rfl (h64 hr) (by rfl) B.len (by rfl) B.set (qVar (pv 2))) (qCB (k_lenK Z.K) f_len (by rfl) B.len (by decide +kernel) (qCons (qVar (pv 2)) qNil)) (nomark _)) (qOneS (qRaise rfl rfl (L2N.takes_of rfl rfl rfl rfl) eo e_BadMachine)) qNilS)))))))
theorem can_Machine_init_1 {Z : Q.Env} {d0 d1 : Addr} (B : Std Z) (Df : DefAtI Z "Machine" "Machine.__init__" s_Machine_init [.ref d0, .ref d1]) (c_check_parts : Can Z (CXn Z) 4 "check_parts" ["size", "rests", "steps"] [] (lF Z.K 3 m_check_parts)) (c_steps_by_state : Can Z (CXn Z) 4 "steps_by_state" ["size", "steps"] [] (lF Z.K 2 m_steps_by_state)) (fo_outs : FldOk Z.K ["Machine"] "outs") (fo_rests : FldOk Z.K ["Machine"] "rests") (fo_size : FldOk Z.K ["Machine"] "size") (fo_steps : FldOk Z.K ["Machine"] "steps") : CanN Z (CXn Z) 5 "Machine" ["self", "size", "rests", "steps"] [.ref d0, .ref d1] (lFi Z.K 3 "Machine" m_Machine_init) :=
  can_I 2 0 Df sc_Machine_init rfl (by decide) (fun h => nomatch h) rfl b_Machine_init (fun _ _ _ _ _ _ _ us its h1 h2 => match us, its, h1, h2 with | [_, _], [_, _], _, _ => ⟨_, rfl, rfl⟩) (fun _ _ _ h => h) (fun f cdv A outer s H E W x E' hr eo => (qSeq (qExpr (qVm (qCall (L2N.takes_of rfl rfl rfl rfl) eo c_check_parts hr (qCons (qVar (pv 1)) (qCons (qVar (pv 2)) (qCons (qVar (pv 3)) qNil)))))) (qSeq (qSetF fo_size rfl (pv 0) (qVar (pv 1))) (qSeq (qSetF fo_rests rfl (pv 0) (qCTy (k_tupleK Z.K) f_tuple (by rfl) B.tuple (by decide +kernel) (qCons (qD (qSortSet rfl (by rfl) B.sorted (by rfl) B.set (qVar (pv 2)))) qNil))) (qSeq (qSetF fo_steps rfl (pv 0) (qCTy (k_tupleK Z.K) f_tuple (by rfl) B.tuple (by decide +kernel) (qCons (qD (qCBS (k_sortK Z.K) f_sorted (by rfl) B.sorted (by decide +kernel) (qCons (qVar (pv 3)) qNil))) qNil))) (qOneS (qSetF fo_outs rfl (pv 0) (qD (qCall (L2N.takes_of rfl rfl rfl rfl) eo c_steps_by_state hr (qCons (qVar (pv 1)) (qCons (qFldO fo_steps rfl (pv 0)) qNil)))))))))))
theorem can_Machine_init_2 {Z : Q.Env} {d0 d1 : Addr} (B : Std Z) (Df : DefAtI Z "Machine" "Machine.__init__" s_Machine_init [.ref d0, .ref d1]) (c_check_parts : Can Z (CXn Z) 4 "check_parts" ["size", "rests", "steps"] [] (lF Z.K 3 m_check_parts)) (c_steps_by_state : Can Z (CXn Z) 4 "steps_by_state" ["size", "steps"] [] (lF Z.K 2 m_steps_by_state)) (fo_outs : FldOk Z.K ["Machine"] "outs") (fo_rests : FldOk Z.K ["Machine"] "rests") (fo_size : FldOk Z.K ["Machine"] "size") (fo_steps : FldOk Z.K ["Machine"] "steps") : CanN Z (CXn Z) 5 "Machine" ["self", "size", "rests", "steps"] [.ref d1] (lFi Z.K 3 "Machine" m_Machine_init) :=
  can_I 3 1 Df sc_Machine_init rfl (by decide) (fun h => nomatch h) rfl b_Machine_init (fun _ _ _ _ _ _ _ us its h1 h2 => match us, its, h1, h2 with | [_, _, _], [_, _], _, _ => ⟨_, rfl, rfl⟩) (fun _ _ _ h => h) (fun f cdv A outer s H E W x E' hr eo => (qSeq (qExpr (qVm (qCall (L2N.takes_of rfl rfl rfl rfl) eo c_check_parts hr (qCons (qVar (pv 1)) (qCons (qVar (pv 2)) (qCons (qVar (pv 3)) qNil)))))) (qSeq (qSetF fo_size rfl (pv 0) (qVar (pv 1))) (qSeq (qSetF fo_rests rfl (pv 0) (qCTy (k_tupleK Z.K) f_tuple (by rfl) B.tuple (by decide +kernel) (qCons (qD (qSortSet rfl (by rfl) B.sorted (by rfl) B.set (qVar (pv 2)))) qNil))) (qSeq (qSetF fo_steps rfl (pv 0) (qCTy (k_tupleK Z.K) f_tuple (by rfl) B.tuple (by decide +kernel) (qCons (qD (qCBS (k_sortK Z.K) f_sorted (by rfl) B.sorted (by decide +kernel) (qCons (qVar (pv 3)) qNil))) qNil))) (qOneS (qSetF fo_outs rfl (pv 0) (qD (qCall (L2N.takes_of rfl rfl rfl rfl) eo c_steps_by_state hr (qCons (qVar (pv 1)) (qCons (qFldO fo_steps rfl (pv 0)) qNil)))))))))))
theorem can_Machine_init_3 {Z : Q.Env} {d0 d1 : Addr} (B : Std Z) (Df : DefAtI Z "Machine" "Machine.__init__" s_Machine_init [.ref d0, .ref d1]) (c_check_parts : Can Z (CXn Z) 4 "check_parts" ["size", "rests", "steps"] [] (lF Z.K 3 m_check_parts)) (c_steps_by_state : Can Z (CXn Z) 4 "steps_by_state" ["size", "steps"] [] (lF Z.K 2 m_steps_by_state)) (fo_outs : FldOk Z.K ["Machine"] "outs") (fo_rests : FldOk Z.K ["Machine"] "rests") (fo_size : FldOk Z.K ["Machine"] "size") (fo_steps : FldOk Z.K ["Machine"] "steps") : CanN Z (CXn Z) 5 "Machine" ["self", "size", "rests", "steps"] [] (lFi Z.K 3 "Machine" m_Machine_init) :=
  can_I 4 2 Df sc_Machine_init rfl (by decide) (fun h => nomatch h) rfl b_Machine_init (fun _ _ _ _ _ _ _ us its h1 h2 => match us, its, h1, h2 with | [_, _, _, _], [_, _], _, _ => ⟨_, rfl, rfl⟩) (fun _ _ _ h => h) (fun f cdv A outer s H E W x E' hr eo => (qSeq (qExpr (qVm (qCall (L2N.takes_of rfl rfl rfl rfl) eo c_check_parts hr (qCons (qVar (pv 1)) (qCons (qVar (pv 2)) (qCons (qVar (pv 3)) qNil)))))) (qSeq (qSetF fo_size rfl (pv 0) (qVar (pv 1))) (qSeq (qSetF fo_rests rfl (pv 0) (qCTy (k_tupleK Z.K) f_tuple (by rfl) B.tuple (by decide +kernel) (qCons (qD (qSortSet rfl (by rfl) B.sorted (by rfl) B.set (qVar (pv 2)))) qNil))) (qSeq (qSetF fo_steps rfl (pv 0) (qCTy (k_tupleK Z.K) f_tuple (by rfl) B.tuple (by decide +kernel) (qCons (qD (qCBS (k_sortK Z.K) f_sorted (by rfl) B.sorted (by decide +kernel) (qCons (qVar (pv 3)) qNil))) qNil))) (qOneS (qSetF fo_outs rfl (pv 0) (qD (qCall (L2N.takes_of rfl rfl rfl rfl) eo c_steps_by_state hr (qCons (qVar (pv 1)) (qCons (qFldO fo_steps rfl (pv 0)) qNil)))))))))))
theorem can_law_error {Z : Q.Env} (B : Std Z) (Df : DefAt Z "_law_error" s_law_error []) (rows : ∀ x ∈ errC, ErrRow Z (He.ga Z.K x) x errNs) : CanE Z 1 "_law_error" ["e"] (lE Z.K m_law_error) :=
  can_lE Df sc_law_error rfl (by decide) b_law_error (fun er => ∃ nm, er = .plain nm) (fun er Q h => h.1.imp fun _ h => h.1) (fun _ _ _ _ _ _ us hl => match us, hl with | [_], _ => rfl) (fun er Q h => h.2) (fun er Q h => by
    obtain ⟨⟨nm, e, hm⟩, _⟩ := h
    subst e
    exact rows nm hm) fun f cdv A outer s H p d er W hP hot hz hf R hk hr => by
    obtain ⟨nm, eP⟩ := hP
    subst eP
    have hd : d = none := hk.2
    obtain ⟨C_BadMachine, g_BadMachine, e_BadMachine⟩ := R.row "BadMachine" (by simp)
    obtain ⟨C_BadNet, g_BadNet, e_BadNet⟩ := R.row "BadNet" (by simp)
    obtain ⟨C_BadStanding, g_BadStanding, e_BadStanding⟩ := R.row "BadStanding" (by simp)
    obtain ⟨C_BadWord, g_BadWord, e_BadWord⟩ := R.row "BadWord" (by simp)
    obtain ⟨C_BadText, g_BadText, e_BadText⟩ := R.row "BadText" (by simp)
    obtain ⟨C_BadWish, g_BadWish, e_BadWish⟩ := R.row "BadWish" (by simp)
    obtain ⟨C_BadPaper, g_BadPaper, e_BadPaper⟩ := R.row "BadPaper" (by simp)
    obtain ⟨C_Cannot, g_Cannot, e_Cannot⟩ := R.row "Cannot" (by simp)
    obtain ⟨C_Loud, g_Loud, e_Loud⟩ := R.row "Loud" (by simp)
    obtain ⟨C_NotCalm, g_NotCalm, e_NotCalm⟩ := R.row "NotCalm" (by simp)
    obtain ⟨C_NotThere, g_NotThere, e_NotThere⟩ := R.row "NotThere" (by simp)
    obtain ⟨C_NoJoin, g_NoJoin, e_NoJoin⟩ := R.row "NoJoin" (by simp)
    obtain ⟨C_TooMany, g_TooMany, e_TooMany⟩ := R.row "TooMany" (by simp)
    obtain ⟨C_Reserved, g_Reserved, e_Reserved⟩ := R.row "Reserved" (by simp)
    obtain ⟨C_Nothing, g_Nothing, e_Nothing⟩ := R.row "Nothing" (by simp)
    obtain ⟨C_OneError, g_OneError, e_OneError⟩ := R.one
    exact (qSeq (qSet (i := 1) sc_law_error.nd rfl (Or.inr rfl) (qVm (qLst (qCons (qC pe_str (fun _ => .str)) (qCons (qC pe_str (fun _ => .str)) (qCons (qC pe_str (fun _ => .str)) (qCons (qC pe_str (fun _ => .str)) (qCons (qC pe_str (fun _ => .str)) (qCons (qC pe_str (fun _ => .str)) (qCons (qC pe_str (fun _ => .str)) (qCons (qC pe_str (fun _ => .str)) (qCons (qC pe_str (fun _ => .str)) (qCons (qC pe_str (fun _ => .str)) (qCons (qC pe_str (fun _ => .str)) (qCons (qC pe_str (fun _ => .str)) (qCons (qC pe_str (fun _ => .str)) (qCons (qC pe_str (fun _ => .str)) (qCons (qC pe_str (fun _ => .str)) qNil)))))))))))))))))) (qSeq (qSet (i := 2) sc_law_error.nd rfl (Or.inr rfl) (qVm (qLst (qCons (qIsE List.mem_cons_self R.ex hz hd hf (by rfl) B.isinstance rfl (pv 0) (pe_glob (v := .ref C_BadMachine) (by rfl) g_BadMachine rfl) (.ref C_BadMachine) (fun w h => h) e_BadMachine) (qCons (qIsE List.mem_cons_self R.ex hz hd hf (by rfl) B.isinstance rfl (pv 0) (pe_glob (v := .ref C_BadNet) (by rfl) g_BadNet rfl) (.ref C_BadNet) (fun w h => h) e_BadNet) (qCons (qIsE List.mem_cons_self R.ex hz hd hf (by rfl) B.isinstance rfl (pv 0) (pe_glob (v := .ref C_BadStanding) (by rfl) g_BadStanding rfl) (.ref C_BadStanding) (fun w h => h) e_BadStanding) (qCons (qIsE List.mem_cons_self R.ex hz hd hf (by rfl) B.isinstance rfl (pv 0) (pe_glob (v := .ref C_BadWord) (by rfl) g_BadWord rfl) (.ref C_BadWord) (fun w h => h) e_BadWord) (qCons (qIsE List.mem_cons_self R.ex hz hd hf (by rfl) B.isinstance rfl (pv 0) (pe_glob (v := .ref C_BadText) (by rfl) g_BadText rfl) (.ref C_BadText) (fun w h => h) e_BadText) (qCons (qIsE List.mem_cons_self R.ex hz hd hf (by rfl) B.isinstance rfl (pv 0) (pe_glob (v := .ref C_BadWish) (by rfl) g_BadWish rfl) (.ref C_BadWish) (fun w h => h) e_BadWish) (qCons (qIsE List.mem_cons_self R.ex hz hd hf (by rfl) B.isinstance rfl (pv 0) (pe_glob (v := .ref C_BadPaper) (by rfl) g_BadPaper rfl) (.ref C_BadPaper) (fun w h => h) e_BadPaper) (qCons (qIsE List.mem_cons_self R.ex hz hd hf (by rfl) B.isinstance rfl (pv 0) (pe_glob (v := .ref C_Cannot) (by rfl) g_Cannot rfl) (.ref C_Cannot) (fun w h => h) e_Cannot) (qCons (qIsE List.mem_cons_self R.ex hz hd hf (by rfl) B.isinstance rfl (pv 0) (pe_glob (v := .ref C_Loud) (by rfl) g_Loud rfl) (.ref C_Loud) (fun w h => h) e_Loud) (qCons (qIsE List.mem_cons_self R.ex hz hd hf (by rfl) B.isinstance rfl (pv 0) (pe_glob (v := .ref C_NotCalm) (by rfl) g_NotCalm rfl) (.ref C_NotCalm) (fun w h => h) e_NotCalm) (qCons (qIsE List.mem_cons_self R.ex hz hd hf (by rfl) B.isinstance rfl (pv 0) (pe_glob (v := .ref C_NotThere) (by rfl) g_NotThere rfl) (.ref C_NotThere) (fun w h => h) e_NotThere) (qCons (qIsE List.mem_cons_self R.ex hz hd hf (by rfl) B.isinstance rfl (pv 0) (pe_glob (v := .ref C_NoJoin) (by rfl) g_NoJoin rfl) (.ref C_NoJoin) (fun w h => h) e_NoJoin) (qCons (qIsE List.mem_cons_self R.ex hz hd hf (by rfl) B.isinstance rfl (pv 0) (pe_glob (v := .ref C_TooMany) (by rfl) g_TooMany rfl) (.ref C_TooMany) (fun w h => h) e_TooMany) (qCons (qIsE List.mem_cons_self R.ex hz hd hf (by rfl) B.isinstance rfl (pv 0) (pe_glob (v := .ref C_Reserved) (by rfl) g_Reserved rfl) (.ref C_Reserved) (fun w h => h) e_Reserved) (qCons (qIsE List.mem_cons_self R.ex hz hd hf (by rfl) B.isinstance rfl (pv 0) (pe_glob (v := .ref C_Nothing) (by rfl) g_Nothing rfl) (.ref C_Nothing) (fun w h => h) e_Nothing) qNil)))))))))))))))))) (qSeq (qFzS (i := 2) (qFzS (i := 1) (qSetLcH (i := 3) (own := [("k", 4)]) hot List.mem_cons_self sc_law_error.nd rfl rfl (sw_true rfl rfl rfl (by decide +kernel)) (by rfl) B.range (qCons (qC pe_int (fun _ => .int)) qNil) (blkOk_by (own := [("k", 4)]) (N := nn_law_error) (sc := defScope s_law_error) (by decide +kernel)) (fun _ _ _ _ _ => (pg_name (i := 4) sc_law_error.nd rfl (Or.inl rfl))) (fun _ _ _ _ _ => (pts_one (qT (qIx rfl (qVar (pv 2)) (qVar (pv 4)) (fun _ _ => rfl))))) (fun _ _ _ _ _ => (qIx rfl (qVar (pv 1)) (qVar (pv 4)) (fun _ _ => rfl))) (gNameW (j := 4)) (by rfl)))) (qSeq (qIfS (PW.pt (qOr (qTc (o_neK Z.K (h64Hq hr)) op_neP (qCB (k_lenK Z.K) f_len (by rfl) B.len (by decide +kernel) (qCons (qVar (pv 3)) qNil)) (qC pe_int (fun _ => .int)) (nomark _)) (qOr (qNot (qT (qIsE List.mem_cons_self R.ex hz hd hf (by rfl) B.isinstance rfl (pv 0) (pe_glob (v := .ref C_OneError) (by rfl) g_OneError rfl) (.ref C_OneError) (fun w h => h) e_OneError))) (qOr1 (qNot (qT (qIsE List.mem_cons_self R.ex hz hd hf (by rfl) B.isinstance rfl (pv 0) (pe_bltn (v := .ty "ValueError") (by rfl) B.ValueError (by decide +kernel) rfl) (.type "ValueError") (fun w h => h) R.val))))))) (qOneS (qRet (qVm (qV (qTup (qCons (qC pe_str (fun _ => .str)) (qCons (qC pe_str (fun _ => .str)) qNil))))))) qNilS) (qOneS (qRet (qVm (qV (qTup (qCons (qC pe_str (fun _ => .str)) (qCons (qIx rfl (qVar (pv 3)) (qC pe_int (fun _ => .int)) (fun _ _ => rfl)) qNil)))))))))))
theorem can_law_asked {Z : Q.Env} (B : Std Z) (Df : DefAt Z "_law_asked" s_law_asked []) (c__law_copy : Can Z (CXn Z) 6 "_law_copy" ["thing"] [] (lF Z.K 1 (m_law_copy 5))) (c__law_same : Can Z (CXn Z) 6 "_law_same" ["due", "seen"] [] (lF Z.K 2 (m_law_same 5))) (c__law_shows : Can Z (CXn Z) 6 "_law_shows" ["made"] [] (lF Z.K 1 m_law_shows)) {dv_Machine_1 : List V} (c_Machine_1 : CanN Z (CXn Z) 5 "Machine" ["self", "size", "rests", "steps"] dv_Machine_1 (lFi Z.K 3 "Machine" m_Machine_init)) (t_Machine_1 : Emp Z.K dv_Machine_1) (l_Machine_1 : dv_Machine_1.length = 2) {dv_Machine_2 : List V} (c_Machine_2 : CanN Z (CXn Z) 5 "Machine" ["self", "size", "rests", "steps"] dv_Machine_2 (lFi Z.K 3 "Machine" m_Machine_init)) (t_Machine_2 : Emp Z.K dv_Machine_2) (l_Machine_2 : dv_Machine_2.length = 1) (c_Machine_3 : CanN Z (CXn Z) 5 "Machine" ["self", "size", "rests", "steps"] [] (lFi Z.K 3 "Machine" m_Machine_init)) (c__law_error : CanE Z 6 "_law_error" ["e"] (lE Z.K m_law_error)) (k_OneError : Z.mg "OneError" = some (.ref (He.ga Z.K "OneError"))) (x_OneError : ∀ C ∈ errC, PySem.W.exmOne Z.K (.ref (He.ga Z.K C)) (.ref (He.ga Z.K "OneError")) = some true) : Can Z (CXn Z) 7 "_law_asked" ["parts"] [] (lF Z.K 1 m_law_asked) :=
  can_lF Df sc_law_asked rfl b_law_asked (fun _ _ _ _ _ _ us hl => match us, hl with | [_], _ => rfl) (fun _ _ _ h => h) (fun f cdv A outer s H E W E' hr eo => (qSeq (qSet (i := 1) sc_law_asked.nd rfl (Or.inl rfl) (qVm (qCall (L2N.takes_of rfl rfl rfl rfl) eo c__law_copy hr (qCons (qVar (pv 0)) qNil)))) (qSeq (qTry (Cs := errC) rfl rfl sc_law_asked.nd rfl rfl ⟨by rfl, by decide, Or.inl k_OneError⟩ (L2N.takes_of rfl rfl rfl rfl) rfl rfl x_OneError (fun We pn xe tkT poT Wb Fb ExT eoT => (qOneS (qIfS (qTc (o_eqK Z.K (h64 hr)) op_eqP (qCB (k_lenK Z.K) f_len (by rfl) B.len (by decide +kernel) (qCons (qVar (pv 0)) qNil)) (qC pe_int (fun _ => .int)) (nomark _)) (qOneS (qSet (i := 2) sc_law_asked.nd rfl (Or.inl rfl) (qVm (qCall tkT eoT c__law_shows hr (qCons (qD (qNewD 1 2 rfl tkT eoT c_Machine_1 t_Machine_1 l_Machine_1 hr (qCons (qIx rfl (qVar (pv 0)) (qC pe_int (fun _ => .int)) (fun _ _ => rfl)) qNil))) qNil))))) (qOneS (qIfS (qTc (o_eqK Z.K (h64 hr)) op_eqP (qCB (k_lenK Z.K) f_len (by rfl) B.len (by decide +kernel) (qCons (qVar (pv 0)) qNil)) (qC pe_int (fun _ => .int)) (nomark _)) (qOneS (qSet (i := 2) sc_law_asked.nd rfl (Or.inl rfl) (qVm (qCall tkT eoT c__law_shows hr (qCons (qD (qNewD 2 1 rfl tkT eoT c_Machine_2 t_Machine_2 l_Machine_2 hr (qCons (qIx rfl (qVar (pv 0)) (qC pe_int (fun _ => .int)) (fun _ _ => rfl)) (qCons (qIx rfl (qVar (pv 0)) (qC pe_int (fun _ => .int)) (fun _ _ => rfl)) qNil)))) qNil))))) (qOneS (qSet (i := 2) sc_law_asked.nd rfl (Or.inl rfl) (qVm (qCall tkT eoT c__law_shows hr (qCons (qD (qNew rfl tkT eoT c_Machine_3 hr (qCons (qIx rfl (qVar (pv 0)) (qC pe_int (fun _ => .int)) (fun _ _ => rfl)) (qCons (qIx rfl (qVar (pv 0)) (qC pe_int (fun _ => .int)) (fun _ _ => rfl)) (qCons (qIx rfl (qVar (pv 0)) (qC pe_int (fun _ => .int)) (fun _ _ => rfl)) qNil))))) qNil)))))))))) (fun a oe cls d pn hz hf => (pss_one (ps_set (i := 2) sc_law_asked.nd rfl (Or.inl rfl) (pcallE c__law_error hr hz hf (pv 3))))) (hSetOk rfl rfl)) (qSeq (qIfS (qNot (qT (qD (qCall (L2N.takes_of rfl rfl rfl rfl) eo c__law_same hr (qCons (qVar (pv 1)) (qCons (qVar (pv 0)) qNil)))))) (qOneS (qRet (qVm (qV (qTup (qCons (qC pe_str (fun _ => .str)) qNil)))))) qNilS) (qOneS (qRetV (pv 2)))))))
theorem can_law_rests {Z : Q.Env} (B : Std Z) (Df : DefAt Z "_law_rests" s_law_rests []) (c__law_take : Can Z (CXn Z) 2 "_law_take" ["store", "many"] [] (lFs Z.K 1 m_law_take)) : Can Z (CXn Z) 3 "_law_rests" ["store", "size"] [] (lFs Z.K 1 m_law_rests) :=
  can_lFs Df sc_law_rests rfl (by decide) b_law_rests (fun _ _ _ _ _ _ us hl => match us, hl with | [_, _], _ => rfl) (fun _ _ _ h => h) (fun f cdv A outer s H E W sa ca E' hr eo => (qSeq (qSet (i := 2) sc_law_rests.nd rfl (Or.inr rfl) (qVm (qCallS rfl (L2N.takes_of rfl rfl rfl rfl) eo c__law_take hr (pv 0) (qCons (qC pe_int (fun _ => .int)) qNil)))) (qSeq (qIfS (qTc (o_eqK Z.K (h64 hr)) op_eqP (qVar (pv 2)) (qC pe_int (fun _ => .int)) (nomark _)) (qOneS (qRet (qVm (qLst qNil)))) qNilS) (qOneS (qRet (qVm (qFzV (i := 2) (qLc (own := [("p", 3)]) (by rfl) sc_law_rests.nd (qRng1 (by rfl) B.range (qCons (qVar (pv 1)) qNil)) (blkOk_by (own := [("p", 3)]) (N := nn_law_rests) (sc := defScope s_law_rests) (by decide +kernel)) (fun _ _ _ _ _ => (pg_name (i := 3) sc_law_rests.nd rfl (Or.inl rfl))) (fun _ _ _ _ _ => (pts_one (PW.pt (qOr (qTc (o_eqK Z.K (h64 hr)) op_eqP (qVar (pv 2)) (qC pe_int (fun _ => .int)) (nomark _)) (qOr1 (qTc (o_eqK Z.K (h64 hr)) op_eqP (qD (qCallS rfl takesN eoN c__law_take hr (pv 0) (qCons (qC pe_int (fun _ => .int)) qNil))) (qC pe_int (fun _ => .int)) (nomark _))))))) (fun _ _ _ _ _ => (qVar (pv 3))) (gNameW (j := 3)) (by rfl)))))))))
theorem can_law_full_machine {Z : Q.Env} (B : Std Z) (Df : DefAt Z "_law_full_machine" s_law_full_machine []) (c__law_number : Can Z (CXn Z) 3 "_law_number" ["store", "low", "high"] [] (lFs Z.K 2 m_law_number)) (c__law_pick : Can Z (CXn Z) 3 "_law_pick" ["store", "row"] [] (lFs Z.K 1 m_law_pick)) (c__law_rests : Can Z (CXn Z) 3 "_law_rests" ["store", "size"] [] (lFs Z.K 1 m_law_rests)) (c__law_take : Can Z (CXn Z) 3 "_law_take" ["store", "many"] [] (lFs Z.K 1 m_law_take)) : Can Z (CXn Z) 4 "_law_full_machine" ["store", "many", "peers", "pool"] [] (lFs Z.K 3 m_law_full_machine) :=
  can_lFs Df sc_law_full_machine rfl (by decide) b_law_full_machine (fun _ _ _ _ _ _ us hl => match us, hl with | [_, _, _, _], _ => rfl) (fun _ _ _ h => h) (fun f cdv A outer s H E W sa ca E' hr eo => (qSeq (qSet (i := 4) sc_law_full_machine.nd rfl (Or.inl rfl) (qVm (qCallS rfl (L2N.takes_of rfl rfl rfl rfl) eo c__law_number hr (pv 0) (qCons (qC pe_int (fun _ => .int)) (qCons (qC pe_int (fun _ => .int)) qNil))))) (qSeq (qSet (i := 5) sc_law_full_machine.nd rfl (Or.inl rfl) (qVm (qCallS rfl (L2N.takes_of rfl rfl rfl rfl) eo c__law_take hr (pv 0) (qCons (qVar (pv 4)) qNil)))) (qSeq (qSet (i := 6) sc_law_full_machine.nd rfl (Or.inl rfl) (qVm (qLst qNil))) (qSeq (qFzS (i := 4) (qFzS (i := 5) (qFor (passes_of rfl) rfl (qRng1 (by rfl) B.range (qCons (qVar (pv 1)) qNil)) (pg_name (i := 7) sc_law_full_machine.nd rfl (Or.inl rfl)) (gNameOk (j := 7)) (qSeq (qSet (i := 8) sc_law_full_machine.nd rfl (Or.inl rfl) (qVm (qV (qOpD o_mod op_arith (qCTy c_intK f_int (by rfl) B.int (by decide +kernel) (qCons (qVar (pv 7)) qNil)) (qVar (pv 4)))))) (qSeq (qSet (i := 9) sc_law_full_machine.nd rfl (Or.inl rfl) (qVm (qV (qOpD o_mod op_arith (qCTy c_intK f_int (by rfl) B.int (by decide +kernel) (qCons (qD (qOp (o_addK Z.K) op_add (qOpD o_fdiv op_arith (qVar (pv 7)) (qVar (pv 4))) (qVar (pv 5)))) qNil)) (qVar (pv 4)))))) (qOneS (qIfS (qTc (o_eqK Z.K (h64 hr)) op_eqP (qD (qCallS rfl (L2N.takes_of rfl rfl rfl rfl) eo c__law_take hr (pv 0) (qCons (qC pe_int (fun _ => .int)) qNil))) (qC pe_int (fun _ => .int)) (nomark _)) (qOneS (qExpr (qApp rfl (pv 6) (qDm (qTup (qCons (qVar (pv 8)) (qCons (qC pe_str (fun _ => .str)) (qCons (qNeg (qC pe_int (fun _ => .int))) (qCons (qC pe_str (fun _ => .str)) (qCons (qVar (pv 9)) qNil)))))))))) (qOneS (qExpr (qApp rfl (pv 6) (qDm (qTup (qCons (qVar (pv 8)) (qCons (qD (qCallS rfl (L2N.takes_of rfl rfl rfl rfl) eo c__law_pick hr (pv 0) (qCons (qD (qLst (qCons (qC pe_str (fun _ => .str)) (qCons (qC pe_str (fun _ => .str)) qNil)))) qNil))) (qCons (qD (qCallS rfl (L2N.takes_of rfl rfl rfl rfl) eo c__law_pick hr (pv 0) (qCons (qVar (pv 2)) qNil))) (qCons (qD (qCallS rfl (L2N.takes_of rfl rfl rfl rfl) eo c__law_pick hr (pv 0) (qCons (qVar (pv 3)) qNil))) (qCons (qVar (pv 9)) qNil))))))))))))))))) (qOneS (qRet (qVm (qV (qTup (qCons (qVar (pv 4)) (qCons (qD (qCallS rfl (L2N.takes_of rfl rfl rfl rfl) eo c__law_rests hr (pv 0) (qCons (qVar (pv 4)) qNil))) (qCons (qD (qCBS (k_sortK Z.K) f_sorted (by rfl) B.sorted (by decide +kernel) (qCons (qVar (pv 6)) qNil))) qNil)))))))))))))
theorem can_law_steps {Z : Q.Env} (B : Std Z) (Df : DefAt Z "_law_steps" s_law_steps []) (c__law_pick : Can Z (CXn Z) 3 "_law_pick" ["store", "row"] [] (lFs Z.K 1 m_law_pick)) (c__law_take : Can Z (CXn Z) 3 "_law_take" ["store", "many"] [] (lFs Z.K 1 m_law_take)) : Can Z (CXn Z) 4 "_law_steps" ["store", "size", "peers", "pool", "many"] [] (lFs Z.K 4 m_law_steps) :=
  can_lFs Df sc_law_steps rfl (by decide) b_law_steps (fun _ _ _ _ _ _ us hl => match us, hl with | [_, _, _, _, _], _ => rfl) (fun _ _ _ h => h) (fun f cdv A outer s H E W sa ca E' hr eo => (qSeq (qSet (i := 5) sc_law_steps.nd rfl (Or.inl rfl) (qVm (qLst qNil))) (qSeq (qFor (passes_of rfl) rfl (qRng1 (by rfl) B.range (qCons (qVar (pv 4)) qNil)) (pg_name (i := 6) sc_law_steps.nd rfl (Or.inl rfl)) (gNameOk (j := 6)) (qSeq (qSet (i := 7) sc_law_steps.nd rfl (Or.inl rfl) (qVm (qCallS rfl (L2N.takes_of rfl rfl rfl rfl) eo c__law_take hr (pv 0) (qCons (qVar (pv 1)) qNil)))) (qSeq (qSet (i := 8) sc_law_steps.nd rfl (Or.inl rfl) (qVm (qCallS rfl (L2N.takes_of rfl rfl rfl rfl) eo c__law_take hr (pv 0) (qCons (qVar (pv 1)) qNil)))) (qSeq (qSet (i := 9) sc_law_steps.nd rfl (Or.inl rfl) (qVm (qCallS rfl (L2N.takes_of rfl rfl rfl rfl) eo c__law_take hr (pv 0) (qCons (qC pe_int (fun _ => .int)) qNil)))) (qSeq (qSet (i := 10) sc_law_steps.nd rfl (Or.inl rfl) (qVm (qV (qTup (qCons (qVar (pv 7)) (qCons (qC pe_str (fun _ => .str)) (qCons (qNeg (qC pe_int (fun _ => .int))) (qCons (qC pe_str (fun _ => .str)) (qCons (qVar (pv 8)) qNil))))))))) (qSeq (qIfS (PW.pt (qAnd (qTc o_gt op_cmpI (qVar (pv 9)) (qC pe_int (fun _ => .int)) (nomark _)) (qAnd1 (qTc o_gt op_cmpI (qCB (k_lenK Z.K) f_len (by rfl) B.len (by decide +kernel) (qCons (qVar (pv 2)) qNil)) (qC pe_int (fun _ => .int)) (nomark _))))) (qOneS (qSet (i := 10) sc_law_steps.nd rfl (Or.inl rfl) (qVm (qV (qTup (qCons (qVar (pv 7)) (qCons (qIx rfl (qD (qLst (qCons (qC pe_str (fun _ => .str)) (qCons (qC pe_str (fun _ => .str)) qNil)))) (qOpD o_mod op_arith (qCTy c_intK f_int (by rfl) B.int (by decide +kernel) (qCons (qVar (pv 9)) qNil)) (qC pe_int (fun _ => .int))) (fun _ _ => rfl)) (qCons (qD (qCallS rfl (L2N.takes_of rfl rfl rfl rfl) eo c__law_pick hr (pv 0) (qCons (qVar (pv 2)) qNil))) (qCons (qD (qCallS rfl (L2N.takes_of rfl rfl rfl rfl) eo c__law_pick hr (pv 0) (qCons (qVar (pv 3)) qNil))) (qCons (qVar (pv 8)) qNil)))))))))) qNilS) (qOneS (qIfS (qKeepT (qTc (o_notInK Z.K (h65 hr)) op_inP (qVar (pv 10)) (qVar (pv 5)) (by rfl))) (qOneS (qExpr (qApp rfl (pv 5) (qDm (qVar (pv 10)))))) qNilS)))))))) (qOneS (qRet (qVm (qCBS (k_sortK Z.K) f_sorted (by rfl) B.sorted (by decide +kernel) (qCons (qVar (pv 5)) qNil))))))))
theorem can_law_machine {Z : Q.Env} (B : Std Z) (Df : DefAt Z "_law_machine" s_law_machine []) (c__law_number : Can Z (CXn Z) 4 "_law_number" ["store", "low", "high"] [] (lFs Z.K 2 m_law_number)) (c__law_rests : Can Z (CXn Z) 4 "_law_rests" ["store", "size"] [] (lFs Z.K 1 m_law_rests)) (c__law_steps : Can Z (CXn Z) 4 "_law_steps" ["store", "size", "peers", "pool", "many"] [] (lFs Z.K 4 m_law_steps)) : Can Z (CXn Z) 5 "_law_machine" ["store", "size", "peers", "pool"] [] (lFs Z.K 3 m_law_machine) :=
  can_lFs Df sc_law_machine rfl (by decide) b_law_machine (fun _ _ _ _ _ _ us hl => match us, hl with | [_, _, _, _], _ => rfl) (fun _ _ _ h => h) (fun f cdv A outer s H E W sa ca E' hr eo => (qSeq (qSet (i := 4) sc_law_machine.nd rfl (Or.inl rfl) (qVm (qCallS rfl (L2N.takes_of rfl rfl rfl rfl) eo c__law_rests hr (pv 0) (qCons (qVar (pv 1)) qNil)))) (qOneS (qRet (qVm (qV (qTup (qCons (qVar (pv 1)) (qCons (qVar (pv 4)) (qCons (qD (qCallS rfl (L2N.takes_of rfl rfl rfl rfl) eo c__law_steps hr (pv 0) (qCons (qVar (pv 1)) (qCons (qVar (pv 2)) (qCons (qVar (pv 3)) (qCons (qD (qCallS rfl (L2N.takes_of rfl rfl rfl rfl) eo c__law_number hr (pv 0) (qCons (qC pe_int (fun _ => .int)) (qCons (qD (qOp (o_addK Z.K) op_add (qOpD o_mul op_arith (qC pe_int (fun _ => .int)) (qVar (pv 1))) (qC pe_int (fun _ => .int)))) qNil)))) qNil)))))) qNil))))))))))
theorem can_law_spell {Z : Q.Env} (B : Std Z) (Df : DefAt Z "_law_spell" s_law_spell []) (c__law_take : Can Z (CXn Z) 2 "_law_take" ["store", "many"] [] (lFs Z.K 1 m_law_take)) : Can Z (CXn Z) 3 "_law_spell" ["store", "size"] [] (lFs Z.K 1 m_law_spell) :=
  can_lFs Df sc_law_spell rfl (by decide) b_law_spell (fun _ _ _ _ _ _ us hl => match us, hl with | [_, _], _ => rfl) (fun _ _ _ h => h) (fun f cdv A outer s H E W sa ca E' hr eo => (qOneS (qRet (qVm (qJoin rfl (qC pe_str (fun _ => .str)) (qD (qLc (own := [("k", 2)]) (by rfl) sc_law_spell.nd (qRng1 (by rfl) B.range (qCons (qVar (pv 1)) qNil)) (blkOk_by (own := [("k", 2)]) (N := nn_law_spell) (sc := defScope s_law_spell) (by decide +kernel)) (fun _ _ _ _ _ => (pg_name (i := 2) sc_law_spell.nd rfl (Or.inl rfl))) (fun _ _ _ _ _ => qYes) (fun _ _ _ _ _ => (qIx rfl (qC pe_str (fun _ => .str)) (qD (qCallS rfl takesN eoN c__law_take hr (pv 0) (qCons (qC pe_int (fun _ => .int)) qNil))) (fun _ _ => rfl))) (gNameW (j := 2)) (by rfl))))))))
theorem can_law_alphabet {Z : Q.Env} (B : Std Z) (Df : DefAt Z "_law_alphabet" s_law_alphabet []) (c__law_number : Can Z (CXn Z) 3 "_law_number" ["store", "low", "high"] [] (lFs Z.K 2 m_law_number)) (c__law_pick : Can Z (CXn Z) 3 "_law_pick" ["store", "row"] [] (lFs Z.K 1 m_law_pick)) (c__law_spell : Can Z (CXn Z) 3 "_law_spell" ["store", "size"] [] (lFs Z.K 1 m_law_spell)) (c__law_take : Can Z (CXn Z) 3 "_law_take" ["store", "many"] [] (lFs Z.K 1 m_law_take)) : Can Z (CXn Z) 4 "_law_alphabet" ["store", "many"] [] (lFs Z.K 1 m_law_alphabet) :=
  can_lFs Df sc_law_alphabet rfl (by decide) b_law_alphabet (fun _ _ _ _ _ _ us hl => match us, hl with | [_, _], _ => rfl) (fun _ _ _ h => h) (fun f cdv A outer s H E W sa ca E' hr eo => (qSeq (qSet (i := 2) sc_law_alphabet.nd rfl (Or.inl rfl) (qVm (qLst qNil))) (qSeq (qFor (passes_of rfl) rfl (qRng1 (by rfl) B.range (qCons (qD (qCallS rfl (L2N.takes_of rfl rfl rfl rfl) eo c__law_number hr (pv 0) (qCons (qC pe_int (fun _ => .int)) (qCons (qVar (pv 1)) qNil)))) qNil)) (pg_name (i := 3) sc_law_alphabet.nd rfl (Or.inl rfl)) (gNameOk (j := 3)) (qSeq (qSet (i := 4) sc_law_alphabet.nd rfl (Or.inl rfl) (qVm (qCallS rfl (L2N.takes_of rfl rfl rfl rfl) eo c__law_pick hr (pv 0) (qCons (qD (qLst (qCons (qD (qCallS rfl (L2N.takes_of rfl rfl rfl rfl) eo c__law_spell hr (pv 0) (qCons (qD (qCallS rfl (L2N.takes_of rfl rfl rfl rfl) eo c__law_number hr (pv 0) (qCons (qC pe_int (fun _ => .int)) (qCons (qC pe_int (fun _ => .int)) qNil)))) qNil))) (qCons (qC pe_str (fun _ => .str)) (qCons (qC pe_str (fun _ => .str)) (qCons (qC pe_str (fun _ => .str)) (qCons (qC pe_str (fun _ => .str)) qNil))))))) qNil)))) (qSeq (qIfS (qTc (o_eqK Z.K (h64 hr)) op_eqP (qD (qCallS rfl (L2N.takes_of rfl rfl rfl rfl) eo c__law_take hr (pv 0) (qCons (qC pe_int (fun _ => .int)) qNil))) (qC pe_int (fun _ => .int)) (nomark _)) (qOneS (qSet (i := 4) sc_law_alphabet.nd rfl (Or.inl rfl) (qVm (qOp (o_addK Z.K) op_add (qD (qOp (o_addK Z.K) op_add (qVar (pv 4)) (qC pe_str (fun _ => .str)))) (qCTy call_str_int f_str (by rfl) B.str (by decide +kernel) (qCons (qD (qCallS rfl (L2N.takes_of rfl rfl rfl rfl) eo c__law_number hr (pv 0) (qCons (qC pe_int (fun _ => .int)) (qCons (qC pe_int (fun _ => .int)) qNil)))) qNil)))))) qNilS) (qOneS (qIfS (qKeepT (qTc (o_notInK Z.K (h65 hr)) op_inP (qVar (pv 4)) (qVar (pv 2)) (by rfl))) (qOneS (qExpr (qApp rfl (pv 2) (qDm (qVar (pv 4)))))) qNilS))))) (qOneS (qRetV (pv 2))))))
theorem can_law_drawn {Z : Q.Env} (B : Std Z) (Df : DefAt Z "_law_drawn" s_law_drawn []) (c__law_alphabet : Can Z (CXn Z) 5 "_law_alphabet" ["store", "many"] [] (lFs Z.K 1 m_law_alphabet)) (c__law_full_machine : Can Z (CXn Z) 5 "_law_full_machine" ["store", "many", "peers", "pool"] [] (lFs Z.K 3 m_law_full_machine)) (c__law_machine : Can Z (CXn Z) 5 "_law_machine" ["store", "size", "peers", "pool"] [] (lFs Z.K 3 m_law_machine)) (c__law_number : Can Z (CXn Z) 5 "_law_number" ["store", "low", "high"] [] (lFs Z.K 2 m_law_number)) (c__law_pick : Can Z (CXn Z) 5 "_law_pick" ["store", "row"] [] (lFs Z.K 1 m_law_pick)) (c__law_some : Can Z (CXn Z) 5 "_law_some" ["store", "row", "most"] [] (lFs Z.K 2 m_law_some)) (c__law_take : Can Z (CXn Z) 5 "_law_take" ["store", "many"] [] (lFs Z.K 1 m_law_take)) : Can Z (CXn Z) 6 "_law_drawn" ["store"] [] (lFs Z.K 0 m_law_drawn) :=
  can_lFs Df sc_law_drawn rfl (by decide) b_law_drawn (fun _ _ _ _ _ _ us hl => match us, hl with | [_], _ => rfl) (fun _ _ _ h => h) (fun f cdv A outer s H E W sa ca E' hr eo => (qSeq (qSet (i := 1) sc_law_drawn.nd rfl (Or.inl rfl) (qVm (qCallS rfl (L2N.takes_of rfl rfl rfl rfl) eo c__law_some hr (pv 0) (qCons (qD (qLst (qCons (qC pe_int (fun _ => .int)) (qCons (qC pe_int (fun _ => .int)) (qCons (qC pe_int (fun _ => .int)) (qCons (qC pe_int (fun _ => .int)) (qCons (qC pe_int (fun _ => .int)) (qCons (qC pe_int (fun _ => .int)) qNil)))))))) (qCons (qC pe_int (fun _ => .int)) qNil))))) (qSeq (qSet (i := 2) sc_law_drawn.nd rfl (Or.inl rfl) (qVm (qCallS rfl (L2N.takes_of rfl rfl rfl rfl) eo c__law_alphabet hr (pv 0) (qCons (qC pe_int (fun _ => .int)) qNil)))) (qSeq (qSet (i := 3) sc_law_drawn.nd rfl (Or.inl rfl) (qVm (qCallS rfl (L2N.takes_of rfl rfl rfl rfl) eo c__law_take hr (pv 0) (qCons (qC pe_int (fun _ => .int)) qNil)))) (qSeq (qIfS (qTc (o_eqK Z.K (h64 hr)) op_eqP (qVar (pv 3)) (qC pe_int (fun _ => .int)) (nomark _)) (qSeq (qSet (i := 4) sc_law_drawn.nd rfl (Or.inl rfl) (qVm (qCallS rfl (L2N.takes_of rfl rfl rfl rfl) eo c__law_pick hr (pv 0) (qCons (qD (qLst (qCons (qC pe_int (fun _ => .int)) (qCons (qC pe_int (fun _ => .int)) (qCons (qC pe_int (fun _ => .int)) (qCons (qC pe_int (fun _ => .int)) qNil)))))) qNil)))) (qOneS (qRet (qVm (qCallS rfl (L2N.takes_of rfl rfl rfl rfl) eo c__law_full_machine hr (pv 0) (qCons (qVar (pv 4)) (qCons (qD (qOp (o_addK Z.K) op_add (qVar (pv 1)) (qD (qLst (qCons (qD (qCallS rfl (L2N.takes_of rfl rfl rfl rfl) eo c__law_take hr (pv 0) (qCons (qC pe_int (fun _ => .int)) qNil))) qNil))))) (qCons (qVar (pv 2)) qNil)))))))) qNilS) (qOneS (qRet (qVm (qCallS rfl (L2N.takes_of rfl rfl rfl rfl) eo c__law_machine hr (pv 0) (qCons (qD (qCallS rfl (L2N.takes_of rfl rfl rfl rfl) eo c__law_number hr (pv 0) (qCons (qC pe_int (fun _ => .int)) (qCons (qIf (qTc (o_eqK Z.K (h64 hr)) op_eqP (qVar (pv 3)) (qC pe_int (fun _ => .int)) (nomark _)) (qC pe_int (fun _ => .int)) (qC pe_int (fun _ => .int))) qNil)))) (qCons (qVar (pv 1)) (qCons (qVar (pv 2)) qNil))))))))))))
theorem ok_law {Z : Q.Env} {f : Addr} {fd : FuncData} (B : Std Z) (F : FunD Z.K "law" "law" (defArgs s_law) (defBody s_law) (defScope s_law) [] [] f fd) (c__law_asked : Can Z (CXn Z) 7 "_law_asked" ["parts"] [] (lF Z.K 1 m_law_asked)) (c__law_copy : Can Z (CXn Z) 7 "_law_copy" ["thing"] [] (lF Z.K 1 (m_law_copy 5))) (c__law_drawn : Can Z (CXn Z) 7 "_law_drawn" ["store"] [] (lFs Z.K 0 m_law_drawn)) (c__law_due : Can Z (CXn Z) 7 "_law_due" ["size", "rests", "steps"] [] (lF Z.K 3 m_law_due)) (c__law_handed : Can Z (CXn Z) 7 "_law_handed" ["store", "row"] [] (lFs Z.K 1 m_law_handed)) (c__law_same : Can Z (CXn Z) 7 "_law_same" ["due", "seen"] [] (lF Z.K 2 (m_law_same 5))) (c__law_shows : Can Z (CXn Z) 7 "_law_shows" ["made"] [] (lF Z.K 1 m_law_shows)) (c__law_some : Can Z (CXn Z) 7 "_law_some" ["store", "row", "most"] [] (lFs Z.K 2 m_law_some)) (c__law_trials : Can Z (CXn Z) 7 "_law_trials" ["store", "machine"] [] (lFs Z.K 1 m_law_trials)) (c_Machine_3 : CanN Z (CXn Z) 6 "Machine" ["self", "size", "rests", "steps"] [] (lFi Z.K 3 "Machine" m_Machine_init)) (c__law_store : Can Z CX0 7 "_law_store" ["script"] [] (Q.spStore Z.K)) (hm : m_law_ok) : FnOk Z.P Z.w Z.K Z.mg Z.base (CXn Z) 8 f fd ["script"] (spLawU Z.K) :=
  fn_law F sc_law (by decide) (b_law (fun _ => False)) hm fun cdv A outer s H E hr => ⟨fun _ _ _ => False, pss_cons (ps_set (i := 1) sc_law.nd rfl (Or.inl rfl) (pcall c__law_store hr (pa_cons (pv 0) pa_nil) (fun _ _ _ _ _ _ _ h => h.elim))) (lsx fun st c W0 => (fun (eo : EOk ⟨Z.K, W0, some (st, c), 1, none, none⟩ (fun cls d _ H => E cls d H) (fun _ _ => False)) => (qSeq (qSet (i := 2) sc_law.nd rfl (Or.inl rfl) (qVm (qCallS rfl (L2N.takes_of rfl rfl rfl rfl) eo c__law_drawn hr (pv 1) qNil))) (qSeq (qSet (i := 3) sc_law.nd rfl (Or.inl rfl) (qVm (qCallS rfl (L2N.takes_of rfl rfl rfl rfl) eo c__law_drawn hr (pv 1) qNil))) (qSeq (qSet (i := 4) sc_law.nd rfl (Or.inl rfl) (qVm (qCallS rfl (L2N.takes_of rfl rfl rfl rfl) eo c__law_trials hr (pv 1) (qCons (qVar (pv 2)) qNil)))) (qSeq (qSet (i := 5) sc_law.nd rfl (Or.inl rfl) (qVm (qCallS rfl (L2N.takes_of rfl rfl rfl rfl) eo c__law_handed hr (pv 1) (qCons (qD (qOp (o_addK Z.K) op_add (qIx rfl (qVar (pv 2)) (qC pe_int (fun _ => .int)) (fun _ _ => rfl)) (qD (qCallS rfl (L2N.takes_of rfl rfl rfl rfl) eo c__law_some hr (pv 1) (qCons (qIx rfl (qVar (pv 2)) (qC pe_int (fun _ => .int)) (fun _ _ => rfl)) (qCons (qC pe_int (fun _ => .int)) qNil)))))) qNil)))) (qSeq (qSet (i := 6) sc_law.nd rfl (Or.inl rfl) (qVm (qCallS rfl (L2N.takes_of rfl rfl rfl rfl) eo c__law_handed hr (pv 1) (qCons (qIx rfl (qVar (pv 2)) (qC pe_int (fun _ => .int)) (fun _ _ => rfl)) qNil)))) (qSeq (qSet (i := 7) sc_law.nd rfl (Or.inl rfl) (qVm (qCall (L2N.takes_of rfl rfl rfl rfl) eo c__law_due hr (qCons (qIx rfl (qVar (pv 2)) (qC pe_int (fun _ => .int)) (fun _ _ => rfl)) (qCons (qIx rfl (qVar (pv 2)) (qC pe_int (fun _ => .int)) (fun _ _ => rfl)) (qCons (qIx rfl (qVar (pv 2)) (qC pe_int (fun _ => .int)) (fun _ _ => rfl)) qNil)))))) (qSeq (qSet (i := 8) sc_law.nd rfl (Or.inl rfl) (qVm (qLst (qCons (qD (qKeepV (qCall (L2N.takes_of rfl rfl rfl rfl) eo c__law_copy hr (qCons (qVar (pv 5)) qNil)))) (qCons (qD (qKeepV (qCall (L2N.takes_of rfl rfl rfl rfl) eo c__law_copy hr (qCons (qVar (pv 6)) qNil)))) qNil))))) (qSeq (qSet (i := 9) sc_law.nd rfl (Or.inl rfl) (qVm (qKeepV (qNew rfl (L2N.takes_of rfl rfl rfl rfl) eo c_Machine_3 hr (qCons (qIx rfl (qVar (pv 2)) (qC pe_int (fun _ => .int)) (fun _ _ => rfl)) (qCons (qVar (pv 5)) (qCons (qVar (pv 6)) qNil))))))) (qSeq (qSet (i := 10) sc_law.nd rfl (Or.inl rfl) (qVm (qNew rfl (L2N.takes_of rfl rfl rfl rfl) eo c_Machine_3 hr (qCons (qIx rfl (qVar (pv 3)) (qC pe_int (fun _ => .int)) (fun _ _ => rfl)) (qCons (qD (qCTyS (k_listK Z.K) f_list (by rfl) B.list (by decide +kernel) (qCons (qIx rfl (qVar (pv 3)) (qC pe_int (fun _ => .int)) (fun _ _ => rfl)) qNil))) (qCons (qD (qCTyS (k_listK Z.K) f_list (by rfl) B.list (by decide +kernel) (qCons (qIx rfl (qVar (pv 3)) (qC pe_int (fun _ => .int)) (fun _ _ => rfl)) qNil))) qNil)))))) (qSeq (qIfS (qKeepT (PW.pt (qOr (qNot (qT (qD (qCall (L2N.takes_of rfl rfl rfl rfl) eo c__law_same hr (qCons (qVar (pv 7)) (qCons (qD (qCall (L2N.takes_of rfl rfl rfl rfl) eo c__law_shows hr (qCons (qVar (pv 9)) qNil))) qNil)))))) (qOr1 (qNot (qT (qD (qCall (L2N.takes_of rfl rfl rfl rfl) eo c__law_same hr (qCons (qVar (pv 8)) (qCons (qD (qLst (qCons (qVar (pv 5)) (qCons (qVar (pv 6)) qNil)))) qNil)))))))))) (qOneS (qRet (qVm (qV (qC pe_bl (fun _ => .bl)))))) qNilS) (qSeq (qFor (passes_of rfl) rfl (qIt rfl (qVar (pv 4))) (pg_name (i := 11) sc_law.nd rfl (Or.inl rfl)) (gNameOk (j := 11)) (qOneS (qIfS (qNot (qT (qD (qCall (L2N.takes_of rfl rfl rfl rfl) eo c__law_same hr (qCons (qIx rfl (qVar (pv 11)) (qC pe_int (fun _ => .int)) (fun _ _ => rfl)) (qCons (qD (qCall (L2N.takes_of rfl rfl rfl rfl) eo c__law_asked hr (qCons (qIx rfl (qVar (pv 11)) (qC pe_int (fun _ => .int)) (fun _ _ => rfl)) qNil))) qNil)))))) (qOneS (qRet (qVm (qV (qC pe_bl (fun _ => .bl)))))) qNilS))) (qSeq (qIfS (qKeepT (qT (qIsi (Cs := []) (T := "list") (fun _ h => nomatch h) (by decide) rfl (by rfl) B.isinstance (qVar (pv 5)) (pe_bltn (v := .ty "list") (by rfl) B.list (by decide +kernel) rfl)))) (qOneS (qExpr (qDVm (qInsert rfl (pv 5) (qDm (qC pe_int (fun _ => .int))) (qDm (qC pe_int (fun _ => .int))))))) qNilS) (qSeq (qIfS (qKeepT (qT (qIsi (Cs := []) (T := "list") (fun _ h => nomatch h) (by decide) rfl (by rfl) B.isinstance (qVar (pv 6)) (pe_bltn (v := .ty "list") (by rfl) B.list (by decide +kernel) rfl)))) (qOneS (qExpr (qDVm (qClear rfl (pv 6))))) qNilS) (qSeq (qIfS (qNot (qT (qD (qCall (L2N.takes_of rfl rfl rfl rfl) eo c__law_same hr (qCons (qD (qCall (L2N.takes_of rfl rfl rfl rfl) eo c__law_due hr (qCons (qIx rfl (qVar (pv 3)) (qC pe_int (fun _ => .int)) (fun _ _ => rfl)) (qCons (qIx rfl (qVar (pv 3)) (qC pe_int (fun _ => .int)) (fun _ _ => rfl)) (qCons (qIx rfl (qVar (pv 3)) (qC pe_int (fun _ => .int)) (fun _ _ => rfl)) qNil))))) (qCons (qD (qCall (L2N.takes_of rfl rfl rfl rfl) eo c__law_shows hr (qCons (qVar (pv 10)) qNil))) qNil)))))) (qOneS (qRet (qVm (qV (qC pe_bl (fun _ => .bl)))))) qNilS) (qOneS (qRet (qVm (qCall (L2N.takes_of rfl rfl rfl rfl) eo c__law_same hr (qCons (qVar (pv 7)) (qCons (qD (qCall (L2N.takes_of rfl rfl rfl rfl) eo c__law_shows hr (qCons (qVar (pv 9)) qNil))) qNil))))))))))))))))))))) (fun _ _ _ _ _ _ _ _ _ h => h.elim))⟩
local macro_rules | `(tactic| walk_at "px") => `(tactic| (try simp only [↓pI_t, ↓pI_f, ↓e_asB, ↓e_asI, ↓e_atOwn0, ↓e_atOwnS, ↓e_atRow0, ↓e_atRowS, ↓e_atDct0, ↓e_atDctS, ↓e_atObj0, ↓e_atObjS, ↓e_hasOwn0, ↓e_hasOwnS, ↓e_hasOwn20, ↓e_hasOwn2S, ↓e_hasD0, ↓e_hasDS, ↓e_D, ↓e_V, ↓e_C, ↓e_var0, ↓e_varS, ↓e_frzd, ↓e_frzo, ↓e_frz2, ↓e_frzD, ↓e_frzO, ↓e_dd, ↓e_do, ↓e_d2, ↓e_dD, ↓e_dO, ↓e_frzAt0d, ↓e_frzAt0o, ↓e_frzAt0D, ↓e_frzAt02, ↓e_frzAt0O, ↓e_frzAt0n, ↓e_frzAtS, ↓e_FzV, ↓e_FzS, ↓e_nil, ↓e_cons, ↓e_op, ↓e_opD, ↓e_chain, ↓e_arith, ↓e_cmp, ↓e_addI, ↓e_addS, ↓e_addL, ↓e_addT, ↓e_eq, ↓e_ne, ↓ok_ii, ↓ok_ss, ↓ok_bb, ↓ok_is, ↓ok_si, ↓ok_ni, ↓ok_in, ↓dec_ii, ↓dec_ss, ↓dec_bb, ↓dec_is, ↓dec_si, ↓dec_nn, ↓dec_in, ↓dec_sn, ↓dec_bn, ↓dec_ln, ↓dec_tn, ↓dec_dn, ↓dec_on, ↓e_isN, ↓e_notN, ↓e_in, ↓e_keep, ↓e_keepT, ↓fz_i, ↓fz_s, ↓fz_b, ↓fz_n, ↓fz_t0, ↓fz_tc, ↓e_T, ↓e_and, ↓e_or, ↓e_not, ↓e_yes, ↓e_andV, ↓e_orV, ↓e_notV, ↓e_neg, ↓e_if, ↓e_ifV, ↓e_tup, ↓e_lst, ↓e_dnew, ↓e_dnewT, ↓e_ix, ↓e_ixt, ↓e_ixl, ↓e_at0, ↓e_at1, ↓e_at2, ↓e_at3, ↓e_at4, ↓e_at5, ↓e_noP, ↓e_soP, ↓e_sl, ↓e_sll, ↓e_slt, ↓e_CB, ↓e_CS, ↓e_lenl, ↓e_lent, ↓e_lend, ↓e_lens, ↓e_abs, ↓e_int, ↓e_intb, ↓e_str, ↓e_min, ↓e_max, ↓e_all, ↓e_any, ↓e_sum, ↓e_listl, ↓e_listt, ↓e_tupl, ↓e_tupt, ↓e_srt, ↓e_srtSet, ↓e_lenSet, ↓e_call, ↓e_new, ↓e_mth, ↓e_ernm, ↓e_isi, ↓e_fld, ↓e_fldO, ↓e_rng1, ↓e_rngA, ↓e_rng2, ↓e_rngB, ↓e_lr1, ↓e_it, ↓e_itl, ↓e_itt, ↓e_its, ↓e_Lc, ↓e_Lc2, ↓e_wipe0, ↓e_wipe1, ↓e_app, ↓e_popAt, ↓e_pop, ↓e_clear, ↓e_insert, ↓e_asL, ↓e_extend, ↓e_put, ↓e_asD, ↓e_dget, ↓e_din, ↓e_dnotin, ↓e_dput, ↓e_disp1, ↓key_i, ↓key_s, ↓isk_i, ↓isk_s, ↓e_ctrue, ↓e_okI0, ↓e_okI1, ↓e_okI2, ↓e_okI3, ↓e_okI4, ↓e_okI5, ↓e_okI6, ↓t_int0, ↓t_int1, ↓t_int2, ↓t_int3, ↓t_int4, ↓t_int5, ↓t_int6, ↓t_int7, ↓t_str0, ↓t_str1, ↓t_str2, ↓t_str3, ↓t_str4, ↓t_str5, ↓t_str6, ↓t_str7, ↓t_bool0, ↓t_bool1, ↓t_bool2, ↓t_bool3, ↓t_bool4, ↓t_bool5, ↓t_bool6, ↓t_bool7, ↓t_list0, ↓t_list1, ↓t_list2, ↓t_list3, ↓t_list4, ↓t_list5, ↓t_list6, ↓t_list7, ↓t_tuple0, ↓t_tuple1, ↓t_tuple2, ↓t_tuple3, ↓t_tuple4, ↓t_tuple5, ↓t_tuple6, ↓t_tuple7, ↓t_dict0, ↓t_dict1, ↓t_dict2, ↓t_dict3, ↓t_dict4, ↓t_dict5, ↓t_dict6, ↓t_dict7, ↓e_seq, ↓e_nilS, ↓e_set, ↓e_expr, ↓e_ret, ↓e_retV0, ↓e_retVS, ↓e_retN, ↓e_pass, ↓e_break, ↓e_cont, ↓e_ifS, ↓e_asg, ↓e_name, ↓e_btup, ↓e_bcons, ↓e_bnil, ↓e_for, ↓e_wh, ↓e_raise, ↓e_try, ↓e_setF, ↓e_rowIs0, ↓e_rowIsS, ↓e_app2, ↓e_js0, ↓e_asS, ↓e_js1, ↓e_joined, ↓e_fmt, ↓e_fmts, ↓e_fmti, ↓e_m1, ↓e_exs, ↓e_part, ↓e_join, ↓e_hRet, ↓e_hSet, ↓e_prop, ↓e_getO, ↓e_inG, ↓e_revL, ↓e_enum, ↓e_retL2, ↓e_put2, ↓e_binO, ↓e_inO, ↓e_eqO, ↓e_lnO, ↓e_listO, ↓e_isiC, ↓e_star, ↓e_starl, ↓e_start, ↓e_eqW, ↓e_pFor0, ↓e_keepV, ↓ix_lm0, ↓ix_lm1, ↓ix_lm2, ↓fld_size, ↓fld_rests, ↓fld_steps, ↓fld_outs, List.set_cons_zero, List.set_cons_succ, List.length_cons, List.length_nil, sizeLine_eq, Nat.reduceAdd, Nat.reduceLT, Nat.reduceLeDiff, Nat.reduceEqDiff, true_and, and_true, Bool.not_true, Bool.not_false, List.map_nil, List.map_cons, startR, List.replicate, List.append_assoc, List.cons_append, List.nil_append, eq_self, decide_true, decide_false, List.length_map, Int.reduceNeg, Int.reducePow, Int.reduceLE, Int.reduceLT, Int.reduceEq, Int.reduceNe, Int.reduceToNat, ne_eq, reduceCtorEq, not_false_eq_true, not_true_eq_false, Bool.false_eq_true, if_true, if_false, true_or, or_true, false_or, or_false, Int.toNat_natCast, Int.sub_zero, Bool.and_true, Bool.true_and, decide_eq_true_eq, Nat.zero_le]))
section
theorem w_is_whole {d : D} {lo hi : Int} {Q : SV → Prop} {E : Er → Prop} (ho : isObj d = false) (k : Q (.dat (.bl (wholeB d lo hi)))) : m_is_whole [d, .int lo, .int hi] Q E := by
  unfold m_is_whole b_is_whole
  cases d <;> first | (cases ho; done) | (walk_at "px"; try exact k)
  rename_i i
  refine pI_ok (fun h => ?_) fun h => ?_
  · have e : wholeB (.int i) lo hi = decide (i ≤ hi) := by show (decide (lo ≤ i) && decide (i ≤ hi)) = _; rw [h, Bool.true_and]
    rw [← e]; exact k
  · have e : wholeB (.int i) lo hi = false := by show (decide (lo ≤ i) && decide (i ≤ hi)) = _; rw [h, Bool.false_and]
    rw [e] at k; exact k
/-- all signs of a text are among others -/
theorem lc_signs {z c : Str} {x : Option SV} {Q : List D → Prop} (hl : z.length ≤ 16777216)
    (hQ : Q (((tl z).map fun s => decide (s ∈ tl c)).map D.bl)) : pLc (bName 1) mYes (mOpD (mIn false) (mVar 1) (mC (.str c))) [x, none] Q ((tl z).map fun s => .str ⟨#[s]⟩) [] := by
  refine lc_fm (α := Nat) (fun s => .str ⟨#[s]⟩) (fun _ => true) (fun s => .bl (decide (s ∈ tl c))) (tl z) hl (fun s _ R R' h1 h2 => ?_) (by rw [List.filter_eq_self.mpr fun _ _ => rfl]; rw [List.map_map] at hQ; exact hQ)
  walk_at "px"
  exact .inr (.inr (.inl ⟨s, c, rfl, rfl, by exact h1 rfl⟩))
theorem w_good_name {d : D} {Q : SV → Prop} {E : Er → Prop} (hz : PlainD d) (k : Q (.dat (.bl (isNmD d)))) : m_good_name [d] Q E := by
  unfold m_good_name b_good_name
  cases d <;> first | (cases hz.1; done) | (walk_at "px"; try exact k)
  rename_i z
  have hl := hz.2 z rfl
  refine ⟨by omega, ?_⟩
  have e : isNmD (.str z) = (lowB z && (decide (1 ≤ z.length) && decide (z.length ≤ 8))) := rfl
  refine pI_ok (fun h => ?_) fun h => ?_
  · rw [e, show decide (1 ≤ z.length) = false by simp at h ⊢; omega] at k
    simpa using k
  · have h1 : 1 ≤ z.length := by simp at h; omega
    refine ⟨by omega, pI_ok (fun h => ?_) fun h => ?_⟩
    · rw [e, show decide (z.length ≤ 8) = false by simp at h ⊢; omega] at k
      simpa using k
    · have h2 : z.length ≤ 8 := by simp at h; omega
      walk_at "px"
      refine lc_signs (z := z) (c := Str.ofString "abcdefghijklmnopqrstuvwxyz") (by omega) ?_
      walk_at "px"
      rw [e, show decide (1 ≤ z.length) = true from decide_eq_true h1, show decide (z.length ≤ 8) = true from decide_eq_true h2, Bool.and_true, Bool.and_true] at k
      rw [List.all_map]
      have e2 : (tl z).all (id ∘ fun s => decide (s ∈ tl (Str.ofString "abcdefghijklmnopqrstuvwxyz"))) = lowB z := by
        unfold lowB
        show (tl z).all _ = (tl z).all _
        congr 1
        funext c
        exact dec_abc c
      rw [e2]
      exact k
theorem w_short_number {z : Str} {Q : SV → Prop} {E : Er → Prop} (hl : z.length ≤ 100000) (k : Q (.dat (.bl (shortB z)))) : m_short_number [.str z] Q E := by
  unfold m_short_number b_short_number
  walk_at "px"
  have hlen : (tl z).length = z.length := by unfold tl Str.length; exact Array.length_toList
  have e : shortB z = ((decide (1 ≤ z.length) && decide (z.length ≤ 2)) && ((tl z).all digB && (decide (z.length = 1) || !decide ((tl z).head? = some 48)))) := by
    unfold shortB shortL
    rw [hlen]
  refine ⟨by omega, pI_ok (fun h => ?_) fun h => ?_⟩
  · rw [e, show decide (1 ≤ z.length) = false by simp at h ⊢; omega] at k
    simpa using k
  · have h1 : 1 ≤ z.length := by simp at h; omega
    refine ⟨by omega, pI_ok (fun h => ?_) fun h => ?_⟩
    · rw [e, show decide (z.length ≤ 2) = false by simp at h ⊢; omega] at k
      simpa using k
    · have h2 : z.length ≤ 2 := by simp at h; omega
      walk_at "px"
      refine lc_signs (z := z) (c := Str.ofString "0123456789") (by omega) ?_
      walk_at "px"
      rw [e, show decide (1 ≤ z.length) = true from decide_eq_true h1, show decide (z.length ≤ 2) = true from decide_eq_true h2, Bool.and_true, Bool.true_and] at k
      have e2 : ((tl z).map fun s => decide (s ∈ tl (Str.ofString "0123456789"))).all id = (tl z).all digB := by
        rw [List.all_map]
        congr 1
        funext c
        exact dec_dig c
      rw [e2]
      refine pI_ok (fun h => ?_) fun h => ?_
      · rw [Bool.not_eq_true'] at h
        rw [h, Bool.false_and] at k
        exact k
      · rw [Bool.not_eq_false'] at h
        rw [h, Bool.true_and] at k
        refine ⟨by omega, pI_ok (fun h => ?_) fun h => ?_⟩
        · have : z.length = 1 := by simp at h; omega
          rw [show decide (z.length = 1) = true from decide_eq_true this, Bool.true_or] at k
          exact k
        · have hn : ¬ z.length = 1 := by simp at h; omega
          rw [show decide (z.length = 1) = false from decide_eq_false hn, Bool.false_or] at k
          obtain ⟨c, r, ec⟩ : ∃ c r, tl z = c :: r := by
            cases q : tl z with
            | nil => rw [q] at hlen; simp at hlen; omega
            | cons c r => exact ⟨c, r, rfl⟩
          refine ⟨0, rfl, .inr ⟨z, c, rfl, by rw [sizeLine_eq]; omega, at_nat (l := z.cps.toList) (j := 0) (by show (tl z)[0]? = _; rw [ec]; rfl), ?_⟩⟩
          walk_at "px"
          rw [ec] at k
          have e3 : decide ((⟨#[c]⟩ : Str) = Str.ofString "0") = decide (some c = some 48) := by
            rw [Bool.eq_iff_iff, decide_eq_true_iff, decide_eq_true_iff]
            exact ⟨fun h => by rw [show Str.ofString "0" = (⟨#[48]⟩ : Str) from by decide] at h; injection h with h; have := congrArg Array.toList h; simpa using this, fun h => by cases h; decide⟩
          rw [e3]
          exact k
theorem w_good_letter {d : D} {Q : SV → Prop} {E : Er → Prop} (hz : PlainD d) (k : Q (.dat (.bl (isLetD d)))) : m_good_letter [d] Q E := by
  unfold m_good_letter b_good_letter
  cases d <;> first | (cases hz.1; done) | (walk_at "px"; try exact k)
  rename_i z
  have hl := hz.2 z rfl
  refine ⟨rfl, by omega, ?_⟩
  have e : isLetD (.str z) = letZ z := rfl
  by_cases hd : 46 ∈ tl z
  · obtain ⟨a, b, rfl, ha⟩ := dot_split hd
    have hab : (a ++ dot ++ b).length = a.length + 1 + b.length := by rw [len_app, len_app]; rfl
    have e1 : Txt.partition (a ++ dot ++ b) (Str.ofString ".") = (a, dot, b) := part_dot ha
    rw [e1]
    dsimp only
    refine pI_ok (fun h => ?_) fun _ => ?_
    · exact absurd (of_decide_eq_true h) (by decide)
    · refine ⟨rfl, w_good_name (plain_s (by omega)) ?_⟩
      walk_at "px"
      rw [e, letZ_dot ha] at k
      refine pI_ok (fun h => ?_) fun h => ?_
      · refine ⟨rfl, w_short_number (by omega) ?_⟩
        walk_at "px"
        rw [show nmB a = true from h, Bool.true_and] at k
        exact k
      · rw [show nmB a = false from h, Bool.false_and] at k
        exact k
  · have e1 : Txt.partition z (Str.ofString ".") = (z, Str.empty, Str.empty) := part_none hd
    rw [e1]
    dsimp only
    refine pI_ok (fun _ => ?_) fun h => ?_
    · refine ⟨rfl, w_good_name (plain_s (by omega)) ?_⟩
      rw [e, letZ_none hd] at k
      exact k
    · exact absurd rfl (of_decide_eq_false h)
theorem w_step_fits {d : D} {n : Int} {Q : SV → Prop} {E : Er → Prop} (hz : StSz d) (k : Q (.dat (.bl (fitsD n d)))) : m_step_fits [d, .int n] Q E := by
  unfold m_step_fits b_step_fits
  cases d <;> first | (cases hz.1.1; done) | (walk_at "px"; try exact k)
  rename_i ds
  refine pI_ok (fun h => ?_) fun h => ?_
  · rw [fits_len (by simpa using h)] at k
    exact k
  · obtain ⟨p, kd, h', l, q, rfl⟩ := five (ds := ds) (by simpa using h)
    walk_at "px"
    have hp : ∀ e ∈ [p, kd, h', l, q], PlainD e := hz.2 _ rfl
    have ek : fitsD n (.tup [p, kd, h', l, q]) = fits5 n p kd h' l q := rfl
    rw [ek] at k
    refine ⟨rfl, w_is_whole (hp _ (by simp)).1 ?_⟩
    walk_at "px"
    refine pI_ok (fun h1 => ?_) fun h1 => ?_
    · unfold fits5 at k
      rw [show wholeB p 0 (n - 1) = false by simpa using h1] at k
      simpa using k
    refine ⟨rfl, w_is_whole (hp _ (by simp)).1 ?_⟩
    walk_at "px"
    refine pI_ok (fun h2 => ?_) fun h2 => ?_
    · unfold fits5 at k
      rw [show wholeB q 0 (n - 1) = false by simpa using h2] at k
      simpa using k
    unfold fits5 at k
    rw [show wholeB p 0 (n - 1) = true by simpa using h1, show wholeB q 0 (n - 1) = true by simpa using h2, Bool.true_and, Bool.true_and] at k
    have hk := (hp kd (by simp)).1
    have hl' := (hp l (by simp)).1
    cases kd <;> first | (cases hk; done) | (walk_at "px"; try exact k)
    rename_i kz
    cases l <;> first | (cases hl'; done) | (walk_at "px"; try exact k)
    rename_i lz
    have hlz := (hp (.str lz) (by simp)).2 lz rfl
    refine pI_ok (fun h3 => ?_) fun h3 => ?_
    · simp only [show kz = zOwn from by simpa using h3, if_true] at k
      refine ⟨rfl, w_is_whole (hp h' (by simp)).1 ?_⟩
      walk_at "px"
      refine pI_ok (fun h4 => ?_) fun h4 => ?_
      · rw [h4, Bool.true_and] at k; exact k
      · rw [h4, Bool.false_and] at k; exact k
    · simp only [show ¬ kz = zOwn from by simpa using h3, if_false] at k
      refine pI_ok (fun h4 => ?_) fun h4 => ?_
      · rw [h4, Bool.true_or, Bool.true_and] at k
        refine ⟨rfl, w_is_whole (hp h' (by simp)).1 ?_⟩
        walk_at "px"
        refine pI_ok (fun h4 => ?_) fun h4 => ?_
        · refine ⟨rfl, w_good_letter (plain_s (by omega)) ?_⟩
          rw [h4, Bool.true_and] at k; exact k
        · rw [h4, Bool.false_and] at k; exact k
      · refine pI_ok (fun h5 => ?_) fun h5 => ?_
        · rw [h5, Bool.or_true, Bool.true_and] at k
          refine ⟨rfl, w_is_whole (hp h' (by simp)).1 ?_⟩
          walk_at "px"
          refine pI_ok (fun h4 => ?_) fun h4 => ?_
          · refine ⟨rfl, w_good_letter (plain_s (by omega)) ?_⟩
            rw [h4, Bool.true_and] at k; exact k
          · rw [h4, Bool.false_and] at k; exact k
        · rw [h4, h5] at k; exact k
end
section
/-- check_parts says yes -/
noncomputable def partsB : D → List D → List D → Bool
  | .int n, rs, ss => (decide (1 ≤ n) && decide (n ≤ 60)) && (rs.all (fun d => wholeB d 0 (n - 1)) && (decide (ss.length ≤ 200) && (ss.all (fitsD n) && decide ss.Nodup)))
  | _, _, _ => false
theorem w_check_parts {nd rd sd : D} {rs ss : List D} {Q : SV → Prop} {E : Er → Prop} (hr : IsSeq rd rs) (hs : IsSeq sd ss) (h1 : isObj nd = false) (h2 : ∀ r ∈ rs, isObj r = false) (h3 : ∀ s ∈ ss, StSz s) (l1 : rs.length ≤ 4000) (l2 : ss.length ≤ 4000)
    (k1 : partsB nd rs ss = true → Q (.dat .non)) (k2 : partsB nd rs ss = false → E (.plain "BadMachine")) : m_check_parts [nd, rd, sd] Q E := by
  unfold m_check_parts b_check_parts
  walk_at "px"
  refine ⟨rfl, w_is_whole h1 ?_⟩
  walk_at "px"
  refine pI_ok (fun h => k2 ?_) fun h => ?_
  · rw [Bool.not_eq_true'] at h
    cases nd <;> first | rfl | (rename_i n; show ((decide (1 ≤ n) && decide (n ≤ 60)) && _) = false; rw [show (decide (1 ≤ n) && decide (n ≤ 60)) = false from h, Bool.false_and])
  rw [Bool.not_eq_false'] at h
  obtain ⟨n, rfl, n1, n2⟩ := wholeB_iff.mp h
  have en : partsB (.int n) rs ss = (rs.all (fun d => wholeB d 0 (n - 1)) && (decide (ss.length ≤ 200) && (ss.all (fitsD n) && decide ss.Nodup))) := by
    show ((decide (1 ≤ n) && decide (n ≤ 60)) && _) = _
    rw [show (decide (1 ≤ n) && decide (n ≤ 60)) = true from h, Bool.true_and]
  rw [en] at k1 k2
  rw [hr.it]
  refine lc_bools (fun d => wholeB d 0 (n - 1)) rs (by omega) (fun x hx R r => ?_) ?_
  · walk_at "px"
    exact ⟨rfl, w_is_whole (h2 x hx) ⟨rfl, r⟩⟩
  walk_at "px"
  rw [List.all_map, show (id ∘ fun d => wholeB d 0 (n - 1)) = fun d => wholeB d 0 (n - 1) from rfl]
  refine pI_ok (fun h => k2 ?_) fun h => ?_
  · rw [Bool.not_eq_true'] at h; rw [h, Bool.false_and]
  rw [Bool.not_eq_false'] at h
  rw [h, Bool.true_and] at k1 k2
  rw [hs.len]
  walk_at "px"
  refine pI_ok (fun h => k2 ?_) fun h => ?_
  · have : ¬ ss.length ≤ 200 := by simp at h; omega
    rw [decide_eq_false this, Bool.false_and]
  have l3 : ss.length ≤ 200 := by simp at h; omega
  rw [decide_eq_true l3, Bool.true_and] at k1 k2
  rw [hs.it]
  refine lc_bools (fitsD n) ss (by omega) (fun x hx R r => ?_) ?_
  · walk_at "px"
    exact ⟨rfl, w_step_fits (h3 x hx) ⟨rfl, r⟩⟩
  walk_at "px"
  rw [List.all_map, show (id ∘ fitsD n) = fitsD n from rfl]
  refine pI_ok (fun h => k2 ?_) fun h => ?_
  · rw [Bool.not_eq_true'] at h; rw [h, Bool.false_and]
  rw [Bool.not_eq_false'] at h
  rw [h, Bool.true_and] at k1 k2
  obtain ⟨zs, ez, hz⟩ := fits_all (List.all_eq_true.mp h)
  refine ⟨ss, zs.map stK, hs.seq, by rw [ez, List.map_map]; rfl, by omega, fun c c1 c2 => ?_⟩
  walk_at "px"
  rw [hs.len]
  walk_at "px"
  refine pI_ok (fun h => k2 ?_) fun h => k1 ?_
  · refine decide_eq_false fun nd => ?_
    have := c1 nd
    simp at h; omega
  · refine decide_eq_true (Classical.byContradiction fun nd => ?_)
    have := c2 nd
    simp at h; omega
theorem w_check_ok {n : Nat} {rd sd : D} {rs : List Int} {ss : List St} {Q : SV → Prop} {E : Er → Prop} (hr : IsSeq rd (rs.map D.int)) (hs : IsSeq sd (ss.map stD)) (h1 : 1 ≤ n) (h2 : n ≤ 60) (hrs : ∀ r ∈ rs, 0 ≤ r ∧ r < n) (hss : ∀ s ∈ ss, StOk n s) (hn : ss.Nodup) (l1 : rs.length ≤ 4000) (l2 : ss.length ≤ 200) (hz : ∀ s ∈ ss, s.l.length ≤ 1000)
    (k : Q (.dat .non)) : m_check_parts [.int n, rd, sd] Q E := by
  have hk : ∀ s ∈ ss, s.k.length ≤ 1000 := fun s h => by
    obtain ⟨_, _, h3⟩ := hss s h
    rcases h3 with ⟨e, _⟩ | ⟨e | e, _⟩ <;> (rw [e]; decide)
  refine w_check_parts hr hs rfl (fun r hr => ?_) (fun s hs => ?_) (by rw [List.length_map]; omega) (by rw [List.length_map]; omega) (fun _ => k) fun h => ?_
  · obtain ⟨i, _, rfl⟩ := List.mem_map.mp hr; rfl
  · obtain ⟨t, ht, rfl⟩ := List.mem_map.mp hs
    refine ⟨plain_t, fun ds e x hx => ?_⟩
    cases e
    have a1 := hk t ht
    have a2 := hz t ht
    simp only [List.mem_cons, List.not_mem_nil, or_false] at hx
    rcases hx with rfl | rfl | rfl | rfl | rfl
    · exact plain_i
    · exact plain_s (by omega)
    · exact plain_i
    · exact plain_s (by omega)
    · exact plain_i
  · exfalso
    have : partsB (.int n) (rs.map D.int) (ss.map stD) = true := by
      unfold partsB
      simp only [Bool.and_eq_true, decide_eq_true_eq, List.all_eq_true, List.mem_map, List.length_map]
      refine ⟨⟨by omega, by omega⟩, ?_, by omega, ?_, ?_⟩
      · rintro x ⟨i, hi, rfl⟩
        exact wholeB_iff.mpr ⟨i, rfl, by have := hrs i hi; omega, by have := hrs i hi; omega⟩
      · rintro x ⟨s, hs, rfl⟩
        exact fits_st.mpr (hss s hs)
      · exact List.Pairwise.map _ (fun a b h e => h (stD_inj e)) hn
    rw [this] at h
    cases h
end
section
abbrev rowsOf (n : Nat) (ss : List St) : List (List D) := (List.range n).map fun (p : Nat) => (ss.filter fun s => decide (s.p = (p : Int))).map stD
theorem rowsOf_snoc {n : Nat} {ss : List St} {s : St} (h0 : 0 ≤ s.p) (h1 : s.p < n) : (rowsOf n ss).set s.p.toNat ((ss.filter fun t => decide (t.p = s.p)).map stD ++ [stD s]) = rowsOf n (ss ++ [s]) := by
  refine List.ext_getElem? fun i => ?_
  by_cases hi : s.p.toNat = i
  · subst hi
    rw [List.getElem?_set_self (by rw [List.length_map, List.length_range]; omega), List.getElem?_map, List.getElem?_range (by omega)]
    show some _ = some _
    dsimp only
    rw [show ((s.p.toNat : Nat) : Int) = s.p by omega, List.filter_append, List.map_append]
    congr 2
    simp
  · rw [List.getElem?_set_ne hi, List.getElem?_map, List.getElem?_map]
    by_cases hl : i < n
    · rw [List.getElem?_range hl]
      show some _ = some _
      dsimp only
      rw [List.filter_append, show [s].filter (fun t => decide (t.p = (i : Int))) = [] from by
        rw [List.filter_cons, if_neg (by simp; omega)]; rfl, List.append_nil]
    · rw [List.getElem?_eq_none (by rw [List.length_range]; omega)]
      rfl
theorem w_steps_by_state {n : Nat} {ss : List St} {Q : SV → Prop} {E : Er → Prop} (hn : n ≤ 60) (hs : ∀ s ∈ ss, StOk n s) (hl : ss.length ≤ 200) (k : Q (.dat (outsD n ss))) : m_steps_by_state [.int n, rowD ss] Q E := by
  unfold m_steps_by_state b_steps_by_state rowD
  walk_at "px"
  refine ⟨by omega, by omega, ?_⟩
  refine lc2_map (α := Nat) (fun i => .int (0 + (i : Int))) (fun _ => []) (List.range n) (by rw [List.length_range]; omega) (fun x _ R r => ?_) ?_
  · walk_at "px"
    exact r
  walk_at "px"
  refine for_st (fun a : Option SV × List St => [some (.dat (.int n)), some (.dat (rowD ss)), some (.ow2 (rowsOf n a.2)), none, a.1, none]) (fun l a => ∃ r, l = r.map stD ∧ a.2 ++ r = ss) ?_ ?_ _ (none, []) ⟨ss, rfl, rfl⟩
  · rintro ⟨o, dn⟩ ⟨r, h1, h2⟩
    cases r with
    | cons a l => cases h1
    | nil =>
      simp only [List.append_nil] at h2
      subst h2
      walk_at "px"
      rw [show (rowsOf n dn).map D.lst = (List.range n).map (fun (p : Nat) => D.lst ((dn.filter fun s => decide (s.p = (p : Int))).map stD)) by rw [List.map_map]; rfl]
      refine lc_map (α := Nat) _ (fun (p : Nat) => rowD (dn.filter fun s => decide (s.p = (p : Int)))) (List.range n) (by rw [List.length_range]; omega) (fun x _ R r => ?_) ?_
      · walk_at "px"
        exact r
      · walk_at "px"
        exact k
  · rintro d l ⟨o, dn⟩ ⟨r, h1, h2⟩ ih
    cases r with
    | nil => cases h1
    | cons s r =>
      cases h1
      simp only at h2
      have ms : s ∈ ss := by rw [← h2]; simp
      obtain ⟨⟨p0, p1⟩, _⟩ := hs s ms
      have hln : dn.length + (r.length + 1) = ss.length := by rw [← h2]; simp
      unfold stD
      walk_at "px"
      refine pNth_ok p0 (by rw [List.length_range]; exact p1) ⟨(dn.filter fun t => decide (t.p = s.p)).map stD, ?_, ?_⟩
      · rw [List.getElem?_map, List.getElem?_range (by omega)]
        show some _ = some _
        dsimp only
        rw [show ((s.p.toNat : Nat) : Int) = s.p by omega]
      · walk_at "px"
        refine ⟨?_, ?_⟩
        · have := List.length_filter_le (fun t => decide (t.p = s.p)) dn
          omega
        · have e := rowsOf_snoc (n := n) (ss := dn) p0 p1
          unfold stD rowsOf at e
          have := ih (some (.dat (stD s)), dn ++ [s]) ⟨r, rfl, by rw [List.append_assoc]; exact h2⟩
          unfold stD rowsOf at this
          rw [← e] at this
          exact this
theorem w_init_ok {n : Nat} {rd sd : D} {rs : List Int} {ss : List St} {Q : List (Str × D) → Prop} {E : Er → Prop} (hr : IsSeq rd (rs.map D.int)) (hs : IsSeq sd (ss.map stD)) (h1 : 1 ≤ n) (h2 : n ≤ 60) (hrs : ∀ r ∈ rs, 0 ≤ r ∧ r < n) (hss : ∀ s ∈ ss, StOk n s) (hn : ss.Nodup) (l1 : rs.length ≤ 4000) (l2 : ss.length ≤ 200) (hz : ∀ s ∈ ss, s.l.length ≤ 1000)
    (k : Q (mcF (mkMc n rs ss))) : m_Machine_init [.int n, rd, sd] Q E := by
  unfold m_Machine_init b_Machine_init
  walk_at "px"
  refine ⟨rfl, w_check_ok hr hs h1 h2 hrs hss hn l1 l2 hz ?_⟩
  walk_at "px"
  refine ⟨List.mem_cons_self, rs.map D.int, rs, hr.seq, intsD_map rs, l1, fun i hi => by have := hrs i hi; omega, fun ms m1 m2 => ?_⟩
  rw [setI_of (n := n) m1 m2 hrs]
  walk_at "px"
  refine ⟨List.mem_cons_self, by rw [setF_nil]; simp, ?_⟩
  have srt : ∀ {Q : SV → Prop}, Q (.own ((srtS ss).map stD)) → pSrt [sd] Q := fun q => by
    rcases hs with rfl | rfl
    · exact ⟨.inl (SrtOk_st ss), by rw [srtD_st]; exact q⟩
    · exact ⟨SrtOk_st ss, by rw [srtD_st]; exact q⟩
  refine srt ?_
  walk_at "px"
  have lk : List.lookup (Str.ofString "steps") (setF "steps" (.tup ((srtS ss).map stD)) (setF "rests" (.tup ((setI n rs).map D.int)) (setF "size" (.int n) []))) = some (rowD (srtS ss)) := by
    rw [setF_nil, setF_ne (g := "size") (by decide), setF_nil, setF_ne (f := "steps") (g := "size") (by decide), setF_ne (f := "steps") (g := "rests") (by decide), setF_nil, look_ne (by decide), look_ne (by decide), look_eq]
    rfl
  refine ⟨List.mem_cons_self, ?_, List.mem_cons_self, _, lk, ?_⟩
  · rw [setF_nil, setF_ne (g := "size") (by decide), setF_nil]; simp
  refine ⟨rfl, w_steps_by_state h2 (fun s hs => hss s ((srtS_perm ss).mem_iff.mp hs)) (by rw [(srtS_perm ss).length_eq]; exact l2) ?_⟩
  walk_at "px"
  refine ⟨List.mem_cons_self, ?_, _, rfl, ?_⟩
  · rw [setF_nil, setF_ne (g := "size") (by decide), setF_nil, setF_ne (f := "steps") (g := "size") (by decide), setF_ne (f := "steps") (g := "rests") (by decide), setF_nil]; simp
  · have e := mcF_set (mkMc n rs ss)
    rw [← e] at k
    exact k
end
section
theorem w_init_self {m : Mc} {rd sd : D} {Q : List (Str × D) → Prop} {E : Er → Prop} (h : McOk m) (hr : IsSeq rd (m.rs.map D.int)) (hs : IsSeq sd (m.ss.map stD)) (k : Q (mcF m)) : m_Machine_init [.int m.n, rd, sd] Q E :=
  w_init_ok hr hs h.n1 h.n2 h.rs h.ss h.ssN (by have := rs_len h; omega) h.ssL (fun s q => by have := (h.ss s q).len.2; omega) (by rw [mkMc_self h]; exact k)
end
section
theorem w_init_bad {nd rd sd : D} {rs ss : List D} {Q : List (Str × D) → Prop} {E : Er → Prop} (hr : IsSeq rd rs) (hs : IsSeq sd ss) (h1 : isObj nd = false) (h2 : ∀ r ∈ rs, isObj r = false) (h3 : ∀ s ∈ ss, StSz s) (l1 : rs.length ≤ 4000) (l2 : ss.length ≤ 4000)
    (hb : partsB nd rs ss = false) (k : E (.plain "BadMachine")) : m_Machine_init [nd, rd, sd] Q E := by
  unfold m_Machine_init b_Machine_init
  walk_at "px"
  exact ⟨rfl, w_check_parts hr hs h1 h2 h3 l1 l2 (fun h => by rw [hb] at h; cases h) fun _ => k⟩
theorem stsz {n : Int} {s : St} (h : StOk n s) : StSz (stD s) := by
  have hl := h.len
  refine ⟨plain_t, fun ds e x hx => ?_⟩
  cases e
  simp only [List.mem_cons, List.not_mem_nil, or_false] at hx
  rcases hx with rfl | rfl | rfl | rfl | rfl
  · exact plain_i
  · exact plain_s (by omega)
  · exact plain_i
  · exact plain_s (by omega)
  · exact plain_i
abbrev rf2 (nm : Str) : D := .tup [.str (Str.ofString "refused"), .str nm]
theorem al0 {P : D → Prop} : ∀ x ∈ ([] : List D), P x := fun _ h => absurd h List.not_mem_nil
theorem al1 {P : D → Prop} {a : D} {l : List D} (h : P a) (t : ∀ x ∈ l, P x) : ∀ x ∈ a :: l, P x := List.forall_mem_cons.mpr ⟨h, t⟩
def isIntD : D → Bool
  | .int _ => true
  | _ => false
theorem w_integer {d : D} {Q : SV → Prop} {E : Er → Prop} (ho : isObj d = false) (k : Q (.dat (.bl (isIntD d)))) : m_law_integer [d] Q E := by
  unfold m_law_integer b_law_integer
  cases d <;> first | (cases ho; done) | (walk_at "px"; exact k)
theorem nodup_len {n : Nat} {rs : List Int} (hn : rs.Nodup) (hr : ∀ r ∈ rs, 0 ≤ r ∧ r < n) : rs.length ≤ n := nodup_le hn hr
theorem srt_ints {rs : List Int} {n : Nat} {Q : SV → Prop} (hn : rs.Nodup) (hr : ∀ r ∈ rs, 0 ≤ r ∧ r < n) (q : Q (.own ((setI n rs).map D.int))) : pSrt [.lst (rs.map D.int)] Q := by
  refine ⟨.inr ⟨rs, rfl⟩, ?_⟩
  have hp : (setI n rs).Perm rs := (List.perm_ext_iff_of_nodup ((setI_lt n rs).imp fun h => by omega) hn).mpr fun i => by rw [mem_setI]; exact ⟨fun h => h.2, fun h => ⟨hr i h, h⟩⟩
  rw [← srtD_ints hp ((setI_lt n rs).imp fun h => by omega)]
  exact q
theorem ssz {ds : List D} (h : ∀ x ∈ ds, PlainD x) : StSz (.tup ds) := ⟨plain_t, fun es e => by
  cases e
  exact h⟩
theorem who_out {lo hi x : Int} (h : x < lo ∨ hi < x) : wholeB (.int x) lo hi = false := by
  rw [← Bool.not_eq_true, wholeB_iff]
  rintro ⟨i, e, h1, h2⟩
  cases e
  omega
def kindB (k e z : D) : Bool := match k, z with
  | .str k, .str z => if k = zOwn then wholeB e (-1) (-1) && decide (z = zE) else (decide (k = zSend) || decide (k = zTake)) && (wholeB e 0 5 && letZ z)
  | _, _ => false
theorem fit_p {n : Int} {a b c d e : D} (h : wholeB a 0 (n - 1) = false) : fitsD n (.tup [a, b, c, d, e]) = false := by
  show ((wholeB a 0 (n - 1) && _) && _) = false
  rw [h]; rfl
theorem fit_q {n : Int} {a b c d e : D} (h : wholeB e 0 (n - 1) = false) : fitsD n (.tup [a, b, c, d, e]) = false := by
  show ((_ && wholeB e 0 (n - 1)) && _) = false
  rw [h, Bool.and_false]; rfl
theorem fit_x {n : Int} {a b c d e : D} (h : kindB b c d = false) : fitsD n (.tup [a, b, c, d, e]) = false := by
  show (_ && kindB b c d) = false
  rw [h, Bool.and_false]
theorem rs_nd {m : Mc} (h : McOk m) : m.rs.Nodup := h.rsS.imp fun h => by omega
theorem mem_ints {x : Int} {l : List Int} : decide (D.int x ∈ l.map D.int) = decide (x ∈ l) := by
  rw [Bool.eq_iff_iff, decide_eq_true_iff, decide_eq_true_iff]
  exact ⟨fun h => by obtain ⟨i, hi, e⟩ := List.mem_map.mp h; cases e; exact hi, fun h => List.mem_map.mpr ⟨x, h, rfl⟩⟩
theorem cut1 {a b c d e : D} : cutD [a, b, c, d, e] (some 1) none = [b, c, d, e] := rfl
theorem cut4 {a b c d e : D} : cutD [a, b, c, d, e] none (some 4) = [a, b, c, d] := rfl
theorem cut2 {a b c d e : D} : cutD [a, b, c, d, e] none (some 2) = [a, b] := rfl
theorem cut3 {a b c d e : D} : cutD [a, b, c, d, e] (some 3) none = [d, e] := rfl
theorem setI_nd {n : Nat} {l m : List Int} (h : ∀ i, i ∈ l ↔ i ∈ m) : setI n l = setI n m := by
  refine lt_uniq (setI_lt n l) (setI_lt n m) fun i => ?_
  rw [mem_setI, mem_setI, h]
end
section
/-- data without objects, the dicts empty, at most n deep -/
inductive Dpe : Nat → D → Prop
  | non {n : Nat} : Dpe (n + 1) .non
  | bl {n : Nat} {b : Bool} : Dpe (n + 1) (.bl b)
  | int {n : Nat} {b : Int} : Dpe (n + 1) (.int b)
  | str {n : Nat} {b : Str} : Dpe (n + 1) (.str b)
  | dct {n : Nat} : Dpe (n + 1) (.dct false [])
  | dct1 {n : Nat} {z : Str} {i : Int} : Dpe (n + 2) (.dct false [(.str z, .int i)])
  | lst {n : Nat} {b : List D} : (∀ d ∈ b, Dpe n d) → b.length ≤ 1000000 → Dpe (n + 1) (.lst b)
  | tup {n : Nat} {b : List D} : (∀ d ∈ b, Dpe n d) → b.length ≤ 1000000 → Dpe (n + 1) (.tup b)
theorem Dpe.mono {m : Nat} {d : D} (h : Dpe m d) : ∀ {n : Nat}, m ≤ n → Dpe n d := by
  induction h with
  | non => intro n l; cases n with | zero => omega | succ n => exact .non
  | bl => intro n l; cases n with | zero => omega | succ n => exact .bl
  | int => intro n l; cases n with | zero => omega | succ n => exact .int
  | str => intro n l; cases n with | zero => omega | succ n => exact .str
  | dct => intro n l; cases n with | zero => omega | succ n => exact .dct
  | dct1 => intro n l; match n, l with | n + 2, _ => exact .dct1
  | lst _ hl ih => intro n l; cases n with | zero => omega | succ n => exact .lst (fun d hd => ih d hd (by omega)) hl
  | tup _ hl ih => intro n l; cases n with | zero => omega | succ n => exact .tup (fun d hd => ih d hd (by omega)) hl
theorem lc_id {b : Bnd} {te : Pd} {ρ0 : Rho} {Q : List D → Prop} (xs : List D) (hl : xs.length ≤ 16777216)
    (hs : ∀ x ∈ xs, ∀ R : D → Prop, R x → b x ρ0 fun ρ1 => te ρ1 fun e ρ3 => ρ3 = ρ1 ∧ R e) (hQ : Q xs) : pLc b mYes te ρ0 Q xs [] := by
  have h := lc_map (α := D) (b := b) (te := te) (ρ0 := ρ0) (Q := Q) id id xs hl (fun x hx R r => hs x hx R r) (by rw [List.map_id]; exact hQ)
  rwa [List.map_id] at h
theorem find1 {k x : D} {K : D → Prop} (q : K x) : pFind [(k, x)] k K := ⟨x, by simp [dfind], q⟩
theorem dput0 {k x : D} : dput [] k x = [(k, x)] := rfl
theorem isin1 {k x : D} : (dfind [(k, x)] k).isSome = true := by simp [dfind]
theorem w_copy : ∀ {n : Nat} {d : D}, Dpe n d → ∀ {Q : SV → Prop} {E : Er → Prop}, (∀ r : SV, r.d = d → Q r) → m_law_copy n [d] Q E := by
  intro n d h
  induction h with
  | non => intro Q E k; unfold m_law_copy b_law_copy; walk_at "px"; exact k _ rfl
  | bl => intro Q E k; unfold m_law_copy b_law_copy; walk_at "px"; exact k _ rfl
  | int => intro Q E k; unfold m_law_copy b_law_copy; walk_at "px"; exact k _ rfl
  | str => intro Q E k; unfold m_law_copy b_law_copy; walk_at "px"; exact k _ rfl
  | dct =>
    intro Q E k
    unfold m_law_copy b_law_copy
    walk_at "px"
    refine .inl ⟨_, _, rfl, ?_⟩
    rw [List.map_nil]
    walk_at "px"
    exact k _ rfl
  | @dct1 n z i =>
    intro Q E k
    show b_law_copy (m_law_copy (n + 1)) E _ _
    unfold b_law_copy
    walk_at "px"
    refine .inl ⟨_, _, rfl, ?_⟩
    rw [List.map_cons, List.map_nil, pFor_one]
    walk_at "px"
    refine find1 ?_
    refine ⟨rfl, ?_⟩
    unfold m_law_copy b_law_copy
    walk_at "px"
    exact k _ (by rw [dput0]; rfl)
  | @lst n b hb hl ih =>
    intro Q E k
    unfold m_law_copy b_law_copy
    walk_at "px"
    refine lc_id b (by omega) (fun x hx R r => ?_) (k _ rfl)
    walk_at "px"
    refine ⟨rfl, ih x hx fun q hq => ?_⟩
    walk_at "px"
    rw [hq]
    exact r
  | @tup n b hb hl ih =>
    intro Q E k
    unfold m_law_copy b_law_copy
    walk_at "px"
    refine lc_id b (by omega) (fun x hx R r => ?_) ?_
    · walk_at "px"
      refine ⟨rfl, ih x hx fun q hq => ?_⟩
      walk_at "px"
      rw [hq]
      exact r
    · walk_at "px"
      exact k _ rfl
theorem w_sameE {n : Nat} {Q : SV → Prop} {E : Er → Prop} (k : Q (.dat (.bl true))) : m_law_same (n + 1) [.dct false [], .dct false []] Q E := by
  show b_law_same (m_law_same n) E _ _
  unfold b_law_same
  walk_at "px"
  refine .inl ⟨_, _, rfl, ?_⟩
  rw [List.map_nil]
  walk_at "px"
  refine .inl ⟨_, _, rfl, ?_⟩
  rw [List.map_nil]
  walk_at "px"
  exact k
theorem w_sameE1 {n : Nat} {z : Str} {i : Int} {Q : SV → Prop} {E : Er → Prop} (k : Q (.dat (.bl true))) : m_law_same (n + 2) [.dct false [(.str z, .int i)], .dct false [(.str z, .int i)]] Q E := by
  show b_law_same (m_law_same (n + 1)) E _ _
  unfold b_law_same
  walk_at "px"
  refine .inl ⟨_, _, rfl, ?_⟩
  rw [List.map_cons, List.map_nil, pFor_one]
  walk_at "px"
  refine .inl ⟨_, _, rfl, ?_⟩
  rw [List.map_cons, List.map_nil, pFor_one]
  walk_at "px"
  rw [dput0, isin1]
  walk_at "px"
  refine find1 ?_
  refine ⟨rfl, ?_⟩
  show b_law_same (m_law_same n) _ _ _
  unfold b_law_same
  walk_at "px"
  refine find1 ?_
  walk_at "px"
  refine find1 ?_
  refine ⟨rfl, ?_⟩
  show b_law_same (m_law_same n) _ _ _
  unfold b_law_same
  walk_at "px"
  exact k
theorem w_samee : ∀ {n : Nat} {d : D}, Dpe n d → ∀ {Q : SV → Prop} {E : Er → Prop}, Q (.dat (.bl true)) → m_law_same n [d, d] Q E
  | 0, _, h, _, _, _ => by cases h
  | n + 1, _, .non, Q, E, k => by
    show b_law_same (m_law_same n) E _ _
    unfold b_law_same
    walk_at "px"
    exact k
  | n + 1, _, .bl, Q, E, k => by
    show b_law_same (m_law_same n) E _ _
    unfold b_law_same
    walk_at "px"
    simp only [beq_self_eq_true]
    exact k
  | n + 1, _, .int, Q, E, k => by
    show b_law_same (m_law_same n) E _ _
    unfold b_law_same
    walk_at "px"
    exact k
  | n + 1, _, .str, Q, E, k => by
    show b_law_same (m_law_same n) E _ _
    unfold b_law_same
    walk_at "px"
    exact k
  | n + 1, _, .dct, Q, E, k => w_sameE k
  | n + 2, _, .dct1, Q, E, k => w_sameE1 k
  | n + 1, _, .lst (b := ds) hd hl, Q, E, k => by
    show b_law_same (m_law_same n) E _ _
    unfold b_law_same
    walk_at "px"
    refine ⟨by omega, by omega, ?_⟩
    refine for_rng (fun a : Option SV => [some (.dat (.lst ds)), some (.dat (.lst ds)), none, none, a]) 0 ds.length (fun _ _ => True) (fun a _ => ?_) (fun j a es hj _ ih => ?_) none trivial
    · walk_at "px"; exact k
    · have e : ds[(0 + (j : Int)).toNat]? = some ds[j] := by rw [show (0 + (j : Int)).toNat = j by omega]; exact List.getElem?_eq_getElem hj
      walk_at "px"
      refine pAt_ok e (by omega) (pAt_ok e (by omega) ⟨rfl, w_samee (hd _ (List.getElem_mem hj)) ?_⟩)
      walk_at "px"
      exact ih _ trivial
  | n + 1, _, .tup (b := ds) hd hl, Q, E, k => by
    show b_law_same (m_law_same n) E _ _
    unfold b_law_same
    walk_at "px"
    refine ⟨by omega, by omega, ?_⟩
    refine for_rng (fun a : Option SV => [some (.dat (.tup ds)), some (.dat (.tup ds)), none, none, a]) 0 ds.length (fun _ _ => True) (fun a _ => ?_) (fun j a es hj _ ih => ?_) none trivial
    · walk_at "px"; exact k
    · have e : ds[(0 + (j : Int)).toNat]? = some ds[j] := by rw [show (0 + (j : Int)).toNat = j by omega]; exact List.getElem?_eq_getElem hj
      walk_at "px"
      refine pAt_ok e (by omega) (pAt_ok e (by omega) ⟨rfl, w_samee (hd _ (List.getElem_mem hj)) ?_⟩)
      walk_at "px"
      exact ih _ trivial
end
section
theorem w_take {m : Int} {Q : SV → Prop} {E : Er → Prop} (hm : m < 1073741824) (k : ∀ r : Int, 0 ≤ r → (r < m ∨ r = 0) → Q (.dat (.int r))) : m_law_take [.int m] Q E := ⟨m, rfl, hm, k⟩
theorem w_number {lo hi : Int} {Q : SV → Prop} {E : Er → Prop} (hm : hi - lo < 1000000000) (k : ∀ r : Int, lo ≤ r → (r ≤ hi ∨ r = lo) → Q (.dat (.int r))) : m_law_number [.int lo, .int hi] Q E := by
  unfold m_law_number b_law_number
  walk_at "px"
  refine pI_ok (fun h => k lo (Int.le_refl _) (.inr rfl)) fun h => ?_
  have h : lo < hi := by simp at h; omega
  walk_at "px"
  refine ⟨rfl, w_take (by omega) fun r h0 h1 => ?_⟩
  walk_at "px"
  refine pI_ok (fun _ => k lo (Int.le_refl _) (.inr rfl)) fun _ => ?_
  walk_at "px"
  refine pI_ok (fun _ => k hi (by omega) (.inl (by omega))) fun _ => ?_
  walk_at "px"
  refine pI_ok (fun _ => k _ (by omega) (.inl (by omega))) fun _ => ?_
  refine ⟨rfl, w_take (by omega) fun s h2 h3 => ?_⟩
  walk_at "px"
  exact k _ (by omega) (by omega)
theorem w_pick {d : D} {ds : List D} {Q : SV → Prop} {E : Er → Prop} (hs : IsSeq d ds) (hn : ds ≠ []) (hl : ds.length ≤ 1000000) (k : ∀ x ∈ ds, Q (.dat x)) : m_law_pick [d] Q E := by
  have h0 : 0 < ds.length := List.length_pos_iff.mpr hn
  have main : ∀ r : Int, 0 ≤ r → (r < ds.length ∨ r = 0) → pAt ds r fun c => Q (.dat c) := fun r h1 h2 => by
    have hr : r.toNat < ds.length := by omega
    exact pAt_ok (List.getElem?_eq_getElem hr) h1 (k _ (List.getElem_mem hr))
  unfold m_law_pick b_law_pick
  rcases hs with rfl | rfl
  · walk_at "px"
    refine ⟨rfl, w_take (by omega) fun r h1 h2 => ?_⟩
    walk_at "px"
    exact main r h1 h2
  · walk_at "px"
    refine ⟨rfl, w_take (by omega) fun r h1 h2 => ?_⟩
    walk_at "px"
    exact main r h1 h2
theorem w_shuffled {ds : List D} {Q : SV → Prop} {E : Er → Prop} (hl : ds.length ≤ 1000000) (k : ∀ es : List D, es.Perm ds → Q (.own es)) : m_law_shuffled [.lst ds] Q E := by
  unfold m_law_shuffled b_law_shuffled
  walk_at "px"
  refine ⟨rfl, w_take (by omega) fun r h0 h1 => ?_⟩
  walk_at "px"
  refine pI_ok (fun _ => k ds (List.Perm.refl _)) fun _ => ?_
  refine ⟨by omega, by omega, ?_⟩
  refine for_st (fun a : Option SV × List D × List D => [none, some (.dat (.lst ds)), some (.own a.2.1), some (.own a.2.2), a.1]) (fun l a => l.length = a.2.1.length ∧ (a.2.2 ++ a.2.1).Perm ds) ?_ ?_ _ (none, ds, []) ⟨rngD_length, List.Perm.refl _⟩
  · rintro ⟨o, rest, pk⟩ ⟨h1, h2⟩
    cases rest with
    | nil => walk_at "px"; exact k _ (by simpa using h2)
    | cons a l => cases h1
  · rintro d l ⟨o, rest, pk⟩ ⟨h1, h2⟩ ih
    have hp := h2.length_eq
    rw [List.length_append] at hp
    rw [List.length_cons] at h1
    simp only at h1 h2 hp
    walk_at "px"
    refine ⟨rfl, w_take (by omega) fun r h0 h1' => ?_⟩
    walk_at "px"
    have hr : r.toNat < rest.length := by omega
    refine ⟨h0, by omega, pGet_ok (List.getElem?_eq_getElem hr) ?_⟩
    walk_at "px"
    refine ⟨by omega, ih (_, _, _) ⟨?_, ?_⟩⟩
    · rw [List.length_eraseIdx_of_lt hr]; omega
    · refine List.Perm.trans ?_ h2
      rw [List.append_assoc]
      exact (perm_erase hr).append_left pk
/-- some members, each from its own place -/
theorem w_spell {n : Int} {Q : SV → Prop} {E : Er → Prop} (h0 : 0 ≤ n) (h1 : n ≤ 10000) (k : ∀ z : Str, lowB z = true → (z.length : Int) = n → Q (.dat (.str z))) : m_law_spell [.int n] Q E := by
  unfold m_law_spell b_law_spell
  walk_at "px"
  refine ⟨by omega, by omega, ?_⟩
  refine lc_st (fun l acc => ∃ cs : List Nat, acc = cs.map (fun c => D.str (sg c)) ∧ (∀ c ∈ cs, low c) ∧ cs.length + l.length = n.toNat) ?_ ?_ _ [] ⟨[], rfl, fun _ h => (nomatch h), by rw [rngD_length]; simp⟩
  · rintro acc ⟨cs, rfl, hc, hn⟩
    rw [List.length_nil] at hn
    refine ⟨_, cs.map (fun c => D.str (sg c)), cs.map sg, rfl, rfl, by rw [show cs.map (fun c => D.str (sg c)) = (cs.map sg).map D.str by rw [List.map_map]; rfl, strsD_map], ?_, ?_⟩
    · rw [sum_sg, show (Str.ofString "").length = 0 from rfl]; omega
    · have e : tl (Txt.join (Str.ofString "") (cs.map sg)) = cs := tl_join_sg cs
      refine k _ ?_ ?_
      · unfold lowB
        show (tl _).all _ = true
        rw [e, List.all_eq_true]
        intro c hcc
        have := hc c hcc
        unfold low at this
        simp [this]
      · rw [← tl_len, e]; omega
  · rintro d l acc ⟨cs, rfl, hc, hn⟩ ih
    rw [List.length_cons] at hn
    walk_at "px"
    refine ⟨rfl, w_take (by omega) fun r r0 r1 => ?_⟩
    walk_at "px"
    obtain ⟨c, e, hl⟩ := abc_at r0 (show r < 26 by omega)
    refine ⟨r, rfl, .inr ⟨_, c, rfl, by decide, e, ?_⟩⟩
    walk_at "px"
    refine ⟨by omega, ?_⟩
    · refine ih _ ⟨cs ++ [c], by rw [List.map_append]; rfl, fun x hx => ?_, by rw [List.length_append, List.length_singleton]; omega⟩
      rcases List.mem_append.mp hx with h | h
      · exact hc x h
      · rw [List.mem_singleton.mp h]; exact hl
/-- letters of a machine's steps -/
def LetL (zs : List Str) : Prop := zs ≠ [] ∧ ∀ z ∈ zs, letZ z = true
set_option hygiene false in
local macro_rules | `(tactic| walk_at "fin") => `(tactic| (
  refine in_flat (.inl rfl) rfl fl ?_
  walk_at "px"
  refine pI_ok (fun _ => ?_) fun hin => ?_
  · refine ⟨by omega, ?_⟩
    have q := ih ((some (.dat d), some (.dat (.str w))), zs ++ [w]) ⟨fun z hz => (List.mem_append.mp hz).elim (h1 z) fun e => by rw [List.mem_singleton.mp e]; exact lw, .inl (by simp), by rw [List.length_append, List.length_singleton]; omega⟩
    rw [List.map_append] at q
    exact q
  · refine ih ((some (.dat d), some (.dat (.str w))), zs) ⟨h1, .inl ?_, by show l.length + zs.length ≤ _; omega⟩
    intro e
    have e : zs = [] := e
    rw [e] at hin
    cases hin))
theorem w_alphabet {n : Int} {Q : SV → Prop} {E : Er → Prop} (hn : 1 ≤ n) (hm : n ≤ 1000) (k : ∀ zs : List Str, LetL zs → (zs.length : Int) ≤ n → Q (.own (zs.map D.str))) : m_law_alphabet [.int n] Q E := by
  unfold m_law_alphabet b_law_alphabet
  walk_at "px"
  refine ⟨rfl, w_number (by omega) fun c c0 c1 => ?_⟩
  walk_at "px"
  refine ⟨by omega, by omega, ?_⟩
  refine for_st (fun a : (Option SV × Option SV) × List Str => [none, some (.dat (.int n)), some (.own (a.2.map D.str)), a.1.1, a.1.2]) (fun l a => (∀ z ∈ a.2, letZ z = true) ∧ (a.2 ≠ [] ∨ l ≠ []) ∧ l.length + a.2.length ≤ c.toNat) ?_ ?_ _ ((none, none), []) ⟨fun _ h => (nomatch h), .inr (fun h => by have := congrArg List.length h; rw [rngD_length] at this; simp at this; omega), by rw [rngD_length]; simp⟩
  · rintro ⟨⟨o, o'⟩, zs⟩ ⟨h1, h2, h3⟩
    walk_at "px"
    simp only [List.length_nil] at h3
    exact k zs ⟨h2.resolve_right (fun h => h rfl), h1⟩ (by omega)
  · rintro d l ⟨⟨o, o'⟩, zs⟩ ⟨h1, h2, h3⟩ ih
    rw [List.length_cons] at h3
    simp only at h1 h3
    walk_at "px"
    refine ⟨rfl, w_number (by omega) fun s s0 s1 => ?_⟩
    walk_at "px"
    refine ⟨rfl, w_spell (by omega) (by omega) fun z z0 z1 => ?_⟩
    walk_at "px"
    have nz : nmB z = true := by unfold nmB; rw [z0]; simp; omega
    refine ⟨rfl, w_pick (.inl rfl) (by simp) (by simp) fun x hx => ?_⟩
    obtain ⟨y, rfl, ny⟩ : ∃ y, x = .str y ∧ nmB y = true := by
      simp only [List.mem_cons, List.not_mem_nil, or_false] at hx
      rcases hx with rfl | rfl | rfl | rfl | rfl
      · exact ⟨_, rfl, nz⟩
      · exact ⟨_, rfl, by decide +kernel⟩
      · exact ⟨_, rfl, by decide +kernel⟩
      · exact ⟨_, rfl, by decide +kernel⟩
      · exact ⟨_, rfl, by decide +kernel⟩
    walk_at "px"
    refine ⟨rfl, w_take (by omega) fun t t0 t1 => ?_⟩
    walk_at "px"
    have fl : (zs.map D.str).all flat = true := by rw [List.all_map]; exact List.all_eq_true.mpr fun _ _ => rfl
    have ly := letZ_nm ny
    have y8 := (low_tl ny).2.2
    refine pI_ok (fun _ => ?_) fun _ => ?_
    · refine ⟨by rw [show (Str.ofString ".").length = 1 from rfl]; omega, rfl, w_number (by omega) fun u u0 u1 => ?_⟩
      have lu := letZ_num ny u0 (by omega : u ≤ 99)
      have ll := letZ_len lu
      walk_at "px"
      have hu : ((toString u : String) : Str).length ≤ 11 := by rw [len_app] at ll; omega
      refine ⟨log2_small (by omega), by rw [len_app, show (Str.ofString ".").length = 1 from rfl]; omega, ?_⟩
      generalize hw : y ++ Str.ofString "." ++ Str.ofString (toString u) = w
      have lw : letZ w = true := by rw [← hw]; exact lu
      clear hw lu ll hu ly y8 ny
      walk_at "fin"
    · generalize hw : y = w at ly
      clear hw y8 ny
      have lw := ly
      clear ly
      walk_at "fin"
end
section
theorem w_rests {n : Nat} {Q : SV → Prop} {E : Er → Prop} (hn : n ≤ 100000) (k : ∀ rs : List Int, rs.Pairwise (· < ·) → (∀ r ∈ rs, 0 ≤ r ∧ r < n) → rs.length ≤ n → Q (.own (rs.map D.int))) : m_law_rests [.int n] Q E := by
  unfold m_law_rests b_law_rests
  walk_at "px"
  refine ⟨rfl, w_take (by omega) fun t t0 t1 => ?_⟩
  walk_at "px"
  refine pI_ok (fun _ => k [] .nil (fun _ h => nomatch h) (Nat.zero_le _)) fun _ => ?_
  refine ⟨by omega, by omega, ?_⟩
  refine lc_rng 0 n (fun j acc => ∃ rs : List Int, acc = rs.map D.int ∧ rs.Pairwise (· < ·) ∧ (∀ r ∈ rs, 0 ≤ r ∧ r < j) ∧ rs.length ≤ j) ?_ ?_ ⟨[], rfl, .nil, fun _ h => (nomatch h), Nat.zero_le _⟩
  · rintro acc ⟨rs, rfl, h1, h2, h3⟩
    exact k rs h1 h2 h3
  · rintro j acc ds hj ⟨rs, rfl, h1, h2, h3⟩ ih
    have yes : ∃ qs : List Int, (rs.map D.int) ++ [D.int (0 + (j : Nat))] = qs.map D.int ∧ qs.Pairwise (· < ·) ∧ (∀ r ∈ qs, 0 ≤ r ∧ r < (j + 1 : Nat)) ∧ qs.length ≤ j + 1 := by
      refine ⟨rs ++ [(0 : Int) + ((j : Nat) : Int)], by rw [List.map_append]; rfl, ?_, fun r hr => ?_, by rw [List.length_append, List.length_singleton]; omega⟩
      · refine List.pairwise_append.mpr ⟨h1, List.pairwise_singleton _ _, fun a ha b hb => ?_⟩
        rw [List.mem_singleton.mp hb]
        have := h2 a ha
        omega
      · rcases List.mem_append.mp hr with h | h
        · have := h2 r h; omega
        · rw [List.mem_singleton.mp h]; omega
    have no : ∃ qs : List Int, (rs.map D.int) = qs.map D.int ∧ qs.Pairwise (· < ·) ∧ (∀ r ∈ qs, 0 ≤ r ∧ r < (j + 1 : Nat)) ∧ qs.length ≤ j + 1 := ⟨rs, rfl, h1, fun r hr => by have := h2 r hr; omega, by omega⟩
    walk_at "px"
    refine pI_ok (fun _ => ?_) fun _ => ?_
    · refine ⟨by omega, ih _ yes⟩
    · refine ⟨rfl, w_take (by omega) fun u u0 u1 => ?_⟩
      walk_at "px"
      refine pI_ok (fun _ => ?_) fun _ => ?_
      · exact ⟨by omega, ih _ yes⟩
      · exact ih _ no
/-- the step's peer is one of these, or it is an own step -/
def PeS (ps : List Int) (s : St) : Prop := s.h = -1 ∨ s.h ∈ ps
set_option hygiene false in
local macro_rules | `(tactic| walk_at "fin") => `(tactic| (
  refine in_st (.inl rfl) hok h2 ?_
  walk_at "px"
  refine pI_ok (fun hin => ?_) fun hnn => ?_
  · refine ⟨by omega, ?_⟩
    rw [show ss.map stD ++ [stD s] = (ss ++ [s]).map stD by rw [List.map_append]; rfl]
    refine ih ((_, _, _, _, _), ss ++ [s]) ⟨?_, fun z hz => (List.mem_append.mp hz).elim (h2 z) fun e => by rw [List.mem_singleton.mp e]; exact hok, by show (ss ++ [s]).length ≤ _; rw [List.length_append, List.length_singleton]; omega, fun z hz => (List.mem_append.mp hz).elim (h4 z) fun e => by rw [List.mem_singleton.mp e]; exact hpe, fun _ e => by simp at e⟩
    · refine List.nodup_append.mpr ⟨h1, List.nodup_cons.mpr ⟨List.not_mem_nil, List.nodup_nil⟩, fun a ha b hb e => ?_⟩
      rw [List.mem_singleton.mp hb] at e
      subst e
      simp [ha] at hin
  · exact ih ((_, _, _, _, _), ss) ⟨h1, h2, by show ss.length ≤ _; omega, h4, fun _ e => by have e : ss = [] := e; rw [e] at hnn; simp at hnn⟩))
theorem w_stepsN {n : Nat} {ps : List Int} {zs : List Str} {many : Int} {Q : SV → Prop} {E : Er → Prop} (hn : 1 ≤ n) (hn2 : n ≤ 100000) (hp : PeerL ps) (lp : ps.length ≤ 100000) (hz : LetL zs) (lz : zs.length ≤ 100000) (hm : many ≤ 100000)
    (hm2 : -100000 ≤ many) (k : ∀ ss : List St, ss.Pairwise (fun a b => leS a b = true) → ss.Nodup → (∀ s ∈ ss, StOk n s) → ss.length ≤ many.toNat → (∀ s ∈ ss, PeS ps s) → (1 ≤ many → ss ≠ []) → Q (.own (ss.map stD))) : m_law_steps [.int n, .lst (ps.map D.int), .lst (zs.map D.str), .int many] Q E := by
  unfold m_law_steps b_law_steps
  walk_at "px"
  refine ⟨by omega, by omega, ?_⟩
  refine for_rng (fun a : (Option SV × Option SV × Option SV × Option SV × Option SV) × List St => [none, some (.dat (.int n)), some (.dat (.lst (ps.map D.int))), some (.dat (.lst (zs.map D.str))), some (.dat (.int many)), some (.own (a.2.map stD)), a.1.1, a.1.2.1, a.1.2.2.1, a.1.2.2.2.1, a.1.2.2.2.2]) 0 many.toNat (fun j a => a.2.Nodup ∧ (∀ s ∈ a.2, StOk n s) ∧ a.2.length ≤ j ∧ (∀ s ∈ a.2, PeS ps s) ∧ (0 < j → a.2 ≠ [])) ?_ ?_ ((none, none, none, none, none), []) ⟨List.nodup_nil, fun _ h => (nomatch h), Nat.zero_le _, fun _ h => (nomatch h), fun h => absurd h (Nat.lt_irrefl _)⟩
  · rintro ⟨⟨o1, o2, o3, o4, o5⟩, ss⟩ ⟨h1, h2, h3, h4, h6⟩
    walk_at "px"
    refine srt_st (.inl rfl) (k _ (srtS_srt ss) ((srtS_perm ss).nodup_iff.mpr h1) (fun s hs => h2 s ((srtS_perm ss).mem_iff.mp hs)) ?_ (fun s hs => h4 s ((srtS_perm ss).mem_iff.mp hs)) fun hm e => h6 (by omega) (List.perm_nil.mp ((srtS_perm ss).symm.trans (e ▸ List.Perm.refl _))))
    rw [(srtS_perm ss).length_eq]
    exact h3
  · rintro j ⟨⟨o1, o2, o3, o4, o5⟩, ss⟩ ds hj ⟨h1, h2, h3, h4, h6⟩ ih
    simp only at h1 h2 h3 h4
    walk_at "px"
    refine ⟨rfl, w_take (by omega) fun p p0 p1 => ?_⟩
    walk_at "px"
    refine ⟨rfl, w_take (by omega) fun q q0 q1 => ?_⟩
    walk_at "px"
    refine ⟨rfl, w_take (by omega) fun w w0 w1 => ?_⟩
    walk_at "px"
    have hp1 : p < n := by omega
    have hq1 : q < n := by omega
    have own : StOk n ⟨p, zOwn, -1, zE, q⟩ := own_ok p0 hp1 q0 hq1
    have fo : pIn true (stD ⟨p, zOwn, -1, zE, q⟩) (.lst (ss.map stD)) (fun d => True) → True := fun _ => trivial
    refine pI_ok (fun _ => pI_ok (fun hpl => ?_) fun _ => ?_) fun _ => ?_
    · have ne : ps ≠ [] := by intro e; rw [e] at hpl; simp at hpl
      obtain ⟨f0, f1⟩ := fmod_of w0 (b := 2) (by omega)
      have hk : ∀ {K : D → Prop}, (∀ kd, kd = zSend ∨ kd = zTake → K (.str kd)) → pAt [.str zSend, .str zTake] (w.fmod 2) K := fun {K} f => by
        rcases (show w.fmod 2 = 0 ∨ w.fmod 2 = 1 by omega) with e | e
        · rw [e, e_at0]; exact f _ (.inl rfl)
        · rw [e, e_at1]; exact f _ (.inr rfl)
      refine hk fun kd hkd => ?_
      walk_at "px"
      refine ⟨rfl, w_pick (.inl rfl) (by simpa using ne) (by rw [List.length_map]; omega) fun x hx => ?_⟩
      obtain ⟨h, hh, rfl⟩ := List.mem_map.mp hx
      walk_at "px"
      refine ⟨rfl, w_pick (.inl rfl) (by simpa using hz.1) (by rw [List.length_map]; omega) fun x hx => ?_⟩
      obtain ⟨l, hl, rfl⟩ := List.mem_map.mp hx
      walk_at "px"
      have hok : StOk n ⟨p, kd, h, l, q⟩ := oth_ok p0 hp1 q0 hq1 hkd (hp h hh).1 (hp h hh).2 (hz.2 l hl)
      have hpe : PeS ps ⟨p, kd, h, l, q⟩ := .inr hh
      generalize hs : (⟨p, kd, h, l, q⟩ : St) = s at hok hpe
      have es : D.tup [.int p, .str kd, .int h, .str l, .int q] = stD s := by rw [← hs]; rfl
      rw [es]
      walk_at "fin"
    · have hpe : PeS ps ⟨p, zOwn, -1, zE, q⟩ := .inl rfl
      generalize hs : (⟨p, zOwn, -1, zE, q⟩ : St) = s at own hpe
      have es : D.tup [.int p, .str (Str.ofString "own"), .int (-1), .str (Str.ofString ""), .int q] = stD s := by rw [← hs]; rfl
      rw [es]
      have hok := own
      walk_at "fin"
    · have hpe : PeS ps ⟨p, zOwn, -1, zE, q⟩ := .inl rfl
      generalize hs : (⟨p, zOwn, -1, zE, q⟩ : St) = s at own hpe
      have es : D.tup [.int p, .str (Str.ofString "own"), .int (-1), .str (Str.ofString ""), .int q] = stD s := by rw [← hs]; rfl
      rw [es]
      have hok := own
      walk_at "fin"
theorem w_stepsP {n : Nat} {ps : List Int} {zs : List Str} {many : Int} {Q : SV → Prop} {E : Er → Prop} (hn : 1 ≤ n) (hn2 : n ≤ 100000) (hp : PeerL ps) (lp : ps.length ≤ 100000) (hz : LetL zs) (lz : zs.length ≤ 100000) (hm : many ≤ 100000)
    (hm2 : -100000 ≤ many) (k : ∀ ss : List St, ss.Pairwise (fun a b => leS a b = true) → ss.Nodup → (∀ s ∈ ss, StOk n s) → ss.length ≤ many.toNat → (∀ s ∈ ss, PeS ps s) → Q (.own (ss.map stD))) : m_law_steps [.int n, .lst (ps.map D.int), .lst (zs.map D.str), .int many] Q E :=
  w_stepsN hn hn2 hp lp hz lz hm hm2 fun ss a b c d e _ => k ss a b c d e
theorem w_steps {n : Nat} {ps : List Int} {zs : List Str} {many : Int} {Q : SV → Prop} {E : Er → Prop} (hn : 1 ≤ n) (hn2 : n ≤ 100000) (hp : PeerL ps) (lp : ps.length ≤ 100000) (hz : LetL zs) (lz : zs.length ≤ 100000) (hm : many ≤ 100000)
    (hm2 : -100000 ≤ many) (k : ∀ ss : List St, ss.Pairwise (fun a b => leS a b = true) → ss.Nodup → (∀ s ∈ ss, StOk n s) → ss.length ≤ many.toNat → Q (.own (ss.map stD))) : m_law_steps [.int n, .lst (ps.map D.int), .lst (zs.map D.str), .int many] Q E :=
  w_stepsP hn hn2 hp lp hz lz hm hm2 fun ss a b c d _ => k ss a b c d
theorem w_machineP {n : Nat} {ps : List Int} {zs : List Str} {Q : SV → Prop} {E : Er → Prop} (hn : 1 ≤ n) (hn2 : n ≤ 60) (hp : PeerL ps) (lp : ps.length ≤ 100000) (hz : LetL zs) (lz : zs.length ≤ 100000)
    (k : ∀ m : Mc, McOk m → m.n = n → (∀ s ∈ m.ss, PeS ps s) → Q (.dat (lmD m))) : m_law_machine [.int n, .lst (ps.map D.int), .lst (zs.map D.str)] Q E := by
  unfold m_law_machine b_law_machine
  walk_at "px"
  refine ⟨rfl, w_rests (by omega) fun rs r1 r2 r3 => ?_⟩
  walk_at "px"
  refine ⟨.inl ⟨by decide, by decide⟩, rfl, w_number (by omega) fun c c0 c1 => ?_⟩
  walk_at "px"
  refine ⟨rfl, w_stepsP hn (by omega) hp lp hz lz (by omega) (by omega) fun ss s1 s2 s3 s4 s5 => ?_⟩
  walk_at "px"
  exact k ⟨n, rs, ss⟩ ⟨hn, hn2, r2, r1, s3, s1, s2, by show ss.length ≤ 200; omega⟩ rfl s5
theorem w_machine {n : Nat} {ps : List Int} {zs : List Str} {Q : SV → Prop} {E : Er → Prop} (hn : 1 ≤ n) (hn2 : n ≤ 60) (hp : PeerL ps) (lp : ps.length ≤ 100000) (hz : LetL zs) (lz : zs.length ≤ 100000)
    (k : ∀ m : Mc, McOk m → m.n = n → Q (.dat (lmD m))) : m_law_machine [.int n, .lst (ps.map D.int), .lst (zs.map D.str)] Q E :=
  w_machineP hn hn2 hp lp hz lz fun m a b _ => k m a b
end
section
theorem mod_add_inj {N s a b : Nat} (ha : a < N) (hb : b < N) (h : (a + s) % N = (b + s) % N) : a = b := by
  have h1 : ((a + s : Nat) : Int) % (N : Int) = ((b + s : Nat) : Int) % (N : Int) := by rw [← Int.natCast_emod, ← Int.natCast_emod, h]
  have h2 := Int.emod_eq_emod_iff_emod_sub_eq_zero.mp h1
  have h3 := Int.dvd_of_emod_eq_zero h2
  have h4 := Int.eq_zero_of_dvd_of_natAbs_lt_natAbs h3 (by omega)
  omega
def fmP (N sh j : Nat) : Int × Int := (((j % N : Nat) : Int), (((j / N + sh) % N : Nat) : Int))
theorem fmP_inj {N sh i j : Nat} (hN : 15 ≤ N) (hi : i < 200) (hj : j < 200) (h : fmP N sh i = fmP N sh j) : i = j := by
  unfold fmP at h
  rw [Prod.mk.injEq] at h
  have h1 : i % N = j % N := by omega
  have h2 : (i / N + sh) % N = (j / N + sh) % N := by omega
  have hd : ∀ x < 200, x / N < N := fun x hx => by
    rw [Nat.div_lt_iff_lt_mul (by omega)]
    exact Nat.lt_of_lt_of_le (by omega : x < 15 * 15) (Nat.mul_le_mul hN hN)
  have h3 := mod_add_inj (hd i hi) (hd j hj) h2
  rw [← Nat.div_add_mod i N, ← Nat.div_add_mod j N, h1, h3]
theorem nodup_of_pairs {N sh n : Nat} (hN : 15 ≤ N) (hn : n ≤ 200) {ss : List St} (h : ss.map (fun s => (s.p, s.q)) = (List.range n).map (fmP N sh)) : ss.Nodup := by
  have : (ss.map (fun s => (s.p, s.q))).Nodup := by
    rw [h]
    refine List.Pairwise.map _ (R := fun a b => a ≠ b ∧ a < n ∧ b < n) (fun a b ⟨h1, h2, h3⟩ e => h1 (fmP_inj hN (by omega) (by omega) e)) ?_
    have := List.nodup_range (n := n)
    exact List.Pairwise.imp_of_mem (fun {a b} ha hb h => ⟨h, List.mem_range.mp ha, List.mem_range.mp hb⟩) this
  exact (List.Pairwise.of_map _ (fun a b h e => h (by rw [e])) this)
set_option hygiene false in
local macro_rules | `(tactic| walk_at "fin") => `(tactic| (
  refine ⟨by omega, ?_⟩
  rw [show ss.map stD ++ [stD s] = (ss ++ [s]).map stD by rw [List.map_append]; rfl]
  refine ih ((_, _, _), ss ++ [s]) ⟨?_, fun z hz => (List.mem_append.mp hz).elim (h2 z) fun e => by rw [List.mem_singleton.mp e]; exact hok, by show (ss ++ [s]).length = _; rw [List.length_append, List.length_singleton]; omega, fun z hz => (List.mem_append.mp hz).elim (h4 z) fun e => by rw [List.mem_singleton.mp e]; exact hpe⟩
  show (ss ++ [s]).map _ = _
  rw [List.map_append, h1, List.range_succ, List.map_append]
  congr 1
  show [(s.p, s.q)] = [fmP N sh.toNat j]
  rw [← hs]
  unfold fmP
  rw [← e1, ← e2]))
theorem w_fullP {ps : List Int} {zs : List Str} {many : Int} {Q : SV → Prop} {E : Er → Prop} (hp : PeerL ps) (np : ps ≠ []) (lp : ps.length ≤ 100000) (hz : LetL zs) (lz : zs.length ≤ 100000) (hm : many ≤ 200) (hm0 : 0 ≤ many)
    (k : ∀ m : Mc, McOk m → 15 ≤ m.n → m.ss.length = many.toNat → (∀ s ∈ m.ss, PeS ps s) → Q (.dat (lmD m))) : m_law_full_machine [.int many, .lst (ps.map D.int), .lst (zs.map D.str)] Q E := by
  unfold m_law_full_machine b_law_full_machine
  walk_at "px"
  refine ⟨rfl, w_number (by omega) fun c c0 c1 => ?_⟩
  walk_at "px"
  refine ⟨rfl, w_take (by omega) fun sh sh0 sh1 => ?_⟩
  walk_at "px"
  refine ⟨by omega, by omega, ?_⟩
  obtain ⟨N, rfl⟩ : ∃ N : Nat, c = N := ⟨c.toNat, by omega⟩
  refine for_rng (fun a : (Option SV × Option SV × Option SV) × List St => [none, some (.dat (.int many)), some (.dat (.lst (ps.map D.int))), some (.dat (.lst (zs.map D.str))), some (.dat (.int N)), some (.dat (.int sh)), some (.own (a.2.map stD)), a.1.1, a.1.2.1, a.1.2.2]) 0 many.toNat (fun j a => a.2.map (fun s => (s.p, s.q)) = (List.range j).map (fmP N sh.toNat) ∧ (∀ s ∈ a.2, StOk N s) ∧ a.2.length = j ∧ ∀ s ∈ a.2, PeS ps s) ?_ ?_ ((none, none, none), []) ⟨rfl, fun _ h => (nomatch h), rfl, fun _ h => (nomatch h)⟩
  · rintro ⟨⟨o1, o2, o3⟩, ss⟩ ⟨h1, h2, h3, h4⟩
    simp only at h1 h2 h3 h4
    walk_at "px"
    refine ⟨rfl, w_rests (by omega) fun rs r1 r2 r3 => ?_⟩
    walk_at "px"
    refine srt_st (.inl rfl) ?_
    walk_at "px"
    refine k ⟨N, rs, srtS ss⟩ ⟨by show 1 ≤ N; omega, by show N ≤ 60; omega, r2, r1, fun s hs => h2 s ((srtS_perm ss).mem_iff.mp hs), srtS_srt ss, (srtS_perm ss).nodup_iff.mpr (nodup_of_pairs (by omega) (by omega) h1), ?_⟩ (by show 15 ≤ N; omega) ?_ fun s hs => h4 s ((srtS_perm ss).mem_iff.mp hs)
    · show (srtS ss).length ≤ 200
      rw [(srtS_perm ss).length_eq]; omega
    · show (srtS ss).length = _
      rw [(srtS_perm ss).length_eq]; exact h3
  · rintro j ⟨⟨o1, o2, o3⟩, ss⟩ ds hj ⟨h1, h2, h3, h4⟩ ih
    simp only at h1 h2 h3 h4
    have e1 : (0 + (j : Int)).fmod N = ((j % N : Nat) : Int) := by rw [Int.zero_add, Int.fmod_eq_emod_of_nonneg _ (by omega), Int.natCast_emod]
    have e2 : ((0 + (j : Int)).fdiv N + sh).fmod N = (((j / N + sh.toNat) % N : Nat) : Int) := by
      rw [Int.zero_add, Int.fdiv_eq_ediv_of_nonneg _ (by omega), Int.fmod_eq_emod_of_nonneg _ (by omega), Int.natCast_emod, Int.natCast_add, Int.natCast_ediv, Int.toNat_of_nonneg sh0]
    obtain ⟨p0, p1⟩ := fmod_of (a := 0 + (j : Int)) (b := N) (by omega) (by omega)
    have q0 : 0 ≤ ((0 + (j : Int)).fdiv N + sh).fmod N ∧ ((0 + (j : Int)).fdiv N + sh).fmod N < N := by
      rw [e2]
      exact ⟨by omega, by have := Nat.mod_lt (j / N + sh.toNat) (show 0 < N by omega); omega⟩
    generalize hP : (0 + (j : Int)).fmod N = P at e1 p0 p1
    generalize hQ : ((0 + (j : Int)).fdiv N + sh).fmod N = R at e2 q0
    walk_at "px"
    refine ⟨by omega, ?_⟩
    rw [hP]
    refine ⟨⟨by omega, by omega⟩, by omega, ?_⟩
    rw [hQ]
    refine ⟨rfl, w_take (by omega) fun w w0 w1 => ?_⟩
    walk_at "px"
    refine pI_ok (fun _ => ?_) fun _ => ?_
    · have hok : StOk N ⟨P, zOwn, -1, zE, R⟩ := own_ok p0 p1 q0.1 q0.2
      have hpe : PeS ps ⟨P, zOwn, -1, zE, R⟩ := .inl rfl
      generalize hs : (⟨P, zOwn, -1, zE, R⟩ : St) = s at hok hpe
      have es : D.tup [.int P, .str (Str.ofString "own"), .int (-1), .str (Str.ofString ""), .int R] = stD s := by rw [← hs]; rfl
      rw [es]
      walk_at "fin"
    · refine ⟨rfl, w_pick (.inl rfl) (by simp) (by simp) fun x hx => ?_⟩
      obtain ⟨kd, rfl, hkd⟩ : ∃ kd, x = .str kd ∧ (kd = zSend ∨ kd = zTake) := by
        simp only [List.mem_cons, List.not_mem_nil, or_false] at hx
        rcases hx with rfl | rfl
        · exact ⟨_, rfl, .inl rfl⟩
        · exact ⟨_, rfl, .inr rfl⟩
      walk_at "px"
      refine ⟨rfl, w_pick (.inl rfl) (by simpa using np) (by rw [List.length_map]; omega) fun x hx => ?_⟩
      obtain ⟨h, hh, rfl⟩ := List.mem_map.mp hx
      walk_at "px"
      refine ⟨rfl, w_pick (.inl rfl) (by simpa using hz.1) (by rw [List.length_map]; omega) fun x hx => ?_⟩
      obtain ⟨l, hl, rfl⟩ := List.mem_map.mp hx
      walk_at "px"
      have hok : StOk N ⟨P, kd, h, l, R⟩ := oth_ok p0 p1 q0.1 q0.2 hkd (hp h hh).1 (hp h hh).2 (hz.2 l hl)
      have hpe : PeS ps ⟨P, kd, h, l, R⟩ := .inr hh
      generalize hs : (⟨P, kd, h, l, R⟩ : St) = s at hok hpe
      have es : D.tup [.int P, .str kd, .int h, .str l, .int R] = stD s := by rw [← hs]; rfl
      rw [es]
      walk_at "fin"
theorem w_full {ps : List Int} {zs : List Str} {many : Int} {Q : SV → Prop} {E : Er → Prop} (hp : PeerL ps) (np : ps ≠ []) (lp : ps.length ≤ 100000) (hz : LetL zs) (lz : zs.length ≤ 100000) (hm : many ≤ 200) (hm0 : 0 ≤ many)
    (k : ∀ m : Mc, McOk m → 15 ≤ m.n → m.ss.length = many.toNat → Q (.dat (lmD m))) : m_law_full_machine [.int many, .lst (ps.map D.int), .lst (zs.map D.str)] Q E :=
  w_fullP hp np lp hz lz hm hm0 fun m a b c _ => k m a b c
end
section
theorem w_some {ds : List D} {n : Int} {Q : SV → Prop} {E : Er → Prop} (hl : ds.length ≤ 1000000) (k : ∀ es : List D, (∃ rest, (es ++ rest).Perm ds) → ((es.length : Int) ≤ n ∨ es = []) → Q (.own es)) : m_law_some [.lst ds, .int n] Q E := by
  unfold m_law_some b_law_some
  walk_at "px"
  refine ⟨rfl, w_number (by split <;> omega) fun c c0 c1 => ?_⟩
  have c2 : c ≤ n ∨ c = 0 := by split at c1 <;> omega
  have c3 : c ≤ ds.length := by split at c1 <;> omega
  walk_at "px"
  refine ⟨by omega, by omega, ?_⟩
  refine for_st (fun a : Option SV × List D × List D => [none, some (.dat (.lst ds)), some (.dat (.int n)), some (.own a.2.1), some (.own a.2.2), a.1]) (fun l a => (l.length ≤ a.2.1.length ∧ l.length + a.2.2.length = c.toNat) ∧ (a.2.2 ++ a.2.1).Perm ds) ?_ ?_ _ (none, ds, []) ⟨⟨by rw [rngD_length]; show _ ≤ ds.length; omega, by rw [rngD_length]; rfl⟩, List.Perm.refl _⟩
  · rintro ⟨o, rest, pk⟩ ⟨⟨h1, h3⟩, h2⟩
    simp only [List.length_nil] at h1 h2 h3
    walk_at "px"
    refine k _ ⟨rest, h2⟩ ?_
    rcases c2 with c2 | c2
    · left; omega
    · right; exact List.length_eq_zero_iff.mp (by omega)
  · rintro d l ⟨o, rest, pk⟩ ⟨⟨h1, h3⟩, h2⟩ ih
    have hp := h2.length_eq
    rw [List.length_append] at hp
    rw [List.length_cons] at h1 h3
    simp only at h1 h2 hp h3
    walk_at "px"
    refine ⟨rfl, w_take (by omega) fun r h0 h1' => ?_⟩
    walk_at "px"
    have hr : r.toNat < rest.length := by omega
    refine ⟨h0, by omega, pGet_ok (List.getElem?_eq_getElem hr) ?_⟩
    walk_at "px"
    refine ⟨by omega, ih (_, _, _) ⟨⟨?_, ?_⟩, ?_⟩⟩
    · show l.length ≤ (rest.eraseIdx _).length
      rw [List.length_eraseIdx_of_lt hr]; omega
    · show l.length + (pk ++ _).length = _
      rw [List.length_append, List.length_singleton]; omega
    · refine List.Perm.trans ?_ h2
      show (pk ++ _ ++ _).Perm _
      rw [List.append_assoc]
      exact (perm_erase hr).append_left pk
end
section
theorem errC_sub : ∀ x ∈ errC, x ∈ errNs := by decide
theorem w_law_error {nm : Str} {Q : D → Prop} (h : nm ∈ errC) (k : Q (.tup [.str (Str.ofString "refused"), .str nm])) : m_law_error (.plain nm) Q := by
  refine ⟨⟨nm, rfl, h⟩, ?_⟩
  unfold b_law_error
  walk_at "px"
  have h2 := errC_sub nm h
  refine lc_rfm 0 15 (fun x => decide (errNs.getD x zE = nm)) (fun x => .str (errNs.getD x zE)) (by omega) (fun x hx R R' r r' => ?_) ?_
  · have hx : x = 0 ∨ x = 1 ∨ x = 2 ∨ x = 3 ∨ x = 4 ∨ x = 5 ∨ x = 6 ∨ x = 7 ∨ x = 8 ∨ x = 9 ∨ x = 10 ∨ x = 11 ∨ x = 12 ∨ x = 13 ∨ x = 14 := by omega
    walk_at "px"
    refine pAt_ok (x := .bl (decide (errNs.getD x zE = nm))) (by rcases hx with rfl | rfl | rfl | rfl | rfl | rfl | rfl | rfl | rfl | rfl | rfl | rfl | rfl | rfl | rfl <;> rfl) (by omega) ?_
    walk_at "px"
    refine pI_ok (fun e => ?_) r'
    refine pAt_ok (x := .str (errNs.getD x zE)) (by rcases hx with rfl | rfl | rfl | rfl | rfl | rfl | rfl | rfl | rfl | rfl | rfl | rfl | rfl | rfl | rfl <;> rfl) (by omega) ?_
    walk_at "px"
    exact r e
  · have e : ((List.range 15).filter fun x => decide (errNs.getD x zE = nm)).map (fun x => D.str (errNs.getD x zE)) = [.str nm] := by
      simp only [errNs, List.mem_cons, List.not_mem_nil, or_false] at h2
      rcases h2 with rfl | rfl | rfl | rfl | rfl | rfl | rfl | rfl | rfl | rfl | rfl | rfl | rfl | rfl | rfl
      all_goals
        have f : ∀ (l : List Nat) (a : Str), (l.filter fun x => decide (errNs.getD x zE = a)).map (fun x => D.str (errNs.getD x zE)) = ((l.filter fun x => decide (errNs.getD x zE = a)).map (fun x => errNs.getD x zE)).map D.str := fun l a => by rw [List.map_map]; rfl
        rw [f]
        have : ∀ {l : List Str} {a : Str}, l = [a] → l.map D.str = [.str a] := fun e => by rw [e]; rfl
        exact this (by decide +kernel)
    rw [e]
    walk_at "px"
    exact k
end
section
/-- what a machine shows -/
def showD (m : Mc) : D := .tup [.int m.n, .tup (m.rs.map D.int), .tup (m.ss.map stD), .int m.ss.length, .lst (m.ss.map stD)]
theorem dpe_ints {l : List Int} {n : Nat} : ∀ d ∈ l.map D.int, Dpe (n + 1) d := fun d hd => by
  obtain ⟨i, _, rfl⟩ := List.mem_map.mp hd
  exact .int
theorem dpe_st {s : St} {n : Nat} : Dpe (n + 2) (stD s) := .tup (al1 .int (al1 .str (al1 .int (al1 .str (al1 .int al0))))) (by simp)
theorem dpe_sts {l : List St} {n : Nat} : ∀ d ∈ l.map stD, Dpe (n + 2) d := fun d hd => by
  obtain ⟨i, _, rfl⟩ := List.mem_map.mp hd
  exact dpe_st
theorem dpe_show {m : Mc} (h : McOk m) : Dpe 5 (showD m) := by
  have hl := h.ssL
  have hr := rs_len h
  exact .tup (n := 4) (al1 .int (al1 (.tup dpe_ints (by rw [List.length_map]; omega)) (al1 (.tup dpe_sts (by rw [List.length_map]; omega)) (al1 .int (al1 (.lst dpe_sts (by rw [List.length_map]; omega)) al0))))) (by simp)
theorem dpe_rf2 {nm : Str} {n : Nat} : Dpe (n + 2) (rf2 nm) := .tup (al1 .str (al1 .str al0)) (by simp)
theorem w_shows {m : Mc} {Q : SV → Prop} {E : Er → Prop} (h : McOk m) (k : Q (.dat (showD m))) : m_law_shows [mcD m] Q E := by
  have hl := h.ssL
  unfold m_law_shows b_law_shows
  walk_at "px"
  refine ⟨mcF m, m.ss.map stD, rfl, lk_steps, by rw [List.length_map]; omega, ?_⟩
  walk_at "px"
  refine ⟨mcF m, m.ss.map stD, rfl, lk_steps, by rw [List.length_map, sizeLine_eq]; omega, ?_⟩
  walk_at "px"
  exact k
theorem own_setI {n : Nat} {rs : List Int} : (((List.range n).filter fun (j : Nat) => decide ((j : Int) ∈ rs)).map fun (j : Nat) => D.int (0 + (j : Nat))) = (setI n rs).map D.int := by
  have e : ((List.range n).filter fun (j : Nat) => decide ((j : Int) ∈ rs)).map (fun (j : Nat) => (j : Int)) = setI n rs := by
    refine lt_uniq ?_ (setI_lt n rs) fun i => ?_
    · rw [List.pairwise_map]
      exact (List.pairwise_lt_range.sublist List.filter_sublist).imp fun h => by omega
    · rw [mem_setI, List.mem_map]
      constructor
      · rintro ⟨j, hj, rfl⟩
        obtain ⟨h1, h2⟩ := List.mem_filter.mp hj
        exact ⟨⟨by omega, by have := List.mem_range.mp h1; omega⟩, of_decide_eq_true h2⟩
      · rintro ⟨⟨h1, h2⟩, h3⟩
        refine ⟨i.toNat, List.mem_filter.mpr ⟨List.mem_range.mpr (by omega), ?_⟩, by omega⟩
        rw [show ((i.toNat : Nat) : Int) = i by omega]
        exact decide_eq_true h3
  rw [← e, List.map_map]
  exact List.map_congr_left fun j _ => by show D.int (0 + (j : Int)) = D.int j; rw [Int.zero_add]
theorem w_due {n : Nat} {rs : List Int} {ss : List St} {Q : SV → Prop} {E : Er → Prop} (hn : n ≤ 60) (hr : rs.length ≤ 1000) (hl : ss.length ≤ 200) (k : Q (.dat (showD (mkMc n rs ss)))) : m_law_due [.int n, .lst (rs.map D.int), .lst (ss.map stD)] Q E := by
  unfold m_law_due b_law_due
  walk_at "px"
  refine ⟨by omega, by omega, ?_⟩
  refine lc_rfm 0 n (fun j => decide ((j : Int) ∈ rs)) (fun j => .int (0 + (j : Nat))) (by omega) (fun x hx R R' a a' => ?_) ?_
  · walk_at "px"
    refine in_cln (.inl rfl) (n := 1) (m := 1) (by omega) (by omega) .int (fun y hy => by obtain ⟨i, _, rfl⟩ := List.mem_map.mp hy; exact .int) ?_
    walk_at "px"
    rw [Int.zero_add, mem_ints]
    rw [Int.zero_add] at a
    exact pI_ok a a'
  walk_at "px"
  rw [own_setI]
  refine srt_st (.inl rfl) ?_
  walk_at "px"
  refine srt_st (.inl rfl) ?_
  walk_at "px"
  have e : (srtS ss).length = ss.length := (srtS_perm ss).length_eq
  unfold showD mkMc at k
  rw [e] at k
  exact k
theorem frzA {r : SV} {ρ : Rho} : frz (some r :: ρ) 0 r = some (.dat r.d) :: ρ := by cases r <;> rfl
theorem w_mk {n : Nat} {rs : List Int} {ss : List St} {rd sd : D} {Q : List (Str × D) → Prop} {E : Er → Prop} (hr : IsSeq rd (rs.map D.int)) (hs : IsSeq sd (ss.map stD)) (h1 : 1 ≤ n) (h2 : n ≤ 60) (hrs : ∀ r ∈ rs, 0 ≤ r ∧ r < n) (hss : ∀ s ∈ ss, StOk n s) (hn : ss.Nodup) (l1 : rs.length ≤ 4000) (l2 : ss.length ≤ 200) (k : Q (mcF (mkMc n rs ss))) : m_Machine_init [.int n, rd, sd] Q E :=
  w_init_ok hr hs h1 h2 hrs hss hn l1 l2 (fun s hs => by have := (hss s hs).len; omega) k
theorem w_asked1g {n : Nat} {Q : SV → Prop} {E : Er → Prop} (h1 : 1 ≤ n) (h2 : n ≤ 60) (k : Q (.dat (showD (mkMc n [] [])))) : m_law_asked [.lst [.int n]] Q E := by
  have hD : Dpe 5 (.lst [.int n]) := .lst (al1 .int al0) (by simp)
  have hm : McOk (mkMc n [] []) := mkMc_ok h1 h2 (fun _ h => nomatch h) List.nodup_nil (Nat.zero_le _)
  unfold m_law_asked b_law_asked
  walk_at "px"
  refine ⟨rfl, w_copy hD fun r hr => ?_⟩
  walk_at "px"
  refine pI_ok (fun _ => ?_) fun h => absurd h (by simp)
  refine ⟨rfl, w_mk (rs := []) (ss := []) (.inr rfl) (.inr rfl) h1 h2 (fun _ h => nomatch h) (fun _ h => nomatch h) List.nodup_nil (Nat.zero_le _) (Nat.zero_le _) ?_⟩
  walk_at "px"
  refine ⟨rfl, w_shows hm ?_⟩
  walk_at "px"
  rw [hr]
  refine ⟨rfl, w_samee hD ?_⟩
  walk_at "px"
  rw [frzA]
  walk_at "px"
  exact k
theorem w_asked1b {nd : D} {Q : SV → Prop} {E : Er → Prop} (hd : Dpe 4 nd) (ho : isObj nd = false) (hb : partsB nd [] [] = false) (k : Q (.dat (rf2 "BadMachine"))) : m_law_asked [.lst [nd]] Q E := by
  have hD : Dpe 5 (.lst [nd]) := .lst (al1 hd al0) (by simp)
  unfold m_law_asked b_law_asked
  walk_at "px"
  refine ⟨rfl, w_copy hD fun r hr => ?_⟩
  walk_at "px"
  refine pI_ok (fun _ => ?_) fun h => absurd h (by simp)
  refine ⟨rfl, w_init_bad (rs := []) (ss := []) (.inr rfl) (.inr rfl) ho (fun _ h => nomatch h) (fun _ h => nomatch h) (Nat.zero_le _) (Nat.zero_le _) hb ?_⟩
  refine ⟨by decide, by simp, w_law_error (by decide) ?_⟩
  unfold wEnd
  walk_at "px"
  rw [hr]
  refine ⟨rfl, w_samee hD ?_⟩
  walk_at "px"
  rw [frzA]
  walk_at "px"
  exact k
theorem w_asked2g {n : Nat} {rs : List Int} {Q : SV → Prop} {E : Er → Prop} (h1 : 1 ≤ n) (h2 : n ≤ 60) (hrs : ∀ r ∈ rs, 0 ≤ r ∧ r < n) (l1 : rs.length ≤ 4000) (k : Q (.dat (showD (mkMc n rs [])))) : m_law_asked [.lst [.int n, .lst (rs.map D.int)]] Q E := by
  have hD : Dpe 5 (.lst [.int n, .lst (rs.map D.int)]) := .lst (al1 .int (al1 (.lst dpe_ints (by rw [List.length_map]; omega)) al0)) (by simp)
  have hm : McOk (mkMc n rs []) := mkMc_ok h1 h2 (fun _ h => nomatch h) List.nodup_nil (Nat.zero_le _)
  unfold m_law_asked b_law_asked
  walk_at "px"
  refine ⟨rfl, w_copy hD fun r hr => ?_⟩
  walk_at "px"
  refine pI_ok (fun h => absurd h (by simp)) fun _ => ?_
  refine pI_ok (fun _ => ?_) fun h => absurd h (by simp)
  refine ⟨rfl, w_mk (rs := rs) (ss := []) (.inl rfl) (.inr rfl) h1 h2 hrs (fun _ h => nomatch h) List.nodup_nil l1 (Nat.zero_le _) ?_⟩
  walk_at "px"
  refine ⟨rfl, w_shows hm ?_⟩
  walk_at "px"
  rw [hr]
  refine ⟨rfl, w_samee hD ?_⟩
  walk_at "px"
  rw [frzA]
  walk_at "px"
  exact k
theorem w_asked2b {nd : D} {rs : List D} {Q : SV → Prop} {E : Er → Prop} (hd : Dpe 4 nd) (ho : isObj nd = false) (hr2 : ∀ r ∈ rs, Dpe 3 r) (hr3 : ∀ r ∈ rs, isObj r = false) (l1 : rs.length ≤ 4000) (hb : partsB nd rs [] = false) (k : Q (.dat (rf2 "BadMachine"))) : m_law_asked [.lst [nd, .lst rs]] Q E := by
  have hD : Dpe 5 (.lst [nd, .lst rs]) := .lst (al1 hd (al1 (.lst hr2 (by omega)) al0)) (by simp)
  unfold m_law_asked b_law_asked
  walk_at "px"
  refine ⟨rfl, w_copy hD fun r hr => ?_⟩
  walk_at "px"
  refine pI_ok (fun h => absurd h (by simp)) fun _ => ?_
  refine pI_ok (fun _ => ?_) fun h => absurd h (by simp)
  refine ⟨rfl, w_init_bad (rs := rs) (ss := []) (.inl rfl) (.inr rfl) ho hr3 (fun _ h => nomatch h) l1 (Nat.zero_le _) hb ?_⟩
  refine ⟨by decide, by simp, w_law_error (by decide) ?_⟩
  unfold wEnd
  walk_at "px"
  rw [hr]
  refine ⟨rfl, w_samee hD ?_⟩
  walk_at "px"
  rw [frzA]
  walk_at "px"
  exact k
theorem w_asked3g {n : Nat} {rs : List Int} {ss : List St} {Q : SV → Prop} {E : Er → Prop} (h1 : 1 ≤ n) (h2 : n ≤ 60) (hrs : ∀ r ∈ rs, 0 ≤ r ∧ r < n) (l1 : rs.length ≤ 4000) (hss : ∀ s ∈ ss, StOk n s) (hn : ss.Nodup) (l2 : ss.length ≤ 200) (k : Q (.dat (showD (mkMc n rs ss)))) : m_law_asked [.lst [.int n, .lst (rs.map D.int), .lst (ss.map stD)]] Q E := by
  have hD : Dpe 5 (.lst [.int n, .lst (rs.map D.int), .lst (ss.map stD)]) := .lst (al1 .int (al1 (.lst dpe_ints (by rw [List.length_map]; omega)) (al1 (.lst dpe_sts (by rw [List.length_map]; omega)) al0))) (by simp)
  have hm : McOk (mkMc n rs ss) := mkMc_ok h1 h2 hss hn l2
  unfold m_law_asked b_law_asked
  walk_at "px"
  refine ⟨rfl, w_copy hD fun r hr => ?_⟩
  walk_at "px"
  refine pI_ok (fun h => absurd h (by simp)) fun _ => ?_
  refine pI_ok (fun h => absurd h (by simp)) fun _ => ?_
  refine ⟨rfl, w_mk (rs := rs) (ss := ss) (.inl rfl) (.inl rfl) h1 h2 hrs hss hn l1 l2 ?_⟩
  walk_at "px"
  refine ⟨rfl, w_shows hm ?_⟩
  walk_at "px"
  rw [hr]
  refine ⟨rfl, w_samee hD ?_⟩
  walk_at "px"
  rw [frzA]
  walk_at "px"
  exact k
theorem w_asked3b {nd : D} {rs ss : List D} {Q : SV → Prop} {E : Er → Prop} (hd : Dpe 4 nd) (ho : isObj nd = false) (hr2 : ∀ r ∈ rs, Dpe 3 r) (hr3 : ∀ r ∈ rs, isObj r = false) (l1 : rs.length ≤ 4000) (hs2 : ∀ s ∈ ss, Dpe 3 s) (hs3 : ∀ s ∈ ss, StSz s) (l2 : ss.length ≤ 4000) (hb : partsB nd rs ss = false) (k : Q (.dat (rf2 "BadMachine"))) : m_law_asked [.lst [nd, .lst rs, .lst ss]] Q E := by
  have hD : Dpe 5 (.lst [nd, .lst rs, .lst ss]) := .lst (al1 hd (al1 (.lst hr2 (by omega)) (al1 (.lst hs2 (by omega)) al0))) (by simp)
  unfold m_law_asked b_law_asked
  walk_at "px"
  refine ⟨rfl, w_copy hD fun r hr => ?_⟩
  walk_at "px"
  refine pI_ok (fun h => absurd h (by simp)) fun _ => ?_
  refine pI_ok (fun h => absurd h (by simp)) fun _ => ?_
  refine ⟨rfl, w_init_bad (rs := rs) (ss := ss) (.inl rfl) (.inl rfl) ho hr3 hs3 l1 l2 hb ?_⟩
  refine ⟨by decide, by simp, w_law_error (by decide) ?_⟩
  unfold wEnd
  walk_at "px"
  rw [hr]
  refine ⟨rfl, w_samee hD ?_⟩
  walk_at "px"
  rw [frzA]
  walk_at "px"
  exact k
end
section
/-- a step that is none -/
def Wrong (n : Nat) (d : D) : Prop := fitsD n d = false ∧ StSz d ∧ Dpe 3 d
theorem kind_k {k : Str} {e z : D} (h : k ≠ zOwn ∧ k ≠ zSend ∧ k ≠ zTake) : kindB (.str k) e z = false := by
  cases z with
  | str z =>
    show (if k = zOwn then _ else (decide (k = zSend) || decide (k = zTake)) && _) = false
    rw [if_neg h.1, decide_eq_false h.2.1, decide_eq_false h.2.2]; rfl
  | _ => rfl
theorem kind_h {k : Str} {e z : D} (h1 : k = zOwn → wholeB e (-1) (-1) = false) (h2 : k ≠ zOwn → wholeB e 0 5 = false) : kindB (.str k) e z = false := by
  cases z with
  | str z =>
    show (if k = zOwn then wholeB e (-1) (-1) && _ else _ && (wholeB e 0 5 && _)) = false
    split
    · next h => rw [h1 h]; rfl
    · next h => rw [h2 h, Bool.false_and, Bool.and_false]
  | _ => rfl
theorem kind_l {k : Str} {e : D} {z : Str} (h1 : k = zOwn → z ≠ zE) (h2 : k ≠ zOwn → letZ z = false) : kindB (.str k) e (.str z) = false := by
  show (if k = zOwn then _ && decide (z = zE) else _ && (_ && letZ z)) = false
  split
  · next h => rw [decide_eq_false (h1 h), Bool.and_false]
  · next h => rw [h2 h, Bool.and_false, Bool.and_false]
theorem not_nm {z : Str} {c : Nat} (hc : c ∈ tl z) (n : ¬ (97 ≤ c ∧ c ≤ 122)) : nmB z = false := by
  rw [← Bool.not_eq_true]
  exact fun h => n ((nm_of h).1 c hc)
theorem not_short {z : Str} {c : Nat} (hc : c ∈ tl z) (n : ¬ (48 ≤ c ∧ c ≤ 57)) : shortB z = false := by
  rw [← Bool.not_eq_true]
  exact fun h => n ((shortB_len h).2 c hc)
theorem str_assoc (a b c : Str) : a ++ b ++ c = a ++ (b ++ c) := ext_tl (by simp only [tl_app, List.append_assoc])
/-- a letter with a sign put behind it -/
theorem let_end {b e : Str} {c : Nat} (h : letZ b = true) (hc : c ∈ tl e) (n1 : ¬ (97 ≤ c ∧ c ≤ 122)) (n2 : ¬ (48 ≤ c ∧ c ≤ 57)) (hd : 46 ∉ tl e ∨ ∃ f, e = dot ++ f ∧ shortB f = false) : letZ (b ++ e) = false := by
  rcases letZ_form h with h | ⟨a, d, rfl, ha, hb⟩
  · rcases hd with hd | ⟨f, rfl, hf⟩
    · have nd : 46 ∉ tl (b ++ e) := by
        rw [tl_app]
        intro m
        exact (List.mem_append.mp m).elim (nm_nodot h) hd
      rw [letZ_none nd]
      exact not_nm (c := c) (by rw [tl_app]; exact List.mem_append_right _ hc) n1
    · rw [← str_assoc, letZ_dot (nm_nodot h), hf, Bool.and_false]
  · rw [str_assoc, letZ_dot (nm_nodot ha), not_short (c := c) (by rw [tl_app]; exact List.mem_append_right _ hc) n2, Bool.and_false]
theorem let_front {b e : Str} {c : Nat} (h : letZ b = true) (hc : c ∈ tl e) (n1 : ¬ (97 ≤ c ∧ c ≤ 122)) (hd : 46 ∉ tl e) : letZ (e ++ b) = false := by
  have key : ∀ x : Str, 46 ∉ tl x → 46 ∉ tl (e ++ x) := fun x hx m => by
    rw [tl_app] at m
    exact (List.mem_append.mp m).elim hd hx
  rcases letZ_form h with h | ⟨a, d, rfl, ha, hb⟩
  · rw [letZ_none (key b (nm_nodot h))]
    exact not_nm (c := c) (by rw [tl_app]; exact List.mem_append_left _ hc) n1
  · rw [← str_assoc, ← str_assoc]
    rw [letZ_dot (key a (nm_nodot ha)), not_nm (c := c) (by rw [tl_app]; exact List.mem_append_left _ hc) n1, Bool.false_and]
local macro_rules | `(tactic| walk_at "pln") => `(tactic| first | exact plain_i | exact plain_n | exact plain_b | exact plain_l | exact plain_t | exact plain_s (by decide) | exact plain_s (by omega) | exact plain_d)
local macro_rules | `(tactic| walk_at "plns") => `(tactic| first | exact al0 | exact al1 (by walk_at "pln") (by walk_at "plns"))
local macro_rules | `(tactic| walk_at "ssz") => `(tactic| first | (refine ssz ?_; walk_at "plns") | (refine ⟨?_, fun ds e => nomatch e⟩; walk_at "pln"))
local macro_rules | `(tactic| walk_at "dpe") => `(tactic| first | exact Dpe.int | exact Dpe.non | exact Dpe.bl | exact Dpe.str | (refine Dpe.lst ?_ (by simp); walk_at "dpes") | (refine Dpe.tup ?_ (by simp); walk_at "dpes"))
local macro_rules | `(tactic| walk_at "dpes") => `(tactic| first | exact al0 | exact al1 (by walk_at "dpe") (by walk_at "dpes"))
theorem str_len {i : Int} (h0 : 0 ≤ i) (h1 : i < 100) : (Str.ofString (toString i)).length ≤ 2 := by
  obtain ⟨m, rfl⟩ := Int.eq_ofNat_of_zero_le h0
  exact num_len (k := 2) (by omega) (by omega)
theorem w_crooked {n : Nat} {s : St} {Q : SV → Prop} {E : Er → Prop} (h1 : 1 ≤ n) (h2 : n ≤ 60) (so : StOk n s) (k : ∀ r : SV, Wrong n r.d → Q r) : m_law_crooked [.int n, stD s] Q E := by
  have lk : s.k.length ≤ 1000 := by have := so.len; omega
  have ll : s.l.length ≤ 1000 := by have := so.len; omega
  obtain ⟨⟨p0, p1⟩, ⟨q0, q1⟩, kk⟩ := so
  unfold m_law_crooked b_law_crooked stD
  walk_at "px"
  refine ⟨rfl, w_take (by omega) fun a a0 a1 => ?_⟩
  walk_at "px"
  have ha : a = 5 ∨ a = 0 ∨ a = 4 ∨ a = 1 ∨ a = 2 ∨ a = 3 := by omega
  rcases ha with rfl | rfl | rfl | rfl | rfl | rfl
  · walk_at "px"
    refine ⟨by decide, by decide, rfl, w_pick (.inl rfl) (by simp) (by simp) fun x hx => k _ ?_⟩
    rw [cut4, cut1] at hx
    simp only [List.mem_cons, List.not_mem_nil, or_false] at hx
    show Wrong n x
    repeat' rcases hx with rfl | hx
    all_goals try subst hx
    all_goals
      refine ⟨rfl, ?_, ?_⟩
      · walk_at "ssz"
      · walk_at "dpe"
  · walk_at "px"
    refine ⟨rfl, w_take (by omega) fun w w0 w1 => ?_⟩
    walk_at "px"
    refine ⟨⟨by omega, by omega, by decide⟩, log2_small (by omega), rfl, w_pick (.inl rfl) (by simp) (by simp) fun x hx => ?_⟩
    walk_at "px"
    refine pNth_ok (by omega) (by decide) ?_
    walk_at "px"
    refine k _ (?_ : Wrong n (.tup [x, .str s.k, .int s.h, .str s.l, .int s.q]))
    have px : PlainD x ∧ Dpe 2 x ∧ wholeB x 0 (n - 1) = false := by
      have ls := str_len p0 (show s.p < 100 by omega)
      simp only [List.mem_cons, List.not_mem_nil, or_false] at hx
      repeat' rcases hx with rfl | hx
      all_goals try subst hx
      all_goals
        refine ⟨?_, ?_, ?_⟩
        · walk_at "pln"
        · walk_at "dpe"
        · first | exact rfl | exact who_out (by omega)
    exact ⟨fit_p px.2.2, ssz (al1 px.1 (by walk_at "plns")), .tup (al1 px.2.1 (by walk_at "dpes")) (by simp)⟩
  · walk_at "px"
    refine ⟨rfl, w_take (by omega) fun w w0 w1 => ?_⟩
    walk_at "px"
    refine ⟨⟨by omega, by omega, by decide⟩, log2_small (by omega), rfl, w_pick (.inl rfl) (by simp) (by simp) fun x hx => ?_⟩
    walk_at "px"
    refine pNth_ok (by omega) (by decide) ?_
    walk_at "px"
    refine k _ (?_ : Wrong n (.tup [.int s.p, .str s.k, .int s.h, .str s.l, x]))
    have px : PlainD x ∧ Dpe 2 x ∧ wholeB x 0 (n - 1) = false := by
      have ls := str_len q0 (show s.q < 100 by omega)
      simp only [List.mem_cons, List.not_mem_nil, or_false] at hx
      repeat' rcases hx with rfl | hx
      all_goals try subst hx
      all_goals
        refine ⟨?_, ?_, ?_⟩
        · walk_at "pln"
        · walk_at "dpe"
        · first | exact rfl | exact who_out (by omega)
    exact ⟨fit_q px.2.2, ssz (al1 plain_i (al1 (plain_s (by omega)) (al1 plain_i (al1 (plain_s (by omega)) (al1 px.1 al0))))), .tup (al1 .int (al1 .str (al1 .int (al1 .str (al1 px.2.1 al0))))) (by simp)⟩
  · walk_at "px"
    have fin : ∀ x : D, PlainD x → Dpe 2 x → kindB x (.int s.h) (.str s.l) = false → Wrong n (.tup [.int s.p, x, .int s.h, .str s.l, .int s.q]) := fun x a b c =>
      ⟨fit_x c, ssz (al1 plain_i (al1 a (al1 plain_i (al1 (plain_s (by omega)) (al1 plain_i al0))))), .tup (al1 .int (al1 b (al1 .int (al1 .str (al1 .int al0))))) (by simp)⟩
    have each : ∀ o x : D, (o = .str zOwn ∧ 0 ≤ s.h ∨ o = .str zSend ∧ s.h < 0) → x ∈ [.str (Str.ofString ""), .str (Str.ofString "Own"), .str (Str.ofString "sends"), .str (Str.ofString "take "), .str (Str.ofString "give"), .non, .int 1, .lst [.str s.k], .tup [.str s.k], o] → Wrong n (.tup [.int s.p, x, .int s.h, .str s.l, .int s.q]) := fun o x ho hx => by
      simp only [List.mem_cons, List.not_mem_nil, or_false] at hx
      rcases hx with rfl | rfl | rfl | rfl | rfl | rfl | rfl | rfl | rfl | rfl
      all_goals first
        | (refine fin _ ?_ ?_ (kind_k (by decide +kernel)); walk_at "pln"; walk_at "dpe")
        | (refine fin _ ?_ ?_ rfl; walk_at "pln"; walk_at "dpe")
        | skip
      rcases ho with ⟨rfl, h⟩ | ⟨rfl, h⟩
      · exact fin _ (plain_s (by decide)) .str (kind_h (fun _ => who_out (by omega)) fun h => absurd rfl h)
      · exact fin _ (plain_s (by decide)) .str (kind_h (fun h => absurd h (by decide)) fun _ => who_out (by omega))
    refine pI_ok (fun hh => ?_) fun hh => ?_
    · refine ⟨rfl, w_pick (.inl rfl) (by simp) (by simp) fun x hx => ?_⟩
      walk_at "px"
      refine pNth_ok (by omega) (by decide) ?_
      walk_at "px"
      exact k _ (each _ x (.inl ⟨rfl, of_decide_eq_true hh⟩) hx)
    · refine ⟨rfl, w_pick (.inl rfl) (by simp) (by simp) fun x hx => ?_⟩
      walk_at "px"
      refine pNth_ok (by omega) (by decide) ?_
      walk_at "px"
      exact k _ (each _ x (.inr ⟨rfl, by have := of_decide_eq_false hh; omega⟩) hx)
  · walk_at "px"
    have fin : ∀ x : D, PlainD x → Dpe 2 x → kindB (.str s.k) x (.str s.l) = false → Wrong n (.tup [.int s.p, .str s.k, x, .str s.l, .int s.q]) := fun x a b c =>
      ⟨fit_x c, ssz (al1 plain_i (al1 (plain_s (by omega)) (al1 a (al1 (plain_s (by omega)) (al1 plain_i al0))))), .tup (al1 .int (al1 .str (al1 b (al1 .str (al1 .int al0))))) (by simp)⟩
    refine pI_ok (fun hk => ?_) fun hk => ?_
    · refine ⟨⟨by omega, by omega, by decide⟩, rfl, w_pick (.inl rfl) (by simp) (by simp) fun x hx => ?_⟩
      walk_at "px"
      refine pNth_ok (by omega) (by decide) ?_
      walk_at "px"
      rw [hk]
      walk_at "px"
      refine k _ (fin x ?_ ?_ (kind_h (fun _ => ?_) fun h => absurd (of_decide_eq_true hk) h))
      all_goals
        simp only [List.mem_cons, List.not_mem_nil, or_false] at hx
        repeat' rcases hx with rfl | hx
        all_goals try subst hx
        all_goals first | walk_at "pln" | walk_at "dpe" | exact rfl | exact who_out (by omega)
    · rw [hk]
      walk_at "px"
      have hk := of_decide_eq_false hk
      have h0 : 0 ≤ s.h ∧ s.h ≤ 5 := by
        rcases kk with ⟨e, _⟩ | ⟨_, a, b, _⟩
        · exact absurd e hk
        · exact ⟨a, b⟩
      refine ⟨rfl, w_take (by omega) fun w w0 w1 => ?_⟩
      walk_at "px"
      refine ⟨log2_small (by omega), rfl, w_pick (.inl rfl) (by simp) (by simp) fun x hx => ?_⟩
      walk_at "px"
      refine pNth_ok (by omega) (by decide) ?_
      walk_at "px"
      have ls := str_len h0.1 (show s.h < 100 by omega)
      refine k _ (fin x ?_ ?_ (kind_h (fun h => absurd h hk) fun _ => ?_))
      all_goals
        simp only [List.mem_cons, List.not_mem_nil, or_false] at hx
        repeat' rcases hx with rfl | hx
        all_goals try subst hx
        all_goals first | walk_at "pln" | walk_at "dpe" | exact rfl | exact who_out (by omega)
  · walk_at "px"
    have fin : ∀ x : D, PlainD x → Dpe 2 x → kindB (.str s.k) (.int s.h) x = false → Wrong n (.tup [.int s.p, .str s.k, .int s.h, x, .int s.q]) := fun x a b c =>
      ⟨fit_x c, ssz (al1 plain_i (al1 (plain_s (by omega)) (al1 plain_i (al1 a (al1 plain_i al0))))), .tup (al1 .int (al1 .str (al1 .int (al1 b (al1 .int al0))))) (by simp)⟩
    refine pI_ok (fun hk => ?_) fun hk => ?_
    · refine ⟨rfl, w_pick (.inl rfl) (by simp) (by simp) fun x hx => ?_⟩
      walk_at "px"
      refine pNth_ok (by omega) (by decide) ?_
      walk_at "px"
      rw [hk]
      walk_at "px"
      refine k _ (fin x ?_ ?_ ?_)
      all_goals
        simp only [List.mem_cons, List.not_mem_nil, or_false] at hx
        repeat' rcases hx with rfl | hx
        all_goals try subst hx
        all_goals first | walk_at "pln" | walk_at "dpe" | exact rfl | exact kind_l (fun _ => by decide +kernel) fun h => absurd (of_decide_eq_true hk) h
    · rw [hk]
      walk_at "px"
      have hk := of_decide_eq_false hk
      have hz : letZ s.l = true := by
        rcases kk with ⟨e, _⟩ | ⟨_, _, _, b⟩
        · exact absurd e hk
        · exact b
      have n1 : (Str.ofString ".").length = 1 := rfl
      have n2 : (Str.ofString "A").length = 1 := rfl
      have n3 : (Str.ofString " ").length = 1 := rfl
      have n4 : (Str.ofString "\n").length = 1 := rfl
      have n5 : (Str.ofString ".100").length = 4 := rfl
      have lz := letZ_len hz
      refine ⟨by omega, by omega, by omega, by omega, by omega, rfl, w_pick (.inl rfl) (by simp) (by simp) fun x hx => ?_⟩
      walk_at "px"
      refine pNth_ok (by omega) (by decide) ?_
      walk_at "px"
      refine k _ (?_ : Wrong n (.tup [.int s.p, .str s.k, .int s.h, x, .int s.q]))
      have st : ∀ z : Str, z.length ≤ 1000 → letZ z = false → Wrong n (.tup [.int s.p, .str s.k, .int s.h, .str z, .int s.q]) := fun z a b => fin _ (plain_s (by omega)) .str (kind_l (fun h => absurd h hk) fun _ => b)
      simp only [List.mem_cons, List.not_mem_nil, or_false] at hx
      rcases hx with rfl | rfl | rfl | rfl | rfl | rfl | rfl | rfl | rfl | rfl | rfl | rfl | rfl | rfl | rfl | rfl | rfl | rfl | rfl | rfl
      · exact st _ (by decide) (by decide +kernel)
      · exact st _ (by rw [len_app]; omega) (let_end (c := 46) hz (by decide) (by decide) (by decide) (.inr ⟨Str.ofString "", by decide +kernel, by decide +kernel⟩))
      · exact st _ (by rw [len_app]; omega) (let_end (c := 65) hz (by decide) (by decide) (by decide) (.inl (by decide)))
      · exact st _ (by rw [len_app]; omega) (let_front (c := 32) hz (by decide) (by decide) (by decide))
      · exact st _ (by rw [len_app]; omega) (let_end (c := 10) hz (by decide) (by decide) (by decide) (.inl (by decide)))
      · exact st _ (by rw [len_app]; omega) (let_end (c := 46) hz (by decide) (by decide) (by decide) (.inr ⟨Str.ofString "100", by decide +kernel, by decide +kernel⟩))
      all_goals first
        | exact st _ (by decide) (by decide +kernel)
        | exact fin _ plain_n .non rfl
        | exact fin _ plain_i .int rfl
        | exact fin _ plain_l (.lst (al1 .str al0) (by simp)) rfl
        | exact fin _ plain_t (.tup (al1 .str al0) (by simp)) rfl
end
section
local macro_rules | `(tactic| walk_at "dpe") => `(tactic| first | exact Dpe.int | exact Dpe.non | exact Dpe.bl | exact Dpe.str | exact Dpe.dct1 | (refine Dpe.lst ?_ (by simp); walk_at "dpes") | (refine Dpe.tup ?_ (by simp); walk_at "dpes"))
local macro_rules | `(tactic| walk_at "dpes") => `(tactic| first | exact al0 | exact al1 (by walk_at "dpe") (by walk_at "dpes"))
theorem w_oddE {n : Nat} {Q : SV → Prop} {E : Er → Prop} (h1 : 1 ≤ n) (h2 : n ≤ 60) (k : ∀ d, isObj d = false → Dpe 3 d → Q (.dat d)) : m_law_odd_value [.int n] Q E := by
  unfold m_law_odd_value b_law_odd_value
  walk_at "px"
  refine ⟨rfl, w_take (by omega) fun w w0 w1 => ?_⟩
  walk_at "px"
  refine ⟨⟨by omega, by omega, by decide⟩, ⟨by omega, by omega, by decide⟩, ?_⟩
  refine ⟨log2_small (by omega), rfl, w_pick (.inl rfl) (by simp) (by simp) fun x hx => k x ?_ ?_⟩
  all_goals
    simp only [List.mem_cons, List.not_mem_nil, or_false] at hx
    repeat' rcases hx with rfl | hx
    all_goals try subst hx
    all_goals first | rfl | walk_at "dpe"
theorem w_handed {ds : List D} {Q : SV → Prop} {E : Er → Prop} (hl : ds.length ≤ 1000000) (k1 : ∀ es : List D, es.Perm ds → Q (.dat (.tup es))) (k2 : ∀ es : List D, es.Perm ds → Q (.own es)) : m_law_handed [.lst ds] Q E := by
  unfold m_law_handed b_law_handed
  walk_at "px"
  refine ⟨rfl, w_shuffled hl fun es he => ?_⟩
  walk_at "px"
  refine ⟨rfl, w_take (by omega) fun w w0 w1 => ?_⟩
  walk_at "px"
  exact pI_ok (fun _ => k1 es he) fun _ => k2 es he
theorem pI_two3 {c : Bool} {P : Int → Prop} {a b : Int} (h : ∀ x, (x = a ∨ x = b) → P x) : pI c (P a) (P b) := pI_ok (fun _ => h a (.inl rfl)) fun _ => h b (.inr rfl)
theorem w_drawn {Q : SV → Prop} {E : Er → Prop} (k : ∀ (m : Mc), McOk m → Q (.dat (lmD m))) : m_law_drawn [] Q E := by
  unfold m_law_drawn b_law_drawn
  walk_at "px"
  refine ⟨rfl, w_some (ds := [.int 0, .int 1, .int 2, .int 3, .int 4, .int 5]) (by simp) fun es ⟨rest, hp⟩ _ => ?_⟩
  obtain ⟨ps, hps, rfl⟩ : ∃ ps : List Int, (∀ p ∈ ps, 0 ≤ p ∧ p ≤ 5) ∧ es = ps.map D.int := by
    obtain ⟨ys, hy, e⟩ := perm_ints (xs := [0, 1, 2, 3, 4, 5]) hp
    obtain ⟨a, b, e1, e2, e3⟩ := List.append_eq_map_iff.mp e
    refine ⟨a, fun p hpa => ?_, e2.symm⟩
    have : p ∈ [0, 1, 2, 3, 4, (5 : Int)] := hy.mem_iff.mp (by rw [e1]; exact List.mem_append_left _ hpa)
    simp only [List.mem_cons, List.not_mem_nil, or_false] at this
    omega
  have hl : ps.length ≤ 6 := by
    have := hp.length_eq
    simp at this; omega
  walk_at "px"
  refine ⟨rfl, w_alphabet (by omega) (by omega) fun zs z1 z2 => ?_⟩
  walk_at "px"
  refine ⟨rfl, w_take (by omega) fun w w0 w1 => ?_⟩
  walk_at "px"
  refine pI_ok (fun _ => ?_) fun _ => ?_
  · walk_at "px"
    refine ⟨rfl, w_pick (.inl rfl) (by simp) (by simp) fun x hx => ?_⟩
    obtain ⟨c, rfl, c0, c1⟩ : ∃ c : Int, x = .int c ∧ 0 ≤ c ∧ c ≤ 200 := by
      simp only [List.mem_cons, List.not_mem_nil, or_false] at hx
      rcases hx with rfl | rfl | rfl | rfl <;> exact ⟨_, rfl, by omega, by omega⟩
    walk_at "px"
    refine ⟨rfl, w_take (by omega) fun j j0 j1 => ?_⟩
    walk_at "px"
    refine ⟨by omega, ?_⟩
    have e : ps.map D.int ++ [.int j] = (ps ++ [j]).map D.int := by rw [List.map_append]; rfl
    rw [e]
    refine ⟨rfl, w_full (fun p hp => (List.mem_append.mp hp).elim (hps p) fun q => by rw [List.mem_singleton.mp q]; omega) (by simp) (by rw [List.length_append, List.length_singleton]; omega) z1 (by omega) c1 c0 fun m a b c => ?_⟩
    walk_at "px"
    exact k m a
  · walk_at "px"
    refine pI_two3 (P := fun x => pCall 2 m_law_number _ [.int 1, .int x] _ _) fun x hx => ?_
    refine ⟨rfl, w_number (by omega) fun c c0 c1 => ?_⟩
    obtain ⟨c, rfl⟩ : ∃ b : Nat, c = b := ⟨c.toNat, by omega⟩
    walk_at "px"
    refine ⟨rfl, w_machine (by omega) (by omega) hps (by omega) z1 (by omega) fun m a b => ?_⟩
    walk_at "px"
    exact k m a
end
section
/-- parts and what is due of them -/
def TrialOk (d : D) : Prop := ∃ p u, d = .lst [p, u] ∧ Dpe 5 u ∧ ∀ {Q : SV → Prop} {E : Er → Prop}, Q (.dat u) → m_law_asked [p] Q E
def tA (E : Er → Prop) (last : Ps) : Ps := (mSeq (mSet 2 (mV (mTup (mCons (mC (.str (Str.ofString "refused"))) (mCons (mC (.str (Str.ofString "BadMachine"))) mNil))))) (mSeq (mSet 3 (mV (mOpD mIx (mVar 1) (mC (.int 0))))) (mSeq (mSet 4 (mV (mOpD mIx (mVar 1) (mC (.int 1))))) (mSeq (mSet 5 (mCall 1 m_law_shuffled (fun er _ => E er) (mCons (mOpD mIx (mVar 1) (mC (.int 2))) mNil))) (mSeq (mSet 6 (mLc (mRng1 (mCons (mC (.int 201)) mNil)) (bName 7) mYes (mTup (mCons (mOpD mMod (mCB mIntC (mCons (mVar 7) mNil)) (mC (.int 15))) (mCons (mC (.str (Str.ofString "send"))) (mCons (mOpD mFdiv (mVar 7) (mC (.int 100))) (mCons (mC (.str (Str.ofString "a"))) (mCons (mOpD mFdiv (mVar 7) (mC (.int 15))) mNil)))))) [7])) (mSeq (mSet 8 (mCall 1 m_law_pick (fun er _ => E er) (mCons (mD (mLst (mCons (mC (.int 201)) (mCons (mC (.int 200)) mNil)))) mNil))) (mSeq (mSet 9 (mLst (mCons (mD (mLst (mCons (mD (mLst (mCons (mC (.int 15)) (mCons (mD (mLst mNil)) (mCons (mD (mSl (mVar 6) mNoP (mSoP (mVar 8)))) mNil))))) (mCons (mD (mIfV (mT (mOpD (mEq false) (mVar 8) (mC (.int 201)))) (mV (mVar 2)) (mCall 3 m_law_due (fun er _ => E er) (mCons (mC (.int 15)) (mCons (mD (mLst mNil)) (mCons (mD (mSl (mVar 6) mNoP (mSoP (mC (.int 200))))) mNil)))))) mNil)))) mNil))) last)))))))
def tB (E : Er → Prop) (last : Ps) : Ps := (mSeq (mIfS (mT (mOpD mGt (mCB mLen (mCons (mVar 5) mNil)) (mC (.int 0)))) (mSeq (mSet 10 (mCall 1 m_law_take (fun er _ => E er) (mCons (mCB mLen (mCons (mVar 5) mNil)) mNil))) (mSeq (mSet 11 (mCall 2 m_law_crooked (fun er _ => E er) (mCons (mVar 3) (mCons (mOpD mIx (mVar 5) (mVar 10)) mNil)))) (mSeq (mExpr (mApp 9 (mD (mLst (mCons (mD (mLst (mCons (mVar 3) (mCons (mD (mCS mList (mCons (mVar 4) mNil))) (mCons (mD (mOp mAdd (mD (mOp mAdd (mD (mSl (mVar 5) mNoP (mSoP (mVar 10)))) (mD (mLst (mCons (mVar 11) mNil))))) (mD (mSl (mVar 5) (mSoP (mD (mOp mAdd (mVar 10) (mC (.int 1))))) mNoP)))) mNil))))) (mCons (mVar 2) mNil)))))) (mSeq (mSet 12 (mCall 1 m_law_take (fun er _ => E er) (mCons (mD (mOp mAdd (mCB mLen (mCons (mVar 5) mNil)) (mC (.int 1)))) mNil))) (mExpr (mApp 9 (mD (mLst (mCons (mD (mLst (mCons (mVar 3) (mCons (mD (mCS mList (mCons (mVar 4) mNil))) (mCons (mD (mOp mAdd (mD (mOp mAdd (mD (mSl (mVar 5) mNoP (mSoP (mVar 12)))) (mD (mLst (mCons (mOpD mIx (mVar 5) (mVar 10)) mNil))))) (mD (mSl (mVar 5) (mSoP (mVar 12)) mNoP)))) mNil))))) (mCons (mVar 2) mNil)))))))))) mNilS) last)
def tC (E : Er → Prop) (last : Ps) : Ps := (mSeq (mSet 13 (mCall 1 m_law_odd_value (fun er _ => E er) (mCons (mC (.int 60)) mNil))) (mSeq (mSet 14 (mV (mAndV (mD (mCall 1 m_law_integer (fun er _ => E er) (mCons (mVar 13) mNil))) (mChain mLe mLe (mC (.int 1)) (mVar 13) (mC (.int 60)))))) (mSeq (mExpr (mApp 9 (mD (mLst (mCons (mD (mLst (mCons (mVar 13) mNil))) (mCons (mD (mIfV (mT (mVar 14)) (mCall 3 m_law_due (fun er _ => E er) (mCons (mVar 13) (mCons (mD (mLst mNil)) (mCons (mD (mLst mNil)) mNil)))) (mV (mVar 2)))) mNil)))))) last)))
def tC2 (E : Er → Prop) (last : Ps) : Ps := (mSeq (mSet 13 (mCall 1 m_law_odd_value (fun er _ => E er) (mCons (mVar 3) mNil))) (mSeq (mSet 14 (mV (mAndV (mD (mCall 1 m_law_integer (fun er _ => E er) (mCons (mVar 13) mNil))) (mChain mLe mLt (mC (.int 0)) (mVar 13) (mVar 3))))) (mSeq (mSet 10 (mCall 1 m_law_take (fun er _ => E er) (mCons (mD (mOp mAdd (mCB mLen (mCons (mVar 4) mNil)) (mC (.int 1)))) mNil))) last)))
def tD (E : Er → Prop) : Ps := (mSeq (mSet 4 (mOp mAdd (mD (mOp mAdd (mD (mSl (mVar 4) mNoP (mSoP (mVar 10)))) (mD (mLst (mCons (mVar 13) mNil))))) (mD (mSl (mVar 4) (mSoP (mVar 10)) mNoP)))) (mSeq (mExpr (mApp 9 (mD (mLst (mCons (mD (mLst (mCons (mVar 3) (mCons (mVar 4) mNil)))) (mCons (mD (mIfV (mT (mVar 14)) (mCall 3 m_law_due (fun er _ => E er) (mCons (mVar 3) (mCons (mVar 4) (mCons (mD (mLst mNil)) mNil)))) (mV (mVar 2)))) mNil)))))) (mSeq (mExpr (mApp 9 (mD (mLst (mCons (mD (mLst (mCons (mVar 3) (mCons (mD (mCS mList (mCons (mVar 4) mNil))) (mCons (mD (mCS mList (mCons (mVar 5) mNil))) mNil))))) (mCons (mD (mIfV (mT (mVar 14)) (mCall 3 m_law_due (fun er _ => E er) (mCons (mVar 3) (mCons (mVar 4) (mCons (mVar 5) mNil)))) (mV (mVar 2)))) mNil)))))) (mRetV 9))))
theorem wrong_parts {n : Nat} {rs xs ys : List D} {d : D} (h : fitsD n d = false) : partsB (.int n) rs (xs ++ [d] ++ ys) = false := by
  show (_ && (_ && (_ && ((xs ++ [d] ++ ys).all (fitsD n) && _)))) = false
  have e : (xs ++ [d] ++ ys).all (fitsD n) = false := by
    rw [← Bool.not_eq_true, List.all_eq_true]
    intro q
    have := q d (by simp)
    rw [h] at this; cases this
  rw [e]; simp
theorem twice_parts {n : Nat} {rs xs ys : List D} {d : D} (h : d ∈ xs ++ ys) : partsB (.int n) rs (xs ++ [d] ++ ys) = false := by
  show (_ && (_ && (_ && (_ && decide (xs ++ [d] ++ ys).Nodup)))) = false
  have e : ¬ (xs ++ [d] ++ ys).Nodup := by
    intro q
    rw [List.append_assoc] at q
    obtain ⟨a, b, c⟩ := List.nodup_append.mp q
    rcases List.mem_append.mp h with h | h
    · exact c d h d (by simp) rfl
    · exact (List.nodup_cons.mp b).1 h
  rw [decide_eq_false e]; simp
theorem trial_bad {nd : D} {rs ss : List D} (hd : Dpe 4 nd) (ho : isObj nd = false) (hr2 : ∀ r ∈ rs, Dpe 3 r) (hr3 : ∀ r ∈ rs, isObj r = false) (l1 : rs.length ≤ 4000) (hs2 : ∀ s ∈ ss, Dpe 3 s) (hs3 : ∀ s ∈ ss, StSz s) (l2 : ss.length ≤ 4000) (hb : partsB nd rs ss = false) : TrialOk (.lst [.lst [nd, .lst rs, .lst ss], rf2 "BadMachine"]) :=
  ⟨_, _, rfl, dpe_rf2, fun k => w_asked3b hd ho hr2 hr3 l1 hs2 hs3 l2 hb k⟩
theorem w_tB {m : Mc} {ys : List St} {ts : List D} {last : Ps} {P : PEnds} {E : Er → Prop} {o0 o1 o6 o7 o8 o10 o11 o12 o13 o14 : Option SV} (h : McOk m) (hy : ys.Perm m.ss) (hl2 : ts.length ≤ 1) (hts : ∀ t ∈ ts, TrialOk t)
    (k : ∀ ts o10 o11 o12, ts.length ≤ 3 → (∀ t ∈ ts, TrialOk t) → last P [o0, o1, some (.dat (rf2 "BadMachine")), some (.dat (.int m.n)), some (.dat (.lst (m.rs.map D.int))), some (.dat (.lst (ys.map stD))), o6, o7, o8, some (.own ts), o10, o11, o12, o13, o14]) :
    tB E last P [o0, o1, some (.dat (rf2 "BadMachine")), some (.dat (.int m.n)), some (.dat (.lst (m.rs.map D.int))), some (.own (ys.map stD)), o6, o7, o8, some (.own ts), o10, o11, o12, o13, o14] := by
  have n1 := h.n1
  have n2 := h.n2
  have hl : ys.length ≤ 200 := by rw [hy.length_eq]; exact h.ssL
  have hr := rs_len h
  have so : ∀ y ∈ ys, StOk m.n y := fun y q => h.ss y (hy.mem_iff.mp q)
  unfold tB
  walk_at "px"
  refine pI_ok (fun hn => ?_) fun hn => k _ _ _ _ (by omega) hts
  have hn := of_decide_eq_true hn
  refine ⟨rfl, w_take (by omega) fun a a0 a1 => ?_⟩
  walk_at "px"
  obtain ⟨a, rfl⟩ : ∃ b : Nat, a = b := ⟨a.toNat, by omega⟩
  have ga : ys[a]? = some ys[a] := List.getElem?_eq_getElem (by omega)
  have sa := so ys[a] (List.getElem_mem _)
  refine pAt_map (x := ys[a]) (by rw [Int.toNat_natCast]; exact ga) (by omega) ?_
  refine ⟨rfl, w_crooked n1 n2 sa fun r wr => ?_⟩
  walk_at "px"
  rw [frzA, cutD_map, cutD_map, cutG_to (by omega), show ((a : Int) + 1) = ((a + 1 : Nat) : Int) by omega, cutG_from (by omega)]
  have dps : ∀ {l : List St} {d : D}, d ∈ l.map stD → Dpe 3 d := fun h => dpe_sts _ h
  have szs : ∀ {l : List St} {d : D}, (∀ y ∈ l, StOk m.n y) → d ∈ l.map stD → StSz d := fun hl h => by
    obtain ⟨y, hy, rfl⟩ := List.mem_map.mp h
    exact stsz (hl y hy)
  have tk : ∀ i, ∀ y ∈ ys.take i, StOk m.n y := fun i y hy => so y (List.mem_of_mem_take hy)
  have dr : ∀ i, ∀ y ∈ ys.drop i, StOk m.n y := fun i y hy => so y (List.mem_of_mem_drop hy)
  have tr : ∀ (i j : Nat) (d : D), StSz d → Dpe 3 d → partsB (.int m.n) (m.rs.map D.int) ((ys.take i).map stD ++ d :: (ys.drop j).map stD) = false → TrialOk (.lst [.lst [.int m.n, .lst (m.rs.map D.int), .lst ((ys.take i).map stD ++ d :: (ys.drop j).map stD)], rf2 "BadMachine"]) := fun i j d z1 z2 hb => by
    refine trial_bad .int rfl dpe_ints (fun r hr => by obtain ⟨i, _, rfl⟩ := List.mem_map.mp hr; rfl) (by rw [List.length_map]; omega) (fun x hx => ?_) (fun x hx => ?_) (by simp only [List.length_append, List.length_map, List.length_cons, List.length_take, List.length_drop]; omega) hb
    · rcases List.mem_append.mp hx with q | q
      · exact dps q
      · rcases List.mem_cons.mp q with rfl | q
        · exact z2
        · exact dps q
    · rcases List.mem_append.mp hx with q | q
      · exact szs (tk i) q
      · rcases List.mem_cons.mp q with rfl | q
        · exact z1
        · exact szs (dr j) q
  have ap : ∀ {xs zs : List D} {d : D}, xs ++ d :: zs = xs ++ [d] ++ zs := fun {xs zs d} => by simp
  have t1 := tr a (a + 1) r.d wr.2.1 wr.2.2 (by rw [ap]; exact wrong_parts wr.1)
  refine ⟨by simp only [List.length_map, List.length_take]; omega, by simp only [List.length_append, List.length_map, List.length_take, List.length_drop, List.length_cons, List.length_nil]; omega, by omega, rfl, w_take (by omega) fun b b0 b1 => ?_⟩
  walk_at "px"
  obtain ⟨b, rfl⟩ : ∃ c : Nat, b = c := ⟨b.toNat, by omega⟩
  refine pAt_map (x := ys[a]) (by rw [Int.toNat_natCast]; exact ga) (by omega) ?_
  walk_at "px"
  rw [cutD_map, cutD_map, cutG_to (by omega), cutG_from (by omega)]
  have mm : stD ys[a] ∈ (ys.take b).map stD ++ (ys.drop b).map stD := by
    rw [← List.map_append, List.take_append_drop]
    exact List.mem_map.mpr ⟨_, List.getElem_mem _, rfl⟩
  have t2 := tr b b (stD ys[a]) (stsz sa) dpe_st (by rw [ap]; exact twice_parts mm)
  refine ⟨by simp only [List.length_map, List.length_take]; omega, by simp only [List.length_append, List.length_map, List.length_take, List.length_drop, List.length_cons, List.length_nil]; omega, by rw [List.length_append, List.length_singleton]; omega, k _ _ _ _ (by rw [List.length_append]; simp only [List.length_cons, List.length_nil]; omega) fun t ht => ?_⟩
  rcases List.mem_append.mp ht with q | q
  · exact hts t q
  · simp only [List.mem_cons, List.not_mem_nil, or_false] at q
    rcases q with rfl | rfl
    · exact t1
    · exact t2
/-- a whole number of the machine's states, or none -/
def GoodB (n : Nat) (d g : D) : Prop := (g = .bl true ∧ ∃ p : Int, d = .int p ∧ 0 ≤ p ∧ p < n) ∨ (g = .bl false ∧ wholeB d 0 ((n : Int) - 1) = false)
theorem parts_none {d : D} {rs ss : List D} (h : wholeB d 1 60 = false) : partsB d rs ss = false := by
  cases d <;> first | rfl | (rename_i n; show ((decide (1 ≤ n) && decide (n ≤ 60)) && _) = false; rw [show (decide (1 ≤ n) && decide (n ≤ 60)) = false from h, Bool.false_and])
theorem trial1_bad {d : D} (d1 : isObj d = false) (d2 : Dpe 3 d) (hb : wholeB d 1 60 = false) : TrialOk (.lst [.lst [d], rf2 "BadMachine"]) :=
  ⟨_, _, rfl, dpe_rf2, fun k => w_asked1b (d2.mono (by decide)) d1 (parts_none hb) k⟩
theorem w_tC {ts : List D} {last : Ps} {P : PEnds} {E : Er → Prop} {o0 o1 o3 o4 o5 o6 o7 o8 o10 o11 o12 o13 o14 : Option SV} (hl2 : ts.length ≤ 3) (hts : ∀ t ∈ ts, TrialOk t)
    (k : ∀ ts o13 o14, ts.length ≤ 4 → (∀ t ∈ ts, TrialOk t) → last P [o0, o1, some (.dat (rf2 "BadMachine")), o3, o4, o5, o6, o7, o8, some (.own ts), o10, o11, o12, o13, o14]) :
    tC E last P [o0, o1, some (.dat (rf2 "BadMachine")), o3, o4, o5, o6, o7, o8, some (.own ts), o10, o11, o12, o13, o14] := by
  unfold tC
  walk_at "px"
  refine ⟨rfl, w_oddE (n := 60) (by omega) (by omega) fun d d1 d2 => ?_⟩
  walk_at "px"
  refine ⟨rfl, w_integer d1 ?_⟩
  walk_at "px"
  have fin : ∀ {t : D} {o13 o14}, TrialOk t → ts.length < 16777216 ∧ last P [o0, o1, some (.dat (rf2 "BadMachine")), o3, o4, o5, o6, o7, o8, some (.own (ts ++ [t])), o10, o11, o12, o13, o14] := fun {t _ _} ht =>
    ⟨by omega, k _ _ _ (by rw [List.length_append, List.length_singleton]; omega) fun x hx => (List.mem_append.mp hx).elim (hts x) fun q => by rw [List.mem_singleton.mp q]; exact ht⟩
  cases d with
  | int p =>
    rw [show isIntD (.int p) = true from rfl]
    walk_at "px"
    refine pI_ok (fun a => ?_) fun a => ?_
    · refine pI_ok (fun b => ?_) fun b => ?_
      · have a := of_decide_eq_true a
        have b := of_decide_eq_true b
        obtain ⟨p, rfl⟩ : ∃ c : Nat, p = c := ⟨p.toNat, by omega⟩
        refine ⟨rfl, w_due (rs := []) (ss := []) (by omega) (Nat.zero_le _) (Nat.zero_le _) ?_⟩
        walk_at "px"
        have hm : McOk (mkMc p [] []) := mkMc_ok (by omega) (by omega) (fun _ h => nomatch h) List.nodup_nil (Nat.zero_le _)
        exact fin ⟨_, _, rfl, dpe_show hm, fun k => w_asked1g (by omega) (by omega) k⟩
      · walk_at "px"
        exact fin (trial1_bad d1 d2 (who_out (by have := of_decide_eq_false b; omega)))
    · walk_at "px"
      exact fin (trial1_bad d1 d2 (who_out (by have := of_decide_eq_false a; omega)))
  | obj _ _ => cases d1
  | non =>
    rw [show isIntD _ = false from rfl]
    walk_at "px"
    exact fin (trial1_bad d1 d2 rfl)
  | bl _ =>
    rw [show isIntD _ = false from rfl]
    walk_at "px"
    exact fin (trial1_bad d1 d2 rfl)
  | str _ =>
    rw [show isIntD _ = false from rfl]
    walk_at "px"
    exact fin (trial1_bad d1 d2 rfl)
  | lst _ =>
    rw [show isIntD _ = false from rfl]
    walk_at "px"
    exact fin (trial1_bad d1 d2 rfl)
  | tup _ =>
    rw [show isIntD _ = false from rfl]
    walk_at "px"
    exact fin (trial1_bad d1 d2 rfl)
  | dct _ _ =>
    rw [show isIntD _ = false from rfl]
    walk_at "px"
    exact fin (trial1_bad d1 d2 rfl)
theorem w_tC2 {m : Mc} {last : Ps} {P : PEnds} {E : Er → Prop} {o0 o1 o2 o5 o6 o7 o8 o9 o10 o11 o12 o13 o14 : Option SV} (h : McOk m)
    (k : ∀ (a : Nat) d g, a ≤ m.rs.length → isObj d = false → Dpe 3 d → GoodB m.n d g → last P [o0, o1, o2, some (.dat (.int m.n)), some (.dat (.lst (m.rs.map D.int))), o5, o6, o7, o8, o9, some (.dat (.int a)), o11, o12, some (.dat d), some (.dat g)]) :
    tC2 E last P [o0, o1, o2, some (.dat (.int m.n)), some (.dat (.lst (m.rs.map D.int))), o5, o6, o7, o8, o9, o10, o11, o12, o13, o14] := by
  have n1 := h.n1
  have n2 := h.n2
  have hr := rs_len h
  unfold tC2
  walk_at "px"
  refine ⟨rfl, w_oddE n1 n2 fun d d1 d2 => ?_⟩
  walk_at "px"
  refine ⟨rfl, w_integer d1 ?_⟩
  walk_at "px"
  cases d with
  | int p =>
    rw [show isIntD (.int p) = true from rfl]
    walk_at "px"
    refine pI_ok (fun a => ?_) fun a => ?_
    · refine ⟨rfl, w_take (by omega) fun w w0 w1 => ?_⟩
      walk_at "px"
      obtain ⟨w, rfl⟩ : ∃ c : Nat, w = c := ⟨w.toNat, by omega⟩
      refine k w _ _ (by omega) d1 d2 ?_
      have a := of_decide_eq_true a
      by_cases b : p < m.n
      · rw [decide_eq_true b]; exact .inl ⟨rfl, p, rfl, a, b⟩
      · rw [decide_eq_false b]; exact .inr ⟨rfl, who_out (by omega)⟩
    · walk_at "px"
      refine ⟨rfl, w_take (by omega) fun w w0 w1 => ?_⟩
      walk_at "px"
      obtain ⟨w, rfl⟩ : ∃ c : Nat, w = c := ⟨w.toNat, by omega⟩
      exact k w _ _ (by omega) d1 d2 (.inr ⟨rfl, who_out (by have := of_decide_eq_false a; omega)⟩)
  | obj _ _ => cases d1
  | non =>
    rw [show isIntD _ = false from rfl]
    walk_at "px"
    refine ⟨rfl, w_take (by omega) fun w w0 w1 => ?_⟩
    walk_at "px"
    obtain ⟨w, rfl⟩ : ∃ c : Nat, w = c := ⟨w.toNat, by omega⟩
    exact k w _ _ (by omega) d1 d2 (.inr ⟨rfl, rfl⟩)
  | bl _ =>
    rw [show isIntD _ = false from rfl]
    walk_at "px"
    refine ⟨rfl, w_take (by omega) fun w w0 w1 => ?_⟩
    walk_at "px"
    obtain ⟨w, rfl⟩ : ∃ c : Nat, w = c := ⟨w.toNat, by omega⟩
    exact k w _ _ (by omega) d1 d2 (.inr ⟨rfl, rfl⟩)
  | str _ =>
    rw [show isIntD _ = false from rfl]
    walk_at "px"
    refine ⟨rfl, w_take (by omega) fun w w0 w1 => ?_⟩
    walk_at "px"
    obtain ⟨w, rfl⟩ : ∃ c : Nat, w = c := ⟨w.toNat, by omega⟩
    exact k w _ _ (by omega) d1 d2 (.inr ⟨rfl, rfl⟩)
  | lst _ =>
    rw [show isIntD _ = false from rfl]
    walk_at "px"
    refine ⟨rfl, w_take (by omega) fun w w0 w1 => ?_⟩
    walk_at "px"
    obtain ⟨w, rfl⟩ : ∃ c : Nat, w = c := ⟨w.toNat, by omega⟩
    exact k w _ _ (by omega) d1 d2 (.inr ⟨rfl, rfl⟩)
  | tup _ =>
    rw [show isIntD _ = false from rfl]
    walk_at "px"
    refine ⟨rfl, w_take (by omega) fun w w0 w1 => ?_⟩
    walk_at "px"
    obtain ⟨w, rfl⟩ : ∃ c : Nat, w = c := ⟨w.toNat, by omega⟩
    exact k w _ _ (by omega) d1 d2 (.inr ⟨rfl, rfl⟩)
  | dct _ _ =>
    rw [show isIntD _ = false from rfl]
    walk_at "px"
    refine ⟨rfl, w_take (by omega) fun w w0 w1 => ?_⟩
    walk_at "px"
    obtain ⟨w, rfl⟩ : ∃ c : Nat, w = c := ⟨w.toNat, by omega⟩
    exact k w _ _ (by omega) d1 d2 (.inr ⟨rfl, rfl⟩)
theorem odd_parts {n : Nat} {xs ys ss : List D} {d : D} (h : wholeB d 0 ((n : Int) - 1) = false) : partsB (.int n) (xs ++ [d] ++ ys) ss = false := by
  show (_ && ((xs ++ [d] ++ ys).all (fun d => wholeB d 0 ((n : Int) - 1)) && _)) = false
  have e : (xs ++ [d] ++ ys).all (fun d => wholeB d 0 ((n : Int) - 1)) = false := by
    rw [← Bool.not_eq_true, List.all_eq_true]
    intro q
    have := q d (by simp)
    rw [h] at this; cases this
  rw [e]; simp
theorem w_tD {m : Mc} {ys : List St} {ts : List D} {Q : SV → Prop} {E : Er → Prop} {o0 o1 o6 o7 o8 o11 o12 : Option SV} {a : Nat} {d g : D} (h : McOk m) (hy : ys.Perm m.ss) (hl2 : ts.length ≤ 4) (hts : ∀ t ∈ ts, TrialOk t) (ha : a ≤ m.rs.length) (d1 : isObj d = false) (d2 : Dpe 3 d) (hg : GoodB m.n d g)
    (k : ∀ ts : List D, (∀ t ∈ ts, TrialOk t) → Q (.own ts)) :
    tD E { nx := fun _ => Q (.dat .non), rt := Q } [o0, o1, some (.dat (rf2 "BadMachine")), some (.dat (.int m.n)), some (.dat (.lst (m.rs.map D.int))), some (.dat (.lst (ys.map stD))), o6, o7, o8, some (.own ts), some (.dat (.int a)), o11, o12, some (.dat d), some (.dat g)] := by
  have n1 := h.n1
  have n2 := h.n2
  have hl : ys.length ≤ 200 := by rw [hy.length_eq]; exact h.ssL
  have hr := rs_len h
  have so : ∀ y ∈ ys, StOk m.n y := fun y q => h.ss y (hy.mem_iff.mp q)
  have hn : ys.Nodup := hy.nodup_iff.mpr h.ssN
  unfold tD
  walk_at "px"
  rw [cutD_map, cutD_map, cutG_to ha, cutG_from ha]
  have lt : (m.rs.take a).length ≤ 60 := by rw [List.length_take]; omega
  have ld : (m.rs.drop a).length ≤ 60 := by rw [List.length_drop]; omega
  refine ⟨by rw [List.length_map]; omega, by simp only [List.length_append, List.length_map, List.length_cons, List.length_nil]; omega, ?_⟩
  rcases hg with ⟨rfl, p, rfl, p0, p1⟩ | ⟨rfl, hb⟩
  · walk_at "px"
    have e : (m.rs.take a).map D.int ++ .int p :: (m.rs.drop a).map D.int = (m.rs.take a ++ p :: m.rs.drop a).map D.int := by rw [List.map_append, List.map_cons]
    have hR : ∀ r ∈ m.rs.take a ++ p :: m.rs.drop a, 0 ≤ r ∧ r < m.n := fun r hr => by
      rcases List.mem_append.mp hr with q | q
      · exact h.rs r (List.mem_of_mem_take q)
      · rcases List.mem_cons.mp q with rfl | q
        · exact ⟨p0, p1⟩
        · exact h.rs r (List.mem_of_mem_drop q)
    have hL : (m.rs.take a ++ p :: m.rs.drop a).length ≤ 200 := by rw [List.length_append, List.length_cons]; omega
    rw [e]
    refine ⟨rfl, w_due (ss := []) n2 (by omega) (Nat.zero_le _) ?_⟩
    walk_at "px"
    refine ⟨by omega, rfl, w_due n2 (by omega) hl ?_⟩
    walk_at "px"
    refine ⟨by rw [List.length_append, List.length_singleton]; omega, k _ fun t ht => ?_⟩
    rcases List.mem_append.mp ht with q | q
    · exact hts t q
    · simp only [List.mem_cons, List.not_mem_nil, or_false] at q
      rcases q with rfl | rfl
      · exact ⟨_, _, rfl, dpe_show (mkMc_ok n1 n2 (fun _ h => nomatch h) List.nodup_nil (Nat.zero_le _)), fun k => w_asked2g n1 n2 hR (by omega) k⟩
      · exact ⟨_, _, rfl, dpe_show (mkMc_ok n1 n2 so hn hl), fun k => w_asked3g n1 n2 hR (by omega) so hn hl k⟩
  · walk_at "px"
    have ap : ∀ {xs zs : List D} {d : D}, xs ++ d :: zs = xs ++ [d] ++ zs := fun {xs zs d} => by simp
    have q1 : ∀ r ∈ (m.rs.take a).map D.int ++ d :: (m.rs.drop a).map D.int, Dpe 3 r ∧ isObj r = false := fun r hr => by
      have int : ∀ l : List Int, r ∈ l.map D.int → Dpe 3 r ∧ isObj r = false := fun l h => by
        obtain ⟨i, _, rfl⟩ := List.mem_map.mp h
        exact ⟨.int, rfl⟩
      rcases List.mem_append.mp hr with q | q
      · exact int _ q
      · rcases List.mem_cons.mp q with rfl | q
        · exact ⟨d2, d1⟩
        · exact int _ q
    have hL : ((m.rs.take a).map D.int ++ d :: (m.rs.drop a).map D.int).length ≤ 200 := by simp only [List.length_append, List.length_map, List.length_cons]; omega
    refine ⟨by omega, by rw [List.length_append, List.length_singleton]; omega, k _ fun t ht => ?_⟩
    rcases List.mem_append.mp ht with q | q
    · exact hts t q
    · simp only [List.mem_cons, List.not_mem_nil, or_false] at q
      rcases q with rfl | rfl
      · exact ⟨_, _, rfl, dpe_rf2, fun k => w_asked2b .int rfl (fun r hr => (q1 r hr).1) (fun r hr => (q1 r hr).2) (by omega) (by rw [ap]; exact odd_parts hb) k⟩
      · refine trial_bad .int rfl (fun r hr => (q1 r hr).1) (fun r hr => (q1 r hr).2) (by omega) dpe_sts (fun s hs => ?_) (by rw [List.length_map]; omega) (by rw [ap]; exact odd_parts hb)
        obtain ⟨y, hy, rfl⟩ := List.mem_map.mp hs
        exact stsz (so y hy)
def manyS (j : Nat) : St := ⟨((j % 15 : Nat) : Int), zSend, ((j / 100 : Nat) : Int), Str.ofString "a", ((j / 15 : Nat) : Int)⟩
theorem many_ok {j : Nat} (h : j < 201) : StOk (15 : Nat) (manyS j) := oth_ok (by omega) (by show ((j % 15 : Nat) : Int) < 15; omega) (by omega) (by show ((j / 15 : Nat) : Int) < 15; omega) (.inl rfl) (by omega) (by show ((j / 100 : Nat) : Int) ≤ 5; omega) (by decide +kernel)
theorem many_nd {k : Nat} : ((List.range k).map manyS).Nodup := by
  refine List.Pairwise.map _ (R := fun a b => a ≠ b) (fun a b n e => n ?_) List.nodup_range
  have e1 := congrArg St.p e
  have e2 := congrArg St.q e
  have e1 : ((a % 15 : Nat) : Int) = ((b % 15 : Nat) : Int) := e1
  have e2 : ((a / 15 : Nat) : Int) = ((b / 15 : Nat) : Int) := e2
  omega
theorem over_parts {n : Int} {rs ss : List D} (h : 200 < ss.length) : partsB (.int n) rs ss = false := by
  show (_ && (_ && (decide (ss.length ≤ 200) && _))) = false
  rw [decide_eq_false (by omega : ¬ ss.length ≤ 200)]; simp
theorem w_tA {m : Mc} {last : Ps} {P : PEnds} {E : Er → Prop} (h : McOk m)
    (k : ∀ (ys : List St) (ts : List D) (o6 o8 : Option SV), ys.Perm m.ss → ts.length ≤ 1 → (∀ t ∈ ts, TrialOk t) → last P [none, some (.dat (lmD m)), some (.dat (rf2 "BadMachine")), some (.dat (.int m.n)), some (.dat (.lst (m.rs.map D.int))), some (.own (ys.map stD)), o6, none, o8, some (.own ts), none, none, none, none, none]) :
    tA E last P [none, some (.dat (lmD m)), none, none, none, none, none, none, none, none, none, none, none, none, none] := by
  have hl := h.ssL
  unfold tA
  walk_at "px"
  refine ⟨rfl, w_shuffled (by rw [List.length_map]; omega) fun es he => ?_⟩
  obtain ⟨ys, hy, rfl⟩ := perm_sts he
  walk_at "px"
  refine lc_rmap 0 201 (fun j => stD (manyS j)) (by omega) (fun x hx R a => ?_) ?_
  · walk_at "px"
    refine ⟨⟨by omega, by omega⟩, ⟨by omega, by omega⟩, ?_⟩
    have e : stD (manyS x) = .tup [.int ((0 + (x : Int)).fmod 15), .str zSend, .int ((0 + (x : Int)).fdiv 100), .str (Str.ofString "a"), .int ((0 + (x : Int)).fdiv 15)] := by
      rw [Int.zero_add, Int.fmod_eq_emod_of_nonneg _ (by omega), Int.fdiv_eq_ediv_of_nonneg _ (by omega), Int.fdiv_eq_ediv_of_nonneg _ (by omega)]
      rfl
    rw [e] at a
    exact a
  walk_at "px"
  refine ⟨rfl, w_pick (.inl rfl) (by simp) (by simp) fun ov hov => ?_⟩
  simp only [List.mem_cons, List.not_mem_nil, or_false] at hov
  have em : (List.range 201).map (fun j => stD (manyS j)) = ((List.range 201).map manyS).map stD := by rw [List.map_map]; rfl
  rcases hov with rfl | rfl
  · walk_at "px"
    rw [em, cutD_map, show (201 : Int) = ((201 : Nat) : Int) from rfl, cutG_to (by rw [List.length_map, List.length_range]; exact Nat.le_refl _), List.take_of_length_le (by rw [List.length_map, List.length_range]; exact Nat.le_refl _)]
    refine k ys _ _ _ hy (by simp) fun t ht => ?_
    rw [List.mem_singleton.mp ht]
    refine trial_bad (rs := []) .int rfl (fun _ h => nomatch h) (fun _ h => nomatch h) (Nat.zero_le _) dpe_sts (fun s hs => ?_) (by rw [List.length_map, List.length_map, List.length_range]; omega) ?_
    · obtain ⟨y, hy, rfl⟩ := List.mem_map.mp hs
      obtain ⟨j, hj, rfl⟩ := List.mem_map.mp hy
      exact stsz (many_ok (List.mem_range.mp hj))
    · exact over_parts (by rw [List.length_map, List.length_map, List.length_range]; omega)
  · walk_at "px"
    rw [em, cutD_map, show (200 : Int) = ((200 : Nat) : Int) from rfl, cutG_to (by rw [List.length_map, List.length_range]; omega)]
    have e2 : ((List.range 201).map manyS).take 200 = (List.range 200).map manyS := by
      rw [← List.map_take, List.take_range]; rfl
    rw [e2]
    have ok : ∀ s ∈ (List.range 200).map manyS, StOk (15 : Nat) s := fun s hs => by
      obtain ⟨j, hj, rfl⟩ := List.mem_map.mp hs
      exact many_ok (by have := List.mem_range.mp hj; omega)
    have ln : ((List.range 200).map manyS).length ≤ 200 := by rw [List.length_map, List.length_range]; exact Nat.le_refl _
    refine ⟨rfl, w_due (n := 15) (rs := []) (by omega) (Nat.zero_le _) ln ?_⟩
    walk_at "px"
    refine k ys _ _ _ hy (by simp) fun t ht => ?_
    rw [List.mem_singleton.mp ht]
    exact ⟨_, _, rfl, dpe_show (mkMc_ok (by omega) (by omega) ok many_nd ln), fun k => w_asked3g (n := 15) (rs := []) (by omega) (by omega) (fun _ h => nomatch h) (Nat.zero_le _) ok many_nd ln k⟩
theorem w_trials {m : Mc} {Q : SV → Prop} {E : Er → Prop} (h : McOk m) (k : ∀ ts : List D, (∀ t ∈ ts, TrialOk t) → Q (.own ts)) : m_law_trials [lmD m] Q E := by
  show tA E (tB E (tC E (tC2 E (tD E)))) _ _
  refine w_tA h fun ys ts o6 o8 hy l1 h1 => ?_
  refine w_tB h hy l1 h1 fun ts o10 o11 o12 l2 h2 => ?_
  refine w_tC l2 h2 fun ts o13 o14 l3 h3 => ?_
  refine w_tC2 h fun a d g ha d1 d2 hg => ?_
  exact w_tD h hy l3 h3 ha d1 d2 hg k
end
section
def kA (E : Er → Prop) (last : Ps) : Ps := (mSeq (mSet 2 (mCall 0 m_law_drawn (fun er _ => E er) mNil)) (mSeq (mSet 3 (mCall 0 m_law_drawn (fun er _ => E er) mNil)) (mSeq (mSet 4 (mCall 1 m_law_trials (fun er _ => E er) (mCons (mVar 2) mNil))) (mSeq (mSet 5 (mCall 1 m_law_handed (fun er _ => E er) (mCons (mD (mOp mAdd (mOpD mIx (mVar 2) (mC (.int 1))) (mD (mCall 2 m_law_some (fun er _ => E er) (mCons (mOpD mIx (mVar 2) (mC (.int 1))) (mCons (mC (.int 3)) mNil)))))) mNil))) (mSeq (mSet 6 (mCall 1 m_law_handed (fun er _ => E er) (mCons (mOpD mIx (mVar 2) (mC (.int 2))) mNil))) last)))))
def kB (E : Er → Prop) : Ps := (mSeq (mSet 7 (mCall 3 m_law_due (fun er _ => E er) (mCons (mOpD mIx (mVar 2) (mC (.int 0))) (mCons (mOpD mIx (mVar 2) (mC (.int 1))) (mCons (mOpD mIx (mVar 2) (mC (.int 2))) mNil))))) (mSeq (mSet 8 (mLst (mCons (mD (mKeepV (mCall 1 (m_law_copy 5) (fun er _ => E er) (mCons (mVar 5) mNil)))) (mCons (mD (mKeepV (mCall 1 (m_law_copy 5) (fun er _ => E er) (mCons (mVar 6) mNil)))) mNil)))) (mSeq (mSet 9 (mKeepV (mNew 3 "Machine" m_Machine_init (fun er _ => E er) (mCons (mOpD mIx (mVar 2) (mC (.int 0))) (mCons (mVar 5) (mCons (mVar 6) mNil)))))) (mSeq (mSet 10 (mNew 3 "Machine" m_Machine_init (fun er _ => E er) (mCons (mOpD mIx (mVar 3) (mC (.int 0))) (mCons (mD (mCS mList (mCons (mOpD mIx (mVar 3) (mC (.int 1))) mNil))) (mCons (mD (mCS mList (mCons (mOpD mIx (mVar 3) (mC (.int 2))) mNil))) mNil))))) (mSeq (mIfS (mKeepT (mOr (mNot (mT (mD (mCall 2 (m_law_same 5) (fun er _ => E er) (mCons (mVar 7) (mCons (mD (mCall 1 m_law_shows (fun er _ => E er) (mCons (mVar 9) mNil))) mNil)))))) (mNot (mT (mD (mCall 2 (m_law_same 5) (fun er _ => E er) (mCons (mVar 8) (mCons (mD (mLst (mCons (mVar 5) (mCons (mVar 6) mNil)))) mNil)))))))) (mRet (mV (mC (.bl false)))) mNilS) (mSeq (mFor (mIt (mVar 4)) (bName 11) (mIfS (mNot (mT (mD (mCall 2 (m_law_same 5) (fun er _ => E er) (mCons (mOpD mIx (mVar 11) (mC (.int 1))) (mCons (mD (mCall 1 m_law_asked (fun er _ => E er) (mCons (mOpD mIx (mVar 11) (mC (.int 0))) mNil))) mNil)))))) (mRet (mV (mC (.bl false)))) mNilS)) (mSeq (mIfS (mKeepT (mT (mIsi [] "list" (mVar 5)))) (mExpr (mV (mInsert 5 (mC (.int 0)) (mC (.int 0))))) mNilS) (mSeq (mIfS (mKeepT (mT (mIsi [] "list" (mVar 6)))) (mExpr (mV (mClear 6))) mNilS) (mSeq (mIfS (mNot (mT (mD (mCall 2 (m_law_same 5) (fun er _ => E er) (mCons (mD (mCall 3 m_law_due (fun er _ => E er) (mCons (mOpD mIx (mVar 3) (mC (.int 0))) (mCons (mOpD mIx (mVar 3) (mC (.int 1))) (mCons (mOpD mIx (mVar 3) (mC (.int 2))) mNil))))) (mCons (mD (mCall 1 m_law_shows (fun er _ => E er) (mCons (mVar 10) mNil))) mNil)))))) (mRet (mV (mC (.bl false)))) mNilS) (mRet (mCall 2 (m_law_same 5) (fun er _ => E er) (mCons (mVar 7) (mCons (mD (mCall 1 m_law_shows (fun er _ => E er) (mCons (mVar 9) mNil))) mNil)))))))))))))
def Handed (r : SV) (es : List D) : Prop := r = .dat (.tup es) ∨ r = .own es
theorem w_handedR {ds : List D} {Q : SV → Prop} {E : Er → Prop} (hl : ds.length ≤ 1000000) (k : ∀ r es, es.Perm ds → Handed r es → Q r) : m_law_handed [.lst ds] Q E :=
  w_handed hl (fun es he => k _ es he (.inl rfl)) fun es he => k _ es he (.inr rfl)
theorem w_lA {last : Ps} {P : PEnds} {E : Er → Prop} {o5 : Option SV} {o7 o8 o9 o10 o11 : Option SV}
    (k : ∀ (m1 m2 : Mc) (ts : List D) (rs : List Int) (ss : List St) r5 r6, McOk m1 → McOk m2 → (∀ t ∈ ts, TrialOk t) → (∀ i, i ∈ rs ↔ i ∈ m1.rs) → rs.length ≤ 1000 → ss.Perm m1.ss → Handed r5 (rs.map D.int) → Handed r6 (ss.map stD) →
      last P [none, none, some (.dat (lmD m1)), some (.dat (lmD m2)), some (.own ts), some r5, some r6, o7, o8, o9, o10, o11]) :
    kA E last P [none, none, none, none, none, o5, none, o7, o8, o9, o10, o11] := by
  unfold kA
  walk_at "px"
  refine ⟨rfl, w_drawn fun m1 h1 => ?_⟩
  walk_at "px"
  refine ⟨rfl, w_drawn fun m2 h2 => ?_⟩
  walk_at "px"
  refine ⟨rfl, w_trials h1 fun ts hts => ?_⟩
  walk_at "px"
  have l1 := rs_len h1
  have l2 := h1.ssL
  refine ⟨rfl, w_some (by rw [List.length_map]; omega) fun es ⟨rest, hp⟩ _ => ?_⟩
  obtain ⟨zs, hz, e⟩ := perm_ints hp
  obtain ⟨a, b, e1, e2, e3⟩ := List.append_eq_map_iff.mp e
  subst e2
  have la : a.length ≤ 60 := by
    have := hz.length_eq
    rw [e1, List.length_append] at this
    omega
  walk_at "px"
  refine ⟨by omega, ?_⟩
  have ea : m1.rs.map D.int ++ a.map D.int = (m1.rs ++ a).map D.int := by rw [List.map_append]
  rw [ea]
  refine ⟨rfl, w_handedR (by rw [List.length_map, List.length_append]; omega) fun r5 es5 p5 q5 => ?_⟩
  obtain ⟨rs, hrs, rfl⟩ := perm_ints p5
  walk_at "px"
  refine ⟨rfl, w_handedR (by rw [List.length_map]; omega) fun r6 es6 p6 q6 => ?_⟩
  obtain ⟨ss, hss, rfl⟩ := perm_sts p6
  walk_at "px"
  refine k m1 m2 ts rs ss r5 r6 h1 h2 hts (fun i => ?_) (by rw [hrs.length_eq, List.length_append]; omega) hss q5 q6
  rw [hrs.mem_iff, List.mem_append]
  exact ⟨fun h => h.elim id fun h => hz.mem_iff.mp (by rw [e1]; exact List.mem_append_left _ h), .inl⟩
theorem due_self {m : Mc} {Q : SV → Prop} {E : Er → Prop} (h : McOk m) (k : Q (.dat (showD m))) : m_law_due [.int m.n, .lst (m.rs.map D.int), .lst (m.ss.map stD)] Q E :=
  w_due h.n2 (by have := rs_len h; omega) h.ssL (by rw [mkMc_self h]; exact k)
theorem seq_of {r : SV} {es : List D} (h : Handed r es) : IsSeq r.d es := by
  rcases h with rfl | rfl
  · exact .inr rfl
  · exact .inl rfl
theorem fz_intD {l : List Int} : ∀ d ∈ l.map D.int, Fz d := fun d hd => by
  obtain ⟨i, _, rfl⟩ := List.mem_map.mp hd
  exact .int
theorem fz_st {s : St} : Fz (stD s) := .tup (al1 .int (al1 .str (al1 .int (al1 .str (al1 .int al0)))))
theorem fz_sts {l : List St} : ∀ d ∈ l.map stD, Fz d := fun d hd => by
  obtain ⟨i, _, rfl⟩ := List.mem_map.mp hd
  exact fz_st
theorem w_copyF {n : Nat} {d : D} {ds : List D} {Q : SV → Prop} {E : Er → Prop} (hs : IsSeq d ds) (h1 : ∀ x ∈ ds, Dpe n x) (h2 : ∀ x ∈ ds, Fz x) (hl : ds.length ≤ 1000000) (k : ∀ r : SV, r.d = d → SFz r → Q r) : m_law_copy (n + 1) [d] Q E := by
  rcases hs with rfl | rfl
  · show b_law_copy (m_law_copy n) E _ _
    unfold b_law_copy
    walk_at "px"
    refine lc_id ds (by omega) (fun x hx R r => ?_) (k _ rfl h2)
    walk_at "px"
    refine ⟨rfl, w_copy (h1 x hx) fun q hq => ?_⟩
    walk_at "px"
    rw [hq]
    exact r
  · show b_law_copy (m_law_copy n) E _ _
    unfold b_law_copy
    walk_at "px"
    refine lc_id ds (by omega) (fun x hx R r => ?_) ?_
    · walk_at "px"
      refine ⟨rfl, w_copy (h1 x hx) fun q hq => ?_⟩
      walk_at "px"
      rw [hq]
      exact r
    · walk_at "px"
      exact k _ rfl (.tup h2)
theorem fz_mc {m : Mc} : SFz (.ownO "Machine" (mcF m)) := by
  show ∀ p ∈ mcF m, Fz p.2
  intro p hp
  simp only [mcF, List.mem_cons, List.not_mem_nil, or_false] at hp
  rcases hp with rfl | rfl | rfl | rfl
  · exact .int
  · exact .tup fz_intD
  · exact .tup fz_sts
  · refine .tup fun d hd => ?_
    obtain ⟨i, _, rfl⟩ := List.mem_map.mp hd
    exact .tup fz_sts
theorem mk_self {m : Mc} {rs : List Int} {ss : List St} (h : McOk m) (hrs : ∀ i, i ∈ rs ↔ i ∈ m.rs) (hss : ss.Perm m.ss) : mkMc m.n rs ss = m := by
  have e := mkMc_self h
  unfold mkMc at e ⊢
  rw [setI_nd hrs, srtS_congr hss]
  exact e
theorem w_kB {m1 m2 : Mc} {ts : List D} {rs : List Int} {ss : List St} {r5 r6 : SV} {o7 o8 o9 o10 o11 : Option SV} (h1 : McOk m1) (h2 : McOk m2) (hts : ∀ t ∈ ts, TrialOk t) (hrs : ∀ i, i ∈ rs ↔ i ∈ m1.rs) (hl : rs.length ≤ 1000) (hss : ss.Perm m1.ss) (q5 : Handed r5 (rs.map D.int)) (q6 : Handed r6 (ss.map stD)) :
    kB (fun _ => False) { nx := fun _ => False, rt := fun r => r.d = .bl true } [none, none, some (.dat (lmD m1)), some (.dat (lmD m2)), some (.own ts), some r5, some r6, o7, o8, o9, o10, o11] := by
  have l1 := rs_len h1
  have l2 := h1.ssL
  unfold kB
  walk_at "px"
  refine ⟨rfl, due_self h1 ?_⟩
  walk_at "px"
  have s5 := seq_of q5
  have s6 := seq_of q6
  have ls : ss.length ≤ 200 := by rw [hss.length_eq]; exact l2
  have so : ∀ s ∈ ss, StOk m1.n s := fun s hs => h1.ss s (hss.mem_iff.mp hs)
  have mk1 : ∀ {Q : List (Str × D) → Prop} {E : Er → Prop}, Q (mcF m1) → m_Machine_init [.int m1.n, r5.d, r6.d] Q E := fun k =>
    w_mk s5 s6 h1.n1 h1.n2 (fun r hr => h1.rs r ((hrs r).mp hr)) so (hss.nodup_iff.mpr h1.ssN) (by omega) ls (by rw [mk_self h1 hrs hss]; exact k)
  have mk2 : ∀ {Q : List (Str × D) → Prop} {E : Er → Prop}, Q (mcF m2) → m_Machine_init [.int m2.n, .lst (m2.rs.map D.int), .lst (m2.ss.map stD)] Q E := fun k => w_init_self h2 (.inl rfl) (.inl rfl) k
  have d5 : Dpe 4 r5.d := by
    rcases q5 with rfl | rfl
    · exact .tup dpe_ints (by rw [List.length_map]; omega)
    · exact .lst dpe_ints (by rw [List.length_map]; omega)
  have d6 : Dpe 4 r6.d := by
    rcases q6 with rfl | rfl
    · exact .tup dpe_sts (by rw [List.length_map]; omega)
    · exact .lst dpe_sts (by rw [List.length_map]; omega)
  refine ⟨rfl, w_copyF s5 dpe_ints fz_intD (by rw [List.length_map]; omega) fun a5 e5 f5 => ⟨f5, ?_⟩⟩
  refine ⟨rfl, w_copyF s6 dpe_sts fz_sts (by rw [List.length_map]; omega) fun a6 e6 f6 => ⟨f6, ?_⟩⟩
  rw [frzA]
  walk_at "px"
  refine ⟨rfl, mk1 ⟨fz_mc, ?_⟩⟩
  refine ⟨rfl, mk2 ?_⟩
  walk_at "px"
  refine ⟨rfl, w_shows h1 ?_⟩
  walk_at "px"
  refine ⟨rfl, w_samee (dpe_show h1) ?_⟩
  walk_at "px"
  rw [frzA]
  walk_at "px"
  rw [e5, e6]
  refine ⟨rfl, w_samee (.lst (al1 d5 (al1 d6 al0)) (by simp)) ?_⟩
  walk_at "px"
  refine for_st (fun a : Option SV => [none, none, some (.dat (lmD m1)), some (.dat (lmD m2)), some (.dat (.lst ts)), some r5, some r6, some (.dat (showD m1)), some (.own [r5.d, r6.d]), some (.ownO "Machine" (mcF m1)), some (.ownO "Machine" (mcF m2)), a]) (fun ds _ => ∀ d ∈ ds, TrialOk d) (fun a _ => ?_) (fun d ds a hd ih => ?_) ts o11 hts
  · rcases q5 with rfl | rfl <;> rcases q6 with rfl | rfl
    all_goals
      walk_at "px"
      first | refine ⟨rfl, due_self h2 ?_⟩ | refine ⟨by omega, rfl, due_self h2 ?_⟩
      walk_at "px"
      refine ⟨rfl, w_shows h2 ?_⟩
      walk_at "px"
      refine ⟨rfl, w_samee (dpe_show h2) ?_⟩
      walk_at "px"
      refine ⟨rfl, w_shows h1 ?_⟩
      walk_at "px"
      refine ⟨rfl, w_samee (dpe_show h1) ?_⟩
      walk_at "px"
  · obtain ⟨p, u, rfl, du, ask⟩ := hd d List.mem_cons_self
    have go := ih (some (.dat (.lst [p, u]))) fun x hx => hd x (List.mem_cons_of_mem _ hx)
    walk_at "px"
    refine ⟨rfl, ask ?_⟩
    walk_at "px"
    refine ⟨rfl, w_samee du ?_⟩
    walk_at "px"
    exact go
theorem w_law : m_law_ok := by
  show kA (fun _ => False) (kB fun _ => False) _ _
  refine w_lA fun m1 m2 ts rs ss r5 r6 h1 h2 hts hrs hl hss q5 q6 => ?_
  exact w_kB h1 h2 hts hrs hl hss q5 q6
end
theorem chain {Z : Q.Env} {h : Heap} {f : Addr} {fd : FuncData} (X : Z.K.In h) (G : h.Ns mainGlobals Z.mg) (c : He.SaysD fa fn Z.K) (cx : ex Z.K = true) (pw : pr.map (prW Z.K) = pr.map PrD.val) (F : FunD Z.K "law" "law" (defArgs s_law) (defBody s_law) (defScope s_law) [] [] f fd) :
    FnOk Z.P Z.w Z.K Z.mg Z.base (CXn Z) 8 f fd ["script"] (spLawU Z.K) := by
  obtain ⟨kt_Machine_0, cx⟩ := He.ba cx
  have kt_Machine_0 := kt_ok kt_Machine_0
  obtain ⟨kt_Machine_1, cx⟩ := He.ba cx
  have kt_Machine_1 := kt_ok kt_Machine_1
  obtain ⟨x_BadMachine, cx⟩ := He.ba cx
  obtain ⟨x_NotThere, cx⟩ := He.ba cx
  have B : U.Std Z := ⟨He.free_ok X G (c.fact 49 rfl), He.free_ok X G (c.fact 50 rfl), He.free_ok X G (c.fact 51 rfl), He.free_ok X G (c.fact 52 rfl), He.free_ok X G (c.fact 53 rfl), He.free_ok X G (c.fact 54 rfl), He.free_ok X G (c.fact 55 rfl), He.free_ok X G (c.fact 56 rfl), He.free_ok X G (c.fact 57 rfl), He.free_ok X G (c.fact 58 rfl), He.free_ok X G (c.fact 59 rfl), He.free_ok X G (c.fact 60 rfl), He.free_ok X G (c.fact 61 rfl), He.free_ok X G (c.fact 62 rfl), He.free_ok X G (c.fact 63 rfl), He.free_ok X G (c.fact 64 rfl), He.free_ok X G (c.fact 65 rfl), He.free_ok X G (c.fact 66 rfl), He.free_ok X G (c.fact 67 rfl), He.free_ok X G (c.fact 68 rfl), He.free_ok X G (c.fact 69 rfl)⟩
  have BQ : Q.Std Z := ⟨He.free_ok X G (c.fact 49 rfl), He.free_ok X G (c.fact 50 rfl), He.free_ok X G (c.fact 51 rfl), He.free_ok X G (c.fact 52 rfl), He.free_ok X G (c.fact 53 rfl), He.free_ok X G (c.fact 54 rfl), He.free_ok X G (c.fact 55 rfl), He.free_ok X G (c.fact 56 rfl), He.free_ok X G (c.fact 57 rfl), He.free_ok X G (c.fact 58 rfl), He.free_ok X G (c.fact 59 rfl), He.free_ok X G (c.fact 60 rfl), He.free_ok X G (c.fact 61 rfl), He.free_ok X G (c.fact 62 rfl), He.free_ok X G (c.fact 63 rfl), He.free_ok X G (c.fact 64 rfl), He.free_ok X G (c.fact 65 rfl), He.free_ok X G (c.fact 66 rfl), He.free_ok X G (c.fact 67 rfl), He.free_ok X G (c.fact 68 rfl), He.free_ok X G (c.fact 69 rfl)⟩
  have g_DIGITS : Gv Z "DIGITS" (.str (Str.ofString "0123456789")) := gvS (He.str_ok X G (c.fact 83 rfl))
  have g_GREATEST_PEER : Gv Z "GREATEST_PEER" (.int 5) := gvI (He.int_ok X G (c.fact 84 rfl))
  have g_LONGEST_NAME : Gv Z "LONGEST_NAME" (.int 8) := gvI (He.int_ok X G (c.fact 85 rfl))
  have g_MOST_STATES : Gv Z "MOST_STATES" (.int 60) := gvI (He.int_ok X G (c.fact 86 rfl))
  have g_MOST_STEPS : Gv Z "MOST_STEPS" (.int 200) := gvI (He.int_ok X G (c.fact 87 rfl))
  have g_SMALL_LETTERS : Gv Z "SMALL_LETTERS" (.str (Str.ofString "abcdefghijklmnopqrstuvwxyz")) := gvS (He.str_ok X G (c.fact 88 rfl))
  have k_BadMachine : Z.mg "BadMachine" = some (.ref (He.ga Z.K "BadMachine")) := He.glo_ok X G (c.fact 33 rfl)
  have k_BadNet : Z.mg "BadNet" = some (.ref (He.ga Z.K "BadNet")) := He.glo_ok X G (c.fact 34 rfl)
  have k_BadStanding : Z.mg "BadStanding" = some (.ref (He.ga Z.K "BadStanding")) := He.glo_ok X G (c.fact 35 rfl)
  have k_BadWord : Z.mg "BadWord" = some (.ref (He.ga Z.K "BadWord")) := He.glo_ok X G (c.fact 36 rfl)
  have k_BadText : Z.mg "BadText" = some (.ref (He.ga Z.K "BadText")) := He.glo_ok X G (c.fact 37 rfl)
  have k_BadWish : Z.mg "BadWish" = some (.ref (He.ga Z.K "BadWish")) := He.glo_ok X G (c.fact 38 rfl)
  have k_BadPaper : Z.mg "BadPaper" = some (.ref (He.ga Z.K "BadPaper")) := He.glo_ok X G (c.fact 39 rfl)
  have k_Cannot : Z.mg "Cannot" = some (.ref (He.ga Z.K "Cannot")) := He.glo_ok X G (c.fact 40 rfl)
  have k_Loud : Z.mg "Loud" = some (.ref (He.ga Z.K "Loud")) := He.glo_ok X G (c.fact 41 rfl)
  have k_NotCalm : Z.mg "NotCalm" = some (.ref (He.ga Z.K "NotCalm")) := He.glo_ok X G (c.fact 42 rfl)
  have k_NotThere : Z.mg "NotThere" = some (.ref (He.ga Z.K "NotThere")) := He.glo_ok X G (c.fact 43 rfl)
  have k_NoJoin : Z.mg "NoJoin" = some (.ref (He.ga Z.K "NoJoin")) := He.glo_ok X G (c.fact 44 rfl)
  have k_TooMany : Z.mg "TooMany" = some (.ref (He.ga Z.K "TooMany")) := He.glo_ok X G (c.fact 45 rfl)
  have k_Reserved : Z.mg "Reserved" = some (.ref (He.ga Z.K "Reserved")) := He.glo_ok X G (c.fact 46 rfl)
  have k_Nothing : Z.mg "Nothing" = some (.ref (He.ga Z.K "Nothing")) := He.glo_ok X G (c.fact 47 rfl)
  have k_OneError : Z.mg "OneError" = some (.ref (He.ga Z.K "OneError")) := He.glo_ok X G (c.fact 48 rfl)
  have e_BadMachine : ErrC Z "BadMachine" := errC_ok k_BadMachine (c.fact 71 rfl)
  have x_OneError : ∀ C ∈ errC, PySem.W.exmOne Z.K (.ref (He.ga Z.K C)) (.ref (He.ga Z.K "OneError")) = some true := by
    intro C hC
    simp only [errC, List.mem_cons, List.not_mem_nil, or_false] at hC
    rcases hC with rfl | rfl
    · exact He.exm_ok (c.fact 72 rfl)
    · exact He.exm_ok (c.fact 73 rfl)
  have hN : ∀ y ∈ errNs, Z.mg y = some (.ref (He.ga Z.K y)) := by
    intro y hy
    simp only [errNs, List.mem_cons, List.not_mem_nil, or_false] at hy
    rcases hy with rfl | rfl | rfl | rfl | rfl | rfl | rfl | rfl | rfl | rfl | rfl | rfl | rfl | rfl | rfl
    · exact k_BadMachine
    · exact k_BadNet
    · exact k_BadStanding
    · exact k_BadWord
    · exact k_BadText
    · exact k_BadWish
    · exact k_BadPaper
    · exact k_Cannot
    · exact k_Loud
    · exact k_NotCalm
    · exact k_NotThere
    · exact k_NoJoin
    · exact k_TooMany
    · exact k_Reserved
    · exact k_Nothing
  have rows : ∀ x ∈ errC, ErrRow Z (He.ga Z.K x) x errNs := by
    intro C hC
    simp only [errC, List.mem_cons, List.not_mem_nil, or_false] at hC
    rcases hC with rfl | rfl
    · exact errB_ok x_BadMachine hN k_OneError
    · exact errB_ok x_NotThere hN k_OneError
  have fo_outs : FldOk Z.K ["Machine"] "outs" := (fldOk_cons (c.fact 75 rfl) (c.fact 77 rfl) fldOk_nil)
  have fo_rests : FldOk Z.K ["Machine"] "rests" := (fldOk_cons (c.fact 75 rfl) (c.fact 78 rfl) fldOk_nil)
  have fo_size : FldOk Z.K ["Machine"] "size" := (fldOk_cons (c.fact 75 rfl) (c.fact 79 rfl) fldOk_nil)
  have fo_steps : FldOk Z.K ["Machine"] "steps" := (fldOk_cons (c.fact 75 rfl) (c.fact 80 rfl) fldOk_nil)
  have D__law_load : DefAt Z "_law_load" Q.s_law_load [] := defAt_ok (He.glo_ok X G (c.fact 30 rfl)) (c.def_ 30 rfl)
  have D__law_take : DefAt Z "_law_take" Q.s_law_take [] := defAt_ok (He.glo_ok X G (c.fact 31 rfl)) (c.def_ 31 rfl)
  have D__law_store : DefAt Z "_law_store" Q.s_law_store [] := defAt_ok (He.glo_ok X G (c.fact 32 rfl)) (c.def_ 32 rfl)
  have q_load := Q.can_law_load (Z := Z) BQ D__law_load
  have q_take := Q.can_law_take (Z := Z) BQ D__law_take (c__law_load := q_load.mono (by decide))
  have q_store := Q.can_law_store (Z := Z) BQ D__law_store
  have h__law_take := can_take q_take
  have D__law_number : DefAt Z "_law_number" s_law_number [] := defAt_ok (He.glo_ok X G (c.fact 0 rfl)) (c.def_ 0 rfl)
  have h__law_number := can_law_number (Z := Z) B D__law_number (c__law_take := h__law_take.mono (by decide))
  have D__law_some : DefAt Z "_law_some" s_law_some [] := defAt_ok (He.glo_ok X G (c.fact 1 rfl)) (c.def_ 1 rfl)
  have h__law_some := can_law_some (Z := Z) B D__law_some (c__law_number := h__law_number.mono (by decide)) (c__law_take := h__law_take.mono (by decide))
  have D__law_copy : DefAt Z "_law_copy" s_law_copy [] := defAt_ok (He.glo_ok X G (c.fact 2 rfl)) (c.def_ 2 rfl)
  have h__law_copy_0 : Can Z (CXn Z) 0 "_law_copy" ["thing"] [] (lF Z.K 1 (m_law_copy 0)) := can_zeroU D__law_copy (fun _ _ _ _ _ _ us hl => match us, hl with | [_], _ => rfl) (fun vs H Q E ⟨_, _, _, _, _, _, _, h, _⟩ => h)
  have h__law_copy_1 := can_law_copy (Z := Z) (n := 0) B D__law_copy (c__law_copy := h__law_copy_0)
  have h__law_copy_2 := can_law_copy (Z := Z) (n := 1) B D__law_copy (c__law_copy := h__law_copy_1)
  have h__law_copy_3 := can_law_copy (Z := Z) (n := 2) B D__law_copy (c__law_copy := h__law_copy_2)
  have h__law_copy_4 := can_law_copy (Z := Z) (n := 3) B D__law_copy (c__law_copy := h__law_copy_3)
  have h__law_copy_5 := can_law_copy (Z := Z) (n := 4) B D__law_copy (c__law_copy := h__law_copy_4)
  have D__law_integer : DefAt Z "_law_integer" s_law_integer [] := defAt_ok (He.glo_ok X G (c.fact 3 rfl)) (c.def_ 3 rfl)
  have h__law_integer := can_law_integer (Z := Z) B D__law_integer
  have D__law_shuffled : DefAt Z "_law_shuffled" s_law_shuffled [] := defAt_ok (He.glo_ok X G (c.fact 4 rfl)) (c.def_ 4 rfl)
  have h__law_shuffled := can_law_shuffled (Z := Z) B D__law_shuffled (c__law_take := h__law_take.mono (by decide))
  have D__law_due : DefAt Z "_law_due" s_law_due [] := defAt_ok (He.glo_ok X G (c.fact 5 rfl)) (c.def_ 5 rfl)
  have h__law_due := can_law_due (Z := Z) B D__law_due
  have D__law_pick : DefAt Z "_law_pick" s_law_pick [] := defAt_ok (He.glo_ok X G (c.fact 6 rfl)) (c.def_ 6 rfl)
  have h__law_pick := can_law_pick (Z := Z) B D__law_pick (c__law_take := h__law_take.mono (by decide))
  have D__law_odd_value : DefAt Z "_law_odd_value" s_law_odd_value [] := defAt_ok (He.glo_ok X G (c.fact 7 rfl)) (c.def_ 7 rfl)
  have h__law_odd_value := can_law_odd_value (Z := Z) B D__law_odd_value (c__law_pick := h__law_pick.mono (by decide)) (c__law_take := h__law_take.mono (by decide))
  have D__law_crooked : DefAt Z "_law_crooked" s_law_crooked [] := defAt_ok (He.glo_ok X G (c.fact 8 rfl)) (c.def_ 8 rfl)
  have h__law_crooked := can_law_crooked (Z := Z) B D__law_crooked (c__law_pick := h__law_pick.mono (by decide)) (c__law_take := h__law_take.mono (by decide))
  have D__law_trials : DefAt Z "_law_trials" s_law_trials [] := defAt_ok (He.glo_ok X G (c.fact 9 rfl)) (c.def_ 9 rfl)
  have h__law_trials := can_law_trials (Z := Z) B D__law_trials (c__law_crooked := h__law_crooked.mono (by decide)) (c__law_due := h__law_due.mono (by decide)) (c__law_integer := h__law_integer.mono (by decide)) (c__law_odd_value := h__law_odd_value.mono (by decide)) (c__law_pick := h__law_pick.mono (by decide)) (c__law_shuffled := h__law_shuffled.mono (by decide)) (c__law_take := h__law_take.mono (by decide))
  have h_Machine_len := can_Machine_len (Z := Z) B (defAtM_ok (q := "Machine.__len__") (c.fact 75 rfl) (c.fact 81 rfl) (c.def_ 33 rfl)) (fo_steps := fo_steps)
  have h_Machine_iter := can_Machine_iter (Z := Z) B (defAtM_ok (q := "Machine.__iter__") (c.fact 75 rfl) (c.fact 82 rfl) (c.def_ 34 rfl)) (f_iter := He.free_ok X G (c.fact 70 rfl)) (fo_steps := fo_steps)
  have D__law_shows : DefAt Z "_law_shows" s_law_shows [] := defAt_ok (He.glo_ok X G (c.fact 10 rfl)) (c.def_ 10 rfl)
  have h__law_shows := can_law_shows (Z := Z) B D__law_shows (c_Machine_iter := h_Machine_iter.mono (by decide)) (c_Machine_len := h_Machine_len.mono (by decide)) (fo_rests := fo_rests) (fo_size := fo_size) (fo_steps := fo_steps)
  have D__law_handed : DefAt Z "_law_handed" s_law_handed [] := defAt_ok (He.glo_ok X G (c.fact 11 rfl)) (c.def_ 11 rfl)
  have h__law_handed := can_law_handed (Z := Z) B D__law_handed (c__law_shuffled := h__law_shuffled.mono (by decide)) (c__law_take := h__law_take.mono (by decide))
  have D__law_same : DefAt Z "_law_same" s_law_same [] := defAt_ok (He.glo_ok X G (c.fact 12 rfl)) (c.def_ 12 rfl)
  have h__law_same_0 : Can Z (CXn Z) 0 "_law_same" ["due", "seen"] [] (lF Z.K 2 (m_law_same 0)) := can_zeroU D__law_same (fun _ _ _ _ _ _ us hl => match us, hl with | [_, _], _ => rfl) (fun vs H Q E ⟨_, _, _, _, _, _, _, h, _⟩ => h)
  have h__law_same_1 := can_law_same (Z := Z) (n := 0) B D__law_same (c__law_same := h__law_same_0)
  have h__law_same_2 := can_law_same (Z := Z) (n := 1) B D__law_same (c__law_same := h__law_same_1)
  have h__law_same_3 := can_law_same (Z := Z) (n := 2) B D__law_same (c__law_same := h__law_same_2)
  have h__law_same_4 := can_law_same (Z := Z) (n := 3) B D__law_same (c__law_same := h__law_same_3)
  have h__law_same_5 := can_law_same (Z := Z) (n := 4) B D__law_same (c__law_same := h__law_same_4)
  have D_steps_by_state : DefAt Z "steps_by_state" s_steps_by_state [] := defAt_ok (He.glo_ok X G (c.fact 13 rfl)) (c.def_ 13 rfl)
  have h_steps_by_state := can_steps_by_state (Z := Z) B D_steps_by_state
  have D_is_whole : DefAt Z "is_whole" s_is_whole [] := defAt_ok (He.glo_ok X G (c.fact 14 rfl)) (c.def_ 14 rfl)
  have h_is_whole := can_is_whole (Z := Z) B D_is_whole
  have D_good_name : DefAt Z "good_name" s_good_name [] := defAt_ok (He.glo_ok X G (c.fact 15 rfl)) (c.def_ 15 rfl)
  have h_good_name := can_good_name (Z := Z) B D_good_name (g_LONGEST_NAME := g_LONGEST_NAME) (g_SMALL_LETTERS := g_SMALL_LETTERS)
  have D_short_number : DefAt Z "short_number" s_short_number [] := defAt_ok (He.glo_ok X G (c.fact 16 rfl)) (c.def_ 16 rfl)
  have h_short_number := can_short_number (Z := Z) B D_short_number (g_DIGITS := g_DIGITS)
  have D_good_letter : DefAt Z "good_letter" s_good_letter [] := defAt_ok (He.glo_ok X G (c.fact 17 rfl)) (c.def_ 17 rfl)
  have h_good_letter := can_good_letter (Z := Z) B D_good_letter (c_good_name := h_good_name.mono (by decide)) (c_short_number := h_short_number.mono (by decide))
  have D_step_fits : DefAt Z "step_fits" s_step_fits [] := defAt_ok (He.glo_ok X G (c.fact 18 rfl)) (c.def_ 18 rfl)
  have h_step_fits := can_step_fits (Z := Z) B D_step_fits (c_good_letter := h_good_letter.mono (by decide)) (c_is_whole := h_is_whole.mono (by decide)) (g_GREATEST_PEER := g_GREATEST_PEER)
  have D_check_parts : DefAt Z "check_parts" s_check_parts [] := defAt_ok (He.glo_ok X G (c.fact 19 rfl)) (c.def_ 19 rfl)
  have h_check_parts := can_check_parts (Z := Z) B D_check_parts (c_is_whole := h_is_whole.mono (by decide)) (c_step_fits := h_step_fits.mono (by decide)) (g_MOST_STATES := g_MOST_STATES) (g_MOST_STEPS := g_MOST_STEPS) (e_BadMachine := e_BadMachine)
  have D_Machine_init := defAtI_ok (C := "Machine") (q := "Machine.__init__") (st := s_Machine_init) (He.glo_ok X G (c.fact 74 rfl)) (c.fact 76 rfl) (c.def_ 35 rfl)
  have h_Machine_1 := can_Machine_init_1 (Z := Z) B D_Machine_init (c_check_parts := h_check_parts.mono (by decide)) (c_steps_by_state := h_steps_by_state.mono (by decide)) (fo_outs := fo_outs) (fo_rests := fo_rests) (fo_size := fo_size) (fo_steps := fo_steps)
  have h_Machine_2 := can_Machine_init_2 (Z := Z) B D_Machine_init (c_check_parts := h_check_parts.mono (by decide)) (c_steps_by_state := h_steps_by_state.mono (by decide)) (fo_outs := fo_outs) (fo_rests := fo_rests) (fo_size := fo_size) (fo_steps := fo_steps)
  have h_Machine_3 := can_Machine_init_3 (Z := Z) B D_Machine_init (c_check_parts := h_check_parts.mono (by decide)) (c_steps_by_state := h_steps_by_state.mono (by decide)) (fo_outs := fo_outs) (fo_rests := fo_rests) (fo_size := fo_size) (fo_steps := fo_steps)
  have D__law_error : DefAt Z "_law_error" s_law_error [] := defAt_ok (He.glo_ok X G (c.fact 20 rfl)) (c.def_ 20 rfl)
  have h__law_error := can_law_error (Z := Z) B D__law_error rows
  have D__law_asked : DefAt Z "_law_asked" s_law_asked [] := defAt_ok (He.glo_ok X G (c.fact 21 rfl)) (c.def_ 21 rfl)
  have h__law_asked := can_law_asked (Z := Z) B D__law_asked (c__law_copy := h__law_copy_5.mono (by decide)) (c__law_same := h__law_same_5.mono (by decide)) (c__law_shows := h__law_shows.mono (by decide)) (c_Machine_1 := h_Machine_1.mono (by decide)) (t_Machine_1 := (emp_cons kt_Machine_0 (emp_cons kt_Machine_1 emp_nil))) (l_Machine_1 := rfl) (c_Machine_2 := h_Machine_2.mono (by decide)) (t_Machine_2 := (emp_cons kt_Machine_1 emp_nil)) (l_Machine_2 := rfl) (c_Machine_3 := h_Machine_3.mono (by decide)) (c__law_error := canE_mono h__law_error (by decide)) (k_OneError := k_OneError) (x_OneError := x_OneError)
  have D__law_rests : DefAt Z "_law_rests" s_law_rests [] := defAt_ok (He.glo_ok X G (c.fact 22 rfl)) (c.def_ 22 rfl)
  have h__law_rests := can_law_rests (Z := Z) B D__law_rests (c__law_take := h__law_take.mono (by decide))
  have D__law_full_machine : DefAt Z "_law_full_machine" s_law_full_machine [] := defAt_ok (He.glo_ok X G (c.fact 23 rfl)) (c.def_ 23 rfl)
  have h__law_full_machine := can_law_full_machine (Z := Z) B D__law_full_machine (c__law_number := h__law_number.mono (by decide)) (c__law_pick := h__law_pick.mono (by decide)) (c__law_rests := h__law_rests.mono (by decide)) (c__law_take := h__law_take.mono (by decide))
  have D__law_steps : DefAt Z "_law_steps" s_law_steps [] := defAt_ok (He.glo_ok X G (c.fact 24 rfl)) (c.def_ 24 rfl)
  have h__law_steps := can_law_steps (Z := Z) B D__law_steps (c__law_pick := h__law_pick.mono (by decide)) (c__law_take := h__law_take.mono (by decide))
  have D__law_machine : DefAt Z "_law_machine" s_law_machine [] := defAt_ok (He.glo_ok X G (c.fact 25 rfl)) (c.def_ 25 rfl)
  have h__law_machine := can_law_machine (Z := Z) B D__law_machine (c__law_number := h__law_number.mono (by decide)) (c__law_rests := h__law_rests.mono (by decide)) (c__law_steps := h__law_steps.mono (by decide))
  have D__law_spell : DefAt Z "_law_spell" s_law_spell [] := defAt_ok (He.glo_ok X G (c.fact 26 rfl)) (c.def_ 26 rfl)
  have h__law_spell := can_law_spell (Z := Z) B D__law_spell (c__law_take := h__law_take.mono (by decide))
  have D__law_alphabet : DefAt Z "_law_alphabet" s_law_alphabet [] := defAt_ok (He.glo_ok X G (c.fact 27 rfl)) (c.def_ 27 rfl)
  have h__law_alphabet := can_law_alphabet (Z := Z) B D__law_alphabet (c__law_number := h__law_number.mono (by decide)) (c__law_pick := h__law_pick.mono (by decide)) (c__law_spell := h__law_spell.mono (by decide)) (c__law_take := h__law_take.mono (by decide))
  have D__law_drawn : DefAt Z "_law_drawn" s_law_drawn [] := defAt_ok (He.glo_ok X G (c.fact 28 rfl)) (c.def_ 28 rfl)
  have h__law_drawn := can_law_drawn (Z := Z) B D__law_drawn (c__law_alphabet := h__law_alphabet.mono (by decide)) (c__law_full_machine := h__law_full_machine.mono (by decide)) (c__law_machine := h__law_machine.mono (by decide)) (c__law_number := h__law_number.mono (by decide)) (c__law_pick := h__law_pick.mono (by decide)) (c__law_some := h__law_some.mono (by decide)) (c__law_take := h__law_take.mono (by decide))
  exact ok_law (Z := Z) B F (c__law_asked := h__law_asked.mono (by decide)) (c__law_copy := h__law_copy_5.mono (by decide)) (c__law_drawn := h__law_drawn.mono (by decide)) (c__law_due := h__law_due.mono (by decide)) (c__law_handed := h__law_handed.mono (by decide)) (c__law_same := h__law_same_5.mono (by decide)) (c__law_shows := h__law_shows.mono (by decide)) (c__law_some := h__law_some.mono (by decide)) (c__law_trials := h__law_trials.mono (by decide)) (c_Machine_3 := h_Machine_3.mono (by decide)) (c__law_store := q_store.mono (by decide)) (hm := w_law)
theorem facts {P : Program} {w : World} {K : PySem.W.Frag} {h : Heap} {mg : Str → Option Value} {f : Addr} (X : K.In h) (G : h.Ns mainGlobals mg) (hfa : mg ("law" : Str) = some (.ref f)) (c : He.SaysD fa fn K) (cx : ex K = true) (pw : pr.map (prW K) = pr.map PrD.val) :
    ∃ fd : FuncData, (∀ (s : Shared) (v : Value), BindsTo s fd ⟨[v], []⟩ [("script", v)]) ∧ ∀ base : Heap, K.In base → base.Ns mainGlobals mg → FnOk P w K mg base (L2N.CX P w) 8 f fd ["script"] (spLawU K) := by
  obtain ⟨fd, F⟩ := c.def_ 29 rfl
  have e := hfa.symm.trans (He.glo_ok X G (c.fact 29 rfl))
  cases e
  have b := FunD.bindsA (ps := ["script"]) F fun _ _ _ _ _ _ us hl => match us, hl with | [_], _ => rfl
  exact ⟨fd, fun s v => b s [v] rfl, fun base _ _ => chain (Z := ⟨P, w, K, mg, base⟩) X G c cx pw F⟩
end U
open PySem PySem.W PySem.Calls PyProof.Rows
set_option maxHeartbeats 0 in
theorem PySem.Challenge.cw_onelineatatime_k00_machine_kept_or_refus_holds : PySem.Challenge.rw_onelineatatime_k00_machine_kept_or_refus.Holds := by
  w_on; o_law
  refine HandSHeadRun.head_any (r := U.R) (q := view U.R.prog [61]) (H := U.hk) (ob := U.ob) (M := 60000) (loose := U.loose) (d := HandSHeadRun.topDef U.R.prog 61) (kwd := []) U.ob_eq (by kernel_rfl) (fun s => by kernel_rfl) U.run (by kernel_rfl) (by kernel_rfl) (by kernel_rfl)
    (by rfl) (by first | assumption | decide +kernel) (by decide +kernel) ⟨rfl, rfl, rfl, rfl, rfl, by decide +kernel⟩ ?hw ?hc
  case hw => w_witness2
  case hc =>
    refine L2.walk_ofE (l := PySem.Challenge.rw_onelineatatime_k00_machine_kept_or_refus) (n := 63) (k := 8) (x := "script") (CX := fun outer H s E e s' => ∃ (P : Program) (w : World), L2N.CX P w outer H s E e s') rfl (by decide) (by kernel_rfl) ⟨rfl, by decide, by decide⟩ ?F (fun _ _ _ _ ⟨_, _, z⟩ => U.cxn_no z)
    intro w mg fa h Y G hmg0
    obtain ⟨K, KX, c, cx, pw⟩ := Y
    have hmg : mg ("law" : PySem.Str) = some (.ref fa) := by
      have e : (HandSHeadRun.topDef U.R.prog 61).name = ("law" : PySem.Str) := by kernel_rfl
      rw [← e]
      exact hmg0
    obtain ⟨fd, hb, hF⟩ := U.facts (P := (PySem.Challenge.rw_onelineatatime_k00_machine_kept_or_refus).prog) (w := w) KX G hmg c cx pw
    exact ⟨K, fd, U.spLawU K, KX, hb, fun H a ns hl hO hS => U.start_lawU H a ns hl hO hS, fun base h1 h2 => U.fnOk_cx (hF base h1 h2) fun outer H s E e s' z => ⟨_, _, z⟩⟩
